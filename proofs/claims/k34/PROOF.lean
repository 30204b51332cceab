import PyProof.Rows.All
import Wide.All
import OpenK.AllK
import Wide.FinOn
import HandS.ForMost
import HandS.Wide
import HandS.AnyAll
import HandS.GenList
import HandS.IsInst
import HandS.Conv
import HandS.Style
import HandS.TupAny
import HandS.TupMul
import KE.DataEq
import KE.DataCmp
import KE.SortData
import KE.KTupSum
import HandS.HeadWalk
import KE.DataMinMax
import KE.KRevSl
import PySem.Challenge.RW_onewatcher_k34_plans_and_floors
set_option Elab.async false
set_option linter.all false
set_option maxRecDepth 100000
section
namespace Gx
open PySem PySem.Spec PyProof.Rows L2
/-! ## any / all of a generator expression: its frame -/
/-- the context in which a generator expression's element runs -/
abbrev genC (X : Cx) (s : Shared) (H : Hp) (B : Around) (genv : Env) (fp : List Addr) (pn : List (Addr × Obj)) : Cx :=
  { X with A := B, s_0 := s, H_0 := H, env := genv, outer := X.stack, stack := genv :: X.stack, ex := fp, fn := fun _ => false, pn := pn, xe := fun _ _ => False }
section
variable {X : Cx} {pins : List (Addr × Obj)} {σ : L2.St} {H : Hp} {s : Shared}
theorem gen_start {scope : Scope} {own : List (Str × Nat)} {fp : List Addr} {pn : List (Addr × Obj)} {B : Around} {genv : Env} {h5 : Heap} {G : Array GenState} {tk : Nat} {m : Str → Option Value} (I : Inv X pins σ H s) (ok : BlkOk X.N X.env.scope scope own) (hN : X.N.Nodup) (nc : ∀ y ∈ scope.names, y.2 ≠ .cell)
    (hfp : ∀ b ∈ fp, FpOk X pins H b ∧ b < s.heap.objs.size) (hB : B.frames = some (genv :: X.stack)) (hBh : X.calm = true → B.handled = none)
    (eS : genv.scope = scope) (eL : genv.locals = s.heap.objs.size) (eC : genv.cells = cloFrom X.env.cells scope.names []) (eG : genv.globals = mainGlobals) (eB : genv.builtins = builtinsNs) (eF : genv.frame = some genv.locals)
    (kp : ∀ b o, s.heap.get? b = some o → h5.get? b = some o) (hns : h5.Ns s.heap.objs.size m) (hG : AllBare G) (hpn : ∀ p ∈ pn, h5.get? p.1 = some p.2 ∧ s.heap.objs.size < p.1 ∧ ∀ v, p.2.data ≠ .cell v) :
    Inv (genC X s H B genv fp pn) [] (wipe σ (own.map (·.2))) H { s with gens := G, heap := h5, toks := tk } := by
  have hfree : ∀ y ∈ scope.names, y.2 = .free → ∃ c, X.env.cells.lookup y.1 = some c := fun y hy e => by
    rcases ok.free y hy e with k | k
    · exact I.ok.has _ (.inl k)
    · exact I.ok.has _ (.inr k)
  have cm : ∀ {y c}, genv.cells.lookup y = some c → X.env.cells.lookup y = some c ∧ c < s.heap.objs.size := fun {y c} e => by
    rw [eC] at e
    rcases cloFrom_mem (PySem.mem_of_lookup e) with hm | ⟨h1, rfl⟩
    · cases hm
    · obtain ⟨c, hc⟩ := hfree _ h1 rfl
      rw [hc]
      obtain ⟨w, z⟩ := I.cell _ _ hc
      exact ⟨rfl, z.lt⟩
  have look : ∀ {y}, scope.names.lookup y = some .free → ∃ c, genv.cells.lookup y = some c := fun {y} hl => by
    obtain ⟨c', e'⟩ := mem_lookup (cloFrom_has (cells := X.env.cells) (acc := []) (PySem.mem_of_lookup hl))
    exact ⟨c', by rw [eC]; exact e'⟩
  have kindE : ∀ y, genv.kindOf y = scope.names.lookup y := fun y => by unfold Env.kindOf; rw [eS]
  have ncl : ∀ y, scope.names.lookup y ≠ some .cell := fun y e => nc _ (PySem.mem_of_lookup e) rfl
  have okG : (genC X s H B genv fp pn).Ok := by
    refine ⟨I.ok.mod, by show genv.scope.kind = _; rw [eS]; exact ok.kind, eG, eB, by show s.heap.objs.size ≤ genv.locals; rw [eL]; exact Nat.le_refl _,
      fun y z c e1 e2 => I.ok.inj y z c (cm e1).1 (cm e2).1, fun y hy => ?_, fun y c z _ => absurd z Bool.false_ne_true, hBh, hB, .inr ⟨rfl, eF⟩, fun b hb => ⟨?_, fun y c e z => ?_⟩, I.bs, Nat.le_trans I.ok.bsz I.sz, fun b o e hb => ?_, fun b hb z => ?_, I.stack, I.stkFree⟩
    · have hy : genv.kindOf y = some .cell ∨ genv.kindOf y = some .free := hy
      rw [kindE] at hy
      rcases hy with hy | hy
      · exact absurd hy (ncl y)
      · exact look hy
    · show b ≠ genv.locals
      rw [eL]; exact Nat.ne_of_lt (hfp b hb).2
    · exact (hfp b hb).1.2.2.2.2.1 y c (cm e).1 z
    · rcases (hfp b hb).1.2.2.2.1 with z | z
      · exact I.ok.noex b o e z
      · exact absurd (Nat.lt_of_lt_of_le (Heap.lt_size e) (Nat.le_trans I.ok.bsz z)) (Nat.lt_irrefl _)
    · rcases List.mem_cons.mp (I.stkSub b z) with z | z
      · exact (hfp b hb).1.2.1 z
      · exact (hfp b hb).1.2.2.1 z
  refine ⟨okG, rfl, hG, Un.kept kp, ⟨m, by show Heap.Ns _ genv.locals _; rw [eL]; exact hns, fun i y av e1 e2 e3 => ?_⟩, fun y c e => ?_, ?_, fun y c e => ?_, fun p hp => ?_, I.hok.kept kp, by rw [wipe_length]; exact I.len⟩
  · obtain ⟨e2, hne⟩ := wipe_some e2
    have e3 : Vis genv.scope y := e3
    rw [eS] at e3
    have hf : scope.names.lookup y = some .free := by
      rcases e3 with e3 | e3 | e3
      · rcases ok.own _ (PySem.mem_of_lookup e3) (.inl rfl) with e' | e'
        · obtain ⟨p, hp, hpy⟩ := List.mem_map.mp e'
          have e3 := ok.ix p hp
          have : p.1 = y := hpy
          rw [this] at e3
          exact absurd (List.mem_map.mpr ⟨p, hp, nodup_ix hN e3 e1⟩) hne
        · exact absurd (List.mem_of_getElem? e1) e'
      · exact absurd e3 (ncl y)
      · exact e3
    obtain ⟨m, hn, hl⟩ := I.loc
    have hvis : Vis X.env.scope y := (ok.free _ (PySem.mem_of_lookup hf) rfl).elim (fun k => .inr (.inl k)) (fun k => .inr (.inr k))
    obtain ⟨w, r, q⟩ := hl i y av e1 e2 hvis
    refine ⟨w, r, .inr ⟨.inr (by show genv.kindOf y = _; rw [kindE]; exact hf), ?_⟩⟩
    obtain ⟨c, h1⟩ := look hf
    rcases q with ⟨k, _⟩ | ⟨_, c', e', z⟩
    · have k : X.env.scope.names.lookup y = some .local := k
      rcases ok.free _ (PySem.mem_of_lookup hf) rfl with k' | k' <;> rw [show X.env.scope.names.lookup y = _ from k'] at k <;> cases k
    · rw [(cm h1).1] at e'; cases e'
      exact ⟨c, h1, z.keeps kp⟩
  · obtain ⟨w, z⟩ := I.cell y c (cm e).1
    exact ⟨w, z.keeps kp⟩
  · show H genv.locals = none
    rw [eL]; exact I.hok.fresh (Nat.le_refl _)
  · exact I.freeC y c (cm e).1
  · have hp : p ∈ pn := by
      have hp : p ∈ pn ++ [] := hp
      rwa [List.append_nil] at hp
    obtain ⟨q1, q2, q3⟩ := hpn p hp
    refine ⟨q1, I.hok.fresh (Nat.le_of_lt q2), ?_, ?_, q3⟩
    · show p.1 ≠ genv.locals
      rw [eL]; exact Nat.ne_of_gt q2
    · show p.1 ∉ frs X.stack
      intro z
      have : p.1 < s.heap.objs.size := by
        rcases List.mem_cons.mp (I.stkSub _ z) with z | z
        · rw [z]; exact I.lt
        · obtain ⟨_, o, ho, _⟩ := I.ok.funs.mem z
          exact Nat.lt_of_lt_of_le (Heap.lt_size ho) I.sz
      exact absurd (Nat.lt_trans this q2) (Nat.lt_irrefl _)
/-- other generators' states -/
theorem Inv.regen {G : Array GenState} (I : Inv X pins σ H s) (hG : AllBare G) : Inv X pins σ H { s with gens := G } :=
  ⟨I.ok, I.os, hG, I.base, I.loc, I.cell, I.free, I.freeC, I.pin, I.hok, I.len⟩
/-- the around of the element's code -/
theorem over_gen {A : Around} {elt tg iter : Expr} {ifs : List Expr} {scope : Scope} {pos : Pos} {it acc : Value} {env : Env} : A.over (.compLoop (.GeneratorExp elt [⟨tg, iter, ifs, 0⟩] scope pos) 0 it acc env) [] = A.deeper env := by
  first
    | rfl
    | (obtain ⟨hd, d, fr, gs, u⟩ := A; simp [Around.over, Around.deeper, marksOver, frameCount, unitsOf, envsOf, guardsOf, pushEnvs, pushGuards, Code.envs, Code.env?, Code.isFrame, Code.guards, Code.isGuard, Code.weight, Code.frames, Code.isCreation, Code.isCaller, Code.cUnits])
theorem over_gen0 {A : Around} {elt tg iter : Expr} {ifs : List Expr} {scope : Scope} {pos : Pos} {it acc : Value} {env : Env} : A.over (.compStart (.GeneratorExp elt [⟨tg, iter, ifs, 0⟩] scope pos) 0 it acc env) [] = A.deeper env := by
  first
    | rfl
    | (obtain ⟨hd, d, fr, gs, u⟩ := A; simp [Around.over, Around.deeper, marksOver, frameCount, unitsOf, envsOf, guardsOf, pushEnvs, pushGuards, Code.envs, Code.env?, Code.isFrame, Code.guards, Code.isGuard, Code.weight, Code.frames, Code.isCreation, Code.isCaller, Code.cUnits])
end

/-! ## its loop -/
/-- the generator is woken: nothing but the table of generators may differ -/
def Woke (s s' : Shared) : Prop := ∃ G : Array GenState, AllBare G ∧ G.size = s.gens.size ∧ s' = { s with gens := G }
/-- run out -/
abbrev REn (Fin : Shared → Prop) : GenEnd := fun _ _ r s1 => r = .ok .next ∧ AllBare s1.gens ∧ Fin s1
/-- an element is out: where it is not the last, it may be woken -/
def YEl (last : Bool) (a : Addr) (g : Nat) (Stop : Shared → Prop) : Protocol := fun _ _ v s1 kap =>
  ∃ b : Bool, v = .bool b ∧ AllBare s1.gens ∧ g < s1.gens.size ∧ s1.heap.NoLimit ∧ s1.heap.IsGen a g ∧ (b = last → Stop s1) ∧ (b ≠ last → ∀ s', Woke s1 s' → kap (.send .none) s')
section
variable {X : Cx} {s0 : Shared} {H0 : Hp} {A : Around} {genv : Env} {fp : List Addr} {pn : List (Addr × Obj)} {own : List (Str × Nat)} {σ : L2.St}
/-- what an element's turn has to do -/
def GTurn (last : Bool) (J : It) (g : TG) (tt : TT) (te : TE) (vs : List Nat) (σ : L2.St) (W : Nat → Nat → Hp → Prop) (Fin Stop : Hp → Prop) : Prop := ∀ i m H, W i m H →
  (J.stop i H ∧ Fin H) ∨ (J.go i H ∧ ∃ Nx : Hp → Prop, (∀ H', Nx H' → ∃ m', m' < m ∧ W (i + 1) m' H') ∧ ∀ x H', J.yld i H x H' → g x (wipe σ vs) H' fun σ2 H2 => wipe σ2 vs = wipe σ vs ∧ tt σ2 H2 fun b H3 =>
    if b = true then te σ2 H3 fun y H4 => ∃ r : Bool, y = .bl r ∧ (r = last → Stop H4) ∧ (r ≠ last → Nx H4) else Nx H3)
theorem gen_loop {last : Bool} {a it : Addr} {gn : Nat} {go : Obj} {tn : Nat → Heap → Prop} {J : It} {g : TG} {tt : TT} {te : TE} {W : Nat → Nat → Hp → Prop} {Fin Stop : Hp → Prop} {FinS StopS : Shared → Prop} {elt tg iter : Expr} {ifs : List Expr} {scope : Scope} {pos : Pos}
    (hc : X.calm = true) (hco : genv.scope.isCoroutine = false) (hpn : pn = [(a, go)]) (hpf : ∀ b ∈ fp, ∀ p ∈ pn, p.1 ≠ b) (hgo : ∀ h : Heap, h.get? a = some go → h.IsGen a gn) (T : Turn X.prog X.w X.K tg J fp it tn) (pg : PG (genC X s0 H0 (A.deeper genv) genv fp pn) tg g) (pt : PTs (genC X s0 H0 (A.deeper genv) genv fp pn) ifs tt) (pe : PE (genC X s0 H0 (A.deeper genv) genv fp pn) elt te)
    (turn : GTurn last J g tt te (own.map (·.2)) σ W Fin Stop)
    (hF : ∀ {σ' : L2.St} {H' : Hp} {s' : Shared}, Inv (genC X s0 H0 (A.deeper genv) genv fp pn) [] σ' H' s' → Fin H' → FinS s') (hS : ∀ {σ' : L2.St} {H' : Hp} {s' : Shared}, Inv (genC X s0 H0 (A.deeper genv) genv fp pn) [] σ' H' s' → Stop H' → StopS s') :
    ∀ (m n i : Nat) (sz : Shared) (s : Shared) (H : Hp), m < n → gn < s.gens.size → Inv (genC X s0 H0 (A.deeper genv) genv fp pn) [] (wipe σ (own.map (·.2))) H s → tn i s.heap → (∀ b ∈ fp, H b = none) → W i m H →
      Seg (model X.prog X.w) A (REn FinS) (YEl last a gn StopS) n sz (.compLoop (.GeneratorExp elt [⟨tg, iter, ifs, 0⟩] scope pos) 0 (.ref it) .none genv) ((model X.prog X.w).den (.compLoop (.GeneratorExp elt [⟨tg, iter, ifs, 0⟩] scope pos) 0 (.ref it) .none genv)) [] s := by
  intro m
  induction m using Nat.strongRecOn with
  | ind m ih =>
    intro n i sz s H hmn hgn I st nf w
    have stat : ∀ {σ' : L2.St} {H' : Hp} {s' : Shared}, Inv (genC X s0 H0 (A.deeper genv) genv fp pn) [] σ' H' s' → (∀ b ∈ fp, H' b = none) → ∀ b ∈ fp, FpOk (genC X s0 H0 (A.deeper genv) genv fp pn) [] H' b := fun {σ' H' s'} I' hn b hb =>
      ⟨hn b hb, (I'.ok.exf b hb).1, I'.ok.exfs b hb, .inl hb, fun x c e => (I'.ok.exf b hb).2 x c e, fun p hp' => hpf b hb p (by
        have hp' : p ∈ pn ++ [] := hp'
        rwa [List.append_nil] at hp')⟩
    show Seg _ A _ _ n sz _ ((compTurn (.GeneratorExp elt [⟨tg, iter, ifs, 0⟩] scope pos) 0 (.ref it) .none genv).onRaise (leaving genv)) [] s
    rw [compTurn_gen, Sem.onRaise_eq_wrap]
    refine seg_bind_wrap (wpAny_standAt ?_)
    have eA : A.over (.compLoop (.GeneratorExp elt [⟨tg, iter, ifs, 0⟩] scope pos) 0 (.ref it) .none genv) [] = A.deeper genv := over_gen
    rcases turn i m H w with ⟨stop, qq⟩ | ⟨go', Nx, hNx, step⟩
    · have td := T.done (genC X s0 H0 (A.deeper genv) genv fp pn) rfl rfl rfl hc i [] s _ H (fun _ _ => False) I (stat I nf) st stop
      refine seg_bind_wrap ?_
      rw [eA]
      refine thnF td fun r s6 ⟨hr, I6⟩ => ?_
      subst hr
      exact seg_end (.ok .next) ⟨rfl, I6.bare, hF I6 qq⟩
    · have ti := T.item (genC X s0 H0 (A.deeper genv) genv fp pn) rfl rfl rfl hc i [] s _ H (fun _ _ => False) I (stat I nf) st go'
      refine seg_bind_wrap ?_
      rw [eA]
      refine GenW.wpAny_gsz (n := gn + 1) hgn (thnF ti fun r s6 ⟨u, hr, h6⟩ g6 => ?_)
      subst hr
      refine seg_bind_wrap ?_
      rw [eA]
      refine GenW.wpAny_gsz (n := gn + 1) g6 (thnF h6 fun _ s7 ⟨x, H7, I7, r7, y7, st7, n7⟩ g7 => ?_)
      have I7' := I7.pinned (stat I7 n7) (T.obj _ _ st7)
      refine seg_bind_wrap ?_
      rw [eA]
      refine GenW.wpAny_gsz (n := gn + 1) g7 (thnF (pg.run _ s7 _ H7 x u _ I7' r7 (step x H7 y7)) fun _ s8 ⟨σ8, H8, I8, hw8, q8⟩ g8 => ?_)
      refine seg_bind_wrap ?_
      rw [eA]
      refine GenW.wpAny_gsz (n := gn + 1) g8 (thnF (pt.run _ s8 σ8 H8 _ I8 q8) fun b s9 ⟨H9, I9, q9⟩ g9 => ?_)
      have fin : ∀ {s' : Shared} {H' : Hp}, Inv (genC X s0 H0 (A.deeper genv) genv fp pn) ([] ++ pinsAt fp s7.heap) σ8 H' s' → Nx H' → ∃ m', m' < m ∧ Inv (genC X s0 H0 (A.deeper genv) genv fp pn) [] (wipe σ (own.map (·.2))) H' s' ∧ tn (i + 1) s'.heap ∧ (∀ b ∈ fp, H' b = none) ∧ W (i + 1) m' H' := fun {s' H'} I' nx => by
        obtain ⟨m', hm, w'⟩ := hNx H' nx
        have pin' : ∀ b ∈ fp, ∀ o, s7.heap.get? b = some o → s'.heap.get? b = some o ∧ H' b = none := fun b hb o e =>
          let z := I'.pin (b, o) (List.mem_append_right _ (List.mem_append_right _ (mem_pinsAt hb e)))
          ⟨z.1, z.2.1⟩
        have hl : (wipe σ (own.map (·.2))).length = σ8.length := by rw [← hw8, wipe_length]
        refine ⟨m', hm, (I'.unpinned (pins := [])).weak hl (fun j v e => ?_), T.keep _ _ _ st7 fun b hb o e => (pin' b hb o e).1, fun b hb => ?_, w'⟩
        · rw [← hw8] at e
          exact (wipe_some e).1
        · obtain ⟨o, e, _⟩ := T.obj _ _ st7 b hb
          exact (pin' b hb o e).2
      cases b with
      | false =>
        simp only [Bool.false_eq_true, if_false] at q9 ⊢
        obtain ⟨m', hm, I', st', n', w'⟩ := fin I9 q9
        exact seg_again rfl (ih m' hm n (i + 1) sz s9 _ (by omega) g9 I' st' n' w')
      | true =>
        simp only [if_true] at q9 ⊢
        have hy : ∀ v, yieldOut genv v = yieldValue v := fun v => by simp only [yieldOut, hco, Bool.false_eq_true, if_false]
        simp only [hy]
        rw [Sem.bind_eq_wrap', Sem.bind_eq_wrap', Sem.wrap_wrap, Sem.wrap_wrap]
        refine seg_wrap ?_
        rw [eA]
        refine GenW.wpAny_gsz (n := gn + 1) g9 (thnF (pe.run _ s9 σ8 H9 _ I9 q9) fun z s10 ⟨yv, H10, I10, r10, r, er, hst, hnx⟩ g10 => ?_)
        subst er
        obtain rfl : z = Value.bool r := r10
        obtain ⟨k, rfl⟩ : ∃ k, n = k + 1 := ⟨n - 1, by omega⟩
        have gen := I10.pin (a, go) (by subst hpn; exact List.mem_append_left _ (List.mem_singleton.mpr rfl))
        refine seg_at (seg_yield rfl rfl rfl ⟨r, rfl, I10.bare, g10, I10.nolimit, hgo _ gen.1, fun e => hS (I10.unpinned (pins := [])) (hst e), fun e s' hw => ?_⟩)
        obtain ⟨G, hG, hGs, rfl⟩ := hw
        obtain ⟨m', hm, I', st', n', w'⟩ := fin I10 (hnx e)
        exact seg_again rfl (ih m' hm k (i + 1) _ _ _ (by omega) (by show gn < G.size; rw [hGs]; exact g10) (Inv.regen I' hG) st' n' w')
end

section
variable {P : Program} {w : World} {A : Around}
theorem gen_begin {R : GenEnd} {Y : Protocol} {it : Addr} {n : Nat} {sz s : Shared} {elt tg iter : Expr} {ifs : List Expr} {scope : Scope} {pos : Pos} {genv : Env}
    (self : ∀ (B : Around) (Q : Value → Shared → Prop) (E : Value → Shared → Prop), Q (.ref it) s → wpAny (model P w) B (pyIter (.ref it)) Q E s)
    (loop : Seg (model P w) A R Y n sz (.compLoop (.GeneratorExp elt [⟨tg, iter, ifs, 0⟩] scope pos) 0 (.ref it) .none genv) ((model P w).den (.compLoop (.GeneratorExp elt [⟨tg, iter, ifs, 0⟩] scope pos) 0 (.ref it) .none genv)) [] s) :
    Seg (model P w) A R Y n sz (.compStart (.GeneratorExp elt [⟨tg, iter, ifs, 0⟩] scope pos) 0 (.ref it) .none genv) ((model P w).den (.compStart (.GeneratorExp elt [⟨tg, iter, ifs, 0⟩] scope pos) 0 (.ref it) .none genv)) [] s := by
  show Seg _ A _ _ n sz _ ((compStart (.GeneratorExp elt [⟨tg, iter, ifs, 0⟩] scope pos) 0 (.ref it) .none genv).onRaise (leaving genv)) [] s
  unfold compStart
  rw [Sem.onRaise_eq_wrap]
  show Seg _ A _ _ n sz _ ((ask >>= _).wrap _ _ _ _) [] s
  refine seg_bind_wrap (wpAny_askSetting ?_)
  split
  · exact seg_again rfl loop
  · refine seg_bind_wrap (wpAny_rule ?_)
    show Seg _ A _ _ n sz _ ((standAt iter.pos >>= _).wrap _ _ _ _) [] s
    exact seg_bind_wrap (wpAny_standAt (seg_bind_wrap (self _ _ _ (seg_again rfl loop))))
/-- the turns of any / all -/
theorem any_turns {a : Addr} {gn : Nat} {FinS StopS : Shared → Prop} {R : Result → Shared → Prop} (hh : A.handled = none) (hroom : A.depth < recursionLimit)
    (hF : ∀ s1, FinS s1 → ∀ h' G, AllBare G → (∀ b o, s1.heap.get? b = some o → h'.get? b = some o) → R (.ok (.ret (.bool false))) { s1 with gens := G, heap := h' })
    (hS : ∀ s1 G, StopS s1 → AllBare G → R (.ok (.ret (.bool true))) { s1 with gens := G }) :
    ∀ (n : Nat) (s : Shared) (gs : GenState), AllBare s.gens → s.heap.NoLimit → s.heap.IsGen a gn → s.gens[gn]? = some gs → gs.Goes (model P w) A.in1.in1 (REn FinS) (YEl true a gn StopS) n (.send .none) (s.setGen gn .running) →
      codeAny (model P w) A (.builtin "any.loop" ⟨[.ref a], []⟩) R s := by
  intro n
  induction n with
  | zero =>
    intro s gs hb hl hg hgs hgo
    refine codeAny_builtin F.entry_any_loop ?_
    rw [Around.under_plainId F.plain_any_loop _]
    show wpAny _ A.in1 (pyNext (.ref a) >>= _) _ _ s
    refine wpAny_bind (wpAny_pyNext_genexpQ (P := fun _ _ s1 => AllBare s1.gens ∧ FinS s1) hh hl hroom hg hgs hgo (fun v s1 gs' hb' hv => ?_) fun s1 hp h' hk => ?_)
    · obtain ⟨b, rfl, b1, b2, b3, b4, b5, b6⟩ := hv
      refine wpAny_bind (wpAny_holding (wpAny_truthy_bool ?_))
      refine wpAny_bind (wpAny_letGo ?_)
      cases b with
      | true =>
        simp only [if_true]
        exact wpAny_bind (wpAny_rule (wpAny_pure (hS s1 _ (b5 rfl) (allBare_setGen b1 hb'))))
      | false => exact (b6 (by decide) s1 ⟨s1.gens, b1, rfl, rfl⟩).elim
    · exact wpAny_bind (wpAny_rule (wpAny_pure (hF s1 hp.2 h' _ (allBare_setGen hp.1 rfl) hk)))
  | succ n ih =>
    intro s gs hb hl hg hgs hgo
    refine codeAny_builtin F.entry_any_loop ?_
    rw [Around.under_plainId F.plain_any_loop _]
    show wpAny _ A.in1 (pyNext (.ref a) >>= _) _ _ s
    refine wpAny_bind (wpAny_pyNext_genexpQ (P := fun _ _ s1 => AllBare s1.gens ∧ FinS s1) hh hl hroom hg hgs hgo (fun v s1 gs' hb' hv => ?_) fun s1 hp h' hk => ?_)
    · obtain ⟨b, rfl, b1, b2, b3, b4, b5, b6⟩ := hv
      refine wpAny_bind (wpAny_holding (wpAny_truthy_bool ?_))
      refine wpAny_bind (wpAny_letGo ?_)
      cases b with
      | true =>
        simp only [if_true]
        exact wpAny_bind (wpAny_rule (wpAny_pure (hS s1 _ (b5 rfl) (allBare_setGen b1 hb'))))
      | false =>
        simp only [Bool.false_eq_true, if_false]
        refine wpAny_pure ⟨plainId_quiet F.plain_any_loop _, ih (s1.setGen gn gs') gs' (allBare_setGen b1 hb') b3 b4 (setGen_at b2) (b6 (by decide) _ ⟨((s1.setGen gn gs').setGen gn .running).gens, allBare_setGen (allBare_setGen b1 hb') rfl, ?_, rfl⟩)⟩
        rw [GenW.setGen_size, GenW.setGen_size]
    · exact wpAny_bind (wpAny_rule (wpAny_pure (hF s1 hp.2 h' _ (allBare_setGen hp.1 rfl) hk)))
theorem all_turns {a : Addr} {gn : Nat} {FinS StopS : Shared → Prop} {R : Result → Shared → Prop} (hh : A.handled = none) (hroom : A.depth < recursionLimit)
    (hF : ∀ s1, FinS s1 → ∀ h' G, AllBare G → (∀ b o, s1.heap.get? b = some o → h'.get? b = some o) → R (.ok (.ret (.bool true))) { s1 with gens := G, heap := h' })
    (hS : ∀ s1 G, StopS s1 → AllBare G → R (.ok (.ret (.bool false))) { s1 with gens := G }) :
    ∀ (n : Nat) (s : Shared) (gs : GenState), AllBare s.gens → s.heap.NoLimit → s.heap.IsGen a gn → s.gens[gn]? = some gs → gs.Goes (model P w) A.in1.in1 (REn FinS) (YEl false a gn StopS) n (.send .none) (s.setGen gn .running) →
      codeAny (model P w) A (.builtin "all.loop" ⟨[.ref a], []⟩) R s := by
  intro n
  induction n with
  | zero =>
    intro s gs hb hl hg hgs hgo
    refine codeAny_builtin F.entry_all_loop ?_
    rw [Around.under_plainId F.plain_all_loop _]
    show wpAny _ A.in1 (pyNext (.ref a) >>= _) _ _ s
    refine wpAny_bind (wpAny_pyNext_genexpQ (P := fun _ _ s1 => AllBare s1.gens ∧ FinS s1) hh hl hroom hg hgs hgo (fun v s1 gs' hb' hv => ?_) fun s1 hp h' hk => ?_)
    · obtain ⟨b, rfl, b1, b2, b3, b4, b5, b6⟩ := hv
      refine wpAny_bind (wpAny_holding (wpAny_truthy_bool ?_))
      refine wpAny_bind (wpAny_letGo ?_)
      cases b with
      | false =>
        simp only [Bool.false_eq_true, if_false]
        exact wpAny_bind (wpAny_rule (wpAny_pure (hS s1 _ (b5 rfl) (allBare_setGen b1 hb'))))
      | true => exact (b6 (by decide) s1 ⟨s1.gens, b1, rfl, rfl⟩).elim
    · exact wpAny_bind (wpAny_rule (wpAny_pure (hF s1 hp.2 h' _ (allBare_setGen hp.1 rfl) hk)))
  | succ n ih =>
    intro s gs hb hl hg hgs hgo
    refine codeAny_builtin F.entry_all_loop ?_
    rw [Around.under_plainId F.plain_all_loop _]
    show wpAny _ A.in1 (pyNext (.ref a) >>= _) _ _ s
    refine wpAny_bind (wpAny_pyNext_genexpQ (P := fun _ _ s1 => AllBare s1.gens ∧ FinS s1) hh hl hroom hg hgs hgo (fun v s1 gs' hb' hv => ?_) fun s1 hp h' hk => ?_)
    · obtain ⟨b, rfl, b1, b2, b3, b4, b5, b6⟩ := hv
      refine wpAny_bind (wpAny_holding (wpAny_truthy_bool ?_))
      refine wpAny_bind (wpAny_letGo ?_)
      cases b with
      | false =>
        simp only [Bool.false_eq_true, if_false]
        exact wpAny_bind (wpAny_rule (wpAny_pure (hS s1 _ (b5 rfl) (allBare_setGen b1 hb'))))
      | true =>
        simp only [if_true]
        refine wpAny_pure ⟨plainId_quiet F.plain_all_loop _, ih (s1.setGen gn gs') gs' (allBare_setGen b1 hb') b3 b4 (setGen_at b2) (b6 (by decide) _ ⟨((s1.setGen gn gs').setGen gn .running).gens, allBare_setGen (allBare_setGen b1 hb') rfl, ?_, rfl⟩)⟩
        rw [GenW.setGen_size, GenW.setGen_size]
    · exact wpAny_bind (wpAny_rule (wpAny_pure (hF s1 hp.2 h' _ (allBare_setGen hp.1 rfl) hk)))
end
end Gx
end

section
namespace Gx
open PySem PySem.Spec PyProof.Rows L2
section
variable {P : Program} {w : World} {A : Around}
theorem call_any_gen {a : Addr} {gn n : Nat} {FinS StopS : Shared → Prop} {Q E : Value → Shared → Prop} {s : Shared} {gs : GenState} (hh : A.handled = none) (hroom : A.depth < recursionLimit)
    (hF : ∀ s1, FinS s1 → ∀ h' G, AllBare G → (∀ b o, s1.heap.get? b = some o → h'.get? b = some o) → Q (.bool false) { s1 with gens := G, heap := h' }) (hS : ∀ s1 G, StopS s1 → AllBare G → Q (.bool true) { s1 with gens := G })
    (hb : AllBare s.gens) (hl : s.heap.NoLimit) (hg : s.heap.IsGen a gn) (hgs : s.gens[gn]? = some gs) (hgo : gs.Goes (model P w) A.in1.in1 (REn FinS) (YEl true a gn StopS) n (.send .none) (s.setGen gn .running)) :
    wpAny (model P w) A (call (.builtin "any") [.ref a]) Q E s := by
  refine call_function_tree F.kind_any F.plain_any F.entry_any (F.args_any1 _) ?_
  unfold Builtin.«any»
  refine wpAny_bind (m := oneArg "any" _) (wpAny_pure (wpAny_bind (wpAny_pyIter_gen hg (wpAny_pure ⟨plainId_quiet F.plain_any_loop _, ?_⟩))))
  exact any_turns hh hroom (fun s1 h h' G hG hk => by simpa using hF s1 h h' G hG hk) (fun s1 G h hG => by simpa using hS s1 G h hG) n s gs hb hl hg hgs hgo
theorem call_all_gen {a : Addr} {gn n : Nat} {FinS StopS : Shared → Prop} {Q E : Value → Shared → Prop} {s : Shared} {gs : GenState} (hh : A.handled = none) (hroom : A.depth < recursionLimit)
    (hF : ∀ s1, FinS s1 → ∀ h' G, AllBare G → (∀ b o, s1.heap.get? b = some o → h'.get? b = some o) → Q (.bool true) { s1 with gens := G, heap := h' }) (hS : ∀ s1 G, StopS s1 → AllBare G → Q (.bool false) { s1 with gens := G })
    (hb : AllBare s.gens) (hl : s.heap.NoLimit) (hg : s.heap.IsGen a gn) (hgs : s.gens[gn]? = some gs) (hgo : gs.Goes (model P w) A.in1.in1 (REn FinS) (YEl false a gn StopS) n (.send .none) (s.setGen gn .running)) :
    wpAny (model P w) A (call (.builtin "all") [.ref a]) Q E s := by
  refine call_function_tree F.kind_all F.plain_all F.entry_all (F.args_all1 _) ?_
  unfold Builtin.«all»
  refine wpAny_bind (m := oneArg "all" _) (wpAny_pure (wpAny_bind (wpAny_pyIter_gen hg (wpAny_pure ⟨plainId_quiet F.plain_all_loop _, ?_⟩))))
  exact all_turns hh hroom (fun s1 h h' G hG hk => by simpa using hF s1 h h' G hG hk) (fun s1 G h hG => by simpa using hS s1 G h hG) n s gs hb hl hg hgs hgo
end
/-! ## the expression -/
/-- the table of the def's code objects may have grown -/
def tGen (last : Bool) (P : Addr) (wi : TI) (g : TG) (tt : TT) (te : TE) (vs : List Nat) : TE := fun σ H Q => wi σ H fun J H1 => GxR.TabG H1 P ∧ ∀ H2, GxR.Tabbed P H1 H2 → ∃ W : Nat → Nat → Hp → Prop, (∃ m, W 0 m H2) ∧ GTurn last J g tt te vs σ W (fun H => Q (.bl (!last)) H) fun H => Q (.bl last) H
/-- the generator stands, not begun: what its run promises -/
def Begun (X : Cx) (pins : List (Addr × Obj)) (σ : L2.St) (last : Bool) (Q : VK) (u : Value) (s : Shared) : Prop :=
  ∃ (a : Addr) (gn n : Nat) (gs : GenState), u = .ref a ∧ AllBare s.gens ∧ s.heap.NoLimit ∧ s.heap.IsGen a gn ∧ s.gens[gn]? = some gs ∧
    gs.Goes (model X.prog X.w) X.A.in1.in1 (REn fun s' => ∃ H', Inv X pins σ H' s' ∧ Q (.bl (!last)) H') (YEl last a gn fun s' => ∃ H', Inv X pins σ H' s' ∧ Q (.bl last) H') n (.send .none) (s.setGen gn .running)
section
variable {X : Cx} {pins : List (Addr × Obj)} {σ : L2.St} {H : Hp} {s : Shared}
theorem gen_begun {last : Bool} {c P : Addr} {elt tg iter : Expr} {ifs : List Expr} {gpos : Pos} {scope : Scope} {own : List (Str × Nat)} {wi : TI} {g : TG} {tt : TT} {te : TE} {k : Nat} {Q : VK}
    (hr : Room (k + 3) X.A) (hc : X.calm = true) (TB : GxR.TabB X.base X.mg c P) (hcode : X.env.code = .ref c) (hN : X.N.Nodup) (ok : BlkOk X.N X.env.scope scope own) (nc : ∀ y ∈ scope.names, y.2 ≠ .cell) (h0 : scope.names.lookup (".0" : Str) = some NameKind.local) (hco : scope.isCoroutine = false) (hi : PI X tg iter wi)
    (pg : ∀ (s : Shared) (H : Hp) (B : Around) (cl : List (Str × Addr)) (C : Addr) (code : Value) (fp : List Addr) (pn : List (Addr × Obj)), Room k B → PG (genC X s H B (genEnv scope cl C code builtinsNs X.env) fp pn) tg g)
    (pt : ∀ (s : Shared) (H : Hp) (B : Around) (cl : List (Str × Addr)) (C : Addr) (code : Value) (fp : List Addr) (pn : List (Addr × Obj)), Room k B → PTs (genC X s H B (genEnv scope cl C code builtinsNs X.env) fp pn) ifs tt)
    (pe : ∀ (s : Shared) (H : Hp) (B : Around) (cl : List (Str × Addr)) (C : Addr) (code : Value) (fp : List Addr) (pn : List (Addr × Obj)), Room k B → PE (genC X s H B (genEnv scope cl C code builtinsNs X.env) fp pn) elt te)
    (hs : ∀ v, genFold iter X.env v = pure v) (I : Inv X pins σ H s) (h : tGen last P wi g tt te (own.map (·.2)) σ H Q) :
    wpAny (model X.prog X.w) X.A (eval (.GeneratorExp elt [⟨tg, iter, ifs, 0⟩] scope gpos) X.env) (Begun X pins σ last Q) X.xe s := by
  have hfree : ∀ y ∈ scope.names, y.2 = .free → ∃ c, X.env.cells.lookup y.1 = some c := fun y hy e => by
    rcases ok.free y hy e with k | k
    · exact I.ok.has _ (.inl k)
    · exact I.ok.has _ (.inr k)
  refine wpAny_GeneratorExp_make hco (closure_ok hfree) nc h0 ok.kind (by have := hr.dp; omega) (thn (hi.run pins s σ H _ I h) fun xv s1 hx => thn hx fun itv s2 h2 => ?_) hs
  obtain ⟨it, fp, tn, J, H2, rfl, I2, T, st2, f2, ⟨ps, hP, ht⟩, q⟩ := h2
  refine ⟨I2.nolimit, ?_⟩
  have hPs : s2.heap.get? P = some { cls := .none, data := .fields ps } := I2.hok P _ hP
  have cd : PySem.W.CodeHd s2.heap c P := TB.code.keeps fun b u e => I2.bk b u e
  have cont : ∀ (code : Value) (h3 : Heap) (tk : Nat) (H3 : Hp), GxR.Tabbed P H2 H3 → Inv X pins σ H3 { s2 with heap := h3, toks := tk } → (∀ b o, b ≠ P → s2.heap.get? b = some o → h3.get? b = some o) → s2.heap.objs.size ≤ h3.objs.size →
      wpAny (model X.prog X.w) X.A (builtinsFor X.env.globals X.env.builtins) (fun bi s4 => ∀ h', h'.Ns s4.heap.objs.size (fun y => if y = ".0" then some (.ref it) else none) → Heap.SameBut s4.heap.objs.size (s4.heap.push { cls := .type "frame", data := .dict #[] }) h' →
        Begun X pins σ last Q (.ref h'.objs.size) { s4 with
          gens := s4.gens.push (.fresh (.compStart (.GeneratorExp elt [⟨tg, iter, ifs, 0⟩] scope gpos) 0 (.ref it) .none (genEnv scope (cloFrom X.env.cells scope.names []) s4.heap.objs.size code bi X.env))),
          toks := s4.toks + 1 + 1 + 1,
          heap := h'.push { cls := .type "generator", data := .fields #[.int s4.gens.size 0, .str "<genexpr>" (s4.toks + 1), .str (X.env.qual ++ "<genexpr>") (s4.toks + 1 + 1)] } }) X.xe { s2 with heap := h3, toks := tk } := by
    intro code h3 tk H3 hT I3 hk3 hsz3
    obtain ⟨bm, ob, e1, e2, e3, e4, e5, e6, e7, e8⟩ := TB.bm
    refine wpAny_builtinsFor (m := X.mg) (by rw [I3.ok.glob]; exact I3.mod.glob.keeps I3.bk) e1 e2 (I3.bk _ _ e5) e6 e7 e8 ?_
    generalize hs3 : ({ s2 with heap := h3, toks := tk } : Shared) = s3 at I3 ⊢
    have eh3 : s3.heap = h3 := by rw [← hs3]
    intro h' hns sb
    have z' : h'.objs.size = s3.heap.objs.size + 1 := by rw [sb.1, Heap.size_push]
    have kp : ∀ b o, s3.heap.get? b = some o → h'.get? b = some o := fun b o e => (sb.2 b (Nat.ne_of_lt (Heap.lt_size e))).trans (Heap.get?_push_of_some _ e)
    generalize hgo : ({ cls := .type "generator", data := .fields #[.int s3.gens.size 0, .str "<genexpr>" (s3.toks + 1), .str (X.env.qual ++ "<genexpr>") (s3.toks + 1 + 1)] } : Obj) = go
    have isg : ∀ h : Heap, h.get? h'.objs.size = some go → h.IsGen h'.objs.size s3.gens.size := fun h e => by
      rw [← hgo] at e
      exact ⟨_, _, _, e, rfl, rfl, rfl⟩
    have nfr : go.isFreed = false := by rw [← hgo]; rfl
    have sz : ∀ b ∈ fp, b < s2.heap.objs.size := fun b hb => by
      obtain ⟨o, e, _⟩ := T.obj _ _ st2 b hb
      exact Heap.lt_size e
    have nP : ∀ b ∈ fp, b ≠ P := fun b hb e => by
      have := (f2 b hb).1
      rw [e, hP] at this; cases this
    have f3 : ∀ b ∈ fp, FpOk X pins H3 b ∧ b < s3.heap.objs.size := fun b hb => by
      refine ⟨⟨?_, (f2 b hb).2⟩, by rw [eh3]; exact Nat.lt_of_lt_of_le (sz b hb) hsz3⟩
      rw [hT.2 b (nP b hb)]
      exact (f2 b hb).1
    have st3 : tn 0 s3.heap := T.keep _ _ _ st2 fun b hb o e => by rw [eh3]; exact hk3 b o (nP b hb) e
    generalize hge : genEnv scope (cloFrom X.env.cells scope.names []) s3.heap.objs.size code builtinsNs X.env = genv
    obtain ⟨W, ⟨m, w0⟩, turn⟩ := q H3 hT
    have hrB : Room (k + 1) X.A.in1.in1 := Room.in1 (Room.in1 hr)
    have hrG : Room k (X.A.in1.in1.deeper genv) := Room.deeper hrB genv
    have hfr : (X.A.in1.in1.deeper genv).frames = some (genv :: X.stack) := Around.frames_deeper I.ok.frames
    generalize hs5 : ({ s3 with gens := s3.gens.push (.fresh (.compStart (.GeneratorExp elt [⟨tg, iter, ifs, 0⟩] scope gpos) 0 (.ref it) .none genv)), toks := s3.toks + 1 + 1 + 1, heap := h'.push go } : Shared) = s5
    have eh5 : s5.heap = h'.push go := by rw [← hs5]
    have eg5 : s5.gens = s3.gens.push (.fresh (.compStart (.GeneratorExp elt [⟨tg, iter, ifs, 0⟩] scope gpos) 0 (.ref it) .none genv)) := by rw [← hs5]
    have I5 : Inv (genC X s3 H3 (X.A.in1.in1.deeper genv) genv fp [(h'.objs.size, go)]) [] (wipe σ (own.map (·.2))) H3 s5 := by
      rw [← hs5]
      refine gen_start I3 ok hN nc f3 hfr (fun _ => hrG.hd) (by rw [← hge]; rfl) (by rw [← hge]; rfl) (by rw [← hge]; rfl) (by rw [← hge]; exact I.ok.glob) (by rw [← hge]; rfl) (by rw [← hge]; rfl) (fun b o e => Heap.get?_push_of_some _ (kp b o e)) (hns.push _) (I3.bare.push rfl) fun p hp => ?_
      obtain rfl := List.mem_singleton.mp hp
      refine ⟨Heap.get?_push_size _ nfr, by show s3.heap.objs.size < h'.objs.size; rw [z']; exact Nat.lt_succ_self _, fun v e => ?_⟩
      rw [← hgo] at e
      cases e
    have st5 : tn 0 s5.heap := T.keep _ _ _ st3 fun b _ o e => by rw [eh5]; exact Heap.get?_push_of_some _ (kp b o e)
    have gL : s3.gens.size < s5.gens.size := by rw [eg5, Array.size_push]; exact Nat.lt_succ_self _
    refine ⟨h'.objs.size, s3.gens.size, m + 1, .fresh (.compStart (.GeneratorExp elt [⟨tg, iter, ifs, 0⟩] scope gpos) 0 (.ref it) .none genv), rfl, I5.bare, I5.nolimit, isg _ (by rw [eh5]; exact Heap.get?_push_size _ nfr), by rw [eg5]; exact Array.getElem?_push_size .., rfl, ?_⟩
    have back : ∀ {R : Hp → Prop} {σ' : L2.St} {H' : Hp} {s' : Shared}, Inv (genC X s3 H3 (X.A.in1.in1.deeper genv) genv fp [(h'.objs.size, go)]) [] σ' H' s' → R H' → ∃ H', Inv X pins σ H' s' ∧ R H' := fun {R σ' H' s'} I6 z =>
      ⟨H', I3.call' (ch := fp) I6.os I6.base I6.hok I6.bare fun b hb => ⟨(f3 b hb).1.2.2.2.1, (f3 b hb).1.2.1, (f3 b hb).1.2.2.2.2.1, (f3 b hb).1.2.2.2.2.2⟩, z⟩
    refine gen_begin (fun B Q' E' z => T.self B 0 _ _ _ st5 z) ?_
    refine gen_loop (own := own) (σ := σ) (fp := fp) (J := J) (tn := tn) (W := W) hc (by rw [← hge]; exact hco) rfl (fun b hb p hp => ?_) isg T ?_ ?_ ?_ turn (fun I6 z => back I6 z) (fun I6 z => back I6 z) m (m + 1) 0 _ _ H3 (Nat.lt_succ_self _) ?_ (Inv.regen I5 (allBare_setGen I5.bare rfl)) st5 (fun b hb => (f3 b hb).1.1) w0
    · obtain rfl := List.mem_singleton.mp hp
      show h'.objs.size ≠ b
      rw [z']
      exact Nat.ne_of_gt (Nat.lt_succ_of_lt (f3 b hb).2)
    · have := pg s3 H3 (X.A.in1.in1.deeper genv) (cloFrom X.env.cells scope.names []) s3.heap.objs.size code fp [(h'.objs.size, go)] hrG
      rwa [hge] at this
    · have := pt s3 H3 (X.A.in1.in1.deeper genv) (cloFrom X.env.cells scope.names []) s3.heap.objs.size code fp [(h'.objs.size, go)] hrG
      rwa [hge] at this
    · have := pe s3 H3 (X.A.in1.in1.deeper genv) (cloFrom X.env.cells scope.names []) s3.heap.objs.size code fp [(h'.objs.size, go)] hrG
      rwa [hge] at this
    · rw [GenW.setGen_size]; exact gL
  cases hf : codeAmong gpos ps.toList with
  | none =>
    refine wpAny_genexprCodeX hcode (cd.code hPs ht) (cd.tab hPs) hf fun c' h3 tk hx hge hlt hco' _ htab' _ => ?_
    obtain ⟨o1, vs, f1, tf, fl, tg', inF, tx, tt', op, _, _, _, _, _, _, _, _, _, htr, _⟩ := hco'
    refine cont _ h3 tk (upd H2 P (.tbl (ps ++ #[rawInt gpos.line, rawInt gpos.col, .ref c']))) ⟨⟨_, upd_same, htr⟩, fun b hb => upd_ne hb⟩ ?_ (fun b o hb e => hx b o hb e) (Nat.le_trans hge (Nat.le_of_lt hlt))
    exact GxR.inv_tab (g' := s2.gens) (d' := s2.drawn) (t' := tk) I2 hP (fun b o hb e => hx b o hb e) htab'.2 I2.bare
  | some cv =>
    refine wpAny_genexprCode_hit hcode (cd.code hPs ht) hf ?_
    exact cont cv s2.heap s2.toks H2 ⟨⟨ps, hP, ht⟩, fun _ _ => rfl⟩ I2 (fun b o _ e => e) (Nat.le_refl _)
theorem pe_anyG {c P : Addr} {elt tg iter : Expr} {ifs : List Expr} {p pos gpos : Pos} {scope : Scope} {own : List (Str × Nat)} {wi : TI} {g : TG} {tt : TT} {te : TE} {k : Nat}
    (hr : Room (k + 3) X.A) (hc : X.calm = true) (hg : Gl X "any") (hm : X.mg "any" = none) (TB : GxR.TabB X.base X.mg c P) (hcode : X.env.code = .ref c) (hN : X.N.Nodup) (ok : BlkOk X.N X.env.scope scope own) (nc : ∀ y ∈ scope.names, y.2 ≠ .cell) (h0 : scope.names.lookup (".0" : Str) = some NameKind.local) (hco : scope.isCoroutine = false) (hi : PI X tg iter wi)
    (pg : ∀ (s : Shared) (H : Hp) (B : Around) (cl : List (Str × Addr)) (C : Addr) (code : Value) (fp : List Addr) (pn : List (Addr × Obj)), Room k B → PG (genC X s H B (genEnv scope cl C code builtinsNs X.env) fp pn) tg g)
    (pt : ∀ (s : Shared) (H : Hp) (B : Around) (cl : List (Str × Addr)) (C : Addr) (code : Value) (fp : List Addr) (pn : List (Addr × Obj)), Room k B → PTs (genC X s H B (genEnv scope cl C code builtinsNs X.env) fp pn) ifs tt)
    (pe : ∀ (s : Shared) (H : Hp) (B : Around) (cl : List (Str × Addr)) (C : Addr) (code : Value) (fp : List Addr) (pn : List (Addr × Obj)), Room k B → PE (genC X s H B (genEnv scope cl C code builtinsNs X.env) fp pn) elt te)
    (hs : ∀ v, genFold iter X.env v = pure v := by intro _; rfl)
    (he : starEach [.GeneratorExp elt [⟨tg, iter, ifs, 0⟩] scope gpos] X.env = (false, eval (.GeneratorExp elt [⟨tg, iter, ifs, 0⟩] scope gpos) X.env) :: starEach [] X.env := by rfl) :
    PE X (.Call (.Name "any" p) [.GeneratorExp elt [⟨tg, iter, ifs, 0⟩] scope gpos] [] pos) (tGen true P wi g tt te (own.map (·.2))) := by
  refine ⟨fun pins s σ H Q I h => ?_⟩
  refine wpAny_Call_Name_kw (ld_blt I hg hm boot_any (PyProof.Rows.callWith_builtin1 ?_ he (by rfl)))
  rw [he]
  show wpAny _ _ (spliced ((false, eval (.GeneratorExp elt [⟨tg, iter, ifs, 0⟩] scope gpos) X.env) :: backTo pos (starEach [] X.env))) _ _ s
  refine Calls.spliced_cons (wpAny_mono (gen_begun hr hc TB hcode hN ok nc h0 hco hi pg pt pe hs I h) (fun u s5 z => ?_) fun _ _ e => e)
  obtain ⟨a, gn, n, gs, rfl, b1, b2, b3, b4, b5⟩ := z
  refine Calls.spliced_nil (call_any_gen hr.hd (by have := hr.dp; omega) (fun s1 z h' G hG hk => ?_) (fun s1 G z hG => ?_) b1 b2 b3 b4 b5)
  · obtain ⟨H', I', q⟩ := z
    exact ⟨.bl _, H', (Inv.regen I' hG).kept (t' := s1.toks) hk, rfl, q⟩
  · obtain ⟨H', I', q⟩ := z
    exact ⟨.bl _, H', Inv.regen I' hG, rfl, q⟩
theorem pe_allG {c P : Addr} {elt tg iter : Expr} {ifs : List Expr} {p pos gpos : Pos} {scope : Scope} {own : List (Str × Nat)} {wi : TI} {g : TG} {tt : TT} {te : TE} {k : Nat}
    (hr : Room (k + 3) X.A) (hc : X.calm = true) (hg : Gl X "all") (hm : X.mg "all" = none) (TB : GxR.TabB X.base X.mg c P) (hcode : X.env.code = .ref c) (hN : X.N.Nodup) (ok : BlkOk X.N X.env.scope scope own) (nc : ∀ y ∈ scope.names, y.2 ≠ .cell) (h0 : scope.names.lookup (".0" : Str) = some NameKind.local) (hco : scope.isCoroutine = false) (hi : PI X tg iter wi)
    (pg : ∀ (s : Shared) (H : Hp) (B : Around) (cl : List (Str × Addr)) (C : Addr) (code : Value) (fp : List Addr) (pn : List (Addr × Obj)), Room k B → PG (genC X s H B (genEnv scope cl C code builtinsNs X.env) fp pn) tg g)
    (pt : ∀ (s : Shared) (H : Hp) (B : Around) (cl : List (Str × Addr)) (C : Addr) (code : Value) (fp : List Addr) (pn : List (Addr × Obj)), Room k B → PTs (genC X s H B (genEnv scope cl C code builtinsNs X.env) fp pn) ifs tt)
    (pe : ∀ (s : Shared) (H : Hp) (B : Around) (cl : List (Str × Addr)) (C : Addr) (code : Value) (fp : List Addr) (pn : List (Addr × Obj)), Room k B → PE (genC X s H B (genEnv scope cl C code builtinsNs X.env) fp pn) elt te)
    (hs : ∀ v, genFold iter X.env v = pure v := by intro _; rfl)
    (he : starEach [.GeneratorExp elt [⟨tg, iter, ifs, 0⟩] scope gpos] X.env = (false, eval (.GeneratorExp elt [⟨tg, iter, ifs, 0⟩] scope gpos) X.env) :: starEach [] X.env := by rfl) :
    PE X (.Call (.Name "all" p) [.GeneratorExp elt [⟨tg, iter, ifs, 0⟩] scope gpos] [] pos) (tGen false P wi g tt te (own.map (·.2))) := by
  refine ⟨fun pins s σ H Q I h => ?_⟩
  refine wpAny_Call_Name_kw (ld_blt I hg hm (show bootBuiltins "all" = some (.builtin "all") by decide +kernel) (PyProof.Rows.callWith_builtin1 ?_ he (by rfl)))
  rw [he]
  show wpAny _ _ (spliced ((false, eval (.GeneratorExp elt [⟨tg, iter, ifs, 0⟩] scope gpos) X.env) :: backTo pos (starEach [] X.env))) _ _ s
  refine Calls.spliced_cons (wpAny_mono (gen_begun hr hc TB hcode hN ok nc h0 hco hi pg pt pe hs I h) (fun u s5 z => ?_) fun _ _ e => e)
  obtain ⟨a, gn, n, gs, rfl, b1, b2, b3, b4, b5⟩ := z
  refine Calls.spliced_nil (call_all_gen hr.hd (by have := hr.dp; omega) (fun s1 z h' G hG hk => ?_) (fun s1 G z hG => ?_) b1 b2 b3 b4 b5)
  · obtain ⟨H', I', q⟩ := z
    exact ⟨.bl _, H', (Inv.regen I' hG).kept (t' := s1.toks) hk, rfl, q⟩
  · obtain ⟨H', I', q⟩ := z
    exact ⟨.bl _, H', Inv.regen I' hG, rfl, q⟩
end
end Gx
end

section
namespace Dn
open PySem PySem.Spec L2

/-! ## data, what stands for it -/
abbrev D := PyData
abbrev Ix := Nat → Option Addr

mutual
/-- the value v stands for the data d: its lists and tuples lie in G; a dict of the one pair (n, None) is the store's object n -/
def Rep (K : PySem.W.Frag) (ι : Ix) (G : Hp) : D → V → Prop
  | .none, v => v = .non
  | .bool b, v => v = .bl b
  | .int i, v => v = .int i
  | .str s, v => v = .str s
  | .list ds, v => ∃ a vs, v = .ref a ∧ G a = some (.lst vs) ∧ vs.length ≤ sizeLine ∧ RepL K ι G ds vs
  | .tuple ds, v => ∃ a vs, v = .ref a ∧ SqT K G a vs ∧ vs.length ≤ sizeLine ∧ RepL K ι G ds vs
  | .dict kvs, v => ∃ (n : Nat) (a : Addr), kvs = [(.int n, .none)] ∧ ι n = some a ∧ v = .ref a
def RepL (K : PySem.W.Frag) (ι : Ix) (G : Hp) : List D → List V → Prop
  | [], vs => vs = []
  | d :: ds, vs => ∃ v ws, vs = v :: ws ∧ Rep K ι G d v ∧ RepL K ι G ds ws
end
/-- the store's object n, as data -/
def ob (n : Nat) : D := .dict [(.int n, .none)]

theorem SqT.mono {K : PySem.W.Frag} {G G' : Hp} (hG : ∀ a o, G a = some o → G' a = some o) {a : Addr} {xs : List V} (h : SqT K G a xs) : SqT K G' a xs := by
  rcases h with (h | ⟨o, h⟩) | h
  · exact .inl (.inl (hG _ _ h))
  · exact .inl (.inr ⟨o, hG _ _ h⟩)
  · exact .inr h
mutual
theorem Rep.mono {K : PySem.W.Frag} {ι ι' : Ix} {G G' : Hp} (hι : ∀ n a, ι n = some a → ι' n = some a) (hG : ∀ a o, G a = some o → G' a = some o) : ∀ (d : D) (v : V), Rep K ι G d v → Rep K ι' G' d v
  | .none, _, h => h
  | .bool _, _, h => h
  | .int _, _, h => h
  | .str _, _, h => h
  | .list ds, v, h => by
    rw [Rep] at h ⊢
    obtain ⟨a, vs, e, g, z, r⟩ := h
    exact ⟨a, vs, e, hG _ _ g, z, RepL.mono hι hG ds vs r⟩
  | .tuple ds, v, h => by
    rw [Rep] at h ⊢
    obtain ⟨a, vs, e, g, z, r⟩ := h
    exact ⟨a, vs, e, SqT.mono hG g, z, RepL.mono hι hG ds vs r⟩
  | .dict kvs, v, h => by
    rw [Rep] at h ⊢
    obtain ⟨n, a, e, i, r⟩ := h
    exact ⟨n, a, e, hι _ _ i, r⟩
theorem RepL.mono {K : PySem.W.Frag} {ι ι' : Ix} {G G' : Hp} (hι : ∀ n a, ι n = some a → ι' n = some a) (hG : ∀ a o, G a = some o → G' a = some o) : ∀ (ds : List D) (vs : List V), RepL K ι G ds vs → RepL K ι' G' ds vs
  | [], _, h => by rw [RepL] at h ⊢; exact h
  | d :: ds, vs, h => by
    rw [RepL] at h ⊢
    obtain ⟨v, ws, e, r, q⟩ := h
    exact ⟨v, ws, e, Rep.mono hι hG d v r, RepL.mono hι hG ds ws q⟩
end
section
variable {K : PySem.W.Frag} {ι : Ix} {G : Hp}
theorem RepL.nil : RepL K ι G [] [] := by rw [RepL]
theorem RepL.cons {d : D} {v : V} {ds : List D} {vs : List V} (h : Rep K ι G d v) (t : RepL K ι G ds vs) : RepL K ι G (d :: ds) (v :: vs) := by
  rw [RepL]; exact ⟨v, vs, rfl, h, t⟩
theorem RepL.inv {d : D} {ds : List D} {vs : List V} (h : RepL K ι G (d :: ds) vs) : ∃ v ws, vs = v :: ws ∧ Rep K ι G d v ∧ RepL K ι G ds ws := by
  rw [RepL] at h; exact h
theorem RepL.length : ∀ {ds : List D} {vs : List V}, RepL K ι G ds vs → vs.length = ds.length
  | [], _, h => by rw [RepL] at h; subst h; rfl
  | d :: ds, _, h => by
    obtain ⟨v, ws, rfl, _, q⟩ := RepL.inv h
    rw [List.length_cons, List.length_cons, RepL.length q]
theorem RepL.get : ∀ {ds : List D} {vs : List V} {i : Nat} {d : D}, RepL K ι G ds vs → ds[i]? = some d → ∃ v, vs[i]? = some v ∧ Rep K ι G d v
  | [], _, _, _, _, e => by simp at e
  | d :: ds, _, 0, _, h, e => by
    obtain ⟨v, ws, rfl, r, _⟩ := RepL.inv h
    simp at e; subst e
    exact ⟨v, rfl, r⟩
  | d :: ds, _, i + 1, _, h, e => by
    obtain ⟨v, ws, rfl, _, q⟩ := RepL.inv h
    rw [List.getElem?_cons_succ] at e ⊢
    exact RepL.get q e
theorem RepL.getV {ds : List D} {vs : List V} {i : Nat} {v : V} (h : RepL K ι G ds vs) (e : vs[i]? = some v) : ∃ d, ds[i]? = some d ∧ Rep K ι G d v := by
  have hl := h.length
  have hi : i < vs.length := (List.getElem?_eq_some_iff.mp e).1
  have e2 : ds[i]? = some (ds[i]'(hl ▸ hi)) := List.getElem?_eq_getElem _
  obtain ⟨w, e3, r⟩ := h.get e2
  rw [e] at e3; cases e3
  exact ⟨_, e2, r⟩
theorem RepL.append : ∀ {ds es : List D} {vs ws : List V}, RepL K ι G ds vs → RepL K ι G es ws → RepL K ι G (ds ++ es) (vs ++ ws)
  | [], _, _, _, h, q => by rw [RepL] at h; subst h; exact q
  | d :: ds, _, _, _, h, q => by
    obtain ⟨v, vs, rfl, r, t⟩ := RepL.inv h
    exact RepL.cons r (RepL.append t q)
theorem RepL.set : ∀ {ds : List D} {vs : List V} {d : D} {v : V} (i : Nat), RepL K ι G ds vs → Rep K ι G d v → RepL K ι G (ds.set i d) (vs.set i v)
  | [], _, _, _, _, h, _ => by rw [RepL] at h; subst h; exact .nil
  | d :: ds, _, _, _, 0, h, q => by
    obtain ⟨v, vs, rfl, r, t⟩ := RepL.inv h
    exact .cons q t
  | d :: ds, _, _, _, i + 1, h, q => by
    obtain ⟨v, vs, rfl, r, t⟩ := RepL.inv h
    exact .cons r (RepL.set i t q)
theorem RepL.take : ∀ {ds : List D} {vs : List V} (n : Nat), RepL K ι G ds vs → RepL K ι G (ds.take n) (vs.take n)
  | _, _, 0, _ => .nil
  | [], _, n + 1, h => by rw [RepL] at h; subst h; exact .nil
  | d :: ds, _, n + 1, h => by
    obtain ⟨v, vs, rfl, r, t⟩ := RepL.inv h
    exact .cons r (RepL.take n t)
theorem RepL.drop : ∀ {ds : List D} {vs : List V} (n : Nat), RepL K ι G ds vs → RepL K ι G (ds.drop n) (vs.drop n)
  | _, _, 0, h => h
  | [], _, n + 1, h => by rw [RepL] at h; subst h; exact .nil
  | d :: ds, _, n + 1, h => by
    obtain ⟨v, vs, rfl, r, t⟩ := RepL.inv h
    exact RepL.drop n t
theorem RepL.eraseIdx : ∀ {ds : List D} {vs : List V} (i : Nat), RepL K ι G ds vs → RepL K ι G (ds.eraseIdx i) (vs.eraseIdx i)
  | [], _, _, h => by rw [RepL] at h; subst h; exact .nil
  | d :: ds, _, 0, h => by
    obtain ⟨v, vs, rfl, r, t⟩ := RepL.inv h
    exact t
  | d :: ds, _, i + 1, h => by
    obtain ⟨v, vs, rfl, r, t⟩ := RepL.inv h
    exact .cons r (RepL.eraseIdx i t)
theorem RepL.reverse : ∀ {ds : List D} {vs : List V}, RepL K ι G ds vs → RepL K ι G ds.reverse vs.reverse
  | [], _, h => by rw [RepL] at h; subst h; exact .nil
  | d :: ds, _, h => by
    obtain ⟨v, vs, rfl, r, t⟩ := RepL.inv h
    rw [List.reverse_cons, List.reverse_cons]
    exact (RepL.reverse t).append (.cons r .nil)
theorem RepL.dropLast {ds : List D} {vs : List V} (h : RepL K ι G ds vs) : RepL K ι G ds.dropLast vs.dropLast := by
  rw [List.dropLast_eq_take, List.dropLast_eq_take, h.length]
  exact h.take _
theorem RepL.intsV : ∀ {ns : List Int} {vs : List V}, RepL K ι G (ns.map PyData.int) vs → vs = ns.map V.int
  | [], _, h => by simpa [RepL] using h
  | n :: ns, _, h => by
    obtain ⟨v, vs, rfl, r, t⟩ := RepL.inv (show RepL K ι G (.int n :: ns.map PyData.int) _ from h)
    rw [Rep] at r; subst r
    rw [RepL.intsV t]; rfl
theorem RepL.ints : ∀ (ns : List Int), RepL K ι G (ns.map PyData.int) (ns.map V.int)
  | [] => .nil
  | n :: ns => .cons (by rw [Rep]) (RepL.ints ns)
theorem RepL.blsV : ∀ {ns : List Bool} {vs : List V}, RepL K ι G (ns.map PyData.bool) vs → vs = ns.map V.bl
  | [], _, h => by simpa [RepL] using h
  | n :: ns, _, h => by
    obtain ⟨v, vs, rfl, r, t⟩ := RepL.inv (show RepL K ι G (.bool n :: ns.map PyData.bool) _ from h)
    rw [Rep] at r; subst r
    rw [RepL.blsV t]; rfl
theorem RepL.strsV : ∀ {ns : List Str} {vs : List V}, RepL K ι G (ns.map PyData.str) vs → vs = ns.map V.str
  | [], _, h => by simpa [RepL] using h
  | n :: ns, _, h => by
    obtain ⟨v, vs, rfl, r, t⟩ := RepL.inv (show RepL K ι G (.str n :: ns.map PyData.str) _ from h)
    rw [Rep] at r; subst r
    rw [RepL.strsV t]; rfl
theorem RepL.strs : ∀ (ns : List Str), RepL K ι G (ns.map PyData.str) (ns.map V.str)
  | [] => .nil
  | n :: ns => .cons (by rw [Rep]) (RepL.strs ns)
end

/-! ## the store, the ghost, steps -/
/-- an object of the store -/
inductive WO where
  | lst (xs : List D)
/-- the store: may it grow; its objects -/
structure Wd where
  live : Bool
  objs : List WO
/-- ghost: where the store's objects stand, which addresses are the store's, what is settled (lists and tuples that never change again) -/
structure Gh where
  live : Bool
  ι : Ix
  S : Addr → Prop
  G : Hp
def isLst : HO → Bool
  | .lst _ => true
  | _ => false
def isTup : HO → Bool
  | .tup _ => true
  | _ => false
def isSeq (o : HO) : Bool := isLst o || isTup o
def WO.is (K : PySem.W.Frag) (ι : Ix) (G H : Hp) (a : Addr) : WO → Prop
  | .lst xs => ∃ vs, H a = some (.lst vs) ∧ RepL K ι G xs vs

structure Step (g : Gh) (H : Hp) (g' : Gh) (H' : Hp) : Prop where
  ιm : ∀ n a, g.ι n = some a → g'.ι n = some a
  Gm : ∀ a o, g.G a = some o → g'.G a = some o
  Sm : ∀ a, g.S a → g'.S a
  fr : ∀ a o, H a = some o → ¬ g.S a → H' a = some o
  nS : ∀ a, g'.S a → g.S a ∨ H a = none
  al : ∀ a, H' a = none → H a = none
  nw : ∀ a vs, g'.G a = some (.lst vs) → g.G a = some (.lst vs) ∨ H a = none
  lv : g'.live = g.live
  ιl : g.live = false → g'.ι = g.ι
/-- the tables of code objects that generator expressions write -/
class Tb where
  T : Addr → Prop
variable [Tb]
structure GOk (K : PySem.W.Frag) (g : Gh) (H : Hp) (ω : Wd) : Prop where
  sub : ∀ a o, g.G a = some o → H a = some o
  seq : ∀ a o, g.G a = some o → isSeq o = true
  nS : ∀ a o, g.G a = some o → ¬ g.S a
  inj : ∀ n m a, n < ω.objs.length → m < ω.objs.length → g.ι n = some a → g.ι m = some a → n = m
  inS : ∀ n a, n < ω.objs.length → g.ι n = some a → g.S a
  st : ∀ n o, ω.objs[n]? = some o → ∃ a, g.ι n = some a ∧ o.is K g.ι g.G H a
  sl : ∀ a, g.S a → ∃ o, H a = some o ∧ isTup o = false
  lv : ω.live = true → g.live = true ∧ ∀ n, ω.objs.length ≤ n → g.ι n = none
  tb : ∀ P, Tb.T P → g.S P ∧ GxR.TabG H P ∧ ∀ n, g.ι n ≠ some P

theorem GOk.tbH {K : PySem.W.Frag} {g : Gh} {H : Hp} {ω : Wd} (ok : GOk K g H ω) {H' : Hp} (k : ∀ P ps, g.S P → H P = some (.tbl ps) → H' P = some (.tbl ps)) : ∀ P, Tb.T P → g.S P ∧ GxR.TabG H' P ∧ ∀ n, g.ι n ≠ some P := fun P h => by
  obtain ⟨a, ⟨ps, e, t⟩, c⟩ := ok.tb P h
  exact ⟨a, ⟨ps, k P ps a e, t⟩, c⟩
theorem Step.refl (g : Gh) (H : Hp) : Step g H g H := ⟨fun _ _ h => h, fun _ _ h => h, fun _ h => h, fun _ _ h _ => h, fun _ h => .inl h, fun _ h => h, fun _ _ h => .inl h, rfl, fun _ => rfl⟩
theorem Step.trans {g0 g1 g2 : Gh} {H0 H1 H2 : Hp} (a : Step g0 H0 g1 H1) (b : Step g1 H1 g2 H2) : Step g0 H0 g2 H2 where
  ιm n x h := b.ιm n x (a.ιm n x h)
  Gm n x h := b.Gm n x (a.Gm n x h)
  Sm x h := b.Sm x (a.Sm x h)
  fr x o h hs := b.fr x o (a.fr x o h hs) fun q => by
    rcases a.nS x q with q | q
    · exact hs q
    · rw [h] at q; cases q
  nS x h := by
    rcases b.nS x h with q | q
    · exact a.nS x q
    · exact .inr (a.al x q)
  al x h := a.al x (b.al x h)
  nw x vs h := by
    rcases b.nw x vs h with q | q
    · exact a.nw x vs q
    · exact .inr (a.al x q)
  lv := b.lv.trans a.lv
  ιl h := (b.ιl (a.lv.trans h)).trans (a.ιl h)

section
open Classical
/-- what a def may read besides what is settled: its own lists too -/
noncomputable def Fm (g0 : Gh) (H0 : Hp) (g : Gh) (H : Hp) : Hp := fun a => match H a with
  | some o => if isSeq o = true ∧ ¬ g.S a ∧ (isLst o = true → g0.G a = some o ∨ H0 a = none) then some o else none
  | none => none
end
theorem Fm_some {g0 : Gh} {H0 : Hp} {g : Gh} {H : Hp} {a : Addr} {o : HO} : Fm g0 H0 g H a = some o ↔ H a = some o ∧ isSeq o = true ∧ ¬ g.S a ∧ (isLst o = true → g0.G a = some o ∨ H0 a = none) := by
  unfold Fm
  cases e : H a with
  | none => simp
  | some u =>
    simp only
    split
    · rename_i h
      constructor
      · intro q; cases q; exact ⟨rfl, h⟩
      · intro q; exact q.1
    · rename_i h
      constructor
      · intro q; cases q
      · intro q; cases q.1; exact absurd q.2 h
noncomputable def hb (b : Bool) (g0 : Gh) (H0 : Hp) (g : Gh) (H : Hp) : Hp := if b = true then g.G else Fm g0 H0 g H
theorem hb_true {g0 : Gh} {H0 : Hp} {g : Gh} {H : Hp} : hb true g0 H0 g H = g.G := rfl
theorem hb_false {g0 : Gh} {H0 : Hp} {g : Gh} {H : Hp} : hb false g0 H0 g H = Fm g0 H0 g H := rfl
section
variable {K : PySem.W.Frag} {g0 g g' : Gh} {H0 H H' : Hp} {ω ω' : Wd} {b : Bool}
theorem G_Fm (ok : GOk K g H ω) (st : Step g0 H0 g H) {a : Addr} {o : HO} (h : g.G a = some o) : Fm g0 H0 g H a = some o := by
  refine Fm_some.mpr ⟨ok.sub a o h, ok.seq a o h, ok.nS a o h, fun hl => ?_⟩
  cases o with
  | lst vs => exact st.nw a vs h
  | _ => cases hl
theorem G_hb (ok : GOk K g H ω) (st : Step g0 H0 g H) {a : Addr} {o : HO} (h : g.G a = some o) : hb b g0 H0 g H a = some o := by
  cases b with
  | true => exact h
  | false => exact G_Fm ok st h
theorem hb_sub (ok : GOk K g H ω) {a : Addr} {o : HO} (h : hb b g0 H0 g H a = some o) : H a = some o ∧ isSeq o = true ∧ ¬ g.S a := by
  cases b with
  | true => exact ⟨ok.sub a o h, ok.seq a o h, ok.nS a o h⟩
  | false => obtain ⟨h1, h2, h3, _⟩ := Fm_some.mp h; exact ⟨h1, h2, h3⟩
theorem hb_mono (s : Step g H g' H') {a : Addr} {o : HO} (h : hb b g0 H0 g H a = some o) : hb b g0 H0 g' H' a = some o := by
  cases b with
  | true => exact s.Gm a o h
  | false =>
    obtain ⟨h1, h2, h3, h4⟩ := Fm_some.mp h
    refine Fm_some.mpr ⟨s.fr a o h1 h3, h2, fun q => ?_, h4⟩
    rcases s.nS a q with q | q
    · exact h3 q
    · rw [h1] at q; cases q
/-- the value stands for the data: settled (b), or to be read only -/
def RB (K : PySem.W.Frag) (b : Bool) (g0 : Gh) (H0 : Hp) (g : Gh) (H : Hp) (d : D) (v : V) : Prop := Rep K g.ι (hb b g0 H0 g H) d v
def RBL (K : PySem.W.Frag) (b : Bool) (g0 : Gh) (H0 : Hp) (g : Gh) (H : Hp) (ds : List D) (vs : List V) : Prop := RepL K g.ι (hb b g0 H0 g H) ds vs
theorem RB.mono {d : D} {v : V} (h : RB K b g0 H0 g H d v) (s : Step g H g' H') : RB K b g0 H0 g' H' d v := Rep.mono s.ιm (fun _ _ => hb_mono s) d v h
theorem RBL.mono {d : List D} {v : List V} (h : RBL K b g0 H0 g H d v) (s : Step g H g' H') : RBL K b g0 H0 g' H' d v := RepL.mono s.ιm (fun _ _ => hb_mono s) d v h
theorem RB.weak {d : D} {v : V} (h : RB K true g0 H0 g H d v) (ok : GOk K g H ω) (st : Step g0 H0 g H) : RB K b g0 H0 g H d v := Rep.mono (fun _ _ h => h) (fun _ _ h => G_hb ok st h) d v h
theorem RBL.weak {d : List D} {v : List V} (h : RBL K true g0 H0 g H d v) (ok : GOk K g H ω) (st : Step g0 H0 g H) : RBL K b g0 H0 g H d v := RepL.mono (fun _ _ h => h) (fun _ _ h => G_hb ok st h) d v h
end

/-! ## slots -/
inductive SV where
  | un
  | val (d : D)
  | own (xs : List D)
abbrev Ro := List SV
def SV.is (K : PySem.W.Frag) (H0 : Hp) (g : Gh) (H : Hp) : SV → Option V → Prop
  | .un, _ => True
  | .val d, o => ∃ v, o = some v ∧ Rep K g.ι g.G d v
  | .own xs, o => ∃ p vs, o = some (.ref p) ∧ H p = some (.lst vs) ∧ g.G p = none ∧ ¬ g.S p ∧ H0 p = none ∧ vs.length ≤ sizeLine ∧ RepL K g.ι g.G xs vs
structure Slots (K : PySem.W.Frag) (H0 : Hp) (g : Gh) (H : Hp) (ρ : Ro) (σ : St) : Prop where
  len : σ.length = ρ.length
  at_ : ∀ (i : Nat) (s : SV) (o : Option V), ρ[i]? = some s → σ[i]? = some o → s.is K H0 g H o
  ap : ∀ (i j : Nat) (xs ys : List D) (p : Addr), ρ[i]? = some (.own xs) → ρ[j]? = some (.own ys) → σ[i]? = some (some (.ref p)) → σ[j]? = some (some (.ref p)) → i = j
section
variable {K : PySem.W.Frag} {g0 g g' : Gh} {H0 H H' : Hp} {ω ω' : Wd} {b : Bool} {ρ : Ro} {σ : St}
theorem SV.is.step {s : SV} {o : Option V} (h : s.is K H0 g H o) (st : Step g H g' H') (ok : GOk K g' H' ω') : s.is K H0 g' H' o := by
  cases s with
  | un => trivial
  | val d => obtain ⟨v, e, r⟩ := h; exact ⟨v, e, r.mono st.ιm st.Gm⟩
  | own xs =>
    obtain ⟨p, vs, e, hp, hg, hs, h0, z, r⟩ := h
    have hp' := st.fr p _ hp hs
    refine ⟨p, vs, e, hp', ?_, fun q => ?_, h0, z, r.mono st.ιm st.Gm⟩
    · cases q : g'.G p with
      | none => rfl
      | some o =>
        have e2 := ok.sub p o q
        rw [hp'] at e2; cases e2
        rcases st.nw p vs q with z | z
        · rw [hg] at z; cases z
        · rw [hp] at z; cases z
    · rcases st.nS p q with z | z
      · exact hs z
      · rw [hp] at z; cases z
theorem Slots.step (h : Slots K H0 g H ρ σ) (st : Step g H g' H') (ok : GOk K g' H' ω') : Slots K H0 g' H' ρ σ :=
  ⟨h.len, fun i s o e1 e2 => (h.at_ i s o e1 e2).step st ok, h.ap⟩
theorem Slots.get (h : Slots K H0 g H ρ σ) {i : Nat} {s : SV} (e : ρ[i]? = some s) : ∃ o, σ[i]? = some o ∧ s.is K H0 g H o := by
  have hi : i < ρ.length := (List.getElem?_eq_some_iff.mp e).1
  have e2 : σ[i]? = some (σ[i]'(h.len ▸ hi)) := List.getElem?_eq_getElem _
  exact ⟨_, e2, h.at_ i s _ e e2⟩
/-- a slot gets a value that is no list of one's own -/
theorem Slots.set (h : Slots K H0 g H ρ σ) (i : Nat) {s : SV} {o : Option V} (hs : s.is K H0 g H o) (hn : ∀ xs, s ≠ .own xs) : Slots K H0 g H (ρ.set i s) (σ.set i o) := by
  refine ⟨by simp [h.len], fun j s' o' e1 e2 => ?_, fun j k xs ys p e1 e2 e3 e4 => ?_⟩
  · by_cases hj : i = j
    · subst hj
      rw [List.getElem?_set] at e1 e2
      simp only [if_true] at e1 e2
      split at e1
      · cases e1
        split at e2
        · cases e2; exact hs
        · cases e2
      · cases e1
    · rw [List.getElem?_set_ne hj] at e1 e2
      exact h.at_ j s' o' e1 e2
  · have hj : i ≠ j := fun z => by
      subst z
      rw [List.getElem?_set] at e1
      simp only [if_true] at e1
      split at e1
      · exact hn xs (Option.some.inj e1)
      · cases e1
    have hk : i ≠ k := fun z => by
      subst z
      rw [List.getElem?_set] at e2
      simp only [if_true] at e2
      split at e2
      · exact hn ys (Option.some.inj e2)
      · cases e2
    rw [List.getElem?_set_ne hj] at e1 e3
    rw [List.getElem?_set_ne hk] at e2 e4
    exact h.ap j k xs ys p e1 e2 e3 e4
/-- a slot gets a list of one's own that stands in no other slot -/
theorem Slots.setOwn (h : Slots K H0 g H ρ σ) (i : Nat) {zs : List D} {q : Addr} (hs : (SV.own zs).is K H0 g H (some (.ref q))) (hn : ∀ j xs, j ≠ i → ρ[j]? = some (.own xs) → σ[j]? ≠ some (some (.ref q))) :
    Slots K H0 g H (ρ.set i (.own zs)) (σ.set i (some (.ref q))) := by
  refine ⟨by simp [h.len], fun j s' o' e1 e2 => ?_, fun j k xs ys p e1 e2 e3 e4 => ?_⟩
  · by_cases hj : i = j
    · subst hj
      rw [List.getElem?_set] at e1 e2
      simp only [if_true] at e1 e2
      split at e1
      · cases e1
        split at e2
        · cases e2; exact hs
        · cases e2
      · cases e1
    · rw [List.getElem?_set_ne hj] at e1 e2
      exact h.at_ j s' o' e1 e2
  · by_cases hj : i = j
    · by_cases hk : i = k
      · omega
      · subst hj
        rw [List.getElem?_set_ne hk] at e2 e4
        rw [List.getElem?_set] at e3
        simp only [if_true] at e3
        split at e3
        · cases e3
          exact absurd e4 (hn k ys (Ne.symm hk) e2)
        · cases e3
    · by_cases hk : i = k
      · subst hk
        rw [List.getElem?_set_ne hj] at e1 e3
        rw [List.getElem?_set] at e4
        simp only [if_true] at e4
        split at e4
        · cases e4
          exact absurd e3 (hn j xs (Ne.symm hj) e1)
        · cases e4
      · rw [List.getElem?_set_ne hj] at e1 e3
        rw [List.getElem?_set_ne hk] at e2 e4
        exact h.ap j k xs ys p e1 e2 e3 e4
end

/-! ## a new object -/
def Gh.add (g : Gh) (p : Addr) (o : HO) : Gh := { g with G := upd g.G p o }
section
variable {K : PySem.W.Frag} {g0 g g' : Gh} {H0 H H' : Hp} {ω ω' : Wd} {b : Bool} {ρ : Ro} {σ : St}
theorem WO.is.mono {o : WO} {a : Addr} {ι ι' : Ix} {G G' : Hp} (h : o.is K ι G H a) (hι : ∀ n x, ι n = some x → ι' n = some x) (hG : ∀ x o, G x = some o → G' x = some o) (hH : H' a = H a) : o.is K ι' G' H' a := by
  cases o with
  | lst xs => obtain ⟨vs, e, r⟩ := h; exact ⟨vs, hH.trans e, r.mono hι hG⟩
theorem upd_keep {p : Addr} {o u : HO} {a : Addr} (hp : H p = none) (h : H a = some u) : upd H p o a = some u := by
  rw [upd_ne (ne_of_none h hp)]; exact h
theorem WO.is.there {o : WO} {a : Addr} {ι : Ix} {G : Hp} (h : o.is K ι G H a) : ∃ u, H a = some u := by
  cases o with
  | lst xs => obtain ⟨vs, e, _⟩ := h; exact ⟨_, e⟩
theorem alloc (ok : GOk K g H ω) {p : Addr} {o : HO} (hp : H p = none) (ho : isSeq o = true) : Step g H (g.add p o) (upd H p o) ∧ GOk K (g.add p o) (upd H p o) ω := by
  have nG : g.G p = none := by
    cases q : g.G p with
    | none => rfl
    | some u => rw [ok.sub p u q] at hp; cases hp
  have nSp : ¬ g.S p := fun q => by obtain ⟨u, e, _⟩ := ok.sl p q; rw [hp] at e; cases e
  refine ⟨⟨fun _ _ h => h, fun a u h => upd_keep nG h, fun _ h => h, fun a u h _ => upd_keep hp h, fun _ h => .inl h, fun a h => ?_, fun a vs h => ?_, rfl, fun _ => rfl⟩, ⟨fun a u h => ?_, fun a u h => ?_, fun a u h => ?_, ok.inj, ok.inS, fun n u e => ?_, fun a h => ?_, ok.lv, ok.tbH fun P ps _ e => upd_keep hp e⟩⟩
  · by_cases hap : a = p
    · subst hap; exact hp
    · rw [upd_ne hap] at h; exact h
  · by_cases hap : a = p
    · subst hap; exact .inr hp
    · exact .inl (by rw [Gh.add] at h; simp only at h; rw [upd_ne hap] at h; exact h)
  · by_cases hap : a = p
    · subst hap
      rw [Gh.add] at h; simp only at h; rw [upd_same] at h ⊢; exact h
    · rw [Gh.add] at h; simp only at h; rw [upd_ne hap] at h ⊢; exact ok.sub a u h
  · by_cases hap : a = p
    · subst hap
      rw [Gh.add] at h; simp only at h; rw [upd_same] at h; cases h; exact ho
    · rw [Gh.add] at h; simp only at h; rw [upd_ne hap] at h; exact ok.seq a u h
  · by_cases hap : a = p
    · subst hap; exact nSp
    · rw [Gh.add] at h; simp only at h; rw [upd_ne hap] at h; exact ok.nS a u h
  · obtain ⟨a, ia, h⟩ := ok.st n u e
    obtain ⟨z, ez⟩ := h.there
    exact ⟨a, ia, h.mono (fun _ _ h => h) (fun x w q => upd_keep nG q) (upd_ne (ne_of_none ez hp))⟩
  · obtain ⟨u, e, t⟩ := ok.sl a h
    exact ⟨u, upd_keep hp e, t⟩
/-- a new list that is not settled -/
theorem allocOwn (ok : GOk K g H ω) {p : Addr} {o : HO} (hp : H p = none) : Step g H g (upd H p o) ∧ GOk K g (upd H p o) ω := by
  refine ⟨⟨fun _ _ h => h, fun _ _ h => h, fun _ h => h, fun a u h _ => upd_keep hp h, fun _ h => .inl h, fun a h => ?_, fun a vs h => .inl h, rfl, fun _ => rfl⟩, ⟨fun a u h => upd_keep hp (ok.sub a u h), ok.seq, ok.nS, ok.inj, ok.inS, fun n u e => ?_, fun a h => ?_, ok.lv, ok.tbH fun P ps _ e => upd_keep hp e⟩⟩
  · by_cases hap : a = p
    · subst hap; exact hp
    · rw [upd_ne hap] at h; exact h
  · obtain ⟨a, ia, h⟩ := ok.st n u e
    obtain ⟨z, ez⟩ := h.there
    exact ⟨a, ia, h.mono (fun _ _ h => h) (fun _ _ h => h) (upd_ne (ne_of_none ez hp))⟩
  · obtain ⟨u, e, t⟩ := ok.sl a h
    exact ⟨u, upd_keep hp e, t⟩
theorem hb_new (ok : GOk K g H ω) (st : Step g0 H0 g H) {p : Addr} {o : HO} (hp : H p = none) (ho : isSeq o = true) : hb b g0 H0 (g.add p o) (upd H p o) p = some o := by
  cases b with
  | true => exact upd_same
  | false =>
    have nSp : ¬ (g.add p o).S p := fun q => by obtain ⟨u, e, _⟩ := ok.sl p q; rw [hp] at e; cases e
    exact Fm_some.mpr ⟨upd_same, ho, nSp, fun _ => .inr (st.al p hp)⟩
end
section
variable {K : PySem.W.Frag} {g0 g g' : Gh} {H0 H H' : Hp} {ω ω' : Wd} {b : Bool} {ρ : Ro} {σ : L2.St}
/-- a list that is not settled is changed -/
theorem mutOk (ok : GOk K g H ω) {p : Addr} {o u : HO} (hp : H p = some u) (hG : g.G p = none) (hS : ¬ g.S p) : GOk K g (upd H p o) ω := by
  have ne : ∀ a v, g.G a = some v → a ≠ p := fun a v e z => by subst z; rw [hG] at e; cases e
  refine ⟨fun a v h => by rw [upd_ne (ne a v h)]; exact ok.sub a v h, ok.seq, ok.nS, ok.inj, ok.inS, fun n v e => ?_, fun a h => ?_, ok.lv, ok.tbH fun P ps hs e => (upd_ne (fun (z : P = p) => hS (by rw [← z]; exact hs))).trans e⟩
  · obtain ⟨a, ia, h⟩ := ok.st n v e
    have hn : n < ω.objs.length := (List.getElem?_eq_some_iff.mp e).1
    have nap : a ≠ p := fun z => by subst z; exact hS (ok.inS n a hn ia)
    exact ⟨a, ia, h.mono (fun _ _ h => h) (fun _ _ h => h) (upd_ne nap)⟩
  · obtain ⟨v, e, t⟩ := ok.sl a h
    have nap : a ≠ p := fun z => by subst z; exact hS h
    exact ⟨v, by rw [upd_ne nap]; exact e, t⟩
theorem mutStep (st : Step g0 H0 g H) {p : Addr} {o : HO} (h0 : H0 p = none) : Step g0 H0 g (upd H p o) := by
  refine ⟨st.ιm, st.Gm, st.Sm, fun a v h hs => ?_, st.nS, fun a h => ?_, st.nw, st.lv, st.ιl⟩
  · rw [upd_ne (ne_of_none h h0)]; exact st.fr a v h hs
  · by_cases hap : a = p
    · subst hap; exact h0
    · rw [upd_ne hap] at h; exact st.al a h
end
end Dn
end

section
namespace Dn
open PySem PySem.Spec L2
variable [Tb]

/-! ## denotations of expressions, and their soundness -/
abbrev DE := Ro → Wd → Option (D × Wd)
abbrev DT := Ro → Wd → Option (Bool × Wd)
abbrev DA := Ro → Wd → Option (List D × Wd)

def Snd (K : PySem.W.Frag) (b : Bool) (t : TE) (f : DE) : Prop :=
  ∀ (g0 : Gh) (H0 : Hp) (g : Gh) (H : Hp) (ρ : Ro) (ω : Wd) (σ : L2.St) (Q : VK) (d : D) (ω' : Wd), GOk K g H ω → Step g0 H0 g H → Slots K H0 g H ρ σ → f ρ ω = some (d, ω') →
    (∀ v g' H', Step g H g' H' → GOk K g' H' ω' → RB K b g0 H0 g' H' d v → Q v H') → t σ H Q
def SndT (K : PySem.W.Frag) (t : TT) (f : DT) : Prop :=
  ∀ (g0 : Gh) (H0 : Hp) (g : Gh) (H : Hp) (ρ : Ro) (ω : Wd) (σ : L2.St) (Q : Bool → Hp → Prop) (d : Bool) (ω' : Wd), GOk K g H ω → Step g0 H0 g H → Slots K H0 g H ρ σ → f ρ ω = some (d, ω') →
    (∀ g' H', Step g H g' H' → GOk K g' H' ω' → Q d H') → t σ H Q
def SndA (K : PySem.W.Frag) (b : Bool) (t : TA) (f : DA) : Prop :=
  ∀ (g0 : Gh) (H0 : Hp) (g : Gh) (H : Hp) (ρ : Ro) (ω : Wd) (σ : L2.St) (Q : List V → Hp → Prop) (ds : List D) (ω' : Wd), GOk K g H ω → Step g0 H0 g H → Slots K H0 g H ρ σ → f ρ ω = some (ds, ω') →
    (∀ vs g' H', Step g H g' H' → GOk K g' H' ω' → RBL K b g0 H0 g' H' ds vs → Q vs H') → t σ H Q
/-- a list of one's own comes out -/
def SndN (K : PySem.W.Frag) (t : TE) (f : DA) : Prop :=
  ∀ (g0 : Gh) (H0 : Hp) (g : Gh) (H : Hp) (ρ : Ro) (ω : Wd) (σ : L2.St) (Q : VK) (ds : List D) (ω' : Wd), GOk K g H ω → Step g0 H0 g H → Slots K H0 g H ρ σ → f ρ ω = some (ds, ω') →
    (∀ p vs g' H', Step g H g' H' → GOk K g' H' ω' → H p = none → H' p = some (.lst vs) → g'.G p = none → ¬ g'.S p → vs.length ≤ sizeLine → RepL K g'.ι g'.G ds vs → Q (.ref p) H') → t σ H Q
structure EX (X : Cx) (b : Bool) (e : Expr) (t : TE) (f : DE) : Prop where
  pe : PE X e t
  sn : Snd X.K b t f
structure ET (X : Cx) (e : Expr) (t : TT) (f : DT) : Prop where
  pe : PT X e t
  sn : SndT X.K t f
structure EW (X : Cx) (e : Expr) (t : TT) (f : DT) : Prop where
  pe : PW X e t
  sn : SndT X.K t f
structure EA (X : Cx) (b : Bool) (es : List Expr) (t : TA) (f : DA) : Prop where
  pe : PA X es t
  sn : SndA X.K b t f
structure EN (X : Cx) (e : Expr) (t : TE) (f : DA) : Prop where
  pe : PE X e t
  sn : SndN X.K t f
theorem EW.t {X : Cx} {e : Expr} {t : TT} {f : DT} (h : EW X e t f) : ET X e t f := ⟨h.pe.pt, h.sn⟩

section
variable {X : Cx} {K : PySem.W.Frag} {b b' : Bool} {t ta tb tc : TE} {f fa fb fc : DE} {e ea eb ec : Expr} {pos : Pos}
theorem EX.weak (h : EX X true e t f) : EX X false e t f := ⟨h.pe, fun g0 H0 g H ρ ω σ Q d ω' ok st sl e k => h.sn g0 H0 g H ρ ω σ Q d ω' ok st sl e fun v g' H' s ok' r => k v g' H' s ok' (r.weak ok' (st.trans s))⟩
theorem EA.weak {es : List Expr} {t : TA} {f : DA} (h : EA X true es t f) : EA X false es t f := ⟨h.pe, fun g0 H0 g H ρ ω σ Q d ω' ok st sl e k => h.sn g0 H0 g H ρ ω σ Q d ω' ok st sl e fun v g' H' s ok' r => k v g' H' s ok' (r.weak ok' (st.trans s))⟩

/-! ### names, constants -/
def eVar (i : Nat) : DE := fun ρ ω => match ρ[i]? with
  | some (.val d) => some (d, ω)
  | _ => none
def eVarB (i : Nat) : DE := fun ρ ω => match ρ[i]? with
  | some (.own xs) => some (.list xs, ω)
  | _ => none
def eC (d : D) : DE := fun _ ω => some (d, ω)
theorem sn_var (i : Nat) : Snd K true (tVar i) (eVar i) := by
  intro g0 H0 g H ρ ω σ Q d ω' ok st sl e k
  unfold eVar at e
  split at e
  · rename_i d' h
    cases e
    obtain ⟨o, h1, v, rfl, r⟩ := sl.get h
    exact ⟨v, h1, k v g H (.refl _ _) ok r⟩
  · cases e
theorem ex_var {i : Nat} {x : Str} {pos : Pos} (hN : X.N[i]? = some x := by rfl) (hv : Vis X.env.scope x := by first | exact Or.inl rfl | exact Or.inr (Or.inl rfl) | exact Or.inr (Or.inr rfl)) (hd : (x == ("__debug__" : Str)) = false := by decide)
    (hcd : (x == ("__classdict__" : Str)) = false := by decide) : EX X true (.Name x pos) (tVar i) (eVar i) := ⟨pe_var hN hv hd hcd, sn_var i⟩
theorem sn_varB (i : Nat) : Snd K false (tVar i) (eVarB i) := by
  intro g0 H0 g H ρ ω σ Q d ω' ok st sl e k
  unfold eVarB at e
  split at e
  · rename_i xs h
    cases e
    obtain ⟨o, h1, p, vs, rfl, hp, hG, hS, h0, z, r⟩ := sl.get h
    refine ⟨_, h1, k _ g H (.refl _ _) ok ?_⟩
    refine (show Rep K g.ι (Fm g0 H0 g H) (.list xs) (.ref p) from ?_)
    rw [Rep]
    exact ⟨p, vs, rfl, Fm_some.mpr ⟨hp, rfl, hS, fun _ => .inr h0⟩, z, r.mono (fun _ _ h => h) fun _ _ h => G_Fm ok st h⟩
  · cases e
theorem ex_varB {i : Nat} {x : Str} {pos : Pos} (hN : X.N[i]? = some x := by rfl) (hv : Vis X.env.scope x := by first | exact Or.inl rfl | exact Or.inr (Or.inl rfl) | exact Or.inr (Or.inr rfl)) (hd : (x == ("__debug__" : Str)) = false := by decide)
    (hcd : (x == ("__classdict__" : Str)) = false := by decide) : EX X false (.Name x pos) (tVar i) (eVarB i) := ⟨pe_var hN hv hd hcd, sn_varB i⟩
theorem sn_c {d : D} {v : V} (h : ∀ ι G, Rep K ι G d v) : Snd K b (tC v) (eC d) := by
  intro g0 H0 g H ρ ω σ Q d' ω' ok st sl e k
  cases e
  exact k v g H (.refl _ _) ok (h _ _)
theorem ex_int {i : Int} {j} : EX X true (.Constant (.int i) j pos) (tC (.int i)) (eC (.int i)) := ⟨pe_int, sn_c fun _ _ => by rw [Rep]⟩
theorem ex_bl {i : Bool} {j} : EX X true (.Constant (.bool i) j pos) (tC (.bl i)) (eC (.bool i)) := ⟨pe_bl, sn_c fun _ _ => by rw [Rep]⟩
theorem ex_non {j} : EX X true (.Constant .none j pos) (tC .non) (eC .none) := ⟨pe_non, sn_c fun _ _ => by rw [Rep]⟩
theorem ex_str {i : Str} {j} : EX X true (.Constant (.str i) j pos) (tC (.str i)) (eC (.str i)) := ⟨pe_str, sn_c fun _ _ => by rw [Rep]⟩
/-- a module's constant that is a scalar -/
theorem ex_glob {x : Str} {v : V} {u : Value} {d : D} (hm : X.mg x = some u) (r : RelV v u) (h : ∀ ι G, Rep X.K ι G d v) (hg : Gl X x := by rfl) (hd : (x == ("__debug__" : Str)) = false := by decide) : EX X true (.Name x pos) (tC v) (eC d) :=
  ⟨pe_glob hg hm r hd, sn_c h⟩

/-! ### two operands -/
def OpS (K : PySem.W.Frag) (b b' : Bool) (r : R2) (op : D → D → Option D) : Prop :=
  ∀ (g0 : Gh) (H0 : Hp) (g : Gh) (H : Hp) (ω : Wd) (x y : D) (v w : V) (d : D) (Q : VK), GOk K g H ω → Step g0 H0 g H → RB K b g0 H0 g H x v → RB K b g0 H0 g H y w → op x y = some d →
    (∀ u g' H', Step g H g' H' → GOk K g' H' ω → RB K b' g0 H0 g' H' d u → Q u H') → r v w H Q
def eBin (op : D → D → Option D) (f g : DE) : DE := fun ρ ω => match f ρ ω with
  | none => none
  | some (x, ω1) => match g ρ ω1 with
    | none => none
    | some (y, ω2) => match op x y with
      | none => none
      | some z => some (z, ω2)
theorem sn_bin {r : R2} {op : D → D → Option D} (hs : OpS K b b' r op) (ha : Snd K b ta fa) (hb : Snd K b tb fb) : Snd K b' (tOp r ta tb) (eBin op fa fb) := by
  intro g0 H0 g H ρ ω σ Q d ω' ok st sl e k
  unfold eBin at e
  split at e
  · cases e
  rename_i x ω1 e1
  split at e
  · cases e
  rename_i y ω2 e2
  split at e
  · cases e
  rename_i z e3
  cases e
  refine ha g0 H0 g H ρ ω σ _ x ω1 ok st sl e1 fun v g1 H1 s1 ok1 r1 => ?_
  refine hb g0 H0 g1 H1 ρ ω1 σ _ y ω' ok1 (st.trans s1) (sl.step s1 ok1) e2 fun w g2 H2 s2 ok2 r2 => ?_
  exact hs g0 H0 g2 H2 ω' x y v w d Q ok2 ((st.trans s1).trans s2) (r1.mono s2) r2 e3 fun u g' H' s3 ok3 r3 => k u g' H' ((s1.trans s2).trans s3) ok3 r3
theorem ex_bin {o : Operator} {r : R2} {op : D → D → Option D} (ho : OpR X (binaryOp o) r) (hs : OpS X.K b b' r op) (ha : EX X b ea ta fa) (hb : EX X b eb tb fb) : EX X b' (.BinOp ea o eb pos) (tOp r ta tb) (eBin op fa fb) :=
  ⟨pe_op ho ha.pe hb.pe, sn_bin hs ha.sn hb.sn⟩
theorem ex_cmp {o : CmpOp} {r : R2} {op : D → D → Option D} (ho : OpR X (compareOp o) r) (hs : OpS X.K b b' r op) (ha : EX X b ea ta fa) (hb : EX X b eb tb fb) (hm : behindInMarks o eb = false := by first | exact nobehind _ (by decide) (by decide) | rfl) : EX X b' (.Compare ea [o] [eb] pos) (tOp r ta tb) (eBin op fa fb) :=
  ⟨pe_cmpR ho ha.pe hb.pe hm, sn_bin hs ha.sn hb.sn⟩
/-- a value that is a bool, as a test -/
def tOfE (f : DE) : DT := fun ρ ω => match f ρ ω with
  | some (.bool c, ω1) => some (c, ω1)
  | _ => none
theorem sn_test {tt : TT} (h : ∀ σ H Q, t σ H (fun x H1 => ∃ c, x = .bl c ∧ Q c H1) → tt σ H Q) (hs : Snd K b t f) : SndT K tt (tOfE f) := by
  intro g0 H0 g H ρ ω σ Q d ω' ok st sl e k
  unfold tOfE at e
  split at e
  · rename_i c ω1 e1
    cases e
    refine h σ H Q (hs g0 H0 g H ρ ω σ _ _ ω' ok st sl e1 fun v g1 H1 s1 ok1 r1 => ?_)
    have r2 : Rep K g1.ι (hb b g0 H0 g1 H1) (.bool d) v := r1
    rw [Rep] at r2
    exact ⟨d, r2, k g1 H1 s1 ok1⟩
  · cases e
theorem et_val (h : EX X b e t f) (he : ∀ whole, isTrue e X.env whole = (do let v ← whole; standAt e.pos; holding [v] (truthy v)) := by intro _; rfl) : ET X e (tB t) (tOfE f) := ⟨pt_val h.pe he, sn_test (fun _ _ _ h => h) h.sn⟩
theorem et_cmp {o : CmpOp} {r : R2} {op : D → D → Option D} (ho : OpR X (compareOp o) r) (hs : OpS X.K b b' r op) (ha : EX X b ea ta fa) (hb : EX X b eb tb fb) (hm : behindInMarks o eb = false := by first | exact nobehind _ (by decide) (by decide) | rfl) : ET X (.Compare ea [o] [eb] pos) (tTest (tOp r ta tb)) (tOfE (eBin op fa fb)) :=
  ⟨pt_cmpR ho ha.pe hb.pe hm, sn_test (fun _ _ _ h => h) (sn_bin hs ha.sn hb.sn)⟩
/-- a < b < c -/
def eChain (op op' : D → D → Option D) (f g h : DE) : DE := fun ρ ω => match f ρ ω with
  | none => none
  | some (x, ω1) => match g ρ ω1 with
    | none => none
    | some (y, ω2) => match op x y with
      | some (.bool true) => (match h ρ ω2 with
        | none => none
        | some (z, ω3) => match op' y z with
          | some (.bool c) => some (.bool c, ω3)
          | _ => none)
      | some (.bool false) => some (.bool false, ω2)
      | _ => none
theorem sn_chain {r r' : R2} {op op' : D → D → Option D} {d d' : Bool} (hs : OpS K b d r op) (hs' : OpS K b d' r' op') (ha : Snd K b ta fa) (hb : Snd K b tb fb) (hc : Snd K b tc fc) : Snd K b' (tChain r r' ta tb tc) (eChain op op' fa fb fc) := by
  intro g0 H0 g H ρ ω σ Q d ω' ok st sl e k
  unfold eChain at e
  split at e
  · cases e
  rename_i x ω1 e1
  split at e
  · cases e
  rename_i y ω2 e2
  refine ha g0 H0 g H ρ ω σ _ x ω1 ok st sl e1 fun v g1 H1 s1 ok1 r1 => ?_
  refine hb g0 H0 g1 H1 ρ ω1 σ _ y ω2 ok1 (st.trans s1) (sl.step s1 ok1) e2 fun w g2 H2 s2 ok2 r2 => ?_
  split at e
  · rename_i e3
    split at e
    · cases e
    rename_i z ω3 e4
    split at e
    · rename_i c e5
      cases e
      refine hs g0 H0 g2 H2 ω2 x y v w _ _ ok2 ((st.trans s1).trans s2) (r1.mono s2) r2 e3 fun u g3 H3 s3 ok3 r3 => ?_
      have r3 : u = .bl true := by have q := r3; unfold RB at q; rw [Rep] at q; exact q
      refine ⟨true, r3, ?_⟩
      refine iteT (hc g0 H0 g3 H3 ρ ω2 σ _ z ω' ok3 (((st.trans s1).trans s2).trans s3) (((sl.step s1 ok1).step s2 ok2).step s3 ok3) e4 fun u4 g4 H4 s4 ok4 r4 => ?_)
      exact hs' g0 H0 g4 H4 ω' y z w u4 _ _ ok4 ((((st.trans s1).trans s2).trans s3).trans s4) ((r2.mono s3).mono s4) r4 e5 fun u5 g5 H5 s5 ok5 r5 => k u5 g5 H5 ((((s1.trans s2).trans s3).trans s4).trans s5) ok5 (by have q := r5; unfold RB at q ⊢; rw [Rep] at q ⊢; exact q)
    · cases e
  · rename_i e3
    cases e
    refine hs g0 H0 g2 H2 ω' x y v w _ _ ok2 ((st.trans s1).trans s2) (r1.mono s2) r2 e3 fun u g3 H3 s3 ok3 r3 => ?_
    have r3 : u = .bl false := by have q := r3; unfold RB at q; rw [Rep] at q; exact q
    refine ⟨false, r3, ?_⟩
    refine iteF ?_
    exact k (.bl false) g3 H3 ((s1.trans s2).trans s3) ok3 (by unfold RB; rw [Rep])
  · cases e
theorem ex_chain {o o' : CmpOp} {r r' : R2} {op op' : D → D → Option D} {d d' : Bool} (ho : OpR X (compareOp o) r) (ho' : OpR X (compareOp o') r') (hs : OpS X.K b d r op) (hs' : OpS X.K b d' r' op') (ha : EX X b ea ta fa) (hb : EX X b eb tb fb) (hc : EX X b ec tc fc)
    (hm : lastMarks [o, o'] [eb, ec] = false := by with_unfolding_all rfl) : EX X true (.Compare ea [o, o'] [eb, ec] pos) (tChain r r' ta tb tc) (eChain op op' fa fb fc) := ⟨pe_chain ho ho' ha.pe hb.pe hc.pe hm, sn_chain hs hs' ha.sn hb.sn hc.sn⟩
theorem et_chain {o o' : CmpOp} {r r' : R2} {op op' : D → D → Option D} {d d' : Bool} (ho : OpR X (compareOp o) r) (ho' : OpR X (compareOp o') r') (hs : OpS X.K b d r op) (hs' : OpS X.K b d' r' op') (ha : EX X b ea ta fa) (hb : EX X b eb tb fb) (hc : EX X b ec tc fc)
    (hm : lastMarks [o, o'] [eb, ec] = false := by with_unfolding_all rfl) : ET X (.Compare ea [o, o'] [eb, ec] pos) (tTest (tChain r r' ta tb tc)) (tOfE (eChain op op' fa fb fc)) := ⟨pt_chain ho ho' ha.pe hb.pe hc.pe hm, sn_test (b := true) (fun _ _ _ h => h) (sn_chain hs hs' ha.sn hb.sn hc.sn)⟩

/-! ### one operand -/
def UnS (K : PySem.W.Frag) (b b' : Bool) (r : V → Hp → VK → Prop) (op : D → Option D) : Prop :=
  ∀ (g0 : Gh) (H0 : Hp) (g : Gh) (H : Hp) (ω : Wd) (x : D) (v : V) (d : D) (Q : VK), GOk K g H ω → Step g0 H0 g H → RB K b g0 H0 g H x v → op x = some d →
    (∀ u g' H', Step g H g' H' → GOk K g' H' ω → RB K b' g0 H0 g' H' d u → Q u H') → r v H Q
def eUn (op : D → Option D) (f : DE) : DE := fun ρ ω => match f ρ ω with
  | none => none
  | some (x, ω1) => match op x with
    | none => none
    | some z => some (z, ω1)
theorem sn_un {r : V → Hp → VK → Prop} {op : D → Option D} (hs : UnS K b b' r op) (ha : Snd K b ta fa) : Snd K b' (tUn r ta) (eUn op fa) := by
  intro g0 H0 g H ρ ω σ Q d ω' ok st sl e k
  unfold eUn at e
  split at e
  · cases e
  rename_i x ω1 e1
  split at e
  · cases e
  rename_i z e3
  cases e
  refine ha g0 H0 g H ρ ω σ _ x ω' ok st sl e1 fun v g1 H1 s1 ok1 r1 => ?_
  exact hs g0 H0 g1 H1 ω' x v d Q ok1 (st.trans s1) r1 e3 fun u g' H' s3 ok3 r3 => k u g' H' (s1.trans s3) ok3 r3
def opNeg : D → Option D
  | .int i => some (.int (-i))
  | _ => none
theorem ex_neg (ha : EX X b ea ta fa) : EX X true (.UnaryOp .USub ea pos) (tUn (rU fun i => .int (-i)) ta) (eUn opNeg fa) := by
  refine ⟨pe_un un_neg ha.pe, sn_un (fun g0 H0 g H ω x v d Q ok st r e k => ?_) ha.sn⟩
  cases x <;> simp only [opNeg] at e <;> cases e
  unfold RB at r; rw [Rep] at r
  exact ⟨_, r, k _ g H (.refl _ _) ok (by unfold RB; rw [Rep])⟩

/-! ### and, or, not, if -/
def tAndD (f g : DT) : DT := fun ρ ω => match f ρ ω with
  | none => none
  | some (c, ω1) => if c = true then g ρ ω1 else some (false, ω1)
def tOrD (f g : DT) : DT := fun ρ ω => match f ρ ω with
  | none => none
  | some (c, ω1) => if c = true then some (true, ω1) else g ρ ω1
def tNotD (f : DT) : DT := fun ρ ω => match f ρ ω with
  | none => none
  | some (c, ω1) => some (!c, ω1)
section
variable {tA tB' : TT} {gA gB : DT} {rest : List Expr}
theorem ew_and1 (ha : ET X ea tA gA) : EW X (.BoolOp .And [ea] pos) tA gA := ⟨pw_and1 ha.pe, ha.sn⟩
theorem ew_or1 (ha : ET X ea tA gA) : EW X (.BoolOp .Or [ea] pos) tA gA := ⟨pw_or1 ha.pe, ha.sn⟩
theorem ew_and (ha : ET X ea tA gA) (hb : EW X (.BoolOp .And (eb :: rest) pos) tB' gB) : EW X (.BoolOp .And (ea :: eb :: rest) pos) (tAnd tA tB') (tAndD gA gB) := by
  refine ⟨pw_and ha.pe hb.pe, ?_⟩
  intro g0 H0 g H ρ ω σ Q d ω' ok st sl e k
  unfold tAndD at e
  split at e
  · cases e
  rename_i c ω1 e1
  refine ha.sn g0 H0 g H ρ ω σ _ c ω1 ok st sl e1 fun g1 H1 s1 ok1 => ?_
  cases c with
  | true => exact iteT (hb.sn g0 H0 g1 H1 ρ ω1 σ _ d ω' ok1 (st.trans s1) (sl.step s1 ok1) e fun g2 H2 s2 ok2 => k g2 H2 (s1.trans s2) ok2)
  | false =>
    rw [if_neg Bool.false_ne_true] at e
    cases e
    exact iteF (k g1 H1 s1 ok1)
theorem ew_or (ha : ET X ea tA gA) (hb : EW X (.BoolOp .Or (eb :: rest) pos) tB' gB) : EW X (.BoolOp .Or (ea :: eb :: rest) pos) (tOr tA tB') (tOrD gA gB) := by
  refine ⟨pw_or ha.pe hb.pe, ?_⟩
  intro g0 H0 g H ρ ω σ Q d ω' ok st sl e k
  unfold tOrD at e
  split at e
  · cases e
  rename_i c ω1 e1
  refine ha.sn g0 H0 g H ρ ω σ _ c ω1 ok st sl e1 fun g1 H1 s1 ok1 => ?_
  cases c with
  | false => exact iteF (hb.sn g0 H0 g1 H1 ρ ω1 σ _ d ω' ok1 (st.trans s1) (sl.step s1 ok1) e fun g2 H2 s2 ok2 => k g2 H2 (s1.trans s2) ok2)
  | true =>
    rw [if_pos rfl] at e
    cases e
    exact iteT (k g1 H1 s1 ok1)
theorem et_not (ha : ET X ea tA gA) : ET X (.UnaryOp .Not ea pos) (tNot tA) (tNotD gA) := by
  refine ⟨pt_not ha.pe, ?_⟩
  intro g0 H0 g H ρ ω σ Q d ω' ok st sl e k
  unfold tNotD at e
  split at e
  · cases e
  rename_i c ω1 e1
  cases e
  exact ha.sn g0 H0 g H ρ ω σ _ c ω' ok st sl e1 fun g1 H1 s1 ok1 => k g1 H1 s1 ok1
def eIf (c : DT) (f g : DE) : DE := fun ρ ω => match c ρ ω with
  | none => none
  | some (c, ω1) => if c = true then f ρ ω1 else g ρ ω1
theorem ex_if (hc : ET X ec tA gA) (ha : EX X b ea ta fa) (hb : EX X b eb tb fb) : EX X b (.IfExp ec ea eb pos) (tIf tA ta tb) (eIf gA fa fb) := by
  refine ⟨pe_ifExp hc.pe ha.pe hb.pe, ?_⟩
  intro g0 H0 g H ρ ω σ Q d ω' ok st sl e k
  unfold eIf at e
  split at e
  · cases e
  rename_i c ω1 e1
  refine hc.sn g0 H0 g H ρ ω σ _ c ω1 ok st sl e1 fun g1 H1 s1 ok1 => ?_
  cases c with
  | true => exact iteT (ha.sn g0 H0 g1 H1 ρ ω1 σ _ d ω' ok1 (st.trans s1) (sl.step s1 ok1) e fun v g2 H2 s2 ok2 r => k v g2 H2 (s1.trans s2) ok2 r)
  | false => exact iteF (hb.sn g0 H0 g1 H1 ρ ω1 σ _ d ω' ok1 (st.trans s1) (sl.step s1 ok1) e fun v g2 H2 s2 ok2 r => k v g2 H2 (s1.trans s2) ok2 r)
end
def eAnd (f g : DE) : DE := fun ρ ω => match f ρ ω with
  | some (.bool c, ω1) => if c = true then g ρ ω1 else some (.bool false, ω1)
  | _ => none
def eOr (f g : DE) : DE := fun ρ ω => match f ρ ω with
  | some (.bool c, ω1) => if c = true then some (.bool true, ω1) else g ρ ω1
  | _ => none
def eNot (f : DE) : DE := fun ρ ω => match f ρ ω with
  | some (.bool c, ω1) => some (.bool (!c), ω1)
  | _ => none
theorem RB.blV {g0 g : Gh} {H0 H : Hp} {c : Bool} {v : V} (h : RB K b g0 H0 g H (.bool c) v) : v = .bl c := by unfold RB at h; rw [Rep] at h; exact h
theorem RB.bl {g0 g : Gh} {H0 H : Hp} {c : Bool} : RB K b g0 H0 g H (.bool c) (.bl c) := by unfold RB; rw [Rep]
theorem RB.intV {g0 g : Gh} {H0 H : Hp} {c : Int} {v : V} (h : RB K b g0 H0 g H (.int c) v) : v = .int c := by unfold RB at h; rw [Rep] at h; exact h
theorem RB.int {g0 g : Gh} {H0 H : Hp} {c : Int} : RB K b g0 H0 g H (.int c) (.int c) := by unfold RB; rw [Rep]
theorem RB.strV {g0 g : Gh} {H0 H : Hp} {c : Str} {v : V} (h : RB K b g0 H0 g H (.str c) v) : v = .str c := by unfold RB at h; rw [Rep] at h; exact h
theorem RB.str {g0 g : Gh} {H0 H : Hp} {c : Str} : RB K b g0 H0 g H (.str c) (.str c) := by unfold RB; rw [Rep]
theorem RB.nonV {g0 g : Gh} {H0 H : Hp} {v : V} (h : RB K b g0 H0 g H .none v) : v = .non := by unfold RB at h; rw [Rep] at h; exact h
theorem RB.non {g0 g : Gh} {H0 H : Hp} : RB K b g0 H0 g H .none .non := by unfold RB; rw [Rep]
theorem ex_one {op} (h : EX X b ea ta fa) : EX X b (.BoolOp op [ea] pos) ta fa := ⟨pe_one h.pe, h.sn⟩
section
variable {rest : List Expr} {d : Bool}
theorem ex_and (ha : EX X d ea ta fa) (hb : EX X b (.BoolOp .And (eb :: rest) pos) tb fb) : EX X b (.BoolOp .And (ea :: eb :: rest) pos) (tAndV ta tb) (eAnd fa fb) := by
  refine ⟨pe_and ha.pe hb.pe, ?_⟩
  intro g0 H0 g H ρ ω σ Q d ω' ok st sl e k
  unfold eAnd at e
  split at e
  · rename_i c ω1 e1
    refine ha.sn g0 H0 g H ρ ω σ _ _ ω1 ok st sl e1 fun v g1 H1 s1 ok1 r1 => ⟨c, r1.blV, ?_⟩
    cases c with
    | true => exact iteT (hb.sn g0 H0 g1 H1 ρ ω1 σ _ d ω' ok1 (st.trans s1) (sl.step s1 ok1) e fun v g2 H2 s2 ok2 r => k v g2 H2 (s1.trans s2) ok2 r)
    | false =>
      rw [if_neg Bool.false_ne_true] at e
      cases e
      exact iteF (k _ g1 H1 s1 ok1 .bl)
  · cases e
theorem ex_or (ha : EX X d ea ta fa) (hb : EX X b (.BoolOp .Or (eb :: rest) pos) tb fb) : EX X b (.BoolOp .Or (ea :: eb :: rest) pos) (tOrV ta tb) (eOr fa fb) := by
  refine ⟨pe_or ha.pe hb.pe, ?_⟩
  intro g0 H0 g H ρ ω σ Q d ω' ok st sl e k
  unfold eOr at e
  split at e
  · rename_i c ω1 e1
    refine ha.sn g0 H0 g H ρ ω σ _ _ ω1 ok st sl e1 fun v g1 H1 s1 ok1 r1 => ⟨c, r1.blV, ?_⟩
    cases c with
    | false => exact iteF (hb.sn g0 H0 g1 H1 ρ ω1 σ _ d ω' ok1 (st.trans s1) (sl.step s1 ok1) e fun v g2 H2 s2 ok2 r => k v g2 H2 (s1.trans s2) ok2 r)
    | true =>
      rw [if_pos rfl] at e
      cases e
      exact iteT (k _ g1 H1 s1 ok1 .bl)
  · cases e
theorem ex_not (ha : EX X d ea ta fa) : EX X true (.UnaryOp .Not ea pos) (tNotV ta) (eNot fa) := by
  refine ⟨pe_not ha.pe, ?_⟩
  intro g0 H0 g H ρ ω σ Q d ω' ok st sl e k
  unfold eNot at e
  split at e
  · rename_i c ω1 e1
    cases e
    exact ha.sn g0 H0 g H ρ ω σ _ _ ω' ok st sl e1 fun v g1 H1 s1 ok1 r1 => ⟨c, r1.blV, k _ g1 H1 s1 ok1 .bl⟩
  · cases e
end

/-! ### arguments, displays -/
def aNil : DA := fun _ ω => some ([], ω)
def aCons (f : DE) (g : DA) : DA := fun ρ ω => match f ρ ω with
  | none => none
  | some (x, ω1) => match g ρ ω1 with
    | none => none
    | some (xs, ω2) => some (x :: xs, ω2)
theorem RBL.nil {g0 g : Gh} {H0 H : Hp} : RBL K b g0 H0 g H [] [] := RepL.nil
theorem RBL.cons {g0 g : Gh} {H0 H : Hp} {d : D} {ds : List D} {v : V} {vs : List V} (h : RB K b g0 H0 g H d v) (t : RBL K b g0 H0 g H ds vs) : RBL K b g0 H0 g H (d :: ds) (v :: vs) := RepL.cons h t
theorem ea_nil : EA X b [] tNil aNil := ⟨pa_nil, fun g0 H0 g H ρ ω σ Q d ω' ok st sl e k => by cases e; exact k [] g H (.refl _ _) ok .nil⟩
theorem ea_cons {es : List Expr} {tr : TA} {g : DA} (ha : EX X b e ta fa) (hr : EA X b es tr g) (hs : starEach (e :: es) X.env = (false, eval e X.env) :: starEach es X.env := by rfl) : EA X b (e :: es) (tCons ta tr) (aCons fa g) := by
  refine ⟨pa_cons ha.pe hr.pe hs, ?_⟩
  intro g0 H0 g H ρ ω σ Q ds ω' ok st sl e k
  unfold aCons at e
  split at e
  · cases e
  rename_i x ω1 e1
  split at e
  · cases e
  rename_i xs ω2 e2
  cases e
  refine ha.sn g0 H0 g H ρ ω σ _ x ω1 ok st sl e1 fun v g1 H1 s1 ok1 r1 => ?_
  refine hr.sn g0 H0 g1 H1 ρ ω1 σ _ xs ω' ok1 (st.trans s1) (sl.step s1 ok1) e2 fun vs g2 H2 s2 ok2 r2 => ?_
  exact k _ g2 H2 (s1.trans s2) ok2 (.cons (r1.mono s2) r2)
/-- the number of what an argument list gives -/
def LenA (n : Nat) (f : DA) : Prop := ∀ ρ ω ds ω', f ρ ω = some (ds, ω') → ds.length = n
theorem len_nil : LenA 0 aNil := fun ρ ω ds ω' e => by cases e; rfl
theorem len_cons {n : Nat} {g : DA} (h : LenA n g) : LenA (n + 1) (aCons f g) := fun ρ ω ds ω' e => by
  unfold aCons at e
  split at e
  · cases e
  split at e
  · cases e
  rename_i xs ω2 e2
  cases e
  rw [List.length_cons, h _ _ _ _ e2]
def eTup (a : DA) : DE := fun ρ ω => match a ρ ω with
  | none => none
  | some (ds, ω1) => some (.tuple ds, ω1)
def eLst (a : DA) : DE := fun ρ ω => match a ρ ω with
  | none => none
  | some (ds, ω1) => some (.list ds, ω1)
theorem RB.newTup {g0 g : Gh} {H0 H : Hp} {ω : Wd} {p : Addr} {ds : List D} {vs : List V} (ok : GOk K g H ω) (st : Step g0 H0 g H) (hp : H p = none) (hz : vs.length ≤ sizeLine) (r : RBL K b g0 H0 g H ds vs) : RB K b g0 H0 (g.add p (.tup vs)) (upd H p (.tup vs)) (.tuple ds) (.ref p) := by
  obtain ⟨s, _⟩ := alloc ok hp (o := .tup vs) rfl
  unfold RB; rw [Rep]
  exact ⟨p, vs, rfl, SqT.of (hb_new ok st hp rfl), hz, r.mono s⟩
theorem RB.newLst {g0 g : Gh} {H0 H : Hp} {ω : Wd} {p : Addr} {ds : List D} {vs : List V} (ok : GOk K g H ω) (st : Step g0 H0 g H) (hp : H p = none) (hz : vs.length ≤ sizeLine) (r : RBL K b g0 H0 g H ds vs) : RB K b g0 H0 (g.add p (.lst vs)) (upd H p (.lst vs)) (.list ds) (.ref p) := by
  obtain ⟨s, _⟩ := alloc ok hp (o := .lst vs) rfl
  unfold RB; rw [Rep]
  exact ⟨p, vs, rfl, hb_new ok st hp rfl, hz, r.mono s⟩
theorem ex_tup {es : List Expr} {tr : TA} {g : DA} {x1} {n : Nat} (h : EA X b es tr g) (hl : LenA n g) (hn : n ≤ sizeLine := by decide) : EX X b (.Tuple es x1 pos) (tTup tr) (eTup g) := by
  refine ⟨pe_tup h.pe, ?_⟩
  intro g0 H0 g H ρ ω σ Q d ω' ok st sl e k
  unfold eTup at e
  split at e
  · cases e
  rename_i ds ω1 e1
  cases e
  refine h.sn g0 H0 g H ρ ω σ _ ds ω' ok st sl e1 fun vs g1 H1 s1 ok1 r1 => ?_
  have hz : vs.length ≤ sizeLine := by rw [RepL.length r1, hl _ _ _ _ e1]; exact hn
  refine ⟨hz, fun p hp => ?_⟩
  obtain ⟨s2, ok2⟩ := alloc ok1 hp (o := .tup vs) rfl
  exact k _ _ _ (s1.trans s2) ok2 (.newTup ok1 (st.trans s1) hp hz r1)
theorem ex_lst {es : List Expr} {tr : TA} {g : DA} {n : Nat} (h : EA X b es tr g) (hl : LenA n g) (hn : n ≤ sizeLine := by decide) : EX X b (.List es pos) (tLst tr) (eLst g) := by
  refine ⟨pe_lst h.pe, ?_⟩
  intro g0 H0 g H ρ ω σ Q d ω' ok st sl e k
  unfold eLst at e
  split at e
  · cases e
  rename_i ds ω1 e1
  cases e
  refine h.sn g0 H0 g H ρ ω σ _ ds ω' ok st sl e1 fun vs g1 H1 s1 ok1 r1 => ?_
  have hz : vs.length ≤ sizeLine := by rw [RepL.length r1, hl _ _ _ _ e1]; exact hn
  refine ⟨hz, fun p hp => ?_⟩
  obtain ⟨s2, ok2⟩ := alloc ok1 hp (o := .lst vs) rfl
  exact k _ _ _ (s1.trans s2) ok2 (.newLst ok1 (st.trans s1) hp hz r1)
/-- a displayed list as one's own -/
theorem en_lst {es : List Expr} {tr : TA} {g : DA} {n : Nat} (h : EA X true es tr g) (hl : LenA n g) (hn : n ≤ sizeLine := by decide) : EN X (.List es pos) (tLst tr) g := by
  refine ⟨pe_lst h.pe, ?_⟩
  intro g0 H0 g H ρ ω σ Q ds ω' ok st sl e k
  refine h.sn g0 H0 g H ρ ω σ _ ds ω' ok st sl e fun vs g1 H1 s1 ok1 r1 => ?_
  have hz : vs.length ≤ sizeLine := by rw [RepL.length r1, hl _ _ _ _ e]; exact hn
  refine ⟨hz, fun p hp => ?_⟩
  obtain ⟨s2, ok2⟩ := allocOwn ok1 hp (o := .lst vs)
  have nG : g1.G p = none := by
    cases q : g1.G p with
    | none => rfl
    | some u => rw [ok1.sub p u q] at hp; cases hp
  have nS : ¬ g1.S p := fun q => by obtain ⟨u, e, _⟩ := ok1.sl p q; rw [hp] at e; cases e
  exact k p vs g1 _ (s1.trans s2) ok2 (s1.al p hp) upd_same nG nS hz r1

/-! ### what is only read, but holds no list, is settled too -/
mutual
def noL : D → Bool
  | .list _ => false
  | .tuple ds => noLs ds
  | _ => true
def noLs : List D → Bool
  | [] => true
  | d :: ds => noL d && noLs ds
end
def eDown (f : DE) : DE := fun ρ ω => match f ρ ω with
  | none => none
  | some (d, ω1) => if noL d = true then some (d, ω1) else none
noncomputable def Gh.tups (g0 : Gh) (H0 : Hp) (g : Gh) (H : Hp) : Gh := { g with G := fun a => match Fm g0 H0 g H a with
  | some (.tup vs) => some (.tup vs)
  | _ => g.G a }
theorem tups_G {g0 g : Gh} {H0 H : Hp} {ω : Wd} (ok : GOk K g H ω) (st : Step g0 H0 g H) {a : Addr} {o : HO} (h : g.G a = some o) : (Gh.tups g0 H0 g H).G a = some o := by
  have q := G_Fm ok st h
  unfold Gh.tups
  simp only [q]
  split
  · rename_i e; exact e.symm
  · exact h
theorem tups_tup {g0 g : Gh} {H0 H : Hp} {a : Addr} {vs : List V} (h : Fm g0 H0 g H a = some (.tup vs)) : (Gh.tups g0 H0 g H).G a = some (.tup vs) := by
  unfold Gh.tups
  simp only [h]
theorem tups_of {g0 g : Gh} {H0 H : Hp} {a : Addr} {o : HO} (h : (Gh.tups g0 H0 g H).G a = some o) : (∃ vs, o = .tup vs ∧ Fm g0 H0 g H a = some (.tup vs)) ∨ g.G a = some o := by
  unfold Gh.tups at h
  simp only at h
  split at h
  · rename_i vs e; cases h; exact .inl ⟨vs, rfl, e⟩
  · exact .inr h
theorem tups_ok {g0 g : Gh} {H0 H : Hp} {ω : Wd} (ok : GOk K g H ω) (st : Step g0 H0 g H) : Step g H (Gh.tups g0 H0 g H) H ∧ GOk K (Gh.tups g0 H0 g H) H ω := by
  refine ⟨⟨fun _ _ h => h, fun _ _ h => tups_G ok st h, fun _ h => h, fun _ _ h _ => h, fun _ h => .inl h, fun _ h => h, fun a vs h => ?_, rfl, fun _ => rfl⟩, ⟨fun a o h => ?_, fun a o h => ?_, fun a o h => ?_, ok.inj, ok.inS, fun n o e => ?_, ok.sl, ok.lv, ok.tb⟩⟩
  · rcases tups_of h with ⟨ws, e, _⟩ | h
    · cases e
    · exact .inl h
  · rcases tups_of h with ⟨ws, rfl, e⟩ | h
    · exact (Fm_some.mp e).1
    · exact ok.sub a o h
  · rcases tups_of h with ⟨ws, rfl, e⟩ | h
    · rfl
    · exact ok.seq a o h
  · rcases tups_of h with ⟨ws, rfl, e⟩ | h
    · exact (Fm_some.mp e).2.2.1
    · exact ok.nS a o h
  · obtain ⟨a, ia, h⟩ := ok.st n o e
    exact ⟨a, ia, h.mono (fun _ _ h => h) (fun _ _ h => tups_G ok st h) rfl⟩
mutual
theorem Rep.down {g0 g : Gh} {H0 H : Hp} : ∀ (d : D) (v : V), noL d = true → Rep K g.ι (Fm g0 H0 g H) d v → Rep K g.ι (Gh.tups g0 H0 g H).G d v
  | .none, _, _, h => h
  | .bool _, _, _, h => h
  | .int _, _, _, h => h
  | .str _, _, _, h => h
  | .list ds, v, n, h => nomatch n
  | .tuple ds, v, n, h => by
    rw [Rep] at h ⊢
    rw [noL] at n
    obtain ⟨a, vs, e, q, z, r⟩ := h
    refine ⟨a, vs, e, ?_, z, RepL.down ds vs n r⟩
    rcases q with (q | ⟨o, q⟩) | q
    · exact .inl (.inl (tups_tup q))
    · have := (Fm_some.mp q).2.1
      cases this
    · exact .inr q
  | .dict kvs, v, _, h => by rw [Rep] at h ⊢; exact h
theorem RepL.down {g0 g : Gh} {H0 H : Hp} : ∀ (ds : List D) (vs : List V), noLs ds = true → RepL K g.ι (Fm g0 H0 g H) ds vs → RepL K g.ι (Gh.tups g0 H0 g H).G ds vs
  | [], _, _, h => by rw [RepL] at h ⊢; exact h
  | d :: ds, vs, n, h => by
    rw [noLs, Bool.and_eq_true] at n
    obtain ⟨v, ws, rfl, r, q⟩ := RepL.inv h
    exact RepL.cons (Rep.down d v n.1 r) (RepL.down ds ws n.2 q)
end
theorem EX.down (h : EX X false e t f) : EX X true e t (eDown f) := by
  refine ⟨h.pe, ?_⟩
  intro g0 H0 g H ρ ω σ Q d ω' ok st sl e k
  unfold eDown at e
  split at e
  · cases e
  rename_i d1 ω1 e1
  split at e
  · rename_i hn
    cases e
    refine h.sn g0 H0 g H ρ ω σ _ _ ω' ok st sl e1 fun v g1 H1 s1 ok1 r1 => ?_
    obtain ⟨s2, ok2⟩ := tups_ok ok1 (st.trans s1)
    exact k v _ H1 (s1.trans s2) ok2 (Rep.down d v hn r1)
  · cases e
end
end Dn
end

section
namespace Dn
open PySem PySem.Spec L2
variable [Tb]

section
variable {X : Cx} {K : PySem.W.Frag} {b b' : Bool}
/-! ## operators -/
/-- two ints to a value that holds no object -/
theorem ops_int {r : R2} {op : D → D → Option D} (h : ∀ x y d, op x y = some d → ∃ i j u, x = .int i ∧ y = .int j ∧ (∀ ι G, Rep K ι G d u) ∧ ∀ (Q : VK) (H : Hp), Q u H → r (.int i) (.int j) H Q) : OpS K b true r op := by
  intro g0 H0 g H ω x y v w d Q ok st r1 r2 e k
  obtain ⟨i, j, u, rfl, rfl, hr, hq⟩ := h x y d e
  rw [r1.intV, r2.intV]
  exact hq Q H (k u g H (.refl _ _) ok (hr _ _))
/-- int + int, text + text, tuple + tuple, list + list -/
def opAdd : D → D → Option D
  | .int i, .int j => some (.int (i + j))
  | .str x, .str y => if x.length + y.length ≤ sizeLine then some (.str (x ++ y)) else none
  | .tuple x, .tuple y => if x.length + y.length ≤ sizeLine then some (.tuple (x ++ y)) else none
  | .list x, .list y => if x.length + y.length ≤ sizeLine then some (.list (x ++ y)) else none
  | _, _ => none
def rAddD (K : PySem.W.Frag) : R2 := fun x y H Q => rI0 (fun i j => .int (i + j)) x y H Q ∨ (∃ i j, x = .str i ∧ y = .str j ∧ i.length + j.length ≤ sizeLine ∧ Q (.str (i ++ j)) H) ∨ rCatA K x y H Q ∨ rCat x y H Q
theorem op_addD : OpR X (binaryOp .Add) (rAddD X.K) := op_add.or (op_add_str.or (op_catA.or op_cat))
theorem RB.tupV {g0 g : Gh} {H0 H : Hp} {ω : Wd} {ds : List D} {v : V} (ok : GOk K g H ω) (h : RB K b g0 H0 g H (.tuple ds) v) : ∃ a vs, v = .ref a ∧ SqT K H a vs ∧ vs.length ≤ sizeLine ∧ RBL K b g0 H0 g H ds vs := by
  unfold RB at h; rw [Rep] at h
  obtain ⟨a, vs, e, q, z, r⟩ := h
  exact ⟨a, vs, e, SqT.mono (fun a o h => (hb_sub ok h).1) q, z, r⟩
theorem RB.lstV {g0 g : Gh} {H0 H : Hp} {ω : Wd} {ds : List D} {v : V} (ok : GOk K g H ω) (h : RB K b g0 H0 g H (.list ds) v) : ∃ a vs, v = .ref a ∧ H a = some (.lst vs) ∧ vs.length ≤ sizeLine ∧ RBL K b g0 H0 g H ds vs := by
  unfold RB at h; rw [Rep] at h
  obtain ⟨a, vs, e, q, z, r⟩ := h
  exact ⟨a, vs, e, (hb_sub ok q).1, z, r⟩
theorem ops_add : OpS K b b (rAddD K) opAdd := by
  intro g0 H0 g H ω x y v w d Q ok st r1 r2 e k
  cases x <;> cases y <;> simp only [opAdd] at e <;> try cases e
  · rw [r1.intV, r2.intV]
    exact .inl ⟨_, _, rfl, rfl, k _ g H (.refl _ _) ok .int⟩
  · split at e <;> cases e
    rename_i hz
    rw [r1.strV, r2.strV]
    exact .inr (.inl ⟨_, _, rfl, rfl, hz, k _ g H (.refl _ _) ok .str⟩)
  · split at e <;> cases e
    rename_i xs ys hz
    obtain ⟨a, vs, rfl, q1, z1, l1⟩ := r1.lstV ok
    obtain ⟨c, ws, rfl, q2, z2, l2⟩ := r2.lstV ok
    have hz' : vs.length + ws.length ≤ sizeLine := by rw [RepL.length l1, RepL.length l2]; exact hz
    refine .inr (.inr (.inr ⟨a, c, vs, ws, rfl, rfl, q1, q2, hz', fun p hp => ?_⟩))
    obtain ⟨s2, ok2⟩ := alloc ok hp (o := .lst (vs ++ ws)) rfl
    exact k _ _ _ s2 ok2 (.newLst ok st hp (by rw [List.length_append]; exact hz') (RepL.append l1 l2))
  · split at e <;> cases e
    rename_i xs ys hz
    have r1' := r1
    have r2' := r2
    obtain ⟨a, vs, rfl, q1, z1, l1⟩ := r1.tupV ok
    obtain ⟨c, ws, rfl, q2, z2, l2⟩ := r2.tupV ok
    have n1 := RepL.length l1
    have n2 := RepL.length l2
    have hz' : vs.length + ws.length ≤ sizeLine := by rw [n1, n2]; exact hz
    refine .inr (.inr (.inl ⟨a, c, vs, ws, rfl, rfl, q1, q2, hz', fun e => ?_, fun _ e => ?_, fun _ _ p hp => ?_⟩))
    · subst e
      have : xs = [] := List.eq_nil_of_length_eq_zero n1.symm
      subst this
      exact k _ g H (.refl _ _) ok r2'
    · subst e
      have : ys = [] := List.eq_nil_of_length_eq_zero n2.symm
      subst this
      rw [List.append_nil] at k
      exact k _ g H (.refl _ _) ok r1'
    · obtain ⟨s2, ok2⟩ := alloc ok hp (o := .tup (vs ++ ws)) rfl
      exact k _ _ _ s2 ok2 (.newTup ok st hp (by rw [List.length_append]; exact hz') (RepL.append l1 l2))
def opSub : D → D → Option D
  | .int i, .int j => some (.int (i - j))
  | _, _ => none
theorem ops_sub : OpS K b true (rI0 fun i j => .int (i - j)) opSub := ops_int fun x y d e => by
  cases x <;> cases y <;> simp only [opSub] at e <;> cases e
  exact ⟨_, _, _, rfl, rfl, fun _ _ => by rw [Rep], fun Q H q => ⟨_, _, rfl, rfl, q⟩⟩
omit [Tb] in
/-- the sizes for which the model multiplies -/
theorem mulOk_ex : ∃ f : Int → Int → Bool, ∀ i j, f i j = ((decide (-(2 ^ 64) < i) && decide (i < 2 ^ 64)) || (decide (-(2 ^ 64) < j) && decide (j < 2 ^ 64)) || decide (i.natAbs.log2 + j.natAbs.log2 < 1000000)) := ⟨_, fun _ _ => rfl⟩
noncomputable def mulOk : Int → Int → Bool := Classical.choose mulOk_ex
theorem mulOk_eq (i j : Int) : mulOk i j = ((decide (-(2 ^ 64) < i) && decide (i < 2 ^ 64)) || (decide (-(2 ^ 64) < j) && decide (j < 2 ^ 64)) || decide (i.natAbs.log2 + j.natAbs.log2 < 1000000)) := Classical.choose_spec mulOk_ex i j
noncomputable def opMul : D → D → Option D
  | .int i, .int j => if mulOk i j = true then some (.int (i * j)) else none
  | .list xs, .int j => if xs.length * j.toNat ≤ sizeLine ∧ -(2 ^ 63) ≤ j ∧ j < 2 ^ 63 then some (.list (List.replicate j.toNat xs).flatten) else none
  | .tuple xs, .int j => if xs ≠ [] ∧ 2 ≤ j ∧ j ≤ 1000 ∧ xs.length ≤ 1000 then some (.tuple (List.replicate j.toNat xs).flatten) else none
  | _, _ => none
def rMulD (K : PySem.W.Frag) : R2 := fun x y H Q => rI CMul (fun i j => .int (i * j)) x y H Q ∨ rI CMulW (fun i j => .int (i * j)) x y H Q ∨ rRep x y H Q ∨ rRepT K x y H Q
theorem op_mulD : OpR X (binaryOp .Mult) (rMulD X.K) := op_mul.or (op_mulW.or (op_rep.or op_repT))
theorem RepL.rep {ι : Ix} {G : Hp} {ds : List D} {vs : List V} (h : RepL K ι G ds vs) : ∀ k : Nat, RepL K ι G (List.replicate k ds).flatten (List.replicate k vs).flatten
  | 0 => RepL.nil
  | k + 1 => by
    rw [List.replicate_succ, List.replicate_succ, List.flatten_cons, List.flatten_cons]
    exact h.append (RepL.rep h k)
theorem len_rep {α : Type} (xs : List α) : ∀ k : Nat, (List.replicate k xs).flatten.length = xs.length * k
  | 0 => by simp
  | k + 1 => by
    rw [List.replicate_succ, List.flatten_cons, List.length_append, len_rep xs k, Nat.mul_succ, Nat.add_comm]
theorem ops_mul : OpS K b b (rMulD K) opMul := by
  intro g0 H0 g H ω x y v w d Q ok st r1 r2 e k
  cases x <;> cases y <;> simp only [opMul] at e <;> try cases e
  · split at e <;> cases e
    rename_i i j hm
    rw [r1.intV, r2.intV]
    have q := k _ g H (.refl _ _) ok (.int (c := i * j))
    simp only [mulOk_eq, Bool.or_eq_true, Bool.and_eq_true, decide_eq_true_eq] at hm
    rcases hm with (h | h) | h
    · exact .inl ⟨_, _, rfl, rfl, .inl h, q⟩
    · exact .inl ⟨_, _, rfl, rfl, .inr h, q⟩
    · exact .inr (.inl ⟨_, _, rfl, rfl, h, q⟩)
  · split at e <;> cases e
    rename_i xs j hm
    obtain ⟨hz, h1, h2⟩ := hm
    obtain ⟨a, vs, rfl, q1, z1, l1⟩ := r1.lstV ok
    rw [r2.intV]
    refine .inr (.inr (.inl ⟨a, j, vs, rfl, rfl, q1, h1, h2, by rw [RepL.length l1]; exact hz, fun p hp => ?_⟩))
    obtain ⟨s2, ok2⟩ := alloc ok hp (o := .lst (List.replicate j.toNat vs).flatten) rfl
    exact k _ _ _ s2 ok2 (.newLst ok st hp (by rw [len_rep, RepL.length l1]; exact hz) (RepL.rep l1 _))
  · split at e <;> cases e
    rename_i xs j hm
    obtain ⟨hn, h1, h2, h3⟩ := hm
    obtain ⟨a, vs, rfl, q1, z1, l1⟩ := r1.tupV ok
    have n1 := RepL.length l1
    rw [r2.intV]
    refine .inr (.inr (.inr ⟨a, j, vs, rfl, rfl, q1, fun e => hn ?_, h1, h2, by rw [n1]; exact h3, fun p hp => ?_⟩))
    · subst e; exact List.eq_nil_of_length_eq_zero n1.symm
    · obtain ⟨s2, ok2⟩ := alloc ok hp (o := .tup (List.replicate j.toNat vs).flatten) rfl
      refine k _ _ _ s2 ok2 (.newTup ok st hp ?_ (RepL.rep l1 _))
      rw [len_rep, n1]
      have : xs.length * j.toNat ≤ 1000 * 1000 := Nat.mul_le_mul h3 (by omega)
      rw [sizeLine_eq]; omega
def opMod : D → D → Option D
  | .int i, .int j => if 0 < j then some (.int (i % j)) else none
  | _, _ => none
theorem ops_mod : OpS K b true (rI (fun _ j => 0 < j) fun i j => .int (i % j)) opMod := ops_int fun x y d e => by
  cases x <;> cases y <;> simp only [opMod] at e <;> try cases e
  split at e <;> cases e
  rename_i hj
  exact ⟨_, _, _, rfl, rfl, fun _ _ => by rw [Rep], fun Q H q => ⟨_, _, rfl, rfl, hj, q⟩⟩
def opDiv : D → D → Option D
  | .int i, .int j => if 0 < j ∧ j.natAbs.log2 < 9000 then some (.int (i / j)) else none
  | _, _ => none
theorem ops_div : OpS K b true (rI CDivW fun i j => .int (i / j)) opDiv := ops_int fun x y d e => by
  cases x <;> cases y <;> simp only [opDiv] at e <;> try cases e
  split at e <;> cases e
  rename_i hj
  exact ⟨_, _, _, rfl, rfl, fun _ _ => by rw [Rep], fun Q H q => ⟨_, _, rfl, rfl, hj, q⟩⟩
def opPow : D → D → Option D
  | .int i, .int j => if 0 ≤ j ∧ j ≤ 1000000 ∧ i.natAbs < 2 ^ 64 then some (.int (i ^ j.toNat)) else none
  | _, _ => none
theorem ops_pow : OpS K b true (rI CPow fun i j => .int (i ^ j.toNat)) opPow := ops_int fun x y d e => by
  cases x <;> cases y <;> simp only [opPow] at e <;> try cases e
  split at e <;> cases e
  rename_i hj
  exact ⟨_, _, _, rfl, rfl, fun _ _ => by rw [Rep], fun Q H q => ⟨_, _, rfl, rfl, hj, q⟩⟩

/-! ## comparisons: data read off the heap -/
mutual
theorem Rep.dp {ι : Ix} {G H : Hp} (hG : ∀ a o, G a = some o → H a = some o) : ∀ (d : D) (v : V), d.plain = true → Rep K ι G d v → Dp K H v d
  | .none, _, _, h => by rw [Rep] at h; subst h; exact .non
  | .bool _, _, _, h => by rw [Rep] at h; subst h; exact .bl _
  | .int _, _, _, h => by rw [Rep] at h; subst h; exact .int _
  | .str _, _, _, h => by rw [Rep] at h; subst h; exact .str _
  | .list ds, _, n, h => by
    rw [Rep] at h
    obtain ⟨a, vs, rfl, q, _, r⟩ := h
    exact .lst (SqL.of (hG _ _ q)) (RepL.dp hG ds vs (by rw [PyData.plain] at n; exact n) r)
  | .tuple ds, _, n, h => by
    rw [Rep] at h
    obtain ⟨a, vs, rfl, q, _, r⟩ := h
    exact .tup (SqT.mono hG q) (RepL.dp hG ds vs (by rw [PyData.plain] at n; exact n) r)
  | .dict _, _, n, _ => nomatch n
theorem RepL.dp {ι : Ix} {G H : Hp} (hG : ∀ a o, G a = some o → H a = some o) : ∀ (ds : List D) (vs : List V), PyData.plainAll ds = true → RepL K ι G ds vs → DpAll K H vs ds
  | [], _, _, h => by rw [RepL] at h; subst h; exact .nil
  | d :: ds, _, n, h => by
    rw [PyData.plainAll, Bool.and_eq_true] at n
    obtain ⟨v, ws, rfl, r, q⟩ := RepL.inv h
    exact .cons (Rep.dp hG d v n.1 r) (RepL.dp hG ds ws n.2 q)
end
theorem RB.dp {g0 g : Gh} {H0 H : Hp} {ω : Wd} {d : D} {v : V} (ok : GOk K g H ω) (h : RB K b g0 H0 g H d v) (n : d.plain = true) : Dp K H v d := Rep.dp (fun _ _ h => (hb_sub ok h).1) d v n h
/-- data that are compared: no object in them, not too deep -/
def cmpOk (d e : D) : Bool := d.plain && e.plain && decide (d.depth ≤ 60)
def rDat (K : PySem.W.Frag) (C : D → D → Bool) (res : D → D → Bool) : R2 := fun x y H Q => ∃ d e, Dp K H x d ∧ Dp K H y e ∧ C d e = true ∧ Q (.bl (res d e)) H
theorem op_eqP (hu : X.A.units + 64 < cLine) : OpR X (compareOp .Eq) (rDat X.K cmpOk PyData.eqv) := by
  intro pins s σ H x y v u Q I rx ry h
  obtain ⟨d, e, hd, he, c, q⟩ := h
  simp only [cmpOk, Bool.and_eq_true, decide_eq_true_eq] at c
  obtain ⟨as, r1⟩ := Dp.reads I d x v hd rx
  obtain ⟨bs, r2⟩ := Dp.reads I e y u he ry
  exact SeqAt.eq_plain r1 r2 c.1.1 c.1.2 (by omega) ⟨.bl _, H, I, rfl, q⟩
theorem op_neP (hu : X.A.units + 64 < cLine) : OpR X (compareOp .NotEq) (rDat X.K cmpOk fun d e => !PyData.eqv d e) := by
  intro pins s σ H x y v u Q I rx ry h
  obtain ⟨d, e, hd, he, c, q⟩ := h
  simp only [cmpOk, Bool.and_eq_true, decide_eq_true_eq] at c
  obtain ⟨as, r1⟩ := Dp.reads I d x v hd rx
  obtain ⟨bs, r2⟩ := Dp.reads I e y u he ry
  exact SeqAt.ne_plain r1 r2 c.1.1 c.1.2 (by omega) ⟨.bl _, H, I, rfl, q⟩
def notNon : D → Bool
  | .none => false
  | _ => true
def ltOk (d e : D) : Bool := d.plain && e.plain && decide (d.depth ≤ 60) && PySem.W.alike d e && notNon d
theorem ltOk_h {d e : D} (h : ltOk d e = true) : d.depth ≤ 60 ∧ PySem.W.alike d e = true ∧ d ≠ .none := by
  simp only [ltOk, Bool.and_eq_true, decide_eq_true_eq] at h
  refine ⟨h.1.1.2, h.1.2, fun z => ?_⟩
  rw [z] at h; exact absurd h.2 (by decide)
theorem op_ltP (hu : X.A.units + 64 < cLine) : OpR X (compareOp .Lt) (rDat X.K ltOk PySem.W.dataLt) := by
  intro pins s σ H x y v u Q I rx ry h
  obtain ⟨d, e, hd, he, c, q⟩ := h
  obtain ⟨c1, c2, c3⟩ := ltOk_h c
  obtain ⟨as, r1⟩ := Dp.reads I d x v hd rx
  obtain ⟨bs, r2⟩ := Dp.reads I e y u he ry
  exact PySem.W.lt_data r1 r2 c2 c3 (by omega) ⟨.bl _, H, I, rfl, q⟩
theorem op_gtP (hu : X.A.units + 64 < cLine) : OpR X (compareOp .Gt) (rDat X.K ltOk fun d e => PySem.W.dataLt e d) := by
  intro pins s σ H x y v u Q I rx ry h
  obtain ⟨d, e, hd, he, c, q⟩ := h
  obtain ⟨c1, c2, c3⟩ := ltOk_h c
  obtain ⟨as, r1⟩ := Dp.reads I d x v hd rx
  obtain ⟨bs, r2⟩ := Dp.reads I e y u he ry
  exact PySem.W.gt_data r1 r2 c2 c3 (by omega) ⟨.bl _, H, I, rfl, q⟩
theorem op_leP (hu : X.A.units + 64 < cLine) : OpR X (compareOp .LtE) (rDat X.K ltOk fun d e => !PySem.W.dataLt e d) := by
  intro pins s σ H x y v u Q I rx ry h
  obtain ⟨d, e, hd, he, c, q⟩ := h
  obtain ⟨c1, c2, c3⟩ := ltOk_h c
  obtain ⟨as, r1⟩ := Dp.reads I d x v hd rx
  obtain ⟨bs, r2⟩ := Dp.reads I e y u he ry
  exact PySem.W.le_data r1 r2 c2 c3 (by omega) ⟨.bl _, H, I, rfl, q⟩
theorem op_geP (hu : X.A.units + 64 < cLine) : OpR X (compareOp .GtE) (rDat X.K ltOk fun d e => !PySem.W.dataLt d e) := by
  intro pins s σ H x y v u Q I rx ry h
  obtain ⟨d, e, hd, he, c, q⟩ := h
  obtain ⟨c1, c2, c3⟩ := ltOk_h c
  obtain ⟨as, r1⟩ := Dp.reads I d x v hd rx
  obtain ⟨bs, r2⟩ := Dp.reads I e y u he ry
  exact PySem.W.ge_data r1 r2 c2 c3 (by omega) ⟨.bl _, H, I, rfl, q⟩
theorem ops_dat {C res : D → D → Bool} {op : D → D → Option D} (hC : ∀ d e, C d e = true → d.plain = true ∧ e.plain = true) (h : ∀ x y d, op x y = some d → C x y = true ∧ d = .bool (res x y)) : OpS K b true (rDat K C res) op := by
  intro g0 H0 g H ω x y v w d Q ok st r1 r2 e k
  obtain ⟨c, rfl⟩ := h x y d e
  obtain ⟨p1, p2⟩ := hC _ _ c
  exact ⟨x, y, r1.dp ok p1, r2.dp ok p2, c, k _ g H (.refl _ _) ok .bl⟩
theorem cmpOk_p (d e : D) (h : cmpOk d e = true) : d.plain = true ∧ e.plain = true := by
  simp only [cmpOk, Bool.and_eq_true] at h; exact ⟨h.1.1, h.1.2⟩
theorem ltOk_p (d e : D) (h : ltOk d e = true) : d.plain = true ∧ e.plain = true := by
  simp only [ltOk, Bool.and_eq_true] at h; exact ⟨h.1.1.1.1, h.1.1.1.2⟩
def opEq (x y : D) : Option D := if cmpOk x y = true then some (.bool (PyData.eqv x y)) else none
def opNe (x y : D) : Option D := if cmpOk x y = true then some (.bool (!PyData.eqv x y)) else none
theorem ops_eq : OpS K b true (rDat K cmpOk PyData.eqv) opEq := ops_dat cmpOk_p fun x y d e => by
  unfold opEq at e; split at e <;> cases e; exact ⟨by assumption, rfl⟩
theorem ops_ne : OpS K b true (rDat K cmpOk fun d e => !PyData.eqv d e) opNe := ops_dat cmpOk_p fun x y d e => by
  unfold opNe at e; split at e <;> cases e; exact ⟨by assumption, rfl⟩
def opLt (x y : D) : Option D := match x, y with
  | .int i, .int j => some (.bool (decide (i < j)))
  | x, y => if ltOk x y = true then some (.bool (PySem.W.dataLt x y)) else none
def opGt (x y : D) : Option D := match x, y with
  | .int i, .int j => some (.bool (decide (j < i)))
  | x, y => if ltOk x y = true then some (.bool (PySem.W.dataLt y x)) else none
def opLe (x y : D) : Option D := match x, y with
  | .int i, .int j => some (.bool (decide (i ≤ j)))
  | x, y => if ltOk x y = true then some (.bool (!PySem.W.dataLt y x)) else none
def opGe (x y : D) : Option D := match x, y with
  | .int i, .int j => some (.bool (decide (j ≤ i)))
  | x, y => if ltOk x y = true then some (.bool (!PySem.W.dataLt x y)) else none
theorem ltOk_int (i j : Int) : ltOk (.int i) (.int j) = true := rfl
theorem not_lt_le (i j : Int) : (!decide (j < i)) = decide (i ≤ j) := by
  by_cases h : i ≤ j
  · rw [decide_eq_true h, decide_eq_false (by omega)]; rfl
  · rw [decide_eq_false h, decide_eq_true (by omega)]; rfl
theorem ops_lt : OpS K b true (rDat K ltOk PySem.W.dataLt) opLt := ops_dat ltOk_p fun x y d e => by
  unfold opLt at e
  split at e
  · cases e; exact ⟨rfl, by rw [PySem.W.dataLt_int]⟩
  · split at e <;> cases e; exact ⟨by assumption, rfl⟩
theorem ops_gt : OpS K b true (rDat K ltOk fun d e => PySem.W.dataLt e d) opGt := ops_dat ltOk_p fun x y d e => by
  unfold opGt at e
  split at e
  · cases e; exact ⟨rfl, by rw [PySem.W.dataLt_int]⟩
  · split at e <;> cases e; exact ⟨by assumption, rfl⟩
theorem ops_le : OpS K b true (rDat K ltOk fun d e => !PySem.W.dataLt e d) opLe := ops_dat ltOk_p fun x y d e => by
  unfold opLe at e
  split at e
  · cases e; exact ⟨rfl, by rw [PySem.W.dataLt_int, not_lt_le]⟩
  · split at e <;> cases e; exact ⟨by assumption, rfl⟩
theorem ops_ge : OpS K b true (rDat K ltOk fun d e => !PySem.W.dataLt d e) opGe := ops_dat ltOk_p fun x y d e => by
  unfold opGe at e
  split at e
  · cases e; exact ⟨rfl, by rw [PySem.W.dataLt_int, not_lt_le]⟩
  · split at e <;> cases e; exact ⟨by assumption, rfl⟩
/-! is None, is True .. -/
def isNon : D → Bool
  | .none => true
  | _ => false
theorem RB.non_iff {g0 g : Gh} {H0 H : Hp} {d : D} {v : V} (h : RB K b g0 H0 g H d v) : decide (v = .non) = isNon d := by
  unfold RB at h
  cases d <;> rw [Rep] at h
  · subst h; rfl
  · subst h; rfl
  · subst h; rfl
  · subst h; rfl
  · obtain ⟨a, vs, rfl, _⟩ := h; rfl
  · obtain ⟨a, vs, rfl, _⟩ := h; rfl
  · obtain ⟨n, a, _, _, rfl⟩ := h; rfl
def opIsN (x y : D) : Option D := if isNon y = true then some (.bool (isNon x)) else none
def opNotN (x y : D) : Option D := if isNon y = true then some (.bool (!isNon x)) else none
theorem isNon_y {g0 g : Gh} {H0 H : Hp} {d : D} {v : V} (h : RB K b g0 H0 g H d v) (n : isNon d = true) : v = .non := by
  have := h.non_iff; rw [n] at this; exact of_decide_eq_true this
theorem ops_isN : OpS K b true (fun x y H Q => y = .non ∧ Q (.bl (decide (x = .non))) H) opIsN := by
  intro g0 H0 g H ω x y v w d Q ok st r1 r2 e k
  unfold opIsN at e; split at e <;> cases e
  rename_i n
  refine ⟨isNon_y r2 n, ?_⟩
  rw [r1.non_iff]; exact k _ g H (.refl _ _) ok .bl
theorem ops_notN : OpS K b true (fun x y H Q => y = .non ∧ Q (.bl (!decide (x = .non))) H) opNotN := by
  intro g0 H0 g H ω x y v w d Q ok st r1 r2 e k
  unfold opNotN at e; split at e <;> cases e
  rename_i n
  refine ⟨isNon_y r2 n, ?_⟩
  rw [r1.non_iff]; exact k _ g H (.refl _ _) ok .bl
def opIsB (x y : D) : Option D := match x, y with
  | .bool a, .bool c => some (.bool (decide (a = c)))
  | _, _ => none
def opNotB (x y : D) : Option D := match x, y with
  | .bool a, .bool c => some (.bool (!decide (a = c)))
  | _, _ => none
theorem ops_isB : OpS K b true rIsB opIsB := by
  intro g0 H0 g H ω x y v w d Q ok st r1 r2 e k
  cases x <;> cases y <;> simp only [opIsB] at e <;> cases e
  rw [r1.blV, r2.blV]
  exact ⟨_, _, rfl, rfl, k _ g H (.refl _ _) ok .bl⟩
theorem ops_notB : OpS K b true rNotB opNotB := by
  intro g0 H0 g H ω x y v w d Q ok st r1 r2 e k
  cases x <;> cases y <;> simp only [opNotB] at e <;> cases e
  rw [r1.blV, r2.blV]
  exact ⟨_, _, rfl, rfl, k _ g H (.refl _ _) ok .bl⟩
/-! in, not in -/
def inOk (d e : D) : Bool := match e with
  | .list xs => PyData.plainAll xs && d.plain && decide (d.depth ≤ 60)
  | .tuple xs => PyData.plainAll xs && d.plain && decide (d.depth ≤ 60)
  | _ => false
def inRes (d e : D) : Bool := match e with
  | .list xs => xs.any fun y => PyData.eqv y d
  | .tuple xs => xs.any fun y => PyData.eqv y d
  | _ => false
theorem op_inP (hu : X.A.units + 64 < cLine) : OpR X (compareOp .In) (rDat X.K inOk inRes) := by
  intro pins s σ H x y v u Q I rx ry h
  obtain ⟨d, e, hd, he, c, q⟩ := h
  obtain ⟨as, r1⟩ := Dp.reads I d x v hd rx
  obtain ⟨bs, r2⟩ := Dp.reads I e y u he ry
  cases e with
  | list xs =>
    simp only [inOk, Bool.and_eq_true, decide_eq_true_eq] at c
    exact SeqAt.in_list_data r2 r1 c.1.1 c.1.2 (by omega) ⟨.bl _, H, I, rfl, q⟩
  | tuple xs =>
    simp only [inOk, Bool.and_eq_true, decide_eq_true_eq] at c
    exact SeqAt.in_tuple_data r2 r1 c.1.1 c.1.2 (by omega) ⟨.bl _, H, I, rfl, q⟩
  | _ => exact nomatch c
theorem op_notInP (hu : X.A.units + 64 < cLine) : OpR X (compareOp .NotIn) (rDat X.K inOk fun d e => !inRes d e) := by
  intro pins s σ H x y v u Q I rx ry h
  obtain ⟨d, e, hd, he, c, q⟩ := h
  obtain ⟨as, r1⟩ := Dp.reads I d x v hd rx
  obtain ⟨bs, r2⟩ := Dp.reads I e y u he ry
  cases e with
  | list xs =>
    simp only [inOk, Bool.and_eq_true, decide_eq_true_eq] at c
    exact SeqAt.notIn_list_data r2 r1 c.1.1 c.1.2 (by omega) ⟨.bl _, H, I, rfl, q⟩
  | tuple xs =>
    simp only [inOk, Bool.and_eq_true, decide_eq_true_eq] at c
    exact SeqAt.notIn_tuple_data r2 r1 c.1.1 c.1.2 (by omega) ⟨.bl _, H, I, rfl, q⟩
  | _ => exact nomatch c
theorem inOk_p (d e : D) (h : inOk d e = true) : d.plain = true ∧ e.plain = true := by
  cases e with
  | list xs =>
    simp only [inOk, Bool.and_eq_true] at h
    exact ⟨h.1.2, by rw [PyData.plain]; exact h.1.1⟩
  | tuple xs =>
    simp only [inOk, Bool.and_eq_true] at h
    exact ⟨h.1.2, by rw [PyData.plain]; exact h.1.1⟩
  | _ => exact nomatch h
def opIn (x y : D) : Option D := if inOk x y = true then some (.bool (inRes x y)) else none
def opNotIn (x y : D) : Option D := if inOk x y = true then some (.bool (!inRes x y)) else none
theorem ops_in : OpS K b true (rDat K inOk inRes) opIn := ops_dat inOk_p fun x y d e => by
  unfold opIn at e; split at e <;> cases e; exact ⟨by assumption, rfl⟩
theorem ops_notIn : OpS K b true (rDat K inOk fun d e => !inRes d e) opNotIn := ops_dat inOk_p fun x y d e => by
  unfold opNotIn at e; split at e <;> cases e; exact ⟨by assumption, rfl⟩
/-- one sign, or a text, in a text -/
def opInS (x y : D) : Option D := match x, y with
  | .str i, .str j => some (.bool (!(Builtin.Str.occurrences j i 0 j.length 1).isEmpty))
  | _, _ => none
def opNotInS (x y : D) : Option D := match x, y with
  | .str i, .str j => some (.bool (!(!(Builtin.Str.occurrences j i 0 j.length 1).isEmpty)))
  | _, _ => none
theorem ops_inS : OpS K b true (fun x y H Q => ∃ i j, x = .str i ∧ y = .str j ∧ Q (.bl (!(Builtin.Str.occurrences j i 0 j.length 1).isEmpty)) H) opInS := by
  intro g0 H0 g H ω x y v w d Q ok st r1 r2 e k
  cases x <;> cases y <;> simp only [opInS] at e <;> cases e
  rw [r1.strV, r2.strV]
  exact ⟨_, _, rfl, rfl, k _ g H (.refl _ _) ok .bl⟩
theorem ops_notInS : OpS K b true (fun x y H Q => ∃ i j, x = .str i ∧ y = .str j ∧ Q (.bl (!(!(Builtin.Str.occurrences j i 0 j.length 1).isEmpty))) H) opNotInS := by
  intro g0 H0 g H ω x y v w d Q ok st r1 r2 e k
  cases x <;> cases y <;> simp only [opNotInS] at e <;> cases e
  rw [r1.strV, r2.strV]
  exact ⟨_, _, rfl, rfl, k _ g H (.refl _ _) ok .bl⟩

/-! ## subscripts -/
/-- the item at i: of a list, a tuple, a text -/
def opIx : D → D → Option D
  | .list xs, .int i => atI xs i
  | .tuple xs, .int i => atI xs i
  | .str z, .int i => if z.length ≤ sizeLine then (atI z.cps.toList i).map fun c => .str ⟨#[c]⟩ else none
  | _, _ => none
theorem RepL.atI {ι : Ix} {G : Hp} {ds : List D} {vs : List V} {i : Int} {d : D} (h : RepL K ι G ds vs) (e : L2.atI ds i = some d) : ∃ v, L2.atI vs i = some v ∧ Rep K ι G d v := by
  unfold L2.atI at e ⊢
  rw [h.length]
  cases q : ixN ds.length i with
  | none => rw [q] at e; cases e
  | some j =>
    rw [q] at e
    exact h.get e
theorem ops_ix : OpS K b b (rIx K) opIx := by
  intro g0 H0 g H ω x y v w d Q ok st r1 r2 e k
  cases x <;> cases y <;> simp only [opIx] at e <;> try cases e
  · split at e
    · rename_i hz
      obtain ⟨c, h1, rfl⟩ := Option.map_eq_some_iff.mp e
      rw [r1.strV, r2.intV]
      exact .inr (.inr ⟨_, _, c, rfl, rfl, hz, h1, k _ g H (.refl _ _) ok .str⟩)
    · cases e
  · obtain ⟨a, vs, rfl, q1, z1, l1⟩ := r1.lstV ok
    rw [r2.intV]
    obtain ⟨u, h1, h2⟩ := RepL.atI l1 e
    exact .inl ⟨a, vs, _, u, rfl, rfl, SqL.of q1, h1, k _ g H (.refl _ _) ok h2⟩
  · obtain ⟨a, vs, rfl, q1, z1, l1⟩ := r1.tupV ok
    rw [r2.intV]
    obtain ⟨u, h1, h2⟩ := RepL.atI l1 e
    exact .inr (.inl ⟨a, vs, _, u, rfl, rfl, q1, h1, k _ g H (.refl _ _) ok h2⟩)
theorem ex_ix {ta tb : TE} {fa fb : DE} {ea eb : Expr} {pos : Pos} (ha : EX X b ea ta fa) (hb : EX X b eb tb fb) (hs : PlainIx eb := by exact fun _ _ => rfl) : EX X b (.Subscript ea eb pos) (tOp (rIx X.K) ta tb) (eBin opIx fa fb) :=
  ⟨pe_ix ix_seq ha.pe hb.pe hs, sn_bin ops_ix ha.sn hb.sn⟩
/-- the item of a list of one's own: it is settled -/
def eIxOwn (i : Nat) (f : DE) : DE := fun ρ ω => match ρ[i]? with
  | some (.own xs) => (match f ρ ω with
    | some (.int j, ω1) => (match atI xs j with
      | some d => some (d, ω1)
      | none => none)
    | _ => none)
  | _ => none
theorem sn_ixOwn {i : Nat} {tb : TE} {fb : DE} {d : Bool} (hb : Snd K d tb fb) : Snd K true (tOp (rIx K) (tVar i) tb) (eIxOwn i fb) := by
  intro g0 H0 g H ρ ω σ Q d ω' ok st sl e k
  unfold eIxOwn at e
  split at e
  · rename_i xs hx
    split at e
    · rename_i j ω1 e1
      split at e
      · rename_i dd e2
        cases e
        obtain ⟨o, h1, p, vs, rfl, hp, hG, hS, h0, z, r⟩ := sl.get hx
        refine ⟨_, h1, ?_⟩
        refine hb g0 H0 g H ρ ω σ _ _ ω' ok st sl e1 fun v g1 H1 s1 ok1 r1 => ?_
        obtain ⟨u, h3, h4⟩ := RepL.atI (r.mono s1.ιm s1.Gm) e2
        rw [r1.intV]
        exact .inl ⟨p, vs, j, u, rfl, rfl, SqL.of (s1.fr _ _ hp hS), h3, k u g1 H1 s1 ok1 h4⟩
      · cases e
    · cases e
  · cases e
theorem ex_ixOwn {i : Nat} {x : Str} {tb : TE} {fb : DE} {eb : Expr} {pos pos2 : Pos} {d : Bool} (hb : EX X d eb tb fb) (hN : X.N[i]? = some x := by rfl) (hv : Vis X.env.scope x := by first | exact Or.inl rfl | exact Or.inr (Or.inl rfl) | exact Or.inr (Or.inr rfl)) (hd : (x == ("__debug__" : Str)) = false := by decide)
    (hcd : (x == ("__classdict__" : Str)) = false := by decide) (hs : PlainIx eb := by exact fun _ _ => rfl) : EX X true (.Subscript (.Name x pos2) eb pos) (tOp (rIx X.K) (tVar i) tb) (eIxOwn i fb) :=
  ⟨pe_ix ix_seq (pe_var hN hv hd hcd) hb.pe hs, sn_ixOwn hb.sn⟩
end
end Dn
end

section
namespace Dn
open PySem PySem.Spec L2
variable [Tb]

section
variable {X : Cx} {K : PySem.W.Frag} {b b' : Bool}
/-! ## what is walked -/
structure GLe (g g' : Gh) : Prop where
  ιm : ∀ n a, g.ι n = some a → g'.ι n = some a
  Gm : ∀ a o, g.G a = some o → g'.G a = some o
theorem GLe.refl (g : Gh) : GLe g g := ⟨fun _ _ h => h, fun _ _ h => h⟩
theorem GLe.trans {g g1 g2 : Gh} (a : GLe g g1) (b : GLe g1 g2) : GLe g g2 := ⟨fun n x h => b.ιm n x (a.ιm n x h), fun x o h => b.Gm x o (a.Gm x o h)⟩
theorem Step.le {g g' : Gh} {H H' : Hp} (s : Step g H g' H') : GLe g g' := ⟨s.ιm, s.Gm⟩
/-- a later moment: of the same expression (false), of the same def (true) -/
def Later (b : Bool) (g : Gh) (H : Hp) (g1 : Gh) (H1 : Hp) : Prop := if b = true then GLe g g1 ∧ ∀ a o, g1.G a = some o → H1 a = some o else Step g H g1 H1
structure ItS (K : PySem.W.Frag) (J : It) (ds : List D) (g : Gh) (H : Hp) : Prop where
  stop : ∀ i, ds.length ≤ i → J.stop i H
  go : ∀ i d, ds[i]? = some d → J.go i H ∧ ∀ x H2, J.yld i H x H2 → ∃ g2, Step g H g2 H2 ∧ (∀ ω, GOk K g H ω → GOk K g2 H2 ω) ∧ Rep K g2.ι g2.G d x
def SndI (K : PySem.W.Frag) (b : Bool) (t : TI) (f : DA) : Prop :=
  ∀ (g0 : Gh) (H0 : Hp) (g : Gh) (H : Hp) (ρ : Ro) (ω : Wd) (σ : L2.St) (R : It → Hp → Prop) (ds : List D) (ω' : Wd), GOk K g H ω → Step g0 H0 g H → Slots K H0 g H ρ σ → f ρ ω = some (ds, ω') →
    (∀ J g' H', Step g H g' H' → GOk K g' H' ω' → ds.length ≤ sizeLine → (∀ g1 H1, Later b g' H' g1 H1 → ItS K J ds g1 H1) → R J H') → t σ H R
structure EI (X : Cx) (b : Bool) (tg iter : Expr) (t : TI) (f : DA) : Prop where
  pe : PI X tg iter t
  sn : SndI X.K b t f
theorem Later.step {g g1 : Gh} {H H1 : Hp} {ω : Wd} (s : Step g H g1 H1) (ok : GOk K g1 H1 ω) : Later b g H g1 H1 := by
  cases b with
  | false => exact s
  | true => exact ⟨s.le, ok.sub⟩
/-- a list that stands at a -/
theorem itS_lst {g : Gh} {H : Hp} {a : Addr} {vs : List V} {ds : List D} (hp : H a = some (.lst vs)) (r : RepL K g.ι g.G ds vs) : ItS K (Itl K a) ds g H where
  stop i hi := ⟨vs, SqL.of hp, by rw [r.length]; exact hi⟩
  go i d e := by
    obtain ⟨v, e1, r1⟩ := r.get e
    refine ⟨⟨vs, v, SqL.of hp, e1⟩, fun x H2 y => ?_⟩
    obtain ⟨rfl, y⟩ := y
    have := y vs (SqL.of hp)
    rw [e1] at this; cases this
    exact ⟨g, .refl _ _, fun _ h => h, r1⟩
theorem itS_tup {g : Gh} {H : Hp} {a : Addr} {vs : List V} {ds : List D} (hp : SqT K H a vs) (r : RepL K g.ι g.G ds vs) : ItS K (Itt K a) ds g H where
  stop i hi := ⟨vs, hp, by rw [r.length]; exact hi⟩
  go i d e := by
    obtain ⟨v, e1, r1⟩ := r.get e
    refine ⟨⟨vs, v, hp, e1⟩, fun x H2 y => ?_⟩
    obtain ⟨rfl, y⟩ := y
    have := y vs hp
    rw [e1] at this; cases this
    exact ⟨g, .refl _ _, fun _ h => h, r1⟩
/-- the items of a settled list; of a settled tuple -/
def iLst (f : DE) : DA := fun ρ ω => match f ρ ω with
  | some (.list ds, ω1) => some (ds, ω1)
  | _ => none
def iTpl (f : DE) : DA := fun ρ ω => match f ρ ω with
  | some (.tuple ds, ω1) => some (ds, ω1)
  | _ => none
theorem sni_lst {t : TE} {f : DE} (h : Snd K true t f) : SndI K b (iList K t) (iLst f) := by
  intro g0 H0 g H ρ ω σ R ds ω' ok st sl e k
  unfold iLst at e
  split at e
  · rename_i ds1 ω1 e1
    cases e
    refine h g0 H0 g H ρ ω σ _ _ ω' ok st sl e1 fun v g1 H1 s1 ok1 r1 => ?_
    have r1' : Rep K g1.ι g1.G (.list ds) v := r1
    rw [Rep] at r1'
    obtain ⟨a, vs, rfl, q, z, r⟩ := r1'
    refine ⟨a, rfl, ⟨vs, SqL.of (ok1.sub _ _ q)⟩, k _ g1 H1 s1 ok1 (by rw [← r.length]; exact z) fun g2 H2 l => ?_⟩
    cases b with
    | true => exact itS_lst (l.2 _ _ (l.1.Gm _ _ q)) (r.mono l.1.ιm l.1.Gm)
    | false =>
      have l : Step g1 H1 g2 H2 := l
      exact itS_lst (l.fr _ _ (ok1.sub _ _ q) (ok1.nS _ _ q)) (r.mono l.ιm l.Gm)
  · cases e
theorem sni_tup {t : TE} {f : DE} (h : Snd K true t f) : SndI K b (iTup K t) (iTpl f) := by
  intro g0 H0 g H ρ ω σ R ds ω' ok st sl e k
  unfold iTpl at e
  split at e
  · rename_i ds1 ω1 e1
    cases e
    refine h g0 H0 g H ρ ω σ _ _ ω' ok st sl e1 fun v g1 H1 s1 ok1 r1 => ?_
    have r1' : Rep K g1.ι g1.G (.tuple ds) v := r1
    rw [Rep] at r1'
    obtain ⟨a, vs, rfl, q, z, r⟩ := r1'
    refine ⟨a, rfl, ⟨vs, SqT.mono ok1.sub q⟩, k _ g1 H1 s1 ok1 (by rw [← r.length]; exact z) fun g2 H2 l => ?_⟩
    cases b with
    | true => exact itS_tup (SqT.mono (fun x o h => l.2 _ _ (l.1.Gm _ _ h)) q) (r.mono l.1.ιm l.1.Gm)
    | false =>
      have l : Step g1 H1 g2 H2 := l
      exact itS_tup (SqT.mono (fun x o h => l.fr _ _ (ok1.sub _ _ h) (ok1.nS _ _ h)) q) (r.mono l.ιm l.Gm)
  · cases e
theorem ei_lst {tg e : Expr} {t : TE} {f : DE} (h : EX X true e t f) : EI X b tg e (iList X.K t) (iLst f) := ⟨pi_list h.pe, sni_lst h.sn⟩
theorem ei_tup {tg e : Expr} {t : TE} {f : DE} (h : EX X true e t f) : EI X b tg e (iTup X.K t) (iTpl f) := ⟨pi_tup h.pe, sni_tup h.sn⟩
/-- a list of one's own, within an expression -/
def iOwn (i : Nat) : DA := fun ρ ω => match ρ[i]? with
  | some (.own xs) => some (xs, ω)
  | _ => none
theorem sni_own (i : Nat) : SndI K false (iList K (tVar i)) (iOwn i) := by
  intro g0 H0 g H ρ ω σ R ds ω' ok st sl e k
  unfold iOwn at e
  split at e
  · rename_i xs hx
    cases e
    obtain ⟨o, h1, p, vs, rfl, hp, hG, hS, h0, z, r⟩ := sl.get hx
    refine ⟨_, h1, p, rfl, ⟨vs, SqL.of hp⟩, k _ g H (.refl _ _) ok (by rw [← r.length]; exact z) fun g2 H2 l => ?_⟩
    have l : Step g H g2 H2 := l
    exact itS_lst (l.fr _ _ hp hS) (r.mono l.ιm l.Gm)
  · cases e
theorem ei_own {i : Nat} {tg : Expr} {x : Str} {pos : Pos} (hN : X.N[i]? = some x := by rfl) (hv : Vis X.env.scope x := by first | exact Or.inl rfl | exact Or.inr (Or.inl rfl) | exact Or.inr (Or.inr rfl)) (hd : (x == ("__debug__" : Str)) = false := by decide)
    (hcd : (x == ("__classdict__" : Str)) = false := by decide) : EI X false tg (.Name x pos) (iList X.K (tVar i)) (iOwn i) := ⟨pi_list (pe_var hN hv hd hcd), sni_own i⟩
omit [Tb] in
/-- range -/
theorem rgOk_ex : ∃ f : Int → Int → Bool, ∀ i j, f i j = (decide (-(2 ^ 62) ≤ i) && decide (i < 2 ^ 62) && decide (-(2 ^ 62) ≤ j) && decide (j < 2 ^ 62) && decide (j - i ≤ 16777216)) := ⟨_, fun _ _ => rfl⟩
/-- the bounds that the model walks (never unfolded) -/
noncomputable def rgOk : Int → Int → Bool := Classical.choose rgOk_ex
theorem rgOk_eq (i j : Int) : rgOk i j = (decide (-(2 ^ 62) ≤ i) && decide (i < 2 ^ 62) && decide (-(2 ^ 62) ≤ j) && decide (j < 2 ^ 62) && decide (j - i ≤ 16777216)) := Classical.choose_spec rgOk_ex i j
def rgD (i j : Int) : List D := (List.range (j - i).toNat).map fun (k : Nat) => .int (i + k)
noncomputable def iRange (a : DA) : DA := fun ρ ω => match a ρ ω with
  | some ([.int j], ω1) => if rgOk 0 j = true then some (rgD 0 j, ω1) else none
  | some ([.int i, .int j], ω1) => if rgOk i j = true then some (rgD i j, ω1) else none
  | _ => none
theorem rgD_length (i j : Int) : (rgD i j).length = (j - i).toNat := by simp [rgD]
theorem itS_rng {g : Gh} {H : Hp} {i j : Int} : ItS K (Itr i (j - i).toNat) (rgD i j) g H where
  stop k hk := by rw [rgD_length] at hk; exact hk
  go k d e := by
    have hk : k < (j - i).toNat := by
      have := (List.getElem?_eq_some_iff.mp e).1
      rw [rgD_length] at this; exact this
    refine ⟨hk, fun x H2 y => ?_⟩
    obtain ⟨rfl, rfl⟩ := y
    refine ⟨g, .refl _ _, fun _ h => h, ?_⟩
    have e2 : d = .int (i + k) := by
      unfold rgD at e
      rw [List.getElem?_map, List.getElem?_range hk] at e
      exact (Option.some.inj e).symm
    subst e2
    rw [Rep]
theorem rg_size {i j : Int} (h : rgOk i j = true) : (rgD i j).length ≤ sizeLine := by
  simp only [rgOk_eq, Bool.and_eq_true, decide_eq_true_eq] at h
  rw [rgD_length, sizeLine_eq]; omega
theorem sni_rng1 {ta : TA} {f : DA} (h : SndA K b' ta f) (hl : LenA 1 f) : SndI K b (iRng1 ta) (iRange f) := by
  intro g0 H0 g H ρ ω σ R ds ω' ok st sl e k
  unfold iRange at e
  split at e
  · rename_i j ω1 e1
    split at e
    · rename_i hr
      cases e
      refine h g0 H0 g H ρ ω σ _ _ ω' ok st sl e1 fun vs g1 H1 s1 ok1 r1 => ?_
      obtain ⟨v, ws, rfl, r, t⟩ := RepL.inv r1
      have t' : ws = [] := by rw [RepL] at t; exact t
      subst t'
      have hr' := hr
      simp only [rgOk_eq, Bool.and_eq_true, decide_eq_true_eq] at hr'
      have e0 : j.toNat = (j - 0).toNat := by rw [Int.sub_zero]
      refine ⟨j, by rw [show v = .int j from RB.intV r], hr'.1.1.2, hr'.1.2, k _ g1 H1 s1 ok1 (rg_size hr) fun g2 H2 _ => ?_⟩
      rw [e0]; exact itS_rng
    · cases e
  · rename_i i j ω1 e1
    have := hl _ _ _ _ e1
    simp at this
  · cases e
theorem sni_rng2 {ta : TA} {f : DA} (h : SndA K b' ta f) (hl : LenA 2 f) : SndI K b (iRng2 ta) (iRange f) := by
  intro g0 H0 g H ρ ω σ R ds ω' ok st sl e k
  unfold iRange at e
  split at e
  · rename_i j ω1 e1
    have := hl _ _ _ _ e1
    simp at this
  · rename_i i j ω1 e1
    split at e
    · rename_i hr
      cases e
      refine h g0 H0 g H ρ ω σ _ _ ω' ok st sl e1 fun vs g1 H1 s1 ok1 r1 => ?_
      obtain ⟨v, ws, rfl, r, t⟩ := RepL.inv r1
      obtain ⟨v2, ws2, rfl, r2, t2⟩ := RepL.inv t
      have t' : ws2 = [] := by rw [RepL] at t2; exact t2
      subst t'
      have hr' := hr
      simp only [rgOk_eq, Bool.and_eq_true, decide_eq_true_eq] at hr'
      refine ⟨i, j, by rw [show v = .int i from RB.intV r, show v2 = .int j from RB.intV r2], ⟨hr'.1.1.1.1, hr'.1.1.1.2, hr'.1.1.2, hr'.1.2⟩, k _ g1 H1 s1 ok1 (rg_size hr) fun g2 H2 _ => itS_rng⟩
    · cases e
  · cases e
theorem ei_rng1 {tg a : Expr} {ta : TA} {f : DA} {p pos : Pos} (hm : X.mg "range" = none) (h : EA X b' [a] ta f) (hl : LenA 1 f := by exact len_cons len_nil) (hg : Gl X "range" := by rfl) (hs : starEach [a] X.env = [(false, eval a X.env)] := by rfl) : EI X b tg (.Call (.Name "range" p) [a] [] pos) (iRng1 ta) (iRange f) :=
  ⟨pi_range1 hg hm h.pe hs, sni_rng1 h.sn hl⟩
theorem ei_rng2 {tg a c : Expr} {ta : TA} {f : DA} {p pos : Pos} (hm : X.mg "range" = none) (h : EA X b' [a, c] ta f) (hl : LenA 2 f := by exact len_cons (len_cons len_nil)) (hg : Gl X "range" := by rfl) (hs : starEach [a, c] X.env = [(false, eval a X.env), (false, eval c X.env)] := by rfl) (hs2 : starEach [c] X.env = [(false, eval c X.env)] := by rfl) :
    EI X b tg (.Call (.Name "range" p) [a, c] [] pos) (iRng2 ta) (iRange f) :=
  ⟨pi_range2 hg hm h.pe hs hs2, sni_rng2 h.sn hl⟩

/-! ## targets -/
abbrev DG := D → Ro → Option Ro
/-- the own lists of the one state are own lists of the other one, in the same slots -/
def OwnLe (ρ : Ro) (σ : L2.St) (ρ' : Ro) (σ' : L2.St) : Prop := ∀ (i : Nat) (xs : List D), ρ'[i]? = some (.own xs) → ρ[i]? = some (.own xs) ∧ σ'[i]? = σ[i]?
theorem OwnLe.refl (ρ : Ro) (σ : L2.St) : OwnLe ρ σ ρ σ := fun _ _ h => ⟨h, rfl⟩
theorem OwnLe.trans {ρ ρ1 ρ2 : Ro} {σ σ1 σ2 : L2.St} (a : OwnLe ρ σ ρ1 σ1) (b : OwnLe ρ1 σ1 ρ2 σ2) : OwnLe ρ σ ρ2 σ2 := fun i xs h => ⟨(a i xs (b i xs h).1).1, (b i xs h).2.trans (a i xs (b i xs h).1).2⟩
theorem OwnLe.set (ρ : Ro) (σ : L2.St) (i : Nat) (s : SV) (o : Option V) (hn : ∀ xs, s ≠ .own xs) : OwnLe ρ σ (ρ.set i s) (σ.set i o) := fun j xs h => by
  have hj : i ≠ j := fun z => by
    subst z
    rw [List.getElem?_set] at h
    simp only [if_true] at h
    split at h
    · exact hn xs (Option.some.inj h)
    · cases h
  rw [List.getElem?_set_ne hj] at h ⊢
  exact ⟨h, rfl⟩
def SndG (K : PySem.W.Frag) (t : TG) (js : List Nat) (f : DG) : Prop :=
  ∀ (H0 : Hp) (g : Gh) (H : Hp) (ρ : Ro) (σ : L2.St) (d : D) (v : V) (ρ' : Ro) (Q : L2.St → Hp → Prop), (∀ a o, g.G a = some o → H a = some o) → Slots K H0 g H ρ σ → Rep K g.ι g.G d v → f d ρ = some ρ' →
    (∀ σ', Slots K H0 g H ρ' σ' → (∀ vs, (∀ j ∈ js, j ∈ vs) → wipe σ' vs = wipe σ vs) → OwnLe ρ σ ρ' σ' → Q σ' H) → t v σ H Q
structure EG (X : Cx) (tg : Expr) (t : TG) (js : List Nat) (f : DG) : Prop where
  pe : PG X tg t
  sn : SndG X.K t js f
def SndGs (K : PySem.W.Frag) (t : TGs) (js : List Nat) (f : List D → Ro → Option Ro) : Prop :=
  ∀ (H0 : Hp) (g : Gh) (H : Hp) (ρ : Ro) (σ : L2.St) (ds : List D) (vs : List V) (ρ' : Ro) (Q : L2.St → Hp → Prop), (∀ a o, g.G a = some o → H a = some o) → Slots K H0 g H ρ σ → RepL K g.ι g.G ds vs → f ds ρ = some ρ' →
    (∀ σ', Slots K H0 g H ρ' σ' → (∀ vs, (∀ j ∈ js, j ∈ vs) → wipe σ' vs = wipe σ vs) → OwnLe ρ σ ρ' σ' → Q σ' H) → t vs σ H Q
structure EGs (X : Cx) (tg : List Expr) (t : TGs) (js : List Nat) (f : List D → Ro → Option Ro) : Prop where
  pe : PGs X tg t
  sn : SndGs X.K t js f
theorem wipe_set (σ : L2.St) (i : Nat) (x : Option V) : ∀ vs : List Nat, i ∈ vs → wipe (σ.set i x) vs = wipe σ vs := by
  have out : ∀ vs : List Nat, i ∉ vs → wipe (σ.set i x) vs = (wipe σ vs).set i x := by
    intro vs
    induction vs with
    | nil => intro _; rfl
    | cons v vs ih =>
      intro h
      rw [List.mem_cons, not_or] at h
      show (wipe (σ.set i x) vs).set v none = ((wipe σ vs).set v none).set i x
      rw [ih h.2, List.set_comm _ _ h.1]
  intro vs
  induction vs with
  | nil => intro h; cases h
  | cons v vs ih =>
    intro h
    show (wipe (σ.set i x) vs).set v none = (wipe σ vs).set v none
    by_cases hm : i ∈ vs
    · rw [ih hm]
    · rw [out vs hm]
      rcases List.mem_cons.mp h with rfl | h
      · rw [List.set_set]
      · exact absurd h hm
def gSet (i : Nat) : DG := fun d ρ => some (ρ.set i (.val d))
theorem sng_name (i : Nat) : SndG K (gName i) [i] (gSet i) := by
  intro H0 g H ρ σ d v ρ' Q sub sl r e k
  cases e
  exact k _ (sl.set i ⟨v, rfl, r⟩ fun xs z => nomatch z) (fun vs h => wipe_set σ i (some v) vs (h i (List.mem_singleton.mpr rfl))) (OwnLe.set ρ σ i _ _ fun xs z => nomatch z)
theorem eg_name {i : Nat} {x : Str} {pos : Pos} (hN : X.N.Nodup) (hi : X.N[i]? = some x := by rfl) (hx : Loc X.env.scope x := by first | exact Or.inl rfl | exact Or.inr rfl) (hf : X.fn x = true ∨ X.env.scope.names.lookup x = some .local := by first | exact .inl rfl | exact .inr rfl | assumption) : EG X (.Name x pos) (gName i) [i] (gSet i) :=
  ⟨pg_name hN hi hx hf, sng_name i⟩
def gNilD : List D → Ro → Option Ro := fun ds ρ => match ds with
  | [] => some ρ
  | _ :: _ => none
def gConsD (f : DG) (h : List D → Ro → Option Ro) : List D → Ro → Option Ro := fun ds ρ => match ds with
  | [] => none
  | d :: ds => match f d ρ with
    | none => none
    | some ρ1 => h ds ρ1
theorem egs_nil : EGs X [] gNil [] gNilD := by
  refine ⟨pgs_nil, ?_⟩
  intro H0 g H ρ σ ds vs ρ' Q sub sl r e k
  unfold gNilD at e
  split at e
  · cases e
    have t : vs = [] := by rw [RepL] at r; exact r
    exact ⟨t, k _ sl (fun _ _ => rfl) (OwnLe.refl _ _)⟩
  · cases e
theorem egs_cons {e : Expr} {es : List Expr} {t : TG} {u : TGs} {js ks : List Nat} {f : DG} {h : List D → Ro → Option Ro} (h1 : EG X e t js f) (h2 : EGs X es u ks h)
    (hs : (assignEach (e :: es) X.env).map (·.2) = assign e X.env :: (assignEach es X.env).map (·.2) := by rfl) : EGs X (e :: es) (gCons t u) (js ++ ks) (gConsD f h) := by
  refine ⟨pgs_cons h1.pe h2.pe hs, ?_⟩
  intro H0 g H ρ σ ds vs ρ' Q sub sl r e k
  unfold gConsD at e
  split at e
  · cases e
  rename_i d ds
  split at e
  · cases e
  rename_i ρ1 e1
  obtain ⟨v, ws, rfl, r1, r2⟩ := RepL.inv r
  refine ⟨v, ws, rfl, h1.sn H0 g H ρ σ d v ρ1 _ sub sl r1 e1 fun σ1 sl1 w1 o1 => ?_⟩
  exact h2.sn H0 g H ρ1 σ1 ds ws ρ' Q sub sl1 r2 e fun σ2 sl2 w2 o2 => k σ2 sl2 (fun vs hv => by
    rw [w2 vs fun j hj => hv j (List.mem_append_right _ hj), w1 vs fun j hj => hv j (List.mem_append_left _ hj)]) (o1.trans o2)
def gTupD (h : List D → Ro → Option Ro) : DG := fun d ρ => match d with
  | .tuple ds => h ds ρ
  | _ => none
def LenG (n : Nat) (h : List D → Ro → Option Ro) : Prop := ∀ ds ρ ρ', h ds ρ = some ρ' → ds.length = n
theorem leng_nil : LenG 0 gNilD := fun ds ρ ρ' e => by
  unfold gNilD at e
  split at e
  · rfl
  · cases e
theorem leng_cons {n : Nat} {f : DG} {h : List D → Ro → Option Ro} (l : LenG n h) : LenG (n + 1) (gConsD f h) := fun ds ρ ρ' e => by
  unfold gConsD at e
  split at e
  · cases e
  split at e
  · cases e
  rw [List.length_cons, l _ _ _ e]
theorem eg_tup {es : List Expr} {k : Nat} {t : TGs} {n : Nat} {js : List Nat} {h : List D → Ro → Option Ro} {pos : Pos} (hc : X.calm = true) (hh : EGs X es t js h) (l : LenG n h)
    (hn : (assignEach es X.env).length = n := by rfl) (hst : (assignEach es X.env).findIdx? (·.1) = none := by rfl) : EG X (.Tuple es k pos) (gTup X.K n t) js (gTupD h) := by
  refine ⟨pg_tup hc hh.pe hn hst, ?_⟩
  intro H0 g H ρ σ d v ρ' Q sub sl r e k
  unfold gTupD at e
  split at e
  · rename_i ds
    rw [Rep] at r
    obtain ⟨a, vs, rfl, q, z, r⟩ := r
    exact ⟨a, vs, rfl, SqT.mono sub q, by rw [r.length]; exact l _ _ _ e, hh.sn H0 g H ρ σ ds vs ρ' Q sub sl r e k⟩
  · cases e

/-! ## list comprehensions -/
def wipeR (ρ : Ro) : List Nat → Ro
  | [] => ρ
  | v :: vs => (wipeR ρ vs).set v .un
theorem Slots.wipe {H0 : Hp} {g : Gh} {H : Hp} {ρ : Ro} {σ : L2.St} (h : Slots K H0 g H ρ σ) : ∀ vs : List Nat, Slots K H0 g H (wipeR ρ vs) (L2.wipe σ vs)
  | [] => h
  | v :: vs => (Slots.wipe h vs).set v trivial fun xs z => nomatch z
theorem wipe_get (σ : L2.St) : ∀ (vs : List Nat) (i : Nat), (L2.wipe σ vs)[i]? = if i ∈ vs then (if i < σ.length then some none else none) else σ[i]?
  | [], i => by simp [L2.wipe]
  | v :: vs, i => by
    show ((L2.wipe σ vs).set v none)[i]? = _
    rw [List.getElem?_set, wipe_get σ vs i, wipe_length]
    by_cases hv : v = i
    · subst hv; simp
    · simp only [hv, if_false, List.mem_cons, Ne.symm hv, false_or]
theorem wipe_wipe (σ : L2.St) (vs : List Nat) : L2.wipe (L2.wipe σ vs) vs = L2.wipe σ vs := by
  apply List.ext_getElem?
  intro i
  rw [wipe_get, wipe_get, wipe_length]
  split <;> rfl
/-- the turns of a comprehension -/
def lcD (fg : DG) (ft : DT) (fe : DE) (ρ : Ro) : List D → Wd → Option (List D × Wd)
  | [], ω => some ([], ω)
  | d :: ds, ω => match fg d ρ with
    | none => none
    | some ρ1 => match ft ρ1 ω with
      | none => none
      | some (c, ω1) => if c = true then (match fe ρ1 ω1 with
          | none => none
          | some (x, ω2) => match lcD fg ft fe ρ ds ω2 with
            | none => none
            | some (xs, ω3) => some (x :: xs, ω3))
        else lcD fg ft fe ρ ds ω1
def eLcN (fi : DA) (fg : DG) (ft : DT) (fe : DE) (vs : List Nat) : DA := fun ρ ω => match fi ρ ω with
  | none => none
  | some (ds, ω1) => lcD fg ft fe (wipeR ρ vs) ds ω1
theorem own_step {g g' : Gh} {H H' : Hp} {ω' : Wd} {p : Addr} {vs : List V} (hp : H p = some (.lst vs)) (hG : g.G p = none) (hS : ¬ g.S p) (st : Step g H g' H') (ok : GOk K g' H' ω') : H' p = some (.lst vs) ∧ g'.G p = none ∧ ¬ g'.S p := by
  have hp' := st.fr p _ hp hS
  refine ⟨hp', ?_, fun q => ?_⟩
  · cases q : g'.G p with
    | none => rfl
    | some o =>
      have e2 := ok.sub p o q
      rw [hp'] at e2; cases e2
      rcases st.nw p vs q with z | z
      · rw [hG] at z; cases z
      · rw [hp] at z; cases z
  · rcases st.nS p q with z | z
    · exact hS z
    · rw [hp] at z; cases z
theorem lc_sound {wi : TI} {tg : TG} {tt : TT} {te : TE} {fi : DA} {fg : DG} {ft : DT} {fe : DE} {js vs : List Nat} (hi : SndI K b wi fi) (hg : SndG K tg js fg) (hj : ∀ j ∈ js, j ∈ vs) (ht : SndT K tt ft) (he : Snd K true te fe)
    {g0 : Gh} {H0 : Hp} {g : Gh} {H : Hp} {ρ : Ro} {ω : Wd} {σ : L2.St} {Q : VK} {ds : List D} {ω' : Wd} (ok : GOk K g H ω) (st : Step g0 H0 g H) (sl : Slots K H0 g H ρ σ) (e : eLcN fi fg ft fe vs ρ ω = some (ds, ω'))
    (k : ∀ p ws g' H', Step g H g' H' → GOk K g' H' ω' → H p = none → H' p = some (.lst ws) → g'.G p = none → ¬ g'.S p → ws.length ≤ sizeLine → RepL K g'.ι g'.G ds ws → Q (.ref p) H') : tLc wi tg tt te vs σ H Q := by
  unfold eLcN at e
  split at e
  · cases e
  rename_i items ω1 e1
  refine hi g0 H0 g H ρ ω σ _ items ω1 ok st sl e1 fun J g1 H1 s1 ok1 hz hJ => ?_
  intro P hP
  refine ⟨fun i m H2 => m = items.length - i ∧ i ≤ items.length ∧ ∃ g2 ω2 acc accD rest, Step g1 H1 g2 H2 ∧ GOk K g2 H2 ω2 ∧ H2 P = some (.lst acc) ∧ g2.G P = none ∧ ¬ g2.S P ∧ acc.length ≤ i ∧ RepL K g2.ι g2.G accD acc ∧ lcD fg ft fe (wipeR ρ vs) (items.drop i) ω2 = some (rest, ω') ∧ accD ++ rest = ds, ?_, ?_⟩
  · obtain ⟨s2, ok2⟩ := allocOwn ok1 hP (o := .lst [])
    have nG : g1.G P = none := by
      cases q : g1.G P with
      | none => rfl
      | some u => rw [ok1.sub P u q] at hP; cases hP
    have nS : ¬ g1.S P := fun q => by obtain ⟨u, e, _⟩ := ok1.sl P q; rw [hP] at e; cases e
    exact ⟨_, rfl, Nat.zero_le _, g1, ω1, [], [], ds, s2, ok2, upd_same, nG, nS, Nat.le_refl _, .nil, e, rfl⟩
  · rintro i m H2 ⟨rfl, hil, g2, ω2, acc, accD, rest, s2, ok2, hP2, hG2, hS2, hal, hacc, hrest, happ⟩
    have it := hJ g2 H2 (Later.step s2 ok2)
    by_cases hlt : i < items.length
    · obtain ⟨d, hd⟩ : ∃ d, items[i]? = some d := ⟨_, List.getElem?_eq_getElem hlt⟩
      obtain ⟨go, hy⟩ := it.go i d hd
      rw [List.drop_eq_getElem_cons hlt] at hrest
      have hd' : items[i] = d := by rw [List.getElem?_eq_getElem hlt] at hd; exact Option.some.inj hd
      rw [hd'] at hrest
      unfold lcD at hrest
      refine .inr ⟨go, fun H' => ∃ m', m' = items.length - (i + 1) ∧ (i + 1) ≤ items.length ∧ ∃ g2 ω2 acc accD rest, Step g1 H1 g2 H' ∧ GOk K g2 H' ω2 ∧ H' P = some (.lst acc) ∧ g2.G P = none ∧ ¬ g2.S P ∧ acc.length ≤ i + 1 ∧ RepL K g2.ι g2.G accD acc ∧ lcD fg ft fe (wipeR ρ vs) (items.drop (i + 1)) ω2 = some (rest, ω') ∧ accD ++ rest = ds,
        fun H' ⟨m', e', r'⟩ => ⟨m', by omega, e', r'⟩, fun x H3 hyld => ?_⟩
      obtain ⟨g3, s3, k3, r3⟩ := hy x H3 hyld
      have ok3 := k3 ω2 ok2
      split at hrest
      · cases hrest
      rename_i ρ1 eg
      have sall : Step g H g3 H3 := (s1.trans s2).trans s3
      have sl3 : Slots K H0 g3 H3 ρ σ := sl.step sall ok3
      refine hg H0 g3 H3 _ _ d x ρ1 _ ok3.sub (sl3.wipe vs) r3 eg fun σ4 sl4 w4 _ => ⟨?_, ?_⟩
      · rw [w4 vs hj, wipe_wipe]
      split at hrest
      · cases hrest
      rename_i c ω4 et
      refine ht g0 H0 g3 H3 ρ1 ω2 σ4 _ c ω4 ok3 (st.trans sall) sl4 et fun g5 H5 s5 ok5 => ?_
      obtain ⟨hP3, hG3, hS3⟩ := own_step hP2 hG2 hS2 s3 ok3
      obtain ⟨hP5, hG5, hS5⟩ := own_step hP3 hG3 hS3 s5 ok5
      cases c with
      | false =>
        refine iteF ?_
        rw [if_neg Bool.false_ne_true] at hrest
        exact ⟨_, rfl, hlt, g5, ω4, acc, accD, rest, (s2.trans s3).trans s5, ok5, hP5, hG5, hS5, Nat.le_succ_of_le hal, hacc.mono (s3.trans s5).ιm (s3.trans s5).Gm, hrest, happ⟩
      | true =>
        refine iteT ?_
        rw [if_pos rfl] at hrest
        split at hrest
        · cases hrest
        rename_i y ω6 ee
        split at hrest
        · cases hrest
        rename_i ys ω7 er
        cases hrest
        refine he g0 H0 g5 H5 ρ1 ω4 σ4 _ y ω6 ok5 (st.trans (sall.trans s5)) (sl4.step s5 ok5) ee fun v g6 H6 s6 ok6 r6 => ?_
        obtain ⟨hP6, hG6, hS6⟩ := own_step hP5 hG5 hS5 s6 ok6
        refine ⟨acc, hP6, Nat.lt_of_le_of_lt hal (Nat.lt_of_lt_of_le hlt hz), _, rfl, hlt, g6, ω6, acc ++ [v], accD ++ [y], ys, ?_, mutOk ok6 hP6 hG6 hS6, upd_same, hG6, hS6, ?_, ?_, er, ?_⟩
        · exact mutStep (((s2.trans s3).trans s5).trans s6) hP
        · rw [List.length_append]; exact Nat.succ_le_succ hal
        · exact (hacc.mono ((s3.trans s5).trans s6).ιm ((s3.trans s5).trans s6).Gm).append (.cons r6 .nil)
        · rw [← happ, List.append_assoc]; rfl
    · have hil' : i = items.length := by omega
      subst hil'
      rw [List.drop_length] at hrest
      unfold lcD at hrest
      cases hrest
      rw [List.append_nil] at happ
      subst happ
      exact .inl ⟨it.stop _ (Nat.le_refl _), k P acc g2 H2 (s1.trans s2) ok2 (s1.al P hP) hP2 hG2 hS2 (Nat.le_trans hal hz) hacc⟩
/-- a list that was one's own is settled -/
theorem settle {g : Gh} {H : Hp} {ω : Wd} {p : Addr} {vs : List V} (ok : GOk K g H ω) (hp : H p = some (.lst vs)) (hG : g.G p = none) (hS : ¬ g.S p) : GOk K (g.add p (.lst vs)) H ω ∧ GLe g (g.add p (.lst vs)) := by
  have up : ∀ a o, g.G a = some o → upd g.G p (.lst vs) a = some o := fun a o h => upd_keep hG h
  have inv : ∀ a o, (g.add p (.lst vs)).G a = some o → (a = p ∧ o = .lst vs) ∨ (a ≠ p ∧ g.G a = some o) := fun a o h => by
    by_cases hap : a = p
    · subst hap
      rw [Gh.add] at h; simp only at h; rw [upd_same] at h; cases h; exact .inl ⟨rfl, rfl⟩
    · rw [Gh.add] at h; simp only at h; rw [upd_ne hap] at h; exact .inr ⟨hap, h⟩
  refine ⟨⟨fun a o h => ?_, fun a o h => ?_, fun a o h => ?_, ok.inj, ok.inS, fun n o e => ?_, ok.sl, ok.lv, ok.tb⟩, ⟨fun _ _ h => h, up⟩⟩
  · rcases inv a o h with ⟨rfl, rfl⟩ | ⟨_, h⟩
    · exact hp
    · exact ok.sub a o h
  · rcases inv a o h with ⟨rfl, rfl⟩ | ⟨_, h⟩
    · rfl
    · exact ok.seq a o h
  · rcases inv a o h with ⟨rfl, rfl⟩ | ⟨_, h⟩
    · exact hS
    · exact ok.nS a o h
  · obtain ⟨a, ia, h⟩ := ok.st n o e
    exact ⟨a, ia, h.mono (fun _ _ h => h) up rfl⟩
theorem settleStep {g0 g : Gh} {H0 H : Hp} {p : Addr} {vs : List V} (st : Step g0 H0 g H) (hG : g.G p = none) (h0 : H0 p = none) : Step g0 H0 (g.add p (.lst vs)) H := by
  refine ⟨st.ιm, fun a o h => upd_keep hG (st.Gm a o h), st.Sm, st.fr, st.nS, st.al, fun a ws h => ?_, st.lv, st.ιl⟩
  by_cases hap : a = p
  · subst hap; exact .inr h0
  · rw [Gh.add] at h; simp only at h; rw [upd_ne hap] at h; exact st.nw a ws h
def eOfN (f : DA) : DE := fun ρ ω => match f ρ ω with
  | none => none
  | some (ds, ω1) => some (.list ds, ω1)
section
variable {elt tg iter : Expr} {ifs : List Expr} {scope : Scope} {own : List (Str × Nat)} {pos : Pos} {wi : TI} {g : TG} {tt : TT} {te : TE} {fi : DA} {fg : DG} {ft : DT} {fe : DE} {js : List Nat}
structure ETs (X : Cx) (ifs : List Expr) (t : TT) (f : DT) : Prop where
  pe : PTs X ifs t
  sn : SndT X.K t f
def tYesD : DT := fun _ ω => some (true, ω)
theorem ets_nil : ETs X [] tYes tYesD := ⟨pts_nil, fun g0 H0 g H ρ ω σ Q d ω' ok st sl e k => by cases e; exact k g H (.refl _ _) ok⟩
theorem ets_one {c : Expr} {t : TT} {f : DT} (h : ET X c t f) : ETs X [c] t f := ⟨pts_one h.pe, h.sn⟩
theorem pe_lcD (hc : X.calm = true) (hN : X.N.Nodup) (hi : EI X b tg iter wi fi) (ok : BlkOk X.N X.env.scope scope own)
    (hg : ∀ (s : Shared) (H : Hp) (C : Addr) (cl : List (Str × Addr)) (fp : List Addr), EG (X.blk s H scope (compEnvC scope cl C X.env) fp) tg g js fg)
    (ht : ∀ (s : Shared) (H : Hp) (C : Addr) (cl : List (Str × Addr)) (fp : List Addr), ETs (X.blk s H scope (compEnvC scope cl C X.env) fp) ifs tt ft)
    (he : ∀ (s : Shared) (H : Hp) (C : Addr) (cl : List (Str × Addr)) (fp : List Addr), EX (X.blk s H scope (compEnvC scope cl C X.env) fp) true elt te fe) (hs : ∀ x, foldedSetIterable iter X.env x = pure x := by intro _; rfl) :
    PE X (.ListComp elt [⟨tg, iter, ifs, 0⟩] scope pos) (tLc wi g tt te (own.map (·.2))) :=
  pe_lc hc hN hi.pe ok (fun s H C cl fp => (hg s H C cl fp).pe) (fun s H C cl fp => (ht s H C cl fp).pe) (fun s H C cl fp => (he s H C cl fp).pe) hs
/-- a comprehension whose list is one's own -/
theorem en_lc (hc : X.calm = true) (hN : X.N.Nodup) (hi : EI X b tg iter wi fi) (ok : BlkOk X.N X.env.scope scope own)
    (hg : ∀ (s : Shared) (H : Hp) (C : Addr) (cl : List (Str × Addr)) (fp : List Addr), EG (X.blk s H scope (compEnvC scope cl C X.env) fp) tg g js fg)
    (ht : ∀ (s : Shared) (H : Hp) (C : Addr) (cl : List (Str × Addr)) (fp : List Addr), ETs (X.blk s H scope (compEnvC scope cl C X.env) fp) ifs tt ft)
    (he : ∀ (s : Shared) (H : Hp) (C : Addr) (cl : List (Str × Addr)) (fp : List Addr), EX (X.blk s H scope (compEnvC scope cl C X.env) fp) true elt te fe)
    (hj : ∀ j ∈ js, j ∈ own.map (·.2) := by decide) (hs : ∀ x, foldedSetIterable iter X.env x = pure x := by intro _; rfl) :
    EN X (.ListComp elt [⟨tg, iter, ifs, 0⟩] scope pos) (tLc wi g tt te (own.map (·.2))) (eLcN fi fg ft fe (own.map (·.2))) := by
  refine ⟨pe_lcD hc hN hi ok hg ht he hs, ?_⟩
  intro g0 H0 gh H ρ ω σ Q ds ω' ok' st sl e k
  exact lc_sound hi.sn (hg X.s_0 X.H_0 0 [] []).sn hj (ht X.s_0 X.H_0 0 [] []).sn (he X.s_0 X.H_0 0 [] []).sn ok' st sl e fun p ws g' H' s' ok2 h1 h2 h3 h4 h5 h6 => k p ws g' H' s' ok2 h1 h2 h3 h4 h5 h6
/-- any list that would be one's own, settled at once -/
theorem EN.x {e : Expr} {t : TE} {f : DA} (h : EN X e t f) : EX X true e t (eOfN f) := by
  refine ⟨h.pe, ?_⟩
  intro g0 H0 g H ρ ω σ Q d ω' ok st sl e k
  unfold eOfN at e
  split at e
  · cases e
  rename_i ds ω1 e1
  cases e
  refine h.sn g0 H0 g H ρ ω σ Q ds ω' ok st sl e1 fun p vs g' H' s' ok' h1 h2 h3 h4 h5 h6 => ?_
  obtain ⟨ok2, le⟩ := settle ok' h2 h3 h4
  refine k _ _ H' (settleStep s' h3 h1) ok2 ?_
  show Rep X.K (g'.add p (.lst vs)).ι (g'.add p (.lst vs)).G (.list ds) (.ref p)
  rw [Rep]
  exact ⟨p, vs, rfl, upd_same, h5, h6.mono le.ιm le.Gm⟩
end
end
end Dn
end

section
namespace Dn
open PySem PySem.Spec L2
variable [Tb]

section
variable {X : Cx} {K : PySem.W.Frag} {b b' : Bool}
/-! ## calls of built-ins -/
def CalS (K : PySem.W.Frag) (b b' : Bool) (r : List V → Hp → VK → Prop) (op : List D → Option D) : Prop :=
  ∀ (g0 : Gh) (H0 : Hp) (g : Gh) (H : Hp) (ω : Wd) (ds : List D) (vs : List V) (d : D) (Q : VK), GOk K g H ω → Step g0 H0 g H → RBL K b g0 H0 g H ds vs → op ds = some d →
    (∀ u g' H', Step g H g' H' → GOk K g' H' ω → RB K b' g0 H0 g' H' d u → Q u H') → r vs H Q
def eCall (op : List D → Option D) (a : DA) : DE := fun ρ ω => match a ρ ω with
  | none => none
  | some (ds, ω1) => match op ds with
    | none => none
    | some d => some (d, ω1)
theorem sn_call {r : List V → Hp → VK → Prop} {op : List D → Option D} {t : TA} {f : DA} (hs : CalS K b b' r op) (h : SndA K b t f) : Snd K b' (tCB r t) (eCall op f) := by
  intro g0 H0 g H ρ ω σ Q d ω' ok st sl e k
  unfold eCall at e
  split at e
  · cases e
  rename_i ds ω1 e1
  split at e
  · cases e
  rename_i d1 e2
  cases e
  refine h g0 H0 g H ρ ω σ _ ds ω' ok st sl e1 fun vs g1 H1 s1 ok1 r1 => ?_
  exact hs g0 H0 g1 H1 ω' ds vs d Q ok1 (st.trans s1) r1 e2 fun u g2 H2 s2 ok2 r2 => k u g2 H2 (s1.trans s2) ok2 r2
section
variable {r : List V → Hp → VK → Prop} {op : List D → Option D} {t : TA} {f : DA} {e : Expr} {es : List Expr} {p pos : Pos} {x : Str} {id : String}
theorem ex_callB (hc : CallR X (.builtin id) r) (hs : CalS X.K b b' r op) (hm : X.mg x = none) (hv : bootBuiltins x = some (.builtin id)) (ha : EA X b (e :: es) t f) (hg : Gl X x := by rfl) (hn : x ≠ "__name__" := by decide) (hdb : (x == ("__debug__" : Str)) = false := by decide)
    (he : starEach (e :: es) X.env = (false, eval e X.env) :: starEach es X.env := by rfl) (hpl : (backTo pos (starEach es X.env)).any (·.1) = false := by rfl) : EX X b' (.Call (.Name x p) (e :: es) [] pos) (tCB r t) (eCall op f) :=
  ⟨pe_callB hc hg hm hv ha.pe hn hdb he hpl, sn_call hs ha.sn⟩
theorem ex_callTy (hc : CallR X (.type id) r) (hs : CalS X.K b b' r op) (hm : X.mg x = none) (hv : bootBuiltins x = some (.type id)) (ha : EA X b (e :: es) t f) (hg : Gl X x := by rfl) (hn : x ≠ "__name__" := by decide) (hdb : (x == ("__debug__" : Str)) = false := by decide)
    (he : starEach (e :: es) X.env = (false, eval e X.env) :: starEach es X.env := by rfl) (hpl : (backTo pos (starEach es X.env)).any (·.1) = false := by rfl) : EX X b' (.Call (.Name x p) (e :: es) [] pos) (tCB r t) (eCall op f) :=
  ⟨pe_callTy hc hg hm hv ha.pe hn hdb he hpl, sn_call hs ha.sn⟩
end
theorem RBL.one {g0 g : Gh} {H0 H : Hp} {d : D} {vs : List V} (h : RBL K b g0 H0 g H [d] vs) : ∃ v, vs = [v] ∧ RB K b g0 H0 g H d v := by
  obtain ⟨v, ws, rfl, r, t⟩ := RepL.inv h
  have : ws = [] := by rw [RepL] at t; exact t
  subst this
  exact ⟨v, rfl, r⟩
theorem RBL.two {g0 g : Gh} {H0 H : Hp} {d e : D} {vs : List V} (h : RBL K b g0 H0 g H [d, e] vs) : ∃ v w, vs = [v, w] ∧ RB K b g0 H0 g H d v ∧ RB K b g0 H0 g H e w := by
  obtain ⟨v, ws, rfl, r, t⟩ := RepL.inv h
  obtain ⟨w, rfl, q⟩ := RBL.one (b := b) (g0 := g0) (H0 := H0) (g := g) (H := H) t
  exact ⟨v, w, rfl, r, q⟩
/-- one argument -/
theorem cal_one {r : List V → Hp → VK → Prop} {op : List D → Option D} (hop : ∀ ds d, op ds = some d → ∃ x, ds = [x])
    (h : ∀ (g0 : Gh) (H0 : Hp) (g : Gh) (H : Hp) (ω : Wd) (x : D) (v : V) (d : D) (Q : VK), GOk K g H ω → Step g0 H0 g H → RB K b g0 H0 g H x v → op [x] = some d → (∀ u g' H', Step g H g' H' → GOk K g' H' ω → RB K b' g0 H0 g' H' d u → Q u H') → r [v] H Q) : CalS K b b' r op := by
  intro g0 H0 g H ω ds vs d Q ok st rr e k
  obtain ⟨x, rfl⟩ := hop ds d e
  obtain ⟨v, rfl, q⟩ := RBL.one rr
  exact h g0 H0 g H ω x v d Q ok st q e k
/-- len -/
def opLen : List D → Option D
  | [.list xs] => some (.int xs.length)
  | [.tuple xs] => some (.int xs.length)
  | [.str z] => if z.length ≤ sizeLine then some (.int z.length) else none
  | _ => none
theorem cal_len : CalS K b true (fun xs H Q => ∃ x n, xs = [x] ∧ LenV K x H n ∧ Q (.int n) H) opLen := by
  refine cal_one (fun ds d e => ?_) fun g0 H0 g H ω x v d Q ok st r e k => ?_
  · unfold opLen at e; split at e <;> first | exact ⟨_, rfl⟩ | cases e
  · unfold opLen at e
    split at e
    · rename_i xs h; cases h; cases e
      obtain ⟨a, vs, rfl, q, z, l⟩ := r.lstV ok
      exact ⟨_, vs.length, rfl, .inl ⟨vs, SqL.of q, rfl⟩, by rw [RepL.length l]; exact k _ g H (.refl _ _) ok .int⟩
    · rename_i xs h; cases h; cases e
      obtain ⟨a, vs, rfl, q, z, l⟩ := r.tupV ok
      exact ⟨_, vs.length, rfl, .inr ⟨vs, q, rfl⟩, by rw [RepL.length l]; exact k _ g H (.refl _ _) ok .int⟩
    · rename_i z h; cases h
      split at e
      · rename_i hz; cases e
        rw [r.strV]
        exact ⟨_, z.length, rfl, ⟨hz, rfl⟩, k _ g H (.refl _ _) ok .int⟩
      · cases e
    · cases e
/-- int of an int, of a truth -/
def opInt : List D → Option D
  | [.int i] => some (.int i)
  | [.bool c] => some (.int (if c then 1 else 0))
  | _ => none
theorem cal_int : CalS K b true (fun xs H Q => (∃ i, xs = [.int i] ∧ Q (.int i) H) ∨ ∃ k, xs = [.bl k] ∧ Q (.int (if k then 1 else 0)) H) opInt := by
  refine cal_one (fun ds d e => ?_) fun g0 H0 g H ω x v d Q ok st r e k => ?_
  · unfold opInt at e; split at e <;> first | exact ⟨_, rfl⟩ | cases e
  · unfold opInt at e
    split at e
    · rename_i i h; cases h; cases e
      rw [r.intV]
      exact .inl ⟨_, rfl, k _ g H (.refl _ _) ok .int⟩
    · rename_i i h; cases h; cases e
      rw [r.blV]
      exact .inr ⟨_, rfl, k _ g H (.refl _ _) ok .int⟩
    · cases e
/-- str of an int -/
def opStr : List D → Option D
  | [.int i] => if i.natAbs.log2 < 1920 then some (.str (toString i)) else none
  | _ => none
theorem cal_str : CalS K b true (fun xs H Q => ∃ i, xs = [.int i] ∧ i.natAbs.log2 < 1920 ∧ Q (.str (toString i)) H) opStr := by
  refine cal_one (fun ds d e => ?_) fun g0 H0 g H ω x v d Q ok st r e k => ?_
  · unfold opStr at e; split at e <;> first | exact ⟨_, rfl⟩ | cases e
  · unfold opStr at e
    split at e
    · rename_i i h; cases h
      split at e <;> cases e
      rename_i hz
      rw [r.intV]
      exact ⟨_, rfl, hz, k _ g H (.refl _ _) ok .str⟩
    · cases e
def opAbs : List D → Option D
  | [.int i] => some (.int (if i < 0 then -i else i))
  | _ => none
theorem cal_abs : CalS K b true (fun xs H Q => ∃ i, xs = [.int i] ∧ Q (.int (if i < 0 then -i else i)) H) opAbs := by
  refine cal_one (fun ds d e => ?_) fun g0 H0 g H ω x v d Q ok st r e k => ?_
  · unfold opAbs at e; split at e <;> first | exact ⟨_, rfl⟩ | cases e
  · unfold opAbs at e
    split at e
    · rename_i i h; cases h; cases e
      rw [r.intV]
      exact ⟨_, rfl, k _ g H (.refl _ _) ok .int⟩
    · cases e
/-- min, max of two ints -/
def opMin2 : List D → Option D
  | [.int i, .int j] => some (.int (if j < i then j else i))
  | _ => none
def opMax2 : List D → Option D
  | [.int i, .int j] => some (.int (if j > i then j else i))
  | _ => none
theorem cal_int2 {r : List V → Hp → VK → Prop} {op : List D → Option D} (h : ∀ ds d, op ds = some d → ∃ i j m, ds = [.int i, .int j] ∧ d = .int m ∧ ∀ (Q : VK) (H : Hp), Q (.int m) H → r [.int i, .int j] H Q) : CalS K b true r op := by
  intro g0 H0 g H ω ds vs d Q ok st rr e k
  obtain ⟨i, j, m, rfl, rfl, hq⟩ := h ds d e
  obtain ⟨v, w, rfl, q1, q2⟩ := RBL.two rr
  rw [q1.intV, q2.intV]
  exact hq Q H (k _ g H (.refl _ _) ok .int)
theorem cal_min2 : CalS K b true (fun xs H Q => ∃ i j, xs = [.int i, .int j] ∧ Q (.int (if j < i then j else i)) H) opMin2 := cal_int2 fun ds d e => by
  unfold opMin2 at e
  split at e
  · cases e; exact ⟨_, _, _, rfl, rfl, fun Q H q => ⟨_, _, rfl, q⟩⟩
  · cases e
theorem cal_max2 : CalS K b true (fun xs H Q => ∃ i j, xs = [.int i, .int j] ∧ Q (.int (if j > i then j else i)) H) opMax2 := cal_int2 fun ds d e => by
  unfold opMax2 at e
  split at e
  · cases e; exact ⟨_, _, _, rfl, rfl, fun Q H q => ⟨_, _, rfl, q⟩⟩
  · cases e
/-- all ints; all truths; all texts -/
def intsOf : List D → Option (List Int)
  | [] => some []
  | .int i :: ds => (intsOf ds).map (i :: ·)
  | _ => none
theorem intsOf_eq : ∀ {ds : List D} {ns : List Int}, intsOf ds = some ns → ds = ns.map PyData.int
  | [], ns, e => by cases e; rfl
  | .int i :: ds, ns, e => by
    rw [intsOf] at e
    obtain ⟨ms, h, rfl⟩ := Option.map_eq_some_iff.mp e
    rw [intsOf_eq h]; rfl
  | .none :: _, _, e => nomatch e
  | .bool _ :: _, _, e => nomatch e
  | .str _ :: _, _, e => nomatch e
  | .list _ :: _, _, e => nomatch e
  | .tuple _ :: _, _, e => nomatch e
  | .dict _ :: _, _, e => nomatch e
theorem intsOf_map (ns : List Int) : intsOf (ns.map PyData.int) = some ns := by
  induction ns with
  | nil => rfl
  | cons n ns ih => rw [List.map_cons, intsOf, ih]; rfl
def blsOf : List D → Option (List Bool)
  | [] => some []
  | .bool i :: ds => (blsOf ds).map (i :: ·)
  | _ => none
theorem blsOf_eq : ∀ {ds : List D} {ns : List Bool}, blsOf ds = some ns → ds = ns.map PyData.bool
  | [], ns, e => by cases e; rfl
  | .bool i :: ds, ns, e => by
    rw [blsOf] at e
    obtain ⟨ms, h, rfl⟩ := Option.map_eq_some_iff.mp e
    rw [blsOf_eq h]; rfl
  | .none :: _, _, e => nomatch e
  | .int _ :: _, _, e => nomatch e
  | .str _ :: _, _, e => nomatch e
  | .list _ :: _, _, e => nomatch e
  | .tuple _ :: _, _, e => nomatch e
  | .dict _ :: _, _, e => nomatch e
theorem blsOf_map (ns : List Bool) : blsOf (ns.map PyData.bool) = some ns := by
  induction ns with
  | nil => rfl
  | cons n ns ih => rw [List.map_cons, blsOf, ih]; rfl
/-- sum of a list or a tuple of ints -/
def opSum : List D → Option D
  | [.list xs] => (intsOf xs).map fun ns => .int ns.sum
  | [.tuple xs] => (intsOf xs).map fun ns => .int ns.sum
  | _ => none
def rSumA (K : PySem.W.Frag) : List V → Hp → VK → Prop := fun vs H Q => ∃ (a : Addr) (ns : List Int), vs = [V.ref a] ∧ (SqL K H a (ns.map V.int) ∨ SqT K H a (ns.map V.int)) ∧ Q (.int ns.sum) H
open PyProof.V PyProof.Rows PySem.W in
theorem cr_sumA {X : Cx} (hc : X.calm = true) : CallR X (.builtin "sum") (rSumA X.K) := by
  intro pins s σ H vs us Q I r h
  obtain ⟨a, ns, rfl, hs | hs, q⟩ := h
  · exact cr_sum hc pins s σ H _ us Q I r ⟨a, ns, rfl, hs, q⟩
  · obtain ⟨its, rv, hl, _⟩ := I.tuple hs
    rw [Vals.ref1 r]
    have hi := rv.ints
    obtain ⟨xs, hx⟩ := hi.allInts.items
    have hn : numsOf its.toArray.toList = ns := by rw [show its.toArray.toList = its from rfl, hi.numsOf]
    have hl' : s.heap.IsTuple a its.toArray := hl
    rw [hx] at hl' hn
    rw [nums_intItems] at hn
    refine PySem.W.ktm_sumG (I.ok.hd hc) hl' fun h' tk t' hk => ?_
    rw [preSum_eq, List.take_of_length_le (by simp), hn]
    exact ⟨.int _, H, I.kept hk, ⟨_, rfl⟩, q⟩
theorem cal_sum : CalS K b true (rSumA K) opSum := by
  refine cal_one (fun ds d e => ?_) fun g0 H0 g H ω x v d Q ok st r e k => ?_
  · unfold opSum at e; split at e <;> first | exact ⟨_, rfl⟩ | cases e
  · unfold opSum at e
    split at e
    · rename_i xs h; cases h
      obtain ⟨ns, h1, rfl⟩ := Option.map_eq_some_iff.mp e
      obtain ⟨a, vs, rfl, q, z, l⟩ := r.lstV ok
      rw [intsOf_eq h1] at l
      have l' := RepL.intsV l
      subst l'
      exact ⟨a, ns, rfl, .inl (SqL.of q), k _ g H (.refl _ _) ok .int⟩
    · rename_i xs h; cases h
      obtain ⟨ns, h1, rfl⟩ := Option.map_eq_some_iff.mp e
      obtain ⟨a, vs, rfl, q, z, l⟩ := r.tupV ok
      rw [intsOf_eq h1] at l
      have l' := RepL.intsV l
      subst l'
      exact ⟨a, ns, rfl, .inr q, k _ g H (.refl _ _) ok .int⟩
    · cases e
def opAll : List D → Option D
  | [.list xs] => (blsOf xs).map fun ns => .bool (ns.all id)
  | _ => none
def opAny : List D → Option D
  | [.list xs] => (blsOf xs).map fun ns => .bool (ns.any id)
  | _ => none
theorem cal_all : CalS K b true (rAll K) opAll := by
  refine cal_one (fun ds d e => ?_) fun g0 H0 g H ω x v d Q ok st r e k => ?_
  · unfold opAll at e; split at e <;> first | exact ⟨_, rfl⟩ | cases e
  · unfold opAll at e
    split at e
    · rename_i xs h; cases h
      obtain ⟨ns, h1, rfl⟩ := Option.map_eq_some_iff.mp e
      obtain ⟨a, vs, rfl, q, z, l⟩ := r.lstV ok
      rw [blsOf_eq h1] at l
      have l' := RepL.blsV l
      subst l'
      exact ⟨a, ns, rfl, SqL.of q, k _ g H (.refl _ _) ok .bl⟩
    · cases e
theorem cal_any : CalS K b true (rAny K) opAny := by
  refine cal_one (fun ds d e => ?_) fun g0 H0 g H ω x v d Q ok st r e k => ?_
  · unfold opAny at e; split at e <;> first | exact ⟨_, rfl⟩ | cases e
  · unfold opAny at e
    split at e
    · rename_i xs h; cases h
      obtain ⟨ns, h1, rfl⟩ := Option.map_eq_some_iff.mp e
      obtain ⟨a, vs, rfl, q, z, l⟩ := r.lstV ok
      rw [blsOf_eq h1] at l
      have l' := RepL.blsV l
      subst l'
      exact ⟨a, ns, rfl, SqL.of q, k _ g H (.refl _ _) ok .bl⟩
    · cases e
/-- tuple of a list, of a tuple -/
def opTuple : List D → Option D
  | [.list xs] => some (.tuple xs)
  | [.tuple xs] => some (.tuple xs)
  | _ => none
theorem cal_tuple : CalS K b b (fun xs H Q => ∃ p ys, xs = [.ref p] ∧ ((SqL K H p ys ∧ ∀ l, H l = none → Q (.ref l) (upd H l (.tup ys))) ∨ (SqT K H p ys ∧ Q (.ref p) H))) opTuple := by
  refine cal_one (fun ds d e => ?_) fun g0 H0 g H ω x v d Q ok st r e k => ?_
  · unfold opTuple at e; split at e <;> first | exact ⟨_, rfl⟩ | cases e
  · unfold opTuple at e
    split at e
    · rename_i xs h; cases h; cases e
      obtain ⟨a, vs, rfl, q, z, l⟩ := r.lstV ok
      refine ⟨a, vs, rfl, .inl ⟨SqL.of q, fun p hp => ?_⟩⟩
      obtain ⟨s2, ok2⟩ := alloc ok hp (o := .tup vs) rfl
      exact k _ _ _ s2 ok2 (.newTup ok st hp z l)
    · rename_i xs h; cases h; cases e
      have r' := r
      obtain ⟨a, vs, rfl, q, z, l⟩ := r.tupV ok
      exact ⟨a, vs, rfl, .inr ⟨q, k _ g H (.refl _ _) ok r'⟩⟩
    · cases e
/-- list of a list, of a tuple: a list of one's own -/
def aList (f : DA) : DA := fun ρ ω => match f ρ ω with
  | some ([.list xs], ω1) => some (xs, ω1)
  | some ([.tuple xs], ω1) => some (xs, ω1)
  | _ => none
def rListOf (K : PySem.W.Frag) : List V → Hp → VK → Prop := fun xs H Q => ∃ p ys, xs = [.ref p] ∧ (SqL K H p ys ∨ SqT K H p ys) ∧ ∀ l, H l = none → Q (.ref l) (upd H l (.lst ys))
theorem newOwn {g : Gh} {H : Hp} {ω : Wd} (ok : GOk K g H ω) {p : Addr} {o : HO} (hp : H p = none) : Step g H g (upd H p o) ∧ GOk K g (upd H p o) ω ∧ g.G p = none ∧ ¬ g.S p := by
  obtain ⟨s2, ok2⟩ := allocOwn ok hp (o := o)
  refine ⟨s2, ok2, ?_, fun q => by obtain ⟨u, e, _⟩ := ok.sl p q; rw [hp] at e; cases e⟩
  cases q : g.G p with
  | none => rfl
  | some u => rw [ok.sub p u q] at hp; cases hp
theorem snn_list {t : TA} {f : DA} (h : SndA K true t f) : SndN K (tCB (rListOf K) t) (aList f) := by
  intro g0 H0 g H ρ ω σ Q ds ω' ok st sl e k
  unfold aList at e
  split at e
  · rename_i xs ω1 e1
    cases e
    refine h g0 H0 g H ρ ω σ _ _ ω' ok st sl e1 fun vs g1 H1 s1 ok1 r1 => ?_
    obtain ⟨v, rfl, q⟩ := RBL.one r1
    obtain ⟨a, vs, rfl, q, z, l⟩ := q.lstV ok1
    refine ⟨a, vs, rfl, .inl (SqL.of q), fun p hp => ?_⟩
    obtain ⟨s2, ok2, nG, nS⟩ := newOwn ok1 hp (o := .lst vs)
    exact k p vs g1 _ (s1.trans s2) ok2 (s1.al p hp) upd_same nG nS z l
  · rename_i xs ω1 e1
    cases e
    refine h g0 H0 g H ρ ω σ _ _ ω' ok st sl e1 fun vs g1 H1 s1 ok1 r1 => ?_
    obtain ⟨v, rfl, q⟩ := RBL.one r1
    obtain ⟨a, vs, rfl, q, z, l⟩ := q.tupV ok1
    refine ⟨a, vs, rfl, .inr q, fun p hp => ?_⟩
    obtain ⟨s2, ok2, nG, nS⟩ := newOwn ok1 hp (o := .lst vs)
    exact k p vs g1 _ (s1.trans s2) ok2 (s1.al p hp) upd_same nG nS z l
  · cases e
theorem en_list {e : Expr} {t : TA} {f : DA} {p pos : Pos} (hm : X.mg "list" = none) (ha : EA X true [e] t f) (hg : Gl X "list" := by rfl)
    (he : starEach [e] X.env = (false, eval e X.env) :: starEach [] X.env := by rfl) (hpl : (backTo pos (starEach [] X.env)).any (·.1) = false := by rfl) : EN X (.Call (.Name "list" p) [e] [] pos) (tCB (rListOf X.K) t) (aList f) :=
  ⟨pe_callTy call_list_of hg hm PyProof.Rows.boot_list ha.pe (by decide) (by decide) he hpl, snn_list ha.sn⟩
/-- isinstance -/
def isi (T : String) : D → Bool
  | .none => false
  | .bool _ => T == "bool" || T == "int"
  | .int _ => T == "int"
  | .str _ => T == "str"
  | .list _ => T == "list"
  | .tuple _ => T == "tuple"
  | .dict _ => false
end
end Dn
end

section
namespace Dn
open PySem PySem.Spec L2
variable [Tb]

section
variable {X : Cx} {K : PySem.W.Frag} {b b' : Bool}
/-! ## isinstance -/
def tyN : D → Option String
  | .none => some "NoneType"
  | .bool _ => some "bool"
  | .int _ => some "int"
  | .str _ => some "str"
  | .list _ => some "list"
  | .tuple _ => some "tuple"
  | .dict _ => none
structure KitOk (T : String) : Prop where
  h0 : kitB "NoneType" T = some (isi T .none)
  h1 : ∀ c, kitB "bool" T = some (isi T (.bool c))
  h2 : ∀ c, kitB "int" T = some (isi T (.int c))
  h3 : ∀ c, kitB "str" T = some (isi T (.str c))
  h4 : ∀ c, kitB "list" T = some (isi T (.list c))
  h5 : ∀ c, kitB "tuple" T = some (isi T (.tuple c))
theorem kit_int : KitOk "int" := ⟨by decide +kernel, fun _ => by show kitB "bool" "int" = some true; decide +kernel, fun _ => by show kitB "int" "int" = some true; decide +kernel, fun _ => by show kitB "str" "int" = some false; decide +kernel, fun _ => by show kitB "list" "int" = some false; decide +kernel, fun _ => by show kitB "tuple" "int" = some false; decide +kernel⟩
theorem kit_bool : KitOk "bool" := ⟨by decide +kernel, fun _ => by show kitB "bool" "bool" = some true; decide +kernel, fun _ => by show kitB "int" "bool" = some false; decide +kernel, fun _ => by show kitB "str" "bool" = some false; decide +kernel, fun _ => by show kitB "list" "bool" = some false; decide +kernel, fun _ => by show kitB "tuple" "bool" = some false; decide +kernel⟩
theorem kit_str : KitOk "str" := ⟨by decide +kernel, fun _ => by show kitB "bool" "str" = some false; decide +kernel, fun _ => by show kitB "int" "str" = some false; decide +kernel, fun _ => by show kitB "str" "str" = some true; decide +kernel, fun _ => by show kitB "list" "str" = some false; decide +kernel, fun _ => by show kitB "tuple" "str" = some false; decide +kernel⟩
theorem kit_list : KitOk "list" := ⟨by decide +kernel, fun _ => by show kitB "bool" "list" = some false; decide +kernel, fun _ => by show kitB "int" "list" = some false; decide +kernel, fun _ => by show kitB "str" "list" = some false; decide +kernel, fun _ => by show kitB "list" "list" = some true; decide +kernel, fun _ => by show kitB "tuple" "list" = some false; decide +kernel⟩
theorem kit_tuple : KitOk "tuple" := ⟨by decide +kernel, fun _ => by show kitB "bool" "tuple" = some false; decide +kernel, fun _ => by show kitB "int" "tuple" = some false; decide +kernel, fun _ => by show kitB "str" "tuple" = some false; decide +kernel, fun _ => by show kitB "list" "tuple" = some false; decide +kernel, fun _ => by show kitB "tuple" "tuple" = some true; decide +kernel⟩
theorem kit_dict : KitOk "dict" := ⟨by decide +kernel, fun _ => by show kitB "bool" "dict" = some false; decide +kernel, fun _ => by show kitB "int" "dict" = some false; decide +kernel, fun _ => by show kitB "str" "dict" = some false; decide +kernel, fun _ => by show kitB "list" "dict" = some false; decide +kernel, fun _ => by show kitB "tuple" "dict" = some false; decide +kernel⟩
theorem KitOk.all {T : String} (k : KitOk T) : ∀ d t, tyN d = some t → kitB t T = some (isi T d)
  | .none, _, e => by cases e; exact k.h0
  | .bool c, _, e => by cases e; exact k.h1 c
  | .int c, _, e => by cases e; exact k.h2 c
  | .str c, _, e => by cases e; exact k.h3 c
  | .list c, _, e => by cases e; exact k.h4 c
  | .tuple c, _, e => by cases e; exact k.h5 c
  | .dict _, _, e => nomatch e
def notOb : D → Bool
  | .dict _ => false
  | _ => true
def opIsi (T : String) (d : D) : Option D := if notOb d = true then some (.bool (isi T d)) else none
theorem RB.ty {g0 g : Gh} {H0 H : Hp} {ω : Wd} {d : D} {v : V} (ok : GOk K g H ω) (h : RB K b g0 H0 g H d v) (n : notOb d = true) : ∃ t, tyN d = some t ∧ TyX K H v (.type t) := by
  cases d with
  | none => rw [h.nonV]; exact ⟨_, rfl, .base .non⟩
  | bool c => rw [h.blV]; exact ⟨_, rfl, .base (.bl _)⟩
  | int c => rw [h.intV]; exact ⟨_, rfl, .base (.int _)⟩
  | str c => rw [h.strV]; exact ⟨_, rfl, .base (.str _)⟩
  | list c =>
    obtain ⟨a, vs, rfl, q, _⟩ := h.lstV ok
    exact ⟨_, rfl, .base (.lst q)⟩
  | tuple c =>
    obtain ⟨a, vs, rfl, q, _⟩ := h.tupV ok
    refine ⟨_, rfl, ?_⟩
    rcases q with (q | ⟨o, q⟩) | ⟨o, its, n, q, c, _⟩
    · exact .base (.tup q)
    · exact .fTuple q
    · exact .kTuple q c
  | dict c => cases n
theorem ex_isi {T : String} {e : Expr} {ta : TE} {fa : DE} {x : Str} {p p2 pos : Pos} (k : KitOk T) (hm : X.mg "isinstance" = none) (hmT : X.mg x = none) (hvT : bootBuiltins x = some (.type T)) (he : EX X b e ta fa) (hg : Gl X "isinstance" := by rfl) (hgT : Gl X x := by rfl) (hnT : x ≠ "__name__" := by decide) (hdT : (x == ("__debug__" : Str)) = false := by decide)
    (hs1 : starEach [e, .Name x p2] X.env = (false, eval e X.env) :: starEach [.Name x p2] X.env := by rfl) (hs2 : starEach [.Name x p2] X.env = (false, eval (.Name x p2) X.env) :: starEach [] X.env := by rfl) (hpl : (backTo pos (starEach [.Name x p2] X.env)).any (·.1) = false := by rfl) :
    EX X true (.Call (.Name "isinstance" p) [e, .Name x p2] [] pos) (tCB (rIsi X.K) (tCons ta (tCons (tC (.ty T)) tNil))) (eUn (opIsi T) fa) := by
  refine ⟨pe_callB call_isi hg hm PyProof.Rows.boot_isinstance (pa_cons he.pe (pa_cons (pe_bltn hgT hmT hvT rfl hnT hdT) pa_nil hs2) hs1) (by decide) (by decide) hs1 hpl, ?_⟩
  intro g0 H0 g H ρ ω σ Q d ω' ok st sl e k'
  unfold eUn at e
  split at e
  · cases e
  rename_i x1 ω1 e1
  split at e
  · cases e
  rename_i z e3
  cases e
  unfold opIsi at e3
  split at e3 <;> cases e3
  rename_i hn
  refine he.sn g0 H0 g H ρ ω σ _ x1 ω' ok st sl e1 fun v g1 H1 s1 ok1 r1 => ?_
  obtain ⟨t, ht, ty⟩ := r1.ty ok1 hn
  exact ⟨v, .ty T, .type t, .type T, _, rfl, .ty T, ty, kit_ty (k.all x1 t ht), k' _ g1 H1 s1 ok1 .bl⟩

/-! ## calls of defs -/
/-- what a def promises: it is the function f on data and the store -/
def spD (K : PySem.W.Frag) (n : Nat) (f : List D → Wd → Option (D × Wd)) : Sp := fun vs H Q _ => ∃ (g : Gh) (ω : Wd) (ds : List D) (d : D) (ω' : Wd), vs.length = n ∧ GOk K g H ω ∧ RepL K g.ι g.G ds vs ∧ f ds ω = some (d, ω') ∧
  ∀ v g' H', Step g H g' H' → GOk K g' H' ω' → Rep K g'.ι g'.G d v → Q v H'
def eFun (f : List D → Wd → Option (D × Wd)) (a : DA) : DE := fun ρ ω => match a ρ ω with
  | none => none
  | some (ds, ω1) => f ds ω1
/-- a def that leaves the store alone -/
def eFunP (f : List D → Wd → Option (D × Wd)) (a : DA) : DE := fun ρ ω => match a ρ ω with
  | none => none
  | some (ds, ω1) => match f ds ⟨false, []⟩ with
    | none => none
    | some (d, _) => some (d, ω1)
theorem sn_fun {f : List D → Wd → Option (D × Wd)} {n : Nat} {t : TA} {fa : DA} (h : SndA K true t fa) (l : LenA n fa) : Snd K true (tCall (spD K n f) [] E0 t) (eFun f fa) := by
  intro g0 H0 g H ρ ω σ Q d ω' ok st sl e k
  unfold eFun at e
  split at e
  · cases e
  rename_i ds ω1 e1
  refine h g0 H0 g H ρ ω σ _ ds ω1 ok st sl e1 fun vs g1 H1 s1 ok1 r1 => ?_
  rw [List.append_nil]
  exact ⟨g1, ω1, ds, d, ω', by rw [RepL.length r1]; exact l _ _ _ _ e1, ok1, r1, e, fun v g2 H2 s2 ok2 r2 => k v g2 H2 (s1.trans s2) ok2 r2⟩
theorem sn_funP {f : List D → Wd → Option (D × Wd)} {n : Nat} {t : TA} {fa : DA} (h : SndA K b t fa) (l : LenA n fa) : Snd K b (tCall (spD K n f) [] E0 t) (eFunP f fa) := by
  intro g0 H0 g H ρ ω σ Q d ω' ok st sl e k
  unfold eFunP at e
  split at e
  · cases e
  rename_i ds ω1 e1
  split at e
  · cases e
  rename_i d1 ω2 e2
  cases e
  refine h g0 H0 g H ρ ω σ _ ds ω' ok st sl e1 fun vs g1 H1 s1 ok1 r1 => ?_
  rw [List.append_nil]
  -- the callee sees no store
  have TS : ∀ a, Tb.T a → g1.S a := fun a h => (ok1.tb a h).1
  refine ⟨⟨false, g1.ι, Tb.T, hb b g0 H0 g1 H1⟩, ⟨false, []⟩, ds, d, ω2, by rw [RepL.length r1]; exact l _ _ _ _ e1, ⟨fun a o h => (hb_sub ok1 h).1, fun a o h => (hb_sub ok1 h).2.1, fun a o h q => (hb_sub ok1 h).2.2 (TS a q), fun n m a hn => absurd hn (Nat.not_lt_zero _), fun n a hn => absurd hn (Nat.not_lt_zero _), fun n o e => by simp at e, fun a h => ?_, (fun h => nomatch h), fun P h => ⟨h, (ok1.tb P h).2⟩⟩, r1, e2, ?_⟩
  · obtain ⟨_, ⟨ps, e, _⟩, _⟩ := ok1.tb a h
    exact ⟨_, e, rfl⟩
  intro v gc Hc sc okc rc
  have same : ∀ a o, H1 a = some o → ¬ Tb.T a → Hc a = some o := fun a o h n => sc.fr a o h n
  have hι : gc.ι = g1.ι := sc.ιl rfl
  have st1 := st.trans s1
  -- what the callee has settled is none of the store's
  have noS : ∀ a o, gc.G a = some o → ¬ g1.S a := fun a o h q => by
    obtain ⟨u, eu, tu⟩ := ok1.sl a q
    have e2 := okc.sub a o h
    rw [same a u eu (fun z => okc.nS a o h (sc.Sm a z))] at e2
    cases e2
    have sq := okc.seq a o h
    cases o with
    | lst vs =>
      rcases sc.nw a vs h with z | z
      · exact (hb_sub ok1 z).2.2 q
      · rw [eu] at z; cases z
    | tup vs => cases tu
    | _ => cases sq
  have slc : ∀ a, g1.S a → ∃ o, Hc a = some o ∧ isTup o = false := fun a h => by
    by_cases t : Tb.T a
    · obtain ⟨_, ⟨ps, e, _⟩, _⟩ := okc.tb a t
      exact ⟨_, e, rfl⟩
    · obtain ⟨u, eu, tu⟩ := ok1.sl a h
      exact ⟨u, same a u eu t, tu⟩
  have tbc : ∀ P, Tb.T P → g1.S P ∧ GxR.TabG Hc P ∧ ∀ n, g1.ι n ≠ some P := fun P h => ⟨TS P h, (okc.tb P h).2.1, (ok1.tb P h).2.2⟩
  cases b with
  | true =>
    have stp : Step g1 H1 ⟨g1.live, g1.ι, g1.S, gc.G⟩ Hc := ⟨fun _ _ h => h, fun a o h => sc.Gm a o h, fun _ h => h, fun a o h ns => same a o h (fun z => ns (TS a z)), fun _ h => .inl h, sc.al, fun a vs h => sc.nw a vs h, rfl, fun _ => rfl⟩
    refine k v ⟨g1.live, g1.ι, g1.S, gc.G⟩ Hc (s1.trans stp) ⟨okc.sub, okc.seq, noS, ok1.inj, ok1.inS, fun n o e => ?_, slc, ok1.lv, tbc⟩ ?_
    · obtain ⟨a, ia, h⟩ := ok1.st n o e
      obtain ⟨z, ez⟩ := h.there
      exact ⟨a, ia, h.mono (fun _ _ h => h) (fun a o h => sc.Gm a o h) (by rw [same a z ez (fun t => (ok1.tb a t).2.2 n ia), ez])⟩
    · show Rep K g1.ι gc.G d v
      rw [← hι]; exact rc
  | false =>
    have stp : Step g1 H1 g1 Hc := ⟨fun _ _ h => h, fun a o h => h, fun _ h => h, fun a o h ns => same a o h (fun z => ns (TS a z)), fun _ h => .inl h, sc.al, fun a vs h => .inl h, rfl, fun _ => rfl⟩
    refine k v g1 Hc (s1.trans stp) ⟨fun a o h => same a o (ok1.sub a o h) (fun z => ok1.nS a o h (TS a z)), ok1.seq, ok1.nS, ok1.inj, ok1.inS, fun n o e => ?_, slc, ok1.lv, tbc⟩ ?_
    · obtain ⟨a, ia, h⟩ := ok1.st n o e
      obtain ⟨z, ez⟩ := h.there
      exact ⟨a, ia, h.mono (fun _ _ h => h) (fun a o h => h) (by rw [same a z ez (fun t => (ok1.tb a t).2.2 n ia), ez])⟩
    · show Rep K g1.ι (Fm g0 H0 g1 Hc) d v
      have rc' : Rep K g1.ι gc.G d v := by rw [← hι]; exact rc
      refine rc'.mono (fun _ _ h => h) fun a o h => Fm_some.mpr ⟨okc.sub a o h, okc.seq a o h, noS a o h, fun hl => ?_⟩
      cases o with
      | lst vs =>
        rcases sc.nw a vs h with z | z
        · exact (Fm_some.mp z).2.2.2 rfl
        · exact .inr (st1.al a z)
      | _ => cases hl
section
variable {n k : Nat} {f : Addr} {fd : FuncData} {ps : List Str} {fn : List D → Wd → Option (D × Wd)} {x : Str} {p pos : Pos} {e : Expr} {es : List Expr} {t : TA} {fa : DA}
theorem ex_fun (F : FnOk X.prog X.w X.K X.mg X.base CX0 k f fd ps (spD X.K n fn)) (hr : Room k X.A) (hm : X.mg x = some (.ref f)) (hk : PySem.W.keepIn X.K (.ref f) = true) (hb : Binds X.K fd ps []) (ha : EA X true (e :: es) t fa) (l : LenA n fa) (hg : Gl X x := by rfl) (hdb : (x == ("__debug__" : Str)) = false := by decide)
    (he : starEach (e :: es) X.env = (false, eval e X.env) :: starEach es X.env := by rfl) (hpl : (backTo pos (starEach es X.env)).any (·.1) = false := by rfl) : EX X true (.Call (.Name x p) (e :: es) [] pos) (tCall (spD X.K n fn) [] E0 t) (eFun fn fa) :=
  ⟨pe_call F hr hg hm hk hb .nil pass0 ha.pe hdb he hpl, sn_fun ha.sn l⟩
theorem ex_funP (F : FnOk X.prog X.w X.K X.mg X.base CX0 k f fd ps (spD X.K n fn)) (hr : Room k X.A) (hm : X.mg x = some (.ref f)) (hk : PySem.W.keepIn X.K (.ref f) = true) (hb' : Binds X.K fd ps []) (ha : EA X b (e :: es) t fa) (l : LenA n fa) (hg : Gl X x := by rfl) (hdb : (x == ("__debug__" : Str)) = false := by decide)
    (he : starEach (e :: es) X.env = (false, eval e X.env) :: starEach es X.env := by rfl) (hpl : (backTo pos (starEach es X.env)).any (·.1) = false := by rfl) : EX X b (.Call (.Name x p) (e :: es) [] pos) (tCall (spD X.K n fn) [] E0 t) (eFunP fn fa) :=
  ⟨pe_call F hr hg hm hk hb' .nil pass0 ha.pe hdb he hpl, sn_funP ha.sn l⟩
end

/-! ## slices -/
def slD (xs : List D) (lo hi : Option Int) : List D := (xs.drop (HT.sIx xs.length 0 lo)).take (HT.sIx xs.length xs.length hi - HT.sIx xs.length 0 lo)
abbrev DO := Ro → Wd → Option (Option Int × Wd)
def SndO (K : PySem.W.Frag) (t : TO) (f : DO) : Prop :=
  ∀ (g0 : Gh) (H0 : Hp) (g : Gh) (H : Hp) (ρ : Ro) (ω : Wd) (σ : L2.St) (Q : Option Int → Hp → Prop) (d : Option Int) (ω' : Wd), GOk K g H ω → Step g0 H0 g H → Slots K H0 g H ρ σ → f ρ ω = some (d, ω') →
    (∀ g' H', Step g H g' H' → GOk K g' H' ω' → Q d H') → t σ H Q
structure EO (X : Cx) (e : Option Expr) (t : TO) (f : DO) : Prop where
  pe : PO X e t
  sn : SndO X.K t f
def oNone : DO := fun _ ω => some (none, ω)
def oSome (f : DE) : DO := fun ρ ω => match f ρ ω with
  | some (.int i, ω1) => some (some i, ω1)
  | _ => none
theorem eo_none : EO X none tNoPart oNone := ⟨po_none, fun g0 H0 g H ρ ω σ Q d ω' ok st sl e k => by cases e; exact k g H (.refl _ _) ok⟩
theorem eo_some {e : Expr} {t : TE} {f : DE} (h : EX X b e t f) : EO X (some e) (tPart t) (oSome f) := by
  refine ⟨po_some h.pe, ?_⟩
  intro g0 H0 g H ρ ω σ Q d ω' ok st sl e k
  unfold oSome at e
  split at e
  · rename_i i ω1 e1
    cases e
    exact h.sn g0 H0 g H ρ ω σ _ _ ω' ok st sl e1 fun v g1 H1 s1 ok1 r1 => ⟨_, r1.intV, k g1 H1 s1 ok1⟩
  · cases e
def opSl (x : D) (lo hi : Option Int) : Option D := match x with
  | .list xs => some (.list (slD xs lo hi))
  | .tuple xs => some (.tuple (slD xs lo hi))
  | _ => none
def rSlD (K : PySem.W.Frag) : V → Option Int → Option Int → Hp → VK → Prop := fun x lo hi H Q => rSlL K x lo hi H Q ∨ rSlA K x lo hi H Q
theorem sl_D : SlR X (rSlD X.K) := sl_list.or sl_tupA
def eSl (op : D → Option Int → Option Int → Option D) (f : DE) (l h : DO) : DE := fun ρ ω => match f ρ ω with
  | none => none
  | some (x, ω1) => match l ρ ω1 with
    | none => none
    | some (lo, ω2) => match h ρ ω2 with
      | none => none
      | some (hi, ω3) => match op x lo hi with
        | none => none
        | some d => some (d, ω3)
theorem cutV_rep {ι : Ix} {G : Hp} {ds : List D} {vs : List V} (h : RepL K ι G ds vs) (lo hi : Option Int) : RepL K ι G (slD ds lo hi) (cutV vs lo hi) := by
  unfold slD cutV
  rw [h.length]
  exact (h.drop _).take _
def SlS (K : PySem.W.Frag) (b b' : Bool) (r : V → Option Int → Option Int → Hp → VK → Prop) (op : D → Option Int → Option Int → Option D) : Prop :=
  ∀ (g0 : Gh) (H0 : Hp) (g : Gh) (H : Hp) (ω : Wd) (x : D) (lo hi : Option Int) (v : V) (d : D) (Q : VK), GOk K g H ω → Step g0 H0 g H → RB K b g0 H0 g H x v → op x lo hi = some d →
    (∀ u g' H', Step g H g' H' → GOk K g' H' ω → RB K b' g0 H0 g' H' d u → Q u H') → r v lo hi H Q
theorem sls_seq : SlS K b b (rSlD K) opSl := by
  intro g0 H0 g H ω x lo hi v d Q ok st r e k
  cases x <;> simp only [opSl] at e <;> cases e
  · obtain ⟨a, vs, rfl, q, z, l⟩ := r.lstV ok
    refine .inl ⟨a, vs, rfl, SqL.of q, fun p hp => ?_⟩
    obtain ⟨s2, ok2⟩ := alloc ok hp (o := .lst (cutV vs lo hi)) rfl
    exact k _ _ _ s2 ok2 (.newLst ok st hp (Nat.le_trans (cutV_length _ _ _) z) (cutV_rep l lo hi))
  · have r' := r
    obtain ⟨a, vs, rfl, q, z, l⟩ := r.tupV ok
    have hn := RepL.length l
    refine .inr ⟨a, vs, rfl, q, fun hw => ?_, fun _ p hp => ?_⟩
    · refine k _ g H (.refl _ _) ok ?_
      rename_i xs
      have e2 : slD xs lo hi = xs := by
        unfold slD
        rw [← hn, hw.1, hw.2, List.drop_zero, Nat.sub_zero]
        rw [hn]; exact List.take_length
      rw [e2]; exact r'
    · obtain ⟨s2, ok2⟩ := alloc ok hp (o := .tup (cutV vs lo hi)) rfl
      exact k _ _ _ s2 ok2 (.newTup ok st hp (Nat.le_trans (cutV_length _ _ _) z) (cutV_rep l lo hi))
theorem sn_sl {r : V → Option Int → Option Int → Hp → VK → Prop} {op : D → Option Int → Option Int → Option D} {t : TE} {f : DE} {tl th : TO} {fl fh : DO} (hs : SlS K b b' r op) (h : Snd K b t f) (hl : SndO K tl fl) (hh : SndO K th fh) : Snd K b' (tSl r t tl th) (eSl op f fl fh) := by
  intro g0 H0 g H ρ ω σ Q d ω' ok st sl e k
  unfold eSl at e
  split at e
  · cases e
  rename_i x ω1 e1
  split at e
  · cases e
  rename_i lo ω2 e2
  split at e
  · cases e
  rename_i hi ω3 e3
  split at e
  · cases e
  rename_i d1 e4
  cases e
  refine h g0 H0 g H ρ ω σ _ x ω1 ok st sl e1 fun v g1 H1 s1 ok1 r1 => ?_
  refine hl g0 H0 g1 H1 ρ ω1 σ _ lo ω2 ok1 (st.trans s1) (sl.step s1 ok1) e2 fun g2 H2 s2 ok2 => ?_
  refine hh g0 H0 g2 H2 ρ ω2 σ _ hi ω' ok2 ((st.trans s1).trans s2) ((sl.step s1 ok1).step s2 ok2) e3 fun g3 H3 s3 ok3 => ?_
  exact hs g0 H0 g3 H3 ω' x lo hi v d Q ok3 (((st.trans s1).trans s2).trans s3) ((r1.mono s2).mono s3) e4 fun u g4 H4 s4 ok4 r4 => k u g4 H4 (((s1.trans s2).trans s3).trans s4) ok4 r4
theorem ex_sl {e : Expr} {lo hi : Option Expr} {t : TE} {f : DE} {tl th : TO} {fl fh : DO} {p2 pos : Pos} (h : EX X b e t f) (hl : EO X lo tl fl) (hh : EO X hi th fh) : EX X b (.Subscript e (.Slice lo hi none p2) pos) (tSl (rSlD X.K) t tl th) (eSl opSl f fl fh) :=
  ⟨pe_slice sl_D h.pe hl.pe hh.pe, sn_sl sls_seq h.sn hl.sn hh.sn⟩

/-! ## objects of the store: lists -/
def obN : D → Option Nat
  | .dict [(.int n, .none)] => if 0 ≤ n then some n.toNat else none
  | _ => none
theorem obN_ob (n : Nat) : obN (ob n) = some n := by simp [obN, ob]
theorem obN_eq {d : D} {n : Nat} (h : obN d = some n) : d = ob n := by
  unfold obN at h
  split at h
  · split at h
    · cases h
      unfold ob
      rename_i k hk
      rw [show ((k.toNat : Nat) : Int) = k from by omega]
    · cases h
  · cases h
theorem RB.ob {g0 g : Gh} {H0 H : Hp} {n : Nat} {v : V} (h : RB K b g0 H0 g H (ob n) v) : ∃ a, g.ι n = some a ∧ v = .ref a := by
  unfold RB Dn.ob at h; rw [Rep] at h
  obtain ⟨m, a, e, i, r⟩ := h
  have : m = n := by
    injection e with e1
    injection e1 with e2
    injection e2 with e3
    omega
  subst this
  exact ⟨a, i, r⟩
/-- box[i], box an object of the store -/
def eIxOb (f h : DE) : DE := fun ρ ω => match f ρ ω with
  | none => none
  | some (x, ω1) => match obN x with
    | none => none
    | some n => match h ρ ω1 with
      | some (.int i, ω2) => (match ω2.objs[n]? with
        | some (.lst xs) => (match atI xs i with
          | some d => some (d, ω2)
          | none => none)
        | none => none)
      | _ => none
theorem ex_ixOb {ta tb : TE} {fa fb : DE} {ea eb : Expr} {pos : Pos} (ha : EX X b ea ta fa) (hb : EX X b' eb tb fb) (hs : PlainIx eb := by exact fun _ _ => rfl) : EX X true (.Subscript ea eb pos) (tOp (rIx X.K) ta tb) (eIxOb fa fb) := by
  refine ⟨pe_ix ix_seq ha.pe hb.pe hs, ?_⟩
  intro g0 H0 g H ρ ω σ Q d ω' ok st sl e k
  unfold eIxOb at e
  split at e
  · cases e
  rename_i x ω1 e1
  split at e
  · cases e
  rename_i n en
  split at e
  · rename_i i ω2 e2
    split at e
    · rename_i xs ex
      split at e
      · rename_i dd ed
        cases e
        have := obN_eq en
        subst this
        refine ha.sn g0 H0 g H ρ ω σ _ _ ω1 ok st sl e1 fun v g1 H1 s1 ok1 r1 => ?_
        refine hb.sn g0 H0 g1 H1 ρ ω1 σ _ _ ω' ok1 (st.trans s1) (sl.step s1 ok1) e2 fun w g2 H2 s2 ok2 r2 => ?_
        obtain ⟨a, ia, rfl⟩ := (r1.mono s2).ob
        obtain ⟨a', ia', vs, ha', rr⟩ := ok2.st n _ ex
        rw [ia] at ia'; cases ia'
        obtain ⟨u, h3, h4⟩ := RepL.atI rr ed
        rw [r2.intV]
        exact .inl ⟨a, vs, i, u, rfl, rfl, SqL.of ha', h3, k u g2 H2 (s1.trans s2) ok2 h4⟩
      · cases e
    · cases e
  · cases e
def eLenOb (f : DE) : DE := fun ρ ω => match f ρ ω with
  | none => none
  | some (x, ω1) => match obN x with
    | none => none
    | some n => match ω1.objs[n]? with
      | some (.lst xs) => some (.int xs.length, ω1)
      | none => none
theorem ex_lenOb {ta : TE} {fa : DE} {ea : Expr} {p pos : Pos} (hm : X.mg "len" = none) (ha : EX X b ea ta fa) (hg : Gl X "len" := by rfl)
    (he : starEach [ea] X.env = (false, eval ea X.env) :: starEach [] X.env := by rfl) (hpl : (backTo pos (starEach [] X.env)).any (·.1) = false := by rfl) : EX X true (.Call (.Name "len" p) [ea] [] pos) (tCB (fun xs H Q => ∃ x n, xs = [x] ∧ LenV X.K x H n ∧ Q (.int n) H) (tCons ta tNil)) (eLenOb fa) := by
  refine ⟨pe_callB call_len hg hm PySem.boot_len (pa_cons ha.pe pa_nil he) (by decide) (by decide) he hpl, ?_⟩
  intro g0 H0 g H ρ ω σ Q d ω' ok st sl e k
  unfold eLenOb at e
  split at e
  · cases e
  rename_i x ω1 e1
  split at e
  · cases e
  rename_i n en
  split at e
  · rename_i xs ex
    cases e
    have := obN_eq en
    subst this
    refine ha.sn g0 H0 g H ρ ω σ _ _ ω' ok st sl e1 fun v g1 H1 s1 ok1 r1 => ?_
    obtain ⟨a, ia, rfl⟩ := r1.ob
    obtain ⟨a', ia', vs, ha', rr⟩ := ok1.st n _ ex
    rw [ia] at ia'; cases ia'
    exact ⟨_, vs.length, rfl, .inl ⟨vs, SqL.of ha', rfl⟩, by rw [rr.length]; exact k _ g1 H1 s1 ok1 .int⟩
  · cases e
/-- an object of the store is changed -/
theorem obSet {g : Gh} {H : Hp} {ω : Wd} {n : Nat} {o : WO} {a : Addr} {ys : List D} {ws : List V} (ok : GOk K g H ω) (en : ω.objs[n]? = some o) (ia : g.ι n = some a) (r : RepL K g.ι g.G ys ws) : Step g H g (upd H a (.lst ws)) ∧ GOk K g (upd H a (.lst ws)) ⟨ω.live, ω.objs.set n (.lst ys)⟩ := by
  have hn : n < ω.objs.length := (List.getElem?_eq_some_iff.mp en).1
  have hS : g.S a := ok.inS n a hn ia
  have nG : ∀ x u, g.G x = some u → x ≠ a := fun x u h z => by subst z; exact ok.nS x u h hS
  obtain ⟨z, ez, tz⟩ := ok.sl a hS
  refine ⟨⟨fun _ _ h => h, fun _ _ h => h, fun _ h => h, fun x u h hx => ?_, fun _ h => .inl h, fun x h => ?_, fun x vs h => .inl h, rfl, fun _ => rfl⟩, ⟨fun x u h => by rw [upd_ne (nG x u h)]; exact ok.sub x u h, ok.seq, ok.nS, ?_, ?_, fun m u e => ?_, fun x h => ?_, ?_, fun P h => ?_⟩⟩
  · have : x ≠ a := fun z => by subst z; exact hx hS
    rw [upd_ne this]; exact h
  · by_cases hxa : x = a
    · subst hxa; rw [upd_same] at h; cases h
    · rw [upd_ne hxa] at h; exact h
  · simpa using ok.inj
  · simpa using ok.inS
  · rw [List.getElem?_set] at e
    by_cases hm : n = m
    · subst hm
      rw [if_pos rfl, if_pos hn] at e
      cases e
      exact ⟨a, ia, ws, upd_same, r⟩
    · rw [if_neg hm] at e
      obtain ⟨c, ic, h⟩ := ok.st m u e
      have hm' : m < ω.objs.length := (List.getElem?_eq_some_iff.mp e).1
      have nac : c ≠ a := fun z => by subst z; exact hm (ok.inj n m c hn hm' ia ic)
      exact ⟨c, ic, h.mono (fun _ _ h => h) (fun _ _ h => h) (upd_ne nac)⟩
  · by_cases hxa : x = a
    · subst hxa; exact ⟨_, upd_same, rfl⟩
    · obtain ⟨u, eu, tu⟩ := ok.sl x h
      exact ⟨u, by rw [upd_ne hxa]; exact eu, tu⟩
  · simpa using ok.lv
  · obtain ⟨q1, ⟨ps, e, t⟩, q3⟩ := ok.tb P h
    exact ⟨q1, ⟨ps, (upd_ne (fun (z : P = a) => q3 n (by rw [z]; exact ia))).trans e, t⟩, q3⟩
/-- cells.pop(i), cells an object of the store, i written -/
def ePopOb (f : DE) (i : Int) : DE := fun ρ ω => match f ρ ω with
  | none => none
  | some (x, ω1) => match obN x with
    | none => none
    | some n => match ω1.objs[n]? with
      | some (.lst xs) => (match xs[i.toNat]? with
        | some d => if 0 ≤ i ∧ i < 2 ^ 63 then some (d, ⟨ω1.live, ω1.objs.set n (.lst (xs.eraseIdx i.toNat))⟩) else none
        | none => none)
      | none => none
theorem ex_popOb {ta : TE} {fa : DE} {o : Expr} {i : Int} {j : Nat} {ipos apos cpos : Pos} (ho : EX X b o ta fa)
    (hbase : attributeBase o "pop" X.env (eval o X.env) = eval o X.env := by rfl)
    (hfew : ((backTo cpos (starEach [.Constant (.int i) j ipos] X.env)).all (fun x => !x.1) && (backToKw cpos (keywordEach [] X.env)).all (fun x => x.1.isSome)
      && decide ([Expr.Constant (.int i) j ipos].length + ([] : List Keyword).length + (if ([] : List Keyword).isEmpty then 0 else 1) < 30)) = true := by rfl)
    (hline : (apos.endLine == cpos.line) = true := by rfl) (hs : starEach [.Constant (.int i) j ipos] X.env = (false, eval (.Constant (.int i) j ipos) X.env) :: starEach [] X.env := by rfl) (hplain : (backTo cpos (starEach [] X.env)).any (·.1) = false := by rfl) :
    EX X true (.Call (.Attribute o "pop" apos) [.Constant (.int i) j ipos] [] cpos) (tBM X.K "list" rPopAt ta (tCons (tC (.int i)) tNil)) (ePopOb fa i) := by
  refine ⟨pe_bm PySem.F.plainAttrs_list PySem.F.slot_list_pop PySem.F.type_list_pop mt_popAt ho.pe (pa_cons pe_int pa_nil hs) hbase hfew hline hs hplain, ?_⟩
  intro g0 H0 g H ρ ω σ Q d ω' ok st sl e k
  unfold ePopOb at e
  split at e
  · cases e
  rename_i x ω1 e1
  split at e
  · cases e
  rename_i n en
  split at e
  · rename_i xs ex
    split at e
    · rename_i dd ed
      split at e
      · rename_i hi
        cases e
        have := obN_eq en
        subst this
        refine ho.sn g0 H0 g H ρ ω σ _ _ ω1 ok st sl e1 fun v g1 H1 s1 ok1 r1 => ?_
        obtain ⟨a, ia, rfl⟩ := r1.ob
        obtain ⟨a', ia', vs, ha', rr⟩ := ok1.st n _ ex
        rw [ia] at ia'; cases ia'
        refine ⟨.inl ⟨rfl, vs, SqL.of ha'⟩, ?_⟩
        obtain ⟨u, h3, h4⟩ := rr.get ed
        obtain ⟨s3, ok3⟩ := obSet ok1 ex ia (rr.eraseIdx i.toNat)
        have hl : i.toNat < vs.length := (List.getElem?_eq_some_iff.mp h3).1
        refine ⟨a, vs, i, i.toNat, u, rfl, rfl, ha', by omega, hi.2, ?_, h3, k u g1 _ (s1.trans s3) ok3 h4⟩
        have q : ixN vs.length i = some i.toNat := by
          unfold ixN
          rw [if_pos hi.1, if_pos (by omega)]
        exact (ixN_seq q).1
      · cases e
    · cases e
  · cases e
end
end Dn
end

section
namespace Dn
open PySem PySem.Spec L2
variable [Tb]

/-! ## statements -/
inductive Out where
  | nx (ρ : Ro)
  | rt (d : D)
  | bk (ρ : Ro)
  | ct (ρ : Ro)
abbrev DS := Ro → Wd → Option (Out × Wd)
/-- a state of a def, behind the state g of the same def -/
structure SI (K : PySem.W.Frag) (g0 : Gh) (H0 : Hp) (g g' : Gh) (ρ : Ro) (ω : Wd) (σ : L2.St) (H : Hp) : Prop where
  ok : GOk K g' H ω
  st : Step g0 H0 g' H
  sl : Slots K H0 g' H ρ σ
  le : GLe g g'
def Post (K : PySem.W.Frag) (g0 : Gh) (H0 : Hp) (g : Gh) (E : Ends) (ω : Wd) : Out → Prop
  | .nx ρ => ∀ σ g' H, SI K g0 H0 g g' ρ ω σ H → E.nx σ H
  | .bk ρ => ∀ σ g' H, SI K g0 H0 g g' ρ ω σ H → E.bk σ H
  | .ct ρ => ∀ σ g' H, SI K g0 H0 g g' ρ ω σ H → E.ct σ H
  | .rt d => ∀ v g' H, GOk K g' H ω → Step g0 H0 g' H → Rep K g'.ι g'.G d v → E.rt v H
def SndS (K : PySem.W.Frag) (t : TS) (f : DS) : Prop :=
  ∀ (g0 : Gh) (H0 : Hp) (g : Gh) (H : Hp) (ρ : Ro) (ω : Wd) (σ : L2.St) (E : Ends) (o : Out) (ω' : Wd), GOk K g H ω → Step g0 H0 g H → Slots K H0 g H ρ σ → f ρ ω = some (o, ω') → Post K g0 H0 g E ω' o → t E σ H
structure SX (X : Cx) (s : Stmt) (t : TS) (f : DS) : Prop where
  pe : PS X s t
  sn : SndS X.K t f
structure SXs (X : Cx) (s : List Stmt) (t : TS) (f : DS) : Prop where
  pe : PSs X s t
  sn : SndS X.K t f
section
variable {X : Cx} {K : PySem.W.Frag} {b b' : Bool} {t u : TS} {f h : DS} {st : Stmt} {rest : List Stmt} {pos : Pos}
theorem Post.le {g0 g g1 : Gh} {H0 : Hp} {E : Ends} {ω : Wd} {o : Out} (p : Post K g0 H0 g E ω o) (l : GLe g g1) : Post K g0 H0 g1 E ω o := by
  cases o with
  | nx ρ => exact fun σ g' H s => p σ g' H ⟨s.ok, s.st, s.sl, l.trans s.le⟩
  | bk ρ => exact fun σ g' H s => p σ g' H ⟨s.ok, s.st, s.sl, l.trans s.le⟩
  | ct ρ => exact fun σ g' H s => p σ g' H ⟨s.ok, s.st, s.sl, l.trans s.le⟩
  | rt d => exact p
def sNext : DS := fun ρ ω => some (.nx ρ, ω)
def sSeq (f h : DS) : DS := fun ρ ω => match f ρ ω with
  | some (.nx ρ1, ω1) => h ρ1 ω1
  | r => r
theorem sn_seq (hf : SndS K t f) (hh : SndS K u h) : SndS K (tSeq t u) (sSeq f h) := by
  intro g0 H0 g H ρ ω σ E o ω' ok st sl e k
  unfold sSeq at e
  split at e
  · rename_i ρ1 ω1 e1
    exact hf g0 H0 g H ρ ω σ { E with nx := u E } _ ω1 ok st sl e1 fun σ1 g1 H1 s => hh g0 H0 g1 H1 ρ1 ω1 σ1 E o ω' s.ok s.st s.sl e (k.le s.le)
  · rename_i hn
    refine hf g0 H0 g H ρ ω σ { E with nx := u E } o ω' ok st sl e ?_
    cases o with
    | nx ρ1 => exact absurd e (hn ρ1 ω')
    | _ => exact k
theorem sxs_nil : SXs X [] tNext sNext := ⟨pss_nil, fun g0 H0 g H ρ ω σ E o ω' ok st sl e k => by cases e; exact k σ g H ⟨ok, st, sl, .refl _⟩⟩
theorem sxs_cons (h1 : SX X st t f) (h2 : SXs X rest u h) : SXs X (st :: rest) (tSeq t u) (sSeq f h) := ⟨pss_cons h1.pe h2.pe, sn_seq h1.sn h2.sn⟩
theorem sxs_one (h1 : SX X st t f) : SXs X [st] t f := ⟨pss_one h1.pe, h1.sn⟩
def sBreak : DS := fun ρ ω => some (.bk ρ, ω)
def sCont : DS := fun ρ ω => some (.ct ρ, ω)
theorem sx_pass : SX X (.Pass pos) tNext sNext := ⟨ps_pass, fun g0 H0 g H ρ ω σ E o ω' ok st sl e k => by cases e; exact k σ g H ⟨ok, st, sl, .refl _⟩⟩
theorem sx_break : SX X (.Break pos) tBreak sBreak := ⟨ps_break, fun g0 H0 g H ρ ω σ E o ω' ok st sl e k => by cases e; exact k σ g H ⟨ok, st, sl, .refl _⟩⟩
theorem sx_continue : SX X (.Continue pos) tCont sCont := ⟨ps_continue, fun g0 H0 g H ρ ω σ E o ω' ok st sl e k => by cases e; exact k σ g H ⟨ok, st, sl, .refl _⟩⟩
/-- an expression whose value is dropped -/
def sDrop (f : DE) : DS := fun ρ ω => match f ρ ω with
  | none => none
  | some (_, ω1) => some (.nx ρ, ω1)
theorem sx_expr {e : Expr} {te : TE} {fe : DE} (he : EX X b e te fe) (hs : swapsWith e none pos.line X.env = pure false := by rfl) : SX X (.Expr e pos) (tDrop te) (sDrop fe) := by
  refine ⟨ps_expr he.pe hs, ?_⟩
  intro g0 H0 g H ρ ω σ E o ω' ok st sl e k
  unfold sDrop at e
  split at e
  · cases e
  rename_i d ω1 e1
  cases e
  exact he.sn g0 H0 g H ρ ω σ _ d ω' ok st sl e1 fun v g1 H1 s1 ok1 r1 => k σ g1 H1 ⟨ok1, st.trans s1, sl.step s1 ok1, s1.le⟩
/-- return -/
def sRet (f : DE) : DS := fun ρ ω => match f ρ ω with
  | none => none
  | some (d, ω1) => some (.rt d, ω1)
noncomputable def Gh.all (g0 : Gh) (H0 : Hp) (g : Gh) (H : Hp) : Gh := { g with G := Fm g0 H0 g H }
theorem all_ok {g0 g : Gh} {H0 H : Hp} {ω : Wd} (ok : GOk K g H ω) (st : Step g0 H0 g H) : Step g0 H0 (Gh.all g0 H0 g H) H ∧ GOk K (Gh.all g0 H0 g H) H ω := by
  refine ⟨⟨st.ιm, fun a o h => G_Fm ok st (st.Gm a o h), st.Sm, st.fr, st.nS, st.al, fun a vs h => (Fm_some.mp h).2.2.2 rfl, st.lv, st.ιl⟩, ⟨fun a o h => (Fm_some.mp h).1, fun a o h => (Fm_some.mp h).2.1, fun a o h => (Fm_some.mp h).2.2.1, ok.inj, ok.inS, fun n o e => ?_, ok.sl, ok.lv, ok.tb⟩⟩
  obtain ⟨a, ia, h⟩ := ok.st n o e
  exact ⟨a, ia, h.mono (fun _ _ h => h) (fun _ _ h => G_Fm ok st h) rfl⟩
theorem sx_ret {e : Expr} {te : TE} {fe : DE} (he : EX X b e te fe) : SX X (.Return (some e) pos) (tRet te) (sRet fe) := by
  refine ⟨ps_ret he.pe, ?_⟩
  intro g0 H0 g H ρ ω σ E o ω' ok st sl e k
  unfold sRet at e
  split at e
  · cases e
  rename_i d ω1 e1
  cases e
  refine he.sn g0 H0 g H ρ ω σ _ d ω' ok st sl e1 fun v g1 H1 s1 ok1 r1 => ?_
  cases b with
  | true => exact k v g1 H1 ok1 (st.trans s1) r1
  | false =>
    obtain ⟨s2, ok2⟩ := all_ok ok1 (st.trans s1)
    exact k v _ H1 ok2 s2 r1
def sRetN : DS := fun _ ω => some (.rt .none, ω)
theorem sx_retN : SX X (.Return none pos) tRetN sRetN := ⟨ps_retN, fun g0 H0 g H ρ ω σ E o ω' ok st sl e k => by cases e; exact k .non g H ok st (by rw [Rep])⟩
/-- if -/
def sIf (c : DT) (f h : DS) : DS := fun ρ ω => match c ρ ω with
  | none => none
  | some (c, ω1) => if c = true then f ρ ω1 else h ρ ω1
theorem sx_if {c : Expr} {p q : List Stmt} {tc : TT} {fc : DT} (hc : ET X c tc fc) (hf : SXs X p t f) (hh : SXs X q u h) : SX X (.If c p q pos) (tIfS tc t u) (sIf fc f h) := by
  refine ⟨ps_if hc.pe hf.pe hh.pe, ?_⟩
  intro g0 H0 g H ρ ω σ E o ω' ok st sl e k
  unfold sIf at e
  split at e
  · cases e
  rename_i c1 ω1 e1
  refine hc.sn g0 H0 g H ρ ω σ _ c1 ω1 ok st sl e1 fun g1 H1 s1 ok1 => ?_
  cases c1 with
  | true => exact iteT (hf.sn g0 H0 g1 H1 ρ ω1 σ E o ω' ok1 (st.trans s1) (sl.step s1 ok1) e (k.le s1.le))
  | false => exact iteF (hh.sn g0 H0 g1 H1 ρ ω1 σ E o ω' ok1 (st.trans s1) (sl.step s1 ok1) e (k.le s1.le))
/-- target = value -/
def sAsg (f : DE) (t : DG) : DS := fun ρ ω => match f ρ ω with
  | none => none
  | some (d, ω1) => match t d ρ with
    | none => none
    | some ρ1 => some (.nx ρ1, ω1)
theorem sn_asg {te : TE} {fe : DE} {tg : TG} {js : List Nat} {fg : DG} (he : Snd K true te fe) (hg : SndG K tg js fg) : SndS K (tAsg te tg) (sAsg fe fg) := by
  intro g0 H0 g H ρ ω σ E o ω' ok st sl e k
  unfold sAsg at e
  split at e
  · cases e
  rename_i d ω1 e1
  split at e
  · cases e
  rename_i ρ1 e2
  cases e
  refine he g0 H0 g H ρ ω σ _ d ω' ok st sl e1 fun v g1 H1 s1 ok1 r1 => ?_
  exact hg H0 g1 H1 ρ σ d v ρ1 _ ok1.sub (sl.step s1 ok1) r1 e2 fun σ' sl' _ _ => k σ' g1 H1 ⟨ok1, st.trans s1, sl', s1.le⟩
theorem sx_asg {tg e : Expr} {te : TE} {fe : DE} {g : TG} {js : List Nat} {fg : DG} (he : EX X true e te fe) (hg : EG X tg g js fg) (hs : swapsWithSole [tg] e pos.line X.env = pure false := by rfl) (hw : swappedStores [tg] e X.env = pure none := by rfl)
    (h1 : (assignEach [tg] X.env).map (·.2) = [assign tg X.env] := by rfl) : SX X (.Assign [tg] e pos) (tAsg te g) (sAsg fe fg) := ⟨ps_asg he.pe hg.pe hs hw h1, sn_asg he.sn hg.sn⟩
def sSet (i : Nat) (f : DE) : DS := fun ρ ω => match f ρ ω with
  | none => none
  | some (d, ω1) => some (.nx (ρ.set i (.val d)), ω1)
theorem sn_set {i : Nat} {te : TE} {fe : DE} (he : Snd K true te fe) : SndS K (tAsg te (gName i)) (sSet i fe) := by
  intro g0 H0 g H ρ ω σ E o ω' ok st sl e k
  unfold sSet at e
  split at e
  · cases e
  rename_i d ω1 e1
  cases e
  refine he g0 H0 g H ρ ω σ _ d ω' ok st sl e1 fun v g1 H1 s1 ok1 r1 => ?_
  exact k _ g1 H1 ⟨ok1, st.trans s1, (sl.step s1 ok1).set i ⟨v, rfl, r1⟩ (fun xs z => nomatch z), s1.le⟩
theorem sx_set {i : Nat} {x : Str} {e : Expr} {te : TE} {fe : DE} {pos' : Pos} (hN : X.N.Nodup) (he : EX X true e te fe) (hi : X.N[i]? = some x := by rfl) (hx : Loc X.env.scope x := by first | exact Or.inl rfl | exact Or.inr rfl) (hs : swapsWith e (some (.Name x pos')) pos.line X.env = pure false := by rfl) (hf : X.fn x = true ∨ X.env.scope.names.lookup x = some .local := by first | exact .inl rfl | exact .inr rfl | assumption) :
    SX X (.Assign [.Name x pos'] e pos) (tAsg te (gName i)) (sSet i fe) := ⟨ps_set hN hi hx he.pe hs hf, sn_set he.sn⟩
/-- a name gets a list of its own -/
def sOwn (i : Nat) (f : DA) : DS := fun ρ ω => match f ρ ω with
  | none => none
  | some (ds, ω1) => some (.nx (ρ.set i (.own ds)), ω1)
theorem sn_own {i : Nat} {te : TE} {fe : DA} (he : SndN K te fe) : SndS K (tAsg te (gName i)) (sOwn i fe) := by
  intro g0 H0 g H ρ ω σ E o ω' ok st sl e k
  unfold sOwn at e
  split at e
  · cases e
  rename_i d ω1 e1
  cases e
  refine he g0 H0 g H ρ ω σ _ d ω' ok st sl e1 fun p vs g1 H1 s1 ok1 h1 h2 h3 h4 h5 h6 => ?_
  refine k _ g1 H1 ⟨ok1, st.trans s1, ?_, s1.le⟩
  refine (sl.step s1 ok1).setOwn i ⟨p, vs, rfl, h2, h3, h4, st.al p h1, h5, h6⟩ fun j xs hj hx hs => ?_
  obtain ⟨q, ws, eq, hq, _⟩ := sl.at_ j _ _ hx hs
  cases eq
  rw [h1] at hq; cases hq
theorem sx_own {i : Nat} {x : Str} {e : Expr} {te : TE} {fe : DA} {pos' : Pos} (hN : X.N.Nodup) (he : EN X e te fe) (hi : X.N[i]? = some x := by rfl) (hx : Loc X.env.scope x := by first | exact Or.inl rfl | exact Or.inr rfl) (hs : swapsWith e (some (.Name x pos')) pos.line X.env = pure false := by rfl) (hf : X.fn x = true ∨ X.env.scope.names.lookup x = some .local := by first | exact .inl rfl | exact .inr rfl | assumption) :
    SX X (.Assign [.Name x pos'] e pos) (tAsg te (gName i)) (sOwn i fe) := ⟨ps_set hN hi hx he.pe hs hf, sn_own he.sn⟩
/-- y = [.. for ..] -/
theorem sx_lc {i : Nat} {y : Str} {py : Pos} {elt tg iter : Expr} {ifs : List Expr} {scope : Scope} {own : List (Str × Nat)} {pos spos : Pos} {wi : TI} {g : TG} {tt : TT} {te : TE} {fi : DA} {fg : DG} {ft : DT} {fe : DE} {js : List Nat} (hc : X.calm = true) (hN : X.N.Nodup) (hi : EI X b tg iter wi fi) (ok : BlkOk X.N X.env.scope scope own)
    (hg : ∀ (s : Shared) (H : Hp) (C : Addr) (cl : List (Str × Addr)) (fp : List Addr), EG (X.blk s H scope (compEnvC scope cl C X.env) fp) tg g js fg)
    (ht : ∀ (s : Shared) (H : Hp) (C : Addr) (cl : List (Str × Addr)) (fp : List Addr), ETs (X.blk s H scope (compEnvC scope cl C X.env) fp) ifs tt ft)
    (he : ∀ (s : Shared) (H : Hp) (C : Addr) (cl : List (Str × Addr)) (fp : List Addr), EX (X.blk s H scope (compEnvC scope cl C X.env) fp) true elt te fe)
    (hy : X.N[i]? = some y := by rfl) (hyl : X.env.scope.names.lookup y = some .local := by rfl) (hl : (py.line == pos.line) = true := by rfl) (hk : X.env.scope.kind = .function := by rfl) (ha : (scope.names.any fun (n, k) => n == y && (k == .local || k == .cell)) = false := by decide +kernel)
    (hj : ∀ j ∈ js, j ∈ own.map (·.2) := by decide) (hs : ∀ x, foldedSetIterable iter X.env x = pure x := by intro _; rfl) :
    SX X (.Assign [.Name y py] (.ListComp elt [⟨tg, iter, ifs, 0⟩] scope pos) spos) (tAsg (tLc wi g tt te (own.map (·.2))) (gName i)) (sOwn i (eLcN fi fg ft fe (own.map (·.2)))) := by
  refine ⟨ps_setLc hc hN hy hyl (sw_true hk hyl hl ha) hi.pe ok (fun s H C cl fp => (hg s H C cl fp).pe) (fun s H C cl fp => (ht s H C cl fp).pe) (fun s H C cl fp => (he s H C cl fp).pe) hs, ?_⟩
  refine sn_own ?_
  intro g0 H0 gh H ρ ω σ Q ds ω' ok' st sl e k
  exact lc_sound hi.sn (hg X.s_0 X.H_0 0 [] []).sn hj (ht X.s_0 X.H_0 0 [] []).sn (he X.s_0 X.H_0 0 [] []).sn ok' st sl e k
/-- a, b = x, y -/
def sPar (i j : Nat) (f : DA) : DS := fun ρ ω => match f ρ ω with
  | some ([x, y], ω1) => some (.nx ((ρ.set i (.val x)).set j (.val y)), ω1)
  | _ => none
theorem sx_par {i j : Nat} {x y : Str} {a c : Expr} {ta : TA} {fa : DA} {px py pt : Pos} {kt k2 pt2} (hc : X.calm = true) (hN : X.N.Nodup) (ha : EA X true [a, c] ta fa) (hi : X.N[i]? = some x := by rfl) (hj : X.N[j]? = some y := by rfl) (hij : i ≠ j := by decide)
    (hx : X.env.scope.names.lookup x = some .local := by rfl) (hy : X.env.scope.names.lookup y = some .local := by rfl)
    (hw : swappedStores [.Tuple [.Name x px, .Name y py] kt pt] (.Tuple [a, c] k2 pt2) X.env = pure (some [x, y]) := by rfl)
    (hs : swapsWithSole [.Tuple [.Name x px, .Name y py] kt pt] (.Tuple [a, c] k2 pt2) pos.line X.env = pure false := by rfl) :
    SX X (.Assign [.Tuple [.Name x px, .Name y py] kt pt] (.Tuple [a, c] k2 pt2) pos) (tPar i j ta) (sPar i j fa) := by
  refine ⟨ps_par hc hN hi hj hij hx hy ha.pe hw hs, ?_⟩
  intro g0 H0 g H ρ ω σ E o ω' ok st sl e k
  unfold sPar at e
  split at e
  · rename_i p q ω1 e1
    cases e
    refine ha.sn g0 H0 g H ρ ω σ _ _ ω' ok st sl e1 fun vs g1 H1 s1 ok1 r1 => ?_
    obtain ⟨v, w, rfl, r, r2⟩ := RBL.two r1
    refine ⟨v, w, rfl, ?_⟩
    have sl2 : Slots X.K H0 g1 H1 (ρ.set i (.val p)) (σ.set i (some v)) := (sl.step s1 ok1).set i (s := .val p) (o := some v) ⟨v, rfl, r⟩ (fun xs z => nomatch z)
    have sl3 : Slots X.K H0 g1 H1 ((ρ.set i (.val p)).set j (.val q)) ((σ.set i (some v)).set j (some w)) := sl2.set j (s := .val q) (o := some w) ⟨w, rfl, r2⟩ (fun xs z => nomatch z)
    exact k _ g1 H1 ⟨ok1, st.trans s1, sl3, s1.le⟩
  · cases e
/-- name op= e, ints -/
def sAug (i : Nat) (op : D → D → Option D) (f : DE) : DS := fun ρ ω => match ρ[i]? with
  | some (.val x) => (match f ρ ω with
    | none => none
    | some (y, ω1) => match op x y with
      | none => none
      | some z => some (.nx (ρ.set i (.val z)), ω1))
  | _ => none
theorem sx_aug {i : Nat} {x : Str} {e : Expr} {te : TE} {fe : DE} {o : Operator} {op : D → D → Option D} {r : R2} {pos' : Pos} (hN : X.N.Nodup) (ho : OpR X (inplaceOp o) r) (hs : OpS X.K true true r op) (he : EX X true e te fe) (hi : X.N[i]? = some x := by rfl) (hx : Loc X.env.scope x := by first | exact Or.inl rfl | exact Or.inr rfl) (hf : X.fn x = true ∨ X.env.scope.names.lookup x = some .local := by first | exact .inl rfl | exact .inr rfl | assumption) :
    SX X (.AugAssign (.Name x pos') o e pos) (tAug i te r) (sAug i op fe) := by
  refine ⟨ps_aug hN hi hx he.pe (fun pins s σ H x y v u Q I rx ry q => ho pins s σ H x y v u Q I rx ry q) hf, ?_⟩
  intro g0 H0 g H ρ ω σ E o ω' ok st sl e k
  unfold sAug at e
  split at e
  · rename_i x1 hx1
    split at e
    · cases e
    rename_i y ω1 e1
    split at e
    · cases e
    rename_i z e2
    cases e
    obtain ⟨oo, h1, v, rfl, rv⟩ := sl.get hx1
    refine ⟨v, h1, ?_⟩
    refine he.sn g0 H0 g H ρ ω σ _ y ω' ok st sl e1 fun w g1 H1 s1 ok1 r1 => ?_
    have rv1 : RB X.K true g0 H0 g1 H1 x1 v := rv.mono s1.ιm s1.Gm
    refine hs g0 H0 g1 H1 ω' x1 y v w z _ ok1 (st.trans s1) rv1 r1 e2 fun u g2 H2 s2 ok2 r2 => ?_
    exact k _ g2 H2 ⟨ok2, (st.trans s1).trans s2, ((sl.step s1 ok1).step s2 ok2).set i ⟨u, rfl, r2⟩ (fun xs z => nomatch z), (s1.trans s2).le⟩
  · cases e

/-! ## one's own lists are changed -/
/-- the state behind a change of the own list in slot i -/
theorem own_mut {g0 g : Gh} {H0 H : Hp} {ρ : Ro} {ω : Wd} {σ : L2.St} {i : Nat} {p : Addr} {xs ys : List D} {ws : List V} (ok : GOk K g H ω) (st : Step g0 H0 g H) (sl : Slots K H0 g H ρ σ) (hx : ρ[i]? = some (.own xs)) (hσ : σ[i]? = some (some (.ref p))) (hz : ws.length ≤ sizeLine) (r : RepL K g.ι g.G ys ws) : GOk K g (upd H p (.lst ws)) ω ∧ Step g0 H0 g (upd H p (.lst ws)) ∧ Slots K H0 g (upd H p (.lst ws)) (ρ.set i (.own ys)) σ := by
  obtain ⟨q, vs, eq, hp, hG, hS, h0, _, _⟩ := sl.at_ i _ _ hx hσ
  cases eq
  refine ⟨mutOk ok hp hG hS, mutStep st h0, ⟨by rw [List.length_set]; exact sl.len, fun j s o e1 e2 => ?_, fun j l xs' ys' q e1 e2 e3 e4 => ?_⟩⟩
  · by_cases hj : i = j
    · subst hj
      have hi : i < ρ.length := (List.getElem?_eq_some_iff.mp hx).1
      rw [List.getElem?_set_self hi] at e1
      cases e1
      rw [hσ] at e2; cases e2
      exact ⟨p, ws, rfl, upd_same, hG, hS, h0, hz, r⟩
    · rw [List.getElem?_set_ne hj] at e1
      have h := sl.at_ j s o e1 e2
      cases s with
      | un => trivial
      | val d => exact h
      | own zs =>
        obtain ⟨q, us, eo, hq, r'⟩ := h
        have nqp : q ≠ p := fun z => by
          subst z
          subst eo
          exact hj (sl.ap i j xs zs q hx e1 hσ e2)
        exact ⟨q, us, eo, by rw [upd_ne nqp]; exact hq, r'⟩
  · have h1 : ∃ zs, ρ[j]? = some (.own zs) := by
      by_cases hj : i = j
      · subst hj; exact ⟨_, hx⟩
      · rw [List.getElem?_set_ne hj] at e1; exact ⟨_, e1⟩
    have h2 : ∃ zs, ρ[l]? = some (.own zs) := by
      by_cases hj : i = l
      · subst hj; exact ⟨_, hx⟩
      · rw [List.getElem?_set_ne hj] at e2; exact ⟨_, e2⟩
    obtain ⟨z1, h1⟩ := h1
    obtain ⟨z2, h2⟩ := h2
    exact sl.ap j l z1 z2 q h1 h2 e3 e4
/-- x.append(e) -/
def sApp (i : Nat) (f : DE) : DS := fun ρ ω => match f ρ ω with
  | none => none
  | some (d, ω1) => match ρ[i]? with
    | some (.own xs) => if xs.length < sizeLine then some (.nx (ρ.set i (.own (xs ++ [d]))), ω1) else none
    | _ => none
theorem sx_app {i : Nat} {x : Str} {e : Expr} {te : TE} {fe : DE} {npos apos cpos : Pos} (he : EX X true e te fe) (hN : X.N[i]? = some x := by rfl) (hv : Vis X.env.scope x := by first | exact Or.inl rfl | exact Or.inr (Or.inl rfl) | exact Or.inr (Or.inr rfl)) (hd : (x == ("__debug__" : Str)) = false := by decide)
    (hcd : (x == ("__classdict__" : Str)) = false := by decide) (hs : swapsWith (.Call (.Attribute (.Name x npos) "append" apos) [e] [] cpos) none pos.line X.env = pure false := by rfl)
    (hbase : attributeBase (.Name x npos) "append" X.env (eval (.Name x npos) X.env) = eval (.Name x npos) X.env := by rfl)
    (hfew : ((backTo cpos (starEach [e] X.env)).all (fun x => !x.1) && (backToKw cpos (keywordEach [] X.env)).all (fun x => x.1.isSome)
      && decide ([e].length + ([] : List Keyword).length + (if ([] : List Keyword).isEmpty then 0 else 1) < 30)) = true := by rfl)
    (hline : (apos.endLine == cpos.line) = true := by rfl) (hst : starEach [e] X.env = (false, eval e X.env) :: starEach [] X.env := by rfl) (hplain : (backTo cpos (starEach [] X.env)).any (·.1) = false := by rfl) :
    SX X (.Expr (.Call (.Attribute (.Name x npos) "append" apos) [e] [] cpos) pos) (tDrop (tBM X.K "list" rAppend (tVar i) (tCons te tNil))) (sApp i fe) := by
  refine ⟨ps_expr (pe_bm PySem.F.plainAttrs_list PySem.F.slot_list_append PySem.F.type_list_append mt_append (pe_var hN hv hd hcd) (pa_cons he.pe pa_nil hst) hbase hfew hline hst hplain) hs, ?_⟩
  intro g0 H0 g H ρ ω σ E o ω' ok st sl e k
  unfold sApp at e
  split at e
  · cases e
  rename_i d ω1 e1
  split at e
  · rename_i xs hx
    split at e
    · rename_i hz
      cases e
      obtain ⟨oo, h1, p, vs, rfl, hp, hG, hS, h0, z, r⟩ := sl.get hx
      refine ⟨_, h1, .inl ⟨rfl, vs, SqL.of hp⟩, ?_⟩
      refine he.sn g0 H0 g H ρ ω σ _ d ω' ok st sl e1 fun v g1 H1 s1 ok1 r1 => ?_
      have hp1 := s1.fr p _ hp hS
      have hl : vs.length < sizeLine := by rw [r.length]; exact hz
      refine ⟨p, vs, v, rfl, rfl, hp1, hl, ?_⟩
      obtain ⟨ok2, st2, sl2⟩ := own_mut (ys := xs ++ [d]) (ws := vs ++ [v]) ok1 (st.trans s1) (sl.step s1 ok1) hx h1 (by rw [List.length_append]; exact hl) ((r.mono s1.ιm s1.Gm).append (.cons r1 .nil))
      exact k σ g1 _ ⟨ok2, st2, sl2, s1.le⟩
    · cases e
  · cases e
/-- x.extend(e), e a list -/
def sExt (i : Nat) (f : DE) : DS := fun ρ ω => match f ρ ω with
  | some (.list ds, ω1) => (match ρ[i]? with
    | some (.own xs) => if xs.length + ds.length ≤ sizeLine then some (.nx (ρ.set i (.own (xs ++ ds))), ω1) else none
    | _ => none)
  | _ => none
theorem sx_ext {i : Nat} {x : Str} {e : Expr} {te : TE} {fe : DE} {npos apos cpos : Pos} (he : EX X true e te fe) (hN : X.N[i]? = some x := by rfl) (hv : Vis X.env.scope x := by first | exact Or.inl rfl | exact Or.inr (Or.inl rfl) | exact Or.inr (Or.inr rfl)) (hd : (x == ("__debug__" : Str)) = false := by decide)
    (hcd : (x == ("__classdict__" : Str)) = false := by decide) (hs : swapsWith (.Call (.Attribute (.Name x npos) "extend" apos) [e] [] cpos) none pos.line X.env = pure false := by rfl)
    (hbase : attributeBase (.Name x npos) "extend" X.env (eval (.Name x npos) X.env) = eval (.Name x npos) X.env := by rfl)
    (hfew : ((backTo cpos (starEach [e] X.env)).all (fun x => !x.1) && (backToKw cpos (keywordEach [] X.env)).all (fun x => x.1.isSome)
      && decide ([e].length + ([] : List Keyword).length + (if ([] : List Keyword).isEmpty then 0 else 1) < 30)) = true := by rfl)
    (hline : (apos.endLine == cpos.line) = true := by rfl) (hst : starEach [e] X.env = (false, eval e X.env) :: starEach [] X.env := by rfl) (hplain : (backTo cpos (starEach [] X.env)).any (·.1) = false := by rfl) :
    SX X (.Expr (.Call (.Attribute (.Name x npos) "extend" apos) [e] [] cpos) pos) (tDrop (tBM X.K "list" rExtend (tVar i) (tCons te tNil))) (sExt i fe) := by
  refine ⟨ps_expr (pe_bm PySem.F.plainAttrs_list PySem.F.slot_list_extend PySem.F.type_list_extend mt_extend (pe_var hN hv hd hcd) (pa_cons he.pe pa_nil hst) hbase hfew hline hst hplain) hs, ?_⟩
  intro g0 H0 g H ρ ω σ E o ω' ok st sl e k
  unfold sExt at e
  split at e
  · rename_i ds ω1 e1
    split at e
    · rename_i xs hx
      split at e
      · rename_i hz
        cases e
        obtain ⟨oo, h1, p, vs, rfl, hp, hG, hS, h0, z, r⟩ := sl.get hx
        refine ⟨_, h1, .inl ⟨rfl, vs, SqL.of hp⟩, ?_⟩
        refine he.sn g0 H0 g H ρ ω σ _ _ ω' ok st sl e1 fun v g1 H1 s1 ok1 r1 => ?_
        have hp1 := s1.fr p _ hp hS
        obtain ⟨a, ws, rfl, hq, zq, lq⟩ := r1.lstV ok1
        have hl : vs.length + ws.length ≤ sizeLine := by rw [r.length, RepL.length lq]; exact hz
        refine ⟨p, a, vs, ws, rfl, rfl, hp1, hq, hl, ?_⟩
        obtain ⟨ok2, st2, sl2⟩ := own_mut (ys := xs ++ ds) (ws := vs ++ ws) ok1 (st.trans s1) (sl.step s1 ok1) hx h1 (by rw [List.length_append]; exact hl) ((r.mono s1.ιm s1.Gm).append lq)
        exact k σ g1 _ ⟨ok2, st2, sl2, s1.le⟩
      · cases e
    · cases e
  · cases e
/-- y = x.pop(), or x.pop() -/
def sPop (i : Nat) (j : Option Nat) : DS := fun ρ ω => match ρ[i]? with
  | some (.own xs) => (match xs[xs.length - 1]? with
    | some d => some (.nx (match j with
      | none => ρ.set i (.own xs.dropLast)
      | some j => (ρ.set i (.own xs.dropLast)).set j (.val d)), ω)
    | none => none)
  | _ => none
theorem sx_pop {i : Nat} {x : Str} {npos apos cpos : Pos} (hN : X.N[i]? = some x := by rfl) (hv : Vis X.env.scope x := by first | exact Or.inl rfl | exact Or.inr (Or.inl rfl) | exact Or.inr (Or.inr rfl)) (hd : (x == ("__debug__" : Str)) = false := by decide)
    (hcd : (x == ("__classdict__" : Str)) = false := by decide) (hs : swapsWith (.Call (.Attribute (.Name x npos) "pop" apos) [] [] cpos) none pos.line X.env = pure false := by rfl)
    (hbase : attributeBase (.Name x npos) "pop" X.env (eval (.Name x npos) X.env) = eval (.Name x npos) X.env := by rfl) (hline : (apos.endLine == cpos.line) = true := by rfl) :
    SX X (.Expr (.Call (.Attribute (.Name x npos) "pop" apos) [] [] cpos) pos) (tDrop (tBM0 X.K "list" rPop (tVar i))) (sPop i none) := by
  refine ⟨ps_expr (pe_bm0 PySem.F.plainAttrs_list PySem.F.slot_list_pop PySem.F.type_list_pop mt_pop (pe_var hN hv hd hcd) hbase hline) hs, ?_⟩
  intro g0 H0 g H ρ ω σ E o ω' ok st sl e k
  unfold sPop at e
  split at e
  · rename_i xs hx
    split at e
    · rename_i d ed
      cases e
      obtain ⟨oo, h1, p, vs, rfl, hp, hG, hS, h0, z, r⟩ := sl.get hx
      obtain ⟨v, hv1, rv⟩ := r.get ed
      refine ⟨_, h1, .inl ⟨rfl, vs, SqL.of hp⟩, p, vs, v, rfl, rfl, hp, by rw [r.length]; exact hv1, ?_⟩
      obtain ⟨ok2, st2, sl2⟩ := own_mut (ys := xs.dropLast) (ws := vs.dropLast) ok st sl hx h1 (by rw [List.length_dropLast]; omega) r.dropLast
      exact k σ g _ ⟨ok2, st2, sl2, .refl _⟩
    · cases e
  · cases e
theorem sx_popTo {i j : Nat} {x y : Str} {npos apos cpos ypos : Pos} (hNd : X.N.Nodup) (hij : i ≠ j := by decide) (hN : X.N[i]? = some x := by rfl) (hv : Vis X.env.scope x := by first | exact Or.inl rfl | exact Or.inr (Or.inl rfl) | exact Or.inr (Or.inr rfl)) (hd : (x == ("__debug__" : Str)) = false := by decide)
    (hcd : (x == ("__classdict__" : Str)) = false := by decide) (hj : X.N[j]? = some y := by rfl) (hx : Loc X.env.scope y := by first | exact Or.inl rfl | exact Or.inr rfl) (hs : swapsWith (.Call (.Attribute (.Name x npos) "pop" apos) [] [] cpos) (some (.Name y ypos)) pos.line X.env = pure false := by rfl) (hf : X.fn y = true ∨ X.env.scope.names.lookup y = some .local := by first | exact .inl rfl | exact .inr rfl | assumption)
    (hbase : attributeBase (.Name x npos) "pop" X.env (eval (.Name x npos) X.env) = eval (.Name x npos) X.env := by rfl) (hline : (apos.endLine == cpos.line) = true := by rfl) :
    SX X (.Assign [.Name y ypos] (.Call (.Attribute (.Name x npos) "pop" apos) [] [] cpos) pos) (tAsg (tBM0 X.K "list" rPop (tVar i)) (gName j)) (sPop i (some j)) := by
  refine ⟨ps_set hNd hj hx (pe_bm0 PySem.F.plainAttrs_list PySem.F.slot_list_pop PySem.F.type_list_pop mt_pop (pe_var hN hv hd hcd) hbase hline) hs hf, ?_⟩
  intro g0 H0 g H ρ ω σ E o ω' ok st sl e k
  unfold sPop at e
  split at e
  · rename_i xs hx
    split at e
    · rename_i d ed
      cases e
      obtain ⟨oo, h1, p, vs, rfl, hp, hG, hS, h0, z, r⟩ := sl.get hx
      obtain ⟨v, hv1, rv⟩ := r.get ed
      refine ⟨_, h1, .inl ⟨rfl, vs, SqL.of hp⟩, p, vs, v, rfl, rfl, hp, by rw [r.length]; exact hv1, ?_⟩
      obtain ⟨ok2, st2, sl2⟩ := own_mut (ys := xs.dropLast) (ws := vs.dropLast) ok st sl hx h1 (by rw [List.length_dropLast]; omega) r.dropLast
      exact k _ g _ ⟨ok2, st2, sl2.set j ⟨v, rfl, rv⟩ (fun xs z => nomatch z), .refl _⟩
    · cases e
  · cases e
/-- x[k] = e -/
def sSetIx (i : Nat) (fk fe : DE) : DS := fun ρ ω => match fe ρ ω with
  | none => none
  | some (d, ω1) => match fk ρ ω1 with
    | some (.int k, ω2) => (match ρ[i]? with
      | some (.own xs) => (match ixN xs.length k with
        | some j => some (.nx (ρ.set i (.own (xs.set j d))), ω2)
        | none => none)
      | _ => none)
    | _ => none
theorem sx_setIx {i : Nat} {x : Str} {e ek : Expr} {te tk : TE} {fe fk : DE} {npos spos : Pos} (he : EX X true e te fe) (hk : EX X b ek tk fk) (hN : X.N[i]? = some x := by rfl) (hv : Vis X.env.scope x := by first | exact Or.inl rfl | exact Or.inr (Or.inl rfl) | exact Or.inr (Or.inr rfl)) (hd : (x == ("__debug__" : Str)) = false := by decide)
    (hcd : (x == ("__classdict__" : Str)) = false := by decide) (ha : ∀ v, assign (.Subscript (.Name x npos) ek spos) X.env v = (do
      let ov ← holding [v] (eval (.Name x npos) X.env)
      let iv ← holding [v, ov] (eval ek X.env)
      standAt spos
      holding [v, ov, iv] (setItem ov iv v)
      release [v, ov, iv] []) := by intro _; rfl) (hs : swapsWithSole [.Subscript (.Name x npos) ek spos] e pos.line X.env = pure false := by rfl) (hw : swappedStores [.Subscript (.Name x npos) ek spos] e X.env = pure none := by rfl)
    (h1 : (assignEach [.Subscript (.Name x npos) ek spos] X.env).map (·.2) = [assign (.Subscript (.Name x npos) ek spos) X.env] := by rfl) :
    SX X (.Assign [.Subscript (.Name x npos) ek spos] e pos) (tAsg te (gSub (tVar i) tk rSetL)) (sSetIx i fk fe) := by
  refine ⟨ps_asg he.pe (pg_sub (pe_var hN hv hd hcd) hk.pe set_list ha) hs hw h1, ?_⟩
  intro g0 H0 g H ρ ω σ E o ω' ok st sl e kk
  unfold sSetIx at e
  split at e
  · cases e
  rename_i d ω1 e1
  split at e
  · rename_i k ω2 e2
    split at e
    · rename_i xs hx
      split at e
      · rename_i j ej
        cases e
        obtain ⟨oo, h1, p, vs, rfl, hp, hG, hS, h0, z, r⟩ := sl.get hx
        refine he.sn g0 H0 g H ρ ω σ _ d ω1 ok st sl e1 fun v g1 H1 s1 ok1 r1 => ?_
        refine ⟨_, h1, ?_⟩
        refine hk.sn g0 H0 g1 H1 ρ ω1 σ _ _ ω' ok1 (st.trans s1) (sl.step s1 ok1) e2 fun w g2 H2 s2 ok2 r2 => ?_
        have hp2 := s2.fr p _ (s1.fr p _ hp hS) (fun q => by rcases s1.nS p q with z | z; exact hS z; rw [hp] at z; cases z)
        refine ⟨p, vs, k, j, rfl, r2.intV, hp2, by rw [r.length]; exact ej, ?_⟩
        obtain ⟨ok3, st3, sl3⟩ := own_mut (ys := xs.set j d) (ws := vs.set j v) ok2 ((st.trans s1).trans s2) ((sl.step s1 ok1).step s2 ok2) hx h1 (by rw [List.length_set]; exact z) ((r.mono (s1.trans s2).ιm (s1.trans s2).Gm).set j (r1.mono s2))
        exact kk σ g2 _ ⟨ok3, st3, sl3, (s1.trans s2).le⟩
      · cases e
    · cases e
  · cases e
/-- box[k] = e, box an object of the store -/
def sSetOb (fo fk fe : DE) : DS := fun ρ ω => match fe ρ ω with
  | none => none
  | some (d, ω1) => match fo ρ ω1 with
    | none => none
    | some (x, ω2) => match obN x with
      | none => none
      | some n => match fk ρ ω2 with
        | some (.int k, ω3) => (match ω3.objs[n]? with
          | some (.lst xs) => (match ixN xs.length k with
            | some j => some (.nx ρ, ⟨ω3.live, ω3.objs.set n (.lst (xs.set j d))⟩)
            | none => none)
          | none => none)
        | _ => none
theorem sx_setOb {e eo ek : Expr} {te to tk : TE} {fe fo fk : DE} {spos : Pos} (he : EX X true e te fe) (ho : EX X b eo to fo) (hk : EX X b' ek tk fk) (ha : ∀ v, assign (.Subscript eo ek spos) X.env v = (do
      let ov ← holding [v] (eval eo X.env)
      let iv ← holding [v, ov] (eval ek X.env)
      standAt spos
      holding [v, ov, iv] (setItem ov iv v)
      release [v, ov, iv] []) := by intro _; rfl) (hs : swapsWithSole [.Subscript eo ek spos] e pos.line X.env = pure false := by rfl) (hw : swappedStores [.Subscript eo ek spos] e X.env = pure none := by rfl)
    (h1 : (assignEach [.Subscript eo ek spos] X.env).map (·.2) = [assign (.Subscript eo ek spos) X.env] := by rfl) :
    SX X (.Assign [.Subscript eo ek spos] e pos) (tAsg te (gSub to tk rSetL)) (sSetOb fo fk fe) := by
  refine ⟨ps_asg he.pe (pg_sub ho.pe hk.pe set_list ha) hs hw h1, ?_⟩
  intro g0 H0 g H ρ ω σ E o ω' ok st sl e kk
  unfold sSetOb at e
  split at e
  · cases e
  rename_i d ω1 e1
  split at e
  · cases e
  rename_i x ω2 e2
  split at e
  · cases e
  rename_i n en
  split at e
  · rename_i k ω3 e3
    split at e
    · rename_i xs hx
      split at e
      · rename_i j ej
        cases e
        have := obN_eq en
        subst this
        refine he.sn g0 H0 g H ρ ω σ _ d ω1 ok st sl e1 fun v g1 H1 s1 ok1 r1 => ?_
        refine ho.sn g0 H0 g1 H1 ρ ω1 σ _ _ ω2 ok1 (st.trans s1) (sl.step s1 ok1) e2 fun w g2 H2 s2 ok2 r2 => ?_
        refine hk.sn g0 H0 g2 H2 ρ ω2 σ _ _ ω3 ok2 ((st.trans s1).trans s2) ((sl.step s1 ok1).step s2 ok2) e3 fun y g3 H3 s3 ok3 r3 => ?_
        obtain ⟨a, ia, rfl⟩ := (r2.mono s3).ob
        obtain ⟨a', ia', vs, ha', rr⟩ := ok3.st n _ hx
        rw [ia] at ia'; cases ia'
        obtain ⟨s4, ok4⟩ := obSet ok3 hx ia (rr.set j (r1.mono (s2.trans s3)))
        refine ⟨a, vs, k, j, rfl, r3.intV, ha', by rw [rr.length]; exact ej, ?_⟩
        have s14 := ((s1.trans s2).trans s3).trans s4
        exact kk σ g3 _ ⟨ok4, st.trans s14, sl.step s14 ok4, s14.le⟩
      · cases e
    · cases e
  · cases e
/-- a list of one's own is settled: it will not be changed any more -/
def sFrz (i : Nat) (f : DS) : DS := fun ρ ω => match ρ[i]? with
  | some (.own xs) => f (ρ.set i (.val (.list xs))) ω
  | _ => none
theorem SndS.frz (i : Nat) (hf : SndS K t f) : SndS K t (sFrz i f) := by
  intro g0 H0 g H ρ ω σ E o ω' ok st sl e k
  unfold sFrz at e
  split at e
  · rename_i xs hx
    obtain ⟨oo, h1, p, vs, rfl, hp, hG, hS, h0, z, r⟩ := sl.get hx
    obtain ⟨ok2, le⟩ := settle ok hp hG hS
    have st2 := settleStep (vs := vs) st hG h0
    refine hf g0 H0 (g.add p (.lst vs)) H _ ω σ E o ω' ok2 st2 ?_ e (k.le le)
    refine ⟨by rw [List.length_set]; exact sl.len, fun j s o e1 e2 => ?_, fun j l xs' ys' q e1 e2 e3 e4 => ?_⟩
    · by_cases hj : i = j
      · subst hj
        have hi : i < ρ.length := (List.getElem?_eq_some_iff.mp hx).1
        rw [List.getElem?_set_self hi] at e1
        cases e1
        rw [h1] at e2; cases e2
        refine ⟨_, rfl, ?_⟩
        rw [Rep]
        exact ⟨p, vs, rfl, upd_same, z, r.mono le.ιm le.Gm⟩
      · rw [List.getElem?_set_ne hj] at e1
        have h := sl.at_ j s o e1 e2
        cases s with
        | un => trivial
        | val d => obtain ⟨v, ev, rv⟩ := h; exact ⟨v, ev, rv.mono le.ιm le.Gm⟩
        | own zs =>
          obtain ⟨q, us, eo, hq, hGq, hSq, h0q, zq, rq⟩ := h
          have nqp : q ≠ p := fun z => by
            subst z
            subst eo
            exact hj (sl.ap i j xs zs q hx e1 h1 e2)
          refine ⟨q, us, eo, hq, ?_, hSq, h0q, zq, rq.mono le.ιm le.Gm⟩
          rw [Gh.add]; simp only; rw [upd_ne nqp]; exact hGq
    · have n1 : i ≠ j := fun z => by
        subst z
        have hi : i < ρ.length := (List.getElem?_eq_some_iff.mp hx).1
        rw [List.getElem?_set_self hi] at e1; cases e1
      have n2 : i ≠ l := fun z => by
        subst z
        have hi : i < ρ.length := (List.getElem?_eq_some_iff.mp hx).1
        rw [List.getElem?_set_self hi] at e2; cases e2
      rw [List.getElem?_set_ne n1] at e1
      rw [List.getElem?_set_ne n2] at e2
      exact sl.ap j l xs' ys' q e1 e2 e3 e4
  · cases e
theorem SX.frz {i : Nat} (hf : SX X st t f) : SX X st t (sFrz i f) := ⟨hf.pe, hf.sn.frz i⟩

/-! ## loops -/
def loopD (g : DG) (f : DS) : List D → Ro → Wd → Option (Out × Wd)
  | [], ρ, ω => some (.nx ρ, ω)
  | d :: ds, ρ, ω => match g d ρ with
    | none => none
    | some ρ1 => match f ρ1 ω with
      | some (.nx ρ2, ω2) => loopD g f ds ρ2 ω2
      | some (.ct ρ2, ω2) => loopD g f ds ρ2 ω2
      | some (.bk ρ2, ω2) => some (.nx ρ2, ω2)
      | some (.rt d, ω2) => some (.rt d, ω2)
      | none => none
def sFor (fi : DA) (g : DG) (f : DS) : DS := fun ρ ω => match fi ρ ω with
  | none => none
  | some (ds, ω1) => loopD g f ds ρ ω1
theorem sn_for {wi : TI} {tg : TG} {tb : TS} {fi : DA} {js : List Nat} {fg : DG} {fb : DS} (hi : SndI K true wi fi) (hg : SndG K tg js fg) (hb : SndS K tb fb) : SndS K (tFor wi tg tb) (sFor fi fg fb) := by
  intro g0 H0 g H ρ ω σ E o ω' ok st sl e k
  unfold sFor at e
  split at e
  · cases e
  rename_i items ω1 e1
  refine hi g0 H0 g H ρ ω σ _ items ω1 ok st sl e1 fun J g1 H1 s1 ok1 hz hJ => ?_
  refine ⟨fun i m σ H => m = items.length - i ∧ i ≤ items.length ∧ ∃ g' ρ' ω2, SI K g0 H0 g1 g' ρ' ω2 σ H ∧ loopD fg fb (items.drop i) ρ' ω2 = some (o, ω'), ⟨_, rfl, Nat.zero_le _, g1, ρ, ω1, ⟨ok1, st.trans s1, sl.step s1 ok1, .refl _⟩, e⟩, ?_⟩
  rintro i m σ2 H2 ⟨rfl, hil, g2, ρ2, ω2, S, el⟩
  have it := hJ g2 H2 ⟨S.le, S.ok.sub⟩
  by_cases hlt : i < items.length
  · obtain ⟨d, hd⟩ : ∃ d, items[i]? = some d := ⟨_, List.getElem?_eq_getElem hlt⟩
    obtain ⟨go, hy⟩ := it.go i d hd
    rw [List.drop_eq_getElem_cons hlt] at el
    have hd' : items[i] = d := by rw [List.getElem?_eq_getElem hlt] at hd; exact Option.some.inj hd
    rw [hd'] at el
    unfold loopD at el
    refine .inr ⟨go, fun σ' H' => ∃ m', m' = items.length - (i + 1) ∧ (i + 1) ≤ items.length ∧ ∃ g' ρ' ω2, SI K g0 H0 g1 g' ρ' ω2 σ' H' ∧ loopD fg fb (items.drop (i + 1)) ρ' ω2 = some (o, ω'), fun σ' H' ⟨m', e', r'⟩ => ⟨m', by omega, e', r'⟩, fun x H3 hyld => ?_⟩
    obtain ⟨g3, s3, k3, r3⟩ := hy x H3 hyld
    have ok3 := k3 ω2 S.ok
    split at el
    · cases el
    rename_i ρ3 eg
    have st3 := S.st.trans s3
    refine hg H0 g3 H3 ρ2 σ2 d x ρ3 _ ok3.sub (S.sl.step s3 ok3) r3 eg fun σ4 sl4 _ _ => ?_
    have le3 : GLe g1 g3 := S.le.trans s3.le
    split at el
    · rename_i ρ5 ω5 eb
      exact hb g0 H0 g3 H3 ρ3 ω2 σ4 _ _ ω5 ok3 st3 sl4 eb fun σ6 g6 H6 S6 => ⟨_, rfl, hlt, g6, ρ5, ω5, ⟨S6.ok, S6.st, S6.sl, le3.trans S6.le⟩, el⟩
    · rename_i ρ5 ω5 eb
      exact hb g0 H0 g3 H3 ρ3 ω2 σ4 _ _ ω5 ok3 st3 sl4 eb fun σ6 g6 H6 S6 => ⟨_, rfl, hlt, g6, ρ5, ω5, ⟨S6.ok, S6.st, S6.sl, le3.trans S6.le⟩, el⟩
    · rename_i ρ5 ω5 eb
      cases el
      exact hb g0 H0 g3 H3 ρ3 ω2 σ4 _ _ ω' ok3 st3 sl4 eb fun σ6 g6 H6 S6 => k σ6 g6 H6 ⟨S6.ok, S6.st, S6.sl, (s1.le.trans le3).trans S6.le⟩
    · rename_i d5 ω5 eb
      cases el
      exact hb g0 H0 g3 H3 ρ3 ω2 σ4 _ _ ω' ok3 st3 sl4 eb k
    · cases el
  · have hil' : i = items.length := by omega
    subst hil'
    rw [List.drop_length] at el
    unfold loopD at el
    cases el
    exact .inl ⟨it.stop _ (Nat.le_refl _), k σ2 g2 H2 ⟨S.ok, S.st, S.sl, s1.le.trans S.le⟩⟩
theorem sx_for {tg iter : Expr} {body : List Stmt} {wi : TI} {g : TG} {tb : TS} {fi : DA} {js : List Nat} {fg : DG} {fb : DS} (hp : PassesOwn (model X.prog X.w) X.A X.env X.xe) (hc : X.calm = true) (hi : EI X true tg iter wi fi) (hg : EG X tg g js fg) (hb : SXs X body tb fb)
    (hs : ∀ x, foldedSetIterable iter X.env x = pure x := by intro _; rfl) : SX X (.For tg iter body [] pos) (tFor wi g tb) (sFor fi fg fb) := ⟨ps_for hp hc hi.pe hg.pe hb.pe hs, sn_for hi.sn hg.sn hb.sn⟩
def whileD (c : DT) (f : DS) : Nat → Ro → Wd → Option (Out × Wd)
  | 0, _, _ => none
  | n + 1, ρ, ω => match c ρ ω with
    | none => none
    | some (t, ω1) => if t = true then (match f ρ ω1 with
        | some (.nx ρ2, ω2) => whileD c f n ρ2 ω2
        | some (.ct ρ2, ω2) => whileD c f n ρ2 ω2
        | some (.bk ρ2, ω2) => some (.nx ρ2, ω2)
        | some (.rt d, ω2) => some (.rt d, ω2)
        | none => none)
      else some (.nx ρ, ω1)
/-- how often a while may turn, at most -/
def FUEL : Nat := 1000000
def sWhile (c : DT) (f : DS) : DS := fun ρ ω => whileD c f FUEL ρ ω
theorem sn_while {tc : TT} {tb : TS} {c : DT} {fb : DS} (hc : SndT K tc c) (hb : SndS K tb fb) : SndS K (tWhile tc tb) (sWhile c fb) := by
  intro g0 H0 g H ρ ω σ E o ω' ok st sl e k
  unfold sWhile at e
  refine ⟨fun m σ H => ∃ g' ρ' ω2, SI K g0 H0 g g' ρ' ω2 σ H ∧ whileD c fb m ρ' ω2 = some (o, ω'), ⟨FUEL, g, ρ, ω, ⟨ok, st, sl, .refl _⟩, e⟩, ?_⟩
  rintro m σ2 H2 ⟨g2, ρ2, ω2, S, el⟩
  cases m with
  | zero => unfold whileD at el; cases el
  | succ m =>
    unfold whileD at el
    split at el
    · cases el
    rename_i t ω3 ec
    refine hc g0 H0 g2 H2 ρ2 ω2 σ2 _ t ω3 S.ok S.st S.sl ec fun g3 H3 s3 ok3 => ?_
    have le3 := S.le.trans s3.le
    cases t with
    | true =>
      refine iteT ?_
      rw [if_pos rfl] at el
      refine ⟨fun σ' H' => ∃ g' ρ' ω2, SI K g0 H0 g g' ρ' ω2 σ' H' ∧ whileD c fb m ρ' ω2 = some (o, ω'), fun σ' H' h => ⟨m, Nat.lt_succ_self _, h⟩, ?_⟩
      have st3 := S.st.trans s3
      have sl3 := S.sl.step s3 ok3
      split at el
      · rename_i ρ5 ω5 eb
        exact hb g0 H0 g3 H3 ρ2 ω3 σ2 _ _ ω5 ok3 st3 sl3 eb fun σ6 g6 H6 S6 => ⟨g6, ρ5, ω5, ⟨S6.ok, S6.st, S6.sl, le3.trans S6.le⟩, el⟩
      · rename_i ρ5 ω5 eb
        exact hb g0 H0 g3 H3 ρ2 ω3 σ2 _ _ ω5 ok3 st3 sl3 eb fun σ6 g6 H6 S6 => ⟨g6, ρ5, ω5, ⟨S6.ok, S6.st, S6.sl, le3.trans S6.le⟩, el⟩
      · rename_i ρ5 ω5 eb
        cases el
        exact hb g0 H0 g3 H3 ρ2 ω3 σ2 _ _ ω' ok3 st3 sl3 eb fun σ6 g6 H6 S6 => k σ6 g6 H6 ⟨S6.ok, S6.st, S6.sl, le3.trans S6.le⟩
      · rename_i d5 ω5 eb
        cases el
        exact hb g0 H0 g3 H3 ρ2 ω3 σ2 _ _ ω' ok3 st3 sl3 eb k
      · cases el
    | false =>
      refine iteF ?_
      rw [if_neg Bool.false_ne_true] at el
      cases el
      exact k σ2 g3 H3 ⟨ok3, S.st.trans s3, S.sl.step s3 ok3, le3⟩
theorem sx_while {c : Expr} {body : List Stmt} {tc : TT} {tb : TS} {fc : DT} {fb : DS} (hp : PassesOwn (model X.prog X.w) X.A X.env X.xe) (hc : ET X c tc fc) (hb : SXs X body tb fb) : SX X (.While c body [] pos) (tWhile tc tb) (sWhile fc fb) := ⟨ps_while hp hc.pe hb.pe, sn_while hc.sn hb.sn⟩
end

/-! ## a def -/
def defD (m : Nat) (f : DS) (ds : List D) (ω : Wd) : Option (D × Wd) := match f (ds.map SV.val ++ List.replicate (m - ds.length) .un) ω with
  | some (.rt d, ω') => some (d, ω')
  | some (.nx _, ω') => some (.none, ω')
  | _ => none
theorem fn_den {P : Program} {w : World} {K : PySem.W.Frag} {mg : Str → Option Value} {base : Heap} {x qual : Str} {st : Stmt} {f : Addr} {fd : FuncData} {N ps : List Str} {k : Nat} {fb : DS} (F : Fun K x qual st f fd) (S : FnScope N ps (defScope st))
    (body : ∀ (cdv : Value) (A : Around) (outer : List PySem.Env) (s : Shared) (H : Hp) (E : XK), Room k (A.deeper (PyProof.Rows.envOfC qual (defScope st) s.heap.objs.size f cdv)) → ∃ t, SXs (cxOf CX0 P w K mg base N qual (defScope st) f cdv A outer s H E).nox (defBody st) t fb) :
    FnOk P w K mg base CX0 (k + 1) f fd ps (spD K ps.length (defD N.length fb)) := by
  refine F.ok S (fun vs H Q E h => ?_) (fun cdv A outer s H vs Q E hr h => ?_)
  · obtain ⟨g, ω, ds, d, ω', h1, _⟩ := h
    exact h1
  · obtain ⟨g, ω, ds, d, ω', h1, ok, r, e, q⟩ := h
    obtain ⟨t, B⟩ := body cdv A outer s H E hr
    refine ⟨t, B.pe, ?_⟩
    have hl := r.length
    have sl : Slots K H g H (ds.map SV.val ++ List.replicate (N.length - ds.length) .un) (L2.start N vs) := by
      refine ⟨?_, fun i s o e1 e2 => ?_, fun i j xs ys p e1 e2 e3 e4 => ?_⟩
      · unfold L2.start; simp [hl]
      · by_cases hi : i < ds.length
        · rw [List.getElem?_append_left (by simpa using hi)] at e1
          rw [List.getElem?_map] at e1
          obtain ⟨d1, hd, rfl⟩ := Option.map_eq_some_iff.mp e1
          obtain ⟨v, hv, rv⟩ := r.get hd
          unfold L2.start at e2
          rw [List.getElem?_append_left (by simp; omega), List.getElem?_map, hv] at e2
          cases e2
          exact ⟨v, rfl, rv⟩
        · rw [List.getElem?_append_right (by simp; omega)] at e1
          have := List.getElem?_replicate (n := N.length - ds.length) (a := SV.un) (i := i - (ds.map SV.val).length)
          rw [e1] at this
          split at this
          · cases this; trivial
          · cases this
      · by_cases hi : i < ds.length
        · rw [List.getElem?_append_left (by simpa using hi), List.getElem?_map] at e1
          obtain ⟨d1, _, z⟩ := Option.map_eq_some_iff.mp e1
          cases z
        · rw [List.getElem?_append_right (by simp; omega)] at e1
          have := List.getElem?_replicate (n := N.length - ds.length) (a := SV.un) (i := i - (ds.map SV.val).length)
          rw [e1] at this
          split at this <;> cases this
    unfold defD at e
    split at e
    · rename_i d1 ω1 e1
      cases e
      exact B.sn g H g H _ ω _ _ _ ω' ok (.refl _ _) sl e1 fun v g' H' ok' st' r' => q v g' H' st' ok' r'
    · rename_i ρ1 ω1 e1
      cases e
      exact B.sn g H g H _ ω _ _ _ ω' ok (.refl _ _) sl e1 fun σ' g' H' S' => q .non g' H' S'.st S'.ok (by rw [Rep])
    · cases e
end Dn
end

section
namespace Dn
open PySem PySem.Spec L2
variable [Tb]
section
variable {X : Cx} {K : PySem.W.Frag} {b b' : Bool}
/-! ## a list or a tuple is walked, whichever it is -/
def iSeq (K : PySem.W.Frag) (tl : TE) : TI := fun σ H R => tl σ H fun x H1 => ∃ a, x = .ref a ∧ (((∃ xs, H1 a = some (.lst xs)) ∧ R (Itl K a) H1) ∨ ((∃ xs, SqT K H1 a xs) ∧ R (Itt K a) H1))
theorem pi_seq {tg l : Expr} {tl : TE} (hl : PE X l tl) : PI X tg l (iSeq X.K tl) := by
  constructor
  intro pins s σ H R I h
  refine thn (hl.run pins s σ H _ I h) ?_
  rintro v s1 ⟨x, H1, I1, r1, a, rfl, q⟩
  cases r1
  have fresh : ∀ c ∈ [s1.heap.objs.size], FpOk X pins H1 c := by
    intro c hc
    rw [List.mem_singleton.mp hc]
    exact I1.fpOk (Nat.le_refl _) (I1.hok.fresh (Nat.le_refl _))
  rcases q with ⟨⟨xs, hx⟩, q⟩ | ⟨⟨xs, hx⟩, q⟩
  · obtain ⟨its, rv, pl, hz⟩ := I1.list (SqL.of hx)
    refine wpAny_pyIter_list pl.isList ?_
    exact ⟨_, _, _, _, H1, rfl, I1.kept (t' := s1.toks) (fun c o eo => Heap.get?_push_of_some _ eo), turn_list a _, ⟨_, Heap.get?_push_size _ rfl, rfl, rfl⟩, fresh, q⟩
  · obtain ⟨its, rv, pt, hz⟩ := I1.tuple hx
    refine wpAny_pyIter_tuple (items := its.toArray) pt ?_
    exact ⟨_, _, _, _, H1, rfl, I1.kept (t' := s1.toks) (fun c o eo => Heap.get?_push_of_some _ eo), turn_tuple a _, ⟨_, Heap.get?_push_size _ rfl, rfl, rfl⟩, fresh, q⟩
def iSq (f : DE) : DA := fun ρ ω => match f ρ ω with
  | some (.list ds, ω1) => some (ds, ω1)
  | some (.tuple ds, ω1) => some (ds, ω1)
  | _ => none
theorem sni_seq {t : TE} {f : DE} (h : Snd K true t f) : SndI K b (iSeq K t) (iSq f) := by
  intro g0 H0 g H ρ ω σ R ds ω' ok st sl e k
  unfold iSq at e
  split at e
  · rename_i ds1 ω1 e1
    cases e
    refine h g0 H0 g H ρ ω σ _ _ ω' ok st sl e1 fun v g1 H1 s1 ok1 r1 => ?_
    have r1' : Rep K g1.ι g1.G (.list ds) v := r1
    rw [Rep] at r1'
    obtain ⟨a, vs, rfl, q, z, r⟩ := r1'
    refine ⟨a, rfl, .inl ⟨⟨vs, ok1.sub _ _ q⟩, k _ g1 H1 s1 ok1 (by rw [← r.length]; exact z) fun g2 H2 l => ?_⟩⟩
    cases b with
    | true => exact itS_lst (l.2 _ _ (l.1.Gm _ _ q)) (r.mono l.1.ιm l.1.Gm)
    | false =>
      have l : Step g1 H1 g2 H2 := l
      exact itS_lst (l.fr _ _ (ok1.sub _ _ q) (ok1.nS _ _ q)) (r.mono l.ιm l.Gm)
  · rename_i ds1 ω1 e1
    cases e
    refine h g0 H0 g H ρ ω σ _ _ ω' ok st sl e1 fun v g1 H1 s1 ok1 r1 => ?_
    have r1' : Rep K g1.ι g1.G (.tuple ds) v := r1
    rw [Rep] at r1'
    obtain ⟨a, vs, rfl, q, z, r⟩ := r1'
    refine ⟨a, rfl, .inr ⟨⟨vs, SqT.mono ok1.sub q⟩, k _ g1 H1 s1 ok1 (by rw [← r.length]; exact z) fun g2 H2 l => ?_⟩⟩
    cases b with
    | true => exact itS_tup (SqT.mono (fun x o h => l.2 _ _ (l.1.Gm _ _ h)) q) (r.mono l.1.ιm l.1.Gm)
    | false =>
      have l : Step g1 H1 g2 H2 := l
      exact itS_tup (SqT.mono (fun x o h => l.fr _ _ (ok1.sub _ _ h) (ok1.nS _ _ h)) q) (r.mono l.ιm l.Gm)
  · cases e
theorem ei_seq {tg e : Expr} {t : TE} {f : DE} (h : EX X true e t f) : EI X b tg e (iSeq X.K t) (iSq f) := ⟨pi_seq h.pe, sni_seq h.sn⟩

/-! ## range with a step -/
def rg3D (i c : Int) (n : Nat) : List D := (List.range n).map fun (k : Nat) => .int (i + k * c)
def rg3N (i j c : Int) : Nat := (Builtin.Range.rangeSize i j c).toNat
omit [Tb] in
theorem rg3Ok_ex : ∃ f : Int → Int → Int → Bool, ∀ i j c, f i j c = (decide (c ≠ 0) && decide (c.natAbs < 1073741824) && Builtin.Range.small i j c && decide (0 ≤ Builtin.Range.rangeSize i j c) && decide (rg3N i j c ≤ 16777216)) := ⟨_, fun _ _ _ => rfl⟩
noncomputable def rg3Ok : Int → Int → Int → Bool := Classical.choose rg3Ok_ex
theorem rg3Ok_eq (i j c : Int) : rg3Ok i j c = (decide (c ≠ 0) && decide (c.natAbs < 1073741824) && Builtin.Range.small i j c && decide (0 ≤ Builtin.Range.rangeSize i j c) && decide (rg3N i j c ≤ 16777216)) := Classical.choose_spec rg3Ok_ex i j c
noncomputable def iRange3 (a : DA) : DA := fun ρ ω => match a ρ ω with
  | some ([.int i, .int j, .int c], ω1) => if rg3Ok i j c = true then some (rg3D i c (rg3N i j c), ω1) else none
  | _ => none
theorem itS_rng3 {g : Gh} {H : Hp} {i c : Int} {n : Nat} : ItS K (Itc i c n) (rg3D i c n) g H where
  stop k hk := by unfold rg3D at hk; rw [List.length_map, List.length_range] at hk; exact hk
  go k d e := by
    have hk : k < n := by
      have := (List.getElem?_eq_some_iff.mp e).1
      unfold rg3D at this
      rw [List.length_map, List.length_range] at this; exact this
    refine ⟨hk, fun x H2 y => ?_⟩
    obtain ⟨rfl, rfl⟩ := y
    refine ⟨g, .refl _ _, fun _ h => h, ?_⟩
    have e2 : d = .int (i + k * c) := by
      unfold rg3D at e
      rw [List.getElem?_map, List.getElem?_range hk] at e
      exact (Option.some.inj e).symm
    subst e2
    rw [Rep]
theorem sni_rng3 {ta : TA} {f : DA} (h : SndA K b' ta f) : SndI K b (iRng3 ta) (iRange3 f) := by
  intro g0 H0 g H ρ ω σ R ds ω' ok st sl e k
  unfold iRange3 at e
  split at e
  · rename_i i j c ω1 e1
    split at e
    · rename_i hr
      cases e
      refine h g0 H0 g H ρ ω σ _ _ ω' ok st sl e1 fun vs g1 H1 s1 ok1 r1 => ?_
      obtain ⟨v, ws, rfl, r, t⟩ := RepL.inv r1
      obtain ⟨v2, v3, rfl, r2, r3⟩ := RBL.two (b := b') (g0 := g0) (H0 := H0) (g := g1) (H := H1) t
      simp only [rg3Ok_eq, Bool.and_eq_true, decide_eq_true_eq] at hr
      obtain ⟨⟨⟨⟨h1, h2⟩, h3⟩, h4⟩, h5⟩ := hr
      refine ⟨i, j, c, rg3N i j c, by rw [show v = .int i from RB.intV r, show v2 = .int j from r2.intV, show v3 = .int c from r3.intV], ⟨h1, h2, h3, ?_⟩, k _ g1 H1 s1 ok1 ?_ fun g2 H2 _ => itS_rng3⟩
      · unfold rg3N; omega
      · unfold rg3D; rw [List.length_map, List.length_range, sizeLine_eq]; exact h5
    · cases e
  · cases e
theorem ei_rng3 {tg a c d : Expr} {ta : TA} {f : DA} {p pos : Pos} (hm : X.mg "range" = none) (h : EA X b' [a, c, d] ta f) (hg : Gl X "range" := by rfl) (hs : starEach [a, c, d] X.env = (false, eval a X.env) :: starEach [c, d] X.env := by rfl) (hs2 : (backTo pos (starEach [c, d] X.env)).any (·.1) = false := by rfl) : EI X b tg (.Call (.Name "range" p) [a, c, d] [] pos) (iRng3 ta) (iRange3 f) :=
  ⟨pi_range3 hg hm h.pe hs hs2, sni_rng3 h.sn⟩
/-! ## comprehensions of two clauses -/
/-- the heap without one address -/
def rm (P : Addr) (H : Hp) : Hp := fun a => if a = P then none else H a
theorem rm_ne {P a : Addr} {H : Hp} (h : a ≠ P) : rm P H a = H a := by unfold rm; rw [if_neg h]
theorem rm_same {P : Addr} {H : Hp} : rm P H P = none := by unfold rm; rw [if_pos rfl]
theorem rm_some {P a : Addr} {H : Hp} {o : HO} (h : rm P H a = some o) : a ≠ P ∧ H a = some o := by
  by_cases hap : a = P
  · subst hap; rw [rm_same] at h; cases h
  · rw [rm_ne hap] at h; exact ⟨hap, h⟩
theorem GOk.rm {g : Gh} {H : Hp} {ω : Wd} {P : Addr} (ok : GOk K g H ω) (hG : g.G P = none) (hS : ¬ g.S P) : GOk K g (rm P H) ω := by
  have ne : ∀ a o, g.G a = some o → a ≠ P := fun a o h z => by subst z; rw [hG] at h; cases h
  refine ⟨fun a o h => by rw [rm_ne (ne a o h)]; exact ok.sub a o h, ok.seq, ok.nS, ok.inj, ok.inS, fun n o e => ?_, fun a h => ?_, ok.lv, ok.tbH fun Q ps hs e => (rm_ne (fun (z : Q = P) => hS (by rw [← z]; exact hs))).trans e⟩
  · obtain ⟨a, ia, h⟩ := ok.st n o e
    have hn : n < ω.objs.length := (List.getElem?_eq_some_iff.mp e).1
    have nap : a ≠ P := fun z => by subst z; exact hS (ok.inS n a hn ia)
    exact ⟨a, ia, h.mono (fun _ _ h => h) (fun _ _ h => h) (rm_ne nap)⟩
  · obtain ⟨u, e, t⟩ := ok.sl a h
    exact ⟨u, by rw [rm_ne (fun z => by subst z; exact hS h)]; exact e, t⟩
theorem Step.rm {g g' : Gh} {H H' : Hp} {P : Addr} (s : Step g H g' H') : Step g (rm P H) g' (Dn.rm P H') := by
  refine ⟨s.ιm, s.Gm, s.Sm, fun a o h hs => ?_, fun a h => ?_, fun a h => ?_, fun a vs h => ?_, s.lv, s.ιl⟩
  · obtain ⟨n, h⟩ := rm_some h
    rw [rm_ne n]; exact s.fr a o h hs
  · rcases s.nS a h with q | q
    · exact .inl q
    · refine .inr ?_
      by_cases hap : a = P
      · subst hap; exact rm_same
      · rw [rm_ne hap]; exact q
  · by_cases hap : a = P
    · subst hap; exact rm_same
    · rw [rm_ne hap] at h ⊢; exact s.al a h
  · rcases s.nw a vs h with q | q
    · exact .inl q
    · refine .inr ?_
      by_cases hap : a = P
      · subst hap; exact rm_same
      · rw [rm_ne hap]; exact q
theorem Slots.rm {H0 : Hp} {g : Gh} {H : Hp} {ρ : Ro} {σ : L2.St} {P : Addr} (h : Slots K H0 g H ρ σ) (hP : ∀ (i : Nat) (xs : List D), ρ[i]? = some (.own xs) → σ[i]? ≠ some (some (.ref P))) : Slots K H0 g (rm P H) ρ σ := by
  refine ⟨h.len, fun i s o e1 e2 => ?_, h.ap⟩
  have q := h.at_ i s o e1 e2
  cases s with
  | un => trivial
  | val d => exact q
  | own xs =>
    obtain ⟨p, vs, rfl, hp, r⟩ := q
    have np : p ≠ P := fun z => by subst z; exact hP i xs e1 e2
    exact ⟨p, vs, rfl, by rw [rm_ne np]; exact hp, r⟩
theorem Slots.unrm {H0 : Hp} {g : Gh} {H : Hp} {ρ : Ro} {σ : L2.St} {P : Addr} (h : Slots K H0 g (Dn.rm P H) ρ σ) : Slots K H0 g H ρ σ := by
  refine ⟨h.len, fun i s o e1 e2 => ?_, h.ap⟩
  have q := h.at_ i s o e1 e2
  cases s with
  | un => trivial
  | val d => exact q
  | own xs =>
    obtain ⟨p, vs, rfl, hp, r⟩ := q
    exact ⟨p, vs, rfl, (rm_some hp).2, r⟩
def lc2D (fg : DG) (ft : DT) (fi1 : DA) (fg1 : DG) (ft1 : DT) (fe : DE) (vs1 : List Nat) (ρ : Ro) : List D → Wd → Option (List D × Wd)
  | [], ω => some ([], ω)
  | d :: ds, ω => match fg d ρ with
    | none => none
    | some ρ1 => match ft ρ1 ω with
      | none => none
      | some (c, ω1) => if c = true then (match fi1 ρ1 ω1 with
          | none => none
          | some (items, ω2) => match lcD fg1 ft1 fe (wipeR ρ1 vs1) items ω2 with
            | none => none
            | some (xs, ω3) => match lc2D fg ft fi1 fg1 ft1 fe vs1 ρ ds ω3 with
              | none => none
              | some (ys, ω4) => some (xs ++ ys, ω4))
        else lc2D fg ft fi1 fg1 ft1 fe vs1 ρ ds ω1
def eLc2N (fi : DA) (fg : DG) (ft : DT) (fi1 : DA) (fg1 : DG) (ft1 : DT) (fe : DE) (vs vs1 : List Nat) : DA := fun ρ ω => match fi ρ ω with
  | none => none
  | some (ds, ω1) => match lc2D fg ft fi1 fg1 ft1 fe vs1 (wipeR ρ vs) ds ω1 with
    | none => none
    | some (xs, ω2) => if xs.length ≤ sizeLine then some (xs, ω2) else none
theorem snn_lc2 {wi wi1 : TI} {tg tg1 : TG} {tt tt1 : TT} {te : TE} {fi fi1 : DA} {fg fg1 : DG} {ft ft1 : DT} {fe : DE} {js js1 vs vs1 : List Nat} (hi : SndI K b wi fi) (hg : SndG K tg js fg) (hj : ∀ j ∈ js, j ∈ vs) (ht : SndT K tt ft)
    (hi1 : SndI K true wi1 fi1) (hg1 : SndG K tg1 js1 fg1) (hj1 : ∀ j ∈ js1, j ∈ vs1) (ht1 : SndT K tt1 ft1) (he : Snd K true te fe) : SndN K (tLc2 wi tg tt wi1 tg1 tt1 te vs vs1) (eLc2N fi fg ft fi1 fg1 ft1 fe vs vs1) := by
  intro g0 H0 g H ρ ω σ Q ds ω' ok st sl e k
  unfold eLc2N at e
  split at e
  · cases e
  rename_i items ω1 e1
  split at e
  · cases e
  rename_i res ω2 e2
  split at e
  · rename_i hres
    cases e
    refine hi g0 H0 g H ρ ω σ _ items ω1 ok st sl e1 fun J g1 H1 s1 ok1 hz hJ => ?_
    intro P hP
    -- the state at a turn of the outer loop
    let St1 : Nat → Hp → Prop := fun i H2 => ∃ g2 ω2 acc accD rest, Step g1 H1 g2 H2 ∧ GOk K g2 H2 ω2 ∧ H2 P = some (.lst acc) ∧ g2.G P = none ∧ ¬ g2.S P ∧ RepL K g2.ι g2.G accD acc ∧ lc2D fg ft fi1 fg1 ft1 fe vs1 (wipeR ρ vs) (items.drop i) ω2 = some (rest, ω') ∧ accD ++ rest = ds
    refine ⟨fun i m H2 => m = items.length - i ∧ i ≤ items.length ∧ St1 i H2, ?_, ?_⟩
    · obtain ⟨s2, ok2⟩ := allocOwn ok1 hP (o := .lst [])
      have nG : g1.G P = none := by
        cases q : g1.G P with
        | none => rfl
        | some u => rw [ok1.sub P u q] at hP; cases hP
      have nS : ¬ g1.S P := fun q => by obtain ⟨u, e, _⟩ := ok1.sl P q; rw [hP] at e; cases e
      exact ⟨_, rfl, Nat.zero_le _, g1, ω1, [], [], ds, s2, ok2, upd_same, nG, nS, .nil, e2, rfl⟩
    · rintro i m H2 ⟨rfl, hil, g2, ω2, acc, accD, rest, s2, ok2, hP2, hG2, hS2, hacc, hrest, happ⟩
      have it := hJ g2 H2 (Later.step s2 ok2)
      by_cases hlt : i < items.length
      · obtain ⟨d, hd⟩ : ∃ d, items[i]? = some d := ⟨_, List.getElem?_eq_getElem hlt⟩
        obtain ⟨go, hy⟩ := it.go i d hd
        rw [List.drop_eq_getElem_cons hlt] at hrest
        have hd' : items[i] = d := by rw [List.getElem?_eq_getElem hlt] at hd; exact Option.some.inj hd
        rw [hd'] at hrest
        unfold lc2D at hrest
        refine .inr ⟨go, fun H' => ∃ m', m' = items.length - (i + 1) ∧ (i + 1) ≤ items.length ∧ St1 (i + 1) H', fun H' ⟨m', e', r'⟩ => ⟨m', by omega, e', r'⟩, fun x H3 hyld => ?_⟩
        obtain ⟨g3, s3, k3, r3⟩ := hy x H3 hyld
        have ok3 := k3 ω2 ok2
        split at hrest
        · cases hrest
        rename_i ρ1 eg
        have sall : Step g H g3 H3 := (s1.trans s2).trans s3
        have sl3 : Slots K H0 g3 H3 ρ σ := sl.step sall ok3
        refine hg H0 g3 H3 _ _ d x ρ1 _ ok3.sub (sl3.wipe vs) r3 eg fun σ4 sl4 w4 own4 => ⟨?_, ?_⟩
        · rw [w4 vs hj, wipe_wipe]
        split at hrest
        · cases hrest
        rename_i c ω4 et
        refine ht g0 H0 g3 H3 ρ1 ω2 σ4 _ c ω4 ok3 (st.trans sall) sl4 et fun g5 H5 s5 ok5 => ?_
        obtain ⟨hP3, hG3, hS3⟩ := own_step hP2 hG2 hS2 s3 ok3
        obtain ⟨hP5, hG5, hS5⟩ := own_step hP3 hG3 hS3 s5 ok5
        cases c with
        | false =>
          refine iteF ?_
          rw [if_neg Bool.false_ne_true] at hrest
          exact ⟨_, rfl, hlt, g5, ω4, acc, accD, rest, (s2.trans s3).trans s5, ok5, hP5, hG5, hS5, hacc.mono (s3.trans s5).ιm (s3.trans s5).Gm, hrest, happ⟩
        | true =>
          refine iteT ?_
          rw [if_pos rfl] at hrest
          split at hrest
          · cases hrest
          rename_i its2 ω6 ei
          split at hrest
          · cases hrest
          rename_i xs ω7 ex
          split at hrest
          · cases hrest
          rename_i ys ω8 ey
          cases hrest
          have sall5 : Step g H g5 H5 := sall.trans s5
          have sl5 := sl4.step s5 ok5
          refine hi1 g0 H0 g5 H5 ρ1 ω4 σ4 _ its2 ω6 ok5 (st.trans sall5) sl5 ei fun J1 g6 H6 s6 ok6 hz6 hJ6 => ?_
          obtain ⟨hP6, hG6, hS6⟩ := own_step hP5 hG5 hS5 s6 ok6
          have s26 : Step g1 H1 g6 H6 := ((s2.trans s3).trans s5).trans s6
          have hacc6 := hacc.mono ((s3.trans s5).trans s6).ιm ((s3.trans s5).trans s6).Gm
          have sl6 : Slots K H0 g6 H6 ρ1 σ4 := sl5.step s6 ok6
          -- H6 without the list that grows: what stood at the inner loop's beginning
          have nP : ∀ (l : Nat) (zs : List D), ρ1[l]? = some (.own zs) → σ4[l]? ≠ some (some (.ref P)) := fun l zs h1 h2 => by
            obtain ⟨h3, h4⟩ := own4 l zs h1
            have h5 := (sl.step s1 ok1).wipe vs
            rw [h4] at h2
            obtain ⟨q, us, eq, hq, _⟩ := h5.at_ l _ _ h3 h2
            cases eq
            rw [hP] at hq; cases hq
          have slr : Slots K H0 g6 (rm P H6) ρ1 σ4 := sl6.rm nP
          refine ⟨fun j m H7 => m = its2.length - j ∧ j ≤ its2.length ∧ ∃ g7 ω7' acc7 accD7 rest7, Step g1 H1 g7 H7 ∧ Step g6 (rm P H6) g7 (rm P H7) ∧ GOk K g7 H7 ω7' ∧ H7 P = some (.lst acc7) ∧ g7.G P = none ∧ ¬ g7.S P ∧ RepL K g7.ι g7.G accD7 acc7 ∧ lcD fg1 ft1 fe (wipeR ρ1 vs1) (its2.drop j) ω7' = some (rest7, ω7) ∧ accD7 ++ rest7 = accD ++ xs, ?_, ?_⟩
          · exact ⟨_, rfl, Nat.zero_le _, g6, ω6, acc, accD, xs, s26, .refl _ _, ok6, hP6, hG6, hS6, hacc6, ex, rfl⟩
          · rintro j m H7 ⟨rfl, hjl, g7, ω7', acc7, accD7, rest7, s7, s67, ok7, hP7, hG7, hS7, hacc7, hr7, happ7⟩
            have it7 := hJ6 g7 H7 ⟨s67.le, ok7.sub⟩
            have sl7 : Slots K H0 g7 H7 ρ1 σ4 := (slr.step s67 (ok7.rm hG7 hS7)).unrm
            by_cases hlt7 : j < its2.length
            · obtain ⟨d7, hd7⟩ : ∃ d, its2[j]? = some d := ⟨_, List.getElem?_eq_getElem hlt7⟩
              obtain ⟨go7, hy7⟩ := it7.go j d7 hd7
              rw [List.drop_eq_getElem_cons hlt7] at hr7
              have hd7' : its2[j] = d7 := by rw [List.getElem?_eq_getElem hlt7] at hd7; exact Option.some.inj hd7
              rw [hd7'] at hr7
              unfold lcD at hr7
              refine .inr ⟨go7, fun H8 => ∃ m', m' = its2.length - (j + 1) ∧ (j + 1) ≤ its2.length ∧ ∃ g7 ω7' acc7 accD7 rest7, Step g1 H1 g7 H8 ∧ Step g6 (rm P H6) g7 (rm P H8) ∧ GOk K g7 H8 ω7' ∧ H8 P = some (.lst acc7) ∧ g7.G P = none ∧ ¬ g7.S P ∧ RepL K g7.ι g7.G accD7 acc7 ∧ lcD fg1 ft1 fe (wipeR ρ1 vs1) (its2.drop (j + 1)) ω7' = some (rest7, ω7) ∧ accD7 ++ rest7 = accD ++ xs,
                fun H' ⟨m', e', r'⟩ => ⟨m', by omega, e', r'⟩, fun x8 H8 hy8 => ?_⟩
              obtain ⟨g8, s8, k8, r8⟩ := hy7 x8 H8 hy8
              have ok8 := k8 ω7' ok7
              split at hr7
              · cases hr7
              rename_i ρ9 eg9
              have sl8 : Slots K H0 g8 H8 ρ1 σ4 := sl7.step s8 ok8
              refine hg1 H0 g8 H8 _ _ d7 x8 ρ9 _ ok8.sub (sl8.wipe vs1) r8 eg9 fun σ9 sl9 w9 _ => ⟨?_, ?_⟩
              · rw [w9 vs1 hj1, wipe_wipe]
              split at hr7
              · cases hr7
              rename_i c9 ω9 et9
              have st8 : Step g0 H0 g8 H8 := (st.trans s1).trans (s7.trans s8)
              refine ht1 g0 H0 g8 H8 ρ9 ω7' σ9 _ c9 ω9 ok8 st8 sl9 et9 fun g10 H10 s10 ok10 => ?_
              obtain ⟨hP8, hG8, hS8⟩ := own_step hP7 hG7 hS7 s8 ok8
              obtain ⟨hP10, hG10, hS10⟩ := own_step hP8 hG8 hS8 s10 ok10
              have sA : Step g7 H7 g10 H10 := s8.trans s10
              cases c9 with
              | false =>
                refine iteF ?_
                rw [if_neg Bool.false_ne_true] at hr7
                exact ⟨_, rfl, hlt7, g10, ω9, acc7, accD7, rest7, s7.trans sA, s67.trans sA.rm, ok10, hP10, hG10, hS10, hacc7.mono sA.ιm sA.Gm, hr7, happ7⟩
              | true =>
                refine iteT ?_
                rw [if_pos rfl] at hr7
                split at hr7
                · cases hr7
                rename_i y11 ω11 ee
                split at hr7
                · cases hr7
                rename_i ys11 ω12 er
                cases hr7
                refine he g0 H0 g10 H10 ρ9 ω9 σ9 _ y11 ω11 ok10 (st8.trans s10) (sl9.step s10 ok10) ee fun v11 g11 H11 s11 ok11 r11 => ?_
                obtain ⟨hP11, hG11, hS11⟩ := own_step hP10 hG10 hS10 s11 ok11
                have sB : Step g7 H7 g11 H11 := sA.trans s11
                have hlen : acc7.length < sizeLine := by
                  have h1 : accD7.length + (ys11.length + 1) = (accD ++ xs).length := by rw [← happ7, List.length_append]; rfl
                  have h2 : (accD ++ xs).length ≤ ds.length := by rw [← happ, List.length_append, List.length_append, List.length_append]; omega
                  have h3 := hacc7.length
                  omega
                have eqrm : ∀ u, rm P (upd H11 P u) = rm P H11 := fun u => by
                  funext a
                  by_cases hap : a = P
                  · subst hap; rw [rm_same, rm_same]
                  · rw [rm_ne hap, rm_ne hap, upd_ne hap]
                refine ⟨acc7, hP11, hlen, _, rfl, hlt7, g11, ω11, acc7 ++ [v11], accD7 ++ [y11], ys11, mutStep (s7.trans sB) hP, ?_, mutOk ok11 hP11 hG11 hS11, upd_same, hG11, hS11, (hacc7.mono sB.ιm sB.Gm).append (.cons r11 .nil), er, ?_⟩
                · rw [eqrm]; exact s67.trans sB.rm
                · rw [← happ7, List.append_assoc]; rfl
            · have hjl' : j = its2.length := by omega
              subst hjl'
              rw [List.drop_length] at hr7
              unfold lcD at hr7
              cases hr7
              rw [List.append_nil] at happ7
              subst happ7
              exact .inl ⟨it7.stop _ (Nat.le_refl _), _, rfl, hlt, g7, _, acc7, accD ++ xs, ys, s7, ok7, hP7, hG7, hS7, hacc7, ey, by rw [← happ, List.append_assoc]⟩
      · have hil' : i = items.length := by omega
        subst hil'
        rw [List.drop_length] at hrest
        unfold lc2D at hrest
        cases hrest
        rw [List.append_nil] at happ
        subst happ
        exact .inl ⟨it.stop _ (Nat.le_refl _), k P acc g2 H2 (s1.trans s2) ok2 (s1.al P hP) hP2 hG2 hS2 (by rw [hacc.length]; exact hres) hacc⟩
  · cases e
end
end Dn
end

section
namespace Dn
open PySem PySem.Spec L2
variable [Tb]
section
variable {X : Cx} {K : PySem.W.Frag} {b b' : Bool}
theorem snd_ofN {t : TE} {f : DA} (h : SndN K t f) : Snd K true t (eOfN f) := by
  intro g0 H0 g H ρ ω σ Q d ω' ok st sl e k
  unfold eOfN at e
  split at e
  · cases e
  rename_i ds ω1 e1
  cases e
  refine h g0 H0 g H ρ ω σ Q ds ω' ok st sl e1 fun p vs g' H' s' ok' h1 h2 h3 h4 h5 h6 => ?_
  obtain ⟨ok2, le⟩ := settle ok' h2 h3 h4
  refine k _ _ H' (settleStep s' h3 h1) ok2 ?_
  show Rep K (g'.add p (.lst vs)).ι (g'.add p (.lst vs)).G (.list ds) (.ref p)
  rw [Rep]
  exact ⟨p, vs, rfl, upd_same, h5, h6.mono le.ιm le.Gm⟩
/-- y = [.. for ..], the list is not changed any more -/
theorem sx_lcV {i : Nat} {y : Str} {py : Pos} {elt tg iter : Expr} {ifs : List Expr} {scope : Scope} {own : List (Str × Nat)} {pos spos : Pos} {wi : TI} {g : TG} {tt : TT} {te : TE} {fi : DA} {fg : DG} {ft : DT} {fe : DE} {js : List Nat} (hc : X.calm = true) (hN : X.N.Nodup) (hi : EI X b tg iter wi fi) (ok : BlkOk X.N X.env.scope scope own)
    (hg : ∀ (s : Shared) (H : Hp) (C : Addr) (cl : List (Str × Addr)) (fp : List Addr), EG (X.blk s H scope (compEnvC scope cl C X.env) fp) tg g js fg)
    (ht : ∀ (s : Shared) (H : Hp) (C : Addr) (cl : List (Str × Addr)) (fp : List Addr), ETs (X.blk s H scope (compEnvC scope cl C X.env) fp) ifs tt ft)
    (he : ∀ (s : Shared) (H : Hp) (C : Addr) (cl : List (Str × Addr)) (fp : List Addr), EX (X.blk s H scope (compEnvC scope cl C X.env) fp) true elt te fe)
    (hy : X.N[i]? = some y := by rfl) (hyl : X.env.scope.names.lookup y = some .local := by rfl) (hl : (py.line == pos.line) = true := by rfl) (hk : X.env.scope.kind = .function := by rfl) (ha : (scope.names.any fun (n, k) => n == y && (k == .local || k == .cell)) = false := by decide +kernel)
    (hj : ∀ j ∈ js, j ∈ own.map (·.2) := by decide) (hs : ∀ x, foldedSetIterable iter X.env x = pure x := by intro _; rfl) :
    SX X (.Assign [.Name y py] (.ListComp elt [⟨tg, iter, ifs, 0⟩] scope pos) spos) (tAsg (tLc wi g tt te (own.map (·.2))) (gName i)) (sSet i (eOfN (eLcN fi fg ft fe (own.map (·.2))))) := by
  refine ⟨ps_setLc hc hN hy hyl (sw_true hk hyl hl ha) hi.pe ok (fun s H C cl fp => (hg s H C cl fp).pe) (fun s H C cl fp => (ht s H C cl fp).pe) (fun s H C cl fp => (he s H C cl fp).pe) hs, ?_⟩
  refine sn_set (snd_ofN ?_)
  intro g0 H0 gh H ρ ω σ Q ds ω' ok' st sl e k
  exact lc_sound hi.sn (hg X.s_0 X.H_0 0 [] []).sn hj (ht X.s_0 X.H_0 0 [] []).sn (he X.s_0 X.H_0 0 [] []).sn ok' st sl e k
theorem en_lc2 {elt tg iter tg1 iter1 : Expr} {ifs ifs1 : List Expr} {scope : Scope} {own : List (Str × Nat)} {pos : Pos} {wi wi1 : TI} {g g1 : TG} {tt tt1 : TT} {te : TE} {fi fi1 : DA} {fg fg1 : DG} {ft ft1 : DT} {fe : DE} {js js1 : List Nat} {vs1 : List Nat} (hc : X.calm = true) (hN : X.N.Nodup) (hi : EI X b tg iter wi fi) (ok : BlkOk X.N X.env.scope scope own)
    (hg : ∀ (s : Shared) (H : Hp) (C : Addr) (cl : List (Str × Addr)) (fp : List Addr), EG (X.blk s H scope (compEnvC scope cl C X.env) fp) tg g js fg)
    (ht : ∀ (s : Shared) (H : Hp) (C : Addr) (cl : List (Str × Addr)) (fp : List Addr), ETs (X.blk s H scope (compEnvC scope cl C X.env) fp) ifs tt ft)
    (hi1 : ∀ (s : Shared) (H : Hp) (C : Addr) (cl : List (Str × Addr)) (fp : List Addr), EI (X.blk s H scope (compEnvC scope cl C X.env) fp) true tg1 iter1 wi1 fi1)
    (hg1 : ∀ (s : Shared) (H : Hp) (C : Addr) (cl : List (Str × Addr)) (fp : List Addr), EG (X.blk s H scope (compEnvC scope cl C X.env) fp) tg1 g1 js1 fg1)
    (ht1 : ∀ (s : Shared) (H : Hp) (C : Addr) (cl : List (Str × Addr)) (fp : List Addr), ETs (X.blk s H scope (compEnvC scope cl C X.env) fp) ifs1 tt1 ft1)
    (he : ∀ (s : Shared) (H : Hp) (C : Addr) (cl : List (Str × Addr)) (fp : List Addr), EX (X.blk s H scope (compEnvC scope cl C X.env) fp) true elt te fe)
    (hv : ∀ i ∈ vs1, i ∈ own.map (·.2) := by decide) (hj : ∀ j ∈ js, j ∈ own.map (·.2) := by decide) (hj1 : ∀ j ∈ js1, j ∈ vs1 := by decide) (hs : ∀ x, foldedSetIterable iter X.env x = pure x := by intro _; rfl) (hs1 : ∀ env x, foldedSetIterable iter1 env x = pure x := by intro _ _; rfl) :
    EN X (.ListComp elt [⟨tg, iter, ifs, 0⟩, ⟨tg1, iter1, ifs1, 0⟩] scope pos) (tLc2 wi g tt wi1 g1 tt1 te (own.map (·.2)) vs1) (eLc2N fi fg ft fi1 fg1 ft1 fe (own.map (·.2)) vs1) :=
  ⟨pe_lc2 hc hN hi.pe ok hv (fun s H C cl fp => (hg s H C cl fp).pe) (fun s H C cl fp => (ht s H C cl fp).pe) (fun s H C cl fp => (hi1 s H C cl fp).pe) (fun s H C cl fp => (hg1 s H C cl fp).pe) (fun s H C cl fp => (ht1 s H C cl fp).pe) (fun s H C cl fp => (he s H C cl fp).pe) hs hs1,
    snn_lc2 hi.sn (hg X.s_0 X.H_0 0 [] []).sn hj (ht X.s_0 X.H_0 0 [] []).sn (hi1 X.s_0 X.H_0 0 [] []).sn (hg1 X.s_0 X.H_0 0 [] []).sn hj1 (ht1 X.s_0 X.H_0 0 [] []).sn (he X.s_0 X.H_0 0 [] []).sn⟩
/-- code that is never come to -/
def sNever : DS := fun _ _ => none
theorem sxs_never {sts : List Stmt} : SXs X sts tNever sNever := ⟨pss_never, fun g0 H0 g H ρ ω σ E o ω' ok st sl e k => nomatch e⟩
theorem sx_never {st : Stmt} : SX X st tNever sNever := ⟨ps_never, fun g0 H0 g H ρ ω σ E o ω' ok st sl e k => nomatch e⟩
/-- in, not in: of a list, a tuple, a text -/
def opInD (x y : D) : Option D := match y with
  | .str j => (match x with
    | .str i => some (.bool (!(Builtin.Str.occurrences j i 0 j.length 1).isEmpty))
    | _ => none)
  | _ => opIn x y
def opNotInD (x y : D) : Option D := match y with
  | .str j => (match x with
    | .str i => some (.bool (!(!(Builtin.Str.occurrences j i 0 j.length 1).isEmpty)))
    | _ => none)
  | _ => opNotIn x y
def rInD (K : PySem.W.Frag) : R2 := fun x y H Q => rDat K inOk inRes x y H Q ∨ (∃ i j, x = .str i ∧ y = .str j ∧ Q (.bl (!(Builtin.Str.occurrences j i 0 j.length 1).isEmpty)) H)
def rNotInD (K : PySem.W.Frag) : R2 := fun x y H Q => rDat K inOk (fun d e => !inRes d e) x y H Q ∨ (∃ i j, x = .str i ∧ y = .str j ∧ Q (.bl (!(!(Builtin.Str.occurrences j i 0 j.length 1).isEmpty))) H)
theorem op_inD (hu : X.A.units + 64 < cLine) : OpR X (compareOp .In) (rInD X.K) := (op_inP hu).or op_in_str
theorem op_notInD (hu : X.A.units + 64 < cLine) : OpR X (compareOp .NotIn) (rNotInD X.K) := (op_notInP hu).or op_notin_str
theorem ops_inD : OpS K b true (rInD K) opInD := by
  intro g0 H0 g H ω x y v w d Q ok st r1 r2 e k
  unfold opInD at e
  split at e
  · split at e
    · cases e
      rw [r1.strV, r2.strV]
      exact .inr ⟨_, _, rfl, rfl, k _ g H (.refl _ _) ok .bl⟩
    · cases e
  · exact .inl (ops_in g0 H0 g H ω x y v w d Q ok st r1 r2 e k)
theorem ops_notInD : OpS K b true (rNotInD K) opNotInD := by
  intro g0 H0 g H ω x y v w d Q ok st r1 r2 e k
  unfold opNotInD at e
  split at e
  · split at e
    · cases e
      rw [r1.strV, r2.strV]
      exact .inr ⟨_, _, rfl, rfl, k _ g H (.refl _ _) ok .bl⟩
    · cases e
  · exact .inl (ops_notIn g0 H0 g H ω x y v w d Q ok st r1 r2 e k)
/-- tuple(x), x a list of one's own: the tuple is settled -/
def eTupOwn (i : Nat) : DE := fun ρ ω => match ρ[i]? with
  | some (.own xs) => some (.tuple xs, ω)
  | _ => none
theorem ex_tupOwn {i : Nat} {x : Str} {npos p pos : Pos} (hm : X.mg "tuple" = none) (hN : X.N[i]? = some x := by rfl) (hv : Vis X.env.scope x := by first | exact Or.inl rfl | exact Or.inr (Or.inl rfl) | exact Or.inr (Or.inr rfl)) (hd : (x == ("__debug__" : Str)) = false := by decide)
    (hcd : (x == ("__classdict__" : Str)) = false := by decide) (hg : Gl X "tuple" := by rfl) (he : starEach [.Name x npos] X.env = (false, eval (.Name x npos) X.env) :: starEach [] X.env := by rfl) (hpl : (backTo pos (starEach [] X.env)).any (·.1) = false := by rfl) :
    EX X true (.Call (.Name "tuple" p) [.Name x npos] [] pos) (tCB (fun xs H Q => ∃ p ys, xs = [.ref p] ∧ ((SqL X.K H p ys ∧ ∀ l, H l = none → Q (.ref l) (upd H l (.tup ys))) ∨ (SqT X.K H p ys ∧ Q (.ref p) H))) (tCons (tVar i) tNil)) (eTupOwn i) := by
  refine ⟨pe_callTy call_tuple_of hg hm PyProof.Rows.boot_tuple (pa_cons (pe_var hN hv hd hcd) pa_nil he) (by decide) (by decide) he hpl, ?_⟩
  intro g0 H0 g H ρ ω σ Q d ω' ok st sl e k
  unfold eTupOwn at e
  split at e
  · rename_i xs hx
    cases e
    obtain ⟨o, h1, p, vs, rfl, hp, hG, hS, h0, z, r⟩ := sl.get hx
    refine ⟨_, h1, p, vs, rfl, .inl ⟨SqL.of hp, fun q hq => ?_⟩⟩
    obtain ⟨s2, ok2⟩ := alloc ok hq (o := .tup vs) rfl
    exact k _ _ _ s2 ok2 (RB.newTup (b := true) ok st hq z r)
  · cases e
end
end Dn
end

section
namespace Dn
open PySem PySem.Spec L2
variable [Tb]
section
variable {P : Program} {w : World} {K : PySem.W.Frag} {mg : Str → Option Value} {base : Heap}
/-- a def that calls itself, with no call left: it promises nothing -/
theorem fn_zero {x qual : Str} {st : Stmt} {f : Addr} {fd : FuncData} {N ps : List Str} {k n : Nat} (F : Fun K x qual st f fd) (S : FnScope N ps (defScope st)) :
    FnOk P w K mg base CX0 (k + 1) f fd ps (spD K n fun _ _ => none) := by
  refine F.ok S (fun vs H Q E h => ?_) (fun cdv A outer s H vs Q E hr h => ?_)
  · obtain ⟨g, ω, ds, d, ω', h1, ok, r, e, q⟩ := h
    cases e
  · obtain ⟨g, ω, ds, d, ω', h1, ok, r, e, q⟩ := h
    cases e
/-! ## the law's box and the law's own def -/
def spLaw (K : PySem.W.Frag) : Sp := fun vs H Q _ => ∃ (a : Addr) (ns : List Int), vs = [.ref a] ∧ SqL K H a (ns.map V.int) ∧ ns.length ≤ 63 ∧ (∀ P, Tb.T P → GxR.TabG H P) ∧ ∀ H', Q (.bl true) H'
def spBox4 (K : PySem.W.Frag) : Sp := fun vs H Q _ => ∃ (a : Addr) (ns : List Int) (z : Int), vs = [.ref a, .int z] ∧ SqL K H a (ns.map V.int) ∧ ns.length ≤ 63 ∧
  ∀ b c H', b ≠ c → (∀ x o, H x = some o → H' x = some o) → H' c = some (.lst (ns.map V.int)) → H' b = some (.lst [.ref c, .int 0, .int (4711 + (ns.length : Int)), .int z]) → Q (.ref b) H'
def spBox3 (K : PySem.W.Frag) : Sp := fun vs H Q _ => ∃ (a : Addr) (ns : List Int), vs = [.ref a] ∧ SqL K H a (ns.map V.int) ∧ ns.length ≤ 63 ∧
  ∀ b c H', b ≠ c → (∀ x o, H x = some o → H' x = some o) → H' c = some (.lst (ns.map V.int)) → H' b = some (.lst [.ref c, .int 0, .int (4711 + (ns.length : Int))]) → Q (.ref b) H'
theorem box_all4 {H : Hp} {ns : List Int} {z : Int} {b c : Addr} {Q : VK} (hc : H c = none) (hb : (upd H c (.lst (ns.map V.int))) b = none)
    (k : ∀ b c H', b ≠ c → (∀ x o, H x = some o → H' x = some o) → H' c = some (.lst (ns.map V.int)) → H' b = some (.lst [.ref c, .int 0, .int (4711 + (ns.length : Int)), .int z]) → Q (.ref b) H') :
    Q (.ref b) (upd (upd H c (.lst (ns.map V.int))) b (.lst [.ref c, .int 0, .int (4711 + (((ns.map V.int).length : Nat) : Int)), .int z])) := by
  have hbc : b ≠ c := fun e => by rw [e, upd_same] at hb; cases hb
  refine k b c _ hbc (fun x o h => upd_keep hb (upd_keep hc h)) ?_ ?_
  · rw [upd_ne (Ne.symm hbc), upd_same]
  · rw [upd_same, List.length_map]
theorem box_all3 {H : Hp} {ns : List Int} {b c : Addr} {Q : VK} (hc : H c = none) (hb : (upd H c (.lst (ns.map V.int))) b = none)
    (k : ∀ b c H', b ≠ c → (∀ x o, H x = some o → H' x = some o) → H' c = some (.lst (ns.map V.int)) → H' b = some (.lst [.ref c, .int 0, .int (4711 + (ns.length : Int))]) → Q (.ref b) H') :
    Q (.ref b) (upd (upd H c (.lst (ns.map V.int))) b (.lst [.ref c, .int 0, .int (4711 + (((ns.map V.int).length : Nat) : Int))])) := by
  have hbc : b ≠ c := fun e => by rw [e, upd_same] at hb; cases hb
  refine k b c _ hbc (fun x o h => upd_keep hb (upd_keep hc h)) ?_ ?_
  · rw [upd_ne (Ne.symm hbc), upd_same]
  · rw [upd_same, List.length_map]
theorem cut63 {ns : List Int} (h : ns.length ≤ 63) : cutV (ns.map V.int) none (some 63) = ns.map V.int := by
  unfold cutV
  rw [HT.sIx_none, List.drop_zero, List.length_map]
  have : HT.sIx ns.length ns.length (some 63) = ns.length := by
    have e := HT.sIx_nat ns.length ns.length 63
    rw [show ((63 : Nat) : Int) = 63 from rfl] at e
    rw [e]; omega
  rw [this, Nat.sub_zero]
  exact List.take_of_length_le (by rw [List.length_map]; exact Nat.le_refl _)
theorem box_cut3 {H : Hp} {ns : List Int} {b c e : Addr} {Q : VK} (hl : ns.length ≤ 63) (he : H e = none) (hc : (upd H e (.lst (cutV (ns.map V.int) none (some 63)))) c = none) (hb : (upd (upd H e (.lst (cutV (ns.map V.int) none (some 63)))) c (.lst (cutV (ns.map V.int) none (some 63)))) b = none)
    (k : ∀ b c H', b ≠ c → (∀ x o, H x = some o → H' x = some o) → H' c = some (.lst (ns.map V.int)) → H' b = some (.lst [.ref c, .int 0, .int (4711 + (ns.length : Int))]) → Q (.ref b) H') :
    Q (.ref b) (upd (upd (upd H e (.lst (cutV (ns.map V.int) none (some 63)))) c (.lst (cutV (ns.map V.int) none (some 63)))) b (.lst [.ref c, .int 0, .int (4711 + (((ns.map V.int).length : Nat) : Int))])) := by
  have hbc : b ≠ c := fun e => by rw [e, upd_same] at hb; cases hb
  refine k b c _ hbc (fun x o h => upd_keep hb (upd_keep hc (upd_keep he h))) ?_ ?_
  · rw [upd_ne (Ne.symm hbc), upd_same, cut63 hl]
  · rw [upd_same, List.length_map]
def box4 (ns : List Int) : Wd := ⟨true, [.lst [ob 1, .int 0, .int (4711 + (ns.length : Int)), .int 0], .lst (ns.map PyData.int)]⟩
def box3 (ns : List Int) : Wd := ⟨true, [.lst [ob 1, .int 0, .int (4711 + (ns.length : Int))], .lst (ns.map PyData.int)]⟩
/-- the slots behind the law's first statement -/
def lawRo (n i : Nat) : Ro := (List.replicate n SV.un).set i (.val (ob 0))
def boxGh (b c : Addr) : Gh := ⟨true, fun n => match n with | 0 => some b | 1 => some c | _ => none, fun a => a = b ∨ a = c ∨ Tb.T a, fun _ => none⟩
theorem boxOk {H : Hp} {b c : Addr} {xs ys : List D} {vs ws : List V} (hbc : b ≠ c) (hb : H b = some (.lst vs)) (hc : H c = some (.lst ws)) (r1 : RepL K (boxGh b c).ι (fun _ => none) xs vs) (r2 : RepL K (boxGh b c).ι (fun _ => none) ys ws) (hT : ∀ P, Tb.T P → GxR.TabG H P) : GOk K (boxGh b c) H ⟨true, [.lst xs, .lst ys]⟩ := by
  refine ⟨(fun a o h => nomatch h), (fun a o h => nomatch h), (fun a o h => nomatch h), fun n m a hn hm h1 h2 => ?_, fun n a hn h => ?_, fun n o e => ?_, fun a h => ?_, fun _ => ⟨rfl, fun n hn => ?_⟩, fun P h => ?_⟩
  · match n, m, h1, h2 with
    | 0, 0, _, _ => rfl
    | 1, 1, _, _ => rfl
    | 0, 1, h1, h2 => cases h1; cases h2; exact absurd rfl hbc
    | 1, 0, h1, h2 => cases h1; cases h2; exact absurd rfl hbc
    | n + 2, _, h1, _ => cases h1
    | 0, m + 2, _, h2 => cases h2
    | 1, m + 2, _, h2 => cases h2
  · match n, h with
    | 0, h => cases h; exact .inl rfl
    | 1, h => cases h; exact .inr (.inl rfl)
    | n + 2, h => cases h
  · match n, e with
    | 0, e => cases e; exact ⟨b, rfl, vs, hb, r1⟩
    | 1, e => cases e; exact ⟨c, rfl, ws, hc, r2⟩
    | n + 2, e => simp at e
  · rcases h with rfl | rfl | h
    · exact ⟨_, hb, rfl⟩
    · exact ⟨_, hc, rfl⟩
    · obtain ⟨ps, e, _⟩ := hT a h
      exact ⟨_, e, rfl⟩
  · match n, hn with
    | 0, hn => simp at hn
    | 1, hn => simp at hn
    | n + 2, _ => rfl
  · refine ⟨.inr (.inr h), hT P h, fun n e => ?_⟩
    obtain ⟨ps, q, _⟩ := hT P h
    match n, e with
    | 0, e => cases e; rw [hb] at q; cases q
    | 1, e => cases e; rw [hc] at q; cases q
    | n + 2, e => cases e
theorem lawSlots {H : Hp} {b c : Addr} {N : List Str} {a : V} {i : Nat} (hN : 0 < N.length) : Slots K H (boxGh b c) H (lawRo N.length i) ((L2.start N [a]).set i (some (.ref b))) := by
  have un : ∀ (i : Nat) (s : SV), (List.replicate N.length SV.un)[i]? = some s → s = .un := fun i s e => by
    have := List.getElem?_replicate (n := N.length) (a := SV.un) (i := i)
    rw [e] at this
    split at this <;> cases this
    rfl
  have base : Slots K H (boxGh b c) H (List.replicate N.length SV.un) (L2.start N [a]) := by
    refine ⟨?_, fun i s o e1 e2 => ?_, fun i j xs ys p e1 e2 e3 e4 => ?_⟩
    · unfold L2.start; simp; omega
    · rw [un i s e1]; trivial
    · have := un i _ e1
      cases this
  refine base.set i (s := .val (ob 0)) (o := some (.ref b)) ⟨.ref b, rfl, ?_⟩ (fun xs z => nomatch z)
  unfold ob
  rw [Rep]
  exact ⟨0, b, rfl, rfl, rfl⟩
theorem ob1Rep {b c : Addr} : Rep K (boxGh b c).ι (fun _ => none) (ob 1) (.ref c) := by
  unfold ob
  rw [Rep]
  exact ⟨1, c, rfl, rfl, rfl⟩
theorem law_go4 {t : TS} {f : DS} {N : List Str} {i : Nat} {a : Addr} {ns : List Int} {H : Hp} {Q : VK} (R : SndS K t f) (hS : SqL K H a (ns.map V.int)) (hlen : ns.length ≤ 63) (hT : ∀ P, Tb.T P → GxR.TabG H P) (hN : 0 < N.length) (good : ∃ ω, f (lawRo N.length i) (box4 ns) = some (.rt (.bool true), ω)) (k : ∀ H', Q (.bl true) H') :
    spBox4 K [.ref a, .int 0] H (fun x H1 => t { nx := fun _ H' => Q .non H', rt := Q } ((L2.start N [.ref a]).set i (some x)) H1) E0 := by
  refine ⟨a, ns, 0, rfl, hS, hlen, fun b c H' hbc hk hc hb => ?_⟩
  obtain ⟨ω, e⟩ := good
  have ok : GOk K (boxGh b c) H' (box4 ns) := boxOk hbc hb hc (.cons ob1Rep (.cons (by rw [Rep]) (.cons (by rw [Rep]) (.cons (by rw [Rep]) .nil)))) (RepL.ints ns) fun P h => let ⟨ps, e, t⟩ := hT P h; ⟨ps, hk _ _ e, t⟩
  exact R (boxGh b c) H' (boxGh b c) H' _ _ _ _ _ _ ok (.refl _ _) (lawSlots hN) e fun v g' H2 _ _ r => by
    rw [Rep] at r; subst r; exact k H2
theorem law_go3 {t : TS} {f : DS} {N : List Str} {i : Nat} {a : Addr} {ns : List Int} {H : Hp} {Q : VK} (R : SndS K t f) (hS : SqL K H a (ns.map V.int)) (hlen : ns.length ≤ 63) (hT : ∀ P, Tb.T P → GxR.TabG H P) (hN : 0 < N.length) (good : ∃ ω, f (lawRo N.length i) (box3 ns) = some (.rt (.bool true), ω)) (k : ∀ H', Q (.bl true) H') :
    spBox3 K [.ref a] H (fun x H1 => t { nx := fun _ H' => Q .non H', rt := Q } ((L2.start N [.ref a]).set i (some x)) H1) E0 := by
  refine ⟨a, ns, rfl, hS, hlen, fun b c H' hbc hk hc hb => ?_⟩
  obtain ⟨ω, e⟩ := good
  have ok : GOk K (boxGh b c) H' (box3 ns) := boxOk hbc hb hc (.cons ob1Rep (.cons (by rw [Rep]) (.cons (by rw [Rep]) .nil))) (RepL.ints ns) fun P h => let ⟨ps, e, t⟩ := hT P h; ⟨ps, hk _ _ e, t⟩
  exact R (boxGh b c) H' (boxGh b c) H' _ _ _ _ _ _ ok (.refl _ _) (lawSlots hN) e fun v g' H2 _ _ r => by
    rw [Rep] at r; subst r; exact k H2
end
section
variable {K : PySem.W.Frag} {b : Bool}
def opAddI : D → D → Option D
  | .int i, .int j => some (.int (i + j))
  | _, _ => none
theorem ops_addI : OpS K b true (rI0 fun i j => .int (i + j)) opAddI := ops_int fun x y d e => by
  cases x <;> cases y <;> simp only [opAddI] at e <;> cases e
  exact ⟨_, _, _, rfl, rfl, fun _ _ => by rw [Rep], fun Q H q => ⟨_, _, rfl, rfl, q⟩⟩
end
end Dn
end

section
namespace Dn
open PySem PySem.Spec L2
variable [Tb]
/-! ## the rules once more, the written part told apart from the context: within a comprehension's block the reading must not speak of the block -/
section
variable {X : Cx} {K : PySem.W.Frag} {b b' : Bool} {t ta tb tc : TE} {f fa fb fc : DE} {e ea eb ec : Expr} {pos : Pos}
theorem op_addK (hK : X.K = K := by rfl) : OpR X (binaryOp .Add) (rAddD K) := by subst hK; exact op_addD
theorem op_mulK (hK : X.K = K := by rfl) : OpR X (binaryOp .Mult) (rMulD K) := by subst hK; exact op_mulD
theorem op_eqK (hu : X.A.units + 64 < cLine) (hK : X.K = K := by rfl) : OpR X (compareOp .Eq) (rDat K cmpOk PyData.eqv) := by subst hK; exact op_eqP hu
theorem op_neK (hu : X.A.units + 64 < cLine) (hK : X.K = K := by rfl) : OpR X (compareOp .NotEq) (rDat K cmpOk fun d e => !PyData.eqv d e) := by subst hK; exact op_neP hu
theorem op_ltK (hu : X.A.units + 64 < cLine) (hK : X.K = K := by rfl) : OpR X (compareOp .Lt) (rDat K ltOk PySem.W.dataLt) := by subst hK; exact op_ltP hu
theorem op_gtK (hu : X.A.units + 64 < cLine) (hK : X.K = K := by rfl) : OpR X (compareOp .Gt) (rDat K ltOk fun d e => PySem.W.dataLt e d) := by subst hK; exact op_gtP hu
theorem op_leK (hu : X.A.units + 64 < cLine) (hK : X.K = K := by rfl) : OpR X (compareOp .LtE) (rDat K ltOk fun d e => !PySem.W.dataLt e d) := by subst hK; exact op_leP hu
theorem op_geK (hu : X.A.units + 64 < cLine) (hK : X.K = K := by rfl) : OpR X (compareOp .GtE) (rDat K ltOk fun d e => !PySem.W.dataLt d e) := by subst hK; exact op_geP hu
theorem op_inK (hu : X.A.units + 64 < cLine) (hK : X.K = K := by rfl) : OpR X (compareOp .In) (rInD K) := by subst hK; exact op_inD hu
theorem op_notInK (hu : X.A.units + 64 < cLine) (hK : X.K = K := by rfl) : OpR X (compareOp .NotIn) (rNotInD K) := by subst hK; exact op_notInD hu
theorem ex_ixK (ha : EX X b ea ta fa) (hb : EX X b eb tb fb) (hs : PlainIx eb := by exact fun _ _ => rfl) (hK : X.K = K := by rfl) : EX X b (.Subscript ea eb pos) (tOp (rIx K) ta tb) (eBin opIx fa fb) := by subst hK; exact ex_ix ha hb hs
theorem ex_ixOwnK {i : Nat} {x : Str} {pos2 : Pos} {d : Bool} (hb : EX X d eb tb fb) (hN : X.N[i]? = some x := by rfl) (hv : Vis X.env.scope x := by first | exact Or.inl rfl | exact Or.inr (Or.inl rfl) | exact Or.inr (Or.inr rfl)) (hd : (x == ("__debug__" : Str)) = false := by decide)
    (hcd : (x == ("__classdict__" : Str)) = false := by decide) (hs : PlainIx eb := by exact fun _ _ => rfl) (hK : X.K = K := by rfl) : EX X true (.Subscript (.Name x pos2) eb pos) (tOp (rIx K) (tVar i) tb) (eIxOwn i fb) := by subst hK; exact ex_ixOwn hb hN hv hd hcd hs
theorem ei_seqK {tg : Expr} (h : EX X true e t f) (hK : X.K = K := by rfl) : EI X b tg e (iSeq K t) (iSq f) := by subst hK; exact ei_seq h
theorem ei_ownK {i : Nat} {tg : Expr} {x : Str} (hN : X.N[i]? = some x := by rfl) (hv : Vis X.env.scope x := by first | exact Or.inl rfl | exact Or.inr (Or.inl rfl) | exact Or.inr (Or.inr rfl)) (hd : (x == ("__debug__" : Str)) = false := by decide)
    (hcd : (x == ("__classdict__" : Str)) = false := by decide) (hK : X.K = K := by rfl) : EI X false tg (.Name x pos) (iList K (tVar i)) (iOwn i) := by subst hK; exact ei_own hN hv hd hcd
theorem eg_tupK {es : List Expr} {k : Nat} {t : TGs} {n : Nat} {js : List Nat} {h : List D → Ro → Option Ro} (hh : EGs X es t js h) (l : LenG n h) (hc : X.calm = true := by rfl)
    (hn : (assignEach es X.env).length = n := by rfl) (hst : (assignEach es X.env).findIdx? (·.1) = none := by rfl) (hK : X.K = K := by rfl) : EG X (.Tuple es k pos) (gTup K n t) js (gTupD h) := by subst hK; exact eg_tup hc hh l hn hst
theorem ex_isiK {T : String} {x : Str} {p p2 : Pos} (k : KitOk T) (hm : X.mg "isinstance" = none) (hmT : X.mg x = none) (hvT : bootBuiltins x = some (.type T)) (he : EX X b e ta fa) (hg : Gl X "isinstance" := by rfl) (hgT : Gl X x := by rfl) (hnT : x ≠ "__name__" := by decide) (hdT : (x == ("__debug__" : Str)) = false := by decide)
    (hs1 : starEach [e, .Name x p2] X.env = (false, eval e X.env) :: starEach [.Name x p2] X.env := by rfl) (hs2 : starEach [.Name x p2] X.env = (false, eval (.Name x p2) X.env) :: starEach [] X.env := by rfl) (hpl : (backTo pos (starEach [.Name x p2] X.env)).any (·.1) = false := by rfl) (hK : X.K = K := by rfl) :
    EX X true (.Call (.Name "isinstance" p) [e, .Name x p2] [] pos) (tCB (rIsi K) (tCons ta (tCons (tC (.ty T)) tNil))) (eUn (opIsi T) fa) := by subst hK; exact ex_isi k hm hmT hvT he hg hgT hnT hdT hs1 hs2 hpl
section
variable {n k : Nat} {f : Addr} {fd : FuncData} {ps : List Str} {fn : List D → Wd → Option (D × Wd)} {x : Str} {p : Pos} {es : List Expr} {t : TA} {fa : DA}
theorem ex_funK (F : FnOk X.prog X.w K X.mg X.base CX0 k f fd ps (spD K n fn)) (hr : Room k X.A) (hm : X.mg x = some (.ref f)) (hk : PySem.W.keepIn K (.ref f) = true) (hb : Binds K fd ps []) (ha : EA X true (e :: es) t fa) (l : LenA n fa) (hg : Gl X x := by rfl) (hdb : (x == ("__debug__" : Str)) = false := by decide)
    (he : starEach (e :: es) X.env = (false, eval e X.env) :: starEach es X.env := by rfl) (hpl : (backTo pos (starEach es X.env)).any (·.1) = false := by rfl) (hK : X.K = K := by rfl) : EX X true (.Call (.Name x p) (e :: es) [] pos) (tCall (spD K n fn) [] E0 t) (eFun fn fa) := by
  subst hK; exact ex_fun F hr hm hk hb ha l hg hdb he hpl
theorem ex_funPK (F : FnOk X.prog X.w K X.mg X.base CX0 k f fd ps (spD K n fn)) (hr : Room k X.A) (hm : X.mg x = some (.ref f)) (hk : PySem.W.keepIn K (.ref f) = true) (hb' : Binds K fd ps []) (ha : EA X b (e :: es) t fa) (l : LenA n fa) (hg : Gl X x := by rfl) (hdb : (x == ("__debug__" : Str)) = false := by decide)
    (he : starEach (e :: es) X.env = (false, eval e X.env) :: starEach es X.env := by rfl) (hpl : (backTo pos (starEach es X.env)).any (·.1) = false := by rfl) (hK : X.K = K := by rfl) : EX X b (.Call (.Name x p) (e :: es) [] pos) (tCall (spD K n fn) [] E0 t) (eFunP fn fa) := by
  subst hK; exact ex_funP F hr hm hk hb' ha l hg hdb he hpl
end
theorem ex_slK {lo hi : Option Expr} {tl th : TO} {fl fh : DO} {p2 : Pos} (h : EX X b e t f) (hl : EO X lo tl fl) (hh : EO X hi th fh) (hK : X.K = K := by rfl) : EX X b (.Subscript e (.Slice lo hi none p2) pos) (tSl (rSlD K) t tl th) (eSl opSl f fl fh) := by subst hK; exact ex_sl h hl hh
theorem ex_ixObK (ha : EX X b ea ta fa) (hb : EX X b' eb tb fb) (hs : PlainIx eb := by exact fun _ _ => rfl) (hK : X.K = K := by rfl) : EX X true (.Subscript ea eb pos) (tOp (rIx K) ta tb) (eIxOb fa fb) := by subst hK; exact ex_ixOb ha hb hs
/-! calls of built-ins, by name -/
variable {p : Pos} {tA : TA} {fA : DA}
def rLenK (K : PySem.W.Frag) : List V → Hp → VK → Prop := fun xs H Q => ∃ x n, xs = [x] ∧ LenV K x H n ∧ Q (.int n) H
theorem ex_len (hm : X.mg "len" = none) (ha : EA X b [e] tA fA) (hg : Gl X "len" := by rfl) (he : starEach [e] X.env = (false, eval e X.env) :: starEach [] X.env := by rfl) (hpl : (backTo pos (starEach [] X.env)).any (·.1) = false := by rfl) (hK : X.K = K := by rfl) :
    EX X true (.Call (.Name "len" p) [e] [] pos) (tCB (rLenK K) tA) (eCall opLen fA) := by
  subst hK; exact ex_callB call_len cal_len hm PySem.boot_len ha hg (by decide) (by decide) he hpl
theorem ex_lenObK (hm : X.mg "len" = none) (ha : EX X b ea ta fa) (hg : Gl X "len" := by rfl)
    (he : starEach [ea] X.env = (false, eval ea X.env) :: starEach [] X.env := by rfl) (hpl : (backTo pos (starEach [] X.env)).any (·.1) = false := by rfl) (hK : X.K = K := by rfl) : EX X true (.Call (.Name "len" p) [ea] [] pos) (tCB (rLenK K) (tCons ta tNil)) (eLenOb fa) := by
  subst hK; exact ex_lenOb hm ha hg he hpl
theorem ex_sum (hm : X.mg "sum" = none) (ha : EA X b [e] tA fA) (hc : X.calm = true := by rfl) (hg : Gl X "sum" := by rfl) (he : starEach [e] X.env = (false, eval e X.env) :: starEach [] X.env := by rfl) (hpl : (backTo pos (starEach [] X.env)).any (·.1) = false := by rfl) (hK : X.K = K := by rfl) :
    EX X true (.Call (.Name "sum" p) [e] [] pos) (tCB (rSumA K) tA) (eCall opSum fA) := by
  subst hK; exact ex_callB (cr_sumA hc) cal_sum hm (by decide +kernel) ha hg (by decide) (by decide) he hpl
theorem ex_all (hm : X.mg "all" = none) (ha : EA X b [e] tA fA) (hc : X.calm = true := by rfl) (hg : Gl X "all" := by rfl) (he : starEach [e] X.env = (false, eval e X.env) :: starEach [] X.env := by rfl) (hpl : (backTo pos (starEach [] X.env)).any (·.1) = false := by rfl) (hK : X.K = K := by rfl) :
    EX X true (.Call (.Name "all" p) [e] [] pos) (tCB (rAll K) tA) (eCall opAll fA) := by
  subst hK; exact ex_callB (cr_all hc) cal_all hm (by decide +kernel) ha hg (by decide) (by decide) he hpl
theorem ex_any (hm : X.mg "any" = none) (ha : EA X b [e] tA fA) (hc : X.calm = true := by rfl) (hg : Gl X "any" := by rfl) (he : starEach [e] X.env = (false, eval e X.env) :: starEach [] X.env := by rfl) (hpl : (backTo pos (starEach [] X.env)).any (·.1) = false := by rfl) (hK : X.K = K := by rfl) :
    EX X true (.Call (.Name "any" p) [e] [] pos) (tCB (rAny K) tA) (eCall opAny fA) := by
  subst hK; exact ex_callB (cr_any hc) cal_any hm (by decide +kernel) ha hg (by decide) (by decide) he hpl
def rTupK (K : PySem.W.Frag) : List V → Hp → VK → Prop := fun xs H Q => ∃ p ys, xs = [.ref p] ∧ ((SqL K H p ys ∧ ∀ l, H l = none → Q (.ref l) (upd H l (.tup ys))) ∨ (SqT K H p ys ∧ Q (.ref p) H))
theorem ex_tuple (hm : X.mg "tuple" = none) (ha : EA X b [e] tA fA) (hg : Gl X "tuple" := by rfl) (he : starEach [e] X.env = (false, eval e X.env) :: starEach [] X.env := by rfl) (hpl : (backTo pos (starEach [] X.env)).any (·.1) = false := by rfl) (hK : X.K = K := by rfl) :
    EX X b (.Call (.Name "tuple" p) [e] [] pos) (tCB (rTupK K) tA) (eCall opTuple fA) := by
  subst hK; exact ex_callTy call_tuple_of cal_tuple hm PyProof.Rows.boot_tuple ha hg (by decide) (by decide) he hpl
theorem ex_tupOwnK {i : Nat} {x : Str} {npos : Pos} (hm : X.mg "tuple" = none) (hN : X.N[i]? = some x := by rfl) (hv : Vis X.env.scope x := by first | exact Or.inl rfl | exact Or.inr (Or.inl rfl) | exact Or.inr (Or.inr rfl)) (hd : (x == ("__debug__" : Str)) = false := by decide)
    (hcd : (x == ("__classdict__" : Str)) = false := by decide) (hg : Gl X "tuple" := by rfl) (he : starEach [.Name x npos] X.env = (false, eval (.Name x npos) X.env) :: starEach [] X.env := by rfl) (hpl : (backTo pos (starEach [] X.env)).any (·.1) = false := by rfl) (hK : X.K = K := by rfl) :
    EX X true (.Call (.Name "tuple" p) [.Name x npos] [] pos) (tCB (rTupK K) (tCons (tVar i) tNil)) (eTupOwn i) := by subst hK; exact ex_tupOwn hm hN hv hd hcd hg he hpl
theorem en_listK (hm : X.mg "list" = none) (ha : EA X true [e] tA fA) (hg : Gl X "list" := by rfl)
    (he : starEach [e] X.env = (false, eval e X.env) :: starEach [] X.env := by rfl) (hpl : (backTo pos (starEach [] X.env)).any (·.1) = false := by rfl) (hK : X.K = K := by rfl) : EN X (.Call (.Name "list" p) [e] [] pos) (tCB (rListOf K) tA) (aList fA) := by subst hK; exact en_list hm ha hg he hpl
theorem ex_int1 (hm : X.mg "int" = none) (ha : EA X b [e] tA fA) (hg : Gl X "int" := by rfl) (he : starEach [e] X.env = (false, eval e X.env) :: starEach [] X.env := by rfl) (hpl : (backTo pos (starEach [] X.env)).any (·.1) = false := by rfl) :
    EX X true (.Call (.Name "int" p) [e] [] pos) (tCB (fun xs H Q => (∃ i, xs = [.int i] ∧ Q (.int i) H) ∨ ∃ k, xs = [.bl k] ∧ Q (.int (if k then 1 else 0)) H) tA) (eCall opInt fA) :=
  ex_callTy call_int1 cal_int hm PyProof.Rows.boot_int ha hg (by decide) (by decide) he hpl
theorem ex_str1 (hm : X.mg "str" = none) (ha : EA X b [e] tA fA) (hg : Gl X "str" := by rfl) (he : starEach [e] X.env = (false, eval e X.env) :: starEach [] X.env := by rfl) (hpl : (backTo pos (starEach [] X.env)).any (·.1) = false := by rfl) :
    EX X true (.Call (.Name "str" p) [e] [] pos) (tCB (fun xs H Q => ∃ i, xs = [.int i] ∧ i.natAbs.log2 < 1920 ∧ Q (.str (toString i)) H) tA) (eCall opStr fA) :=
  ex_callTy call_str_int cal_str hm PyProof.Rows.boot_str ha hg (by decide) (by decide) he hpl
theorem ex_abs (hm : X.mg "abs" = none) (ha : EA X b [e] tA fA) (hg : Gl X "abs" := by rfl) (he : starEach [e] X.env = (false, eval e X.env) :: starEach [] X.env := by rfl) (hpl : (backTo pos (starEach [] X.env)).any (·.1) = false := by rfl) :
    EX X true (.Call (.Name "abs" p) [e] [] pos) (tCB (fun xs H Q => ∃ i, xs = [.int i] ∧ Q (.int (if i < 0 then -i else i)) H) tA) (eCall opAbs fA) :=
  ex_callB call_abs cal_abs hm PyProof.Rows.boot_abs ha hg (by decide) (by decide) he hpl
variable {e2 : Expr}
theorem ex_min2 (hm : X.mg "min" = none) (ha : EA X b [e, e2] tA fA) (hc : X.calm = true := by rfl) (hg : Gl X "min" := by rfl) (he : starEach [e, e2] X.env = (false, eval e X.env) :: starEach [e2] X.env := by rfl) (hpl : (backTo pos (starEach [e2] X.env)).any (·.1) = false := by rfl) :
    EX X true (.Call (.Name "min" p) [e, e2] [] pos) (tCB (fun xs H Q => ∃ i j, xs = [.int i, .int j] ∧ Q (.int (if j < i then j else i)) H) tA) (eCall opMin2 fA) :=
  ex_callB (call_min2 hc) cal_min2 hm (by decide +kernel) ha hg (by decide) (by decide) he hpl
theorem ex_max2 (hm : X.mg "max" = none) (ha : EA X b [e, e2] tA fA) (hc : X.calm = true := by rfl) (hg : Gl X "max" := by rfl) (he : starEach [e, e2] X.env = (false, eval e X.env) :: starEach [e2] X.env := by rfl) (hpl : (backTo pos (starEach [e2] X.env)).any (·.1) = false := by rfl) :
    EX X true (.Call (.Name "max" p) [e, e2] [] pos) (tCB (fun xs H Q => ∃ i j, xs = [.int i, .int j] ∧ Q (.int (if j > i then j else i)) H) tA) (eCall opMax2 fA) :=
  ex_callB (call_max2 hc) cal_max2 hm (by decide +kernel) ha hg (by decide) (by decide) he hpl
end
theorem fn_denM {P : Program} {w : World} {K : PySem.W.Frag} {mg : Str → Option Value} {base : Heap} {x qual : Str} {st : Stmt} {f : Addr} {fd : FuncData} {N ps : List Str} {k m n : Nat} {fb : DS} (F : Fun K x qual st f fd) (S : FnScope N ps (defScope st)) (hm : N.length = m) (hn : ps.length = n)
    (body : ∀ (cdv : Value) (A : Around) (outer : List PySem.Env) (s : Shared) (H : Hp) (E : XK), Room k (A.deeper (PyProof.Rows.envOfC qual (defScope st) s.heap.objs.size f cdv)) → ∃ t, SXs (cxOf CX0 P w K mg base N qual (defScope st) f cdv A outer s H E).nox (defBody st) t fb) :
    FnOk P w K mg base CX0 (k + 1) f fd ps (spD K n (defD m fb)) := by
  subst hm hn
  exact fn_den F S body
end Dn
end

section
namespace Dn
open PySem PySem.Spec L2
variable [Tb]
/-! ## sorted(list) -/
def sortD (xs : List D) : List D := xs.mergeSort (PySem.W.dataLe false id)
def tupC : D → Bool
  | .tuple (_ :: _) => true
  | _ => false
def notTN : D → Bool
  | .none => false
  | .tuple _ => false
  | _ => true
/-- what sorted takes here: alike data, no None; tuples with an item, or none is a tuple, or no more than one -/
def sortOk (xs : List D) : Bool := PyData.plainAll xs && xs.all (fun d => decide (d.depth ≤ 60)) && xs.all (fun d => xs.all fun e => PySem.W.alike d e) && (xs.all tupC || xs.all notTN || (decide (xs.length ≤ 1) && xs.all notNon))
def rSortD (K : PySem.W.Frag) : List V → Hp → VK → Prop := fun xs H Q => ∃ (a : Addr) (bs : List (D × V)), xs = [.ref a] ∧ SqL K H a (bs.map Prod.snd) ∧ (∀ b ∈ bs, Dp K H b.2 b.1) ∧ sortOk (bs.map Prod.fst) = true ∧
  ∀ p, H p = none → Q (.ref p) (upd H p (.lst ((bs.mergeSort (PySem.W.dataLe false Prod.fst)).map Prod.snd)))
theorem sortOk_h {xs : List D} (h : sortOk xs = true) : PyData.plainAll xs = true ∧ (∀ d ∈ xs, d.depth ≤ 60) ∧ PySem.W.AllAlike xs ∧ (PySem.W.Sortable xs ∨ ∃ d, xs = [d] ∧ d ≠ .none) := by
  simp only [sortOk, Bool.and_eq_true, Bool.or_eq_true, List.all_eq_true, decide_eq_true_eq] at h
  obtain ⟨⟨⟨h1, h2⟩, h3⟩, h4⟩ := h
  refine ⟨h1, h2, h3, ?_⟩
  rcases h4 with (h | h) | ⟨h, h'⟩
  · refine .inl (.inl fun d hd => ?_)
    have q := h d hd
    unfold tupC at q
    split at q
    · exact ⟨_, _, rfl⟩
    · cases q
  · refine .inl (.inr fun d hd => ?_)
    have q := h d hd
    refine ⟨fun e => ?_, fun xs e => ?_⟩ <;> subst e <;> simp [notTN] at q
  · match xs, h with
    | [], _ => exact .inl (.inl fun d hd => by cases hd)
    | [d], _ => exact .inr ⟨d, rfl, fun e => by have := h' d (List.mem_singleton.mpr rfl); rw [e] at this; cases this⟩
    | _ :: _ :: _, h => simp at h
section
open PySem.W PySem.Calls PyProof.Rows
variable {prog : Program} {w : World} {A : Around} {s : Shared} {β : Type} {bs : List β} {enc : β → PyData} {E : Value → Shared → Prop}
theorem sortsAt_one {vs : List Value} {d : PyData} (e : EachIs (fun v d => ∃ as, Reads s.heap v d as) vs [d]) (hal : AllAlike [d]) (hn : d ≠ .none) (hu : A.units + d.depth < cLine) : SortsAt prog w A s (dataKind s.heap [d]) vs := by
  refine ⟨fun v hv => ?_, general', fun E x y a b Q ha hb hq => ?_, fun h2 => ?_⟩
  · obtain ⟨d', hd, as, r⟩ := e.left v hv
    exact ⟨_, dataKind_some hal hd r⟩
  · obtain ⟨d1, as, hd, ra, rfl⟩ := dataKind_inv ha
    obtain ⟨d2, as', hd', rb, rfl⟩ := dataKind_inv hb
    have e1 := List.mem_singleton.mp hd
    have e2 := List.mem_singleton.mp hd'
    subst e1; subst e2
    rw [show keyLt' general' x y = oneLt' false x y from rfl]
    exact oneLt_alike (fun h => absurd h Bool.false_ne_true) ra rb (hal _ hd _ hd) hn (by rw [Nat.min_self]; exact hu) hq
  · have := e.length
    rw [this] at h2
    exact absurd h2 (by simp)
theorem sorted_dataA {R : Value → β → Prop} {vs : List Value} {l : Addr} {Q : Value → Shared → Prop} (hl : s.heap.IsList l vs.toArray) (e : EachIs R vs bs) (er : EachIs (fun v b => ∃ as, Reads s.heap v (enc b) as) vs bs) (hal : AllAlike (bs.map enc)) (hk : Sortable (bs.map enc) ∨ ∃ d, bs.map enc = [d] ∧ d ≠ .none) (hL : bs.length ≤ sizeLine)
    (hu : ∀ b, b ∈ bs → A.units + 2 + (enc b).depth < cLine) (h : ∀ out, out.length = bs.length → EachIs R out (bs.mergeSort (dataLe false enc)) → Q (.ref (s.heap.objs.size + 1)) { s with heap := sortedAll s.heap vs (List.toArray out) }) :
    wpAny (model prog w) A (call (.builtin "sorted") [.ref l]) Q E s := by
  rcases hk with hk | ⟨d, hd, hn⟩
  · exact sorted_data hl e er hal hk hL hu h
  · have er' : EachIs (fun v b => ∃ as, Reads (sortingHeap (copyHeap s.heap vs) (s.heap.objs.size + 1) vs) v (enc b) as) vs bs := er.mono fun _ _ ⟨as, r⟩ => ⟨as, PyProof.Rows.Reads.keeps (fun _ _ => sorting_copy_old) r⟩
    have em := each_map (R := fun v d => ∃ as, Reads (sortingHeap (copyHeap s.heap vs) (s.heap.objs.size + 1) vs) v d as) enc er'
    have hal' := hal
    have sd := sortVals_data false e er' hal
    rw [hd] at em hal' sd
    have hu' : A.units + 2 + d.depth < cLine := by
      obtain ⟨b, hb, e⟩ := List.mem_map.mp (hd ▸ List.mem_singleton.mpr rfl : d ∈ bs.map enc)
      rw [← e]; exact hu b hb
    exact sorted_vals hl (sortsAt_one (s := { s with heap := sortingHeap (copyHeap s.heap vs) (s.heap.objs.size + 1) vs }) em hal' hn hu') (by rw [e.length]; exact hL)
      (h _ (by rw [sortVals_length false rfl]; exact e.length) sd)
end
section
variable {X : Cx}
theorem each_of {f : V → Value → Prop} : ∀ {bs : List (D × V)} {us : List Value}, Vals (bs.map Prod.snd) us → PySem.W.EachIs (fun u b => RelV b.2 u) us bs
  | [], us, h => by
    rw [List.map_nil] at h; cases h; exact .nil
  | b :: bs, us, h => by
    rw [List.map_cons] at h
    cases h with
    | cons r t => exact .cons r (each_of (f := f) t)
theorem each_to : ∀ {bs : List (D × V)} {us : List Value}, PySem.W.EachIs (fun u b => RelV b.2 u) us bs → Vals (bs.map Prod.snd) us
  | _, _, .nil => by rw [List.map_nil]; exact Paired.nil
  | _, _, .cons r t => by rw [List.map_cons]; exact Paired.cons r (each_to t)
theorem each_reads {pins : List (Addr × Obj)} {s : Shared} {σ : L2.St} {H : Hp} (I : Inv X pins σ H s) : ∀ {bs : List (D × V)} {us : List Value}, (∀ b ∈ bs, Dp X.K H b.2 b.1) → PySem.W.EachIs (fun u b => RelV b.2 u) us bs → PySem.W.EachIs (fun u (b : D × V) => ∃ as, Reads s.heap u b.1 as) us bs
  | _, _, _, .nil => .nil
  | _, _, h, .cons r t => .cons (Dp.reads I _ _ _ (h _ (List.mem_cons_self ..)) r) (each_reads I (fun b hb => h b (List.mem_cons_of_mem _ hb)) t)
theorem cr_sortedD (hu : X.A.units + 64 < cLine) : CallR X (.builtin "sorted") (rSortD X.K) := by
  intro pins s σ H vs us Q I r h
  obtain ⟨a, bs, rfl, hs, hd, ho, q⟩ := h
  obtain ⟨_, h2, h3, h4⟩ := sortOk_h ho
  obtain ⟨its, rv, hl, hz⟩ := I.list hs
  rw [Vals.ref1 r]
  have e := each_of (f := fun _ _ => True) rv
  have hz' : bs.length ≤ sizeLine := by rw [List.length_map] at hz; exact hz
  refine sorted_dataA (β := D × V) (enc := Prod.fst) (bs := bs) (R := fun u b => RelV b.2 u) hl.isList e (each_reads I hd e) h3 h4 hz' (fun b hb => ?_) fun out h1 e2 => ?_
  · have := h2 b.1 (List.mem_map.mpr ⟨b, hb, rfl⟩)
    omega
  · obtain ⟨ep, he'⟩ := PyProof.Rows.sortedAll_at s.heap its out.toArray
    have hlen : ((bs.mergeSort (PySem.W.dataLe false Prod.fst)).map Prod.snd).length ≤ sizeLine := by
      rw [List.length_map, List.length_mergeSort]; exact hz'
    exact ⟨.ref _, upd H (s.heap.objs.size + 1) (.lst ((bs.mergeSort (PySem.W.dataLe false Prod.fst)).map Prod.snd)), I.laid (t' := s.toks) (fun _ _ => PyProof.Rows.sortedAll_old) (Nat.le_succ _) ⟨hlen, out, ep, each_to e2, he'⟩, rfl, q _ (I.hok.fresh (Nat.le_succ _))⟩
end
section
variable {K : PySem.W.Frag} {b : Bool}
theorem RepL.zip {ι : Ix} {G : Hp} : ∀ {ds : List D} {vs : List V}, RepL K ι G ds vs → ∃ bs : List (D × V), bs.map Prod.fst = ds ∧ bs.map Prod.snd = vs ∧ ∀ p ∈ bs, Rep K ι G p.1 p.2
  | [], vs, h => by
    rw [RepL] at h
    subst h
    exact ⟨[], rfl, rfl, by simp⟩
  | d :: ds, vs, h => by
    rw [RepL] at h
    obtain ⟨v, ws, rfl, h1, h⟩ := h
    obtain ⟨bs, e1, e2, h2⟩ := RepL.zip h
    refine ⟨(d, v) :: bs, by rw [List.map_cons, e1], by rw [List.map_cons, e2], fun p hp => ?_⟩
    rcases List.mem_cons.mp hp with rfl | hp
    · exact h1
    · exact h2 p hp
theorem RepL.unzip {ι : Ix} {G : Hp} : ∀ {bs : List (D × V)}, (∀ p ∈ bs, Rep K ι G p.1 p.2) → RepL K ι G (bs.map Prod.fst) (bs.map Prod.snd)
  | [], _ => by simp only [List.map_nil, RepL]
  | p :: bs, h => by
    rw [List.map_cons, List.map_cons, RepL]
    exact ⟨_, _, rfl, h p (List.mem_cons_self ..), RepL.unzip fun q hq => h q (List.mem_cons_of_mem _ hq)⟩
theorem plainAll_in : ∀ {xs : List D} {x : D}, PyData.plainAll xs = true → x ∈ xs → x.plain = true
  | y :: ys, x, h, hx => by
    rw [PyData.plainAll, Bool.and_eq_true] at h
    rcases List.mem_cons.mp hx with rfl | hx
    · exact h.1
    · exact plainAll_in h.2 hx
theorem sort_fst (bs : List (D × V)) : (bs.mergeSort (PySem.W.dataLe false Prod.fst)).map Prod.fst = sortD (bs.map Prod.fst) := by
  unfold sortD
  refine List.map_mergeSort fun x _ y _ => rfl
/-- sorted of a list: a list of one's own -/
def aSorted (f : DA) : DA := fun ρ ω => match f ρ ω with
  | some ([.list xs], ω1) => if sortOk xs = true then some (sortD xs, ω1) else none
  | _ => none
def aSortOwn (i : Nat) : DA := fun ρ ω => match ρ[i]? with
  | some (.own xs) => if sortOk xs = true then some (sortD xs, ω) else none
  | _ => none
theorem sort_rep {g : Gh} {H : Hp} {ω : Wd} {xs : List D} {vs : List V} (ok : GOk K g H ω) (l : RepL K g.ι g.G xs vs) (hz : vs.length ≤ sizeLine) (ho : sortOk xs = true) :
    ∃ bs : List (D × V), bs.map Prod.fst = xs ∧ bs.map Prod.snd = vs ∧ (∀ b ∈ bs, Dp K H b.2 b.1) ∧ RepL K g.ι g.G (sortD xs) ((bs.mergeSort (PySem.W.dataLe false Prod.fst)).map Prod.snd) ∧ ((bs.mergeSort (PySem.W.dataLe false Prod.fst)).map Prod.snd).length ≤ sizeLine := by
  obtain ⟨bs, e1, e2, h⟩ := RepL.zip l
  obtain ⟨hp, _⟩ := sortOk_h ho
  refine ⟨bs, e1, e2, fun b hb => ?_, ?_, ?_⟩
  · have hpb : b.1.plain = true := plainAll_in hp (by rw [← e1]; exact List.mem_map.mpr ⟨b, hb, rfl⟩)
    exact Rep.dp (fun _ _ h => ok.sub _ _ h) b.1 b.2 hpb (h b hb)
  · rw [← e1, ← sort_fst]
    exact RepL.unzip fun p hp => h p (List.mem_mergeSort.mp hp)
  · rw [List.length_map, List.length_mergeSort]
    rw [← e2, List.length_map] at hz
    exact hz
theorem snn_sorted {t : TA} {f : DA} (h : SndA K true t f) : SndN K (tCB (rSortD K) t) (aSorted f) := by
  intro g0 H0 g H ρ ω σ Q ds ω' ok st sl e k
  unfold aSorted at e
  split at e
  · rename_i xs ω1 e1
    split at e <;> cases e
    rename_i ho
    refine h g0 H0 g H ρ ω σ _ _ ω' ok st sl e1 fun vs g1 H1 s1 ok1 r1 => ?_
    obtain ⟨v, rfl, q⟩ := RBL.one r1
    obtain ⟨a, vs, rfl, q, z, l⟩ := q.lstV ok1
    obtain ⟨bs, b1, b2, b3, b4, b5⟩ := sort_rep ok1 l z ho
    refine ⟨a, bs, rfl, by rw [b2]; exact SqL.of q, b3, by rw [b1]; exact ho, fun p hp => ?_⟩
    obtain ⟨s2, ok2, nG, nS⟩ := newOwn ok1 hp (o := .lst ((bs.mergeSort (PySem.W.dataLe false Prod.fst)).map Prod.snd))
    exact k p _ g1 _ (s1.trans s2) ok2 (s1.al p hp) upd_same nG nS b5 b4
  · cases e
end
section
variable {X : Cx} {K : PySem.W.Frag} {tA : TA} {fA : DA} {e : Expr} {p pos : Pos}
theorem en_sorted (hu : X.A.units + 64 < cLine) (hm : X.mg "sorted" = none) (ha : EA X true [e] tA fA) (hg : Gl X "sorted" := by rfl) (he : starEach [e] X.env = (false, eval e X.env) :: starEach [] X.env := by rfl) (hpl : (backTo pos (starEach [] X.env)).any (·.1) = false := by rfl) (hK : X.K = K := by rfl) :
    EN X (.Call (.Name "sorted" p) [e] [] pos) (tCB (rSortD K) tA) (aSorted fA) := by
  subst hK
  exact ⟨pe_callB (cr_sortedD hu) hg hm (by decide +kernel) ha.pe (by decide) (by decide) he hpl, snn_sorted ha.sn⟩
theorem en_sortOwn {i : Nat} {x : Str} {npos p pos : Pos} (hu : X.A.units + 64 < cLine) (hm : X.mg "sorted" = none) (hN : X.N[i]? = some x := by rfl) (hv : Vis X.env.scope x := by first | exact Or.inl rfl | exact Or.inr (Or.inl rfl) | exact Or.inr (Or.inr rfl)) (hd : (x == ("__debug__" : Str)) = false := by decide)
    (hcd : (x == ("__classdict__" : Str)) = false := by decide) (hg : Gl X "sorted" := by rfl) (he : starEach [.Name x npos] X.env = (false, eval (.Name x npos) X.env) :: starEach [] X.env := by rfl) (hpl : (backTo pos (starEach [] X.env)).any (·.1) = false := by rfl) (hK : X.K = K := by rfl) :
    EN X (.Call (.Name "sorted" p) [.Name x npos] [] pos) (tCB (rSortD K) (tCons (tVar i) tNil)) (aSortOwn i) := by
  subst hK
  refine ⟨pe_callB (cr_sortedD hu) hg hm (by decide +kernel) (pa_cons (pe_var hN hv hd hcd) pa_nil he) (by decide) (by decide) he hpl, ?_⟩
  intro g0 H0 g H ρ ω σ Q d ω' ok st sl e k
  unfold aSortOwn at e
  split at e
  · rename_i xs hx
    split at e <;> cases e
    rename_i ho
    obtain ⟨o, h1, p, vs, rfl, hp, hG, hS, h0, z, r⟩ := sl.get hx
    obtain ⟨bs, b1, b2, b3, b4, b5⟩ := sort_rep ok r z ho
    refine ⟨_, h1, p, bs, rfl, by rw [b2]; exact SqL.of hp, b3, by rw [b1]; exact ho, fun q hq => ?_⟩
    obtain ⟨s2, ok2, nG, nS⟩ := newOwn ok hq (o := .lst ((bs.mergeSort (PySem.W.dataLe false Prod.fst)).map Prod.snd))
    exact k q _ g _ s2 ok2 hq upd_same nG nS b5 b4
  · cases e
end
end Dn
end

section
namespace Dn
open PySem PySem.Spec L2
variable [Tb]
/-! ## any / all of a generator expression -/
def anyD (last : Bool) (fg : DG) (ft : DT) (fe : DE) (ρ : Ro) : List D → Wd → Option (D × Wd)
  | [], ω => some (.bool (!last), ω)
  | d :: ds, ω => match fg d ρ with
    | none => none
    | some ρ1 => match ft ρ1 ω with
      | none => none
      | some (c, ω1) => if c = true then (match fe ρ1 ω1 with
          | some (.bool r, ω2) => if r = last then some (.bool last, ω2) else anyD last fg ft fe ρ ds ω2
          | _ => none)
        else anyD last fg ft fe ρ ds ω1
def eGenN (last : Bool) (fi : DA) (fg : DG) (ft : DT) (fe : DE) (vs : List Nat) : DE := fun ρ ω => match fi ρ ω with
  | none => none
  | some (ds, ω1) => anyD last fg ft fe (wipeR ρ vs) ds ω1
section
variable {K : PySem.W.Frag} {b : Bool}
theorem tab_step {g : Gh} {H H2 : Hp} {ω : Wd} {P : Addr} (ok : GOk K g H ω) (hT : Tb.T P) (t : GxR.Tabbed P H H2) : Step g H g H2 ∧ GOk K g H2 ω := by
  obtain ⟨hS, ⟨ps, hP, _⟩, hι⟩ := ok.tb P hT
  obtain ⟨t1, t2⟩ := t
  obtain ⟨qs, hQ, _⟩ := id t1
  have nG : ∀ a o, g.G a = some o → a ≠ P := fun a o h z => ok.nS a o h (by rw [z]; exact hS)
  refine ⟨⟨fun _ _ h => h, fun _ _ h => h, fun _ h => h, fun a o h hs => ?_, fun _ h => .inl h, fun a h => ?_, fun a vs h => .inl h, rfl, fun _ => rfl⟩, ⟨fun a o h => by rw [t2 a (nG a o h)]; exact ok.sub a o h, ok.seq, ok.nS, ok.inj, ok.inS, fun n o e => ?_, fun a h => ?_, ok.lv, fun Q h => ?_⟩⟩
  · rw [t2 a (fun z => hs (by rw [z]; exact hS))]; exact h
  · by_cases z : a = P
    · rw [z, hQ] at h; cases h
    · rw [← t2 a z]; exact h
  · obtain ⟨a, ia, h⟩ := ok.st n o e
    have nap : a ≠ P := fun z => hι n (by rw [← z]; exact ia)
    exact ⟨a, ia, h.mono (fun _ _ h => h) (fun _ _ h => h) (t2 a nap)⟩
  · by_cases z : a = P
    · exact ⟨_, by rw [z]; exact hQ, rfl⟩
    · obtain ⟨o, e, q⟩ := ok.sl a h
      exact ⟨o, by rw [t2 a z]; exact e, q⟩
  · by_cases z : Q = P
    · subst z; exact ⟨hS, t1, hι⟩
    · obtain ⟨q1, ⟨rs, e, w⟩, q3⟩ := ok.tb Q h
      exact ⟨q1, ⟨rs, by rw [t2 Q z]; exact e, w⟩, q3⟩
theorem gen_sound {last : Bool} {P : Addr} {wi : TI} {tg : TG} {tt : TT} {te : TE} {fi : DA} {fg : DG} {ft : DT} {fe : DE} {js vs : List Nat} (hT : Tb.T P) (hi : SndI K b wi fi) (hg : SndG K tg js fg) (hj : ∀ j ∈ js, j ∈ vs) (ht : SndT K tt ft) (he : Snd K true te fe) :
    Snd K true (Gx.tGen last P wi tg tt te vs) (eGenN last fi fg ft fe vs) := by
  intro g0 H0 g H ρ ω σ Q d ω' ok st sl e k
  unfold eGenN at e
  split at e
  · cases e
  rename_i items ω1 e1
  refine hi g0 H0 g H ρ ω σ _ items ω1 ok st sl e1 fun J g1 H1 s1 ok1 hz hJ => ⟨(ok1.tb P hT).2.1, fun H2 hTab => ?_⟩
  obtain ⟨stT, okT⟩ := tab_step ok1 hT hTab
  refine ⟨fun i m H3 => m = items.length - i ∧ i ≤ items.length ∧ ∃ g2 ω2, Step g1 H1 g2 H3 ∧ GOk K g2 H3 ω2 ∧ anyD last fg ft fe (wipeR ρ vs) (items.drop i) ω2 = some (d, ω'), ⟨_, rfl, Nat.zero_le _, g1, ω1, stT, okT, e⟩, ?_⟩
  rintro i m H3 ⟨rfl, hil, g2, ω2, s2, ok2, hrest⟩
  have it := hJ g2 H3 (Later.step s2 ok2)
  by_cases hlt : i < items.length
  · obtain ⟨x0, hd⟩ : ∃ d, items[i]? = some d := ⟨_, List.getElem?_eq_getElem hlt⟩
    obtain ⟨go, hy⟩ := it.go i x0 hd
    rw [List.drop_eq_getElem_cons hlt] at hrest
    have hd' : items[i] = x0 := by rw [List.getElem?_eq_getElem hlt] at hd; exact Option.some.inj hd
    rw [hd'] at hrest
    unfold anyD at hrest
    refine .inr ⟨go, fun H' => ∃ m', m' = items.length - (i + 1) ∧ (i + 1) ≤ items.length ∧ ∃ g2 ω2, Step g1 H1 g2 H' ∧ GOk K g2 H' ω2 ∧ anyD last fg ft fe (wipeR ρ vs) (items.drop (i + 1)) ω2 = some (d, ω'), fun H' ⟨m', e', r'⟩ => ⟨m', by omega, e', r'⟩, fun x H4 hyld => ?_⟩
    obtain ⟨g3, s3, k3, r3⟩ := hy x H4 hyld
    have ok3 := k3 ω2 ok2
    split at hrest
    · cases hrest
    rename_i ρ1 eg
    have sall : Step g H g3 H4 := (s1.trans s2).trans s3
    have sl3 : Slots K H0 g3 H4 ρ σ := sl.step sall ok3
    refine hg H0 g3 H4 _ _ x0 x ρ1 _ ok3.sub (sl3.wipe vs) r3 eg fun σ4 sl4 w4 _ => ⟨?_, ?_⟩
    · rw [w4 vs hj, wipe_wipe]
    split at hrest
    · cases hrest
    rename_i c ω4 et
    refine ht g0 H0 g3 H4 ρ1 ω2 σ4 _ c ω4 ok3 (st.trans sall) sl4 et fun g5 H5 s5 ok5 => ?_
    cases c with
    | false =>
      refine iteF ?_
      rw [if_neg Bool.false_ne_true] at hrest
      exact ⟨_, rfl, hlt, g5, ω4, (s2.trans s3).trans s5, ok5, hrest⟩
    | true =>
      refine iteT ?_
      rw [if_pos rfl] at hrest
      split at hrest
      · rename_i r ω6 ee
        refine he g0 H0 g5 H5 ρ1 ω4 σ4 _ _ ω6 ok5 (st.trans (sall.trans s5)) (sl4.step s5 ok5) ee fun v g6 H6 s6 ok6 r6 => ?_
        have ev : v = .bl r := by
          have r6 : Rep K g6.ι g6.G (.bool r) v := r6
          rw [Rep] at r6; exact r6
        refine ⟨r, ev, fun hl => ?_, fun hl => ?_⟩
        · rw [if_pos hl] at hrest
          cases hrest
          exact k (.bl last) g6 H6 ((sall.trans s5).trans s6) ok6 (by show Rep _ _ _ _ _; rw [Rep])
        · rw [if_neg hl] at hrest
          exact ⟨_, rfl, hlt, g6, ω6, ((s2.trans s3).trans s5).trans s6, ok6, hrest⟩
      · cases hrest
  · have hil' : i = items.length := by omega
    subst hil'
    rw [List.drop_length] at hrest
    unfold anyD at hrest
    cases hrest
    exact .inl ⟨it.stop _ (Nat.le_refl _), k (.bl (!last)) g2 H3 (s1.trans s2) ok2 (by show Rep _ _ _ _ _; rw [Rep])⟩
end
/-! ## a def that has generator expressions: its code object at c -/
structure FunC (K : PySem.W.Frag) (x qual : Str) (st : Stmt) (f : Addr) (fd : FuncData) (c : Addr) : Prop where
  ex : ∃ (oc : Value) (od : Option Addr) (kV doc pm : Value) (an : Option Addr) (ct : Value) (osl : Array (Option Value)),
    fd = PySem.W.fnOf x qual (defArgs st) (defBody st) (defScope st) .none kV doc pm an (.ref c) ct ∧ K.lookup f = some ⟨oc, od, .func fd, osl⟩ ∧ PySem.W.codeIn K (.ref c) qual = true
  kp : PySem.W.keepIn K (.ref f) = true
theorem FunC.f {K : PySem.W.Frag} {x qual : Str} {st : Stmt} {f : Addr} {fd : FuncData} {c : Addr} (F : FunC K x qual st f fd c) : Fun K x qual st f fd := by
  obtain ⟨oc, od, kV, doc, pm, an, ct, osl, e, lk, hcd⟩ := F.ex
  exact ⟨⟨oc, od, kV, doc, pm, an, .ref c, ct, osl, e, lk, hcd⟩, F.kp⟩
theorem funC_mk {K : PySem.W.Frag} {x qual : Str} {st : Stmt} {f c : Addr} {oc : Value} {od an : Option Addr} {osl : Array (Option Value)} {kV doc pm ct : Value} (l : K.lookup f = some ⟨oc, od, .func (PySem.W.fnOf x qual (defArgs st) (defBody st) (defScope st) .none kV doc pm an (.ref c) ct), osl⟩)
    (h : PySem.W.codeIn K (.ref c) qual = true) (k : PySem.W.keepIn K (.ref f) = true) : FunC K x qual st f (PySem.W.fnOf x qual (defArgs st) (defBody st) (defScope st) .none kV doc pm an (.ref c) ct) c := ⟨⟨oc, od, kV, doc, pm, an, ct, osl, rfl, l, h⟩, k⟩
theorem fn_denC {P : Program} {w : World} {K : PySem.W.Frag} {mg : Str → Option Value} {base : Heap} {x qual : Str} {st : Stmt} {f : Addr} {fd : FuncData} {N ps : List Str} {k m n : Nat} {fb : DS} {c : Addr} (F : FunC K x qual st f fd c) (S : FnScope N ps (defScope st)) (hm : N.length = m) (hn : ps.length = n)
    (body : ∀ (A : Around) (outer : List PySem.Env) (s : Shared) (H : Hp) (E : XK), Room k (A.deeper (PyProof.Rows.envOfC qual (defScope st) s.heap.objs.size f (.ref c))) → ∃ t, SXs (cxOf CX0 P w K mg base N qual (defScope st) f (.ref c) A outer s H E).nox (defBody st) t fb) :
    FnOk P w K mg base CX0 (k + 1) f fd ps (spD K n (defD m fb)) := by
  subst hm hn
  obtain ⟨oc, od, kV, doc, pm, an, ct, osl, rfl, lk, hcd⟩ := F.ex
  refine fn_of lk hcd S (fun vs H Q E h => ?_) fun A outer s H vs Q E hr h => ?_
  · obtain ⟨g, ω, ds, d, ω', h1, _⟩ := h
    exact h1
  · obtain ⟨g, ω, ds, d, ω', h1, ok, r, e, q⟩ := h
    obtain ⟨t, B⟩ := body A outer s H E hr
    refine ⟨t, B.pe.nox, ?_⟩
    have hl := r.length
    have sl : Slots K H g H (ds.map SV.val ++ List.replicate (N.length - ds.length) .un) (L2.start N vs) := by
      refine ⟨?_, fun i s o e1 e2 => ?_, fun i j xs ys p e1 e2 e3 e4 => ?_⟩
      · unfold L2.start; simp [hl]
      · by_cases hi : i < ds.length
        · rw [List.getElem?_append_left (by simpa using hi)] at e1
          rw [List.getElem?_map] at e1
          obtain ⟨d1, hd, rfl⟩ := Option.map_eq_some_iff.mp e1
          obtain ⟨v, hv, rv⟩ := r.get hd
          unfold L2.start at e2
          rw [List.getElem?_append_left (by simp; omega), List.getElem?_map, hv] at e2
          cases e2
          exact ⟨v, rfl, rv⟩
        · rw [List.getElem?_append_right (by simp; omega)] at e1
          have := List.getElem?_replicate (n := N.length - ds.length) (a := SV.un) (i := i - (ds.map SV.val).length)
          rw [e1] at this
          split at this
          · cases this; trivial
          · cases this
      · by_cases hi : i < ds.length
        · rw [List.getElem?_append_left (by simpa using hi), List.getElem?_map] at e1
          obtain ⟨d1, _, z⟩ := Option.map_eq_some_iff.mp e1
          cases z
        · rw [List.getElem?_append_right (by simp; omega)] at e1
          have := List.getElem?_replicate (n := N.length - ds.length) (a := SV.un) (i := i - (ds.map SV.val).length)
          rw [e1] at this
          split at this <;> cases this
    unfold defD at e
    split at e
    · rename_i d1 ω1 e1
      cases e
      exact B.sn g H g H _ ω _ _ _ ω' ok (.refl _ _) sl e1 fun v g' H' ok' st' r' => q v g' H' st' ok' r'
    · rename_i ρ1 ω1 e1
      cases e
      exact B.sn g H g H _ ω _ _ _ ω' ok (.refl _ _) sl e1 fun σ' g' H' S' => q .non g' H' S'.st S'.ok (by rw [Rep])
    · cases e
section
variable {X : Cx} {b : Bool}
theorem ex_anyG {c P : Addr} {elt tg iter : Expr} {ifs : List Expr} {p pos gpos : Pos} {scope : Scope} {own : List (Str × Nat)} {js : List Nat} {wi : TI} {g : TG} {tt : TT} {te : TE} {fi : DA} {fg : DG} {ft : DT} {fe : DE} {k : Nat} (hT : Tb.T P)
    (TB : GxR.TabB X.base X.mg c P) (hr : Room (k + 3) X.A) (hm : X.mg "any" = none) (hN : X.N.Nodup) (hi : EI X b tg iter wi fi) (ok : BlkOk X.N X.env.scope scope own)
    (hg : ∀ (s : Shared) (H : Hp) (B : Around) (cl : List (Str × Addr)) (C : Addr) (code : Value) (fp : List Addr) (pn : List (Addr × Obj)), Room k B → EG (Gx.genC X s H B (genEnv scope cl C code builtinsNs X.env) fp pn) tg g js fg)
    (ht : ∀ (s : Shared) (H : Hp) (B : Around) (cl : List (Str × Addr)) (C : Addr) (code : Value) (fp : List Addr) (pn : List (Addr × Obj)), Room k B → ETs (Gx.genC X s H B (genEnv scope cl C code builtinsNs X.env) fp pn) ifs tt ft)
    (he : ∀ (s : Shared) (H : Hp) (B : Around) (cl : List (Str × Addr)) (C : Addr) (code : Value) (fp : List Addr) (pn : List (Addr × Obj)), Room k B → EX (Gx.genC X s H B (genEnv scope cl C code builtinsNs X.env) fp pn) true elt te fe)
    (nc : ∀ y ∈ scope.names, y.2 ≠ .cell := by decide +kernel) (hcode : X.env.code = .ref c := by rfl) (hc : X.calm = true := by rfl) (h0 : scope.names.lookup (".0" : Str) = some NameKind.local := by rfl) (hco : scope.isCoroutine = false := by rfl) (hgl : Gl X "any" := by rfl) (hj : ∀ j ∈ js, j ∈ own.map (·.2) := by decide) (hs : ∀ v, genFold iter X.env v = pure v := by intro _; rfl)
    (hse : starEach [.GeneratorExp elt [⟨tg, iter, ifs, 0⟩] scope gpos] X.env = (false, eval (.GeneratorExp elt [⟨tg, iter, ifs, 0⟩] scope gpos) X.env) :: starEach [] X.env := by rfl) :
    EX X true (.Call (.Name "any" p) [.GeneratorExp elt [⟨tg, iter, ifs, 0⟩] scope gpos] [] pos) (Gx.tGen true P wi g tt te (own.map (·.2))) (eGenN true fi fg ft fe (own.map (·.2))) := by
  have h' : Room k X.A := hr.mono (by omega)
  exact ⟨Gx.pe_anyG hr hc hgl hm TB hcode hN ok nc h0 hco hi.pe (fun s H B cl C code fp pn h => (hg s H B cl C code fp pn h).pe) (fun s H B cl C code fp pn h => (ht s H B cl C code fp pn h).pe) (fun s H B cl C code fp pn h => (he s H B cl C code fp pn h).pe) hs hse,
    gen_sound hT hi.sn (hg X.s_0 X.H_0 X.A [] 0 .none [] [] h').sn hj (ht X.s_0 X.H_0 X.A [] 0 .none [] [] h').sn (he X.s_0 X.H_0 X.A [] 0 .none [] [] h').sn⟩
theorem ex_allG {c P : Addr} {elt tg iter : Expr} {ifs : List Expr} {p pos gpos : Pos} {scope : Scope} {own : List (Str × Nat)} {js : List Nat} {wi : TI} {g : TG} {tt : TT} {te : TE} {fi : DA} {fg : DG} {ft : DT} {fe : DE} {k : Nat} (hT : Tb.T P)
    (TB : GxR.TabB X.base X.mg c P) (hr : Room (k + 3) X.A) (hm : X.mg "all" = none) (hN : X.N.Nodup) (hi : EI X b tg iter wi fi) (ok : BlkOk X.N X.env.scope scope own)
    (hg : ∀ (s : Shared) (H : Hp) (B : Around) (cl : List (Str × Addr)) (C : Addr) (code : Value) (fp : List Addr) (pn : List (Addr × Obj)), Room k B → EG (Gx.genC X s H B (genEnv scope cl C code builtinsNs X.env) fp pn) tg g js fg)
    (ht : ∀ (s : Shared) (H : Hp) (B : Around) (cl : List (Str × Addr)) (C : Addr) (code : Value) (fp : List Addr) (pn : List (Addr × Obj)), Room k B → ETs (Gx.genC X s H B (genEnv scope cl C code builtinsNs X.env) fp pn) ifs tt ft)
    (he : ∀ (s : Shared) (H : Hp) (B : Around) (cl : List (Str × Addr)) (C : Addr) (code : Value) (fp : List Addr) (pn : List (Addr × Obj)), Room k B → EX (Gx.genC X s H B (genEnv scope cl C code builtinsNs X.env) fp pn) true elt te fe)
    (nc : ∀ y ∈ scope.names, y.2 ≠ .cell := by decide +kernel) (hcode : X.env.code = .ref c := by rfl) (hc : X.calm = true := by rfl) (h0 : scope.names.lookup (".0" : Str) = some NameKind.local := by rfl) (hco : scope.isCoroutine = false := by rfl) (hgl : Gl X "all" := by rfl) (hj : ∀ j ∈ js, j ∈ own.map (·.2) := by decide) (hs : ∀ v, genFold iter X.env v = pure v := by intro _; rfl)
    (hse : starEach [.GeneratorExp elt [⟨tg, iter, ifs, 0⟩] scope gpos] X.env = (false, eval (.GeneratorExp elt [⟨tg, iter, ifs, 0⟩] scope gpos) X.env) :: starEach [] X.env := by rfl) :
    EX X true (.Call (.Name "all" p) [.GeneratorExp elt [⟨tg, iter, ifs, 0⟩] scope gpos] [] pos) (Gx.tGen false P wi g tt te (own.map (·.2))) (eGenN false fi fg ft fe (own.map (·.2))) := by
  have h' : Room k X.A := hr.mono (by omega)
  exact ⟨Gx.pe_allG hr hc hgl hm TB hcode hN ok nc h0 hco hi.pe (fun s H B cl C code fp pn h => (hg s H B cl C code fp pn h).pe) (fun s H B cl C code fp pn h => (ht s H B cl C code fp pn h).pe) (fun s H B cl C code fp pn h => (he s H B cl C code fp pn h).pe) hs hse,
    gen_sound hT hi.sn (hg X.s_0 X.H_0 X.A [] 0 .none [] [] h').sn hj (ht X.s_0 X.H_0 X.A [] 0 .none [] [] h').sn (he X.s_0 X.H_0 X.A [] 0 .none [] [] h').sn⟩
end
end Dn
end

section
namespace Dn
open PySem PySem.Spec L2
/-! ## the end: no tables, or those at cs -/
@[reducible] def noTb : Tb := ⟨fun _ => False⟩
@[reducible] def tbOf (cs : List (Addr × Addr)) : Tb := ⟨fun P => P ∈ cs.map (·.2)⟩
/-- the written part without the tables -/
def fil (K : PySem.W.Frag) (cs : List (Addr × Addr)) : PySem.W.Frag := K.filter fun q => !((cs.map (·.2)).contains q.1)
section
variable {K : PySem.W.Frag} {cs : List (Addr × Addr)}
theorem lookup_filter_ne : ∀ (K : List (Addr × Obj)) (Ps : List Addr) (a : Addr), a ∉ Ps → (K.filter fun q => !(Ps.contains q.1)).lookup a = K.lookup a
  | [], _, _, _ => rfl
  | (b, o) :: K, Ps, a, h => by
    have ih := lookup_filter_ne K Ps a h
    by_cases hb : Ps.contains b = true
    · have hab : (a == b) = false := by
        rw [beq_eq_false_iff_ne]
        intro e
        subst e
        exact h (List.contains_iff_mem.mp hb)
      rw [List.filter_cons_of_neg (by simp only [hb]; decide), List.lookup_cons, hab]
      exact ih
    · have hb' : Ps.contains b = false := by simpa using hb
      rw [List.filter_cons_of_pos (by simp only [hb']; decide), List.lookup_cons, List.lookup_cons, ih]
theorem lookup_filter_none : ∀ (K : List (Addr × Obj)) (Ps : List Addr) (a : Addr), a ∈ Ps → (K.filter fun q => !(Ps.contains q.1)).lookup a = none
  | [], _, _, _ => rfl
  | (b, o) :: K, Ps, a, h => by
    have ih := lookup_filter_none K Ps a h
    by_cases hb : Ps.contains b = true
    · rw [List.filter_cons_of_neg (by simp only [hb]; decide)]; exact ih
    · have hb' : Ps.contains b = false := by simpa using hb
      have hab : (a == b) = false := by
        rw [beq_eq_false_iff_ne]
        intro e
        subst e
        exact hb (List.contains_iff_mem.mpr h)
      rw [List.filter_cons_of_pos (by simp only [hb']; decide), List.lookup_cons, hab]
      exact ih
theorem fil_look {a : Addr} (h : (cs.map (·.2)).contains a = false) : (fil K cs).lookup a = K.lookup a := lookup_filter_ne K _ a fun m => by
  rw [List.contains_iff_mem.mpr m] at h; cases h
theorem fil_none {p : Addr × Addr} (h : p ∈ cs) : (fil K cs).lookup p.2 = none := lookup_filter_none K _ p.2 (List.mem_map.mpr ⟨p, h, rfl⟩)
theorem fil_in {h : Heap} (X : K.In h) : (fil K cs).In h := fun a o e => by
  by_cases hc : (cs.map (·.2)).contains a = true
  · have := lookup_filter_none K (cs.map (·.2)) a (List.contains_iff_mem.mp hc)
    unfold fil at e
    rw [this] at e; cases e
  · rw [fil_look (by simpa using hc)] at e
    exact X a o e
theorem fil_ns {a : Addr} {x : Str} {r : Option (Option Value)} (e : PySem.W.nsIn K a x = r) (h : (cs.map (·.2)).contains a = false) : PySem.W.nsIn (fil K cs) a x = r := by
  rw [← e]; unfold PySem.W.nsIn; rw [fil_look h]
theorem fil_lk {a : Addr} {o : Option Obj} (e : K.lookup a = o) (h : (cs.map (·.2)).contains a = false) : (fil K cs).lookup a = o := by rw [fil_look h]; exact e
theorem fil_code {c : Addr} {q : Str} (e : PySem.W.codeIn K (.ref c) q = true) (h : (cs.map (·.2)).contains c = false) : PySem.W.codeIn (fil K cs) (.ref c) q = true := by
  rw [← e]; unfold PySem.W.codeIn; simp only [fil_look h]
theorem fil_keep {a : Addr} {oc : Value} {od : Option Addr} {fd : FuncData} {sl : Array (Option Value)} (e : K.lookup a = some ⟨oc, od, .func fd, sl⟩) (h : (cs.map (·.2)).contains a = false) : PySem.W.keepIn (fil K cs) (.ref a) = true := by
  unfold PySem.W.keepIn; simp only [fil_look h, e]
def tabP : Obj → Option Addr
  | ⟨_, _, .fields vs, _⟩ => (match (vs[11]? : Option Value) with
    | some (.ref P) => some P
    | _ => none)
  | _ => none
/-- a code object and its table -/
def hdB (K : PySem.W.Frag) (p : Addr × Addr) : Bool := PySem.W.codeHdIn K p.1 p.2 && (match K.lookup p.2 with | some ⟨.none, none, .fields vs, sl⟩ => vs.isEmpty && sl.isEmpty | _ => false)
theorem hdB_tab {p : Addr × Addr} (h : hdB K p = true) : PySem.W.codeHdIn K p.1 p.2 = true ∧ K.lookup p.2 = some { cls := .none, data := .fields #[] } := by
  unfold hdB at h
  rw [Bool.and_eq_true] at h
  refine ⟨h.1, ?_⟩
  have h2 := h.2
  split at h2
  · rename_i vs sl e
    rw [Bool.and_eq_true] at h2
    rw [e, Array.isEmpty_iff.mp h2.1, Array.isEmpty_iff.mp h2.2]
  · cases h2
theorem law_fil {l : PySem.W.OpenLaw} {w : World} {k : Nat} {mg : Str → Option Value} {fa : Addr} {h : Heap} (X : K.In h) (hcs : ∀ p ∈ cs, hdB K p = true)
    (F : ∃ fd : FuncData, (∀ (s : Shared) (v : Value), BindsTo s fd ⟨[v], []⟩ [("script", v)]) ∧ ∀ base : Heap, (fil K cs).In base → base.Ns mainGlobals mg → (∀ p ∈ cs, GxR.TabB base mg p.1 p.2) → FnOk l.prog w (fil K cs) mg base CX0 k fa fd ["script"] (@spLaw (tbOf cs) (fil K cs))) :
    ∃ K' : PySem.W.Frag, K'.In h ∧ LamX.LawAtS l w K' CX0 k 63 "script" mg fa h := by
  obtain ⟨fd, hb, hF⟩ := F
  refine ⟨fil K cs, fil_in X, fd, cs, _, fun p hp => X _ _ (hdB_tab (hcs p hp)).2, fun p hp => fil_none hp, fun p hp => PySem.W.codeHd_of_K X (hdB_tab (hcs p hp)).1, hb, fun H a ns hl _ hT hS => ?_, fun base K1 N TB => hF base K1 N fun p hp => let t := TB p hp; ⟨t.code, t.bm, t.gP⟩⟩
  refine ⟨a, ns, rfl, hS, hl, fun P hP => ?_, fun _ => rfl⟩
  obtain ⟨p, hp, e⟩ := List.mem_map.mp hP
  exact ⟨#[], by rw [← e]; exact hT p hp, by first | trivial | decide | (intro x hx; cases hx)⟩
end
/-- the end of a law whose defs have tables at cs: the tables are told by the top -/
theorem walk_tab {l : PySem.W.OpenLaw} {k : Nat} {q : Program} {loose : List Str} {XP : (Str → Option Value) → Heap → Prop} {YP : World → Heap → Prop} {d : DefRec} {K : Params → PySem.W.Frag}
    (hn : l.most = some 63) (hdf : d.params.defaults = []) (hr : Room k callerA) (hY : ∀ (w : World) (h : Heap), YP w h → (K w.params).In h)
    (F : ∀ (w : World) (mg : Str → Option Value) (fa : Addr) (h : Heap), (K w.params).In h → h.Ns mainGlobals mg → mg d.name = some (.ref fa) →
      ∃ cs : List (Addr × Addr), (∀ p ∈ cs, (∃ x dr, (PyProof.Rows.recsOf q).find? (fun e => e.name == x) = some dr ∧ PySem.W.tabIn (K w.params) x = some p) ∧ (K w.params).lookup p.2 = none) ∧
        ∃ fd : FuncData, (∀ (s : Shared) (u : Value), BindsTo s fd ⟨[u], []⟩ [("script", u)]) ∧ ∀ base : Heap, (K w.params).In base → base.Ns mainGlobals mg → (∀ p ∈ cs, GxR.TabB base mg p.1 p.2) → FnOk l.prog w (K w.params) mg base CX0 k fa fd ["script"] (@spLaw (tbOf cs) (K w.params))) :
    PySem.W.WalkO q loose XP YP l.row.toRowW d [] (fun f vs => PySem.call f vs) := by
  refine Att.attach_callB hn hdf fun w s₀ s₁ mg mb fa o pm cd doc a vs ns G Y ho hd hcd hmg hobj hints hlen hbits hg => ?_
  have KX := hY w _ Y
  obtain ⟨cs, hcs, fd, hb, hF⟩ := F w mg fa _ KX G.T.g hmg
  have tab : ∀ p ∈ cs, PySem.W.CodeHd s₁.heap p.1 p.2 ∧ s₁.heap.get? p.2 = some { cls := .none, data := .fields #[] } := fun p hp => by
    obtain ⟨⟨x, dr, h1, h2⟩, _⟩ := hcs p hp
    exact PySem.W.tab_of G.T KX h1 h2
  refine LamX.law_callTs (CX := CX0) (sp := @spLaw (tbOf cs) (K w.params)) KX G.T.g G.T.b G.T.builtins G.T.nolimit hg (fun p hp => (tab p hp).2) (fun p hp => (hcs p hp).2) (fun p hp => (tab p hp).1) G.T.bmain hobj hints (Nat.le_trans hlen (by decide)) hr (fun base K1 N TB => hF base K1 N fun p hp => let t := TB p hp; ⟨t.code, t.bm, t.gP⟩) hb (fun H hH hS => ?_) fun H e s' z => z
  refine ⟨a, ns, rfl, hS, hlen, fun P hP => ?_, fun _ => rfl⟩
  obtain ⟨p, hp, e⟩ := List.mem_map.mp hP
  exact ⟨#[], by rw [← e]; exact hH p hp, by trivial⟩
end Dn
end

section
namespace Dn
open PySem PySem.Spec L2
variable [Tb]
/-! ## min, max of a list or tuple of alike data -/
/-- alike data, none None, not deep -/
def bestOk (xs : List D) : Bool := PyData.plainAll xs && decide (PyData.depthAll xs ≤ 60) && xs.all (fun d => xs.all fun e => PySem.W.alike d e) && xs.all notNon
def bestD (mx : Bool) (x : D) (xs : List D) : D := if mx = true then PySem.W.maxD x xs else PySem.W.minD x xs
theorem bestOk_h {xs : List D} (h : bestOk xs = true) : PyData.plainAll xs = true ∧ PyData.depthAll xs ≤ 60 ∧ PySem.W.AlikeAll xs := by
  simp only [bestOk, Bool.and_eq_true, List.all_eq_true, decide_eq_true_eq] at h
  obtain ⟨⟨⟨h1, h2⟩, h3⟩, h4⟩ := h
  refine ⟨h1, h2, h3, fun x hx e => ?_⟩
  have := h4 x hx
  rw [e] at this
  cases this
def rBest (K : PySem.W.Frag) (mx : Bool) : List V → Hp → VK → Prop := fun xs H Q => ∃ (a : Addr) (bs : List (D × V)) (x : D) (ds : List D), xs = [.ref a] ∧ (SqL K H a (bs.map Prod.snd) ∨ SqT K H a (bs.map Prod.snd)) ∧ (∀ b ∈ bs, Dp K H b.2 b.1) ∧ bs.map Prod.fst = x :: ds ∧ bestOk (x :: ds) = true ∧
  ∀ b ∈ bs, b.1 = bestD mx x ds → Q b.2 H
section
variable {X : Cx}
theorem readsAll_of {h : Heap} : ∀ {bs : List (D × V)} {us : List Value}, PySem.W.EachIs (fun u (b : D × V) => ∃ as, Reads h u b.1 as) us bs → ∃ as, ReadsAll h us (bs.map Prod.fst) as
  | _, _, .nil => ⟨[], by rw [List.map_nil]; exact .nil⟩
  | _, _, .cons ⟨as, r⟩ t => by
    obtain ⟨bs', q⟩ := readsAll_of t
    rw [List.map_cons]
    exact ⟨as ++ bs', .cons r q⟩
theorem each_get {R : Value → D × V → Prop} : ∀ {bs : List (D × V)} {us : List Value} {i : Nat} {u : Value}, PySem.W.EachIs R us bs → us[i]? = some u → ∃ b ∈ bs, R u b
  | _, _, _, _, .nil, e => by simp at e
  | _, _, 0, _, .cons r t, e => by
    simp at e; subst e
    exact ⟨_, List.mem_cons_self .., r⟩
  | _, _, i + 1, _, .cons r t, e => by
    rw [List.getElem?_cons_succ] at e
    obtain ⟨b, hb, q⟩ := each_get t e
    exact ⟨b, List.mem_cons_of_mem _ hb, q⟩
theorem each_and {R S : Value → D × V → Prop} : ∀ {bs : List (D × V)} {us : List Value}, PySem.W.EachIs R us bs → PySem.W.EachIs S us bs → PySem.W.EachIs (fun u b => R u b ∧ S u b) us bs
  | _, _, .nil, .nil => .nil
  | _, _, .cons r t, .cons r' t' => .cons ⟨r, r'⟩ (each_and t t')
theorem best_end {pins : List (Addr × Obj)} {s : Shared} {σ : L2.St} {H : Hp} {bs : List (D × V)} {us : List Value} {m : D} {Q : VK} (I : Inv X pins σ H s) (e : PySem.W.EachIs (fun u b => RelV b.2 u) us bs) (er : PySem.W.EachIs (fun u (b : D × V) => ∃ as, Reads s.heap u b.1 as) us bs) (q : ∀ b ∈ bs, b.1 = m → Q b.2 H)
    (i : Nat) (v : Value) (h' : Heap) (tk : Nat) (as : List Addr) (hv : us.toArray[i]? = some v) (r : Reads h' v m as) (hk : ∀ b o, s.heap.get? b = some o → h'.get? b = some o) : EP X pins σ Q v { s with heap := h', toks := tk } := by
  have hv' : us[i]? = some v := by simpa using hv
  obtain ⟨b, hb, r1, as', r2⟩ := each_get (each_and e er) hv'
  have eq := (Reads.unique (PyProof.Rows.Reads.keeps hk r2) _ _ r).1
  exact ⟨b.2, H, I.kept (t' := tk) hk, r1, q b hb eq⟩
theorem cr_minD (hc : X.calm = true) (hu : X.A.units + 64 < cLine) : CallR X (.builtin "min") (rBest X.K false) := by
  intro pins s σ H vs us Q I r h
  obtain ⟨a, bs, x, ds, rfl, hs, hd, e0, ho, q⟩ := h
  obtain ⟨_, h2, h3⟩ := bestOk_h ho
  rw [Vals.ref1 r]
  rcases hs with hs | hs
  · obtain ⟨its, rv, hl, hz⟩ := I.list hs
    have e := each_of (f := fun _ _ => True) rv
    obtain ⟨as, ra⟩ := readsAll_of (each_reads I hd e)
    rw [e0] at ra
    exact PySem.W.min_list_data (I.ok.hd hc) hl.isList (by simpa using ra) h3 (by omega) fun i v h' tk bs' hv hr hk => best_end I e (each_reads I hd e) (m := PySem.W.minD x ds) (fun b hb z => q b hb (by rw [z]; rfl)) i v h' tk bs' hv hr hk
  · obtain ⟨its, rv, hl, hz⟩ := I.tuple hs
    have e := each_of (f := fun _ _ => True) rv
    obtain ⟨as, ra⟩ := readsAll_of (each_reads I hd e)
    rw [e0] at ra
    exact PySem.W.min_tuple_data (I.ok.hd hc) hl (by simpa using ra) h3 (by omega) fun i v h' tk bs' hv hr hk => best_end I e (each_reads I hd e) (m := PySem.W.minD x ds) (fun b hb z => q b hb (by rw [z]; rfl)) i v h' tk bs' hv hr hk
theorem cr_maxD (hc : X.calm = true) (hu : X.A.units + 64 < cLine) : CallR X (.builtin "max") (rBest X.K true) := by
  intro pins s σ H vs us Q I r h
  obtain ⟨a, bs, x, ds, rfl, hs, hd, e0, ho, q⟩ := h
  obtain ⟨_, h2, h3⟩ := bestOk_h ho
  rw [Vals.ref1 r]
  rcases hs with hs | hs
  · obtain ⟨its, rv, hl, hz⟩ := I.list hs
    have e := each_of (f := fun _ _ => True) rv
    obtain ⟨as, ra⟩ := readsAll_of (each_reads I hd e)
    rw [e0] at ra
    exact PySem.W.max_list_data (I.ok.hd hc) hl.isList (by simpa using ra) h3 (by omega) fun i v h' tk bs' hv hr hk => best_end I e (each_reads I hd e) (m := PySem.W.maxD x ds) (fun b hb z => q b hb (by rw [z]; rfl)) i v h' tk bs' hv hr hk
  · obtain ⟨its, rv, hl, hz⟩ := I.tuple hs
    have e := each_of (f := fun _ _ => True) rv
    obtain ⟨as, ra⟩ := readsAll_of (each_reads I hd e)
    rw [e0] at ra
    exact PySem.W.max_tuple_data (I.ok.hd hc) hl (by simpa using ra) h3 (by omega) fun i v h' tk bs' hv hr hk => best_end I e (each_reads I hd e) (m := PySem.W.maxD x ds) (fun b hb z => q b hb (by rw [z]; rfl)) i v h' tk bs' hv hr hk
end
section
variable {K : PySem.W.Frag} {b : Bool}
def opBest (mx : Bool) : List D → Option D
  | [.list (x :: xs)] => if bestOk (x :: xs) = true then some (bestD mx x xs) else none
  | [.tuple (x :: xs)] => if bestOk (x :: xs) = true then some (bestD mx x xs) else none
  | _ => none
theorem best_mem (mx : Bool) : ∀ (xs : List D) (x : D), bestD mx x xs ∈ x :: xs := by
  have q : ∀ (f : D → D → Bool) (xs : List D) (x : D), xs.foldl (fun a y => if f y a then y else a) x ∈ x :: xs := by
    intro f xs
    induction xs with
    | nil => intro x; exact List.mem_cons_self ..
    | cons y ys ih =>
      intro x
      rw [List.foldl_cons]
      have := ih (if f y x then y else x)
      rcases List.mem_cons.mp this with e | e
      · rw [e]
        split
        · exact List.mem_cons_of_mem _ (List.mem_cons_self ..)
        · exact List.mem_cons_self ..
      · exact List.mem_cons_of_mem _ (List.mem_cons_of_mem _ e)
  intro xs x
  unfold bestD
  split
  · exact q _ xs x
  · exact q _ xs x
theorem best_zip {G H : Hp} {ι : Ix} {xs : List D} {vs : List V} (hG : ∀ a o, G a = some o → H a = some o) (l : RepL K ι G xs vs) (hp : PyData.plainAll xs = true) : ∃ bs : List (D × V), bs.map Prod.fst = xs ∧ bs.map Prod.snd = vs ∧ (∀ b ∈ bs, Dp K H b.2 b.1) ∧ ∀ b ∈ bs, Rep K ι G b.1 b.2 := by
  obtain ⟨bs, e1, e2, h⟩ := RepL.zip l
  refine ⟨bs, e1, e2, fun b hb => ?_, h⟩
  exact Rep.dp hG b.1 b.2 (plainAll_in hp (by rw [← e1]; exact List.mem_map.mpr ⟨b, hb, rfl⟩)) (h b hb)
theorem cal_best (mx : Bool) : CalS K b b (rBest K mx) (opBest mx) := by
  refine cal_one (fun ds d e => ?_) fun g0 H0 g H ω x v d Q ok st r e k => ?_
  · unfold opBest at e; split at e <;> first | exact ⟨_, rfl⟩ | cases e
  · unfold opBest at e
    split at e
    · rename_i x0 xs h; cases h
      split at e <;> cases e
      rename_i ho
      obtain ⟨a, vs, rfl, q, z, l⟩ := r.lstV ok
      obtain ⟨bs, b1, b2, b3, b4⟩ := best_zip (fun a o h => (hb_sub ok h).1) l (bestOk_h ho).1
      exact ⟨a, bs, x0, xs, rfl, .inl (by rw [b2]; exact SqL.of q), b3, b1, ho, fun p hp e => k _ g H (.refl _ _) ok (by rw [← e]; exact b4 p hp)⟩
    · rename_i x0 xs h; cases h
      split at e <;> cases e
      rename_i ho
      obtain ⟨a, vs, rfl, q, z, l⟩ := r.tupV ok
      obtain ⟨bs, b1, b2, b3, b4⟩ := best_zip (fun a o h => (hb_sub ok h).1) l (bestOk_h ho).1
      exact ⟨a, bs, x0, xs, rfl, .inr (by rw [b2]; exact q), b3, b1, ho, fun p hp e => k _ g H (.refl _ _) ok (by rw [← e]; exact b4 p hp)⟩
    · cases e
end
section
variable {X : Cx} {K : PySem.W.Frag} {b : Bool} {tA : TA} {fA : DA} {e : Expr} {p pos : Pos}
theorem ex_minL (hu : X.A.units + 64 < cLine) (hm : X.mg "min" = none) (ha : EA X b [e] tA fA) (hc : X.calm = true := by rfl) (hg : Gl X "min" := by rfl) (he : starEach [e] X.env = (false, eval e X.env) :: starEach [] X.env := by rfl) (hpl : (backTo pos (starEach [] X.env)).any (·.1) = false := by rfl) (hK : X.K = K := by rfl) :
    EX X b (.Call (.Name "min" p) [e] [] pos) (tCB (rBest K false) tA) (eCall (opBest false) fA) := by
  subst hK; exact ex_callB (cr_minD hc hu) (cal_best false) hm (by decide +kernel) ha hg (by decide) (by decide) he hpl
theorem ex_maxL (hu : X.A.units + 64 < cLine) (hm : X.mg "max" = none) (ha : EA X b [e] tA fA) (hc : X.calm = true := by rfl) (hg : Gl X "max" := by rfl) (he : starEach [e] X.env = (false, eval e X.env) :: starEach [] X.env := by rfl) (hpl : (backTo pos (starEach [] X.env)).any (·.1) = false := by rfl) (hK : X.K = K := by rfl) :
    EX X b (.Call (.Name "max" p) [e] [] pos) (tCB (rBest K true) tA) (eCall (opBest true) fA) := by
  subst hK; exact ex_callB (cr_maxD hc hu) (cal_best true) hm (by decide +kernel) ha hg (by decide) (by decide) he hpl
end
end Dn
end

section
namespace Dn
open PySem PySem.Spec L2
variable [Tb]
/-! ## a, b = x, y where some are lists of one's own -/
abbrev DV := Ro → Wd → Option (SV × Wd)
def SndV (K : PySem.W.Frag) (t : TE) (f : DV) : Prop :=
  ∀ (g0 : Gh) (H0 : Hp) (g : Gh) (H : Hp) (ρ : Ro) (ω : Wd) (σ : L2.St) (Q : VK) (s : SV) (ω' : Wd), GOk K g H ω → Step g0 H0 g H → Slots K H0 g H ρ σ → f ρ ω = some (s, ω') →
    (∀ v g' H', Step g H g' H' → GOk K g' H' ω' → s.is K H0 g' H' (some v) → (∀ xs, s = .own xs → ∃ p, v = .ref p ∧ H p = none) → Q v H') → t σ H Q
structure EVl (X : Cx) (e : Expr) (t : TE) (f : DV) : Prop where
  pe : PE X e t
  sn : SndV X.K t f
def vVal (f : DE) : DV := fun ρ ω => match f ρ ω with
  | none => none
  | some (d, ω1) => some (.val d, ω1)
def vOwn (f : DA) : DV := fun ρ ω => match f ρ ω with
  | none => none
  | some (d, ω1) => some (.own d, ω1)
section
variable {X : Cx} {e : Expr} {t : TE}
theorem ev_val {f : DE} (h : EX X true e t f) : EVl X e t (vVal f) := by
  refine ⟨h.pe, ?_⟩
  intro g0 H0 g H ρ ω σ Q s ω' ok st sl e k
  unfold vVal at e
  split at e
  · cases e
  rename_i d ω1 e1
  cases e
  exact h.sn g0 H0 g H ρ ω σ _ d ω' ok st sl e1 fun v g1 H1 s1 ok1 r1 => k v g1 H1 s1 ok1 ⟨v, rfl, r1⟩ fun xs z => nomatch z
theorem ev_own {f : DA} (h : EN X e t f) : EVl X e t (vOwn f) := by
  refine ⟨h.pe, ?_⟩
  intro g0 H0 g H ρ ω σ Q s ω' ok st sl e k
  unfold vOwn at e
  split at e
  · cases e
  rename_i d ω1 e1
  cases e
  exact h.sn g0 H0 g H ρ ω σ _ d ω' ok st sl e1 fun p vs g1 H1 s1 ok1 h1 h2 h3 h4 h5 h6 => k _ g1 H1 s1 ok1 ⟨p, vs, rfl, h2, h3, h4, st.al p h1, h5, h6⟩ fun xs z => ⟨p, rfl, h1⟩
theorem Slots.setV {K : PySem.W.Frag} {H0 HA H : Hp} {gA g : Gh} {ρ : Ro} {σ : L2.St} (hA : Slots K H0 gA HA ρ σ) (h : Slots K H0 g H ρ σ) (i : Nat) {s : SV} {v : V} (hs : s.is K H0 g H (some v)) (hf : ∀ xs, s = .own xs → ∃ p, v = .ref p ∧ HA p = none) : Slots K H0 g H (ρ.set i s) (σ.set i (some v)) := by
  cases s with
  | own xs =>
    obtain ⟨p, rfl, hp⟩ := hf xs rfl
    refine h.setOwn i hs fun j ys hj hx hz => ?_
    obtain ⟨q, ws, eq, hq, _⟩ := hA.at_ j _ _ hx hz
    cases eq
    rw [hp] at hq; cases hq
  | un => exact h.set i hs fun xs z => nomatch z
  | val d => exact h.set i hs fun xs z => nomatch z
def sParV (i j : Nat) (f h : DV) : DS := fun ρ ω => match f ρ ω with
  | none => none
  | some (s1, ω1) => match h ρ ω1 with
    | none => none
    | some (s2, ω2) => some (.nx ((ρ.set i s1).set j s2), ω2)
theorem sx_parV {i j : Nat} {x y : Str} {a c : Expr} {ta tc : TE} {fa fc : DV} {px py pt pos : Pos} {kt k2 pt2} (hN : X.N.Nodup) (ha : EVl X a ta fa) (hb : EVl X c tc fc) (hc : X.calm = true := by rfl) (hi : X.N[i]? = some x := by rfl) (hj : X.N[j]? = some y := by rfl) (hij : i ≠ j := by decide)
    (hx : X.env.scope.names.lookup x = some .local := by rfl) (hy : X.env.scope.names.lookup y = some .local := by rfl) (he : starEach [a, c] X.env = (false, eval a X.env) :: starEach [c] X.env := by rfl) (he2 : starEach [c] X.env = (false, eval c X.env) :: starEach [] X.env := by rfl)
    (hw : swappedStores [.Tuple [.Name x px, .Name y py] kt pt] (.Tuple [a, c] k2 pt2) X.env = pure (some [x, y]) := by rfl)
    (hs : swapsWithSole [.Tuple [.Name x px, .Name y py] kt pt] (.Tuple [a, c] k2 pt2) pos.line X.env = pure false := by rfl) :
    SX X (.Assign [.Tuple [.Name x px, .Name y py] kt pt] (.Tuple [a, c] k2 pt2) pos) (tPar i j (tCons ta (tCons tc tNil))) (sParV i j fa fc) := by
  refine ⟨ps_par hc hN hi hj hij hx hy (pa_cons ha.pe (pa_cons hb.pe pa_nil he2) he) hw hs, ?_⟩
  intro g0 H0 g H ρ ω σ E o ω' ok st sl e k
  unfold sParV at e
  split at e
  · cases e
  rename_i s1 ω1 e1
  split at e
  · cases e
  rename_i s2 ω2 e2
  cases e
  refine ha.sn g0 H0 g H ρ ω σ _ _ ω1 ok st sl e1 fun v g1 H1 st1 ok1 r1 f1 => ?_
  have sl1 := sl.step st1 ok1
  refine hb.sn g0 H0 g1 H1 ρ ω1 σ _ _ _ ok1 (st.trans st1) sl1 e2 fun w g2 H2 st2 ok2 r2 f2 => ?_
  refine ⟨v, w, rfl, ?_⟩
  have a1 := Slots.setV sl sl1 i r1 f1
  have a2 := Slots.setV a1 (a1.step st2 ok2) j r2 f2
  exact k _ g2 H2 ⟨ok2, st.trans (st1.trans st2), a2, (st1.trans st2).le⟩
end
end Dn
end

section
namespace Dn
open PySem PySem.Spec L2 PyProof.Rows
variable [Tb]
/-! ## t[::-1] of a tuple -/
section
variable {prog : Program} {w : World} {A : Around} {E : Value → Shared → Prop} {s : Shared}
theorem rev_adj (n : Nat) : Builtin.Slice.sliceAdjust none none (-1) (n : Int) = ((n : Int) - 1, -1) := by
  simp [Builtin.Slice.sliceAdjust]
theorem rev_pl (n : Nat) : Builtin.Slice.slicePlaces ((n : Int) - 1) (-1) (-1) = n := by
  unfold Builtin.Slice.slicePlaces
  rw [if_neg (by decide)]
  by_cases h : (n : Int) - 1 > -1
  · rw [if_pos h]
    have : ((n : Int) - 1 - -1 - 1) / (- -1) = n - 1 := by
      rw [show (- -1 : Int) = 1 from by decide, Int.ediv_one]; omega
    rw [this]; omega
  · rw [if_neg h]; omega
theorem applied_rev {sl : Addr} {vk : Value} {n : Nat} {Q : Int × Int × Nat → Shared → Prop} (hs : s.heap.IsSliceOf sl .none .none vk) (pk : IsPart vk (some (-1))) (h : Q ((n : Int) - 1, -1, n) s) : wpAny (model prog w) A (Builtin.Slice.sliceApplied (.ref sl) (pure (n : Int))) Q E s := by
  obtain ⟨os, hos, hcs, hds⟩ := id hs
  unfold Builtin.Slice.sliceApplied Builtin.Slice.sliceFields
  refine wpAny_bind (wpAny_bind (wpAny_field hos hds (x := .none) rfl (wpAny_bind (wpAny_field hos hds (x := .none) rfl (wpAny_bind (wpAny_field hos hds (x := vk) rfl (wpAny_pure ?_)))))))
  refine wpAny_bind (HT.slicePart_ pk ?_)
  show wpAny _ _ (if ((-1 : Int) == 0) = true then _ else _) _ _ s
  rw [if_neg (by decide)]
  refine wpAny_bind (slicePart_none (wpAny_bind (slicePart_none (wpAny_bind (wpAny_pure ?_)))))
  show wpAny _ _ (match Builtin.Slice.sliceAdjust none none (-1) (n : Int) with | (lo, hi) => pure (lo, (-1 : Int), Builtin.Slice.slicePlaces lo hi (-1))) _ _ s
  rw [rev_adj]
  show wpAny _ _ (pure ((n : Int) - 1, (-1 : Int), Builtin.Slice.slicePlaces ((n : Int) - 1) (-1) (-1))) _ _ s
  rw [rev_pl]
  exact wpAny_pure h
theorem fm_congr {α β : Type} {f g : α → Option β} : ∀ {l : List α}, (∀ x ∈ l, f x = g x) → l.filterMap f = l.filterMap g
  | [], _ => rfl
  | x :: l, h => by
    have ih := fm_congr (l := l) fun y hy => h y (List.mem_cons_of_mem _ hy)
    rw [List.filterMap_cons, List.filterMap_cons, h x (List.mem_cons_self ..), ih]
theorem rev_pick (xs : Array Value) : ((List.range xs.size).filterMap fun (k : Nat) => xs[((xs.size : Int) - 1 + (k : Int) * -1).toNat]?).toArray = xs.toList.reverse.toArray := by
  have e : ((List.range xs.size).filterMap fun (k : Nat) => xs[((xs.size : Int) - 1 + (k : Int) * -1).toNat]?) = ((List.range xs.size).map fun k => xs.size - 1 - k).filterMap (xs[·]?) := by
    rw [List.filterMap_map]
    refine fm_congr fun k hk => ?_
    have := List.mem_range.mp hk
    show xs[((xs.size : Int) - 1 + (k : Int) * -1).toNat]? = xs[xs.size - 1 - k]?
    congr 1
    omega
  rw [e, PySem.W.krv_range, List.filterMap_reverse, PySem.W.krv_all]
theorem getItem_rev {t sl : Addr} {items : Array Value} {vk : Value} {Q : Value → Shared → Prop} (ht : IsTup s.heap t items) (hs : s.heap.IsSliceOf sl .none .none vk) (pk : IsPart vk (some (-1)))
    (h : Q (.ref s.heap.objs.size) { s with heap := s.heap.push { cls := .type "tuple", data := .seq items.toList.reverse.toArray } }) (hsz : items.size ≤ sizeLine) : wpAny (model prog w) A (getItem (.ref t) (.ref sl)) Q E s := by
  have htake : sizeOk (.seq items.toList.reverse.toArray) := by
    show items.toList.reverse.toArray.size ≤ sizeLine
    simpa using hsz
  obtain ⟨os, hos, hcs, hds⟩ := id hs
  have hTs : s.TypeIs (.ref sl) "slice" := ⟨os, hos, hcs⟩
  unfold getItem
  try with_reducible refine wpAny_holding ?_
  first | refine wpAny_bind (wpAny_pure ?_) | skip
  refine wpAny_bind (wpAny_sequenceKey ht.typeIs (by decide) ?_)
  refine wpAny_bind (wpAny_callSpecial?_slot (name := Str.ofString "__getitem__") ht.typeIs PyProof.Rows.slot_tuple_getitem
    (wpAny_call_entry PyProof.Rows.slot_tuple_getitem ht.typeIs entry_tuple_getitem ?_ (args_tuple_getitem _ _)))
  show wpAny _ _ (Builtin.Tuple.tupleItemsOf (.ref t) >>= _) _ _ s
  refine wpAny_bind (tupleItemsOf_ ht (wpAny_bind (wpAny_typeOf hTs ?_)))
  rw [if_pos (by decide)]
  refine wpAny_bind (applied_rev hs pk ?_)
  show wpAny _ _ (if (((items.size : Int) - 1 == 0) && (-1 : Int) == 1 && (items.size == items.size)) = true then _ else _) _ _ s
  rw [if_neg (by simp), rev_pick]
  first
    | exact wpAny_bind (m := Builtin.Tuple.tupleExact _) (wpAny_newObj_type (wpAny_pure ⟨_, rfl, wpAny_pure h⟩) htake)
    | exact wpAny_bind (m := Builtin.Tuple.tupleExact _) (wpAny_newObj_type (wpAny_bind (wpAny_pure (wpAny_pure ⟨_, rfl, wpAny_pure h⟩))) htake)
    | exact wpAny_bind (wpAny_bind (m := Builtin.Tuple.tupleExact _) (wpAny_newObj_type (wpAny_pure (wpAny_pure ⟨_, rfl, wpAny_pure h⟩)) htake))
    | exact wpAny_bind (wpAny_bind (m := Builtin.Tuple.tupleExact _) (wpAny_newObj_type (wpAny_pure ⟨_, rfl, wpAny_pure h⟩) htake))
end
def rRev (K : PySem.W.Frag) : V → Hp → VK → Prop := fun x H Q => ∃ a xs, x = .ref a ∧ SqT K H a xs ∧ ∀ p, H p = none → Q (.ref p) (upd H p (.tup xs.reverse))
def tRev (K : PySem.W.Frag) (te ts : TE) : TE := fun σ H Q => te σ H fun x H1 => ts σ H1 fun y H2 => y = .int (-1) ∧ rRev K x H2 Q
section
variable {X : Cx} {e st : Expr} {te ts : TE} {pos p2 : Pos}
theorem vals_reverse : ∀ {xs : List V} {us : List Value}, Vals xs us → Vals xs.reverse us.reverse
  | _, _, .nil => by simp only [List.reverse_nil]; exact .nil
  | _, _, .cons r t => by
    rw [List.reverse_cons, List.reverse_cons]
    exact Vals.append (vals_reverse t) (.cons r .nil)
theorem pe_rev (he : PE X e te) (hs : PE X st ts) (hsub : ∀ v r : Value, subscripted (.Slice none none (some st) p2) false v r = operate [v, r] (getItem v r) := by intro _ _; rfl) : PE X (.Subscript e (.Slice none none (some st) p2) pos) (tRev X.K te ts) := by
  refine ⟨fun pins s σ H Q I h => ?_⟩
  refine Subscript_ (thn (he.run pins s σ H _ I h) fun v s1 ⟨x, H1, I1, r1, q1⟩ => ?_)
  refine wpAny_Slice (wpAny_evalPart_none (wpAny_evalPart_none (evalPart_some_step (thn (hs.run pins s1 σ H1 _ I1 q1) fun vk s3 ⟨y, H3, I3, rk, ey, q3⟩ => ?_))))
  subst ey
  obtain ⟨tk, rfl⟩ := rk
  obtain ⟨a, xs, rfl, hx, q⟩ := q3
  obtain rfl : v = .ref a := r1
  have I4 : Inv X pins σ H3 { s3 with heap := s3.heap.push { cls := .type "slice", data := .fields #[.none, .none, .int (-1) tk] } } := I3.kept (t' := s3.toks) fun b ob q => Heap.get?_push_of_some _ q
  obtain ⟨its, r, ht, hz⟩ := I4.tuple hx
  have hlen : its.toArray.size = xs.length := by rw [List.size_toArray]; exact r.length.symm
  show wpAny (model X.prog X.w) X.A (subscriptTail e (.Slice none none (some st) p2) (.ref a) (.ref s3.heap.objs.size)) (EP X pins σ Q) X.xe { s3 with heap := s3.heap.push { cls := .type "slice", data := .fields #[.none, .none, .int (-1) tk] } }
  refine tail_any (ops := [.ref a, .ref s3.heap.objs.size]) ht.typeIs PyProof.Rows.slot_tuple_getitem.lookup (getItem_rev ht (Heap.IsSliceOf.new ..) (.int (-1) tk) ?_ (by rw [hlen]; exact hz)) (hsub _ _)
  refine ⟨.ref _, _, I4.laid (o := .tup xs.reverse) (fun b ob q => Heap.get?_push_of_some _ q) (Nat.le_refl _) ?_, rfl, q _ (I4.hok.fresh (Nat.le_refl _))⟩
  exact ⟨by rw [List.length_reverse]; exact hz, _, vals_reverse r, IsTup.new _ _⟩
end
def opRev : D → Option D
  | .tuple xs => some (.tuple xs.reverse)
  | _ => none
section
variable {X : Cx} {K : PySem.W.Frag} {b : Bool} {e st : Expr} {te ts : TE} {fe fs : DE} {pos p2 : Pos}
theorem ex_rev (he : EX X b e te fe) (hs : EX X true st ts fs) (hv : ∀ ρ ω, fs ρ ω = some (.int (-1), ω) := by intro _ _; rfl) (hsub : ∀ v r : Value, subscripted (.Slice none none (some st) p2) false v r = operate [v, r] (getItem v r) := by intro _ _; rfl) (hK : X.K = K := by rfl) :
    EX X b (.Subscript e (.Slice none none (some st) p2) pos) (tRev K te ts) (eUn opRev fe) := by
  subst hK
  refine ⟨pe_rev he.pe hs.pe hsub, ?_⟩
  intro g0 H0 g H ρ ω σ Q d ω' ok st' sl e k
  unfold eUn at e
  split at e
  · cases e
  rename_i x ω1 e1
  split at e
  · cases e
  rename_i z ez
  cases e
  refine he.sn g0 H0 g H ρ ω σ _ x _ ok st' sl e1 fun v g1 H1 s1 ok1 r1 => ?_
  refine hs.sn g0 H0 g1 H1 ρ _ σ _ _ _ ok1 (st'.trans s1) (sl.step s1 ok1) (hv ρ _) fun w g2 H2 s2 ok2 r2 => ⟨r2.intV, ?_⟩
  have r1' := r1.mono s2
  unfold opRev at ez
  split at ez
  · rename_i xs
    cases ez
    obtain ⟨a, vs, rfl, q, z, l⟩ := r1'.tupV ok2
    refine ⟨a, vs, rfl, q, fun p hp => ?_⟩
    obtain ⟨s3, ok3⟩ := alloc ok2 hp (o := .tup vs.reverse) rfl
    exact k _ _ _ ((s1.trans s2).trans s3) ok3 (RB.newTup (b := b) ok2 ((st'.trans s1).trans s2) hp (by rw [List.length_reverse]; exact z) (RepL.reverse l))
  · cases ez
end
end Dn
end

section
namespace Dn
open PySem PySem.Spec L2
local instance : Tb := noTb
/-! ## the combinators, applied -/
@[simp] theorem eVar_ap (i : Nat) (ρ : Ro) (ω : Wd) : eVar i ρ ω = (match ρ[i]? with
  | some (.val d) => some (d, ω)
  | _ => none) := rfl
@[simp] theorem eVarB_ap (i : Nat) (ρ : Ro) (ω : Wd) : eVarB i ρ ω = (match ρ[i]? with
  | some (.own xs) => some (.list xs, ω)
  | _ => none) := rfl
@[simp] theorem eC_ap (d : D) (ρ : Ro) (ω : Wd) : eC d ρ ω = (some (d, ω)) := rfl
@[simp] theorem eBin_ap (op : D → D → Option D) (f g : DE) (ρ : Ro) (ω : Wd) : eBin op f g ρ ω = (match f ρ ω with
  | none => none
  | some (x, ω1) => match g ρ ω1 with
    | none => none
    | some (y, ω2) => match op x y with
      | none => none
      | some z => some (z, ω2)) := rfl
@[simp] theorem tOfE_ap (f : DE) (ρ : Ro) (ω : Wd) : tOfE f ρ ω = (match f ρ ω with
  | some (.bool c, ω1) => some (c, ω1)
  | _ => none) := rfl
@[simp] theorem eChain_ap (op op' : D → D → Option D) (f g h : DE) (ρ : Ro) (ω : Wd) : eChain op op' f g h ρ ω = (match f ρ ω with
  | none => none
  | some (x, ω1) => match g ρ ω1 with
    | none => none
    | some (y, ω2) => match op x y with
      | some (.bool true) => (match h ρ ω2 with
        | none => none
        | some (z, ω3) => match op' y z with
          | some (.bool c) => some (.bool c, ω3)
          | _ => none)
      | some (.bool false) => some (.bool false, ω2)
      | _ => none) := rfl
@[simp] theorem eUn_ap (op : D → Option D) (f : DE) (ρ : Ro) (ω : Wd) : eUn op f ρ ω = (match f ρ ω with
  | none => none
  | some (x, ω1) => match op x with
    | none => none
    | some z => some (z, ω1)) := rfl
@[simp] theorem tAndD_ap (f g : DT) (ρ : Ro) (ω : Wd) : tAndD f g ρ ω = (match f ρ ω with
  | none => none
  | some (c, ω1) => if c = true then g ρ ω1 else some (false, ω1)) := rfl
@[simp] theorem tOrD_ap (f g : DT) (ρ : Ro) (ω : Wd) : tOrD f g ρ ω = (match f ρ ω with
  | none => none
  | some (c, ω1) => if c = true then some (true, ω1) else g ρ ω1) := rfl
@[simp] theorem tNotD_ap (f : DT) (ρ : Ro) (ω : Wd) : tNotD f ρ ω = (match f ρ ω with
  | none => none
  | some (c, ω1) => some (!c, ω1)) := rfl
@[simp] theorem eIf_ap (c : DT) (f g : DE) (ρ : Ro) (ω : Wd) : eIf c f g ρ ω = (match c ρ ω with
  | none => none
  | some (c, ω1) => if c = true then f ρ ω1 else g ρ ω1) := rfl
@[simp] theorem eAnd_ap (f g : DE) (ρ : Ro) (ω : Wd) : eAnd f g ρ ω = (match f ρ ω with
  | some (.bool c, ω1) => if c = true then g ρ ω1 else some (.bool false, ω1)
  | _ => none) := rfl
@[simp] theorem eOr_ap (f g : DE) (ρ : Ro) (ω : Wd) : eOr f g ρ ω = (match f ρ ω with
  | some (.bool c, ω1) => if c = true then some (.bool true, ω1) else g ρ ω1
  | _ => none) := rfl
@[simp] theorem eNot_ap (f : DE) (ρ : Ro) (ω : Wd) : eNot f ρ ω = (match f ρ ω with
  | some (.bool c, ω1) => some (.bool (!c), ω1)
  | _ => none) := rfl
@[simp] theorem aNil_ap  (ρ : Ro) (ω : Wd) : aNil  ρ ω = (some ([], ω)) := rfl
@[simp] theorem aCons_ap (f : DE) (g : DA) (ρ : Ro) (ω : Wd) : aCons f g ρ ω = (match f ρ ω with
  | none => none
  | some (x, ω1) => match g ρ ω1 with
    | none => none
    | some (xs, ω2) => some (x :: xs, ω2)) := rfl
@[simp] theorem eTup_ap (a : DA) (ρ : Ro) (ω : Wd) : eTup a ρ ω = (match a ρ ω with
  | none => none
  | some (ds, ω1) => some (.tuple ds, ω1)) := rfl
@[simp] theorem eLst_ap (a : DA) (ρ : Ro) (ω : Wd) : eLst a ρ ω = (match a ρ ω with
  | none => none
  | some (ds, ω1) => some (.list ds, ω1)) := rfl
@[simp] theorem eDown_ap (f : DE) (ρ : Ro) (ω : Wd) : eDown f ρ ω = (match f ρ ω with
  | none => none
  | some (d, ω1) => if noL d = true then some (d, ω1) else none) := rfl
@[simp] theorem eIxOwn_ap (i : Nat) (f : DE) (ρ : Ro) (ω : Wd) : eIxOwn i f ρ ω = (match ρ[i]? with
  | some (.own xs) => (match f ρ ω with
    | some (.int j, ω1) => (match atI xs j with
      | some d => some (d, ω1)
      | none => none)
    | _ => none)
  | _ => none) := rfl
@[simp] theorem iLst_ap (f : DE) (ρ : Ro) (ω : Wd) : iLst f ρ ω = (match f ρ ω with
  | some (.list ds, ω1) => some (ds, ω1)
  | _ => none) := rfl
@[simp] theorem iTpl_ap (f : DE) (ρ : Ro) (ω : Wd) : iTpl f ρ ω = (match f ρ ω with
  | some (.tuple ds, ω1) => some (ds, ω1)
  | _ => none) := rfl
@[simp] theorem iOwn_ap (i : Nat) (ρ : Ro) (ω : Wd) : iOwn i ρ ω = (match ρ[i]? with
  | some (.own xs) => some (xs, ω)
  | _ => none) := rfl
@[simp] theorem iRange_ap (a : DA) (ρ : Ro) (ω : Wd) : iRange a ρ ω = (match a ρ ω with
  | some ([.int j], ω1) => if rgOk 0 j = true then some (rgD 0 j, ω1) else none
  | some ([.int i, .int j], ω1) => if rgOk i j = true then some (rgD i j, ω1) else none
  | _ => none) := rfl
@[simp] theorem gSet_ap (i : Nat) (d : D) (ρ : Ro) : gSet i d ρ = (some (ρ.set i (.val d))) := rfl
@[simp] theorem gTupD_ap (h : List D → Ro → Option Ro) (d : D) (ρ : Ro) : gTupD h d ρ = (match d with
  | .tuple ds => h ds ρ
  | _ => none) := rfl
@[simp] theorem eLcN_ap (fi : DA) (fg : DG) (ft : DT) (fe : DE) (vs : List Nat) (ρ : Ro) (ω : Wd) : eLcN fi fg ft fe vs ρ ω = (match fi ρ ω with
  | none => none
  | some (ds, ω1) => lcD fg ft fe (wipeR ρ vs) ds ω1) := rfl
@[simp] theorem eOfN_ap (f : DA) (ρ : Ro) (ω : Wd) : eOfN f ρ ω = (match f ρ ω with
  | none => none
  | some (ds, ω1) => some (.list ds, ω1)) := rfl
@[simp] theorem tYesD_ap  (ρ : Ro) (ω : Wd) : tYesD  ρ ω = (some (true, ω)) := rfl
@[simp] theorem eCall_ap (op : List D → Option D) (a : DA) (ρ : Ro) (ω : Wd) : eCall op a ρ ω = (match a ρ ω with
  | none => none
  | some (ds, ω1) => match op ds with
    | none => none
    | some d => some (d, ω1)) := rfl
@[simp] theorem aList_ap (f : DA) (ρ : Ro) (ω : Wd) : aList f ρ ω = (match f ρ ω with
  | some ([.list xs], ω1) => some (xs, ω1)
  | some ([.tuple xs], ω1) => some (xs, ω1)
  | _ => none) := rfl
@[simp] theorem eFun_ap (f : List D → Wd → Option (D × Wd)) (a : DA) (ρ : Ro) (ω : Wd) : eFun f a ρ ω = (match a ρ ω with
  | none => none
  | some (ds, ω1) => f ds ω1) := rfl
@[simp] theorem eFunP_ap (f : List D → Wd → Option (D × Wd)) (a : DA) (ρ : Ro) (ω : Wd) : eFunP f a ρ ω = (match a ρ ω with
  | none => none
  | some (ds, ω1) => match f ds ⟨false, []⟩ with
    | none => none
    | some (d, _) => some (d, ω1)) := rfl
@[simp] theorem oNone_ap  (ρ : Ro) (ω : Wd) : oNone  ρ ω = (some (none, ω)) := rfl
@[simp] theorem oSome_ap (f : DE) (ρ : Ro) (ω : Wd) : oSome f ρ ω = (match f ρ ω with
  | some (.int i, ω1) => some (some i, ω1)
  | _ => none) := rfl
@[simp] theorem eSl_ap (op : D → Option Int → Option Int → Option D) (f : DE) (l h : DO) (ρ : Ro) (ω : Wd) : eSl op f l h ρ ω = (match f ρ ω with
  | none => none
  | some (x, ω1) => match l ρ ω1 with
    | none => none
    | some (lo, ω2) => match h ρ ω2 with
      | none => none
      | some (hi, ω3) => match op x lo hi with
        | none => none
        | some d => some (d, ω3)) := rfl
@[simp] theorem eIxOb_ap (f h : DE) (ρ : Ro) (ω : Wd) : eIxOb f h ρ ω = (match f ρ ω with
  | none => none
  | some (x, ω1) => match obN x with
    | none => none
    | some n => match h ρ ω1 with
      | some (.int i, ω2) => (match ω2.objs[n]? with
        | some (.lst xs) => (match atI xs i with
          | some d => some (d, ω2)
          | none => none)
        | none => none)
      | _ => none) := rfl
@[simp] theorem eLenOb_ap (f : DE) (ρ : Ro) (ω : Wd) : eLenOb f ρ ω = (match f ρ ω with
  | none => none
  | some (x, ω1) => match obN x with
    | none => none
    | some n => match ω1.objs[n]? with
      | some (.lst xs) => some (.int xs.length, ω1)
      | none => none) := rfl
@[simp] theorem ePopOb_ap (f : DE) (i : Int) (ρ : Ro) (ω : Wd) : ePopOb f i ρ ω = (match f ρ ω with
  | none => none
  | some (x, ω1) => match obN x with
    | none => none
    | some n => match ω1.objs[n]? with
      | some (.lst xs) => (match xs[i.toNat]? with
        | some d => if 0 ≤ i ∧ i < 2 ^ 63 then some (d, ⟨ω1.live, ω1.objs.set n (.lst (xs.eraseIdx i.toNat))⟩) else none
        | none => none)
      | none => none) := rfl
@[simp] theorem sNext_ap  (ρ : Ro) (ω : Wd) : sNext  ρ ω = (some (.nx ρ, ω)) := rfl
@[simp] theorem sSeq_ap (f h : DS) (ρ : Ro) (ω : Wd) : sSeq f h ρ ω = (match f ρ ω with
  | some (.nx ρ1, ω1) => h ρ1 ω1
  | r => r) := rfl
@[simp] theorem sBreak_ap  (ρ : Ro) (ω : Wd) : sBreak  ρ ω = (some (.bk ρ, ω)) := rfl
@[simp] theorem sCont_ap  (ρ : Ro) (ω : Wd) : sCont  ρ ω = (some (.ct ρ, ω)) := rfl
@[simp] theorem sDrop_ap (f : DE) (ρ : Ro) (ω : Wd) : sDrop f ρ ω = (match f ρ ω with
  | none => none
  | some (_, ω1) => some (.nx ρ, ω1)) := rfl
@[simp] theorem sRet_ap (f : DE) (ρ : Ro) (ω : Wd) : sRet f ρ ω = (match f ρ ω with
  | none => none
  | some (d, ω1) => some (.rt d, ω1)) := rfl
@[simp] theorem sRetN_ap  (ρ : Ro) (ω : Wd) : sRetN  ρ ω = (some (.rt .none, ω)) := rfl
@[simp] theorem sIf_ap (c : DT) (f h : DS) (ρ : Ro) (ω : Wd) : sIf c f h ρ ω = (match c ρ ω with
  | none => none
  | some (c, ω1) => if c = true then f ρ ω1 else h ρ ω1) := rfl
@[simp] theorem sAsg_ap (f : DE) (t : DG) (ρ : Ro) (ω : Wd) : sAsg f t ρ ω = (match f ρ ω with
  | none => none
  | some (d, ω1) => match t d ρ with
    | none => none
    | some ρ1 => some (.nx ρ1, ω1)) := rfl
@[simp] theorem sSet_ap (i : Nat) (f : DE) (ρ : Ro) (ω : Wd) : sSet i f ρ ω = (match f ρ ω with
  | none => none
  | some (d, ω1) => some (.nx (ρ.set i (.val d)), ω1)) := rfl
@[simp] theorem sOwn_ap (i : Nat) (f : DA) (ρ : Ro) (ω : Wd) : sOwn i f ρ ω = (match f ρ ω with
  | none => none
  | some (ds, ω1) => some (.nx (ρ.set i (.own ds)), ω1)) := rfl
@[simp] theorem sPar_ap (i j : Nat) (f : DA) (ρ : Ro) (ω : Wd) : sPar i j f ρ ω = (match f ρ ω with
  | some ([x, y], ω1) => some (.nx ((ρ.set i (.val x)).set j (.val y)), ω1)
  | _ => none) := rfl
@[simp] theorem sAug_ap (i : Nat) (op : D → D → Option D) (f : DE) (ρ : Ro) (ω : Wd) : sAug i op f ρ ω = (match ρ[i]? with
  | some (.val x) => (match f ρ ω with
    | none => none
    | some (y, ω1) => match op x y with
      | none => none
      | some z => some (.nx (ρ.set i (.val z)), ω1))
  | _ => none) := rfl
@[simp] theorem sApp_ap (i : Nat) (f : DE) (ρ : Ro) (ω : Wd) : sApp i f ρ ω = (match f ρ ω with
  | none => none
  | some (d, ω1) => match ρ[i]? with
    | some (.own xs) => if xs.length < sizeLine then some (.nx (ρ.set i (.own (xs ++ [d]))), ω1) else none
    | _ => none) := rfl
@[simp] theorem sExt_ap (i : Nat) (f : DE) (ρ : Ro) (ω : Wd) : sExt i f ρ ω = (match f ρ ω with
  | some (.list ds, ω1) => (match ρ[i]? with
    | some (.own xs) => if xs.length + ds.length ≤ sizeLine then some (.nx (ρ.set i (.own (xs ++ ds))), ω1) else none
    | _ => none)
  | _ => none) := rfl
@[simp] theorem sPop_ap (i : Nat) (j : Option Nat) (ρ : Ro) (ω : Wd) : sPop i j ρ ω = (match ρ[i]? with
  | some (.own xs) => (match xs[xs.length - 1]? with
    | some d => some (.nx (match j with
      | none => ρ.set i (.own xs.dropLast)
      | some j => (ρ.set i (.own xs.dropLast)).set j (.val d)), ω)
    | none => none)
  | _ => none) := rfl
@[simp] theorem sSetIx_ap (i : Nat) (fk fe : DE) (ρ : Ro) (ω : Wd) : sSetIx i fk fe ρ ω = (match fe ρ ω with
  | none => none
  | some (d, ω1) => match fk ρ ω1 with
    | some (.int k, ω2) => (match ρ[i]? with
      | some (.own xs) => (match ixN xs.length k with
        | some j => some (.nx (ρ.set i (.own (xs.set j d))), ω2)
        | none => none)
      | _ => none)
    | _ => none) := rfl
@[simp] theorem sSetOb_ap (fo fk fe : DE) (ρ : Ro) (ω : Wd) : sSetOb fo fk fe ρ ω = (match fe ρ ω with
  | none => none
  | some (d, ω1) => match fo ρ ω1 with
    | none => none
    | some (x, ω2) => match obN x with
      | none => none
      | some n => match fk ρ ω2 with
        | some (.int k, ω3) => (match ω3.objs[n]? with
          | some (.lst xs) => (match ixN xs.length k with
            | some j => some (.nx ρ, ⟨ω3.live, ω3.objs.set n (.lst (xs.set j d))⟩)
            | none => none)
          | none => none)
        | _ => none) := rfl
@[simp] theorem sFrz_ap (i : Nat) (f : DS) (ρ : Ro) (ω : Wd) : sFrz i f ρ ω = (match ρ[i]? with
  | some (.own xs) => f (ρ.set i (.val (.list xs))) ω
  | _ => none) := rfl
@[simp] theorem sFor_ap (fi : DA) (g : DG) (f : DS) (ρ : Ro) (ω : Wd) : sFor fi g f ρ ω = (match fi ρ ω with
  | none => none
  | some (ds, ω1) => loopD g f ds ρ ω1) := rfl
@[simp] theorem sWhile_ap (c : DT) (f : DS) (ρ : Ro) (ω : Wd) : sWhile c f ρ ω = (whileD c f FUEL ρ ω) := rfl
@[simp] theorem iSq_ap (f : DE) (ρ : Ro) (ω : Wd) : iSq f ρ ω = (match f ρ ω with
  | some (.list ds, ω1) => some (ds, ω1)
  | some (.tuple ds, ω1) => some (ds, ω1)
  | _ => none) := rfl
@[simp] theorem iRange3_ap (a : DA) (ρ : Ro) (ω : Wd) : iRange3 a ρ ω = (match a ρ ω with
  | some ([.int i, .int j, .int c], ω1) => if rg3Ok i j c = true then some (rg3D i c (rg3N i j c), ω1) else none
  | _ => none) := rfl
@[simp] theorem eLc2N_ap (fi : DA) (fg : DG) (ft : DT) (fi1 : DA) (fg1 : DG) (ft1 : DT) (fe : DE) (vs vs1 : List Nat) (ρ : Ro) (ω : Wd) : eLc2N fi fg ft fi1 fg1 ft1 fe vs vs1 ρ ω = (match fi ρ ω with
  | none => none
  | some (ds, ω1) => match lc2D fg ft fi1 fg1 ft1 fe vs1 (wipeR ρ vs) ds ω1 with
    | none => none
    | some (xs, ω2) => if xs.length ≤ sizeLine then some (xs, ω2) else none) := rfl
@[simp] theorem sNever_ap  (ρ : Ro) (ω : Wd) : sNever  ρ ω = (none) := rfl
@[simp] theorem eTupOwn_ap (i : Nat) (ρ : Ro) (ω : Wd) : eTupOwn i ρ ω = (match ρ[i]? with
  | some (.own xs) => some (.tuple xs, ω)
  | _ => none) := rfl
/-! ## the law's own draws -/
noncomputable def bLoad : DS :=
  (sSeq (sSet 1 (eIxOb (eVar 0) (eC (.int 0))))
  (sSeq (sIf (tOfE (eBin opGt (eLenOb (eVar 1)) (eC (.int 0)))) (sSeq (sSet 2 (eCall opInt (aCons (ePopOb (eVar 1) 0) aNil)))
  (sSeq (sSet 3 (eIf (tOfE (eBin opGe (eVar 2) (eC (.int 0)))) (eBin opMul (eC (.int 2)) (eVar 2)) (eBin opSub (eBin opMul (eUn opNeg (eC (.int 2))) (eVar 2)) (eC (.int 1)))))
  (sSeq (sIf (tOfE (eBin opGe (eVar 3) (eC (.int 1000000000000000000)))) (sRet (eVar 3)) sNext)
  (sSetOb (eVar 0) (eC (.int 2)) (eBin opMod (eCall opInt (aCons (eBin opAdd (eBin opAdd (eBin opMul (eIxOb (eVar 0) (eC (.int 2))) (eC (.int 69621))) (eBin opMul (eVar 3) (eC (.int 48271)))) (eC (.int 11))) aNil)) (eC (.int 2147483647))))))) sNext)
  (sSeq (sSet 4 (eBin opMod (eCall opInt (aCons (eBin opAdd (eBin opMul (eIxOb (eVar 0) (eC (.int 2))) (eC (.int 48271))) (eC (.int 17))) aNil)) (eC (.int 2147483629))))
  (sSeq (sSet 5 (eBin opMod (eCall opInt (aCons (eBin opAdd (eBin opMul (eVar 4) (eC (.int 69621))) (eC (.int 5))) aNil)) (eC (.int 2147483587))))
  (sSeq (sSetOb (eVar 0) (eC (.int 2)) (eBin opMod (eCall opInt (aCons (eBin opAdd (eBin opMul (eVar 5) (eC (.int 40692))) (eC (.int 3))) aNil)) (eC (.int 2147483563))))
  (sRet (eBin opAdd (eBin opAdd (eBin opMul (eVar 4) (eC (.int 4611686014132420609))) (eBin opMul (eVar 5) (eC (.int 2147483647)))) (eIxOb (eVar 0) (eC (.int 2))))))))))
noncomputable def dLoad : List D → Wd → Option (D × Wd) := defD 6 bLoad
noncomputable def bDraw : DS :=
  (sSeq (sIf (tOfE (eBin opLt (eIxOb (eVar 0) (eC (.int 1))) (eVar 1))) (sSetOb (eVar 0) (eC (.int 1)) (eFun dLoad (aCons (eVar 0) aNil))) sNext)
  (sSeq (sSet 2 (eBin opMod (eCall opInt (aCons (eIxOb (eVar 0) (eC (.int 1))) aNil)) (eVar 1)))
  (sSeq (sSetOb (eVar 0) (eC (.int 1)) (eBin opDiv (eIxOb (eVar 0) (eC (.int 1))) (eVar 1)))
  (sRet (eVar 2)))))
noncomputable def dDraw : List D → Wd → Option (D × Wd) := defD 3 bDraw

theorem mulOk_l {i j : Int} (h1 : -18446744073709551616 < i) (h2 : i < 18446744073709551616) : mulOk i j = true := by
  simp [mulOk_eq, h1, h2]
theorem mulOk_r {i j : Int} (h1 : -18446744073709551616 < j) (h2 : j < 18446744073709551616) : mulOk i j = true := by
  simp [mulOk_eq, h1, h2]
/-- a box with its tail of further items -/
def bw (t : List D) (c : List Int) (n s : Int) : Wd := ⟨true, [.lst (ob 1 :: .int n :: .int s :: t), .lst (c.map PyData.int)]⟩
theorem atI0 {x : D} {xs : List D} : atI (x :: xs) 0 = some x := by
  have h : (0 : Int) < ((x :: xs).length : Int) := by rw [List.length_cons]; omega
  unfold atI ixN
  rw [if_pos (Int.le_refl 0), if_pos h]
  rfl
theorem atI1 {x y : D} {xs : List D} : atI (x :: y :: xs) 1 = some y := by
  have h : (1 : Int) < ((x :: y :: xs).length : Int) := by rw [List.length_cons, List.length_cons]; omega
  unfold atI ixN
  rw [if_pos (by decide), if_pos h]
  rfl
theorem atI2 {x y z : D} {xs : List D} : atI (x :: y :: z :: xs) 2 = some z := by
  have h : (2 : Int) < ((x :: y :: z :: xs).length : Int) := by rw [List.length_cons, List.length_cons, List.length_cons]; omega
  unfold atI ixN
  rw [if_pos (by decide), if_pos h]
  rfl
theorem ixN1 {n : Nat} : ixN (n + 1 + 1) 1 = some 1 := by
  unfold ixN
  rw [if_pos (by decide), if_pos (by omega)]
  rfl
theorem ixN2 {n : Nat} : ixN (n + 1 + 1 + 1) 2 = some 2 := by
  unfold ixN
  rw [if_pos (by decide), if_pos (by omega)]
  rfl
def mix1 (s : Int) : Int := (s * 48271 + 17) % 2147483629
def mix2 (s : Int) : Int := (mix1 s * 69621 + 5) % 2147483587
def mix3 (s : Int) : Int := (mix2 s * 40692 + 3) % 2147483563
def mixV (s : Int) : Int := mix1 s * 4611686014132420609 + mix2 s * 2147483647 + mix3 s
theorem mixV_nn (s : Int) : 0 ≤ mixV s := by
  unfold mixV mix3 mix2 mix1
  omega
theorem load_nil (t : List D) (n s : Int) : dLoad [ob 0] (bw t [] n s) = some (.int (mixV s), bw t [] n (mix3 s)) := by
  simp [dLoad, defD, bLoad, obN_ob, bw, atI0, atI1, atI2, opGt, opMod, opInt, opAdd, opMul, mulOk_r, ixN2, mixV, mix1, mix2, mix3]
def szC (x : Int) : Int := if 0 ≤ x then 2 * x else -2 * x - 1
def ldV (x s : Int) : Int := if 1000000000000000000 ≤ szC x then szC x else mixV ((s * 69621 + szC x * 48271 + 11) % 2147483647)
def ldS (x s : Int) : Int := if 1000000000000000000 ≤ szC x then s else mix3 ((s * 69621 + szC x * 48271 + 11) % 2147483647)
theorem load_cons (t : List D) (x : Int) (c : List Int) (n s : Int) : dLoad [ob 0] (bw t (x :: c) n s) = some (.int (ldV x s), bw t c n (ldS x s)) := by
  by_cases hx : 0 ≤ x
  · by_cases hz : 1000000000000000000 ≤ 2 * x
    · simp [dLoad, defD, bLoad, obN_ob, bw, atI0, atI1, atI2, opGt, opGe, opMod, opInt, opAdd, opMul, mulOk_r, mulOk_l, ixN2, ldV, ldS, szC, hx, hz]
    · simp [dLoad, defD, bLoad, obN_ob, bw, atI0, atI1, atI2, opGt, opGe, opMod, opInt, opAdd, opMul, mulOk_r, mulOk_l, ixN2, ldV, ldS, szC, hx, hz, mixV, mix1, mix2, mix3]
  · by_cases hz : 1000000000000000000 ≤ -2 * x - 1
    · simp [dLoad, defD, bLoad, obN_ob, bw, atI0, atI1, atI2, opGt, opGe, opMod, opInt, opAdd, opSub, opNeg, opMul, mulOk_r, mulOk_l, ixN2, ldV, ldS, szC, hx, hz]
    · simp [dLoad, defD, bLoad, obN_ob, bw, atI0, atI1, atI2, opGt, opGe, opMod, opInt, opAdd, opSub, opNeg, opMul, mulOk_r, mulOk_l, ixN2, ldV, ldS, szC, hx, hz, mixV, mix1, mix2, mix3]
/-- the world is a box, and nothing else -/
def BoxI (t : List D) (ω : Wd) : Prop := ∃ c n s, ω = bw t c n s
theorem draw_bw (t : List D) (c : List Int) (n s m : Int) (hm : 0 < m) (hz : m.natAbs.log2 < 9000) : ∃ v c' s', dDraw [ob 0, .int m] (bw t c n s) = some (.int (v % m), bw t c' (v / m) s') := by
  by_cases hn : n < m
  · cases c with
    | nil =>
      refine ⟨mixV s, [], mix3 s, ?_⟩
      have e := load_nil t n s
      simp only [bw, List.map_nil] at e
      simp [dDraw, defD, bDraw, obN_ob, bw, atI1, opLt, hn, e, ixN1, opInt, opMod, opDiv, hm, hz]
    | cons x c =>
      refine ⟨ldV x s, c, ldS x s, ?_⟩
      have e := load_cons t x c n s
      simp only [bw, List.map_cons] at e
      simp [dDraw, defD, bDraw, obN_ob, bw, atI1, opLt, hn, e, ixN1, opInt, opMod, opDiv, hm, hz]
  · refine ⟨n, c, s, ?_⟩
    simp [dDraw, defD, bDraw, obN_ob, bw, atI1, opLt, hn, ixN1, opInt, opMod, opDiv, hm, hz]
theorem draw_ok {t : List D} {ω : Wd} (h : BoxI t ω) {m : Int} (hm : 0 < m) (hz : m.natAbs.log2 < 9000) : ∃ d ω', dDraw [ob 0, .int m] ω = some (.int d, ω') ∧ 0 ≤ d ∧ d < m ∧ BoxI t ω' := by
  obtain ⟨c, n, s, rfl⟩ := h
  obtain ⟨v, c', s', e⟩ := draw_bw t c n s m hm hz
  exact ⟨_, _, e, Int.emod_nonneg _ (by omega), Int.emod_lt_of_pos _ hm, c', v / m, s', rfl⟩
end Dn
end

section
namespace Dn
open PySem PySem.Spec L2
local instance : Tb := noTb
/-! ## facts about the operators -/
theorem opEq_int (a b : Int) : opEq (.int a) (.int b) = some (.bool (decide (a = b))) := by
  have e : (a == b) = decide (a = b) := rfl
  simp [opEq, cmpOk, PyData.plain, PyData.depth, PyData.eqv, e]
theorem opNe_int (a b : Int) : opNe (.int a) (.int b) = some (.bool (!decide (a = b))) := by
  have e : (a == b) = decide (a = b) := rfl
  simp [opNe, cmpOk, PyData.plain, PyData.depth, PyData.eqv, e]
theorem opEq_str (a b : Str) : opEq (.str a) (.str b) = some (.bool (a == b)) := by
  simp [opEq, cmpOk, PyData.plain, PyData.depth, PyData.eqv]
theorem opEq_bool (a b : Bool) : opEq (.bool a) (.bool b) = some (.bool (a == b)) := by
  simp [opEq, cmpOk, PyData.plain, PyData.depth, PyData.eqv]
theorem atI_nat' {α : Type} {xs : List α} {k : Nat} (h : k < xs.length) : atI xs (k : Int) = some xs[k] := atI_nat (by simp [h])
theorem opIx_tup {xs : List D} {k : Nat} (h : k < xs.length) : opIx (.tuple xs) (.int (k : Int)) = some xs[k] := atI_nat' h
theorem opIx_lst {xs : List D} {k : Nat} (h : k < xs.length) : opIx (.list xs) (.int (k : Int)) = some xs[k] := atI_nat' h
/-- an item at a drawn place -/
theorem atI_mem {α : Type} {xs : List α} {i : Int} (h0 : 0 ≤ i) (h1 : i < xs.length) : ∃ d, atI xs i = some d ∧ d ∈ xs := by
  have hk : i.toNat < xs.length := by omega
  refine ⟨xs[i.toNat], ?_, List.getElem_mem hk⟩
  have q := atI_nat' hk
  rwa [show ((i.toNat : Nat) : Int) = i from by omega] at q
/-! ## comprehensions and loops that leave the store alone -/
theorem lcD_of {α : Type} {fg : DG} {ft : DT} {fe : DE} {ρ : Ro} {ω : Wd} (e : α → D) (p : α → Bool) (g : α → D) : ∀ (l : List α), (∀ a ∈ l, ∃ ρ1, fg (e a) ρ = some ρ1 ∧ ft ρ1 ω = some (p a, ω) ∧ (p a = true → fe ρ1 ω = some (g a, ω))) → lcD fg ft fe ρ (l.map e) ω = some ((l.filter p).map g, ω)
  | [], _ => rfl
  | a :: l, h => by
    obtain ⟨ρ1, h1, h2, h3⟩ := h a (List.mem_cons_self ..)
    have ih := lcD_of e p g l fun x hx => h x (List.mem_cons_of_mem _ hx)
    rw [List.map_cons]
    unfold lcD
    rw [h1]
    simp only [h2]
    cases hp : p a with
    | true =>
      rw [if_pos rfl, h3 hp]
      simp only [ih, List.filter_cons, hp, if_true, List.map_cons]
    | false =>
      rw [if_neg Bool.false_ne_true, ih, List.filter_cons, hp]
      simp
theorem lcD_map {α : Type} {fg : DG} {ft : DT} {fe : DE} {ρ : Ro} {ω : Wd} (e : α → D) (g : α → D) (l : List α) (h : ∀ a ∈ l, ∃ ρ1, fg (e a) ρ = some ρ1 ∧ ft ρ1 ω = some (true, ω) ∧ fe ρ1 ω = some (g a, ω)) : lcD fg ft fe ρ (l.map e) ω = some (l.map g, ω) := by
  have q := lcD_of (fg := fg) (ft := ft) (fe := fe) (ρ := ρ) (ω := ω) e (fun _ => true) g l fun a ha => by
    obtain ⟨ρ1, h1, h2, h3⟩ := h a ha
    exact ⟨ρ1, h1, h2, fun _ => h3⟩
  rw [q, List.filter_eq_self.mpr fun _ _ => rfl]
theorem rgD_eq (i j : Int) : rgD i j = (List.range (j - i).toNat).map fun (k : Nat) => .int (i + k) := rfl
theorem rgD0 (n : Nat) : rgD 0 (n : Int) = (List.range n).map fun (k : Nat) => .int (k : Int) := by
  unfold rgD
  simp
/-! ## _law_same -/
mutual
def dpt : D → Nat
  | .list xs => dptL xs + 1
  | .tuple xs => dptL xs + 1
  | _ => 1
def dptL : List D → Nat
  | [] => 0
  | x :: xs => max (dpt x) (dptL xs)
end
theorem dptL_mem : ∀ {xs : List D} {x : D}, x ∈ xs → dpt x ≤ dptL xs
  | y :: ys, x, h => by
    rw [dptL]
    rcases List.mem_cons.mp h with rfl | h
    · omega
    · have := dptL_mem h; omega
theorem plainAll_mem : ∀ {xs : List D} {x : D}, PyData.plainAll xs = true → x ∈ xs → x.plain = true
  | y :: ys, x, h, hx => by
    rw [PyData.plainAll, Bool.and_eq_true] at h
    rcases List.mem_cons.mp hx with rfl | hx
    · exact h.1
    · exact plainAll_mem h.2 hx
noncomputable def bSameD (rc : List D → Wd → Option (D × Wd)) : DS :=
  (sSeq (sIf (tOrD (tAndD (tOfE (eUn (opIsi "tuple") (eVar 0))) (tOfE (eUn (opIsi "tuple") (eVar 1)))) (tAndD (tOfE (eUn (opIsi "list") (eVar 0))) (tOfE (eUn (opIsi "list") (eVar 1))))) (sRet (eAnd (eBin opEq (eCall opLen (aCons (eVar 0) aNil)) (eCall opLen (aCons (eVar 1) aNil))) (eCall opAll (aCons (eOfN (eLcN (iRange (aCons (eCall opLen (aCons (eVar 0) aNil)) aNil)) (gSet 2) tYesD (eFunP rc (aCons (eBin opIx (eVar 0) (eVar 2)) (aCons (eBin opIx (eVar 1) (eVar 2)) aNil))) [2])) aNil)))) sNext)
  (sSeq (sIf (tAndD (tOfE (eUn (opIsi "dict") (eVar 0))) (tOfE (eUn (opIsi "dict") (eVar 1)))) sNever sNext)
  (sSeq (sIf (tOrD (tOfE (eUn (opIsi "bool") (eVar 0))) (tOfE (eUn (opIsi "bool") (eVar 1)))) (sRet (eAnd (eUn (opIsi "bool") (eVar 0)) (eAnd (eUn (opIsi "bool") (eVar 1)) (eBin opEq (eVar 0) (eVar 1))))) sNext)
  (sSeq (sIf (tOrD (tAndD (tOfE (eUn (opIsi "int") (eVar 0))) (tOfE (eUn (opIsi "int") (eVar 1)))) (tAndD (tOfE (eUn (opIsi "str") (eVar 0))) (tOfE (eUn (opIsi "str") (eVar 1))))) (sRet (eBin opEq (eVar 0) (eVar 1))) sNext)
  (sRet (eAnd (eBin opIsN (eVar 0) (eC .none)) (eBin opIsN (eVar 1) (eC .none))))))))
noncomputable def dSameD : Nat → List D → Wd → Option (D × Wd)
  | 0 => fun _ _ => none
  | n + 1 => defD 4 (bSameD (dSameD n))
noncomputable def bSame (rc : List D → Wd → Option (D × Wd)) : DS :=
  (sSeq (sIf (tOrD (tAndD (tOfE (eUn (opIsi "tuple") (eVar 0))) (tOfE (eUn (opIsi "tuple") (eVar 1)))) (tAndD (tOfE (eUn (opIsi "list") (eVar 0))) (tOfE (eUn (opIsi "list") (eVar 1))))) (sRet (eAnd (eBin opEq (eCall opLen (aCons (eVar 0) aNil)) (eCall opLen (aCons (eVar 1) aNil))) (eCall opAll (aCons (eOfN (eLcN (iRange (aCons (eCall opLen (aCons (eVar 0) aNil)) aNil)) (gSet 2) tYesD (eFunP rc (aCons (eBin opIx (eVar 0) (eVar 2)) (aCons (eBin opIx (eVar 1) (eVar 2)) aNil))) [2])) aNil)))) sNext)
  (sSeq (sIf (tOrD (tOfE (eUn (opIsi "bool") (eVar 0))) (tOfE (eUn (opIsi "bool") (eVar 1)))) (sRet (eAnd (eUn (opIsi "bool") (eVar 0)) (eAnd (eUn (opIsi "bool") (eVar 1)) (eBin opEq (eVar 0) (eVar 1))))) sNext)
  (sSeq (sIf (tOrD (tAndD (tOfE (eUn (opIsi "int") (eVar 0))) (tOfE (eUn (opIsi "int") (eVar 1)))) (tAndD (tOfE (eUn (opIsi "str") (eVar 0))) (tOfE (eUn (opIsi "str") (eVar 1))))) (sRet (eBin opEq (eVar 0) (eVar 1))) sNext)
  (sRet (eAnd (eBin opIsN (eVar 0) (eC .none)) (eBin opIsN (eVar 1) (eC .none)))))))
noncomputable def dSame : Nat → List D → Wd → Option (D × Wd)
  | 0 => fun _ _ => none
  | n + 1 => defD 3 (bSame (dSame n))
mutual
/-- data without objects, its sequences of a size that the model walks -/
def okD : D → Bool
  | .list xs => decide (xs.length ≤ 16777216) && okL xs
  | .tuple xs => decide (xs.length ≤ 16777216) && okL xs
  | .dict _ => false
  | _ => true
def okL : List D → Bool
  | [] => true
  | x :: xs => okD x && okL xs
end
theorem okL_mem : ∀ {xs : List D} {x : D}, okL xs = true → x ∈ xs → okD x = true
  | y :: ys, x, h, hx => by
    rw [okL, Bool.and_eq_true] at h
    rcases List.mem_cons.mp hx with rfl | hx
    · exact h.1
    · exact okL_mem h.2 hx
theorem rgOk_nat {n : Nat} (h : n ≤ 16777216) : rgOk 0 (n : Int) = true := by
  simp [rgOk_eq]; omega
theorem all_true (n : Nat) : blsOf ((List.range n).map fun (_ : Nat) => PyData.bool true) = some ((List.range n).map fun _ => true) := by
  have := blsOf_map ((List.range n).map fun (_ : Nat) => true)
  rw [List.map_map] at this
  exact this
theorem sameD_seq {rc : List D → Wd → Option (D × Wd)} {xs : List D} (hz : xs.length ≤ 16777216) (h : ∀ x ∈ xs, rc [x, x] ⟨false, []⟩ = some (.bool true, ⟨false, []⟩)) (ρ : Ro) (ω : Wd) (opx : D) (ho : ∀ k : Nat, (hk : k < xs.length) → opIx opx (.int (k : Int)) = some xs[k]) (h0 : ρ[0]? = some (.val opx)) (h1 : ρ[1]? = some (.val opx)) (h2 : 2 < ρ.length) :
    lcD (gSet 2) tYesD (eFunP rc (aCons (eBin opIx (eVar 0) (eVar 2)) (aCons (eBin opIx (eVar 1) (eVar 2)) aNil))) ρ (rgD 0 (xs.length : Int)) ω = some ((List.range xs.length).map fun _ => .bool true, ω) := by
  rw [rgD0]
  refine lcD_map _ _ _ fun k hk => ⟨ρ.set 2 (.val (.int (k : Int))), rfl, rfl, ?_⟩
  have hk : k < xs.length := List.mem_range.mp hk
  have e0 : (ρ.set 2 (.val (.int (k : Int))))[0]? = some (.val opx) := by rw [List.getElem?_set_ne (by decide)]; exact h0
  have e1 : (ρ.set 2 (.val (.int (k : Int))))[1]? = some (.val opx) := by rw [List.getElem?_set_ne (by decide)]; exact h1
  have e2 : (ρ.set 2 (.val (.int (k : Int))))[2]? = some (.val (.int (k : Int))) := by rw [List.getElem?_set_self h2]
  simp [e0, e1, e2, ho k hk, h xs[k] (List.getElem_mem hk)]
theorem sameD_sq {n : Nat} {xs : List D} {d : D} {ω : Wd} (ih : ∀ (d : D) (ω : Wd), okD d = true → dpt d ≤ n → dSameD n [d, d] ω = some (.bool true, ω)) (hz : xs.length ≤ 16777216) (hk : okL xs = true) (hd : dptL xs ≤ n) (hop : ∀ k : Nat, (hk : k < xs.length) → opIx d (.int (k : Int)) = some xs[k]) :
    lcD (gSet 2) tYesD (eFunP (dSameD n) (aCons (eBin opIx (eVar 0) (eVar 2)) (aCons (eBin opIx (eVar 1) (eVar 2)) aNil))) (wipeR [.val d, .val d, .un, .un] [2]) (rgD 0 (xs.length : Int)) ω = some ((List.range xs.length).map fun _ => .bool true, ω) :=
  sameD_seq hz (fun x hx => ih x _ (okL_mem hk hx) (Nat.le_trans (dptL_mem hx) hd)) _ ω d hop rfl rfl (by simp [wipeR])
theorem sameD_refl (n : Nat) : ∀ (d : D) (ω : Wd), okD d = true → dpt d ≤ n → dSameD n [d, d] ω = some (.bool true, ω) := by
  induction n with
  | zero => intro d ω _ h; cases d <;> simp [dpt] at h
  | succ n ih =>
    intro d ω hk h
    cases d with
    | none => simp [dSameD, defD, bSameD, opIsi, notOb, isi, opIsN, isNon]
    | bool b => simp [dSameD, defD, bSameD, opIsi, notOb, isi, opEq_bool]
    | int b => simp [dSameD, defD, bSameD, opIsi, notOb, isi, opEq_int]
    | str b => simp [dSameD, defD, bSameD, opIsi, notOb, isi, opEq_str]
    | dict _ => simp [okD] at hk
    | list xs =>
      simp [okD] at hk
      have hd : dptL xs ≤ n := by simp [dpt] at h; exact h
      have q := sameD_sq (ω := ω) ih hk.1 hk.2 hd (d := .list xs) (fun k hk => opIx_lst hk)
      simp [dSameD, defD, bSameD, opIsi, notOb, isi, opEq_int, opLen, rgOk_nat hk.1, q, opAll, all_true]
    | tuple xs =>
      simp [okD] at hk
      have hd : dptL xs ≤ n := by simp [dpt] at h; exact h
      have q := sameD_sq (ω := ω) ih hk.1 hk.2 hd (d := .tuple xs) (fun k hk => opIx_tup hk)
      simp [dSameD, defD, bSameD, opIsi, notOb, isi, opEq_int, opLen, rgOk_nat hk.1, q, opAll, all_true]
theorem same_seq {n : Nat} {xs : List D} {d : D} {ω : Wd} (ih : ∀ (d : D) (ω : Wd), okD d = true → dpt d ≤ n → dSame n [d, d] ω = some (.bool true, ω)) (hz : xs.length ≤ 16777216) (hk : okL xs = true) (hd : dptL xs ≤ n) (hop : ∀ k : Nat, (hk : k < xs.length) → opIx d (.int (k : Int)) = some xs[k]) :
    lcD (gSet 2) tYesD (eFunP (dSame n) (aCons (eBin opIx (eVar 0) (eVar 2)) (aCons (eBin opIx (eVar 1) (eVar 2)) aNil))) (wipeR [.val d, .val d, .un] [2]) (rgD 0 (xs.length : Int)) ω = some ((List.range xs.length).map fun _ => .bool true, ω) :=
  sameD_seq hz (fun x hx => ih x _ (okL_mem hk hx) (Nat.le_trans (dptL_mem hx) hd)) _ ω d hop rfl rfl (by simp [wipeR])
theorem same_refl (n : Nat) : ∀ (d : D) (ω : Wd), okD d = true → dpt d ≤ n → dSame n [d, d] ω = some (.bool true, ω) := by
  induction n with
  | zero => intro d ω _ h; cases d <;> simp [dpt] at h
  | succ n ih =>
    intro d ω hk h
    cases d with
    | none => simp [dSame, defD, bSame, opIsi, notOb, isi, opIsN, isNon]
    | bool b => simp [dSame, defD, bSame, opIsi, notOb, isi, opEq_bool]
    | int b => simp [dSame, defD, bSame, opIsi, notOb, isi, opEq_int]
    | str b => simp [dSame, defD, bSame, opIsi, notOb, isi, opEq_str]
    | dict _ => simp [okD] at hk
    | list xs =>
      simp [okD] at hk
      have hd : dptL xs ≤ n := by simp [dpt] at h; exact h
      have q := same_seq (ω := ω) ih hk.1 hk.2 hd (d := .list xs) (fun k hk => opIx_lst hk)
      simp [dSame, defD, bSame, opIsi, notOb, isi, opEq_int, opLen, rgOk_nat hk.1, q, opAll, all_true]
    | tuple xs =>
      simp [okD] at hk
      have hd : dptL xs ≤ n := by simp [dpt] at h; exact h
      have q := same_seq (ω := ω) ih hk.1 hk.2 hd (d := .tuple xs) (fun k hk => opIx_tup hk)
      simp [dSame, defD, bSame, opIsi, notOb, isi, opEq_int, opLen, rgOk_nat hk.1, q, opAll, all_true]
end Dn
end

section
namespace Dn
open PySem PySem.Spec L2
local instance : Tb := noTb
/-! ## what a text gives at any box: the draws are free -/
def WE (t : List D) (f : DE) (ρ : Ro) (P : D → Prop) : Prop := ∀ ω, BoxI t ω → ∃ d ω', f ρ ω = some (d, ω') ∧ BoxI t ω' ∧ P d
def WA (t : List D) (f : DA) (ρ : Ro) (P : List D → Prop) : Prop := ∀ ω, BoxI t ω → ∃ d ω', f ρ ω = some (d, ω') ∧ BoxI t ω' ∧ P d
def WT (t : List D) (f : DT) (ρ : Ro) (P : Bool → Prop) : Prop := ∀ ω, BoxI t ω → ∃ d ω', f ρ ω = some (d, ω') ∧ BoxI t ω' ∧ P d
/-- how a statement ends: `Q` where it goes on, `R` where it returns -/
def OutP (Q : Ro → Prop) (R : D → Prop) : Out → Prop
  | .nx ρ => Q ρ
  | .ct ρ => Q ρ
  | .rt d => R d
  | _ => False
def WS (t : List D) (f : DS) (ρ : Ro) (Q : Ro → Prop) (R : D → Prop) : Prop := ∀ ω, BoxI t ω → ∃ ρ' ω', BoxI t ω' ∧ ((f ρ ω = some (.nx ρ', ω') ∧ Q ρ') ∨ ∃ d, f ρ ω = some (.rt d, ω') ∧ R d)
def IntIn (lo hi : Int) (d : D) : Prop := ∃ i, d = .int i ∧ lo ≤ i ∧ i < hi
def NatD (d : D) : Prop := ∃ i, d = .int i ∧ 0 ≤ i
def AllP (n : Nat) (P : D → Prop) (ds : List D) : Prop := ds.length = n ∧ ∀ d ∈ ds, P d
variable {t : List D} {ρ : Ro}
theorem WE.mono {f : DE} {P P' : D → Prop} (h : WE t f ρ P) (k : ∀ d, P d → P' d) : WE t f ρ P' := fun ω i => by
  obtain ⟨d, ω', e, i', p⟩ := h ω i
  exact ⟨d, ω', e, i', k d p⟩
theorem WA.mono {f : DA} {P P' : List D → Prop} (h : WA t f ρ P) (k : ∀ d, P d → P' d) : WA t f ρ P' := fun ω i => by
  obtain ⟨d, ω', e, i', p⟩ := h ω i
  exact ⟨d, ω', e, i', k d p⟩
theorem WE.pure {f : DE} {P : D → Prop} (d : D) (h : ∀ ω, f ρ ω = some (d, ω)) (p : P d) : WE t f ρ P := fun ω i => ⟨d, ω, h ω, i, p⟩
theorem WE.c {d : D} {P : D → Prop} (p : P d) : WE t (eC d) ρ P := .pure d (fun _ => rfl) p
theorem WE.v {i : Nat} {d : D} {P : D → Prop} (h : ρ[i]? = some (.val d)) (p : P d) : WE t (eVar i) ρ P := .pure d (fun ω => by rw [eVar_ap, h]) p
theorem WE.ofA {f : DA} {P : D → Prop} {P' : List D → Prop} (h : WA t f ρ P') (k : ∀ ds, P' ds → P (.list ds)) : WE t (eOfN f) ρ P := fun ω i => by
  obtain ⟨d, ω', e, i', p⟩ := h ω i
  exact ⟨.list d, ω', by rw [eOfN_ap, e], i', k _ p⟩
theorem WE.bin {op : D → D → Option D} {f g : DE} {P Q R : D → Prop} (h1 : WE t f ρ P) (h2 : WE t g ρ Q) (k : ∀ x y, P x → Q y → ∃ z, op x y = some z ∧ R z) : WE t (eBin op f g) ρ R := fun ω i => by
  obtain ⟨x, ω1, e1, i1, p1⟩ := h1 ω i
  obtain ⟨y, ω2, e2, i2, p2⟩ := h2 ω1 i1
  obtain ⟨z, e3, p3⟩ := k x y p1 p2
  exact ⟨z, ω2, by simp [e1, e2, e3], i2, p3⟩
theorem WE.un {op : D → Option D} {f : DE} {P R : D → Prop} (h1 : WE t f ρ P) (k : ∀ x, P x → ∃ z, op x = some z ∧ R z) : WE t (eUn op f) ρ R := fun ω i => by
  obtain ⟨x, ω1, e1, i1, p1⟩ := h1 ω i
  obtain ⟨z, e3, p3⟩ := k x p1
  exact ⟨z, ω1, by simp [e1, e3], i1, p3⟩
theorem WA.nil : WA t aNil ρ (fun ds => ds = []) := fun ω i => ⟨[], ω, rfl, i, rfl⟩
theorem WA.cons {f : DE} {a : DA} {P : D → Prop} {Q : List D → Prop} (h1 : WE t f ρ P) (h2 : WA t a ρ Q) : WA t (aCons f a) ρ (fun ds => ∃ d l, ds = d :: l ∧ P d ∧ Q l) := fun ω i => by
  obtain ⟨x, ω1, e1, i1, p1⟩ := h1 ω i
  obtain ⟨y, ω2, e2, i2, p2⟩ := h2 ω1 i1
  exact ⟨x :: y, ω2, by simp [e1, e2], i2, x, y, rfl, p1, p2⟩
theorem WA.nilP {P : D → Prop} : WA t aNil ρ (AllP 0 P) := fun ω i => ⟨[], ω, rfl, i, rfl, by simp⟩
theorem WA.consP {f : DE} {a : DA} {P : D → Prop} {n : Nat} (h1 : WE t f ρ P) (h2 : WA t a ρ (AllP n P)) : WA t (aCons f a) ρ (AllP (n + 1) P) := fun ω i => by
  obtain ⟨x, ω1, e1, i1, p1⟩ := h1 ω i
  obtain ⟨y, ω2, e2, i2, hl, p2⟩ := h2 ω1 i1
  refine ⟨x :: y, ω2, by simp [e1, e2], i2, by rw [List.length_cons, hl], fun d hd => ?_⟩
  rcases List.mem_cons.mp hd with rfl | hd
  · exact p1
  · exact p2 d hd
theorem WE.tup {a : DA} {P : D → Prop} {Q : List D → Prop} (h : WA t a ρ Q) (k : ∀ l, Q l → P (.tuple l)) : WE t (eTup a) ρ P := fun ω i => by
  obtain ⟨x, ω1, e1, i1, p1⟩ := h ω i
  exact ⟨.tuple x, ω1, by simp [e1], i1, k x p1⟩
theorem WE.lst {a : DA} {P : D → Prop} {Q : List D → Prop} (h : WA t a ρ Q) (k : ∀ l, Q l → P (.list l)) : WE t (eLst a) ρ P := fun ω i => by
  obtain ⟨x, ω1, e1, i1, p1⟩ := h ω i
  exact ⟨.list x, ω1, by simp [e1], i1, k x p1⟩
theorem WE.call {op : List D → Option D} {a : DA} {P : D → Prop} {Q : List D → Prop} (h : WA t a ρ Q) (k : ∀ l, Q l → ∃ z, op l = some z ∧ P z) : WE t (eCall op a) ρ P := fun ω i => by
  obtain ⟨x, ω1, e1, i1, p1⟩ := h ω i
  obtain ⟨z, e2, p2⟩ := k x p1
  exact ⟨z, ω1, by simp [e1, e2], i1, p2⟩
theorem WE.fn {f : List D → Wd → Option (D × Wd)} {a : DA} {P : D → Prop} {Q : List D → Prop} (h : WA t a ρ Q) (k : ∀ l, Q l → ∀ ω, BoxI t ω → ∃ d ω', f l ω = some (d, ω') ∧ BoxI t ω' ∧ P d) : WE t (eFun f a) ρ P := fun ω i => by
  obtain ⟨x, ω1, e1, i1, p1⟩ := h ω i
  obtain ⟨d, ω', e2, i2, p2⟩ := k x p1 ω1 i1
  exact ⟨d, ω', by simp [e1, e2], i2, p2⟩
/-- one draw -/
theorem WE.draw {i : Nat} {g : DE} (m : Int) (h0 : ρ[i]? = some (.val (ob 0))) (hg : ∀ ω, g ρ ω = some (.int m, ω)) (hm : 0 < m) (hz : m.natAbs.log2 < 9000) : WE t (eFun dDraw (aCons (eVar i) (aCons g aNil))) ρ (IntIn 0 m) := fun ω ib => by
  obtain ⟨d, ω', e, h1, h2, i2⟩ := draw_ok ib hm hz
  exact ⟨.int d, ω', by simp [h0, hg, e], i2, d, rfl, h1, h2⟩
/-- an item of a written list, at a drawn place -/
theorem WE.pick {a : DA} {g : DE} {P : D → Prop} (n : Nat) (h : WA t a ρ (AllP n P)) (hg : WE t g ρ (IntIn 0 n)) : WE t (eBin opIx (eLst a) g) ρ P := by
  refine WE.bin (WE.lst h (P := fun d => ∃ l, d = .list l ∧ AllP n P l) fun l hl => ⟨l, rfl, hl⟩) hg ?_
  rintro x y ⟨l, rfl, hl, hp⟩ ⟨i, rfl, h0, h1⟩
  obtain ⟨d, e, hd⟩ := atI_mem (xs := l) h0 (by rw [hl]; exact h1)
  exact ⟨d, e, hp d hd⟩
theorem WT.ofE {f : DE} {P : Bool → Prop} (h : WE t f ρ (fun d => ∃ c, d = .bool c ∧ P c)) : WT t (tOfE f) ρ P := fun ω i => by
  obtain ⟨d, ω', e, i', c, rfl, p⟩ := h ω i
  exact ⟨c, ω', by simp [e], i', p⟩
theorem WT.and {f g : DT} {P P' Q : Bool → Prop} (h : WT t f ρ P) (h' : P true → WT t g ρ P') (kf : P false → Q false) (kt : P true → ∀ c, P' c → Q c) : WT t (tAndD f g) ρ Q := fun ω i => by
  obtain ⟨c, ω1, e1, i1, p1⟩ := h ω i
  cases c with
  | false => exact ⟨false, ω1, by simp [e1], i1, kf p1⟩
  | true =>
    obtain ⟨c, ω2, e2, i2, p2⟩ := h' p1 ω1 i1
    exact ⟨c, ω2, by simp [e1, e2], i2, kt p1 c p2⟩
/-! statements -/
variable {Q Q' : Ro → Prop} {R : D → Prop}
theorem WS.mono {f : DS} (h : WS t f ρ Q R) (k : ∀ ρ', Q ρ' → Q' ρ') : WS t f ρ Q' R := fun ω i => by
  obtain ⟨ρ', ω', i', h | h⟩ := h ω i
  · exact ⟨ρ', ω', i', .inl ⟨h.1, k _ h.2⟩⟩
  · exact ⟨ρ', ω', i', .inr h⟩
theorem WS.next (h : Q ρ) : WS t sNext ρ Q R := fun ω i => ⟨ρ, ω, i, .inl ⟨rfl, h⟩⟩
theorem WS.seq {f g : DS} (h : WS t f ρ Q' R) (k : ∀ ρ', Q' ρ' → WS t g ρ' Q R) : WS t (sSeq f g) ρ Q R := fun ω i => by
  obtain ⟨ρ1, ω1, i1, ⟨e1, q1⟩ | ⟨d, e1, r1⟩⟩ := h ω i
  · obtain ⟨ρ2, ω2, i2, ⟨e2, q2⟩ | ⟨d, e2, r2⟩⟩ := k ρ1 q1 ω1 i1
    · exact ⟨ρ2, ω2, i2, .inl ⟨by simp [e1, e2], q2⟩⟩
    · exact ⟨ρ2, ω2, i2, .inr ⟨d, by simp [e1, e2], r2⟩⟩
  · exact ⟨ρ1, ω1, i1, .inr ⟨d, by simp [e1], r1⟩⟩
theorem WS.set {i : Nat} {f : DE} {P : D → Prop} (h : WE t f ρ P) (k : ∀ d, P d → Q (ρ.set i (.val d))) : WS t (sSet i f) ρ Q R := fun ω ib => by
  obtain ⟨d, ω', e, i', p⟩ := h ω ib
  exact ⟨ρ.set i (.val d), ω', i', .inl ⟨by simp [e], k d p⟩⟩
theorem WS.setThen {i : Nat} {f : DE} {g : DS} {P : D → Prop} (h : WE t f ρ P) (k : ∀ d, P d → WS t g (ρ.set i (.val d)) Q R) : WS t (sSeq (sSet i f) g) ρ Q R := by
  refine WS.seq (WS.set (Q := fun ρ' => ∃ d, P d ∧ ρ' = ρ.set i (.val d)) h fun d p => ⟨d, p, rfl⟩) ?_
  rintro ρ' ⟨d, p, rfl⟩
  exact k d p
theorem WS.own {i : Nat} {f : DA} {P : List D → Prop} (h : WA t f ρ P) (k : ∀ d, P d → Q (ρ.set i (.own d))) : WS t (sOwn i f) ρ Q R := fun ω ib => by
  obtain ⟨d, ω', e, i', p⟩ := h ω ib
  exact ⟨ρ.set i (.own d), ω', i', .inl ⟨by simp [e], k d p⟩⟩
theorem WS.ownThen {i : Nat} {f : DA} {g : DS} {P : List D → Prop} (h : WA t f ρ P) (k : ∀ d, P d → WS t g (ρ.set i (.own d)) Q R) : WS t (sSeq (sOwn i f) g) ρ Q R := by
  refine WS.seq (WS.own (Q := fun ρ' => ∃ d, P d ∧ ρ' = ρ.set i (.own d)) h fun d p => ⟨d, p, rfl⟩) ?_
  rintro ρ' ⟨d, p, rfl⟩
  exact k d p
theorem WS.app {i : Nat} {f : DE} {P : D → Prop} {xs : List D} (h : WE t f ρ P) (hx : ρ[i]? = some (.own xs)) (hz : xs.length < 16777216) (k : ∀ d, P d → Q (ρ.set i (.own (xs ++ [d])))) : WS t (sApp i f) ρ Q R := fun ω ib => by
  obtain ⟨d, ω', e, i', p⟩ := h ω ib
  have hz' : xs.length < sizeLine := Nat.lt_of_lt_of_le hz (by decide)
  exact ⟨ρ.set i (.own (xs ++ [d])), ω', i', .inl ⟨by simp [e, hx, hz'], k d p⟩⟩
theorem WS.appThen {i : Nat} {f : DE} {g : DS} {P : D → Prop} {xs : List D} (h : WE t f ρ P) (hx : ρ[i]? = some (.own xs)) (hz : xs.length < 16777216) (k : ∀ d, P d → WS t g (ρ.set i (.own (xs ++ [d]))) Q R) : WS t (sSeq (sApp i f) g) ρ Q R := by
  refine WS.seq (WS.app (Q := fun ρ' => ∃ d, P d ∧ ρ' = ρ.set i (.own (xs ++ [d]))) h hx hz fun d p => ⟨d, p, rfl⟩) ?_
  rintro ρ' ⟨d, p, rfl⟩
  exact k d p
theorem WS.ite {c : DT} {f g : DS} {P : Bool → Prop} (h : WT t c ρ P) (k1 : P true → WS t f ρ Q R) (k2 : P false → WS t g ρ Q R) : WS t (sIf c f g) ρ Q R := fun ω i => by
  obtain ⟨c, ω1, e1, i1, p1⟩ := h ω i
  cases c with
  | true =>
    obtain ⟨ρ2, ω2, i2, ⟨e2, q2⟩ | ⟨d, e2, r2⟩⟩ := k1 p1 ω1 i1
    · exact ⟨ρ2, ω2, i2, .inl ⟨by simp [e1, e2], q2⟩⟩
    · exact ⟨ρ2, ω2, i2, .inr ⟨d, by simp [e1, e2], r2⟩⟩
  | false =>
    obtain ⟨ρ2, ω2, i2, ⟨e2, q2⟩ | ⟨d, e2, r2⟩⟩ := k2 p1 ω1 i1
    · exact ⟨ρ2, ω2, i2, .inl ⟨by simp [e1, e2], q2⟩⟩
    · exact ⟨ρ2, ω2, i2, .inr ⟨d, by simp [e1, e2], r2⟩⟩
theorem WS.ret {f : DE} (h : WE t f ρ R) : WS t (sRet f) ρ Q R := fun ω i => by
  obtain ⟨d, ω', e, i', p⟩ := h ω i
  exact ⟨ρ, ω', i', .inr ⟨d, by simp [e], p⟩⟩
theorem WS.loop {g : DG} {f : DS} {P : D → Prop} (I : Nat → Ro → Prop) (n : Nat) (hk : ∀ k ρ d, k < n → I k ρ → P d → ∃ ρ1, g d ρ = some ρ1 ∧ WS t f ρ1 (I (k + 1)) R) : ∀ (ds : List D) (k : Nat) (ρ : Ro), k + ds.length ≤ n → (∀ d ∈ ds, P d) → I k ρ → WS t (loopD g f ds) ρ (I (k + ds.length)) R
  | [], k, ρ, _, _, h => fun ω i => ⟨ρ, ω, i, .inl ⟨rfl, h⟩⟩
  | d :: ds, k, ρ, hn, hp, h => fun ω i => by
    rw [List.length_cons] at hn
    obtain ⟨ρ1, e0, w⟩ := hk k ρ d (by omega) h (hp d (List.mem_cons_self ..))
    unfold loopD
    rw [e0]
    obtain ⟨ρ2, ω2, i2, ⟨e2, q2⟩ | ⟨x, e2, r2⟩⟩ := w ω i
    · have := WS.loop I n hk ds (k + 1) ρ2 (by omega) (fun d hd => hp d (List.mem_cons_of_mem _ hd)) q2 ω2 i2
      rw [List.length_cons, show k + (ds.length + 1) = k + 1 + ds.length from by omega]
      simp only [e2]
      exact this
    · exact ⟨ρ2, ω2, i2, .inr ⟨x, by simp only [e2], r2⟩⟩
theorem WS.for' {fi : DA} {g : DG} {f : DS} {P : D → Prop} (I : Nat → Ro → Prop) (n : Nat) (hi : WA t fi ρ (fun ds => ds.length ≤ n ∧ ∀ d ∈ ds, P d)) (h0 : I 0 ρ) (hk : ∀ k ρ d, k < n → I k ρ → P d → ∃ ρ1, g d ρ = some ρ1 ∧ WS t f ρ1 (I (k + 1)) R) (hQ : ∀ k ρ, k ≤ n → I k ρ → Q ρ) : WS t (sFor fi g f) ρ Q R := fun ω i => by
  obtain ⟨ds, ω1, e1, i1, hn, hp⟩ := hi ω i
  obtain ⟨ρ2, ω2, i2, h | h⟩ := WS.loop I n hk ds 0 ρ (by omega) hp h0 ω1 i1
  · exact ⟨ρ2, ω2, i2, .inl ⟨by simp [e1, h.1], hQ _ _ (by omega) h.2⟩⟩
  · exact ⟨ρ2, ω2, i2, .inr (by simp [e1]; exact h)⟩
/-- a loop over `range(m)` with a drawn end -/
theorem WA.range {g : DE} (n : Nat) (hn : n ≤ 16777216) (h : WE t g ρ (IntIn 0 (n + 1))) : WA t (iRange (aCons g aNil)) ρ (fun ds => ds.length ≤ n ∧ ∀ d ∈ ds, IntIn 0 n d) := fun ω i => by
  obtain ⟨d, ω1, e1, i1, j, rfl, h0, h1⟩ := h ω i
  have ok : rgOk 0 j = true := by
    have := rgOk_nat (n := j.toNat) (by omega)
    rwa [show ((j.toNat : Nat) : Int) = j from by omega] at this
  refine ⟨rgD 0 j, ω1, by simp [e1, ok], i1, by unfold rgD; simp; omega, fun d hd => ?_⟩
  unfold rgD at hd
  obtain ⟨k, hk, rfl⟩ := List.mem_map.mp hd
  have := List.mem_range.mp hk
  exact ⟨_, rfl, by omega, by omega⟩
/-- a whole function -/
theorem WS.fnD {m : Nat} {f : DS} {ds : List D} {P : D → Prop} (h : WS t f (ds.map SV.val ++ List.replicate (m - ds.length) .un) (fun _ => P .none) P) : ∀ ω, BoxI t ω → ∃ d ω', defD m f ds ω = some (d, ω') ∧ BoxI t ω' ∧ P d := fun ω i => by
  obtain ⟨ρ', ω', i', ⟨e, q⟩ | ⟨d, e, r⟩⟩ := h ω i
  · exact ⟨.none, ω', by unfold defD; rw [e], i', q⟩
  · exact ⟨d, ω', by unfold defD; rw [e], i', r⟩
/-- a loop that leaves the store alone, as a fold -/
theorem loop_fold {α σ : Type} {g : DG} {f : DS} {ω : Wd} (e : α → D) (sh : σ → Ro) (step : σ → α → σ) (J : Nat → σ → Prop) : ∀ (l : List α) (k : Nat) (s : σ) , J k s → (∀ k s a, a ∈ l → J k s → ∃ ρ1, g (e a) (sh s) = some ρ1 ∧ f ρ1 ω = some (.nx (sh (step s a)), ω) ∧ J (k + 1) (step s a)) → loopD g f (l.map e) (sh s) ω = some (.nx (sh (l.foldl step s)), ω)
  | [], _, _, _, _ => rfl
  | a :: l, k, s, hj, h => by
    obtain ⟨ρ1, e1, e2, j⟩ := h k s a (List.mem_cons_self ..) hj
    rw [List.map_cons]
    unfold loopD
    rw [e1]
    simp only [e2]
    exact loop_fold e sh step J l (k + 1) (step s a) j fun k s b hb hj => h k s b (List.mem_cons_of_mem _ hb) hj
end Dn
end

section
namespace Dn
open PySem PySem.Spec L2
local instance : Tb := noTb
/-! ## the newer combinators, applied -/
@[simp] theorem aSorted_ap (f : DA) (ρ : Ro) (ω : Wd) : aSorted f ρ ω = (match f ρ ω with
  | some ([.list xs], ω1) => if sortOk xs = true then some (sortD xs, ω1) else none
  | _ => none) := rfl
@[simp] theorem aSortOwn_ap (i : Nat) (ρ : Ro) (ω : Wd) : aSortOwn i ρ ω = (match ρ[i]? with
  | some (.own xs) => if sortOk xs = true then some (sortD xs, ω) else none
  | _ => none) := rfl
@[simp] theorem eGenN_ap (last : Bool) (fi : DA) (fg : DG) (ft : DT) (fe : DE) (vs : List Nat) (ρ : Ro) (ω : Wd) : eGenN last fi fg ft fe vs ρ ω = (match fi ρ ω with
  | none => none
  | some (ds, ω1) => anyD last fg ft fe (wipeR ρ vs) ds ω1) := rfl
@[simp] theorem vVal_ap (f : DE) (ρ : Ro) (ω : Wd) : vVal f ρ ω = (match f ρ ω with
  | none => none
  | some (d, ω1) => some (.val d, ω1)) := rfl
@[simp] theorem vOwn_ap (f : DA) (ρ : Ro) (ω : Wd) : vOwn f ρ ω = (match f ρ ω with
  | none => none
  | some (d, ω1) => some (.own d, ω1)) := rfl
@[simp] theorem sParV_ap (i j : Nat) (f h : DV) (ρ : Ro) (ω : Wd) : sParV i j f h ρ ω = (match f ρ ω with
  | none => none
  | some (s1, ω1) => match h ρ ω1 with
    | none => none
    | some (s2, ω2) => some (.nx ((ρ.set i s1).set j s2), ω2)) := rfl
/-- any / all of tests that leave the store alone -/
theorem anyD_of {fg : DG} {ft : DT} {fe : DE} {ρ : Ro} {ω : Wd} (last : Bool) (p : D → Bool) : ∀ (l : List D), (∀ a ∈ l, ∃ ρ1, fg a ρ = some ρ1 ∧ ft ρ1 ω = some (true, ω) ∧ fe ρ1 ω = some (.bool (p a), ω)) → anyD last fg ft fe ρ l ω = some (.bool (if last = true then l.any p else l.all p), ω)
  | [], _ => by cases last <;> rfl
  | a :: l, h => by
    obtain ⟨ρ1, h1, h2, h3⟩ := h a (List.mem_cons_self ..)
    have ih := anyD_of (fg := fg) (ft := ft) (fe := fe) (ρ := ρ) (ω := ω) last p l fun x hx => h x (List.mem_cons_of_mem _ hx)
    unfold anyD
    rw [h1]
    simp only [h2, if_true, h3]
    cases last <;> cases hp : p a <;> simp [hp, ih]
end Dn
end

section
namespace Dn
open PySem PySem.Spec L2
local instance : Tb := noTb
/-! ## subscripts -/
theorem atI_natE {α : Type} (xs : List α) (k : Nat) : atI xs (k : Int) = xs[k]? := by
  unfold atI ixN
  rw [if_pos (by omega)]
  by_cases h : k < xs.length
  · rw [if_pos (by omega)]; simp
  · rw [if_neg (by omega)]
    rw [List.getElem?_eq_none (by omega)]; rfl
theorem atI_nn {α : Type} (xs : List α) {i : Int} (h : 0 ≤ i) : atI xs i = xs[i.toNat]? := by
  have := atI_natE xs i.toNat
  rwa [show ((i.toNat : Nat) : Int) = i from by omega] at this
theorem atI_neg1 {α : Type} (xs : List α) : atI xs (-1) = xs.getLast? := by
  cases h : xs.getLast? with
  | none =>
    have := List.getLast?_eq_none_iff.mp h
    subst this; rfl
  | some v =>
    obtain ⟨ys, rfl⟩ := List.getLast?_eq_some_iff.mp h
    exact atI_last ys v
@[simp] theorem opIx_tupN (xs : List D) (k : Nat) : opIx (.tuple xs) (.int (k : Int)) = xs[k]? := atI_natE xs k
@[simp] theorem opIx_lstN (xs : List D) (k : Nat) : opIx (.list xs) (.int (k : Int)) = xs[k]? := atI_natE xs k
@[simp] theorem opIx_tupS (xs : List D) (k : Nat) : opIx (.tuple xs) (.int ((k : Int) + 1)) = xs[k + 1]? := atI_natE xs (k + 1)
@[simp] theorem opIx_lstS (xs : List D) (k : Nat) : opIx (.list xs) (.int ((k : Int) + 1)) = xs[k + 1]? := atI_natE xs (k + 1)
@[simp] theorem opIx_tup0 (xs : List D) : opIx (.tuple xs) (.int 0) = xs[0]? := atI_natE xs 0
@[simp] theorem opIx_lst0 (xs : List D) : opIx (.list xs) (.int 0) = xs[0]? := atI_natE xs 0
@[simp] theorem opIx_tup1 (xs : List D) : opIx (.tuple xs) (.int 1) = xs[1]? := atI_natE xs 1
@[simp] theorem opIx_lst1 (xs : List D) : opIx (.list xs) (.int 1) = xs[1]? := atI_natE xs 1
@[simp] theorem opIx_tup2 (xs : List D) : opIx (.tuple xs) (.int 2) = xs[2]? := atI_natE xs 2
@[simp] theorem opIx_lst2 (xs : List D) : opIx (.list xs) (.int 2) = xs[2]? := atI_natE xs 2
@[simp] theorem opIx_tup3 (xs : List D) : opIx (.tuple xs) (.int 3) = xs[3]? := atI_natE xs 3
@[simp] theorem opIx_lst3 (xs : List D) : opIx (.list xs) (.int 3) = xs[3]? := atI_natE xs 3
@[simp] theorem opIx_tup4 (xs : List D) : opIx (.tuple xs) (.int 4) = xs[4]? := atI_natE xs 4
@[simp] theorem opIx_lst4 (xs : List D) : opIx (.list xs) (.int 4) = xs[4]? := atI_natE xs 4
@[simp] theorem opIx_tupM (xs : List D) : opIx (.tuple xs) (.int (-1)) = xs.getLast? := atI_neg1 xs
@[simp] theorem opIx_lstM (xs : List D) : opIx (.list xs) (.int (-1)) = xs.getLast? := atI_neg1 xs
theorem opIx_tupI {xs : List D} {i : Int} (h : 0 ≤ i) : opIx (.tuple xs) (.int i) = xs[i.toNat]? := atI_nn xs h
theorem opIx_lstI {xs : List D} {i : Int} (h : 0 ≤ i) : opIx (.list xs) (.int i) = xs[i.toNat]? := atI_nn xs h
@[simp] theorem opLen_lst (xs : List D) : opLen [.list xs] = some (.int xs.length) := rfl
@[simp] theorem opLen_tup (xs : List D) : opLen [.tuple xs] = some (.int xs.length) := rfl
@[simp] theorem opTuple_lst (xs : List D) : opTuple [.list xs] = some (.tuple xs) := rfl
@[simp] theorem opTuple_tup (xs : List D) : opTuple [.tuple xs] = some (.tuple xs) := rfl
@[simp] theorem opAdd_int (i j : Int) : opAdd (.int i) (.int j) = some (.int (i + j)) := rfl
@[simp] theorem opSub_int (i j : Int) : opSub (.int i) (.int j) = some (.int (i - j)) := rfl
@[simp] theorem opNeg_int (i : Int) : opNeg (.int i) = some (.int (-i)) := rfl
theorem sizeLine_num : sizeLine = 16777216 := by decide
theorem opAdd_tup {x y : List D} (h : x.length + y.length ≤ 16777216) : opAdd (.tuple x) (.tuple y) = some (.tuple (x ++ y)) := by
  show (if _ then _ else _) = _
  rw [if_pos (by rw [sizeLine_num]; exact h)]
theorem opAdd_lst {x y : List D} (h : x.length + y.length ≤ 16777216) : opAdd (.list x) (.list y) = some (.list (x ++ y)) := by
  show (if _ then _ else _) = _
  rw [if_pos (by rw [sizeLine_num]; exact h)]
@[simp] theorem opLt_int (i j : Int) : opLt (.int i) (.int j) = some (.bool (decide (i < j))) := rfl
@[simp] theorem opLe_int (i j : Int) : opLe (.int i) (.int j) = some (.bool (decide (i ≤ j))) := rfl
@[simp] theorem opGt_int (i j : Int) : opGt (.int i) (.int j) = some (.bool (decide (j < i))) := rfl
@[simp] theorem opGe_int (i j : Int) : opGe (.int i) (.int j) = some (.bool (decide (j ≤ i))) := rfl
@[simp] theorem opEq_intS (i j : Int) : opEq (.int i) (.int j) = some (.bool (decide (i = j))) := opEq_int i j
@[simp] theorem opNe_intS (i j : Int) : opNe (.int i) (.int j) = some (.bool (!decide (i = j))) := opNe_int i j
@[simp] theorem opIsN_none (x : D) : opIsN x .none = some (.bool (isNon x)) := rfl
@[simp] theorem opNotN_none (x : D) : opNotN x .none = some (.bool (!isNon x)) := rfl
@[simp] theorem isNon_none : isNon .none = true := rfl
@[simp] theorem isNon_int (i : Int) : isNon (.int i) = false := rfl
@[simp] theorem isNon_bool (i : Bool) : isNon (.bool i) = false := rfl
@[simp] theorem isNon_str (i : Str) : isNon (.str i) = false := rfl
@[simp] theorem isNon_tup (i : List D) : isNon (.tuple i) = false := rfl
@[simp] theorem isNon_lst (i : List D) : isNon (.list i) = false := rfl
@[simp] theorem opNotB_bool (a b : Bool) : opNotB (.bool a) (.bool b) = some (.bool (!decide (a = b))) := rfl
@[simp] theorem opIsB_bool (a b : Bool) : opIsB (.bool a) (.bool b) = some (.bool (decide (a = b))) := rfl
@[simp] theorem opIsi_none (T : String) : opIsi T .none = some (.bool false) := rfl
@[simp] theorem opIsi_bool (T : String) (b : Bool) : opIsi T (.bool b) = some (.bool (T == "bool" || T == "int")) := rfl
@[simp] theorem opIsi_int (T : String) (b : Int) : opIsi T (.int b) = some (.bool (T == "int")) := rfl
@[simp] theorem opIsi_str (T : String) (b : Str) : opIsi T (.str b) = some (.bool (T == "str")) := rfl
@[simp] theorem opIsi_lst (T : String) (b : List D) : opIsi T (.list b) = some (.bool (T == "list")) := rfl
@[simp] theorem opIsi_tup (T : String) (b : List D) : opIsi T (.tuple b) = some (.bool (T == "tuple")) := rfl
@[simp] theorem opMin2_int (i j : Int) : opMin2 [.int i, .int j] = some (.int (min i j)) := by
  unfold opMin2
  simp only [Int.min_def]
  by_cases h : j < i
  · rw [if_pos h, if_neg (by omega)]
  · rw [if_neg h, if_pos (by omega)]
@[simp] theorem opMax2_int (i j : Int) : opMax2 [.int i, .int j] = some (.int (max i j)) := by
  unfold opMax2
  simp only [Int.max_def]
  by_cases h : j > i
  · rw [if_pos h, if_pos (by omega)]
  · rw [if_neg h]
    by_cases h2 : i ≤ j
    · rw [if_pos h2, show i = j from by omega]
    · rw [if_neg h2]
theorem intsOf_map' (ns : List Int) : intsOf (ns.map .int) = some ns := by
  induction ns with
  | nil => rfl
  | cons n ns ih => rw [List.map_cons, intsOf, ih]; rfl
theorem blsOf_map' (ns : List Bool) : blsOf (ns.map .bool) = some ns := by
  induction ns with
  | nil => rfl
  | cons n ns ih => rw [List.map_cons, blsOf, ih]; rfl
@[simp] theorem opSum_lst (ns : List Int) : opSum [.list (ns.map .int)] = some (.int ns.sum) := by
  simp [opSum, intsOf_map']
@[simp] theorem opSum_tup (ns : List Int) : opSum [.tuple (ns.map .int)] = some (.int ns.sum) := by
  simp [opSum, intsOf_map']
@[simp] theorem opAll_lst (ns : List Bool) : opAll [.list (ns.map .bool)] = some (.bool (ns.all id)) := by
  simp [opAll, blsOf_map']
@[simp] theorem opAny_lst (ns : List Bool) : opAny [.list (ns.map .bool)] = some (.bool (ns.any id)) := by
  simp [opAny, blsOf_map']
/-! ## the order of data -/
open PySem.W in
theorem dataLt_irrefl (x : D) : dataLt x x = false := PyProof.Rows.lex_irrefl _
open PySem.W in
theorem dataLt_asymm {x y : D} (h : dataLt x y = true) : dataLt y x = false := by
  cases e : dataLt y x with
  | false => rfl
  | true =>
    have := PyProof.Rows.lex_trans _ _ _ h e
    rw [PyProof.Rows.lex_irrefl] at this; cases this
open PySem.W in
theorem dataLt_cons {x y : D} {xs ys : List D} (h : alike x y = true) : dataLt (.tuple (x :: xs)) (.tuple (y :: ys)) = if PyData.eqv x y = true then dataLt (.tuple xs) (.tuple ys) else dataLt x y := by
  obtain ⟨h1, h2⟩ := toks_eqv x y h
  rw [dataLt_tuple, toks_all_cons, toks_all_cons, PyProof.Rows.lex_self]
  cases e : PyData.eqv x y with
  | true =>
    rw [if_pos rfl, h1 e, lex_pre, dataLt_tuple]
  | false =>
    rw [if_neg Bool.false_ne_true, h2 e]; rfl
open PySem.W in
theorem dataLt_nil_cons (y : D) (ys : List D) : dataLt (.tuple []) (.tuple (y :: ys)) = true := by
  rw [dataLt_tuple, toks_all_cons, keyToksAll, PyProof.Rows.lex_diff (by simp)]; rfl
open PySem.W in
theorem dataLt_cons_nil (y : D) (ys : List D) : dataLt (.tuple (y :: ys)) (.tuple []) = false := by
  rw [dataLt_tuple, toks_all_cons, keyToksAll, PyProof.Rows.lex_diff (by simp)]; rfl
open PySem.W in
theorem dataLt_ints_cons (x y : Int) (xs ys : List D) : dataLt (.tuple (.int x :: xs)) (.tuple (.int y :: ys)) = if x = y then dataLt (.tuple xs) (.tuple ys) else decide (x < y) := by
  rw [dataLt_cons rfl, dataLt_int]
  by_cases h : x = y
  · rw [if_pos h, if_pos (by simp [PyData.eqv, h])]
  · rw [if_neg h, if_neg (by simp [PyData.eqv, h])]
theorem bestD_min {m : D} : ∀ {xs : List D} {x : D}, m ∈ x :: xs → (∀ y ∈ x :: xs, y ≠ m → PySem.W.dataLt m y = true) → bestD false x xs = m
  | [], x, hm, _ => (List.mem_singleton.mp hm).symm
  | y :: ys, x, hm, h => by
    have key : m ∈ (if PySem.W.dataLt y x = true then y else x) :: ys ∧ ∀ z ∈ (if PySem.W.dataLt y x = true then y else x) :: ys, z ∈ x :: y :: ys := by
      refine ⟨?_, fun z hz => ?_⟩
      · rcases List.mem_cons.mp hm with rfl | hm
        · by_cases e : y = m
          · subst e; rw [ite_self]; exact List.mem_cons_self ..
          · rw [if_neg (by rw [dataLt_asymm (h y (by simp) e)]; exact Bool.false_ne_true)]
            exact List.mem_cons_self ..
        · rcases List.mem_cons.mp hm with rfl | hm
          · by_cases e : x = m
            · subst e; rw [ite_self]; exact List.mem_cons_self ..
            · rw [if_pos (h x (by simp) e)]; exact List.mem_cons_self ..
          · exact List.mem_cons_of_mem _ hm
      · rcases List.mem_cons.mp hz with rfl | hz
        · split <;> simp
        · exact List.mem_cons_of_mem _ (List.mem_cons_of_mem _ hz)
    have ih := bestD_min (m := m) key.1 fun z hz hne => h z (key.2 z hz) hne
    show (y :: ys).foldl (fun a y => if PySem.W.dataLt y a = true then y else a) x = m
    rw [List.foldl_cons]
    exact ih
theorem plainAll_of {l : List D} (h : ∀ x ∈ l, x.plain = true) : PyData.plainAll l = true := by
  induction l with
  | nil => rfl
  | cons x l ih =>
    rw [PyData.plainAll, h x (List.mem_cons_self ..), ih fun y hy => h y (List.mem_cons_of_mem _ hy)]; rfl
theorem depthAll_of {n : Nat} {l : List D} (h : ∀ x ∈ l, x.depth ≤ n) : PyData.depthAll l ≤ n := by
  induction l with
  | nil => exact Nat.zero_le _
  | cons x l ih =>
    rw [PyData.depthAll]
    exact Nat.max_le.mpr ⟨h x (List.mem_cons_self ..), ih fun y hy => h y (List.mem_cons_of_mem _ hy)⟩
theorem bestOk_of {l : List D} (hp : ∀ x ∈ l, x.plain = true) (hd : ∀ x ∈ l, x.depth ≤ 60) (ha : ∀ x ∈ l, ∀ y ∈ l, PySem.W.alike x y = true) (hn : ∀ x ∈ l, notNon x = true) : bestOk l = true := by
  unfold bestOk
  rw [plainAll_of hp, decide_eq_true (depthAll_of hd), List.all_eq_true.mpr fun x hx => List.all_eq_true.mpr fun y hy => ha x hx y hy, List.all_eq_true.mpr hn]; rfl
/-- the least of a list of data of one kind -/
theorem opBest_min {l : List D} {m : D} (hm : m ∈ l) (hp : ∀ x ∈ l, x.plain = true) (hd : ∀ x ∈ l, x.depth ≤ 60) (ha : ∀ x ∈ l, ∀ y ∈ l, PySem.W.alike x y = true) (hn : ∀ x ∈ l, notNon x = true) (h : ∀ y ∈ l, y ≠ m → PySem.W.dataLt m y = true) : opBest false [.list l] = some m := by
  cases l with
  | nil => cases hm
  | cons x xs =>
    show (if _ then _ else _) = _
    rw [if_pos (bestOk_of hp hd ha hn), bestD_min hm h]
theorem opBest_ints {l : List Int} {m : Int} (hm : m ∈ l) (h : ∀ y ∈ l, m ≤ y) : opBest false [.list (l.map .int)] = some (.int m) := by
  refine opBest_min (List.mem_map.mpr ⟨m, hm, rfl⟩) ?_ ?_ ?_ ?_ ?_
  all_goals (intro x hx; obtain ⟨i, hi, rfl⟩ := List.mem_map.mp hx)
  · rfl
  · simp [PyData.depth]
  · intro y hy; obtain ⟨j, hj, rfl⟩ := List.mem_map.mp hy; rfl
  · rfl
  · intro hne
    rw [PySem.W.dataLt_int]
    have := h i hi
    have : i ≠ m := fun e => hne (by rw [e])
    exact decide_eq_true (by omega)
/-! ## lists against the empty list -/
theorem opNe_nil {l : List D} (hp : PyData.plainAll l = true) (hd : PyData.depthAll l ≤ 59) : opNe (.list l) (.list []) = some (.bool (!l.isEmpty)) := by
  have : cmpOk (.list l) (.list []) = true := by
    simp [cmpOk, PyData.plain, hp, PyData.depth, PyData.plainAll]; omega
  unfold opNe
  rw [if_pos this]
  cases l <;> simp [PyData.eqv, PyData.eqvAll]
theorem opEq_nil {l : List D} (hp : PyData.plainAll l = true) (hd : PyData.depthAll l ≤ 59) : opEq (.list l) (.list []) = some (.bool l.isEmpty) := by
  have : cmpOk (.list l) (.list []) = true := by
    simp [cmpOk, PyData.plain, hp, PyData.depth, PyData.plainAll]; omega
  unfold opEq
  rw [if_pos this]
  cases l <;> simp [PyData.eqv, PyData.eqvAll]
theorem opNe_nilT {l : List D} (hp : PyData.plainAll l = true) (hd : PyData.depthAll l ≤ 59) : opNe (.tuple l) (.tuple []) = some (.bool (!l.isEmpty)) := by
  have : cmpOk (.tuple l) (.tuple []) = true := by
    simp [cmpOk, PyData.plain, hp, PyData.depth, PyData.plainAll]; omega
  unfold opNe
  rw [if_pos this]
  cases l <;> simp [PyData.eqv, PyData.eqvAll]
theorem allD_of {fg : DG} {ft : DT} {fe : DE} {ρ : Ro} {ω : Wd} (p : D → Bool) (l : List D) (h : ∀ a ∈ l, ∃ ρ1, fg a ρ = some ρ1 ∧ ft ρ1 ω = some (true, ω) ∧ fe ρ1 ω = some (.bool (p a), ω)) : anyD false fg ft fe ρ l ω = some (.bool (l.all p), ω) := (anyD_of false p l h).trans (by simp)
theorem anyD_of' {fg : DG} {ft : DT} {fe : DE} {ρ : Ro} {ω : Wd} (p : D → Bool) (l : List D) (h : ∀ a ∈ l, ∃ ρ1, fg a ρ = some ρ1 ∧ ft ρ1 ω = some (true, ω) ∧ fe ρ1 ω = some (.bool (p a), ω)) : anyD true fg ft fe ρ l ω = some (.bool (l.any p), ω) := (anyD_of true p l h).trans (by simp)
/-! ## loops -/
/-- a loop with a state of slots; it never leaves early -/
theorem loop_inv {α : Type} {g : DG} {f : DS} {ω : Wd} (e : α → D) (I : List α → Ro → Prop) : ∀ (l : List α) (pre : List α) (ρ : Ro), I pre ρ → (∀ (pre : List α) (a : α) (ρ : Ro), a ∈ l → I pre ρ → ∃ ρ1 ρ2, g (e a) ρ = some ρ1 ∧ f ρ1 ω = some (.nx ρ2, ω) ∧ I (pre ++ [a]) ρ2) → ∃ ρ', loopD g f (l.map e) ρ ω = some (.nx ρ', ω) ∧ I (pre ++ l) ρ'
  | [], pre, ρ, h, _ => ⟨ρ, rfl, by rw [List.append_nil]; exact h⟩
  | a :: l, pre, ρ, h, hs => by
    obtain ⟨ρ1, ρ2, e1, e2, h2⟩ := hs pre a ρ (List.mem_cons_self ..) h
    obtain ⟨ρ', e3, h3⟩ := loop_inv e I l (pre ++ [a]) ρ2 h2 fun p b σ hb hi => hs p b σ (List.mem_cons_of_mem _ hb) hi
    refine ⟨ρ', ?_, ?_⟩
    · rw [List.map_cons]
      unfold loopD
      rw [e1]
      simp only [e2, e3]
    · rw [List.append_assoc] at h3; exact h3
/-- a loop by the shape of its slots behind a part of the items; x stands for slots that are of no account -/
theorem loop_shP {α β : Type} {g : DG} {f : DS} {ω : Wd} (e : α → D) (sh : List α → β → Ro) {l0 : List α} : ∀ (l pre : List α) (x : β), l0 = pre ++ l → (∀ (pre : List α) (a : α) (suf : List α) (x : β), l0 = pre ++ a :: suf → ∃ ρ1, g (e a) (sh pre x) = some ρ1 ∧ ∃ x', f ρ1 ω = some (.nx (sh (pre ++ [a]) x'), ω)) → ∃ x', loopD g f (l.map e) (sh pre x) ω = some (.nx (sh l0 x'), ω)
  | [], pre, x, h, _ => ⟨x, by rw [List.append_nil] at h; subst h; rfl⟩
  | a :: l, pre, x, h, hs => by
    obtain ⟨ρ1, e1, x1, e2⟩ := hs pre a l x h
    obtain ⟨x', e3⟩ := loop_shP e sh l (pre ++ [a]) x1 (by rw [List.append_assoc]; exact h) hs
    refine ⟨x', ?_⟩
    rw [List.map_cons]
    unfold loopD
    rw [e1]
    simp only [e2, e3]
theorem loop_sh {α β : Type} {g : DG} {f : DS} {ω : Wd} (e : α → D) (sh : List α → β → Ro) (l : List α) (x : β) (h : ∀ (pre : List α) (a : α) (suf : List α) (x : β), l = pre ++ a :: suf → ∃ ρ1, g (e a) (sh pre x) = some ρ1 ∧ ∃ x', f ρ1 ω = some (.nx (sh (pre ++ [a]) x'), ω)) : ∃ x', loopD g f (l.map e) (sh [] x) ω = some (.nx (sh l x'), ω) :=
  loop_shP e sh l [] x rfl h
/-- a loop that looks at each item and returns early where one fails -/
theorem loop_all {α : Type} {g : DG} {f : DS} {ω : Wd} {d : D} (e : α → D) (p : α → Bool) (I : Ro → Prop) : ∀ (l : List α) (ρ : Ro), I ρ → (∀ (a : α) (ρ : Ro), a ∈ l → I ρ → ∃ ρ1, g (e a) ρ = some ρ1 ∧ ((p a = true ∧ ∃ ρ2, f ρ1 ω = some (.nx ρ2, ω) ∧ I ρ2) ∨ (p a = false ∧ f ρ1 ω = some (.rt d, ω)))) → (l.all p = true ∧ ∃ ρ', loopD g f (l.map e) ρ ω = some (.nx ρ', ω) ∧ I ρ') ∨ (l.all p = false ∧ loopD g f (l.map e) ρ ω = some (.rt d, ω))
  | [], ρ, h, _ => .inl ⟨rfl, ρ, rfl, h⟩
  | a :: l, ρ, h, hs => by
    obtain ⟨ρ1, e1, ⟨hp, ρ2, e2, h2⟩ | ⟨hp, e2⟩⟩ := hs a ρ (List.mem_cons_self ..) h
    · rcases loop_all e p I l ρ2 h2 fun b σ hb hi => hs b σ (List.mem_cons_of_mem _ hb) hi with ⟨q, ρ', e3, h3⟩ | ⟨q, e3⟩
      · refine .inl ⟨by rw [List.all_cons, hp, q]; rfl, ρ', ?_, h3⟩
        rw [List.map_cons]; unfold loopD; rw [e1]; simp only [e2, e3]
      · refine .inr ⟨by rw [List.all_cons, hp, q]; rfl, ?_⟩
        rw [List.map_cons]; unfold loopD; rw [e1]; simp only [e2, e3]
    · refine .inr ⟨by rw [List.all_cons, hp]; rfl, ?_⟩
      rw [List.map_cons]; unfold loopD; rw [e1]; simp only [e2]
theorem loop_one {g : DG} {f : DS} {ω : Wd} {d : D} {ρ ρ1 ρ2 : Ro} (e1 : g d ρ = some ρ1) (e2 : f ρ1 ω = some (.nx ρ2, ω)) : loopD g f [d] ρ ω = some (.nx ρ2, ω) := by
  unfold loopD; rw [e1]; simp only [e2]; rfl
/-- a while, by a measure -/
theorem while_inv {c : DT} {f : DS} {ω : Wd} (I : Nat → Ro → Prop) (Q : Ro → Prop) (hs : ∀ n ρ, I n ρ → (c ρ ω = some (false, ω) ∧ Q ρ) ∨ (c ρ ω = some (true, ω) ∧ ∃ ρ' m, f ρ ω = some (.nx ρ', ω) ∧ m < n ∧ I m ρ')) : ∀ (k n : Nat) (ρ : Ro), I n ρ → n < k → ∃ ρ', whileD c f k ρ ω = some (.nx ρ', ω) ∧ Q ρ'
  | 0, n, _, _, hk => absurd hk (Nat.not_lt_zero _)
  | k + 1, n, ρ, h, hk => by
    rcases hs n ρ h with ⟨e, q⟩ | ⟨e, ρ', m, e2, hm, h2⟩
    · exact ⟨ρ, by unfold whileD; rw [e]; rfl, q⟩
    · obtain ⟨ρ2, e3, q⟩ := while_inv I Q hs k m ρ' h2 (by omega)
      exact ⟨ρ2, by unfold whileD; rw [e]; simp only [if_true, e2, e3], q⟩
/-! ## statements, step by step, the store left alone -/
section
variable {f h : DS} {ef : DE} {af : DA} {c : DT} {g : DG} {ρ ρ1 : Ro} {ω : Wd} {d : D} {ds xs : List D} {i : Nat} {r : Option (Out × Wd)}
theorem x_fn {m : Nat} (k : f (ds.map SV.val ++ List.replicate (m - ds.length) .un) ω = some (.rt d, ω)) : defD m f ds ω = some (d, ω) := by unfold defD; rw [k]
theorem x_seq (e : f ρ ω = some (.nx ρ1, ω)) (k : h ρ1 ω = r) : sSeq f h ρ ω = r := by rw [sSeq_ap, e]; exact k
theorem x_end (e : f ρ ω = some (.rt d, ω)) : sSeq f h ρ ω = some (.rt d, ω) := by rw [sSeq_ap, e]
theorem x_set (e : ef ρ ω = some (d, ω)) (k : h (ρ.set i (.val d)) ω = r) : sSeq (sSet i ef) h ρ ω = r := x_seq (by rw [sSet_ap, e]) k
theorem x_set1 (e : ef ρ ω = some (d, ω)) : sSet i ef ρ ω = some (.nx (ρ.set i (.val d)), ω) := by rw [sSet_ap, e]
theorem x_own (e : af ρ ω = some (ds, ω)) (k : h (ρ.set i (.own ds)) ω = r) : sSeq (sOwn i af) h ρ ω = r := x_seq (by rw [sOwn_ap, e]) k
theorem x_app1 (e : ef ρ ω = some (d, ω)) (hx : ρ[i]? = some (.own xs)) (hz : xs.length < 16777216) : sApp i ef ρ ω = some (.nx (ρ.set i (.own (xs ++ [d]))), ω) := by
  rw [sApp_ap, e]; simp only [hx]; rw [if_pos (by rw [sizeLine_num]; exact hz)]
theorem x_app (e : ef ρ ω = some (d, ω)) (hx : ρ[i]? = some (.own xs)) (hz : xs.length < 16777216) (k : h (ρ.set i (.own (xs ++ [d]))) ω = r) : sSeq (sApp i ef) h ρ ω = r := x_seq (x_app1 e hx hz) k
theorem x_ext1 (e : ef ρ ω = some (.list ds, ω)) (hx : ρ[i]? = some (.own xs)) (hz : xs.length + ds.length ≤ 16777216) : sExt i ef ρ ω = some (.nx (ρ.set i (.own (xs ++ ds))), ω) := by
  rw [sExt_ap, e]; simp only [hx]; rw [if_pos (by rw [sizeLine_num]; exact hz)]
theorem x_ifT (e : c ρ ω = some (true, ω)) (k : f ρ ω = r) : sIf c f h ρ ω = r := by rw [sIf_ap, e]; exact k
theorem x_ifF (e : c ρ ω = some (false, ω)) (k : h ρ ω = r) : sIf c f h ρ ω = r := by rw [sIf_ap, e]; exact k
theorem x_for1 (e : af ρ ω = some (ds, ω)) (l : loopD g f ds ρ ω = r) : sFor af g f ρ ω = r := by rw [sFor_ap, e]; exact l
theorem x_for (e : af ρ ω = some (ds, ω)) (l : loopD g f ds ρ ω = some (.nx ρ1, ω)) (k : h ρ1 ω = r) : sSeq (sFor af g f) h ρ ω = r := x_seq (x_for1 e l) k
theorem x_ret (e : ef ρ ω = some (d, ω)) : sRet ef ρ ω = some (.rt d, ω) := by rw [sRet_ap, e]
theorem x_while (l : whileD c f FUEL ρ ω = some (.nx ρ1, ω)) (k : h ρ1 ω = r) : sSeq (sWhile c f) h ρ ω = r := x_seq l k
theorem x_next : sNext ρ ω = some (.nx ρ, ω) := rfl
theorem x_lc {fi : DA} {fg : DG} {ft : DT} {fe : DE} {vs : List Nat} (e : fi ρ ω = some (ds, ω)) (l : lcD fg ft fe (wipeR ρ vs) ds ω = some (xs, ω)) : eLcN fi fg ft fe vs ρ ω = some (xs, ω) := by rw [eLcN_ap, e]; exact l
theorem x_gen {last : Bool} {fi : DA} {fg : DG} {ft : DT} {fe : DE} {vs : List Nat} (e : fi ρ ω = some (ds, ω)) (l : anyD last fg ft fe (wipeR ρ vs) ds ω = some (d, ω)) : eGenN last fi fg ft fe vs ρ ω = some (d, ω) := by rw [eGenN_ap, e]; exact l
theorem x_ofN (e : af ρ ω = some (xs, ω)) : eOfN af ρ ω = some (.list xs, ω) := by rw [eOfN_ap, e]
theorem x_call {op : List D → Option D} (e : af ρ ω = some (xs, ω)) (k : op xs = some d) : eCall op af ρ ω = some (d, ω) := by rw [eCall_ap, e]; simp only [k]
theorem x_cons {x : D} (e : ef ρ ω = some (x, ω)) (k : af ρ ω = some (xs, ω)) : aCons ef af ρ ω = some (x :: xs, ω) := by rw [aCons_ap, e]; simp only [k]
theorem x_one {x : D} (e : ef ρ ω = some (x, ω)) : aCons ef aNil ρ ω = some ([x], ω) := x_cons e rfl
theorem x_bin {op : D → D → Option D} {f h : DE} {x y : D} (e : f ρ ω = some (x, ω)) (e2 : h ρ ω = some (y, ω)) (k : op x y = some d) : eBin op f h ρ ω = some (d, ω) := by rw [eBin_ap, e]; simp only [e2, k]
theorem x_un {op : D → Option D} {f : DE} {x : D} (e : f ρ ω = some (x, ω)) (k : op x = some d) : eUn op f ρ ω = some (d, ω) := by rw [eUn_ap, e]; simp only [k]
theorem x_tE {b : Bool} (e : ef ρ ω = some (.bool b, ω)) : tOfE ef ρ ω = some (b, ω) := by rw [tOfE_ap, e]
theorem x_fnP {f : List D → Wd → Option (D × Wd)} (e : af ρ ω = some (xs, ω)) (k : f xs ⟨false, []⟩ = some (d, ⟨false, []⟩)) : eFunP f af ρ ω = some (d, ω) := by rw [eFunP_ap, e]; simp only [k]
end
theorem FUEL_num : FUEL = 1000000 := rfl
theorem rgOk_of {i j : Int} (h1 : -1000000000000 ≤ i) (h2 : i ≤ 1000000000000) (h3 : -1000000000000 ≤ j) (h4 : j ≤ 1000000000000) (h5 : j - i ≤ 16777216) : rgOk i j = true := by
  rw [rgOk_eq]; simp; omega
abbrev natD (k : Nat) : D := .int (k : Int)
theorem x_rng {f : DE} {ρ : Ro} {ω : Wd} {n : Nat} (e : f ρ ω = some (.int n, ω)) (hn : n ≤ 16777216) : iRange (aCons f aNil) ρ ω = some ((List.range n).map natD, ω) := by
  rw [iRange_ap, aCons_ap, e]
  simp only [aNil_ap]
  rw [if_pos (rgOk_nat hn), rgD0]
theorem x_rng1 {f g : DE} {ρ : Ro} {ω : Wd} {a n : Nat} (e : f ρ ω = some (.int a, ω)) (e2 : g ρ ω = some (.int ((a + n : Nat) : Int), ω)) (hn : a + n ≤ 16777216) : iRange (aCons f (aCons g aNil)) ρ ω = some ((List.range n).map fun k => natD (a + k), ω) := by
  rw [iRange_ap, aCons_ap, e]
  simp only [aCons_ap, e2, aNil_ap]
  rw [if_pos (rgOk_of (by omega) (by omega) (by omega) (by omega) (by omega))]
  unfold rgD
  rw [show (((a + n : Nat) : Int) - (a : Int)).toNat = n from by omega]
  congr 2
end Dn
end

section
namespace Dn
open PySem PySem.Spec L2
local instance : Tb := noTb
variable {t : List D} {ρ : Ro} {Q Q' : Ro → Prop} {R : D → Prop}
/-! ## further rules over drawn input -/
theorem WS.step {f g : DS} {ρ1 : Ro} (e : ∀ ω, f ρ ω = some (.nx ρ1, ω)) (k : WS t g ρ1 Q R) : WS t (sSeq f g) ρ Q R := fun ω i => by
  obtain ⟨ρ2, ω2, i2, h⟩ := k ω i
  refine ⟨ρ2, ω2, i2, ?_⟩
  rw [sSeq_ap, e]; exact h
theorem WS.skip {c : DT} {f g : DS} (e : ∀ ω, c ρ ω = some (false, ω)) (k : WS t g ρ Q R) : WS t (sSeq (sIf c f sNext) g) ρ Q R := WS.step (fun ω => x_ifF (e ω) rfl) k
theorem WS.setP {i : Nat} {f : DE} {g : DS} {d : D} (e : ∀ ω, f ρ ω = some (d, ω)) (k : WS t g (ρ.set i (.val d)) Q R) : WS t (sSeq (sSet i f) g) ρ Q R := WS.step (fun ω => x_set1 (e ω)) k
theorem WS.ownP {i : Nat} {f : DA} {g : DS} {ds : List D} (e : ∀ ω, f ρ ω = some (ds, ω)) (k : WS t g (ρ.set i (.own ds)) Q R) : WS t (sSeq (sOwn i f) g) ρ Q R := WS.step (fun ω => by rw [sOwn_ap, e]) k
theorem WS.pureR {f : DS} (d : D) (h : ∀ ω, f ρ ω = some (.rt d, ω)) (r : R d) : WS t f ρ Q R := fun ω i => ⟨ρ, ω, i, .inr ⟨d, h ω, r⟩⟩
theorem WS.retP {f : DE} {d : D} (e : ∀ ω, f ρ ω = some (d, ω)) (r : R d) : WS t (sRet f) ρ Q R := WS.pureR d (fun ω => x_ret (e ω)) r
theorem WS.asgThen {f : DE} {g : DG} {h : DS} {P : D → Prop} (e : WE t f ρ P) (k : ∀ d, P d → ∃ ρ1, g d ρ = some ρ1 ∧ WS t h ρ1 Q R) : WS t (sSeq (sAsg f g) h) ρ Q R := fun ω i => by
  obtain ⟨d, ω1, e1, i1, p⟩ := e ω i
  obtain ⟨ρ1, e2, w⟩ := k d p
  obtain ⟨ρ2, ω2, i2, h2⟩ := w ω1 i1
  refine ⟨ρ2, ω2, i2, ?_⟩
  rw [sSeq_ap, sAsg_ap, e1]
  simp only [e2]
  exact h2
/-- a comprehension with draws in its items -/
theorem WA.lcL {fg : DG} {ft : DT} {fe : DE} {P Q : D → Prop} (hk : ∀ d, P d → ∃ ρ1, fg d ρ = some ρ1 ∧ (∀ ω, ft ρ1 ω = some (true, ω)) ∧ WE t fe ρ1 Q) : ∀ (ds : List D), (∀ d ∈ ds, P d) → ∀ ω, BoxI t ω → ∃ xs ω', lcD fg ft fe ρ ds ω = some (xs, ω') ∧ BoxI t ω' ∧ xs.length = ds.length ∧ ∀ x ∈ xs, Q x
  | [], _, ω, i => ⟨[], ω, rfl, i, rfl, by simp⟩
  | d :: ds, hp, ω, i => by
    obtain ⟨ρ1, e1, e2, w⟩ := hk d (hp d (List.mem_cons_self ..))
    obtain ⟨x, ω1, e3, i1, q⟩ := w ω i
    obtain ⟨xs, ω2, e4, i2, hl, hq⟩ := WA.lcL hk ds (fun d hd => hp d (List.mem_cons_of_mem _ hd)) ω1 i1
    refine ⟨x :: xs, ω2, ?_, i2, by rw [List.length_cons, hl, List.length_cons], fun y hy => ?_⟩
    · unfold lcD
      rw [e1]
      simp only [e2, if_true, e3, e4]
    · rcases List.mem_cons.mp hy with rfl | hy
      · exact q
      · exact hq y hy
theorem WA.lc {fi : DA} {fg : DG} {ft : DT} {fe : DE} {vs : List Nat} {n : Nat} {P Q : D → Prop} (hi : WA t fi ρ (fun ds => ds.length = n ∧ ∀ d ∈ ds, P d)) (hk : ∀ d, P d → ∃ ρ1, fg d (wipeR ρ vs) = some ρ1 ∧ (∀ ω, ft ρ1 ω = some (true, ω)) ∧ WE t fe ρ1 Q) : WA t (eLcN fi fg ft fe vs) ρ (fun xs => xs.length = n ∧ ∀ x ∈ xs, Q x) := fun ω i => by
  obtain ⟨ds, ω1, e1, i1, hl, hp⟩ := hi ω i
  obtain ⟨xs, ω2, e2, i2, hl2, hq⟩ := WA.lcL hk ds hp ω1 i1
  exact ⟨xs, ω2, by rw [eLcN_ap, e1]; exact e2, i2, hl2.trans hl, hq⟩
theorem WA.pure {f : DA} {P : List D → Prop} (ds : List D) (h : ∀ ω, f ρ ω = some (ds, ω)) (p : P ds) : WA t f ρ P := fun ω i => ⟨ds, ω, h ω, i, p⟩
theorem WE.if' {c : DT} {f g : DE} {P : D → Prop} {S : Bool → Prop} (hc : WT t c ρ S) (h1 : S true → WE t f ρ P) (h2 : S false → WE t g ρ P) : WE t (eIf c f g) ρ P := fun ω i => by
  obtain ⟨b, ω1, e1, i1, s⟩ := hc ω i
  cases b with
  | true =>
    obtain ⟨d, ω2, e2, i2, p⟩ := h1 s ω1 i1
    exact ⟨d, ω2, by rw [eIf_ap, e1]; simp only [if_true, e2], i2, p⟩
  | false =>
    obtain ⟨d, ω2, e2, i2, p⟩ := h2 s ω1 i1
    exact ⟨d, ω2, by rw [eIf_ap, e1]; simp only [Bool.false_eq_true, if_false, e2], i2, p⟩
theorem WT.pure {c : DT} {P : Bool → Prop} (b : Bool) (h : ∀ ω, c ρ ω = some (b, ω)) (p : P b) : WT t c ρ P := fun ω i => ⟨b, ω, h ω, i, p⟩
theorem WT.or {f g : DT} {P P' Q : Bool → Prop} (h : WT t f ρ P) (h' : P false → WT t g ρ P') (kt : P true → Q true) (kf : P false → ∀ c, P' c → Q c) : WT t (tOrD f g) ρ Q := fun ω i => by
  obtain ⟨c, ω1, e1, i1, p1⟩ := h ω i
  cases c with
  | true => exact ⟨true, ω1, by simp [e1], i1, kt p1⟩
  | false =>
    obtain ⟨c, ω2, e2, i2, p2⟩ := h' p1 ω1 i1
    exact ⟨c, ω2, by simp [e1, e2], i2, kf p1 c p2⟩
theorem WT.not {f : DT} {P Q : Bool → Prop} (h : WT t f ρ P) (k : ∀ c, P c → Q (!c)) : WT t (tNotD f) ρ Q := fun ω i => by
  obtain ⟨c, ω1, e1, i1, p1⟩ := h ω i
  exact ⟨!c, ω1, by simp [e1], i1, k c p1⟩
/-- an item at a drawn place of a list that is known -/
theorem WE.at {f g : DE} {P : D → Prop} {ds : List D} (h : ∀ ω, f ρ ω = some (.list ds, ω)) (hg : WE t g ρ (IntIn 0 ds.length)) (k : ∀ d ∈ ds, P d) : WE t (eBin opIx f g) ρ P := by
  refine WE.bin (P := fun d => d = .list ds) (WE.pure _ h rfl) hg ?_
  rintro x y rfl ⟨i, rfl, h0, h1⟩
  obtain ⟨d, e, hd⟩ := atI_mem (xs := ds) h0 h1
  exact ⟨d, e, k d hd⟩
theorem WE.atT {f g : DE} {P : D → Prop} {ds : List D} (h : ∀ ω, f ρ ω = some (.tuple ds, ω)) (hg : WE t g ρ (IntIn 0 ds.length)) (k : ∀ d ∈ ds, P d) : WE t (eBin opIx f g) ρ P := by
  refine WE.bin (P := fun d => d = .tuple ds) (WE.pure _ h rfl) hg ?_
  rintro x y rfl ⟨i, rfl, h0, h1⟩
  obtain ⟨d, e, hd⟩ := atI_mem (xs := ds) h0 h1
  exact ⟨d, e, k d hd⟩
theorem WA.one {f : DE} {P : D → Prop} {Q : List D → Prop} (h : WE t f ρ P) (k : ∀ d, P d → Q [d]) : WA t (aCons f aNil) ρ Q := fun ω i => by
  obtain ⟨d, ω1, e1, i1, p⟩ := h ω i
  exact ⟨[d], ω1, x_cons' e1, i1, k d p⟩
where
  x_cons' {f : DE} {ω ω1 : Wd} {d : D} (e : f ρ ω = some (d, ω1)) : aCons f aNil ρ ω = some ([d], ω1) := by rw [aCons_ap, e]; rfl
theorem WE.tuple {f : DE} {P : D → Prop} {S : List D → Prop} (h : WE t f ρ (fun d => ∃ ds, d = .list ds ∧ S ds)) (k : ∀ ds, S ds → P (.tuple ds)) : WE t (eCall opTuple (aCons f aNil)) ρ P := fun ω i => by
  obtain ⟨d, ω1, e1, i1, ds, rfl, s⟩ := h ω i
  exact ⟨.tuple ds, ω1, by rw [eCall_ap, aCons_ap, e1]; rfl, i1, k ds s⟩
theorem WE.ofN {f : DA} {S : List D → Prop} (h : WA t f ρ S) : WE t (eOfN f) ρ (fun d => ∃ ds, d = .list ds ∧ S ds) := WE.ofA h fun ds s => ⟨ds, rfl, s⟩
theorem log_small {m : Int} (h0 : 0 ≤ m) (h : m < 2 ^ 60) : m.natAbs.log2 < 9000 := by
  by_cases hz : m.natAbs = 0
  · rw [hz]; decide
  · have : m.natAbs.log2 < 60 := (Nat.log2_lt hz).mpr (by omega)
    omega
/-- what both sides say alike -/
theorem same_of {f g : DE} {n : Nat} {d : D} {ω : Wd} (h1 : f ρ ω = some (d, ω)) (h2 : g ρ ω = some (d, ω)) (hk : okD d = true) (hd : dpt d ≤ n) : eFunP (dSameD n) (aCons f (aCons g aNil)) ρ ω = some (.bool true, ω) :=
  x_fnP (x_cons h1 (x_one h2)) (sameD_refl n d _ hk hd)
theorem same_of' {f g : DE} {n : Nat} {d : D} {ω : Wd} (h1 : f ρ ω = some (d, ω)) (h2 : g ρ ω = some (d, ω)) (hk : okD d = true) (hd : dpt d ≤ n) : eFunP (dSame n) (aCons f (aCons g aNil)) ρ ω = some (.bool true, ω) :=
  x_fnP (x_cons h1 (x_one h2)) (same_refl n d _ hk hd)
theorem notT {c : DE} {ω : Wd} (h : c ρ ω = some (.bool true, ω)) : tNotD (tOfE c) ρ ω = some (false, ω) := by rw [tNotD_ap, tOfE_ap, h]; rfl
theorem x_not {c : DE} {ω : Wd} {b : Bool} (h : c ρ ω = some (.bool b, ω)) : tNotD (tOfE c) ρ ω = some (!b, ω) := by rw [tNotD_ap, tOfE_ap, h]
theorem x_tup {a : DA} {ω : Wd} {ds : List D} (h : a ρ ω = some (ds, ω)) : eTup a ρ ω = some (.tuple ds, ω) := by rw [eTup_ap, h]
theorem x_lst {a : DA} {ω : Wd} {ds : List D} (h : a ρ ω = some (ds, ω)) : eLst a ρ ω = some (.list ds, ω) := by rw [eLst_ap, h]
theorem isTrue {c : DE} {ω : Wd} (h : c ρ ω = some (.bool true, ω)) : tOfE (eBin opNotB c (eC (.bool true))) ρ ω = some (false, ω) := by rw [tOfE_ap, eBin_ap, h]; rfl
theorem isFalse {c : DE} {ω : Wd} (h : c ρ ω = some (.bool false, ω)) : tOfE (eBin opNotB c (eC (.bool false))) ρ ω = some (false, ω) := by rw [tOfE_ap, eBin_ap, h]; rfl
theorem orF {c e : DT} {ω : Wd} (h : c ρ ω = some (false, ω)) (k : e ρ ω = some (false, ω)) : tOrD c e ρ ω = some (false, ω) := by rw [tOrD_ap, h]; exact k
theorem okL_of' : ∀ {xs : List D}, (∀ x ∈ xs, okD x = true) → okL xs = true
  | [], _ => rfl
  | x :: xs, h => by
    rw [okL, h x (List.mem_cons_self ..), okL_of' fun y hy => h y (List.mem_cons_of_mem _ hy)]; rfl
theorem dptL_of {n : Nat} : ∀ {xs : List D}, (∀ x ∈ xs, dpt x ≤ n) → dptL xs ≤ n
  | [], _ => Nat.zero_le _
  | x :: xs, h => by
    rw [dptL]
    exact Nat.max_le.mpr ⟨h x (List.mem_cons_self ..), dptL_of fun y hy => h y (List.mem_cons_of_mem _ hy)⟩
end Dn
end

section
namespace G_k34
open PySem PySem.Spec L2 Dn
set_option maxHeartbeats 0
/-! ## the text by places -/
def top (i : Nat) : Stmt := PySem.Challenge.pw_onewatcher_k34_plans_and_floors.main.body.getD i (.Pass ⟨0, 0, 0, 0⟩)
abbrev s_is_number : Stmt := top 1
abbrev s_leaf_count : Stmt := top 3
abbrev s_is_plan : Stmt := top 6
abbrev s_round_cost : Stmt := top 7
abbrev s_cost_of_plan : Stmt := top 8
abbrev s_least : Stmt := top 9
abbrev s_bounds_for : Stmt := top 10
abbrev s_make_floors : Stmt := top 11
abbrev s_is_whole : Stmt := top 12
abbrev s_is_floor_row : Stmt := top 13
abbrev s_is_below : Stmt := top 14
abbrev s_accepts_floors : Stmt := top 15
abbrev s_best_plan : Stmt := top 16
abbrev s_choices : Stmt := top 17
abbrev s__law_same : Stmt := top 19
abbrev s__law_box : Stmt := top 20
abbrev s__law_load : Stmt := top 21
abbrev s__law_draw : Stmt := top 22
abbrev s__law_plans : Stmt := top 23
abbrev s__law_round : Stmt := top 24
abbrev s__law_cost : Stmt := top 25
abbrev s__law_best : Stmt := top 26
abbrev s__law_at_most : Stmt := top 27
abbrev s__law_accepted : Stmt := top 28
abbrev s__law_changed : Stmt := top 29
abbrev s_law : Stmt := top 30
abbrev N_is_number : List Str := ["value", "least", "most"]
abbrev N_leaf_count : List Str := ["height", "count", "_"]
abbrev N_is_plan : List Str := ["value", "level", "depth"]
abbrev N_round_cost : List Str := ["depth", "costs"]
abbrev N_cost_of_plan : List Str := ["plan", "costs", "depth"]
abbrev N_least : List Str := ["numbers", "known", "number"]
abbrev N_bounds_for : List Str := ["row", "level", "costs", "found", "depth"]
abbrev N_make_floors : List Str := ["level", "rounds", "costs", "rows", "_", "lower"]
abbrev N_is_whole : List Str := ["value"]
abbrev N_is_floor_row : List Str := ["value", "level", "number"]
abbrev N_is_below : List Str := ["number", "bounds", "bound"]
abbrev N_accepts_floors : List Str := ["level", "rounds", "costs", "value", "at", "lower", "row"]
abbrev N_best_plan : List Str := ["level", "rounds", "costs", "floors", "whole", "plans", "found", "further", "plan", "left", "depth", "more", "rest"]
abbrev N_choices : List Str := ["level", "costs", "found", "rounds", "best"]
abbrev N__law_same : List Str := ["a", "b", "k", "key"]
abbrev N__law_box : List Str := ["script", "nodes"]
abbrev N__law_load : List Str := ["box", "cells", "cell", "size", "first", "second"]
abbrev N__law_draw : List Str := ["box", "many", "digit"]
abbrev N__law_plans : List Str := ["level", "rounds", "found", "row", "plan", "left", "depth"]
abbrev N__law_round : List Str := ["depth", "costs"]
abbrev N__law_cost : List Str := ["plan", "costs", "depth"]
abbrev N__law_best : List Str := ["level", "rounds", "costs", "rows", "plan"]
abbrev N__law_at_most : List Str := ["number", "bounds", "known", "bound"]
abbrev N__law_accepted : List Str := ["level", "rounds", "costs", "value", "row", "r", "lower", "bounds", "x", "depth"]
abbrev N__law_changed : List Str := ["box", "value", "at", "rows"]
abbrev N_law : List Str := ["script", "box", "level", "rounds", "costs", "plans", "plan", "value", "floors", "r", "row", "lower", "turn", "pairs", "due", "k", "best", "x", "pair", "other"]
/-! ## the denotations -/
noncomputable def b_is_number : DS :=
  (sRet (eAnd (eUn (opIsi "int") (eVar 0)) (eAnd (eNot (eUn (opIsi "bool") (eVar 0))) (eChain opLe opLe (eVar 1) (eVar 0) (eVar 2)))))
noncomputable def d_is_number : List D → Wd → Option (D × Wd) := defD 3 b_is_number
noncomputable abbrev l_leaf_count_1 : DS :=
  (sSet 1 (eBin opMul (eC (.int 2)) (eVar 1)))
noncomputable def b_leaf_count : DS :=
  (sSeq (sSet 1 (eC (.int 1)))
  (sSeq (sFor (iRange (aCons (eVar 0) aNil)) (gSet 2) l_leaf_count_1)
  (sRet (eVar 1))))
noncomputable def d_leaf_count : List D → Wd → Option (D × Wd) := defD 3 b_leaf_count
noncomputable def b_is_plan : DS :=
  (sSeq (sIf (tOrD (tNotD (tOfE (eUn (opIsi "tuple") (eVar 0)))) (tNotD (tOfE (eGenN false (iSq (eVar 0)) (gSet 2) tYesD (eFunP d_is_number (aCons (eVar 2) (aCons (eC (.int 1)) (aCons (eC (.int 4)) aNil)))) [2])))) (sRet (eC (.bool false))) sNext)
  (sRet (eBin opEq (eCall opSum (aCons (eVar 0) aNil)) (eVar 1))))
noncomputable def d_is_plan : List D → Wd → Option (D × Wd) := defD 3 b_is_plan
noncomputable def b_round_cost : DS :=
  (sRet (eBin opAdd (eBin opIx (eVar 1) (eC (.int 0))) (eBin opMul (eBin opIx (eVar 1) (eC (.int 1))) (eBin opSub (eBin opMul (eC (.int 2)) (eFunP d_leaf_count (aCons (eVar 0) aNil))) (eC (.int 1))))))
noncomputable def d_round_cost : List D → Wd → Option (D × Wd) := defD 2 b_round_cost
noncomputable def b_cost_of_plan : DS :=
  (sRet (eBin opAdd (eCall opSum (aCons (eOfN (eLcN (iSq (eVar 0)) (gSet 2) tYesD (eFunP d_round_cost (aCons (eVar 2) (aCons (eVar 1) aNil))) [2])) aNil)) (eBin opIx (eVar 1) (eC (.int 2)))))
noncomputable def d_cost_of_plan : List D → Wd → Option (D × Wd) := defD 3 b_cost_of_plan
noncomputable def b_least : DS :=
  (sSeq (sSet 1 (eOfN (eLcN (iSq (eVar 0)) (gSet 2) (tOfE (eBin opNotN (eVar 2) (eC .none))) (eVar 2) [2])))
  (sRet (eIf (tOfE (eBin opNe (eVar 1) (eLst aNil))) (eCall (opBest false) (aCons (eVar 1) aNil)) (eC .none))))
noncomputable def d_least : List D → Wd → Option (D × Wd) := defD 3 b_least
noncomputable abbrev l_bounds_for_1 : DS :=
  (sIf (tOfE (eBin opNotN (eBin opIx (eVar 0) (eBin opSub (eVar 1) (eVar 4))) (eC .none))) (sApp 3 (eBin opAdd (eFunP d_round_cost (aCons (eVar 4) (aCons (eVar 2) aNil))) (eBin opIx (eVar 0) (eBin opSub (eVar 1) (eVar 4))))) sNext)
noncomputable def b_bounds_for : DS :=
  (sSeq (sOwn 3 (aCons (eBin opIx (eVar 0) (eVar 1)) aNil))
  (sSeq (sIf (tOfE (eBin opEq (eVar 1) (eC (.int 0)))) (sApp 3 (eBin opIx (eVar 2) (eC (.int 2)))) sNext)
  (sSeq (sFor (iRange (aCons (eC (.int 1)) (aCons (eBin opAdd (eCall opMin2 (aCons (eVar 1) (aCons (eC (.int 4)) aNil))) (eC (.int 1))) aNil))) (gSet 4) l_bounds_for_1)
  (sRet (eVarB 3)))))
noncomputable def d_bounds_for : List D → Wd → Option (D × Wd) := defD 5 b_bounds_for
noncomputable abbrev l_make_floors_1 : DS :=
  (sApp 3 (eCall opTuple (aCons (eOfN (eLcN (iRange (aCons (eBin opAdd (eVar 0) (eC (.int 1))) aNil)) (gSet 5) tYesD (eFunP d_least (aCons (eFunP d_bounds_for (aCons (eIxOwn 3 (eUn opNeg (eC (.int 1)))) (aCons (eVar 5) (aCons (eVar 2) aNil)))) aNil)) [5])) aNil)))
noncomputable def b_make_floors : DS :=
  (sSeq (sOwn 3 (aCons (eCall opTuple (aCons (eBin opAdd (eLst (aCons (eBin opIx (eVar 2) (eC (.int 2))) aNil)) (eBin opMul (eLst (aCons (eC .none) aNil)) (eVar 0))) aNil)) aNil))
  (sSeq (sFor (iRange (aCons (eVar 1) aNil)) (gSet 4) l_make_floors_1)
  (sRet (eTupOwn 3))))
noncomputable def d_make_floors : List D → Wd → Option (D × Wd) := defD 6 b_make_floors
noncomputable def b_is_whole : DS :=
  (sRet (eAnd (eUn (opIsi "int") (eVar 0)) (eNot (eUn (opIsi "bool") (eVar 0)))))
noncomputable def d_is_whole : List D → Wd → Option (D × Wd) := defD 1 b_is_whole
noncomputable def b_is_floor_row : DS :=
  (sSeq (sIf (tOrD (tNotD (tOfE (eUn (opIsi "tuple") (eVar 0)))) (tOfE (eBin opNe (eCall opLen (aCons (eVar 0) aNil)) (eBin opAdd (eVar 1) (eC (.int 1)))))) (sRet (eC (.bool false))) sNext)
  (sRet (eGenN false (iSq (eVar 0)) (gSet 2) tYesD (eOr (eBin opIsN (eVar 2) (eC .none)) (eFunP d_is_whole (aCons (eVar 2) aNil))) [2])))
noncomputable def d_is_floor_row : List D → Wd → Option (D × Wd) := defD 3 b_is_floor_row
noncomputable def b_is_below : DS :=
  (sSeq (sSet 2 (eFunP d_least (aCons (eVar 1) aNil)))
  (sRet (eOr (eBin opIsN (eVar 2) (eC .none)) (eAnd (eBin opNotN (eVar 0) (eC .none)) (eBin opLe (eVar 0) (eVar 2))))))
noncomputable def d_is_below : List D → Wd → Option (D × Wd) := defD 3 b_is_below
noncomputable abbrev l_accepts_floors_1 : DS :=
  (sIf (tNotD (tOfE (eFunP d_is_below (aCons (eBin opIx (eBin opIx (eVar 3) (eBin opAdd (eVar 4) (eC (.int 1)))) (eVar 5)) (aCons (eFunP d_bounds_for (aCons (eBin opIx (eVar 3) (eVar 4)) (aCons (eVar 5) (aCons (eVar 2) aNil)))) aNil))))) (sRet (eC (.bool false))) sNext)
noncomputable abbrev l_accepts_floors_2 : DS :=
  (sFor (iRange (aCons (eBin opAdd (eVar 0) (eC (.int 1))) aNil)) (gSet 5) l_accepts_floors_1)
noncomputable def b_accepts_floors : DS :=
  (sSeq (sIf (tOrD (tNotD (tOfE (eUn (opIsi "tuple") (eVar 3)))) (tOrD (tOfE (eBin opNe (eCall opLen (aCons (eVar 3) aNil)) (eBin opAdd (eVar 1) (eC (.int 1))))) (tNotD (tOfE (eGenN false (iSq (eVar 3)) (gSet 6) tYesD (eFunP d_is_floor_row (aCons (eVar 6) (aCons (eVar 0) aNil))) [6]))))) (sRet (eC (.bool false))) sNext)
  (sSeq (sIf (tNotD (tOfE (eFunP d_is_below (aCons (eBin opIx (eBin opIx (eVar 3) (eC (.int 0))) (eC (.int 0))) (aCons (eLst (aCons (eBin opIx (eVar 2) (eC (.int 2))) aNil)) aNil))))) (sRet (eC (.bool false))) sNext)
  (sSeq (sFor (iRange (aCons (eVar 1) aNil)) (gSet 4) l_accepts_floors_2)
  (sRet (eC (.bool true))))))
noncomputable def d_accepts_floors : List D → Wd → Option (D × Wd) := defD 7 b_accepts_floors
noncomputable abbrev l_best_plan_1 : DS :=
  (sSeq (sSet 11 (eBin opAdd (eVar 8) (eTup (aCons (eVar 10) aNil))))
  (sSeq (sSet 12 (eIf (tOfE (eBin opGt (eVar 9) (eC (.int 0)))) (eBin opIx (eBin opIx (eVar 3) (eBin opSub (eVar 9) (eC (.int 1)))) (eBin opSub (eVar 0) (eCall opSum (aCons (eVar 11) aNil)))) (eC .none)))
  (sIf (tAndD (tOfE (eBin opNotN (eVar 12) (eC .none))) (tOfE (eBin opEq (eBin opAdd (eBin opSub (eFunP d_cost_of_plan (aCons (eVar 11) (aCons (eVar 2) aNil))) (eBin opIx (eVar 2) (eC (.int 2)))) (eVar 12)) (eVar 4)))) (sApp 7 (eVar 11)) sNext)))
noncomputable abbrev l_best_plan_2 : DS :=
  (sSeq (sIf (tAndD (tOfE (eBin opEq (eCall opSum (aCons (eVar 8) aNil)) (eVar 0))) (tOfE (eBin opEq (eFunP d_cost_of_plan (aCons (eVar 8) (aCons (eVar 2) aNil))) (eVar 4)))) (sApp 6 (eVar 8)) sNext)
  (sSeq (sSet 9 (eBin opSub (eVar 1) (eCall opLen (aCons (eVar 8) aNil))))
  (sFor (iRange (aCons (eC (.int 1)) (aCons (eBin opAdd (eCall opMin2 (aCons (eBin opSub (eVar 0) (eCall opSum (aCons (eVar 8) aNil))) (aCons (eC (.int 4)) aNil))) (eC (.int 1))) aNil))) (gSet 10) l_best_plan_1)))
noncomputable abbrev l_best_plan_3 : DS :=
  (sSeq (sOwn 7 aNil)
  (sSeq (sFor (iSq (eVar 5)) (gSet 8) l_best_plan_2)
  (sSeq (sSet 5 (eIf (tOfE (eBin opNe (eVarB 7) (eLst aNil))) (eLst (aCons (eDown (eCall (opBest false) (aCons (eVarB 7) aNil))) aNil)) (eLst aNil)))
  (sIf (tOfE (eBin opNe (eVarB 6) (eLst aNil))) (sSet 5 (eLst aNil)) sNext))))
noncomputable def b_best_plan : DS :=
  (sSeq (sSet 3 (eFunP d_make_floors (aCons (eVar 0) (aCons (eVar 1) (aCons (eVar 2) aNil)))))
  (sSeq (sSet 4 (eBin opIx (eBin opIx (eVar 3) (eVar 1)) (eVar 0)))
  (sSeq (sIf (tOfE (eBin opIsN (eVar 4) (eC .none))) (sRet (eC .none)) sNext)
  (sSeq (sSet 5 (eLst (aCons (eTup aNil) aNil)))
  (sSeq (sOwn 6 aNil)
  (sSeq (sWhile (tOfE (eBin opNe (eVar 5) (eLst aNil))) l_best_plan_3)
  (sRet (eTup (aCons (eVar 4) (aCons (eCall (opBest false) (aCons (eVarB 6) aNil)) aNil))))))))))
noncomputable def d_best_plan : List D → Wd → Option (D × Wd) := defD 13 b_best_plan
noncomputable abbrev l_choices_1 : DS :=
  (sSeq (sSet 4 (eFunP d_best_plan (aCons (eVar 0) (aCons (eVar 3) (aCons (eVar 1) aNil)))))
  (sIf (tAndD (tOfE (eBin opNotN (eVar 4) (eC .none))) (tOrD (tOfE (eBin opEq (eVarB 2) (eLst aNil))) (tOfE (eBin opLt (eBin opIx (eVar 4) (eC (.int 0))) (eBin opIx (eIxOwn 2 (eUn opNeg (eC (.int 1)))) (eC (.int 1))))))) (sApp 2 (eTup (aCons (eVar 3) (aCons (eBin opIx (eVar 4) (eC (.int 0))) aNil)))) sNext))
noncomputable def b_choices : DS :=
  (sSeq (sOwn 2 aNil)
  (sSeq (sFor (iRange (aCons (eBin opAdd (eVar 0) (eC (.int 1))) aNil)) (gSet 3) l_choices_1)
  (sRet (eTupOwn 2))))
noncomputable def d_choices : List D → Wd → Option (D × Wd) := defD 5 b_choices
noncomputable def b__law_same (rc : List D → Wd → Option (D × Wd)) : DS :=
  (sSeq (sIf (tOrD (tAndD (tOfE (eUn (opIsi "tuple") (eVar 0))) (tOfE (eUn (opIsi "tuple") (eVar 1)))) (tAndD (tOfE (eUn (opIsi "list") (eVar 0))) (tOfE (eUn (opIsi "list") (eVar 1))))) (sRet (eAnd (eBin opEq (eCall opLen (aCons (eVar 0) aNil)) (eCall opLen (aCons (eVar 1) aNil))) (eCall opAll (aCons (eOfN (eLcN (iRange (aCons (eCall opLen (aCons (eVar 0) aNil)) aNil)) (gSet 2) tYesD (eFunP rc (aCons (eBin opIx (eVar 0) (eVar 2)) (aCons (eBin opIx (eVar 1) (eVar 2)) aNil))) [2])) aNil)))) sNext)
  (sSeq (sIf (tAndD (tOfE (eUn (opIsi "dict") (eVar 0))) (tOfE (eUn (opIsi "dict") (eVar 1)))) sNever sNext)
  (sSeq (sIf (tOrD (tOfE (eUn (opIsi "bool") (eVar 0))) (tOfE (eUn (opIsi "bool") (eVar 1)))) (sRet (eAnd (eUn (opIsi "bool") (eVar 0)) (eAnd (eUn (opIsi "bool") (eVar 1)) (eBin opEq (eVar 0) (eVar 1))))) sNext)
  (sSeq (sIf (tOrD (tAndD (tOfE (eUn (opIsi "int") (eVar 0))) (tOfE (eUn (opIsi "int") (eVar 1)))) (tAndD (tOfE (eUn (opIsi "str") (eVar 0))) (tOfE (eUn (opIsi "str") (eVar 1))))) (sRet (eBin opEq (eVar 0) (eVar 1))) sNext)
  (sRet (eAnd (eBin opIsN (eVar 0) (eC .none)) (eBin opIsN (eVar 1) (eC .none))))))))
noncomputable def d__law_same : Nat → List D → Wd → Option (D × Wd)
  | 0 => fun _ _ => none
  | n + 1 => defD 4 (b__law_same (d__law_same n))
noncomputable def b__law_load : DS :=
  (sSeq (sSet 1 (eIxOb (eVar 0) (eC (.int 0))))
  (sSeq (sIf (tOfE (eBin opGt (eLenOb (eVar 1)) (eC (.int 0)))) (sSeq (sSet 2 (eCall opInt (aCons (ePopOb (eVar 1) 0) aNil)))
  (sSeq (sSet 3 (eIf (tOfE (eBin opGe (eVar 2) (eC (.int 0)))) (eBin opMul (eC (.int 2)) (eVar 2)) (eBin opSub (eBin opMul (eUn opNeg (eC (.int 2))) (eVar 2)) (eC (.int 1)))))
  (sSeq (sIf (tOfE (eBin opGe (eVar 3) (eC (.int 1000000000000000000)))) (sRet (eVar 3)) sNext)
  (sSetOb (eVar 0) (eC (.int 2)) (eBin opMod (eCall opInt (aCons (eBin opAdd (eBin opAdd (eBin opMul (eIxOb (eVar 0) (eC (.int 2))) (eC (.int 69621))) (eBin opMul (eVar 3) (eC (.int 48271)))) (eC (.int 11))) aNil)) (eC (.int 2147483647))))))) sNext)
  (sSeq (sSet 4 (eBin opMod (eCall opInt (aCons (eBin opAdd (eBin opMul (eIxOb (eVar 0) (eC (.int 2))) (eC (.int 48271))) (eC (.int 17))) aNil)) (eC (.int 2147483629))))
  (sSeq (sSet 5 (eBin opMod (eCall opInt (aCons (eBin opAdd (eBin opMul (eVar 4) (eC (.int 69621))) (eC (.int 5))) aNil)) (eC (.int 2147483587))))
  (sSeq (sSetOb (eVar 0) (eC (.int 2)) (eBin opMod (eCall opInt (aCons (eBin opAdd (eBin opMul (eVar 5) (eC (.int 40692))) (eC (.int 3))) aNil)) (eC (.int 2147483563))))
  (sRet (eBin opAdd (eBin opAdd (eBin opMul (eVar 4) (eC (.int 4611686014132420609))) (eBin opMul (eVar 5) (eC (.int 2147483647)))) (eIxOb (eVar 0) (eC (.int 2))))))))))
noncomputable def d__law_load : List D → Wd → Option (D × Wd) := defD 6 b__law_load
noncomputable def b__law_draw : DS :=
  (sSeq (sIf (tOfE (eBin opLt (eIxOb (eVar 0) (eC (.int 1))) (eVar 1))) (sSetOb (eVar 0) (eC (.int 1)) (eFun d__law_load (aCons (eVar 0) aNil))) sNext)
  (sSeq (sSet 2 (eBin opMod (eCall opInt (aCons (eIxOb (eVar 0) (eC (.int 1))) aNil)) (eVar 1)))
  (sSeq (sSetOb (eVar 0) (eC (.int 1)) (eBin opDiv (eIxOb (eVar 0) (eC (.int 1))) (eVar 1)))
  (sRet (eVar 2)))))
noncomputable def d__law_draw : List D → Wd → Option (D × Wd) := defD 3 b__law_draw
noncomputable abbrev l__law_plans_1 : DS :=
  (sSeq (sPop 3 (some 4))
  (sSeq (sSet 5 (eBin opSub (eVar 0) (eCall opSum (aCons (eVar 4) aNil))))
  (sIf (tOfE (eBin opEq (eVar 5) (eC (.int 0)))) (sApp 2 (eVar 4)) (sIf (tOfE (eBin opLt (eCall opLen (aCons (eVar 4) aNil)) (eVar 1))) (sExt 3 (eOfN (eLcN (iRange (aCons (eC (.int 1)) (aCons (eBin opAdd (eCall opMin2 (aCons (eC (.int 4)) (aCons (eVar 5) aNil))) (eC (.int 1))) aNil))) (gSet 6) tYesD (eBin opAdd (eVar 4) (eTup (aCons (eVar 6) aNil))) [6]))) sNext))))
noncomputable def b__law_plans : DS :=
  (sSeq (sParV 2 3 (vOwn aNil) (vOwn (aCons (eTup aNil) aNil)))
  (sSeq (sWhile (tOfE (eBin opNe (eVarB 3) (eLst aNil))) l__law_plans_1)
  (sRet (eOfN (aSortOwn 2)))))
noncomputable def d__law_plans : List D → Wd → Option (D × Wd) := defD 7 b__law_plans
noncomputable def b__law_round : DS :=
  (sRet (eBin opAdd (eBin opIx (eVar 1) (eC (.int 0))) (eBin opMul (eBin opIx (eVar 1) (eC (.int 1))) (eBin opIx (eLst (aCons (eC (.int 1)) (aCons (eC (.int 3)) (aCons (eC (.int 7)) (aCons (eC (.int 15)) (aCons (eC (.int 31)) aNil)))))) (eVar 0)))))
noncomputable def d__law_round : List D → Wd → Option (D × Wd) := defD 2 b__law_round
noncomputable def b__law_cost : DS :=
  (sRet (eBin opAdd (eCall opSum (aCons (eOfN (eLcN (iSq (eVar 0)) (gSet 2) tYesD (eFunP d__law_round (aCons (eVar 2) (aCons (eVar 1) aNil))) [2])) aNil)) (eBin opIx (eVar 1) (eC (.int 2)))))
noncomputable def d__law_cost : List D → Wd → Option (D × Wd) := defD 3 b__law_cost
noncomputable def b__law_best : DS :=
  (sSeq (sSet 3 (eOfN (eLcN (iSq (eFunP d__law_plans (aCons (eVar 0) (aCons (eVar 1) aNil)))) (gSet 4) tYesD (eTup (aCons (eFunP d__law_cost (aCons (eVar 4) (aCons (eVar 2) aNil))) (aCons (eVar 4) aNil))) [4])))
  (sRet (eIf (tOfE (eBin opNe (eVar 3) (eLst aNil))) (eCall (opBest false) (aCons (eVar 3) aNil)) (eC .none))))
noncomputable def d__law_best : List D → Wd → Option (D × Wd) := defD 5 b__law_best
noncomputable def b__law_at_most : DS :=
  (sSeq (sSet 2 (eOfN (eLcN (iSq (eVar 1)) (gSet 3) (tOfE (eBin opNotN (eVar 3) (eC .none))) (eVar 3) [3])))
  (sRet (eOr (eBin opEq (eVar 2) (eLst aNil)) (eAnd (eBin opNotN (eVar 0) (eC .none)) (eBin opLe (eVar 0) (eCall (opBest false) (aCons (eVar 2) aNil)))))))
noncomputable def d__law_at_most : List D → Wd → Option (D × Wd) := defD 4 b__law_at_most
noncomputable abbrev l__law_accepted_1 : DS :=
  (sIf (tOrD (tNotD (tOfE (eUn (opIsi "tuple") (eVar 4)))) (tOrD (tOfE (eBin opNe (eCall opLen (aCons (eVar 4) aNil)) (eBin opAdd (eVar 0) (eC (.int 1))))) (tNotD (tOfE (eCall opAll (aCons (eOfN (eLcN (iSq (eVar 4)) (gSet 8) tYesD (eOr (eBin opIsN (eVar 8) (eC .none)) (eAnd (eUn (opIsi "int") (eVar 8)) (eNot (eUn (opIsi "bool") (eVar 8))))) [8])) aNil)))))) (sRet (eC (.bool false))) sNext)
noncomputable abbrev l__law_accepted_2 : DS :=
  (sSeq (sSet 7 (eBin opAdd (eLst (aCons (eBin opIx (eBin opIx (eVar 3) (eVar 5)) (eVar 6)) aNil)) (eIf (tOfE (eBin opEq (eVar 6) (eC (.int 0)))) (eLst (aCons (eBin opIx (eVar 2) (eC (.int 2))) aNil)) (eLst aNil))))
  (sSeq (sSet 7 (eBin opAdd (eVar 7) (eOfN (eLcN (iRange (aCons (eC (.int 1)) (aCons (eBin opAdd (eCall opMin2 (aCons (eC (.int 4)) (aCons (eVar 6) aNil))) (eC (.int 1))) aNil))) (gSet 9) tYesD (eIf (tOfE (eBin opIsN (eBin opIx (eBin opIx (eVar 3) (eVar 5)) (eBin opSub (eVar 6) (eVar 9))) (eC .none))) (eC .none) (eBin opAdd (eFunP d__law_round (aCons (eVar 9) (aCons (eVar 2) aNil))) (eBin opIx (eBin opIx (eVar 3) (eVar 5)) (eBin opSub (eVar 6) (eVar 9))))) [9]))))
  (sIf (tNotD (tOfE (eFunP d__law_at_most (aCons (eBin opIx (eBin opIx (eVar 3) (eBin opAdd (eVar 5) (eC (.int 1)))) (eVar 6)) (aCons (eVar 7) aNil))))) (sRet (eC (.bool false))) sNext)))
noncomputable abbrev l__law_accepted_3 : DS :=
  (sFor (iRange (aCons (eBin opAdd (eVar 0) (eC (.int 1))) aNil)) (gSet 6) l__law_accepted_2)
noncomputable def b__law_accepted : DS :=
  (sSeq (sIf (tOrD (tNotD (tOfE (eUn (opIsi "tuple") (eVar 3)))) (tOfE (eBin opNe (eCall opLen (aCons (eVar 3) aNil)) (eBin opAdd (eVar 1) (eC (.int 1)))))) (sRet (eC (.bool false))) sNext)
  (sSeq (sFor (iSq (eVar 3)) (gSet 4) l__law_accepted_1)
  (sSeq (sIf (tNotD (tOfE (eFunP d__law_at_most (aCons (eBin opIx (eBin opIx (eVar 3) (eC (.int 0))) (eC (.int 0))) (aCons (eLst (aCons (eBin opIx (eVar 2) (eC (.int 2))) aNil)) aNil))))) (sRet (eC (.bool false))) sNext)
  (sSeq (sFor (iRange (aCons (eVar 1) aNil)) (gSet 5) l__law_accepted_3)
  (sRet (eC (.bool true)))))))
noncomputable def d__law_accepted : List D → Wd → Option (D × Wd) := defD 10 b__law_accepted
noncomputable def b__law_changed (rc : List D → Wd → Option (D × Wd)) : DS :=
  (sSeq (sIf (tAndD (tOfE (eUn (opIsi "tuple") (eVar 1))) (tAndD (tOfE (eBin opNe (eVar 1) (eTup aNil))) (tOfE (eBin opGt (eFun d__law_draw (aCons (eVar 0) (aCons (eC (.int 6)) aNil))) (eC (.int 0)))))) (sSeq (sSet 2 (eFun d__law_draw (aCons (eVar 0) (aCons (eCall opLen (aCons (eVar 1) aNil)) aNil))))
  (sRet (eBin opAdd (eBin opAdd (eSl opSl (eVar 1) oNone (oSome (eVar 2))) (eTup (aCons (eFun rc (aCons (eVar 0) (aCons (eBin opIx (eVar 1) (eVar 2)) aNil))) aNil))) (eSl opSl (eVar 1) (oSome (eBin opAdd (eVar 2) (eC (.int 1)))) oNone)))) sNext)
  (sSeq (sSet 3 (eLst (aCons (eC .none) (aCons (eTup aNil) (aCons (eC (.int 0)) (aCons (eC (.bool true)) (aCons (eC (.str "floor")) (aCons (eBin opPow (eC (.int 10)) (eC (.int 9))) aNil))))))))
  (sSeq (sIf (tOfE (eUn (opIsi "int") (eVar 1))) (sSet 3 (eLst (aCons (eBin opAdd (eVar 1) (eC (.int 1))) (aCons (eBin opSub (eVar 1) (eC (.int 1))) (aCons (eBin opSub (eVar 1) (eC (.int 5))) (aCons (eBin opEq (eVar 1) (eC (.int 1))) (aCons (eC .none) (aCons (eBin opAdd (eVar 1) (eC (.int 1))) aNil)))))))) sNext)
  (sSeq (sIf (tOfE (eUn (opIsi "tuple") (eVar 1))) (sSet 3 (eBin opAdd (eVar 3) (eLst (aCons (eSl opSl (eVar 1) oNone (oSome (eUn opNeg (eC (.int 1))))) (aCons (eBin opAdd (eVar 1) (eSl opSl (eVar 1) oNone (oSome (eC (.int 1))))) (aCons (eUn opRev (eVar 1)) aNil)))))) sNext)
  (sRet (eBin opIx (eVar 3) (eFun d__law_draw (aCons (eVar 0) (aCons (eCall opLen (aCons (eVar 3) aNil)) aNil)))))))))
noncomputable def d__law_changed : Nat → List D → Wd → Option (D × Wd)
  | 0 => fun _ _ => none
  | n + 1 => defD 4 (b__law_changed (d__law_changed n))
noncomputable abbrev l_law_1 : DS :=
  (sIf (tOfE (eBin opNotB (eFunP d_is_plan (aCons (eVar 7) (aCons (eBin opAdd (eVar 2) (eBin opMul (eC (.int 5)) (eCall opInt (aCons (eBin opEq (eVar 7) (eBin opAdd (eTup (aCons (eC (.int 5)) aNil)) (eVar 6))) aNil)))) aNil))) (eC (.bool false)))) (sRet (eC (.bool false))) sNext)
noncomputable abbrev l_law_2 : DS :=
  (sSeq (sSet 10 (eOfN (eLcN (iRange (aCons (eBin opAdd (eVar 2) (eC (.int 1))) aNil)) (gSet 11) tYesD (eFunP d__law_best (aCons (eVar 11) (aCons (eVar 9) (aCons (eVar 4) aNil)))) [11])))
  (sApp 8 (eCall opTuple (aCons (eOfN (eLcN (iSq (eVar 10)) (gSet 16) tYesD (eIf (tOfE (eBin opIsN (eVar 16) (eC .none))) (eC .none) (eBin opIx (eVar 16) (eC (.int 0)))) [16])) aNil))))
noncomputable abbrev l_law_3 : DS :=
  (sSeq (sSet 7 (eFun (d__law_changed 6) (aCons (eVar 1) (aCons (eBin opIx (eLst (aCons (eVar 8) (aCons (eVar 11) aNil))) (eFun d__law_draw (aCons (eVar 1) (aCons (eC (.int 2)) aNil)))) aNil))))
  (sIf (tNotD (tOfE (eFunP (d__law_same 6) (aCons (eFunP d_accepts_floors (aCons (eVar 2) (aCons (eVar 3) (aCons (eVar 4) (aCons (eVar 7) aNil))))) (aCons (eFunP d__law_accepted (aCons (eVar 2) (aCons (eVar 3) (aCons (eVar 4) (aCons (eVar 7) aNil))))) aNil))))) (sRet (eC (.bool false))) sNext))
noncomputable def b_law : DS :=
  (sSeq (sAsg (eTup (aCons (eFun d__law_draw (aCons (eVar 1) (aCons (eC (.int 11)) aNil))) (aCons (eFun d__law_draw (aCons (eVar 1) (aCons (eC (.int 8)) aNil))) aNil))) (gTupD (gConsD (gSet 2) (gConsD (gSet 3) gNilD))))
  (sSeq (sSet 4 (eCall opTuple (aCons (eOfN (eLcN (iRange (aCons (eC (.int 3)) aNil)) (gSet 15) tYesD (eBin opIx (eLst (aCons (eC (.int 0)) (aCons (eC (.int 1)) (aCons (eFun d__law_draw (aCons (eVar 1) (aCons (eC (.int 20)) aNil))) (aCons (eFun d__law_draw (aCons (eVar 1) (aCons (eC (.int 1000)) aNil))) (aCons (eC (.int 1000000)) aNil)))))) (eFun d__law_draw (aCons (eVar 1) (aCons (eC (.int 5)) aNil)))) [15])) aNil)))
  (sSeq (sIf (tNotD (tOfE (eFunP (d__law_same 6) (aCons (eFunP d_best_plan (aCons (eVar 2) (aCons (eVar 3) (aCons (eVar 4) aNil)))) (aCons (eFunP d__law_best (aCons (eVar 2) (aCons (eVar 3) (aCons (eVar 4) aNil)))) aNil))))) (sRet (eC (.bool false))) sNext)
  (sSeq (sSet 5 (eFunP d__law_plans (aCons (eVar 2) (aCons (eVar 2) aNil))))
  (sSeq (sSet 6 (eBin opIx (eVar 5) (eFun d__law_draw (aCons (eVar 1) (aCons (eCall opLen (aCons (eVar 5) aNil)) aNil)))))
  (sSeq (sIf (tOrD (tOfE (eBin opNotB (eFunP d_is_plan (aCons (eVar 6) (aCons (eVar 2) aNil))) (eC (.bool true)))) (tNotD (tOfE (eFunP (d__law_same 6) (aCons (eFunP d_cost_of_plan (aCons (eVar 6) (aCons (eVar 4) aNil))) (aCons (eFunP d__law_cost (aCons (eVar 6) (aCons (eVar 4) aNil))) aNil)))))) (sRet (eC (.bool false))) sNext)
  (sSeq (sFor (iSq (eLst (aCons (eBin opAdd (eVar 6) (eTup (aCons (eC (.int 1)) aNil))) (aCons (eBin opAdd (eTup (aCons (eC (.int 5)) aNil)) (eVar 6)) (aCons (eBin opAdd (eTup (aCons (eC (.int 0)) aNil)) (eVar 6)) (aCons (eBin opAdd (eVar 6) (eTup (aCons (eC (.bool true)) aNil))) (aCons (eC .none) (aCons (eTup (aCons (eC (.str "plan")) aNil)) (aCons (eBin opAdd (eSl opSl (eVar 6) oNone (oSome (eUn opNeg (eC (.int 1))))) (eTup (aCons (eC .none) aNil))) aNil))))))))) (gSet 7) l_law_1)
  (sSeq (sOwn 8 aNil)
  (sSeq (sFor (iRange (aCons (eBin opAdd (eVar 3) (eC (.int 1))) aNil)) (gSet 9) l_law_2)
  (sSeq (sSet 8 (eTupOwn 8))
  (sSeq (sIf (tOrD (tNotD (tOfE (eFunP (d__law_same 6) (aCons (eFunP d_make_floors (aCons (eVar 2) (aCons (eVar 3) (aCons (eVar 4) aNil)))) (aCons (eVar 8) aNil))))) (tOfE (eBin opNotB (eFunP d_accepts_floors (aCons (eVar 2) (aCons (eVar 3) (aCons (eVar 4) (aCons (eVar 8) aNil))))) (eC (.bool true))))) (sRet (eC (.bool false))) sNext)
  (sSeq (sSet 11 (eCall opTuple (aCons (eOfN (eLcN (iSq (eVar 8)) (gSet 10) tYesD (eCall opTuple (aCons (eOfN (eLcN (iSq (eVar 10)) (gSet 17) tYesD (eIf (tOfE (eBin opIsN (eVar 17) (eC .none))) (eC .none) (eBin opSub (eVar 17) (eBin opMul (eFun d__law_draw (aCons (eVar 1) (aCons (eC (.int 2)) aNil))) (eFun d__law_draw (aCons (eVar 1) (aCons (eC (.int 9)) aNil)))))) [17])) aNil)) [10])) aNil)))
  (sSeq (sFor (iRange (aCons (eC (.int 6)) aNil)) (gSet 12) l_law_3)
  (sSeq (sSet 13 (eOfN (eLcN (iRange (aCons (eBin opAdd (eVar 2) (eC (.int 1))) aNil)) (gSet 9) (tOfE (eBin opNotN (eFunP d__law_best (aCons (eVar 2) (aCons (eVar 9) (aCons (eVar 4) aNil)))) (eC .none))) (eTup (aCons (eVar 9) (aCons (eBin opIx (eFunP d__law_best (aCons (eVar 2) (aCons (eVar 9) (aCons (eVar 4) aNil)))) (eC (.int 0))) aNil))) [9])))
  (sSeq (sSet 14 (eCall opTuple (aCons (eOfN (eLcN (iSq (eVar 13)) (gSet 18) (tNotD (tOfE (eCall opAny (aCons (eOfN (eLcN (iSq (eVar 13)) (gSet 19) tYesD (eAnd (eBin opNe (eVar 19) (eVar 18)) (eAnd (eBin opLe (eBin opIx (eVar 19) (eC (.int 0))) (eBin opIx (eVar 18) (eC (.int 0)))) (eBin opLe (eBin opIx (eVar 19) (eC (.int 1))) (eBin opIx (eVar 18) (eC (.int 1)))))) [19])) aNil)))) (eVar 18) [18])) aNil)))
  (sRet (eFunP (d__law_same 6) (aCons (eFunP d_choices (aCons (eVar 2) (aCons (eVar 4) aNil))) (aCons (eVar 14) aNil)))))))))))))))))))
/-! ## what the top has written -/
structure Tx (K : PySem.W.Frag) (mg : Str → Option Value) where
  a_is_number : Addr
  fd_is_number : FuncData
  F_is_number : Fun K "is_number" "is_number" s_is_number a_is_number fd_is_number
  m_is_number : mg "is_number" = some (.ref a_is_number)
  b_is_number : Binds K fd_is_number ["value", "least", "most"] []
  a_leaf_count : Addr
  fd_leaf_count : FuncData
  F_leaf_count : Fun K "leaf_count" "leaf_count" s_leaf_count a_leaf_count fd_leaf_count
  m_leaf_count : mg "leaf_count" = some (.ref a_leaf_count)
  b_leaf_count : Binds K fd_leaf_count ["height"] []
  c_is_plan : Addr
  P_is_plan : Addr
  a_is_plan : Addr
  fd_is_plan : FuncData
  F_is_plan : FunC K "is_plan" "is_plan" s_is_plan a_is_plan fd_is_plan c_is_plan
  m_is_plan : mg "is_plan" = some (.ref a_is_plan)
  b_is_plan : Binds K fd_is_plan ["value", "level"] []
  a_round_cost : Addr
  fd_round_cost : FuncData
  F_round_cost : Fun K "round_cost" "round_cost" s_round_cost a_round_cost fd_round_cost
  m_round_cost : mg "round_cost" = some (.ref a_round_cost)
  b_round_cost : Binds K fd_round_cost ["depth", "costs"] []
  a_cost_of_plan : Addr
  fd_cost_of_plan : FuncData
  F_cost_of_plan : Fun K "cost_of_plan" "cost_of_plan" s_cost_of_plan a_cost_of_plan fd_cost_of_plan
  m_cost_of_plan : mg "cost_of_plan" = some (.ref a_cost_of_plan)
  b_cost_of_plan : Binds K fd_cost_of_plan ["plan", "costs"] []
  a_least : Addr
  fd_least : FuncData
  F_least : Fun K "least" "least" s_least a_least fd_least
  m_least : mg "least" = some (.ref a_least)
  b_least : Binds K fd_least ["numbers"] []
  a_bounds_for : Addr
  fd_bounds_for : FuncData
  F_bounds_for : Fun K "bounds_for" "bounds_for" s_bounds_for a_bounds_for fd_bounds_for
  m_bounds_for : mg "bounds_for" = some (.ref a_bounds_for)
  b_bounds_for : Binds K fd_bounds_for ["row", "level", "costs"] []
  a_make_floors : Addr
  fd_make_floors : FuncData
  F_make_floors : Fun K "make_floors" "make_floors" s_make_floors a_make_floors fd_make_floors
  m_make_floors : mg "make_floors" = some (.ref a_make_floors)
  b_make_floors : Binds K fd_make_floors ["level", "rounds", "costs"] []
  a_is_whole : Addr
  fd_is_whole : FuncData
  F_is_whole : Fun K "is_whole" "is_whole" s_is_whole a_is_whole fd_is_whole
  m_is_whole : mg "is_whole" = some (.ref a_is_whole)
  b_is_whole : Binds K fd_is_whole ["value"] []
  c_is_floor_row : Addr
  P_is_floor_row : Addr
  a_is_floor_row : Addr
  fd_is_floor_row : FuncData
  F_is_floor_row : FunC K "is_floor_row" "is_floor_row" s_is_floor_row a_is_floor_row fd_is_floor_row c_is_floor_row
  m_is_floor_row : mg "is_floor_row" = some (.ref a_is_floor_row)
  b_is_floor_row : Binds K fd_is_floor_row ["value", "level"] []
  a_is_below : Addr
  fd_is_below : FuncData
  F_is_below : Fun K "is_below" "is_below" s_is_below a_is_below fd_is_below
  m_is_below : mg "is_below" = some (.ref a_is_below)
  b_is_below : Binds K fd_is_below ["number", "bounds"] []
  c_accepts_floors : Addr
  P_accepts_floors : Addr
  a_accepts_floors : Addr
  fd_accepts_floors : FuncData
  F_accepts_floors : FunC K "accepts_floors" "accepts_floors" s_accepts_floors a_accepts_floors fd_accepts_floors c_accepts_floors
  m_accepts_floors : mg "accepts_floors" = some (.ref a_accepts_floors)
  b_accepts_floors : Binds K fd_accepts_floors ["level", "rounds", "costs", "value"] []
  a_best_plan : Addr
  fd_best_plan : FuncData
  F_best_plan : Fun K "best_plan" "best_plan" s_best_plan a_best_plan fd_best_plan
  m_best_plan : mg "best_plan" = some (.ref a_best_plan)
  b_best_plan : Binds K fd_best_plan ["level", "rounds", "costs"] []
  a_choices : Addr
  fd_choices : FuncData
  F_choices : Fun K "choices" "choices" s_choices a_choices fd_choices
  m_choices : mg "choices" = some (.ref a_choices)
  b_choices : Binds K fd_choices ["level", "costs"] []
  a__law_same : Addr
  fd__law_same : FuncData
  F__law_same : Fun K "_law_same" "_law_same" s__law_same a__law_same fd__law_same
  m__law_same : mg "_law_same" = some (.ref a__law_same)
  b__law_same : Binds K fd__law_same ["a", "b"] []
  a__law_box : Addr
  fd__law_box : FuncData
  F__law_box : Fun K "_law_box" "_law_box" s__law_box a__law_box fd__law_box
  m__law_box : mg "_law_box" = some (.ref a__law_box)
  b__law_box : Binds K fd__law_box ["script", "nodes"] []
  a__law_load : Addr
  fd__law_load : FuncData
  F__law_load : Fun K "_law_load" "_law_load" s__law_load a__law_load fd__law_load
  m__law_load : mg "_law_load" = some (.ref a__law_load)
  b__law_load : Binds K fd__law_load ["box"] []
  a__law_draw : Addr
  fd__law_draw : FuncData
  F__law_draw : Fun K "_law_draw" "_law_draw" s__law_draw a__law_draw fd__law_draw
  m__law_draw : mg "_law_draw" = some (.ref a__law_draw)
  b__law_draw : Binds K fd__law_draw ["box", "many"] []
  a__law_plans : Addr
  fd__law_plans : FuncData
  F__law_plans : Fun K "_law_plans" "_law_plans" s__law_plans a__law_plans fd__law_plans
  m__law_plans : mg "_law_plans" = some (.ref a__law_plans)
  b__law_plans : Binds K fd__law_plans ["level", "rounds"] []
  a__law_round : Addr
  fd__law_round : FuncData
  F__law_round : Fun K "_law_round" "_law_round" s__law_round a__law_round fd__law_round
  m__law_round : mg "_law_round" = some (.ref a__law_round)
  b__law_round : Binds K fd__law_round ["depth", "costs"] []
  a__law_cost : Addr
  fd__law_cost : FuncData
  F__law_cost : Fun K "_law_cost" "_law_cost" s__law_cost a__law_cost fd__law_cost
  m__law_cost : mg "_law_cost" = some (.ref a__law_cost)
  b__law_cost : Binds K fd__law_cost ["plan", "costs"] []
  a__law_best : Addr
  fd__law_best : FuncData
  F__law_best : Fun K "_law_best" "_law_best" s__law_best a__law_best fd__law_best
  m__law_best : mg "_law_best" = some (.ref a__law_best)
  b__law_best : Binds K fd__law_best ["level", "rounds", "costs"] []
  a__law_at_most : Addr
  fd__law_at_most : FuncData
  F__law_at_most : Fun K "_law_at_most" "_law_at_most" s__law_at_most a__law_at_most fd__law_at_most
  m__law_at_most : mg "_law_at_most" = some (.ref a__law_at_most)
  b__law_at_most : Binds K fd__law_at_most ["number", "bounds"] []
  a__law_accepted : Addr
  fd__law_accepted : FuncData
  F__law_accepted : Fun K "_law_accepted" "_law_accepted" s__law_accepted a__law_accepted fd__law_accepted
  m__law_accepted : mg "_law_accepted" = some (.ref a__law_accepted)
  b__law_accepted : Binds K fd__law_accepted ["level", "rounds", "costs", "value"] []
  a__law_changed : Addr
  fd__law_changed : FuncData
  F__law_changed : Fun K "_law_changed" "_law_changed" s__law_changed a__law_changed fd__law_changed
  m__law_changed : mg "_law_changed" = some (.ref a__law_changed)
  b__law_changed : Binds K fd__law_changed ["box", "value"] []
  a_law : Addr
  fd_law : FuncData
  F_law : Fun K "law" "law" s_law a_law fd_law
  m_law : mg "law" = some (.ref a_law)
  b_law : Binds K fd_law ["script"] []
  m_all : mg "all" = none
  m_any : mg "any" = none
  m_bool : mg "bool" = none
  m_dict : mg "dict" = none
  m_int : mg "int" = none
  m_isinstance : mg "isinstance" = none
  m_len : mg "len" = none
  m_list : mg "list" = none
  m_min : mg "min" = none
  m_range : mg "range" = none
  m_sorted : mg "sorted" = none
  m_str : mg "str" = none
  m_sum : mg "sum" = none
  m_tuple : mg "tuple" = none
  t_MAX_DEPTH : Tok
  m_MAX_DEPTH : mg "MAX_DEPTH" = some (.int 4 t_MAX_DEPTH)
structure Tbs [Tb] {K : PySem.W.Frag} {mg : Str → Option Value} (T : Tx K mg) (base : Heap) : Prop where
  t_is_plan : GxR.TabB base mg T.c_is_plan T.P_is_plan
  h_is_plan : Tb.T T.P_is_plan
  t_is_floor_row : GxR.TabB base mg T.c_is_floor_row T.P_is_floor_row
  h_is_floor_row : Tb.T T.P_is_floor_row
  t_accepts_floors : GxR.TabB base mg T.c_accepts_floors T.P_accepts_floors
  h_accepts_floors : Tb.T T.P_accepts_floors
section
variable [Tb]
variable {P : Program} {w : World} {K : PySem.W.Frag} {mg : Str → Option Value} {base : Heap}
theorem sc_is_number : FnScope N_is_number ["value", "least", "most"] (defScope s_is_number) := ⟨rfl, rfl, rfl, by decide +kernel, rfl, by decide +kernel, by decide +kernel⟩
theorem ok_is_number (T : Tx K mg) (B : Tbs T base) : FnOk P w K mg base CX0 1 T.a_is_number T.fd_is_number ["value", "least", "most"] (spD K 3 d_is_number) := by
  refine fn_denM (fb := b_is_number) T.F_is_number sc_is_number rfl rfl (fun cdv A outer s H E hr => ?_)
  have hu := hr.units
  have nd := sc_is_number.nd
  exact ⟨_, sxs_one (sx_ret (ex_and (ex_isiK kit_int T.m_isinstance T.m_int PyProof.Rows.boot_int (ex_var)) (ex_and (ex_not (ex_isiK kit_bool T.m_isinstance T.m_bool PyProof.Rows.boot_bool (ex_var))) (ex_one (ex_chain (d := true) (d' := true) (op_leK hu) (op_leK hu) ops_le ops_le (ex_var) (ex_var) (ex_var))))))⟩
theorem sc_leaf_count : FnScope N_leaf_count ["height"] (defScope s_leaf_count) := ⟨rfl, rfl, rfl, by decide +kernel, rfl, by decide +kernel, by decide +kernel⟩
theorem ok_leaf_count (T : Tx K mg) (B : Tbs T base) : FnOk P w K mg base CX0 1 T.a_leaf_count T.fd_leaf_count ["height"] (spD K 1 d_leaf_count) := by
  refine fn_denM (fb := b_leaf_count) T.F_leaf_count sc_leaf_count rfl rfl (fun cdv A outer s H E hr => ?_)
  have hu := hr.units
  have nd := sc_leaf_count.nd
  exact ⟨_, sxs_cons (sx_set nd (ex_int))
    (sxs_cons (sx_for PassesOwn.never rfl (ei_rng1 T.m_range (ea_cons (ex_var) (ea_nil))) (eg_name nd) (sxs_one (sx_set nd (ex_bin op_mulK ops_mul (ex_int) (ex_var)))))
    (sxs_one (sx_ret (ex_var))))⟩
theorem sc_is_plan : FnScope N_is_plan ["value", "level"] (defScope s_is_plan) := ⟨rfl, rfl, rfl, by decide +kernel, rfl, by decide +kernel, by decide +kernel⟩
theorem ok_is_plan (T : Tx K mg) (B : Tbs T base) : FnOk P w K mg base CX0 5 T.a_is_plan T.fd_is_plan ["value", "level"] (spD K 2 d_is_plan) := by
  have G_is_number := ok_is_number (P := P) (w := w) (base := base) T B
  refine fn_denC (fb := b_is_plan) T.F_is_plan sc_is_plan rfl rfl (fun A outer s H E hr => ?_)
  have hu := hr.units
  have nd := sc_is_plan.nd
  exact ⟨_, sxs_cons (sx_if (EW.t (ew_or (et_not (et_val (ex_isiK kit_tuple T.m_isinstance T.m_tuple PyProof.Rows.boot_tuple (ex_var)))) (ew_or1 (et_not (et_val (ex_allG (b := false) (own := [("depth", 2)]) (k := 1) B.h_is_plan B.t_is_plan (hr.mono (by decide)) T.m_all nd (ei_seqK (ex_var)) (blkOk_by (N := N_is_plan) (sc := defScope s_is_plan) (by decide +kernel)) (fun _ _ _ _ _ _ _ _ hr => have hu := hr.units; eg_name nd) (fun _ _ _ _ _ _ _ _ hr => have hu := hr.units; ets_nil) (fun _ _ _ _ _ _ _ _ hr => have hu := hr.units; ex_funPK G_is_number (hr.mono (by decide)) T.m_is_number T.F_is_number.kp T.b_is_number (ea_cons (ex_var) (ea_cons (ex_int) (ea_cons (ex_glob (v := .int 4) (d := .int 4) T.m_MAX_DEPTH ⟨_, rfl⟩ (fun _ _ => by rw [Rep])) (ea_nil)))) (len_cons (len_cons (len_cons len_nil)))))))))) (sxs_one (sx_ret (ex_bl))) (sxs_nil))
    (sxs_one (sx_ret (ex_cmp (op_eqK hu) ops_eq (ex_sum T.m_sum (ea_cons (ex_var) (ea_nil))) (ex_var))))⟩
theorem sc_round_cost : FnScope N_round_cost ["depth", "costs"] (defScope s_round_cost) := ⟨rfl, rfl, rfl, by decide +kernel, rfl, by decide +kernel, by decide +kernel⟩
theorem ok_round_cost (T : Tx K mg) (B : Tbs T base) : FnOk P w K mg base CX0 2 T.a_round_cost T.fd_round_cost ["depth", "costs"] (spD K 2 d_round_cost) := by
  have G_leaf_count := ok_leaf_count (P := P) (w := w) (base := base) T B
  refine fn_denM (fb := b_round_cost) T.F_round_cost sc_round_cost rfl rfl (fun cdv A outer s H E hr => ?_)
  have hu := hr.units
  have nd := sc_round_cost.nd
  exact ⟨_, sxs_one (sx_ret (ex_bin op_addK ops_add (ex_ixK (ex_var) (ex_int)) (ex_bin op_mulK ops_mul (ex_ixK (ex_var) (ex_int)) (ex_bin op_sub ops_sub (ex_bin op_mulK ops_mul (ex_int) (ex_funPK G_leaf_count (hr.mono (by decide)) T.m_leaf_count T.F_leaf_count.kp T.b_leaf_count (ea_cons (ex_var) (ea_nil)) (len_cons len_nil))) (ex_int)))))⟩
theorem sc_cost_of_plan : FnScope N_cost_of_plan ["plan", "costs"] (defScope s_cost_of_plan) := ⟨rfl, rfl, rfl, by decide +kernel, rfl, by decide +kernel, by decide +kernel⟩
theorem ok_cost_of_plan (T : Tx K mg) (B : Tbs T base) : FnOk P w K mg base CX0 3 T.a_cost_of_plan T.fd_cost_of_plan ["plan", "costs"] (spD K 2 d_cost_of_plan) := by
  have G_round_cost := ok_round_cost (P := P) (w := w) (base := base) T B
  refine fn_denM (fb := b_cost_of_plan) T.F_cost_of_plan sc_cost_of_plan rfl rfl (fun cdv A outer s H E hr => ?_)
  have hu := hr.units
  have nd := sc_cost_of_plan.nd
  exact ⟨_, sxs_one (sx_ret (ex_bin op_addK ops_add (ex_sum T.m_sum (ea_cons (EN.x (en_lc rfl nd (b := false) (own := [("depth", 2)]) (ei_seqK (ex_var)) (blkOk_by (N := N_cost_of_plan) (sc := defScope s_cost_of_plan) (by decide +kernel)) (fun _ _ _ _ _ => eg_name nd) (fun _ _ _ _ _ => ets_nil) (fun _ _ _ _ _ => ex_funPK G_round_cost (hr.mono (by decide)) T.m_round_cost T.F_round_cost.kp T.b_round_cost (ea_cons (ex_var) (ea_cons (ex_var) (ea_nil))) (len_cons (len_cons len_nil))))) (ea_nil))) (ex_ixK (ex_var) (ex_int))))⟩
theorem sc_least : FnScope N_least ["numbers"] (defScope s_least) := ⟨rfl, rfl, rfl, by decide +kernel, rfl, by decide +kernel, by decide +kernel⟩
theorem ok_least (T : Tx K mg) (B : Tbs T base) : FnOk P w K mg base CX0 1 T.a_least T.fd_least ["numbers"] (spD K 1 d_least) := by
  refine fn_denM (fb := b_least) T.F_least sc_least rfl rfl (fun cdv A outer s H E hr => ?_)
  have hu := hr.units
  have nd := sc_least.nd
  exact ⟨_, sxs_cons (sx_lcV rfl nd (b := false) (own := [("number", 2)]) (ei_seqK (ex_var)) (blkOk_by (N := N_least) (sc := defScope s_least) (by decide +kernel)) (fun _ _ _ _ _ => eg_name nd) (fun _ _ _ _ _ => ets_one (et_cmp op_notN ops_notN (ex_var) (ex_non))) (fun _ _ _ _ _ => ex_var))
    (sxs_one (sx_ret (ex_if (et_cmp (op_neK hu) ops_ne (ex_var) (ex_lst (ea_nil) (len_nil))) (ex_minL hu T.m_min (ea_cons (ex_var) (ea_nil))) (ex_non))))⟩
theorem sc_bounds_for : FnScope N_bounds_for ["row", "level", "costs"] (defScope s_bounds_for) := ⟨rfl, rfl, rfl, by decide +kernel, rfl, by decide +kernel, by decide +kernel⟩
theorem ok_bounds_for (T : Tx K mg) (B : Tbs T base) : FnOk P w K mg base CX0 3 T.a_bounds_for T.fd_bounds_for ["row", "level", "costs"] (spD K 3 d_bounds_for) := by
  have G_round_cost := ok_round_cost (P := P) (w := w) (base := base) T B
  refine fn_denM (fb := b_bounds_for) T.F_bounds_for sc_bounds_for rfl rfl (fun cdv A outer s H E hr => ?_)
  have hu := hr.units
  have nd := sc_bounds_for.nd
  exact ⟨_, sxs_cons (sx_own nd (en_lst (ea_cons (ex_ixK (ex_var) (ex_var)) (ea_nil)) (len_cons len_nil)))
    (sxs_cons (sx_if (et_cmp (op_eqK hu) ops_eq (ex_var) (ex_int)) (sxs_one (sx_app (ex_ixK (ex_var) (ex_int)))) (sxs_nil))
    (sxs_cons (sx_for PassesOwn.never rfl (ei_rng2 T.m_range (ea_cons (ex_int) (ea_cons (ex_bin op_addK ops_add (ex_min2 T.m_min (ea_cons (ex_var) (ea_cons (ex_glob (v := .int 4) (d := .int 4) T.m_MAX_DEPTH ⟨_, rfl⟩ (fun _ _ => by rw [Rep])) (ea_nil)))) (ex_int)) (ea_nil)))) (eg_name nd) (sxs_one (sx_if (et_cmp op_notN ops_notN (ex_ixK (ex_var) (ex_bin op_sub ops_sub (ex_var) (ex_var))) (ex_non)) (sxs_one (sx_app (ex_bin op_addK ops_add (ex_funPK G_round_cost (hr.mono (by decide)) T.m_round_cost T.F_round_cost.kp T.b_round_cost (ea_cons (ex_var) (ea_cons (ex_var) (ea_nil))) (len_cons (len_cons len_nil))) (ex_ixK (ex_var) (ex_bin op_sub ops_sub (ex_var) (ex_var)))))) (sxs_nil))))
    (sxs_one (sx_ret (ex_varB)))))⟩
theorem sc_make_floors : FnScope N_make_floors ["level", "rounds", "costs"] (defScope s_make_floors) := ⟨rfl, rfl, rfl, by decide +kernel, rfl, by decide +kernel, by decide +kernel⟩
theorem ok_make_floors (T : Tx K mg) (B : Tbs T base) : FnOk P w K mg base CX0 4 T.a_make_floors T.fd_make_floors ["level", "rounds", "costs"] (spD K 3 d_make_floors) := by
  have G_bounds_for := ok_bounds_for (P := P) (w := w) (base := base) T B
  have G_least := ok_least (P := P) (w := w) (base := base) T B
  refine fn_denM (fb := b_make_floors) T.F_make_floors sc_make_floors rfl rfl (fun cdv A outer s H E hr => ?_)
  have hu := hr.units
  have nd := sc_make_floors.nd
  exact ⟨_, sxs_cons (sx_own nd (en_lst (ea_cons (ex_tuple T.m_tuple (ea_cons (ex_bin op_addK ops_add (ex_lst (ea_cons (ex_ixK (ex_var) (ex_int)) (ea_nil)) (len_cons len_nil)) (ex_bin op_mulK ops_mul (ex_lst (ea_cons (ex_non) (ea_nil)) (len_cons len_nil)) (ex_var))) (ea_nil))) (ea_nil)) (len_cons len_nil)))
    (sxs_cons (sx_for PassesOwn.never rfl (ei_rng1 T.m_range (ea_cons (ex_var) (ea_nil))) (eg_name nd) (sxs_one (sx_app (ex_tuple T.m_tuple (ea_cons (EN.x (en_lc rfl nd (b := false) (own := [("lower", 5)]) (ei_rng1 T.m_range (ea_cons (ex_bin op_addK ops_add (ex_var) (ex_int)) (ea_nil))) (blkOk_by (N := N_make_floors) (sc := defScope s_make_floors) (by decide +kernel)) (fun _ _ _ _ _ => eg_name nd) (fun _ _ _ _ _ => ets_nil) (fun _ _ _ _ _ => ex_funPK G_least (hr.mono (by decide)) T.m_least T.F_least.kp T.b_least (ea_cons (ex_funPK G_bounds_for (hr.mono (by decide)) T.m_bounds_for T.F_bounds_for.kp T.b_bounds_for (ea_cons (ex_ixOwnK (ex_neg (ex_int))) (ea_cons (ex_var) (ea_cons (ex_var) (ea_nil)))) (len_cons (len_cons (len_cons len_nil)))) (ea_nil)) (len_cons len_nil)))) (ea_nil))))))
    (sxs_one (sx_ret (ex_tupOwnK T.m_tuple))))⟩
theorem sc_is_whole : FnScope N_is_whole ["value"] (defScope s_is_whole) := ⟨rfl, rfl, rfl, by decide +kernel, rfl, by decide +kernel, by decide +kernel⟩
theorem ok_is_whole (T : Tx K mg) (B : Tbs T base) : FnOk P w K mg base CX0 1 T.a_is_whole T.fd_is_whole ["value"] (spD K 1 d_is_whole) := by
  refine fn_denM (fb := b_is_whole) T.F_is_whole sc_is_whole rfl rfl (fun cdv A outer s H E hr => ?_)
  have hu := hr.units
  have nd := sc_is_whole.nd
  exact ⟨_, sxs_one (sx_ret (ex_and (ex_isiK kit_int T.m_isinstance T.m_int PyProof.Rows.boot_int (ex_var)) (ex_one (ex_not (ex_isiK kit_bool T.m_isinstance T.m_bool PyProof.Rows.boot_bool (ex_var))))))⟩
theorem sc_is_floor_row : FnScope N_is_floor_row ["value", "level"] (defScope s_is_floor_row) := ⟨rfl, rfl, rfl, by decide +kernel, rfl, by decide +kernel, by decide +kernel⟩
theorem ok_is_floor_row (T : Tx K mg) (B : Tbs T base) : FnOk P w K mg base CX0 5 T.a_is_floor_row T.fd_is_floor_row ["value", "level"] (spD K 2 d_is_floor_row) := by
  have G_is_whole := ok_is_whole (P := P) (w := w) (base := base) T B
  refine fn_denC (fb := b_is_floor_row) T.F_is_floor_row sc_is_floor_row rfl rfl (fun A outer s H E hr => ?_)
  have hu := hr.units
  have nd := sc_is_floor_row.nd
  exact ⟨_, sxs_cons (sx_if (EW.t (ew_or (et_not (et_val (ex_isiK kit_tuple T.m_isinstance T.m_tuple PyProof.Rows.boot_tuple (ex_var)))) (ew_or1 (et_cmp (op_neK hu) ops_ne (ex_len T.m_len (ea_cons (ex_var) (ea_nil))) (ex_bin op_addK ops_add (ex_var) (ex_int)))))) (sxs_one (sx_ret (ex_bl))) (sxs_nil))
    (sxs_one (sx_ret (ex_allG (b := false) (own := [("number", 2)]) (k := 1) B.h_is_floor_row B.t_is_floor_row (hr.mono (by decide)) T.m_all nd (ei_seqK (ex_var)) (blkOk_by (N := N_is_floor_row) (sc := defScope s_is_floor_row) (by decide +kernel)) (fun _ _ _ _ _ _ _ _ hr => have hu := hr.units; eg_name nd) (fun _ _ _ _ _ _ _ _ hr => have hu := hr.units; ets_nil) (fun _ _ _ _ _ _ _ _ hr => have hu := hr.units; ex_or (ex_cmp op_isN ops_isN (ex_var) (ex_non)) (ex_one (ex_funPK G_is_whole (hr.mono (by decide)) T.m_is_whole T.F_is_whole.kp T.b_is_whole (ea_cons (ex_var) (ea_nil)) (len_cons len_nil)))))))⟩
theorem sc_is_below : FnScope N_is_below ["number", "bounds"] (defScope s_is_below) := ⟨rfl, rfl, rfl, by decide +kernel, rfl, by decide +kernel, by decide +kernel⟩
theorem ok_is_below (T : Tx K mg) (B : Tbs T base) : FnOk P w K mg base CX0 2 T.a_is_below T.fd_is_below ["number", "bounds"] (spD K 2 d_is_below) := by
  have G_least := ok_least (P := P) (w := w) (base := base) T B
  refine fn_denM (fb := b_is_below) T.F_is_below sc_is_below rfl rfl (fun cdv A outer s H E hr => ?_)
  have hu := hr.units
  have nd := sc_is_below.nd
  exact ⟨_, sxs_cons (sx_set nd (ex_funPK G_least (hr.mono (by decide)) T.m_least T.F_least.kp T.b_least (ea_cons (ex_var) (ea_nil)) (len_cons len_nil)))
    (sxs_one (sx_ret (ex_or (ex_cmp op_isN ops_isN (ex_var) (ex_non)) (ex_one (ex_and (ex_cmp op_notN ops_notN (ex_var) (ex_non)) (ex_one (ex_cmp (op_leK hu) ops_le (ex_var) (ex_var))))))))⟩
theorem sc_accepts_floors : FnScope N_accepts_floors ["level", "rounds", "costs", "value"] (defScope s_accepts_floors) := ⟨rfl, rfl, rfl, by decide +kernel, rfl, by decide +kernel, by decide +kernel⟩
theorem ok_accepts_floors (T : Tx K mg) (B : Tbs T base) : FnOk P w K mg base CX0 9 T.a_accepts_floors T.fd_accepts_floors ["level", "rounds", "costs", "value"] (spD K 4 d_accepts_floors) := by
  have G_bounds_for := ok_bounds_for (P := P) (w := w) (base := base) T B
  have G_is_below := ok_is_below (P := P) (w := w) (base := base) T B
  have G_is_floor_row := ok_is_floor_row (P := P) (w := w) (base := base) T B
  refine fn_denC (fb := b_accepts_floors) T.F_accepts_floors sc_accepts_floors rfl rfl (fun A outer s H E hr => ?_)
  have hu := hr.units
  have nd := sc_accepts_floors.nd
  exact ⟨_, sxs_cons (sx_if (EW.t (ew_or (et_not (et_val (ex_isiK kit_tuple T.m_isinstance T.m_tuple PyProof.Rows.boot_tuple (ex_var)))) (ew_or (et_cmp (op_neK hu) ops_ne (ex_len T.m_len (ea_cons (ex_var) (ea_nil))) (ex_bin op_addK ops_add (ex_var) (ex_int))) (ew_or1 (et_not (et_val (ex_allG (b := false) (own := [("row", 6)]) (k := 5) B.h_accepts_floors B.t_accepts_floors (hr.mono (by decide)) T.m_all nd (ei_seqK (ex_var)) (blkOk_by (N := N_accepts_floors) (sc := defScope s_accepts_floors) (by decide +kernel)) (fun _ _ _ _ _ _ _ _ hr => have hu := hr.units; eg_name nd) (fun _ _ _ _ _ _ _ _ hr => have hu := hr.units; ets_nil) (fun _ _ _ _ _ _ _ _ hr => have hu := hr.units; ex_funPK G_is_floor_row (hr.mono (by decide)) T.m_is_floor_row T.F_is_floor_row.kp T.b_is_floor_row (ea_cons (ex_var) (ea_cons (ex_var) (ea_nil))) (len_cons (len_cons len_nil)))))))))) (sxs_one (sx_ret (ex_bl))) (sxs_nil))
    (sxs_cons (sx_if (et_not (et_val (ex_funPK G_is_below (hr.mono (by decide)) T.m_is_below T.F_is_below.kp T.b_is_below (ea_cons (ex_ixK (ex_ixK (ex_var) (ex_int)) (ex_int)) (ea_cons (ex_lst (ea_cons (ex_ixK (ex_var) (ex_int)) (ea_nil)) (len_cons len_nil)) (ea_nil))) (len_cons (len_cons len_nil))))) (sxs_one (sx_ret (ex_bl))) (sxs_nil))
    (sxs_cons (sx_for PassesOwn.never rfl (ei_rng1 T.m_range (ea_cons (ex_var) (ea_nil))) (eg_name nd) (sxs_one (sx_for PassesOwn.never rfl (ei_rng1 T.m_range (ea_cons (ex_bin op_addK ops_add (ex_var) (ex_int)) (ea_nil))) (eg_name nd) (sxs_one (sx_if (et_not (et_val (ex_funPK G_is_below (hr.mono (by decide)) T.m_is_below T.F_is_below.kp T.b_is_below (ea_cons (ex_ixK (ex_ixK (ex_var) (ex_bin op_addK ops_add (ex_var) (ex_int))) (ex_var)) (ea_cons (ex_funPK G_bounds_for (hr.mono (by decide)) T.m_bounds_for T.F_bounds_for.kp T.b_bounds_for (ea_cons (ex_ixK (ex_var) (ex_var)) (ea_cons (ex_var) (ea_cons (ex_var) (ea_nil)))) (len_cons (len_cons (len_cons len_nil)))) (ea_nil))) (len_cons (len_cons len_nil))))) (sxs_one (sx_ret (ex_bl))) (sxs_nil))))))
    (sxs_one (sx_ret (ex_bl)))))⟩
theorem sc_best_plan : FnScope N_best_plan ["level", "rounds", "costs"] (defScope s_best_plan) := ⟨rfl, rfl, rfl, by decide +kernel, rfl, by decide +kernel, by decide +kernel⟩
theorem ok_best_plan (T : Tx K mg) (B : Tbs T base) : FnOk P w K mg base CX0 5 T.a_best_plan T.fd_best_plan ["level", "rounds", "costs"] (spD K 3 d_best_plan) := by
  have G_cost_of_plan := ok_cost_of_plan (P := P) (w := w) (base := base) T B
  have G_make_floors := ok_make_floors (P := P) (w := w) (base := base) T B
  refine fn_denM (fb := b_best_plan) T.F_best_plan sc_best_plan rfl rfl (fun cdv A outer s H E hr => ?_)
  have hu := hr.units
  have nd := sc_best_plan.nd
  exact ⟨_, sxs_cons (sx_set nd (ex_funPK G_make_floors (hr.mono (by decide)) T.m_make_floors T.F_make_floors.kp T.b_make_floors (ea_cons (ex_var) (ea_cons (ex_var) (ea_cons (ex_var) (ea_nil)))) (len_cons (len_cons (len_cons len_nil)))))
    (sxs_cons (sx_set nd (ex_ixK (ex_ixK (ex_var) (ex_var)) (ex_var)))
    (sxs_cons (sx_if (et_cmp op_isN ops_isN (ex_var) (ex_non)) (sxs_one (sx_ret (ex_non))) (sxs_nil))
    (sxs_cons (sx_set nd (ex_lst (ea_cons (ex_tup (ea_nil) (len_nil)) (ea_nil)) (len_cons len_nil)))
    (sxs_cons (sx_own nd (en_lst (ea_nil) (len_nil)))
    (sxs_cons (sx_while PassesOwn.never (et_cmp (op_neK hu) ops_ne (ex_var) (ex_lst (ea_nil) (len_nil))) (sxs_cons (sx_own nd (en_lst (ea_nil) (len_nil)))
    (sxs_cons (sx_for PassesOwn.never rfl (ei_seqK (ex_var)) (eg_name nd) (sxs_cons (sx_if (EW.t (ew_and (et_cmp (op_eqK hu) ops_eq (ex_sum T.m_sum (ea_cons (ex_var) (ea_nil))) (ex_var)) (ew_and1 (et_cmp (op_eqK hu) ops_eq (ex_funPK G_cost_of_plan (hr.mono (by decide)) T.m_cost_of_plan T.F_cost_of_plan.kp T.b_cost_of_plan (ea_cons (ex_var) (ea_cons (ex_var) (ea_nil))) (len_cons (len_cons len_nil))) (ex_var))))) (sxs_one (sx_app (ex_var))) (sxs_nil))
    (sxs_cons (sx_set nd (ex_bin op_sub ops_sub (ex_var) (ex_len T.m_len (ea_cons (ex_var) (ea_nil)))))
    (sxs_one (sx_for PassesOwn.never rfl (ei_rng2 T.m_range (ea_cons (ex_int) (ea_cons (ex_bin op_addK ops_add (ex_min2 T.m_min (ea_cons (ex_bin op_sub ops_sub (ex_var) (ex_sum T.m_sum (ea_cons (ex_var) (ea_nil)))) (ea_cons (ex_glob (v := .int 4) (d := .int 4) T.m_MAX_DEPTH ⟨_, rfl⟩ (fun _ _ => by rw [Rep])) (ea_nil)))) (ex_int)) (ea_nil)))) (eg_name nd) (sxs_cons (sx_set nd (ex_bin op_addK ops_add (ex_var) (ex_tup (ea_cons (ex_var) (ea_nil)) (len_cons len_nil))))
    (sxs_cons (sx_set nd (ex_if (et_cmp (op_gtK hu) ops_gt (ex_var) (ex_int)) (ex_ixK (ex_ixK (ex_var) (ex_bin op_sub ops_sub (ex_var) (ex_int))) (ex_bin op_sub ops_sub (ex_var) (ex_sum T.m_sum (ea_cons (ex_var) (ea_nil))))) (ex_non)))
    (sxs_one (sx_if (EW.t (ew_and (et_cmp op_notN ops_notN (ex_var) (ex_non)) (ew_and1 (et_cmp (op_eqK hu) ops_eq (ex_bin op_addK ops_add (ex_bin op_sub ops_sub (ex_funPK G_cost_of_plan (hr.mono (by decide)) T.m_cost_of_plan T.F_cost_of_plan.kp T.b_cost_of_plan (ea_cons (ex_var) (ea_cons (ex_var) (ea_nil))) (len_cons (len_cons len_nil))) (ex_ixK (ex_var) (ex_int))) (ex_var)) (ex_var))))) (sxs_one (sx_app (ex_var))) (sxs_nil))))))))))
    (sxs_cons (sx_set nd (ex_if (et_cmp (op_neK hu) ops_ne (ex_varB) (EX.weak (ex_lst (ea_nil) (len_nil)))) (ex_lst (ea_cons (EX.down (ex_minL hu T.m_min (ea_cons (ex_varB) (ea_nil)))) (ea_nil)) (len_cons len_nil)) (ex_lst (ea_nil) (len_nil))))
    (sxs_one (sx_if (et_cmp (op_neK hu) ops_ne (ex_varB) (EX.weak (ex_lst (ea_nil) (len_nil)))) (sxs_one (sx_set nd (ex_lst (ea_nil) (len_nil)))) (sxs_nil)))))))
    (sxs_one (sx_ret (ex_tup (ea_cons (EX.weak (ex_var)) (ea_cons (ex_minL hu T.m_min (ea_cons (ex_varB) (ea_nil))) (ea_nil))) (len_cons (len_cons len_nil))))))))))⟩
theorem sc_choices : FnScope N_choices ["level", "costs"] (defScope s_choices) := ⟨rfl, rfl, rfl, by decide +kernel, rfl, by decide +kernel, by decide +kernel⟩
theorem ok_choices (T : Tx K mg) (B : Tbs T base) : FnOk P w K mg base CX0 6 T.a_choices T.fd_choices ["level", "costs"] (spD K 2 d_choices) := by
  have G_best_plan := ok_best_plan (P := P) (w := w) (base := base) T B
  refine fn_denM (fb := b_choices) T.F_choices sc_choices rfl rfl (fun cdv A outer s H E hr => ?_)
  have hu := hr.units
  have nd := sc_choices.nd
  exact ⟨_, sxs_cons (sx_own nd (en_lst (ea_nil) (len_nil)))
    (sxs_cons (sx_for PassesOwn.never rfl (ei_rng1 T.m_range (ea_cons (ex_bin op_addK ops_add (ex_var) (ex_int)) (ea_nil))) (eg_name nd) (sxs_cons (sx_set nd (ex_funPK G_best_plan (hr.mono (by decide)) T.m_best_plan T.F_best_plan.kp T.b_best_plan (ea_cons (ex_var) (ea_cons (ex_var) (ea_cons (ex_var) (ea_nil)))) (len_cons (len_cons (len_cons len_nil)))))
    (sxs_one (sx_if (EW.t (ew_and (et_cmp op_notN ops_notN (ex_var) (ex_non)) (ew_and1 (EW.t (ew_or (et_cmp (op_eqK hu) ops_eq (ex_varB) (EX.weak (ex_lst (ea_nil) (len_nil)))) (ew_or1 (et_cmp (op_ltK hu) ops_lt (ex_ixK (ex_var) (ex_int)) (ex_ixK (ex_ixOwnK (ex_neg (ex_int))) (ex_int))))))))) (sxs_one (sx_app (ex_tup (ea_cons (ex_var) (ea_cons (ex_ixK (ex_var) (ex_int)) (ea_nil))) (len_cons (len_cons len_nil))))) (sxs_nil)))))
    (sxs_one (sx_ret (ex_tupOwnK T.m_tuple))))⟩
theorem sc__law_same : FnScope N__law_same ["a", "b"] (defScope s__law_same) := ⟨rfl, rfl, rfl, by decide +kernel, rfl, by decide +kernel, by decide +kernel⟩
theorem ok__law_same (T : Tx K mg) (B : Tbs T base) : ∀ n : Nat, FnOk P w K mg base CX0 (1 + n) T.a__law_same T.fd__law_same ["a", "b"] (spD K 2 (d__law_same n))
  | 0 => fn_zero T.F__law_same sc__law_same
  | n + 1 => by
    have G__law_same := ok__law_same T B n
    refine fn_denM (fb := b__law_same (d__law_same n)) T.F__law_same sc__law_same rfl rfl (fun cdv A outer s H E hr => ?_)
    have hu := hr.units
    have nd := sc__law_same.nd
    exact ⟨_, sxs_cons (sx_if (EW.t (ew_or (EW.t (ew_and (et_val (ex_isiK kit_tuple T.m_isinstance T.m_tuple PyProof.Rows.boot_tuple (ex_var))) (ew_and1 (et_val (ex_isiK kit_tuple T.m_isinstance T.m_tuple PyProof.Rows.boot_tuple (ex_var)))))) (ew_or1 (EW.t (ew_and (et_val (ex_isiK kit_list T.m_isinstance T.m_list PyProof.Rows.boot_list (ex_var))) (ew_and1 (et_val (ex_isiK kit_list T.m_isinstance T.m_list PyProof.Rows.boot_list (ex_var))))))))) (sxs_one (sx_ret (ex_and (ex_cmp (op_eqK hu) ops_eq (ex_len T.m_len (ea_cons (ex_var) (ea_nil))) (ex_len T.m_len (ea_cons (ex_var) (ea_nil)))) (ex_one (ex_all T.m_all (ea_cons (EN.x (en_lc rfl nd (b := false) (own := [("k", 2)]) (ei_rng1 T.m_range (ea_cons (ex_len T.m_len (ea_cons (ex_var) (ea_nil))) (ea_nil))) (blkOk_by (N := N__law_same) (sc := defScope s__law_same) (by decide +kernel)) (fun _ _ _ _ _ => eg_name nd) (fun _ _ _ _ _ => ets_nil) (fun _ _ _ _ _ => ex_funPK G__law_same hr T.m__law_same T.F__law_same.kp T.b__law_same (ea_cons (ex_ixK (ex_var) (ex_var)) (ea_cons (ex_ixK (ex_var) (ex_var)) (ea_nil))) (len_cons (len_cons len_nil))))) (ea_nil))))))) (sxs_nil))
    (sxs_cons (sx_if (EW.t (ew_and (et_val (ex_isiK kit_dict T.m_isinstance T.m_dict PyProof.Rows.boot_dict (ex_var))) (ew_and1 (et_val (ex_isiK kit_dict T.m_isinstance T.m_dict PyProof.Rows.boot_dict (ex_var)))))) sxs_never (sxs_nil))
    (sxs_cons (sx_if (EW.t (ew_or (et_val (ex_isiK kit_bool T.m_isinstance T.m_bool PyProof.Rows.boot_bool (ex_var))) (ew_or1 (et_val (ex_isiK kit_bool T.m_isinstance T.m_bool PyProof.Rows.boot_bool (ex_var)))))) (sxs_one (sx_ret (ex_and (ex_isiK kit_bool T.m_isinstance T.m_bool PyProof.Rows.boot_bool (ex_var)) (ex_and (ex_isiK kit_bool T.m_isinstance T.m_bool PyProof.Rows.boot_bool (ex_var)) (ex_one (ex_cmp (op_eqK hu) ops_eq (ex_var) (ex_var))))))) (sxs_nil))
    (sxs_cons (sx_if (EW.t (ew_or (EW.t (ew_and (et_val (ex_isiK kit_int T.m_isinstance T.m_int PyProof.Rows.boot_int (ex_var))) (ew_and1 (et_val (ex_isiK kit_int T.m_isinstance T.m_int PyProof.Rows.boot_int (ex_var)))))) (ew_or1 (EW.t (ew_and (et_val (ex_isiK kit_str T.m_isinstance T.m_str PyProof.Rows.boot_str (ex_var))) (ew_and1 (et_val (ex_isiK kit_str T.m_isinstance T.m_str PyProof.Rows.boot_str (ex_var))))))))) (sxs_one (sx_ret (ex_cmp (op_eqK hu) ops_eq (ex_var) (ex_var)))) (sxs_nil))
    (sxs_one (sx_ret (ex_and (ex_cmp op_isN ops_isN (ex_var) (ex_non)) (ex_one (ex_cmp op_isN ops_isN (ex_var) (ex_non)))))))))⟩
theorem sc__law_load : FnScope N__law_load ["box"] (defScope s__law_load) := ⟨rfl, rfl, rfl, by decide +kernel, rfl, by decide +kernel, by decide +kernel⟩
theorem ok__law_load (T : Tx K mg) (B : Tbs T base) : FnOk P w K mg base CX0 1 T.a__law_load T.fd__law_load ["box"] (spD K 1 d__law_load) := by
  refine fn_denM (fb := b__law_load) T.F__law_load sc__law_load rfl rfl (fun cdv A outer s H E hr => ?_)
  have hu := hr.units
  have nd := sc__law_load.nd
  exact ⟨_, sxs_cons (sx_set nd (ex_ixObK (ex_var) (ex_int)))
    (sxs_cons (sx_if (et_cmp (op_gtK hu) ops_gt (ex_lenObK T.m_len (ex_var)) (ex_int)) (sxs_cons (sx_set nd (ex_int1 T.m_int (ea_cons (ex_popOb (ex_var)) (ea_nil))))
    (sxs_cons (sx_set nd (ex_if (et_cmp (op_geK hu) ops_ge (ex_var) (ex_int)) (ex_bin op_mulK ops_mul (ex_int) (ex_var)) (ex_bin op_sub ops_sub (ex_bin op_mulK ops_mul (ex_neg (ex_int)) (ex_var)) (ex_int))))
    (sxs_cons (sx_if (et_cmp (op_geK hu) ops_ge (ex_var) (ex_int)) (sxs_one (sx_ret (ex_var))) (sxs_nil))
    (sxs_one (sx_setOb (ex_bin op_mod ops_mod (ex_int1 T.m_int (ea_cons (ex_bin op_addK ops_add (ex_bin op_addK ops_add (ex_bin op_mulK ops_mul (ex_ixObK (ex_var) (ex_int)) (ex_int)) (ex_bin op_mulK ops_mul (ex_var) (ex_int))) (ex_int)) (ea_nil))) (ex_int)) (ex_var) (ex_int)))))) (sxs_nil))
    (sxs_cons (sx_set nd (ex_bin op_mod ops_mod (ex_int1 T.m_int (ea_cons (ex_bin op_addK ops_add (ex_bin op_mulK ops_mul (ex_ixObK (ex_var) (ex_int)) (ex_int)) (ex_int)) (ea_nil))) (ex_int)))
    (sxs_cons (sx_set nd (ex_bin op_mod ops_mod (ex_int1 T.m_int (ea_cons (ex_bin op_addK ops_add (ex_bin op_mulK ops_mul (ex_var) (ex_int)) (ex_int)) (ea_nil))) (ex_int)))
    (sxs_cons (sx_setOb (ex_bin op_mod ops_mod (ex_int1 T.m_int (ea_cons (ex_bin op_addK ops_add (ex_bin op_mulK ops_mul (ex_var) (ex_int)) (ex_int)) (ea_nil))) (ex_int)) (ex_var) (ex_int))
    (sxs_one (sx_ret (ex_bin op_addK ops_add (ex_bin op_addK ops_add (ex_bin op_mulK ops_mul (ex_var) (ex_int)) (ex_bin op_mulK ops_mul (ex_var) (ex_int))) (ex_ixObK (ex_var) (ex_int)))))))))⟩
theorem sc__law_draw : FnScope N__law_draw ["box", "many"] (defScope s__law_draw) := ⟨rfl, rfl, rfl, by decide +kernel, rfl, by decide +kernel, by decide +kernel⟩
theorem ok__law_draw (T : Tx K mg) (B : Tbs T base) : FnOk P w K mg base CX0 2 T.a__law_draw T.fd__law_draw ["box", "many"] (spD K 2 d__law_draw) := by
  have G__law_load := ok__law_load (P := P) (w := w) (base := base) T B
  refine fn_denM (fb := b__law_draw) T.F__law_draw sc__law_draw rfl rfl (fun cdv A outer s H E hr => ?_)
  have hu := hr.units
  have nd := sc__law_draw.nd
  exact ⟨_, sxs_cons (sx_if (et_cmp (op_ltK hu) ops_lt (ex_ixObK (ex_var) (ex_int)) (ex_var)) (sxs_one (sx_setOb (ex_funK G__law_load (hr.mono (by decide)) T.m__law_load T.F__law_load.kp T.b__law_load (ea_cons (ex_var) (ea_nil)) (len_cons len_nil)) (ex_var) (ex_int))) (sxs_nil))
    (sxs_cons (sx_set nd (ex_bin op_mod ops_mod (ex_int1 T.m_int (ea_cons (ex_ixObK (ex_var) (ex_int)) (ea_nil))) (ex_var)))
    (sxs_cons (sx_setOb (ex_bin op_fdivW ops_div (ex_ixObK (ex_var) (ex_int)) (ex_var)) (ex_var) (ex_int))
    (sxs_one (sx_ret (ex_var)))))⟩
theorem sc__law_plans : FnScope N__law_plans ["level", "rounds"] (defScope s__law_plans) := ⟨rfl, rfl, rfl, by decide +kernel, rfl, by decide +kernel, by decide +kernel⟩
theorem ok__law_plans (T : Tx K mg) (B : Tbs T base) : FnOk P w K mg base CX0 1 T.a__law_plans T.fd__law_plans ["level", "rounds"] (spD K 2 d__law_plans) := by
  refine fn_denM (fb := b__law_plans) T.F__law_plans sc__law_plans rfl rfl (fun cdv A outer s H E hr => ?_)
  have hu := hr.units
  have nd := sc__law_plans.nd
  exact ⟨_, sxs_cons (sx_parV nd (ev_own (en_lst (ea_nil) (len_nil))) (ev_own (en_lst (ea_cons (ex_tup (ea_nil) (len_nil)) (ea_nil)) (len_cons len_nil))))
    (sxs_cons (sx_while PassesOwn.never (et_cmp (op_neK hu) ops_ne (ex_varB) (EX.weak (ex_lst (ea_nil) (len_nil)))) (sxs_cons (sx_popTo nd)
    (sxs_cons (sx_set nd (ex_bin op_sub ops_sub (ex_var) (ex_sum T.m_sum (ea_cons (ex_var) (ea_nil)))))
    (sxs_one (sx_if (et_cmp (op_eqK hu) ops_eq (ex_var) (ex_int)) (sxs_one (sx_app (ex_var))) (sxs_one (sx_if (et_cmp (op_ltK hu) ops_lt (ex_len T.m_len (ea_cons (ex_var) (ea_nil))) (ex_var)) (sxs_one (sx_ext (EN.x (en_lc rfl nd (b := false) (own := [("depth", 6)]) (ei_rng2 T.m_range (ea_cons (ex_int) (ea_cons (ex_bin op_addK ops_add (ex_min2 T.m_min (ea_cons (ex_int) (ea_cons (ex_var) (ea_nil)))) (ex_int)) (ea_nil)))) (blkOk_by (N := N__law_plans) (sc := defScope s__law_plans) (by decide +kernel)) (fun _ _ _ _ _ => eg_name nd) (fun _ _ _ _ _ => ets_nil) (fun _ _ _ _ _ => ex_bin op_addK ops_add (ex_var) (ex_tup (ea_cons (ex_var) (ea_nil)) (len_cons len_nil))))))) (sxs_nil))))))))
    (sxs_one (sx_ret (EN.x (en_sortOwn hu T.m_sorted)))))⟩
theorem sc__law_round : FnScope N__law_round ["depth", "costs"] (defScope s__law_round) := ⟨rfl, rfl, rfl, by decide +kernel, rfl, by decide +kernel, by decide +kernel⟩
theorem ok__law_round (T : Tx K mg) (B : Tbs T base) : FnOk P w K mg base CX0 1 T.a__law_round T.fd__law_round ["depth", "costs"] (spD K 2 d__law_round) := by
  refine fn_denM (fb := b__law_round) T.F__law_round sc__law_round rfl rfl (fun cdv A outer s H E hr => ?_)
  have hu := hr.units
  have nd := sc__law_round.nd
  exact ⟨_, sxs_one (sx_ret (ex_bin op_addK ops_add (ex_ixK (ex_var) (ex_int)) (ex_bin op_mulK ops_mul (ex_ixK (ex_var) (ex_int)) (ex_ixK (ex_lst (ea_cons (ex_int) (ea_cons (ex_int) (ea_cons (ex_int) (ea_cons (ex_int) (ea_cons (ex_int) (ea_nil)))))) (len_cons (len_cons (len_cons (len_cons (len_cons len_nil)))))) (ex_var)))))⟩
theorem sc__law_cost : FnScope N__law_cost ["plan", "costs"] (defScope s__law_cost) := ⟨rfl, rfl, rfl, by decide +kernel, rfl, by decide +kernel, by decide +kernel⟩
theorem ok__law_cost (T : Tx K mg) (B : Tbs T base) : FnOk P w K mg base CX0 2 T.a__law_cost T.fd__law_cost ["plan", "costs"] (spD K 2 d__law_cost) := by
  have G__law_round := ok__law_round (P := P) (w := w) (base := base) T B
  refine fn_denM (fb := b__law_cost) T.F__law_cost sc__law_cost rfl rfl (fun cdv A outer s H E hr => ?_)
  have hu := hr.units
  have nd := sc__law_cost.nd
  exact ⟨_, sxs_one (sx_ret (ex_bin op_addK ops_add (ex_sum T.m_sum (ea_cons (EN.x (en_lc rfl nd (b := false) (own := [("depth", 2)]) (ei_seqK (ex_var)) (blkOk_by (N := N__law_cost) (sc := defScope s__law_cost) (by decide +kernel)) (fun _ _ _ _ _ => eg_name nd) (fun _ _ _ _ _ => ets_nil) (fun _ _ _ _ _ => ex_funPK G__law_round (hr.mono (by decide)) T.m__law_round T.F__law_round.kp T.b__law_round (ea_cons (ex_var) (ea_cons (ex_var) (ea_nil))) (len_cons (len_cons len_nil))))) (ea_nil))) (ex_ixK (ex_var) (ex_int))))⟩
theorem sc__law_best : FnScope N__law_best ["level", "rounds", "costs"] (defScope s__law_best) := ⟨rfl, rfl, rfl, by decide +kernel, rfl, by decide +kernel, by decide +kernel⟩
theorem ok__law_best (T : Tx K mg) (B : Tbs T base) : FnOk P w K mg base CX0 3 T.a__law_best T.fd__law_best ["level", "rounds", "costs"] (spD K 3 d__law_best) := by
  have G__law_cost := ok__law_cost (P := P) (w := w) (base := base) T B
  have G__law_plans := ok__law_plans (P := P) (w := w) (base := base) T B
  refine fn_denM (fb := b__law_best) T.F__law_best sc__law_best rfl rfl (fun cdv A outer s H E hr => ?_)
  have hu := hr.units
  have nd := sc__law_best.nd
  exact ⟨_, sxs_cons (sx_lcV rfl nd (b := false) (own := [("plan", 4)]) (ei_seqK (ex_funPK G__law_plans (hr.mono (by decide)) T.m__law_plans T.F__law_plans.kp T.b__law_plans (ea_cons (ex_var) (ea_cons (ex_var) (ea_nil))) (len_cons (len_cons len_nil)))) (blkOk_by (N := N__law_best) (sc := defScope s__law_best) (by decide +kernel)) (fun _ _ _ _ _ => eg_name nd) (fun _ _ _ _ _ => ets_nil) (fun _ _ _ _ _ => ex_tup (ea_cons (ex_funPK G__law_cost (hr.mono (by decide)) T.m__law_cost T.F__law_cost.kp T.b__law_cost (ea_cons (ex_var) (ea_cons (ex_var) (ea_nil))) (len_cons (len_cons len_nil))) (ea_cons (ex_var) (ea_nil))) (len_cons (len_cons len_nil))))
    (sxs_one (sx_ret (ex_if (et_cmp (op_neK hu) ops_ne (ex_var) (ex_lst (ea_nil) (len_nil))) (ex_minL hu T.m_min (ea_cons (ex_var) (ea_nil))) (ex_non))))⟩
theorem sc__law_at_most : FnScope N__law_at_most ["number", "bounds"] (defScope s__law_at_most) := ⟨rfl, rfl, rfl, by decide +kernel, rfl, by decide +kernel, by decide +kernel⟩
theorem ok__law_at_most (T : Tx K mg) (B : Tbs T base) : FnOk P w K mg base CX0 1 T.a__law_at_most T.fd__law_at_most ["number", "bounds"] (spD K 2 d__law_at_most) := by
  refine fn_denM (fb := b__law_at_most) T.F__law_at_most sc__law_at_most rfl rfl (fun cdv A outer s H E hr => ?_)
  have hu := hr.units
  have nd := sc__law_at_most.nd
  exact ⟨_, sxs_cons (sx_lcV rfl nd (b := false) (own := [("bound", 3)]) (ei_seqK (ex_var)) (blkOk_by (N := N__law_at_most) (sc := defScope s__law_at_most) (by decide +kernel)) (fun _ _ _ _ _ => eg_name nd) (fun _ _ _ _ _ => ets_one (et_cmp op_notN ops_notN (ex_var) (ex_non))) (fun _ _ _ _ _ => ex_var))
    (sxs_one (sx_ret (ex_or (ex_cmp (op_eqK hu) ops_eq (ex_var) (ex_lst (ea_nil) (len_nil))) (ex_one (ex_and (ex_cmp op_notN ops_notN (ex_var) (ex_non)) (ex_one (ex_cmp (op_leK hu) ops_le (ex_var) (ex_minL hu T.m_min (ea_cons (ex_var) (ea_nil))))))))))⟩
theorem sc__law_accepted : FnScope N__law_accepted ["level", "rounds", "costs", "value"] (defScope s__law_accepted) := ⟨rfl, rfl, rfl, by decide +kernel, rfl, by decide +kernel, by decide +kernel⟩
theorem ok__law_accepted (T : Tx K mg) (B : Tbs T base) : FnOk P w K mg base CX0 2 T.a__law_accepted T.fd__law_accepted ["level", "rounds", "costs", "value"] (spD K 4 d__law_accepted) := by
  have G__law_at_most := ok__law_at_most (P := P) (w := w) (base := base) T B
  have G__law_round := ok__law_round (P := P) (w := w) (base := base) T B
  refine fn_denM (fb := b__law_accepted) T.F__law_accepted sc__law_accepted rfl rfl (fun cdv A outer s H E hr => ?_)
  have hu := hr.units
  have nd := sc__law_accepted.nd
  exact ⟨_, sxs_cons (sx_if (EW.t (ew_or (et_not (et_val (ex_isiK kit_tuple T.m_isinstance T.m_tuple PyProof.Rows.boot_tuple (ex_var)))) (ew_or1 (et_cmp (op_neK hu) ops_ne (ex_len T.m_len (ea_cons (ex_var) (ea_nil))) (ex_bin op_addK ops_add (ex_var) (ex_int)))))) (sxs_one (sx_ret (ex_bl))) (sxs_nil))
    (sxs_cons (sx_for PassesOwn.never rfl (ei_seqK (ex_var)) (eg_name nd) (sxs_one (sx_if (EW.t (ew_or (et_not (et_val (ex_isiK kit_tuple T.m_isinstance T.m_tuple PyProof.Rows.boot_tuple (ex_var)))) (ew_or (et_cmp (op_neK hu) ops_ne (ex_len T.m_len (ea_cons (ex_var) (ea_nil))) (ex_bin op_addK ops_add (ex_var) (ex_int))) (ew_or1 (et_not (et_val (ex_all T.m_all (ea_cons (EN.x (en_lc rfl nd (b := false) (own := [("x", 8)]) (ei_seqK (ex_var)) (blkOk_by (N := N__law_accepted) (sc := defScope s__law_accepted) (by decide +kernel)) (fun _ _ _ _ _ => eg_name nd) (fun _ _ _ _ _ => ets_nil) (fun _ _ _ _ _ => ex_or (ex_cmp op_isN ops_isN (ex_var) (ex_non)) (ex_one (ex_and (ex_isiK kit_int T.m_isinstance T.m_int PyProof.Rows.boot_int (ex_var)) (ex_one (ex_not (ex_isiK kit_bool T.m_isinstance T.m_bool PyProof.Rows.boot_bool (ex_var))))))))) (ea_nil))))))))) (sxs_one (sx_ret (ex_bl))) (sxs_nil))))
    (sxs_cons (sx_if (et_not (et_val (ex_funPK G__law_at_most (hr.mono (by decide)) T.m__law_at_most T.F__law_at_most.kp T.b__law_at_most (ea_cons (ex_ixK (ex_ixK (ex_var) (ex_int)) (ex_int)) (ea_cons (ex_lst (ea_cons (ex_ixK (ex_var) (ex_int)) (ea_nil)) (len_cons len_nil)) (ea_nil))) (len_cons (len_cons len_nil))))) (sxs_one (sx_ret (ex_bl))) (sxs_nil))
    (sxs_cons (sx_for PassesOwn.never rfl (ei_rng1 T.m_range (ea_cons (ex_var) (ea_nil))) (eg_name nd) (sxs_one (sx_for PassesOwn.never rfl (ei_rng1 T.m_range (ea_cons (ex_bin op_addK ops_add (ex_var) (ex_int)) (ea_nil))) (eg_name nd) (sxs_cons (sx_set nd (ex_bin op_addK ops_add (ex_lst (ea_cons (ex_ixK (ex_ixK (ex_var) (ex_var)) (ex_var)) (ea_nil)) (len_cons len_nil)) (ex_if (et_cmp (op_eqK hu) ops_eq (ex_var) (ex_int)) (ex_lst (ea_cons (ex_ixK (ex_var) (ex_int)) (ea_nil)) (len_cons len_nil)) (ex_lst (ea_nil) (len_nil)))))
    (sxs_cons (sx_set nd (ex_bin op_addK ops_add (ex_var) (EN.x (en_lc rfl nd (b := false) (own := [("depth", 9)]) (ei_rng2 T.m_range (ea_cons (ex_int) (ea_cons (ex_bin op_addK ops_add (ex_min2 T.m_min (ea_cons (ex_int) (ea_cons (ex_var) (ea_nil)))) (ex_int)) (ea_nil)))) (blkOk_by (N := N__law_accepted) (sc := defScope s__law_accepted) (by decide +kernel)) (fun _ _ _ _ _ => eg_name nd) (fun _ _ _ _ _ => ets_nil) (fun _ _ _ _ _ => ex_if (et_cmp op_isN ops_isN (ex_ixK (ex_ixK (ex_var) (ex_var)) (ex_bin op_sub ops_sub (ex_var) (ex_var))) (ex_non)) (ex_non) (ex_bin op_addK ops_add (ex_funPK G__law_round (hr.mono (by decide)) T.m__law_round T.F__law_round.kp T.b__law_round (ea_cons (ex_var) (ea_cons (ex_var) (ea_nil))) (len_cons (len_cons len_nil))) (ex_ixK (ex_ixK (ex_var) (ex_var)) (ex_bin op_sub ops_sub (ex_var) (ex_var)))))))))
    (sxs_one (sx_if (et_not (et_val (ex_funPK G__law_at_most (hr.mono (by decide)) T.m__law_at_most T.F__law_at_most.kp T.b__law_at_most (ea_cons (ex_ixK (ex_ixK (ex_var) (ex_bin op_addK ops_add (ex_var) (ex_int))) (ex_var)) (ea_cons (ex_var) (ea_nil))) (len_cons (len_cons len_nil))))) (sxs_one (sx_ret (ex_bl))) (sxs_nil))))))))
    (sxs_one (sx_ret (ex_bl))))))⟩
theorem sc__law_changed : FnScope N__law_changed ["box", "value"] (defScope s__law_changed) := ⟨rfl, rfl, rfl, by decide +kernel, rfl, by decide +kernel, by decide +kernel⟩
theorem ok__law_changed (T : Tx K mg) (B : Tbs T base) : ∀ n : Nat, FnOk P w K mg base CX0 (3 + n) T.a__law_changed T.fd__law_changed ["box", "value"] (spD K 2 (d__law_changed n))
  | 0 => fn_zero T.F__law_changed sc__law_changed
  | n + 1 => by
    have G__law_changed := ok__law_changed T B n
    have G__law_draw := ok__law_draw (P := P) (w := w) (base := base) T B
    refine fn_denM (fb := b__law_changed (d__law_changed n)) T.F__law_changed sc__law_changed rfl rfl (fun cdv A outer s H E hr => ?_)
    have hu := hr.units
    have nd := sc__law_changed.nd
    exact ⟨_, sxs_cons (sx_if (EW.t (ew_and (et_val (ex_isiK kit_tuple T.m_isinstance T.m_tuple PyProof.Rows.boot_tuple (ex_var))) (ew_and (et_cmp (op_neK hu) ops_ne (ex_var) (ex_tup (ea_nil) (len_nil))) (ew_and1 (et_cmp (op_gtK hu) ops_gt (ex_funK G__law_draw (hr.mono (Nat.le_trans (by decide) (Nat.le_add_right 3 n))) T.m__law_draw T.F__law_draw.kp T.b__law_draw (ea_cons (ex_var) (ea_cons (ex_int) (ea_nil))) (len_cons (len_cons len_nil))) (ex_int)))))) (sxs_cons (sx_set nd (ex_funK G__law_draw (hr.mono (Nat.le_trans (by decide) (Nat.le_add_right 3 n))) T.m__law_draw T.F__law_draw.kp T.b__law_draw (ea_cons (ex_var) (ea_cons (ex_len T.m_len (ea_cons (ex_var) (ea_nil))) (ea_nil))) (len_cons (len_cons len_nil))))
    (sxs_one (sx_ret (ex_bin op_addK ops_add (ex_bin op_addK ops_add (ex_slK (ex_var) (eo_none) (eo_some (ex_var))) (ex_tup (ea_cons (ex_funK G__law_changed hr T.m__law_changed T.F__law_changed.kp T.b__law_changed (ea_cons (ex_var) (ea_cons (ex_ixK (ex_var) (ex_var)) (ea_nil))) (len_cons (len_cons len_nil))) (ea_nil)) (len_cons len_nil))) (ex_slK (ex_var) (eo_some (ex_bin op_addK ops_add (ex_var) (ex_int))) (eo_none)))))) (sxs_nil))
    (sxs_cons (sx_set nd (ex_lst (ea_cons (ex_non) (ea_cons (ex_tup (ea_nil) (len_nil)) (ea_cons (ex_int) (ea_cons (ex_bl) (ea_cons (ex_str) (ea_cons (ex_bin op_pow ops_pow (ex_int) (ex_int)) (ea_nil))))))) (len_cons (len_cons (len_cons (len_cons (len_cons (len_cons len_nil))))))))
    (sxs_cons (sx_if (et_val (ex_isiK kit_int T.m_isinstance T.m_int PyProof.Rows.boot_int (ex_var))) (sxs_one (sx_set nd (ex_lst (ea_cons (ex_bin op_addK ops_add (ex_var) (ex_int)) (ea_cons (ex_bin op_sub ops_sub (ex_var) (ex_int)) (ea_cons (ex_bin op_sub ops_sub (ex_var) (ex_int)) (ea_cons (ex_cmp (op_eqK hu) ops_eq (ex_var) (ex_int)) (ea_cons (ex_non) (ea_cons (ex_bin op_addK ops_add (ex_var) (ex_int)) (ea_nil))))))) (len_cons (len_cons (len_cons (len_cons (len_cons (len_cons len_nil))))))))) (sxs_nil))
    (sxs_cons (sx_if (et_val (ex_isiK kit_tuple T.m_isinstance T.m_tuple PyProof.Rows.boot_tuple (ex_var))) (sxs_one (sx_set nd (ex_bin op_addK ops_add (ex_var) (ex_lst (ea_cons (ex_slK (ex_var) (eo_none) (eo_some (ex_neg (ex_int)))) (ea_cons (ex_bin op_addK ops_add (ex_var) (ex_slK (ex_var) (eo_none) (eo_some (ex_int)))) (ea_cons (ex_rev (ex_var) (ex_neg (ex_int))) (ea_nil)))) (len_cons (len_cons (len_cons len_nil))))))) (sxs_nil))
    (sxs_one (sx_ret (ex_ixK (ex_var) (ex_funK G__law_draw (hr.mono (Nat.le_trans (by decide) (Nat.le_add_right 3 n))) T.m__law_draw T.F__law_draw.kp T.b__law_draw (ea_cons (ex_var) (ea_cons (ex_len T.m_len (ea_cons (ex_var) (ea_nil))) (ea_nil))) (len_cons (len_cons len_nil)))))))))⟩
theorem sc__law_box : FnScope N__law_box ["script", "nodes"] (defScope s__law_box) := ⟨rfl, rfl, rfl, by decide +kernel, rfl, by decide +kernel, by decide +kernel⟩
theorem ok__law_box (T : Tx K mg) : FnOk P w K mg base CX0 1 T.a__law_box T.fd__law_box ["script", "nodes"] (spBox4 K) := by
  refine T.F__law_box.ok sc__law_box (fun vs H Q E h => ?_) (fun cdv A outer s H vs Q E hr h => ?_)
  · obtain ⟨a, ns, z, rfl, _⟩ := h
    rfl
  · obtain ⟨a, ns, z, rfl, hS, hlen, k⟩ := h
    refine ⟨_, pss_one (ps_ret (pe_lst (pa_cons (pe_callTy call_list_of rfl T.m_list PyProof.Rows.boot_list (pa_cons (pv 0) pa_nil)) (pa_cons pe_int (pa_cons (pe_op op_add pe_int (pe_callB call_len_seq rfl T.m_len PySem.boot_len (pa_cons (pv 0) pa_nil))) (pa_cons (pv 1) pa_nil)))))), ?_⟩
    refine ⟨_, rfl, a, _, rfl, .inl hS, fun c hc => ?_⟩
    have hS2 : SqL K (upd H c (.lst (ns.map V.int))) a (ns.map V.int) := Same.seq (fun x o h => upd_keep hc h) hS
    refine ⟨_, rfl, a, _, rfl, .inl hS2, _, _, rfl, rfl, ?_⟩
    refine ⟨_, rfl, ?_⟩
    refine ⟨by show 4 ≤ sizeLine; decide, fun b hb => ?_⟩
    exact box_all4 hc hb k
theorem sc_law : FnScope N_law ["script"] (defScope s_law) := ⟨rfl, rfl, rfl, by decide +kernel, rfl, by decide +kernel, by decide +kernel⟩
theorem ok_law (T : Tx K mg) (B : Tbs T base) (good : ∀ ns : List Int, ns.length ≤ 63 → ∃ ω, b_law (lawRo 20 1) (box4 ns) = some (.rt (.bool true), ω)) : FnOk P w K mg base CX0 10 T.a_law T.fd_law ["script"] (spLaw K) := by
  have G__law_accepted := ok__law_accepted (P := P) (w := w) (base := base) T B
  have G__law_best := ok__law_best (P := P) (w := w) (base := base) T B
  have G__law_changed := ok__law_changed (P := P) (w := w) (base := base) T B 6
  have G__law_cost := ok__law_cost (P := P) (w := w) (base := base) T B
  have G__law_draw := ok__law_draw (P := P) (w := w) (base := base) T B
  have G__law_plans := ok__law_plans (P := P) (w := w) (base := base) T B
  have G__law_same := ok__law_same (P := P) (w := w) (base := base) T B 6
  have G_accepts_floors := ok_accepts_floors (P := P) (w := w) (base := base) T B
  have G_best_plan := ok_best_plan (P := P) (w := w) (base := base) T B
  have G_choices := ok_choices (P := P) (w := w) (base := base) T B
  have G_cost_of_plan := ok_cost_of_plan (P := P) (w := w) (base := base) T B
  have G_is_plan := ok_is_plan (P := P) (w := w) (base := base) T B
  have G_make_floors := ok_make_floors (P := P) (w := w) (base := base) T B
  have G__law_box := ok__law_box (P := P) (w := w) (base := base) T
  refine T.F_law.ok sc_law (fun vs H Q E h => ?_) (fun cdv A outer s H vs Q E hr h => ?_)
  · obtain ⟨a, ns, rfl, _⟩ := h
    rfl
  · obtain ⟨a, ns, rfl, hS, hlen, hT, k⟩ := h
    have hu := hr.units
    have nd := sc_law.nd
    have R : ∃ t, SXs (cxOf CX0 P w K mg base N_law "law" (defScope s_law) T.a_law cdv A outer s H E).nox ((defBody s_law).drop 1) t b_law := ⟨_, sxs_cons (sx_asg (ex_tup (ea_cons (ex_funK G__law_draw (hr.mono (by decide)) T.m__law_draw T.F__law_draw.kp T.b__law_draw (ea_cons (ex_var) (ea_cons (ex_int) (ea_nil))) (len_cons (len_cons len_nil))) (ea_cons (ex_funK G__law_draw (hr.mono (by decide)) T.m__law_draw T.F__law_draw.kp T.b__law_draw (ea_cons (ex_var) (ea_cons (ex_int) (ea_nil))) (len_cons (len_cons len_nil))) (ea_nil))) (len_cons (len_cons len_nil))) (eg_tupK (egs_cons (eg_name nd) (egs_cons (eg_name nd) (egs_nil))) (leng_cons (leng_cons (leng_nil)))))
    (sxs_cons (sx_set nd (ex_tuple T.m_tuple (ea_cons (EN.x (en_lc rfl nd (b := false) (own := [("k", 15)]) (ei_rng1 T.m_range (ea_cons (ex_int) (ea_nil))) (blkOk_by (N := N_law) (sc := defScope s_law) (by decide +kernel)) (fun _ _ _ _ _ => eg_name nd) (fun _ _ _ _ _ => ets_nil) (fun _ _ _ _ _ => ex_ixK (ex_lst (ea_cons (ex_int) (ea_cons (ex_int) (ea_cons (ex_funK G__law_draw (hr.mono (by decide)) T.m__law_draw T.F__law_draw.kp T.b__law_draw (ea_cons (ex_var) (ea_cons (ex_int) (ea_nil))) (len_cons (len_cons len_nil))) (ea_cons (ex_funK G__law_draw (hr.mono (by decide)) T.m__law_draw T.F__law_draw.kp T.b__law_draw (ea_cons (ex_var) (ea_cons (ex_int) (ea_nil))) (len_cons (len_cons len_nil))) (ea_cons (ex_int) (ea_nil)))))) (len_cons (len_cons (len_cons (len_cons (len_cons len_nil)))))) (ex_funK G__law_draw (hr.mono (by decide)) T.m__law_draw T.F__law_draw.kp T.b__law_draw (ea_cons (ex_var) (ea_cons (ex_int) (ea_nil))) (len_cons (len_cons len_nil)))))) (ea_nil))))
    (sxs_cons (sx_if (et_not (et_val (ex_funPK G__law_same (hr.mono (by decide)) T.m__law_same T.F__law_same.kp T.b__law_same (ea_cons (ex_funPK G_best_plan (hr.mono (by decide)) T.m_best_plan T.F_best_plan.kp T.b_best_plan (ea_cons (ex_var) (ea_cons (ex_var) (ea_cons (ex_var) (ea_nil)))) (len_cons (len_cons (len_cons len_nil)))) (ea_cons (ex_funPK G__law_best (hr.mono (by decide)) T.m__law_best T.F__law_best.kp T.b__law_best (ea_cons (ex_var) (ea_cons (ex_var) (ea_cons (ex_var) (ea_nil)))) (len_cons (len_cons (len_cons len_nil)))) (ea_nil))) (len_cons (len_cons len_nil))))) (sxs_one (sx_ret (ex_bl))) (sxs_nil))
    (sxs_cons (sx_set nd (ex_funPK G__law_plans (hr.mono (by decide)) T.m__law_plans T.F__law_plans.kp T.b__law_plans (ea_cons (ex_var) (ea_cons (ex_var) (ea_nil))) (len_cons (len_cons len_nil))))
    (sxs_cons (sx_set nd (ex_ixK (ex_var) (ex_funK G__law_draw (hr.mono (by decide)) T.m__law_draw T.F__law_draw.kp T.b__law_draw (ea_cons (ex_var) (ea_cons (ex_len T.m_len (ea_cons (ex_var) (ea_nil))) (ea_nil))) (len_cons (len_cons len_nil)))))
    (sxs_cons (sx_if (EW.t (ew_or (et_cmp op_notBl ops_notB (ex_funPK G_is_plan (hr.mono (by decide)) T.m_is_plan T.F_is_plan.kp T.b_is_plan (ea_cons (ex_var) (ea_cons (ex_var) (ea_nil))) (len_cons (len_cons len_nil))) (ex_bl)) (ew_or1 (et_not (et_val (ex_funPK G__law_same (hr.mono (by decide)) T.m__law_same T.F__law_same.kp T.b__law_same (ea_cons (ex_funPK G_cost_of_plan (hr.mono (by decide)) T.m_cost_of_plan T.F_cost_of_plan.kp T.b_cost_of_plan (ea_cons (ex_var) (ea_cons (ex_var) (ea_nil))) (len_cons (len_cons len_nil))) (ea_cons (ex_funPK G__law_cost (hr.mono (by decide)) T.m__law_cost T.F__law_cost.kp T.b__law_cost (ea_cons (ex_var) (ea_cons (ex_var) (ea_nil))) (len_cons (len_cons len_nil))) (ea_nil))) (len_cons (len_cons len_nil)))))))) (sxs_one (sx_ret (ex_bl))) (sxs_nil))
    (sxs_cons (sx_for PassesOwn.never rfl (ei_seqK (ex_lst (ea_cons (ex_bin op_addK ops_add (ex_var) (ex_tup (ea_cons (ex_int) (ea_nil)) (len_cons len_nil))) (ea_cons (ex_bin op_addK ops_add (ex_tup (ea_cons (ex_int) (ea_nil)) (len_cons len_nil)) (ex_var)) (ea_cons (ex_bin op_addK ops_add (ex_tup (ea_cons (ex_int) (ea_nil)) (len_cons len_nil)) (ex_var)) (ea_cons (ex_bin op_addK ops_add (ex_var) (ex_tup (ea_cons (ex_bl) (ea_nil)) (len_cons len_nil))) (ea_cons (ex_non) (ea_cons (ex_tup (ea_cons (ex_str) (ea_nil)) (len_cons len_nil)) (ea_cons (ex_bin op_addK ops_add (ex_slK (ex_var) (eo_none) (eo_some (ex_neg (ex_int)))) (ex_tup (ea_cons (ex_non) (ea_nil)) (len_cons len_nil))) (ea_nil)))))))) (len_cons (len_cons (len_cons (len_cons (len_cons (len_cons (len_cons len_nil))))))))) (eg_name nd) (sxs_one (sx_if (et_cmp op_notBl ops_notB (ex_funPK G_is_plan (hr.mono (by decide)) T.m_is_plan T.F_is_plan.kp T.b_is_plan (ea_cons (ex_var) (ea_cons (ex_bin op_addK ops_add (ex_var) (ex_bin op_mulK ops_mul (ex_int) (ex_int1 T.m_int (ea_cons (ex_cmp (op_eqK hu) ops_eq (ex_var) (ex_bin op_addK ops_add (ex_tup (ea_cons (ex_int) (ea_nil)) (len_cons len_nil)) (ex_var))) (ea_nil))))) (ea_nil))) (len_cons (len_cons len_nil))) (ex_bl)) (sxs_one (sx_ret (ex_bl))) (sxs_nil))))
    (sxs_cons (sx_own nd (en_lst (ea_nil) (len_nil)))
    (sxs_cons (sx_for PassesOwn.never rfl (ei_rng1 T.m_range (ea_cons (ex_bin op_addK ops_add (ex_var) (ex_int)) (ea_nil))) (eg_name nd) (sxs_cons (sx_lcV rfl nd (b := false) (own := [("lower", 11)]) (ei_rng1 T.m_range (ea_cons (ex_bin op_addK ops_add (ex_var) (ex_int)) (ea_nil))) (blkOk_by (N := N_law) (sc := defScope s_law) (by decide +kernel)) (fun _ _ _ _ _ => eg_name nd) (fun _ _ _ _ _ => ets_nil) (fun _ _ _ _ _ => ex_funPK G__law_best (hr.mono (by decide)) T.m__law_best T.F__law_best.kp T.b__law_best (ea_cons (ex_var) (ea_cons (ex_var) (ea_cons (ex_var) (ea_nil)))) (len_cons (len_cons (len_cons len_nil)))))
    (sxs_one (sx_app (ex_tuple T.m_tuple (ea_cons (EN.x (en_lc rfl nd (b := false) (own := [("best", 16)]) (ei_seqK (ex_var)) (blkOk_by (N := N_law) (sc := defScope s_law) (by decide +kernel)) (fun _ _ _ _ _ => eg_name nd) (fun _ _ _ _ _ => ets_nil) (fun _ _ _ _ _ => ex_if (et_cmp op_isN ops_isN (ex_var) (ex_non)) (ex_non) (ex_ixK (ex_var) (ex_int))))) (ea_nil)))))))
    (sxs_cons (sx_set nd (ex_tupOwnK T.m_tuple))
    (sxs_cons (sx_if (EW.t (ew_or (et_not (et_val (ex_funPK G__law_same (hr.mono (by decide)) T.m__law_same T.F__law_same.kp T.b__law_same (ea_cons (ex_funPK G_make_floors (hr.mono (by decide)) T.m_make_floors T.F_make_floors.kp T.b_make_floors (ea_cons (ex_var) (ea_cons (ex_var) (ea_cons (ex_var) (ea_nil)))) (len_cons (len_cons (len_cons len_nil)))) (ea_cons (ex_var) (ea_nil))) (len_cons (len_cons len_nil))))) (ew_or1 (et_cmp op_notBl ops_notB (ex_funPK G_accepts_floors (hr.mono (by decide)) T.m_accepts_floors T.F_accepts_floors.kp T.b_accepts_floors (ea_cons (ex_var) (ea_cons (ex_var) (ea_cons (ex_var) (ea_cons (ex_var) (ea_nil))))) (len_cons (len_cons (len_cons (len_cons len_nil))))) (ex_bl))))) (sxs_one (sx_ret (ex_bl))) (sxs_nil))
    (sxs_cons (sx_set nd (ex_tuple T.m_tuple (ea_cons (EN.x (en_lc rfl nd (b := false) (own := [("row", 10)]) (ei_seqK (ex_var)) (blkOk_by (N := N_law) (sc := defScope s_law) (by decide +kernel)) (fun _ _ _ _ _ => eg_name nd) (fun _ _ _ _ _ => ets_nil) (fun _ _ _ _ _ => ex_tuple T.m_tuple (ea_cons (EN.x (en_lc rfl nd (b := false) (own := [("x", 17)]) (ei_seqK (ex_var)) (blkOk_by (Eq.refl true)) (fun _ _ _ _ _ => eg_name nd) (fun _ _ _ _ _ => ets_nil) (fun _ _ _ _ _ => ex_if (et_cmp op_isN ops_isN (ex_var) (ex_non)) (ex_non) (ex_bin op_sub ops_sub (ex_var) (ex_bin op_mulK ops_mul (ex_funK G__law_draw (hr.mono (by decide)) T.m__law_draw T.F__law_draw.kp T.b__law_draw (ea_cons (ex_var) (ea_cons (ex_int) (ea_nil))) (len_cons (len_cons len_nil))) (ex_funK G__law_draw (hr.mono (by decide)) T.m__law_draw T.F__law_draw.kp T.b__law_draw (ea_cons (ex_var) (ea_cons (ex_int) (ea_nil))) (len_cons (len_cons len_nil)))))))) (ea_nil))))) (ea_nil))))
    (sxs_cons (sx_for PassesOwn.never rfl (ei_rng1 T.m_range (ea_cons (ex_int) (ea_nil))) (eg_name nd) (sxs_cons (sx_set nd (ex_funK G__law_changed (hr.mono (by decide)) T.m__law_changed T.F__law_changed.kp T.b__law_changed (ea_cons (ex_var) (ea_cons (ex_ixK (ex_lst (ea_cons (ex_var) (ea_cons (ex_var) (ea_nil))) (len_cons (len_cons len_nil))) (ex_funK G__law_draw (hr.mono (by decide)) T.m__law_draw T.F__law_draw.kp T.b__law_draw (ea_cons (ex_var) (ea_cons (ex_int) (ea_nil))) (len_cons (len_cons len_nil)))) (ea_nil))) (len_cons (len_cons len_nil))))
    (sxs_one (sx_if (et_not (et_val (ex_funPK G__law_same (hr.mono (by decide)) T.m__law_same T.F__law_same.kp T.b__law_same (ea_cons (ex_funPK G_accepts_floors (hr.mono (by decide)) T.m_accepts_floors T.F_accepts_floors.kp T.b_accepts_floors (ea_cons (ex_var) (ea_cons (ex_var) (ea_cons (ex_var) (ea_cons (ex_var) (ea_nil))))) (len_cons (len_cons (len_cons (len_cons len_nil))))) (ea_cons (ex_funPK G__law_accepted (hr.mono (by decide)) T.m__law_accepted T.F__law_accepted.kp T.b__law_accepted (ea_cons (ex_var) (ea_cons (ex_var) (ea_cons (ex_var) (ea_cons (ex_var) (ea_nil))))) (len_cons (len_cons (len_cons (len_cons len_nil))))) (ea_nil))) (len_cons (len_cons len_nil))))) (sxs_one (sx_ret (ex_bl))) (sxs_nil)))))
    (sxs_cons (sx_set nd (EN.x (en_lc rfl nd (b := false) (own := [("r", 9)]) (ei_rng1 T.m_range (ea_cons (ex_bin op_addK ops_add (ex_var) (ex_int)) (ea_nil))) (blkOk_by (N := N_law) (sc := defScope s_law) (by decide +kernel)) (fun _ _ _ _ _ => eg_name nd) (fun _ _ _ _ _ => ets_one (et_cmp op_notN ops_notN (ex_funPK G__law_best (hr.mono (by decide)) T.m__law_best T.F__law_best.kp T.b__law_best (ea_cons (ex_var) (ea_cons (ex_var) (ea_cons (ex_var) (ea_nil)))) (len_cons (len_cons (len_cons len_nil)))) (ex_non))) (fun _ _ _ _ _ => ex_tup (ea_cons (ex_var) (ea_cons (ex_ixK (ex_funPK G__law_best (hr.mono (by decide)) T.m__law_best T.F__law_best.kp T.b__law_best (ea_cons (ex_var) (ea_cons (ex_var) (ea_cons (ex_var) (ea_nil)))) (len_cons (len_cons (len_cons len_nil)))) (ex_int)) (ea_nil))) (len_cons (len_cons len_nil))))))
    (sxs_cons (sx_set nd (ex_tuple T.m_tuple (ea_cons (EN.x (en_lc rfl nd (b := false) (own := [("pair", 18)]) (ei_seqK (ex_var)) (blkOk_by (N := N_law) (sc := defScope s_law) (by decide +kernel)) (fun _ _ _ _ _ => eg_name nd) (fun _ _ _ _ _ => ets_one (et_not (et_val (ex_any T.m_any (ea_cons (EN.x (en_lc rfl nd (b := false) (own := [("other", 19)]) (ei_seqK (ex_var)) (blkOk_by (Eq.refl true)) (fun _ _ _ _ _ => eg_name nd) (fun _ _ _ _ _ => ets_nil) (fun _ _ _ _ _ => ex_and (ex_cmp (op_neK hu) ops_ne (ex_var) (ex_var)) (ex_and (ex_cmp (op_leK hu) ops_le (ex_ixK (ex_var) (ex_int)) (ex_ixK (ex_var) (ex_int))) (ex_one (ex_cmp (op_leK hu) ops_le (ex_ixK (ex_var) (ex_int)) (ex_ixK (ex_var) (ex_int)))))))) (ea_nil)))))) (fun _ _ _ _ _ => ex_var))) (ea_nil))))
    (sxs_one (sx_ret (ex_funPK G__law_same (hr.mono (by decide)) T.m__law_same T.F__law_same.kp T.b__law_same (ea_cons (ex_funPK G_choices (hr.mono (by decide)) T.m_choices T.F_choices.kp T.b_choices (ea_cons (ex_var) (ea_cons (ex_var) (ea_nil))) (len_cons (len_cons len_nil))) (ea_cons (ex_var) (ea_nil))) (len_cons (len_cons len_nil)))))))))))))))))))⟩
    obtain ⟨t, R⟩ := R
    refine ⟨_, pss_cons (ps_set (i := 1) sc_law.nd rfl (by first | exact Or.inl rfl | exact Or.inr rfl) (pe_call G__law_box (hr.mono (by decide)) rfl T.m__law_box T.F__law_box.kp T.b__law_box .nil pass0 (pa_cons (pv 0) (pa_cons pe_int pa_nil)))) R.pe, ?_⟩
    refine ⟨_, rfl, ?_⟩
    exact law_go4 (N := N_law) (i := 1) R.sn hS hlen hT (by decide) (good ns hlen) k
end
/-! ## the end -/
theorem all_mk {l : PySem.W.OpenLaw} {w : World} {K : PySem.W.Frag} {h : Heap} {mg : Str → Option Value} {fa f0 f1 f2 f3 f4 f5 f6 f7 f8 f9 f10 f11 f12 f13 f14 f15 f16 f17 f18 f19 f20 f21 f22 f23 f24 f25 : Addr} (good : ∀ ns : List Int, ns.length ≤ 63 → ∃ ω, b_law (lawRo 20 1) (box4 ns) = some (.rt (.bool true), ω)) (X : K.In h) (G : h.Ns mainGlobals mg) (hfa : mg "law" = some (.ref fa))
    {od0 an0 od1 an1 od2 an2 od3 an3 od4 an4 od5 an5 od6 an6 od7 an7 od8 an8 od9 an9 od10 an10 od11 an11 od12 an12 od13 an13 od14 an14 od15 an15 od16 an16 od17 an17 od18 an18 od19 an19 od20 an20 od21 an21 od22 an22 od23 an23 od24 an24 od25 an25 : Option Addr} {sl0 sl1 sl2 sl3 sl4 sl5 sl6 sl7 sl8 sl9 sl10 sl11 sl12 sl13 sl14 sl15 sl16 sl17 sl18 sl19 sl20 sl21 sl22 sl23 sl24 sl25 : Array (Option Value)} {oc0 kV0 dc0 pm0 ct0 oc1 kV1 dc1 pm1 ct1 oc2 kV2 dc2 pm2 ct2 oc3 kV3 dc3 pm3 ct3 oc4 kV4 dc4 pm4 ct4 oc5 kV5 dc5 pm5 ct5 oc6 kV6 dc6 pm6 ct6 oc7 kV7 dc7 pm7 ct7 oc8 kV8 dc8 pm8 ct8 oc9 kV9 dc9 pm9 ct9 oc10 kV10 dc10 pm10 ct10 oc11 kV11 dc11 pm11 ct11 oc12 kV12 dc12 pm12 ct12 oc13 kV13 dc13 pm13 ct13 oc14 kV14 dc14 pm14 ct14 oc15 kV15 dc15 pm15 ct15 oc16 kV16 dc16 pm16 ct16 oc17 kV17 dc17 pm17 ct17 oc18 kV18 dc18 pm18 ct18 oc19 kV19 dc19 pm19 ct19 oc20 kV20 dc20 pm20 ct20 oc21 kV21 dc21 pm21 ct21 oc22 kV22 dc22 pm22 ct22 oc23 kV23 dc23 pm23 ct23 oc24 kV24 dc24 pm24 ct24 oc25 kV25 dc25 pm25 ct25 : Value} {cc0 cc1 cc2 cc3 cc4 cc5 cc6 cc7 cc8 cc9 cc10 cc11 cc12 cc13 cc14 cc15 cc16 cc17 cc18 cc19 cc20 cc21 cc22 cc23 cc24 cc25 pp2 pp9 pp11 : Addr}
    (a0 : PySem.W.nsIn K mainGlobals "is_number" = some (some (.ref f0))) (l0 : K.lookup f0 = some ⟨oc0, od0, .func (PySem.W.fnOf "is_number" "is_number" (defArgs s_is_number) (defBody s_is_number) (defScope s_is_number) .none kV0 dc0 pm0 an0 (.ref cc0) ct0), sl0⟩) (c0 : PySem.W.codeIn K (.ref cc0) "is_number" = true) (k0 : PySem.W.keepIn K (.ref f0) = true)
    (a1 : PySem.W.nsIn K mainGlobals "leaf_count" = some (some (.ref f1))) (l1 : K.lookup f1 = some ⟨oc1, od1, .func (PySem.W.fnOf "leaf_count" "leaf_count" (defArgs s_leaf_count) (defBody s_leaf_count) (defScope s_leaf_count) .none kV1 dc1 pm1 an1 (.ref cc1) ct1), sl1⟩) (c1 : PySem.W.codeIn K (.ref cc1) "leaf_count" = true) (k1 : PySem.W.keepIn K (.ref f1) = true)
    (a2 : PySem.W.nsIn K mainGlobals "is_plan" = some (some (.ref f2))) (l2 : K.lookup f2 = some ⟨oc2, od2, .func (PySem.W.fnOf "is_plan" "is_plan" (defArgs s_is_plan) (defBody s_is_plan) (defScope s_is_plan) .none kV2 dc2 pm2 an2 (.ref cc2) ct2), sl2⟩) (c2 : PySem.W.codeIn K (.ref cc2) "is_plan" = true) (k2 : PySem.W.keepIn K (.ref f2) = true)
    (a3 : PySem.W.nsIn K mainGlobals "round_cost" = some (some (.ref f3))) (l3 : K.lookup f3 = some ⟨oc3, od3, .func (PySem.W.fnOf "round_cost" "round_cost" (defArgs s_round_cost) (defBody s_round_cost) (defScope s_round_cost) .none kV3 dc3 pm3 an3 (.ref cc3) ct3), sl3⟩) (c3 : PySem.W.codeIn K (.ref cc3) "round_cost" = true) (k3 : PySem.W.keepIn K (.ref f3) = true)
    (a4 : PySem.W.nsIn K mainGlobals "cost_of_plan" = some (some (.ref f4))) (l4 : K.lookup f4 = some ⟨oc4, od4, .func (PySem.W.fnOf "cost_of_plan" "cost_of_plan" (defArgs s_cost_of_plan) (defBody s_cost_of_plan) (defScope s_cost_of_plan) .none kV4 dc4 pm4 an4 (.ref cc4) ct4), sl4⟩) (c4 : PySem.W.codeIn K (.ref cc4) "cost_of_plan" = true) (k4 : PySem.W.keepIn K (.ref f4) = true)
    (a5 : PySem.W.nsIn K mainGlobals "least" = some (some (.ref f5))) (l5 : K.lookup f5 = some ⟨oc5, od5, .func (PySem.W.fnOf "least" "least" (defArgs s_least) (defBody s_least) (defScope s_least) .none kV5 dc5 pm5 an5 (.ref cc5) ct5), sl5⟩) (c5 : PySem.W.codeIn K (.ref cc5) "least" = true) (k5 : PySem.W.keepIn K (.ref f5) = true)
    (a6 : PySem.W.nsIn K mainGlobals "bounds_for" = some (some (.ref f6))) (l6 : K.lookup f6 = some ⟨oc6, od6, .func (PySem.W.fnOf "bounds_for" "bounds_for" (defArgs s_bounds_for) (defBody s_bounds_for) (defScope s_bounds_for) .none kV6 dc6 pm6 an6 (.ref cc6) ct6), sl6⟩) (c6 : PySem.W.codeIn K (.ref cc6) "bounds_for" = true) (k6 : PySem.W.keepIn K (.ref f6) = true)
    (a7 : PySem.W.nsIn K mainGlobals "make_floors" = some (some (.ref f7))) (l7 : K.lookup f7 = some ⟨oc7, od7, .func (PySem.W.fnOf "make_floors" "make_floors" (defArgs s_make_floors) (defBody s_make_floors) (defScope s_make_floors) .none kV7 dc7 pm7 an7 (.ref cc7) ct7), sl7⟩) (c7 : PySem.W.codeIn K (.ref cc7) "make_floors" = true) (k7 : PySem.W.keepIn K (.ref f7) = true)
    (a8 : PySem.W.nsIn K mainGlobals "is_whole" = some (some (.ref f8))) (l8 : K.lookup f8 = some ⟨oc8, od8, .func (PySem.W.fnOf "is_whole" "is_whole" (defArgs s_is_whole) (defBody s_is_whole) (defScope s_is_whole) .none kV8 dc8 pm8 an8 (.ref cc8) ct8), sl8⟩) (c8 : PySem.W.codeIn K (.ref cc8) "is_whole" = true) (k8 : PySem.W.keepIn K (.ref f8) = true)
    (a9 : PySem.W.nsIn K mainGlobals "is_floor_row" = some (some (.ref f9))) (l9 : K.lookup f9 = some ⟨oc9, od9, .func (PySem.W.fnOf "is_floor_row" "is_floor_row" (defArgs s_is_floor_row) (defBody s_is_floor_row) (defScope s_is_floor_row) .none kV9 dc9 pm9 an9 (.ref cc9) ct9), sl9⟩) (c9 : PySem.W.codeIn K (.ref cc9) "is_floor_row" = true) (k9 : PySem.W.keepIn K (.ref f9) = true)
    (a10 : PySem.W.nsIn K mainGlobals "is_below" = some (some (.ref f10))) (l10 : K.lookup f10 = some ⟨oc10, od10, .func (PySem.W.fnOf "is_below" "is_below" (defArgs s_is_below) (defBody s_is_below) (defScope s_is_below) .none kV10 dc10 pm10 an10 (.ref cc10) ct10), sl10⟩) (c10 : PySem.W.codeIn K (.ref cc10) "is_below" = true) (k10 : PySem.W.keepIn K (.ref f10) = true)
    (a11 : PySem.W.nsIn K mainGlobals "accepts_floors" = some (some (.ref f11))) (l11 : K.lookup f11 = some ⟨oc11, od11, .func (PySem.W.fnOf "accepts_floors" "accepts_floors" (defArgs s_accepts_floors) (defBody s_accepts_floors) (defScope s_accepts_floors) .none kV11 dc11 pm11 an11 (.ref cc11) ct11), sl11⟩) (c11 : PySem.W.codeIn K (.ref cc11) "accepts_floors" = true) (k11 : PySem.W.keepIn K (.ref f11) = true)
    (a12 : PySem.W.nsIn K mainGlobals "best_plan" = some (some (.ref f12))) (l12 : K.lookup f12 = some ⟨oc12, od12, .func (PySem.W.fnOf "best_plan" "best_plan" (defArgs s_best_plan) (defBody s_best_plan) (defScope s_best_plan) .none kV12 dc12 pm12 an12 (.ref cc12) ct12), sl12⟩) (c12 : PySem.W.codeIn K (.ref cc12) "best_plan" = true) (k12 : PySem.W.keepIn K (.ref f12) = true)
    (a13 : PySem.W.nsIn K mainGlobals "choices" = some (some (.ref f13))) (l13 : K.lookup f13 = some ⟨oc13, od13, .func (PySem.W.fnOf "choices" "choices" (defArgs s_choices) (defBody s_choices) (defScope s_choices) .none kV13 dc13 pm13 an13 (.ref cc13) ct13), sl13⟩) (c13 : PySem.W.codeIn K (.ref cc13) "choices" = true) (k13 : PySem.W.keepIn K (.ref f13) = true)
    (a14 : PySem.W.nsIn K mainGlobals "_law_same" = some (some (.ref f14))) (l14 : K.lookup f14 = some ⟨oc14, od14, .func (PySem.W.fnOf "_law_same" "_law_same" (defArgs s__law_same) (defBody s__law_same) (defScope s__law_same) .none kV14 dc14 pm14 an14 (.ref cc14) ct14), sl14⟩) (c14 : PySem.W.codeIn K (.ref cc14) "_law_same" = true) (k14 : PySem.W.keepIn K (.ref f14) = true)
    (a15 : PySem.W.nsIn K mainGlobals "_law_box" = some (some (.ref f15))) (l15 : K.lookup f15 = some ⟨oc15, od15, .func (PySem.W.fnOf "_law_box" "_law_box" (defArgs s__law_box) (defBody s__law_box) (defScope s__law_box) .none kV15 dc15 pm15 an15 (.ref cc15) ct15), sl15⟩) (c15 : PySem.W.codeIn K (.ref cc15) "_law_box" = true) (k15 : PySem.W.keepIn K (.ref f15) = true)
    (a16 : PySem.W.nsIn K mainGlobals "_law_load" = some (some (.ref f16))) (l16 : K.lookup f16 = some ⟨oc16, od16, .func (PySem.W.fnOf "_law_load" "_law_load" (defArgs s__law_load) (defBody s__law_load) (defScope s__law_load) .none kV16 dc16 pm16 an16 (.ref cc16) ct16), sl16⟩) (c16 : PySem.W.codeIn K (.ref cc16) "_law_load" = true) (k16 : PySem.W.keepIn K (.ref f16) = true)
    (a17 : PySem.W.nsIn K mainGlobals "_law_draw" = some (some (.ref f17))) (l17 : K.lookup f17 = some ⟨oc17, od17, .func (PySem.W.fnOf "_law_draw" "_law_draw" (defArgs s__law_draw) (defBody s__law_draw) (defScope s__law_draw) .none kV17 dc17 pm17 an17 (.ref cc17) ct17), sl17⟩) (c17 : PySem.W.codeIn K (.ref cc17) "_law_draw" = true) (k17 : PySem.W.keepIn K (.ref f17) = true)
    (a18 : PySem.W.nsIn K mainGlobals "_law_plans" = some (some (.ref f18))) (l18 : K.lookup f18 = some ⟨oc18, od18, .func (PySem.W.fnOf "_law_plans" "_law_plans" (defArgs s__law_plans) (defBody s__law_plans) (defScope s__law_plans) .none kV18 dc18 pm18 an18 (.ref cc18) ct18), sl18⟩) (c18 : PySem.W.codeIn K (.ref cc18) "_law_plans" = true) (k18 : PySem.W.keepIn K (.ref f18) = true)
    (a19 : PySem.W.nsIn K mainGlobals "_law_round" = some (some (.ref f19))) (l19 : K.lookup f19 = some ⟨oc19, od19, .func (PySem.W.fnOf "_law_round" "_law_round" (defArgs s__law_round) (defBody s__law_round) (defScope s__law_round) .none kV19 dc19 pm19 an19 (.ref cc19) ct19), sl19⟩) (c19 : PySem.W.codeIn K (.ref cc19) "_law_round" = true) (k19 : PySem.W.keepIn K (.ref f19) = true)
    (a20 : PySem.W.nsIn K mainGlobals "_law_cost" = some (some (.ref f20))) (l20 : K.lookup f20 = some ⟨oc20, od20, .func (PySem.W.fnOf "_law_cost" "_law_cost" (defArgs s__law_cost) (defBody s__law_cost) (defScope s__law_cost) .none kV20 dc20 pm20 an20 (.ref cc20) ct20), sl20⟩) (c20 : PySem.W.codeIn K (.ref cc20) "_law_cost" = true) (k20 : PySem.W.keepIn K (.ref f20) = true)
    (a21 : PySem.W.nsIn K mainGlobals "_law_best" = some (some (.ref f21))) (l21 : K.lookup f21 = some ⟨oc21, od21, .func (PySem.W.fnOf "_law_best" "_law_best" (defArgs s__law_best) (defBody s__law_best) (defScope s__law_best) .none kV21 dc21 pm21 an21 (.ref cc21) ct21), sl21⟩) (c21 : PySem.W.codeIn K (.ref cc21) "_law_best" = true) (k21 : PySem.W.keepIn K (.ref f21) = true)
    (a22 : PySem.W.nsIn K mainGlobals "_law_at_most" = some (some (.ref f22))) (l22 : K.lookup f22 = some ⟨oc22, od22, .func (PySem.W.fnOf "_law_at_most" "_law_at_most" (defArgs s__law_at_most) (defBody s__law_at_most) (defScope s__law_at_most) .none kV22 dc22 pm22 an22 (.ref cc22) ct22), sl22⟩) (c22 : PySem.W.codeIn K (.ref cc22) "_law_at_most" = true) (k22 : PySem.W.keepIn K (.ref f22) = true)
    (a23 : PySem.W.nsIn K mainGlobals "_law_accepted" = some (some (.ref f23))) (l23 : K.lookup f23 = some ⟨oc23, od23, .func (PySem.W.fnOf "_law_accepted" "_law_accepted" (defArgs s__law_accepted) (defBody s__law_accepted) (defScope s__law_accepted) .none kV23 dc23 pm23 an23 (.ref cc23) ct23), sl23⟩) (c23 : PySem.W.codeIn K (.ref cc23) "_law_accepted" = true) (k23 : PySem.W.keepIn K (.ref f23) = true)
    (a24 : PySem.W.nsIn K mainGlobals "_law_changed" = some (some (.ref f24))) (l24 : K.lookup f24 = some ⟨oc24, od24, .func (PySem.W.fnOf "_law_changed" "_law_changed" (defArgs s__law_changed) (defBody s__law_changed) (defScope s__law_changed) .none kV24 dc24 pm24 an24 (.ref cc24) ct24), sl24⟩) (c24 : PySem.W.codeIn K (.ref cc24) "_law_changed" = true) (k24 : PySem.W.keepIn K (.ref f24) = true)
    (a25 : PySem.W.nsIn K mainGlobals "law" = some (some (.ref f25))) (l25 : K.lookup f25 = some ⟨oc25, od25, .func (PySem.W.fnOf "law" "law" (defArgs s_law) (defBody s_law) (defScope s_law) .none kV25 dc25 pm25 an25 (.ref cc25) ct25), sl25⟩) (c25 : PySem.W.codeIn K (.ref cc25) "law" = true) (k25 : PySem.W.keepIn K (.ref f25) = true)
    (z_all : PySem.W.nsIn K mainGlobals "all" = some none)
    (z_any : PySem.W.nsIn K mainGlobals "any" = some none)
    (z_bool : PySem.W.nsIn K mainGlobals "bool" = some none)
    (z_dict : PySem.W.nsIn K mainGlobals "dict" = some none)
    (z_int : PySem.W.nsIn K mainGlobals "int" = some none)
    (z_isinstance : PySem.W.nsIn K mainGlobals "isinstance" = some none)
    (z_len : PySem.W.nsIn K mainGlobals "len" = some none)
    (z_list : PySem.W.nsIn K mainGlobals "list" = some none)
    (z_min : PySem.W.nsIn K mainGlobals "min" = some none)
    (z_range : PySem.W.nsIn K mainGlobals "range" = some none)
    (z_sorted : PySem.W.nsIn K mainGlobals "sorted" = some none)
    (z_str : PySem.W.nsIn K mainGlobals "str" = some none)
    (z_sum : PySem.W.nsIn K mainGlobals "sum" = some none)
    (z_tuple : PySem.W.nsIn K mainGlobals "tuple" = some none)
    {tk_MAX_DEPTH : Tok} (y_MAX_DEPTH : PySem.W.nsIn K mainGlobals "MAX_DEPTH" = some (some (.int 4 tk_MAX_DEPTH)))
    : ∃ fd : FuncData, (∀ (s : Shared) (v : Value), BindsTo s fd ⟨[v], []⟩ [("script", v)]) ∧ ∀ base : Heap, K.In base → base.Ns mainGlobals mg → (∀ p ∈ [(cc2, pp2), (cc9, pp9), (cc11, pp11)], GxR.TabB base mg p.1 p.2) → FnOk l.prog w K mg base CX0 10 fa fd ["script"] (@spLaw (tbOf [(cc2, pp2), (cc9, pp9), (cc11, pp11)]) K) := by
  letI : Tb := tbOf [(cc2, pp2), (cc9, pp9), (cc11, pp11)]
  have e := hfa.symm.trans (PySem.W.mg_of X G a25)
  cases e
  have F0 := fun_mk (st := s_is_number) l0 c0 k0
  have b0 := F0.binds (ps := ["value", "least", "most"]) fun _ _ _ _ _ _ us hl => match us, hl with | [_, _, _], _ => rfl
  have F1 := fun_mk (st := s_leaf_count) l1 c1 k1
  have b1 := F1.binds (ps := ["height"]) fun _ _ _ _ _ _ us hl => match us, hl with | [_], _ => rfl
  have F2 := funC_mk (st := s_is_plan) l2 c2 k2
  have b2 := F2.f.binds (ps := ["value", "level"]) fun _ _ _ _ _ _ us hl => match us, hl with | [_, _], _ => rfl
  have F3 := fun_mk (st := s_round_cost) l3 c3 k3
  have b3 := F3.binds (ps := ["depth", "costs"]) fun _ _ _ _ _ _ us hl => match us, hl with | [_, _], _ => rfl
  have F4 := fun_mk (st := s_cost_of_plan) l4 c4 k4
  have b4 := F4.binds (ps := ["plan", "costs"]) fun _ _ _ _ _ _ us hl => match us, hl with | [_, _], _ => rfl
  have F5 := fun_mk (st := s_least) l5 c5 k5
  have b5 := F5.binds (ps := ["numbers"]) fun _ _ _ _ _ _ us hl => match us, hl with | [_], _ => rfl
  have F6 := fun_mk (st := s_bounds_for) l6 c6 k6
  have b6 := F6.binds (ps := ["row", "level", "costs"]) fun _ _ _ _ _ _ us hl => match us, hl with | [_, _, _], _ => rfl
  have F7 := fun_mk (st := s_make_floors) l7 c7 k7
  have b7 := F7.binds (ps := ["level", "rounds", "costs"]) fun _ _ _ _ _ _ us hl => match us, hl with | [_, _, _], _ => rfl
  have F8 := fun_mk (st := s_is_whole) l8 c8 k8
  have b8 := F8.binds (ps := ["value"]) fun _ _ _ _ _ _ us hl => match us, hl with | [_], _ => rfl
  have F9 := funC_mk (st := s_is_floor_row) l9 c9 k9
  have b9 := F9.f.binds (ps := ["value", "level"]) fun _ _ _ _ _ _ us hl => match us, hl with | [_, _], _ => rfl
  have F10 := fun_mk (st := s_is_below) l10 c10 k10
  have b10 := F10.binds (ps := ["number", "bounds"]) fun _ _ _ _ _ _ us hl => match us, hl with | [_, _], _ => rfl
  have F11 := funC_mk (st := s_accepts_floors) l11 c11 k11
  have b11 := F11.f.binds (ps := ["level", "rounds", "costs", "value"]) fun _ _ _ _ _ _ us hl => match us, hl with | [_, _, _, _], _ => rfl
  have F12 := fun_mk (st := s_best_plan) l12 c12 k12
  have b12 := F12.binds (ps := ["level", "rounds", "costs"]) fun _ _ _ _ _ _ us hl => match us, hl with | [_, _, _], _ => rfl
  have F13 := fun_mk (st := s_choices) l13 c13 k13
  have b13 := F13.binds (ps := ["level", "costs"]) fun _ _ _ _ _ _ us hl => match us, hl with | [_, _], _ => rfl
  have F14 := fun_mk (st := s__law_same) l14 c14 k14
  have b14 := F14.binds (ps := ["a", "b"]) fun _ _ _ _ _ _ us hl => match us, hl with | [_, _], _ => rfl
  have F15 := fun_mk (st := s__law_box) l15 c15 k15
  have b15 := F15.binds (ps := ["script", "nodes"]) fun _ _ _ _ _ _ us hl => match us, hl with | [_, _], _ => rfl
  have F16 := fun_mk (st := s__law_load) l16 c16 k16
  have b16 := F16.binds (ps := ["box"]) fun _ _ _ _ _ _ us hl => match us, hl with | [_], _ => rfl
  have F17 := fun_mk (st := s__law_draw) l17 c17 k17
  have b17 := F17.binds (ps := ["box", "many"]) fun _ _ _ _ _ _ us hl => match us, hl with | [_, _], _ => rfl
  have F18 := fun_mk (st := s__law_plans) l18 c18 k18
  have b18 := F18.binds (ps := ["level", "rounds"]) fun _ _ _ _ _ _ us hl => match us, hl with | [_, _], _ => rfl
  have F19 := fun_mk (st := s__law_round) l19 c19 k19
  have b19 := F19.binds (ps := ["depth", "costs"]) fun _ _ _ _ _ _ us hl => match us, hl with | [_, _], _ => rfl
  have F20 := fun_mk (st := s__law_cost) l20 c20 k20
  have b20 := F20.binds (ps := ["plan", "costs"]) fun _ _ _ _ _ _ us hl => match us, hl with | [_, _], _ => rfl
  have F21 := fun_mk (st := s__law_best) l21 c21 k21
  have b21 := F21.binds (ps := ["level", "rounds", "costs"]) fun _ _ _ _ _ _ us hl => match us, hl with | [_, _, _], _ => rfl
  have F22 := fun_mk (st := s__law_at_most) l22 c22 k22
  have b22 := F22.binds (ps := ["number", "bounds"]) fun _ _ _ _ _ _ us hl => match us, hl with | [_, _], _ => rfl
  have F23 := fun_mk (st := s__law_accepted) l23 c23 k23
  have b23 := F23.binds (ps := ["level", "rounds", "costs", "value"]) fun _ _ _ _ _ _ us hl => match us, hl with | [_, _, _, _], _ => rfl
  have F24 := fun_mk (st := s__law_changed) l24 c24 k24
  have b24 := F24.binds (ps := ["box", "value"]) fun _ _ _ _ _ _ us hl => match us, hl with | [_, _], _ => rfl
  have F25 := fun_mk (st := s_law) l25 c25 k25
  have b25 := F25.binds (ps := ["script"]) fun _ _ _ _ _ _ us hl => match us, hl with | [_], _ => rfl
  let T : Tx K mg := { a_is_number := f0, fd_is_number := _, F_is_number := F0, m_is_number := PySem.W.mg_of X G a0, b_is_number := b0, a_leaf_count := f1, fd_leaf_count := _, F_leaf_count := F1, m_leaf_count := PySem.W.mg_of X G a1, b_leaf_count := b1, c_is_plan := cc2, P_is_plan := pp2, a_is_plan := f2, fd_is_plan := _, F_is_plan := F2, m_is_plan := PySem.W.mg_of X G a2, b_is_plan := b2, a_round_cost := f3, fd_round_cost := _, F_round_cost := F3, m_round_cost := PySem.W.mg_of X G a3, b_round_cost := b3, a_cost_of_plan := f4, fd_cost_of_plan := _, F_cost_of_plan := F4, m_cost_of_plan := PySem.W.mg_of X G a4, b_cost_of_plan := b4, a_least := f5, fd_least := _, F_least := F5, m_least := PySem.W.mg_of X G a5, b_least := b5, a_bounds_for := f6, fd_bounds_for := _, F_bounds_for := F6, m_bounds_for := PySem.W.mg_of X G a6, b_bounds_for := b6, a_make_floors := f7, fd_make_floors := _, F_make_floors := F7, m_make_floors := PySem.W.mg_of X G a7, b_make_floors := b7, a_is_whole := f8, fd_is_whole := _, F_is_whole := F8, m_is_whole := PySem.W.mg_of X G a8, b_is_whole := b8, c_is_floor_row := cc9, P_is_floor_row := pp9, a_is_floor_row := f9, fd_is_floor_row := _, F_is_floor_row := F9, m_is_floor_row := PySem.W.mg_of X G a9, b_is_floor_row := b9, a_is_below := f10, fd_is_below := _, F_is_below := F10, m_is_below := PySem.W.mg_of X G a10, b_is_below := b10, c_accepts_floors := cc11, P_accepts_floors := pp11, a_accepts_floors := f11, fd_accepts_floors := _, F_accepts_floors := F11, m_accepts_floors := PySem.W.mg_of X G a11, b_accepts_floors := b11, a_best_plan := f12, fd_best_plan := _, F_best_plan := F12, m_best_plan := PySem.W.mg_of X G a12, b_best_plan := b12, a_choices := f13, fd_choices := _, F_choices := F13, m_choices := PySem.W.mg_of X G a13, b_choices := b13, a__law_same := f14, fd__law_same := _, F__law_same := F14, m__law_same := PySem.W.mg_of X G a14, b__law_same := b14, a__law_box := f15, fd__law_box := _, F__law_box := F15, m__law_box := PySem.W.mg_of X G a15, b__law_box := b15, a__law_load := f16, fd__law_load := _, F__law_load := F16, m__law_load := PySem.W.mg_of X G a16, b__law_load := b16, a__law_draw := f17, fd__law_draw := _, F__law_draw := F17, m__law_draw := PySem.W.mg_of X G a17, b__law_draw := b17, a__law_plans := f18, fd__law_plans := _, F__law_plans := F18, m__law_plans := PySem.W.mg_of X G a18, b__law_plans := b18, a__law_round := f19, fd__law_round := _, F__law_round := F19, m__law_round := PySem.W.mg_of X G a19, b__law_round := b19, a__law_cost := f20, fd__law_cost := _, F__law_cost := F20, m__law_cost := PySem.W.mg_of X G a20, b__law_cost := b20, a__law_best := f21, fd__law_best := _, F__law_best := F21, m__law_best := PySem.W.mg_of X G a21, b__law_best := b21, a__law_at_most := f22, fd__law_at_most := _, F__law_at_most := F22, m__law_at_most := PySem.W.mg_of X G a22, b__law_at_most := b22, a__law_accepted := f23, fd__law_accepted := _, F__law_accepted := F23, m__law_accepted := PySem.W.mg_of X G a23, b__law_accepted := b23, a__law_changed := f24, fd__law_changed := _, F__law_changed := F24, m__law_changed := PySem.W.mg_of X G a24, b__law_changed := b24, a_law := fa, fd_law := _, F_law := F25, m_law := PySem.W.mg_of X G a25, b_law := b25, m_all := PySem.W.mg_none_of X G z_all, m_any := PySem.W.mg_none_of X G z_any, m_bool := PySem.W.mg_none_of X G z_bool, m_dict := PySem.W.mg_none_of X G z_dict, m_int := PySem.W.mg_none_of X G z_int, m_isinstance := PySem.W.mg_none_of X G z_isinstance, m_len := PySem.W.mg_none_of X G z_len, m_list := PySem.W.mg_none_of X G z_list, m_min := PySem.W.mg_none_of X G z_min, m_range := PySem.W.mg_none_of X G z_range, m_sorted := PySem.W.mg_none_of X G z_sorted, m_str := PySem.W.mg_none_of X G z_str, m_sum := PySem.W.mg_none_of X G z_sum, m_tuple := PySem.W.mg_none_of X G z_tuple, t_MAX_DEPTH := tk_MAX_DEPTH, m_MAX_DEPTH := PySem.W.mg_of X G y_MAX_DEPTH }
  exact ⟨PySem.W.fnOf "law" "law" (defArgs s_law) (defBody s_law) (defScope s_law) .none kV25 dc25 pm25 an25 (.ref cc25) ct25, fun s v => .of_eq rfl, fun base _ _ TB => ok_law (base := base) T { t_is_plan := TB (cc2, pp2) (by simp), h_is_plan := (by show pp2 ∈ List.map _ _; simp), t_is_floor_row := TB (cc9, pp9) (by simp), h_is_floor_row := (by show pp9 ∈ List.map _ _; simp), t_accepts_floors := TB (cc11, pp11) (by simp), h_accepts_floors := (by show pp11 ∈ List.map _ _; simp) } good⟩
theorem all_tab {l : PySem.W.OpenLaw} {w : World} {K : PySem.W.Frag} {h : Heap} {mg : Str → Option Value} {fa f0 f1 f2 f3 f4 f5 f6 f7 f8 f9 f10 f11 f12 f13 f14 f15 f16 f17 f18 f19 f20 f21 f22 f23 f24 f25 : Addr} (good : ∀ ns : List Int, ns.length ≤ 63 → ∃ ω, b_law (lawRo 20 1) (box4 ns) = some (.rt (.bool true), ω)) (X : K.In h) (G : h.Ns mainGlobals mg) (hfa : mg "law" = some (.ref fa))
    {od0 an0 od1 an1 od2 an2 od3 an3 od4 an4 od5 an5 od6 an6 od7 an7 od8 an8 od9 an9 od10 an10 od11 an11 od12 an12 od13 an13 od14 an14 od15 an15 od16 an16 od17 an17 od18 an18 od19 an19 od20 an20 od21 an21 od22 an22 od23 an23 od24 an24 od25 an25 : Option Addr} {sl0 sl1 sl2 sl3 sl4 sl5 sl6 sl7 sl8 sl9 sl10 sl11 sl12 sl13 sl14 sl15 sl16 sl17 sl18 sl19 sl20 sl21 sl22 sl23 sl24 sl25 : Array (Option Value)} {oc0 kV0 dc0 pm0 ct0 oc1 kV1 dc1 pm1 ct1 oc2 kV2 dc2 pm2 ct2 oc3 kV3 dc3 pm3 ct3 oc4 kV4 dc4 pm4 ct4 oc5 kV5 dc5 pm5 ct5 oc6 kV6 dc6 pm6 ct6 oc7 kV7 dc7 pm7 ct7 oc8 kV8 dc8 pm8 ct8 oc9 kV9 dc9 pm9 ct9 oc10 kV10 dc10 pm10 ct10 oc11 kV11 dc11 pm11 ct11 oc12 kV12 dc12 pm12 ct12 oc13 kV13 dc13 pm13 ct13 oc14 kV14 dc14 pm14 ct14 oc15 kV15 dc15 pm15 ct15 oc16 kV16 dc16 pm16 ct16 oc17 kV17 dc17 pm17 ct17 oc18 kV18 dc18 pm18 ct18 oc19 kV19 dc19 pm19 ct19 oc20 kV20 dc20 pm20 ct20 oc21 kV21 dc21 pm21 ct21 oc22 kV22 dc22 pm22 ct22 oc23 kV23 dc23 pm23 ct23 oc24 kV24 dc24 pm24 ct24 oc25 kV25 dc25 pm25 ct25 : Value} {cc0 cc1 cc2 cc3 cc4 cc5 cc6 cc7 cc8 cc9 cc10 cc11 cc12 cc13 cc14 cc15 cc16 cc17 cc18 cc19 cc20 cc21 cc22 cc23 cc24 cc25 pp2 pp9 pp11 : Addr}
    (a0 : PySem.W.nsIn K mainGlobals "is_number" = some (some (.ref f0))) (l0 : K.lookup f0 = some ⟨oc0, od0, .func (PySem.W.fnOf "is_number" "is_number" (defArgs s_is_number) (defBody s_is_number) (defScope s_is_number) .none kV0 dc0 pm0 an0 (.ref cc0) ct0), sl0⟩) (c0 : PySem.W.codeIn K (.ref cc0) "is_number" = true) (k0 : PySem.W.keepIn K (.ref f0) = true)
    (a1 : PySem.W.nsIn K mainGlobals "leaf_count" = some (some (.ref f1))) (l1 : K.lookup f1 = some ⟨oc1, od1, .func (PySem.W.fnOf "leaf_count" "leaf_count" (defArgs s_leaf_count) (defBody s_leaf_count) (defScope s_leaf_count) .none kV1 dc1 pm1 an1 (.ref cc1) ct1), sl1⟩) (c1 : PySem.W.codeIn K (.ref cc1) "leaf_count" = true) (k1 : PySem.W.keepIn K (.ref f1) = true)
    (a2 : PySem.W.nsIn K mainGlobals "is_plan" = some (some (.ref f2))) (l2 : K.lookup f2 = some ⟨oc2, od2, .func (PySem.W.fnOf "is_plan" "is_plan" (defArgs s_is_plan) (defBody s_is_plan) (defScope s_is_plan) .none kV2 dc2 pm2 an2 (.ref cc2) ct2), sl2⟩) (c2 : PySem.W.codeIn K (.ref cc2) "is_plan" = true) (k2 : PySem.W.keepIn K (.ref f2) = true)
    (a3 : PySem.W.nsIn K mainGlobals "round_cost" = some (some (.ref f3))) (l3 : K.lookup f3 = some ⟨oc3, od3, .func (PySem.W.fnOf "round_cost" "round_cost" (defArgs s_round_cost) (defBody s_round_cost) (defScope s_round_cost) .none kV3 dc3 pm3 an3 (.ref cc3) ct3), sl3⟩) (c3 : PySem.W.codeIn K (.ref cc3) "round_cost" = true) (k3 : PySem.W.keepIn K (.ref f3) = true)
    (a4 : PySem.W.nsIn K mainGlobals "cost_of_plan" = some (some (.ref f4))) (l4 : K.lookup f4 = some ⟨oc4, od4, .func (PySem.W.fnOf "cost_of_plan" "cost_of_plan" (defArgs s_cost_of_plan) (defBody s_cost_of_plan) (defScope s_cost_of_plan) .none kV4 dc4 pm4 an4 (.ref cc4) ct4), sl4⟩) (c4 : PySem.W.codeIn K (.ref cc4) "cost_of_plan" = true) (k4 : PySem.W.keepIn K (.ref f4) = true)
    (a5 : PySem.W.nsIn K mainGlobals "least" = some (some (.ref f5))) (l5 : K.lookup f5 = some ⟨oc5, od5, .func (PySem.W.fnOf "least" "least" (defArgs s_least) (defBody s_least) (defScope s_least) .none kV5 dc5 pm5 an5 (.ref cc5) ct5), sl5⟩) (c5 : PySem.W.codeIn K (.ref cc5) "least" = true) (k5 : PySem.W.keepIn K (.ref f5) = true)
    (a6 : PySem.W.nsIn K mainGlobals "bounds_for" = some (some (.ref f6))) (l6 : K.lookup f6 = some ⟨oc6, od6, .func (PySem.W.fnOf "bounds_for" "bounds_for" (defArgs s_bounds_for) (defBody s_bounds_for) (defScope s_bounds_for) .none kV6 dc6 pm6 an6 (.ref cc6) ct6), sl6⟩) (c6 : PySem.W.codeIn K (.ref cc6) "bounds_for" = true) (k6 : PySem.W.keepIn K (.ref f6) = true)
    (a7 : PySem.W.nsIn K mainGlobals "make_floors" = some (some (.ref f7))) (l7 : K.lookup f7 = some ⟨oc7, od7, .func (PySem.W.fnOf "make_floors" "make_floors" (defArgs s_make_floors) (defBody s_make_floors) (defScope s_make_floors) .none kV7 dc7 pm7 an7 (.ref cc7) ct7), sl7⟩) (c7 : PySem.W.codeIn K (.ref cc7) "make_floors" = true) (k7 : PySem.W.keepIn K (.ref f7) = true)
    (a8 : PySem.W.nsIn K mainGlobals "is_whole" = some (some (.ref f8))) (l8 : K.lookup f8 = some ⟨oc8, od8, .func (PySem.W.fnOf "is_whole" "is_whole" (defArgs s_is_whole) (defBody s_is_whole) (defScope s_is_whole) .none kV8 dc8 pm8 an8 (.ref cc8) ct8), sl8⟩) (c8 : PySem.W.codeIn K (.ref cc8) "is_whole" = true) (k8 : PySem.W.keepIn K (.ref f8) = true)
    (a9 : PySem.W.nsIn K mainGlobals "is_floor_row" = some (some (.ref f9))) (l9 : K.lookup f9 = some ⟨oc9, od9, .func (PySem.W.fnOf "is_floor_row" "is_floor_row" (defArgs s_is_floor_row) (defBody s_is_floor_row) (defScope s_is_floor_row) .none kV9 dc9 pm9 an9 (.ref cc9) ct9), sl9⟩) (c9 : PySem.W.codeIn K (.ref cc9) "is_floor_row" = true) (k9 : PySem.W.keepIn K (.ref f9) = true)
    (a10 : PySem.W.nsIn K mainGlobals "is_below" = some (some (.ref f10))) (l10 : K.lookup f10 = some ⟨oc10, od10, .func (PySem.W.fnOf "is_below" "is_below" (defArgs s_is_below) (defBody s_is_below) (defScope s_is_below) .none kV10 dc10 pm10 an10 (.ref cc10) ct10), sl10⟩) (c10 : PySem.W.codeIn K (.ref cc10) "is_below" = true) (k10 : PySem.W.keepIn K (.ref f10) = true)
    (a11 : PySem.W.nsIn K mainGlobals "accepts_floors" = some (some (.ref f11))) (l11 : K.lookup f11 = some ⟨oc11, od11, .func (PySem.W.fnOf "accepts_floors" "accepts_floors" (defArgs s_accepts_floors) (defBody s_accepts_floors) (defScope s_accepts_floors) .none kV11 dc11 pm11 an11 (.ref cc11) ct11), sl11⟩) (c11 : PySem.W.codeIn K (.ref cc11) "accepts_floors" = true) (k11 : PySem.W.keepIn K (.ref f11) = true)
    (a12 : PySem.W.nsIn K mainGlobals "best_plan" = some (some (.ref f12))) (l12 : K.lookup f12 = some ⟨oc12, od12, .func (PySem.W.fnOf "best_plan" "best_plan" (defArgs s_best_plan) (defBody s_best_plan) (defScope s_best_plan) .none kV12 dc12 pm12 an12 (.ref cc12) ct12), sl12⟩) (c12 : PySem.W.codeIn K (.ref cc12) "best_plan" = true) (k12 : PySem.W.keepIn K (.ref f12) = true)
    (a13 : PySem.W.nsIn K mainGlobals "choices" = some (some (.ref f13))) (l13 : K.lookup f13 = some ⟨oc13, od13, .func (PySem.W.fnOf "choices" "choices" (defArgs s_choices) (defBody s_choices) (defScope s_choices) .none kV13 dc13 pm13 an13 (.ref cc13) ct13), sl13⟩) (c13 : PySem.W.codeIn K (.ref cc13) "choices" = true) (k13 : PySem.W.keepIn K (.ref f13) = true)
    (a14 : PySem.W.nsIn K mainGlobals "_law_same" = some (some (.ref f14))) (l14 : K.lookup f14 = some ⟨oc14, od14, .func (PySem.W.fnOf "_law_same" "_law_same" (defArgs s__law_same) (defBody s__law_same) (defScope s__law_same) .none kV14 dc14 pm14 an14 (.ref cc14) ct14), sl14⟩) (c14 : PySem.W.codeIn K (.ref cc14) "_law_same" = true) (k14 : PySem.W.keepIn K (.ref f14) = true)
    (a15 : PySem.W.nsIn K mainGlobals "_law_box" = some (some (.ref f15))) (l15 : K.lookup f15 = some ⟨oc15, od15, .func (PySem.W.fnOf "_law_box" "_law_box" (defArgs s__law_box) (defBody s__law_box) (defScope s__law_box) .none kV15 dc15 pm15 an15 (.ref cc15) ct15), sl15⟩) (c15 : PySem.W.codeIn K (.ref cc15) "_law_box" = true) (k15 : PySem.W.keepIn K (.ref f15) = true)
    (a16 : PySem.W.nsIn K mainGlobals "_law_load" = some (some (.ref f16))) (l16 : K.lookup f16 = some ⟨oc16, od16, .func (PySem.W.fnOf "_law_load" "_law_load" (defArgs s__law_load) (defBody s__law_load) (defScope s__law_load) .none kV16 dc16 pm16 an16 (.ref cc16) ct16), sl16⟩) (c16 : PySem.W.codeIn K (.ref cc16) "_law_load" = true) (k16 : PySem.W.keepIn K (.ref f16) = true)
    (a17 : PySem.W.nsIn K mainGlobals "_law_draw" = some (some (.ref f17))) (l17 : K.lookup f17 = some ⟨oc17, od17, .func (PySem.W.fnOf "_law_draw" "_law_draw" (defArgs s__law_draw) (defBody s__law_draw) (defScope s__law_draw) .none kV17 dc17 pm17 an17 (.ref cc17) ct17), sl17⟩) (c17 : PySem.W.codeIn K (.ref cc17) "_law_draw" = true) (k17 : PySem.W.keepIn K (.ref f17) = true)
    (a18 : PySem.W.nsIn K mainGlobals "_law_plans" = some (some (.ref f18))) (l18 : K.lookup f18 = some ⟨oc18, od18, .func (PySem.W.fnOf "_law_plans" "_law_plans" (defArgs s__law_plans) (defBody s__law_plans) (defScope s__law_plans) .none kV18 dc18 pm18 an18 (.ref cc18) ct18), sl18⟩) (c18 : PySem.W.codeIn K (.ref cc18) "_law_plans" = true) (k18 : PySem.W.keepIn K (.ref f18) = true)
    (a19 : PySem.W.nsIn K mainGlobals "_law_round" = some (some (.ref f19))) (l19 : K.lookup f19 = some ⟨oc19, od19, .func (PySem.W.fnOf "_law_round" "_law_round" (defArgs s__law_round) (defBody s__law_round) (defScope s__law_round) .none kV19 dc19 pm19 an19 (.ref cc19) ct19), sl19⟩) (c19 : PySem.W.codeIn K (.ref cc19) "_law_round" = true) (k19 : PySem.W.keepIn K (.ref f19) = true)
    (a20 : PySem.W.nsIn K mainGlobals "_law_cost" = some (some (.ref f20))) (l20 : K.lookup f20 = some ⟨oc20, od20, .func (PySem.W.fnOf "_law_cost" "_law_cost" (defArgs s__law_cost) (defBody s__law_cost) (defScope s__law_cost) .none kV20 dc20 pm20 an20 (.ref cc20) ct20), sl20⟩) (c20 : PySem.W.codeIn K (.ref cc20) "_law_cost" = true) (k20 : PySem.W.keepIn K (.ref f20) = true)
    (a21 : PySem.W.nsIn K mainGlobals "_law_best" = some (some (.ref f21))) (l21 : K.lookup f21 = some ⟨oc21, od21, .func (PySem.W.fnOf "_law_best" "_law_best" (defArgs s__law_best) (defBody s__law_best) (defScope s__law_best) .none kV21 dc21 pm21 an21 (.ref cc21) ct21), sl21⟩) (c21 : PySem.W.codeIn K (.ref cc21) "_law_best" = true) (k21 : PySem.W.keepIn K (.ref f21) = true)
    (a22 : PySem.W.nsIn K mainGlobals "_law_at_most" = some (some (.ref f22))) (l22 : K.lookup f22 = some ⟨oc22, od22, .func (PySem.W.fnOf "_law_at_most" "_law_at_most" (defArgs s__law_at_most) (defBody s__law_at_most) (defScope s__law_at_most) .none kV22 dc22 pm22 an22 (.ref cc22) ct22), sl22⟩) (c22 : PySem.W.codeIn K (.ref cc22) "_law_at_most" = true) (k22 : PySem.W.keepIn K (.ref f22) = true)
    (a23 : PySem.W.nsIn K mainGlobals "_law_accepted" = some (some (.ref f23))) (l23 : K.lookup f23 = some ⟨oc23, od23, .func (PySem.W.fnOf "_law_accepted" "_law_accepted" (defArgs s__law_accepted) (defBody s__law_accepted) (defScope s__law_accepted) .none kV23 dc23 pm23 an23 (.ref cc23) ct23), sl23⟩) (c23 : PySem.W.codeIn K (.ref cc23) "_law_accepted" = true) (k23 : PySem.W.keepIn K (.ref f23) = true)
    (a24 : PySem.W.nsIn K mainGlobals "_law_changed" = some (some (.ref f24))) (l24 : K.lookup f24 = some ⟨oc24, od24, .func (PySem.W.fnOf "_law_changed" "_law_changed" (defArgs s__law_changed) (defBody s__law_changed) (defScope s__law_changed) .none kV24 dc24 pm24 an24 (.ref cc24) ct24), sl24⟩) (c24 : PySem.W.codeIn K (.ref cc24) "_law_changed" = true) (k24 : PySem.W.keepIn K (.ref f24) = true)
    (a25 : PySem.W.nsIn K mainGlobals "law" = some (some (.ref f25))) (l25 : K.lookup f25 = some ⟨oc25, od25, .func (PySem.W.fnOf "law" "law" (defArgs s_law) (defBody s_law) (defScope s_law) .none kV25 dc25 pm25 an25 (.ref cc25) ct25), sl25⟩) (c25 : PySem.W.codeIn K (.ref cc25) "law" = true) (k25 : PySem.W.keepIn K (.ref f25) = true)
    (z_all : PySem.W.nsIn K mainGlobals "all" = some none)
    (z_any : PySem.W.nsIn K mainGlobals "any" = some none)
    (z_bool : PySem.W.nsIn K mainGlobals "bool" = some none)
    (z_dict : PySem.W.nsIn K mainGlobals "dict" = some none)
    (z_int : PySem.W.nsIn K mainGlobals "int" = some none)
    (z_isinstance : PySem.W.nsIn K mainGlobals "isinstance" = some none)
    (z_len : PySem.W.nsIn K mainGlobals "len" = some none)
    (z_list : PySem.W.nsIn K mainGlobals "list" = some none)
    (z_min : PySem.W.nsIn K mainGlobals "min" = some none)
    (z_range : PySem.W.nsIn K mainGlobals "range" = some none)
    (z_sorted : PySem.W.nsIn K mainGlobals "sorted" = some none)
    (z_str : PySem.W.nsIn K mainGlobals "str" = some none)
    (z_sum : PySem.W.nsIn K mainGlobals "sum" = some none)
    (z_tuple : PySem.W.nsIn K mainGlobals "tuple" = some none)
    {tk_MAX_DEPTH : Tok} (y_MAX_DEPTH : PySem.W.nsIn K mainGlobals "MAX_DEPTH" = some (some (.int 4 tk_MAX_DEPTH)))
    {q : Program} {dr2 : DefRec} (t2 : PySem.W.tabIn K "is_plan" = some (cc2, pp2)) (n2 : K.lookup pp2 = none) (r2 : (PyProof.Rows.recsOf q).find? (fun e => e.name == ("is_plan" : Str)) = some dr2) {dr9 : DefRec} (t9 : PySem.W.tabIn K "is_floor_row" = some (cc9, pp9)) (n9 : K.lookup pp9 = none) (r9 : (PyProof.Rows.recsOf q).find? (fun e => e.name == ("is_floor_row" : Str)) = some dr9) {dr11 : DefRec} (t11 : PySem.W.tabIn K "accepts_floors" = some (cc11, pp11)) (n11 : K.lookup pp11 = none) (r11 : (PyProof.Rows.recsOf q).find? (fun e => e.name == ("accepts_floors" : Str)) = some dr11)
    : ∃ cs : List (Addr × Addr), (∀ p ∈ cs, (∃ x dr, (PyProof.Rows.recsOf q).find? (fun e => e.name == x) = some dr ∧ PySem.W.tabIn K x = some p) ∧ K.lookup p.2 = none) ∧ ∃ fd : FuncData, (∀ (s : Shared) (v : Value), BindsTo s fd ⟨[v], []⟩ [("script", v)]) ∧ ∀ base : Heap, K.In base → base.Ns mainGlobals mg → (∀ p ∈ cs, GxR.TabB base mg p.1 p.2) → FnOk l.prog w K mg base CX0 10 fa fd ["script"] (@spLaw (tbOf cs) K) := by
  refine ⟨[(cc2, pp2), (cc9, pp9), (cc11, pp11)], fun p hp => ?_, ?_⟩
  · simp only [List.mem_cons, List.not_mem_nil, or_false] at hp
    rcases hp with rfl | rfl | rfl
    · exact ⟨⟨_, _, r2, t2⟩, n2⟩
    · exact ⟨⟨_, _, r9, t9⟩, n9⟩
    · exact ⟨⟨_, _, r11, t11⟩, n11⟩
  exact all_mk good X G hfa a0 l0 c0 k0 a1 l1 c1 k1 a2 l2 c2 k2 a3 l3 c3 k3 a4 l4 c4 k4 a5 l5 c5 k5 a6 l6 c6 k6 a7 l7 c7 k7 a8 l8 c8 k8 a9 l9 c9 k9 a10 l10 c10 k10 a11 l11 c11 k11 a12 l12 c12 k12 a13 l13 c13 k13 a14 l14 c14 k14 a15 l15 c15 k15 a16 l16 c16 k16 a17 l17 c17 k17 a18 l18 c18 k18 a19 l19 c19 k19 a20 l20 c20 k20 a21 l21 c21 k21 a22 l22 c22 k22 a23 l23 c23 k23 a24 l24 c24 k24 a25 l25 c25 k25 z_all z_any z_bool z_dict z_int z_isinstance z_len z_list z_min z_range z_sorted z_str z_sum z_tuple y_MAX_DEPTH
theorem walk {l : PySem.W.OpenLaw} {q : Program} {loose : List Str} {XP : (Str → Option Value) → Heap → Prop} {YP : World → Heap → Prop} {d : DefRec} {K : Params → PySem.W.Frag} (hn : l.most = some 63) (hdf : d.params.defaults = [])
    (hY : ∀ (w : World) (h : Heap), YP w h → (K w.params).In h)
    (F : ∀ (w : World) (mg : Str → Option Value) (fa : Addr) (h : Heap), (K w.params).In h → h.Ns mainGlobals mg → mg d.name = some (.ref fa) →
      ∃ cs : List (Addr × Addr), (∀ p ∈ cs, (∃ x dr, (PyProof.Rows.recsOf q).find? (fun e => e.name == x) = some dr ∧ PySem.W.tabIn (K w.params) x = some p) ∧ (K w.params).lookup p.2 = none) ∧ ∃ fd : FuncData, (∀ (s : Shared) (u : Value), BindsTo s fd ⟨[u], []⟩ [("script", u)]) ∧ ∀ base : Heap, (K w.params).In base → base.Ns mainGlobals mg → (∀ p ∈ cs, GxR.TabB base mg p.1 p.2) → FnOk l.prog w (K w.params) mg base CX0 10 fa fd ["script"] (@spLaw (tbOf cs) (K w.params))) :
    PySem.W.WalkO q loose XP YP l.row.toRowW d [] (fun f vs => PySem.call f vs) :=
  walk_tab hn hdf ⟨rfl, by decide, by decide⟩ hY F
end G_k34
end

section
namespace P34
/-! ## plans, their costs: plain -/
abbrev Plan := List Nat
def IsPlan (l r : Nat) (p : Plan) : Prop := p.sum = l ∧ p.length ≤ r ∧ ∀ d ∈ p, 1 ≤ d ∧ d ≤ 4
def rc (c0 c1 : Int) (d : Nat) : Int := c0 + c1 * (2 * 2 ^ d - 1)
def cost (c0 c1 c2 : Int) (p : Plan) : Int := (p.map (rc c0 c1)).sum + c2
theorem isPlan_nil {r : Nat} : IsPlan 0 r [] := ⟨rfl, Nat.zero_le _, by simp⟩
theorem isPlan_cons {l r d : Nat} {p : Plan} : IsPlan l (r + 1) (d :: p) ↔ 1 ≤ d ∧ d ≤ 4 ∧ d ≤ l ∧ IsPlan (l - d) r p := by
  unfold IsPlan
  simp only [List.sum_cons, List.length_cons, List.mem_cons, forall_eq_or_imp]
  constructor
  · rintro ⟨h1, h2, ⟨h3, h4⟩, h5⟩
    exact ⟨h3, h4, by omega, by omega, by omega, h5⟩
  · rintro ⟨h1, h2, h3, h4, h5, h6⟩
    exact ⟨by omega, by omega, ⟨h1, h2⟩, h6⟩
theorem isPlan_zero {l : Nat} {p : Plan} : IsPlan l 0 p ↔ l = 0 ∧ p = [] := by
  constructor
  · rintro ⟨h1, h2, h3⟩
    have : p = [] := List.length_eq_zero_iff.mp (by omega)
    subst this
    exact ⟨h1.symm, rfl⟩
  · rintro ⟨rfl, rfl⟩; exact isPlan_nil
theorem isPlan_mono {l r s : Nat} {p : Plan} (h : IsPlan l r p) (hrs : r ≤ s) : IsPlan l s p := ⟨h.1, by have := h.2.1; omega, h.2.2⟩
theorem cost_cons {c0 c1 c2 : Int} {d : Nat} {p : Plan} : cost c0 c1 c2 (d :: p) = rc c0 c1 d + cost c0 c1 c2 p := by
  unfold cost; simp only [List.map_cons, List.sum_cons]; omega
theorem cost_nil {c0 c1 c2 : Int} : cost c0 c1 c2 [] = c2 := by unfold cost; simp
/-- the least of a set of numbers, if it has any -/
def Lst (S : Int → Prop) : Option Int → Prop
  | none => ∀ v, ¬ S v
  | some v => S v ∧ ∀ u, S u → v ≤ u
theorem Lst.uniq {S : Int → Prop} : ∀ {a b : Option Int}, Lst S a → Lst S b → a = b
  | none, none, _, _ => rfl
  | none, some b, h, k => (h b k.1).elim
  | some a, none, h, k => (k a h.1).elim
  | some a, some b, h, k => by
    have h1 := h.2 b k.1
    have h2 := k.2 a h.1
    rw [show a = b from by omega]
theorem Lst.congr {S T : Int → Prop} (e : ∀ v, S v ↔ T v) : ∀ {a : Option Int}, Lst S a → Lst T a
  | none, h => fun v k => h v ((e v).mpr k)
  | some a, h => ⟨(e a).mp h.1, fun u k => h.2 u ((e u).mpr k)⟩
/-- the least of the numbers that are there -/
def leastO : List (Option Int) → Option Int
  | [] => none
  | none :: xs => leastO xs
  | some v :: xs => some (match leastO xs with
    | none => v
    | some u => min v u)
theorem leastO_lst : ∀ xs : List (Option Int), Lst (fun v => some v ∈ xs) (leastO xs)
  | [] => fun v h => by cases h
  | none :: xs => (leastO_lst xs).congr fun v => by simp
  | some v :: xs => by
    have ih := leastO_lst xs
    unfold leastO
    cases e : leastO xs with
    | none =>
      rw [e] at ih
      refine ⟨List.mem_cons_self .., fun u hu => ?_⟩
      rcases List.mem_cons.mp hu with h | h
      · cases h; exact Int.le_refl _
      · exact (ih u h).elim
    | some w =>
      rw [e] at ih
      refine ⟨?_, fun u hu => ?_⟩
      · simp only []
        by_cases hvw : v ≤ w
        · rw [Int.min_eq_left hvw]; exact List.mem_cons_self ..
        · rw [Int.min_eq_right (by omega)]; exact List.mem_cons_of_mem _ ih.1
      · simp only []
        rcases List.mem_cons.mp hu with h | h
        · cases h; omega
        · have := ih.2 u h; omega
/-- the costs of the plans -/
def Cs (c0 c1 c2 : Int) (l r : Nat) (v : Int) : Prop := ∃ p, IsPlan l r p ∧ cost c0 c1 c2 p = v
theorem cs_zero {c0 c1 c2 : Int} {l : Nat} {v : Int} : Cs c0 c1 c2 l 0 v ↔ l = 0 ∧ v = c2 := by
  constructor
  · rintro ⟨p, h, rfl⟩
    obtain ⟨rfl, rfl⟩ := isPlan_zero.mp h
    exact ⟨rfl, cost_nil⟩
  · rintro ⟨rfl, rfl⟩
    exact ⟨[], isPlan_nil, cost_nil⟩
theorem cs_succ {c0 c1 c2 : Int} {l r : Nat} {v : Int} : Cs c0 c1 c2 l (r + 1) v ↔ Cs c0 c1 c2 l r v ∨ (l = 0 ∧ v = c2) ∨ ∃ d, 1 ≤ d ∧ d ≤ 4 ∧ d ≤ l ∧ ∃ u, Cs c0 c1 c2 (l - d) r u ∧ v = rc c0 c1 d + u := by
  constructor
  · rintro ⟨p, h, rfl⟩
    cases p with
    | nil => exact .inr (.inl ⟨h.1.symm, cost_nil⟩)
    | cons d p =>
      obtain ⟨h1, h2, h3, h4⟩ := isPlan_cons.mp h
      exact .inr (.inr ⟨d, h1, h2, h3, _, ⟨p, h4, rfl⟩, cost_cons⟩)
  · rintro (⟨p, h, rfl⟩ | ⟨rfl, rfl⟩ | ⟨d, h1, h2, h3, u, ⟨p, h4, rfl⟩, rfl⟩)
    · exact ⟨p, isPlan_mono h (Nat.le_succ _), rfl⟩
    · exact ⟨[], isPlan_nil, cost_nil⟩
    · exact ⟨d :: p, isPlan_cons.mpr ⟨h1, h2, h3, h4⟩, cost_cons⟩
/-- the bounds of the next row -/
def bnds (c0 c1 c2 : Int) (row : List (Option Int)) (l : Nat) : List (Option Int) :=
  row.getD l none :: (if l = 0 then [some c2] else []) ++ (List.range (min l 4)).filterMap fun k => (row.getD (l - (k + 1)) none).map fun u => some (rc c0 c1 (k + 1) + u)
theorem bnds_mem {c0 c1 c2 : Int} {row : List (Option Int)} {l : Nat} {v : Int} : some v ∈ bnds c0 c1 c2 row l ↔ row.getD l none = some v ∨ (l = 0 ∧ v = c2) ∨ ∃ d, 1 ≤ d ∧ d ≤ 4 ∧ d ≤ l ∧ ∃ u, row.getD (l - d) none = some u ∧ v = rc c0 c1 d + u := by
  unfold bnds
  simp only [List.cons_append, List.mem_cons, List.mem_append, List.mem_filterMap, List.mem_range]
  constructor
  · rintro (h | h | ⟨k, hk, h⟩)
    · exact .inl h.symm
    · split at h
      · rename_i hl
        simp at h
        exact .inr (.inl ⟨hl, h⟩)
      · cases h
    · obtain ⟨u, hu, e⟩ := Option.map_eq_some_iff.mp h
      cases e
      exact .inr (.inr ⟨k + 1, by omega, by omega, by omega, u, hu, rfl⟩)
  · rintro (h | ⟨hl, rfl⟩ | ⟨d, h1, h2, h3, u, hu, rfl⟩)
    · exact .inl h.symm
    · rw [if_pos hl]; exact .inr (.inl (List.mem_singleton.mpr rfl))
    · refine .inr (.inr ⟨d - 1, by omega, ?_⟩)
      rw [show d - 1 + 1 = d from by omega, hu]; rfl
/-- a row of the least costs with at most r rounds -/
def RowOk (c0 c1 c2 : Int) (r : Nat) (row : List (Option Int)) : Prop := ∀ l, l < row.length → Lst (Cs c0 c1 c2 l r) (row.getD l none)
theorem row_next {c0 c1 c2 : Int} {r : Nat} {row : List (Option Int)} (h : RowOk c0 c1 c2 r row) : RowOk c0 c1 c2 (r + 1) ((List.range row.length).map fun l => leastO (bnds c0 c1 c2 row l)) := by
  intro l hl
  rw [List.length_map, List.length_range] at hl
  have e : ((List.range row.length).map fun l => leastO (bnds c0 c1 c2 row l)).getD l none = leastO (bnds c0 c1 c2 row l) := by
    rw [List.getD_eq_getElem?_getD, List.getElem?_map, List.getElem?_range hl]; rfl
  rw [e]
  have is : ∀ m v, m < row.length → (row.getD m none = some v → Cs c0 c1 c2 m r v) := fun m v hm e => by
    have := h m hm; rw [e] at this; exact this.1
  -- the least of the bounds is the least of the costs
  have q := leastO_lst (bnds c0 c1 c2 row l)
  cases eq : leastO (bnds c0 c1 c2 row l) with
  | none =>
    rw [eq] at q
    intro v hv
    rcases cs_succ.mp hv with hv | hv | ⟨d, h1, h2, h3, u, hu, rfl⟩
    · have z := h l hl
      cases ez : row.getD l none with
      | none => rw [ez] at z; exact z v hv
      | some w => exact q w (bnds_mem.mpr (.inl ez))
    · exact q v (bnds_mem.mpr (.inr (.inl hv)))
    · have z := h (l - d) (by omega)
      cases ez : row.getD (l - d) none with
      | none => rw [ez] at z; exact z u hu
      | some w => exact q _ (bnds_mem.mpr (.inr (.inr ⟨d, h1, h2, h3, w, ez, rfl⟩)))
  | some b =>
    rw [eq] at q
    refine ⟨?_, fun v hv => ?_⟩
    · rcases bnds_mem.mp q.1 with e | e | ⟨d, h1, h2, h3, u, hu, e⟩
      · exact cs_succ.mpr (.inl (is l b hl e))
      · exact cs_succ.mpr (.inr (.inl e))
      · exact cs_succ.mpr (.inr (.inr ⟨d, h1, h2, h3, u, is _ u (by omega) hu, e⟩))
    · rcases cs_succ.mp hv with hv | hv | ⟨d, h1, h2, h3, u, hu, rfl⟩
      · have z := h l hl
        cases ez : row.getD l none with
        | none => rw [ez] at z; exact (z v hv).elim
        | some w =>
          rw [ez] at z
          have := q.2 w (bnds_mem.mpr (.inl ez))
          have := z.2 v hv
          omega
      · exact q.2 v (bnds_mem.mpr (.inr (.inl hv)))
      · have z := h (l - d) (by omega)
        cases ez : row.getD (l - d) none with
        | none => rw [ez] at z; exact (z u hu).elim
        | some w =>
          rw [ez] at z
          have := q.2 _ (bnds_mem.mpr (.inr (.inr ⟨d, h1, h2, h3, w, ez, rfl⟩)))
          have := z.2 u hu
          omega
end P34
end

section
namespace G_k34
open PySem PySem.Spec L2 Dn P34
local instance : Tb := noTb
theorem e_draw : d__law_draw = dDraw := rfl
theorem e_same : d__law_same 6 = dSameD 6 := rfl
abbrev iD := natD
def plD (p : List Nat) : D := .tuple (p.map iD)
def coD (c0 c1 c2 : Int) : D := .tuple [.int c0, .int c1, .int c2]
def oD : Option Int → D
  | none => .none
  | some v => .int v
def rowD (row : List (Option Int)) : D := .tuple (row.map oD)
@[simp] theorem isNon_oD (o : Option Int) : isNon (oD o) = o.isNone := by cases o <;> rfl
variable {c0 c1 c2 : Int} {ω : Wd}
theorem leaf_ok {h : Nat} (hh : h ≤ 4) : d_leaf_count [.int h] ω = some (.int (2 ^ h), ω) := by
  have r := rgOk_nat (n := h) (by omega)
  match h, hh with
  | 0, _ => simp [d_leaf_count, defD, b_leaf_count, rgD, loopD, show rgOk 0 0 = true from rgOk_nat (n := 0) (by omega)]
  | 1, _ => simp [d_leaf_count, defD, b_leaf_count, rgD, loopD, show rgOk 0 1 = true from rgOk_nat (n := 1) (by omega), opMul, mulOk_l]
  | 2, _ => simp [d_leaf_count, defD, b_leaf_count, rgD, loopD, show rgOk 0 2 = true from rgOk_nat (n := 2) (by omega), opMul, mulOk_l, List.range_succ]
  | 3, _ => simp [d_leaf_count, defD, b_leaf_count, rgD, loopD, show rgOk 0 3 = true from rgOk_nat (n := 3) (by omega), opMul, mulOk_l, List.range_succ]
  | 4, _ => simp [d_leaf_count, defD, b_leaf_count, rgD, loopD, show rgOk 0 4 = true from rgOk_nat (n := 4) (by omega), opMul, mulOk_l, List.range_succ]
theorem round_ok {d : Nat} (hd : d ≤ 4) : d_round_cost [.int d, coD c0 c1 c2] ω = some (.int (rc c0 c1 d), ω) := by
  have hb : (2 : Int) ^ d ≤ 16 ∧ 1 ≤ (2 : Int) ^ d := by
    match d, hd with
    | 0, _ => decide
    | 1, _ => decide
    | 2, _ => decide
    | 3, _ => decide
    | 4, _ => decide
  have h1 : mulOk c1 (2 * 2 ^ d - 1) = true := mulOk_r (by omega) (by omega)
  simp [d_round_cost, defD, b_round_cost, coD, leaf_ok hd, opMul, mulOk_l, h1, rc]
theorem lround_ok {d : Nat} (hd : d ≤ 4) : d__law_round [.int d, coD c0 c1 c2] ω = some (.int (rc c0 c1 d), ω) := by
  match d, hd with
  | 0, _ => simp [d__law_round, defD, b__law_round, coD, opMul, mulOk_r, rc]
  | 1, _ => simp [d__law_round, defD, b__law_round, coD, opMul, mulOk_r, rc]
  | 2, _ => simp [d__law_round, defD, b__law_round, coD, opMul, mulOk_r, rc]
  | 3, _ => simp [d__law_round, defD, b__law_round, coD, opMul, mulOk_r, rc]
  | 4, _ => simp [d__law_round, defD, b__law_round, coD, opMul, mulOk_r, rc]
theorem sum_nat (p : List Nat) : (p.map fun d : Nat => (d : Int)).sum = ((p.sum : Nat) : Int) := by
  induction p with
  | nil => rfl
  | cons d p ih => simp [ih]
@[simp] theorem opSum_pl (p : List Nat) : opSum [plD p] = some (.int ((p.sum : Nat) : Int)) := by
  have := opSum_tup (p.map fun d : Nat => (d : Int))
  rw [List.map_map, sum_nat] at this
  exact this
theorem cost_ok {p : List Nat} (hp : ∀ d ∈ p, d ≤ 4) : d_cost_of_plan [plD p, coD c0 c1 c2] ω = some (.int (cost c0 c1 c2 p), ω) := by
  have s1 := opSum_lst (p.map (rc c0 c1))
  rw [List.map_map] at s1
  simp [d_cost_of_plan, defD, b_cost_of_plan, plD, wipeR]
  rw [lcD_map iD (fun d => .int (rc c0 c1 d)) p (fun d hd => ⟨_, rfl, rfl, ?_⟩)]
  · simp only [Function.comp_def] at s1
    simp [s1, coD, cost]
  · simp [round_ok (hp d hd)]
theorem lcost_ok {p : List Nat} (hp : ∀ d ∈ p, d ≤ 4) : d__law_cost [plD p, coD c0 c1 c2] ω = some (.int (cost c0 c1 c2 p), ω) := by
  have s1 := opSum_lst (p.map (rc c0 c1))
  rw [List.map_map] at s1
  simp [d__law_cost, defD, b__law_cost, plD, wipeR]
  rw [lcD_map iD (fun d => .int (rc c0 c1 d)) p (fun d hd => ⟨_, rfl, rfl, ?_⟩)]
  · simp only [Function.comp_def] at s1
    simp [s1, coD, cost]
  · simp [lround_ok (hp d hd)]

/-! ## least, bounds_for, make_floors -/
theorem known_eq (l : List (Option Int)) : (l.filter fun o => o.isSome).map oD = (l.filterMap id).map .int := by
  induction l with
  | nil => rfl
  | cons o l ih => cases o <;> simp [List.filter_cons, ih, oD]
theorem leastO_known {l : List (Option Int)} : (leastO l = none ∧ l.filterMap id = []) ∨ ∃ v, leastO l = some v ∧ v ∈ l.filterMap id ∧ ∀ u ∈ l.filterMap id, v ≤ u := by
  have q := leastO_lst l
  cases e : leastO l with
  | none =>
    rw [e] at q
    refine .inl ⟨rfl, List.eq_nil_iff_forall_not_mem.mpr fun v hv => ?_⟩
    obtain ⟨o, ho, h⟩ := List.mem_filterMap.mp hv
    simp only [id] at h; subst h
    exact q v ho
  | some v =>
    rw [e] at q
    refine .inr ⟨v, rfl, List.mem_filterMap.mpr ⟨_, q.1, rfl⟩, fun u hu => ?_⟩
    obtain ⟨o, ho, h⟩ := List.mem_filterMap.mp hu
    simp only [id] at h; subst h
    exact q.2 u ho
theorem opNe_ints (l : List Int) : opNe (.list (l.map .int)) (.list []) = some (.bool (!l.isEmpty)) := by
  rw [opNe_nil]
  · cases l <;> rfl
  · exact plainAll_of fun x hx => by obtain ⟨i, _, rfl⟩ := List.mem_map.mp hx; rfl
  · exact depthAll_of fun x hx => by obtain ⟨i, _, rfl⟩ := List.mem_map.mp hx; simp [PyData.depth]
theorem opEq_ints (l : List Int) : opEq (.list (l.map .int)) (.list []) = some (.bool (l.isEmpty)) := by
  rw [opEq_nil]
  · cases l <;> rfl
  · exact plainAll_of fun x hx => by obtain ⟨i, _, rfl⟩ := List.mem_map.mp hx; rfl
  · exact depthAll_of fun x hx => by obtain ⟨i, _, rfl⟩ := List.mem_map.mp hx; simp [PyData.depth]
theorem least_ok (l : List (Option Int)) : d_least [.list (l.map oD)] ω = some (oD (leastO l), ω) := by
  simp [d_least, defD, b_least, wipeR]
  rw [lcD_of oD (fun o => o.isSome) oD l (fun o ho => ⟨_, rfl, ?_, fun _ => rfl⟩)]
  · rw [known_eq]
    rcases leastO_known (l := l) with ⟨e, h⟩ | ⟨v, e, h1, h2⟩
    · simp [e, h, opNe_ints, oD]
      rfl
    · have hb := opBest_ints h1 h2
      have hn : (l.filterMap id).isEmpty = false := by
        cases h : l.filterMap id with
        | nil => rw [h] at h1; cases h1
        | cons => rfl
      simp [hb, e, oD]
      rw [opNe_ints, hn]
      simp
  · cases o <;> simp [oD]
def bndB (c2 : Int) (row : List (Option Int)) (l : Nat) : List (Option Int) := row.getD l none :: (if l = 0 then [some c2] else [])
theorem bounds_ok {row : List (Option Int)} {l : Nat} (hl : l < row.length) (hz : row.length ≤ 1000) : d_bounds_for [rowD row, .int l, coD c0 c1 c2] ω = some (.list ((bnds c0 c1 c2 row l).map oD), ω) := by
  have hr : rgOk 1 ((min l 4 : Nat) + 1 : Int) = true := rgOk_of (by omega) (by omega) (by omega) (by omega) (by omega)
  have hd : rgD 1 (((min l 4 : Nat) : Int) + 1) = (List.range (min l 4)).map fun k => .int ((k + 1 : Nat) : Int) := by
    unfold rgD
    rw [show ((((min l 4 : Nat) : Int) + 1) - 1).toNat = min l 4 from by omega]
    refine List.map_congr_left fun k _ => ?_
    rw [show (1 : Int) + (k : Int) = ((k + 1 : Nat) : Int) from by omega]
  have hm : (min (l : Int) 4) = ((min l 4 : Nat) : Int) := by omega
  have e0 : (rowD row) = .tuple (row.map oD) := rfl
  have ix : ∀ m : Nat, m < row.length → (row.map oD)[m]? = some (oD (row.getD m none)) := fun m h => by
    simp [List.getElem?_map, List.getElem?_eq_getElem h]
  obtain ⟨x', e⟩ := loop_sh (g := gSet 4) (ω := ω) (f := (sIf (tOfE (eBin opNotN (eBin opIx (eVar 0) (eBin opSub (eVar 1) (eVar 4))) (eC .none))) (sApp 3 (eBin opAdd (eFunP d_round_cost (aCons (eVar 4) (aCons (eVar 2) aNil))) (eBin opIx (eVar 0) (eBin opSub (eVar 1) (eVar 4))))) sNext))
    (fun k : Nat => PyData.int ((k + 1 : Nat) : Int)) (fun pre (x : SV) => [.val (rowD row), .val (.int l), .val (coD c0 c1 c2), .own ((bndB c2 row l ++ pre.filterMap fun k => (row.getD (l - (k + 1)) none).map fun u => some (rc c0 c1 (k + 1) + u)).map oD), x]) (List.range (min l 4)) .un (fun pre k suf x hk => by
      have hlen := congrArg List.length hk
      rw [List.length_range, List.length_append, List.length_cons] at hlen
      have hk : k < min l 4 := List.mem_range.mp (hk ▸ List.mem_append_right _ (List.mem_cons_self ..))
      have ei : ((l : Int) - ((k + 1 : Nat) : Int)) = ((l - (k + 1) : Nat) : Int) := by omega
      have hx := ix (l - (k + 1)) (by omega)
      have hr := round_ok (c0 := c0) (c1 := c1) (c2 := c2) (ω := ⟨false, []⟩) (d := k + 1) (by omega)
      refine ⟨_, rfl, .val (.int ((k + 1 : Nat) : Int)), ?_⟩
      cases hv : row.getD (l - (k + 1)) none with
      | none =>
        rw [hv] at hx
        simp [e0, ei, hx, oD, -Int.natCast_add, -List.getD_eq_getElem?_getD, List.filterMap_append, hv]
      | some v =>
        rw [hv] at hx
        have hln : (bndB c2 row l).length + (pre.filterMap fun k => (row.getD (l - (k + 1)) none).map fun u => some (rc c0 c1 (k + 1) + u)).length < sizeLine := by
          have h1 := List.length_filterMap_le (fun k => (row.getD (l - (k + 1)) none).map fun u => some (rc c0 c1 (k + 1) + u)) pre
          have h2 : (bndB c2 row l).length ≤ 2 := by unfold bndB; split <;> simp
          rw [sizeLine_num]
          omega
        simp [e0, ei, hx, oD, -Int.natCast_add, hr, -List.map_append, hln, hv, -List.getD_eq_getElem?_getD]
        simp [List.filterMap_append, hv, oD, -List.getD_eq_getElem?_getD])
  have hb : bnds c0 c1 c2 row l = bndB c2 row l ++ (List.range (min l 4)).filterMap fun k => (row.getD (l - (k + 1)) none).map fun u => some (rc c0 c1 (k + 1) + u) := rfl
  rw [hb]
  have hi := ix l hl
  refine x_fn ?_
  refine x_own (ds := [oD (row.getD l none)]) (by simp only [aCons_ap, eBin_ap, eVar_ap, aNil_ap]; simp [e0, hi, -List.getElem?_map]) ?_
  refine x_seq (ρ1 := [.val (rowD row), .val (.int l), .val (coD c0 c1 c2), .own ((bndB c2 row l).map oD), .un]) ?_ ?_
  · unfold bndB
    by_cases h0 : l = 0
    · subst h0
      refine x_ifT (by simp) ?_
      rw [if_pos rfl]
      exact x_app1 (d := .int c2) (xs := [oD (row.getD 0 none)]) (by simp [coD]) rfl (by simp)
    · refine x_ifF (by simp; omega) ?_
      rw [if_neg h0]; rfl
  refine x_for (ds := (List.range (min l 4)).map fun k => .int ((k + 1 : Nat) : Int)) ?_ (by simpa using e) ?_
  · simp [hm, hr, hd]
  · exact x_ret (by simp)
/-- the rows of the greatest floors -/
def flo (c0 c1 c2 : Int) (L : Nat) : Nat → List (Option Int)
  | 0 => some c2 :: List.replicate L none
  | r + 1 => (List.range (L + 1)).map fun l => leastO (bnds c0 c1 c2 (flo c0 c1 c2 L r) l)
theorem flo_len {L : Nat} : ∀ r, (flo c0 c1 c2 L r).length = L + 1
  | 0 => by simp [flo]
  | r + 1 => by simp [flo]
theorem flo_ok {L : Nat} : ∀ r, RowOk c0 c1 c2 r (flo c0 c1 c2 L r)
  | 0 => by
    intro l hl
    cases l with
    | zero => exact ⟨cs_zero.mpr ⟨rfl, rfl⟩, fun u hu => by have := (cs_zero.mp hu).2; omega⟩
    | succ l =>
      rw [show (flo c0 c1 c2 L 0).getD (l + 1) none = none from by simp [flo, List.getElem?_replicate]; split <;> rfl]
      intro v hv
      have := (cs_zero.mp hv).1
      omega
  | r + 1 => by
    have := row_next (flo_ok (L := L) r)
    rwa [flo_len] at this
theorem floors_ok {L R : Nat} (hL : L ≤ 20) (hR : R ≤ 20) : d_make_floors [.int L, .int R, coD c0 c1 c2] ω = some (.tuple ((List.range (R + 1)).map fun r => rowD (flo c0 c1 c2 L r)), ω) := by
  obtain ⟨x', e⟩ := loop_sh (g := gSet 4) (ω := ω) (f := (sApp 3 (eCall opTuple (aCons (eOfN (eLcN (iRange (aCons (eBin opAdd (eVar 0) (eC (.int 1))) aNil)) (gSet 5) tYesD (eFunP d_least (aCons (eFunP d_bounds_for (aCons (eIxOwn 3 (eUn opNeg (eC (.int 1)))) (aCons (eVar 5) (aCons (eVar 2) aNil)))) aNil)) [5])) aNil))))
    natD (fun pre (x : SV) => [.val (.int L), .val (.int R), .val (coD c0 c1 c2), .own ((List.range (pre.length + 1)).map fun r => rowD (flo c0 c1 c2 L r)), x, .un]) (List.range R) .un (fun pre k suf x hk => by
      have hlen := congrArg List.length hk
      rw [List.length_range, List.length_append, List.length_cons] at hlen
      refine ⟨_, rfl, .val (natD k), ?_⟩
      have hlast : atI ((List.range (pre.length + 1)).map fun r => rowD (flo c0 c1 c2 L r)) (-1) = some (rowD (flo c0 c1 c2 L pre.length)) := by
        rw [List.range_succ, List.map_append]; exact atI_last _ _
      rw [List.length_append, List.length_singleton, List.range_succ (n := pre.length + 1), List.map_append]
      refine x_app1 (d := rowD (flo c0 c1 c2 L (pre.length + 1))) ?_ rfl (by simp; omega)
      refine x_call (x_one (x_ofN (x_lc (x_rng (n := L + 1) (by simp) (by omega)) (lcD_map _ (fun l => oD (leastO (bnds c0 c1 c2 (flo c0 c1 c2 L pre.length) l))) _ fun l hl => ⟨_, rfl, rfl, ?_⟩)))) ?_
      · have hl := List.mem_range.mp hl
        refine x_fnP (x_one (x_fnP (x_cons (x := rowD (flo c0 c1 c2 L pre.length)) ?_ rfl) (bounds_ok (l := l) (by rw [flo_len]; exact hl) (by rw [flo_len]; omega)))) (least_ok _)
        simp [wipeR, hlast]
      · simp [rowD, flo])
  refine x_fn ?_
  refine x_own (ds := [rowD (flo c0 c1 c2 L 0)]) ?_ ?_
  · have h1 : L ≤ sizeLine := by rw [sizeLine_num]; omega
    have h2 : L + 1 ≤ sizeLine := by rw [sizeLine_num]; omega
    have h3 : (L : Int) < 9223372036854775808 := by omega
    have h4 : (-9223372036854775808 : Int) ≤ L := by omega
    have h5 : 1 + L ≤ sizeLine := by omega
    simp [opMul, h1, h3, h4, opAdd, h2, h5, rowD, flo, coD, oD]
  refine x_for (x_rng (n := R) rfl (by omega)) e ?_
  exact x_ret (by simp)
end G_k34
end

section
namespace G_k34
open PySem PySem.Spec L2 Dn P34
local instance : Tb := noTb
variable {c0 c1 c2 : Int} {ω : Wd}
/-! ## the best plan: greedy -/
abbrev F (c0 c1 c2 : Int) (L r l : Nat) : Option Int := (flo c0 c1 c2 L r).getD l none
theorem F_lst {L r l : Nat} (h : l ≤ L) : Lst (Cs c0 c1 c2 l r) (F c0 c1 c2 L r l) := flo_ok r l (by rw [flo_len]; omega)
/-- may the next round have depth k + 1? -/
def adm (c0 c1 c2 : Int) (L r l : Nat) (w : Int) (k : Nat) : Bool := decide (F c0 c1 c2 L r (l - (k + 1)) = some (w - rc c0 c1 (k + 1)))
def gre (c0 c1 c2 : Int) (L : Nat) : Nat → Nat → Int → List Nat
  | 0, _, _ => []
  | r + 1, l, w => if l = 0 then [] else match (List.range (min l 4)).find? (adm c0 c1 c2 L r l w) with
    | some k => (k + 1) :: gre c0 c1 c2 L r (l - (k + 1)) (w - rc c0 c1 (k + 1))
    | none => []
theorem adm_of {L r l d : Nat} {w : Int} {q : List Nat} (hl : l ≤ L) (hF : F c0 c1 c2 L (r + 1) l = some w) (h1 : 1 ≤ d) (h2 : d ≤ 4) (h3 : d ≤ l) (hq : IsPlan (l - d) r q) (hc : cost c0 c1 c2 (d :: q) = w) : F c0 c1 c2 L r (l - d) = some (w - rc c0 c1 d) := by
  have h := F_lst (c0 := c0) (c1 := c1) (c2 := c2) (r := r) (l := l - d) (L := L) (by omega)
  have hw := F_lst (c0 := c0) (c1 := c1) (c2 := c2) (r := r + 1) (l := l) (L := L) hl
  rw [hF] at hw
  rw [cost_cons] at hc
  cases e : F c0 c1 c2 L r (l - d) with
  | none => rw [e] at h; exact (h _ ⟨q, hq, rfl⟩).elim
  | some u =>
    rw [e] at h
    have a := h.2 _ ⟨q, hq, rfl⟩
    obtain ⟨p, hp, hpc⟩ := h.1
    have b := hw.2 (rc c0 c1 d + u) ⟨d :: p, isPlan_cons.mpr ⟨h1, h2, h3, hp⟩, by rw [cost_cons, hpc]⟩
    rw [show u = w - rc c0 c1 d from by omega]
theorem zero_plan {r : Nat} {p : List Nat} (h : IsPlan 0 r p) : p = [] := by
  cases p with
  | nil => rfl
  | cons d p =>
    have := h.2.2 d (List.mem_cons_self ..)
    have := h.1
    simp at this
    omega
theorem F_zero {L r : Nat} {w : Int} (h : F c0 c1 c2 L r 0 = some w) : w = c2 := by
  have q := F_lst (c0 := c0) (c1 := c1) (c2 := c2) (r := r) (l := 0) (L := L) (by omega)
  rw [h] at q
  obtain ⟨p, hp, e⟩ := q.1
  rw [zero_plan hp, cost_nil] at e
  exact e.symm
theorem F_row0 {L l : Nat} {w : Int} (hl : l ≤ L) (h : F c0 c1 c2 L 0 l = some w) : l = 0 := by
  have q := F_lst (c0 := c0) (c1 := c1) (c2 := c2) (r := 0) (l := l) (L := L) hl
  rw [h] at q
  exact (cs_zero.mp q.1).1
/-- where a plan is left to be made there is an admissible depth -/
theorem adm_ex {L r l : Nat} {w : Int} (hl : l ≤ L) (h0 : l ≠ 0) (hF : F c0 c1 c2 L (r + 1) l = some w) : ∃ k, (List.range (min l 4)).find? (adm c0 c1 c2 L r l w) = some k := by
  have hw := F_lst (c0 := c0) (c1 := c1) (c2 := c2) (r := r + 1) (l := l) (L := L) hl
  rw [hF] at hw
  obtain ⟨p, hp, hc⟩ := hw.1
  cases p with
  | nil => exact absurd hp.1.symm h0
  | cons d p =>
    obtain ⟨h1, h2, h3, h4⟩ := isPlan_cons.mp hp
    have := adm_of hl hF h1 h2 h3 h4 hc
    cases e : (List.range (min l 4)).find? (adm c0 c1 c2 L r l w) with
    | some k => exact ⟨k, rfl⟩
    | none =>
      have q := List.find?_eq_none.mp e (d - 1) (List.mem_range.mpr (by omega))
      exact absurd (show adm c0 c1 c2 L r l w (d - 1) = true from by
        unfold adm
        rw [show d - 1 + 1 = d from by omega]
        exact decide_eq_true this) q
theorem adm_spec {L r l k : Nat} {w : Int} (e : (List.range (min l 4)).find? (adm c0 c1 c2 L r l w) = some k) : k < 4 ∧ k < l ∧ F c0 c1 c2 L r (l - (k + 1)) = some (w - rc c0 c1 (k + 1)) ∧ ∀ j, j < k → adm c0 c1 c2 L r l w j = false := by
  have hm := List.mem_range.mp (List.mem_of_find?_eq_some e)
  have hp := List.find?_some e
  refine ⟨by omega, by omega, of_decide_eq_true hp, fun j hj => ?_⟩
  obtain ⟨h1, as, bs, h2, h3⟩ := List.find?_eq_some_iff_append.mp e
  have ha : as.length = k := by
    have q : (List.range (min l 4))[as.length]? = some k := by rw [h2]; simp
    have := List.getElem?_eq_some_iff.mp q
    obtain ⟨a, b⟩ := this
    simpa using b
  have hj' : j ∈ as := by
    have q : (List.range (min l 4))[j]? = as[j]? := by rw [h2, List.getElem?_append_left (by omega)]
    rw [List.getElem?_range (by omega)] at q
    exact List.mem_of_getElem? q.symm
  have := h3 j hj'
  simpa using this
theorem gre_spec {L : Nat} : ∀ (r l : Nat) (w : Int), l ≤ L → F c0 c1 c2 L r l = some w → IsPlan l r (gre c0 c1 c2 L r l w) ∧ cost c0 c1 c2 (gre c0 c1 c2 L r l w) = w ∧ ∀ q, IsPlan l r q → cost c0 c1 c2 q = w → q ≠ gre c0 c1 c2 L r l w → PySem.W.dataLt (plD (gre c0 c1 c2 L r l w)) (plD q) = true
  | 0, l, w, hl, hF => by
    have := F_row0 hl hF
    subst this
    have := F_zero hF
    subst this
    exact ⟨isPlan_nil, cost_nil, fun q hq _ hne => absurd (isPlan_zero.mp hq).2 hne⟩
  | r + 1, l, w, hl, hF => by
    by_cases h0 : l = 0
    · subst h0
      have := F_zero hF
      subst this
      rw [show gre c0 c1 w L (r + 1) 0 w = [] from by simp [gre]]
      exact ⟨isPlan_nil, cost_nil, fun q hq _ hne => absurd (zero_plan hq) hne⟩
    · obtain ⟨k, e⟩ := adm_ex hl h0 hF
      obtain ⟨k1, k2, k3, k4⟩ := adm_spec e
      obtain ⟨i1, i2, i3⟩ := gre_spec r (l - (k + 1)) (w - rc c0 c1 (k + 1)) (by omega) k3
      rw [show gre c0 c1 c2 L (r + 1) l w = (k + 1) :: gre c0 c1 c2 L r (l - (k + 1)) (w - rc c0 c1 (k + 1)) from by simp [gre, h0, e]]
      refine ⟨isPlan_cons.mpr ⟨by omega, by omega, by omega, i1⟩, by rw [cost_cons, i2]; omega, fun q hq hc hne => ?_⟩
      cases q with
      | nil => exact absurd hq.1.symm h0
      | cons d q =>
        obtain ⟨h1, h2, h3, h4⟩ := isPlan_cons.mp hq
        have ha := adm_of hl hF h1 h2 h3 h4 hc
        show PySem.W.dataLt (.tuple (.int ((k + 1 : Nat) : Int) :: _)) (.tuple (.int (d : Int) :: _)) = true
        rw [dataLt_ints_cons]
        by_cases hd : d = k + 1
        · subst hd
          rw [if_pos rfl]
          refine i3 q h4 (by rw [cost_cons] at hc; omega) fun e => hne (by rw [e])
        · rw [if_neg (by omega)]
          refine decide_eq_true ?_
          by_cases hlt : d < k + 1
          · have := k4 (d - 1) (by omega)
            unfold adm at this
            rw [show d - 1 + 1 = d from by omega, ha] at this
            simp at this
          · omega
end G_k34
end

section
namespace G_k34
open PySem PySem.Spec L2 Dn P34
local instance : Tb := noTb
variable {c0 c1 c2 : Int} {ω : Wd}
theorem cost_app {p : List Nat} {d : Nat} : cost c0 c1 c2 (p ++ [d]) = cost c0 c1 c2 p + rc c0 c1 d := by
  unfold cost; simp; omega
def flD (c0 c1 c2 : Int) (L R : Nat) : D := .tuple ((List.range (R + 1)).map fun r => rowD (flo c0 c1 c2 L r))
theorem fl_ix {L R r : Nat} (hr : r ≤ R) : opIx (flD c0 c1 c2 L R) (.int (r : Int)) = some (rowD (flo c0 c1 c2 L r)) := by
  unfold flD
  rw [opIx_tupN, List.getElem?_map, List.getElem?_range (by omega)]; rfl
theorem row_ix {L r l : Nat} (hl : l ≤ L) : opIx (rowD (flo c0 c1 c2 L r)) (.int (l : Int)) = some (oD (F c0 c1 c2 L r l)) := by
  unfold rowD F
  have h : l < (flo c0 c1 c2 L r).length := by rw [flo_len]; omega
  rw [opIx_tupN, List.getElem?_map, List.getElem?_eq_getElem h, List.getD_eq_getElem?_getD, List.getElem?_eq_getElem h]; rfl
def admB (c0 c1 c2 : Int) (L : Nat) : Nat → Nat → Int → Nat → Bool
  | 0, _, _, _ => false
  | r + 1, l, w, k => adm c0 c1 c2 L r l w k
theorem plD_add {p : List Nat} {d : Nat} (h : p.length ≤ 1000) : opAdd (plD p) (.tuple [natD d]) = some (plD (p ++ [d])) := by
  unfold plD
  rw [opAdd_tup (by simp; omega), List.map_append]; rfl
theorem bp_inner {L R : Nat} {p : List Nat} {W w : Int} {pls : SV} {fd : List D} (hL : L ≤ 20) (hR : R ≤ 20) (hs : p.sum ≤ L) (hn : p.length ≤ R) (h4 : ∀ d ∈ p, d ≤ 4) (hw : cost c0 c1 c2 p - c2 + w = W) (x : SV × SV × SV) :
    ∃ x' : SV × SV × SV, loopD (gSet 10) l_best_plan_1 ((List.range (min (L - p.sum) 4)).map fun k => natD (1 + k)) [.val (.int L), .val (.int R), .val (coD c0 c1 c2), .val (flD c0 c1 c2 L R), .val (.int W), pls, .own fd, .own [], .val (plD p), .val (natD (R - p.length)), x.1, x.2.1, x.2.2] ω =
      some (.nx [.val (.int L), .val (.int R), .val (coD c0 c1 c2), .val (flD c0 c1 c2 L R), .val (.int W), pls, .own fd, .own (((List.range (min (L - p.sum) 4)).filter (admB c0 c1 c2 L (R - p.length) (L - p.sum) w)).map fun k => plD (p ++ [1 + k])), .val (plD p), .val (natD (R - p.length)), x'.1, x'.2.1, x'.2.2], ω) := by
  refine loop_sh (β := SV × SV × SV) (fun k => natD (1 + k)) (fun (pre : List Nat) (x : SV × SV × SV) => [.val (.int L), .val (.int R), .val (coD c0 c1 c2), .val (flD c0 c1 c2 L R), .val (.int W), pls, .own fd, .own ((pre.filter (admB c0 c1 c2 L (R - p.length) (L - p.sum) w)).map fun k => plD (p ++ [1 + k])), .val (plD p), .val (natD (R - p.length)), x.1, x.2.1, x.2.2]) (List.range (min (L - p.sum) 4)) x (fun pre k suf x hk => ?_)
  have hlen := congrArg List.length hk
  rw [List.length_range, List.length_append, List.length_cons] at hlen
  have hk : k < min (L - p.sum) 4 := List.mem_range.mp (hk ▸ List.mem_append_right _ (List.mem_cons_self ..))
  have hfl : ((pre.filter (admB c0 c1 c2 L (R - p.length) (L - p.sum) w)).map fun k => plD (p ++ [1 + k])).length < 16777216 := by
    have := List.length_filter_le (admB c0 c1 c2 L (R - p.length) (L - p.sum) w) pre
    rw [List.length_map]; omega
  refine ⟨_, rfl, ?_⟩
  have h4' : ∀ d ∈ p ++ [1 + k], d ≤ 4 := fun d hd => by
    rcases List.mem_append.mp hd with h | h
    · exact h4 d h
    · have := List.mem_singleton.mp h; omega
  have hc := cost_ok (c0 := c0) (c1 := c1) (c2 := c2) (ω := ⟨false, []⟩) h4'
  have hsum := opSum_pl (p ++ [1 + k])
  have hsm : (p ++ [1 + k]).sum = p.sum + (1 + k) := by simp
  have hsi : (L : Int) - (((p ++ [1 + k]).sum : Nat) : Int) = ((L - p.sum - (k + 1) : Nat) : Int) := by rw [hsm]; omega
  -- the value of rest
  have hrest : ∃ o, (eIf (tOfE (eBin opGt (eVar 9) (eC (.int 0)))) (eBin opIx (eBin opIx (eVar 3) (eBin opSub (eVar 9) (eC (.int 1)))) (eBin opSub (eVar 0) (eCall opSum (aCons (eVar 11) aNil)))) (eC .none)) ([.val (.int L), .val (.int R), .val (coD c0 c1 c2), .val (flD c0 c1 c2 L R), .val (.int W), pls, .own fd, .own ((pre.filter (admB c0 c1 c2 L (R - p.length) (L - p.sum) w)).map fun k => plD (p ++ [1 + k])), .val (plD p), .val (natD (R - p.length)), .val (natD (1 + k)), .val (plD (p ++ [1 + k])), x.2.2]) ω = some (oD o, ω) ∧ admB c0 c1 c2 L (R - p.length) (L - p.sum) w k = decide (o = some (w - rc c0 c1 (k + 1))) := by
    cases hr : R - p.length with
    | zero => exact ⟨none, by simp [oD], by simp [admB]⟩
    | succ r =>
      refine ⟨F c0 c1 c2 L r (L - p.sum - (k + 1)), ?_, rfl⟩
      have e1 : (((r + 1 : Nat) : Int) - 1) = ((r : Nat) : Int) := by omega
      have e2 : (0 : Int) < ((r + 1 : Nat) : Int) := by omega
      simp only [eIf_ap, tOfE_ap, eBin_ap, eVar_ap, List.getElem?_cons_succ, List.getElem?_cons_zero, eC_ap, opGt_int, e2, decide_true, if_true, opSub_int, e1, fl_ix (c0 := c0) (c1 := c1) (c2 := c2) (L := L) (show r ≤ R by omega), eCall_ap, aCons_ap, aNil_ap, hsum, hsi, row_ix (c0 := c0) (c1 := c1) (c2 := c2) (r := r) (show L - p.sum - (k + 1) ≤ L by omega)]
  obtain ⟨o, ho, hadm⟩ := hrest
  refine ⟨(.val (natD (1 + k)), .val (plD (p ++ [1 + k])), .val (oD o)), ?_⟩
  unfold l_best_plan_1
  refine x_set (d := plD (p ++ [1 + k])) ?_ ?_
  · refine x_bin (x := plD p) (y := .tuple [natD (1 + k)]) rfl rfl (plD_add (by omega))
  refine x_set (d := oD o) ho ?_
  rw [List.filter_append, List.map_append]
  by_cases ht : o = some (w - rc c0 c1 (k + 1))
  · subst ht
    rw [show List.filter (admB c0 c1 c2 L (R - p.length) (L - p.sum) w) [k] = [k] from by simp [hadm]]
    refine x_ifT ?_ (x_app1 (d := plD (p ++ [1 + k])) rfl rfl hfl)
    have hcc : cost c0 c1 c2 (p ++ [1 + k]) - c2 + (w - rc c0 c1 (k + 1)) = W := by
      rw [cost_app, Nat.add_comm 1 k]; omega
    simp [oD, coD, -List.map_append]
    simp [coD] at hc
    simp [hc, hcc]
  · rw [show List.filter (admB c0 c1 c2 L (R - p.length) (L - p.sum) w) [k] = [] from by simp [hadm, ht]]
    refine x_ifF ?_ ?_
    · cases o with
      | none => simp [oD]
      | some u =>
        have hcc : ¬ cost c0 c1 c2 (p ++ [1 + k]) - c2 + u = W := by
          rw [cost_app, Nat.add_comm 1 k]
          intro h
          exact ht (by rw [show u = w - rc c0 c1 (k + 1) from by omega])
        simp [oD, coD]
        simp [coD] at hc
        simp [hc, hcc]
    · simp

theorem plD_lt {p : List Nat} {a b : Nat} (h : a < b) : PySem.W.dataLt (plD (p ++ [a])) (plD (p ++ [b])) = true := by
  induction p with
  | nil =>
    show PySem.W.dataLt (.tuple (.int (a : Int) :: _)) (.tuple (.int (b : Int) :: _)) = true
    rw [dataLt_ints_cons, if_neg (by omega)]
    exact decide_eq_true (by omega)
  | cons d p ih =>
    show PySem.W.dataLt (.tuple (.int (d : Int) :: _)) (.tuple (.int (d : Int) :: _)) = true
    rw [dataLt_ints_cons, if_pos rfl]
    exact ih
theorem plD_plain (p : List Nat) : (plD p).plain = true := by
  show PyData.plainAll _ = true
  exact plainAll_of fun x hx => by obtain ⟨i, _, rfl⟩ := List.mem_map.mp hx; rfl
theorem plD_depth (p : List Nat) : (plD p).depth ≤ 1 := by
  show PyData.depthAll _ + 1 ≤ 1
  have := depthAll_of (n := 0) (l := p.map iD) fun x hx => by obtain ⟨i, _, rfl⟩ := List.mem_map.mp hx; simp [PyData.depth]
  omega
theorem alike_ints : ∀ (p q : List Nat), PySem.W.alikeAll (p.map iD) (q.map iD) = true
  | [], _ => by rw [List.map_nil, PySem.W.alikeAll.eq_def]
  | _ :: _, [] => by rw [List.map_nil, List.map_cons, PySem.W.alikeAll.eq_def]
  | a :: p, b :: q => by
    rw [List.map_cons, List.map_cons, PySem.W.alikeAll.eq_def]
    exact alike_ints p q
theorem plD_alike (p q : List Nat) : PySem.W.alike (plD p) (plD q) = true := by
  show PySem.W.alike (.tuple _) (.tuple _) = true
  rw [PySem.W.alike.eq_def]
  exact alike_ints p q
theorem plD_noL (p : List Nat) : noL (plD p) = true := by
  show noLs _ = true
  induction p with
  | nil => rfl
  | cons d p ih => rw [List.map_cons, noLs, ih]; rfl
theorem best_plans {l : List (List Nat)} {m : List Nat} (hm : m ∈ l) (h : ∀ q ∈ l, q ≠ m → PySem.W.dataLt (plD m) (plD q) = true) : opBest false [.list (l.map plD)] = some (plD m) := by
  refine opBest_min (List.mem_map.mpr ⟨m, hm, rfl⟩) ?_ ?_ ?_ ?_ ?_
  all_goals (intro x hx; obtain ⟨i, hi, rfl⟩ := List.mem_map.mp hx)
  · exact plD_plain i
  · have := plD_depth i; omega
  · intro y hy; obtain ⟨j, hj, rfl⟩ := List.mem_map.mp hy; exact plD_alike i j
  · rfl
  · exact fun hne => h i hi fun e => hne (by rw [e])
theorem ne_plans (l : List (List Nat)) : opNe (.list (l.map plD)) (.list []) = some (.bool (!l.isEmpty)) := by
  rw [opNe_nil]
  · cases l <;> rfl
  · exact plainAll_of fun x hx => by obtain ⟨i, _, rfl⟩ := List.mem_map.mp hx; exact plD_plain i
  · exact depthAll_of fun x hx => by obtain ⟨i, _, rfl⟩ := List.mem_map.mp hx; have := plD_depth i; omega
structure Part (c0 c1 c2 : Int) (L R : Nat) (W : Int) (p : List Nat) (w : Int) : Prop where
  len : p.length ≤ R
  sum : p.sum ≤ L
  le4 : ∀ d ∈ p, d ≤ 4
  fl : F c0 c1 c2 L (R - p.length) (L - p.sum) = some w
  gr : gre c0 c1 c2 L R L W = p ++ gre c0 c1 c2 L (R - p.length) (L - p.sum) w
  co : cost c0 c1 c2 p - c2 + w = W
def bpR (c0 c1 c2 : Int) (L R : Nat) (W : Int) (ps fs : List (List Nat)) (s : SV × SV × SV × SV × SV × SV) : Ro := [.val (.int L), .val (.int R), .val (coD c0 c1 c2), .val (flD c0 c1 c2 L R), .val (.int W), .val (.list (ps.map plD)), .own (fs.map plD), s.1, s.2.1, s.2.2.1, s.2.2.2.1, s.2.2.2.2.1, s.2.2.2.2.2]
theorem bp_step {L R : Nat} {p : List Nat} {W w : Int} (hL : L ≤ 20) (hR : R ≤ 20) (P : Part c0 c1 c2 L R W p w) (s : SV × SV × SV × SV × SV × SV) :
    (∃ s', l_best_plan_3 (bpR c0 c1 c2 L R W [p] [] s) ω = some (.nx (bpR c0 c1 c2 L R W [] [gre c0 c1 c2 L R L W] s'), ω)) ∨ ∃ s' d w', l_best_plan_3 (bpR c0 c1 c2 L R W [p] [] s) ω = some (.nx (bpR c0 c1 c2 L R W [p ++ [1 + d]] [] s'), ω) ∧ Part c0 c1 c2 L R W (p ++ [1 + d]) w' := by
  obtain ⟨hn, hs, h4, hF, hg, hc⟩ := P
  have hco := cost_ok (c0 := c0) (c1 := c1) (c2 := c2) (ω := ⟨false, []⟩) h4
  have hrg : ∀ (ρ : Ro), ρ[0]? = some (.val (.int L)) → ρ[8]? = some (.val (plD p)) → (iRange (aCons (eC (.int 1)) (aCons (eBin opAdd (eCall opMin2 (aCons (eBin opSub (eVar 0) (eCall opSum (aCons (eVar 8) aNil))) (aCons (eC (.int 4)) aNil))) (eC (.int 1))) aNil))) ρ ω = some ((List.range (min (L - p.sum) 4)).map fun k => natD (1 + k), ω) := by
    intro ρ h0 h8
    refine x_rng1 (a := 1) rfl ?_ (by omega)
    have e : min ((L : Int) - ((p.sum : Nat) : Int)) 4 + 1 = ((1 + min (L - p.sum) 4 : Nat) : Int) := by omega
    simp only [eBin_ap, eCall_ap, aCons_ap, eVar_ap, h0, h8, aNil_ap, opSum_pl, opSub_int, eC_ap, opMin2_int, opAdd_int, e]
  have hleft : (R : Int) - ((p.length : Nat) : Int) = ((R - p.length : Nat) : Int) := by omega
  have hlen : opLen [plD p] = some (.int ((p.length : Nat) : Int)) := by simp [plD]
  by_cases hl : L - p.sum = 0
  · rw [hl] at hF hg
    have hw := F_zero hF
    subst hw
    have hgr : gre c0 c1 w L R L W = p := by
      rw [hg]
      cases R - p.length <;> simp [gre]
    obtain ⟨x', e⟩ := bp_inner (ω := ω) (pls := .val (.list [plD p])) (fd := [plD p]) hL hR hs hn h4 hc s.2.2.2
    rw [hl] at e
    refine .inl ⟨(.own [], .val (plD p), .val (natD (R - p.length)), x'), ?_⟩
    unfold l_best_plan_3 bpR
    refine x_own (ds := []) rfl ?_
    refine x_for (ds := [plD p]) rfl (loop_one rfl (x_seq (x_ifT ?_ (x_app1 (d := plD p) (xs := []) rfl rfl (by decide))) (x_set (d := natD (R - p.length)) ?_ (x_for1 (hrg _ rfl rfl) (by rw [hl]; exact e))))) ?_
    · have h1 : ((p.sum : Nat) : Int) = (L : Int) := by omega
      have h2 : cost c0 c1 w p = W := by omega
      simp [h1, hco, h2]
    · simp [hlen, hleft, natD]
    refine x_set (d := .list []) ?_ ?_
    · have := ne_plans []
      simp at this
      simp [this]
    refine x_ifT ?_ (x_set1 (d := .list []) (by simp) |>.trans ?_)
    · have := ne_plans [p]
      simp at this
      simp [this]
    · rw [hgr]; rfl
  · have hr : ∃ r, R - p.length = r + 1 := by
      cases h : R - p.length with
      | zero => rw [h] at hF; exact absurd (F_row0 (by omega) hF) hl
      | succ r => exact ⟨r, rfl⟩
    obtain ⟨r, hr⟩ := hr
    rw [hr] at hF
    obtain ⟨k, ek⟩ := adm_ex (by omega) hl hF
    obtain ⟨k1, k2, k3, k4⟩ := adm_spec ek
    obtain ⟨x', e⟩ := bp_inner (ω := ω) (pls := .val (.list [plD p])) (fd := []) hL hR hs hn h4 hc s.2.2.2
    have hkm : k ∈ (List.range (min (L - p.sum) 4)).filter (admB c0 c1 c2 L (R - p.length) (L - p.sum) w) := by
      refine List.mem_filter.mpr ⟨List.mem_range.mpr (by omega), ?_⟩
      rw [hr]
      exact decide_eq_true k3
    have hm : ((List.range (min (L - p.sum) 4)).filter (admB c0 c1 c2 L (R - p.length) (L - p.sum) w)).map (fun k => plD (p ++ [1 + k])) = (((List.range (min (L - p.sum) 4)).filter (admB c0 c1 c2 L (R - p.length) (L - p.sum) w)).map (fun k => p ++ [1 + k])).map plD := by
      rw [List.map_map]; rfl
    have hb := best_plans (l := ((List.range (min (L - p.sum) 4)).filter (admB c0 c1 c2 L (R - p.length) (L - p.sum) w)).map (fun k => p ++ [1 + k])) (m := p ++ [1 + k]) (List.mem_map.mpr ⟨k, hkm, rfl⟩) (fun q hq hne => by
      obtain ⟨j, hj, rfl⟩ := List.mem_map.mp hq
      have hj2 := (List.mem_filter.mp hj).2
      rw [hr] at hj2
      by_cases hjk : j < k
      · rw [show admB c0 c1 c2 L (r + 1) (L - p.sum) w j = adm c0 c1 c2 L r (L - p.sum) w j from rfl, k4 j hjk] at hj2
        cases hj2
      · have : j ≠ k := fun h => hne (by rw [h])
        exact plD_lt (by omega))
    have hne := ne_plans (((List.range (min (L - p.sum) 4)).filter (admB c0 c1 c2 L (R - p.length) (L - p.sum) w)).map (fun k => p ++ [1 + k]))
    rw [← hm] at hb hne
    have hne2 : (((List.range (min (L - p.sum) 4)).filter (admB c0 c1 c2 L (R - p.length) (L - p.sum) w)).map (fun k => p ++ [1 + k])).isEmpty = false := by
      cases h : (List.range (min (L - p.sum) 4)).filter (admB c0 c1 c2 L (R - p.length) (L - p.sum) w) with
      | nil => rw [h] at hkm; cases hkm
      | cons => rfl
    rw [hne2] at hne
    refine .inr ⟨(.own (((List.range (min (L - p.sum) 4)).filter (admB c0 c1 c2 L (R - p.length) (L - p.sum) w)).map fun k => plD (p ++ [1 + k])), .val (plD p), .val (natD (R - p.length)), x'), k, w - rc c0 c1 (k + 1), ?_, ?_⟩
    · unfold l_best_plan_3 bpR
      refine x_own (ds := []) rfl ?_
      refine x_for (ds := [plD p]) rfl (loop_one rfl (x_seq (x_ifF ?_ rfl) (x_set (d := natD (R - p.length)) ?_ (x_for1 (hrg _ rfl rfl) e)))) ?_
      · have h1 : ¬ ((p.sum : Nat) : Int) = (L : Int) := by omega
        simp [h1]
      · simp [hlen, hleft, natD]
      refine x_set (d := .list [plD (p ++ [1 + k])]) ?_ ?_
      · simp only [eIf_ap, tOfE_ap, eBin_ap, eVarB_ap, List.getElem?_cons_succ, List.getElem?_cons_zero, eLst_ap, aNil_ap, hne, Bool.not_false, if_true, aCons_ap, eDown_ap, eCall_ap, hb, plD_noL]
      refine x_ifF ?_ rfl
      have := ne_plans []
      simp at this
      simp [this]
    · refine ⟨by simp; omega, by simp; omega, ?_, ?_, ?_, ?_⟩
      · intro d hd
        rcases List.mem_append.mp hd with h | h
        · exact h4 d h
        · have := List.mem_singleton.mp h; omega
      · rw [show R - (p ++ [1 + k]).length = r from by simp; omega, show L - (p ++ [1 + k]).sum = L - p.sum - (k + 1) from by simp; omega]
        exact k3
      · rw [hg, hr, show R - (p ++ [1 + k]).length = r from by simp; omega, show L - (p ++ [1 + k]).sum = L - p.sum - (k + 1) from by simp; omega]
        rw [show gre c0 c1 c2 L (r + 1) (L - p.sum) w = (k + 1) :: gre c0 c1 c2 L r (L - p.sum - (k + 1)) (w - rc c0 c1 (k + 1)) from by simp [gre, hl, ek], Nat.add_comm 1 k, List.append_assoc]
        rfl
      · rw [cost_app, Nat.add_comm 1 k]; omega

theorem bp_loop {L R : Nat} {W : Int} (hL : L ≤ 20) (hR : R ≤ 20) (hF : F c0 c1 c2 L R L = some W) (s : SV × SV × SV × SV × SV × SV) :
    ∃ s', whileD (tOfE (eBin opNe (eVar 5) (eLst aNil))) l_best_plan_3 FUEL (bpR c0 c1 c2 L R W [[]] [] s) ω = some (.nx (bpR c0 c1 c2 L R W [] [gre c0 c1 c2 L R L W] s'), ω) := by
  have q := while_inv (c := tOfE (eBin opNe (eVar 5) (eLst aNil))) (f := l_best_plan_3) (ω := ω)
    (fun n ρ => (n = 0 ∧ ∃ s', ρ = bpR c0 c1 c2 L R W [] [gre c0 c1 c2 L R L W] s') ∨ ∃ p w s', n = L + 1 - p.sum ∧ Part c0 c1 c2 L R W p w ∧ ρ = bpR c0 c1 c2 L R W [p] [] s')
    (fun ρ => ∃ s', ρ = bpR c0 c1 c2 L R W [] [gre c0 c1 c2 L R L W] s') (fun n ρ h => ?_) FUEL (L + 1) (bpR c0 c1 c2 L R W [[]] [] s) (.inr ⟨[], W, s, by simp, ⟨by simp, by simp, by simp, by simpa using hF, by simp, by rw [cost_nil]; omega⟩, rfl⟩) (by rw [FUEL_num]; omega)
  · obtain ⟨ρ', e, s', rfl⟩ := q
    exact ⟨s', e⟩
  · rcases h with ⟨rfl, s', rfl⟩ | ⟨p, w, s', rfl, P, rfl⟩
    · refine .inl ⟨?_, s', rfl⟩
      have := ne_plans []
      simp at this
      simp [bpR, this]
    · refine .inr ⟨?_, ?_⟩
      · have := ne_plans [p]
        simp at this
        simp [bpR, this]
      · have := P.sum
        rcases bp_step hL hR P s' with ⟨s2, e⟩ | ⟨s2, d, w', e, P'⟩
        · exact ⟨_, 0, e, by omega, .inl ⟨rfl, s2, rfl⟩⟩
        · refine ⟨_, L + 1 - (p ++ [1 + d]).sum, e, ?_, .inr ⟨_, w', s2, rfl, P', rfl⟩⟩
          have := P'.sum
          simp at this ⊢
          omega
/-- what both say of the best plan -/
def bestV (c0 c1 c2 : Int) (L R : Nat) : D := match F c0 c1 c2 L R L with
  | none => .none
  | some w => .tuple [.int w, plD (gre c0 c1 c2 L R L w)]
theorem best_ok {L R : Nat} (hL : L ≤ 20) (hR : R ≤ 20) : d_best_plan [.int L, .int R, coD c0 c1 c2] ω = some (bestV c0 c1 c2 L R, ω) := by
  refine x_fn ?_
  refine x_set (d := flD c0 c1 c2 L R) (x_fnP rfl (floors_ok hL hR)) ?_
  refine x_set (d := oD (F c0 c1 c2 L R L)) (x_bin (x_bin (x := flD c0 c1 c2 L R) (y := .int R) rfl rfl (fl_ix (Nat.le_refl _))) (y := .int L) rfl (row_ix (Nat.le_refl _))) ?_
  unfold bestV
  cases hF : F c0 c1 c2 L R L with
  | none => exact x_end (x_ifT (by simp [oD]) (x_ret rfl))
  | some W =>
    refine x_seq (x_ifF (by simp [oD]) rfl) ?_
    refine x_set (d := .list [plD []]) rfl ?_
    refine x_own (ds := []) rfl ?_
    obtain ⟨s', e⟩ := bp_loop (ω := ω) hL hR hF (.un, .un, .un, .un, .un, .un)
    refine x_while e ?_
    have hb := best_plans (l := [gre c0 c1 c2 L R L W]) (m := gre c0 c1 c2 L R L W) (by simp) (by simp)
    simp only [List.map_cons, List.map_nil] at hb
    refine x_ret ?_
    simp only [eTup_ap, aCons_ap, eVar_ap, bpR, List.getElem?_cons_succ, List.getElem?_cons_zero, eCall_ap, eVarB_ap, aNil_ap, List.map_cons, List.map_nil, hb]
end G_k34
end

section
namespace G_k34
open PySem PySem.Spec L2 Dn P34
local instance : Tb := noTb
variable {c0 c1 c2 : Int} {ω : Wd}
/-! ## all plans, as the law finds them -/
def wt (L : Nat) (p : List Nat) : Nat := 2 ^ (L - p.sum)
def kids (L : Nat) (p : List Nat) : List (List Nat) := (List.range (min 4 (L - p.sum))).map fun k => p ++ [1 + k]
theorem kids_wt {L : Nat} {p : List Nat} (h : p.sum ≤ L) : ((kids L p).map (wt L)).sum + 1 ≤ wt L p := by
  have key : ∀ (m l : Nat), m ≤ l → ((List.range m).map fun k => 2 ^ (l - (1 + k))).sum + 2 ^ (l - m) ≤ 2 ^ l := by
    intro m
    induction m with
    | zero => intro l _; simp
    | succ m ih =>
      intro l hl
      have := ih l (by omega)
      rw [List.range_succ, List.map_append, List.sum_append]
      have e : 2 ^ (l - m) = 2 * 2 ^ (l - (m + 1)) := by
        rw [show l - m = (l - (m + 1)) + 1 from by omega, Nat.pow_succ]; omega
      simp only [List.map_cons, List.map_nil, List.sum_cons, List.sum_nil]
      rw [show l - (1 + m) = l - (m + 1) from by omega]
      omega
  have q := key (min 4 (L - p.sum)) (L - p.sum) (by omega)
  unfold kids wt
  rw [List.map_map]
  have e : ((fun p => 2 ^ (L - p.sum)) ∘ fun k => p ++ [1 + k]) = fun k => 2 ^ (L - p.sum - (1 + k)) := by
    funext k
    simp only [Function.comp, List.sum_append, List.sum_cons, List.sum_nil]
    rw [show L - (p.sum + (1 + k + 0)) = L - p.sum - (1 + k) from by omega]
  rw [e]
  have : 0 < 2 ^ (L - p.sum - min 4 (L - p.sum)) := Nat.pos_of_ne_zero (by simp)
  omega
def Pre (L R : Nat) (p : List Nat) : Prop := p.sum ≤ L ∧ p.length ≤ R ∧ ∀ d ∈ p, 1 ≤ d ∧ d ≤ 4
theorem pre_len {L R : Nat} {p : List Nat} (h : Pre L R p) : p.length ≤ p.sum := by
  have h := h.2.2
  have q : ∀ p : List Nat, (∀ d ∈ p, 1 ≤ d) → p.length ≤ p.sum := by
    intro p
    induction p with
    | nil => simp
    | cons d p ih =>
      intro h
      have h1 := h d (by simp)
      have h2 := ih fun e he => h e (by simp [he])
      simp; omega
  exact q p fun d hd => (h d hd).1
structure Sta (L R : Nat) (fs st : List (List Nat)) : Prop where
  fo : ∀ p ∈ fs, IsPlan L R p
  sp : ∀ p ∈ st, Pre L R p
  al : ∀ p, IsPlan L R p → p ∈ fs ∨ ∃ q ∈ st, ∃ s, p = q ++ s
  wt : fs.length + (st.map (wt L)).sum ≤ 2 ^ L
def lpR (L R : Nat) (fs st : List (List Nat)) (s : SV × SV × SV) : Ro := [.val (.int L), .val (.int R), .own (fs.map plD), .own (st.map plD), s.1, s.2.1, s.2.2]
theorem wt_pos (L : Nat) (st : List (List Nat)) : st.length ≤ (st.map (wt L)).sum := by
  induction st with
  | nil => simp
  | cons p st ih =>
    have : 0 < wt L p := Nat.pos_of_ne_zero (by simp [wt])
    simp; omega
theorem lp_step {L R : Nat} {fs st : List (List Nat)} {p : List Nat} (hL : L ≤ 12) (S : Sta L R fs (st ++ [p])) (s : SV × SV × SV) :
    ∃ fs' st' s', l__law_plans_1 (lpR L R fs (st ++ [p]) s) ω = some (.nx (lpR L R fs' st' s'), ω) ∧ Sta L R fs' st' ∧ (st'.map (wt L)).sum < ((st ++ [p]).map (wt L)).sum := by
  obtain ⟨fo, sp, al, hw⟩ := S
  have hp := sp p (by simp)
  have hwt := kids_wt hp.1
  have hp0 : 0 < wt L p := by omega
  have h2L : 2 ^ L ≤ 4096 := Nat.le_trans (Nat.pow_le_pow_right (by decide) hL) (by decide)
  have hln := wt_pos L (st ++ [p])
  rw [List.map_append, List.sum_append] at hw hln
  simp only [List.map_cons, List.map_nil, List.sum_cons, List.sum_nil] at hw hln
  have hpop : sPop 3 (some 4) (lpR L R fs (st ++ [p]) s) ω = some (.nx [.val (.int L), .val (.int R), .own (fs.map plD), .own (st.map plD), .val (plD p), s.2.1, s.2.2], ω) := by
    simp [lpR]
  have hlft : (eBin opSub (eVar 0) (eCall opSum (aCons (eVar 4) aNil))) [.val (.int L), .val (.int R), .own (fs.map plD), .own (st.map plD), .val (plD p), s.2.1, s.2.2] ω = some (natD (L - p.sum), ω) := by
    have : (L : Int) - ((p.sum : Nat) : Int) = ((L - p.sum : Nat) : Int) := by have := hp.1; omega
    simp [natD, this]
  unfold l__law_plans_1
  by_cases h0 : L - p.sum = 0
  · refine ⟨fs ++ [p], st, (.val (plD p), .val (natD 0), s.2.2), ?_, ⟨?_, ?_, ?_, ?_⟩, ?_⟩
    · rw [h0] at hlft
      refine x_seq hpop (x_set hlft (x_ifT (by simp) ?_))
      have : fs.length < 16777216 := by omega
      refine (x_app1 (d := plD p) (xs := fs.map plD) rfl rfl (by rw [List.length_map]; exact this)).trans ?_
      simp [lpR]
    · intro q hq
      rcases List.mem_append.mp hq with h | h
      · exact fo q h
      · rw [List.mem_singleton.mp h]
        exact ⟨by have := hp.1; omega, hp.2.1, hp.2.2⟩
    · exact fun q hq => sp q (by simp [hq])
    · intro q hq
      rcases al q hq with h | ⟨r, hr, t, rfl⟩
      · exact .inl (by simp [h])
      · rcases List.mem_append.mp hr with h | h
        · exact .inr ⟨r, h, t, rfl⟩
        · rw [List.mem_singleton.mp h] at hq ⊢
          have hz : t.sum = 0 := by
            have := hq.1
            rw [List.sum_append] at this; omega
          cases t with
          | nil => exact .inl (by simp)
          | cons d t =>
            have := hq.2.2 d (by simp)
            simp at hz; omega
    · rw [List.length_append, List.length_singleton]; omega
    · rw [List.map_append, List.sum_append]; simp only [List.map_cons, List.map_nil, List.sum_cons, List.sum_nil]; omega
  · have hne : ¬ ((L - p.sum : Nat) : Int) = 0 := by omega
    have hlen : opLen [plD p] = some (.int ((p.length : Nat) : Int)) := by simp [plD]
    by_cases hR : p.length < R
    · refine ⟨fs, st ++ kids L p, (.val (plD p), .val (natD (L - p.sum)), s.2.2), ?_, ⟨fo, ?_, ?_, ?_⟩, ?_⟩
      · refine x_seq hpop (x_set hlft (x_ifF ?_ (x_ifT ?_ ?_)))
        · simp only [List.set_cons_succ, List.set_cons_zero, tOfE_ap, eBin_ap, eVar_ap, List.getElem?_cons_succ, List.getElem?_cons_zero, eC_ap, natD, opEq_intS, hne, decide_false]
        · have : ((p.length : Nat) : Int) < (R : Int) := by omega
          simp only [List.set_cons_succ, List.set_cons_zero, tOfE_ap, eBin_ap, eVar_ap, List.getElem?_cons_succ, List.getElem?_cons_zero, eCall_ap, aCons_ap, aNil_ap, hlen, opLt_int, this, decide_true]
        · have hx : (eOfN (eLcN (iRange (aCons (eC (.int 1)) (aCons (eBin opAdd (eCall opMin2 (aCons (eC (.int 4)) (aCons (eVar 5) aNil))) (eC (.int 1))) aNil))) (gSet 6) tYesD (eBin opAdd (eVar 4) (eTup (aCons (eVar 6) aNil))) [6])) [.val (.int L), .val (.int R), .own (fs.map plD), .own (st.map plD), .val (plD p), .val (natD (L - p.sum)), s.2.2] ω = some (.list ((kids L p).map plD), ω) := by
            refine x_ofN (x_lc (x_rng1 (a := 1) (n := min 4 (L - p.sum)) rfl ?_ (by omega)) ?_)
            · have : min 4 ((L - p.sum : Nat) : Int) + 1 = ((1 + min 4 (L - p.sum) : Nat) : Int) := by omega
              simp only [eBin_ap, eCall_ap, aCons_ap, eC_ap, eVar_ap, List.getElem?_cons_succ, List.getElem?_cons_zero, aNil_ap, natD, opMin2_int, opAdd_int, this]
            · rw [show (kids L p).map plD = (List.range (min 4 (L - p.sum))).map fun k => plD (p ++ [1 + k]) from by unfold kids; rw [List.map_map]; rfl]
              refine lcD_map _ _ _ fun k _ => ⟨_, rfl, rfl, ?_⟩
              exact x_bin (x := plD p) (y := .tuple [natD (1 + k)]) rfl rfl (plD_add (by have := pre_len hp; have := hp.1; omega))
          have hk := wt_pos L (kids L p)
          refine (x_ext1 (ds := (kids L p).map plD) (xs := st.map plD) hx rfl ?_).trans ?_
          · rw [List.length_append, List.length_singleton] at hln
            rw [List.length_map, List.length_map]; omega
          · simp [lpR]
      · intro q hq
        rcases List.mem_append.mp hq with h | h
        · exact sp q (by simp [h])
        · obtain ⟨k, hk, rfl⟩ := List.mem_map.mp h
          have hk := List.mem_range.mp hk
          refine ⟨by simp; omega, by simp; omega, fun d hd => ?_⟩
          rcases List.mem_append.mp hd with h | h
          · exact hp.2.2 d h
          · have := List.mem_singleton.mp h; omega
      · intro q hq
        rcases al q hq with h | ⟨r, hr, t, rfl⟩
        · exact .inl h
        · rcases List.mem_append.mp hr with h | h
          · exact .inr ⟨r, by simp [h], t, rfl⟩
          · rw [List.mem_singleton.mp h] at hq ⊢
            cases t with
            | nil => exact absurd (by have := hq.1; rw [List.append_nil] at this; omega) h0
            | cons d t =>
              have h1 := hq.2.2 d (by simp)
              have h2 := hq.1
              rw [List.sum_append, List.sum_cons] at h2
              refine .inr ⟨p ++ [1 + (d - 1)], ?_, t, ?_⟩
              · refine List.mem_append_right _ (List.mem_map.mpr ⟨d - 1, List.mem_range.mpr (by omega), rfl⟩)
              · rw [show 1 + (d - 1) = d from by omega]; simp
      · rw [List.map_append, List.sum_append]; omega
      · rw [List.map_append, List.sum_append, List.map_append, List.sum_append]; simp only [List.map_cons, List.map_nil, List.sum_cons, List.sum_nil]; omega
    · refine ⟨fs, st, (.val (plD p), .val (natD (L - p.sum)), s.2.2), ?_, ⟨fo, fun q hq => sp q (by simp [hq]), ?_, by omega⟩, ?_⟩
      · refine x_seq hpop (x_set hlft (x_ifF ?_ (x_ifF ?_ ?_)))
        · simp only [List.set_cons_succ, List.set_cons_zero, tOfE_ap, eBin_ap, eVar_ap, List.getElem?_cons_succ, List.getElem?_cons_zero, eC_ap, natD, opEq_intS, hne, decide_false]
        · have : ¬ ((p.length : Nat) : Int) < (R : Int) := by omega
          simp only [List.set_cons_succ, List.set_cons_zero, tOfE_ap, eBin_ap, eVar_ap, List.getElem?_cons_succ, List.getElem?_cons_zero, eCall_ap, aCons_ap, aNil_ap, hlen, opLt_int, this, decide_false]
        · simp [lpR]
      · intro q hq
        rcases al q hq with h | ⟨r, hr, t, rfl⟩
        · exact .inl h
        · rcases List.mem_append.mp hr with h | h
          · exact .inr ⟨r, h, t, rfl⟩
          · rw [List.mem_singleton.mp h] at hq
            have h1 := hq.2.1
            rw [List.length_append] at h1
            have : t = [] := List.length_eq_zero_iff.mp (by omega)
            subst this
            exact absurd (by have := hq.1; rw [List.append_nil] at this; omega) h0
      · rw [List.map_append, List.sum_append]; simp only [List.map_cons, List.map_nil, List.sum_cons, List.sum_nil]; omega

theorem lp_loop {L R : Nat} (hL : L ≤ 12) (s : SV × SV × SV) : ∃ fs s', whileD (tOfE (eBin opNe (eVarB 3) (eLst aNil))) l__law_plans_1 FUEL (lpR L R [] [[]] s) ω = some (.nx (lpR L R fs [] s'), ω) ∧ fs.length ≤ 2 ^ L ∧ ∀ p, p ∈ fs ↔ IsPlan L R p := by
  have h2L : 2 ^ L ≤ 4096 := Nat.le_trans (Nat.pow_le_pow_right (by decide) hL) (by decide)
  have q := while_inv (c := tOfE (eBin opNe (eVarB 3) (eLst aNil))) (f := l__law_plans_1) (ω := ω)
    (fun n ρ => ∃ fs st s', n = (st.map (wt L)).sum ∧ Sta L R fs st ∧ ρ = lpR L R fs st s')
    (fun ρ => ∃ fs s', Sta L R fs [] ∧ ρ = lpR L R fs [] s') (fun n ρ h => ?_) FUEL (2 ^ L) (lpR L R [] [[]] s) ⟨[], [[]], s, by simp [wt], ⟨by simp, by simp [Pre], fun p hp => .inr ⟨[], by simp, p, rfl⟩, by simp [wt]⟩, rfl⟩ (by rw [FUEL_num]; omega)
  · obtain ⟨ρ', e, fs, s', S, rfl⟩ := q
    refine ⟨fs, s', e, ?_, fun p => ⟨S.fo p, fun h => ?_⟩⟩
    · have := S.wt; simp at this; omega
    · rcases S.al p h with h | ⟨q, hq, _⟩
      · exact h
      · cases hq
  · obtain ⟨fs, st, s', rfl, S, rfl⟩ := h
    rcases List.eq_nil_or_concat st with rfl | ⟨st, p, rfl⟩
    · refine .inl ⟨?_, fs, s', S, rfl⟩
      have := ne_plans []
      simp at this
      simp [lpR, this]
    · rw [List.concat_eq_append] at S ⊢
      refine .inr ⟨?_, ?_⟩
      · have := ne_plans (st ++ [p])
        simp at this
        simp [lpR, this]
      · obtain ⟨fs', st', s2, e, S', hm⟩ := lp_step (ω := ω) hL S s'
        exact ⟨_, _, e, hm, fs', st', s2, rfl, S', rfl⟩
theorem sort_plans {L R : Nat} {fs : List (List Nat)} (h : ∀ p ∈ fs, IsPlan L R p) (hl : L = 0 → fs.length ≤ 1) : sortOk (fs.map plD) = true := by
  unfold sortOk
  rw [plainAll_of fun x hx => by obtain ⟨p, _, rfl⟩ := List.mem_map.mp hx; exact plD_plain p]
  rw [List.all_eq_true.mpr fun x hx => by obtain ⟨p, _, rfl⟩ := List.mem_map.mp hx; exact decide_eq_true (by have := plD_depth p; omega)]
  rw [List.all_eq_true.mpr fun x hx => List.all_eq_true.mpr fun y hy => by
    obtain ⟨p, _, rfl⟩ := List.mem_map.mp hx
    obtain ⟨q, _, rfl⟩ := List.mem_map.mp hy
    exact plD_alike p q]
  by_cases h0 : L = 0
  · have := hl h0
    simp [this]
    refine .inr fun p _ => rfl
  · have : (fs.map plD).all tupC = true := List.all_eq_true.mpr fun x hx => by
      obtain ⟨p, hp, rfl⟩ := List.mem_map.mp hx
      cases p with
      | nil => exact absurd (h _ hp).1.symm h0
      | cons d p => rfl
    rw [this]; rfl
theorem sortD_plans (fs : List (List Nat)) : ∃ gs : List (List Nat), sortD (fs.map plD) = gs.map plD ∧ ∀ p, p ∈ gs ↔ p ∈ fs := by
  unfold sortD
  refine ⟨fs.mergeSort fun a b => PySem.W.dataLe false id (plD a) (plD b), ?_, fun p => List.mem_mergeSort⟩
  symm
  refine List.map_mergeSort fun a _ b _ => rfl
abbrev ω0 : Wd := ⟨false, []⟩
theorem plans_ok {L R : Nat} (hL : L ≤ 12) : ∃ gs : List (List Nat), d__law_plans [.int L, .int R] ω0 = some (.list (gs.map plD), ω0) ∧ gs.length ≤ 4096 ∧ ∀ p, p ∈ gs ↔ IsPlan L R p := by
  obtain ⟨fs, s', e, hn, hm⟩ := lp_loop (ω := ω0) (R := R) hL (.un, .un, .un)
  obtain ⟨gs, e2, hg⟩ := sortD_plans fs
  have hs := sort_plans (fun p hp => (hm p).mp hp) (fun h0 => by subst h0; simpa using hn)
  have h2L : 2 ^ L ≤ 4096 := Nat.le_trans (Nat.pow_le_pow_right (by decide) hL) (by decide)
  refine ⟨gs, ?_, ?_, fun p => (hg p).trans (hm p)⟩
  · refine x_fn (x_seq (ρ1 := lpR L R [] [[]] (.un, .un, .un)) rfl (x_while e (x_ret (x_ofN ?_))))
    simp only [aSortOwn_ap, lpR, List.getElem?_cons_succ, List.getElem?_cons_zero, hs, if_true, e2]
  · have := congrArg List.length e2
    rw [List.length_map] at this
    unfold sortD at this
    rw [List.length_mergeSort, List.length_map] at this
    omega
/-! ## the law's best -/
def pairD (c0 c1 c2 : Int) (p : List Nat) : D := .tuple [.int (cost c0 c1 c2 p), plD p]
theorem pair_lt {p q : List Nat} : PySem.W.dataLt (pairD c0 c1 c2 p) (pairD c0 c1 c2 q) = if cost c0 c1 c2 p = cost c0 c1 c2 q then PySem.W.dataLt (.tuple [plD p]) (.tuple [plD q]) else decide (cost c0 c1 c2 p < cost c0 c1 c2 q) := dataLt_ints_cons _ _ _ _
theorem eqv_pl : ∀ {p q : List Nat}, PyData.eqvAll (p.map iD) (q.map iD) = decide (p = q)
  | [], [] => rfl
  | [], _ :: _ => rfl
  | _ :: _, [] => rfl
  | a :: p, b :: q => by
    rw [List.map_cons, List.map_cons, PyData.eqvAll, eqv_pl]
    have : PyData.eqv (iD a) (iD b) = decide (a = b) := by
      show ((a : Int) == (b : Int)) = _
      by_cases h : a = b
      · subst h; simp
      · simp [h]; omega
    rw [this]
    by_cases h : a = b <;> by_cases h2 : p = q <;> simp [h, h2]
theorem eqv_plD {p q : List Nat} : PyData.eqv (plD p) (plD q) = decide (p = q) := eqv_pl
theorem one_lt {p q : List Nat} (h : p ≠ q) : PySem.W.dataLt (.tuple [plD p]) (.tuple [plD q]) = PySem.W.dataLt (plD p) (plD q) := by
  rw [dataLt_cons (plD_alike p q), eqv_plD, if_neg (by simpa using h)]
theorem lbest_ok {L R : Nat} {M : Nat} (hL : L ≤ 12) (hLM : L ≤ M) : d__law_best [.int L, .int R, coD c0 c1 c2] ω0 = some ((match F c0 c1 c2 M R L with
  | none => .none
  | some w => .tuple [.int w, plD (gre c0 c1 c2 M R L w)]), ω0) := by
  obtain ⟨gs, e, hn, hm⟩ := plans_ok (R := R) hL
  have hF := F_lst (c0 := c0) (c1 := c1) (c2 := c2) (r := R) hLM
  refine x_fn ?_
  refine x_set (d := .list (gs.map (pairD c0 c1 c2))) ?_ ?_
  · refine x_ofN (x_lc (ds := gs.map plD) ?_ (lcD_map _ _ _ fun p hp => ⟨_, rfl, rfl, ?_⟩))
    · rw [iSq_ap, x_fnP rfl e]
    · have h4 : ∀ d ∈ p, d ≤ 4 := fun d hd => (((hm p).mp hp).2.2 d hd).2
      have := lcost_ok (c0 := c0) (c1 := c1) (c2 := c2) (ω := ω0) h4
      simp [wipeR, this, pairD]
  · have hpl : PyData.plainAll (gs.map (pairD c0 c1 c2)) = true := plainAll_of fun x hx => by
      obtain ⟨p, _, rfl⟩ := List.mem_map.mp hx
      show PyData.plainAll _ = true
      rw [PyData.plainAll, PyData.plainAll, plD_plain]; rfl
    have hdp : ∀ p, (pairD c0 c1 c2 p).depth ≤ 2 := fun p => by
      show PyData.depthAll _ + 1 ≤ 2
      have := plD_depth p
      simp [PyData.depthAll, PyData.depth]; omega
    have hne : opNe (.list (gs.map (pairD c0 c1 c2))) (.list []) = some (.bool (!gs.isEmpty)) := by
      rw [opNe_nil hpl (depthAll_of fun x hx => by obtain ⟨p, _, rfl⟩ := List.mem_map.mp hx; have := hdp p; omega)]
      cases gs <;> rfl
    refine x_ret ?_
    cases hw : F c0 c1 c2 M R L with
    | none =>
      rw [hw] at hF
      have : gs = [] := List.eq_nil_iff_forall_not_mem.mpr fun p hp => hF _ ⟨p, (hm p).mp hp, rfl⟩
      subst this
      simp at hne
      simp [hne]
    | some w =>
      obtain ⟨g1, g2, g3⟩ := gre_spec R L w hLM hw
      rw [hw] at hF
      have hb : opBest false [.list (gs.map (pairD c0 c1 c2))] = some (pairD c0 c1 c2 (gre c0 c1 c2 M R L w)) := by
        refine opBest_min (List.mem_map.mpr ⟨_, (hm _).mpr g1, rfl⟩) ?_ ?_ ?_ ?_ ?_
        all_goals (intro x hx; obtain ⟨q, hq, rfl⟩ := List.mem_map.mp hx)
        · show PyData.plainAll _ = true
          rw [PyData.plainAll, PyData.plainAll, plD_plain]; rfl
        · have := hdp q; omega
        · intro y hy
          obtain ⟨r, hr, rfl⟩ := List.mem_map.mp hy
          show PySem.W.alike (.tuple [_, _]) (.tuple [_, _]) = true
          simp [PySem.W.alike, PySem.W.alikeAll, plD_alike]
        · rfl
        · intro hne
          have hqn : q ≠ gre c0 c1 c2 M R L w := fun h => hne (by rw [h])
          have hc := hF.2 _ ⟨q, (hm q).mp hq, rfl⟩
          rw [pair_lt, g2]
          by_cases h : w = cost c0 c1 c2 q
          · rw [if_pos h, one_lt fun h => hqn h.symm]
            exact g3 q ((hm q).mp hq) h.symm hqn
          · rw [if_neg h]; exact decide_eq_true (by omega)
      have hne2 : gs.isEmpty = false := by
        cases gs with
        | nil => exact absurd ((hm _).mpr g1) (by simp)
        | cons => rfl
      rw [hne2] at hne
      simp [hne, hb, pairD, g2]
end G_k34
end

section
namespace G_k34
open PySem PySem.Spec L2 Dn P34
local instance : Tb := noTb
variable {c0 c1 c2 : Int} {ω : Wd}
/-! ## choices -/
def prD (x : Nat × Int) : D := .tuple [natD x.1, .int x.2]
def prs (f : Nat → Option Int) (n : Nat) : List (Nat × Int) := (List.range n).filterMap fun r => (f r).map fun b => (r, b)
def chs (f : Nat → Option Int) : Nat → List (Nat × Int)
  | 0 => []
  | n + 1 => match f n with
    | none => chs f n
    | some b => if (match (chs f n).getLast? with | none => true | some q => decide (b < q.2)) = true then chs f n ++ [(n, b)] else chs f n
theorem chs_succ (f : Nat → Option Int) (n : Nat) : chs f (n + 1) = match f n with
    | none => chs f n
    | some b => if (match (chs f n).getLast? with | none => true | some q => decide (b < q.2)) = true then chs f n ++ [(n, b)] else chs f n := rfl
def dom (l : List (Nat × Int)) (x : Nat × Int) : Bool := l.any fun y => decide (y ≠ x) && (decide (y.1 ≤ x.1) && decide (y.2 ≤ x.2))
theorem prs_succ (f : Nat → Option Int) (n : Nat) : prs f (n + 1) = prs f n ++ (match f n with | none => [] | some b => [(n, b)]) := by
  unfold prs
  rw [List.range_succ, List.filterMap_append]
  cases h : f n <;> simp [h]
theorem prs_lt {f : Nat → Option Int} {n : Nat} {x : Nat × Int} (h : x ∈ prs f n) : x.1 < n := by
  obtain ⟨r, hr, e⟩ := List.mem_filterMap.mp h
  obtain ⟨b, _, rfl⟩ := Option.map_eq_some_iff.mp e
  exact List.mem_range.mp hr
theorem chs_last (f : Nat → Option Int) : ∀ n, ((chs f n).getLast? = none ∧ prs f n = []) ∨ ∃ q, (chs f n).getLast? = some q ∧ q ∈ prs f n ∧ ∀ x ∈ prs f n, q.2 ≤ x.2
  | 0 => .inl ⟨rfl, rfl⟩
  | n + 1 => by
    rw [prs_succ, chs]
    cases hf : f n with
    | none =>
      simp only [List.append_nil]
      exact chs_last f n
    | some b =>
      simp only []
      rcases chs_last f n with ⟨e, h⟩ | ⟨q, e, hm, hq⟩
      · rw [e, h]
        refine .inr ⟨(n, b), by simp, by simp, by simp⟩
      · rw [e]
        by_cases hb : b < q.2
        · simp only [hb, decide_true, if_true]
          refine .inr ⟨(n, b), by simp, by simp, fun x hx => ?_⟩
          rcases List.mem_append.mp hx with h | h
          · have := hq x h; simp; omega
          · rw [List.mem_singleton.mp h]; exact Int.le_refl _
        · simp only [hb, decide_false, Bool.false_eq_true, if_false]
          refine .inr ⟨q, e, by simp [hm], fun x hx => ?_⟩
          rcases List.mem_append.mp hx with h | h
          · exact hq x h
          · rw [List.mem_singleton.mp h]; simp; omega
theorem chs_due (f : Nat → Option Int) : ∀ n, (prs f n).filter (fun x => !dom (prs f n) x) = chs f n
  | 0 => rfl
  | n + 1 => by
    rw [prs_succ, chs]
    cases hf : f n with
    | none =>
      simp only [List.append_nil]
      exact chs_due f n
    | some b =>
      simp only []
      rw [List.filter_append]
      have h1 : (prs f n).filter (fun x => !dom (prs f n ++ [(n, b)]) x) = chs f n := by
        rw [← chs_due f n]
        refine List.filter_congr fun x hx => ?_
        have := prs_lt hx
        unfold dom
        rw [List.any_append]
        have : ([(n, b)].any fun y => decide (y ≠ x) && (decide (y.1 ≤ x.1) && decide (y.2 ≤ x.2))) = false := by
          simp; omega
        rw [this, Bool.or_false]
      rw [h1]
      have h2 : dom (prs f n ++ [(n, b)]) (n, b) = (prs f n).any fun y => decide (y.2 ≤ b) := by
        unfold dom
        rw [List.any_append]
        have : ([(n, b)].any fun y => decide (y ≠ (n, b)) && (decide (y.1 ≤ (n, b).1) && decide (y.2 ≤ (n, b).2))) = false := by simp
        rw [this, Bool.or_false]
        have hc : ∀ y ∈ prs f n, (decide (y ≠ (n, b)) && (decide (y.1 ≤ (n, b).1) && decide (y.2 ≤ (n, b).2))) = decide (y.2 ≤ b) := fun y hy => by
          have h := prs_lt hy
          have h3 : y ≠ (n, b) := fun e => by rw [e] at h; simp at h
          have h4 : y.1 ≤ n := by omega
          simp [h3, h4]
        rw [Bool.eq_iff_iff, List.any_eq_true, List.any_eq_true]
        exact ⟨fun ⟨y, hy, h⟩ => ⟨y, hy, by rw [← hc y hy]; exact h⟩, fun ⟨y, hy, h⟩ => ⟨y, hy, by rw [hc y hy]; exact h⟩⟩
      rw [List.filter_cons, h2, List.filter_nil]
      rcases chs_last f n with ⟨e, h⟩ | ⟨q, e, hm, hq⟩
      · rw [e, h]; rfl
      · rw [e]
        by_cases hb : b < q.2
        · have : (prs f n).any (fun y => decide (y.2 ≤ b)) = false := by
            rw [List.any_eq_false]
            intro y hy
            have := hq y hy
            simp; omega
          rw [this]
          simp [hb]
        · have : (prs f n).any (fun y => decide (y.2 ≤ b)) = true := List.any_eq_true.mpr ⟨q, hm, by simp; omega⟩
          rw [this]
          simp [hb]
theorem prs_len (f : Nat → Option Int) (n : Nat) : (prs f n).length ≤ n := by
  have := List.length_filterMap_le (fun r => (f r).map fun b => (r, b)) (List.range n)
  rw [List.length_range] at this
  exact this
theorem chs_len (f : Nat → Option Int) (n : Nat) : (chs f n).length ≤ n := by
  rw [← chs_due]
  exact Nat.le_trans (List.length_filter_le _ _) (prs_len f n)
theorem prD_plain (l : List (Nat × Int)) : PyData.plainAll (l.map prD) = true ∧ PyData.depthAll (l.map prD) ≤ 1 := by
  refine ⟨plainAll_of fun x hx => ?_, depthAll_of fun x hx => ?_⟩
  · obtain ⟨p, _, rfl⟩ := List.mem_map.mp hx; rfl
  · obtain ⟨p, _, rfl⟩ := List.mem_map.mp hx; simp [prD, PyData.depth, PyData.depthAll]
theorem choices_ok {L : Nat} (hL : L ≤ 12) : d_choices [.int L, coD c0 c1 c2] ω = some (.tuple ((chs (fun r => F c0 c1 c2 L r L) (L + 1)).map prD), ω) := by
  obtain ⟨x', e⟩ := loop_sh (β := SV × SV) (g := gSet 3) (ω := ω) (f := l_choices_1) natD (fun pre (x : SV × SV) => [.val (.int L), .val (coD c0 c1 c2), .own ((chs (fun r => F c0 c1 c2 L r L) pre.length).map prD), x.1, x.2]) (List.range (L + 1)) (.un, .un) (fun pre k suf x hk => by
    have hlen := congrArg List.length hk
    rw [List.length_range, List.length_append, List.length_cons] at hlen
    have hkk : k = pre.length := by
      have : (List.range (L + 1))[pre.length]? = some k := by rw [hk]; simp
      rw [List.getElem?_range (by omega)] at this
      exact (Option.some.inj this).symm
    subst hkk
    rw [List.length_append, List.length_singleton]
    have hcl := chs_len (fun r => F c0 c1 c2 L r L) pre.length
    have hpd := prD_plain (chs (fun r => F c0 c1 c2 L r L) pre.length)
    have hb := best_ok (c0 := c0) (c1 := c1) (c2 := c2) (ω := ω0) (L := L) (R := pre.length) (by omega) (by omega)
    refine ⟨_, rfl, (.val (natD pre.length), .val (bestV c0 c1 c2 L pre.length)), ?_⟩
    unfold l_choices_1
    refine x_set (d := bestV c0 c1 c2 L pre.length) (x_fnP rfl hb) ?_
    rw [chs_succ]
    unfold bestV
    cases hF : F c0 c1 c2 L pre.length L with
    | none =>
      simp only []
      exact x_ifF (by simp) rfl
    | some w =>
      simp only []
      have hq : opEq (.list ((chs (fun r => F c0 c1 c2 L r L) pre.length).map prD)) (.list []) = some (.bool (chs (fun r => F c0 c1 c2 L r L) pre.length).isEmpty) := by
        rw [opEq_nil hpd.1 (by omega), List.isEmpty_map]
      have hcond : (tAndD (tOfE (eBin opNotN (eVar 4) (eC .none))) (tOrD (tOfE (eBin opEq (eVarB 2) (eLst aNil))) (tOfE (eBin opLt (eBin opIx (eVar 4) (eC (.int 0))) (eBin opIx (eIxOwn 2 (eUn opNeg (eC (.int 1)))) (eC (.int 1)))))))
          [.val (.int L), .val (coD c0 c1 c2), .own ((chs (fun r => F c0 c1 c2 L r L) pre.length).map prD), .val (natD pre.length), .val (.tuple [.int w, plD (gre c0 c1 c2 L pre.length L w)])] ω = some ((match (chs (fun r => F c0 c1 c2 L r L) pre.length).getLast? with | none => true | some q => decide (w < q.2)), ω) := by
        cases hl : (chs (fun r => F c0 c1 c2 L r L) pre.length).getLast? with
        | none =>
          have h0 := List.getLast?_eq_none_iff.mp hl
          rw [h0] at hq ⊢
          simp only [List.map_nil, List.isEmpty_nil] at hq
          simp [hq]
        | some q =>
          obtain ⟨ys, h0⟩ := List.getLast?_eq_some_iff.mp hl
          rw [h0] at hq ⊢
          have ha : atI ((ys ++ [q]).map prD) (-1) = some (prD q) := by rw [List.map_append]; exact atI_last _ _
          have hne : (ys ++ [q]).isEmpty = false := by cases ys <;> rfl
          rw [hne] at hq
          simp only [tAndD_ap, tOfE_ap, eBin_ap, eVar_ap, List.getElem?_cons_succ, List.getElem?_cons_zero, eC_ap, opNotN_none, isNon_tup, Bool.not_false, if_true, tOrD_ap, eVarB_ap, eLst_ap, aNil_ap, hq, Bool.false_eq_true, if_false, opIx_tup0, eIxOwn_ap, eUn_ap, opNeg_int, ha, opIx_tup1, prD, opLt_int]
      by_cases hc : (match (chs (fun r => F c0 c1 c2 L r L) pre.length).getLast? with | none => true | some q => decide (w < q.2)) = true
      · rw [if_pos hc, List.map_append]
        refine x_ifT (hcond.trans (by rw [hc])) (x_app1 (d := prD (pre.length, w)) ?_ rfl (by rw [List.length_map]; omega))
        simp [prD]
      · rw [if_neg hc]
        exact x_ifF (hcond.trans (by rw [Bool.not_eq_true] at hc; rw [hc])) rfl)
  refine x_fn (x_own (ds := []) rfl (x_for (x_rng (n := L + 1) (by simp) (by omega)) e (x_ret ?_)))
  simp
/-! ## is_plan -/
theorem num_ok {d : Nat} (h1 : 1 ≤ d) (h4 : d ≤ 4) : d_is_number [.int d, .int 1, .int 4] ω = some (.bool true, ω) := by
  have a : (1 : Int) ≤ d := by omega
  have b : (d : Int) ≤ 4 := by omega
  simp [d_is_number, defD, b_is_number, a, b]
end G_k34
end

section
namespace G_k34
open PySem PySem.Spec L2 Dn P34
local instance : Tb := noTb
variable {c0 c1 c2 : Int} {ω : Wd}
def numP : D → Bool
  | .int i => decide (1 ≤ i) && decide (i ≤ 4)
  | _ => false
theorem num_ok' {x : D} (h : notOb x = true) : d_is_number [x, .int 1, .int 4] ω = some (.bool (numP x), ω) := by
  cases x with
  | dict kvs => simp [notOb] at h
  | int i =>
    by_cases h1 : (1 : Int) ≤ i <;> by_cases h2 : i ≤ (4 : Int) <;> simp [d_is_number, defD, b_is_number, numP, h1, h2]
  | _ => simp [d_is_number, defD, b_is_number, numP]
theorem isplan_all {xs : List D} {m : Int} (hx : ∀ x ∈ xs, notOb x = true) : d_is_plan [.tuple xs, .int m] ω = if xs.all numP = true then (match opEq (.int (match intsOf xs with | some ns => ns.sum | none => 0)) (.int m) with | some d => some (d, ω) | none => none) else some (.bool false, ω) := by
  have hg : (eGenN false (iSq (eVar 0)) (gSet 2) tYesD (eFunP d_is_number (aCons (eVar 2) (aCons (eC (.int 1)) (aCons (eC (.int 4)) aNil)))) [2]) [.val (.tuple xs), .val (.int m), .un] ω = some (.bool (xs.all numP), ω) := by
    refine x_gen (ds := xs) rfl (allD_of numP xs fun x h => ⟨_, rfl, rfl, ?_⟩)
    simp [wipeR, num_ok' (hx x h)]
  cases ha : xs.all numP with
  | false =>
    rw [ha] at hg
    simp only [Bool.false_eq_true, if_false]
    refine x_fn (x_end (x_ifT ?_ (x_ret rfl)))
    simp only [List.map_cons, List.map_nil, List.length_cons, List.length_nil, List.replicate, List.cons_append, List.nil_append, tOrD_ap, tNotD_ap, tOfE_ap, eUn_ap, eVar_ap, List.getElem?_cons_zero, opIsi_tup, hg]
    rfl
  | true =>
    rw [ha] at hg
    simp only [if_true]
    have hi : ∃ ns : List Int, xs = ns.map .int := by
      clear hg hx
      induction xs with
      | nil => exact ⟨[], rfl⟩
      | cons x xs ih =>
        rw [List.all_cons, Bool.and_eq_true] at ha
        obtain ⟨ns, rfl⟩ := ih ha.2
        cases x with
        | int i => exact ⟨i :: ns, rfl⟩
        | _ => simp [numP] at ha
    obtain ⟨ns, rfl⟩ := hi
    rw [intsOf_map', opEq_intS]
    refine x_fn (x_seq (x_ifF ?_ rfl) (x_ret ?_))
    · simp only [List.map_cons, List.map_nil, List.length_cons, List.length_nil, List.replicate, List.cons_append, List.nil_append, tOrD_ap, tNotD_ap, tOfE_ap, eUn_ap, eVar_ap, List.getElem?_cons_zero, opIsi_tup, hg]
      rfl
    · have := opSum_tup ns
      simp [this]
/-! ## accepted floors -/
def isCell : D → Bool
  | .none => true
  | .int _ => true
  | _ => false
def rowP (L : Nat) : D → Bool
  | .tuple cs => decide (cs.length = L + 1) && cs.all isCell
  | _ => false
def valP (L R : Nat) : D → Bool
  | .tuple vs => decide (vs.length = R + 1) && vs.all (rowP L)
  | _ => false
def below (o : Option Int) (bs : List (Option Int)) : Bool := match leastO bs with
  | none => true
  | some b => match o with
    | none => false
    | some v => decide (v ≤ b)
def accB (c0 c1 c2 : Int) (L R : Nat) (rows : List (List (Option Int))) : Bool := below ((rows.getD 0 []).getD 0 none) [some c2] && (List.range R).all fun r => (List.range (L + 1)).all fun l => below ((rows.getD (r + 1) []).getD l none) (bnds c0 c1 c2 (rows.getD r []) l)
theorem whole_ok {x : D} (h : notOb x = true) : d_is_whole [x] ω = some (.bool (isCell x && !isNon x), ω) := by
  cases x with
  | dict kvs => simp [notOb] at h
  | _ => simp [d_is_whole, defD, b_is_whole, isCell]
theorem row_ok {L : Nat} {v : D} (h : okD v = true) : d_is_floor_row [v, .int L] ω = some (.bool (rowP L v), ω) := by
  cases v with
  | dict kvs => simp [okD] at h
  | tuple cs =>
    simp [okD] at h
    by_cases hl : cs.length = L + 1
    · have hg : (eGenN false (iSq (eVar 0)) (gSet 2) tYesD (eOr (eBin opIsN (eVar 2) (eC .none)) (eFunP d_is_whole (aCons (eVar 2) aNil))) [2]) [.val (.tuple cs), .val (.int L), .un] ω = some (.bool (cs.all isCell), ω) := by
        refine x_gen (ds := cs) rfl (allD_of isCell cs fun x hx => ⟨_, rfl, rfl, ?_⟩)
        have hn : notOb x = true := by
          have := okL_mem h.2 hx
          cases x <;> first | rfl | simp [okD] at this
        have := whole_ok (ω := ω0) hn
        cases x with
        | dict _ => simp [notOb] at hn
        | _ => simp [wipeR, this, isCell]
      refine x_fn (x_seq (x_ifF ?_ rfl) (x_ret (hg.trans ?_)))
      · simp [hl]
      · simp [rowP, hl]
    · have : ¬ ((cs.length : Int) = (L : Int) + 1) := by omega
      refine x_fn (x_end (x_ifT ?_ (x_ret (d := .bool (rowP L (.tuple cs))) ?_)))
      · simp [this]
      · simp [rowP, hl]
  | _ => simp [d_is_floor_row, defD, b_is_floor_row, rowP]
theorem below_ok {o : Option Int} {bs : List (Option Int)} : d_is_below [oD o, .list (bs.map oD)] ω = some (.bool (below o bs), ω) := by
  have h := least_ok (ω := ω0) bs
  refine x_fn (x_set (d := oD (leastO bs)) (x_fnP rfl h) (x_ret ?_))
  unfold below
  cases leastO bs with
  | none => simp [oD]
  | some b => cases o <;> simp [oD]
theorem leastO_congr {l m : List (Option Int)} (h : l.filterMap id = m.filterMap id) : leastO l = leastO m := by
  rcases leastO_known (l := l) with ⟨e1, h1⟩ | ⟨v, e1, h1, k1⟩ <;> rcases leastO_known (l := m) with ⟨e2, h2⟩ | ⟨w, e2, h2, k2⟩
  · rw [e1, e2]
  · rw [← h, h1] at h2; cases h2
  · rw [h, h2] at h1; cases h1
  · rw [← h] at h2 k2
    have a := k1 w h2
    have b := k2 v h1
    rw [e1, e2, show v = w from by omega]
theorem atmost_ok {o : Option Int} {bs : List (Option Int)} : d__law_at_most [oD o, .list (bs.map oD)] ω = some (.bool (below o bs), ω) := by
  refine x_fn (x_set (d := .list ((bs.filterMap id).map .int)) (x_ofN (x_lc (ds := bs.map oD) rfl (by rw [← known_eq]; exact lcD_of oD (fun o => o.isSome) oD bs fun o ho => ⟨_, rfl, by cases o <;> simp [oD, wipeR], fun _ => rfl⟩))) (x_ret ?_))
  · unfold below
    rcases leastO_known (l := bs) with ⟨e1, h1⟩ | ⟨v, e1, h1, k1⟩
    · rw [e1, h1]
      have := opEq_ints []
      simp at this
      simp [this]
    · rw [e1]
      have := opEq_ints (bs.filterMap id)
      have hb := opBest_ints h1 k1
      have hn : (bs.filterMap id).isEmpty = false := by
        cases h : bs.filterMap id with
        | nil => rw [h] at h1; cases h1
        | cons => rfl
      rw [hn] at this
      cases o with
      | none => simp [oD, this]
      | some u =>
        simp only [eOr_ap, eBin_ap, eVar_ap, List.set_cons_succ, List.set_cons_zero, List.map_cons, List.map_nil, List.length_cons, List.length_nil, List.replicate, List.cons_append, List.nil_append, List.getElem?_cons_succ, List.getElem?_cons_zero, eLst_ap, aNil_ap, this, Bool.false_eq_true, if_false, eAnd_ap, eC_ap, opNotN_none, oD, isNon_int, Bool.not_false, if_true, eCall_ap, aCons_ap, hb, opLe_int]
end G_k34
end

section
namespace G_k34
open PySem PySem.Spec L2 Dn P34
local instance : Tb := noTb
variable {c0 c1 c2 : Int} {ω : Wd}
def cellO : D → Option Int
  | .int i => some i
  | _ => none
def rowO : D → List (Option Int)
  | .tuple cs => cs.map cellO
  | _ => []
def rowsOf : D → List (List (Option Int))
  | .tuple vs => vs.map rowO
  | _ => []
theorem row_form {L : Nat} {v : D} (h : rowP L v = true) : v = rowD (rowO v) ∧ (rowO v).length = L + 1 := by
  cases v with
  | tuple cs =>
    simp only [rowP, Bool.and_eq_true, decide_eq_true_eq] at h
    refine ⟨?_, by simp [rowO, h.1]⟩
    simp only [rowO, rowD, List.map_map]
    congr 1
    have h2 := List.all_eq_true.mp h.2
    conv => lhs; rw [← List.map_id cs]
    refine List.map_congr_left fun c hc => ?_
    have := h2 c hc
    cases c <;> simp [isCell] at this <;> rfl
  | _ => simp [rowP] at h
theorem val_form {L R : Nat} {v : D} (h : valP L R v = true) : v = .tuple ((rowsOf v).map rowD) ∧ (rowsOf v).length = R + 1 ∧ ∀ row ∈ rowsOf v, row.length = L + 1 := by
  cases v with
  | tuple vs =>
    simp only [valP, Bool.and_eq_true, decide_eq_true_eq] at h
    have h2 := List.all_eq_true.mp h.2
    refine ⟨?_, by simp [rowsOf, h.1], fun row hr => ?_⟩
    · simp only [rowsOf, List.map_map]
      congr 1
      conv => lhs; rw [← List.map_id vs]
      exact List.map_congr_left fun c hc => (row_form (h2 c hc)).1
    · obtain ⟨w, hw, rfl⟩ := List.mem_map.mp hr
      exact (row_form (h2 w hw)).2
  | _ => simp [valP] at h
theorem rows_ix {rows : List (List (Option Int))} {r : Nat} (h : r < rows.length) : opIx (.tuple (rows.map rowD)) (.int (r : Int)) = some (rowD (rows.getD r [])) := by
  rw [opIx_tupN, List.getElem?_map, List.getElem?_eq_getElem h, List.getD_eq_getElem?_getD, List.getElem?_eq_getElem h]; rfl
theorem cell_ix {row : List (Option Int)} {l : Nat} (h : l < row.length) : opIx (rowD row) (.int (l : Int)) = some (oD (row.getD l none)) := by
  unfold rowD
  rw [opIx_tupN, List.getElem?_map, List.getElem?_eq_getElem h, List.getD_eq_getElem?_getD, List.getElem?_eq_getElem h]; rfl
theorem getD_len {rows : List (List (Option Int))} {L r : Nat} (h : ∀ row ∈ rows, row.length = L + 1) (hr : r < rows.length) : (rows.getD r []).length = L + 1 := by
  rw [List.getD_eq_getElem?_getD, List.getElem?_eq_getElem hr]
  exact h _ (List.getElem_mem hr)
def accV (c0 c1 c2 : Int) (L R : Nat) (v : D) : Bool := valP L R v && accB c0 c1 c2 L R (rowsOf v)
/-- two loops, one in the other, that look at each place -/
theorem two_loops {g1 g2 : DG} {f1 f2 : DS} {it : DA} {sh : SV → SV → SV → Ro} {p : Nat → Nat → Bool} {R M : Nat}
    (e1 : ∀ r x y z, g1 (natD r) (sh x y z) = some (sh (.val (natD r)) y z)) (e2 : ∀ l x y z, g2 (natD l) (sh x y z) = some (sh x (.val (natD l)) z))
    (hi : ∀ x y z, it (sh x y z) ω = some ((List.range M).map natD, ω))
    (hb : ∀ r l z, r < R → l < M → (p r l = true ∧ ∃ z', f2 (sh (.val (natD r)) (.val (natD l)) z) ω = some (.nx (sh (.val (natD r)) (.val (natD l)) z'), ω)) ∨ (p r l = false ∧ f2 (sh (.val (natD r)) (.val (natD l)) z) ω = some (.rt (.bool false), ω)))
    (hf : f1 = sFor it g2 f2) (x y z : SV) :
    (((List.range R).all fun r => (List.range M).all fun l => p r l) = true ∧ ∃ ρ', loopD g1 f1 ((List.range R).map natD) (sh x y z) ω = some (.nx ρ', ω) ∧ ∃ x' y' z', ρ' = sh x' y' z') ∨ (((List.range R).all fun r => (List.range M).all fun l => p r l) = false ∧ loopD g1 f1 ((List.range R).map natD) (sh x y z) ω = some (.rt (.bool false), ω)) := by
  subst hf
  refine loop_all natD (fun r => (List.range M).all fun l => p r l) (fun ρ => ∃ x' y' z', ρ = sh x' y' z') (List.range R) (sh x y z) ⟨x, y, z, rfl⟩ fun r ρ hr hI => ?_
  obtain ⟨x', y', z', rfl⟩ := hI
  have hr := List.mem_range.mp hr
  refine ⟨_, e1 r x' y' z', ?_⟩
  rcases loop_all (g := g2) (f := f2) (ω := ω) (d := .bool false) natD (fun l => p r l) (fun ρ => ∃ y' z', ρ = sh (.val (natD r)) y' z') (List.range M) (sh (.val (natD r)) y' z') ⟨y', z', rfl⟩ fun l ρ hl hI => by
      obtain ⟨y2, z2, rfl⟩ := hI
      have hl := List.mem_range.mp hl
      refine ⟨_, e2 l _ y2 z2, ?_⟩
      rcases hb r l z2 hr hl with ⟨h1, z3, h2⟩ | h
      · exact .inl ⟨h1, _, h2, _, _, rfl⟩
      · exact .inr h
    with ⟨h1, ρ', h2, y2, z2, rfl⟩ | ⟨h1, h2⟩
  · exact .inl ⟨h1, _, x_for1 (hi _ _ _) h2, _, _, _, rfl⟩
  · exact .inr ⟨h1, x_for1 (hi _ _ _) h2⟩
theorem accepts_ok {L R : Nat} {v : D} (hL : L ≤ 20) (hR : R ≤ 20) (h : okD v = true) : d_accepts_floors [.int L, .int R, coD c0 c1 c2, v] ω = some (.bool (accV c0 c1 c2 L R v), ω) := by
  have hform : (tOrD (tNotD (tOfE (eUn (opIsi "tuple") (eVar 3)))) (tOrD (tOfE (eBin opNe (eCall opLen (aCons (eVar 3) aNil)) (eBin opAdd (eVar 1) (eC (.int 1))))) (tNotD (tOfE (eGenN false (iSq (eVar 3)) (gSet 6) tYesD (eFunP d_is_floor_row (aCons (eVar 6) (aCons (eVar 0) aNil))) [6])))))
      [.val (.int L), .val (.int R), .val (coD c0 c1 c2), .val v, .un, .un, .un] ω = some (!valP L R v, ω) := by
    cases v with
    | dict kvs => simp [okD] at h
    | tuple vs =>
      simp [okD] at h
      have hg : (eGenN false (iSq (eVar 3)) (gSet 6) tYesD (eFunP d_is_floor_row (aCons (eVar 6) (aCons (eVar 0) aNil))) [6]) [.val (.int L), .val (.int R), .val (coD c0 c1 c2), .val (.tuple vs), .un, .un, .un] ω = some (.bool (vs.all (rowP L)), ω) := by
        refine x_gen (ds := vs) rfl (allD_of (rowP L) vs fun x hx => ⟨_, rfl, rfl, ?_⟩)
        have := row_ok (L := L) (ω := ω0) (okL_mem h.2 hx)
        simp [wipeR, this]
      by_cases hl : vs.length = R + 1
      · have : (vs.length : Int) = (R : Int) + 1 := by omega
        simp only [tOrD_ap, tNotD_ap, tOfE_ap, eUn_ap, eVar_ap, List.getElem?_cons_succ, List.getElem?_cons_zero, opIsi_tup, hg, eBin_ap, eCall_ap, aCons_ap, aNil_ap, opLen_tup, eC_ap, opAdd_int, opNe_intS, this, valP, hl]
        simp
      · have : ¬ ((vs.length : Int) = (R : Int) + 1) := by omega
        simp only [tOrD_ap, tNotD_ap, tOfE_ap, eUn_ap, eVar_ap, List.getElem?_cons_succ, List.getElem?_cons_zero, opIsi_tup, hg, eBin_ap, eCall_ap, aCons_ap, aNil_ap, opLen_tup, eC_ap, opAdd_int, opNe_intS, this, valP, hl]
        simp
    | _ => simp [valP]
  unfold accV
  cases hv : valP L R v with
  | false =>
    rw [hv] at hform
    exact x_fn (x_end (x_ifT hform (x_ret rfl)))
  | true =>
    rw [hv] at hform
    obtain ⟨e, hn, hl⟩ := val_form hv
    have h00 := rows_ix (rows := rowsOf v) (r := 0) (by omega)
    have hb0 := below_ok (ω := ω0) (o := ((rowsOf v).getD 0 []).getD 0 none) (bs := [some c2])
    have hc0 := cell_ix (row := (rowsOf v).getD 0 []) (l := 0) (by rw [getD_len hl (by omega)]; omega)
    rw [← e] at h00
    have hif : (tNotD (tOfE (eFunP d_is_below (aCons (eBin opIx (eBin opIx (eVar 3) (eC (.int 0))) (eC (.int 0))) (aCons (eLst (aCons (eBin opIx (eVar 2) (eC (.int 2))) aNil)) aNil))))) [.val (.int L), .val (.int R), .val (coD c0 c1 c2), .val v, .un, .un, .un] ω = some (!below (((rowsOf v).getD 0 []).getD 0 none) [some c2], ω) := by
      have h00' : opIx v (.int 0) = _ := h00
      have hc0' : opIx _ (.int 0) = _ := hc0
      have h2 : opIx (coD c0 c1 c2) (.int 2) = some (.int c2) := rfl
      have hb0' : d_is_below [oD (((rowsOf v).getD 0 []).getD 0 none), .list [.int c2]] ω0 = _ := hb0
      simp only [tNotD_ap, tOfE_ap, eFunP_ap, aCons_ap, eBin_ap, eVar_ap, List.getElem?_cons_succ, List.getElem?_cons_zero, eC_ap, h00', hc0', h2, eLst_ap, aNil_ap, hb0']
    unfold accB
    cases hb : below (((rowsOf v).getD 0 []).getD 0 none) [some c2] with
    | false =>
      rw [hb] at hif
      exact x_fn (x_seq (x_ifF hform rfl) (x_end (x_ifT hif (x_ret rfl))))
    | true =>
      rw [hb] at hif
      rw [Bool.true_and, Bool.true_and]
      have T := two_loops (ω := ω) (g1 := gSet 4) (g2 := gSet 5) (f1 := l_accepts_floors_2) (f2 := l_accepts_floors_1) (it := iRange (aCons (eBin opAdd (eVar 0) (eC (.int 1))) aNil)) (sh := fun x y z => [.val (.int L), .val (.int R), .val (coD c0 c1 c2), .val v, x, y, z])
        (p := fun r l => below (((rowsOf v).getD (r + 1) []).getD l none) (bnds c0 c1 c2 ((rowsOf v).getD r []) l)) (R := R) (M := L + 1) (fun _ _ _ _ => rfl) (fun _ _ _ _ => rfl) (fun x y z => x_rng (n := L + 1) (by simp) (by omega)) (fun r l z hr hl' => by
          have a1 := rows_ix (rows := rowsOf v) (r := r) (by omega)
          have a2 := rows_ix (rows := rowsOf v) (r := r + 1) (by omega)
          rw [← e] at a1 a2
          have l1 := getD_len (r := r) hl (by omega)
          have l2 := getD_len (r := r + 1) hl (by omega)
          have a3 := cell_ix (row := (rowsOf v).getD (r + 1) []) (l := l) (by omega)
          have a4 := bounds_ok (c0 := c0) (c1 := c1) (c2 := c2) (ω := ω0) (row := (rowsOf v).getD r []) (l := l) (by omega) (by omega)
          have a5 := below_ok (ω := ω0) (o := ((rowsOf v).getD (r + 1) []).getD l none) (bs := bnds c0 c1 c2 ((rowsOf v).getD r []) l)
          have a2' : opIx v (.int ((r : Int) + 1)) = _ := a2
          have hc : (tNotD (tOfE (eFunP d_is_below (aCons (eBin opIx (eBin opIx (eVar 3) (eBin opAdd (eVar 4) (eC (.int 1)))) (eVar 5)) (aCons (eFunP d_bounds_for (aCons (eBin opIx (eVar 3) (eVar 4)) (aCons (eVar 5) (aCons (eVar 2) aNil)))) aNil))))) [.val (.int L), .val (.int R), .val (coD c0 c1 c2), .val v, .val (natD r), .val (natD l), z] ω = some (!below (((rowsOf v).getD (r + 1) []).getD l none) (bnds c0 c1 c2 ((rowsOf v).getD r []) l), ω) := by
            simp only [tNotD_ap, tOfE_ap, eFunP_ap, aCons_ap, eBin_ap, eVar_ap, List.getElem?_cons_succ, List.getElem?_cons_zero, eC_ap, natD, opAdd_int, a1, a2', a3, aNil_ap, a4, a5]
          cases hp : below (((rowsOf v).getD (r + 1) []).getD l none) (bnds c0 c1 c2 ((rowsOf v).getD r []) l) with
          | true => exact .inl ⟨rfl, z, x_ifF (hc.trans (by rw [hp]; rfl)) rfl⟩
          | false => exact .inr ⟨rfl, x_ifT (hc.trans (by rw [hp]; rfl)) (x_ret rfl)⟩) rfl .un .un .un
      refine x_fn (x_seq (x_ifF hform rfl) (x_seq (x_ifF hif rfl) ?_))
      rcases T with ⟨t1, ρ', t2, x', y', z', rfl⟩ | ⟨t1, t2⟩
      · rw [t1]; exact x_for (x_rng (n := R) rfl (by omega)) t2 (x_ret rfl)
      · rw [t1]; exact x_end (x_for1 (x_rng (n := R) rfl (by omega)) t2)
end G_k34
end

section
namespace G_k34
open PySem PySem.Spec L2 Dn P34
local instance : Tb := noTb
variable {c0 c1 c2 : Int} {ω : Wd}
def lbnds (c0 c1 c2 : Int) (row : List (Option Int)) (l : Nat) : List (Option Int) := (row.getD l none :: (if l = 0 then [some c2] else [])) ++ (List.range (min 4 l)).map fun k => (row.getD (l - (k + 1)) none).map fun u => rc c0 c1 (k + 1) + u
theorem lbnds_eq {row : List (Option Int)} {l : Nat} : leastO (lbnds c0 c1 c2 row l) = leastO (bnds c0 c1 c2 row l) := by
  refine leastO_congr ?_
  unfold lbnds bnds
  rw [Nat.min_comm 4 l]
  rw [List.filterMap_append, List.cons_append, ← List.cons_append, List.filterMap_append]
  congr 1
  rw [List.filterMap_map, List.filterMap_filterMap]
  refine congrFun (congrArg _ (funext fun k => ?_)) _
  show Option.map _ (row.getD (l - (k + 1)) none) = _
  cases row.getD (l - (k + 1)) none <;> rfl
theorem lrow_cond {L : Nat} {v x3 : D} (h : okD v = true) {a b c d e f : SV} : (tOrD (tNotD (tOfE (eUn (opIsi "tuple") (eVar 4)))) (tOrD (tOfE (eBin opNe (eCall opLen (aCons (eVar 4) aNil)) (eBin opAdd (eVar 0) (eC (.int 1))))) (tNotD (tOfE (eCall opAll (aCons (eOfN (eLcN (iSq (eVar 4)) (gSet 8) tYesD (eOr (eBin opIsN (eVar 8) (eC .none)) (eAnd (eUn (opIsi "int") (eVar 8)) (eNot (eUn (opIsi "bool") (eVar 8))))) [8])) aNil))))))
    [.val (.int L), a, b, .val x3, .val v, c, d, e, f, .un] ω = some (!rowP L v, ω) := by
  cases v with
  | dict kvs => simp [okD] at h
  | tuple cs =>
    simp [okD] at h
    have hg : (eOfN (eLcN (iSq (eVar 4)) (gSet 8) tYesD (eOr (eBin opIsN (eVar 8) (eC .none)) (eAnd (eUn (opIsi "int") (eVar 8)) (eNot (eUn (opIsi "bool") (eVar 8))))) [8])) [.val (.int L), a, b, .val x3, .val (.tuple cs), c, d, e, f, .un] ω = some (.list ((cs.map isCell).map .bool), ω) := by
      refine x_ofN (x_lc (ds := cs) rfl ?_)
      have := lcD_map (fg := gSet 8) (ft := tYesD) (fe := (eOr (eBin opIsN (eVar 8) (eC .none)) (eAnd (eUn (opIsi "int") (eVar 8)) (eNot (eUn (opIsi "bool") (eVar 8)))))) (ω := ω) (ρ := wipeR [.val (.int L), a, b, .val x3, .val (.tuple cs), c, d, e, f, .un] [8]) id (fun x => .bool (isCell x)) cs fun x hx => ⟨_, rfl, rfl, by
        have hn := okL_mem h.2 hx
        cases x with
        | dict _ => simp [okD] at hn
        | _ => simp [wipeR, isCell]⟩
      rw [List.map_id] at this
      rw [List.map_map]
      exact this
    have ha := opAll_lst (cs.map isCell)
    by_cases hl : cs.length = L + 1
    · have : (cs.length : Int) = (L : Int) + 1 := by omega
      simp only [tOrD_ap, tNotD_ap, tOfE_ap, eUn_ap, eVar_ap, List.getElem?_cons_succ, List.getElem?_cons_zero, opIsi_tup, hg, eBin_ap, eCall_ap, aCons_ap, aNil_ap, opLen_tup, eC_ap, opAdd_int, opNe_intS, this, rowP, hl, ha]
      simp
    · have : ¬ ((cs.length : Int) = (L : Int) + 1) := by omega
      simp only [tOrD_ap, tNotD_ap, tOfE_ap, eUn_ap, eVar_ap, List.getElem?_cons_succ, List.getElem?_cons_zero, opIsi_tup, eBin_ap, eCall_ap, aCons_ap, aNil_ap, opLen_tup, eC_ap, opAdd_int, opNe_intS, this, rowP, hl]
      simp
  | _ => simp [rowP]
def lenT (R : Nat) : D → Bool
  | .tuple vs => decide (vs.length = R + 1)
  | _ => false
theorem laccepted_ok {L R : Nat} {v : D} (hL : L ≤ 20) (hR : R ≤ 20) (h : okD v = true) : d__law_accepted [.int L, .int R, coD c0 c1 c2, v] ω = some (.bool (accV c0 c1 c2 L R v), ω) := by
  have hform : (tOrD (tNotD (tOfE (eUn (opIsi "tuple") (eVar 3)))) (tOfE (eBin opNe (eCall opLen (aCons (eVar 3) aNil)) (eBin opAdd (eVar 1) (eC (.int 1))))))
      [.val (.int L), .val (.int R), .val (coD c0 c1 c2), .val v, .un, .un, .un, .un, .un, .un] ω = some (!lenT R v, ω) := by
    cases v with
    | dict kvs => simp [okD] at h
    | tuple vs =>
      by_cases hl : vs.length = R + 1
      · have : (vs.length : Int) = (R : Int) + 1 := by omega
        simp [this, hl, lenT]
      · have : ¬ ((vs.length : Int) = (R : Int) + 1) := by omega
        simp [this, hl, lenT]
    | _ => simp [lenT]
  unfold accV
  cases hm : lenT R v with
  | false =>
    rw [hm] at hform
    have : valP L R v = false := by
      cases v <;> first | rfl | (simp [lenT] at hm; simp [valP, hm])
    rw [this]
    exact x_fn (x_end (x_ifT hform (x_ret rfl)))
  | true =>
    rw [hm] at hform
    obtain ⟨vs, rfl⟩ : ∃ vs, v = .tuple vs := by
      cases v with
      | tuple vs => exact ⟨vs, rfl⟩
      | _ => cases hm
    simp [lenT] at hm
    have hok := h
    simp [okD] at h
    have hval : valP L R (.tuple vs) = vs.all (rowP L) := by simp [valP, hm]
    refine x_fn (x_seq (x_ifF hform rfl) ?_)
    have A := loop_all (g := gSet 4) (f := l__law_accepted_1) (ω := ω) (d := .bool false) id (rowP L) (fun ρ => ∃ x, ρ = [.val (.int L), .val (.int R), .val (coD c0 c1 c2), .val (.tuple vs), x, .un, .un, .un, .un, .un]) vs [.val (.int L), .val (.int R), .val (coD c0 c1 c2), .val (.tuple vs), .un, .un, .un, .un, .un, .un] ⟨.un, rfl⟩ fun w ρ hw hI => by
      obtain ⟨x, rfl⟩ := hI
      have hc := lrow_cond (L := L) (ω := ω) (x3 := .tuple vs) (okL_mem h.2 hw) (a := .val (.int R)) (b := .val (coD c0 c1 c2)) (c := .un) (d := .un) (e := .un) (f := .un)
      refine ⟨_, rfl, ?_⟩
      cases hp : rowP L w with
      | true => exact .inl ⟨rfl, _, x_ifF (hc.trans (by rw [hp]; rfl)) rfl, _, rfl⟩
      | false => exact .inr ⟨rfl, x_ifT (hc.trans (by rw [hp]; rfl)) (x_ret rfl)⟩
    rw [List.map_id] at A
    rw [hval]
    rcases A with ⟨a1, _, a2, x, rfl⟩ | ⟨a1, a2⟩
    · rw [a1, Bool.true_and]
      have hv : valP L R (.tuple vs) = true := by rw [hval]; exact a1
      refine x_for (ds := vs) rfl a2 ?_
      obtain ⟨e, hn, hl⟩ := val_form hv
      have h00 := rows_ix (rows := rowsOf (.tuple vs)) (r := 0) (by omega)
      have hb0 := atmost_ok (ω := ω0) (o := ((rowsOf (.tuple vs)).getD 0 []).getD 0 none) (bs := [some c2])
      have hc0 := cell_ix (row := (rowsOf (.tuple vs)).getD 0 []) (l := 0) (by rw [getD_len hl (by omega)]; omega)
      rw [← e] at h00
      have hif : (tNotD (tOfE (eFunP d__law_at_most (aCons (eBin opIx (eBin opIx (eVar 3) (eC (.int 0))) (eC (.int 0))) (aCons (eLst (aCons (eBin opIx (eVar 2) (eC (.int 2))) aNil)) aNil))))) [.val (.int L), .val (.int R), .val (coD c0 c1 c2), .val (.tuple vs), x, .un, .un, .un, .un, .un] ω = some (!below (((rowsOf (.tuple vs)).getD 0 []).getD 0 none) [some c2], ω) := by
        have h00' : opIx (.tuple vs) (.int 0) = _ := h00
        have hc0' : opIx _ (.int 0) = _ := hc0
        have h2 : opIx (coD c0 c1 c2) (.int 2) = some (.int c2) := rfl
        have hb0' : d__law_at_most [oD (((rowsOf (.tuple vs)).getD 0 []).getD 0 none), .list [.int c2]] ω0 = _ := hb0
        simp only [tNotD_ap, tOfE_ap, eFunP_ap, aCons_ap, eBin_ap, eVar_ap, List.getElem?_cons_succ, List.getElem?_cons_zero, eC_ap, h00', hc0', h2, eLst_ap, aNil_ap, hb0']
      unfold accB
      cases hb : below (((rowsOf (.tuple vs)).getD 0 []).getD 0 none) [some c2] with
      | false =>
        rw [hb] at hif
        exact x_end (x_ifT hif (x_ret rfl))
      | true =>
        rw [hb] at hif
        rw [Bool.true_and]
        have T := two_loops (ω := ω) (g1 := gSet 5) (g2 := gSet 6) (f1 := l__law_accepted_3) (f2 := l__law_accepted_2) (it := iRange (aCons (eBin opAdd (eVar 0) (eC (.int 1))) aNil)) (sh := fun x1 y z => [.val (.int L), .val (.int R), .val (coD c0 c1 c2), .val (.tuple vs), x, x1, y, z, .un, .un])
          (p := fun r l => below (((rowsOf (.tuple vs)).getD (r + 1) []).getD l none) (bnds c0 c1 c2 ((rowsOf (.tuple vs)).getD r []) l)) (R := R) (M := L + 1) (fun _ _ _ _ => rfl) (fun _ _ _ _ => rfl) (fun x y z => x_rng (n := L + 1) (by simp) (by omega)) (fun r l z hr hl' => by
            have a1 := rows_ix (rows := rowsOf (.tuple vs)) (r := r) (by omega)
            have a2 := rows_ix (rows := rowsOf (.tuple vs)) (r := r + 1) (by omega)
            rw [← e] at a1 a2
            have l1 := getD_len (r := r) hl (by omega)
            have l2 := getD_len (r := r + 1) hl (by omega)
            have a3 := cell_ix (row := (rowsOf (.tuple vs)).getD (r + 1) []) (l := l) (by omega)
            have a3' := fun (m : Nat) (hm : m < L + 1) => cell_ix (row := (rowsOf (.tuple vs)).getD r []) (l := m) (by omega)
            have a5 := atmost_ok (ω := ω0) (o := ((rowsOf (.tuple vs)).getD (r + 1) []).getD l none) (bs := lbnds c0 c1 c2 ((rowsOf (.tuple vs)).getD r []) l)
            have a2' : opIx (.tuple vs) (.int ((r : Int) + 1)) = _ := a2
            have a6 : below (((rowsOf (.tuple vs)).getD (r + 1) []).getD l none) (lbnds c0 c1 c2 ((rowsOf (.tuple vs)).getD r []) l) = below (((rowsOf (.tuple vs)).getD (r + 1) []).getD l none) (bnds c0 c1 c2 ((rowsOf (.tuple vs)).getD r []) l) := by
              unfold below; rw [lbnds_eq]
            rw [a6] at a5
            have s1 : ∀ z, (eBin opAdd (eLst (aCons (eBin opIx (eBin opIx (eVar 3) (eVar 5)) (eVar 6)) aNil)) (eIf (tOfE (eBin opEq (eVar 6) (eC (.int 0)))) (eLst (aCons (eBin opIx (eVar 2) (eC (.int 2))) aNil)) (eLst aNil))) [.val (.int L), .val (.int R), .val (coD c0 c1 c2), .val (.tuple vs), x, .val (natD r), .val (natD l), z, .un, .un] ω = some (.list ((((rowsOf (.tuple vs)).getD r []).getD l none :: (if l = 0 then [some c2] else [])).map oD), ω) := fun z => by
              have h2 : opIx (coD c0 c1 c2) (.int 2) = some (.int c2) := rfl
              by_cases h0 : l = 0
              · subst h0
                have a30 : opIx (rowD ((rowsOf (.tuple vs)).getD r [])) (.int 0) = _ := a3' 0 (by omega)
                simp only [eBin_ap, eLst_ap, aCons_ap, eVar_ap, List.getElem?_cons_succ, List.getElem?_cons_zero, natD, a1, a30, aNil_ap, eIf_ap, tOfE_ap, eC_ap, opEq_intS, Int.natCast_zero, decide_true, if_true, h2]
                rw [opAdd_lst (by simp)]; rfl
              · have : ¬ (l : Int) = 0 := by omega
                simp only [eBin_ap, eLst_ap, aCons_ap, eVar_ap, List.getElem?_cons_succ, List.getElem?_cons_zero, natD, a1, a3' l (by omega), aNil_ap, eIf_ap, tOfE_ap, eC_ap, opEq_intS, this, decide_false, Bool.false_eq_true, if_false, h0]
                rw [opAdd_lst (by simp)]; rfl
            have s2 : ∀ z, (eOfN (eLcN (iRange (aCons (eC (.int 1)) (aCons (eBin opAdd (eCall opMin2 (aCons (eC (.int 4)) (aCons (eVar 6) aNil))) (eC (.int 1))) aNil))) (gSet 9) tYesD (eIf (tOfE (eBin opIsN (eBin opIx (eBin opIx (eVar 3) (eVar 5)) (eBin opSub (eVar 6) (eVar 9))) (eC .none))) (eC .none) (eBin opAdd (eFunP d__law_round (aCons (eVar 9) (aCons (eVar 2) aNil))) (eBin opIx (eBin opIx (eVar 3) (eVar 5)) (eBin opSub (eVar 6) (eVar 9))))) [9])) [.val (.int L), .val (.int R), .val (coD c0 c1 c2), .val (.tuple vs), x, .val (natD r), .val (natD l), z, .un, .un] ω = some (.list (((List.range (min 4 l)).map fun k => (((rowsOf (.tuple vs)).getD r []).getD (l - (k + 1)) none).map fun u => rc c0 c1 (k + 1) + u).map oD), ω) := fun z => by
              refine x_ofN (x_lc (x_rng1 (a := 1) (n := min 4 l) rfl ?_ (by omega)) ?_)
              · have : min 4 (l : Int) + 1 = ((1 + min 4 l : Nat) : Int) := by omega
                simp only [eBin_ap, eCall_ap, aCons_ap, eC_ap, eVar_ap, List.getElem?_cons_succ, List.getElem?_cons_zero, aNil_ap, natD, opMin2_int, opAdd_int, this]
              · rw [List.map_map]
                refine lcD_map _ _ _ fun k hk => ⟨_, rfl, rfl, ?_⟩
                have hk := List.mem_range.mp hk
                have es : (l : Int) - ((1 + k : Nat) : Int) = ((l - (k + 1) : Nat) : Int) := by omega
                have hr := lround_ok (c0 := c0) (c1 := c1) (c2 := c2) (ω := ω0) (d := 1 + k) (by omega)
                have a7 := a3' (l - (k + 1)) (by omega)
                simp only [wipeR, List.set_cons_succ, List.set_cons_zero, eIf_ap, tOfE_ap, eBin_ap, eVar_ap, List.getElem?_cons_succ, List.getElem?_cons_zero, natD, a1, opSub_int, es, a7, eC_ap, opIsN_none, isNon_oD, eFunP_ap, aCons_ap, aNil_ap, hr, Function.comp]
                cases ((rowsOf (.tuple vs)).getD r []).getD (l - (k + 1)) none with
                | none => rfl
                | some u => simp [oD, Nat.add_comm 1 k]
            have hc : (tNotD (tOfE (eFunP d__law_at_most (aCons (eBin opIx (eBin opIx (eVar 3) (eBin opAdd (eVar 5) (eC (.int 1)))) (eVar 6)) (aCons (eVar 7) aNil))))) [.val (.int L), .val (.int R), .val (coD c0 c1 c2), .val (.tuple vs), x, .val (natD r), .val (natD l), .val (.list ((lbnds c0 c1 c2 ((rowsOf (.tuple vs)).getD r []) l).map oD)), .un, .un] ω = some (!below (((rowsOf (.tuple vs)).getD (r + 1) []).getD l none) (bnds c0 c1 c2 ((rowsOf (.tuple vs)).getD r []) l), ω) := by
              simp only [tNotD_ap, tOfE_ap, eFunP_ap, aCons_ap, eBin_ap, eVar_ap, List.getElem?_cons_succ, List.getElem?_cons_zero, eC_ap, natD, opAdd_int, a2', a3, aNil_ap, a5]
            have run : ∀ o, sIf (tNotD (tOfE (eFunP d__law_at_most (aCons (eBin opIx (eBin opIx (eVar 3) (eBin opAdd (eVar 5) (eC (.int 1)))) (eVar 6)) (aCons (eVar 7) aNil))))) (sRet (eC (.bool false))) sNext [.val (.int L), .val (.int R), .val (coD c0 c1 c2), .val (.tuple vs), x, .val (natD r), .val (natD l), .val (.list ((lbnds c0 c1 c2 ((rowsOf (.tuple vs)).getD r []) l).map oD)), .un, .un] ω = o → l__law_accepted_2 [.val (.int L), .val (.int R), .val (coD c0 c1 c2), .val (.tuple vs), x, .val (natD r), .val (natD l), z, .un, .un] ω = o := fun o ho => by
              unfold l__law_accepted_2
              refine x_set (s1 z) (x_set (x_bin rfl (s2 _) (opAdd_lst (by simp; split <;> simp <;> omega))) ?_)
              rw [← List.map_append]
              exact ho
            cases hp : below (((rowsOf (.tuple vs)).getD (r + 1) []).getD l none) (bnds c0 c1 c2 ((rowsOf (.tuple vs)).getD r []) l) with
            | true => exact .inl ⟨rfl, _, run _ (x_ifF (hc.trans (by rw [hp]; rfl)) rfl)⟩
            | false => exact .inr ⟨rfl, run _ (x_ifT (hc.trans (by rw [hp]; rfl)) (x_ret rfl))⟩) rfl .un .un .un
        refine x_seq (x_ifF hif rfl) ?_
        rcases T with ⟨t1, ρ', t2, x', y', z', rfl⟩ | ⟨t1, t2⟩
        · rw [t1]; exact x_for (x_rng (n := R) rfl (by omega)) t2 (x_ret rfl)
        · rw [t1]; exact x_end (x_for1 (x_rng (n := R) rfl (by omega)) t2)
    · rw [a1]
      exact x_end (x_for1 (ds := vs) rfl a2)
end G_k34
end

section
namespace G_k34
open PySem PySem.Spec L2 Dn P34
local instance : Tb := noTb
variable {c0 c1 c2 : Int} {t : List D}
inductive Val : Nat → D → Prop
  | non : Val 0 .none
  | int (i : Int) : Val 0 (.int i)
  | tup {n : Nat} (xs : List D) (hl : xs.length ≤ 100) (h : ∀ x ∈ xs, Val n x) : Val (n + 1) (.tuple xs)
theorem okD_tup {xs : List D} (hl : xs.length ≤ 1000) (h : ∀ x ∈ xs, okD x = true) : okD (.tuple xs) = true := by
  rw [okD, okL_of' h, decide_eq_true (by omega)]; rfl
theorem Val.ok : ∀ {n : Nat} {v : D}, Val n v → okD v = true
  | _, _, .non => rfl
  | _, _, .int _ => rfl
  | _, _, .tup xs hl h => okD_tup (by omega) fun x hx => (h x hx).ok
theorem slD_sub {xs : List D} {lo hi : Option Int} {x : D} (h : x ∈ slD xs lo hi) : x ∈ xs := List.mem_of_mem_drop (List.mem_of_mem_take h)
theorem slD_len (xs : List D) (lo hi : Option Int) : (slD xs lo hi).length ≤ xs.length := by
  unfold slD
  rw [List.length_take, List.length_drop]; omega
def TupOk (n : Nat) (d : D) : Prop := ∃ ds, d = .tuple ds ∧ ds.length ≤ n ∧ ∀ x ∈ ds, okD x = true
theorem opSl_tup (xs : List D) (lo hi : Option Int) : opSl (.tuple xs) lo hi = some (.tuple (slD xs lo hi)) := rfl
theorem val_plain : ∀ {n : Nat} {v : D}, Val n v → v.plain = true ∧ v.depth ≤ n
  | _, _, .non => ⟨rfl, by simp [PyData.depth]⟩
  | _, _, .int _ => ⟨rfl, by simp [PyData.depth]⟩
  | _, _, .tup (n := n) xs hl h => by
    refine ⟨?_, ?_⟩
    · show PyData.plainAll xs = true
      exact plainAll_of fun x hx => (val_plain (h x hx)).1
    · show PyData.depthAll xs + 1 ≤ n + 1
      have := depthAll_of (n := n) fun x hx => (val_plain (h x hx)).2
      omega
/-- the last step: an item of the rows -/
theorem chg_end {v : D} {s2 : SV} {ds : List D} (hl : 0 < ds.length) (hl2 : ds.length ≤ 100) (h : ∀ d ∈ ds, okD d = true) : WS t (sRet (eBin opIx (eVar 3) (eFun d__law_draw (aCons (eVar 0) (aCons (eCall opLen (aCons (eVar 3) aNil)) aNil))))) [.val (ob 0), .val v, s2, .val (.list ds)] (fun _ => okD .none = true) (fun d => okD d = true) := by
  refine WS.ret (WE.at (ds := ds) (fun _ => rfl) ?_ h)
  exact WE.draw (ds.length : Int) rfl (fun _ => rfl) (by omega) (log_small (by omega) (by omega))
theorem pow9 : opPow (.int 10) (.int 9) = some (.int 1000000000) := by
  unfold opPow
  simp only []
  rw [if_pos (by decide)]; rfl
def L0 : List D := [.none, .tuple [], .int 0, .bool true, .str "floor", .int 1000000000]
theorem L0ok : ∀ d ∈ L0, okD d = true := by decide
theorem changed_ok : ∀ (n k : Nat) (v : D), Val n v → n ≤ 10 → ∀ ω, BoxI t ω → ∃ d ω', d__law_changed (n + 1 + k) [ob 0, v] ω = some (d, ω') ∧ BoxI t ω' ∧ okD d = true
  | 0, k, v, hv, _ => by
    rw [show 0 + 1 + k = k + 1 from by omega]
    refine WS.fnD ?_
    simp only [b__law_changed, e_draw]
    cases hv with
    | non =>
      refine WS.skip (fun ω => by simp) ?_
      refine WS.setP (d := .list L0) (fun ω => by simp [L0, pow9]) ?_
      refine WS.skip (fun ω => by simp) ?_
      refine WS.skip (fun ω => by simp) ?_
      exact chg_end (by decide) (by decide) (by decide)
    | int i =>
      refine WS.skip (fun ω => by simp) ?_
      refine WS.setP (d := .list L0) (fun ω => by simp [L0, pow9]) ?_
      refine WS.step (fun ω => x_ifT (by simp) (x_set1 (d := .list [.int (i + 1), .int (i - 1), .int (i - 5), .bool (decide (i = 1)), .none, .int (i + 1)]) (by simp))) ?_
      refine WS.skip (fun ω => by simp) ?_
      exact chg_end (by simp) (by simp) (by simp [okD])
  | n + 1, k, v, hv, hn => by
    rw [show n + 1 + 1 + k = (n + 1 + k) + 1 from by omega]
    refine WS.fnD ?_
    simp only [b__law_changed, e_draw]
    cases hv with
    | tup xs hl h =>
      have ih := fun x hx => changed_ok n k x (h x hx) (by omega)
      have hne : opNe (.tuple xs) (.tuple []) = some (.bool (!xs.isEmpty)) := opNe_nilT (plainAll_of fun x hx => (val_plain (h x hx)).1) (by
        have := depthAll_of (n := n) fun x hx => (val_plain (h x hx)).2
        omega)
      have hx : ∀ x ∈ xs, okD x = true := fun x hx => (h x hx).ok
      refine WS.seq (Q' := fun ρ' => ρ' = [.val (ob 0), .val (.tuple xs), .un, .un]) (WS.ite (P := fun c => c = true → xs ≠ []) ?_ (fun hp => ?_) (fun _ => WS.next rfl)) ?_
      · refine WT.and (P := fun c => c = true) (P' := fun c => c = true → xs ≠ []) (WT.pure true (fun ω => by simp) rfl) (fun _ => ?_) (fun h => absurd h (by decide)) (fun _ c h => h)
        refine WT.and (P := fun c => c = !xs.isEmpty) (P' := fun _ => True) (WT.pure (!xs.isEmpty) (fun ω => ?_) rfl) (fun _ => ?_) (fun _ h => absurd h (by decide)) (fun hb c _ _ h0 => ?_)
        · have hne' : opNe (.tuple xs) (.tuple []) = some (.bool (!xs.isEmpty)) := hne
          simp only [List.map_cons, List.map_nil, List.length_cons, List.length_nil, List.replicate, List.cons_append, List.nil_append, tOfE_ap, eBin_ap, eVar_ap, List.getElem?_cons_succ, List.getElem?_cons_zero, eTup_ap, aNil_ap, hne']
        · exact WT.ofE (WE.bin (WE.draw 6 rfl (fun _ => rfl) (by decide) (by decide)) (WE.c (P := fun d => d = .int 0) rfl) (fun x y ⟨i, hi, _, _⟩ hy => by subst hi; subst hy; exact ⟨_, opGt_int i 0, _, rfl, trivial⟩))
        · subst h0; simp at hb
      · have hne0 := hp rfl
        have hl0 : 0 < xs.length := List.length_pos_iff.mpr hne0
        refine WS.setThen (P := IntIn 0 xs.length) (WE.draw (xs.length : Int) rfl (fun _ => rfl) (by omega) (log_small (by omega) (by omega))) ?_
        rintro _ ⟨i, rfl, h0, h1⟩
        refine WS.ret (WE.bin (P := TupOk 300) (Q := TupOk 100) (WE.bin (P := TupOk 100) (Q := TupOk 1) ?_ (WE.tup (WA.one (WE.fn (Q := fun ds => ∃ x ∈ xs, ds = [ob 0, x]) ?_ ?_) (Q := fun ds => ∃ d, ds = [d] ∧ okD d = true) fun d p => ⟨d, rfl, p⟩) ?_) ?_) ?_ ?_)
        · exact WE.pure (.tuple (slD xs none (some i))) (fun ω => by simp [opSl_tup]) ⟨_, rfl, Nat.le_trans (slD_len ..) hl, fun x hx' => hx x (slD_sub hx')⟩
        · obtain ⟨x, e, hm⟩ := atI_mem (xs := xs) h0 h1
          have e' : opIx (.tuple xs) (.int i) = some x := e
          exact WA.pure [ob 0, x] (fun ω => by
            simp only [List.map_cons, List.map_nil, List.length_cons, List.length_nil, List.replicate, List.cons_append, List.nil_append, List.set_cons_succ, List.set_cons_zero, aCons_ap, eVar_ap, List.getElem?_cons_succ, List.getElem?_cons_zero, eBin_ap, e', aNil_ap]) ⟨x, hm, rfl⟩
        · rintro _ ⟨x, hm, rfl⟩
          exact ih x hm
        · rintro _ ⟨d, rfl, p⟩
          exact ⟨[d], rfl, by simp, by simpa using p⟩
        · rintro _ _ ⟨a, rfl, ha, pa⟩ ⟨b, rfl, hb, pb⟩
          exact ⟨_, opAdd_tup (by omega), _, rfl, by simp; omega, fun x hx => by
            rcases List.mem_append.mp hx with h | h
            · exact pa x h
            · exact pb x h⟩
        · exact WE.pure (.tuple (slD xs (some (i + 1)) none)) (fun ω => by simp [opSl_tup]) ⟨_, rfl, Nat.le_trans (slD_len ..) hl, fun x hx' => hx x (slD_sub hx')⟩
        · rintro _ _ ⟨a, rfl, ha, pa⟩ ⟨b, rfl, hb, pb⟩
          exact ⟨_, opAdd_tup (by omega), okD_tup (by simp; omega) fun x hx => by
            rcases List.mem_append.mp hx with h | h
            · exact pa x h
            · exact pb x h⟩
      · rintro _ rfl
        refine WS.setP (d := .list L0) (fun ω => by simp [L0, pow9]) ?_
        refine WS.skip (fun ω => by simp) ?_
        have hz := slD_len xs none (some 1)
        refine WS.step (fun ω => x_ifT (by simp) (x_set1 (d := .list (L0 ++ [.tuple (slD xs none (some (-1))), .tuple (xs ++ slD xs none (some 1)), .tuple xs.reverse])) ?_)) ?_
        · have ha : opAdd (.tuple xs) (.tuple (slD xs none (some 1))) = some (.tuple (xs ++ slD xs none (some 1))) := opAdd_tup (by omega)
          have hb : ∀ y : List D, y.length = 3 → opAdd (.list L0) (.list y) = some (.list (L0 ++ y)) := fun y hy => opAdd_lst (by rw [hy]; decide)
          simp [opSl_tup, ha, opRev, hb]
        · refine chg_end (by simp [L0]) (by simp [L0]) fun d hd => ?_
          rcases List.mem_append.mp hd with hd | hd
          · exact L0ok d hd
          · simp at hd
            rcases hd with rfl | rfl | rfl
            · exact okD_tup (Nat.le_trans (slD_len ..) (by omega)) fun x hx' => hx x (slD_sub hx')
            · refine okD_tup (by simp; omega) fun x hx' => ?_
              rcases List.mem_append.mp hx' with h | h
              · exact hx x h
              · exact hx x (slD_sub h)
            · exact okD_tup (by simp; omega) fun x hx' => hx x (List.mem_reverse.mp hx')
end G_k34
end

section
namespace G_k34
open PySem PySem.Spec L2 Dn P34
local instance : Tb := noTb
variable {c0 c1 c2 : Int} {t : List D} {ω : Wd}
theorem WS_nextP {ρ ρ1 : Ro} {f : DS} {Q : Ro → Prop} {R : D → Prop} (e : ∀ ω, f ρ ω = some (.nx ρ1, ω)) (q : Q ρ1) : WS t f ρ Q R := fun ω i => ⟨ρ1, ω, i, .inl ⟨e ω, q⟩⟩
/-! ## the floors are accepted -/
theorem flo_val {L R : Nat} (hL : L ≤ 20) (hR : R ≤ 20) : Val 2 (flD c0 c1 c2 L R) := by
  refine .tup _ (by simp; omega) fun x hx => ?_
  obtain ⟨r, _, rfl⟩ := List.mem_map.mp hx
  refine .tup _ (by rw [List.length_map, flo_len]; omega) fun y hy => ?_
  obtain ⟨o, _, rfl⟩ := List.mem_map.mp hy
  cases o
  · exact .non
  · exact .int _
theorem rowO_rowD (row : List (Option Int)) : rowO (rowD row) = row := by
  show (row.map oD).map cellO = row
  rw [List.map_map]
  conv => rhs; rw [← List.map_id row]
  refine List.map_congr_left fun o _ => ?_
  cases o <;> rfl
theorem rowP_rowD {L : Nat} {row : List (Option Int)} (h : row.length = L + 1) : rowP L (rowD row) = true := by
  unfold rowP rowD
  simp [h]
  intro o _
  cases o <;> rfl
theorem floors_acc {L R : Nat} : accV c0 c1 c2 L R (flD c0 c1 c2 L R) = true := by
  have h1 : valP L R (flD c0 c1 c2 L R) = true := by
    unfold valP flD
    simp only [List.length_map, List.length_range, decide_true, Bool.true_and]
    refine List.all_eq_true.mpr fun x hx => ?_
    obtain ⟨r, _, rfl⟩ := List.mem_map.mp hx
    exact rowP_rowD (flo_len r)
  have h2 : rowsOf (flD c0 c1 c2 L R) = (List.range (R + 1)).map fun r => flo c0 c1 c2 L r := by
    unfold rowsOf flD
    simp only [List.map_map]
    exact List.map_congr_left fun r _ => rowO_rowD _
  have h3 : ∀ r, r ≤ R → (rowsOf (flD c0 c1 c2 L R)).getD r [] = flo c0 c1 c2 L r := fun r hr => by
    rw [h2, List.getD_eq_getElem?_getD, List.getElem?_map, List.getElem?_range (by omega)]; rfl
  unfold accV
  rw [h1, Bool.true_and]
  unfold accB
  rw [h3 0 (by omega)]
  have h4 : below ((flo c0 c1 c2 L 0).getD 0 none) [some c2] = true := by
    simp [flo, below, leastO]
  rw [h4, Bool.true_and]
  refine List.all_eq_true.mpr fun r hr => List.all_eq_true.mpr fun l hl => ?_
  have hr := List.mem_range.mp hr
  have hl := List.mem_range.mp hl
  rw [h3 r (by omega), h3 (r + 1) (by omega)]
  have h5 : (flo c0 c1 c2 L (r + 1)).getD l none = leastO (bnds c0 c1 c2 (flo c0 c1 c2 L r) l) := by
    rw [flo, List.getD_eq_getElem?_getD, List.getElem?_map, List.getElem?_range hl]; rfl
  rw [h5]
  unfold below
  cases leastO (bnds c0 c1 c2 (flo c0 c1 c2 L r) l) with
  | none => rfl
  | some b => simp
theorem flo_map {L R : Nat} : rowD (flo c0 c1 c2 L R) = .tuple ((List.range (L + 1)).map fun l => oD (F c0 c1 c2 L R l)) := by
  unfold rowD
  congr 1
  refine List.ext_getElem? fun i => ?_
  rw [List.getElem?_map, List.getElem?_map]
  by_cases hi : i < L + 1
  · rw [List.getElem?_range hi]
    have h : i < (flo c0 c1 c2 L R).length := by rw [flo_len]; exact hi
    simp [F, List.getElem?_eq_getElem h]
  · rw [List.getElem?_eq_none (by rw [flo_len]; omega), List.getElem?_eq_none (by simp; omega)]; rfl
/-! ## values that are no plans -/
def tests (p : List Nat) : List D := [plD (p ++ [1]), plD (5 :: p), plD (0 :: p), .tuple (p.map iD ++ [.bool true]), .none, .tuple [.str "plan"], .tuple (slD (p.map iD) none (some (-1)) ++ [.none])]
theorem cmp_ok {a : D} {p : List Nat} (ha : a.plain = true) (hd : a.depth ≤ 60) : ∃ b, opEq a (plD p) = some (.bool b) := by
  refine ⟨PyData.eqv a (plD p), ?_⟩
  unfold opEq cmpOk
  rw [ha, plD_plain, decide_eq_true hd]; rfl
theorem notOb_pl {p : List Nat} : ∀ x ∈ p.map iD, notOb x = true := fun x hx => by obtain ⟨i, _, rfl⟩ := List.mem_map.mp hx; rfl
theorem tests_ok {L : Nat} {p : List Nat} (hp : IsPlan L L p) : ∀ a ∈ tests p, ∃ b, opEq a (plD (5 :: p)) = some (.bool b) ∧ d_is_plan [a, .int ((L : Int) + 5 * (if b = true then 1 else 0))] ω0 = some (.bool false, ω0) := by
  have no : ∀ (xs : List D) (m : Int), (∀ x ∈ xs, notOb x = true) → (∃ x ∈ xs, numP x = false) → d_is_plan [.tuple xs, .int m] ω0 = some (.bool false, ω0) := fun xs m h ⟨x, hx, hn⟩ => by
    have : xs.all numP = false := by
      rw [List.all_eq_false]
      exact ⟨x, hx, by rw [hn]; exact Bool.false_ne_true⟩
    rw [isplan_all h, this]; rfl
  have pl : ∀ xs : List D, (∀ x ∈ xs, x.plain = true ∧ x.depth = 0) → (PyData.tuple xs).plain = true ∧ (PyData.tuple xs).depth ≤ 60 := fun xs h => by
    refine ⟨plainAll_of fun x hx => (h x hx).1, ?_⟩
    have := depthAll_of (n := 0) (l := xs) fun x hx => by rw [(h x hx).2]; exact Nat.le_refl 0
    show PyData.depthAll xs + 1 ≤ 60
    omega
  have pz : ∀ x ∈ p.map iD, x.plain = true ∧ x.depth = 0 := fun x hx => by obtain ⟨i, _, rfl⟩ := List.mem_map.mp hx; exact ⟨rfl, by simp [PyData.depth]⟩
  intro a ha
  unfold tests at ha
  simp only [List.mem_cons, List.not_mem_nil, or_false] at ha
  rcases ha with rfl | rfl | rfl | rfl | rfl | rfl | rfl
  · refine ⟨false, ?_, ?_⟩
    · have hne : p ++ [1] ≠ 5 :: p := fun h => by
        cases p with
        | nil => simp at h
        | cons d p =>
          simp at h
          have := (hp.2.2 d (by simp)).2
          omega
      have : cmpOk (plD (p ++ [1])) (plD (5 :: p)) = true := by
        unfold cmpOk
        rw [plD_plain, plD_plain, decide_eq_true (by have := plD_depth (p ++ [1]); omega)]; rfl
      unfold opEq
      rw [if_pos this, eqv_plD, decide_eq_false hne]
    · have hall : ((p ++ [1]).map iD).all numP = true := by
        rw [List.all_map, List.all_eq_true]
        intro d hd
        have : 1 ≤ d ∧ d ≤ 4 := by
          rcases List.mem_append.mp hd with h | h
          · exact hp.2.2 d h
          · have := List.mem_singleton.mp h; omega
        simp [numP, natD]; omega
      have hi : intsOf ((p ++ [1]).map iD) = some ((p ++ [1]).map fun d : Nat => (d : Int)) := by
        have := intsOf_map' ((p ++ [1]).map fun d : Nat => (d : Int))
        rwa [List.map_map] at this
      have hne : ¬ ((((p ++ [1]).sum : Nat) : Int) = (L : Int) + 5 * (if false = true then 1 else 0)) := by
        have := hp.1
        simp; omega
      refine (isplan_all notOb_pl).trans ?_
      rw [hall, hi, if_pos rfl]
      simp only [sum_nat, opEq_intS]
      rw [decide_eq_false hne]
  · obtain ⟨b, hb⟩ := cmp_ok (p := 5 :: p) (plD_plain (5 :: p)) (by have := plD_depth (5 :: p); omega)
    exact ⟨b, hb, no _ _ notOb_pl ⟨iD 5, by simp, rfl⟩⟩
  · obtain ⟨b, hb⟩ := cmp_ok (p := 5 :: p) (plD_plain (0 :: p)) (by have := plD_depth (0 :: p); omega)
    exact ⟨b, hb, no _ _ notOb_pl ⟨iD 0, by simp, rfl⟩⟩
  · have h := pl (p.map iD ++ [.bool true]) (fun x hx => by
      rcases List.mem_append.mp hx with h | h
      · exact pz x h
      · rw [List.mem_singleton.mp h]; exact ⟨rfl, by simp [PyData.depth]⟩)
    obtain ⟨b, hb⟩ := cmp_ok (p := 5 :: p) h.1 h.2
    refine ⟨b, hb, no _ _ (fun x hx => ?_) ⟨.bool true, by simp, rfl⟩⟩
    rcases List.mem_append.mp hx with h | h
    · exact notOb_pl x h
    · rw [List.mem_singleton.mp h]; rfl
  · obtain ⟨b, hb⟩ := cmp_ok (a := .none) (p := 5 :: p) rfl (by simp [PyData.depth])
    refine ⟨b, hb, ?_⟩
    simp [d_is_plan, defD, b_is_plan]
  · have h := pl [.str "plan"] (by simp [PyData.plain, PyData.depth])
    obtain ⟨b, hb⟩ := cmp_ok (p := 5 :: p) h.1 h.2
    exact ⟨b, hb, no _ _ (by simp [notOb]) ⟨.str "plan", by simp, rfl⟩⟩
  · have h := pl (slD (p.map iD) none (some (-1)) ++ [.none]) (fun x hx => by
      rcases List.mem_append.mp hx with h | h
      · exact pz x (slD_sub h)
      · rw [List.mem_singleton.mp h]; exact ⟨rfl, by simp [PyData.depth]⟩)
    obtain ⟨b, hb⟩ := cmp_ok (p := 5 :: p) h.1 h.2
    refine ⟨b, hb, no _ _ (fun x hx => ?_) ⟨.none, by simp, rfl⟩⟩
    rcases List.mem_append.mp hx with h | h
    · exact notOb_pl x (slD_sub h)
    · rw [List.mem_singleton.mp h]; rfl
theorem isplan_yes {L : Nat} {p : List Nat} (hp : IsPlan L L p) : d_is_plan [plD p, .int L] ω0 = some (.bool true, ω0) := by
  have hall : (p.map iD).all numP = true := by
    rw [List.all_map, List.all_eq_true]
    intro d hd
    have := hp.2.2 d hd
    simp [numP, natD]; omega
  have hi : intsOf (p.map iD) = some (p.map fun d : Nat => (d : Int)) := by
    have := intsOf_map' (p.map fun d : Nat => (d : Int))
    rwa [List.map_map] at this
  refine (isplan_all notOb_pl).trans ?_
  rw [hall, hi, if_pos rfl]
  simp only [sum_nat, opEq_intS, hp.1]
  simp
/-! ## pairs -/
theorem prs_map (f : Nat → Option Int) (n : Nat) (g : Nat → D) (h : ∀ r b, f r = some b → g r = prD (r, b)) : ((List.range n).filter fun r => (f r).isSome).map g = (prs f n).map prD := by
  unfold prs
  induction List.range n with
  | nil => rfl
  | cons r l ih =>
    rw [List.filter_cons, List.filterMap_cons]
    cases hf : f r with
    | none => simpa using ih
    | some b => simp [h r b hf, ih]
theorem prD_ne (x y : Nat × Int) : opNe (prD y) (prD x) = some (.bool (decide (y ≠ x))) := by
  have hc : cmpOk (prD y) (prD x) = true := by
    simp [cmpOk, prD, PyData.plain, PyData.plainAll, PyData.depth, PyData.depthAll]
  unfold opNe
  rw [if_pos hc]
  have : PyData.eqv (prD y) (prD x) = decide (y = x) := by
    simp only [prD, PyData.eqv, PyData.eqvAll, natD]
    obtain ⟨a, b⟩ := y
    obtain ⟨c, d⟩ := x
    by_cases h1 : a = c <;> by_cases h2 : b = d <;> simp [h1, h2]
    omega
  rw [this]
  by_cases h : y = x <;> simp [h]

theorem okD_pl (p : List Nat) (h : p.length ≤ 1000) : okD (plD p) = true := okD_tup (by rw [List.length_map]; exact h) fun x hx => by obtain ⟨i, _, rfl⟩ := List.mem_map.mp hx; rfl
theorem dpt_pl (p : List Nat) : dpt (plD p) ≤ 2 := by
  show dptL _ + 1 ≤ 2
  have := dptL_of (n := 1) (xs := p.map iD) fun x hx => by obtain ⟨i, _, rfl⟩ := List.mem_map.mp hx; simp [dpt]
  omega
theorem gre_len {L r l : Nat} {w : Int} : (gre c0 c1 c2 L r l w).length ≤ r := by
  induction r generalizing l w with
  | zero => simp [gre]
  | succ r ih =>
    unfold gre
    split
    · simp
    · split
      · rename_i k _
        rw [List.length_cons]; have := ih (l := l - (k + 1)) (w := w - rc c0 c1 (k + 1)); omega
      · simp
theorem best_okD {L R : Nat} (hR : R ≤ 20) : okD (bestV c0 c1 c2 L R) = true ∧ dpt (bestV c0 c1 c2 L R) ≤ 6 := by
  unfold bestV
  cases F c0 c1 c2 L R L with
  | none => exact ⟨rfl, by simp [dpt]⟩
  | some w =>
    refine ⟨okD_tup (by simp) fun x hx => ?_, ?_⟩
    · simp at hx
      rcases hx with rfl | rfl
      · rfl
      · exact okD_pl _ (by have := gre_len (c0 := c0) (c1 := c1) (c2 := c2) (L := L) (r := R) (l := L) (w := w); omega)
    · have := dpt_pl (gre c0 c1 c2 L R L w)
      simp [dpt, dptL]; omega
theorem prs_okD {l : List (Nat × Int)} (h : l.length ≤ 1000) : okD (.tuple (l.map prD)) = true ∧ dpt (.tuple (l.map prD)) ≤ 6 := by
  refine ⟨okD_tup (by rw [List.length_map]; exact h) fun x hx => by obtain ⟨i, _, rfl⟩ := List.mem_map.mp hx; rfl, ?_⟩
  have := dptL_of (n := 2) (xs := l.map prD) fun x hx => by obtain ⟨i, _, rfl⟩ := List.mem_map.mp hx; simp [prD, dpt, dptL]
  simp only [dpt]; omega
theorem flD_ok {L R : Nat} (hL : L ≤ 20) (hR : R ≤ 20) : okD (flD c0 c1 c2 L R) = true ∧ dpt (flD c0 c1 c2 L R) ≤ 6 := by
  refine ⟨(flo_val hL hR).ok, ?_⟩
  unfold flD
  simp only [dpt]
  have := dptL_of (n := 2) (xs := (List.range (R + 1)).map fun r => rowD (flo c0 c1 c2 L r)) fun x hx => by
    obtain ⟨r, _, rfl⟩ := List.mem_map.mp hx
    unfold rowD
    simp only [dpt]
    have := dptL_of (n := 1) (xs := (flo c0 c1 c2 L r).map oD) fun x hx => by
      obtain ⟨o, _, rfl⟩ := List.mem_map.mp hx
      cases o <;> simp [oD, dpt]
    omega
  omega
theorem lbest_ix {L R M : Nat} (hL : L ≤ 12) (hLM : L ≤ M) : ∃ d, d__law_best [.int L, .int R, coD c0 c1 c2] ω0 = some (d, ω0) ∧ isNon d = (F c0 c1 c2 M R L).isNone ∧ ∀ w, F c0 c1 c2 M R L = some w → opIx d (.int 0) = some (.int w) := by
  refine ⟨_, lbest_ok hL hLM, ?_, ?_⟩
  · cases F c0 c1 c2 M R L <;> rfl
  · intro w hw; rw [hw]; rfl
theorem good (ns : List Int) (h : ns.length ≤ 63) : ∃ ω, b_law (lawRo 20 1) (box4 ns) = some (.rt (.bool true), ω) := by
  have W : WS [.int 0] b_law (lawRo 20 1) (fun _ => False) (fun d => d = .bool true) := by
    simp only [b_law, e_draw, e_same]
    refine WS.asgThen (P := fun d => ∃ L R : Nat, d = .tuple [natD L, natD R] ∧ L ≤ 10 ∧ R ≤ 7) (WE.tup (WA.cons (WE.draw 11 rfl (fun _ => rfl) (by decide) (by decide)) (WA.cons (WE.draw 8 rfl (fun _ => rfl) (by decide) (by decide)) WA.nil)) ?_) ?_
    · rintro _ ⟨_, _, rfl, ⟨i, rfl, i0, i1⟩, _, _, rfl, ⟨j, rfl, j0, j1⟩, rfl⟩
      refine ⟨i.toNat, j.toNat, ?_, by omega, by omega⟩
      rw [natD, natD, show ((i.toNat : Nat) : Int) = i from by omega, show ((j.toNat : Nat) : Int) = j from by omega]
    rintro _ ⟨L, R, rfl, hL, hR⟩
    refine ⟨_, rfl, ?_⟩
    refine WS.setThen (P := fun d => ∃ c0 c1 c2, d = coD c0 c1 c2) (WE.tuple (WE.ofN (WA.lc (n := 3) (P := fun _ => True) (Q := fun d => ∃ i, d = .int i) ?_ ?_)) ?_) ?_
    · exact WA.pure _ (fun ω => x_rng (n := 3) rfl (by decide)) ⟨by simp, fun _ _ => trivial⟩
    · intro d _
      refine ⟨_, rfl, fun _ => rfl, WE.pick 5 (WA.consP (WE.c ⟨_, rfl⟩) (WA.consP (WE.c ⟨_, rfl⟩) (WA.consP ((WE.draw 20 rfl (fun _ => rfl) (by decide) (by decide)).mono ?_) (WA.consP ((WE.draw 1000 rfl (fun _ => rfl) (by decide) (by decide)).mono ?_) (WA.consP (WE.c ⟨_, rfl⟩) WA.nilP))))) (WE.draw 5 rfl (fun _ => rfl) (by decide) (by decide))⟩
      · rintro d ⟨i, rfl, _⟩; exact ⟨i, rfl⟩
      · rintro d ⟨i, rfl, _⟩; exact ⟨i, rfl⟩
    · rintro ds ⟨hl, hd⟩
      match ds, hl with
      | [a, b, c], _ =>
        obtain ⟨i, rfl⟩ := hd a (by simp)
        obtain ⟨j, rfl⟩ := hd b (by simp)
        obtain ⟨k, rfl⟩ := hd c (by simp)
        exact ⟨i, j, k, rfl⟩
    rintro _ ⟨c0, c1, c2, rfl⟩
    have hlb := lbest_ok (c0 := c0) (c1 := c1) (c2 := c2) (L := L) (R := R) (M := L) (by omega) (Nat.le_refl _)
    have hbk := best_okD (c0 := c0) (c1 := c1) (c2 := c2) (L := L) (R := R) (by omega)
    refine WS.skip (fun ω => notT (same_of (d := bestV c0 c1 c2 L R) (x_fnP rfl (best_ok (by omega) (by omega))) (x_fnP rfl hlb) hbk.1 hbk.2)) ?_
    obtain ⟨gs, hgs, hgl, hgm⟩ := plans_ok (L := L) (R := L) (by omega)
    refine WS.setP (d := .list (gs.map plD)) (fun ω => x_fnP rfl hgs) ?_
    have hg0 : 0 < gs.length := by
      have : List.replicate L 1 ∈ gs := (hgm _).mpr ⟨by simp, by simp, fun d hd => by rw [(List.mem_replicate.mp hd).2]; decide⟩
      exact List.length_pos_iff.mpr (fun h => by rw [h] at this; cases this)
    refine WS.setThen (P := fun d => ∃ p, d = plD p ∧ IsPlan L L p) (WE.at (ds := gs.map plD) (fun _ => rfl) ?_ ?_) ?_
    · have : (gs.map plD).length = gs.length := List.length_map ..
      exact WE.draw ((gs.map plD).length : Int) rfl (fun _ => rfl) (by rw [this]; omega) (log_small (by omega) (by rw [this]; omega))
    · intro d hd
      obtain ⟨p, hp, rfl⟩ := List.mem_map.mp hd
      exact ⟨p, rfl, (hgm p).mp hp⟩
    rintro _ ⟨p, rfl, hp⟩
    have h4 : ∀ d ∈ p, d ≤ 4 := fun d hd => (hp.2.2 d hd).2
    refine WS.skip (fun ω => orF (isTrue (x_fnP rfl (isplan_yes hp))) (notT (same_of (d := .int (cost c0 c1 c2 p)) (x_fnP rfl (cost_ok h4)) (x_fnP rfl (lcost_ok h4)) rfl (by simp [dpt])))) ?_
    have hpl : p.length ≤ 10 := Nat.le_trans hp.2.1 hL
    have e5 : opAdd (.tuple [.int 5]) (plD p) = some (plD (5 :: p)) := opAdd_tup (by simp; omega)
    have e0 : opAdd (.tuple [.int 0]) (plD p) = some (plD (0 :: p)) := opAdd_tup (by simp; omega)
    have e1 : opAdd (plD p) (.tuple [.int 1]) = some (plD (p ++ [1])) := plD_add (by omega)
    have eT : opAdd (plD p) (.tuple [.bool true]) = some (.tuple (p.map iD ++ [.bool true])) := opAdd_tup (by simp; omega)
    have eS : opSl (plD p) none (some (-1)) = some (.tuple (slD (p.map iD) none (some (-1)))) := rfl
    have eN : opAdd (.tuple (slD (p.map iD) none (some (-1)))) (.tuple [.none]) = some (.tuple (slD (p.map iD) none (some (-1)) ++ [.none])) := opAdd_tup (by have := slD_len (p.map iD) none (some (-1)); simp at this ⊢; omega)
    refine WS.seq (Q' := fun ρ' => ∃ x : SV, ρ' = [.un, .val (ob 0), .val (natD L), .val (natD R), .val (coD c0 c1 c2), .val (.list (gs.map plD)), .val (plD p), x, .un, .un, .un, .un, .un, .un, .un, .un, .un, .un, .un, .un]) (fun ω ib => ?_) ?_
    · have A := loop_inv (g := gSet 7) (f := l_law_1) (ω := ω) id (fun _ ρ => ∃ x : SV, ρ = [.un, .val (ob 0), .val (natD L), .val (natD R), .val (coD c0 c1 c2), .val (.list (gs.map plD)), .val (plD p), x, .un, .un, .un, .un, .un, .un, .un, .un, .un, .un, .un, .un]) (tests p) [] _ ⟨.un, rfl⟩ fun pre a ρ ha hI => by
        obtain ⟨x, rfl⟩ := hI
        obtain ⟨b, hb, hn⟩ := tests_ok hp a ha
        refine ⟨_, _, rfl, x_ifF ?_ rfl, _, rfl⟩
        have hi : opInt [.bool b] = some (.int (if b = true then 1 else 0)) := rfl
        have hm : opMul (.int 5) (.int (if b = true then 1 else 0)) = some (.int (5 * (if b = true then 1 else 0))) := by
          unfold opMul; simp only []; rw [if_pos (mulOk_l (by decide) (by decide))]
        simp only [id, List.set_cons_succ, List.set_cons_zero, tOfE_ap, eBin_ap, eFunP_ap, aCons_ap, eVar_ap, List.getElem?_cons_succ, List.getElem?_cons_zero, eC_ap, eCall_ap, eTup_ap, aNil_ap, e5, hb, hi, hm, natD, opAdd_int, hn, opNotB_bool]
        rfl
      obtain ⟨ρ', e, x, rfl⟩ := A
      rw [List.map_id] at e
      refine ⟨_, ω, ib, .inl ⟨x_for1 (ds := tests p) ?_ e, x, rfl⟩⟩
      simp only [lawRo, List.replicate, List.set_cons_succ, List.set_cons_zero, iSq_ap, eLst_ap, aCons_ap, eBin_ap, eVar_ap, List.getElem?_cons_succ, List.getElem?_cons_zero, eC_ap, eTup_ap, aNil_ap, e5, e0, e1, eT, eSl_ap, oNone_ap, oSome_ap, eUn_ap, opNeg_int, eS, eN, tests]
    rintro _ ⟨x7, rfl⟩
    refine WS.ownP (ds := []) (fun ω => rfl) ?_
    have hrow : ∀ (r : Nat) (x9 x10 : SV) (own : List D) (ω : Wd), (eOfN (eLcN (iRange (aCons (eBin opAdd (eVar 2) (eC (.int 1))) aNil)) (gSet 11) tYesD (eFunP d__law_best (aCons (eVar 11) (aCons (eVar 9) (aCons (eVar 4) aNil)))) [11])) [.un, .val (ob 0), .val (natD L), .val (natD R), .val (coD c0 c1 c2), .val (.list (gs.map plD)), .val (plD p), x7, .own own, .val (natD r), x10, .un, .un, .un, .un, .un, .un, .un, .un, .un] ω = some (.list ((List.range (L + 1)).map fun l => match F c0 c1 c2 L r l with | none => .none | some w => .tuple [.int w, plD (gre c0 c1 c2 L r l w)]), ω) := fun r x9 x10 own ω => by
      refine x_ofN (x_lc (x_rng (n := L + 1) (by simp [natD]) (by omega)) (lcD_map _ _ _ fun l hl => ⟨_, rfl, rfl, ?_⟩))
      have hl := List.mem_range.mp hl
      exact x_fnP rfl (lbest_ok (by omega) (by omega))
    refine WS.seq (Q' := fun ρ' => ∃ x9 x10 : SV, ρ' = [.un, .val (ob 0), .val (natD L), .val (natD R), .val (coD c0 c1 c2), .val (.list (gs.map plD)), .val (plD p), x7, .own ((List.range (R + 1)).map fun r => rowD (flo c0 c1 c2 L r)), x9, x10, .un, .un, .un, .un, .un, .un, .un, .un, .un]) (fun ω ib => ?_) ?_
    · obtain ⟨x', e⟩ := loop_sh (β := SV × SV) (g := gSet 9) (f := l_law_2) (ω := ω) natD (fun (pre : List Nat) (x : SV × SV) => [.un, .val (ob 0), .val (natD L), .val (natD R), .val (coD c0 c1 c2), .val (.list (gs.map plD)), .val (plD p), x7, .own (pre.map fun r => rowD (flo c0 c1 c2 L r)), x.1, x.2, .un, .un, .un, .un, .un, .un, .un, .un, .un]) (List.range (R + 1)) (.un, .un) fun pre r suf x hk => by
        have hlen := congrArg List.length hk
        rw [List.length_range, List.length_append, List.length_cons] at hlen
        refine ⟨_, rfl, (.val (natD r), .val (.list ((List.range (L + 1)).map fun l => match F c0 c1 c2 L r l with | none => .none | some w => .tuple [.int w, plD (gre c0 c1 c2 L r l w)]))), ?_⟩
        unfold l_law_2
        refine x_set (hrow r .un x.2 _ ω) ?_
        rw [List.map_append]
        refine x_app1 (d := rowD (flo c0 c1 c2 L r)) ?_ rfl (by rw [List.length_map]; omega)
        refine x_call (x_one (x_ofN (x_lc rfl (lcD_map (fun l => match F c0 c1 c2 L r l with | none => .none | some w => .tuple [.int w, plD (gre c0 c1 c2 L r l w)]) (fun l => oD (F c0 c1 c2 L r l)) (List.range (L + 1)) fun l hl => ⟨_, rfl, rfl, ?_⟩)))) ?_
        · cases F c0 c1 c2 L r l <;> simp [oD, wipeR]
        · rw [flo_map]; rfl
      exact ⟨_, ω, ib, .inl ⟨x_for1 (x_rng (n := R + 1) rfl (by omega)) e, _, _, rfl⟩⟩
    rintro _ ⟨x9, x10, rfl⟩
    refine WS.setP (d := flD c0 c1 c2 L R) (fun ω => rfl) ?_
    have hfk := flD_ok (c0 := c0) (c1 := c1) (c2 := c2) (L := L) (R := R) (by omega) (by omega)
    refine WS.skip (fun ω => orF (notT (same_of (d := flD c0 c1 c2 L R) (x_fnP rfl (floors_ok (by omega) (by omega))) rfl hfk.1 hfk.2)) (isTrue (x_fnP rfl ((accepts_ok (by omega) (by omega) hfk.1).trans (by rw [floors_acc]))))) ?_
    have hfv := flo_val (c0 := c0) (c1 := c1) (c2 := c2) (L := L) (R := R) (by omega) (by omega)
    refine WS.setThen (P := Val 2) (WE.tuple (WE.ofN (WA.lc (n := R + 1) (P := fun d => ∃ r, d = rowD (flo c0 c1 c2 L r)) (Q := Val 1) ?_ ?_)) fun ds hds => .tup _ (by rw [hds.1]; omega) hds.2) ?_
    · exact WA.pure ((List.range (R + 1)).map fun r => rowD (flo c0 c1 c2 L r)) (fun ω => rfl) ⟨by simp, fun d hd => by obtain ⟨r, _, rfl⟩ := List.mem_map.mp hd; exact ⟨r, rfl⟩⟩
    · rintro _ ⟨r, rfl⟩
      refine ⟨_, rfl, fun _ => rfl, WE.tuple (WE.ofN (WA.lc (n := L + 1) (P := fun d => ∃ o, d = oD o) (Q := Val 0) ?_ ?_)) fun ds hds => .tup _ (by rw [hds.1]; omega) hds.2⟩
      · exact WA.pure ((flo c0 c1 c2 L r).map oD) (fun ω => rfl) ⟨by rw [List.length_map, flo_len], fun d hd => by obtain ⟨o, _, rfl⟩ := List.mem_map.mp hd; exact ⟨o, rfl⟩⟩
      · rintro _ ⟨o, rfl⟩
        refine ⟨_, rfl, fun _ => rfl, ?_⟩
        cases o with
        | none => exact WE.if' (S := fun c => c = true) (WT.pure true (fun _ => rfl) rfl) (fun _ => WE.c .non) (fun h => absurd h (by decide))
        | some v =>
          refine WE.if' (S := fun c => c = false) (WT.pure false (fun _ => rfl) rfl) (fun h => absurd h (by decide)) (fun _ => ?_)
          refine WE.bin (P := fun d => d = .int v) (WE.v rfl rfl) (Q := fun d => ∃ i, d = .int i) (WE.bin (WE.draw 2 rfl (fun _ => rfl) (by decide) (by decide)) (WE.draw 9 rfl (fun _ => rfl) (by decide) (by decide)) ?_) ?_
          · rintro x y ⟨i, rfl, i0, i1⟩ ⟨j, rfl, j0, j1⟩
            refine ⟨.int (i * j), ?_, _, rfl⟩
            unfold opMul; simp only []; rw [if_pos (mulOk_l (by omega) (by omega))]
          · rintro x y rfl ⟨i, rfl⟩
            exact ⟨_, rfl, .int _⟩
    rintro lw hlw
    refine WS.seq (Q' := fun ρ' => ∃ x7 x12 : SV, ρ' = [.un, .val (ob 0), .val (natD L), .val (natD R), .val (coD c0 c1 c2), .val (.list (gs.map plD)), .val (plD p), x7, .val (flD c0 c1 c2 L R), x9, x10, .val lw, x12, .un, .un, .un, .un, .un, .un, .un]) ?_ ?_
    · refine WS.for' (P := fun _ => True) (fun _ ρ' => ∃ x7 x12 : SV, ρ' = [.un, .val (ob 0), .val (natD L), .val (natD R), .val (coD c0 c1 c2), .val (.list (gs.map plD)), .val (plD p), x7, .val (flD c0 c1 c2 L R), x9, x10, .val lw, x12, .un, .un, .un, .un, .un, .un, .un]) 6 ?_ ⟨x7, .un, rfl⟩ ?_ (fun k ρ _ h => h)
      · exact WA.pure _ (fun ω => x_rng (n := 6) rfl (by decide)) ⟨by simp, fun _ _ => trivial⟩
      · rintro k ρ' d hk ⟨x7, x12, rfl⟩ -
        refine ⟨_, rfl, ?_⟩
        unfold l_law_3
        simp only [e_same, e_draw]
        refine WS.setThen (P := fun d => okD d = true) (WE.fn (Q := fun ds => ∃ v, ds = [ob 0, v] ∧ Val 2 v) ?_ ?_) ?_
        · refine (WA.cons (P := fun d => d = ob 0) (WE.v rfl rfl) (WA.one (Q := fun ds => ∃ v, ds = [v] ∧ Val 2 v) (WE.at (ds := [flD c0 c1 c2 L R, lw]) (P := Val 2) (fun _ => rfl) (WE.draw 2 rfl (fun _ => rfl) (by decide) (by decide)) ?_) fun d p => ⟨d, rfl, p⟩)).mono ?_
          · intro d hd
            simp at hd
            rcases hd with rfl | rfl
            · exact hfv
            · exact hlw
          · rintro _ ⟨_, _, rfl, rfl, v, rfl, hv⟩
            exact ⟨v, rfl, hv⟩
        · rintro _ ⟨v, rfl, hv⟩
          exact changed_ok 2 3 v hv (by omega)
        · rintro v hv
          refine WS_nextP (fun ω => x_ifF (notT (same_of (d := .bool (accV c0 c1 c2 L R v)) (x_fnP rfl (accepts_ok (by omega) (by omega) hv)) (x_fnP rfl (laccepted_ok (by omega) (by omega) hv)) rfl (by simp [dpt]))) rfl) ⟨_, _, rfl⟩
    rintro _ ⟨x7', x12, rfl⟩
    have hpr := prs_len (fun r => F c0 c1 c2 L r L) (L + 1)
    refine WS.setP (d := .list ((prs (fun r => F c0 c1 c2 L r L) (L + 1)).map prD)) (fun ω => ?_) ?_
    · refine x_ofN (x_lc (x_rng (n := L + 1) (by simp [natD]) (by omega)) ?_)
      rw [← prs_map (fun r => F c0 c1 c2 L r L) (L + 1) (fun r => match F c0 c1 c2 L r L with | none => .none | some b => prD (r, b)) (fun r b h => by simp only [h])]
      refine lcD_of natD (fun r => (F c0 c1 c2 L r L).isSome) _ _ fun r hr => ⟨_, rfl, ?_, fun hs => ?_⟩
      · obtain ⟨d, h1, h2, h3⟩ := lbest_ix (c0 := c0) (c1 := c1) (c2 := c2) (L := L) (R := r) (M := L) (by omega) (Nat.le_refl _)
        have e : eFunP d__law_best (aCons (eVar 2) (aCons (eVar 9) (aCons (eVar 4) aNil))) (((wipeR [.un, .val (ob 0), .val (natD L), .val (natD R), .val (coD c0 c1 c2), .val (.list (gs.map plD)), .val (plD p), x7', .val (flD c0 c1 c2 L R), x9, x10, .val lw, x12, .un, .un, .un, .un, .un, .un, .un] [9]).set 9 (.val (natD r)))) ω = some (d, ω) := x_fnP rfl h1
        rw [tOfE_ap, eBin_ap, e]
        simp only [eC_ap, opNotN_none, h2]
        cases F c0 c1 c2 L r L <;> rfl
      · obtain ⟨d, h1, h2, h3⟩ := lbest_ix (c0 := c0) (c1 := c1) (c2 := c2) (L := L) (R := r) (M := L) (by omega) (Nat.le_refl _)
        obtain ⟨w, hw⟩ := Option.isSome_iff_exists.mp hs
        have e : eFunP d__law_best (aCons (eVar 2) (aCons (eVar 9) (aCons (eVar 4) aNil))) (((wipeR [.un, .val (ob 0), .val (natD L), .val (natD R), .val (coD c0 c1 c2), .val (.list (gs.map plD)), .val (plD p), x7', .val (flD c0 c1 c2 L R), x9, x10, .val lw, x12, .un, .un, .un, .un, .un, .un, .un] [9]).set 9 (.val (natD r)))) ω = some (d, ω) := x_fnP rfl h1
        rw [eTup_ap, x_cons (x := natD r) rfl (x_one (x_bin e rfl (h3 w hw))), hw]
        rfl
    refine WS.setP (d := .tuple ((chs (fun r => F c0 c1 c2 L r L) (L + 1)).map prD)) (fun ω => ?_) ?_
    · rw [← chs_due]
      refine x_call (x_one (x_ofN (x_lc rfl (lcD_of prD (fun x => !dom (prs (fun r => F c0 c1 c2 L r L) (L + 1)) x) prD (prs (fun r => F c0 c1 c2 L r L) (L + 1)) fun x hx => ⟨_, rfl, ?_, fun _ => rfl⟩)))) rfl
      have hany : (eCall opAny (aCons (eOfN (eLcN (iSq (eVar 13)) (gSet 19) tYesD (eAnd (eBin opNe (eVar 19) (eVar 18)) (eAnd (eBin opLe (eBin opIx (eVar 19) (eC (.int 0))) (eBin opIx (eVar 18) (eC (.int 0)))) (eBin opLe (eBin opIx (eVar 19) (eC (.int 1))) (eBin opIx (eVar 18) (eC (.int 1)))))) [19])) aNil)) (((wipeR [.un, .val (ob 0), .val (natD L), .val (natD R), .val (coD c0 c1 c2), .val (.list (gs.map plD)), .val (plD p), x7', .val (flD c0 c1 c2 L R), x9, x10, .val lw, x12, .val (.list ((prs (fun r => F c0 c1 c2 L r L) (L + 1)).map prD)), .un, .un, .un, .un, .un, .un] [18]).set 18 (.val (prD x)))) ω = some (.bool (dom (prs (fun r => F c0 c1 c2 L r L) (L + 1)) x), ω) := by
        refine x_call (xs := [.list (((prs (fun r => F c0 c1 c2 L r L) (L + 1)).map fun y => decide (y ≠ x) && (decide (y.1 ≤ x.1) && decide (y.2 ≤ x.2))).map .bool)]) (x_one (x_ofN (x_lc rfl ?_))) ?_
        · rw [List.map_map]
          refine lcD_map prD _ _ fun y hy => ⟨_, rfl, rfl, ?_⟩
          have a0 : opIx (prD y) (.int 0) = some (natD y.1) := rfl
          have a1 : opIx (prD y) (.int 1) = some (.int y.2) := rfl
          have b0 : opIx (prD x) (.int 0) = some (natD x.1) := rfl
          have b1 : opIx (prD x) (.int 1) = some (.int x.2) := rfl
          have hle : opLe (natD y.1) (natD x.1) = some (.bool (decide (y.1 ≤ x.1))) := by
            show some (PyData.bool (decide ((y.1 : Int) ≤ (x.1 : Int)))) = _
            congr 2
            exact decide_eq_decide.mpr (by omega)
          simp only [wipeR, List.set_cons_succ, List.set_cons_zero, eAnd_ap, eBin_ap, eVar_ap, List.getElem?_cons_succ, List.getElem?_cons_zero, prD_ne, eC_ap, a0, a1, b0, b1, hle, opLe_int, Function.comp]
          by_cases h1 : y = x <;> by_cases h2 : y.1 ≤ x.1 <;> simp [h1, h2]
        · rw [opAny_lst, List.any_map]; rfl
      exact x_not hany
    have hck := prs_okD (l := chs (fun r => F c0 c1 c2 L r L) (L + 1)) (by have := chs_len (fun r => F c0 c1 c2 L r L) (L + 1); omega)
    refine WS.retP (d := .bool true) (fun ω => same_of (d := .tuple ((chs (fun r => F c0 c1 c2 L r L) (L + 1)).map prD)) (x_fnP rfl (choices_ok (by omega))) rfl hck.1 hck.2) rfl
  have ib : BoxI [.int 0] (box4 ns) := ⟨ns, 0, 4711 + ns.length, rfl⟩
  obtain ⟨ρ', ω', _, ⟨_, q⟩ | ⟨d, e, rfl⟩⟩ := W _ ib
  · exact q.elim
  · exact ⟨ω', e⟩
end G_k34
end

section
open PySem PySem.W PyProof.Rows
set_option maxRecDepth 100000 in
set_option maxHeartbeats 0 in
theorem PySem.Challenge.cw_onewatcher_k34_plans_and_floors_holds : PySem.Challenge.rw_onewatcher_k34_plans_and_floors.Holds := by
  w_on; o_law; k_head; (case hw => w_witness2)
  k_fill
  refine G_k34.walk (l := PySem.Challenge.rw_onewatcher_k34_plans_and_floors) rfl rfl (fun w h Y => PySem.W.kIn_of Y) ?F
  case F =>
    intro w mg fa h KX G hmg
    refine' G_k34.all_tab G_k34.good KX G hmg ?a0 ?l0 ?c0 ?k0 ?a1 ?l1 ?c1 ?k1 ?a2 ?l2 ?c2 ?k2 ?a3 ?l3 ?c3 ?k3 ?a4 ?l4 ?c4 ?k4 ?a5 ?l5 ?c5 ?k5 ?a6 ?l6 ?c6 ?k6 ?a7 ?l7 ?c7 ?k7 ?a8 ?l8 ?c8 ?k8 ?a9 ?l9 ?c9 ?k9 ?a10 ?l10 ?c10 ?k10 ?a11 ?l11 ?c11 ?k11 ?a12 ?l12 ?c12 ?k12 ?a13 ?l13 ?c13 ?k13 ?a14 ?l14 ?c14 ?k14 ?a15 ?l15 ?c15 ?k15 ?a16 ?l16 ?c16 ?k16 ?a17 ?l17 ?c17 ?k17 ?a18 ?l18 ?c18 ?k18 ?a19 ?l19 ?c19 ?k19 ?a20 ?l20 ?c20 ?k20 ?a21 ?l21 ?c21 ?k21 ?a22 ?l22 ?c22 ?k22 ?a23 ?l23 ?c23 ?k23 ?a24 ?l24 ?c24 ?k24 ?a25 ?l25 ?c25 ?k25 ?z_all ?z_any ?z_bool ?z_dict ?z_int ?z_isinstance ?z_len ?z_list ?z_min ?z_range ?z_sorted ?z_str ?z_sum ?z_tuple ?y_MAX_DEPTH ?t2 ?n2 ?r2 ?t9 ?n9 ?r9 ?t11 ?n11 ?r11
    (case a0 => k_is)
    (case l0 => k_is)
    (case c0 => k_is)
    (case k0 => k_is)
    (case a1 => k_is)
    (case l1 => k_is)
    (case c1 => k_is)
    (case k1 => k_is)
    (case a2 => k_is)
    (case l2 => k_is)
    (case c2 => k_is)
    (case k2 => k_is)
    (case a3 => k_is)
    (case l3 => k_is)
    (case c3 => k_is)
    (case k3 => k_is)
    (case a4 => k_is)
    (case l4 => k_is)
    (case c4 => k_is)
    (case k4 => k_is)
    (case a5 => k_is)
    (case l5 => k_is)
    (case c5 => k_is)
    (case k5 => k_is)
    (case a6 => k_is)
    (case l6 => k_is)
    (case c6 => k_is)
    (case k6 => k_is)
    (case a7 => k_is)
    (case l7 => k_is)
    (case c7 => k_is)
    (case k7 => k_is)
    (case a8 => k_is)
    (case l8 => k_is)
    (case c8 => k_is)
    (case k8 => k_is)
    (case a9 => k_is)
    (case l9 => k_is)
    (case c9 => k_is)
    (case k9 => k_is)
    (case a10 => k_is)
    (case l10 => k_is)
    (case c10 => k_is)
    (case k10 => k_is)
    (case a11 => k_is)
    (case l11 => k_is)
    (case c11 => k_is)
    (case k11 => k_is)
    (case a12 => k_is)
    (case l12 => k_is)
    (case c12 => k_is)
    (case k12 => k_is)
    (case a13 => k_is)
    (case l13 => k_is)
    (case c13 => k_is)
    (case k13 => k_is)
    (case a14 => k_is)
    (case l14 => k_is)
    (case c14 => k_is)
    (case k14 => k_is)
    (case a15 => k_is)
    (case l15 => k_is)
    (case c15 => k_is)
    (case k15 => k_is)
    (case a16 => k_is)
    (case l16 => k_is)
    (case c16 => k_is)
    (case k16 => k_is)
    (case a17 => k_is)
    (case l17 => k_is)
    (case c17 => k_is)
    (case k17 => k_is)
    (case a18 => k_is)
    (case l18 => k_is)
    (case c18 => k_is)
    (case k18 => k_is)
    (case a19 => k_is)
    (case l19 => k_is)
    (case c19 => k_is)
    (case k19 => k_is)
    (case a20 => k_is)
    (case l20 => k_is)
    (case c20 => k_is)
    (case k20 => k_is)
    (case a21 => k_is)
    (case l21 => k_is)
    (case c21 => k_is)
    (case k21 => k_is)
    (case a22 => k_is)
    (case l22 => k_is)
    (case c22 => k_is)
    (case k22 => k_is)
    (case a23 => k_is)
    (case l23 => k_is)
    (case c23 => k_is)
    (case k23 => k_is)
    (case a24 => k_is)
    (case l24 => k_is)
    (case c24 => k_is)
    (case k24 => k_is)
    (case a25 => k_is)
    (case l25 => k_is)
    (case c25 => k_is)
    (case k25 => k_is)
    (case z_all => k_is)
    (case z_any => k_is)
    (case z_bool => k_is)
    (case z_dict => k_is)
    (case z_int => k_is)
    (case z_isinstance => k_is)
    (case z_len => k_is)
    (case z_list => k_is)
    (case z_min => k_is)
    (case z_range => k_is)
    (case z_sorted => k_is)
    (case z_str => k_is)
    (case z_sum => k_is)
    (case z_tuple => k_is)
    (case y_MAX_DEPTH => k_is)
    (case t2 => rfl)
    (case n2 => rfl)
    (case r2 => rfl)
    (case t9 => rfl)
    (case n9 => rfl)
    (case r9 => rfl)
    (case t11 => rfl)
    (case n11 => rfl)
    (case r11 => rfl)
end
