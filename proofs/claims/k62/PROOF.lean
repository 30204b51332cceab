import PyProof.Rows.All
import Wide.All
import OpenK.AllK
import Wide.FinOn
import HandS.ForMost
import HandS.Wide
import HandS.IsInst
import HandS.Conv
import HandS.Style
import HandS.TupAny
import HandS.TupMul
import KE.DataEq
import KE.DataCmp
import KE.SortData
import PySem.Challenge.RW_onewatcher_k62_great_payments
set_option Elab.async false
set_option linter.all false
set_option maxRecDepth 100000
section
namespace Dn
open PySem PySem.Spec L2

/-! ## data, what stands for it -/
abbrev D := PyData
abbrev Ix := Nat → Option Addr

mutual
/-- the value v stands for the data d: its lists and tuples lie in G; a dict of the one pair (n, None) is the store's object n -/
def Rep (K : PySem.W.Frag) (ι : Ix) (G : Hp) : D → V → Prop
  | .none, v => v = .non
  | .bool b, v => v = .bl b
  | .int i, v => v = .int i
  | .str s, v => v = .str s
  | .list ds, v => ∃ a vs, v = .ref a ∧ G a = some (.lst vs) ∧ vs.length ≤ sizeLine ∧ RepL K ι G ds vs
  | .tuple ds, v => ∃ a vs, v = .ref a ∧ SqT K G a vs ∧ vs.length ≤ sizeLine ∧ RepL K ι G ds vs
  | .dict kvs, v => ∃ (n : Nat) (a : Addr), kvs = [(.int n, .none)] ∧ ι n = some a ∧ v = .ref a
def RepL (K : PySem.W.Frag) (ι : Ix) (G : Hp) : List D → List V → Prop
  | [], vs => vs = []
  | d :: ds, vs => ∃ v ws, vs = v :: ws ∧ Rep K ι G d v ∧ RepL K ι G ds ws
end
/-- the store's object n, as data -/
def ob (n : Nat) : D := .dict [(.int n, .none)]

theorem SqT.mono {K : PySem.W.Frag} {G G' : Hp} (hG : ∀ a o, G a = some o → G' a = some o) {a : Addr} {xs : List V} (h : SqT K G a xs) : SqT K G' a xs := by
  rcases h with (h | ⟨o, h⟩) | h
  · exact .inl (.inl (hG _ _ h))
  · exact .inl (.inr ⟨o, hG _ _ h⟩)
  · exact .inr h
mutual
theorem Rep.mono {K : PySem.W.Frag} {ι ι' : Ix} {G G' : Hp} (hι : ∀ n a, ι n = some a → ι' n = some a) (hG : ∀ a o, G a = some o → G' a = some o) : ∀ (d : D) (v : V), Rep K ι G d v → Rep K ι' G' d v
  | .none, _, h => h
  | .bool _, _, h => h
  | .int _, _, h => h
  | .str _, _, h => h
  | .list ds, v, h => by
    rw [Rep] at h ⊢
    obtain ⟨a, vs, e, g, z, r⟩ := h
    exact ⟨a, vs, e, hG _ _ g, z, RepL.mono hι hG ds vs r⟩
  | .tuple ds, v, h => by
    rw [Rep] at h ⊢
    obtain ⟨a, vs, e, g, z, r⟩ := h
    exact ⟨a, vs, e, SqT.mono hG g, z, RepL.mono hι hG ds vs r⟩
  | .dict kvs, v, h => by
    rw [Rep] at h ⊢
    obtain ⟨n, a, e, i, r⟩ := h
    exact ⟨n, a, e, hι _ _ i, r⟩
theorem RepL.mono {K : PySem.W.Frag} {ι ι' : Ix} {G G' : Hp} (hι : ∀ n a, ι n = some a → ι' n = some a) (hG : ∀ a o, G a = some o → G' a = some o) : ∀ (ds : List D) (vs : List V), RepL K ι G ds vs → RepL K ι' G' ds vs
  | [], _, h => by rw [RepL] at h ⊢; exact h
  | d :: ds, vs, h => by
    rw [RepL] at h ⊢
    obtain ⟨v, ws, e, r, q⟩ := h
    exact ⟨v, ws, e, Rep.mono hι hG d v r, RepL.mono hι hG ds ws q⟩
end
section
variable {K : PySem.W.Frag} {ι : Ix} {G : Hp}
theorem RepL.nil : RepL K ι G [] [] := by rw [RepL]
theorem RepL.cons {d : D} {v : V} {ds : List D} {vs : List V} (h : Rep K ι G d v) (t : RepL K ι G ds vs) : RepL K ι G (d :: ds) (v :: vs) := by
  rw [RepL]; exact ⟨v, vs, rfl, h, t⟩
theorem RepL.inv {d : D} {ds : List D} {vs : List V} (h : RepL K ι G (d :: ds) vs) : ∃ v ws, vs = v :: ws ∧ Rep K ι G d v ∧ RepL K ι G ds ws := by
  rw [RepL] at h; exact h
theorem RepL.length : ∀ {ds : List D} {vs : List V}, RepL K ι G ds vs → vs.length = ds.length
  | [], _, h => by rw [RepL] at h; subst h; rfl
  | d :: ds, _, h => by
    obtain ⟨v, ws, rfl, _, q⟩ := RepL.inv h
    rw [List.length_cons, List.length_cons, RepL.length q]
theorem RepL.get : ∀ {ds : List D} {vs : List V} {i : Nat} {d : D}, RepL K ι G ds vs → ds[i]? = some d → ∃ v, vs[i]? = some v ∧ Rep K ι G d v
  | [], _, _, _, _, e => by simp at e
  | d :: ds, _, 0, _, h, e => by
    obtain ⟨v, ws, rfl, r, _⟩ := RepL.inv h
    simp at e; subst e
    exact ⟨v, rfl, r⟩
  | d :: ds, _, i + 1, _, h, e => by
    obtain ⟨v, ws, rfl, _, q⟩ := RepL.inv h
    rw [List.getElem?_cons_succ] at e ⊢
    exact RepL.get q e
theorem RepL.getV {ds : List D} {vs : List V} {i : Nat} {v : V} (h : RepL K ι G ds vs) (e : vs[i]? = some v) : ∃ d, ds[i]? = some d ∧ Rep K ι G d v := by
  have hl := h.length
  have hi : i < vs.length := (List.getElem?_eq_some_iff.mp e).1
  have e2 : ds[i]? = some (ds[i]'(hl ▸ hi)) := List.getElem?_eq_getElem _
  obtain ⟨w, e3, r⟩ := h.get e2
  rw [e] at e3; cases e3
  exact ⟨_, e2, r⟩
theorem RepL.append : ∀ {ds es : List D} {vs ws : List V}, RepL K ι G ds vs → RepL K ι G es ws → RepL K ι G (ds ++ es) (vs ++ ws)
  | [], _, _, _, h, q => by rw [RepL] at h; subst h; exact q
  | d :: ds, _, _, _, h, q => by
    obtain ⟨v, vs, rfl, r, t⟩ := RepL.inv h
    exact RepL.cons r (RepL.append t q)
theorem RepL.set : ∀ {ds : List D} {vs : List V} {d : D} {v : V} (i : Nat), RepL K ι G ds vs → Rep K ι G d v → RepL K ι G (ds.set i d) (vs.set i v)
  | [], _, _, _, _, h, _ => by rw [RepL] at h; subst h; exact .nil
  | d :: ds, _, _, _, 0, h, q => by
    obtain ⟨v, vs, rfl, r, t⟩ := RepL.inv h
    exact .cons q t
  | d :: ds, _, _, _, i + 1, h, q => by
    obtain ⟨v, vs, rfl, r, t⟩ := RepL.inv h
    exact .cons r (RepL.set i t q)
theorem RepL.take : ∀ {ds : List D} {vs : List V} (n : Nat), RepL K ι G ds vs → RepL K ι G (ds.take n) (vs.take n)
  | _, _, 0, _ => .nil
  | [], _, n + 1, h => by rw [RepL] at h; subst h; exact .nil
  | d :: ds, _, n + 1, h => by
    obtain ⟨v, vs, rfl, r, t⟩ := RepL.inv h
    exact .cons r (RepL.take n t)
theorem RepL.drop : ∀ {ds : List D} {vs : List V} (n : Nat), RepL K ι G ds vs → RepL K ι G (ds.drop n) (vs.drop n)
  | _, _, 0, h => h
  | [], _, n + 1, h => by rw [RepL] at h; subst h; exact .nil
  | d :: ds, _, n + 1, h => by
    obtain ⟨v, vs, rfl, r, t⟩ := RepL.inv h
    exact RepL.drop n t
theorem RepL.eraseIdx : ∀ {ds : List D} {vs : List V} (i : Nat), RepL K ι G ds vs → RepL K ι G (ds.eraseIdx i) (vs.eraseIdx i)
  | [], _, _, h => by rw [RepL] at h; subst h; exact .nil
  | d :: ds, _, 0, h => by
    obtain ⟨v, vs, rfl, r, t⟩ := RepL.inv h
    exact t
  | d :: ds, _, i + 1, h => by
    obtain ⟨v, vs, rfl, r, t⟩ := RepL.inv h
    exact .cons r (RepL.eraseIdx i t)
theorem RepL.reverse : ∀ {ds : List D} {vs : List V}, RepL K ι G ds vs → RepL K ι G ds.reverse vs.reverse
  | [], _, h => by rw [RepL] at h; subst h; exact .nil
  | d :: ds, _, h => by
    obtain ⟨v, vs, rfl, r, t⟩ := RepL.inv h
    rw [List.reverse_cons, List.reverse_cons]
    exact (RepL.reverse t).append (.cons r .nil)
theorem RepL.dropLast {ds : List D} {vs : List V} (h : RepL K ι G ds vs) : RepL K ι G ds.dropLast vs.dropLast := by
  rw [List.dropLast_eq_take, List.dropLast_eq_take, h.length]
  exact h.take _
theorem RepL.intsV : ∀ {ns : List Int} {vs : List V}, RepL K ι G (ns.map PyData.int) vs → vs = ns.map V.int
  | [], _, h => by simpa [RepL] using h
  | n :: ns, _, h => by
    obtain ⟨v, vs, rfl, r, t⟩ := RepL.inv (show RepL K ι G (.int n :: ns.map PyData.int) _ from h)
    rw [Rep] at r; subst r
    rw [RepL.intsV t]; rfl
theorem RepL.ints : ∀ (ns : List Int), RepL K ι G (ns.map PyData.int) (ns.map V.int)
  | [] => .nil
  | n :: ns => .cons (by rw [Rep]) (RepL.ints ns)
theorem RepL.blsV : ∀ {ns : List Bool} {vs : List V}, RepL K ι G (ns.map PyData.bool) vs → vs = ns.map V.bl
  | [], _, h => by simpa [RepL] using h
  | n :: ns, _, h => by
    obtain ⟨v, vs, rfl, r, t⟩ := RepL.inv (show RepL K ι G (.bool n :: ns.map PyData.bool) _ from h)
    rw [Rep] at r; subst r
    rw [RepL.blsV t]; rfl
theorem RepL.strsV : ∀ {ns : List Str} {vs : List V}, RepL K ι G (ns.map PyData.str) vs → vs = ns.map V.str
  | [], _, h => by simpa [RepL] using h
  | n :: ns, _, h => by
    obtain ⟨v, vs, rfl, r, t⟩ := RepL.inv (show RepL K ι G (.str n :: ns.map PyData.str) _ from h)
    rw [Rep] at r; subst r
    rw [RepL.strsV t]; rfl
theorem RepL.strs : ∀ (ns : List Str), RepL K ι G (ns.map PyData.str) (ns.map V.str)
  | [] => .nil
  | n :: ns => .cons (by rw [Rep]) (RepL.strs ns)
end

/-! ## the store, the ghost, steps -/
/-- an object of the store -/
inductive WO where
  | lst (xs : List D)
/-- the store: may it grow; its objects -/
structure Wd where
  live : Bool
  objs : List WO
/-- ghost: where the store's objects stand, which addresses are the store's, what is settled (lists and tuples that never change again) -/
structure Gh where
  live : Bool
  ι : Ix
  S : Addr → Prop
  G : Hp
def isLst : HO → Bool
  | .lst _ => true
  | _ => false
def isTup : HO → Bool
  | .tup _ => true
  | _ => false
def isSeq (o : HO) : Bool := isLst o || isTup o
def WO.is (K : PySem.W.Frag) (ι : Ix) (G H : Hp) (a : Addr) : WO → Prop
  | .lst xs => ∃ vs, H a = some (.lst vs) ∧ RepL K ι G xs vs

structure Step (g : Gh) (H : Hp) (g' : Gh) (H' : Hp) : Prop where
  ιm : ∀ n a, g.ι n = some a → g'.ι n = some a
  Gm : ∀ a o, g.G a = some o → g'.G a = some o
  Sm : ∀ a, g.S a → g'.S a
  fr : ∀ a o, H a = some o → ¬ g.S a → H' a = some o
  nS : ∀ a, g'.S a → g.S a ∨ H a = none
  al : ∀ a, H' a = none → H a = none
  nw : ∀ a vs, g'.G a = some (.lst vs) → g.G a = some (.lst vs) ∨ H a = none
  lv : g'.live = g.live
  ιl : g.live = false → g'.ι = g.ι
structure GOk (K : PySem.W.Frag) (g : Gh) (H : Hp) (ω : Wd) : Prop where
  sub : ∀ a o, g.G a = some o → H a = some o
  seq : ∀ a o, g.G a = some o → isSeq o = true
  nS : ∀ a o, g.G a = some o → ¬ g.S a
  inj : ∀ n m a, n < ω.objs.length → m < ω.objs.length → g.ι n = some a → g.ι m = some a → n = m
  inS : ∀ n a, n < ω.objs.length → g.ι n = some a → g.S a
  st : ∀ n o, ω.objs[n]? = some o → ∃ a, g.ι n = some a ∧ o.is K g.ι g.G H a
  sl : ∀ a, g.S a → ∃ o, H a = some o ∧ isTup o = false
  lv : ω.live = true → g.live = true ∧ ∀ n, ω.objs.length ≤ n → g.ι n = none

theorem Step.refl (g : Gh) (H : Hp) : Step g H g H := ⟨fun _ _ h => h, fun _ _ h => h, fun _ h => h, fun _ _ h _ => h, fun _ h => .inl h, fun _ h => h, fun _ _ h => .inl h, rfl, fun _ => rfl⟩
theorem Step.trans {g0 g1 g2 : Gh} {H0 H1 H2 : Hp} (a : Step g0 H0 g1 H1) (b : Step g1 H1 g2 H2) : Step g0 H0 g2 H2 where
  ιm n x h := b.ιm n x (a.ιm n x h)
  Gm n x h := b.Gm n x (a.Gm n x h)
  Sm x h := b.Sm x (a.Sm x h)
  fr x o h hs := b.fr x o (a.fr x o h hs) fun q => by
    rcases a.nS x q with q | q
    · exact hs q
    · rw [h] at q; cases q
  nS x h := by
    rcases b.nS x h with q | q
    · exact a.nS x q
    · exact .inr (a.al x q)
  al x h := a.al x (b.al x h)
  nw x vs h := by
    rcases b.nw x vs h with q | q
    · exact a.nw x vs q
    · exact .inr (a.al x q)
  lv := b.lv.trans a.lv
  ιl h := (b.ιl (a.lv.trans h)).trans (a.ιl h)

section
open Classical
/-- what a def may read besides what is settled: its own lists too -/
noncomputable def Fm (g0 : Gh) (H0 : Hp) (g : Gh) (H : Hp) : Hp := fun a => match H a with
  | some o => if isSeq o = true ∧ ¬ g.S a ∧ (isLst o = true → g0.G a = some o ∨ H0 a = none) then some o else none
  | none => none
end
theorem Fm_some {g0 : Gh} {H0 : Hp} {g : Gh} {H : Hp} {a : Addr} {o : HO} : Fm g0 H0 g H a = some o ↔ H a = some o ∧ isSeq o = true ∧ ¬ g.S a ∧ (isLst o = true → g0.G a = some o ∨ H0 a = none) := by
  unfold Fm
  cases e : H a with
  | none => simp
  | some u =>
    simp only
    split
    · rename_i h
      constructor
      · intro q; cases q; exact ⟨rfl, h⟩
      · intro q; exact q.1
    · rename_i h
      constructor
      · intro q; cases q
      · intro q; cases q.1; exact absurd q.2 h
noncomputable def hb (b : Bool) (g0 : Gh) (H0 : Hp) (g : Gh) (H : Hp) : Hp := if b = true then g.G else Fm g0 H0 g H
theorem hb_true {g0 : Gh} {H0 : Hp} {g : Gh} {H : Hp} : hb true g0 H0 g H = g.G := rfl
theorem hb_false {g0 : Gh} {H0 : Hp} {g : Gh} {H : Hp} : hb false g0 H0 g H = Fm g0 H0 g H := rfl
section
variable {K : PySem.W.Frag} {g0 g g' : Gh} {H0 H H' : Hp} {ω ω' : Wd} {b : Bool}
theorem G_Fm (ok : GOk K g H ω) (st : Step g0 H0 g H) {a : Addr} {o : HO} (h : g.G a = some o) : Fm g0 H0 g H a = some o := by
  refine Fm_some.mpr ⟨ok.sub a o h, ok.seq a o h, ok.nS a o h, fun hl => ?_⟩
  cases o with
  | lst vs => exact st.nw a vs h
  | _ => cases hl
theorem G_hb (ok : GOk K g H ω) (st : Step g0 H0 g H) {a : Addr} {o : HO} (h : g.G a = some o) : hb b g0 H0 g H a = some o := by
  cases b with
  | true => exact h
  | false => exact G_Fm ok st h
theorem hb_sub (ok : GOk K g H ω) {a : Addr} {o : HO} (h : hb b g0 H0 g H a = some o) : H a = some o ∧ isSeq o = true ∧ ¬ g.S a := by
  cases b with
  | true => exact ⟨ok.sub a o h, ok.seq a o h, ok.nS a o h⟩
  | false => obtain ⟨h1, h2, h3, _⟩ := Fm_some.mp h; exact ⟨h1, h2, h3⟩
theorem hb_mono (s : Step g H g' H') {a : Addr} {o : HO} (h : hb b g0 H0 g H a = some o) : hb b g0 H0 g' H' a = some o := by
  cases b with
  | true => exact s.Gm a o h
  | false =>
    obtain ⟨h1, h2, h3, h4⟩ := Fm_some.mp h
    refine Fm_some.mpr ⟨s.fr a o h1 h3, h2, fun q => ?_, h4⟩
    rcases s.nS a q with q | q
    · exact h3 q
    · rw [h1] at q; cases q
/-- the value stands for the data: settled (b), or to be read only -/
def RB (K : PySem.W.Frag) (b : Bool) (g0 : Gh) (H0 : Hp) (g : Gh) (H : Hp) (d : D) (v : V) : Prop := Rep K g.ι (hb b g0 H0 g H) d v
def RBL (K : PySem.W.Frag) (b : Bool) (g0 : Gh) (H0 : Hp) (g : Gh) (H : Hp) (ds : List D) (vs : List V) : Prop := RepL K g.ι (hb b g0 H0 g H) ds vs
theorem RB.mono {d : D} {v : V} (h : RB K b g0 H0 g H d v) (s : Step g H g' H') : RB K b g0 H0 g' H' d v := Rep.mono s.ιm (fun _ _ => hb_mono s) d v h
theorem RBL.mono {d : List D} {v : List V} (h : RBL K b g0 H0 g H d v) (s : Step g H g' H') : RBL K b g0 H0 g' H' d v := RepL.mono s.ιm (fun _ _ => hb_mono s) d v h
theorem RB.weak {d : D} {v : V} (h : RB K true g0 H0 g H d v) (ok : GOk K g H ω) (st : Step g0 H0 g H) : RB K b g0 H0 g H d v := Rep.mono (fun _ _ h => h) (fun _ _ h => G_hb ok st h) d v h
theorem RBL.weak {d : List D} {v : List V} (h : RBL K true g0 H0 g H d v) (ok : GOk K g H ω) (st : Step g0 H0 g H) : RBL K b g0 H0 g H d v := RepL.mono (fun _ _ h => h) (fun _ _ h => G_hb ok st h) d v h
end

/-! ## slots -/
inductive SV where
  | un
  | val (d : D)
  | own (xs : List D)
abbrev Ro := List SV
def SV.is (K : PySem.W.Frag) (H0 : Hp) (g : Gh) (H : Hp) : SV → Option V → Prop
  | .un, _ => True
  | .val d, o => ∃ v, o = some v ∧ Rep K g.ι g.G d v
  | .own xs, o => ∃ p vs, o = some (.ref p) ∧ H p = some (.lst vs) ∧ g.G p = none ∧ ¬ g.S p ∧ H0 p = none ∧ vs.length ≤ sizeLine ∧ RepL K g.ι g.G xs vs
structure Slots (K : PySem.W.Frag) (H0 : Hp) (g : Gh) (H : Hp) (ρ : Ro) (σ : St) : Prop where
  len : σ.length = ρ.length
  at_ : ∀ (i : Nat) (s : SV) (o : Option V), ρ[i]? = some s → σ[i]? = some o → s.is K H0 g H o
  ap : ∀ (i j : Nat) (xs ys : List D) (p : Addr), ρ[i]? = some (.own xs) → ρ[j]? = some (.own ys) → σ[i]? = some (some (.ref p)) → σ[j]? = some (some (.ref p)) → i = j
section
variable {K : PySem.W.Frag} {g0 g g' : Gh} {H0 H H' : Hp} {ω ω' : Wd} {b : Bool} {ρ : Ro} {σ : St}
theorem SV.is.step {s : SV} {o : Option V} (h : s.is K H0 g H o) (st : Step g H g' H') (ok : GOk K g' H' ω') : s.is K H0 g' H' o := by
  cases s with
  | un => trivial
  | val d => obtain ⟨v, e, r⟩ := h; exact ⟨v, e, r.mono st.ιm st.Gm⟩
  | own xs =>
    obtain ⟨p, vs, e, hp, hg, hs, h0, z, r⟩ := h
    have hp' := st.fr p _ hp hs
    refine ⟨p, vs, e, hp', ?_, fun q => ?_, h0, z, r.mono st.ιm st.Gm⟩
    · cases q : g'.G p with
      | none => rfl
      | some o =>
        have e2 := ok.sub p o q
        rw [hp'] at e2; cases e2
        rcases st.nw p vs q with z | z
        · rw [hg] at z; cases z
        · rw [hp] at z; cases z
    · rcases st.nS p q with z | z
      · exact hs z
      · rw [hp] at z; cases z
theorem Slots.step (h : Slots K H0 g H ρ σ) (st : Step g H g' H') (ok : GOk K g' H' ω') : Slots K H0 g' H' ρ σ :=
  ⟨h.len, fun i s o e1 e2 => (h.at_ i s o e1 e2).step st ok, h.ap⟩
theorem Slots.get (h : Slots K H0 g H ρ σ) {i : Nat} {s : SV} (e : ρ[i]? = some s) : ∃ o, σ[i]? = some o ∧ s.is K H0 g H o := by
  have hi : i < ρ.length := (List.getElem?_eq_some_iff.mp e).1
  have e2 : σ[i]? = some (σ[i]'(h.len ▸ hi)) := List.getElem?_eq_getElem _
  exact ⟨_, e2, h.at_ i s _ e e2⟩
/-- a slot gets a value that is no list of one's own -/
theorem Slots.set (h : Slots K H0 g H ρ σ) (i : Nat) {s : SV} {o : Option V} (hs : s.is K H0 g H o) (hn : ∀ xs, s ≠ .own xs) : Slots K H0 g H (ρ.set i s) (σ.set i o) := by
  refine ⟨by simp [h.len], fun j s' o' e1 e2 => ?_, fun j k xs ys p e1 e2 e3 e4 => ?_⟩
  · by_cases hj : i = j
    · subst hj
      rw [List.getElem?_set] at e1 e2
      simp only [if_true] at e1 e2
      split at e1
      · cases e1
        split at e2
        · cases e2; exact hs
        · cases e2
      · cases e1
    · rw [List.getElem?_set_ne hj] at e1 e2
      exact h.at_ j s' o' e1 e2
  · have hj : i ≠ j := fun z => by
      subst z
      rw [List.getElem?_set] at e1
      simp only [if_true] at e1
      split at e1
      · exact hn xs (Option.some.inj e1)
      · cases e1
    have hk : i ≠ k := fun z => by
      subst z
      rw [List.getElem?_set] at e2
      simp only [if_true] at e2
      split at e2
      · exact hn ys (Option.some.inj e2)
      · cases e2
    rw [List.getElem?_set_ne hj] at e1 e3
    rw [List.getElem?_set_ne hk] at e2 e4
    exact h.ap j k xs ys p e1 e2 e3 e4
/-- a slot gets a list of one's own that stands in no other slot -/
theorem Slots.setOwn (h : Slots K H0 g H ρ σ) (i : Nat) {zs : List D} {q : Addr} (hs : (SV.own zs).is K H0 g H (some (.ref q))) (hn : ∀ j xs, j ≠ i → ρ[j]? = some (.own xs) → σ[j]? ≠ some (some (.ref q))) :
    Slots K H0 g H (ρ.set i (.own zs)) (σ.set i (some (.ref q))) := by
  refine ⟨by simp [h.len], fun j s' o' e1 e2 => ?_, fun j k xs ys p e1 e2 e3 e4 => ?_⟩
  · by_cases hj : i = j
    · subst hj
      rw [List.getElem?_set] at e1 e2
      simp only [if_true] at e1 e2
      split at e1
      · cases e1
        split at e2
        · cases e2; exact hs
        · cases e2
      · cases e1
    · rw [List.getElem?_set_ne hj] at e1 e2
      exact h.at_ j s' o' e1 e2
  · by_cases hj : i = j
    · by_cases hk : i = k
      · omega
      · subst hj
        rw [List.getElem?_set_ne hk] at e2 e4
        rw [List.getElem?_set] at e3
        simp only [if_true] at e3
        split at e3
        · cases e3
          exact absurd e4 (hn k ys (Ne.symm hk) e2)
        · cases e3
    · by_cases hk : i = k
      · subst hk
        rw [List.getElem?_set_ne hj] at e1 e3
        rw [List.getElem?_set] at e4
        simp only [if_true] at e4
        split at e4
        · cases e4
          exact absurd e3 (hn j xs (Ne.symm hj) e1)
        · cases e4
      · rw [List.getElem?_set_ne hj] at e1 e3
        rw [List.getElem?_set_ne hk] at e2 e4
        exact h.ap j k xs ys p e1 e2 e3 e4
end

/-! ## a new object -/
def Gh.add (g : Gh) (p : Addr) (o : HO) : Gh := { g with G := upd g.G p o }
section
variable {K : PySem.W.Frag} {g0 g g' : Gh} {H0 H H' : Hp} {ω ω' : Wd} {b : Bool} {ρ : Ro} {σ : St}
theorem WO.is.mono {o : WO} {a : Addr} {ι ι' : Ix} {G G' : Hp} (h : o.is K ι G H a) (hι : ∀ n x, ι n = some x → ι' n = some x) (hG : ∀ x o, G x = some o → G' x = some o) (hH : H' a = H a) : o.is K ι' G' H' a := by
  cases o with
  | lst xs => obtain ⟨vs, e, r⟩ := h; exact ⟨vs, hH.trans e, r.mono hι hG⟩
theorem upd_keep {p : Addr} {o u : HO} {a : Addr} (hp : H p = none) (h : H a = some u) : upd H p o a = some u := by
  rw [upd_ne (ne_of_none h hp)]; exact h
theorem WO.is.there {o : WO} {a : Addr} {ι : Ix} {G : Hp} (h : o.is K ι G H a) : ∃ u, H a = some u := by
  cases o with
  | lst xs => obtain ⟨vs, e, _⟩ := h; exact ⟨_, e⟩
theorem alloc (ok : GOk K g H ω) {p : Addr} {o : HO} (hp : H p = none) (ho : isSeq o = true) : Step g H (g.add p o) (upd H p o) ∧ GOk K (g.add p o) (upd H p o) ω := by
  have nG : g.G p = none := by
    cases q : g.G p with
    | none => rfl
    | some u => rw [ok.sub p u q] at hp; cases hp
  have nSp : ¬ g.S p := fun q => by obtain ⟨u, e, _⟩ := ok.sl p q; rw [hp] at e; cases e
  refine ⟨⟨fun _ _ h => h, fun a u h => upd_keep nG h, fun _ h => h, fun a u h _ => upd_keep hp h, fun _ h => .inl h, fun a h => ?_, fun a vs h => ?_, rfl, fun _ => rfl⟩, ⟨fun a u h => ?_, fun a u h => ?_, fun a u h => ?_, ok.inj, ok.inS, fun n u e => ?_, fun a h => ?_, ok.lv⟩⟩
  · by_cases hap : a = p
    · subst hap; exact hp
    · rw [upd_ne hap] at h; exact h
  · by_cases hap : a = p
    · subst hap; exact .inr hp
    · exact .inl (by rw [Gh.add] at h; simp only at h; rw [upd_ne hap] at h; exact h)
  · by_cases hap : a = p
    · subst hap
      rw [Gh.add] at h; simp only at h; rw [upd_same] at h ⊢; exact h
    · rw [Gh.add] at h; simp only at h; rw [upd_ne hap] at h ⊢; exact ok.sub a u h
  · by_cases hap : a = p
    · subst hap
      rw [Gh.add] at h; simp only at h; rw [upd_same] at h; cases h; exact ho
    · rw [Gh.add] at h; simp only at h; rw [upd_ne hap] at h; exact ok.seq a u h
  · by_cases hap : a = p
    · subst hap; exact nSp
    · rw [Gh.add] at h; simp only at h; rw [upd_ne hap] at h; exact ok.nS a u h
  · obtain ⟨a, ia, h⟩ := ok.st n u e
    obtain ⟨z, ez⟩ := h.there
    exact ⟨a, ia, h.mono (fun _ _ h => h) (fun x w q => upd_keep nG q) (upd_ne (ne_of_none ez hp))⟩
  · obtain ⟨u, e, t⟩ := ok.sl a h
    exact ⟨u, upd_keep hp e, t⟩
/-- a new list that is not settled -/
theorem allocOwn (ok : GOk K g H ω) {p : Addr} {o : HO} (hp : H p = none) : Step g H g (upd H p o) ∧ GOk K g (upd H p o) ω := by
  refine ⟨⟨fun _ _ h => h, fun _ _ h => h, fun _ h => h, fun a u h _ => upd_keep hp h, fun _ h => .inl h, fun a h => ?_, fun a vs h => .inl h, rfl, fun _ => rfl⟩, ⟨fun a u h => upd_keep hp (ok.sub a u h), ok.seq, ok.nS, ok.inj, ok.inS, fun n u e => ?_, fun a h => ?_, ok.lv⟩⟩
  · by_cases hap : a = p
    · subst hap; exact hp
    · rw [upd_ne hap] at h; exact h
  · obtain ⟨a, ia, h⟩ := ok.st n u e
    obtain ⟨z, ez⟩ := h.there
    exact ⟨a, ia, h.mono (fun _ _ h => h) (fun _ _ h => h) (upd_ne (ne_of_none ez hp))⟩
  · obtain ⟨u, e, t⟩ := ok.sl a h
    exact ⟨u, upd_keep hp e, t⟩
theorem hb_new (ok : GOk K g H ω) (st : Step g0 H0 g H) {p : Addr} {o : HO} (hp : H p = none) (ho : isSeq o = true) : hb b g0 H0 (g.add p o) (upd H p o) p = some o := by
  cases b with
  | true => exact upd_same
  | false =>
    have nSp : ¬ (g.add p o).S p := fun q => by obtain ⟨u, e, _⟩ := ok.sl p q; rw [hp] at e; cases e
    exact Fm_some.mpr ⟨upd_same, ho, nSp, fun _ => .inr (st.al p hp)⟩
end
section
variable {K : PySem.W.Frag} {g0 g g' : Gh} {H0 H H' : Hp} {ω ω' : Wd} {b : Bool} {ρ : Ro} {σ : L2.St}
/-- a list that is not settled is changed -/
theorem mutOk (ok : GOk K g H ω) {p : Addr} {o u : HO} (hp : H p = some u) (hG : g.G p = none) (hS : ¬ g.S p) : GOk K g (upd H p o) ω := by
  have ne : ∀ a v, g.G a = some v → a ≠ p := fun a v e z => by subst z; rw [hG] at e; cases e
  refine ⟨fun a v h => by rw [upd_ne (ne a v h)]; exact ok.sub a v h, ok.seq, ok.nS, ok.inj, ok.inS, fun n v e => ?_, fun a h => ?_, ok.lv⟩
  · obtain ⟨a, ia, h⟩ := ok.st n v e
    have hn : n < ω.objs.length := (List.getElem?_eq_some_iff.mp e).1
    have nap : a ≠ p := fun z => by subst z; exact hS (ok.inS n a hn ia)
    exact ⟨a, ia, h.mono (fun _ _ h => h) (fun _ _ h => h) (upd_ne nap)⟩
  · obtain ⟨v, e, t⟩ := ok.sl a h
    have nap : a ≠ p := fun z => by subst z; exact hS h
    exact ⟨v, by rw [upd_ne nap]; exact e, t⟩
theorem mutStep (st : Step g0 H0 g H) {p : Addr} {o : HO} (h0 : H0 p = none) : Step g0 H0 g (upd H p o) := by
  refine ⟨st.ιm, st.Gm, st.Sm, fun a v h hs => ?_, st.nS, fun a h => ?_, st.nw, st.lv, st.ιl⟩
  · rw [upd_ne (ne_of_none h h0)]; exact st.fr a v h hs
  · by_cases hap : a = p
    · subst hap; exact h0
    · rw [upd_ne hap] at h; exact st.al a h
end
end Dn
end

section
namespace Dn
open PySem PySem.Spec L2

/-! ## denotations of expressions, and their soundness -/
abbrev DE := Ro → Wd → Option (D × Wd)
abbrev DT := Ro → Wd → Option (Bool × Wd)
abbrev DA := Ro → Wd → Option (List D × Wd)

def Snd (K : PySem.W.Frag) (b : Bool) (t : TE) (f : DE) : Prop :=
  ∀ (g0 : Gh) (H0 : Hp) (g : Gh) (H : Hp) (ρ : Ro) (ω : Wd) (σ : L2.St) (Q : VK) (d : D) (ω' : Wd), GOk K g H ω → Step g0 H0 g H → Slots K H0 g H ρ σ → f ρ ω = some (d, ω') →
    (∀ v g' H', Step g H g' H' → GOk K g' H' ω' → RB K b g0 H0 g' H' d v → Q v H') → t σ H Q
def SndT (K : PySem.W.Frag) (t : TT) (f : DT) : Prop :=
  ∀ (g0 : Gh) (H0 : Hp) (g : Gh) (H : Hp) (ρ : Ro) (ω : Wd) (σ : L2.St) (Q : Bool → Hp → Prop) (d : Bool) (ω' : Wd), GOk K g H ω → Step g0 H0 g H → Slots K H0 g H ρ σ → f ρ ω = some (d, ω') →
    (∀ g' H', Step g H g' H' → GOk K g' H' ω' → Q d H') → t σ H Q
def SndA (K : PySem.W.Frag) (b : Bool) (t : TA) (f : DA) : Prop :=
  ∀ (g0 : Gh) (H0 : Hp) (g : Gh) (H : Hp) (ρ : Ro) (ω : Wd) (σ : L2.St) (Q : List V → Hp → Prop) (ds : List D) (ω' : Wd), GOk K g H ω → Step g0 H0 g H → Slots K H0 g H ρ σ → f ρ ω = some (ds, ω') →
    (∀ vs g' H', Step g H g' H' → GOk K g' H' ω' → RBL K b g0 H0 g' H' ds vs → Q vs H') → t σ H Q
/-- a list of one's own comes out -/
def SndN (K : PySem.W.Frag) (t : TE) (f : DA) : Prop :=
  ∀ (g0 : Gh) (H0 : Hp) (g : Gh) (H : Hp) (ρ : Ro) (ω : Wd) (σ : L2.St) (Q : VK) (ds : List D) (ω' : Wd), GOk K g H ω → Step g0 H0 g H → Slots K H0 g H ρ σ → f ρ ω = some (ds, ω') →
    (∀ p vs g' H', Step g H g' H' → GOk K g' H' ω' → H p = none → H' p = some (.lst vs) → g'.G p = none → ¬ g'.S p → vs.length ≤ sizeLine → RepL K g'.ι g'.G ds vs → Q (.ref p) H') → t σ H Q
structure EX (X : Cx) (b : Bool) (e : Expr) (t : TE) (f : DE) : Prop where
  pe : PE X e t
  sn : Snd X.K b t f
structure ET (X : Cx) (e : Expr) (t : TT) (f : DT) : Prop where
  pe : PT X e t
  sn : SndT X.K t f
structure EW (X : Cx) (e : Expr) (t : TT) (f : DT) : Prop where
  pe : PW X e t
  sn : SndT X.K t f
structure EA (X : Cx) (b : Bool) (es : List Expr) (t : TA) (f : DA) : Prop where
  pe : PA X es t
  sn : SndA X.K b t f
structure EN (X : Cx) (e : Expr) (t : TE) (f : DA) : Prop where
  pe : PE X e t
  sn : SndN X.K t f
theorem EW.t {X : Cx} {e : Expr} {t : TT} {f : DT} (h : EW X e t f) : ET X e t f := ⟨h.pe.pt, h.sn⟩

section
variable {X : Cx} {K : PySem.W.Frag} {b b' : Bool} {t ta tb tc : TE} {f fa fb fc : DE} {e ea eb ec : Expr} {pos : Pos}
theorem EX.weak (h : EX X true e t f) : EX X false e t f := ⟨h.pe, fun g0 H0 g H ρ ω σ Q d ω' ok st sl e k => h.sn g0 H0 g H ρ ω σ Q d ω' ok st sl e fun v g' H' s ok' r => k v g' H' s ok' (r.weak ok' (st.trans s))⟩
theorem EA.weak {es : List Expr} {t : TA} {f : DA} (h : EA X true es t f) : EA X false es t f := ⟨h.pe, fun g0 H0 g H ρ ω σ Q d ω' ok st sl e k => h.sn g0 H0 g H ρ ω σ Q d ω' ok st sl e fun v g' H' s ok' r => k v g' H' s ok' (r.weak ok' (st.trans s))⟩

/-! ### names, constants -/
def eVar (i : Nat) : DE := fun ρ ω => match ρ[i]? with
  | some (.val d) => some (d, ω)
  | _ => none
def eVarB (i : Nat) : DE := fun ρ ω => match ρ[i]? with
  | some (.own xs) => some (.list xs, ω)
  | _ => none
def eC (d : D) : DE := fun _ ω => some (d, ω)
theorem sn_var (i : Nat) : Snd K true (tVar i) (eVar i) := by
  intro g0 H0 g H ρ ω σ Q d ω' ok st sl e k
  unfold eVar at e
  split at e
  · rename_i d' h
    cases e
    obtain ⟨o, h1, v, rfl, r⟩ := sl.get h
    exact ⟨v, h1, k v g H (.refl _ _) ok r⟩
  · cases e
theorem ex_var {i : Nat} {x : Str} {pos : Pos} (hN : X.N[i]? = some x := by rfl) (hv : Vis X.env.scope x := by first | exact Or.inl rfl | exact Or.inr (Or.inl rfl) | exact Or.inr (Or.inr rfl)) (hd : (x == ("__debug__" : Str)) = false := by decide)
    (hcd : (x == ("__classdict__" : Str)) = false := by decide) : EX X true (.Name x pos) (tVar i) (eVar i) := ⟨pe_var hN hv hd hcd, sn_var i⟩
theorem sn_varB (i : Nat) : Snd K false (tVar i) (eVarB i) := by
  intro g0 H0 g H ρ ω σ Q d ω' ok st sl e k
  unfold eVarB at e
  split at e
  · rename_i xs h
    cases e
    obtain ⟨o, h1, p, vs, rfl, hp, hG, hS, h0, z, r⟩ := sl.get h
    refine ⟨_, h1, k _ g H (.refl _ _) ok ?_⟩
    refine (show Rep K g.ι (Fm g0 H0 g H) (.list xs) (.ref p) from ?_)
    rw [Rep]
    exact ⟨p, vs, rfl, Fm_some.mpr ⟨hp, rfl, hS, fun _ => .inr h0⟩, z, r.mono (fun _ _ h => h) fun _ _ h => G_Fm ok st h⟩
  · cases e
theorem ex_varB {i : Nat} {x : Str} {pos : Pos} (hN : X.N[i]? = some x := by rfl) (hv : Vis X.env.scope x := by first | exact Or.inl rfl | exact Or.inr (Or.inl rfl) | exact Or.inr (Or.inr rfl)) (hd : (x == ("__debug__" : Str)) = false := by decide)
    (hcd : (x == ("__classdict__" : Str)) = false := by decide) : EX X false (.Name x pos) (tVar i) (eVarB i) := ⟨pe_var hN hv hd hcd, sn_varB i⟩
theorem sn_c {d : D} {v : V} (h : ∀ ι G, Rep K ι G d v) : Snd K b (tC v) (eC d) := by
  intro g0 H0 g H ρ ω σ Q d' ω' ok st sl e k
  cases e
  exact k v g H (.refl _ _) ok (h _ _)
theorem ex_int {i : Int} {j} : EX X true (.Constant (.int i) j pos) (tC (.int i)) (eC (.int i)) := ⟨pe_int, sn_c fun _ _ => by rw [Rep]⟩
theorem ex_bl {i : Bool} {j} : EX X true (.Constant (.bool i) j pos) (tC (.bl i)) (eC (.bool i)) := ⟨pe_bl, sn_c fun _ _ => by rw [Rep]⟩
theorem ex_non {j} : EX X true (.Constant .none j pos) (tC .non) (eC .none) := ⟨pe_non, sn_c fun _ _ => by rw [Rep]⟩
theorem ex_str {i : Str} {j} : EX X true (.Constant (.str i) j pos) (tC (.str i)) (eC (.str i)) := ⟨pe_str, sn_c fun _ _ => by rw [Rep]⟩
/-- a module's constant that is a scalar -/
theorem ex_glob {x : Str} {v : V} {u : Value} {d : D} (hm : X.mg x = some u) (r : RelV v u) (h : ∀ ι G, Rep X.K ι G d v) (hg : Gl X x := by rfl) (hd : (x == ("__debug__" : Str)) = false := by decide) : EX X true (.Name x pos) (tC v) (eC d) :=
  ⟨pe_glob hg hm r hd, sn_c h⟩

/-! ### two operands -/
def OpS (K : PySem.W.Frag) (b b' : Bool) (r : R2) (op : D → D → Option D) : Prop :=
  ∀ (g0 : Gh) (H0 : Hp) (g : Gh) (H : Hp) (ω : Wd) (x y : D) (v w : V) (d : D) (Q : VK), GOk K g H ω → Step g0 H0 g H → RB K b g0 H0 g H x v → RB K b g0 H0 g H y w → op x y = some d →
    (∀ u g' H', Step g H g' H' → GOk K g' H' ω → RB K b' g0 H0 g' H' d u → Q u H') → r v w H Q
def eBin (op : D → D → Option D) (f g : DE) : DE := fun ρ ω => match f ρ ω with
  | none => none
  | some (x, ω1) => match g ρ ω1 with
    | none => none
    | some (y, ω2) => match op x y with
      | none => none
      | some z => some (z, ω2)
theorem sn_bin {r : R2} {op : D → D → Option D} (hs : OpS K b b' r op) (ha : Snd K b ta fa) (hb : Snd K b tb fb) : Snd K b' (tOp r ta tb) (eBin op fa fb) := by
  intro g0 H0 g H ρ ω σ Q d ω' ok st sl e k
  unfold eBin at e
  split at e
  · cases e
  rename_i x ω1 e1
  split at e
  · cases e
  rename_i y ω2 e2
  split at e
  · cases e
  rename_i z e3
  cases e
  refine ha g0 H0 g H ρ ω σ _ x ω1 ok st sl e1 fun v g1 H1 s1 ok1 r1 => ?_
  refine hb g0 H0 g1 H1 ρ ω1 σ _ y ω' ok1 (st.trans s1) (sl.step s1 ok1) e2 fun w g2 H2 s2 ok2 r2 => ?_
  exact hs g0 H0 g2 H2 ω' x y v w d Q ok2 ((st.trans s1).trans s2) (r1.mono s2) r2 e3 fun u g' H' s3 ok3 r3 => k u g' H' ((s1.trans s2).trans s3) ok3 r3
theorem ex_bin {o : Operator} {r : R2} {op : D → D → Option D} (ho : OpR X (binaryOp o) r) (hs : OpS X.K b b' r op) (ha : EX X b ea ta fa) (hb : EX X b eb tb fb) : EX X b' (.BinOp ea o eb pos) (tOp r ta tb) (eBin op fa fb) :=
  ⟨pe_op ho ha.pe hb.pe, sn_bin hs ha.sn hb.sn⟩
theorem ex_cmp {o : CmpOp} {r : R2} {op : D → D → Option D} (ho : OpR X (compareOp o) r) (hs : OpS X.K b b' r op) (ha : EX X b ea ta fa) (hb : EX X b eb tb fb) (hm : behindInMarks o eb = false := by first | exact nobehind _ (by decide) (by decide) | rfl) : EX X b' (.Compare ea [o] [eb] pos) (tOp r ta tb) (eBin op fa fb) :=
  ⟨pe_cmpR ho ha.pe hb.pe hm, sn_bin hs ha.sn hb.sn⟩
/-- a value that is a bool, as a test -/
def tOfE (f : DE) : DT := fun ρ ω => match f ρ ω with
  | some (.bool c, ω1) => some (c, ω1)
  | _ => none
theorem sn_test {tt : TT} (h : ∀ σ H Q, t σ H (fun x H1 => ∃ c, x = .bl c ∧ Q c H1) → tt σ H Q) (hs : Snd K b t f) : SndT K tt (tOfE f) := by
  intro g0 H0 g H ρ ω σ Q d ω' ok st sl e k
  unfold tOfE at e
  split at e
  · rename_i c ω1 e1
    cases e
    refine h σ H Q (hs g0 H0 g H ρ ω σ _ _ ω' ok st sl e1 fun v g1 H1 s1 ok1 r1 => ?_)
    have r2 : Rep K g1.ι (hb b g0 H0 g1 H1) (.bool d) v := r1
    rw [Rep] at r2
    exact ⟨d, r2, k g1 H1 s1 ok1⟩
  · cases e
theorem et_val (h : EX X b e t f) (he : ∀ whole, isTrue e X.env whole = (do let v ← whole; standAt e.pos; holding [v] (truthy v)) := by intro _; rfl) : ET X e (tB t) (tOfE f) := ⟨pt_val h.pe he, sn_test (fun _ _ _ h => h) h.sn⟩
theorem et_cmp {o : CmpOp} {r : R2} {op : D → D → Option D} (ho : OpR X (compareOp o) r) (hs : OpS X.K b b' r op) (ha : EX X b ea ta fa) (hb : EX X b eb tb fb) (hm : behindInMarks o eb = false := by first | exact nobehind _ (by decide) (by decide) | rfl) : ET X (.Compare ea [o] [eb] pos) (tTest (tOp r ta tb)) (tOfE (eBin op fa fb)) :=
  ⟨pt_cmpR ho ha.pe hb.pe hm, sn_test (fun _ _ _ h => h) (sn_bin hs ha.sn hb.sn)⟩
/-- a < b < c -/
def eChain (op op' : D → D → Option D) (f g h : DE) : DE := fun ρ ω => match f ρ ω with
  | none => none
  | some (x, ω1) => match g ρ ω1 with
    | none => none
    | some (y, ω2) => match op x y with
      | some (.bool true) => (match h ρ ω2 with
        | none => none
        | some (z, ω3) => match op' y z with
          | some (.bool c) => some (.bool c, ω3)
          | _ => none)
      | some (.bool false) => some (.bool false, ω2)
      | _ => none
theorem sn_chain {r r' : R2} {op op' : D → D → Option D} {d d' : Bool} (hs : OpS K b d r op) (hs' : OpS K b d' r' op') (ha : Snd K b ta fa) (hb : Snd K b tb fb) (hc : Snd K b tc fc) : Snd K b' (tChain r r' ta tb tc) (eChain op op' fa fb fc) := by
  intro g0 H0 g H ρ ω σ Q d ω' ok st sl e k
  unfold eChain at e
  split at e
  · cases e
  rename_i x ω1 e1
  split at e
  · cases e
  rename_i y ω2 e2
  refine ha g0 H0 g H ρ ω σ _ x ω1 ok st sl e1 fun v g1 H1 s1 ok1 r1 => ?_
  refine hb g0 H0 g1 H1 ρ ω1 σ _ y ω2 ok1 (st.trans s1) (sl.step s1 ok1) e2 fun w g2 H2 s2 ok2 r2 => ?_
  split at e
  · rename_i e3
    split at e
    · cases e
    rename_i z ω3 e4
    split at e
    · rename_i c e5
      cases e
      refine hs g0 H0 g2 H2 ω2 x y v w _ _ ok2 ((st.trans s1).trans s2) (r1.mono s2) r2 e3 fun u g3 H3 s3 ok3 r3 => ?_
      have r3 : u = .bl true := by have q := r3; unfold RB at q; rw [Rep] at q; exact q
      refine ⟨true, r3, ?_⟩
      refine iteT (hc g0 H0 g3 H3 ρ ω2 σ _ z ω' ok3 (((st.trans s1).trans s2).trans s3) (((sl.step s1 ok1).step s2 ok2).step s3 ok3) e4 fun u4 g4 H4 s4 ok4 r4 => ?_)
      exact hs' g0 H0 g4 H4 ω' y z w u4 _ _ ok4 ((((st.trans s1).trans s2).trans s3).trans s4) ((r2.mono s3).mono s4) r4 e5 fun u5 g5 H5 s5 ok5 r5 => k u5 g5 H5 ((((s1.trans s2).trans s3).trans s4).trans s5) ok5 (by have q := r5; unfold RB at q ⊢; rw [Rep] at q ⊢; exact q)
    · cases e
  · rename_i e3
    cases e
    refine hs g0 H0 g2 H2 ω' x y v w _ _ ok2 ((st.trans s1).trans s2) (r1.mono s2) r2 e3 fun u g3 H3 s3 ok3 r3 => ?_
    have r3 : u = .bl false := by have q := r3; unfold RB at q; rw [Rep] at q; exact q
    refine ⟨false, r3, ?_⟩
    refine iteF ?_
    exact k (.bl false) g3 H3 ((s1.trans s2).trans s3) ok3 (by unfold RB; rw [Rep])
  · cases e
theorem ex_chain {o o' : CmpOp} {r r' : R2} {op op' : D → D → Option D} {d d' : Bool} (ho : OpR X (compareOp o) r) (ho' : OpR X (compareOp o') r') (hs : OpS X.K b d r op) (hs' : OpS X.K b d' r' op') (ha : EX X b ea ta fa) (hb : EX X b eb tb fb) (hc : EX X b ec tc fc)
    (hm : lastMarks [o, o'] [eb, ec] = false := by with_unfolding_all rfl) : EX X true (.Compare ea [o, o'] [eb, ec] pos) (tChain r r' ta tb tc) (eChain op op' fa fb fc) := ⟨pe_chain ho ho' ha.pe hb.pe hc.pe hm, sn_chain hs hs' ha.sn hb.sn hc.sn⟩
theorem et_chain {o o' : CmpOp} {r r' : R2} {op op' : D → D → Option D} {d d' : Bool} (ho : OpR X (compareOp o) r) (ho' : OpR X (compareOp o') r') (hs : OpS X.K b d r op) (hs' : OpS X.K b d' r' op') (ha : EX X b ea ta fa) (hb : EX X b eb tb fb) (hc : EX X b ec tc fc)
    (hm : lastMarks [o, o'] [eb, ec] = false := by with_unfolding_all rfl) : ET X (.Compare ea [o, o'] [eb, ec] pos) (tTest (tChain r r' ta tb tc)) (tOfE (eChain op op' fa fb fc)) := ⟨pt_chain ho ho' ha.pe hb.pe hc.pe hm, sn_test (b := true) (fun _ _ _ h => h) (sn_chain hs hs' ha.sn hb.sn hc.sn)⟩

/-! ### one operand -/
def UnS (K : PySem.W.Frag) (b b' : Bool) (r : V → Hp → VK → Prop) (op : D → Option D) : Prop :=
  ∀ (g0 : Gh) (H0 : Hp) (g : Gh) (H : Hp) (ω : Wd) (x : D) (v : V) (d : D) (Q : VK), GOk K g H ω → Step g0 H0 g H → RB K b g0 H0 g H x v → op x = some d →
    (∀ u g' H', Step g H g' H' → GOk K g' H' ω → RB K b' g0 H0 g' H' d u → Q u H') → r v H Q
def eUn (op : D → Option D) (f : DE) : DE := fun ρ ω => match f ρ ω with
  | none => none
  | some (x, ω1) => match op x with
    | none => none
    | some z => some (z, ω1)
theorem sn_un {r : V → Hp → VK → Prop} {op : D → Option D} (hs : UnS K b b' r op) (ha : Snd K b ta fa) : Snd K b' (tUn r ta) (eUn op fa) := by
  intro g0 H0 g H ρ ω σ Q d ω' ok st sl e k
  unfold eUn at e
  split at e
  · cases e
  rename_i x ω1 e1
  split at e
  · cases e
  rename_i z e3
  cases e
  refine ha g0 H0 g H ρ ω σ _ x ω' ok st sl e1 fun v g1 H1 s1 ok1 r1 => ?_
  exact hs g0 H0 g1 H1 ω' x v d Q ok1 (st.trans s1) r1 e3 fun u g' H' s3 ok3 r3 => k u g' H' (s1.trans s3) ok3 r3
def opNeg : D → Option D
  | .int i => some (.int (-i))
  | _ => none
theorem ex_neg (ha : EX X b ea ta fa) : EX X true (.UnaryOp .USub ea pos) (tUn (rU fun i => .int (-i)) ta) (eUn opNeg fa) := by
  refine ⟨pe_un un_neg ha.pe, sn_un (fun g0 H0 g H ω x v d Q ok st r e k => ?_) ha.sn⟩
  cases x <;> simp only [opNeg] at e <;> cases e
  unfold RB at r; rw [Rep] at r
  exact ⟨_, r, k _ g H (.refl _ _) ok (by unfold RB; rw [Rep])⟩

/-! ### and, or, not, if -/
def tAndD (f g : DT) : DT := fun ρ ω => match f ρ ω with
  | none => none
  | some (c, ω1) => if c = true then g ρ ω1 else some (false, ω1)
def tOrD (f g : DT) : DT := fun ρ ω => match f ρ ω with
  | none => none
  | some (c, ω1) => if c = true then some (true, ω1) else g ρ ω1
def tNotD (f : DT) : DT := fun ρ ω => match f ρ ω with
  | none => none
  | some (c, ω1) => some (!c, ω1)
section
variable {tA tB' : TT} {gA gB : DT} {rest : List Expr}
theorem ew_and1 (ha : ET X ea tA gA) : EW X (.BoolOp .And [ea] pos) tA gA := ⟨pw_and1 ha.pe, ha.sn⟩
theorem ew_or1 (ha : ET X ea tA gA) : EW X (.BoolOp .Or [ea] pos) tA gA := ⟨pw_or1 ha.pe, ha.sn⟩
theorem ew_and (ha : ET X ea tA gA) (hb : EW X (.BoolOp .And (eb :: rest) pos) tB' gB) : EW X (.BoolOp .And (ea :: eb :: rest) pos) (tAnd tA tB') (tAndD gA gB) := by
  refine ⟨pw_and ha.pe hb.pe, ?_⟩
  intro g0 H0 g H ρ ω σ Q d ω' ok st sl e k
  unfold tAndD at e
  split at e
  · cases e
  rename_i c ω1 e1
  refine ha.sn g0 H0 g H ρ ω σ _ c ω1 ok st sl e1 fun g1 H1 s1 ok1 => ?_
  cases c with
  | true => exact iteT (hb.sn g0 H0 g1 H1 ρ ω1 σ _ d ω' ok1 (st.trans s1) (sl.step s1 ok1) e fun g2 H2 s2 ok2 => k g2 H2 (s1.trans s2) ok2)
  | false =>
    rw [if_neg Bool.false_ne_true] at e
    cases e
    exact iteF (k g1 H1 s1 ok1)
theorem ew_or (ha : ET X ea tA gA) (hb : EW X (.BoolOp .Or (eb :: rest) pos) tB' gB) : EW X (.BoolOp .Or (ea :: eb :: rest) pos) (tOr tA tB') (tOrD gA gB) := by
  refine ⟨pw_or ha.pe hb.pe, ?_⟩
  intro g0 H0 g H ρ ω σ Q d ω' ok st sl e k
  unfold tOrD at e
  split at e
  · cases e
  rename_i c ω1 e1
  refine ha.sn g0 H0 g H ρ ω σ _ c ω1 ok st sl e1 fun g1 H1 s1 ok1 => ?_
  cases c with
  | false => exact iteF (hb.sn g0 H0 g1 H1 ρ ω1 σ _ d ω' ok1 (st.trans s1) (sl.step s1 ok1) e fun g2 H2 s2 ok2 => k g2 H2 (s1.trans s2) ok2)
  | true =>
    rw [if_pos rfl] at e
    cases e
    exact iteT (k g1 H1 s1 ok1)
theorem et_not (ha : ET X ea tA gA) : ET X (.UnaryOp .Not ea pos) (tNot tA) (tNotD gA) := by
  refine ⟨pt_not ha.pe, ?_⟩
  intro g0 H0 g H ρ ω σ Q d ω' ok st sl e k
  unfold tNotD at e
  split at e
  · cases e
  rename_i c ω1 e1
  cases e
  exact ha.sn g0 H0 g H ρ ω σ _ c ω' ok st sl e1 fun g1 H1 s1 ok1 => k g1 H1 s1 ok1
def eIf (c : DT) (f g : DE) : DE := fun ρ ω => match c ρ ω with
  | none => none
  | some (c, ω1) => if c = true then f ρ ω1 else g ρ ω1
theorem ex_if (hc : ET X ec tA gA) (ha : EX X b ea ta fa) (hb : EX X b eb tb fb) : EX X b (.IfExp ec ea eb pos) (tIf tA ta tb) (eIf gA fa fb) := by
  refine ⟨pe_ifExp hc.pe ha.pe hb.pe, ?_⟩
  intro g0 H0 g H ρ ω σ Q d ω' ok st sl e k
  unfold eIf at e
  split at e
  · cases e
  rename_i c ω1 e1
  refine hc.sn g0 H0 g H ρ ω σ _ c ω1 ok st sl e1 fun g1 H1 s1 ok1 => ?_
  cases c with
  | true => exact iteT (ha.sn g0 H0 g1 H1 ρ ω1 σ _ d ω' ok1 (st.trans s1) (sl.step s1 ok1) e fun v g2 H2 s2 ok2 r => k v g2 H2 (s1.trans s2) ok2 r)
  | false => exact iteF (hb.sn g0 H0 g1 H1 ρ ω1 σ _ d ω' ok1 (st.trans s1) (sl.step s1 ok1) e fun v g2 H2 s2 ok2 r => k v g2 H2 (s1.trans s2) ok2 r)
end
def eAnd (f g : DE) : DE := fun ρ ω => match f ρ ω with
  | some (.bool c, ω1) => if c = true then g ρ ω1 else some (.bool false, ω1)
  | _ => none
def eOr (f g : DE) : DE := fun ρ ω => match f ρ ω with
  | some (.bool c, ω1) => if c = true then some (.bool true, ω1) else g ρ ω1
  | _ => none
def eNot (f : DE) : DE := fun ρ ω => match f ρ ω with
  | some (.bool c, ω1) => some (.bool (!c), ω1)
  | _ => none
theorem RB.blV {g0 g : Gh} {H0 H : Hp} {c : Bool} {v : V} (h : RB K b g0 H0 g H (.bool c) v) : v = .bl c := by unfold RB at h; rw [Rep] at h; exact h
theorem RB.bl {g0 g : Gh} {H0 H : Hp} {c : Bool} : RB K b g0 H0 g H (.bool c) (.bl c) := by unfold RB; rw [Rep]
theorem RB.intV {g0 g : Gh} {H0 H : Hp} {c : Int} {v : V} (h : RB K b g0 H0 g H (.int c) v) : v = .int c := by unfold RB at h; rw [Rep] at h; exact h
theorem RB.int {g0 g : Gh} {H0 H : Hp} {c : Int} : RB K b g0 H0 g H (.int c) (.int c) := by unfold RB; rw [Rep]
theorem RB.strV {g0 g : Gh} {H0 H : Hp} {c : Str} {v : V} (h : RB K b g0 H0 g H (.str c) v) : v = .str c := by unfold RB at h; rw [Rep] at h; exact h
theorem RB.str {g0 g : Gh} {H0 H : Hp} {c : Str} : RB K b g0 H0 g H (.str c) (.str c) := by unfold RB; rw [Rep]
theorem RB.nonV {g0 g : Gh} {H0 H : Hp} {v : V} (h : RB K b g0 H0 g H .none v) : v = .non := by unfold RB at h; rw [Rep] at h; exact h
theorem RB.non {g0 g : Gh} {H0 H : Hp} : RB K b g0 H0 g H .none .non := by unfold RB; rw [Rep]
theorem ex_one {op} (h : EX X b ea ta fa) : EX X b (.BoolOp op [ea] pos) ta fa := ⟨pe_one h.pe, h.sn⟩
section
variable {rest : List Expr} {d : Bool}
theorem ex_and (ha : EX X d ea ta fa) (hb : EX X b (.BoolOp .And (eb :: rest) pos) tb fb) : EX X b (.BoolOp .And (ea :: eb :: rest) pos) (tAndV ta tb) (eAnd fa fb) := by
  refine ⟨pe_and ha.pe hb.pe, ?_⟩
  intro g0 H0 g H ρ ω σ Q d ω' ok st sl e k
  unfold eAnd at e
  split at e
  · rename_i c ω1 e1
    refine ha.sn g0 H0 g H ρ ω σ _ _ ω1 ok st sl e1 fun v g1 H1 s1 ok1 r1 => ⟨c, r1.blV, ?_⟩
    cases c with
    | true => exact iteT (hb.sn g0 H0 g1 H1 ρ ω1 σ _ d ω' ok1 (st.trans s1) (sl.step s1 ok1) e fun v g2 H2 s2 ok2 r => k v g2 H2 (s1.trans s2) ok2 r)
    | false =>
      rw [if_neg Bool.false_ne_true] at e
      cases e
      exact iteF (k _ g1 H1 s1 ok1 .bl)
  · cases e
theorem ex_or (ha : EX X d ea ta fa) (hb : EX X b (.BoolOp .Or (eb :: rest) pos) tb fb) : EX X b (.BoolOp .Or (ea :: eb :: rest) pos) (tOrV ta tb) (eOr fa fb) := by
  refine ⟨pe_or ha.pe hb.pe, ?_⟩
  intro g0 H0 g H ρ ω σ Q d ω' ok st sl e k
  unfold eOr at e
  split at e
  · rename_i c ω1 e1
    refine ha.sn g0 H0 g H ρ ω σ _ _ ω1 ok st sl e1 fun v g1 H1 s1 ok1 r1 => ⟨c, r1.blV, ?_⟩
    cases c with
    | false => exact iteF (hb.sn g0 H0 g1 H1 ρ ω1 σ _ d ω' ok1 (st.trans s1) (sl.step s1 ok1) e fun v g2 H2 s2 ok2 r => k v g2 H2 (s1.trans s2) ok2 r)
    | true =>
      rw [if_pos rfl] at e
      cases e
      exact iteT (k _ g1 H1 s1 ok1 .bl)
  · cases e
theorem ex_not (ha : EX X d ea ta fa) : EX X true (.UnaryOp .Not ea pos) (tNotV ta) (eNot fa) := by
  refine ⟨pe_not ha.pe, ?_⟩
  intro g0 H0 g H ρ ω σ Q d ω' ok st sl e k
  unfold eNot at e
  split at e
  · rename_i c ω1 e1
    cases e
    exact ha.sn g0 H0 g H ρ ω σ _ _ ω' ok st sl e1 fun v g1 H1 s1 ok1 r1 => ⟨c, r1.blV, k _ g1 H1 s1 ok1 .bl⟩
  · cases e
end

/-! ### arguments, displays -/
def aNil : DA := fun _ ω => some ([], ω)
def aCons (f : DE) (g : DA) : DA := fun ρ ω => match f ρ ω with
  | none => none
  | some (x, ω1) => match g ρ ω1 with
    | none => none
    | some (xs, ω2) => some (x :: xs, ω2)
theorem RBL.nil {g0 g : Gh} {H0 H : Hp} : RBL K b g0 H0 g H [] [] := RepL.nil
theorem RBL.cons {g0 g : Gh} {H0 H : Hp} {d : D} {ds : List D} {v : V} {vs : List V} (h : RB K b g0 H0 g H d v) (t : RBL K b g0 H0 g H ds vs) : RBL K b g0 H0 g H (d :: ds) (v :: vs) := RepL.cons h t
theorem ea_nil : EA X b [] tNil aNil := ⟨pa_nil, fun g0 H0 g H ρ ω σ Q d ω' ok st sl e k => by cases e; exact k [] g H (.refl _ _) ok .nil⟩
theorem ea_cons {es : List Expr} {tr : TA} {g : DA} (ha : EX X b e ta fa) (hr : EA X b es tr g) (hs : starEach (e :: es) X.env = (false, eval e X.env) :: starEach es X.env := by rfl) : EA X b (e :: es) (tCons ta tr) (aCons fa g) := by
  refine ⟨pa_cons ha.pe hr.pe hs, ?_⟩
  intro g0 H0 g H ρ ω σ Q ds ω' ok st sl e k
  unfold aCons at e
  split at e
  · cases e
  rename_i x ω1 e1
  split at e
  · cases e
  rename_i xs ω2 e2
  cases e
  refine ha.sn g0 H0 g H ρ ω σ _ x ω1 ok st sl e1 fun v g1 H1 s1 ok1 r1 => ?_
  refine hr.sn g0 H0 g1 H1 ρ ω1 σ _ xs ω' ok1 (st.trans s1) (sl.step s1 ok1) e2 fun vs g2 H2 s2 ok2 r2 => ?_
  exact k _ g2 H2 (s1.trans s2) ok2 (.cons (r1.mono s2) r2)
/-- the number of what an argument list gives -/
def LenA (n : Nat) (f : DA) : Prop := ∀ ρ ω ds ω', f ρ ω = some (ds, ω') → ds.length = n
theorem len_nil : LenA 0 aNil := fun ρ ω ds ω' e => by cases e; rfl
theorem len_cons {n : Nat} {g : DA} (h : LenA n g) : LenA (n + 1) (aCons f g) := fun ρ ω ds ω' e => by
  unfold aCons at e
  split at e
  · cases e
  split at e
  · cases e
  rename_i xs ω2 e2
  cases e
  rw [List.length_cons, h _ _ _ _ e2]
def eTup (a : DA) : DE := fun ρ ω => match a ρ ω with
  | none => none
  | some (ds, ω1) => some (.tuple ds, ω1)
def eLst (a : DA) : DE := fun ρ ω => match a ρ ω with
  | none => none
  | some (ds, ω1) => some (.list ds, ω1)
theorem RB.newTup {g0 g : Gh} {H0 H : Hp} {ω : Wd} {p : Addr} {ds : List D} {vs : List V} (ok : GOk K g H ω) (st : Step g0 H0 g H) (hp : H p = none) (hz : vs.length ≤ sizeLine) (r : RBL K b g0 H0 g H ds vs) : RB K b g0 H0 (g.add p (.tup vs)) (upd H p (.tup vs)) (.tuple ds) (.ref p) := by
  obtain ⟨s, _⟩ := alloc ok hp (o := .tup vs) rfl
  unfold RB; rw [Rep]
  exact ⟨p, vs, rfl, SqT.of (hb_new ok st hp rfl), hz, r.mono s⟩
theorem RB.newLst {g0 g : Gh} {H0 H : Hp} {ω : Wd} {p : Addr} {ds : List D} {vs : List V} (ok : GOk K g H ω) (st : Step g0 H0 g H) (hp : H p = none) (hz : vs.length ≤ sizeLine) (r : RBL K b g0 H0 g H ds vs) : RB K b g0 H0 (g.add p (.lst vs)) (upd H p (.lst vs)) (.list ds) (.ref p) := by
  obtain ⟨s, _⟩ := alloc ok hp (o := .lst vs) rfl
  unfold RB; rw [Rep]
  exact ⟨p, vs, rfl, hb_new ok st hp rfl, hz, r.mono s⟩
theorem ex_tup {es : List Expr} {tr : TA} {g : DA} {x1} {n : Nat} (h : EA X b es tr g) (hl : LenA n g) (hn : n ≤ sizeLine := by decide) : EX X b (.Tuple es x1 pos) (tTup tr) (eTup g) := by
  refine ⟨pe_tup h.pe, ?_⟩
  intro g0 H0 g H ρ ω σ Q d ω' ok st sl e k
  unfold eTup at e
  split at e
  · cases e
  rename_i ds ω1 e1
  cases e
  refine h.sn g0 H0 g H ρ ω σ _ ds ω' ok st sl e1 fun vs g1 H1 s1 ok1 r1 => ?_
  have hz : vs.length ≤ sizeLine := by rw [RepL.length r1, hl _ _ _ _ e1]; exact hn
  refine ⟨hz, fun p hp => ?_⟩
  obtain ⟨s2, ok2⟩ := alloc ok1 hp (o := .tup vs) rfl
  exact k _ _ _ (s1.trans s2) ok2 (.newTup ok1 (st.trans s1) hp hz r1)
theorem ex_lst {es : List Expr} {tr : TA} {g : DA} {n : Nat} (h : EA X b es tr g) (hl : LenA n g) (hn : n ≤ sizeLine := by decide) : EX X b (.List es pos) (tLst tr) (eLst g) := by
  refine ⟨pe_lst h.pe, ?_⟩
  intro g0 H0 g H ρ ω σ Q d ω' ok st sl e k
  unfold eLst at e
  split at e
  · cases e
  rename_i ds ω1 e1
  cases e
  refine h.sn g0 H0 g H ρ ω σ _ ds ω' ok st sl e1 fun vs g1 H1 s1 ok1 r1 => ?_
  have hz : vs.length ≤ sizeLine := by rw [RepL.length r1, hl _ _ _ _ e1]; exact hn
  refine ⟨hz, fun p hp => ?_⟩
  obtain ⟨s2, ok2⟩ := alloc ok1 hp (o := .lst vs) rfl
  exact k _ _ _ (s1.trans s2) ok2 (.newLst ok1 (st.trans s1) hp hz r1)
/-- a displayed list as one's own -/
theorem en_lst {es : List Expr} {tr : TA} {g : DA} {n : Nat} (h : EA X true es tr g) (hl : LenA n g) (hn : n ≤ sizeLine := by decide) : EN X (.List es pos) (tLst tr) g := by
  refine ⟨pe_lst h.pe, ?_⟩
  intro g0 H0 g H ρ ω σ Q ds ω' ok st sl e k
  refine h.sn g0 H0 g H ρ ω σ _ ds ω' ok st sl e fun vs g1 H1 s1 ok1 r1 => ?_
  have hz : vs.length ≤ sizeLine := by rw [RepL.length r1, hl _ _ _ _ e]; exact hn
  refine ⟨hz, fun p hp => ?_⟩
  obtain ⟨s2, ok2⟩ := allocOwn ok1 hp (o := .lst vs)
  have nG : g1.G p = none := by
    cases q : g1.G p with
    | none => rfl
    | some u => rw [ok1.sub p u q] at hp; cases hp
  have nS : ¬ g1.S p := fun q => by obtain ⟨u, e, _⟩ := ok1.sl p q; rw [hp] at e; cases e
  exact k p vs g1 _ (s1.trans s2) ok2 (s1.al p hp) upd_same nG nS hz r1

/-! ### what is only read, but holds no list, is settled too -/
mutual
def noL : D → Bool
  | .list _ => false
  | .tuple ds => noLs ds
  | _ => true
def noLs : List D → Bool
  | [] => true
  | d :: ds => noL d && noLs ds
end
def eDown (f : DE) : DE := fun ρ ω => match f ρ ω with
  | none => none
  | some (d, ω1) => if noL d = true then some (d, ω1) else none
noncomputable def Gh.tups (g0 : Gh) (H0 : Hp) (g : Gh) (H : Hp) : Gh := { g with G := fun a => match Fm g0 H0 g H a with
  | some (.tup vs) => some (.tup vs)
  | _ => g.G a }
theorem tups_G {g0 g : Gh} {H0 H : Hp} {ω : Wd} (ok : GOk K g H ω) (st : Step g0 H0 g H) {a : Addr} {o : HO} (h : g.G a = some o) : (Gh.tups g0 H0 g H).G a = some o := by
  have q := G_Fm ok st h
  unfold Gh.tups
  simp only [q]
  split
  · rename_i e; exact e.symm
  · exact h
theorem tups_tup {g0 g : Gh} {H0 H : Hp} {a : Addr} {vs : List V} (h : Fm g0 H0 g H a = some (.tup vs)) : (Gh.tups g0 H0 g H).G a = some (.tup vs) := by
  unfold Gh.tups
  simp only [h]
theorem tups_of {g0 g : Gh} {H0 H : Hp} {a : Addr} {o : HO} (h : (Gh.tups g0 H0 g H).G a = some o) : (∃ vs, o = .tup vs ∧ Fm g0 H0 g H a = some (.tup vs)) ∨ g.G a = some o := by
  unfold Gh.tups at h
  simp only at h
  split at h
  · rename_i vs e; cases h; exact .inl ⟨vs, rfl, e⟩
  · exact .inr h
theorem tups_ok {g0 g : Gh} {H0 H : Hp} {ω : Wd} (ok : GOk K g H ω) (st : Step g0 H0 g H) : Step g H (Gh.tups g0 H0 g H) H ∧ GOk K (Gh.tups g0 H0 g H) H ω := by
  refine ⟨⟨fun _ _ h => h, fun _ _ h => tups_G ok st h, fun _ h => h, fun _ _ h _ => h, fun _ h => .inl h, fun _ h => h, fun a vs h => ?_, rfl, fun _ => rfl⟩, ⟨fun a o h => ?_, fun a o h => ?_, fun a o h => ?_, ok.inj, ok.inS, fun n o e => ?_, ok.sl, ok.lv⟩⟩
  · rcases tups_of h with ⟨ws, e, _⟩ | h
    · cases e
    · exact .inl h
  · rcases tups_of h with ⟨ws, rfl, e⟩ | h
    · exact (Fm_some.mp e).1
    · exact ok.sub a o h
  · rcases tups_of h with ⟨ws, rfl, e⟩ | h
    · rfl
    · exact ok.seq a o h
  · rcases tups_of h with ⟨ws, rfl, e⟩ | h
    · exact (Fm_some.mp e).2.2.1
    · exact ok.nS a o h
  · obtain ⟨a, ia, h⟩ := ok.st n o e
    exact ⟨a, ia, h.mono (fun _ _ h => h) (fun _ _ h => tups_G ok st h) rfl⟩
mutual
theorem Rep.down {g0 g : Gh} {H0 H : Hp} : ∀ (d : D) (v : V), noL d = true → Rep K g.ι (Fm g0 H0 g H) d v → Rep K g.ι (Gh.tups g0 H0 g H).G d v
  | .none, _, _, h => h
  | .bool _, _, _, h => h
  | .int _, _, _, h => h
  | .str _, _, _, h => h
  | .list ds, v, n, h => nomatch n
  | .tuple ds, v, n, h => by
    rw [Rep] at h ⊢
    rw [noL] at n
    obtain ⟨a, vs, e, q, z, r⟩ := h
    refine ⟨a, vs, e, ?_, z, RepL.down ds vs n r⟩
    rcases q with (q | ⟨o, q⟩) | q
    · exact .inl (.inl (tups_tup q))
    · have := (Fm_some.mp q).2.1
      cases this
    · exact .inr q
  | .dict kvs, v, _, h => by rw [Rep] at h ⊢; exact h
theorem RepL.down {g0 g : Gh} {H0 H : Hp} : ∀ (ds : List D) (vs : List V), noLs ds = true → RepL K g.ι (Fm g0 H0 g H) ds vs → RepL K g.ι (Gh.tups g0 H0 g H).G ds vs
  | [], _, _, h => by rw [RepL] at h ⊢; exact h
  | d :: ds, vs, n, h => by
    rw [noLs, Bool.and_eq_true] at n
    obtain ⟨v, ws, rfl, r, q⟩ := RepL.inv h
    exact RepL.cons (Rep.down d v n.1 r) (RepL.down ds ws n.2 q)
end
theorem EX.down (h : EX X false e t f) : EX X true e t (eDown f) := by
  refine ⟨h.pe, ?_⟩
  intro g0 H0 g H ρ ω σ Q d ω' ok st sl e k
  unfold eDown at e
  split at e
  · cases e
  rename_i d1 ω1 e1
  split at e
  · rename_i hn
    cases e
    refine h.sn g0 H0 g H ρ ω σ _ _ ω' ok st sl e1 fun v g1 H1 s1 ok1 r1 => ?_
    obtain ⟨s2, ok2⟩ := tups_ok ok1 (st.trans s1)
    exact k v _ H1 (s1.trans s2) ok2 (Rep.down d v hn r1)
  · cases e
end
end Dn
end

section
namespace Dn
open PySem PySem.Spec L2

section
variable {X : Cx} {K : PySem.W.Frag} {b b' : Bool}
/-! ## operators -/
/-- two ints to a value that holds no object -/
theorem ops_int {r : R2} {op : D → D → Option D} (h : ∀ x y d, op x y = some d → ∃ i j u, x = .int i ∧ y = .int j ∧ (∀ ι G, Rep K ι G d u) ∧ ∀ (Q : VK) (H : Hp), Q u H → r (.int i) (.int j) H Q) : OpS K b true r op := by
  intro g0 H0 g H ω x y v w d Q ok st r1 r2 e k
  obtain ⟨i, j, u, rfl, rfl, hr, hq⟩ := h x y d e
  rw [r1.intV, r2.intV]
  exact hq Q H (k u g H (.refl _ _) ok (hr _ _))
/-- int + int, text + text, tuple + tuple, list + list -/
def opAdd : D → D → Option D
  | .int i, .int j => some (.int (i + j))
  | .str x, .str y => if x.length + y.length ≤ sizeLine then some (.str (x ++ y)) else none
  | .tuple x, .tuple y => if x.length + y.length ≤ sizeLine then some (.tuple (x ++ y)) else none
  | .list x, .list y => if x.length + y.length ≤ sizeLine then some (.list (x ++ y)) else none
  | _, _ => none
def rAddD (K : PySem.W.Frag) : R2 := fun x y H Q => rI0 (fun i j => .int (i + j)) x y H Q ∨ (∃ i j, x = .str i ∧ y = .str j ∧ i.length + j.length ≤ sizeLine ∧ Q (.str (i ++ j)) H) ∨ rCatA K x y H Q ∨ rCat x y H Q
theorem op_addD : OpR X (binaryOp .Add) (rAddD X.K) := op_add.or (op_add_str.or (op_catA.or op_cat))
theorem RB.tupV {g0 g : Gh} {H0 H : Hp} {ω : Wd} {ds : List D} {v : V} (ok : GOk K g H ω) (h : RB K b g0 H0 g H (.tuple ds) v) : ∃ a vs, v = .ref a ∧ SqT K H a vs ∧ vs.length ≤ sizeLine ∧ RBL K b g0 H0 g H ds vs := by
  unfold RB at h; rw [Rep] at h
  obtain ⟨a, vs, e, q, z, r⟩ := h
  exact ⟨a, vs, e, SqT.mono (fun a o h => (hb_sub ok h).1) q, z, r⟩
theorem RB.lstV {g0 g : Gh} {H0 H : Hp} {ω : Wd} {ds : List D} {v : V} (ok : GOk K g H ω) (h : RB K b g0 H0 g H (.list ds) v) : ∃ a vs, v = .ref a ∧ H a = some (.lst vs) ∧ vs.length ≤ sizeLine ∧ RBL K b g0 H0 g H ds vs := by
  unfold RB at h; rw [Rep] at h
  obtain ⟨a, vs, e, q, z, r⟩ := h
  exact ⟨a, vs, e, (hb_sub ok q).1, z, r⟩
theorem ops_add : OpS K b b (rAddD K) opAdd := by
  intro g0 H0 g H ω x y v w d Q ok st r1 r2 e k
  cases x <;> cases y <;> simp only [opAdd] at e <;> try cases e
  · rw [r1.intV, r2.intV]
    exact .inl ⟨_, _, rfl, rfl, k _ g H (.refl _ _) ok .int⟩
  · split at e <;> cases e
    rename_i hz
    rw [r1.strV, r2.strV]
    exact .inr (.inl ⟨_, _, rfl, rfl, hz, k _ g H (.refl _ _) ok .str⟩)
  · split at e <;> cases e
    rename_i xs ys hz
    obtain ⟨a, vs, rfl, q1, z1, l1⟩ := r1.lstV ok
    obtain ⟨c, ws, rfl, q2, z2, l2⟩ := r2.lstV ok
    have hz' : vs.length + ws.length ≤ sizeLine := by rw [RepL.length l1, RepL.length l2]; exact hz
    refine .inr (.inr (.inr ⟨a, c, vs, ws, rfl, rfl, q1, q2, hz', fun p hp => ?_⟩))
    obtain ⟨s2, ok2⟩ := alloc ok hp (o := .lst (vs ++ ws)) rfl
    exact k _ _ _ s2 ok2 (.newLst ok st hp (by rw [List.length_append]; exact hz') (RepL.append l1 l2))
  · split at e <;> cases e
    rename_i xs ys hz
    have r1' := r1
    have r2' := r2
    obtain ⟨a, vs, rfl, q1, z1, l1⟩ := r1.tupV ok
    obtain ⟨c, ws, rfl, q2, z2, l2⟩ := r2.tupV ok
    have n1 := RepL.length l1
    have n2 := RepL.length l2
    have hz' : vs.length + ws.length ≤ sizeLine := by rw [n1, n2]; exact hz
    refine .inr (.inr (.inl ⟨a, c, vs, ws, rfl, rfl, q1, q2, hz', fun e => ?_, fun _ e => ?_, fun _ _ p hp => ?_⟩))
    · subst e
      have : xs = [] := List.eq_nil_of_length_eq_zero n1.symm
      subst this
      exact k _ g H (.refl _ _) ok r2'
    · subst e
      have : ys = [] := List.eq_nil_of_length_eq_zero n2.symm
      subst this
      rw [List.append_nil] at k
      exact k _ g H (.refl _ _) ok r1'
    · obtain ⟨s2, ok2⟩ := alloc ok hp (o := .tup (vs ++ ws)) rfl
      exact k _ _ _ s2 ok2 (.newTup ok st hp (by rw [List.length_append]; exact hz') (RepL.append l1 l2))
def opSub : D → D → Option D
  | .int i, .int j => some (.int (i - j))
  | _, _ => none
theorem ops_sub : OpS K b true (rI0 fun i j => .int (i - j)) opSub := ops_int fun x y d e => by
  cases x <;> cases y <;> simp only [opSub] at e <;> cases e
  exact ⟨_, _, _, rfl, rfl, fun _ _ => by rw [Rep], fun Q H q => ⟨_, _, rfl, rfl, q⟩⟩
/-- the sizes for which the model multiplies -/
theorem mulOk_ex : ∃ f : Int → Int → Bool, ∀ i j, f i j = ((decide (-(2 ^ 64) < i) && decide (i < 2 ^ 64)) || (decide (-(2 ^ 64) < j) && decide (j < 2 ^ 64)) || decide (i.natAbs.log2 + j.natAbs.log2 < 1000000)) := ⟨_, fun _ _ => rfl⟩
noncomputable def mulOk : Int → Int → Bool := Classical.choose mulOk_ex
theorem mulOk_eq (i j : Int) : mulOk i j = ((decide (-(2 ^ 64) < i) && decide (i < 2 ^ 64)) || (decide (-(2 ^ 64) < j) && decide (j < 2 ^ 64)) || decide (i.natAbs.log2 + j.natAbs.log2 < 1000000)) := Classical.choose_spec mulOk_ex i j
noncomputable def opMul : D → D → Option D
  | .int i, .int j => if mulOk i j = true then some (.int (i * j)) else none
  | .list xs, .int j => if xs.length * j.toNat ≤ sizeLine ∧ -(2 ^ 63) ≤ j ∧ j < 2 ^ 63 then some (.list (List.replicate j.toNat xs).flatten) else none
  | .tuple xs, .int j => if xs ≠ [] ∧ 2 ≤ j ∧ j ≤ 1000 ∧ xs.length ≤ 1000 then some (.tuple (List.replicate j.toNat xs).flatten) else none
  | _, _ => none
def rMulD (K : PySem.W.Frag) : R2 := fun x y H Q => rI CMul (fun i j => .int (i * j)) x y H Q ∨ rI CMulW (fun i j => .int (i * j)) x y H Q ∨ rRep x y H Q ∨ rRepT K x y H Q
theorem op_mulD : OpR X (binaryOp .Mult) (rMulD X.K) := op_mul.or (op_mulW.or (op_rep.or op_repT))
theorem RepL.rep {ι : Ix} {G : Hp} {ds : List D} {vs : List V} (h : RepL K ι G ds vs) : ∀ k : Nat, RepL K ι G (List.replicate k ds).flatten (List.replicate k vs).flatten
  | 0 => RepL.nil
  | k + 1 => by
    rw [List.replicate_succ, List.replicate_succ, List.flatten_cons, List.flatten_cons]
    exact h.append (RepL.rep h k)
theorem len_rep {α : Type} (xs : List α) : ∀ k : Nat, (List.replicate k xs).flatten.length = xs.length * k
  | 0 => by simp
  | k + 1 => by
    rw [List.replicate_succ, List.flatten_cons, List.length_append, len_rep xs k, Nat.mul_succ, Nat.add_comm]
theorem ops_mul : OpS K b b (rMulD K) opMul := by
  intro g0 H0 g H ω x y v w d Q ok st r1 r2 e k
  cases x <;> cases y <;> simp only [opMul] at e <;> try cases e
  · split at e <;> cases e
    rename_i i j hm
    rw [r1.intV, r2.intV]
    have q := k _ g H (.refl _ _) ok (.int (c := i * j))
    simp only [mulOk_eq, Bool.or_eq_true, Bool.and_eq_true, decide_eq_true_eq] at hm
    rcases hm with (h | h) | h
    · exact .inl ⟨_, _, rfl, rfl, .inl h, q⟩
    · exact .inl ⟨_, _, rfl, rfl, .inr h, q⟩
    · exact .inr (.inl ⟨_, _, rfl, rfl, h, q⟩)
  · split at e <;> cases e
    rename_i xs j hm
    obtain ⟨hz, h1, h2⟩ := hm
    obtain ⟨a, vs, rfl, q1, z1, l1⟩ := r1.lstV ok
    rw [r2.intV]
    refine .inr (.inr (.inl ⟨a, j, vs, rfl, rfl, q1, h1, h2, by rw [RepL.length l1]; exact hz, fun p hp => ?_⟩))
    obtain ⟨s2, ok2⟩ := alloc ok hp (o := .lst (List.replicate j.toNat vs).flatten) rfl
    exact k _ _ _ s2 ok2 (.newLst ok st hp (by rw [len_rep, RepL.length l1]; exact hz) (RepL.rep l1 _))
  · split at e <;> cases e
    rename_i xs j hm
    obtain ⟨hn, h1, h2, h3⟩ := hm
    obtain ⟨a, vs, rfl, q1, z1, l1⟩ := r1.tupV ok
    have n1 := RepL.length l1
    rw [r2.intV]
    refine .inr (.inr (.inr ⟨a, j, vs, rfl, rfl, q1, fun e => hn ?_, h1, h2, by rw [n1]; exact h3, fun p hp => ?_⟩))
    · subst e; exact List.eq_nil_of_length_eq_zero n1.symm
    · obtain ⟨s2, ok2⟩ := alloc ok hp (o := .tup (List.replicate j.toNat vs).flatten) rfl
      refine k _ _ _ s2 ok2 (.newTup ok st hp ?_ (RepL.rep l1 _))
      rw [len_rep, n1]
      have : xs.length * j.toNat ≤ 1000 * 1000 := Nat.mul_le_mul h3 (by omega)
      rw [sizeLine_eq]; omega
def opMod : D → D → Option D
  | .int i, .int j => if 0 < j then some (.int (i % j)) else none
  | _, _ => none
theorem ops_mod : OpS K b true (rI (fun _ j => 0 < j) fun i j => .int (i % j)) opMod := ops_int fun x y d e => by
  cases x <;> cases y <;> simp only [opMod] at e <;> try cases e
  split at e <;> cases e
  rename_i hj
  exact ⟨_, _, _, rfl, rfl, fun _ _ => by rw [Rep], fun Q H q => ⟨_, _, rfl, rfl, hj, q⟩⟩
def opDiv : D → D → Option D
  | .int i, .int j => if 0 < j ∧ j.natAbs.log2 < 9000 then some (.int (i / j)) else none
  | _, _ => none
theorem ops_div : OpS K b true (rI CDivW fun i j => .int (i / j)) opDiv := ops_int fun x y d e => by
  cases x <;> cases y <;> simp only [opDiv] at e <;> try cases e
  split at e <;> cases e
  rename_i hj
  exact ⟨_, _, _, rfl, rfl, fun _ _ => by rw [Rep], fun Q H q => ⟨_, _, rfl, rfl, hj, q⟩⟩
def opPow : D → D → Option D
  | .int i, .int j => if 0 ≤ j ∧ j ≤ 1000000 ∧ i.natAbs < 2 ^ 64 then some (.int (i ^ j.toNat)) else none
  | _, _ => none
theorem ops_pow : OpS K b true (rI CPow fun i j => .int (i ^ j.toNat)) opPow := ops_int fun x y d e => by
  cases x <;> cases y <;> simp only [opPow] at e <;> try cases e
  split at e <;> cases e
  rename_i hj
  exact ⟨_, _, _, rfl, rfl, fun _ _ => by rw [Rep], fun Q H q => ⟨_, _, rfl, rfl, hj, q⟩⟩

/-! ## comparisons: data read off the heap -/
mutual
theorem Rep.dp {ι : Ix} {G H : Hp} (hG : ∀ a o, G a = some o → H a = some o) : ∀ (d : D) (v : V), d.plain = true → Rep K ι G d v → Dp K H v d
  | .none, _, _, h => by rw [Rep] at h; subst h; exact .non
  | .bool _, _, _, h => by rw [Rep] at h; subst h; exact .bl _
  | .int _, _, _, h => by rw [Rep] at h; subst h; exact .int _
  | .str _, _, _, h => by rw [Rep] at h; subst h; exact .str _
  | .list ds, _, n, h => by
    rw [Rep] at h
    obtain ⟨a, vs, rfl, q, _, r⟩ := h
    exact .lst (SqL.of (hG _ _ q)) (RepL.dp hG ds vs (by rw [PyData.plain] at n; exact n) r)
  | .tuple ds, _, n, h => by
    rw [Rep] at h
    obtain ⟨a, vs, rfl, q, _, r⟩ := h
    exact .tup (SqT.mono hG q) (RepL.dp hG ds vs (by rw [PyData.plain] at n; exact n) r)
  | .dict _, _, n, _ => nomatch n
theorem RepL.dp {ι : Ix} {G H : Hp} (hG : ∀ a o, G a = some o → H a = some o) : ∀ (ds : List D) (vs : List V), PyData.plainAll ds = true → RepL K ι G ds vs → DpAll K H vs ds
  | [], _, _, h => by rw [RepL] at h; subst h; exact .nil
  | d :: ds, _, n, h => by
    rw [PyData.plainAll, Bool.and_eq_true] at n
    obtain ⟨v, ws, rfl, r, q⟩ := RepL.inv h
    exact .cons (Rep.dp hG d v n.1 r) (RepL.dp hG ds ws n.2 q)
end
theorem RB.dp {g0 g : Gh} {H0 H : Hp} {ω : Wd} {d : D} {v : V} (ok : GOk K g H ω) (h : RB K b g0 H0 g H d v) (n : d.plain = true) : Dp K H v d := Rep.dp (fun _ _ h => (hb_sub ok h).1) d v n h
/-- data that are compared: no object in them, not too deep -/
def cmpOk (d e : D) : Bool := d.plain && e.plain && decide (d.depth ≤ 60)
def rDat (K : PySem.W.Frag) (C : D → D → Bool) (res : D → D → Bool) : R2 := fun x y H Q => ∃ d e, Dp K H x d ∧ Dp K H y e ∧ C d e = true ∧ Q (.bl (res d e)) H
theorem op_eqP (hu : X.A.units + 64 < cLine) : OpR X (compareOp .Eq) (rDat X.K cmpOk PyData.eqv) := by
  intro pins s σ H x y v u Q I rx ry h
  obtain ⟨d, e, hd, he, c, q⟩ := h
  simp only [cmpOk, Bool.and_eq_true, decide_eq_true_eq] at c
  obtain ⟨as, r1⟩ := Dp.reads I d x v hd rx
  obtain ⟨bs, r2⟩ := Dp.reads I e y u he ry
  exact SeqAt.eq_plain r1 r2 c.1.1 c.1.2 (by omega) ⟨.bl _, H, I, rfl, q⟩
theorem op_neP (hu : X.A.units + 64 < cLine) : OpR X (compareOp .NotEq) (rDat X.K cmpOk fun d e => !PyData.eqv d e) := by
  intro pins s σ H x y v u Q I rx ry h
  obtain ⟨d, e, hd, he, c, q⟩ := h
  simp only [cmpOk, Bool.and_eq_true, decide_eq_true_eq] at c
  obtain ⟨as, r1⟩ := Dp.reads I d x v hd rx
  obtain ⟨bs, r2⟩ := Dp.reads I e y u he ry
  exact SeqAt.ne_plain r1 r2 c.1.1 c.1.2 (by omega) ⟨.bl _, H, I, rfl, q⟩
def notNon : D → Bool
  | .none => false
  | _ => true
def ltOk (d e : D) : Bool := d.plain && e.plain && decide (d.depth ≤ 60) && PySem.W.alike d e && notNon d
theorem ltOk_h {d e : D} (h : ltOk d e = true) : d.depth ≤ 60 ∧ PySem.W.alike d e = true ∧ d ≠ .none := by
  simp only [ltOk, Bool.and_eq_true, decide_eq_true_eq] at h
  refine ⟨h.1.1.2, h.1.2, fun z => ?_⟩
  rw [z] at h; exact absurd h.2 (by decide)
theorem op_ltP (hu : X.A.units + 64 < cLine) : OpR X (compareOp .Lt) (rDat X.K ltOk PySem.W.dataLt) := by
  intro pins s σ H x y v u Q I rx ry h
  obtain ⟨d, e, hd, he, c, q⟩ := h
  obtain ⟨c1, c2, c3⟩ := ltOk_h c
  obtain ⟨as, r1⟩ := Dp.reads I d x v hd rx
  obtain ⟨bs, r2⟩ := Dp.reads I e y u he ry
  exact PySem.W.lt_data r1 r2 c2 c3 (by omega) ⟨.bl _, H, I, rfl, q⟩
theorem op_gtP (hu : X.A.units + 64 < cLine) : OpR X (compareOp .Gt) (rDat X.K ltOk fun d e => PySem.W.dataLt e d) := by
  intro pins s σ H x y v u Q I rx ry h
  obtain ⟨d, e, hd, he, c, q⟩ := h
  obtain ⟨c1, c2, c3⟩ := ltOk_h c
  obtain ⟨as, r1⟩ := Dp.reads I d x v hd rx
  obtain ⟨bs, r2⟩ := Dp.reads I e y u he ry
  exact PySem.W.gt_data r1 r2 c2 c3 (by omega) ⟨.bl _, H, I, rfl, q⟩
theorem op_leP (hu : X.A.units + 64 < cLine) : OpR X (compareOp .LtE) (rDat X.K ltOk fun d e => !PySem.W.dataLt e d) := by
  intro pins s σ H x y v u Q I rx ry h
  obtain ⟨d, e, hd, he, c, q⟩ := h
  obtain ⟨c1, c2, c3⟩ := ltOk_h c
  obtain ⟨as, r1⟩ := Dp.reads I d x v hd rx
  obtain ⟨bs, r2⟩ := Dp.reads I e y u he ry
  exact PySem.W.le_data r1 r2 c2 c3 (by omega) ⟨.bl _, H, I, rfl, q⟩
theorem op_geP (hu : X.A.units + 64 < cLine) : OpR X (compareOp .GtE) (rDat X.K ltOk fun d e => !PySem.W.dataLt d e) := by
  intro pins s σ H x y v u Q I rx ry h
  obtain ⟨d, e, hd, he, c, q⟩ := h
  obtain ⟨c1, c2, c3⟩ := ltOk_h c
  obtain ⟨as, r1⟩ := Dp.reads I d x v hd rx
  obtain ⟨bs, r2⟩ := Dp.reads I e y u he ry
  exact PySem.W.ge_data r1 r2 c2 c3 (by omega) ⟨.bl _, H, I, rfl, q⟩
theorem ops_dat {C res : D → D → Bool} {op : D → D → Option D} (hC : ∀ d e, C d e = true → d.plain = true ∧ e.plain = true) (h : ∀ x y d, op x y = some d → C x y = true ∧ d = .bool (res x y)) : OpS K b true (rDat K C res) op := by
  intro g0 H0 g H ω x y v w d Q ok st r1 r2 e k
  obtain ⟨c, rfl⟩ := h x y d e
  obtain ⟨p1, p2⟩ := hC _ _ c
  exact ⟨x, y, r1.dp ok p1, r2.dp ok p2, c, k _ g H (.refl _ _) ok .bl⟩
theorem cmpOk_p (d e : D) (h : cmpOk d e = true) : d.plain = true ∧ e.plain = true := by
  simp only [cmpOk, Bool.and_eq_true] at h; exact ⟨h.1.1, h.1.2⟩
theorem ltOk_p (d e : D) (h : ltOk d e = true) : d.plain = true ∧ e.plain = true := by
  simp only [ltOk, Bool.and_eq_true] at h; exact ⟨h.1.1.1.1, h.1.1.1.2⟩
def opEq (x y : D) : Option D := if cmpOk x y = true then some (.bool (PyData.eqv x y)) else none
def opNe (x y : D) : Option D := if cmpOk x y = true then some (.bool (!PyData.eqv x y)) else none
theorem ops_eq : OpS K b true (rDat K cmpOk PyData.eqv) opEq := ops_dat cmpOk_p fun x y d e => by
  unfold opEq at e; split at e <;> cases e; exact ⟨by assumption, rfl⟩
theorem ops_ne : OpS K b true (rDat K cmpOk fun d e => !PyData.eqv d e) opNe := ops_dat cmpOk_p fun x y d e => by
  unfold opNe at e; split at e <;> cases e; exact ⟨by assumption, rfl⟩
def opLt (x y : D) : Option D := match x, y with
  | .int i, .int j => some (.bool (decide (i < j)))
  | x, y => if ltOk x y = true then some (.bool (PySem.W.dataLt x y)) else none
def opGt (x y : D) : Option D := match x, y with
  | .int i, .int j => some (.bool (decide (j < i)))
  | x, y => if ltOk x y = true then some (.bool (PySem.W.dataLt y x)) else none
def opLe (x y : D) : Option D := match x, y with
  | .int i, .int j => some (.bool (decide (i ≤ j)))
  | x, y => if ltOk x y = true then some (.bool (!PySem.W.dataLt y x)) else none
def opGe (x y : D) : Option D := match x, y with
  | .int i, .int j => some (.bool (decide (j ≤ i)))
  | x, y => if ltOk x y = true then some (.bool (!PySem.W.dataLt x y)) else none
theorem ltOk_int (i j : Int) : ltOk (.int i) (.int j) = true := rfl
theorem not_lt_le (i j : Int) : (!decide (j < i)) = decide (i ≤ j) := by
  by_cases h : i ≤ j
  · rw [decide_eq_true h, decide_eq_false (by omega)]; rfl
  · rw [decide_eq_false h, decide_eq_true (by omega)]; rfl
theorem ops_lt : OpS K b true (rDat K ltOk PySem.W.dataLt) opLt := ops_dat ltOk_p fun x y d e => by
  unfold opLt at e
  split at e
  · cases e; exact ⟨rfl, by rw [PySem.W.dataLt_int]⟩
  · split at e <;> cases e; exact ⟨by assumption, rfl⟩
theorem ops_gt : OpS K b true (rDat K ltOk fun d e => PySem.W.dataLt e d) opGt := ops_dat ltOk_p fun x y d e => by
  unfold opGt at e
  split at e
  · cases e; exact ⟨rfl, by rw [PySem.W.dataLt_int]⟩
  · split at e <;> cases e; exact ⟨by assumption, rfl⟩
theorem ops_le : OpS K b true (rDat K ltOk fun d e => !PySem.W.dataLt e d) opLe := ops_dat ltOk_p fun x y d e => by
  unfold opLe at e
  split at e
  · cases e; exact ⟨rfl, by rw [PySem.W.dataLt_int, not_lt_le]⟩
  · split at e <;> cases e; exact ⟨by assumption, rfl⟩
theorem ops_ge : OpS K b true (rDat K ltOk fun d e => !PySem.W.dataLt d e) opGe := ops_dat ltOk_p fun x y d e => by
  unfold opGe at e
  split at e
  · cases e; exact ⟨rfl, by rw [PySem.W.dataLt_int, not_lt_le]⟩
  · split at e <;> cases e; exact ⟨by assumption, rfl⟩
/-! is None, is True .. -/
def isNon : D → Bool
  | .none => true
  | _ => false
theorem RB.non_iff {g0 g : Gh} {H0 H : Hp} {d : D} {v : V} (h : RB K b g0 H0 g H d v) : decide (v = .non) = isNon d := by
  unfold RB at h
  cases d <;> rw [Rep] at h
  · subst h; rfl
  · subst h; rfl
  · subst h; rfl
  · subst h; rfl
  · obtain ⟨a, vs, rfl, _⟩ := h; rfl
  · obtain ⟨a, vs, rfl, _⟩ := h; rfl
  · obtain ⟨n, a, _, _, rfl⟩ := h; rfl
def opIsN (x y : D) : Option D := if isNon y = true then some (.bool (isNon x)) else none
def opNotN (x y : D) : Option D := if isNon y = true then some (.bool (!isNon x)) else none
theorem isNon_y {g0 g : Gh} {H0 H : Hp} {d : D} {v : V} (h : RB K b g0 H0 g H d v) (n : isNon d = true) : v = .non := by
  have := h.non_iff; rw [n] at this; exact of_decide_eq_true this
theorem ops_isN : OpS K b true (fun x y H Q => y = .non ∧ Q (.bl (decide (x = .non))) H) opIsN := by
  intro g0 H0 g H ω x y v w d Q ok st r1 r2 e k
  unfold opIsN at e; split at e <;> cases e
  rename_i n
  refine ⟨isNon_y r2 n, ?_⟩
  rw [r1.non_iff]; exact k _ g H (.refl _ _) ok .bl
theorem ops_notN : OpS K b true (fun x y H Q => y = .non ∧ Q (.bl (!decide (x = .non))) H) opNotN := by
  intro g0 H0 g H ω x y v w d Q ok st r1 r2 e k
  unfold opNotN at e; split at e <;> cases e
  rename_i n
  refine ⟨isNon_y r2 n, ?_⟩
  rw [r1.non_iff]; exact k _ g H (.refl _ _) ok .bl
def opIsB (x y : D) : Option D := match x, y with
  | .bool a, .bool c => some (.bool (decide (a = c)))
  | _, _ => none
def opNotB (x y : D) : Option D := match x, y with
  | .bool a, .bool c => some (.bool (!decide (a = c)))
  | _, _ => none
theorem ops_isB : OpS K b true rIsB opIsB := by
  intro g0 H0 g H ω x y v w d Q ok st r1 r2 e k
  cases x <;> cases y <;> simp only [opIsB] at e <;> cases e
  rw [r1.blV, r2.blV]
  exact ⟨_, _, rfl, rfl, k _ g H (.refl _ _) ok .bl⟩
theorem ops_notB : OpS K b true rNotB opNotB := by
  intro g0 H0 g H ω x y v w d Q ok st r1 r2 e k
  cases x <;> cases y <;> simp only [opNotB] at e <;> cases e
  rw [r1.blV, r2.blV]
  exact ⟨_, _, rfl, rfl, k _ g H (.refl _ _) ok .bl⟩
/-! in, not in -/
def inOk (d e : D) : Bool := match e with
  | .list xs => PyData.plainAll xs && d.plain && decide (d.depth ≤ 60)
  | .tuple xs => PyData.plainAll xs && d.plain && decide (d.depth ≤ 60)
  | _ => false
def inRes (d e : D) : Bool := match e with
  | .list xs => xs.any fun y => PyData.eqv y d
  | .tuple xs => xs.any fun y => PyData.eqv y d
  | _ => false
theorem op_inP (hu : X.A.units + 64 < cLine) : OpR X (compareOp .In) (rDat X.K inOk inRes) := by
  intro pins s σ H x y v u Q I rx ry h
  obtain ⟨d, e, hd, he, c, q⟩ := h
  obtain ⟨as, r1⟩ := Dp.reads I d x v hd rx
  obtain ⟨bs, r2⟩ := Dp.reads I e y u he ry
  cases e with
  | list xs =>
    simp only [inOk, Bool.and_eq_true, decide_eq_true_eq] at c
    exact SeqAt.in_list_data r2 r1 c.1.1 c.1.2 (by omega) ⟨.bl _, H, I, rfl, q⟩
  | tuple xs =>
    simp only [inOk, Bool.and_eq_true, decide_eq_true_eq] at c
    exact SeqAt.in_tuple_data r2 r1 c.1.1 c.1.2 (by omega) ⟨.bl _, H, I, rfl, q⟩
  | _ => exact nomatch c
theorem op_notInP (hu : X.A.units + 64 < cLine) : OpR X (compareOp .NotIn) (rDat X.K inOk fun d e => !inRes d e) := by
  intro pins s σ H x y v u Q I rx ry h
  obtain ⟨d, e, hd, he, c, q⟩ := h
  obtain ⟨as, r1⟩ := Dp.reads I d x v hd rx
  obtain ⟨bs, r2⟩ := Dp.reads I e y u he ry
  cases e with
  | list xs =>
    simp only [inOk, Bool.and_eq_true, decide_eq_true_eq] at c
    exact SeqAt.notIn_list_data r2 r1 c.1.1 c.1.2 (by omega) ⟨.bl _, H, I, rfl, q⟩
  | tuple xs =>
    simp only [inOk, Bool.and_eq_true, decide_eq_true_eq] at c
    exact SeqAt.notIn_tuple_data r2 r1 c.1.1 c.1.2 (by omega) ⟨.bl _, H, I, rfl, q⟩
  | _ => exact nomatch c
theorem inOk_p (d e : D) (h : inOk d e = true) : d.plain = true ∧ e.plain = true := by
  cases e with
  | list xs =>
    simp only [inOk, Bool.and_eq_true] at h
    exact ⟨h.1.2, by rw [PyData.plain]; exact h.1.1⟩
  | tuple xs =>
    simp only [inOk, Bool.and_eq_true] at h
    exact ⟨h.1.2, by rw [PyData.plain]; exact h.1.1⟩
  | _ => exact nomatch h
def opIn (x y : D) : Option D := if inOk x y = true then some (.bool (inRes x y)) else none
def opNotIn (x y : D) : Option D := if inOk x y = true then some (.bool (!inRes x y)) else none
theorem ops_in : OpS K b true (rDat K inOk inRes) opIn := ops_dat inOk_p fun x y d e => by
  unfold opIn at e; split at e <;> cases e; exact ⟨by assumption, rfl⟩
theorem ops_notIn : OpS K b true (rDat K inOk fun d e => !inRes d e) opNotIn := ops_dat inOk_p fun x y d e => by
  unfold opNotIn at e; split at e <;> cases e; exact ⟨by assumption, rfl⟩
/-- one sign, or a text, in a text -/
def opInS (x y : D) : Option D := match x, y with
  | .str i, .str j => some (.bool (!(Builtin.Str.occurrences j i 0 j.length 1).isEmpty))
  | _, _ => none
def opNotInS (x y : D) : Option D := match x, y with
  | .str i, .str j => some (.bool (!(!(Builtin.Str.occurrences j i 0 j.length 1).isEmpty)))
  | _, _ => none
theorem ops_inS : OpS K b true (fun x y H Q => ∃ i j, x = .str i ∧ y = .str j ∧ Q (.bl (!(Builtin.Str.occurrences j i 0 j.length 1).isEmpty)) H) opInS := by
  intro g0 H0 g H ω x y v w d Q ok st r1 r2 e k
  cases x <;> cases y <;> simp only [opInS] at e <;> cases e
  rw [r1.strV, r2.strV]
  exact ⟨_, _, rfl, rfl, k _ g H (.refl _ _) ok .bl⟩
theorem ops_notInS : OpS K b true (fun x y H Q => ∃ i j, x = .str i ∧ y = .str j ∧ Q (.bl (!(!(Builtin.Str.occurrences j i 0 j.length 1).isEmpty))) H) opNotInS := by
  intro g0 H0 g H ω x y v w d Q ok st r1 r2 e k
  cases x <;> cases y <;> simp only [opNotInS] at e <;> cases e
  rw [r1.strV, r2.strV]
  exact ⟨_, _, rfl, rfl, k _ g H (.refl _ _) ok .bl⟩

/-! ## subscripts -/
/-- the item at i: of a list, a tuple, a text -/
def opIx : D → D → Option D
  | .list xs, .int i => atI xs i
  | .tuple xs, .int i => atI xs i
  | .str z, .int i => if z.length ≤ sizeLine then (atI z.cps.toList i).map fun c => .str ⟨#[c]⟩ else none
  | _, _ => none
theorem RepL.atI {ι : Ix} {G : Hp} {ds : List D} {vs : List V} {i : Int} {d : D} (h : RepL K ι G ds vs) (e : L2.atI ds i = some d) : ∃ v, L2.atI vs i = some v ∧ Rep K ι G d v := by
  unfold L2.atI at e ⊢
  rw [h.length]
  cases q : ixN ds.length i with
  | none => rw [q] at e; cases e
  | some j =>
    rw [q] at e
    exact h.get e
theorem ops_ix : OpS K b b (rIx K) opIx := by
  intro g0 H0 g H ω x y v w d Q ok st r1 r2 e k
  cases x <;> cases y <;> simp only [opIx] at e <;> try cases e
  · split at e
    · rename_i hz
      obtain ⟨c, h1, rfl⟩ := Option.map_eq_some_iff.mp e
      rw [r1.strV, r2.intV]
      exact .inr (.inr ⟨_, _, c, rfl, rfl, hz, h1, k _ g H (.refl _ _) ok .str⟩)
    · cases e
  · obtain ⟨a, vs, rfl, q1, z1, l1⟩ := r1.lstV ok
    rw [r2.intV]
    obtain ⟨u, h1, h2⟩ := RepL.atI l1 e
    exact .inl ⟨a, vs, _, u, rfl, rfl, SqL.of q1, h1, k _ g H (.refl _ _) ok h2⟩
  · obtain ⟨a, vs, rfl, q1, z1, l1⟩ := r1.tupV ok
    rw [r2.intV]
    obtain ⟨u, h1, h2⟩ := RepL.atI l1 e
    exact .inr (.inl ⟨a, vs, _, u, rfl, rfl, q1, h1, k _ g H (.refl _ _) ok h2⟩)
theorem ex_ix {ta tb : TE} {fa fb : DE} {ea eb : Expr} {pos : Pos} (ha : EX X b ea ta fa) (hb : EX X b eb tb fb) (hs : PlainIx eb := by exact fun _ _ => rfl) : EX X b (.Subscript ea eb pos) (tOp (rIx X.K) ta tb) (eBin opIx fa fb) :=
  ⟨pe_ix ix_seq ha.pe hb.pe hs, sn_bin ops_ix ha.sn hb.sn⟩
/-- the item of a list of one's own: it is settled -/
def eIxOwn (i : Nat) (f : DE) : DE := fun ρ ω => match ρ[i]? with
  | some (.own xs) => (match f ρ ω with
    | some (.int j, ω1) => (match atI xs j with
      | some d => some (d, ω1)
      | none => none)
    | _ => none)
  | _ => none
theorem sn_ixOwn {i : Nat} {tb : TE} {fb : DE} {d : Bool} (hb : Snd K d tb fb) : Snd K true (tOp (rIx K) (tVar i) tb) (eIxOwn i fb) := by
  intro g0 H0 g H ρ ω σ Q d ω' ok st sl e k
  unfold eIxOwn at e
  split at e
  · rename_i xs hx
    split at e
    · rename_i j ω1 e1
      split at e
      · rename_i dd e2
        cases e
        obtain ⟨o, h1, p, vs, rfl, hp, hG, hS, h0, z, r⟩ := sl.get hx
        refine ⟨_, h1, ?_⟩
        refine hb g0 H0 g H ρ ω σ _ _ ω' ok st sl e1 fun v g1 H1 s1 ok1 r1 => ?_
        obtain ⟨u, h3, h4⟩ := RepL.atI (r.mono s1.ιm s1.Gm) e2
        rw [r1.intV]
        exact .inl ⟨p, vs, j, u, rfl, rfl, SqL.of (s1.fr _ _ hp hS), h3, k u g1 H1 s1 ok1 h4⟩
      · cases e
    · cases e
  · cases e
theorem ex_ixOwn {i : Nat} {x : Str} {tb : TE} {fb : DE} {eb : Expr} {pos pos2 : Pos} {d : Bool} (hb : EX X d eb tb fb) (hN : X.N[i]? = some x := by rfl) (hv : Vis X.env.scope x := by first | exact Or.inl rfl | exact Or.inr (Or.inl rfl) | exact Or.inr (Or.inr rfl)) (hd : (x == ("__debug__" : Str)) = false := by decide)
    (hcd : (x == ("__classdict__" : Str)) = false := by decide) (hs : PlainIx eb := by exact fun _ _ => rfl) : EX X true (.Subscript (.Name x pos2) eb pos) (tOp (rIx X.K) (tVar i) tb) (eIxOwn i fb) :=
  ⟨pe_ix ix_seq (pe_var hN hv hd hcd) hb.pe hs, sn_ixOwn hb.sn⟩
end
end Dn
end

section
namespace Dn
open PySem PySem.Spec L2

section
variable {X : Cx} {K : PySem.W.Frag} {b b' : Bool}
/-! ## what is walked -/
structure GLe (g g' : Gh) : Prop where
  ιm : ∀ n a, g.ι n = some a → g'.ι n = some a
  Gm : ∀ a o, g.G a = some o → g'.G a = some o
theorem GLe.refl (g : Gh) : GLe g g := ⟨fun _ _ h => h, fun _ _ h => h⟩
theorem GLe.trans {g g1 g2 : Gh} (a : GLe g g1) (b : GLe g1 g2) : GLe g g2 := ⟨fun n x h => b.ιm n x (a.ιm n x h), fun x o h => b.Gm x o (a.Gm x o h)⟩
theorem Step.le {g g' : Gh} {H H' : Hp} (s : Step g H g' H') : GLe g g' := ⟨s.ιm, s.Gm⟩
/-- a later moment: of the same expression (false), of the same def (true) -/
def Later (b : Bool) (g : Gh) (H : Hp) (g1 : Gh) (H1 : Hp) : Prop := if b = true then GLe g g1 ∧ ∀ a o, g1.G a = some o → H1 a = some o else Step g H g1 H1
structure ItS (K : PySem.W.Frag) (J : It) (ds : List D) (g : Gh) (H : Hp) : Prop where
  stop : ∀ i, ds.length ≤ i → J.stop i H
  go : ∀ i d, ds[i]? = some d → J.go i H ∧ ∀ x H2, J.yld i H x H2 → ∃ g2, Step g H g2 H2 ∧ (∀ ω, GOk K g H ω → GOk K g2 H2 ω) ∧ Rep K g2.ι g2.G d x
def SndI (K : PySem.W.Frag) (b : Bool) (t : TI) (f : DA) : Prop :=
  ∀ (g0 : Gh) (H0 : Hp) (g : Gh) (H : Hp) (ρ : Ro) (ω : Wd) (σ : L2.St) (R : It → Hp → Prop) (ds : List D) (ω' : Wd), GOk K g H ω → Step g0 H0 g H → Slots K H0 g H ρ σ → f ρ ω = some (ds, ω') →
    (∀ J g' H', Step g H g' H' → GOk K g' H' ω' → ds.length ≤ sizeLine → (∀ g1 H1, Later b g' H' g1 H1 → ItS K J ds g1 H1) → R J H') → t σ H R
structure EI (X : Cx) (b : Bool) (tg iter : Expr) (t : TI) (f : DA) : Prop where
  pe : PI X tg iter t
  sn : SndI X.K b t f
theorem Later.step {g g1 : Gh} {H H1 : Hp} {ω : Wd} (s : Step g H g1 H1) (ok : GOk K g1 H1 ω) : Later b g H g1 H1 := by
  cases b with
  | false => exact s
  | true => exact ⟨s.le, ok.sub⟩
/-- a list that stands at a -/
theorem itS_lst {g : Gh} {H : Hp} {a : Addr} {vs : List V} {ds : List D} (hp : H a = some (.lst vs)) (r : RepL K g.ι g.G ds vs) : ItS K (Itl K a) ds g H where
  stop i hi := ⟨vs, SqL.of hp, by rw [r.length]; exact hi⟩
  go i d e := by
    obtain ⟨v, e1, r1⟩ := r.get e
    refine ⟨⟨vs, v, SqL.of hp, e1⟩, fun x H2 y => ?_⟩
    obtain ⟨rfl, y⟩ := y
    have := y vs (SqL.of hp)
    rw [e1] at this; cases this
    exact ⟨g, .refl _ _, fun _ h => h, r1⟩
theorem itS_tup {g : Gh} {H : Hp} {a : Addr} {vs : List V} {ds : List D} (hp : SqT K H a vs) (r : RepL K g.ι g.G ds vs) : ItS K (Itt K a) ds g H where
  stop i hi := ⟨vs, hp, by rw [r.length]; exact hi⟩
  go i d e := by
    obtain ⟨v, e1, r1⟩ := r.get e
    refine ⟨⟨vs, v, hp, e1⟩, fun x H2 y => ?_⟩
    obtain ⟨rfl, y⟩ := y
    have := y vs hp
    rw [e1] at this; cases this
    exact ⟨g, .refl _ _, fun _ h => h, r1⟩
/-- the items of a settled list; of a settled tuple -/
def iLst (f : DE) : DA := fun ρ ω => match f ρ ω with
  | some (.list ds, ω1) => some (ds, ω1)
  | _ => none
def iTpl (f : DE) : DA := fun ρ ω => match f ρ ω with
  | some (.tuple ds, ω1) => some (ds, ω1)
  | _ => none
theorem sni_lst {t : TE} {f : DE} (h : Snd K true t f) : SndI K b (iList K t) (iLst f) := by
  intro g0 H0 g H ρ ω σ R ds ω' ok st sl e k
  unfold iLst at e
  split at e
  · rename_i ds1 ω1 e1
    cases e
    refine h g0 H0 g H ρ ω σ _ _ ω' ok st sl e1 fun v g1 H1 s1 ok1 r1 => ?_
    have r1' : Rep K g1.ι g1.G (.list ds) v := r1
    rw [Rep] at r1'
    obtain ⟨a, vs, rfl, q, z, r⟩ := r1'
    refine ⟨a, rfl, ⟨vs, SqL.of (ok1.sub _ _ q)⟩, k _ g1 H1 s1 ok1 (by rw [← r.length]; exact z) fun g2 H2 l => ?_⟩
    cases b with
    | true => exact itS_lst (l.2 _ _ (l.1.Gm _ _ q)) (r.mono l.1.ιm l.1.Gm)
    | false =>
      have l : Step g1 H1 g2 H2 := l
      exact itS_lst (l.fr _ _ (ok1.sub _ _ q) (ok1.nS _ _ q)) (r.mono l.ιm l.Gm)
  · cases e
theorem sni_tup {t : TE} {f : DE} (h : Snd K true t f) : SndI K b (iTup K t) (iTpl f) := by
  intro g0 H0 g H ρ ω σ R ds ω' ok st sl e k
  unfold iTpl at e
  split at e
  · rename_i ds1 ω1 e1
    cases e
    refine h g0 H0 g H ρ ω σ _ _ ω' ok st sl e1 fun v g1 H1 s1 ok1 r1 => ?_
    have r1' : Rep K g1.ι g1.G (.tuple ds) v := r1
    rw [Rep] at r1'
    obtain ⟨a, vs, rfl, q, z, r⟩ := r1'
    refine ⟨a, rfl, ⟨vs, SqT.mono ok1.sub q⟩, k _ g1 H1 s1 ok1 (by rw [← r.length]; exact z) fun g2 H2 l => ?_⟩
    cases b with
    | true => exact itS_tup (SqT.mono (fun x o h => l.2 _ _ (l.1.Gm _ _ h)) q) (r.mono l.1.ιm l.1.Gm)
    | false =>
      have l : Step g1 H1 g2 H2 := l
      exact itS_tup (SqT.mono (fun x o h => l.fr _ _ (ok1.sub _ _ h) (ok1.nS _ _ h)) q) (r.mono l.ιm l.Gm)
  · cases e
theorem ei_lst {tg e : Expr} {t : TE} {f : DE} (h : EX X true e t f) : EI X b tg e (iList X.K t) (iLst f) := ⟨pi_list h.pe, sni_lst h.sn⟩
theorem ei_tup {tg e : Expr} {t : TE} {f : DE} (h : EX X true e t f) : EI X b tg e (iTup X.K t) (iTpl f) := ⟨pi_tup h.pe, sni_tup h.sn⟩
/-- a list of one's own, within an expression -/
def iOwn (i : Nat) : DA := fun ρ ω => match ρ[i]? with
  | some (.own xs) => some (xs, ω)
  | _ => none
theorem sni_own (i : Nat) : SndI K false (iList K (tVar i)) (iOwn i) := by
  intro g0 H0 g H ρ ω σ R ds ω' ok st sl e k
  unfold iOwn at e
  split at e
  · rename_i xs hx
    cases e
    obtain ⟨o, h1, p, vs, rfl, hp, hG, hS, h0, z, r⟩ := sl.get hx
    refine ⟨_, h1, p, rfl, ⟨vs, SqL.of hp⟩, k _ g H (.refl _ _) ok (by rw [← r.length]; exact z) fun g2 H2 l => ?_⟩
    have l : Step g H g2 H2 := l
    exact itS_lst (l.fr _ _ hp hS) (r.mono l.ιm l.Gm)
  · cases e
theorem ei_own {i : Nat} {tg : Expr} {x : Str} {pos : Pos} (hN : X.N[i]? = some x := by rfl) (hv : Vis X.env.scope x := by first | exact Or.inl rfl | exact Or.inr (Or.inl rfl) | exact Or.inr (Or.inr rfl)) (hd : (x == ("__debug__" : Str)) = false := by decide)
    (hcd : (x == ("__classdict__" : Str)) = false := by decide) : EI X false tg (.Name x pos) (iList X.K (tVar i)) (iOwn i) := ⟨pi_list (pe_var hN hv hd hcd), sni_own i⟩
/-- range -/
theorem rgOk_ex : ∃ f : Int → Int → Bool, ∀ i j, f i j = (decide (-(2 ^ 62) ≤ i) && decide (i < 2 ^ 62) && decide (-(2 ^ 62) ≤ j) && decide (j < 2 ^ 62) && decide (j - i ≤ 16777216)) := ⟨_, fun _ _ => rfl⟩
/-- the bounds that the model walks (never unfolded) -/
noncomputable def rgOk : Int → Int → Bool := Classical.choose rgOk_ex
theorem rgOk_eq (i j : Int) : rgOk i j = (decide (-(2 ^ 62) ≤ i) && decide (i < 2 ^ 62) && decide (-(2 ^ 62) ≤ j) && decide (j < 2 ^ 62) && decide (j - i ≤ 16777216)) := Classical.choose_spec rgOk_ex i j
def rgD (i j : Int) : List D := (List.range (j - i).toNat).map fun (k : Nat) => .int (i + k)
noncomputable def iRange (a : DA) : DA := fun ρ ω => match a ρ ω with
  | some ([.int j], ω1) => if rgOk 0 j = true then some (rgD 0 j, ω1) else none
  | some ([.int i, .int j], ω1) => if rgOk i j = true then some (rgD i j, ω1) else none
  | _ => none
theorem rgD_length (i j : Int) : (rgD i j).length = (j - i).toNat := by simp [rgD]
theorem itS_rng {g : Gh} {H : Hp} {i j : Int} : ItS K (Itr i (j - i).toNat) (rgD i j) g H where
  stop k hk := by rw [rgD_length] at hk; exact hk
  go k d e := by
    have hk : k < (j - i).toNat := by
      have := (List.getElem?_eq_some_iff.mp e).1
      rw [rgD_length] at this; exact this
    refine ⟨hk, fun x H2 y => ?_⟩
    obtain ⟨rfl, rfl⟩ := y
    refine ⟨g, .refl _ _, fun _ h => h, ?_⟩
    have e2 : d = .int (i + k) := by
      unfold rgD at e
      rw [List.getElem?_map, List.getElem?_range hk] at e
      exact (Option.some.inj e).symm
    subst e2
    rw [Rep]
theorem rg_size {i j : Int} (h : rgOk i j = true) : (rgD i j).length ≤ sizeLine := by
  simp only [rgOk_eq, Bool.and_eq_true, decide_eq_true_eq] at h
  rw [rgD_length, sizeLine_eq]; omega
theorem sni_rng1 {ta : TA} {f : DA} (h : SndA K b' ta f) (hl : LenA 1 f) : SndI K b (iRng1 ta) (iRange f) := by
  intro g0 H0 g H ρ ω σ R ds ω' ok st sl e k
  unfold iRange at e
  split at e
  · rename_i j ω1 e1
    split at e
    · rename_i hr
      cases e
      refine h g0 H0 g H ρ ω σ _ _ ω' ok st sl e1 fun vs g1 H1 s1 ok1 r1 => ?_
      obtain ⟨v, ws, rfl, r, t⟩ := RepL.inv r1
      have t' : ws = [] := by rw [RepL] at t; exact t
      subst t'
      have hr' := hr
      simp only [rgOk_eq, Bool.and_eq_true, decide_eq_true_eq] at hr'
      have e0 : j.toNat = (j - 0).toNat := by rw [Int.sub_zero]
      refine ⟨j, by rw [show v = .int j from RB.intV r], hr'.1.1.2, hr'.1.2, k _ g1 H1 s1 ok1 (rg_size hr) fun g2 H2 _ => ?_⟩
      rw [e0]; exact itS_rng
    · cases e
  · rename_i i j ω1 e1
    have := hl _ _ _ _ e1
    simp at this
  · cases e
theorem sni_rng2 {ta : TA} {f : DA} (h : SndA K b' ta f) (hl : LenA 2 f) : SndI K b (iRng2 ta) (iRange f) := by
  intro g0 H0 g H ρ ω σ R ds ω' ok st sl e k
  unfold iRange at e
  split at e
  · rename_i j ω1 e1
    have := hl _ _ _ _ e1
    simp at this
  · rename_i i j ω1 e1
    split at e
    · rename_i hr
      cases e
      refine h g0 H0 g H ρ ω σ _ _ ω' ok st sl e1 fun vs g1 H1 s1 ok1 r1 => ?_
      obtain ⟨v, ws, rfl, r, t⟩ := RepL.inv r1
      obtain ⟨v2, ws2, rfl, r2, t2⟩ := RepL.inv t
      have t' : ws2 = [] := by rw [RepL] at t2; exact t2
      subst t'
      have hr' := hr
      simp only [rgOk_eq, Bool.and_eq_true, decide_eq_true_eq] at hr'
      refine ⟨i, j, by rw [show v = .int i from RB.intV r, show v2 = .int j from RB.intV r2], ⟨hr'.1.1.1.1, hr'.1.1.1.2, hr'.1.1.2, hr'.1.2⟩, k _ g1 H1 s1 ok1 (rg_size hr) fun g2 H2 _ => itS_rng⟩
    · cases e
  · cases e
theorem ei_rng1 {tg a : Expr} {ta : TA} {f : DA} {p pos : Pos} (hm : X.mg "range" = none) (h : EA X b' [a] ta f) (hl : LenA 1 f := by exact len_cons len_nil) (hg : Gl X "range" := by rfl) (hs : starEach [a] X.env = [(false, eval a X.env)] := by rfl) : EI X b tg (.Call (.Name "range" p) [a] [] pos) (iRng1 ta) (iRange f) :=
  ⟨pi_range1 hg hm h.pe hs, sni_rng1 h.sn hl⟩
theorem ei_rng2 {tg a c : Expr} {ta : TA} {f : DA} {p pos : Pos} (hm : X.mg "range" = none) (h : EA X b' [a, c] ta f) (hl : LenA 2 f := by exact len_cons (len_cons len_nil)) (hg : Gl X "range" := by rfl) (hs : starEach [a, c] X.env = [(false, eval a X.env), (false, eval c X.env)] := by rfl) (hs2 : starEach [c] X.env = [(false, eval c X.env)] := by rfl) :
    EI X b tg (.Call (.Name "range" p) [a, c] [] pos) (iRng2 ta) (iRange f) :=
  ⟨pi_range2 hg hm h.pe hs hs2, sni_rng2 h.sn hl⟩

/-! ## targets -/
abbrev DG := D → Ro → Option Ro
/-- the own lists of the one state are own lists of the other one, in the same slots -/
def OwnLe (ρ : Ro) (σ : L2.St) (ρ' : Ro) (σ' : L2.St) : Prop := ∀ (i : Nat) (xs : List D), ρ'[i]? = some (.own xs) → ρ[i]? = some (.own xs) ∧ σ'[i]? = σ[i]?
theorem OwnLe.refl (ρ : Ro) (σ : L2.St) : OwnLe ρ σ ρ σ := fun _ _ h => ⟨h, rfl⟩
theorem OwnLe.trans {ρ ρ1 ρ2 : Ro} {σ σ1 σ2 : L2.St} (a : OwnLe ρ σ ρ1 σ1) (b : OwnLe ρ1 σ1 ρ2 σ2) : OwnLe ρ σ ρ2 σ2 := fun i xs h => ⟨(a i xs (b i xs h).1).1, (b i xs h).2.trans (a i xs (b i xs h).1).2⟩
theorem OwnLe.set (ρ : Ro) (σ : L2.St) (i : Nat) (s : SV) (o : Option V) (hn : ∀ xs, s ≠ .own xs) : OwnLe ρ σ (ρ.set i s) (σ.set i o) := fun j xs h => by
  have hj : i ≠ j := fun z => by
    subst z
    rw [List.getElem?_set] at h
    simp only [if_true] at h
    split at h
    · exact hn xs (Option.some.inj h)
    · cases h
  rw [List.getElem?_set_ne hj] at h ⊢
  exact ⟨h, rfl⟩
def SndG (K : PySem.W.Frag) (t : TG) (js : List Nat) (f : DG) : Prop :=
  ∀ (H0 : Hp) (g : Gh) (H : Hp) (ρ : Ro) (σ : L2.St) (d : D) (v : V) (ρ' : Ro) (Q : L2.St → Hp → Prop), (∀ a o, g.G a = some o → H a = some o) → Slots K H0 g H ρ σ → Rep K g.ι g.G d v → f d ρ = some ρ' →
    (∀ σ', Slots K H0 g H ρ' σ' → (∀ vs, (∀ j ∈ js, j ∈ vs) → wipe σ' vs = wipe σ vs) → OwnLe ρ σ ρ' σ' → Q σ' H) → t v σ H Q
structure EG (X : Cx) (tg : Expr) (t : TG) (js : List Nat) (f : DG) : Prop where
  pe : PG X tg t
  sn : SndG X.K t js f
def SndGs (K : PySem.W.Frag) (t : TGs) (js : List Nat) (f : List D → Ro → Option Ro) : Prop :=
  ∀ (H0 : Hp) (g : Gh) (H : Hp) (ρ : Ro) (σ : L2.St) (ds : List D) (vs : List V) (ρ' : Ro) (Q : L2.St → Hp → Prop), (∀ a o, g.G a = some o → H a = some o) → Slots K H0 g H ρ σ → RepL K g.ι g.G ds vs → f ds ρ = some ρ' →
    (∀ σ', Slots K H0 g H ρ' σ' → (∀ vs, (∀ j ∈ js, j ∈ vs) → wipe σ' vs = wipe σ vs) → OwnLe ρ σ ρ' σ' → Q σ' H) → t vs σ H Q
structure EGs (X : Cx) (tg : List Expr) (t : TGs) (js : List Nat) (f : List D → Ro → Option Ro) : Prop where
  pe : PGs X tg t
  sn : SndGs X.K t js f
theorem wipe_set (σ : L2.St) (i : Nat) (x : Option V) : ∀ vs : List Nat, i ∈ vs → wipe (σ.set i x) vs = wipe σ vs := by
  have out : ∀ vs : List Nat, i ∉ vs → wipe (σ.set i x) vs = (wipe σ vs).set i x := by
    intro vs
    induction vs with
    | nil => intro _; rfl
    | cons v vs ih =>
      intro h
      rw [List.mem_cons, not_or] at h
      show (wipe (σ.set i x) vs).set v none = ((wipe σ vs).set v none).set i x
      rw [ih h.2, List.set_comm _ _ h.1]
  intro vs
  induction vs with
  | nil => intro h; cases h
  | cons v vs ih =>
    intro h
    show (wipe (σ.set i x) vs).set v none = (wipe σ vs).set v none
    by_cases hm : i ∈ vs
    · rw [ih hm]
    · rw [out vs hm]
      rcases List.mem_cons.mp h with rfl | h
      · rw [List.set_set]
      · exact absurd h hm
def gSet (i : Nat) : DG := fun d ρ => some (ρ.set i (.val d))
theorem sng_name (i : Nat) : SndG K (gName i) [i] (gSet i) := by
  intro H0 g H ρ σ d v ρ' Q sub sl r e k
  cases e
  exact k _ (sl.set i ⟨v, rfl, r⟩ fun xs z => nomatch z) (fun vs h => wipe_set σ i (some v) vs (h i (List.mem_singleton.mpr rfl))) (OwnLe.set ρ σ i _ _ fun xs z => nomatch z)
theorem eg_name {i : Nat} {x : Str} {pos : Pos} (hN : X.N.Nodup) (hi : X.N[i]? = some x := by rfl) (hx : Loc X.env.scope x := by first | exact Or.inl rfl | exact Or.inr rfl) (hf : X.fn x = true ∨ X.env.scope.names.lookup x = some .local := by first | exact .inl rfl | exact .inr rfl | assumption) : EG X (.Name x pos) (gName i) [i] (gSet i) :=
  ⟨pg_name hN hi hx hf, sng_name i⟩
def gNilD : List D → Ro → Option Ro := fun ds ρ => match ds with
  | [] => some ρ
  | _ :: _ => none
def gConsD (f : DG) (h : List D → Ro → Option Ro) : List D → Ro → Option Ro := fun ds ρ => match ds with
  | [] => none
  | d :: ds => match f d ρ with
    | none => none
    | some ρ1 => h ds ρ1
theorem egs_nil : EGs X [] gNil [] gNilD := by
  refine ⟨pgs_nil, ?_⟩
  intro H0 g H ρ σ ds vs ρ' Q sub sl r e k
  unfold gNilD at e
  split at e
  · cases e
    have t : vs = [] := by rw [RepL] at r; exact r
    exact ⟨t, k _ sl (fun _ _ => rfl) (OwnLe.refl _ _)⟩
  · cases e
theorem egs_cons {e : Expr} {es : List Expr} {t : TG} {u : TGs} {js ks : List Nat} {f : DG} {h : List D → Ro → Option Ro} (h1 : EG X e t js f) (h2 : EGs X es u ks h)
    (hs : (assignEach (e :: es) X.env).map (·.2) = assign e X.env :: (assignEach es X.env).map (·.2) := by rfl) : EGs X (e :: es) (gCons t u) (js ++ ks) (gConsD f h) := by
  refine ⟨pgs_cons h1.pe h2.pe hs, ?_⟩
  intro H0 g H ρ σ ds vs ρ' Q sub sl r e k
  unfold gConsD at e
  split at e
  · cases e
  rename_i d ds
  split at e
  · cases e
  rename_i ρ1 e1
  obtain ⟨v, ws, rfl, r1, r2⟩ := RepL.inv r
  refine ⟨v, ws, rfl, h1.sn H0 g H ρ σ d v ρ1 _ sub sl r1 e1 fun σ1 sl1 w1 o1 => ?_⟩
  exact h2.sn H0 g H ρ1 σ1 ds ws ρ' Q sub sl1 r2 e fun σ2 sl2 w2 o2 => k σ2 sl2 (fun vs hv => by
    rw [w2 vs fun j hj => hv j (List.mem_append_right _ hj), w1 vs fun j hj => hv j (List.mem_append_left _ hj)]) (o1.trans o2)
def gTupD (h : List D → Ro → Option Ro) : DG := fun d ρ => match d with
  | .tuple ds => h ds ρ
  | _ => none
def LenG (n : Nat) (h : List D → Ro → Option Ro) : Prop := ∀ ds ρ ρ', h ds ρ = some ρ' → ds.length = n
theorem leng_nil : LenG 0 gNilD := fun ds ρ ρ' e => by
  unfold gNilD at e
  split at e
  · rfl
  · cases e
theorem leng_cons {n : Nat} {f : DG} {h : List D → Ro → Option Ro} (l : LenG n h) : LenG (n + 1) (gConsD f h) := fun ds ρ ρ' e => by
  unfold gConsD at e
  split at e
  · cases e
  split at e
  · cases e
  rw [List.length_cons, l _ _ _ e]
theorem eg_tup {es : List Expr} {k : Nat} {t : TGs} {n : Nat} {js : List Nat} {h : List D → Ro → Option Ro} {pos : Pos} (hc : X.calm = true) (hh : EGs X es t js h) (l : LenG n h)
    (hn : (assignEach es X.env).length = n := by rfl) (hst : (assignEach es X.env).findIdx? (·.1) = none := by rfl) : EG X (.Tuple es k pos) (gTup X.K n t) js (gTupD h) := by
  refine ⟨pg_tup hc hh.pe hn hst, ?_⟩
  intro H0 g H ρ σ d v ρ' Q sub sl r e k
  unfold gTupD at e
  split at e
  · rename_i ds
    rw [Rep] at r
    obtain ⟨a, vs, rfl, q, z, r⟩ := r
    exact ⟨a, vs, rfl, SqT.mono sub q, by rw [r.length]; exact l _ _ _ e, hh.sn H0 g H ρ σ ds vs ρ' Q sub sl r e k⟩
  · cases e

/-! ## list comprehensions -/
def wipeR (ρ : Ro) : List Nat → Ro
  | [] => ρ
  | v :: vs => (wipeR ρ vs).set v .un
theorem Slots.wipe {H0 : Hp} {g : Gh} {H : Hp} {ρ : Ro} {σ : L2.St} (h : Slots K H0 g H ρ σ) : ∀ vs : List Nat, Slots K H0 g H (wipeR ρ vs) (L2.wipe σ vs)
  | [] => h
  | v :: vs => (Slots.wipe h vs).set v trivial fun xs z => nomatch z
theorem wipe_get (σ : L2.St) : ∀ (vs : List Nat) (i : Nat), (L2.wipe σ vs)[i]? = if i ∈ vs then (if i < σ.length then some none else none) else σ[i]?
  | [], i => by simp [L2.wipe]
  | v :: vs, i => by
    show ((L2.wipe σ vs).set v none)[i]? = _
    rw [List.getElem?_set, wipe_get σ vs i, wipe_length]
    by_cases hv : v = i
    · subst hv; simp
    · simp only [hv, if_false, List.mem_cons, Ne.symm hv, false_or]
theorem wipe_wipe (σ : L2.St) (vs : List Nat) : L2.wipe (L2.wipe σ vs) vs = L2.wipe σ vs := by
  apply List.ext_getElem?
  intro i
  rw [wipe_get, wipe_get, wipe_length]
  split <;> rfl
/-- the turns of a comprehension -/
def lcD (fg : DG) (ft : DT) (fe : DE) (ρ : Ro) : List D → Wd → Option (List D × Wd)
  | [], ω => some ([], ω)
  | d :: ds, ω => match fg d ρ with
    | none => none
    | some ρ1 => match ft ρ1 ω with
      | none => none
      | some (c, ω1) => if c = true then (match fe ρ1 ω1 with
          | none => none
          | some (x, ω2) => match lcD fg ft fe ρ ds ω2 with
            | none => none
            | some (xs, ω3) => some (x :: xs, ω3))
        else lcD fg ft fe ρ ds ω1
def eLcN (fi : DA) (fg : DG) (ft : DT) (fe : DE) (vs : List Nat) : DA := fun ρ ω => match fi ρ ω with
  | none => none
  | some (ds, ω1) => lcD fg ft fe (wipeR ρ vs) ds ω1
theorem own_step {g g' : Gh} {H H' : Hp} {ω' : Wd} {p : Addr} {vs : List V} (hp : H p = some (.lst vs)) (hG : g.G p = none) (hS : ¬ g.S p) (st : Step g H g' H') (ok : GOk K g' H' ω') : H' p = some (.lst vs) ∧ g'.G p = none ∧ ¬ g'.S p := by
  have hp' := st.fr p _ hp hS
  refine ⟨hp', ?_, fun q => ?_⟩
  · cases q : g'.G p with
    | none => rfl
    | some o =>
      have e2 := ok.sub p o q
      rw [hp'] at e2; cases e2
      rcases st.nw p vs q with z | z
      · rw [hG] at z; cases z
      · rw [hp] at z; cases z
  · rcases st.nS p q with z | z
    · exact hS z
    · rw [hp] at z; cases z
theorem lc_sound {wi : TI} {tg : TG} {tt : TT} {te : TE} {fi : DA} {fg : DG} {ft : DT} {fe : DE} {js vs : List Nat} (hi : SndI K b wi fi) (hg : SndG K tg js fg) (hj : ∀ j ∈ js, j ∈ vs) (ht : SndT K tt ft) (he : Snd K true te fe)
    {g0 : Gh} {H0 : Hp} {g : Gh} {H : Hp} {ρ : Ro} {ω : Wd} {σ : L2.St} {Q : VK} {ds : List D} {ω' : Wd} (ok : GOk K g H ω) (st : Step g0 H0 g H) (sl : Slots K H0 g H ρ σ) (e : eLcN fi fg ft fe vs ρ ω = some (ds, ω'))
    (k : ∀ p ws g' H', Step g H g' H' → GOk K g' H' ω' → H p = none → H' p = some (.lst ws) → g'.G p = none → ¬ g'.S p → ws.length ≤ sizeLine → RepL K g'.ι g'.G ds ws → Q (.ref p) H') : tLc wi tg tt te vs σ H Q := by
  unfold eLcN at e
  split at e
  · cases e
  rename_i items ω1 e1
  refine hi g0 H0 g H ρ ω σ _ items ω1 ok st sl e1 fun J g1 H1 s1 ok1 hz hJ => ?_
  intro P hP
  refine ⟨fun i m H2 => m = items.length - i ∧ i ≤ items.length ∧ ∃ g2 ω2 acc accD rest, Step g1 H1 g2 H2 ∧ GOk K g2 H2 ω2 ∧ H2 P = some (.lst acc) ∧ g2.G P = none ∧ ¬ g2.S P ∧ acc.length ≤ i ∧ RepL K g2.ι g2.G accD acc ∧ lcD fg ft fe (wipeR ρ vs) (items.drop i) ω2 = some (rest, ω') ∧ accD ++ rest = ds, ?_, ?_⟩
  · obtain ⟨s2, ok2⟩ := allocOwn ok1 hP (o := .lst [])
    have nG : g1.G P = none := by
      cases q : g1.G P with
      | none => rfl
      | some u => rw [ok1.sub P u q] at hP; cases hP
    have nS : ¬ g1.S P := fun q => by obtain ⟨u, e, _⟩ := ok1.sl P q; rw [hP] at e; cases e
    exact ⟨_, rfl, Nat.zero_le _, g1, ω1, [], [], ds, s2, ok2, upd_same, nG, nS, Nat.le_refl _, .nil, e, rfl⟩
  · rintro i m H2 ⟨rfl, hil, g2, ω2, acc, accD, rest, s2, ok2, hP2, hG2, hS2, hal, hacc, hrest, happ⟩
    have it := hJ g2 H2 (Later.step s2 ok2)
    by_cases hlt : i < items.length
    · obtain ⟨d, hd⟩ : ∃ d, items[i]? = some d := ⟨_, List.getElem?_eq_getElem hlt⟩
      obtain ⟨go, hy⟩ := it.go i d hd
      rw [List.drop_eq_getElem_cons hlt] at hrest
      have hd' : items[i] = d := by rw [List.getElem?_eq_getElem hlt] at hd; exact Option.some.inj hd
      rw [hd'] at hrest
      unfold lcD at hrest
      refine .inr ⟨go, fun H' => ∃ m', m' = items.length - (i + 1) ∧ (i + 1) ≤ items.length ∧ ∃ g2 ω2 acc accD rest, Step g1 H1 g2 H' ∧ GOk K g2 H' ω2 ∧ H' P = some (.lst acc) ∧ g2.G P = none ∧ ¬ g2.S P ∧ acc.length ≤ i + 1 ∧ RepL K g2.ι g2.G accD acc ∧ lcD fg ft fe (wipeR ρ vs) (items.drop (i + 1)) ω2 = some (rest, ω') ∧ accD ++ rest = ds,
        fun H' ⟨m', e', r'⟩ => ⟨m', by omega, e', r'⟩, fun x H3 hyld => ?_⟩
      obtain ⟨g3, s3, k3, r3⟩ := hy x H3 hyld
      have ok3 := k3 ω2 ok2
      split at hrest
      · cases hrest
      rename_i ρ1 eg
      have sall : Step g H g3 H3 := (s1.trans s2).trans s3
      have sl3 : Slots K H0 g3 H3 ρ σ := sl.step sall ok3
      refine hg H0 g3 H3 _ _ d x ρ1 _ ok3.sub (sl3.wipe vs) r3 eg fun σ4 sl4 w4 _ => ⟨?_, ?_⟩
      · rw [w4 vs hj, wipe_wipe]
      split at hrest
      · cases hrest
      rename_i c ω4 et
      refine ht g0 H0 g3 H3 ρ1 ω2 σ4 _ c ω4 ok3 (st.trans sall) sl4 et fun g5 H5 s5 ok5 => ?_
      obtain ⟨hP3, hG3, hS3⟩ := own_step hP2 hG2 hS2 s3 ok3
      obtain ⟨hP5, hG5, hS5⟩ := own_step hP3 hG3 hS3 s5 ok5
      cases c with
      | false =>
        refine iteF ?_
        rw [if_neg Bool.false_ne_true] at hrest
        exact ⟨_, rfl, hlt, g5, ω4, acc, accD, rest, (s2.trans s3).trans s5, ok5, hP5, hG5, hS5, Nat.le_succ_of_le hal, hacc.mono (s3.trans s5).ιm (s3.trans s5).Gm, hrest, happ⟩
      | true =>
        refine iteT ?_
        rw [if_pos rfl] at hrest
        split at hrest
        · cases hrest
        rename_i y ω6 ee
        split at hrest
        · cases hrest
        rename_i ys ω7 er
        cases hrest
        refine he g0 H0 g5 H5 ρ1 ω4 σ4 _ y ω6 ok5 (st.trans (sall.trans s5)) (sl4.step s5 ok5) ee fun v g6 H6 s6 ok6 r6 => ?_
        obtain ⟨hP6, hG6, hS6⟩ := own_step hP5 hG5 hS5 s6 ok6
        refine ⟨acc, hP6, Nat.lt_of_le_of_lt hal (Nat.lt_of_lt_of_le hlt hz), _, rfl, hlt, g6, ω6, acc ++ [v], accD ++ [y], ys, ?_, mutOk ok6 hP6 hG6 hS6, upd_same, hG6, hS6, ?_, ?_, er, ?_⟩
        · exact mutStep (((s2.trans s3).trans s5).trans s6) hP
        · rw [List.length_append]; exact Nat.succ_le_succ hal
        · exact (hacc.mono ((s3.trans s5).trans s6).ιm ((s3.trans s5).trans s6).Gm).append (.cons r6 .nil)
        · rw [← happ, List.append_assoc]; rfl
    · have hil' : i = items.length := by omega
      subst hil'
      rw [List.drop_length] at hrest
      unfold lcD at hrest
      cases hrest
      rw [List.append_nil] at happ
      subst happ
      exact .inl ⟨it.stop _ (Nat.le_refl _), k P acc g2 H2 (s1.trans s2) ok2 (s1.al P hP) hP2 hG2 hS2 (Nat.le_trans hal hz) hacc⟩
/-- a list that was one's own is settled -/
theorem settle {g : Gh} {H : Hp} {ω : Wd} {p : Addr} {vs : List V} (ok : GOk K g H ω) (hp : H p = some (.lst vs)) (hG : g.G p = none) (hS : ¬ g.S p) : GOk K (g.add p (.lst vs)) H ω ∧ GLe g (g.add p (.lst vs)) := by
  have up : ∀ a o, g.G a = some o → upd g.G p (.lst vs) a = some o := fun a o h => upd_keep hG h
  have inv : ∀ a o, (g.add p (.lst vs)).G a = some o → (a = p ∧ o = .lst vs) ∨ (a ≠ p ∧ g.G a = some o) := fun a o h => by
    by_cases hap : a = p
    · subst hap
      rw [Gh.add] at h; simp only at h; rw [upd_same] at h; cases h; exact .inl ⟨rfl, rfl⟩
    · rw [Gh.add] at h; simp only at h; rw [upd_ne hap] at h; exact .inr ⟨hap, h⟩
  refine ⟨⟨fun a o h => ?_, fun a o h => ?_, fun a o h => ?_, ok.inj, ok.inS, fun n o e => ?_, ok.sl, ok.lv⟩, ⟨fun _ _ h => h, up⟩⟩
  · rcases inv a o h with ⟨rfl, rfl⟩ | ⟨_, h⟩
    · exact hp
    · exact ok.sub a o h
  · rcases inv a o h with ⟨rfl, rfl⟩ | ⟨_, h⟩
    · rfl
    · exact ok.seq a o h
  · rcases inv a o h with ⟨rfl, rfl⟩ | ⟨_, h⟩
    · exact hS
    · exact ok.nS a o h
  · obtain ⟨a, ia, h⟩ := ok.st n o e
    exact ⟨a, ia, h.mono (fun _ _ h => h) up rfl⟩
theorem settleStep {g0 g : Gh} {H0 H : Hp} {p : Addr} {vs : List V} (st : Step g0 H0 g H) (hG : g.G p = none) (h0 : H0 p = none) : Step g0 H0 (g.add p (.lst vs)) H := by
  refine ⟨st.ιm, fun a o h => upd_keep hG (st.Gm a o h), st.Sm, st.fr, st.nS, st.al, fun a ws h => ?_, st.lv, st.ιl⟩
  by_cases hap : a = p
  · subst hap; exact .inr h0
  · rw [Gh.add] at h; simp only at h; rw [upd_ne hap] at h; exact st.nw a ws h
def eOfN (f : DA) : DE := fun ρ ω => match f ρ ω with
  | none => none
  | some (ds, ω1) => some (.list ds, ω1)
section
variable {elt tg iter : Expr} {ifs : List Expr} {scope : Scope} {own : List (Str × Nat)} {pos : Pos} {wi : TI} {g : TG} {tt : TT} {te : TE} {fi : DA} {fg : DG} {ft : DT} {fe : DE} {js : List Nat}
structure ETs (X : Cx) (ifs : List Expr) (t : TT) (f : DT) : Prop where
  pe : PTs X ifs t
  sn : SndT X.K t f
def tYesD : DT := fun _ ω => some (true, ω)
theorem ets_nil : ETs X [] tYes tYesD := ⟨pts_nil, fun g0 H0 g H ρ ω σ Q d ω' ok st sl e k => by cases e; exact k g H (.refl _ _) ok⟩
theorem ets_one {c : Expr} {t : TT} {f : DT} (h : ET X c t f) : ETs X [c] t f := ⟨pts_one h.pe, h.sn⟩
theorem pe_lcD (hc : X.calm = true) (hN : X.N.Nodup) (hi : EI X b tg iter wi fi) (ok : BlkOk X.N X.env.scope scope own)
    (hg : ∀ (s : Shared) (H : Hp) (C : Addr) (cl : List (Str × Addr)) (fp : List Addr), EG (X.blk s H scope (compEnvC scope cl C X.env) fp) tg g js fg)
    (ht : ∀ (s : Shared) (H : Hp) (C : Addr) (cl : List (Str × Addr)) (fp : List Addr), ETs (X.blk s H scope (compEnvC scope cl C X.env) fp) ifs tt ft)
    (he : ∀ (s : Shared) (H : Hp) (C : Addr) (cl : List (Str × Addr)) (fp : List Addr), EX (X.blk s H scope (compEnvC scope cl C X.env) fp) true elt te fe) (hs : ∀ x, foldedSetIterable iter X.env x = pure x := by intro _; rfl) :
    PE X (.ListComp elt [⟨tg, iter, ifs, 0⟩] scope pos) (tLc wi g tt te (own.map (·.2))) :=
  pe_lc hc hN hi.pe ok (fun s H C cl fp => (hg s H C cl fp).pe) (fun s H C cl fp => (ht s H C cl fp).pe) (fun s H C cl fp => (he s H C cl fp).pe) hs
/-- a comprehension whose list is one's own -/
theorem en_lc (hc : X.calm = true) (hN : X.N.Nodup) (hi : EI X b tg iter wi fi) (ok : BlkOk X.N X.env.scope scope own)
    (hg : ∀ (s : Shared) (H : Hp) (C : Addr) (cl : List (Str × Addr)) (fp : List Addr), EG (X.blk s H scope (compEnvC scope cl C X.env) fp) tg g js fg)
    (ht : ∀ (s : Shared) (H : Hp) (C : Addr) (cl : List (Str × Addr)) (fp : List Addr), ETs (X.blk s H scope (compEnvC scope cl C X.env) fp) ifs tt ft)
    (he : ∀ (s : Shared) (H : Hp) (C : Addr) (cl : List (Str × Addr)) (fp : List Addr), EX (X.blk s H scope (compEnvC scope cl C X.env) fp) true elt te fe)
    (hj : ∀ j ∈ js, j ∈ own.map (·.2) := by decide) (hs : ∀ x, foldedSetIterable iter X.env x = pure x := by intro _; rfl) :
    EN X (.ListComp elt [⟨tg, iter, ifs, 0⟩] scope pos) (tLc wi g tt te (own.map (·.2))) (eLcN fi fg ft fe (own.map (·.2))) := by
  refine ⟨pe_lcD hc hN hi ok hg ht he hs, ?_⟩
  intro g0 H0 gh H ρ ω σ Q ds ω' ok' st sl e k
  exact lc_sound hi.sn (hg X.s_0 X.H_0 0 [] []).sn hj (ht X.s_0 X.H_0 0 [] []).sn (he X.s_0 X.H_0 0 [] []).sn ok' st sl e fun p ws g' H' s' ok2 h1 h2 h3 h4 h5 h6 => k p ws g' H' s' ok2 h1 h2 h3 h4 h5 h6
/-- any list that would be one's own, settled at once -/
theorem EN.x {e : Expr} {t : TE} {f : DA} (h : EN X e t f) : EX X true e t (eOfN f) := by
  refine ⟨h.pe, ?_⟩
  intro g0 H0 g H ρ ω σ Q d ω' ok st sl e k
  unfold eOfN at e
  split at e
  · cases e
  rename_i ds ω1 e1
  cases e
  refine h.sn g0 H0 g H ρ ω σ Q ds ω' ok st sl e1 fun p vs g' H' s' ok' h1 h2 h3 h4 h5 h6 => ?_
  obtain ⟨ok2, le⟩ := settle ok' h2 h3 h4
  refine k _ _ H' (settleStep s' h3 h1) ok2 ?_
  show Rep X.K (g'.add p (.lst vs)).ι (g'.add p (.lst vs)).G (.list ds) (.ref p)
  rw [Rep]
  exact ⟨p, vs, rfl, upd_same, h5, h6.mono le.ιm le.Gm⟩
end
end
end Dn
end

section
namespace Dn
open PySem PySem.Spec L2

section
variable {X : Cx} {K : PySem.W.Frag} {b b' : Bool}
/-! ## calls of built-ins -/
def CalS (K : PySem.W.Frag) (b b' : Bool) (r : List V → Hp → VK → Prop) (op : List D → Option D) : Prop :=
  ∀ (g0 : Gh) (H0 : Hp) (g : Gh) (H : Hp) (ω : Wd) (ds : List D) (vs : List V) (d : D) (Q : VK), GOk K g H ω → Step g0 H0 g H → RBL K b g0 H0 g H ds vs → op ds = some d →
    (∀ u g' H', Step g H g' H' → GOk K g' H' ω → RB K b' g0 H0 g' H' d u → Q u H') → r vs H Q
def eCall (op : List D → Option D) (a : DA) : DE := fun ρ ω => match a ρ ω with
  | none => none
  | some (ds, ω1) => match op ds with
    | none => none
    | some d => some (d, ω1)
theorem sn_call {r : List V → Hp → VK → Prop} {op : List D → Option D} {t : TA} {f : DA} (hs : CalS K b b' r op) (h : SndA K b t f) : Snd K b' (tCB r t) (eCall op f) := by
  intro g0 H0 g H ρ ω σ Q d ω' ok st sl e k
  unfold eCall at e
  split at e
  · cases e
  rename_i ds ω1 e1
  split at e
  · cases e
  rename_i d1 e2
  cases e
  refine h g0 H0 g H ρ ω σ _ ds ω' ok st sl e1 fun vs g1 H1 s1 ok1 r1 => ?_
  exact hs g0 H0 g1 H1 ω' ds vs d Q ok1 (st.trans s1) r1 e2 fun u g2 H2 s2 ok2 r2 => k u g2 H2 (s1.trans s2) ok2 r2
section
variable {r : List V → Hp → VK → Prop} {op : List D → Option D} {t : TA} {f : DA} {e : Expr} {es : List Expr} {p pos : Pos} {x : Str} {id : String}
theorem ex_callB (hc : CallR X (.builtin id) r) (hs : CalS X.K b b' r op) (hm : X.mg x = none) (hv : bootBuiltins x = some (.builtin id)) (ha : EA X b (e :: es) t f) (hg : Gl X x := by rfl) (hn : x ≠ "__name__" := by decide) (hdb : (x == ("__debug__" : Str)) = false := by decide)
    (he : starEach (e :: es) X.env = (false, eval e X.env) :: starEach es X.env := by rfl) (hpl : (backTo pos (starEach es X.env)).any (·.1) = false := by rfl) : EX X b' (.Call (.Name x p) (e :: es) [] pos) (tCB r t) (eCall op f) :=
  ⟨pe_callB hc hg hm hv ha.pe hn hdb he hpl, sn_call hs ha.sn⟩
theorem ex_callTy (hc : CallR X (.type id) r) (hs : CalS X.K b b' r op) (hm : X.mg x = none) (hv : bootBuiltins x = some (.type id)) (ha : EA X b (e :: es) t f) (hg : Gl X x := by rfl) (hn : x ≠ "__name__" := by decide) (hdb : (x == ("__debug__" : Str)) = false := by decide)
    (he : starEach (e :: es) X.env = (false, eval e X.env) :: starEach es X.env := by rfl) (hpl : (backTo pos (starEach es X.env)).any (·.1) = false := by rfl) : EX X b' (.Call (.Name x p) (e :: es) [] pos) (tCB r t) (eCall op f) :=
  ⟨pe_callTy hc hg hm hv ha.pe hn hdb he hpl, sn_call hs ha.sn⟩
end
theorem RBL.one {g0 g : Gh} {H0 H : Hp} {d : D} {vs : List V} (h : RBL K b g0 H0 g H [d] vs) : ∃ v, vs = [v] ∧ RB K b g0 H0 g H d v := by
  obtain ⟨v, ws, rfl, r, t⟩ := RepL.inv h
  have : ws = [] := by rw [RepL] at t; exact t
  subst this
  exact ⟨v, rfl, r⟩
theorem RBL.two {g0 g : Gh} {H0 H : Hp} {d e : D} {vs : List V} (h : RBL K b g0 H0 g H [d, e] vs) : ∃ v w, vs = [v, w] ∧ RB K b g0 H0 g H d v ∧ RB K b g0 H0 g H e w := by
  obtain ⟨v, ws, rfl, r, t⟩ := RepL.inv h
  obtain ⟨w, rfl, q⟩ := RBL.one (b := b) (g0 := g0) (H0 := H0) (g := g) (H := H) t
  exact ⟨v, w, rfl, r, q⟩
/-- one argument -/
theorem cal_one {r : List V → Hp → VK → Prop} {op : List D → Option D} (hop : ∀ ds d, op ds = some d → ∃ x, ds = [x])
    (h : ∀ (g0 : Gh) (H0 : Hp) (g : Gh) (H : Hp) (ω : Wd) (x : D) (v : V) (d : D) (Q : VK), GOk K g H ω → Step g0 H0 g H → RB K b g0 H0 g H x v → op [x] = some d → (∀ u g' H', Step g H g' H' → GOk K g' H' ω → RB K b' g0 H0 g' H' d u → Q u H') → r [v] H Q) : CalS K b b' r op := by
  intro g0 H0 g H ω ds vs d Q ok st rr e k
  obtain ⟨x, rfl⟩ := hop ds d e
  obtain ⟨v, rfl, q⟩ := RBL.one rr
  exact h g0 H0 g H ω x v d Q ok st q e k
/-- len -/
def opLen : List D → Option D
  | [.list xs] => some (.int xs.length)
  | [.tuple xs] => some (.int xs.length)
  | [.str z] => if z.length ≤ sizeLine then some (.int z.length) else none
  | _ => none
theorem cal_len : CalS K b true (fun xs H Q => ∃ x n, xs = [x] ∧ LenV K x H n ∧ Q (.int n) H) opLen := by
  refine cal_one (fun ds d e => ?_) fun g0 H0 g H ω x v d Q ok st r e k => ?_
  · unfold opLen at e; split at e <;> first | exact ⟨_, rfl⟩ | cases e
  · unfold opLen at e
    split at e
    · rename_i xs h; cases h; cases e
      obtain ⟨a, vs, rfl, q, z, l⟩ := r.lstV ok
      exact ⟨_, vs.length, rfl, .inl ⟨vs, SqL.of q, rfl⟩, by rw [RepL.length l]; exact k _ g H (.refl _ _) ok .int⟩
    · rename_i xs h; cases h; cases e
      obtain ⟨a, vs, rfl, q, z, l⟩ := r.tupV ok
      exact ⟨_, vs.length, rfl, .inr ⟨vs, q, rfl⟩, by rw [RepL.length l]; exact k _ g H (.refl _ _) ok .int⟩
    · rename_i z h; cases h
      split at e
      · rename_i hz; cases e
        rw [r.strV]
        exact ⟨_, z.length, rfl, ⟨hz, rfl⟩, k _ g H (.refl _ _) ok .int⟩
      · cases e
    · cases e
/-- int of an int, of a truth -/
def opInt : List D → Option D
  | [.int i] => some (.int i)
  | [.bool c] => some (.int (if c then 1 else 0))
  | _ => none
theorem cal_int : CalS K b true (fun xs H Q => (∃ i, xs = [.int i] ∧ Q (.int i) H) ∨ ∃ k, xs = [.bl k] ∧ Q (.int (if k then 1 else 0)) H) opInt := by
  refine cal_one (fun ds d e => ?_) fun g0 H0 g H ω x v d Q ok st r e k => ?_
  · unfold opInt at e; split at e <;> first | exact ⟨_, rfl⟩ | cases e
  · unfold opInt at e
    split at e
    · rename_i i h; cases h; cases e
      rw [r.intV]
      exact .inl ⟨_, rfl, k _ g H (.refl _ _) ok .int⟩
    · rename_i i h; cases h; cases e
      rw [r.blV]
      exact .inr ⟨_, rfl, k _ g H (.refl _ _) ok .int⟩
    · cases e
/-- str of an int -/
def opStr : List D → Option D
  | [.int i] => if i.natAbs.log2 < 1920 then some (.str (toString i)) else none
  | _ => none
theorem cal_str : CalS K b true (fun xs H Q => ∃ i, xs = [.int i] ∧ i.natAbs.log2 < 1920 ∧ Q (.str (toString i)) H) opStr := by
  refine cal_one (fun ds d e => ?_) fun g0 H0 g H ω x v d Q ok st r e k => ?_
  · unfold opStr at e; split at e <;> first | exact ⟨_, rfl⟩ | cases e
  · unfold opStr at e
    split at e
    · rename_i i h; cases h
      split at e <;> cases e
      rename_i hz
      rw [r.intV]
      exact ⟨_, rfl, hz, k _ g H (.refl _ _) ok .str⟩
    · cases e
def opAbs : List D → Option D
  | [.int i] => some (.int (if i < 0 then -i else i))
  | _ => none
theorem cal_abs : CalS K b true (fun xs H Q => ∃ i, xs = [.int i] ∧ Q (.int (if i < 0 then -i else i)) H) opAbs := by
  refine cal_one (fun ds d e => ?_) fun g0 H0 g H ω x v d Q ok st r e k => ?_
  · unfold opAbs at e; split at e <;> first | exact ⟨_, rfl⟩ | cases e
  · unfold opAbs at e
    split at e
    · rename_i i h; cases h; cases e
      rw [r.intV]
      exact ⟨_, rfl, k _ g H (.refl _ _) ok .int⟩
    · cases e
/-- min, max of two ints -/
def opMin2 : List D → Option D
  | [.int i, .int j] => some (.int (if j < i then j else i))
  | _ => none
def opMax2 : List D → Option D
  | [.int i, .int j] => some (.int (if j > i then j else i))
  | _ => none
theorem cal_int2 {r : List V → Hp → VK → Prop} {op : List D → Option D} (h : ∀ ds d, op ds = some d → ∃ i j m, ds = [.int i, .int j] ∧ d = .int m ∧ ∀ (Q : VK) (H : Hp), Q (.int m) H → r [.int i, .int j] H Q) : CalS K b true r op := by
  intro g0 H0 g H ω ds vs d Q ok st rr e k
  obtain ⟨i, j, m, rfl, rfl, hq⟩ := h ds d e
  obtain ⟨v, w, rfl, q1, q2⟩ := RBL.two rr
  rw [q1.intV, q2.intV]
  exact hq Q H (k _ g H (.refl _ _) ok .int)
theorem cal_min2 : CalS K b true (fun xs H Q => ∃ i j, xs = [.int i, .int j] ∧ Q (.int (if j < i then j else i)) H) opMin2 := cal_int2 fun ds d e => by
  unfold opMin2 at e
  split at e
  · cases e; exact ⟨_, _, _, rfl, rfl, fun Q H q => ⟨_, _, rfl, q⟩⟩
  · cases e
theorem cal_max2 : CalS K b true (fun xs H Q => ∃ i j, xs = [.int i, .int j] ∧ Q (.int (if j > i then j else i)) H) opMax2 := cal_int2 fun ds d e => by
  unfold opMax2 at e
  split at e
  · cases e; exact ⟨_, _, _, rfl, rfl, fun Q H q => ⟨_, _, rfl, q⟩⟩
  · cases e
/-- all ints; all truths; all texts -/
def intsOf : List D → Option (List Int)
  | [] => some []
  | .int i :: ds => (intsOf ds).map (i :: ·)
  | _ => none
theorem intsOf_eq : ∀ {ds : List D} {ns : List Int}, intsOf ds = some ns → ds = ns.map PyData.int
  | [], ns, e => by cases e; rfl
  | .int i :: ds, ns, e => by
    rw [intsOf] at e
    obtain ⟨ms, h, rfl⟩ := Option.map_eq_some_iff.mp e
    rw [intsOf_eq h]; rfl
  | .none :: _, _, e => nomatch e
  | .bool _ :: _, _, e => nomatch e
  | .str _ :: _, _, e => nomatch e
  | .list _ :: _, _, e => nomatch e
  | .tuple _ :: _, _, e => nomatch e
  | .dict _ :: _, _, e => nomatch e
theorem intsOf_map (ns : List Int) : intsOf (ns.map PyData.int) = some ns := by
  induction ns with
  | nil => rfl
  | cons n ns ih => rw [List.map_cons, intsOf, ih]; rfl
def blsOf : List D → Option (List Bool)
  | [] => some []
  | .bool i :: ds => (blsOf ds).map (i :: ·)
  | _ => none
theorem blsOf_eq : ∀ {ds : List D} {ns : List Bool}, blsOf ds = some ns → ds = ns.map PyData.bool
  | [], ns, e => by cases e; rfl
  | .bool i :: ds, ns, e => by
    rw [blsOf] at e
    obtain ⟨ms, h, rfl⟩ := Option.map_eq_some_iff.mp e
    rw [blsOf_eq h]; rfl
  | .none :: _, _, e => nomatch e
  | .int _ :: _, _, e => nomatch e
  | .str _ :: _, _, e => nomatch e
  | .list _ :: _, _, e => nomatch e
  | .tuple _ :: _, _, e => nomatch e
  | .dict _ :: _, _, e => nomatch e
theorem blsOf_map (ns : List Bool) : blsOf (ns.map PyData.bool) = some ns := by
  induction ns with
  | nil => rfl
  | cons n ns ih => rw [List.map_cons, blsOf, ih]; rfl
/-- sum of a list of ints (of a tuple of ints: opSumT) -/
def opSum : List D → Option D
  | [.list xs] => (intsOf xs).map fun ns => .int ns.sum
  | _ => none
theorem cal_sum : CalS K b true (rSum K) opSum := by
  refine cal_one (fun ds d e => ?_) fun g0 H0 g H ω x v d Q ok st r e k => ?_
  · unfold opSum at e; split at e <;> first | exact ⟨_, rfl⟩ | cases e
  · unfold opSum at e
    split at e
    · rename_i xs h; cases h
      obtain ⟨ns, h1, rfl⟩ := Option.map_eq_some_iff.mp e
      obtain ⟨a, vs, rfl, q, z, l⟩ := r.lstV ok
      rw [intsOf_eq h1] at l
      have l' := RepL.intsV l
      subst l'
      exact ⟨a, ns, rfl, SqL.of q, k _ g H (.refl _ _) ok .int⟩
    · cases e
def opAll : List D → Option D
  | [.list xs] => (blsOf xs).map fun ns => .bool (ns.all id)
  | _ => none
def opAny : List D → Option D
  | [.list xs] => (blsOf xs).map fun ns => .bool (ns.any id)
  | _ => none
theorem cal_all : CalS K b true (rAll K) opAll := by
  refine cal_one (fun ds d e => ?_) fun g0 H0 g H ω x v d Q ok st r e k => ?_
  · unfold opAll at e; split at e <;> first | exact ⟨_, rfl⟩ | cases e
  · unfold opAll at e
    split at e
    · rename_i xs h; cases h
      obtain ⟨ns, h1, rfl⟩ := Option.map_eq_some_iff.mp e
      obtain ⟨a, vs, rfl, q, z, l⟩ := r.lstV ok
      rw [blsOf_eq h1] at l
      have l' := RepL.blsV l
      subst l'
      exact ⟨a, ns, rfl, SqL.of q, k _ g H (.refl _ _) ok .bl⟩
    · cases e
theorem cal_any : CalS K b true (rAny K) opAny := by
  refine cal_one (fun ds d e => ?_) fun g0 H0 g H ω x v d Q ok st r e k => ?_
  · unfold opAny at e; split at e <;> first | exact ⟨_, rfl⟩ | cases e
  · unfold opAny at e
    split at e
    · rename_i xs h; cases h
      obtain ⟨ns, h1, rfl⟩ := Option.map_eq_some_iff.mp e
      obtain ⟨a, vs, rfl, q, z, l⟩ := r.lstV ok
      rw [blsOf_eq h1] at l
      have l' := RepL.blsV l
      subst l'
      exact ⟨a, ns, rfl, SqL.of q, k _ g H (.refl _ _) ok .bl⟩
    · cases e
/-- tuple of a list, of a tuple -/
def opTuple : List D → Option D
  | [.list xs] => some (.tuple xs)
  | [.tuple xs] => some (.tuple xs)
  | _ => none
theorem cal_tuple : CalS K b b (fun xs H Q => ∃ p ys, xs = [.ref p] ∧ ((SqL K H p ys ∧ ∀ l, H l = none → Q (.ref l) (upd H l (.tup ys))) ∨ (SqT K H p ys ∧ Q (.ref p) H))) opTuple := by
  refine cal_one (fun ds d e => ?_) fun g0 H0 g H ω x v d Q ok st r e k => ?_
  · unfold opTuple at e; split at e <;> first | exact ⟨_, rfl⟩ | cases e
  · unfold opTuple at e
    split at e
    · rename_i xs h; cases h; cases e
      obtain ⟨a, vs, rfl, q, z, l⟩ := r.lstV ok
      refine ⟨a, vs, rfl, .inl ⟨SqL.of q, fun p hp => ?_⟩⟩
      obtain ⟨s2, ok2⟩ := alloc ok hp (o := .tup vs) rfl
      exact k _ _ _ s2 ok2 (.newTup ok st hp z l)
    · rename_i xs h; cases h; cases e
      have r' := r
      obtain ⟨a, vs, rfl, q, z, l⟩ := r.tupV ok
      exact ⟨a, vs, rfl, .inr ⟨q, k _ g H (.refl _ _) ok r'⟩⟩
    · cases e
/-- list of a list, of a tuple: a list of one's own -/
def aList (f : DA) : DA := fun ρ ω => match f ρ ω with
  | some ([.list xs], ω1) => some (xs, ω1)
  | some ([.tuple xs], ω1) => some (xs, ω1)
  | _ => none
def rListOf (K : PySem.W.Frag) : List V → Hp → VK → Prop := fun xs H Q => ∃ p ys, xs = [.ref p] ∧ (SqL K H p ys ∨ SqT K H p ys) ∧ ∀ l, H l = none → Q (.ref l) (upd H l (.lst ys))
theorem newOwn {g : Gh} {H : Hp} {ω : Wd} (ok : GOk K g H ω) {p : Addr} {o : HO} (hp : H p = none) : Step g H g (upd H p o) ∧ GOk K g (upd H p o) ω ∧ g.G p = none ∧ ¬ g.S p := by
  obtain ⟨s2, ok2⟩ := allocOwn ok hp (o := o)
  refine ⟨s2, ok2, ?_, fun q => by obtain ⟨u, e, _⟩ := ok.sl p q; rw [hp] at e; cases e⟩
  cases q : g.G p with
  | none => rfl
  | some u => rw [ok.sub p u q] at hp; cases hp
theorem snn_list {t : TA} {f : DA} (h : SndA K true t f) : SndN K (tCB (rListOf K) t) (aList f) := by
  intro g0 H0 g H ρ ω σ Q ds ω' ok st sl e k
  unfold aList at e
  split at e
  · rename_i xs ω1 e1
    cases e
    refine h g0 H0 g H ρ ω σ _ _ ω' ok st sl e1 fun vs g1 H1 s1 ok1 r1 => ?_
    obtain ⟨v, rfl, q⟩ := RBL.one r1
    obtain ⟨a, vs, rfl, q, z, l⟩ := q.lstV ok1
    refine ⟨a, vs, rfl, .inl (SqL.of q), fun p hp => ?_⟩
    obtain ⟨s2, ok2, nG, nS⟩ := newOwn ok1 hp (o := .lst vs)
    exact k p vs g1 _ (s1.trans s2) ok2 (s1.al p hp) upd_same nG nS z l
  · rename_i xs ω1 e1
    cases e
    refine h g0 H0 g H ρ ω σ _ _ ω' ok st sl e1 fun vs g1 H1 s1 ok1 r1 => ?_
    obtain ⟨v, rfl, q⟩ := RBL.one r1
    obtain ⟨a, vs, rfl, q, z, l⟩ := q.tupV ok1
    refine ⟨a, vs, rfl, .inr q, fun p hp => ?_⟩
    obtain ⟨s2, ok2, nG, nS⟩ := newOwn ok1 hp (o := .lst vs)
    exact k p vs g1 _ (s1.trans s2) ok2 (s1.al p hp) upd_same nG nS z l
  · cases e
theorem en_list {e : Expr} {t : TA} {f : DA} {p pos : Pos} (hm : X.mg "list" = none) (ha : EA X true [e] t f) (hg : Gl X "list" := by rfl)
    (he : starEach [e] X.env = (false, eval e X.env) :: starEach [] X.env := by rfl) (hpl : (backTo pos (starEach [] X.env)).any (·.1) = false := by rfl) : EN X (.Call (.Name "list" p) [e] [] pos) (tCB (rListOf X.K) t) (aList f) :=
  ⟨pe_callTy call_list_of hg hm PyProof.Rows.boot_list ha.pe (by decide) (by decide) he hpl, snn_list ha.sn⟩
/-- isinstance -/
def isi (T : String) : D → Bool
  | .none => false
  | .bool _ => T == "bool" || T == "int"
  | .int _ => T == "int"
  | .str _ => T == "str"
  | .list _ => T == "list"
  | .tuple _ => T == "tuple"
  | .dict _ => false
end
end Dn
end

section
namespace Dn
open PySem PySem.Spec L2

section
variable {X : Cx} {K : PySem.W.Frag} {b b' : Bool}
/-! ## isinstance -/
def tyN : D → Option String
  | .none => some "NoneType"
  | .bool _ => some "bool"
  | .int _ => some "int"
  | .str _ => some "str"
  | .list _ => some "list"
  | .tuple _ => some "tuple"
  | .dict _ => none
structure KitOk (T : String) : Prop where
  h0 : kitB "NoneType" T = some (isi T .none)
  h1 : ∀ c, kitB "bool" T = some (isi T (.bool c))
  h2 : ∀ c, kitB "int" T = some (isi T (.int c))
  h3 : ∀ c, kitB "str" T = some (isi T (.str c))
  h4 : ∀ c, kitB "list" T = some (isi T (.list c))
  h5 : ∀ c, kitB "tuple" T = some (isi T (.tuple c))
theorem kit_int : KitOk "int" := ⟨by decide +kernel, fun _ => by show kitB "bool" "int" = some true; decide +kernel, fun _ => by show kitB "int" "int" = some true; decide +kernel, fun _ => by show kitB "str" "int" = some false; decide +kernel, fun _ => by show kitB "list" "int" = some false; decide +kernel, fun _ => by show kitB "tuple" "int" = some false; decide +kernel⟩
theorem kit_bool : KitOk "bool" := ⟨by decide +kernel, fun _ => by show kitB "bool" "bool" = some true; decide +kernel, fun _ => by show kitB "int" "bool" = some false; decide +kernel, fun _ => by show kitB "str" "bool" = some false; decide +kernel, fun _ => by show kitB "list" "bool" = some false; decide +kernel, fun _ => by show kitB "tuple" "bool" = some false; decide +kernel⟩
theorem kit_str : KitOk "str" := ⟨by decide +kernel, fun _ => by show kitB "bool" "str" = some false; decide +kernel, fun _ => by show kitB "int" "str" = some false; decide +kernel, fun _ => by show kitB "str" "str" = some true; decide +kernel, fun _ => by show kitB "list" "str" = some false; decide +kernel, fun _ => by show kitB "tuple" "str" = some false; decide +kernel⟩
theorem kit_list : KitOk "list" := ⟨by decide +kernel, fun _ => by show kitB "bool" "list" = some false; decide +kernel, fun _ => by show kitB "int" "list" = some false; decide +kernel, fun _ => by show kitB "str" "list" = some false; decide +kernel, fun _ => by show kitB "list" "list" = some true; decide +kernel, fun _ => by show kitB "tuple" "list" = some false; decide +kernel⟩
theorem kit_tuple : KitOk "tuple" := ⟨by decide +kernel, fun _ => by show kitB "bool" "tuple" = some false; decide +kernel, fun _ => by show kitB "int" "tuple" = some false; decide +kernel, fun _ => by show kitB "str" "tuple" = some false; decide +kernel, fun _ => by show kitB "list" "tuple" = some false; decide +kernel, fun _ => by show kitB "tuple" "tuple" = some true; decide +kernel⟩
theorem kit_dict : KitOk "dict" := ⟨by decide +kernel, fun _ => by show kitB "bool" "dict" = some false; decide +kernel, fun _ => by show kitB "int" "dict" = some false; decide +kernel, fun _ => by show kitB "str" "dict" = some false; decide +kernel, fun _ => by show kitB "list" "dict" = some false; decide +kernel, fun _ => by show kitB "tuple" "dict" = some false; decide +kernel⟩
theorem KitOk.all {T : String} (k : KitOk T) : ∀ d t, tyN d = some t → kitB t T = some (isi T d)
  | .none, _, e => by cases e; exact k.h0
  | .bool c, _, e => by cases e; exact k.h1 c
  | .int c, _, e => by cases e; exact k.h2 c
  | .str c, _, e => by cases e; exact k.h3 c
  | .list c, _, e => by cases e; exact k.h4 c
  | .tuple c, _, e => by cases e; exact k.h5 c
  | .dict _, _, e => nomatch e
def notOb : D → Bool
  | .dict _ => false
  | _ => true
def opIsi (T : String) (d : D) : Option D := if notOb d = true then some (.bool (isi T d)) else none
theorem RB.ty {g0 g : Gh} {H0 H : Hp} {ω : Wd} {d : D} {v : V} (ok : GOk K g H ω) (h : RB K b g0 H0 g H d v) (n : notOb d = true) : ∃ t, tyN d = some t ∧ TyX K H v (.type t) := by
  cases d with
  | none => rw [h.nonV]; exact ⟨_, rfl, .base .non⟩
  | bool c => rw [h.blV]; exact ⟨_, rfl, .base (.bl _)⟩
  | int c => rw [h.intV]; exact ⟨_, rfl, .base (.int _)⟩
  | str c => rw [h.strV]; exact ⟨_, rfl, .base (.str _)⟩
  | list c =>
    obtain ⟨a, vs, rfl, q, _⟩ := h.lstV ok
    exact ⟨_, rfl, .base (.lst q)⟩
  | tuple c =>
    obtain ⟨a, vs, rfl, q, _⟩ := h.tupV ok
    refine ⟨_, rfl, ?_⟩
    rcases q with (q | ⟨o, q⟩) | ⟨o, its, n, q, c, _⟩
    · exact .base (.tup q)
    · exact .fTuple q
    · exact .kTuple q c
  | dict c => cases n
theorem ex_isi {T : String} {e : Expr} {ta : TE} {fa : DE} {x : Str} {p p2 pos : Pos} (k : KitOk T) (hm : X.mg "isinstance" = none) (hmT : X.mg x = none) (hvT : bootBuiltins x = some (.type T)) (he : EX X b e ta fa) (hg : Gl X "isinstance" := by rfl) (hgT : Gl X x := by rfl) (hnT : x ≠ "__name__" := by decide) (hdT : (x == ("__debug__" : Str)) = false := by decide)
    (hs1 : starEach [e, .Name x p2] X.env = (false, eval e X.env) :: starEach [.Name x p2] X.env := by rfl) (hs2 : starEach [.Name x p2] X.env = (false, eval (.Name x p2) X.env) :: starEach [] X.env := by rfl) (hpl : (backTo pos (starEach [.Name x p2] X.env)).any (·.1) = false := by rfl) :
    EX X true (.Call (.Name "isinstance" p) [e, .Name x p2] [] pos) (tCB (rIsi X.K) (tCons ta (tCons (tC (.ty T)) tNil))) (eUn (opIsi T) fa) := by
  refine ⟨pe_callB call_isi hg hm PyProof.Rows.boot_isinstance (pa_cons he.pe (pa_cons (pe_bltn hgT hmT hvT rfl hnT hdT) pa_nil hs2) hs1) (by decide) (by decide) hs1 hpl, ?_⟩
  intro g0 H0 g H ρ ω σ Q d ω' ok st sl e k'
  unfold eUn at e
  split at e
  · cases e
  rename_i x1 ω1 e1
  split at e
  · cases e
  rename_i z e3
  cases e
  unfold opIsi at e3
  split at e3 <;> cases e3
  rename_i hn
  refine he.sn g0 H0 g H ρ ω σ _ x1 ω' ok st sl e1 fun v g1 H1 s1 ok1 r1 => ?_
  obtain ⟨t, ht, ty⟩ := r1.ty ok1 hn
  exact ⟨v, .ty T, .type t, .type T, _, rfl, .ty T, ty, kit_ty (k.all x1 t ht), k' _ g1 H1 s1 ok1 .bl⟩

/-! ## calls of defs -/
/-- what a def promises: it is the function f on data and the store -/
def spD (K : PySem.W.Frag) (n : Nat) (f : List D → Wd → Option (D × Wd)) : Sp := fun vs H Q _ => ∃ (g : Gh) (ω : Wd) (ds : List D) (d : D) (ω' : Wd), vs.length = n ∧ GOk K g H ω ∧ RepL K g.ι g.G ds vs ∧ f ds ω = some (d, ω') ∧
  ∀ v g' H', Step g H g' H' → GOk K g' H' ω' → Rep K g'.ι g'.G d v → Q v H'
def eFun (f : List D → Wd → Option (D × Wd)) (a : DA) : DE := fun ρ ω => match a ρ ω with
  | none => none
  | some (ds, ω1) => f ds ω1
/-- a def that leaves the store alone -/
def eFunP (f : List D → Wd → Option (D × Wd)) (a : DA) : DE := fun ρ ω => match a ρ ω with
  | none => none
  | some (ds, ω1) => match f ds ⟨false, []⟩ with
    | none => none
    | some (d, _) => some (d, ω1)
theorem sn_fun {f : List D → Wd → Option (D × Wd)} {n : Nat} {t : TA} {fa : DA} (h : SndA K true t fa) (l : LenA n fa) : Snd K true (tCall (spD K n f) [] E0 t) (eFun f fa) := by
  intro g0 H0 g H ρ ω σ Q d ω' ok st sl e k
  unfold eFun at e
  split at e
  · cases e
  rename_i ds ω1 e1
  refine h g0 H0 g H ρ ω σ _ ds ω1 ok st sl e1 fun vs g1 H1 s1 ok1 r1 => ?_
  rw [List.append_nil]
  exact ⟨g1, ω1, ds, d, ω', by rw [RepL.length r1]; exact l _ _ _ _ e1, ok1, r1, e, fun v g2 H2 s2 ok2 r2 => k v g2 H2 (s1.trans s2) ok2 r2⟩
theorem sn_funP {f : List D → Wd → Option (D × Wd)} {n : Nat} {t : TA} {fa : DA} (h : SndA K b t fa) (l : LenA n fa) : Snd K b (tCall (spD K n f) [] E0 t) (eFunP f fa) := by
  intro g0 H0 g H ρ ω σ Q d ω' ok st sl e k
  unfold eFunP at e
  split at e
  · cases e
  rename_i ds ω1 e1
  split at e
  · cases e
  rename_i d1 ω2 e2
  cases e
  refine h g0 H0 g H ρ ω σ _ ds ω' ok st sl e1 fun vs g1 H1 s1 ok1 r1 => ?_
  rw [List.append_nil]
  -- the callee sees no store
  refine ⟨⟨false, g1.ι, fun _ => False, hb b g0 H0 g1 H1⟩, ⟨false, []⟩, ds, d, ω2, by rw [RepL.length r1]; exact l _ _ _ _ e1, ⟨fun a o h => (hb_sub ok1 h).1, fun a o h => (hb_sub ok1 h).2.1, fun a o h => id, fun n m a hn => absurd hn (Nat.not_lt_zero _), fun n a hn => absurd hn (Nat.not_lt_zero _), fun n o e => by simp at e, fun a h => h.elim, fun h => nomatch h⟩, r1, e2, ?_⟩
  intro v gc Hc sc okc rc
  have same : ∀ a o, H1 a = some o → Hc a = some o := fun a o h => sc.fr a o h id
  have hι : gc.ι = g1.ι := sc.ιl rfl
  have st1 := st.trans s1
  -- what the callee has settled is none of the store's
  have noS : ∀ a o, gc.G a = some o → ¬ g1.S a := fun a o h q => by
    obtain ⟨u, eu, tu⟩ := ok1.sl a q
    have e2 := okc.sub a o h
    rw [same a u eu] at e2
    cases e2
    have sq := okc.seq a o h
    cases o with
    | lst vs =>
      rcases sc.nw a vs h with z | z
      · exact (hb_sub ok1 z).2.2 q
      · rw [eu] at z; cases z
    | tup vs => cases tu
    | _ => cases sq
  cases b with
  | true =>
    have stp : Step g1 H1 ⟨g1.live, g1.ι, g1.S, gc.G⟩ Hc := ⟨fun _ _ h => h, fun a o h => sc.Gm a o h, fun _ h => h, fun a o h _ => same a o h, fun _ h => .inl h, sc.al, fun a vs h => sc.nw a vs h, rfl, fun _ => rfl⟩
    refine k v ⟨g1.live, g1.ι, g1.S, gc.G⟩ Hc (s1.trans stp) ⟨okc.sub, okc.seq, noS, ok1.inj, ok1.inS, fun n o e => ?_, fun a h => ?_, ok1.lv⟩ ?_
    · obtain ⟨a, ia, h⟩ := ok1.st n o e
      obtain ⟨z, ez⟩ := h.there
      exact ⟨a, ia, h.mono (fun _ _ h => h) (fun a o h => sc.Gm a o h) (by rw [same a z ez, ez])⟩
    · obtain ⟨u, eu, tu⟩ := ok1.sl a h
      exact ⟨u, same a u eu, tu⟩
    · show Rep K g1.ι gc.G d v
      rw [← hι]; exact rc
  | false =>
    have stp : Step g1 H1 g1 Hc := ⟨fun _ _ h => h, fun a o h => h, fun _ h => h, fun a o h _ => same a o h, fun _ h => .inl h, sc.al, fun a vs h => .inl h, rfl, fun _ => rfl⟩
    refine k v g1 Hc (s1.trans stp) ⟨fun a o h => same a o (ok1.sub a o h), ok1.seq, ok1.nS, ok1.inj, ok1.inS, fun n o e => ?_, fun a h => ?_, ok1.lv⟩ ?_
    · obtain ⟨a, ia, h⟩ := ok1.st n o e
      obtain ⟨z, ez⟩ := h.there
      exact ⟨a, ia, h.mono (fun _ _ h => h) (fun a o h => h) (by rw [same a z ez, ez])⟩
    · obtain ⟨u, eu, tu⟩ := ok1.sl a h
      exact ⟨u, same a u eu, tu⟩
    · show Rep K g1.ι (Fm g0 H0 g1 Hc) d v
      have rc' : Rep K g1.ι gc.G d v := by rw [← hι]; exact rc
      refine rc'.mono (fun _ _ h => h) fun a o h => Fm_some.mpr ⟨okc.sub a o h, okc.seq a o h, noS a o h, fun hl => ?_⟩
      cases o with
      | lst vs =>
        rcases sc.nw a vs h with z | z
        · exact (Fm_some.mp z).2.2.2 rfl
        · exact .inr (st1.al a z)
      | _ => cases hl
section
variable {n k : Nat} {f : Addr} {fd : FuncData} {ps : List Str} {fn : List D → Wd → Option (D × Wd)} {x : Str} {p pos : Pos} {e : Expr} {es : List Expr} {t : TA} {fa : DA}
theorem ex_fun (F : FnOk X.prog X.w X.K X.mg X.base CX0 k f fd ps (spD X.K n fn)) (hr : Room k X.A) (hm : X.mg x = some (.ref f)) (hk : PySem.W.keepIn X.K (.ref f) = true) (hb : Binds X.K fd ps []) (ha : EA X true (e :: es) t fa) (l : LenA n fa) (hg : Gl X x := by rfl) (hdb : (x == ("__debug__" : Str)) = false := by decide)
    (he : starEach (e :: es) X.env = (false, eval e X.env) :: starEach es X.env := by rfl) (hpl : (backTo pos (starEach es X.env)).any (·.1) = false := by rfl) : EX X true (.Call (.Name x p) (e :: es) [] pos) (tCall (spD X.K n fn) [] E0 t) (eFun fn fa) :=
  ⟨pe_call F hr hg hm hk hb .nil pass0 ha.pe hdb he hpl, sn_fun ha.sn l⟩
theorem ex_funP (F : FnOk X.prog X.w X.K X.mg X.base CX0 k f fd ps (spD X.K n fn)) (hr : Room k X.A) (hm : X.mg x = some (.ref f)) (hk : PySem.W.keepIn X.K (.ref f) = true) (hb' : Binds X.K fd ps []) (ha : EA X b (e :: es) t fa) (l : LenA n fa) (hg : Gl X x := by rfl) (hdb : (x == ("__debug__" : Str)) = false := by decide)
    (he : starEach (e :: es) X.env = (false, eval e X.env) :: starEach es X.env := by rfl) (hpl : (backTo pos (starEach es X.env)).any (·.1) = false := by rfl) : EX X b (.Call (.Name x p) (e :: es) [] pos) (tCall (spD X.K n fn) [] E0 t) (eFunP fn fa) :=
  ⟨pe_call F hr hg hm hk hb' .nil pass0 ha.pe hdb he hpl, sn_funP ha.sn l⟩
end

/-! ## slices -/
def slD (xs : List D) (lo hi : Option Int) : List D := (xs.drop (HT.sIx xs.length 0 lo)).take (HT.sIx xs.length xs.length hi - HT.sIx xs.length 0 lo)
abbrev DO := Ro → Wd → Option (Option Int × Wd)
def SndO (K : PySem.W.Frag) (t : TO) (f : DO) : Prop :=
  ∀ (g0 : Gh) (H0 : Hp) (g : Gh) (H : Hp) (ρ : Ro) (ω : Wd) (σ : L2.St) (Q : Option Int → Hp → Prop) (d : Option Int) (ω' : Wd), GOk K g H ω → Step g0 H0 g H → Slots K H0 g H ρ σ → f ρ ω = some (d, ω') →
    (∀ g' H', Step g H g' H' → GOk K g' H' ω' → Q d H') → t σ H Q
structure EO (X : Cx) (e : Option Expr) (t : TO) (f : DO) : Prop where
  pe : PO X e t
  sn : SndO X.K t f
def oNone : DO := fun _ ω => some (none, ω)
def oSome (f : DE) : DO := fun ρ ω => match f ρ ω with
  | some (.int i, ω1) => some (some i, ω1)
  | _ => none
theorem eo_none : EO X none tNoPart oNone := ⟨po_none, fun g0 H0 g H ρ ω σ Q d ω' ok st sl e k => by cases e; exact k g H (.refl _ _) ok⟩
theorem eo_some {e : Expr} {t : TE} {f : DE} (h : EX X b e t f) : EO X (some e) (tPart t) (oSome f) := by
  refine ⟨po_some h.pe, ?_⟩
  intro g0 H0 g H ρ ω σ Q d ω' ok st sl e k
  unfold oSome at e
  split at e
  · rename_i i ω1 e1
    cases e
    exact h.sn g0 H0 g H ρ ω σ _ _ ω' ok st sl e1 fun v g1 H1 s1 ok1 r1 => ⟨_, r1.intV, k g1 H1 s1 ok1⟩
  · cases e
def opSl (x : D) (lo hi : Option Int) : Option D := match x with
  | .list xs => some (.list (slD xs lo hi))
  | .tuple xs => some (.tuple (slD xs lo hi))
  | _ => none
def rSlD (K : PySem.W.Frag) : V → Option Int → Option Int → Hp → VK → Prop := fun x lo hi H Q => rSlL K x lo hi H Q ∨ rSlA K x lo hi H Q
theorem sl_D : SlR X (rSlD X.K) := sl_list.or sl_tupA
def eSl (op : D → Option Int → Option Int → Option D) (f : DE) (l h : DO) : DE := fun ρ ω => match f ρ ω with
  | none => none
  | some (x, ω1) => match l ρ ω1 with
    | none => none
    | some (lo, ω2) => match h ρ ω2 with
      | none => none
      | some (hi, ω3) => match op x lo hi with
        | none => none
        | some d => some (d, ω3)
theorem cutV_rep {ι : Ix} {G : Hp} {ds : List D} {vs : List V} (h : RepL K ι G ds vs) (lo hi : Option Int) : RepL K ι G (slD ds lo hi) (cutV vs lo hi) := by
  unfold slD cutV
  rw [h.length]
  exact (h.drop _).take _
def SlS (K : PySem.W.Frag) (b b' : Bool) (r : V → Option Int → Option Int → Hp → VK → Prop) (op : D → Option Int → Option Int → Option D) : Prop :=
  ∀ (g0 : Gh) (H0 : Hp) (g : Gh) (H : Hp) (ω : Wd) (x : D) (lo hi : Option Int) (v : V) (d : D) (Q : VK), GOk K g H ω → Step g0 H0 g H → RB K b g0 H0 g H x v → op x lo hi = some d →
    (∀ u g' H', Step g H g' H' → GOk K g' H' ω → RB K b' g0 H0 g' H' d u → Q u H') → r v lo hi H Q
theorem sls_seq : SlS K b b (rSlD K) opSl := by
  intro g0 H0 g H ω x lo hi v d Q ok st r e k
  cases x <;> simp only [opSl] at e <;> cases e
  · obtain ⟨a, vs, rfl, q, z, l⟩ := r.lstV ok
    refine .inl ⟨a, vs, rfl, SqL.of q, fun p hp => ?_⟩
    obtain ⟨s2, ok2⟩ := alloc ok hp (o := .lst (cutV vs lo hi)) rfl
    exact k _ _ _ s2 ok2 (.newLst ok st hp (Nat.le_trans (cutV_length _ _ _) z) (cutV_rep l lo hi))
  · have r' := r
    obtain ⟨a, vs, rfl, q, z, l⟩ := r.tupV ok
    have hn := RepL.length l
    refine .inr ⟨a, vs, rfl, q, fun hw => ?_, fun _ p hp => ?_⟩
    · refine k _ g H (.refl _ _) ok ?_
      rename_i xs
      have e2 : slD xs lo hi = xs := by
        unfold slD
        rw [← hn, hw.1, hw.2, List.drop_zero, Nat.sub_zero]
        rw [hn]; exact List.take_length
      rw [e2]; exact r'
    · obtain ⟨s2, ok2⟩ := alloc ok hp (o := .tup (cutV vs lo hi)) rfl
      exact k _ _ _ s2 ok2 (.newTup ok st hp (Nat.le_trans (cutV_length _ _ _) z) (cutV_rep l lo hi))
theorem sn_sl {r : V → Option Int → Option Int → Hp → VK → Prop} {op : D → Option Int → Option Int → Option D} {t : TE} {f : DE} {tl th : TO} {fl fh : DO} (hs : SlS K b b' r op) (h : Snd K b t f) (hl : SndO K tl fl) (hh : SndO K th fh) : Snd K b' (tSl r t tl th) (eSl op f fl fh) := by
  intro g0 H0 g H ρ ω σ Q d ω' ok st sl e k
  unfold eSl at e
  split at e
  · cases e
  rename_i x ω1 e1
  split at e
  · cases e
  rename_i lo ω2 e2
  split at e
  · cases e
  rename_i hi ω3 e3
  split at e
  · cases e
  rename_i d1 e4
  cases e
  refine h g0 H0 g H ρ ω σ _ x ω1 ok st sl e1 fun v g1 H1 s1 ok1 r1 => ?_
  refine hl g0 H0 g1 H1 ρ ω1 σ _ lo ω2 ok1 (st.trans s1) (sl.step s1 ok1) e2 fun g2 H2 s2 ok2 => ?_
  refine hh g0 H0 g2 H2 ρ ω2 σ _ hi ω' ok2 ((st.trans s1).trans s2) ((sl.step s1 ok1).step s2 ok2) e3 fun g3 H3 s3 ok3 => ?_
  exact hs g0 H0 g3 H3 ω' x lo hi v d Q ok3 (((st.trans s1).trans s2).trans s3) ((r1.mono s2).mono s3) e4 fun u g4 H4 s4 ok4 r4 => k u g4 H4 (((s1.trans s2).trans s3).trans s4) ok4 r4
theorem ex_sl {e : Expr} {lo hi : Option Expr} {t : TE} {f : DE} {tl th : TO} {fl fh : DO} {p2 pos : Pos} (h : EX X b e t f) (hl : EO X lo tl fl) (hh : EO X hi th fh) : EX X b (.Subscript e (.Slice lo hi none p2) pos) (tSl (rSlD X.K) t tl th) (eSl opSl f fl fh) :=
  ⟨pe_slice sl_D h.pe hl.pe hh.pe, sn_sl sls_seq h.sn hl.sn hh.sn⟩

/-! ## objects of the store: lists -/
def obN : D → Option Nat
  | .dict [(.int n, .none)] => if 0 ≤ n then some n.toNat else none
  | _ => none
theorem obN_ob (n : Nat) : obN (ob n) = some n := by simp [obN, ob]
theorem obN_eq {d : D} {n : Nat} (h : obN d = some n) : d = ob n := by
  unfold obN at h
  split at h
  · split at h
    · cases h
      unfold ob
      rename_i k hk
      rw [show ((k.toNat : Nat) : Int) = k from by omega]
    · cases h
  · cases h
theorem RB.ob {g0 g : Gh} {H0 H : Hp} {n : Nat} {v : V} (h : RB K b g0 H0 g H (ob n) v) : ∃ a, g.ι n = some a ∧ v = .ref a := by
  unfold RB Dn.ob at h; rw [Rep] at h
  obtain ⟨m, a, e, i, r⟩ := h
  have : m = n := by
    injection e with e1
    injection e1 with e2
    injection e2 with e3
    omega
  subst this
  exact ⟨a, i, r⟩
/-- box[i], box an object of the store -/
def eIxOb (f h : DE) : DE := fun ρ ω => match f ρ ω with
  | none => none
  | some (x, ω1) => match obN x with
    | none => none
    | some n => match h ρ ω1 with
      | some (.int i, ω2) => (match ω2.objs[n]? with
        | some (.lst xs) => (match atI xs i with
          | some d => some (d, ω2)
          | none => none)
        | none => none)
      | _ => none
theorem ex_ixOb {ta tb : TE} {fa fb : DE} {ea eb : Expr} {pos : Pos} (ha : EX X b ea ta fa) (hb : EX X b' eb tb fb) (hs : PlainIx eb := by exact fun _ _ => rfl) : EX X true (.Subscript ea eb pos) (tOp (rIx X.K) ta tb) (eIxOb fa fb) := by
  refine ⟨pe_ix ix_seq ha.pe hb.pe hs, ?_⟩
  intro g0 H0 g H ρ ω σ Q d ω' ok st sl e k
  unfold eIxOb at e
  split at e
  · cases e
  rename_i x ω1 e1
  split at e
  · cases e
  rename_i n en
  split at e
  · rename_i i ω2 e2
    split at e
    · rename_i xs ex
      split at e
      · rename_i dd ed
        cases e
        have := obN_eq en
        subst this
        refine ha.sn g0 H0 g H ρ ω σ _ _ ω1 ok st sl e1 fun v g1 H1 s1 ok1 r1 => ?_
        refine hb.sn g0 H0 g1 H1 ρ ω1 σ _ _ ω' ok1 (st.trans s1) (sl.step s1 ok1) e2 fun w g2 H2 s2 ok2 r2 => ?_
        obtain ⟨a, ia, rfl⟩ := (r1.mono s2).ob
        obtain ⟨a', ia', vs, ha', rr⟩ := ok2.st n _ ex
        rw [ia] at ia'; cases ia'
        obtain ⟨u, h3, h4⟩ := RepL.atI rr ed
        rw [r2.intV]
        exact .inl ⟨a, vs, i, u, rfl, rfl, SqL.of ha', h3, k u g2 H2 (s1.trans s2) ok2 h4⟩
      · cases e
    · cases e
  · cases e
def eLenOb (f : DE) : DE := fun ρ ω => match f ρ ω with
  | none => none
  | some (x, ω1) => match obN x with
    | none => none
    | some n => match ω1.objs[n]? with
      | some (.lst xs) => some (.int xs.length, ω1)
      | none => none
theorem ex_lenOb {ta : TE} {fa : DE} {ea : Expr} {p pos : Pos} (hm : X.mg "len" = none) (ha : EX X b ea ta fa) (hg : Gl X "len" := by rfl)
    (he : starEach [ea] X.env = (false, eval ea X.env) :: starEach [] X.env := by rfl) (hpl : (backTo pos (starEach [] X.env)).any (·.1) = false := by rfl) : EX X true (.Call (.Name "len" p) [ea] [] pos) (tCB (fun xs H Q => ∃ x n, xs = [x] ∧ LenV X.K x H n ∧ Q (.int n) H) (tCons ta tNil)) (eLenOb fa) := by
  refine ⟨pe_callB call_len hg hm PySem.boot_len (pa_cons ha.pe pa_nil he) (by decide) (by decide) he hpl, ?_⟩
  intro g0 H0 g H ρ ω σ Q d ω' ok st sl e k
  unfold eLenOb at e
  split at e
  · cases e
  rename_i x ω1 e1
  split at e
  · cases e
  rename_i n en
  split at e
  · rename_i xs ex
    cases e
    have := obN_eq en
    subst this
    refine ha.sn g0 H0 g H ρ ω σ _ _ ω' ok st sl e1 fun v g1 H1 s1 ok1 r1 => ?_
    obtain ⟨a, ia, rfl⟩ := r1.ob
    obtain ⟨a', ia', vs, ha', rr⟩ := ok1.st n _ ex
    rw [ia] at ia'; cases ia'
    exact ⟨_, vs.length, rfl, .inl ⟨vs, SqL.of ha', rfl⟩, by rw [rr.length]; exact k _ g1 H1 s1 ok1 .int⟩
  · cases e
/-- an object of the store is changed -/
theorem obSet {g : Gh} {H : Hp} {ω : Wd} {n : Nat} {o : WO} {a : Addr} {ys : List D} {ws : List V} (ok : GOk K g H ω) (en : ω.objs[n]? = some o) (ia : g.ι n = some a) (r : RepL K g.ι g.G ys ws) : Step g H g (upd H a (.lst ws)) ∧ GOk K g (upd H a (.lst ws)) ⟨ω.live, ω.objs.set n (.lst ys)⟩ := by
  have hn : n < ω.objs.length := (List.getElem?_eq_some_iff.mp en).1
  have hS : g.S a := ok.inS n a hn ia
  have nG : ∀ x u, g.G x = some u → x ≠ a := fun x u h z => by subst z; exact ok.nS x u h hS
  obtain ⟨z, ez, tz⟩ := ok.sl a hS
  refine ⟨⟨fun _ _ h => h, fun _ _ h => h, fun _ h => h, fun x u h hx => ?_, fun _ h => .inl h, fun x h => ?_, fun x vs h => .inl h, rfl, fun _ => rfl⟩, ⟨fun x u h => by rw [upd_ne (nG x u h)]; exact ok.sub x u h, ok.seq, ok.nS, ?_, ?_, fun m u e => ?_, fun x h => ?_, ?_⟩⟩
  · have : x ≠ a := fun z => by subst z; exact hx hS
    rw [upd_ne this]; exact h
  · by_cases hxa : x = a
    · subst hxa; rw [upd_same] at h; cases h
    · rw [upd_ne hxa] at h; exact h
  · simpa using ok.inj
  · simpa using ok.inS
  · rw [List.getElem?_set] at e
    by_cases hm : n = m
    · subst hm
      rw [if_pos rfl, if_pos hn] at e
      cases e
      exact ⟨a, ia, ws, upd_same, r⟩
    · rw [if_neg hm] at e
      obtain ⟨c, ic, h⟩ := ok.st m u e
      have hm' : m < ω.objs.length := (List.getElem?_eq_some_iff.mp e).1
      have nac : c ≠ a := fun z => by subst z; exact hm (ok.inj n m c hn hm' ia ic)
      exact ⟨c, ic, h.mono (fun _ _ h => h) (fun _ _ h => h) (upd_ne nac)⟩
  · by_cases hxa : x = a
    · subst hxa; exact ⟨_, upd_same, rfl⟩
    · obtain ⟨u, eu, tu⟩ := ok.sl x h
      exact ⟨u, by rw [upd_ne hxa]; exact eu, tu⟩
  · simpa using ok.lv
/-- cells.pop(i), cells an object of the store, i written -/
def ePopOb (f : DE) (i : Int) : DE := fun ρ ω => match f ρ ω with
  | none => none
  | some (x, ω1) => match obN x with
    | none => none
    | some n => match ω1.objs[n]? with
      | some (.lst xs) => (match xs[i.toNat]? with
        | some d => if 0 ≤ i ∧ i < 2 ^ 63 then some (d, ⟨ω1.live, ω1.objs.set n (.lst (xs.eraseIdx i.toNat))⟩) else none
        | none => none)
      | none => none
theorem ex_popOb {ta : TE} {fa : DE} {o : Expr} {i : Int} {j : Nat} {ipos apos cpos : Pos} (ho : EX X b o ta fa)
    (hbase : attributeBase o "pop" X.env (eval o X.env) = eval o X.env := by rfl)
    (hfew : ((backTo cpos (starEach [.Constant (.int i) j ipos] X.env)).all (fun x => !x.1) && (backToKw cpos (keywordEach [] X.env)).all (fun x => x.1.isSome)
      && decide ([Expr.Constant (.int i) j ipos].length + ([] : List Keyword).length + (if ([] : List Keyword).isEmpty then 0 else 1) < 30)) = true := by rfl)
    (hline : (apos.endLine == cpos.line) = true := by rfl) (hs : starEach [.Constant (.int i) j ipos] X.env = (false, eval (.Constant (.int i) j ipos) X.env) :: starEach [] X.env := by rfl) (hplain : (backTo cpos (starEach [] X.env)).any (·.1) = false := by rfl) :
    EX X true (.Call (.Attribute o "pop" apos) [.Constant (.int i) j ipos] [] cpos) (tBM X.K "list" rPopAt ta (tCons (tC (.int i)) tNil)) (ePopOb fa i) := by
  refine ⟨pe_bm PySem.F.plainAttrs_list PySem.F.slot_list_pop PySem.F.type_list_pop mt_popAt ho.pe (pa_cons pe_int pa_nil hs) hbase hfew hline hs hplain, ?_⟩
  intro g0 H0 g H ρ ω σ Q d ω' ok st sl e k
  unfold ePopOb at e
  split at e
  · cases e
  rename_i x ω1 e1
  split at e
  · cases e
  rename_i n en
  split at e
  · rename_i xs ex
    split at e
    · rename_i dd ed
      split at e
      · rename_i hi
        cases e
        have := obN_eq en
        subst this
        refine ho.sn g0 H0 g H ρ ω σ _ _ ω1 ok st sl e1 fun v g1 H1 s1 ok1 r1 => ?_
        obtain ⟨a, ia, rfl⟩ := r1.ob
        obtain ⟨a', ia', vs, ha', rr⟩ := ok1.st n _ ex
        rw [ia] at ia'; cases ia'
        refine ⟨.inl ⟨rfl, vs, SqL.of ha'⟩, ?_⟩
        obtain ⟨u, h3, h4⟩ := rr.get ed
        obtain ⟨s3, ok3⟩ := obSet ok1 ex ia (rr.eraseIdx i.toNat)
        have hl : i.toNat < vs.length := (List.getElem?_eq_some_iff.mp h3).1
        refine ⟨a, vs, i, i.toNat, u, rfl, rfl, ha', by omega, hi.2, ?_, h3, k u g1 _ (s1.trans s3) ok3 h4⟩
        have q : ixN vs.length i = some i.toNat := by
          unfold ixN
          rw [if_pos hi.1, if_pos (by omega)]
        exact (ixN_seq q).1
      · cases e
    · cases e
  · cases e
end
end Dn
end

section
namespace Dn
open PySem PySem.Spec L2

/-! ## statements -/
inductive Out where
  | nx (ρ : Ro)
  | rt (d : D)
  | bk (ρ : Ro)
  | ct (ρ : Ro)
abbrev DS := Ro → Wd → Option (Out × Wd)
/-- a state of a def, behind the state g of the same def -/
structure SI (K : PySem.W.Frag) (g0 : Gh) (H0 : Hp) (g g' : Gh) (ρ : Ro) (ω : Wd) (σ : L2.St) (H : Hp) : Prop where
  ok : GOk K g' H ω
  st : Step g0 H0 g' H
  sl : Slots K H0 g' H ρ σ
  le : GLe g g'
def Post (K : PySem.W.Frag) (g0 : Gh) (H0 : Hp) (g : Gh) (E : Ends) (ω : Wd) : Out → Prop
  | .nx ρ => ∀ σ g' H, SI K g0 H0 g g' ρ ω σ H → E.nx σ H
  | .bk ρ => ∀ σ g' H, SI K g0 H0 g g' ρ ω σ H → E.bk σ H
  | .ct ρ => ∀ σ g' H, SI K g0 H0 g g' ρ ω σ H → E.ct σ H
  | .rt d => ∀ v g' H, GOk K g' H ω → Step g0 H0 g' H → Rep K g'.ι g'.G d v → E.rt v H
def SndS (K : PySem.W.Frag) (t : TS) (f : DS) : Prop :=
  ∀ (g0 : Gh) (H0 : Hp) (g : Gh) (H : Hp) (ρ : Ro) (ω : Wd) (σ : L2.St) (E : Ends) (o : Out) (ω' : Wd), GOk K g H ω → Step g0 H0 g H → Slots K H0 g H ρ σ → f ρ ω = some (o, ω') → Post K g0 H0 g E ω' o → t E σ H
structure SX (X : Cx) (s : Stmt) (t : TS) (f : DS) : Prop where
  pe : PS X s t
  sn : SndS X.K t f
structure SXs (X : Cx) (s : List Stmt) (t : TS) (f : DS) : Prop where
  pe : PSs X s t
  sn : SndS X.K t f
section
variable {X : Cx} {K : PySem.W.Frag} {b b' : Bool} {t u : TS} {f h : DS} {st : Stmt} {rest : List Stmt} {pos : Pos}
theorem Post.le {g0 g g1 : Gh} {H0 : Hp} {E : Ends} {ω : Wd} {o : Out} (p : Post K g0 H0 g E ω o) (l : GLe g g1) : Post K g0 H0 g1 E ω o := by
  cases o with
  | nx ρ => exact fun σ g' H s => p σ g' H ⟨s.ok, s.st, s.sl, l.trans s.le⟩
  | bk ρ => exact fun σ g' H s => p σ g' H ⟨s.ok, s.st, s.sl, l.trans s.le⟩
  | ct ρ => exact fun σ g' H s => p σ g' H ⟨s.ok, s.st, s.sl, l.trans s.le⟩
  | rt d => exact p
def sNext : DS := fun ρ ω => some (.nx ρ, ω)
def sSeq (f h : DS) : DS := fun ρ ω => match f ρ ω with
  | some (.nx ρ1, ω1) => h ρ1 ω1
  | r => r
theorem sn_seq (hf : SndS K t f) (hh : SndS K u h) : SndS K (tSeq t u) (sSeq f h) := by
  intro g0 H0 g H ρ ω σ E o ω' ok st sl e k
  unfold sSeq at e
  split at e
  · rename_i ρ1 ω1 e1
    exact hf g0 H0 g H ρ ω σ { E with nx := u E } _ ω1 ok st sl e1 fun σ1 g1 H1 s => hh g0 H0 g1 H1 ρ1 ω1 σ1 E o ω' s.ok s.st s.sl e (k.le s.le)
  · rename_i hn
    refine hf g0 H0 g H ρ ω σ { E with nx := u E } o ω' ok st sl e ?_
    cases o with
    | nx ρ1 => exact absurd e (hn ρ1 ω')
    | _ => exact k
theorem sxs_nil : SXs X [] tNext sNext := ⟨pss_nil, fun g0 H0 g H ρ ω σ E o ω' ok st sl e k => by cases e; exact k σ g H ⟨ok, st, sl, .refl _⟩⟩
theorem sxs_cons (h1 : SX X st t f) (h2 : SXs X rest u h) : SXs X (st :: rest) (tSeq t u) (sSeq f h) := ⟨pss_cons h1.pe h2.pe, sn_seq h1.sn h2.sn⟩
theorem sxs_one (h1 : SX X st t f) : SXs X [st] t f := ⟨pss_one h1.pe, h1.sn⟩
def sBreak : DS := fun ρ ω => some (.bk ρ, ω)
def sCont : DS := fun ρ ω => some (.ct ρ, ω)
theorem sx_pass : SX X (.Pass pos) tNext sNext := ⟨ps_pass, fun g0 H0 g H ρ ω σ E o ω' ok st sl e k => by cases e; exact k σ g H ⟨ok, st, sl, .refl _⟩⟩
theorem sx_break : SX X (.Break pos) tBreak sBreak := ⟨ps_break, fun g0 H0 g H ρ ω σ E o ω' ok st sl e k => by cases e; exact k σ g H ⟨ok, st, sl, .refl _⟩⟩
theorem sx_continue : SX X (.Continue pos) tCont sCont := ⟨ps_continue, fun g0 H0 g H ρ ω σ E o ω' ok st sl e k => by cases e; exact k σ g H ⟨ok, st, sl, .refl _⟩⟩
/-- an expression whose value is dropped -/
def sDrop (f : DE) : DS := fun ρ ω => match f ρ ω with
  | none => none
  | some (_, ω1) => some (.nx ρ, ω1)
theorem sx_expr {e : Expr} {te : TE} {fe : DE} (he : EX X b e te fe) (hs : swapsWith e none pos.line X.env = pure false := by rfl) : SX X (.Expr e pos) (tDrop te) (sDrop fe) := by
  refine ⟨ps_expr he.pe hs, ?_⟩
  intro g0 H0 g H ρ ω σ E o ω' ok st sl e k
  unfold sDrop at e
  split at e
  · cases e
  rename_i d ω1 e1
  cases e
  exact he.sn g0 H0 g H ρ ω σ _ d ω' ok st sl e1 fun v g1 H1 s1 ok1 r1 => k σ g1 H1 ⟨ok1, st.trans s1, sl.step s1 ok1, s1.le⟩
/-- return -/
def sRet (f : DE) : DS := fun ρ ω => match f ρ ω with
  | none => none
  | some (d, ω1) => some (.rt d, ω1)
noncomputable def Gh.all (g0 : Gh) (H0 : Hp) (g : Gh) (H : Hp) : Gh := { g with G := Fm g0 H0 g H }
theorem all_ok {g0 g : Gh} {H0 H : Hp} {ω : Wd} (ok : GOk K g H ω) (st : Step g0 H0 g H) : Step g0 H0 (Gh.all g0 H0 g H) H ∧ GOk K (Gh.all g0 H0 g H) H ω := by
  refine ⟨⟨st.ιm, fun a o h => G_Fm ok st (st.Gm a o h), st.Sm, st.fr, st.nS, st.al, fun a vs h => (Fm_some.mp h).2.2.2 rfl, st.lv, st.ιl⟩, ⟨fun a o h => (Fm_some.mp h).1, fun a o h => (Fm_some.mp h).2.1, fun a o h => (Fm_some.mp h).2.2.1, ok.inj, ok.inS, fun n o e => ?_, ok.sl, ok.lv⟩⟩
  obtain ⟨a, ia, h⟩ := ok.st n o e
  exact ⟨a, ia, h.mono (fun _ _ h => h) (fun _ _ h => G_Fm ok st h) rfl⟩
theorem sx_ret {e : Expr} {te : TE} {fe : DE} (he : EX X b e te fe) : SX X (.Return (some e) pos) (tRet te) (sRet fe) := by
  refine ⟨ps_ret he.pe, ?_⟩
  intro g0 H0 g H ρ ω σ E o ω' ok st sl e k
  unfold sRet at e
  split at e
  · cases e
  rename_i d ω1 e1
  cases e
  refine he.sn g0 H0 g H ρ ω σ _ d ω' ok st sl e1 fun v g1 H1 s1 ok1 r1 => ?_
  cases b with
  | true => exact k v g1 H1 ok1 (st.trans s1) r1
  | false =>
    obtain ⟨s2, ok2⟩ := all_ok ok1 (st.trans s1)
    exact k v _ H1 ok2 s2 r1
def sRetN : DS := fun _ ω => some (.rt .none, ω)
theorem sx_retN : SX X (.Return none pos) tRetN sRetN := ⟨ps_retN, fun g0 H0 g H ρ ω σ E o ω' ok st sl e k => by cases e; exact k .non g H ok st (by rw [Rep])⟩
/-- if -/
def sIf (c : DT) (f h : DS) : DS := fun ρ ω => match c ρ ω with
  | none => none
  | some (c, ω1) => if c = true then f ρ ω1 else h ρ ω1
theorem sx_if {c : Expr} {p q : List Stmt} {tc : TT} {fc : DT} (hc : ET X c tc fc) (hf : SXs X p t f) (hh : SXs X q u h) : SX X (.If c p q pos) (tIfS tc t u) (sIf fc f h) := by
  refine ⟨ps_if hc.pe hf.pe hh.pe, ?_⟩
  intro g0 H0 g H ρ ω σ E o ω' ok st sl e k
  unfold sIf at e
  split at e
  · cases e
  rename_i c1 ω1 e1
  refine hc.sn g0 H0 g H ρ ω σ _ c1 ω1 ok st sl e1 fun g1 H1 s1 ok1 => ?_
  cases c1 with
  | true => exact iteT (hf.sn g0 H0 g1 H1 ρ ω1 σ E o ω' ok1 (st.trans s1) (sl.step s1 ok1) e (k.le s1.le))
  | false => exact iteF (hh.sn g0 H0 g1 H1 ρ ω1 σ E o ω' ok1 (st.trans s1) (sl.step s1 ok1) e (k.le s1.le))
/-- target = value -/
def sAsg (f : DE) (t : DG) : DS := fun ρ ω => match f ρ ω with
  | none => none
  | some (d, ω1) => match t d ρ with
    | none => none
    | some ρ1 => some (.nx ρ1, ω1)
theorem sn_asg {te : TE} {fe : DE} {tg : TG} {js : List Nat} {fg : DG} (he : Snd K true te fe) (hg : SndG K tg js fg) : SndS K (tAsg te tg) (sAsg fe fg) := by
  intro g0 H0 g H ρ ω σ E o ω' ok st sl e k
  unfold sAsg at e
  split at e
  · cases e
  rename_i d ω1 e1
  split at e
  · cases e
  rename_i ρ1 e2
  cases e
  refine he g0 H0 g H ρ ω σ _ d ω' ok st sl e1 fun v g1 H1 s1 ok1 r1 => ?_
  exact hg H0 g1 H1 ρ σ d v ρ1 _ ok1.sub (sl.step s1 ok1) r1 e2 fun σ' sl' _ _ => k σ' g1 H1 ⟨ok1, st.trans s1, sl', s1.le⟩
theorem sx_asg {tg e : Expr} {te : TE} {fe : DE} {g : TG} {js : List Nat} {fg : DG} (he : EX X true e te fe) (hg : EG X tg g js fg) (hs : swapsWithSole [tg] e pos.line X.env = pure false := by rfl) (hw : swappedStores [tg] e X.env = pure none := by rfl)
    (h1 : (assignEach [tg] X.env).map (·.2) = [assign tg X.env] := by rfl) : SX X (.Assign [tg] e pos) (tAsg te g) (sAsg fe fg) := ⟨ps_asg he.pe hg.pe hs hw h1, sn_asg he.sn hg.sn⟩
def sSet (i : Nat) (f : DE) : DS := fun ρ ω => match f ρ ω with
  | none => none
  | some (d, ω1) => some (.nx (ρ.set i (.val d)), ω1)
theorem sn_set {i : Nat} {te : TE} {fe : DE} (he : Snd K true te fe) : SndS K (tAsg te (gName i)) (sSet i fe) := by
  intro g0 H0 g H ρ ω σ E o ω' ok st sl e k
  unfold sSet at e
  split at e
  · cases e
  rename_i d ω1 e1
  cases e
  refine he g0 H0 g H ρ ω σ _ d ω' ok st sl e1 fun v g1 H1 s1 ok1 r1 => ?_
  exact k _ g1 H1 ⟨ok1, st.trans s1, (sl.step s1 ok1).set i ⟨v, rfl, r1⟩ (fun xs z => nomatch z), s1.le⟩
theorem sx_set {i : Nat} {x : Str} {e : Expr} {te : TE} {fe : DE} {pos' : Pos} (hN : X.N.Nodup) (he : EX X true e te fe) (hi : X.N[i]? = some x := by rfl) (hx : Loc X.env.scope x := by first | exact Or.inl rfl | exact Or.inr rfl) (hs : swapsWith e (some (.Name x pos')) pos.line X.env = pure false := by rfl) (hf : X.fn x = true ∨ X.env.scope.names.lookup x = some .local := by first | exact .inl rfl | exact .inr rfl | assumption) :
    SX X (.Assign [.Name x pos'] e pos) (tAsg te (gName i)) (sSet i fe) := ⟨ps_set hN hi hx he.pe hs hf, sn_set he.sn⟩
/-- a name gets a list of its own -/
def sOwn (i : Nat) (f : DA) : DS := fun ρ ω => match f ρ ω with
  | none => none
  | some (ds, ω1) => some (.nx (ρ.set i (.own ds)), ω1)
theorem sn_own {i : Nat} {te : TE} {fe : DA} (he : SndN K te fe) : SndS K (tAsg te (gName i)) (sOwn i fe) := by
  intro g0 H0 g H ρ ω σ E o ω' ok st sl e k
  unfold sOwn at e
  split at e
  · cases e
  rename_i d ω1 e1
  cases e
  refine he g0 H0 g H ρ ω σ _ d ω' ok st sl e1 fun p vs g1 H1 s1 ok1 h1 h2 h3 h4 h5 h6 => ?_
  refine k _ g1 H1 ⟨ok1, st.trans s1, ?_, s1.le⟩
  refine (sl.step s1 ok1).setOwn i ⟨p, vs, rfl, h2, h3, h4, st.al p h1, h5, h6⟩ fun j xs hj hx hs => ?_
  obtain ⟨q, ws, eq, hq, _⟩ := sl.at_ j _ _ hx hs
  cases eq
  rw [h1] at hq; cases hq
theorem sx_own {i : Nat} {x : Str} {e : Expr} {te : TE} {fe : DA} {pos' : Pos} (hN : X.N.Nodup) (he : EN X e te fe) (hi : X.N[i]? = some x := by rfl) (hx : Loc X.env.scope x := by first | exact Or.inl rfl | exact Or.inr rfl) (hs : swapsWith e (some (.Name x pos')) pos.line X.env = pure false := by rfl) (hf : X.fn x = true ∨ X.env.scope.names.lookup x = some .local := by first | exact .inl rfl | exact .inr rfl | assumption) :
    SX X (.Assign [.Name x pos'] e pos) (tAsg te (gName i)) (sOwn i fe) := ⟨ps_set hN hi hx he.pe hs hf, sn_own he.sn⟩
/-- y = [.. for ..] -/
theorem sx_lc {i : Nat} {y : Str} {py : Pos} {elt tg iter : Expr} {ifs : List Expr} {scope : Scope} {own : List (Str × Nat)} {pos spos : Pos} {wi : TI} {g : TG} {tt : TT} {te : TE} {fi : DA} {fg : DG} {ft : DT} {fe : DE} {js : List Nat} (hc : X.calm = true) (hN : X.N.Nodup) (hi : EI X b tg iter wi fi) (ok : BlkOk X.N X.env.scope scope own)
    (hg : ∀ (s : Shared) (H : Hp) (C : Addr) (cl : List (Str × Addr)) (fp : List Addr), EG (X.blk s H scope (compEnvC scope cl C X.env) fp) tg g js fg)
    (ht : ∀ (s : Shared) (H : Hp) (C : Addr) (cl : List (Str × Addr)) (fp : List Addr), ETs (X.blk s H scope (compEnvC scope cl C X.env) fp) ifs tt ft)
    (he : ∀ (s : Shared) (H : Hp) (C : Addr) (cl : List (Str × Addr)) (fp : List Addr), EX (X.blk s H scope (compEnvC scope cl C X.env) fp) true elt te fe)
    (hy : X.N[i]? = some y := by rfl) (hyl : X.env.scope.names.lookup y = some .local := by rfl) (hl : (py.line == pos.line) = true := by rfl) (hk : X.env.scope.kind = .function := by rfl) (ha : (scope.names.any fun (n, k) => n == y && (k == .local || k == .cell)) = false := by decide +kernel)
    (hj : ∀ j ∈ js, j ∈ own.map (·.2) := by decide) (hs : ∀ x, foldedSetIterable iter X.env x = pure x := by intro _; rfl) :
    SX X (.Assign [.Name y py] (.ListComp elt [⟨tg, iter, ifs, 0⟩] scope pos) spos) (tAsg (tLc wi g tt te (own.map (·.2))) (gName i)) (sOwn i (eLcN fi fg ft fe (own.map (·.2)))) := by
  refine ⟨ps_setLc hc hN hy hyl (sw_true hk hyl hl ha) hi.pe ok (fun s H C cl fp => (hg s H C cl fp).pe) (fun s H C cl fp => (ht s H C cl fp).pe) (fun s H C cl fp => (he s H C cl fp).pe) hs, ?_⟩
  refine sn_own ?_
  intro g0 H0 gh H ρ ω σ Q ds ω' ok' st sl e k
  exact lc_sound hi.sn (hg X.s_0 X.H_0 0 [] []).sn hj (ht X.s_0 X.H_0 0 [] []).sn (he X.s_0 X.H_0 0 [] []).sn ok' st sl e k
/-- a, b = x, y -/
def sPar (i j : Nat) (f : DA) : DS := fun ρ ω => match f ρ ω with
  | some ([x, y], ω1) => some (.nx ((ρ.set i (.val x)).set j (.val y)), ω1)
  | _ => none
theorem sx_par {i j : Nat} {x y : Str} {a c : Expr} {ta : TA} {fa : DA} {px py pt : Pos} {kt k2 pt2} (hc : X.calm = true) (hN : X.N.Nodup) (ha : EA X true [a, c] ta fa) (hi : X.N[i]? = some x := by rfl) (hj : X.N[j]? = some y := by rfl) (hij : i ≠ j := by decide)
    (hx : X.env.scope.names.lookup x = some .local := by rfl) (hy : X.env.scope.names.lookup y = some .local := by rfl)
    (hw : swappedStores [.Tuple [.Name x px, .Name y py] kt pt] (.Tuple [a, c] k2 pt2) X.env = pure (some [x, y]) := by rfl)
    (hs : swapsWithSole [.Tuple [.Name x px, .Name y py] kt pt] (.Tuple [a, c] k2 pt2) pos.line X.env = pure false := by rfl) :
    SX X (.Assign [.Tuple [.Name x px, .Name y py] kt pt] (.Tuple [a, c] k2 pt2) pos) (tPar i j ta) (sPar i j fa) := by
  refine ⟨ps_par hc hN hi hj hij hx hy ha.pe hw hs, ?_⟩
  intro g0 H0 g H ρ ω σ E o ω' ok st sl e k
  unfold sPar at e
  split at e
  · rename_i p q ω1 e1
    cases e
    refine ha.sn g0 H0 g H ρ ω σ _ _ ω' ok st sl e1 fun vs g1 H1 s1 ok1 r1 => ?_
    obtain ⟨v, w, rfl, r, r2⟩ := RBL.two r1
    refine ⟨v, w, rfl, ?_⟩
    have sl2 : Slots X.K H0 g1 H1 (ρ.set i (.val p)) (σ.set i (some v)) := (sl.step s1 ok1).set i (s := .val p) (o := some v) ⟨v, rfl, r⟩ (fun xs z => nomatch z)
    have sl3 : Slots X.K H0 g1 H1 ((ρ.set i (.val p)).set j (.val q)) ((σ.set i (some v)).set j (some w)) := sl2.set j (s := .val q) (o := some w) ⟨w, rfl, r2⟩ (fun xs z => nomatch z)
    exact k _ g1 H1 ⟨ok1, st.trans s1, sl3, s1.le⟩
  · cases e
/-- name op= e, ints -/
def sAug (i : Nat) (op : D → D → Option D) (f : DE) : DS := fun ρ ω => match ρ[i]? with
  | some (.val x) => (match f ρ ω with
    | none => none
    | some (y, ω1) => match op x y with
      | none => none
      | some z => some (.nx (ρ.set i (.val z)), ω1))
  | _ => none
theorem sx_aug {i : Nat} {x : Str} {e : Expr} {te : TE} {fe : DE} {o : Operator} {op : D → D → Option D} {r : R2} {pos' : Pos} (hN : X.N.Nodup) (ho : OpR X (inplaceOp o) r) (hs : OpS X.K true true r op) (he : EX X true e te fe) (hi : X.N[i]? = some x := by rfl) (hx : Loc X.env.scope x := by first | exact Or.inl rfl | exact Or.inr rfl) (hf : X.fn x = true ∨ X.env.scope.names.lookup x = some .local := by first | exact .inl rfl | exact .inr rfl | assumption) :
    SX X (.AugAssign (.Name x pos') o e pos) (tAug i te r) (sAug i op fe) := by
  refine ⟨ps_aug hN hi hx he.pe (fun pins s σ H x y v u Q I rx ry q => ho pins s σ H x y v u Q I rx ry q) hf, ?_⟩
  intro g0 H0 g H ρ ω σ E o ω' ok st sl e k
  unfold sAug at e
  split at e
  · rename_i x1 hx1
    split at e
    · cases e
    rename_i y ω1 e1
    split at e
    · cases e
    rename_i z e2
    cases e
    obtain ⟨oo, h1, v, rfl, rv⟩ := sl.get hx1
    refine ⟨v, h1, ?_⟩
    refine he.sn g0 H0 g H ρ ω σ _ y ω' ok st sl e1 fun w g1 H1 s1 ok1 r1 => ?_
    have rv1 : RB X.K true g0 H0 g1 H1 x1 v := rv.mono s1.ιm s1.Gm
    refine hs g0 H0 g1 H1 ω' x1 y v w z _ ok1 (st.trans s1) rv1 r1 e2 fun u g2 H2 s2 ok2 r2 => ?_
    exact k _ g2 H2 ⟨ok2, (st.trans s1).trans s2, ((sl.step s1 ok1).step s2 ok2).set i ⟨u, rfl, r2⟩ (fun xs z => nomatch z), (s1.trans s2).le⟩
  · cases e

/-! ## one's own lists are changed -/
/-- the state behind a change of the own list in slot i -/
theorem own_mut {g0 g : Gh} {H0 H : Hp} {ρ : Ro} {ω : Wd} {σ : L2.St} {i : Nat} {p : Addr} {xs ys : List D} {ws : List V} (ok : GOk K g H ω) (st : Step g0 H0 g H) (sl : Slots K H0 g H ρ σ) (hx : ρ[i]? = some (.own xs)) (hσ : σ[i]? = some (some (.ref p))) (hz : ws.length ≤ sizeLine) (r : RepL K g.ι g.G ys ws) : GOk K g (upd H p (.lst ws)) ω ∧ Step g0 H0 g (upd H p (.lst ws)) ∧ Slots K H0 g (upd H p (.lst ws)) (ρ.set i (.own ys)) σ := by
  obtain ⟨q, vs, eq, hp, hG, hS, h0, _, _⟩ := sl.at_ i _ _ hx hσ
  cases eq
  refine ⟨mutOk ok hp hG hS, mutStep st h0, ⟨by rw [List.length_set]; exact sl.len, fun j s o e1 e2 => ?_, fun j l xs' ys' q e1 e2 e3 e4 => ?_⟩⟩
  · by_cases hj : i = j
    · subst hj
      have hi : i < ρ.length := (List.getElem?_eq_some_iff.mp hx).1
      rw [List.getElem?_set_self hi] at e1
      cases e1
      rw [hσ] at e2; cases e2
      exact ⟨p, ws, rfl, upd_same, hG, hS, h0, hz, r⟩
    · rw [List.getElem?_set_ne hj] at e1
      have h := sl.at_ j s o e1 e2
      cases s with
      | un => trivial
      | val d => exact h
      | own zs =>
        obtain ⟨q, us, eo, hq, r'⟩ := h
        have nqp : q ≠ p := fun z => by
          subst z
          subst eo
          exact hj (sl.ap i j xs zs q hx e1 hσ e2)
        exact ⟨q, us, eo, by rw [upd_ne nqp]; exact hq, r'⟩
  · have h1 : ∃ zs, ρ[j]? = some (.own zs) := by
      by_cases hj : i = j
      · subst hj; exact ⟨_, hx⟩
      · rw [List.getElem?_set_ne hj] at e1; exact ⟨_, e1⟩
    have h2 : ∃ zs, ρ[l]? = some (.own zs) := by
      by_cases hj : i = l
      · subst hj; exact ⟨_, hx⟩
      · rw [List.getElem?_set_ne hj] at e2; exact ⟨_, e2⟩
    obtain ⟨z1, h1⟩ := h1
    obtain ⟨z2, h2⟩ := h2
    exact sl.ap j l z1 z2 q h1 h2 e3 e4
/-- x.append(e) -/
def sApp (i : Nat) (f : DE) : DS := fun ρ ω => match f ρ ω with
  | none => none
  | some (d, ω1) => match ρ[i]? with
    | some (.own xs) => if xs.length < sizeLine then some (.nx (ρ.set i (.own (xs ++ [d]))), ω1) else none
    | _ => none
theorem sx_app {i : Nat} {x : Str} {e : Expr} {te : TE} {fe : DE} {npos apos cpos : Pos} (he : EX X true e te fe) (hN : X.N[i]? = some x := by rfl) (hv : Vis X.env.scope x := by first | exact Or.inl rfl | exact Or.inr (Or.inl rfl) | exact Or.inr (Or.inr rfl)) (hd : (x == ("__debug__" : Str)) = false := by decide)
    (hcd : (x == ("__classdict__" : Str)) = false := by decide) (hs : swapsWith (.Call (.Attribute (.Name x npos) "append" apos) [e] [] cpos) none pos.line X.env = pure false := by rfl)
    (hbase : attributeBase (.Name x npos) "append" X.env (eval (.Name x npos) X.env) = eval (.Name x npos) X.env := by rfl)
    (hfew : ((backTo cpos (starEach [e] X.env)).all (fun x => !x.1) && (backToKw cpos (keywordEach [] X.env)).all (fun x => x.1.isSome)
      && decide ([e].length + ([] : List Keyword).length + (if ([] : List Keyword).isEmpty then 0 else 1) < 30)) = true := by rfl)
    (hline : (apos.endLine == cpos.line) = true := by rfl) (hst : starEach [e] X.env = (false, eval e X.env) :: starEach [] X.env := by rfl) (hplain : (backTo cpos (starEach [] X.env)).any (·.1) = false := by rfl) :
    SX X (.Expr (.Call (.Attribute (.Name x npos) "append" apos) [e] [] cpos) pos) (tDrop (tBM X.K "list" rAppend (tVar i) (tCons te tNil))) (sApp i fe) := by
  refine ⟨ps_expr (pe_bm PySem.F.plainAttrs_list PySem.F.slot_list_append PySem.F.type_list_append mt_append (pe_var hN hv hd hcd) (pa_cons he.pe pa_nil hst) hbase hfew hline hst hplain) hs, ?_⟩
  intro g0 H0 g H ρ ω σ E o ω' ok st sl e k
  unfold sApp at e
  split at e
  · cases e
  rename_i d ω1 e1
  split at e
  · rename_i xs hx
    split at e
    · rename_i hz
      cases e
      obtain ⟨oo, h1, p, vs, rfl, hp, hG, hS, h0, z, r⟩ := sl.get hx
      refine ⟨_, h1, .inl ⟨rfl, vs, SqL.of hp⟩, ?_⟩
      refine he.sn g0 H0 g H ρ ω σ _ d ω' ok st sl e1 fun v g1 H1 s1 ok1 r1 => ?_
      have hp1 := s1.fr p _ hp hS
      have hl : vs.length < sizeLine := by rw [r.length]; exact hz
      refine ⟨p, vs, v, rfl, rfl, hp1, hl, ?_⟩
      obtain ⟨ok2, st2, sl2⟩ := own_mut (ys := xs ++ [d]) (ws := vs ++ [v]) ok1 (st.trans s1) (sl.step s1 ok1) hx h1 (by rw [List.length_append]; exact hl) ((r.mono s1.ιm s1.Gm).append (.cons r1 .nil))
      exact k σ g1 _ ⟨ok2, st2, sl2, s1.le⟩
    · cases e
  · cases e
/-- x.extend(e), e a list -/
def sExt (i : Nat) (f : DE) : DS := fun ρ ω => match f ρ ω with
  | some (.list ds, ω1) => (match ρ[i]? with
    | some (.own xs) => if xs.length + ds.length ≤ sizeLine then some (.nx (ρ.set i (.own (xs ++ ds))), ω1) else none
    | _ => none)
  | _ => none
theorem sx_ext {i : Nat} {x : Str} {e : Expr} {te : TE} {fe : DE} {npos apos cpos : Pos} (he : EX X true e te fe) (hN : X.N[i]? = some x := by rfl) (hv : Vis X.env.scope x := by first | exact Or.inl rfl | exact Or.inr (Or.inl rfl) | exact Or.inr (Or.inr rfl)) (hd : (x == ("__debug__" : Str)) = false := by decide)
    (hcd : (x == ("__classdict__" : Str)) = false := by decide) (hs : swapsWith (.Call (.Attribute (.Name x npos) "extend" apos) [e] [] cpos) none pos.line X.env = pure false := by rfl)
    (hbase : attributeBase (.Name x npos) "extend" X.env (eval (.Name x npos) X.env) = eval (.Name x npos) X.env := by rfl)
    (hfew : ((backTo cpos (starEach [e] X.env)).all (fun x => !x.1) && (backToKw cpos (keywordEach [] X.env)).all (fun x => x.1.isSome)
      && decide ([e].length + ([] : List Keyword).length + (if ([] : List Keyword).isEmpty then 0 else 1) < 30)) = true := by rfl)
    (hline : (apos.endLine == cpos.line) = true := by rfl) (hst : starEach [e] X.env = (false, eval e X.env) :: starEach [] X.env := by rfl) (hplain : (backTo cpos (starEach [] X.env)).any (·.1) = false := by rfl) :
    SX X (.Expr (.Call (.Attribute (.Name x npos) "extend" apos) [e] [] cpos) pos) (tDrop (tBM X.K "list" rExtend (tVar i) (tCons te tNil))) (sExt i fe) := by
  refine ⟨ps_expr (pe_bm PySem.F.plainAttrs_list PySem.F.slot_list_extend PySem.F.type_list_extend mt_extend (pe_var hN hv hd hcd) (pa_cons he.pe pa_nil hst) hbase hfew hline hst hplain) hs, ?_⟩
  intro g0 H0 g H ρ ω σ E o ω' ok st sl e k
  unfold sExt at e
  split at e
  · rename_i ds ω1 e1
    split at e
    · rename_i xs hx
      split at e
      · rename_i hz
        cases e
        obtain ⟨oo, h1, p, vs, rfl, hp, hG, hS, h0, z, r⟩ := sl.get hx
        refine ⟨_, h1, .inl ⟨rfl, vs, SqL.of hp⟩, ?_⟩
        refine he.sn g0 H0 g H ρ ω σ _ _ ω' ok st sl e1 fun v g1 H1 s1 ok1 r1 => ?_
        have hp1 := s1.fr p _ hp hS
        obtain ⟨a, ws, rfl, hq, zq, lq⟩ := r1.lstV ok1
        have hl : vs.length + ws.length ≤ sizeLine := by rw [r.length, RepL.length lq]; exact hz
        refine ⟨p, a, vs, ws, rfl, rfl, hp1, hq, hl, ?_⟩
        obtain ⟨ok2, st2, sl2⟩ := own_mut (ys := xs ++ ds) (ws := vs ++ ws) ok1 (st.trans s1) (sl.step s1 ok1) hx h1 (by rw [List.length_append]; exact hl) ((r.mono s1.ιm s1.Gm).append lq)
        exact k σ g1 _ ⟨ok2, st2, sl2, s1.le⟩
      · cases e
    · cases e
  · cases e
/-- y = x.pop(), or x.pop() -/
def sPop (i : Nat) (j : Option Nat) : DS := fun ρ ω => match ρ[i]? with
  | some (.own xs) => (match xs[xs.length - 1]? with
    | some d => some (.nx (match j with
      | none => ρ.set i (.own xs.dropLast)
      | some j => (ρ.set i (.own xs.dropLast)).set j (.val d)), ω)
    | none => none)
  | _ => none
theorem sx_pop {i : Nat} {x : Str} {npos apos cpos : Pos} (hN : X.N[i]? = some x := by rfl) (hv : Vis X.env.scope x := by first | exact Or.inl rfl | exact Or.inr (Or.inl rfl) | exact Or.inr (Or.inr rfl)) (hd : (x == ("__debug__" : Str)) = false := by decide)
    (hcd : (x == ("__classdict__" : Str)) = false := by decide) (hs : swapsWith (.Call (.Attribute (.Name x npos) "pop" apos) [] [] cpos) none pos.line X.env = pure false := by rfl)
    (hbase : attributeBase (.Name x npos) "pop" X.env (eval (.Name x npos) X.env) = eval (.Name x npos) X.env := by rfl) (hline : (apos.endLine == cpos.line) = true := by rfl) :
    SX X (.Expr (.Call (.Attribute (.Name x npos) "pop" apos) [] [] cpos) pos) (tDrop (tBM0 X.K "list" rPop (tVar i))) (sPop i none) := by
  refine ⟨ps_expr (pe_bm0 PySem.F.plainAttrs_list PySem.F.slot_list_pop PySem.F.type_list_pop mt_pop (pe_var hN hv hd hcd) hbase hline) hs, ?_⟩
  intro g0 H0 g H ρ ω σ E o ω' ok st sl e k
  unfold sPop at e
  split at e
  · rename_i xs hx
    split at e
    · rename_i d ed
      cases e
      obtain ⟨oo, h1, p, vs, rfl, hp, hG, hS, h0, z, r⟩ := sl.get hx
      obtain ⟨v, hv1, rv⟩ := r.get ed
      refine ⟨_, h1, .inl ⟨rfl, vs, SqL.of hp⟩, p, vs, v, rfl, rfl, hp, by rw [r.length]; exact hv1, ?_⟩
      obtain ⟨ok2, st2, sl2⟩ := own_mut (ys := xs.dropLast) (ws := vs.dropLast) ok st sl hx h1 (by rw [List.length_dropLast]; omega) r.dropLast
      exact k σ g _ ⟨ok2, st2, sl2, .refl _⟩
    · cases e
  · cases e
theorem sx_popTo {i j : Nat} {x y : Str} {npos apos cpos ypos : Pos} (hNd : X.N.Nodup) (hij : i ≠ j := by decide) (hN : X.N[i]? = some x := by rfl) (hv : Vis X.env.scope x := by first | exact Or.inl rfl | exact Or.inr (Or.inl rfl) | exact Or.inr (Or.inr rfl)) (hd : (x == ("__debug__" : Str)) = false := by decide)
    (hcd : (x == ("__classdict__" : Str)) = false := by decide) (hj : X.N[j]? = some y := by rfl) (hx : Loc X.env.scope y := by first | exact Or.inl rfl | exact Or.inr rfl) (hs : swapsWith (.Call (.Attribute (.Name x npos) "pop" apos) [] [] cpos) (some (.Name y ypos)) pos.line X.env = pure false := by rfl) (hf : X.fn y = true ∨ X.env.scope.names.lookup y = some .local := by first | exact .inl rfl | exact .inr rfl | assumption)
    (hbase : attributeBase (.Name x npos) "pop" X.env (eval (.Name x npos) X.env) = eval (.Name x npos) X.env := by rfl) (hline : (apos.endLine == cpos.line) = true := by rfl) :
    SX X (.Assign [.Name y ypos] (.Call (.Attribute (.Name x npos) "pop" apos) [] [] cpos) pos) (tAsg (tBM0 X.K "list" rPop (tVar i)) (gName j)) (sPop i (some j)) := by
  refine ⟨ps_set hNd hj hx (pe_bm0 PySem.F.plainAttrs_list PySem.F.slot_list_pop PySem.F.type_list_pop mt_pop (pe_var hN hv hd hcd) hbase hline) hs hf, ?_⟩
  intro g0 H0 g H ρ ω σ E o ω' ok st sl e k
  unfold sPop at e
  split at e
  · rename_i xs hx
    split at e
    · rename_i d ed
      cases e
      obtain ⟨oo, h1, p, vs, rfl, hp, hG, hS, h0, z, r⟩ := sl.get hx
      obtain ⟨v, hv1, rv⟩ := r.get ed
      refine ⟨_, h1, .inl ⟨rfl, vs, SqL.of hp⟩, p, vs, v, rfl, rfl, hp, by rw [r.length]; exact hv1, ?_⟩
      obtain ⟨ok2, st2, sl2⟩ := own_mut (ys := xs.dropLast) (ws := vs.dropLast) ok st sl hx h1 (by rw [List.length_dropLast]; omega) r.dropLast
      exact k _ g _ ⟨ok2, st2, sl2.set j ⟨v, rfl, rv⟩ (fun xs z => nomatch z), .refl _⟩
    · cases e
  · cases e
/-- x[k] = e -/
def sSetIx (i : Nat) (fk fe : DE) : DS := fun ρ ω => match fe ρ ω with
  | none => none
  | some (d, ω1) => match fk ρ ω1 with
    | some (.int k, ω2) => (match ρ[i]? with
      | some (.own xs) => (match ixN xs.length k with
        | some j => some (.nx (ρ.set i (.own (xs.set j d))), ω2)
        | none => none)
      | _ => none)
    | _ => none
theorem sx_setIx {i : Nat} {x : Str} {e ek : Expr} {te tk : TE} {fe fk : DE} {npos spos : Pos} (he : EX X true e te fe) (hk : EX X b ek tk fk) (hN : X.N[i]? = some x := by rfl) (hv : Vis X.env.scope x := by first | exact Or.inl rfl | exact Or.inr (Or.inl rfl) | exact Or.inr (Or.inr rfl)) (hd : (x == ("__debug__" : Str)) = false := by decide)
    (hcd : (x == ("__classdict__" : Str)) = false := by decide) (ha : ∀ v, assign (.Subscript (.Name x npos) ek spos) X.env v = (do
      let ov ← holding [v] (eval (.Name x npos) X.env)
      let iv ← holding [v, ov] (eval ek X.env)
      standAt spos
      holding [v, ov, iv] (setItem ov iv v)
      release [v, ov, iv] []) := by intro _; rfl) (hs : swapsWithSole [.Subscript (.Name x npos) ek spos] e pos.line X.env = pure false := by rfl) (hw : swappedStores [.Subscript (.Name x npos) ek spos] e X.env = pure none := by rfl)
    (h1 : (assignEach [.Subscript (.Name x npos) ek spos] X.env).map (·.2) = [assign (.Subscript (.Name x npos) ek spos) X.env] := by rfl) :
    SX X (.Assign [.Subscript (.Name x npos) ek spos] e pos) (tAsg te (gSub (tVar i) tk rSetL)) (sSetIx i fk fe) := by
  refine ⟨ps_asg he.pe (pg_sub (pe_var hN hv hd hcd) hk.pe set_list ha) hs hw h1, ?_⟩
  intro g0 H0 g H ρ ω σ E o ω' ok st sl e kk
  unfold sSetIx at e
  split at e
  · cases e
  rename_i d ω1 e1
  split at e
  · rename_i k ω2 e2
    split at e
    · rename_i xs hx
      split at e
      · rename_i j ej
        cases e
        obtain ⟨oo, h1, p, vs, rfl, hp, hG, hS, h0, z, r⟩ := sl.get hx
        refine he.sn g0 H0 g H ρ ω σ _ d ω1 ok st sl e1 fun v g1 H1 s1 ok1 r1 => ?_
        refine ⟨_, h1, ?_⟩
        refine hk.sn g0 H0 g1 H1 ρ ω1 σ _ _ ω' ok1 (st.trans s1) (sl.step s1 ok1) e2 fun w g2 H2 s2 ok2 r2 => ?_
        have hp2 := s2.fr p _ (s1.fr p _ hp hS) (fun q => by rcases s1.nS p q with z | z; exact hS z; rw [hp] at z; cases z)
        refine ⟨p, vs, k, j, rfl, r2.intV, hp2, by rw [r.length]; exact ej, ?_⟩
        obtain ⟨ok3, st3, sl3⟩ := own_mut (ys := xs.set j d) (ws := vs.set j v) ok2 ((st.trans s1).trans s2) ((sl.step s1 ok1).step s2 ok2) hx h1 (by rw [List.length_set]; exact z) ((r.mono (s1.trans s2).ιm (s1.trans s2).Gm).set j (r1.mono s2))
        exact kk σ g2 _ ⟨ok3, st3, sl3, (s1.trans s2).le⟩
      · cases e
    · cases e
  · cases e
/-- box[k] = e, box an object of the store -/
def sSetOb (fo fk fe : DE) : DS := fun ρ ω => match fe ρ ω with
  | none => none
  | some (d, ω1) => match fo ρ ω1 with
    | none => none
    | some (x, ω2) => match obN x with
      | none => none
      | some n => match fk ρ ω2 with
        | some (.int k, ω3) => (match ω3.objs[n]? with
          | some (.lst xs) => (match ixN xs.length k with
            | some j => some (.nx ρ, ⟨ω3.live, ω3.objs.set n (.lst (xs.set j d))⟩)
            | none => none)
          | none => none)
        | _ => none
theorem sx_setOb {e eo ek : Expr} {te to tk : TE} {fe fo fk : DE} {spos : Pos} (he : EX X true e te fe) (ho : EX X b eo to fo) (hk : EX X b' ek tk fk) (ha : ∀ v, assign (.Subscript eo ek spos) X.env v = (do
      let ov ← holding [v] (eval eo X.env)
      let iv ← holding [v, ov] (eval ek X.env)
      standAt spos
      holding [v, ov, iv] (setItem ov iv v)
      release [v, ov, iv] []) := by intro _; rfl) (hs : swapsWithSole [.Subscript eo ek spos] e pos.line X.env = pure false := by rfl) (hw : swappedStores [.Subscript eo ek spos] e X.env = pure none := by rfl)
    (h1 : (assignEach [.Subscript eo ek spos] X.env).map (·.2) = [assign (.Subscript eo ek spos) X.env] := by rfl) :
    SX X (.Assign [.Subscript eo ek spos] e pos) (tAsg te (gSub to tk rSetL)) (sSetOb fo fk fe) := by
  refine ⟨ps_asg he.pe (pg_sub ho.pe hk.pe set_list ha) hs hw h1, ?_⟩
  intro g0 H0 g H ρ ω σ E o ω' ok st sl e kk
  unfold sSetOb at e
  split at e
  · cases e
  rename_i d ω1 e1
  split at e
  · cases e
  rename_i x ω2 e2
  split at e
  · cases e
  rename_i n en
  split at e
  · rename_i k ω3 e3
    split at e
    · rename_i xs hx
      split at e
      · rename_i j ej
        cases e
        have := obN_eq en
        subst this
        refine he.sn g0 H0 g H ρ ω σ _ d ω1 ok st sl e1 fun v g1 H1 s1 ok1 r1 => ?_
        refine ho.sn g0 H0 g1 H1 ρ ω1 σ _ _ ω2 ok1 (st.trans s1) (sl.step s1 ok1) e2 fun w g2 H2 s2 ok2 r2 => ?_
        refine hk.sn g0 H0 g2 H2 ρ ω2 σ _ _ ω3 ok2 ((st.trans s1).trans s2) ((sl.step s1 ok1).step s2 ok2) e3 fun y g3 H3 s3 ok3 r3 => ?_
        obtain ⟨a, ia, rfl⟩ := (r2.mono s3).ob
        obtain ⟨a', ia', vs, ha', rr⟩ := ok3.st n _ hx
        rw [ia] at ia'; cases ia'
        obtain ⟨s4, ok4⟩ := obSet ok3 hx ia (rr.set j (r1.mono (s2.trans s3)))
        refine ⟨a, vs, k, j, rfl, r3.intV, ha', by rw [rr.length]; exact ej, ?_⟩
        have s14 := ((s1.trans s2).trans s3).trans s4
        exact kk σ g3 _ ⟨ok4, st.trans s14, sl.step s14 ok4, s14.le⟩
      · cases e
    · cases e
  · cases e
/-- a list of one's own is settled: it will not be changed any more -/
def sFrz (i : Nat) (f : DS) : DS := fun ρ ω => match ρ[i]? with
  | some (.own xs) => f (ρ.set i (.val (.list xs))) ω
  | _ => none
theorem SndS.frz (i : Nat) (hf : SndS K t f) : SndS K t (sFrz i f) := by
  intro g0 H0 g H ρ ω σ E o ω' ok st sl e k
  unfold sFrz at e
  split at e
  · rename_i xs hx
    obtain ⟨oo, h1, p, vs, rfl, hp, hG, hS, h0, z, r⟩ := sl.get hx
    obtain ⟨ok2, le⟩ := settle ok hp hG hS
    have st2 := settleStep (vs := vs) st hG h0
    refine hf g0 H0 (g.add p (.lst vs)) H _ ω σ E o ω' ok2 st2 ?_ e (k.le le)
    refine ⟨by rw [List.length_set]; exact sl.len, fun j s o e1 e2 => ?_, fun j l xs' ys' q e1 e2 e3 e4 => ?_⟩
    · by_cases hj : i = j
      · subst hj
        have hi : i < ρ.length := (List.getElem?_eq_some_iff.mp hx).1
        rw [List.getElem?_set_self hi] at e1
        cases e1
        rw [h1] at e2; cases e2
        refine ⟨_, rfl, ?_⟩
        rw [Rep]
        exact ⟨p, vs, rfl, upd_same, z, r.mono le.ιm le.Gm⟩
      · rw [List.getElem?_set_ne hj] at e1
        have h := sl.at_ j s o e1 e2
        cases s with
        | un => trivial
        | val d => obtain ⟨v, ev, rv⟩ := h; exact ⟨v, ev, rv.mono le.ιm le.Gm⟩
        | own zs =>
          obtain ⟨q, us, eo, hq, hGq, hSq, h0q, zq, rq⟩ := h
          have nqp : q ≠ p := fun z => by
            subst z
            subst eo
            exact hj (sl.ap i j xs zs q hx e1 h1 e2)
          refine ⟨q, us, eo, hq, ?_, hSq, h0q, zq, rq.mono le.ιm le.Gm⟩
          rw [Gh.add]; simp only; rw [upd_ne nqp]; exact hGq
    · have n1 : i ≠ j := fun z => by
        subst z
        have hi : i < ρ.length := (List.getElem?_eq_some_iff.mp hx).1
        rw [List.getElem?_set_self hi] at e1; cases e1
      have n2 : i ≠ l := fun z => by
        subst z
        have hi : i < ρ.length := (List.getElem?_eq_some_iff.mp hx).1
        rw [List.getElem?_set_self hi] at e2; cases e2
      rw [List.getElem?_set_ne n1] at e1
      rw [List.getElem?_set_ne n2] at e2
      exact sl.ap j l xs' ys' q e1 e2 e3 e4
  · cases e
theorem SX.frz {i : Nat} (hf : SX X st t f) : SX X st t (sFrz i f) := ⟨hf.pe, hf.sn.frz i⟩

/-! ## loops -/
def loopD (g : DG) (f : DS) : List D → Ro → Wd → Option (Out × Wd)
  | [], ρ, ω => some (.nx ρ, ω)
  | d :: ds, ρ, ω => match g d ρ with
    | none => none
    | some ρ1 => match f ρ1 ω with
      | some (.nx ρ2, ω2) => loopD g f ds ρ2 ω2
      | some (.ct ρ2, ω2) => loopD g f ds ρ2 ω2
      | some (.bk ρ2, ω2) => some (.nx ρ2, ω2)
      | some (.rt d, ω2) => some (.rt d, ω2)
      | none => none
def sFor (fi : DA) (g : DG) (f : DS) : DS := fun ρ ω => match fi ρ ω with
  | none => none
  | some (ds, ω1) => loopD g f ds ρ ω1
theorem sn_for {wi : TI} {tg : TG} {tb : TS} {fi : DA} {js : List Nat} {fg : DG} {fb : DS} (hi : SndI K true wi fi) (hg : SndG K tg js fg) (hb : SndS K tb fb) : SndS K (tFor wi tg tb) (sFor fi fg fb) := by
  intro g0 H0 g H ρ ω σ E o ω' ok st sl e k
  unfold sFor at e
  split at e
  · cases e
  rename_i items ω1 e1
  refine hi g0 H0 g H ρ ω σ _ items ω1 ok st sl e1 fun J g1 H1 s1 ok1 hz hJ => ?_
  refine ⟨fun i m σ H => m = items.length - i ∧ i ≤ items.length ∧ ∃ g' ρ' ω2, SI K g0 H0 g1 g' ρ' ω2 σ H ∧ loopD fg fb (items.drop i) ρ' ω2 = some (o, ω'), ⟨_, rfl, Nat.zero_le _, g1, ρ, ω1, ⟨ok1, st.trans s1, sl.step s1 ok1, .refl _⟩, e⟩, ?_⟩
  rintro i m σ2 H2 ⟨rfl, hil, g2, ρ2, ω2, S, el⟩
  have it := hJ g2 H2 ⟨S.le, S.ok.sub⟩
  by_cases hlt : i < items.length
  · obtain ⟨d, hd⟩ : ∃ d, items[i]? = some d := ⟨_, List.getElem?_eq_getElem hlt⟩
    obtain ⟨go, hy⟩ := it.go i d hd
    rw [List.drop_eq_getElem_cons hlt] at el
    have hd' : items[i] = d := by rw [List.getElem?_eq_getElem hlt] at hd; exact Option.some.inj hd
    rw [hd'] at el
    unfold loopD at el
    refine .inr ⟨go, fun σ' H' => ∃ m', m' = items.length - (i + 1) ∧ (i + 1) ≤ items.length ∧ ∃ g' ρ' ω2, SI K g0 H0 g1 g' ρ' ω2 σ' H' ∧ loopD fg fb (items.drop (i + 1)) ρ' ω2 = some (o, ω'), fun σ' H' ⟨m', e', r'⟩ => ⟨m', by omega, e', r'⟩, fun x H3 hyld => ?_⟩
    obtain ⟨g3, s3, k3, r3⟩ := hy x H3 hyld
    have ok3 := k3 ω2 S.ok
    split at el
    · cases el
    rename_i ρ3 eg
    have st3 := S.st.trans s3
    refine hg H0 g3 H3 ρ2 σ2 d x ρ3 _ ok3.sub (S.sl.step s3 ok3) r3 eg fun σ4 sl4 _ _ => ?_
    have le3 : GLe g1 g3 := S.le.trans s3.le
    split at el
    · rename_i ρ5 ω5 eb
      exact hb g0 H0 g3 H3 ρ3 ω2 σ4 _ _ ω5 ok3 st3 sl4 eb fun σ6 g6 H6 S6 => ⟨_, rfl, hlt, g6, ρ5, ω5, ⟨S6.ok, S6.st, S6.sl, le3.trans S6.le⟩, el⟩
    · rename_i ρ5 ω5 eb
      exact hb g0 H0 g3 H3 ρ3 ω2 σ4 _ _ ω5 ok3 st3 sl4 eb fun σ6 g6 H6 S6 => ⟨_, rfl, hlt, g6, ρ5, ω5, ⟨S6.ok, S6.st, S6.sl, le3.trans S6.le⟩, el⟩
    · rename_i ρ5 ω5 eb
      cases el
      exact hb g0 H0 g3 H3 ρ3 ω2 σ4 _ _ ω' ok3 st3 sl4 eb fun σ6 g6 H6 S6 => k σ6 g6 H6 ⟨S6.ok, S6.st, S6.sl, (s1.le.trans le3).trans S6.le⟩
    · rename_i d5 ω5 eb
      cases el
      exact hb g0 H0 g3 H3 ρ3 ω2 σ4 _ _ ω' ok3 st3 sl4 eb k
    · cases el
  · have hil' : i = items.length := by omega
    subst hil'
    rw [List.drop_length] at el
    unfold loopD at el
    cases el
    exact .inl ⟨it.stop _ (Nat.le_refl _), k σ2 g2 H2 ⟨S.ok, S.st, S.sl, s1.le.trans S.le⟩⟩
theorem sx_for {tg iter : Expr} {body : List Stmt} {wi : TI} {g : TG} {tb : TS} {fi : DA} {js : List Nat} {fg : DG} {fb : DS} (hp : PassesOwn (model X.prog X.w) X.A X.env X.xe) (hc : X.calm = true) (hi : EI X true tg iter wi fi) (hg : EG X tg g js fg) (hb : SXs X body tb fb)
    (hs : ∀ x, foldedSetIterable iter X.env x = pure x := by intro _; rfl) : SX X (.For tg iter body [] pos) (tFor wi g tb) (sFor fi fg fb) := ⟨ps_for hp hc hi.pe hg.pe hb.pe hs, sn_for hi.sn hg.sn hb.sn⟩
def whileD (c : DT) (f : DS) : Nat → Ro → Wd → Option (Out × Wd)
  | 0, _, _ => none
  | n + 1, ρ, ω => match c ρ ω with
    | none => none
    | some (t, ω1) => if t = true then (match f ρ ω1 with
        | some (.nx ρ2, ω2) => whileD c f n ρ2 ω2
        | some (.ct ρ2, ω2) => whileD c f n ρ2 ω2
        | some (.bk ρ2, ω2) => some (.nx ρ2, ω2)
        | some (.rt d, ω2) => some (.rt d, ω2)
        | none => none)
      else some (.nx ρ, ω1)
/-- how often a while may turn, at most -/
def FUEL : Nat := 1000000
def sWhile (c : DT) (f : DS) : DS := fun ρ ω => whileD c f FUEL ρ ω
theorem sn_while {tc : TT} {tb : TS} {c : DT} {fb : DS} (hc : SndT K tc c) (hb : SndS K tb fb) : SndS K (tWhile tc tb) (sWhile c fb) := by
  intro g0 H0 g H ρ ω σ E o ω' ok st sl e k
  unfold sWhile at e
  refine ⟨fun m σ H => ∃ g' ρ' ω2, SI K g0 H0 g g' ρ' ω2 σ H ∧ whileD c fb m ρ' ω2 = some (o, ω'), ⟨FUEL, g, ρ, ω, ⟨ok, st, sl, .refl _⟩, e⟩, ?_⟩
  rintro m σ2 H2 ⟨g2, ρ2, ω2, S, el⟩
  cases m with
  | zero => unfold whileD at el; cases el
  | succ m =>
    unfold whileD at el
    split at el
    · cases el
    rename_i t ω3 ec
    refine hc g0 H0 g2 H2 ρ2 ω2 σ2 _ t ω3 S.ok S.st S.sl ec fun g3 H3 s3 ok3 => ?_
    have le3 := S.le.trans s3.le
    cases t with
    | true =>
      refine iteT ?_
      rw [if_pos rfl] at el
      refine ⟨fun σ' H' => ∃ g' ρ' ω2, SI K g0 H0 g g' ρ' ω2 σ' H' ∧ whileD c fb m ρ' ω2 = some (o, ω'), fun σ' H' h => ⟨m, Nat.lt_succ_self _, h⟩, ?_⟩
      have st3 := S.st.trans s3
      have sl3 := S.sl.step s3 ok3
      split at el
      · rename_i ρ5 ω5 eb
        exact hb g0 H0 g3 H3 ρ2 ω3 σ2 _ _ ω5 ok3 st3 sl3 eb fun σ6 g6 H6 S6 => ⟨g6, ρ5, ω5, ⟨S6.ok, S6.st, S6.sl, le3.trans S6.le⟩, el⟩
      · rename_i ρ5 ω5 eb
        exact hb g0 H0 g3 H3 ρ2 ω3 σ2 _ _ ω5 ok3 st3 sl3 eb fun σ6 g6 H6 S6 => ⟨g6, ρ5, ω5, ⟨S6.ok, S6.st, S6.sl, le3.trans S6.le⟩, el⟩
      · rename_i ρ5 ω5 eb
        cases el
        exact hb g0 H0 g3 H3 ρ2 ω3 σ2 _ _ ω' ok3 st3 sl3 eb fun σ6 g6 H6 S6 => k σ6 g6 H6 ⟨S6.ok, S6.st, S6.sl, le3.trans S6.le⟩
      · rename_i d5 ω5 eb
        cases el
        exact hb g0 H0 g3 H3 ρ2 ω3 σ2 _ _ ω' ok3 st3 sl3 eb k
      · cases el
    | false =>
      refine iteF ?_
      rw [if_neg Bool.false_ne_true] at el
      cases el
      exact k σ2 g3 H3 ⟨ok3, S.st.trans s3, S.sl.step s3 ok3, le3⟩
theorem sx_while {c : Expr} {body : List Stmt} {tc : TT} {tb : TS} {fc : DT} {fb : DS} (hp : PassesOwn (model X.prog X.w) X.A X.env X.xe) (hc : ET X c tc fc) (hb : SXs X body tb fb) : SX X (.While c body [] pos) (tWhile tc tb) (sWhile fc fb) := ⟨ps_while hp hc.pe hb.pe, sn_while hc.sn hb.sn⟩
end

/-! ## a def -/
def defD (m : Nat) (f : DS) (ds : List D) (ω : Wd) : Option (D × Wd) := match f (ds.map SV.val ++ List.replicate (m - ds.length) .un) ω with
  | some (.rt d, ω') => some (d, ω')
  | some (.nx _, ω') => some (.none, ω')
  | _ => none
theorem fn_den {P : Program} {w : World} {K : PySem.W.Frag} {mg : Str → Option Value} {base : Heap} {x qual : Str} {st : Stmt} {f : Addr} {fd : FuncData} {N ps : List Str} {k : Nat} {fb : DS} (F : Fun K x qual st f fd) (S : FnScope N ps (defScope st))
    (body : ∀ (cdv : Value) (A : Around) (outer : List PySem.Env) (s : Shared) (H : Hp) (E : XK), Room k (A.deeper (PyProof.Rows.envOfC qual (defScope st) s.heap.objs.size f cdv)) → ∃ t, SXs (cxOf CX0 P w K mg base N qual (defScope st) f cdv A outer s H E).nox (defBody st) t fb) :
    FnOk P w K mg base CX0 (k + 1) f fd ps (spD K ps.length (defD N.length fb)) := by
  refine F.ok S (fun vs H Q E h => ?_) (fun cdv A outer s H vs Q E hr h => ?_)
  · obtain ⟨g, ω, ds, d, ω', h1, _⟩ := h
    exact h1
  · obtain ⟨g, ω, ds, d, ω', h1, ok, r, e, q⟩ := h
    obtain ⟨t, B⟩ := body cdv A outer s H E hr
    refine ⟨t, B.pe, ?_⟩
    have hl := r.length
    have sl : Slots K H g H (ds.map SV.val ++ List.replicate (N.length - ds.length) .un) (L2.start N vs) := by
      refine ⟨?_, fun i s o e1 e2 => ?_, fun i j xs ys p e1 e2 e3 e4 => ?_⟩
      · unfold L2.start; simp [hl]
      · by_cases hi : i < ds.length
        · rw [List.getElem?_append_left (by simpa using hi)] at e1
          rw [List.getElem?_map] at e1
          obtain ⟨d1, hd, rfl⟩ := Option.map_eq_some_iff.mp e1
          obtain ⟨v, hv, rv⟩ := r.get hd
          unfold L2.start at e2
          rw [List.getElem?_append_left (by simp; omega), List.getElem?_map, hv] at e2
          cases e2
          exact ⟨v, rfl, rv⟩
        · rw [List.getElem?_append_right (by simp; omega)] at e1
          have := List.getElem?_replicate (n := N.length - ds.length) (a := SV.un) (i := i - (ds.map SV.val).length)
          rw [e1] at this
          split at this
          · cases this; trivial
          · cases this
      · by_cases hi : i < ds.length
        · rw [List.getElem?_append_left (by simpa using hi), List.getElem?_map] at e1
          obtain ⟨d1, _, z⟩ := Option.map_eq_some_iff.mp e1
          cases z
        · rw [List.getElem?_append_right (by simp; omega)] at e1
          have := List.getElem?_replicate (n := N.length - ds.length) (a := SV.un) (i := i - (ds.map SV.val).length)
          rw [e1] at this
          split at this <;> cases this
    unfold defD at e
    split at e
    · rename_i d1 ω1 e1
      cases e
      exact B.sn g H g H _ ω _ _ _ ω' ok (.refl _ _) sl e1 fun v g' H' ok' st' r' => q v g' H' st' ok' r'
    · rename_i ρ1 ω1 e1
      cases e
      exact B.sn g H g H _ ω _ _ _ ω' ok (.refl _ _) sl e1 fun σ' g' H' S' => q .non g' H' S'.st S'.ok (by rw [Rep])
    · cases e
end Dn
end

section
namespace Dn
open PySem PySem.Spec L2
section
variable {X : Cx} {K : PySem.W.Frag} {b b' : Bool}
/-! ## a list or a tuple is walked, whichever it is -/
def iSeq (K : PySem.W.Frag) (tl : TE) : TI := fun σ H R => tl σ H fun x H1 => ∃ a, x = .ref a ∧ (((∃ xs, H1 a = some (.lst xs)) ∧ R (Itl K a) H1) ∨ ((∃ xs, SqT K H1 a xs) ∧ R (Itt K a) H1))
theorem pi_seq {tg l : Expr} {tl : TE} (hl : PE X l tl) : PI X tg l (iSeq X.K tl) := by
  constructor
  intro pins s σ H R I h
  refine thn (hl.run pins s σ H _ I h) ?_
  rintro v s1 ⟨x, H1, I1, r1, a, rfl, q⟩
  cases r1
  have fresh : ∀ c ∈ [s1.heap.objs.size], FpOk X pins H1 c := by
    intro c hc
    rw [List.mem_singleton.mp hc]
    exact I1.fpOk (Nat.le_refl _) (I1.hok.fresh (Nat.le_refl _))
  rcases q with ⟨⟨xs, hx⟩, q⟩ | ⟨⟨xs, hx⟩, q⟩
  · obtain ⟨its, rv, pl, hz⟩ := I1.list (SqL.of hx)
    refine wpAny_pyIter_list pl.isList ?_
    exact ⟨_, _, _, _, H1, rfl, I1.kept (t' := s1.toks) (fun c o eo => Heap.get?_push_of_some _ eo), turn_list a _, ⟨_, Heap.get?_push_size _ rfl, rfl, rfl⟩, fresh, q⟩
  · obtain ⟨its, rv, pt, hz⟩ := I1.tuple hx
    refine wpAny_pyIter_tuple (items := its.toArray) pt ?_
    exact ⟨_, _, _, _, H1, rfl, I1.kept (t' := s1.toks) (fun c o eo => Heap.get?_push_of_some _ eo), turn_tuple a _, ⟨_, Heap.get?_push_size _ rfl, rfl, rfl⟩, fresh, q⟩
def iSq (f : DE) : DA := fun ρ ω => match f ρ ω with
  | some (.list ds, ω1) => some (ds, ω1)
  | some (.tuple ds, ω1) => some (ds, ω1)
  | _ => none
theorem sni_seq {t : TE} {f : DE} (h : Snd K true t f) : SndI K b (iSeq K t) (iSq f) := by
  intro g0 H0 g H ρ ω σ R ds ω' ok st sl e k
  unfold iSq at e
  split at e
  · rename_i ds1 ω1 e1
    cases e
    refine h g0 H0 g H ρ ω σ _ _ ω' ok st sl e1 fun v g1 H1 s1 ok1 r1 => ?_
    have r1' : Rep K g1.ι g1.G (.list ds) v := r1
    rw [Rep] at r1'
    obtain ⟨a, vs, rfl, q, z, r⟩ := r1'
    refine ⟨a, rfl, .inl ⟨⟨vs, ok1.sub _ _ q⟩, k _ g1 H1 s1 ok1 (by rw [← r.length]; exact z) fun g2 H2 l => ?_⟩⟩
    cases b with
    | true => exact itS_lst (l.2 _ _ (l.1.Gm _ _ q)) (r.mono l.1.ιm l.1.Gm)
    | false =>
      have l : Step g1 H1 g2 H2 := l
      exact itS_lst (l.fr _ _ (ok1.sub _ _ q) (ok1.nS _ _ q)) (r.mono l.ιm l.Gm)
  · rename_i ds1 ω1 e1
    cases e
    refine h g0 H0 g H ρ ω σ _ _ ω' ok st sl e1 fun v g1 H1 s1 ok1 r1 => ?_
    have r1' : Rep K g1.ι g1.G (.tuple ds) v := r1
    rw [Rep] at r1'
    obtain ⟨a, vs, rfl, q, z, r⟩ := r1'
    refine ⟨a, rfl, .inr ⟨⟨vs, SqT.mono ok1.sub q⟩, k _ g1 H1 s1 ok1 (by rw [← r.length]; exact z) fun g2 H2 l => ?_⟩⟩
    cases b with
    | true => exact itS_tup (SqT.mono (fun x o h => l.2 _ _ (l.1.Gm _ _ h)) q) (r.mono l.1.ιm l.1.Gm)
    | false =>
      have l : Step g1 H1 g2 H2 := l
      exact itS_tup (SqT.mono (fun x o h => l.fr _ _ (ok1.sub _ _ h) (ok1.nS _ _ h)) q) (r.mono l.ιm l.Gm)
  · cases e
theorem ei_seq {tg e : Expr} {t : TE} {f : DE} (h : EX X true e t f) : EI X b tg e (iSeq X.K t) (iSq f) := ⟨pi_seq h.pe, sni_seq h.sn⟩

/-! ## range with a step -/
def rg3D (i c : Int) (n : Nat) : List D := (List.range n).map fun (k : Nat) => .int (i + k * c)
def rg3N (i j c : Int) : Nat := (Builtin.Range.rangeSize i j c).toNat
theorem rg3Ok_ex : ∃ f : Int → Int → Int → Bool, ∀ i j c, f i j c = (decide (c ≠ 0) && decide (c.natAbs < 1073741824) && Builtin.Range.small i j c && decide (0 ≤ Builtin.Range.rangeSize i j c) && decide (rg3N i j c ≤ 16777216)) := ⟨_, fun _ _ _ => rfl⟩
noncomputable def rg3Ok : Int → Int → Int → Bool := Classical.choose rg3Ok_ex
theorem rg3Ok_eq (i j c : Int) : rg3Ok i j c = (decide (c ≠ 0) && decide (c.natAbs < 1073741824) && Builtin.Range.small i j c && decide (0 ≤ Builtin.Range.rangeSize i j c) && decide (rg3N i j c ≤ 16777216)) := Classical.choose_spec rg3Ok_ex i j c
noncomputable def iRange3 (a : DA) : DA := fun ρ ω => match a ρ ω with
  | some ([.int i, .int j, .int c], ω1) => if rg3Ok i j c = true then some (rg3D i c (rg3N i j c), ω1) else none
  | _ => none
theorem itS_rng3 {g : Gh} {H : Hp} {i c : Int} {n : Nat} : ItS K (Itc i c n) (rg3D i c n) g H where
  stop k hk := by unfold rg3D at hk; rw [List.length_map, List.length_range] at hk; exact hk
  go k d e := by
    have hk : k < n := by
      have := (List.getElem?_eq_some_iff.mp e).1
      unfold rg3D at this
      rw [List.length_map, List.length_range] at this; exact this
    refine ⟨hk, fun x H2 y => ?_⟩
    obtain ⟨rfl, rfl⟩ := y
    refine ⟨g, .refl _ _, fun _ h => h, ?_⟩
    have e2 : d = .int (i + k * c) := by
      unfold rg3D at e
      rw [List.getElem?_map, List.getElem?_range hk] at e
      exact (Option.some.inj e).symm
    subst e2
    rw [Rep]
theorem sni_rng3 {ta : TA} {f : DA} (h : SndA K b' ta f) : SndI K b (iRng3 ta) (iRange3 f) := by
  intro g0 H0 g H ρ ω σ R ds ω' ok st sl e k
  unfold iRange3 at e
  split at e
  · rename_i i j c ω1 e1
    split at e
    · rename_i hr
      cases e
      refine h g0 H0 g H ρ ω σ _ _ ω' ok st sl e1 fun vs g1 H1 s1 ok1 r1 => ?_
      obtain ⟨v, ws, rfl, r, t⟩ := RepL.inv r1
      obtain ⟨v2, v3, rfl, r2, r3⟩ := RBL.two (b := b') (g0 := g0) (H0 := H0) (g := g1) (H := H1) t
      simp only [rg3Ok_eq, Bool.and_eq_true, decide_eq_true_eq] at hr
      obtain ⟨⟨⟨⟨h1, h2⟩, h3⟩, h4⟩, h5⟩ := hr
      refine ⟨i, j, c, rg3N i j c, by rw [show v = .int i from RB.intV r, show v2 = .int j from r2.intV, show v3 = .int c from r3.intV], ⟨h1, h2, h3, ?_⟩, k _ g1 H1 s1 ok1 ?_ fun g2 H2 _ => itS_rng3⟩
      · unfold rg3N; omega
      · unfold rg3D; rw [List.length_map, List.length_range, sizeLine_eq]; exact h5
    · cases e
  · cases e
theorem ei_rng3 {tg a c d : Expr} {ta : TA} {f : DA} {p pos : Pos} (hm : X.mg "range" = none) (h : EA X b' [a, c, d] ta f) (hg : Gl X "range" := by rfl) (hs : starEach [a, c, d] X.env = (false, eval a X.env) :: starEach [c, d] X.env := by rfl) (hs2 : (backTo pos (starEach [c, d] X.env)).any (·.1) = false := by rfl) : EI X b tg (.Call (.Name "range" p) [a, c, d] [] pos) (iRng3 ta) (iRange3 f) :=
  ⟨pi_range3 hg hm h.pe hs hs2, sni_rng3 h.sn⟩
/-! ## comprehensions of two clauses -/
/-- the heap without one address -/
def rm (P : Addr) (H : Hp) : Hp := fun a => if a = P then none else H a
theorem rm_ne {P a : Addr} {H : Hp} (h : a ≠ P) : rm P H a = H a := by unfold rm; rw [if_neg h]
theorem rm_same {P : Addr} {H : Hp} : rm P H P = none := by unfold rm; rw [if_pos rfl]
theorem rm_some {P a : Addr} {H : Hp} {o : HO} (h : rm P H a = some o) : a ≠ P ∧ H a = some o := by
  by_cases hap : a = P
  · subst hap; rw [rm_same] at h; cases h
  · rw [rm_ne hap] at h; exact ⟨hap, h⟩
theorem GOk.rm {g : Gh} {H : Hp} {ω : Wd} {P : Addr} (ok : GOk K g H ω) (hG : g.G P = none) (hS : ¬ g.S P) : GOk K g (rm P H) ω := by
  have ne : ∀ a o, g.G a = some o → a ≠ P := fun a o h z => by subst z; rw [hG] at h; cases h
  refine ⟨fun a o h => by rw [rm_ne (ne a o h)]; exact ok.sub a o h, ok.seq, ok.nS, ok.inj, ok.inS, fun n o e => ?_, fun a h => ?_, ok.lv⟩
  · obtain ⟨a, ia, h⟩ := ok.st n o e
    have hn : n < ω.objs.length := (List.getElem?_eq_some_iff.mp e).1
    have nap : a ≠ P := fun z => by subst z; exact hS (ok.inS n a hn ia)
    exact ⟨a, ia, h.mono (fun _ _ h => h) (fun _ _ h => h) (rm_ne nap)⟩
  · obtain ⟨u, e, t⟩ := ok.sl a h
    exact ⟨u, by rw [rm_ne (fun z => by subst z; exact hS h)]; exact e, t⟩
theorem Step.rm {g g' : Gh} {H H' : Hp} {P : Addr} (s : Step g H g' H') : Step g (rm P H) g' (Dn.rm P H') := by
  refine ⟨s.ιm, s.Gm, s.Sm, fun a o h hs => ?_, fun a h => ?_, fun a h => ?_, fun a vs h => ?_, s.lv, s.ιl⟩
  · obtain ⟨n, h⟩ := rm_some h
    rw [rm_ne n]; exact s.fr a o h hs
  · rcases s.nS a h with q | q
    · exact .inl q
    · refine .inr ?_
      by_cases hap : a = P
      · subst hap; exact rm_same
      · rw [rm_ne hap]; exact q
  · by_cases hap : a = P
    · subst hap; exact rm_same
    · rw [rm_ne hap] at h ⊢; exact s.al a h
  · rcases s.nw a vs h with q | q
    · exact .inl q
    · refine .inr ?_
      by_cases hap : a = P
      · subst hap; exact rm_same
      · rw [rm_ne hap]; exact q
theorem Slots.rm {H0 : Hp} {g : Gh} {H : Hp} {ρ : Ro} {σ : L2.St} {P : Addr} (h : Slots K H0 g H ρ σ) (hP : ∀ (i : Nat) (xs : List D), ρ[i]? = some (.own xs) → σ[i]? ≠ some (some (.ref P))) : Slots K H0 g (rm P H) ρ σ := by
  refine ⟨h.len, fun i s o e1 e2 => ?_, h.ap⟩
  have q := h.at_ i s o e1 e2
  cases s with
  | un => trivial
  | val d => exact q
  | own xs =>
    obtain ⟨p, vs, rfl, hp, r⟩ := q
    have np : p ≠ P := fun z => by subst z; exact hP i xs e1 e2
    exact ⟨p, vs, rfl, by rw [rm_ne np]; exact hp, r⟩
theorem Slots.unrm {H0 : Hp} {g : Gh} {H : Hp} {ρ : Ro} {σ : L2.St} {P : Addr} (h : Slots K H0 g (Dn.rm P H) ρ σ) : Slots K H0 g H ρ σ := by
  refine ⟨h.len, fun i s o e1 e2 => ?_, h.ap⟩
  have q := h.at_ i s o e1 e2
  cases s with
  | un => trivial
  | val d => exact q
  | own xs =>
    obtain ⟨p, vs, rfl, hp, r⟩ := q
    exact ⟨p, vs, rfl, (rm_some hp).2, r⟩
def lc2D (fg : DG) (ft : DT) (fi1 : DA) (fg1 : DG) (ft1 : DT) (fe : DE) (vs1 : List Nat) (ρ : Ro) : List D → Wd → Option (List D × Wd)
  | [], ω => some ([], ω)
  | d :: ds, ω => match fg d ρ with
    | none => none
    | some ρ1 => match ft ρ1 ω with
      | none => none
      | some (c, ω1) => if c = true then (match fi1 ρ1 ω1 with
          | none => none
          | some (items, ω2) => match lcD fg1 ft1 fe (wipeR ρ1 vs1) items ω2 with
            | none => none
            | some (xs, ω3) => match lc2D fg ft fi1 fg1 ft1 fe vs1 ρ ds ω3 with
              | none => none
              | some (ys, ω4) => some (xs ++ ys, ω4))
        else lc2D fg ft fi1 fg1 ft1 fe vs1 ρ ds ω1
def eLc2N (fi : DA) (fg : DG) (ft : DT) (fi1 : DA) (fg1 : DG) (ft1 : DT) (fe : DE) (vs vs1 : List Nat) : DA := fun ρ ω => match fi ρ ω with
  | none => none
  | some (ds, ω1) => match lc2D fg ft fi1 fg1 ft1 fe vs1 (wipeR ρ vs) ds ω1 with
    | none => none
    | some (xs, ω2) => if xs.length ≤ sizeLine then some (xs, ω2) else none
theorem snn_lc2 {wi wi1 : TI} {tg tg1 : TG} {tt tt1 : TT} {te : TE} {fi fi1 : DA} {fg fg1 : DG} {ft ft1 : DT} {fe : DE} {js js1 vs vs1 : List Nat} (hi : SndI K b wi fi) (hg : SndG K tg js fg) (hj : ∀ j ∈ js, j ∈ vs) (ht : SndT K tt ft)
    (hi1 : SndI K true wi1 fi1) (hg1 : SndG K tg1 js1 fg1) (hj1 : ∀ j ∈ js1, j ∈ vs1) (ht1 : SndT K tt1 ft1) (he : Snd K true te fe) : SndN K (tLc2 wi tg tt wi1 tg1 tt1 te vs vs1) (eLc2N fi fg ft fi1 fg1 ft1 fe vs vs1) := by
  intro g0 H0 g H ρ ω σ Q ds ω' ok st sl e k
  unfold eLc2N at e
  split at e
  · cases e
  rename_i items ω1 e1
  split at e
  · cases e
  rename_i res ω2 e2
  split at e
  · rename_i hres
    cases e
    refine hi g0 H0 g H ρ ω σ _ items ω1 ok st sl e1 fun J g1 H1 s1 ok1 hz hJ => ?_
    intro P hP
    -- the state at a turn of the outer loop
    let St1 : Nat → Hp → Prop := fun i H2 => ∃ g2 ω2 acc accD rest, Step g1 H1 g2 H2 ∧ GOk K g2 H2 ω2 ∧ H2 P = some (.lst acc) ∧ g2.G P = none ∧ ¬ g2.S P ∧ RepL K g2.ι g2.G accD acc ∧ lc2D fg ft fi1 fg1 ft1 fe vs1 (wipeR ρ vs) (items.drop i) ω2 = some (rest, ω') ∧ accD ++ rest = ds
    refine ⟨fun i m H2 => m = items.length - i ∧ i ≤ items.length ∧ St1 i H2, ?_, ?_⟩
    · obtain ⟨s2, ok2⟩ := allocOwn ok1 hP (o := .lst [])
      have nG : g1.G P = none := by
        cases q : g1.G P with
        | none => rfl
        | some u => rw [ok1.sub P u q] at hP; cases hP
      have nS : ¬ g1.S P := fun q => by obtain ⟨u, e, _⟩ := ok1.sl P q; rw [hP] at e; cases e
      exact ⟨_, rfl, Nat.zero_le _, g1, ω1, [], [], ds, s2, ok2, upd_same, nG, nS, .nil, e2, rfl⟩
    · rintro i m H2 ⟨rfl, hil, g2, ω2, acc, accD, rest, s2, ok2, hP2, hG2, hS2, hacc, hrest, happ⟩
      have it := hJ g2 H2 (Later.step s2 ok2)
      by_cases hlt : i < items.length
      · obtain ⟨d, hd⟩ : ∃ d, items[i]? = some d := ⟨_, List.getElem?_eq_getElem hlt⟩
        obtain ⟨go, hy⟩ := it.go i d hd
        rw [List.drop_eq_getElem_cons hlt] at hrest
        have hd' : items[i] = d := by rw [List.getElem?_eq_getElem hlt] at hd; exact Option.some.inj hd
        rw [hd'] at hrest
        unfold lc2D at hrest
        refine .inr ⟨go, fun H' => ∃ m', m' = items.length - (i + 1) ∧ (i + 1) ≤ items.length ∧ St1 (i + 1) H', fun H' ⟨m', e', r'⟩ => ⟨m', by omega, e', r'⟩, fun x H3 hyld => ?_⟩
        obtain ⟨g3, s3, k3, r3⟩ := hy x H3 hyld
        have ok3 := k3 ω2 ok2
        split at hrest
        · cases hrest
        rename_i ρ1 eg
        have sall : Step g H g3 H3 := (s1.trans s2).trans s3
        have sl3 : Slots K H0 g3 H3 ρ σ := sl.step sall ok3
        refine hg H0 g3 H3 _ _ d x ρ1 _ ok3.sub (sl3.wipe vs) r3 eg fun σ4 sl4 w4 own4 => ⟨?_, ?_⟩
        · rw [w4 vs hj, wipe_wipe]
        split at hrest
        · cases hrest
        rename_i c ω4 et
        refine ht g0 H0 g3 H3 ρ1 ω2 σ4 _ c ω4 ok3 (st.trans sall) sl4 et fun g5 H5 s5 ok5 => ?_
        obtain ⟨hP3, hG3, hS3⟩ := own_step hP2 hG2 hS2 s3 ok3
        obtain ⟨hP5, hG5, hS5⟩ := own_step hP3 hG3 hS3 s5 ok5
        cases c with
        | false =>
          refine iteF ?_
          rw [if_neg Bool.false_ne_true] at hrest
          exact ⟨_, rfl, hlt, g5, ω4, acc, accD, rest, (s2.trans s3).trans s5, ok5, hP5, hG5, hS5, hacc.mono (s3.trans s5).ιm (s3.trans s5).Gm, hrest, happ⟩
        | true =>
          refine iteT ?_
          rw [if_pos rfl] at hrest
          split at hrest
          · cases hrest
          rename_i its2 ω6 ei
          split at hrest
          · cases hrest
          rename_i xs ω7 ex
          split at hrest
          · cases hrest
          rename_i ys ω8 ey
          cases hrest
          have sall5 : Step g H g5 H5 := sall.trans s5
          have sl5 := sl4.step s5 ok5
          refine hi1 g0 H0 g5 H5 ρ1 ω4 σ4 _ its2 ω6 ok5 (st.trans sall5) sl5 ei fun J1 g6 H6 s6 ok6 hz6 hJ6 => ?_
          obtain ⟨hP6, hG6, hS6⟩ := own_step hP5 hG5 hS5 s6 ok6
          have s26 : Step g1 H1 g6 H6 := ((s2.trans s3).trans s5).trans s6
          have hacc6 := hacc.mono ((s3.trans s5).trans s6).ιm ((s3.trans s5).trans s6).Gm
          have sl6 : Slots K H0 g6 H6 ρ1 σ4 := sl5.step s6 ok6
          -- H6 without the list that grows: what stood at the inner loop's beginning
          have nP : ∀ (l : Nat) (zs : List D), ρ1[l]? = some (.own zs) → σ4[l]? ≠ some (some (.ref P)) := fun l zs h1 h2 => by
            obtain ⟨h3, h4⟩ := own4 l zs h1
            have h5 := (sl.step s1 ok1).wipe vs
            rw [h4] at h2
            obtain ⟨q, us, eq, hq, _⟩ := h5.at_ l _ _ h3 h2
            cases eq
            rw [hP] at hq; cases hq
          have slr : Slots K H0 g6 (rm P H6) ρ1 σ4 := sl6.rm nP
          refine ⟨fun j m H7 => m = its2.length - j ∧ j ≤ its2.length ∧ ∃ g7 ω7' acc7 accD7 rest7, Step g1 H1 g7 H7 ∧ Step g6 (rm P H6) g7 (rm P H7) ∧ GOk K g7 H7 ω7' ∧ H7 P = some (.lst acc7) ∧ g7.G P = none ∧ ¬ g7.S P ∧ RepL K g7.ι g7.G accD7 acc7 ∧ lcD fg1 ft1 fe (wipeR ρ1 vs1) (its2.drop j) ω7' = some (rest7, ω7) ∧ accD7 ++ rest7 = accD ++ xs, ?_, ?_⟩
          · exact ⟨_, rfl, Nat.zero_le _, g6, ω6, acc, accD, xs, s26, .refl _ _, ok6, hP6, hG6, hS6, hacc6, ex, rfl⟩
          · rintro j m H7 ⟨rfl, hjl, g7, ω7', acc7, accD7, rest7, s7, s67, ok7, hP7, hG7, hS7, hacc7, hr7, happ7⟩
            have it7 := hJ6 g7 H7 ⟨s67.le, ok7.sub⟩
            have sl7 : Slots K H0 g7 H7 ρ1 σ4 := (slr.step s67 (ok7.rm hG7 hS7)).unrm
            by_cases hlt7 : j < its2.length
            · obtain ⟨d7, hd7⟩ : ∃ d, its2[j]? = some d := ⟨_, List.getElem?_eq_getElem hlt7⟩
              obtain ⟨go7, hy7⟩ := it7.go j d7 hd7
              rw [List.drop_eq_getElem_cons hlt7] at hr7
              have hd7' : its2[j] = d7 := by rw [List.getElem?_eq_getElem hlt7] at hd7; exact Option.some.inj hd7
              rw [hd7'] at hr7
              unfold lcD at hr7
              refine .inr ⟨go7, fun H8 => ∃ m', m' = its2.length - (j + 1) ∧ (j + 1) ≤ its2.length ∧ ∃ g7 ω7' acc7 accD7 rest7, Step g1 H1 g7 H8 ∧ Step g6 (rm P H6) g7 (rm P H8) ∧ GOk K g7 H8 ω7' ∧ H8 P = some (.lst acc7) ∧ g7.G P = none ∧ ¬ g7.S P ∧ RepL K g7.ι g7.G accD7 acc7 ∧ lcD fg1 ft1 fe (wipeR ρ1 vs1) (its2.drop (j + 1)) ω7' = some (rest7, ω7) ∧ accD7 ++ rest7 = accD ++ xs,
                fun H' ⟨m', e', r'⟩ => ⟨m', by omega, e', r'⟩, fun x8 H8 hy8 => ?_⟩
              obtain ⟨g8, s8, k8, r8⟩ := hy7 x8 H8 hy8
              have ok8 := k8 ω7' ok7
              split at hr7
              · cases hr7
              rename_i ρ9 eg9
              have sl8 : Slots K H0 g8 H8 ρ1 σ4 := sl7.step s8 ok8
              refine hg1 H0 g8 H8 _ _ d7 x8 ρ9 _ ok8.sub (sl8.wipe vs1) r8 eg9 fun σ9 sl9 w9 _ => ⟨?_, ?_⟩
              · rw [w9 vs1 hj1, wipe_wipe]
              split at hr7
              · cases hr7
              rename_i c9 ω9 et9
              have st8 : Step g0 H0 g8 H8 := (st.trans s1).trans (s7.trans s8)
              refine ht1 g0 H0 g8 H8 ρ9 ω7' σ9 _ c9 ω9 ok8 st8 sl9 et9 fun g10 H10 s10 ok10 => ?_
              obtain ⟨hP8, hG8, hS8⟩ := own_step hP7 hG7 hS7 s8 ok8
              obtain ⟨hP10, hG10, hS10⟩ := own_step hP8 hG8 hS8 s10 ok10
              have sA : Step g7 H7 g10 H10 := s8.trans s10
              cases c9 with
              | false =>
                refine iteF ?_
                rw [if_neg Bool.false_ne_true] at hr7
                exact ⟨_, rfl, hlt7, g10, ω9, acc7, accD7, rest7, s7.trans sA, s67.trans sA.rm, ok10, hP10, hG10, hS10, hacc7.mono sA.ιm sA.Gm, hr7, happ7⟩
              | true =>
                refine iteT ?_
                rw [if_pos rfl] at hr7
                split at hr7
                · cases hr7
                rename_i y11 ω11 ee
                split at hr7
                · cases hr7
                rename_i ys11 ω12 er
                cases hr7
                refine he g0 H0 g10 H10 ρ9 ω9 σ9 _ y11 ω11 ok10 (st8.trans s10) (sl9.step s10 ok10) ee fun v11 g11 H11 s11 ok11 r11 => ?_
                obtain ⟨hP11, hG11, hS11⟩ := own_step hP10 hG10 hS10 s11 ok11
                have sB : Step g7 H7 g11 H11 := sA.trans s11
                have hlen : acc7.length < sizeLine := by
                  have h1 : accD7.length + (ys11.length + 1) = (accD ++ xs).length := by rw [← happ7, List.length_append]; rfl
                  have h2 : (accD ++ xs).length ≤ ds.length := by rw [← happ, List.length_append, List.length_append, List.length_append]; omega
                  have h3 := hacc7.length
                  omega
                have eqrm : ∀ u, rm P (upd H11 P u) = rm P H11 := fun u => by
                  funext a
                  by_cases hap : a = P
                  · subst hap; rw [rm_same, rm_same]
                  · rw [rm_ne hap, rm_ne hap, upd_ne hap]
                refine ⟨acc7, hP11, hlen, _, rfl, hlt7, g11, ω11, acc7 ++ [v11], accD7 ++ [y11], ys11, mutStep (s7.trans sB) hP, ?_, mutOk ok11 hP11 hG11 hS11, upd_same, hG11, hS11, (hacc7.mono sB.ιm sB.Gm).append (.cons r11 .nil), er, ?_⟩
                · rw [eqrm]; exact s67.trans sB.rm
                · rw [← happ7, List.append_assoc]; rfl
            · have hjl' : j = its2.length := by omega
              subst hjl'
              rw [List.drop_length] at hr7
              unfold lcD at hr7
              cases hr7
              rw [List.append_nil] at happ7
              subst happ7
              exact .inl ⟨it7.stop _ (Nat.le_refl _), _, rfl, hlt, g7, _, acc7, accD ++ xs, ys, s7, ok7, hP7, hG7, hS7, hacc7, ey, by rw [← happ, List.append_assoc]⟩
      · have hil' : i = items.length := by omega
        subst hil'
        rw [List.drop_length] at hrest
        unfold lc2D at hrest
        cases hrest
        rw [List.append_nil] at happ
        subst happ
        exact .inl ⟨it.stop _ (Nat.le_refl _), k P acc g2 H2 (s1.trans s2) ok2 (s1.al P hP) hP2 hG2 hS2 (by rw [hacc.length]; exact hres) hacc⟩
  · cases e
end
end Dn
end

section
namespace Dn
open PySem PySem.Spec L2
section
variable {X : Cx} {K : PySem.W.Frag} {b b' : Bool}
theorem snd_ofN {t : TE} {f : DA} (h : SndN K t f) : Snd K true t (eOfN f) := by
  intro g0 H0 g H ρ ω σ Q d ω' ok st sl e k
  unfold eOfN at e
  split at e
  · cases e
  rename_i ds ω1 e1
  cases e
  refine h g0 H0 g H ρ ω σ Q ds ω' ok st sl e1 fun p vs g' H' s' ok' h1 h2 h3 h4 h5 h6 => ?_
  obtain ⟨ok2, le⟩ := settle ok' h2 h3 h4
  refine k _ _ H' (settleStep s' h3 h1) ok2 ?_
  show Rep K (g'.add p (.lst vs)).ι (g'.add p (.lst vs)).G (.list ds) (.ref p)
  rw [Rep]
  exact ⟨p, vs, rfl, upd_same, h5, h6.mono le.ιm le.Gm⟩
/-- y = [.. for ..], the list is not changed any more -/
theorem sx_lcV {i : Nat} {y : Str} {py : Pos} {elt tg iter : Expr} {ifs : List Expr} {scope : Scope} {own : List (Str × Nat)} {pos spos : Pos} {wi : TI} {g : TG} {tt : TT} {te : TE} {fi : DA} {fg : DG} {ft : DT} {fe : DE} {js : List Nat} (hc : X.calm = true) (hN : X.N.Nodup) (hi : EI X b tg iter wi fi) (ok : BlkOk X.N X.env.scope scope own)
    (hg : ∀ (s : Shared) (H : Hp) (C : Addr) (cl : List (Str × Addr)) (fp : List Addr), EG (X.blk s H scope (compEnvC scope cl C X.env) fp) tg g js fg)
    (ht : ∀ (s : Shared) (H : Hp) (C : Addr) (cl : List (Str × Addr)) (fp : List Addr), ETs (X.blk s H scope (compEnvC scope cl C X.env) fp) ifs tt ft)
    (he : ∀ (s : Shared) (H : Hp) (C : Addr) (cl : List (Str × Addr)) (fp : List Addr), EX (X.blk s H scope (compEnvC scope cl C X.env) fp) true elt te fe)
    (hy : X.N[i]? = some y := by rfl) (hyl : X.env.scope.names.lookup y = some .local := by rfl) (hl : (py.line == pos.line) = true := by rfl) (hk : X.env.scope.kind = .function := by rfl) (ha : (scope.names.any fun (n, k) => n == y && (k == .local || k == .cell)) = false := by decide +kernel)
    (hj : ∀ j ∈ js, j ∈ own.map (·.2) := by decide) (hs : ∀ x, foldedSetIterable iter X.env x = pure x := by intro _; rfl) :
    SX X (.Assign [.Name y py] (.ListComp elt [⟨tg, iter, ifs, 0⟩] scope pos) spos) (tAsg (tLc wi g tt te (own.map (·.2))) (gName i)) (sSet i (eOfN (eLcN fi fg ft fe (own.map (·.2))))) := by
  refine ⟨ps_setLc hc hN hy hyl (sw_true hk hyl hl ha) hi.pe ok (fun s H C cl fp => (hg s H C cl fp).pe) (fun s H C cl fp => (ht s H C cl fp).pe) (fun s H C cl fp => (he s H C cl fp).pe) hs, ?_⟩
  refine sn_set (snd_ofN ?_)
  intro g0 H0 gh H ρ ω σ Q ds ω' ok' st sl e k
  exact lc_sound hi.sn (hg X.s_0 X.H_0 0 [] []).sn hj (ht X.s_0 X.H_0 0 [] []).sn (he X.s_0 X.H_0 0 [] []).sn ok' st sl e k
theorem en_lc2 {elt tg iter tg1 iter1 : Expr} {ifs ifs1 : List Expr} {scope : Scope} {own : List (Str × Nat)} {pos : Pos} {wi wi1 : TI} {g g1 : TG} {tt tt1 : TT} {te : TE} {fi fi1 : DA} {fg fg1 : DG} {ft ft1 : DT} {fe : DE} {js js1 : List Nat} {vs1 : List Nat} (hc : X.calm = true) (hN : X.N.Nodup) (hi : EI X b tg iter wi fi) (ok : BlkOk X.N X.env.scope scope own)
    (hg : ∀ (s : Shared) (H : Hp) (C : Addr) (cl : List (Str × Addr)) (fp : List Addr), EG (X.blk s H scope (compEnvC scope cl C X.env) fp) tg g js fg)
    (ht : ∀ (s : Shared) (H : Hp) (C : Addr) (cl : List (Str × Addr)) (fp : List Addr), ETs (X.blk s H scope (compEnvC scope cl C X.env) fp) ifs tt ft)
    (hi1 : ∀ (s : Shared) (H : Hp) (C : Addr) (cl : List (Str × Addr)) (fp : List Addr), EI (X.blk s H scope (compEnvC scope cl C X.env) fp) true tg1 iter1 wi1 fi1)
    (hg1 : ∀ (s : Shared) (H : Hp) (C : Addr) (cl : List (Str × Addr)) (fp : List Addr), EG (X.blk s H scope (compEnvC scope cl C X.env) fp) tg1 g1 js1 fg1)
    (ht1 : ∀ (s : Shared) (H : Hp) (C : Addr) (cl : List (Str × Addr)) (fp : List Addr), ETs (X.blk s H scope (compEnvC scope cl C X.env) fp) ifs1 tt1 ft1)
    (he : ∀ (s : Shared) (H : Hp) (C : Addr) (cl : List (Str × Addr)) (fp : List Addr), EX (X.blk s H scope (compEnvC scope cl C X.env) fp) true elt te fe)
    (hv : ∀ i ∈ vs1, i ∈ own.map (·.2) := by decide) (hj : ∀ j ∈ js, j ∈ own.map (·.2) := by decide) (hj1 : ∀ j ∈ js1, j ∈ vs1 := by decide) (hs : ∀ x, foldedSetIterable iter X.env x = pure x := by intro _; rfl) (hs1 : ∀ env x, foldedSetIterable iter1 env x = pure x := by intro _ _; rfl) :
    EN X (.ListComp elt [⟨tg, iter, ifs, 0⟩, ⟨tg1, iter1, ifs1, 0⟩] scope pos) (tLc2 wi g tt wi1 g1 tt1 te (own.map (·.2)) vs1) (eLc2N fi fg ft fi1 fg1 ft1 fe (own.map (·.2)) vs1) :=
  ⟨pe_lc2 hc hN hi.pe ok hv (fun s H C cl fp => (hg s H C cl fp).pe) (fun s H C cl fp => (ht s H C cl fp).pe) (fun s H C cl fp => (hi1 s H C cl fp).pe) (fun s H C cl fp => (hg1 s H C cl fp).pe) (fun s H C cl fp => (ht1 s H C cl fp).pe) (fun s H C cl fp => (he s H C cl fp).pe) hs hs1,
    snn_lc2 hi.sn (hg X.s_0 X.H_0 0 [] []).sn hj (ht X.s_0 X.H_0 0 [] []).sn (hi1 X.s_0 X.H_0 0 [] []).sn (hg1 X.s_0 X.H_0 0 [] []).sn hj1 (ht1 X.s_0 X.H_0 0 [] []).sn (he X.s_0 X.H_0 0 [] []).sn⟩
/-- code that is never come to -/
def sNever : DS := fun _ _ => none
theorem sxs_never {sts : List Stmt} : SXs X sts tNever sNever := ⟨pss_never, fun g0 H0 g H ρ ω σ E o ω' ok st sl e k => nomatch e⟩
theorem sx_never {st : Stmt} : SX X st tNever sNever := ⟨ps_never, fun g0 H0 g H ρ ω σ E o ω' ok st sl e k => nomatch e⟩
/-- in, not in: of a list, a tuple, a text -/
def opInD (x y : D) : Option D := match y with
  | .str j => (match x with
    | .str i => some (.bool (!(Builtin.Str.occurrences j i 0 j.length 1).isEmpty))
    | _ => none)
  | _ => opIn x y
def opNotInD (x y : D) : Option D := match y with
  | .str j => (match x with
    | .str i => some (.bool (!(!(Builtin.Str.occurrences j i 0 j.length 1).isEmpty)))
    | _ => none)
  | _ => opNotIn x y
def rInD (K : PySem.W.Frag) : R2 := fun x y H Q => rDat K inOk inRes x y H Q ∨ (∃ i j, x = .str i ∧ y = .str j ∧ Q (.bl (!(Builtin.Str.occurrences j i 0 j.length 1).isEmpty)) H)
def rNotInD (K : PySem.W.Frag) : R2 := fun x y H Q => rDat K inOk (fun d e => !inRes d e) x y H Q ∨ (∃ i j, x = .str i ∧ y = .str j ∧ Q (.bl (!(!(Builtin.Str.occurrences j i 0 j.length 1).isEmpty))) H)
theorem op_inD (hu : X.A.units + 64 < cLine) : OpR X (compareOp .In) (rInD X.K) := (op_inP hu).or op_in_str
theorem op_notInD (hu : X.A.units + 64 < cLine) : OpR X (compareOp .NotIn) (rNotInD X.K) := (op_notInP hu).or op_notin_str
theorem ops_inD : OpS K b true (rInD K) opInD := by
  intro g0 H0 g H ω x y v w d Q ok st r1 r2 e k
  unfold opInD at e
  split at e
  · split at e
    · cases e
      rw [r1.strV, r2.strV]
      exact .inr ⟨_, _, rfl, rfl, k _ g H (.refl _ _) ok .bl⟩
    · cases e
  · exact .inl (ops_in g0 H0 g H ω x y v w d Q ok st r1 r2 e k)
theorem ops_notInD : OpS K b true (rNotInD K) opNotInD := by
  intro g0 H0 g H ω x y v w d Q ok st r1 r2 e k
  unfold opNotInD at e
  split at e
  · split at e
    · cases e
      rw [r1.strV, r2.strV]
      exact .inr ⟨_, _, rfl, rfl, k _ g H (.refl _ _) ok .bl⟩
    · cases e
  · exact .inl (ops_notIn g0 H0 g H ω x y v w d Q ok st r1 r2 e k)
/-- tuple(x), x a list of one's own: the tuple is settled -/
def eTupOwn (i : Nat) : DE := fun ρ ω => match ρ[i]? with
  | some (.own xs) => some (.tuple xs, ω)
  | _ => none
theorem ex_tupOwn {i : Nat} {x : Str} {npos p pos : Pos} (hm : X.mg "tuple" = none) (hN : X.N[i]? = some x := by rfl) (hv : Vis X.env.scope x := by first | exact Or.inl rfl | exact Or.inr (Or.inl rfl) | exact Or.inr (Or.inr rfl)) (hd : (x == ("__debug__" : Str)) = false := by decide)
    (hcd : (x == ("__classdict__" : Str)) = false := by decide) (hg : Gl X "tuple" := by rfl) (he : starEach [.Name x npos] X.env = (false, eval (.Name x npos) X.env) :: starEach [] X.env := by rfl) (hpl : (backTo pos (starEach [] X.env)).any (·.1) = false := by rfl) :
    EX X true (.Call (.Name "tuple" p) [.Name x npos] [] pos) (tCB (fun xs H Q => ∃ p ys, xs = [.ref p] ∧ ((SqL X.K H p ys ∧ ∀ l, H l = none → Q (.ref l) (upd H l (.tup ys))) ∨ (SqT X.K H p ys ∧ Q (.ref p) H))) (tCons (tVar i) tNil)) (eTupOwn i) := by
  refine ⟨pe_callTy call_tuple_of hg hm PyProof.Rows.boot_tuple (pa_cons (pe_var hN hv hd hcd) pa_nil he) (by decide) (by decide) he hpl, ?_⟩
  intro g0 H0 g H ρ ω σ Q d ω' ok st sl e k
  unfold eTupOwn at e
  split at e
  · rename_i xs hx
    cases e
    obtain ⟨o, h1, p, vs, rfl, hp, hG, hS, h0, z, r⟩ := sl.get hx
    refine ⟨_, h1, p, vs, rfl, .inl ⟨SqL.of hp, fun q hq => ?_⟩⟩
    obtain ⟨s2, ok2⟩ := alloc ok hq (o := .tup vs) rfl
    exact k _ _ _ s2 ok2 (RB.newTup (b := true) ok st hq z r)
  · cases e
end
end Dn
end

section
namespace Dn
open PySem PySem.Spec L2
section
variable {P : Program} {w : World} {K : PySem.W.Frag} {mg : Str → Option Value} {base : Heap}
/-- a def that calls itself, with no call left: it promises nothing -/
theorem fn_zero {x qual : Str} {st : Stmt} {f : Addr} {fd : FuncData} {N ps : List Str} {k n : Nat} (F : Fun K x qual st f fd) (S : FnScope N ps (defScope st)) :
    FnOk P w K mg base CX0 (k + 1) f fd ps (spD K n fun _ _ => none) := by
  refine F.ok S (fun vs H Q E h => ?_) (fun cdv A outer s H vs Q E hr h => ?_)
  · obtain ⟨g, ω, ds, d, ω', h1, ok, r, e, q⟩ := h
    cases e
  · obtain ⟨g, ω, ds, d, ω', h1, ok, r, e, q⟩ := h
    cases e
/-! ## the law's box and the law's own def -/
def spLaw (K : PySem.W.Frag) : Sp := fun vs H Q _ => ∃ (a : Addr) (ns : List Int), vs = [.ref a] ∧ SqL K H a (ns.map V.int) ∧ ns.length ≤ 63 ∧ ∀ H', Q (.bl true) H'
def spBox4 (K : PySem.W.Frag) : Sp := fun vs H Q _ => ∃ (a : Addr) (ns : List Int) (z : Int), vs = [.ref a, .int z] ∧ SqL K H a (ns.map V.int) ∧ ns.length ≤ 63 ∧
  ∀ b c H', b ≠ c → H' c = some (.lst (ns.map V.int)) → H' b = some (.lst [.ref c, .int 0, .int (4711 + (ns.length : Int)), .int z]) → Q (.ref b) H'
def spBox3 (K : PySem.W.Frag) : Sp := fun vs H Q _ => ∃ (a : Addr) (ns : List Int), vs = [.ref a] ∧ SqL K H a (ns.map V.int) ∧ ns.length ≤ 63 ∧
  ∀ b c H', b ≠ c → H' c = some (.lst (ns.map V.int)) → H' b = some (.lst [.ref c, .int 0, .int (4711 + (ns.length : Int))]) → Q (.ref b) H'
theorem box_all4 {H : Hp} {ns : List Int} {z : Int} {b c : Addr} {Q : VK} (hc : H c = none) (hb : (upd H c (.lst (ns.map V.int))) b = none)
    (k : ∀ b c H', b ≠ c → H' c = some (.lst (ns.map V.int)) → H' b = some (.lst [.ref c, .int 0, .int (4711 + (ns.length : Int)), .int z]) → Q (.ref b) H') :
    Q (.ref b) (upd (upd H c (.lst (ns.map V.int))) b (.lst [.ref c, .int 0, .int (4711 + (((ns.map V.int).length : Nat) : Int)), .int z])) := by
  have hbc : b ≠ c := fun e => by rw [e, upd_same] at hb; cases hb
  refine k b c _ hbc ?_ ?_
  · rw [upd_ne (Ne.symm hbc), upd_same]
  · rw [upd_same, List.length_map]
theorem box_all3 {H : Hp} {ns : List Int} {b c : Addr} {Q : VK} (hc : H c = none) (hb : (upd H c (.lst (ns.map V.int))) b = none)
    (k : ∀ b c H', b ≠ c → H' c = some (.lst (ns.map V.int)) → H' b = some (.lst [.ref c, .int 0, .int (4711 + (ns.length : Int))]) → Q (.ref b) H') :
    Q (.ref b) (upd (upd H c (.lst (ns.map V.int))) b (.lst [.ref c, .int 0, .int (4711 + (((ns.map V.int).length : Nat) : Int))])) := by
  have hbc : b ≠ c := fun e => by rw [e, upd_same] at hb; cases hb
  refine k b c _ hbc ?_ ?_
  · rw [upd_ne (Ne.symm hbc), upd_same]
  · rw [upd_same, List.length_map]
theorem cut63 {ns : List Int} (h : ns.length ≤ 63) : cutV (ns.map V.int) none (some 63) = ns.map V.int := by
  unfold cutV
  rw [HT.sIx_none, List.drop_zero, List.length_map]
  have : HT.sIx ns.length ns.length (some 63) = ns.length := by
    have e := HT.sIx_nat ns.length ns.length 63
    rw [show ((63 : Nat) : Int) = 63 from rfl] at e
    rw [e]; omega
  rw [this, Nat.sub_zero]
  exact List.take_of_length_le (by rw [List.length_map]; exact Nat.le_refl _)
theorem box_cut3 {H : Hp} {ns : List Int} {b c e : Addr} {Q : VK} (hl : ns.length ≤ 63) (he : H e = none) (hc : (upd H e (.lst (cutV (ns.map V.int) none (some 63)))) c = none) (hb : (upd (upd H e (.lst (cutV (ns.map V.int) none (some 63)))) c (.lst (cutV (ns.map V.int) none (some 63)))) b = none)
    (k : ∀ b c H', b ≠ c → H' c = some (.lst (ns.map V.int)) → H' b = some (.lst [.ref c, .int 0, .int (4711 + (ns.length : Int))]) → Q (.ref b) H') :
    Q (.ref b) (upd (upd (upd H e (.lst (cutV (ns.map V.int) none (some 63)))) c (.lst (cutV (ns.map V.int) none (some 63)))) b (.lst [.ref c, .int 0, .int (4711 + (((ns.map V.int).length : Nat) : Int))])) := by
  have hbc : b ≠ c := fun e => by rw [e, upd_same] at hb; cases hb
  refine k b c _ hbc ?_ ?_
  · rw [upd_ne (Ne.symm hbc), upd_same, cut63 hl]
  · rw [upd_same, List.length_map]
def box4 (ns : List Int) : Wd := ⟨true, [.lst [ob 1, .int 0, .int (4711 + (ns.length : Int)), .int 0], .lst (ns.map PyData.int)]⟩
def box3 (ns : List Int) : Wd := ⟨true, [.lst [ob 1, .int 0, .int (4711 + (ns.length : Int))], .lst (ns.map PyData.int)]⟩
/-- the slots behind the law's first statement -/
def lawRo (n i : Nat) : Ro := (List.replicate n SV.un).set i (.val (ob 0))
def boxGh (b c : Addr) : Gh := ⟨true, fun n => match n with | 0 => some b | 1 => some c | _ => none, fun a => a = b ∨ a = c, fun _ => none⟩
theorem boxOk {H : Hp} {b c : Addr} {xs ys : List D} {vs ws : List V} (hbc : b ≠ c) (hb : H b = some (.lst vs)) (hc : H c = some (.lst ws)) (r1 : RepL K (boxGh b c).ι (fun _ => none) xs vs) (r2 : RepL K (boxGh b c).ι (fun _ => none) ys ws) : GOk K (boxGh b c) H ⟨true, [.lst xs, .lst ys]⟩ := by
  refine ⟨(fun a o h => nomatch h), (fun a o h => nomatch h), (fun a o h => nomatch h), fun n m a hn hm h1 h2 => ?_, fun n a hn h => ?_, fun n o e => ?_, fun a h => ?_, fun _ => ⟨rfl, fun n hn => ?_⟩⟩
  · match n, m, h1, h2 with
    | 0, 0, _, _ => rfl
    | 1, 1, _, _ => rfl
    | 0, 1, h1, h2 => cases h1; cases h2; exact absurd rfl hbc
    | 1, 0, h1, h2 => cases h1; cases h2; exact absurd rfl hbc
    | n + 2, _, h1, _ => cases h1
    | 0, m + 2, _, h2 => cases h2
    | 1, m + 2, _, h2 => cases h2
  · match n, h with
    | 0, h => cases h; exact .inl rfl
    | 1, h => cases h; exact .inr rfl
    | n + 2, h => cases h
  · match n, e with
    | 0, e => cases e; exact ⟨b, rfl, vs, hb, r1⟩
    | 1, e => cases e; exact ⟨c, rfl, ws, hc, r2⟩
    | n + 2, e => simp at e
  · rcases h with rfl | rfl
    · exact ⟨_, hb, rfl⟩
    · exact ⟨_, hc, rfl⟩
  · match n, hn with
    | 0, hn => simp at hn
    | 1, hn => simp at hn
    | n + 2, _ => rfl
theorem lawSlots {H : Hp} {b c : Addr} {N : List Str} {a : V} {i : Nat} (hN : 0 < N.length) : Slots K H (boxGh b c) H (lawRo N.length i) ((L2.start N [a]).set i (some (.ref b))) := by
  have un : ∀ (i : Nat) (s : SV), (List.replicate N.length SV.un)[i]? = some s → s = .un := fun i s e => by
    have := List.getElem?_replicate (n := N.length) (a := SV.un) (i := i)
    rw [e] at this
    split at this <;> cases this
    rfl
  have base : Slots K H (boxGh b c) H (List.replicate N.length SV.un) (L2.start N [a]) := by
    refine ⟨?_, fun i s o e1 e2 => ?_, fun i j xs ys p e1 e2 e3 e4 => ?_⟩
    · unfold L2.start; simp; omega
    · rw [un i s e1]; trivial
    · have := un i _ e1
      cases this
  refine base.set i (s := .val (ob 0)) (o := some (.ref b)) ⟨.ref b, rfl, ?_⟩ (fun xs z => nomatch z)
  unfold ob
  rw [Rep]
  exact ⟨0, b, rfl, rfl, rfl⟩
theorem ob1Rep {b c : Addr} : Rep K (boxGh b c).ι (fun _ => none) (ob 1) (.ref c) := by
  unfold ob
  rw [Rep]
  exact ⟨1, c, rfl, rfl, rfl⟩
theorem law_go4 {t : TS} {f : DS} {N : List Str} {i : Nat} {a : Addr} {ns : List Int} {H : Hp} {Q : VK} (R : SndS K t f) (hS : SqL K H a (ns.map V.int)) (hlen : ns.length ≤ 63) (hN : 0 < N.length) (good : ∃ ω, f (lawRo N.length i) (box4 ns) = some (.rt (.bool true), ω)) (k : ∀ H', Q (.bl true) H') :
    spBox4 K [.ref a, .int 0] H (fun x H1 => t { nx := fun _ H' => Q .non H', rt := Q } ((L2.start N [.ref a]).set i (some x)) H1) E0 := by
  refine ⟨a, ns, 0, rfl, hS, hlen, fun b c H' hbc hc hb => ?_⟩
  obtain ⟨ω, e⟩ := good
  have ok : GOk K (boxGh b c) H' (box4 ns) := boxOk hbc hb hc (.cons ob1Rep (.cons (by rw [Rep]) (.cons (by rw [Rep]) (.cons (by rw [Rep]) .nil)))) (RepL.ints ns)
  exact R (boxGh b c) H' (boxGh b c) H' _ _ _ _ _ _ ok (.refl _ _) (lawSlots hN) e fun v g' H2 _ _ r => by
    rw [Rep] at r; subst r; exact k H2
theorem law_go3 {t : TS} {f : DS} {N : List Str} {i : Nat} {a : Addr} {ns : List Int} {H : Hp} {Q : VK} (R : SndS K t f) (hS : SqL K H a (ns.map V.int)) (hlen : ns.length ≤ 63) (hN : 0 < N.length) (good : ∃ ω, f (lawRo N.length i) (box3 ns) = some (.rt (.bool true), ω)) (k : ∀ H', Q (.bl true) H') :
    spBox3 K [.ref a] H (fun x H1 => t { nx := fun _ H' => Q .non H', rt := Q } ((L2.start N [.ref a]).set i (some x)) H1) E0 := by
  refine ⟨a, ns, rfl, hS, hlen, fun b c H' hbc hc hb => ?_⟩
  obtain ⟨ω, e⟩ := good
  have ok : GOk K (boxGh b c) H' (box3 ns) := boxOk hbc hb hc (.cons ob1Rep (.cons (by rw [Rep]) (.cons (by rw [Rep]) .nil))) (RepL.ints ns)
  exact R (boxGh b c) H' (boxGh b c) H' _ _ _ _ _ _ ok (.refl _ _) (lawSlots hN) e fun v g' H2 _ _ r => by
    rw [Rep] at r; subst r; exact k H2
end
section
variable {K : PySem.W.Frag} {b : Bool}
def opAddI : D → D → Option D
  | .int i, .int j => some (.int (i + j))
  | _, _ => none
theorem ops_addI : OpS K b true (rI0 fun i j => .int (i + j)) opAddI := ops_int fun x y d e => by
  cases x <;> cases y <;> simp only [opAddI] at e <;> cases e
  exact ⟨_, _, _, rfl, rfl, fun _ _ => by rw [Rep], fun Q H q => ⟨_, _, rfl, rfl, q⟩⟩
end
end Dn
end

section
namespace Dn
open PySem PySem.Spec L2
/-! ## the rules once more, the written part told apart from the context: within a comprehension's block the reading must not speak of the block -/
section
variable {X : Cx} {K : PySem.W.Frag} {b b' : Bool} {t ta tb tc : TE} {f fa fb fc : DE} {e ea eb ec : Expr} {pos : Pos}
theorem op_addK (hK : X.K = K := by rfl) : OpR X (binaryOp .Add) (rAddD K) := by subst hK; exact op_addD
theorem op_mulK (hK : X.K = K := by rfl) : OpR X (binaryOp .Mult) (rMulD K) := by subst hK; exact op_mulD
theorem op_eqK (hu : X.A.units + 64 < cLine) (hK : X.K = K := by rfl) : OpR X (compareOp .Eq) (rDat K cmpOk PyData.eqv) := by subst hK; exact op_eqP hu
theorem op_neK (hu : X.A.units + 64 < cLine) (hK : X.K = K := by rfl) : OpR X (compareOp .NotEq) (rDat K cmpOk fun d e => !PyData.eqv d e) := by subst hK; exact op_neP hu
theorem op_ltK (hu : X.A.units + 64 < cLine) (hK : X.K = K := by rfl) : OpR X (compareOp .Lt) (rDat K ltOk PySem.W.dataLt) := by subst hK; exact op_ltP hu
theorem op_gtK (hu : X.A.units + 64 < cLine) (hK : X.K = K := by rfl) : OpR X (compareOp .Gt) (rDat K ltOk fun d e => PySem.W.dataLt e d) := by subst hK; exact op_gtP hu
theorem op_leK (hu : X.A.units + 64 < cLine) (hK : X.K = K := by rfl) : OpR X (compareOp .LtE) (rDat K ltOk fun d e => !PySem.W.dataLt e d) := by subst hK; exact op_leP hu
theorem op_geK (hu : X.A.units + 64 < cLine) (hK : X.K = K := by rfl) : OpR X (compareOp .GtE) (rDat K ltOk fun d e => !PySem.W.dataLt d e) := by subst hK; exact op_geP hu
theorem op_inK (hu : X.A.units + 64 < cLine) (hK : X.K = K := by rfl) : OpR X (compareOp .In) (rInD K) := by subst hK; exact op_inD hu
theorem op_notInK (hu : X.A.units + 64 < cLine) (hK : X.K = K := by rfl) : OpR X (compareOp .NotIn) (rNotInD K) := by subst hK; exact op_notInD hu
theorem ex_ixK (ha : EX X b ea ta fa) (hb : EX X b eb tb fb) (hs : PlainIx eb := by exact fun _ _ => rfl) (hK : X.K = K := by rfl) : EX X b (.Subscript ea eb pos) (tOp (rIx K) ta tb) (eBin opIx fa fb) := by subst hK; exact ex_ix ha hb hs
theorem ex_ixOwnK {i : Nat} {x : Str} {pos2 : Pos} {d : Bool} (hb : EX X d eb tb fb) (hN : X.N[i]? = some x := by rfl) (hv : Vis X.env.scope x := by first | exact Or.inl rfl | exact Or.inr (Or.inl rfl) | exact Or.inr (Or.inr rfl)) (hd : (x == ("__debug__" : Str)) = false := by decide)
    (hcd : (x == ("__classdict__" : Str)) = false := by decide) (hs : PlainIx eb := by exact fun _ _ => rfl) (hK : X.K = K := by rfl) : EX X true (.Subscript (.Name x pos2) eb pos) (tOp (rIx K) (tVar i) tb) (eIxOwn i fb) := by subst hK; exact ex_ixOwn hb hN hv hd hcd hs
theorem ei_seqK {tg : Expr} (h : EX X true e t f) (hK : X.K = K := by rfl) : EI X b tg e (iSeq K t) (iSq f) := by subst hK; exact ei_seq h
theorem ei_ownK {i : Nat} {tg : Expr} {x : Str} (hN : X.N[i]? = some x := by rfl) (hv : Vis X.env.scope x := by first | exact Or.inl rfl | exact Or.inr (Or.inl rfl) | exact Or.inr (Or.inr rfl)) (hd : (x == ("__debug__" : Str)) = false := by decide)
    (hcd : (x == ("__classdict__" : Str)) = false := by decide) (hK : X.K = K := by rfl) : EI X false tg (.Name x pos) (iList K (tVar i)) (iOwn i) := by subst hK; exact ei_own hN hv hd hcd
theorem eg_tupK {es : List Expr} {k : Nat} {t : TGs} {n : Nat} {js : List Nat} {h : List D → Ro → Option Ro} (hh : EGs X es t js h) (l : LenG n h) (hc : X.calm = true := by rfl)
    (hn : (assignEach es X.env).length = n := by rfl) (hst : (assignEach es X.env).findIdx? (·.1) = none := by rfl) (hK : X.K = K := by rfl) : EG X (.Tuple es k pos) (gTup K n t) js (gTupD h) := by subst hK; exact eg_tup hc hh l hn hst
theorem ex_isiK {T : String} {x : Str} {p p2 : Pos} (k : KitOk T) (hm : X.mg "isinstance" = none) (hmT : X.mg x = none) (hvT : bootBuiltins x = some (.type T)) (he : EX X b e ta fa) (hg : Gl X "isinstance" := by rfl) (hgT : Gl X x := by rfl) (hnT : x ≠ "__name__" := by decide) (hdT : (x == ("__debug__" : Str)) = false := by decide)
    (hs1 : starEach [e, .Name x p2] X.env = (false, eval e X.env) :: starEach [.Name x p2] X.env := by rfl) (hs2 : starEach [.Name x p2] X.env = (false, eval (.Name x p2) X.env) :: starEach [] X.env := by rfl) (hpl : (backTo pos (starEach [.Name x p2] X.env)).any (·.1) = false := by rfl) (hK : X.K = K := by rfl) :
    EX X true (.Call (.Name "isinstance" p) [e, .Name x p2] [] pos) (tCB (rIsi K) (tCons ta (tCons (tC (.ty T)) tNil))) (eUn (opIsi T) fa) := by subst hK; exact ex_isi k hm hmT hvT he hg hgT hnT hdT hs1 hs2 hpl
section
variable {n k : Nat} {f : Addr} {fd : FuncData} {ps : List Str} {fn : List D → Wd → Option (D × Wd)} {x : Str} {p : Pos} {es : List Expr} {t : TA} {fa : DA}
theorem ex_funK (F : FnOk X.prog X.w K X.mg X.base CX0 k f fd ps (spD K n fn)) (hr : Room k X.A) (hm : X.mg x = some (.ref f)) (hk : PySem.W.keepIn K (.ref f) = true) (hb : Binds K fd ps []) (ha : EA X true (e :: es) t fa) (l : LenA n fa) (hg : Gl X x := by rfl) (hdb : (x == ("__debug__" : Str)) = false := by decide)
    (he : starEach (e :: es) X.env = (false, eval e X.env) :: starEach es X.env := by rfl) (hpl : (backTo pos (starEach es X.env)).any (·.1) = false := by rfl) (hK : X.K = K := by rfl) : EX X true (.Call (.Name x p) (e :: es) [] pos) (tCall (spD K n fn) [] E0 t) (eFun fn fa) := by
  subst hK; exact ex_fun F hr hm hk hb ha l hg hdb he hpl
theorem ex_funPK (F : FnOk X.prog X.w K X.mg X.base CX0 k f fd ps (spD K n fn)) (hr : Room k X.A) (hm : X.mg x = some (.ref f)) (hk : PySem.W.keepIn K (.ref f) = true) (hb' : Binds K fd ps []) (ha : EA X b (e :: es) t fa) (l : LenA n fa) (hg : Gl X x := by rfl) (hdb : (x == ("__debug__" : Str)) = false := by decide)
    (he : starEach (e :: es) X.env = (false, eval e X.env) :: starEach es X.env := by rfl) (hpl : (backTo pos (starEach es X.env)).any (·.1) = false := by rfl) (hK : X.K = K := by rfl) : EX X b (.Call (.Name x p) (e :: es) [] pos) (tCall (spD K n fn) [] E0 t) (eFunP fn fa) := by
  subst hK; exact ex_funP F hr hm hk hb' ha l hg hdb he hpl
end
theorem ex_slK {lo hi : Option Expr} {tl th : TO} {fl fh : DO} {p2 : Pos} (h : EX X b e t f) (hl : EO X lo tl fl) (hh : EO X hi th fh) (hK : X.K = K := by rfl) : EX X b (.Subscript e (.Slice lo hi none p2) pos) (tSl (rSlD K) t tl th) (eSl opSl f fl fh) := by subst hK; exact ex_sl h hl hh
theorem ex_ixObK (ha : EX X b ea ta fa) (hb : EX X b' eb tb fb) (hs : PlainIx eb := by exact fun _ _ => rfl) (hK : X.K = K := by rfl) : EX X true (.Subscript ea eb pos) (tOp (rIx K) ta tb) (eIxOb fa fb) := by subst hK; exact ex_ixOb ha hb hs
/-! calls of built-ins, by name -/
variable {p : Pos} {tA : TA} {fA : DA}
def rLenK (K : PySem.W.Frag) : List V → Hp → VK → Prop := fun xs H Q => ∃ x n, xs = [x] ∧ LenV K x H n ∧ Q (.int n) H
theorem ex_len (hm : X.mg "len" = none) (ha : EA X b [e] tA fA) (hg : Gl X "len" := by rfl) (he : starEach [e] X.env = (false, eval e X.env) :: starEach [] X.env := by rfl) (hpl : (backTo pos (starEach [] X.env)).any (·.1) = false := by rfl) (hK : X.K = K := by rfl) :
    EX X true (.Call (.Name "len" p) [e] [] pos) (tCB (rLenK K) tA) (eCall opLen fA) := by
  subst hK; exact ex_callB call_len cal_len hm PySem.boot_len ha hg (by decide) (by decide) he hpl
theorem ex_lenObK (hm : X.mg "len" = none) (ha : EX X b ea ta fa) (hg : Gl X "len" := by rfl)
    (he : starEach [ea] X.env = (false, eval ea X.env) :: starEach [] X.env := by rfl) (hpl : (backTo pos (starEach [] X.env)).any (·.1) = false := by rfl) (hK : X.K = K := by rfl) : EX X true (.Call (.Name "len" p) [ea] [] pos) (tCB (rLenK K) (tCons ta tNil)) (eLenOb fa) := by
  subst hK; exact ex_lenOb hm ha hg he hpl
theorem ex_sum (hm : X.mg "sum" = none) (ha : EA X b [e] tA fA) (hc : X.calm = true := by rfl) (hg : Gl X "sum" := by rfl) (he : starEach [e] X.env = (false, eval e X.env) :: starEach [] X.env := by rfl) (hpl : (backTo pos (starEach [] X.env)).any (·.1) = false := by rfl) (hK : X.K = K := by rfl) :
    EX X true (.Call (.Name "sum" p) [e] [] pos) (tCB (rSum K) tA) (eCall opSum fA) := by
  subst hK; exact ex_callB (cr_sum hc) cal_sum hm (by decide +kernel) ha hg (by decide) (by decide) he hpl
theorem ex_all (hm : X.mg "all" = none) (ha : EA X b [e] tA fA) (hc : X.calm = true := by rfl) (hg : Gl X "all" := by rfl) (he : starEach [e] X.env = (false, eval e X.env) :: starEach [] X.env := by rfl) (hpl : (backTo pos (starEach [] X.env)).any (·.1) = false := by rfl) (hK : X.K = K := by rfl) :
    EX X true (.Call (.Name "all" p) [e] [] pos) (tCB (rAll K) tA) (eCall opAll fA) := by
  subst hK; exact ex_callB (cr_all hc) cal_all hm (by decide +kernel) ha hg (by decide) (by decide) he hpl
theorem ex_any (hm : X.mg "any" = none) (ha : EA X b [e] tA fA) (hc : X.calm = true := by rfl) (hg : Gl X "any" := by rfl) (he : starEach [e] X.env = (false, eval e X.env) :: starEach [] X.env := by rfl) (hpl : (backTo pos (starEach [] X.env)).any (·.1) = false := by rfl) (hK : X.K = K := by rfl) :
    EX X true (.Call (.Name "any" p) [e] [] pos) (tCB (rAny K) tA) (eCall opAny fA) := by
  subst hK; exact ex_callB (cr_any hc) cal_any hm (by decide +kernel) ha hg (by decide) (by decide) he hpl
def rTupK (K : PySem.W.Frag) : List V → Hp → VK → Prop := fun xs H Q => ∃ p ys, xs = [.ref p] ∧ ((SqL K H p ys ∧ ∀ l, H l = none → Q (.ref l) (upd H l (.tup ys))) ∨ (SqT K H p ys ∧ Q (.ref p) H))
theorem ex_tuple (hm : X.mg "tuple" = none) (ha : EA X b [e] tA fA) (hg : Gl X "tuple" := by rfl) (he : starEach [e] X.env = (false, eval e X.env) :: starEach [] X.env := by rfl) (hpl : (backTo pos (starEach [] X.env)).any (·.1) = false := by rfl) (hK : X.K = K := by rfl) :
    EX X b (.Call (.Name "tuple" p) [e] [] pos) (tCB (rTupK K) tA) (eCall opTuple fA) := by
  subst hK; exact ex_callTy call_tuple_of cal_tuple hm PyProof.Rows.boot_tuple ha hg (by decide) (by decide) he hpl
theorem ex_tupOwnK {i : Nat} {x : Str} {npos : Pos} (hm : X.mg "tuple" = none) (hN : X.N[i]? = some x := by rfl) (hv : Vis X.env.scope x := by first | exact Or.inl rfl | exact Or.inr (Or.inl rfl) | exact Or.inr (Or.inr rfl)) (hd : (x == ("__debug__" : Str)) = false := by decide)
    (hcd : (x == ("__classdict__" : Str)) = false := by decide) (hg : Gl X "tuple" := by rfl) (he : starEach [.Name x npos] X.env = (false, eval (.Name x npos) X.env) :: starEach [] X.env := by rfl) (hpl : (backTo pos (starEach [] X.env)).any (·.1) = false := by rfl) (hK : X.K = K := by rfl) :
    EX X true (.Call (.Name "tuple" p) [.Name x npos] [] pos) (tCB (rTupK K) (tCons (tVar i) tNil)) (eTupOwn i) := by subst hK; exact ex_tupOwn hm hN hv hd hcd hg he hpl
theorem en_listK (hm : X.mg "list" = none) (ha : EA X true [e] tA fA) (hg : Gl X "list" := by rfl)
    (he : starEach [e] X.env = (false, eval e X.env) :: starEach [] X.env := by rfl) (hpl : (backTo pos (starEach [] X.env)).any (·.1) = false := by rfl) (hK : X.K = K := by rfl) : EN X (.Call (.Name "list" p) [e] [] pos) (tCB (rListOf K) tA) (aList fA) := by subst hK; exact en_list hm ha hg he hpl
theorem ex_int1 (hm : X.mg "int" = none) (ha : EA X b [e] tA fA) (hg : Gl X "int" := by rfl) (he : starEach [e] X.env = (false, eval e X.env) :: starEach [] X.env := by rfl) (hpl : (backTo pos (starEach [] X.env)).any (·.1) = false := by rfl) :
    EX X true (.Call (.Name "int" p) [e] [] pos) (tCB (fun xs H Q => (∃ i, xs = [.int i] ∧ Q (.int i) H) ∨ ∃ k, xs = [.bl k] ∧ Q (.int (if k then 1 else 0)) H) tA) (eCall opInt fA) :=
  ex_callTy call_int1 cal_int hm PyProof.Rows.boot_int ha hg (by decide) (by decide) he hpl
theorem ex_str1 (hm : X.mg "str" = none) (ha : EA X b [e] tA fA) (hg : Gl X "str" := by rfl) (he : starEach [e] X.env = (false, eval e X.env) :: starEach [] X.env := by rfl) (hpl : (backTo pos (starEach [] X.env)).any (·.1) = false := by rfl) :
    EX X true (.Call (.Name "str" p) [e] [] pos) (tCB (fun xs H Q => ∃ i, xs = [.int i] ∧ i.natAbs.log2 < 1920 ∧ Q (.str (toString i)) H) tA) (eCall opStr fA) :=
  ex_callTy call_str_int cal_str hm PyProof.Rows.boot_str ha hg (by decide) (by decide) he hpl
theorem ex_abs (hm : X.mg "abs" = none) (ha : EA X b [e] tA fA) (hg : Gl X "abs" := by rfl) (he : starEach [e] X.env = (false, eval e X.env) :: starEach [] X.env := by rfl) (hpl : (backTo pos (starEach [] X.env)).any (·.1) = false := by rfl) :
    EX X true (.Call (.Name "abs" p) [e] [] pos) (tCB (fun xs H Q => ∃ i, xs = [.int i] ∧ Q (.int (if i < 0 then -i else i)) H) tA) (eCall opAbs fA) :=
  ex_callB call_abs cal_abs hm PyProof.Rows.boot_abs ha hg (by decide) (by decide) he hpl
variable {e2 : Expr}
theorem ex_min2 (hm : X.mg "min" = none) (ha : EA X b [e, e2] tA fA) (hc : X.calm = true := by rfl) (hg : Gl X "min" := by rfl) (he : starEach [e, e2] X.env = (false, eval e X.env) :: starEach [e2] X.env := by rfl) (hpl : (backTo pos (starEach [e2] X.env)).any (·.1) = false := by rfl) :
    EX X true (.Call (.Name "min" p) [e, e2] [] pos) (tCB (fun xs H Q => ∃ i j, xs = [.int i, .int j] ∧ Q (.int (if j < i then j else i)) H) tA) (eCall opMin2 fA) :=
  ex_callB (call_min2 hc) cal_min2 hm (by decide +kernel) ha hg (by decide) (by decide) he hpl
theorem ex_max2 (hm : X.mg "max" = none) (ha : EA X b [e, e2] tA fA) (hc : X.calm = true := by rfl) (hg : Gl X "max" := by rfl) (he : starEach [e, e2] X.env = (false, eval e X.env) :: starEach [e2] X.env := by rfl) (hpl : (backTo pos (starEach [e2] X.env)).any (·.1) = false := by rfl) :
    EX X true (.Call (.Name "max" p) [e, e2] [] pos) (tCB (fun xs H Q => ∃ i j, xs = [.int i, .int j] ∧ Q (.int (if j > i then j else i)) H) tA) (eCall opMax2 fA) :=
  ex_callB (call_max2 hc) cal_max2 hm (by decide +kernel) ha hg (by decide) (by decide) he hpl
end
theorem fn_denM {P : Program} {w : World} {K : PySem.W.Frag} {mg : Str → Option Value} {base : Heap} {x qual : Str} {st : Stmt} {f : Addr} {fd : FuncData} {N ps : List Str} {k m n : Nat} {fb : DS} (F : Fun K x qual st f fd) (S : FnScope N ps (defScope st)) (hm : N.length = m) (hn : ps.length = n)
    (body : ∀ (cdv : Value) (A : Around) (outer : List PySem.Env) (s : Shared) (H : Hp) (E : XK), Room k (A.deeper (PyProof.Rows.envOfC qual (defScope st) s.heap.objs.size f cdv)) → ∃ t, SXs (cxOf CX0 P w K mg base N qual (defScope st) f cdv A outer s H E).nox (defBody st) t fb) :
    FnOk P w K mg base CX0 (k + 1) f fd ps (spD K n (defD m fb)) := by
  subst hm hn
  exact fn_den F S body
end Dn
end

section
namespace Dn
open PySem PySem.Spec L2
/-! ## the combinators, applied -/
@[simp] theorem eVar_ap (i : Nat) (ρ : Ro) (ω : Wd) : eVar i ρ ω = (match ρ[i]? with
  | some (.val d) => some (d, ω)
  | _ => none) := rfl
@[simp] theorem eVarB_ap (i : Nat) (ρ : Ro) (ω : Wd) : eVarB i ρ ω = (match ρ[i]? with
  | some (.own xs) => some (.list xs, ω)
  | _ => none) := rfl
@[simp] theorem eC_ap (d : D) (ρ : Ro) (ω : Wd) : eC d ρ ω = (some (d, ω)) := rfl
@[simp] theorem eBin_ap (op : D → D → Option D) (f g : DE) (ρ : Ro) (ω : Wd) : eBin op f g ρ ω = (match f ρ ω with
  | none => none
  | some (x, ω1) => match g ρ ω1 with
    | none => none
    | some (y, ω2) => match op x y with
      | none => none
      | some z => some (z, ω2)) := rfl
@[simp] theorem tOfE_ap (f : DE) (ρ : Ro) (ω : Wd) : tOfE f ρ ω = (match f ρ ω with
  | some (.bool c, ω1) => some (c, ω1)
  | _ => none) := rfl
@[simp] theorem eChain_ap (op op' : D → D → Option D) (f g h : DE) (ρ : Ro) (ω : Wd) : eChain op op' f g h ρ ω = (match f ρ ω with
  | none => none
  | some (x, ω1) => match g ρ ω1 with
    | none => none
    | some (y, ω2) => match op x y with
      | some (.bool true) => (match h ρ ω2 with
        | none => none
        | some (z, ω3) => match op' y z with
          | some (.bool c) => some (.bool c, ω3)
          | _ => none)
      | some (.bool false) => some (.bool false, ω2)
      | _ => none) := rfl
@[simp] theorem eUn_ap (op : D → Option D) (f : DE) (ρ : Ro) (ω : Wd) : eUn op f ρ ω = (match f ρ ω with
  | none => none
  | some (x, ω1) => match op x with
    | none => none
    | some z => some (z, ω1)) := rfl
@[simp] theorem tAndD_ap (f g : DT) (ρ : Ro) (ω : Wd) : tAndD f g ρ ω = (match f ρ ω with
  | none => none
  | some (c, ω1) => if c = true then g ρ ω1 else some (false, ω1)) := rfl
@[simp] theorem tOrD_ap (f g : DT) (ρ : Ro) (ω : Wd) : tOrD f g ρ ω = (match f ρ ω with
  | none => none
  | some (c, ω1) => if c = true then some (true, ω1) else g ρ ω1) := rfl
@[simp] theorem tNotD_ap (f : DT) (ρ : Ro) (ω : Wd) : tNotD f ρ ω = (match f ρ ω with
  | none => none
  | some (c, ω1) => some (!c, ω1)) := rfl
@[simp] theorem eIf_ap (c : DT) (f g : DE) (ρ : Ro) (ω : Wd) : eIf c f g ρ ω = (match c ρ ω with
  | none => none
  | some (c, ω1) => if c = true then f ρ ω1 else g ρ ω1) := rfl
@[simp] theorem eAnd_ap (f g : DE) (ρ : Ro) (ω : Wd) : eAnd f g ρ ω = (match f ρ ω with
  | some (.bool c, ω1) => if c = true then g ρ ω1 else some (.bool false, ω1)
  | _ => none) := rfl
@[simp] theorem eOr_ap (f g : DE) (ρ : Ro) (ω : Wd) : eOr f g ρ ω = (match f ρ ω with
  | some (.bool c, ω1) => if c = true then some (.bool true, ω1) else g ρ ω1
  | _ => none) := rfl
@[simp] theorem eNot_ap (f : DE) (ρ : Ro) (ω : Wd) : eNot f ρ ω = (match f ρ ω with
  | some (.bool c, ω1) => some (.bool (!c), ω1)
  | _ => none) := rfl
@[simp] theorem aNil_ap  (ρ : Ro) (ω : Wd) : aNil  ρ ω = (some ([], ω)) := rfl
@[simp] theorem aCons_ap (f : DE) (g : DA) (ρ : Ro) (ω : Wd) : aCons f g ρ ω = (match f ρ ω with
  | none => none
  | some (x, ω1) => match g ρ ω1 with
    | none => none
    | some (xs, ω2) => some (x :: xs, ω2)) := rfl
@[simp] theorem eTup_ap (a : DA) (ρ : Ro) (ω : Wd) : eTup a ρ ω = (match a ρ ω with
  | none => none
  | some (ds, ω1) => some (.tuple ds, ω1)) := rfl
@[simp] theorem eLst_ap (a : DA) (ρ : Ro) (ω : Wd) : eLst a ρ ω = (match a ρ ω with
  | none => none
  | some (ds, ω1) => some (.list ds, ω1)) := rfl
@[simp] theorem eDown_ap (f : DE) (ρ : Ro) (ω : Wd) : eDown f ρ ω = (match f ρ ω with
  | none => none
  | some (d, ω1) => if noL d = true then some (d, ω1) else none) := rfl
@[simp] theorem eIxOwn_ap (i : Nat) (f : DE) (ρ : Ro) (ω : Wd) : eIxOwn i f ρ ω = (match ρ[i]? with
  | some (.own xs) => (match f ρ ω with
    | some (.int j, ω1) => (match atI xs j with
      | some d => some (d, ω1)
      | none => none)
    | _ => none)
  | _ => none) := rfl
@[simp] theorem iLst_ap (f : DE) (ρ : Ro) (ω : Wd) : iLst f ρ ω = (match f ρ ω with
  | some (.list ds, ω1) => some (ds, ω1)
  | _ => none) := rfl
@[simp] theorem iTpl_ap (f : DE) (ρ : Ro) (ω : Wd) : iTpl f ρ ω = (match f ρ ω with
  | some (.tuple ds, ω1) => some (ds, ω1)
  | _ => none) := rfl
@[simp] theorem iOwn_ap (i : Nat) (ρ : Ro) (ω : Wd) : iOwn i ρ ω = (match ρ[i]? with
  | some (.own xs) => some (xs, ω)
  | _ => none) := rfl
@[simp] theorem iRange_ap (a : DA) (ρ : Ro) (ω : Wd) : iRange a ρ ω = (match a ρ ω with
  | some ([.int j], ω1) => if rgOk 0 j = true then some (rgD 0 j, ω1) else none
  | some ([.int i, .int j], ω1) => if rgOk i j = true then some (rgD i j, ω1) else none
  | _ => none) := rfl
@[simp] theorem gSet_ap (i : Nat) (d : D) (ρ : Ro) : gSet i d ρ = (some (ρ.set i (.val d))) := rfl
@[simp] theorem gTupD_ap (h : List D → Ro → Option Ro) (d : D) (ρ : Ro) : gTupD h d ρ = (match d with
  | .tuple ds => h ds ρ
  | _ => none) := rfl
@[simp] theorem eLcN_ap (fi : DA) (fg : DG) (ft : DT) (fe : DE) (vs : List Nat) (ρ : Ro) (ω : Wd) : eLcN fi fg ft fe vs ρ ω = (match fi ρ ω with
  | none => none
  | some (ds, ω1) => lcD fg ft fe (wipeR ρ vs) ds ω1) := rfl
@[simp] theorem eOfN_ap (f : DA) (ρ : Ro) (ω : Wd) : eOfN f ρ ω = (match f ρ ω with
  | none => none
  | some (ds, ω1) => some (.list ds, ω1)) := rfl
@[simp] theorem tYesD_ap  (ρ : Ro) (ω : Wd) : tYesD  ρ ω = (some (true, ω)) := rfl
@[simp] theorem eCall_ap (op : List D → Option D) (a : DA) (ρ : Ro) (ω : Wd) : eCall op a ρ ω = (match a ρ ω with
  | none => none
  | some (ds, ω1) => match op ds with
    | none => none
    | some d => some (d, ω1)) := rfl
@[simp] theorem aList_ap (f : DA) (ρ : Ro) (ω : Wd) : aList f ρ ω = (match f ρ ω with
  | some ([.list xs], ω1) => some (xs, ω1)
  | some ([.tuple xs], ω1) => some (xs, ω1)
  | _ => none) := rfl
@[simp] theorem eFun_ap (f : List D → Wd → Option (D × Wd)) (a : DA) (ρ : Ro) (ω : Wd) : eFun f a ρ ω = (match a ρ ω with
  | none => none
  | some (ds, ω1) => f ds ω1) := rfl
@[simp] theorem eFunP_ap (f : List D → Wd → Option (D × Wd)) (a : DA) (ρ : Ro) (ω : Wd) : eFunP f a ρ ω = (match a ρ ω with
  | none => none
  | some (ds, ω1) => match f ds ⟨false, []⟩ with
    | none => none
    | some (d, _) => some (d, ω1)) := rfl
@[simp] theorem oNone_ap  (ρ : Ro) (ω : Wd) : oNone  ρ ω = (some (none, ω)) := rfl
@[simp] theorem oSome_ap (f : DE) (ρ : Ro) (ω : Wd) : oSome f ρ ω = (match f ρ ω with
  | some (.int i, ω1) => some (some i, ω1)
  | _ => none) := rfl
@[simp] theorem eSl_ap (op : D → Option Int → Option Int → Option D) (f : DE) (l h : DO) (ρ : Ro) (ω : Wd) : eSl op f l h ρ ω = (match f ρ ω with
  | none => none
  | some (x, ω1) => match l ρ ω1 with
    | none => none
    | some (lo, ω2) => match h ρ ω2 with
      | none => none
      | some (hi, ω3) => match op x lo hi with
        | none => none
        | some d => some (d, ω3)) := rfl
@[simp] theorem eIxOb_ap (f h : DE) (ρ : Ro) (ω : Wd) : eIxOb f h ρ ω = (match f ρ ω with
  | none => none
  | some (x, ω1) => match obN x with
    | none => none
    | some n => match h ρ ω1 with
      | some (.int i, ω2) => (match ω2.objs[n]? with
        | some (.lst xs) => (match atI xs i with
          | some d => some (d, ω2)
          | none => none)
        | none => none)
      | _ => none) := rfl
@[simp] theorem eLenOb_ap (f : DE) (ρ : Ro) (ω : Wd) : eLenOb f ρ ω = (match f ρ ω with
  | none => none
  | some (x, ω1) => match obN x with
    | none => none
    | some n => match ω1.objs[n]? with
      | some (.lst xs) => some (.int xs.length, ω1)
      | none => none) := rfl
@[simp] theorem ePopOb_ap (f : DE) (i : Int) (ρ : Ro) (ω : Wd) : ePopOb f i ρ ω = (match f ρ ω with
  | none => none
  | some (x, ω1) => match obN x with
    | none => none
    | some n => match ω1.objs[n]? with
      | some (.lst xs) => (match xs[i.toNat]? with
        | some d => if 0 ≤ i ∧ i < 2 ^ 63 then some (d, ⟨ω1.live, ω1.objs.set n (.lst (xs.eraseIdx i.toNat))⟩) else none
        | none => none)
      | none => none) := rfl
@[simp] theorem sNext_ap  (ρ : Ro) (ω : Wd) : sNext  ρ ω = (some (.nx ρ, ω)) := rfl
@[simp] theorem sSeq_ap (f h : DS) (ρ : Ro) (ω : Wd) : sSeq f h ρ ω = (match f ρ ω with
  | some (.nx ρ1, ω1) => h ρ1 ω1
  | r => r) := rfl
@[simp] theorem sBreak_ap  (ρ : Ro) (ω : Wd) : sBreak  ρ ω = (some (.bk ρ, ω)) := rfl
@[simp] theorem sCont_ap  (ρ : Ro) (ω : Wd) : sCont  ρ ω = (some (.ct ρ, ω)) := rfl
@[simp] theorem sDrop_ap (f : DE) (ρ : Ro) (ω : Wd) : sDrop f ρ ω = (match f ρ ω with
  | none => none
  | some (_, ω1) => some (.nx ρ, ω1)) := rfl
@[simp] theorem sRet_ap (f : DE) (ρ : Ro) (ω : Wd) : sRet f ρ ω = (match f ρ ω with
  | none => none
  | some (d, ω1) => some (.rt d, ω1)) := rfl
@[simp] theorem sRetN_ap  (ρ : Ro) (ω : Wd) : sRetN  ρ ω = (some (.rt .none, ω)) := rfl
@[simp] theorem sIf_ap (c : DT) (f h : DS) (ρ : Ro) (ω : Wd) : sIf c f h ρ ω = (match c ρ ω with
  | none => none
  | some (c, ω1) => if c = true then f ρ ω1 else h ρ ω1) := rfl
@[simp] theorem sAsg_ap (f : DE) (t : DG) (ρ : Ro) (ω : Wd) : sAsg f t ρ ω = (match f ρ ω with
  | none => none
  | some (d, ω1) => match t d ρ with
    | none => none
    | some ρ1 => some (.nx ρ1, ω1)) := rfl
@[simp] theorem sSet_ap (i : Nat) (f : DE) (ρ : Ro) (ω : Wd) : sSet i f ρ ω = (match f ρ ω with
  | none => none
  | some (d, ω1) => some (.nx (ρ.set i (.val d)), ω1)) := rfl
@[simp] theorem sOwn_ap (i : Nat) (f : DA) (ρ : Ro) (ω : Wd) : sOwn i f ρ ω = (match f ρ ω with
  | none => none
  | some (ds, ω1) => some (.nx (ρ.set i (.own ds)), ω1)) := rfl
@[simp] theorem sPar_ap (i j : Nat) (f : DA) (ρ : Ro) (ω : Wd) : sPar i j f ρ ω = (match f ρ ω with
  | some ([x, y], ω1) => some (.nx ((ρ.set i (.val x)).set j (.val y)), ω1)
  | _ => none) := rfl
@[simp] theorem sAug_ap (i : Nat) (op : D → D → Option D) (f : DE) (ρ : Ro) (ω : Wd) : sAug i op f ρ ω = (match ρ[i]? with
  | some (.val x) => (match f ρ ω with
    | none => none
    | some (y, ω1) => match op x y with
      | none => none
      | some z => some (.nx (ρ.set i (.val z)), ω1))
  | _ => none) := rfl
@[simp] theorem sApp_ap (i : Nat) (f : DE) (ρ : Ro) (ω : Wd) : sApp i f ρ ω = (match f ρ ω with
  | none => none
  | some (d, ω1) => match ρ[i]? with
    | some (.own xs) => if xs.length < sizeLine then some (.nx (ρ.set i (.own (xs ++ [d]))), ω1) else none
    | _ => none) := rfl
@[simp] theorem sExt_ap (i : Nat) (f : DE) (ρ : Ro) (ω : Wd) : sExt i f ρ ω = (match f ρ ω with
  | some (.list ds, ω1) => (match ρ[i]? with
    | some (.own xs) => if xs.length + ds.length ≤ sizeLine then some (.nx (ρ.set i (.own (xs ++ ds))), ω1) else none
    | _ => none)
  | _ => none) := rfl
@[simp] theorem sPop_ap (i : Nat) (j : Option Nat) (ρ : Ro) (ω : Wd) : sPop i j ρ ω = (match ρ[i]? with
  | some (.own xs) => (match xs[xs.length - 1]? with
    | some d => some (.nx (match j with
      | none => ρ.set i (.own xs.dropLast)
      | some j => (ρ.set i (.own xs.dropLast)).set j (.val d)), ω)
    | none => none)
  | _ => none) := rfl
@[simp] theorem sSetIx_ap (i : Nat) (fk fe : DE) (ρ : Ro) (ω : Wd) : sSetIx i fk fe ρ ω = (match fe ρ ω with
  | none => none
  | some (d, ω1) => match fk ρ ω1 with
    | some (.int k, ω2) => (match ρ[i]? with
      | some (.own xs) => (match ixN xs.length k with
        | some j => some (.nx (ρ.set i (.own (xs.set j d))), ω2)
        | none => none)
      | _ => none)
    | _ => none) := rfl
@[simp] theorem sSetOb_ap (fo fk fe : DE) (ρ : Ro) (ω : Wd) : sSetOb fo fk fe ρ ω = (match fe ρ ω with
  | none => none
  | some (d, ω1) => match fo ρ ω1 with
    | none => none
    | some (x, ω2) => match obN x with
      | none => none
      | some n => match fk ρ ω2 with
        | some (.int k, ω3) => (match ω3.objs[n]? with
          | some (.lst xs) => (match ixN xs.length k with
            | some j => some (.nx ρ, ⟨ω3.live, ω3.objs.set n (.lst (xs.set j d))⟩)
            | none => none)
          | none => none)
        | _ => none) := rfl
@[simp] theorem sFrz_ap (i : Nat) (f : DS) (ρ : Ro) (ω : Wd) : sFrz i f ρ ω = (match ρ[i]? with
  | some (.own xs) => f (ρ.set i (.val (.list xs))) ω
  | _ => none) := rfl
@[simp] theorem sFor_ap (fi : DA) (g : DG) (f : DS) (ρ : Ro) (ω : Wd) : sFor fi g f ρ ω = (match fi ρ ω with
  | none => none
  | some (ds, ω1) => loopD g f ds ρ ω1) := rfl
@[simp] theorem sWhile_ap (c : DT) (f : DS) (ρ : Ro) (ω : Wd) : sWhile c f ρ ω = (whileD c f FUEL ρ ω) := rfl
@[simp] theorem iSq_ap (f : DE) (ρ : Ro) (ω : Wd) : iSq f ρ ω = (match f ρ ω with
  | some (.list ds, ω1) => some (ds, ω1)
  | some (.tuple ds, ω1) => some (ds, ω1)
  | _ => none) := rfl
@[simp] theorem iRange3_ap (a : DA) (ρ : Ro) (ω : Wd) : iRange3 a ρ ω = (match a ρ ω with
  | some ([.int i, .int j, .int c], ω1) => if rg3Ok i j c = true then some (rg3D i c (rg3N i j c), ω1) else none
  | _ => none) := rfl
@[simp] theorem eLc2N_ap (fi : DA) (fg : DG) (ft : DT) (fi1 : DA) (fg1 : DG) (ft1 : DT) (fe : DE) (vs vs1 : List Nat) (ρ : Ro) (ω : Wd) : eLc2N fi fg ft fi1 fg1 ft1 fe vs vs1 ρ ω = (match fi ρ ω with
  | none => none
  | some (ds, ω1) => match lc2D fg ft fi1 fg1 ft1 fe vs1 (wipeR ρ vs) ds ω1 with
    | none => none
    | some (xs, ω2) => if xs.length ≤ sizeLine then some (xs, ω2) else none) := rfl
@[simp] theorem sNever_ap  (ρ : Ro) (ω : Wd) : sNever  ρ ω = (none) := rfl
@[simp] theorem eTupOwn_ap (i : Nat) (ρ : Ro) (ω : Wd) : eTupOwn i ρ ω = (match ρ[i]? with
  | some (.own xs) => some (.tuple xs, ω)
  | _ => none) := rfl
/-! ## the law's own draws -/
noncomputable def bLoad : DS :=
  (sSeq (sSet 1 (eIxOb (eVar 0) (eC (.int 0))))
  (sSeq (sIf (tOfE (eBin opGt (eLenOb (eVar 1)) (eC (.int 0)))) (sSeq (sSet 2 (eCall opInt (aCons (ePopOb (eVar 1) 0) aNil)))
  (sSeq (sSet 3 (eIf (tOfE (eBin opGe (eVar 2) (eC (.int 0)))) (eBin opMul (eC (.int 2)) (eVar 2)) (eBin opSub (eBin opMul (eUn opNeg (eC (.int 2))) (eVar 2)) (eC (.int 1)))))
  (sSeq (sIf (tOfE (eBin opGe (eVar 3) (eC (.int 1000000000000000000)))) (sRet (eVar 3)) sNext)
  (sSetOb (eVar 0) (eC (.int 2)) (eBin opMod (eCall opInt (aCons (eBin opAdd (eBin opAdd (eBin opMul (eIxOb (eVar 0) (eC (.int 2))) (eC (.int 69621))) (eBin opMul (eVar 3) (eC (.int 48271)))) (eC (.int 11))) aNil)) (eC (.int 2147483647))))))) sNext)
  (sSeq (sSet 4 (eBin opMod (eCall opInt (aCons (eBin opAdd (eBin opMul (eIxOb (eVar 0) (eC (.int 2))) (eC (.int 48271))) (eC (.int 17))) aNil)) (eC (.int 2147483629))))
  (sSeq (sSet 5 (eBin opMod (eCall opInt (aCons (eBin opAdd (eBin opMul (eVar 4) (eC (.int 69621))) (eC (.int 5))) aNil)) (eC (.int 2147483587))))
  (sSeq (sSetOb (eVar 0) (eC (.int 2)) (eBin opMod (eCall opInt (aCons (eBin opAdd (eBin opMul (eVar 5) (eC (.int 40692))) (eC (.int 3))) aNil)) (eC (.int 2147483563))))
  (sRet (eBin opAdd (eBin opAdd (eBin opMul (eVar 4) (eC (.int 4611686014132420609))) (eBin opMul (eVar 5) (eC (.int 2147483647)))) (eIxOb (eVar 0) (eC (.int 2))))))))))
noncomputable def dLoad : List D → Wd → Option (D × Wd) := defD 6 bLoad
noncomputable def bDraw : DS :=
  (sSeq (sIf (tOfE (eBin opLt (eIxOb (eVar 0) (eC (.int 1))) (eVar 1))) (sSetOb (eVar 0) (eC (.int 1)) (eFun dLoad (aCons (eVar 0) aNil))) sNext)
  (sSeq (sSet 2 (eBin opMod (eCall opInt (aCons (eIxOb (eVar 0) (eC (.int 1))) aNil)) (eVar 1)))
  (sSeq (sSetOb (eVar 0) (eC (.int 1)) (eBin opDiv (eIxOb (eVar 0) (eC (.int 1))) (eVar 1)))
  (sRet (eVar 2)))))
noncomputable def dDraw : List D → Wd → Option (D × Wd) := defD 3 bDraw

theorem mulOk_l {i j : Int} (h1 : -18446744073709551616 < i) (h2 : i < 18446744073709551616) : mulOk i j = true := by
  simp [mulOk_eq, h1, h2]
theorem mulOk_r {i j : Int} (h1 : -18446744073709551616 < j) (h2 : j < 18446744073709551616) : mulOk i j = true := by
  simp [mulOk_eq, h1, h2]
/-- a box with its tail of further items -/
def bw (t : List D) (c : List Int) (n s : Int) : Wd := ⟨true, [.lst (ob 1 :: .int n :: .int s :: t), .lst (c.map PyData.int)]⟩
theorem atI0 {x : D} {xs : List D} : atI (x :: xs) 0 = some x := by
  have h : (0 : Int) < ((x :: xs).length : Int) := by rw [List.length_cons]; omega
  unfold atI ixN
  rw [if_pos (Int.le_refl 0), if_pos h]
  rfl
theorem atI1 {x y : D} {xs : List D} : atI (x :: y :: xs) 1 = some y := by
  have h : (1 : Int) < ((x :: y :: xs).length : Int) := by rw [List.length_cons, List.length_cons]; omega
  unfold atI ixN
  rw [if_pos (by decide), if_pos h]
  rfl
theorem atI2 {x y z : D} {xs : List D} : atI (x :: y :: z :: xs) 2 = some z := by
  have h : (2 : Int) < ((x :: y :: z :: xs).length : Int) := by rw [List.length_cons, List.length_cons, List.length_cons]; omega
  unfold atI ixN
  rw [if_pos (by decide), if_pos h]
  rfl
theorem ixN1 {n : Nat} : ixN (n + 1 + 1) 1 = some 1 := by
  unfold ixN
  rw [if_pos (by decide), if_pos (by omega)]
  rfl
theorem ixN2 {n : Nat} : ixN (n + 1 + 1 + 1) 2 = some 2 := by
  unfold ixN
  rw [if_pos (by decide), if_pos (by omega)]
  rfl
def mix1 (s : Int) : Int := (s * 48271 + 17) % 2147483629
def mix2 (s : Int) : Int := (mix1 s * 69621 + 5) % 2147483587
def mix3 (s : Int) : Int := (mix2 s * 40692 + 3) % 2147483563
def mixV (s : Int) : Int := mix1 s * 4611686014132420609 + mix2 s * 2147483647 + mix3 s
theorem mixV_nn (s : Int) : 0 ≤ mixV s := by
  unfold mixV mix3 mix2 mix1
  omega
theorem load_nil (t : List D) (n s : Int) : dLoad [ob 0] (bw t [] n s) = some (.int (mixV s), bw t [] n (mix3 s)) := by
  simp [dLoad, defD, bLoad, obN_ob, bw, atI0, atI1, atI2, opGt, opMod, opInt, opAdd, opMul, mulOk_r, ixN2, mixV, mix1, mix2, mix3]
def szC (x : Int) : Int := if 0 ≤ x then 2 * x else -2 * x - 1
def ldV (x s : Int) : Int := if 1000000000000000000 ≤ szC x then szC x else mixV ((s * 69621 + szC x * 48271 + 11) % 2147483647)
def ldS (x s : Int) : Int := if 1000000000000000000 ≤ szC x then s else mix3 ((s * 69621 + szC x * 48271 + 11) % 2147483647)
theorem load_cons (t : List D) (x : Int) (c : List Int) (n s : Int) : dLoad [ob 0] (bw t (x :: c) n s) = some (.int (ldV x s), bw t c n (ldS x s)) := by
  by_cases hx : 0 ≤ x
  · by_cases hz : 1000000000000000000 ≤ 2 * x
    · simp [dLoad, defD, bLoad, obN_ob, bw, atI0, atI1, atI2, opGt, opGe, opMod, opInt, opAdd, opMul, mulOk_r, mulOk_l, ixN2, ldV, ldS, szC, hx, hz]
    · simp [dLoad, defD, bLoad, obN_ob, bw, atI0, atI1, atI2, opGt, opGe, opMod, opInt, opAdd, opMul, mulOk_r, mulOk_l, ixN2, ldV, ldS, szC, hx, hz, mixV, mix1, mix2, mix3]
  · by_cases hz : 1000000000000000000 ≤ -2 * x - 1
    · simp [dLoad, defD, bLoad, obN_ob, bw, atI0, atI1, atI2, opGt, opGe, opMod, opInt, opAdd, opSub, opNeg, opMul, mulOk_r, mulOk_l, ixN2, ldV, ldS, szC, hx, hz]
    · simp [dLoad, defD, bLoad, obN_ob, bw, atI0, atI1, atI2, opGt, opGe, opMod, opInt, opAdd, opSub, opNeg, opMul, mulOk_r, mulOk_l, ixN2, ldV, ldS, szC, hx, hz, mixV, mix1, mix2, mix3]
/-- the world is a box, and nothing else -/
def BoxI (t : List D) (ω : Wd) : Prop := ∃ c n s, ω = bw t c n s
theorem draw_bw (t : List D) (c : List Int) (n s m : Int) (hm : 0 < m) (hz : m.natAbs.log2 < 9000) : ∃ v c' s', dDraw [ob 0, .int m] (bw t c n s) = some (.int (v % m), bw t c' (v / m) s') := by
  by_cases hn : n < m
  · cases c with
    | nil =>
      refine ⟨mixV s, [], mix3 s, ?_⟩
      have e := load_nil t n s
      simp only [bw, List.map_nil] at e
      simp [dDraw, defD, bDraw, obN_ob, bw, atI1, opLt, hn, e, ixN1, opInt, opMod, opDiv, hm, hz]
    | cons x c =>
      refine ⟨ldV x s, c, ldS x s, ?_⟩
      have e := load_cons t x c n s
      simp only [bw, List.map_cons] at e
      simp [dDraw, defD, bDraw, obN_ob, bw, atI1, opLt, hn, e, ixN1, opInt, opMod, opDiv, hm, hz]
  · refine ⟨n, c, s, ?_⟩
    simp [dDraw, defD, bDraw, obN_ob, bw, atI1, opLt, hn, ixN1, opInt, opMod, opDiv, hm, hz]
theorem draw_ok {t : List D} {ω : Wd} (h : BoxI t ω) {m : Int} (hm : 0 < m) (hz : m.natAbs.log2 < 9000) : ∃ d ω', dDraw [ob 0, .int m] ω = some (.int d, ω') ∧ 0 ≤ d ∧ d < m ∧ BoxI t ω' := by
  obtain ⟨c, n, s, rfl⟩ := h
  obtain ⟨v, c', s', e⟩ := draw_bw t c n s m hm hz
  exact ⟨_, _, e, Int.emod_nonneg _ (by omega), Int.emod_lt_of_pos _ hm, c', v / m, s', rfl⟩
end Dn
end

section
namespace Dn
open PySem PySem.Spec L2
/-! ## facts about the operators -/
theorem opEq_int (a b : Int) : opEq (.int a) (.int b) = some (.bool (decide (a = b))) := by
  have e : (a == b) = decide (a = b) := rfl
  simp [opEq, cmpOk, PyData.plain, PyData.depth, PyData.eqv, e]
theorem opNe_int (a b : Int) : opNe (.int a) (.int b) = some (.bool (!decide (a = b))) := by
  have e : (a == b) = decide (a = b) := rfl
  simp [opNe, cmpOk, PyData.plain, PyData.depth, PyData.eqv, e]
theorem opEq_str (a b : Str) : opEq (.str a) (.str b) = some (.bool (a == b)) := by
  simp [opEq, cmpOk, PyData.plain, PyData.depth, PyData.eqv]
theorem opEq_bool (a b : Bool) : opEq (.bool a) (.bool b) = some (.bool (a == b)) := by
  simp [opEq, cmpOk, PyData.plain, PyData.depth, PyData.eqv]
theorem atI_nat' {α : Type} {xs : List α} {k : Nat} (h : k < xs.length) : atI xs (k : Int) = some xs[k] := atI_nat (by simp [h])
theorem opIx_tup {xs : List D} {k : Nat} (h : k < xs.length) : opIx (.tuple xs) (.int (k : Int)) = some xs[k] := atI_nat' h
theorem opIx_lst {xs : List D} {k : Nat} (h : k < xs.length) : opIx (.list xs) (.int (k : Int)) = some xs[k] := atI_nat' h
/-- an item at a drawn place -/
theorem atI_mem {α : Type} {xs : List α} {i : Int} (h0 : 0 ≤ i) (h1 : i < xs.length) : ∃ d, atI xs i = some d ∧ d ∈ xs := by
  have hk : i.toNat < xs.length := by omega
  refine ⟨xs[i.toNat], ?_, List.getElem_mem hk⟩
  have q := atI_nat' hk
  rwa [show ((i.toNat : Nat) : Int) = i from by omega] at q
/-! ## comprehensions and loops that leave the store alone -/
theorem lcD_of {α : Type} {fg : DG} {ft : DT} {fe : DE} {ρ : Ro} {ω : Wd} (e : α → D) (p : α → Bool) (g : α → D) : ∀ (l : List α), (∀ a ∈ l, ∃ ρ1, fg (e a) ρ = some ρ1 ∧ ft ρ1 ω = some (p a, ω) ∧ (p a = true → fe ρ1 ω = some (g a, ω))) → lcD fg ft fe ρ (l.map e) ω = some ((l.filter p).map g, ω)
  | [], _ => rfl
  | a :: l, h => by
    obtain ⟨ρ1, h1, h2, h3⟩ := h a (List.mem_cons_self ..)
    have ih := lcD_of e p g l fun x hx => h x (List.mem_cons_of_mem _ hx)
    rw [List.map_cons]
    unfold lcD
    rw [h1]
    simp only [h2]
    cases hp : p a with
    | true =>
      rw [if_pos rfl, h3 hp]
      simp only [ih, List.filter_cons, hp, if_true, List.map_cons]
    | false =>
      rw [if_neg Bool.false_ne_true, ih, List.filter_cons, hp]
      simp
theorem lcD_map {α : Type} {fg : DG} {ft : DT} {fe : DE} {ρ : Ro} {ω : Wd} (e : α → D) (g : α → D) (l : List α) (h : ∀ a ∈ l, ∃ ρ1, fg (e a) ρ = some ρ1 ∧ ft ρ1 ω = some (true, ω) ∧ fe ρ1 ω = some (g a, ω)) : lcD fg ft fe ρ (l.map e) ω = some (l.map g, ω) := by
  have q := lcD_of (fg := fg) (ft := ft) (fe := fe) (ρ := ρ) (ω := ω) e (fun _ => true) g l fun a ha => by
    obtain ⟨ρ1, h1, h2, h3⟩ := h a ha
    exact ⟨ρ1, h1, h2, fun _ => h3⟩
  rw [q, List.filter_eq_self.mpr fun _ _ => rfl]
theorem rgD_eq (i j : Int) : rgD i j = (List.range (j - i).toNat).map fun (k : Nat) => .int (i + k) := rfl
theorem rgD0 (n : Nat) : rgD 0 (n : Int) = (List.range n).map fun (k : Nat) => .int (k : Int) := by
  unfold rgD
  simp
/-! ## _law_same -/
mutual
def dpt : D → Nat
  | .list xs => dptL xs + 1
  | .tuple xs => dptL xs + 1
  | _ => 1
def dptL : List D → Nat
  | [] => 0
  | x :: xs => max (dpt x) (dptL xs)
end
theorem dptL_mem : ∀ {xs : List D} {x : D}, x ∈ xs → dpt x ≤ dptL xs
  | y :: ys, x, h => by
    rw [dptL]
    rcases List.mem_cons.mp h with rfl | h
    · omega
    · have := dptL_mem h; omega
theorem plainAll_mem : ∀ {xs : List D} {x : D}, PyData.plainAll xs = true → x ∈ xs → x.plain = true
  | y :: ys, x, h, hx => by
    rw [PyData.plainAll, Bool.and_eq_true] at h
    rcases List.mem_cons.mp hx with rfl | hx
    · exact h.1
    · exact plainAll_mem h.2 hx
noncomputable def bSameD (rc : List D → Wd → Option (D × Wd)) : DS :=
  (sSeq (sIf (tOrD (tAndD (tOfE (eUn (opIsi "tuple") (eVar 0))) (tOfE (eUn (opIsi "tuple") (eVar 1)))) (tAndD (tOfE (eUn (opIsi "list") (eVar 0))) (tOfE (eUn (opIsi "list") (eVar 1))))) (sRet (eAnd (eBin opEq (eCall opLen (aCons (eVar 0) aNil)) (eCall opLen (aCons (eVar 1) aNil))) (eCall opAll (aCons (eOfN (eLcN (iRange (aCons (eCall opLen (aCons (eVar 0) aNil)) aNil)) (gSet 2) tYesD (eFunP rc (aCons (eBin opIx (eVar 0) (eVar 2)) (aCons (eBin opIx (eVar 1) (eVar 2)) aNil))) [2])) aNil)))) sNext)
  (sSeq (sIf (tAndD (tOfE (eUn (opIsi "dict") (eVar 0))) (tOfE (eUn (opIsi "dict") (eVar 1)))) sNever sNext)
  (sSeq (sIf (tOrD (tOfE (eUn (opIsi "bool") (eVar 0))) (tOfE (eUn (opIsi "bool") (eVar 1)))) (sRet (eAnd (eUn (opIsi "bool") (eVar 0)) (eAnd (eUn (opIsi "bool") (eVar 1)) (eBin opEq (eVar 0) (eVar 1))))) sNext)
  (sSeq (sIf (tOrD (tAndD (tOfE (eUn (opIsi "int") (eVar 0))) (tOfE (eUn (opIsi "int") (eVar 1)))) (tAndD (tOfE (eUn (opIsi "str") (eVar 0))) (tOfE (eUn (opIsi "str") (eVar 1))))) (sRet (eBin opEq (eVar 0) (eVar 1))) sNext)
  (sRet (eAnd (eBin opIsN (eVar 0) (eC .none)) (eBin opIsN (eVar 1) (eC .none))))))))
noncomputable def dSameD : Nat → List D → Wd → Option (D × Wd)
  | 0 => fun _ _ => none
  | n + 1 => defD 4 (bSameD (dSameD n))
noncomputable def bSame (rc : List D → Wd → Option (D × Wd)) : DS :=
  (sSeq (sIf (tOrD (tAndD (tOfE (eUn (opIsi "tuple") (eVar 0))) (tOfE (eUn (opIsi "tuple") (eVar 1)))) (tAndD (tOfE (eUn (opIsi "list") (eVar 0))) (tOfE (eUn (opIsi "list") (eVar 1))))) (sRet (eAnd (eBin opEq (eCall opLen (aCons (eVar 0) aNil)) (eCall opLen (aCons (eVar 1) aNil))) (eCall opAll (aCons (eOfN (eLcN (iRange (aCons (eCall opLen (aCons (eVar 0) aNil)) aNil)) (gSet 2) tYesD (eFunP rc (aCons (eBin opIx (eVar 0) (eVar 2)) (aCons (eBin opIx (eVar 1) (eVar 2)) aNil))) [2])) aNil)))) sNext)
  (sSeq (sIf (tOrD (tOfE (eUn (opIsi "bool") (eVar 0))) (tOfE (eUn (opIsi "bool") (eVar 1)))) (sRet (eAnd (eUn (opIsi "bool") (eVar 0)) (eAnd (eUn (opIsi "bool") (eVar 1)) (eBin opEq (eVar 0) (eVar 1))))) sNext)
  (sSeq (sIf (tOrD (tAndD (tOfE (eUn (opIsi "int") (eVar 0))) (tOfE (eUn (opIsi "int") (eVar 1)))) (tAndD (tOfE (eUn (opIsi "str") (eVar 0))) (tOfE (eUn (opIsi "str") (eVar 1))))) (sRet (eBin opEq (eVar 0) (eVar 1))) sNext)
  (sRet (eAnd (eBin opIsN (eVar 0) (eC .none)) (eBin opIsN (eVar 1) (eC .none)))))))
noncomputable def dSame : Nat → List D → Wd → Option (D × Wd)
  | 0 => fun _ _ => none
  | n + 1 => defD 3 (bSame (dSame n))
mutual
/-- data without objects, its sequences of a size that the model walks -/
def okD : D → Bool
  | .list xs => decide (xs.length ≤ 16777216) && okL xs
  | .tuple xs => decide (xs.length ≤ 16777216) && okL xs
  | .dict _ => false
  | _ => true
def okL : List D → Bool
  | [] => true
  | x :: xs => okD x && okL xs
end
theorem okL_mem : ∀ {xs : List D} {x : D}, okL xs = true → x ∈ xs → okD x = true
  | y :: ys, x, h, hx => by
    rw [okL, Bool.and_eq_true] at h
    rcases List.mem_cons.mp hx with rfl | hx
    · exact h.1
    · exact okL_mem h.2 hx
theorem rgOk_nat {n : Nat} (h : n ≤ 16777216) : rgOk 0 (n : Int) = true := by
  simp [rgOk_eq]; omega
theorem all_true (n : Nat) : blsOf ((List.range n).map fun (_ : Nat) => PyData.bool true) = some ((List.range n).map fun _ => true) := by
  have := blsOf_map ((List.range n).map fun (_ : Nat) => true)
  rw [List.map_map] at this
  exact this
theorem sameD_seq {rc : List D → Wd → Option (D × Wd)} {xs : List D} (hz : xs.length ≤ 16777216) (h : ∀ x ∈ xs, rc [x, x] ⟨false, []⟩ = some (.bool true, ⟨false, []⟩)) (ρ : Ro) (ω : Wd) (opx : D) (ho : ∀ k : Nat, (hk : k < xs.length) → opIx opx (.int (k : Int)) = some xs[k]) (h0 : ρ[0]? = some (.val opx)) (h1 : ρ[1]? = some (.val opx)) (h2 : 2 < ρ.length) :
    lcD (gSet 2) tYesD (eFunP rc (aCons (eBin opIx (eVar 0) (eVar 2)) (aCons (eBin opIx (eVar 1) (eVar 2)) aNil))) ρ (rgD 0 (xs.length : Int)) ω = some ((List.range xs.length).map fun _ => .bool true, ω) := by
  rw [rgD0]
  refine lcD_map _ _ _ fun k hk => ⟨ρ.set 2 (.val (.int (k : Int))), rfl, rfl, ?_⟩
  have hk : k < xs.length := List.mem_range.mp hk
  have e0 : (ρ.set 2 (.val (.int (k : Int))))[0]? = some (.val opx) := by rw [List.getElem?_set_ne (by decide)]; exact h0
  have e1 : (ρ.set 2 (.val (.int (k : Int))))[1]? = some (.val opx) := by rw [List.getElem?_set_ne (by decide)]; exact h1
  have e2 : (ρ.set 2 (.val (.int (k : Int))))[2]? = some (.val (.int (k : Int))) := by rw [List.getElem?_set_self h2]
  simp [e0, e1, e2, ho k hk, h xs[k] (List.getElem_mem hk)]
theorem sameD_sq {n : Nat} {xs : List D} {d : D} {ω : Wd} (ih : ∀ (d : D) (ω : Wd), okD d = true → dpt d ≤ n → dSameD n [d, d] ω = some (.bool true, ω)) (hz : xs.length ≤ 16777216) (hk : okL xs = true) (hd : dptL xs ≤ n) (hop : ∀ k : Nat, (hk : k < xs.length) → opIx d (.int (k : Int)) = some xs[k]) :
    lcD (gSet 2) tYesD (eFunP (dSameD n) (aCons (eBin opIx (eVar 0) (eVar 2)) (aCons (eBin opIx (eVar 1) (eVar 2)) aNil))) (wipeR [.val d, .val d, .un, .un] [2]) (rgD 0 (xs.length : Int)) ω = some ((List.range xs.length).map fun _ => .bool true, ω) :=
  sameD_seq hz (fun x hx => ih x _ (okL_mem hk hx) (Nat.le_trans (dptL_mem hx) hd)) _ ω d hop rfl rfl (by simp [wipeR])
theorem sameD_refl (n : Nat) : ∀ (d : D) (ω : Wd), okD d = true → dpt d ≤ n → dSameD n [d, d] ω = some (.bool true, ω) := by
  induction n with
  | zero => intro d ω _ h; cases d <;> simp [dpt] at h
  | succ n ih =>
    intro d ω hk h
    cases d with
    | none => simp [dSameD, defD, bSameD, opIsi, notOb, isi, opIsN, isNon]
    | bool b => simp [dSameD, defD, bSameD, opIsi, notOb, isi, opEq_bool]
    | int b => simp [dSameD, defD, bSameD, opIsi, notOb, isi, opEq_int]
    | str b => simp [dSameD, defD, bSameD, opIsi, notOb, isi, opEq_str]
    | dict _ => simp [okD] at hk
    | list xs =>
      simp [okD] at hk
      have hd : dptL xs ≤ n := by simp [dpt] at h; exact h
      have q := sameD_sq (ω := ω) ih hk.1 hk.2 hd (d := .list xs) (fun k hk => opIx_lst hk)
      simp [dSameD, defD, bSameD, opIsi, notOb, isi, opEq_int, opLen, rgOk_nat hk.1, q, opAll, all_true]
    | tuple xs =>
      simp [okD] at hk
      have hd : dptL xs ≤ n := by simp [dpt] at h; exact h
      have q := sameD_sq (ω := ω) ih hk.1 hk.2 hd (d := .tuple xs) (fun k hk => opIx_tup hk)
      simp [dSameD, defD, bSameD, opIsi, notOb, isi, opEq_int, opLen, rgOk_nat hk.1, q, opAll, all_true]
theorem same_seq {n : Nat} {xs : List D} {d : D} {ω : Wd} (ih : ∀ (d : D) (ω : Wd), okD d = true → dpt d ≤ n → dSame n [d, d] ω = some (.bool true, ω)) (hz : xs.length ≤ 16777216) (hk : okL xs = true) (hd : dptL xs ≤ n) (hop : ∀ k : Nat, (hk : k < xs.length) → opIx d (.int (k : Int)) = some xs[k]) :
    lcD (gSet 2) tYesD (eFunP (dSame n) (aCons (eBin opIx (eVar 0) (eVar 2)) (aCons (eBin opIx (eVar 1) (eVar 2)) aNil))) (wipeR [.val d, .val d, .un] [2]) (rgD 0 (xs.length : Int)) ω = some ((List.range xs.length).map fun _ => .bool true, ω) :=
  sameD_seq hz (fun x hx => ih x _ (okL_mem hk hx) (Nat.le_trans (dptL_mem hx) hd)) _ ω d hop rfl rfl (by simp [wipeR])
theorem same_refl (n : Nat) : ∀ (d : D) (ω : Wd), okD d = true → dpt d ≤ n → dSame n [d, d] ω = some (.bool true, ω) := by
  induction n with
  | zero => intro d ω _ h; cases d <;> simp [dpt] at h
  | succ n ih =>
    intro d ω hk h
    cases d with
    | none => simp [dSame, defD, bSame, opIsi, notOb, isi, opIsN, isNon]
    | bool b => simp [dSame, defD, bSame, opIsi, notOb, isi, opEq_bool]
    | int b => simp [dSame, defD, bSame, opIsi, notOb, isi, opEq_int]
    | str b => simp [dSame, defD, bSame, opIsi, notOb, isi, opEq_str]
    | dict _ => simp [okD] at hk
    | list xs =>
      simp [okD] at hk
      have hd : dptL xs ≤ n := by simp [dpt] at h; exact h
      have q := same_seq (ω := ω) ih hk.1 hk.2 hd (d := .list xs) (fun k hk => opIx_lst hk)
      simp [dSame, defD, bSame, opIsi, notOb, isi, opEq_int, opLen, rgOk_nat hk.1, q, opAll, all_true]
    | tuple xs =>
      simp [okD] at hk
      have hd : dptL xs ≤ n := by simp [dpt] at h; exact h
      have q := same_seq (ω := ω) ih hk.1 hk.2 hd (d := .tuple xs) (fun k hk => opIx_tup hk)
      simp [dSame, defD, bSame, opIsi, notOb, isi, opEq_int, opLen, rgOk_nat hk.1, q, opAll, all_true]
end Dn
end

section
namespace Dn
open PySem PySem.Spec L2
/-! ## what a text gives at any box: the draws are free -/
def WE (t : List D) (f : DE) (ρ : Ro) (P : D → Prop) : Prop := ∀ ω, BoxI t ω → ∃ d ω', f ρ ω = some (d, ω') ∧ BoxI t ω' ∧ P d
def WA (t : List D) (f : DA) (ρ : Ro) (P : List D → Prop) : Prop := ∀ ω, BoxI t ω → ∃ d ω', f ρ ω = some (d, ω') ∧ BoxI t ω' ∧ P d
def WT (t : List D) (f : DT) (ρ : Ro) (P : Bool → Prop) : Prop := ∀ ω, BoxI t ω → ∃ d ω', f ρ ω = some (d, ω') ∧ BoxI t ω' ∧ P d
/-- how a statement ends: `Q` where it goes on, `R` where it returns -/
def OutP (Q : Ro → Prop) (R : D → Prop) : Out → Prop
  | .nx ρ => Q ρ
  | .ct ρ => Q ρ
  | .rt d => R d
  | _ => False
def WS (t : List D) (f : DS) (ρ : Ro) (Q : Ro → Prop) (R : D → Prop) : Prop := ∀ ω, BoxI t ω → ∃ ρ' ω', BoxI t ω' ∧ ((f ρ ω = some (.nx ρ', ω') ∧ Q ρ') ∨ ∃ d, f ρ ω = some (.rt d, ω') ∧ R d)
def IntIn (lo hi : Int) (d : D) : Prop := ∃ i, d = .int i ∧ lo ≤ i ∧ i < hi
def NatD (d : D) : Prop := ∃ i, d = .int i ∧ 0 ≤ i
def AllP (n : Nat) (P : D → Prop) (ds : List D) : Prop := ds.length = n ∧ ∀ d ∈ ds, P d
variable {t : List D} {ρ : Ro}
theorem WE.mono {f : DE} {P P' : D → Prop} (h : WE t f ρ P) (k : ∀ d, P d → P' d) : WE t f ρ P' := fun ω i => by
  obtain ⟨d, ω', e, i', p⟩ := h ω i
  exact ⟨d, ω', e, i', k d p⟩
theorem WA.mono {f : DA} {P P' : List D → Prop} (h : WA t f ρ P) (k : ∀ d, P d → P' d) : WA t f ρ P' := fun ω i => by
  obtain ⟨d, ω', e, i', p⟩ := h ω i
  exact ⟨d, ω', e, i', k d p⟩
theorem WE.pure {f : DE} {P : D → Prop} (d : D) (h : ∀ ω, f ρ ω = some (d, ω)) (p : P d) : WE t f ρ P := fun ω i => ⟨d, ω, h ω, i, p⟩
theorem WE.c {d : D} {P : D → Prop} (p : P d) : WE t (eC d) ρ P := .pure d (fun _ => rfl) p
theorem WE.v {i : Nat} {d : D} {P : D → Prop} (h : ρ[i]? = some (.val d)) (p : P d) : WE t (eVar i) ρ P := .pure d (fun ω => by rw [eVar_ap, h]) p
theorem WE.ofA {f : DA} {P : D → Prop} {P' : List D → Prop} (h : WA t f ρ P') (k : ∀ ds, P' ds → P (.list ds)) : WE t (eOfN f) ρ P := fun ω i => by
  obtain ⟨d, ω', e, i', p⟩ := h ω i
  exact ⟨.list d, ω', by rw [eOfN_ap, e], i', k _ p⟩
theorem WE.bin {op : D → D → Option D} {f g : DE} {P Q R : D → Prop} (h1 : WE t f ρ P) (h2 : WE t g ρ Q) (k : ∀ x y, P x → Q y → ∃ z, op x y = some z ∧ R z) : WE t (eBin op f g) ρ R := fun ω i => by
  obtain ⟨x, ω1, e1, i1, p1⟩ := h1 ω i
  obtain ⟨y, ω2, e2, i2, p2⟩ := h2 ω1 i1
  obtain ⟨z, e3, p3⟩ := k x y p1 p2
  exact ⟨z, ω2, by simp [e1, e2, e3], i2, p3⟩
theorem WE.un {op : D → Option D} {f : DE} {P R : D → Prop} (h1 : WE t f ρ P) (k : ∀ x, P x → ∃ z, op x = some z ∧ R z) : WE t (eUn op f) ρ R := fun ω i => by
  obtain ⟨x, ω1, e1, i1, p1⟩ := h1 ω i
  obtain ⟨z, e3, p3⟩ := k x p1
  exact ⟨z, ω1, by simp [e1, e3], i1, p3⟩
theorem WA.nil : WA t aNil ρ (fun ds => ds = []) := fun ω i => ⟨[], ω, rfl, i, rfl⟩
theorem WA.cons {f : DE} {a : DA} {P : D → Prop} {Q : List D → Prop} (h1 : WE t f ρ P) (h2 : WA t a ρ Q) : WA t (aCons f a) ρ (fun ds => ∃ d l, ds = d :: l ∧ P d ∧ Q l) := fun ω i => by
  obtain ⟨x, ω1, e1, i1, p1⟩ := h1 ω i
  obtain ⟨y, ω2, e2, i2, p2⟩ := h2 ω1 i1
  exact ⟨x :: y, ω2, by simp [e1, e2], i2, x, y, rfl, p1, p2⟩
theorem WA.nilP {P : D → Prop} : WA t aNil ρ (AllP 0 P) := fun ω i => ⟨[], ω, rfl, i, rfl, by simp⟩
theorem WA.consP {f : DE} {a : DA} {P : D → Prop} {n : Nat} (h1 : WE t f ρ P) (h2 : WA t a ρ (AllP n P)) : WA t (aCons f a) ρ (AllP (n + 1) P) := fun ω i => by
  obtain ⟨x, ω1, e1, i1, p1⟩ := h1 ω i
  obtain ⟨y, ω2, e2, i2, hl, p2⟩ := h2 ω1 i1
  refine ⟨x :: y, ω2, by simp [e1, e2], i2, by rw [List.length_cons, hl], fun d hd => ?_⟩
  rcases List.mem_cons.mp hd with rfl | hd
  · exact p1
  · exact p2 d hd
theorem WE.tup {a : DA} {P : D → Prop} {Q : List D → Prop} (h : WA t a ρ Q) (k : ∀ l, Q l → P (.tuple l)) : WE t (eTup a) ρ P := fun ω i => by
  obtain ⟨x, ω1, e1, i1, p1⟩ := h ω i
  exact ⟨.tuple x, ω1, by simp [e1], i1, k x p1⟩
theorem WE.lst {a : DA} {P : D → Prop} {Q : List D → Prop} (h : WA t a ρ Q) (k : ∀ l, Q l → P (.list l)) : WE t (eLst a) ρ P := fun ω i => by
  obtain ⟨x, ω1, e1, i1, p1⟩ := h ω i
  exact ⟨.list x, ω1, by simp [e1], i1, k x p1⟩
theorem WE.call {op : List D → Option D} {a : DA} {P : D → Prop} {Q : List D → Prop} (h : WA t a ρ Q) (k : ∀ l, Q l → ∃ z, op l = some z ∧ P z) : WE t (eCall op a) ρ P := fun ω i => by
  obtain ⟨x, ω1, e1, i1, p1⟩ := h ω i
  obtain ⟨z, e2, p2⟩ := k x p1
  exact ⟨z, ω1, by simp [e1, e2], i1, p2⟩
theorem WE.fn {f : List D → Wd → Option (D × Wd)} {a : DA} {P : D → Prop} {Q : List D → Prop} (h : WA t a ρ Q) (k : ∀ l, Q l → ∀ ω, BoxI t ω → ∃ d ω', f l ω = some (d, ω') ∧ BoxI t ω' ∧ P d) : WE t (eFun f a) ρ P := fun ω i => by
  obtain ⟨x, ω1, e1, i1, p1⟩ := h ω i
  obtain ⟨d, ω', e2, i2, p2⟩ := k x p1 ω1 i1
  exact ⟨d, ω', by simp [e1, e2], i2, p2⟩
/-- one draw -/
theorem WE.draw {i : Nat} {g : DE} (m : Int) (h0 : ρ[i]? = some (.val (ob 0))) (hg : ∀ ω, g ρ ω = some (.int m, ω)) (hm : 0 < m) (hz : m.natAbs.log2 < 9000) : WE t (eFun dDraw (aCons (eVar i) (aCons g aNil))) ρ (IntIn 0 m) := fun ω ib => by
  obtain ⟨d, ω', e, h1, h2, i2⟩ := draw_ok ib hm hz
  exact ⟨.int d, ω', by simp [h0, hg, e], i2, d, rfl, h1, h2⟩
/-- an item of a written list, at a drawn place -/
theorem WE.pick {a : DA} {g : DE} {P : D → Prop} (n : Nat) (h : WA t a ρ (AllP n P)) (hg : WE t g ρ (IntIn 0 n)) : WE t (eBin opIx (eLst a) g) ρ P := by
  refine WE.bin (WE.lst h (P := fun d => ∃ l, d = .list l ∧ AllP n P l) fun l hl => ⟨l, rfl, hl⟩) hg ?_
  rintro x y ⟨l, rfl, hl, hp⟩ ⟨i, rfl, h0, h1⟩
  obtain ⟨d, e, hd⟩ := atI_mem (xs := l) h0 (by rw [hl]; exact h1)
  exact ⟨d, e, hp d hd⟩
theorem WT.ofE {f : DE} {P : Bool → Prop} (h : WE t f ρ (fun d => ∃ c, d = .bool c ∧ P c)) : WT t (tOfE f) ρ P := fun ω i => by
  obtain ⟨d, ω', e, i', c, rfl, p⟩ := h ω i
  exact ⟨c, ω', by simp [e], i', p⟩
theorem WT.and {f g : DT} {P P' Q : Bool → Prop} (h : WT t f ρ P) (h' : P true → WT t g ρ P') (kf : P false → Q false) (kt : P true → ∀ c, P' c → Q c) : WT t (tAndD f g) ρ Q := fun ω i => by
  obtain ⟨c, ω1, e1, i1, p1⟩ := h ω i
  cases c with
  | false => exact ⟨false, ω1, by simp [e1], i1, kf p1⟩
  | true =>
    obtain ⟨c, ω2, e2, i2, p2⟩ := h' p1 ω1 i1
    exact ⟨c, ω2, by simp [e1, e2], i2, kt p1 c p2⟩
/-! statements -/
variable {Q Q' : Ro → Prop} {R : D → Prop}
theorem WS.mono {f : DS} (h : WS t f ρ Q R) (k : ∀ ρ', Q ρ' → Q' ρ') : WS t f ρ Q' R := fun ω i => by
  obtain ⟨ρ', ω', i', h | h⟩ := h ω i
  · exact ⟨ρ', ω', i', .inl ⟨h.1, k _ h.2⟩⟩
  · exact ⟨ρ', ω', i', .inr h⟩
theorem WS.next (h : Q ρ) : WS t sNext ρ Q R := fun ω i => ⟨ρ, ω, i, .inl ⟨rfl, h⟩⟩
theorem WS.seq {f g : DS} (h : WS t f ρ Q' R) (k : ∀ ρ', Q' ρ' → WS t g ρ' Q R) : WS t (sSeq f g) ρ Q R := fun ω i => by
  obtain ⟨ρ1, ω1, i1, ⟨e1, q1⟩ | ⟨d, e1, r1⟩⟩ := h ω i
  · obtain ⟨ρ2, ω2, i2, ⟨e2, q2⟩ | ⟨d, e2, r2⟩⟩ := k ρ1 q1 ω1 i1
    · exact ⟨ρ2, ω2, i2, .inl ⟨by simp [e1, e2], q2⟩⟩
    · exact ⟨ρ2, ω2, i2, .inr ⟨d, by simp [e1, e2], r2⟩⟩
  · exact ⟨ρ1, ω1, i1, .inr ⟨d, by simp [e1], r1⟩⟩
theorem WS.set {i : Nat} {f : DE} {P : D → Prop} (h : WE t f ρ P) (k : ∀ d, P d → Q (ρ.set i (.val d))) : WS t (sSet i f) ρ Q R := fun ω ib => by
  obtain ⟨d, ω', e, i', p⟩ := h ω ib
  exact ⟨ρ.set i (.val d), ω', i', .inl ⟨by simp [e], k d p⟩⟩
theorem WS.setThen {i : Nat} {f : DE} {g : DS} {P : D → Prop} (h : WE t f ρ P) (k : ∀ d, P d → WS t g (ρ.set i (.val d)) Q R) : WS t (sSeq (sSet i f) g) ρ Q R := by
  refine WS.seq (WS.set (Q := fun ρ' => ∃ d, P d ∧ ρ' = ρ.set i (.val d)) h fun d p => ⟨d, p, rfl⟩) ?_
  rintro ρ' ⟨d, p, rfl⟩
  exact k d p
theorem WS.own {i : Nat} {f : DA} {P : List D → Prop} (h : WA t f ρ P) (k : ∀ d, P d → Q (ρ.set i (.own d))) : WS t (sOwn i f) ρ Q R := fun ω ib => by
  obtain ⟨d, ω', e, i', p⟩ := h ω ib
  exact ⟨ρ.set i (.own d), ω', i', .inl ⟨by simp [e], k d p⟩⟩
theorem WS.ownThen {i : Nat} {f : DA} {g : DS} {P : List D → Prop} (h : WA t f ρ P) (k : ∀ d, P d → WS t g (ρ.set i (.own d)) Q R) : WS t (sSeq (sOwn i f) g) ρ Q R := by
  refine WS.seq (WS.own (Q := fun ρ' => ∃ d, P d ∧ ρ' = ρ.set i (.own d)) h fun d p => ⟨d, p, rfl⟩) ?_
  rintro ρ' ⟨d, p, rfl⟩
  exact k d p
theorem WS.app {i : Nat} {f : DE} {P : D → Prop} {xs : List D} (h : WE t f ρ P) (hx : ρ[i]? = some (.own xs)) (hz : xs.length < 16777216) (k : ∀ d, P d → Q (ρ.set i (.own (xs ++ [d])))) : WS t (sApp i f) ρ Q R := fun ω ib => by
  obtain ⟨d, ω', e, i', p⟩ := h ω ib
  have hz' : xs.length < sizeLine := Nat.lt_of_lt_of_le hz (by decide)
  exact ⟨ρ.set i (.own (xs ++ [d])), ω', i', .inl ⟨by simp [e, hx, hz'], k d p⟩⟩
theorem WS.appThen {i : Nat} {f : DE} {g : DS} {P : D → Prop} {xs : List D} (h : WE t f ρ P) (hx : ρ[i]? = some (.own xs)) (hz : xs.length < 16777216) (k : ∀ d, P d → WS t g (ρ.set i (.own (xs ++ [d]))) Q R) : WS t (sSeq (sApp i f) g) ρ Q R := by
  refine WS.seq (WS.app (Q := fun ρ' => ∃ d, P d ∧ ρ' = ρ.set i (.own (xs ++ [d]))) h hx hz fun d p => ⟨d, p, rfl⟩) ?_
  rintro ρ' ⟨d, p, rfl⟩
  exact k d p
theorem WS.ite {c : DT} {f g : DS} {P : Bool → Prop} (h : WT t c ρ P) (k1 : P true → WS t f ρ Q R) (k2 : P false → WS t g ρ Q R) : WS t (sIf c f g) ρ Q R := fun ω i => by
  obtain ⟨c, ω1, e1, i1, p1⟩ := h ω i
  cases c with
  | true =>
    obtain ⟨ρ2, ω2, i2, ⟨e2, q2⟩ | ⟨d, e2, r2⟩⟩ := k1 p1 ω1 i1
    · exact ⟨ρ2, ω2, i2, .inl ⟨by simp [e1, e2], q2⟩⟩
    · exact ⟨ρ2, ω2, i2, .inr ⟨d, by simp [e1, e2], r2⟩⟩
  | false =>
    obtain ⟨ρ2, ω2, i2, ⟨e2, q2⟩ | ⟨d, e2, r2⟩⟩ := k2 p1 ω1 i1
    · exact ⟨ρ2, ω2, i2, .inl ⟨by simp [e1, e2], q2⟩⟩
    · exact ⟨ρ2, ω2, i2, .inr ⟨d, by simp [e1, e2], r2⟩⟩
theorem WS.ret {f : DE} (h : WE t f ρ R) : WS t (sRet f) ρ Q R := fun ω i => by
  obtain ⟨d, ω', e, i', p⟩ := h ω i
  exact ⟨ρ, ω', i', .inr ⟨d, by simp [e], p⟩⟩
theorem WS.loop {g : DG} {f : DS} {P : D → Prop} (I : Nat → Ro → Prop) (n : Nat) (hk : ∀ k ρ d, k < n → I k ρ → P d → ∃ ρ1, g d ρ = some ρ1 ∧ WS t f ρ1 (I (k + 1)) R) : ∀ (ds : List D) (k : Nat) (ρ : Ro), k + ds.length ≤ n → (∀ d ∈ ds, P d) → I k ρ → WS t (loopD g f ds) ρ (I (k + ds.length)) R
  | [], k, ρ, _, _, h => fun ω i => ⟨ρ, ω, i, .inl ⟨rfl, h⟩⟩
  | d :: ds, k, ρ, hn, hp, h => fun ω i => by
    rw [List.length_cons] at hn
    obtain ⟨ρ1, e0, w⟩ := hk k ρ d (by omega) h (hp d (List.mem_cons_self ..))
    unfold loopD
    rw [e0]
    obtain ⟨ρ2, ω2, i2, ⟨e2, q2⟩ | ⟨x, e2, r2⟩⟩ := w ω i
    · have := WS.loop I n hk ds (k + 1) ρ2 (by omega) (fun d hd => hp d (List.mem_cons_of_mem _ hd)) q2 ω2 i2
      rw [List.length_cons, show k + (ds.length + 1) = k + 1 + ds.length from by omega]
      simp only [e2]
      exact this
    · exact ⟨ρ2, ω2, i2, .inr ⟨x, by simp only [e2], r2⟩⟩
theorem WS.for' {fi : DA} {g : DG} {f : DS} {P : D → Prop} (I : Nat → Ro → Prop) (n : Nat) (hi : WA t fi ρ (fun ds => ds.length ≤ n ∧ ∀ d ∈ ds, P d)) (h0 : I 0 ρ) (hk : ∀ k ρ d, k < n → I k ρ → P d → ∃ ρ1, g d ρ = some ρ1 ∧ WS t f ρ1 (I (k + 1)) R) (hQ : ∀ k ρ, k ≤ n → I k ρ → Q ρ) : WS t (sFor fi g f) ρ Q R := fun ω i => by
  obtain ⟨ds, ω1, e1, i1, hn, hp⟩ := hi ω i
  obtain ⟨ρ2, ω2, i2, h | h⟩ := WS.loop I n hk ds 0 ρ (by omega) hp h0 ω1 i1
  · exact ⟨ρ2, ω2, i2, .inl ⟨by simp [e1, h.1], hQ _ _ (by omega) h.2⟩⟩
  · exact ⟨ρ2, ω2, i2, .inr (by simp [e1]; exact h)⟩
/-- a loop over `range(m)` with a drawn end -/
theorem WA.range {g : DE} (n : Nat) (hn : n ≤ 16777216) (h : WE t g ρ (IntIn 0 (n + 1))) : WA t (iRange (aCons g aNil)) ρ (fun ds => ds.length ≤ n ∧ ∀ d ∈ ds, IntIn 0 n d) := fun ω i => by
  obtain ⟨d, ω1, e1, i1, j, rfl, h0, h1⟩ := h ω i
  have ok : rgOk 0 j = true := by
    have := rgOk_nat (n := j.toNat) (by omega)
    rwa [show ((j.toNat : Nat) : Int) = j from by omega] at this
  refine ⟨rgD 0 j, ω1, by simp [e1, ok], i1, by unfold rgD; simp; omega, fun d hd => ?_⟩
  unfold rgD at hd
  obtain ⟨k, hk, rfl⟩ := List.mem_map.mp hd
  have := List.mem_range.mp hk
  exact ⟨_, rfl, by omega, by omega⟩
/-- a whole function -/
theorem WS.fnD {m : Nat} {f : DS} {ds : List D} {P : D → Prop} (h : WS t f (ds.map SV.val ++ List.replicate (m - ds.length) .un) (fun _ => P .none) P) : ∀ ω, BoxI t ω → ∃ d ω', defD m f ds ω = some (d, ω') ∧ BoxI t ω' ∧ P d := fun ω i => by
  obtain ⟨ρ', ω', i', ⟨e, q⟩ | ⟨d, e, r⟩⟩ := h ω i
  · exact ⟨.none, ω', by unfold defD; rw [e], i', q⟩
  · exact ⟨d, ω', by unfold defD; rw [e], i', r⟩
/-- a loop that leaves the store alone, as a fold -/
theorem loop_fold {α σ : Type} {g : DG} {f : DS} {ω : Wd} (e : α → D) (sh : σ → Ro) (step : σ → α → σ) (J : Nat → σ → Prop) : ∀ (l : List α) (k : Nat) (s : σ) , J k s → (∀ k s a, a ∈ l → J k s → ∃ ρ1, g (e a) (sh s) = some ρ1 ∧ f ρ1 ω = some (.nx (sh (step s a)), ω) ∧ J (k + 1) (step s a)) → loopD g f (l.map e) (sh s) ω = some (.nx (sh (l.foldl step s)), ω)
  | [], _, _, _, _ => rfl
  | a :: l, k, s, hj, h => by
    obtain ⟨ρ1, e1, e2, j⟩ := h k s a (List.mem_cons_self ..) hj
    rw [List.map_cons]
    unfold loopD
    rw [e1]
    simp only [e2]
    exact loop_fold e sh step J l (k + 1) (step s a) j fun k s b hb hj => h k s b (List.mem_cons_of_mem _ hb) hj
end Dn
end

section
namespace G_k62
open PySem PySem.Spec L2 Dn
set_option maxHeartbeats 0
/-! ## the text by places -/
def top (i : Nat) : Stmt := PySem.Challenge.pw_onewatcher_k62_great_payments.main.body.getD i (.Pass ⟨0, 0, 0, 0⟩)
abbrev s_input_of : Stmt := top 1
abbrev s_payments : Stmt := top 2
abbrev s__law_same : Stmt := top 4
abbrev s__law_box : Stmt := top 5
abbrev s__law_load : Stmt := top 6
abbrev s__law_draw : Stmt := top 7
abbrev s__law_entries : Stmt := top 8
abbrev s__law_words : Stmt := top 9
abbrev s__law_due : Stmt := top 10
abbrev s_law : Stmt := top 11
abbrev N_input_of : List Str := ["entries", "entry", "word"]
abbrev N_payments : List Str := ["members", "rest", "entries", "status", "words", "left", "paid", "k", "amount", "entry"]
abbrev N__law_same : List Str := ["a", "b", "k", "key"]
abbrev N__law_box : List Str := ["script", "nodes"]
abbrev N__law_load : List Str := ["box", "cells", "cell", "size", "first", "second"]
abbrev N__law_draw : List Str := ["box", "many", "digit"]
abbrev N__law_entries : List Str := ["box", "many", "found", "k", "amount"]
abbrev N__law_words : List Str := ["box", "many", "pot", "words", "small", "k"]
abbrev N__law_due : List Str := ["members", "rest", "entries", "status", "words", "left", "due", "k", "amount", "entry"]
abbrev N_law : List Str := ["script", "box", "many", "members", "rest", "entries", "pot", "words", "status", "flat", "entry", "due", "left", "told", "k", "name", "amount"]
/-! ## the denotations -/
noncomputable def b_input_of : DS :=
  (sRet (eCall opTuple (aCons (eOfN (eLc2N (iSq (eVar 0)) (gSet 1) tYesD (iSq (eVar 1)) (gSet 2) tYesD (eVar 2) [1, 2] [2])) aNil)))
noncomputable def d_input_of : List D → Wd → Option (D × Wd) := defD 3 b_input_of
noncomputable def b_payments : DS :=
  (sSeq (sIf (tOrD (tOfE (eBin opNe (eVar 3) (eC (.int 1)))) (tOfE (eBin opEq (eBin opMod (eCall opLen (aCons (eVar 4) aNil)) (eC (.int 2))) (eC (.int 1))))) (sRet (eTup (aCons (eCall opTuple (aCons (eOfN (eLcN (iSq (eVar 2)) (gSet 9) tYesD (eTup (aCons (eBin opIx (eVar 0) (eBin opIx (eVar 9) (eC (.int 0)))) (aCons (eBin opIx (eVar 9) (eC (.int 1))) aNil))) [9])) aNil)) (aCons (eVar 1) aNil)))) sNext)
  (sSeq (sSet 5 (eBin opAdd (eVar 1) (eCall opSum (aCons (eOfN (eLcN (iSq (eVar 2)) (gSet 9) tYesD (eBin opIx (eVar 9) (eC (.int 1))) [9])) aNil))))
  (sSeq (sOwn 6 aNil)
  (sSeq (sFor (iRange3 (aCons (eC (.int 0)) (aCons (eCall opLen (aCons (eVar 4) aNil)) (aCons (eC (.int 2)) aNil)))) (gSet 7) (sIf (tOfE (eBin opLt (eBin opIx (eVar 4) (eVar 7)) (eCall opLen (aCons (eVar 0) aNil)))) (sSeq (sSet 8 (eCall opMin2 (aCons (eBin opIx (eVar 4) (eBin opAdd (eVar 7) (eC (.int 1)))) (aCons (eVar 5) aNil))))
  (sSeq (sApp 6 (eTup (aCons (eBin opIx (eVar 0) (eBin opIx (eVar 4) (eVar 7))) (aCons (eVar 8) aNil))))
  (sSet 5 (eBin opSub (eVar 5) (eVar 8))))) sNext))
  (sRet (eTup (aCons (eTupOwn 6) (aCons (eVar 5) aNil))))))))
noncomputable def d_payments : List D → Wd → Option (D × Wd) := defD 10 b_payments
noncomputable def b__law_same (rc : List D → Wd → Option (D × Wd)) : DS :=
  (sSeq (sIf (tOrD (tAndD (tOfE (eUn (opIsi "tuple") (eVar 0))) (tOfE (eUn (opIsi "tuple") (eVar 1)))) (tAndD (tOfE (eUn (opIsi "list") (eVar 0))) (tOfE (eUn (opIsi "list") (eVar 1))))) (sRet (eAnd (eBin opEq (eCall opLen (aCons (eVar 0) aNil)) (eCall opLen (aCons (eVar 1) aNil))) (eCall opAll (aCons (eOfN (eLcN (iRange (aCons (eCall opLen (aCons (eVar 0) aNil)) aNil)) (gSet 2) tYesD (eFunP rc (aCons (eBin opIx (eVar 0) (eVar 2)) (aCons (eBin opIx (eVar 1) (eVar 2)) aNil))) [2])) aNil)))) sNext)
  (sSeq (sIf (tAndD (tOfE (eUn (opIsi "dict") (eVar 0))) (tOfE (eUn (opIsi "dict") (eVar 1)))) sNever sNext)
  (sSeq (sIf (tOrD (tOfE (eUn (opIsi "bool") (eVar 0))) (tOfE (eUn (opIsi "bool") (eVar 1)))) (sRet (eAnd (eUn (opIsi "bool") (eVar 0)) (eAnd (eUn (opIsi "bool") (eVar 1)) (eBin opEq (eVar 0) (eVar 1))))) sNext)
  (sSeq (sIf (tOrD (tAndD (tOfE (eUn (opIsi "int") (eVar 0))) (tOfE (eUn (opIsi "int") (eVar 1)))) (tAndD (tOfE (eUn (opIsi "str") (eVar 0))) (tOfE (eUn (opIsi "str") (eVar 1))))) (sRet (eBin opEq (eVar 0) (eVar 1))) sNext)
  (sRet (eAnd (eBin opIsN (eVar 0) (eC .none)) (eBin opIsN (eVar 1) (eC .none))))))))
noncomputable def d__law_same : Nat → List D → Wd → Option (D × Wd)
  | 0 => fun _ _ => none
  | n + 1 => defD 4 (b__law_same (d__law_same n))
noncomputable def b__law_load : DS :=
  (sSeq (sSet 1 (eIxOb (eVar 0) (eC (.int 0))))
  (sSeq (sIf (tOfE (eBin opGt (eLenOb (eVar 1)) (eC (.int 0)))) (sSeq (sSet 2 (eCall opInt (aCons (ePopOb (eVar 1) 0) aNil)))
  (sSeq (sSet 3 (eIf (tOfE (eBin opGe (eVar 2) (eC (.int 0)))) (eBin opMul (eC (.int 2)) (eVar 2)) (eBin opSub (eBin opMul (eUn opNeg (eC (.int 2))) (eVar 2)) (eC (.int 1)))))
  (sSeq (sIf (tOfE (eBin opGe (eVar 3) (eC (.int 1000000000000000000)))) (sRet (eVar 3)) sNext)
  (sSetOb (eVar 0) (eC (.int 2)) (eBin opMod (eCall opInt (aCons (eBin opAdd (eBin opAdd (eBin opMul (eIxOb (eVar 0) (eC (.int 2))) (eC (.int 69621))) (eBin opMul (eVar 3) (eC (.int 48271)))) (eC (.int 11))) aNil)) (eC (.int 2147483647))))))) sNext)
  (sSeq (sSet 4 (eBin opMod (eCall opInt (aCons (eBin opAdd (eBin opMul (eIxOb (eVar 0) (eC (.int 2))) (eC (.int 48271))) (eC (.int 17))) aNil)) (eC (.int 2147483629))))
  (sSeq (sSet 5 (eBin opMod (eCall opInt (aCons (eBin opAdd (eBin opMul (eVar 4) (eC (.int 69621))) (eC (.int 5))) aNil)) (eC (.int 2147483587))))
  (sSeq (sSetOb (eVar 0) (eC (.int 2)) (eBin opMod (eCall opInt (aCons (eBin opAdd (eBin opMul (eVar 5) (eC (.int 40692))) (eC (.int 3))) aNil)) (eC (.int 2147483563))))
  (sRet (eBin opAdd (eBin opAdd (eBin opMul (eVar 4) (eC (.int 4611686014132420609))) (eBin opMul (eVar 5) (eC (.int 2147483647)))) (eIxOb (eVar 0) (eC (.int 2))))))))))
noncomputable def d__law_load : List D → Wd → Option (D × Wd) := defD 6 b__law_load
noncomputable def b__law_draw : DS :=
  (sSeq (sIf (tOfE (eBin opLt (eIxOb (eVar 0) (eC (.int 1))) (eVar 1))) (sSetOb (eVar 0) (eC (.int 1)) (eFun d__law_load (aCons (eVar 0) aNil))) sNext)
  (sSeq (sSet 2 (eBin opMod (eCall opInt (aCons (eIxOb (eVar 0) (eC (.int 1))) aNil)) (eVar 1)))
  (sSeq (sSetOb (eVar 0) (eC (.int 1)) (eBin opDiv (eIxOb (eVar 0) (eC (.int 1))) (eVar 1)))
  (sRet (eVar 2)))))
noncomputable def d__law_draw : List D → Wd → Option (D × Wd) := defD 3 b__law_draw
noncomputable def b__law_entries : DS :=
  (sSeq (sOwn 2 aNil)
  (sSeq (sFor (iRange (aCons (eBin opIx (eLst (aCons (eC (.int 21)) (aCons (eFun d__law_draw (aCons (eVar 0) (aCons (eC (.int 22)) aNil))) aNil))) (eFun d__law_draw (aCons (eVar 0) (aCons (eC (.int 2)) aNil)))) aNil)) (gSet 3) (sSeq (sSet 4 (eBin opIx (eLst (aCons (eC (.int 1)) (aCons (eC (.int 4294967295)) (aCons (eBin opAdd (eC (.int 1)) (eFun d__law_draw (aCons (eVar 0) (aCons (eC (.int 4294967295)) aNil)))) aNil)))) (eFun d__law_draw (aCons (eVar 0) (aCons (eC (.int 3)) aNil)))))
  (sApp 2 (eTup (aCons (eFun d__law_draw (aCons (eVar 0) (aCons (eVar 1) aNil))) (aCons (eVar 4) (aCons (eBin opIx (eLst (aCons (eC (.int 0)) (aCons (eC (.int 4294967295)) (aCons (eFun d__law_draw (aCons (eVar 0) (aCons (eC (.int 4294967296)) aNil))) aNil)))) (eFun d__law_draw (aCons (eVar 0) (aCons (eC (.int 3)) aNil)))) aNil)))))))
  (sRet (eTupOwn 2))))
noncomputable def d__law_entries : List D → Wd → Option (D × Wd) := defD 5 b__law_entries
noncomputable def b__law_words : DS :=
  (sSeq (sOwn 3 aNil)
  (sSeq (sSet 4 (eBin opIx (eLst (aCons (eC (.int 3)) (aCons (eC (.int 50)) (aCons (eC (.int 4294967296)) aNil)))) (eFun d__law_draw (aCons (eVar 0) (aCons (eC (.int 3)) aNil)))))
  (sSeq (sFor (iRange (aCons (eBin opIx (eLst (aCons (eC (.int 512)) (aCons (eFun d__law_draw (aCons (eVar 0) (aCons (eC (.int 513)) aNil))) aNil))) (eFun d__law_draw (aCons (eVar 0) (aCons (eC (.int 2)) aNil)))) aNil)) (gSet 5) (sSeq (sApp 3 (eBin opIx (eLst (aCons (eFun d__law_draw (aCons (eVar 0) (aCons (eVar 1) aNil))) (aCons (eVar 1) (aCons (eFun d__law_draw (aCons (eVar 0) (aCons (eC (.int 4294967296)) aNil))) aNil)))) (eBin opIx (eLst (aCons (eC (.int 0)) (aCons (eC (.int 0)) (aCons (eC (.int 0)) (aCons (eC (.int 0)) (aCons (eC (.int 1)) (aCons (eC (.int 2)) aNil))))))) (eFun d__law_draw (aCons (eVar 0) (aCons (eC (.int 6)) aNil))))))
  (sApp 3 (eBin opIx (eLst (aCons (eFun d__law_draw (aCons (eVar 0) (aCons (eVar 4) aNil))) (aCons (eCall opMin2 (aCons (eVar 2) (aCons (eC (.int 4294967295)) aNil))) aNil))) (eCall opInt (aCons (eBin opEq (eFun d__law_draw (aCons (eVar 0) (aCons (eC (.int 40)) aNil))) (eC (.int 0))) aNil))))))
  (sSeq (sIf (tAndD (tOfE (eBin opEq (eFun d__law_draw (aCons (eVar 0) (aCons (eC (.int 6)) aNil))) (eC (.int 0)))) (tOfE (eBin opNe (eVarB 3) (eLst aNil)))) (sPop 3 none) sNext)
  (sRet (eTupOwn 3))))))
noncomputable def d__law_words : List D → Wd → Option (D × Wd) := defD 6 b__law_words
noncomputable def b__law_due : DS :=
  (sSeq (sIf (tOrD (tOfE (eBin opNe (eVar 3) (eC (.int 1)))) (tOfE (eBin opEq (eBin opMod (eCall opInt (aCons (eCall opLen (aCons (eVar 4) aNil)) aNil)) (eC (.int 2))) (eC (.int 1))))) (sRet (eTup (aCons (eOfN (eLcN (iSq (eVar 2)) (gSet 9) tYesD (eTup (aCons (eBin opIx (eVar 0) (eBin opIx (eVar 9) (eC (.int 0)))) (aCons (eBin opIx (eVar 9) (eC (.int 1))) aNil))) [9])) (aCons (eVar 1) aNil)))) sNext)
  (sSeq (sSet 5 (eBin opAdd (eVar 1) (eCall opSum (aCons (eOfN (eLcN (iSq (eVar 2)) (gSet 9) tYesD (eBin opIx (eVar 9) (eC (.int 1))) [9])) aNil))))
  (sSeq (sOwn 6 aNil)
  (sSeq (sFor (iRange (aCons (eBin opDiv (eCall opLen (aCons (eVar 4) aNil)) (eC (.int 2))) aNil)) (gSet 7) (sIf (tOfE (eBin opLt (eBin opIx (eVar 4) (eBin opMul (eC (.int 2)) (eVar 7))) (eCall opLen (aCons (eVar 0) aNil)))) (sSeq (sSet 8 (eCall opMin2 (aCons (eBin opIx (eVar 4) (eBin opAdd (eBin opMul (eC (.int 2)) (eVar 7)) (eC (.int 1)))) (aCons (eVar 5) aNil))))
  (sSeq (sApp 6 (eTup (aCons (eBin opIx (eVar 0) (eBin opIx (eVar 4) (eBin opMul (eC (.int 2)) (eVar 7)))) (aCons (eVar 8) aNil))))
  (sSet 5 (eBin opSub (eVar 5) (eVar 8))))) sNext))
  (sRet (eTup (aCons (eVarB 6) (aCons (eVar 5) aNil))))))))
noncomputable def d__law_due : List D → Wd → Option (D × Wd) := defD 10 b__law_due
noncomputable def b_law : DS :=
  (sSeq (sSet 2 (eBin opIx (eLst (aCons (eC (.int 16)) (aCons (eBin opAdd (eC (.int 1)) (eFun d__law_draw (aCons (eVar 1) (aCons (eC (.int 16)) aNil)))) aNil))) (eFun d__law_draw (aCons (eVar 1) (aCons (eC (.int 2)) aNil)))))
  (sSeq (sSet 3 (eCall opTuple (aCons (eOfN (eLcN (iRange (aCons (eVar 2) aNil)) (gSet 14) tYesD (eBin opAdd (eC (.str "member")) (eCall opStr (aCons (eVar 14) aNil))) [14])) aNil)))
  (sSeq (sSet 4 (eBin opIx (eLst (aCons (eC (.int 0)) (aCons (eFun d__law_draw (aCons (eVar 1) (aCons (eC (.int 1000)) aNil))) (aCons (eFun d__law_draw (aCons (eVar 1) (aCons (eBin opPow (eC (.int 10)) (eC (.int 30))) aNil))) aNil)))) (eFun d__law_draw (aCons (eVar 1) (aCons (eC (.int 3)) aNil)))))
  (sSeq (sSet 5 (eFun d__law_entries (aCons (eVar 1) (aCons (eVar 2) aNil))))
  (sSeq (sSet 6 (eBin opAdd (eVar 4) (eCall opSum (aCons (eOfN (eLcN (iSq (eVar 5)) (gSet 10) tYesD (eBin opIx (eVar 10) (eC (.int 1))) [10])) aNil))))
  (sSeq (sSet 7 (eFun d__law_words (aCons (eVar 1) (aCons (eVar 2) (aCons (eVar 6) aNil)))))
  (sSeq (sSet 8 (eBin opIx (eLst (aCons (eC (.int 1)) (aCons (eC (.int 1)) (aCons (eC (.int 1)) (aCons (eC (.int 1)) (aCons (eC (.int 0)) (aCons (eC (.int 2)) aNil))))))) (eFun d__law_draw (aCons (eVar 1) (aCons (eC (.int 6)) aNil)))))
  (sSeq (sOwn 9 aNil)
  (sSeq (sFor (iSq (eVar 5)) (gSet 10) (sExt 9 (eOfN (aList (aCons (eVar 10) aNil)))))
  (sSeq (sIf (tNotD (tOfE (eFunP (d__law_same 6) (aCons (eFunP d_input_of (aCons (eVar 5) aNil)) (aCons (eTupOwn 9) aNil))))) (sRet (eC (.bool false))) sNext)
  (sSeq (sAsg (eFunP d__law_due (aCons (eVar 3) (aCons (eVar 4) (aCons (eVar 5) (aCons (eVar 8) (aCons (eVar 7) aNil)))))) (gTupD (gConsD (gSet 11) (gConsD (gSet 12) gNilD))))
  (sSeq (sSet 13 (eFunP d_payments (aCons (eVar 3) (aCons (eVar 4) (aCons (eVar 5) (aCons (eVar 8) (aCons (eVar 7) aNil)))))))
  (sSeq (sIf (tNotD (tOfE (eFunP (d__law_same 6) (aCons (eVar 13) (aCons (eTup (aCons (eCall opTuple (aCons (eVar 11) aNil)) (aCons (eVar 12) aNil))) aNil))))) (sRet (eC (.bool false))) sNext)
  (sRet (eFunP (d__law_same 6) (aCons (eBin opAdd (eCall opSum (aCons (eOfN (eLcN (iSq (eBin opIx (eVar 13) (eC (.int 0)))) (gTupD (gConsD (gSet 15) (gConsD (gSet 16) gNilD))) tYesD (eVar 16) [15, 16])) aNil)) (eBin opIx (eVar 13) (eC (.int 1)))) (aCons (eVar 6) aNil)))))))))))))))))
/-! ## what the top has written -/
structure Tx (K : PySem.W.Frag) (mg : Str → Option Value) where
  a_input_of : Addr
  fd_input_of : FuncData
  F_input_of : Fun K "input_of" "input_of" s_input_of a_input_of fd_input_of
  m_input_of : mg "input_of" = some (.ref a_input_of)
  b_input_of : Binds K fd_input_of ["entries"] []
  a_payments : Addr
  fd_payments : FuncData
  F_payments : Fun K "payments" "payments" s_payments a_payments fd_payments
  m_payments : mg "payments" = some (.ref a_payments)
  b_payments : Binds K fd_payments ["members", "rest", "entries", "status", "words"] []
  a__law_same : Addr
  fd__law_same : FuncData
  F__law_same : Fun K "_law_same" "_law_same" s__law_same a__law_same fd__law_same
  m__law_same : mg "_law_same" = some (.ref a__law_same)
  b__law_same : Binds K fd__law_same ["a", "b"] []
  a__law_box : Addr
  fd__law_box : FuncData
  F__law_box : Fun K "_law_box" "_law_box" s__law_box a__law_box fd__law_box
  m__law_box : mg "_law_box" = some (.ref a__law_box)
  b__law_box : Binds K fd__law_box ["script", "nodes"] []
  a__law_load : Addr
  fd__law_load : FuncData
  F__law_load : Fun K "_law_load" "_law_load" s__law_load a__law_load fd__law_load
  m__law_load : mg "_law_load" = some (.ref a__law_load)
  b__law_load : Binds K fd__law_load ["box"] []
  a__law_draw : Addr
  fd__law_draw : FuncData
  F__law_draw : Fun K "_law_draw" "_law_draw" s__law_draw a__law_draw fd__law_draw
  m__law_draw : mg "_law_draw" = some (.ref a__law_draw)
  b__law_draw : Binds K fd__law_draw ["box", "many"] []
  a__law_entries : Addr
  fd__law_entries : FuncData
  F__law_entries : Fun K "_law_entries" "_law_entries" s__law_entries a__law_entries fd__law_entries
  m__law_entries : mg "_law_entries" = some (.ref a__law_entries)
  b__law_entries : Binds K fd__law_entries ["box", "many"] []
  a__law_words : Addr
  fd__law_words : FuncData
  F__law_words : Fun K "_law_words" "_law_words" s__law_words a__law_words fd__law_words
  m__law_words : mg "_law_words" = some (.ref a__law_words)
  b__law_words : Binds K fd__law_words ["box", "many", "pot"] []
  a__law_due : Addr
  fd__law_due : FuncData
  F__law_due : Fun K "_law_due" "_law_due" s__law_due a__law_due fd__law_due
  m__law_due : mg "_law_due" = some (.ref a__law_due)
  b__law_due : Binds K fd__law_due ["members", "rest", "entries", "status", "words"] []
  a_law : Addr
  fd_law : FuncData
  F_law : Fun K "law" "law" s_law a_law fd_law
  m_law : mg "law" = some (.ref a_law)
  b_law : Binds K fd_law ["script"] []
  m_all : mg "all" = none
  m_bool : mg "bool" = none
  m_dict : mg "dict" = none
  m_int : mg "int" = none
  m_isinstance : mg "isinstance" = none
  m_len : mg "len" = none
  m_list : mg "list" = none
  m_min : mg "min" = none
  m_range : mg "range" = none
  m_str : mg "str" = none
  m_sum : mg "sum" = none
  m_tuple : mg "tuple" = none
section
variable {P : Program} {w : World} {K : PySem.W.Frag} {mg : Str → Option Value} {base : Heap}
theorem sc_input_of : FnScope N_input_of ["entries"] (defScope s_input_of) := ⟨rfl, rfl, rfl, by decide +kernel, rfl, by decide +kernel, by decide +kernel⟩
theorem ok_input_of (T : Tx K mg) : FnOk P w K mg base CX0 1 T.a_input_of T.fd_input_of ["entries"] (spD K 1 d_input_of) := by
  refine fn_denM (fb := b_input_of) T.F_input_of sc_input_of rfl rfl (fun cdv A outer s H E hr => ?_)
  have hu := hr.units
  have nd := sc_input_of.nd
  exact ⟨_, sxs_one (sx_ret (ex_tuple T.m_tuple (ea_cons (EN.x (en_lc2 (b := false) (own := [("entry", 1), ("word", 2)]) rfl nd (ei_seqK (ex_var)) (blkOk_by (N := N_input_of) (sc := defScope s_input_of) (by decide +kernel)) (fun _ _ _ _ _ => eg_name nd) (fun _ _ _ _ _ => ets_nil) (fun _ _ _ _ _ => ei_seqK (ex_var)) (fun _ _ _ _ _ => eg_name nd) (fun _ _ _ _ _ => ets_nil) (fun _ _ _ _ _ => ex_var))) (ea_nil))))⟩
theorem sc_payments : FnScope N_payments ["members", "rest", "entries", "status", "words"] (defScope s_payments) := ⟨rfl, rfl, rfl, by decide +kernel, rfl, by decide +kernel, by decide +kernel⟩
theorem ok_payments (T : Tx K mg) : FnOk P w K mg base CX0 1 T.a_payments T.fd_payments ["members", "rest", "entries", "status", "words"] (spD K 5 d_payments) := by
  refine fn_denM (fb := b_payments) T.F_payments sc_payments rfl rfl (fun cdv A outer s H E hr => ?_)
  have hu := hr.units
  have nd := sc_payments.nd
  exact ⟨_, sxs_cons (sx_if (EW.t (ew_or (et_cmp (op_neK hu) ops_ne (ex_var) (ex_int)) (ew_or1 (et_cmp (op_eqK hu) ops_eq (ex_bin op_mod ops_mod (ex_len T.m_len (ea_cons (ex_var) (ea_nil))) (ex_int)) (ex_int))))) (sxs_one (sx_ret (ex_tup (ea_cons (ex_tuple T.m_tuple (ea_cons (EN.x (en_lc rfl nd (b := false) (own := [("entry", 9)]) (ei_seqK (ex_var)) (blkOk_by (N := N_payments) (sc := defScope s_payments) (by decide +kernel)) (fun _ _ _ _ _ => eg_name nd) (fun _ _ _ _ _ => ets_nil) (fun _ _ _ _ _ => ex_tup (ea_cons (ex_ixK (ex_var) (ex_ixK (ex_var) (ex_int))) (ea_cons (ex_ixK (ex_var) (ex_int)) (ea_nil))) (len_cons (len_cons len_nil))))) (ea_nil))) (ea_cons (ex_var) (ea_nil))) (len_cons (len_cons len_nil))))) (sxs_nil))
    (sxs_cons (sx_set nd (ex_bin op_addK ops_add (ex_var) (ex_sum T.m_sum (ea_cons (EN.x (en_lc rfl nd (b := false) (own := [("entry", 9)]) (ei_seqK (ex_var)) (blkOk_by (N := N_payments) (sc := defScope s_payments) (by decide +kernel)) (fun _ _ _ _ _ => eg_name nd) (fun _ _ _ _ _ => ets_nil) (fun _ _ _ _ _ => ex_ixK (ex_var) (ex_int)))) (ea_nil)))))
    (sxs_cons (sx_own nd (en_lst (ea_nil) (len_nil)))
    (sxs_cons (sx_for PassesOwn.never rfl (ei_rng3 T.m_range (ea_cons (ex_int) (ea_cons (ex_len T.m_len (ea_cons (ex_var) (ea_nil))) (ea_cons (ex_int) (ea_nil))))) (eg_name nd) (sxs_one (sx_if (et_cmp (op_ltK hu) ops_lt (ex_ixK (ex_var) (ex_var)) (ex_len T.m_len (ea_cons (ex_var) (ea_nil)))) (sxs_cons (sx_set nd (ex_min2 T.m_min (ea_cons (ex_ixK (ex_var) (ex_bin op_addK ops_add (ex_var) (ex_int))) (ea_cons (ex_var) (ea_nil)))))
    (sxs_cons (sx_app (ex_tup (ea_cons (ex_ixK (ex_var) (ex_ixK (ex_var) (ex_var))) (ea_cons (ex_var) (ea_nil))) (len_cons (len_cons len_nil))))
    (sxs_one (sx_set nd (ex_bin op_sub ops_sub (ex_var) (ex_var)))))) (sxs_nil))))
    (sxs_one (sx_ret (ex_tup (ea_cons (ex_tupOwnK T.m_tuple) (ea_cons (ex_var) (ea_nil))) (len_cons (len_cons len_nil))))))))⟩
theorem sc__law_same : FnScope N__law_same ["a", "b"] (defScope s__law_same) := ⟨rfl, rfl, rfl, by decide +kernel, rfl, by decide +kernel, by decide +kernel⟩
theorem ok__law_same (T : Tx K mg) : ∀ n : Nat, FnOk P w K mg base CX0 (1 + n) T.a__law_same T.fd__law_same ["a", "b"] (spD K 2 (d__law_same n))
  | 0 => fn_zero T.F__law_same sc__law_same
  | n + 1 => by
    have G__law_same := ok__law_same T n
    refine fn_denM (fb := b__law_same (d__law_same n)) T.F__law_same sc__law_same rfl rfl (fun cdv A outer s H E hr => ?_)
    have hu := hr.units
    have nd := sc__law_same.nd
    exact ⟨_, sxs_cons (sx_if (EW.t (ew_or (EW.t (ew_and (et_val (ex_isiK kit_tuple T.m_isinstance T.m_tuple PyProof.Rows.boot_tuple (ex_var))) (ew_and1 (et_val (ex_isiK kit_tuple T.m_isinstance T.m_tuple PyProof.Rows.boot_tuple (ex_var)))))) (ew_or1 (EW.t (ew_and (et_val (ex_isiK kit_list T.m_isinstance T.m_list PyProof.Rows.boot_list (ex_var))) (ew_and1 (et_val (ex_isiK kit_list T.m_isinstance T.m_list PyProof.Rows.boot_list (ex_var))))))))) (sxs_one (sx_ret (ex_and (ex_cmp (op_eqK hu) ops_eq (ex_len T.m_len (ea_cons (ex_var) (ea_nil))) (ex_len T.m_len (ea_cons (ex_var) (ea_nil)))) (ex_one (ex_all T.m_all (ea_cons (EN.x (en_lc rfl nd (b := false) (own := [("k", 2)]) (ei_rng1 T.m_range (ea_cons (ex_len T.m_len (ea_cons (ex_var) (ea_nil))) (ea_nil))) (blkOk_by (N := N__law_same) (sc := defScope s__law_same) (by decide +kernel)) (fun _ _ _ _ _ => eg_name nd) (fun _ _ _ _ _ => ets_nil) (fun _ _ _ _ _ => ex_funPK G__law_same hr T.m__law_same T.F__law_same.kp T.b__law_same (ea_cons (ex_ixK (ex_var) (ex_var)) (ea_cons (ex_ixK (ex_var) (ex_var)) (ea_nil))) (len_cons (len_cons len_nil))))) (ea_nil))))))) (sxs_nil))
    (sxs_cons (sx_if (EW.t (ew_and (et_val (ex_isiK kit_dict T.m_isinstance T.m_dict PyProof.Rows.boot_dict (ex_var))) (ew_and1 (et_val (ex_isiK kit_dict T.m_isinstance T.m_dict PyProof.Rows.boot_dict (ex_var)))))) sxs_never (sxs_nil))
    (sxs_cons (sx_if (EW.t (ew_or (et_val (ex_isiK kit_bool T.m_isinstance T.m_bool PyProof.Rows.boot_bool (ex_var))) (ew_or1 (et_val (ex_isiK kit_bool T.m_isinstance T.m_bool PyProof.Rows.boot_bool (ex_var)))))) (sxs_one (sx_ret (ex_and (ex_isiK kit_bool T.m_isinstance T.m_bool PyProof.Rows.boot_bool (ex_var)) (ex_and (ex_isiK kit_bool T.m_isinstance T.m_bool PyProof.Rows.boot_bool (ex_var)) (ex_one (ex_cmp (op_eqK hu) ops_eq (ex_var) (ex_var))))))) (sxs_nil))
    (sxs_cons (sx_if (EW.t (ew_or (EW.t (ew_and (et_val (ex_isiK kit_int T.m_isinstance T.m_int PyProof.Rows.boot_int (ex_var))) (ew_and1 (et_val (ex_isiK kit_int T.m_isinstance T.m_int PyProof.Rows.boot_int (ex_var)))))) (ew_or1 (EW.t (ew_and (et_val (ex_isiK kit_str T.m_isinstance T.m_str PyProof.Rows.boot_str (ex_var))) (ew_and1 (et_val (ex_isiK kit_str T.m_isinstance T.m_str PyProof.Rows.boot_str (ex_var))))))))) (sxs_one (sx_ret (ex_cmp (op_eqK hu) ops_eq (ex_var) (ex_var)))) (sxs_nil))
    (sxs_one (sx_ret (ex_and (ex_cmp op_isN ops_isN (ex_var) (ex_non)) (ex_one (ex_cmp op_isN ops_isN (ex_var) (ex_non)))))))))⟩
theorem sc__law_load : FnScope N__law_load ["box"] (defScope s__law_load) := ⟨rfl, rfl, rfl, by decide +kernel, rfl, by decide +kernel, by decide +kernel⟩
theorem ok__law_load (T : Tx K mg) : FnOk P w K mg base CX0 1 T.a__law_load T.fd__law_load ["box"] (spD K 1 d__law_load) := by
  refine fn_denM (fb := b__law_load) T.F__law_load sc__law_load rfl rfl (fun cdv A outer s H E hr => ?_)
  have hu := hr.units
  have nd := sc__law_load.nd
  exact ⟨_, sxs_cons (sx_set nd (ex_ixObK (ex_var) (ex_int)))
    (sxs_cons (sx_if (et_cmp (op_gtK hu) ops_gt (ex_lenObK T.m_len (ex_var)) (ex_int)) (sxs_cons (sx_set nd (ex_int1 T.m_int (ea_cons (ex_popOb (ex_var)) (ea_nil))))
    (sxs_cons (sx_set nd (ex_if (et_cmp (op_geK hu) ops_ge (ex_var) (ex_int)) (ex_bin op_mulK ops_mul (ex_int) (ex_var)) (ex_bin op_sub ops_sub (ex_bin op_mulK ops_mul (ex_neg (ex_int)) (ex_var)) (ex_int))))
    (sxs_cons (sx_if (et_cmp (op_geK hu) ops_ge (ex_var) (ex_int)) (sxs_one (sx_ret (ex_var))) (sxs_nil))
    (sxs_one (sx_setOb (ex_bin op_mod ops_mod (ex_int1 T.m_int (ea_cons (ex_bin op_addK ops_add (ex_bin op_addK ops_add (ex_bin op_mulK ops_mul (ex_ixObK (ex_var) (ex_int)) (ex_int)) (ex_bin op_mulK ops_mul (ex_var) (ex_int))) (ex_int)) (ea_nil))) (ex_int)) (ex_var) (ex_int)))))) (sxs_nil))
    (sxs_cons (sx_set nd (ex_bin op_mod ops_mod (ex_int1 T.m_int (ea_cons (ex_bin op_addK ops_add (ex_bin op_mulK ops_mul (ex_ixObK (ex_var) (ex_int)) (ex_int)) (ex_int)) (ea_nil))) (ex_int)))
    (sxs_cons (sx_set nd (ex_bin op_mod ops_mod (ex_int1 T.m_int (ea_cons (ex_bin op_addK ops_add (ex_bin op_mulK ops_mul (ex_var) (ex_int)) (ex_int)) (ea_nil))) (ex_int)))
    (sxs_cons (sx_setOb (ex_bin op_mod ops_mod (ex_int1 T.m_int (ea_cons (ex_bin op_addK ops_add (ex_bin op_mulK ops_mul (ex_var) (ex_int)) (ex_int)) (ea_nil))) (ex_int)) (ex_var) (ex_int))
    (sxs_one (sx_ret (ex_bin op_addK ops_add (ex_bin op_addK ops_add (ex_bin op_mulK ops_mul (ex_var) (ex_int)) (ex_bin op_mulK ops_mul (ex_var) (ex_int))) (ex_ixObK (ex_var) (ex_int)))))))))⟩
theorem sc__law_draw : FnScope N__law_draw ["box", "many"] (defScope s__law_draw) := ⟨rfl, rfl, rfl, by decide +kernel, rfl, by decide +kernel, by decide +kernel⟩
theorem ok__law_draw (T : Tx K mg) : FnOk P w K mg base CX0 2 T.a__law_draw T.fd__law_draw ["box", "many"] (spD K 2 d__law_draw) := by
  have G__law_load := ok__law_load (P := P) (w := w) (base := base) T
  refine fn_denM (fb := b__law_draw) T.F__law_draw sc__law_draw rfl rfl (fun cdv A outer s H E hr => ?_)
  have hu := hr.units
  have nd := sc__law_draw.nd
  exact ⟨_, sxs_cons (sx_if (et_cmp (op_ltK hu) ops_lt (ex_ixObK (ex_var) (ex_int)) (ex_var)) (sxs_one (sx_setOb (ex_funK G__law_load (hr.mono (by decide)) T.m__law_load T.F__law_load.kp T.b__law_load (ea_cons (ex_var) (ea_nil)) (len_cons len_nil)) (ex_var) (ex_int))) (sxs_nil))
    (sxs_cons (sx_set nd (ex_bin op_mod ops_mod (ex_int1 T.m_int (ea_cons (ex_ixObK (ex_var) (ex_int)) (ea_nil))) (ex_var)))
    (sxs_cons (sx_setOb (ex_bin op_fdivW ops_div (ex_ixObK (ex_var) (ex_int)) (ex_var)) (ex_var) (ex_int))
    (sxs_one (sx_ret (ex_var)))))⟩
theorem sc__law_entries : FnScope N__law_entries ["box", "many"] (defScope s__law_entries) := ⟨rfl, rfl, rfl, by decide +kernel, rfl, by decide +kernel, by decide +kernel⟩
theorem ok__law_entries (T : Tx K mg) : FnOk P w K mg base CX0 3 T.a__law_entries T.fd__law_entries ["box", "many"] (spD K 2 d__law_entries) := by
  have G__law_draw := ok__law_draw (P := P) (w := w) (base := base) T
  refine fn_denM (fb := b__law_entries) T.F__law_entries sc__law_entries rfl rfl (fun cdv A outer s H E hr => ?_)
  have hu := hr.units
  have nd := sc__law_entries.nd
  exact ⟨_, sxs_cons (sx_own nd (en_lst (ea_nil) (len_nil)))
    (sxs_cons (sx_for PassesOwn.never rfl (ei_rng1 T.m_range (ea_cons (ex_ixK (ex_lst (ea_cons (ex_int) (ea_cons (ex_funK G__law_draw (hr.mono (by decide)) T.m__law_draw T.F__law_draw.kp T.b__law_draw (ea_cons (ex_var) (ea_cons (ex_int) (ea_nil))) (len_cons (len_cons len_nil))) (ea_nil))) (len_cons (len_cons len_nil))) (ex_funK G__law_draw (hr.mono (by decide)) T.m__law_draw T.F__law_draw.kp T.b__law_draw (ea_cons (ex_var) (ea_cons (ex_int) (ea_nil))) (len_cons (len_cons len_nil)))) (ea_nil))) (eg_name nd) (sxs_cons (sx_set nd (ex_ixK (ex_lst (ea_cons (ex_int) (ea_cons (ex_int) (ea_cons (ex_bin op_addK ops_add (ex_int) (ex_funK G__law_draw (hr.mono (by decide)) T.m__law_draw T.F__law_draw.kp T.b__law_draw (ea_cons (ex_var) (ea_cons (ex_int) (ea_nil))) (len_cons (len_cons len_nil)))) (ea_nil)))) (len_cons (len_cons (len_cons len_nil)))) (ex_funK G__law_draw (hr.mono (by decide)) T.m__law_draw T.F__law_draw.kp T.b__law_draw (ea_cons (ex_var) (ea_cons (ex_int) (ea_nil))) (len_cons (len_cons len_nil)))))
    (sxs_one (sx_app (ex_tup (ea_cons (ex_funK G__law_draw (hr.mono (by decide)) T.m__law_draw T.F__law_draw.kp T.b__law_draw (ea_cons (ex_var) (ea_cons (ex_var) (ea_nil))) (len_cons (len_cons len_nil))) (ea_cons (ex_var) (ea_cons (ex_ixK (ex_lst (ea_cons (ex_int) (ea_cons (ex_int) (ea_cons (ex_funK G__law_draw (hr.mono (by decide)) T.m__law_draw T.F__law_draw.kp T.b__law_draw (ea_cons (ex_var) (ea_cons (ex_int) (ea_nil))) (len_cons (len_cons len_nil))) (ea_nil)))) (len_cons (len_cons (len_cons len_nil)))) (ex_funK G__law_draw (hr.mono (by decide)) T.m__law_draw T.F__law_draw.kp T.b__law_draw (ea_cons (ex_var) (ea_cons (ex_int) (ea_nil))) (len_cons (len_cons len_nil)))) (ea_nil)))) (len_cons (len_cons (len_cons len_nil))))))))
    (sxs_one (sx_ret (ex_tupOwnK T.m_tuple))))⟩
theorem sc__law_words : FnScope N__law_words ["box", "many", "pot"] (defScope s__law_words) := ⟨rfl, rfl, rfl, by decide +kernel, rfl, by decide +kernel, by decide +kernel⟩
theorem ok__law_words (T : Tx K mg) : FnOk P w K mg base CX0 3 T.a__law_words T.fd__law_words ["box", "many", "pot"] (spD K 3 d__law_words) := by
  have G__law_draw := ok__law_draw (P := P) (w := w) (base := base) T
  refine fn_denM (fb := b__law_words) T.F__law_words sc__law_words rfl rfl (fun cdv A outer s H E hr => ?_)
  have hu := hr.units
  have nd := sc__law_words.nd
  exact ⟨_, sxs_cons (sx_own nd (en_lst (ea_nil) (len_nil)))
    (sxs_cons (sx_set nd (ex_ixK (ex_lst (ea_cons (ex_int) (ea_cons (ex_int) (ea_cons (ex_int) (ea_nil)))) (len_cons (len_cons (len_cons len_nil)))) (ex_funK G__law_draw (hr.mono (by decide)) T.m__law_draw T.F__law_draw.kp T.b__law_draw (ea_cons (ex_var) (ea_cons (ex_int) (ea_nil))) (len_cons (len_cons len_nil)))))
    (sxs_cons (sx_for PassesOwn.never rfl (ei_rng1 T.m_range (ea_cons (ex_ixK (ex_lst (ea_cons (ex_int) (ea_cons (ex_funK G__law_draw (hr.mono (by decide)) T.m__law_draw T.F__law_draw.kp T.b__law_draw (ea_cons (ex_var) (ea_cons (ex_int) (ea_nil))) (len_cons (len_cons len_nil))) (ea_nil))) (len_cons (len_cons len_nil))) (ex_funK G__law_draw (hr.mono (by decide)) T.m__law_draw T.F__law_draw.kp T.b__law_draw (ea_cons (ex_var) (ea_cons (ex_int) (ea_nil))) (len_cons (len_cons len_nil)))) (ea_nil))) (eg_name nd) (sxs_cons (sx_app (ex_ixK (ex_lst (ea_cons (ex_funK G__law_draw (hr.mono (by decide)) T.m__law_draw T.F__law_draw.kp T.b__law_draw (ea_cons (ex_var) (ea_cons (ex_var) (ea_nil))) (len_cons (len_cons len_nil))) (ea_cons (ex_var) (ea_cons (ex_funK G__law_draw (hr.mono (by decide)) T.m__law_draw T.F__law_draw.kp T.b__law_draw (ea_cons (ex_var) (ea_cons (ex_int) (ea_nil))) (len_cons (len_cons len_nil))) (ea_nil)))) (len_cons (len_cons (len_cons len_nil)))) (ex_ixK (ex_lst (ea_cons (ex_int) (ea_cons (ex_int) (ea_cons (ex_int) (ea_cons (ex_int) (ea_cons (ex_int) (ea_cons (ex_int) (ea_nil))))))) (len_cons (len_cons (len_cons (len_cons (len_cons (len_cons len_nil))))))) (ex_funK G__law_draw (hr.mono (by decide)) T.m__law_draw T.F__law_draw.kp T.b__law_draw (ea_cons (ex_var) (ea_cons (ex_int) (ea_nil))) (len_cons (len_cons len_nil))))))
    (sxs_one (sx_app (ex_ixK (ex_lst (ea_cons (ex_funK G__law_draw (hr.mono (by decide)) T.m__law_draw T.F__law_draw.kp T.b__law_draw (ea_cons (ex_var) (ea_cons (ex_var) (ea_nil))) (len_cons (len_cons len_nil))) (ea_cons (ex_min2 T.m_min (ea_cons (ex_var) (ea_cons (ex_int) (ea_nil)))) (ea_nil))) (len_cons (len_cons len_nil))) (ex_int1 T.m_int (ea_cons (ex_cmp (op_eqK hu) ops_eq (ex_funK G__law_draw (hr.mono (by decide)) T.m__law_draw T.F__law_draw.kp T.b__law_draw (ea_cons (ex_var) (ea_cons (ex_int) (ea_nil))) (len_cons (len_cons len_nil))) (ex_int)) (ea_nil))))))))
    (sxs_cons (sx_if (EW.t (ew_and (et_cmp (op_eqK hu) ops_eq (ex_funK G__law_draw (hr.mono (by decide)) T.m__law_draw T.F__law_draw.kp T.b__law_draw (ea_cons (ex_var) (ea_cons (ex_int) (ea_nil))) (len_cons (len_cons len_nil))) (ex_int)) (ew_and1 (et_cmp (op_neK hu) ops_ne (ex_varB) (EX.weak (ex_lst (ea_nil) (len_nil))))))) (sxs_one (sx_pop)) (sxs_nil))
    (sxs_one (sx_ret (ex_tupOwnK T.m_tuple))))))⟩
theorem sc__law_due : FnScope N__law_due ["members", "rest", "entries", "status", "words"] (defScope s__law_due) := ⟨rfl, rfl, rfl, by decide +kernel, rfl, by decide +kernel, by decide +kernel⟩
theorem ok__law_due (T : Tx K mg) : FnOk P w K mg base CX0 1 T.a__law_due T.fd__law_due ["members", "rest", "entries", "status", "words"] (spD K 5 d__law_due) := by
  refine fn_denM (fb := b__law_due) T.F__law_due sc__law_due rfl rfl (fun cdv A outer s H E hr => ?_)
  have hu := hr.units
  have nd := sc__law_due.nd
  exact ⟨_, sxs_cons (sx_if (EW.t (ew_or (et_cmp (op_neK hu) ops_ne (ex_var) (ex_int)) (ew_or1 (et_cmp (op_eqK hu) ops_eq (ex_bin op_mod ops_mod (ex_int1 T.m_int (ea_cons (ex_len T.m_len (ea_cons (ex_var) (ea_nil))) (ea_nil))) (ex_int)) (ex_int))))) (sxs_one (sx_ret (ex_tup (ea_cons (EN.x (en_lc rfl nd (b := false) (own := [("entry", 9)]) (ei_seqK (ex_var)) (blkOk_by (N := N__law_due) (sc := defScope s__law_due) (by decide +kernel)) (fun _ _ _ _ _ => eg_name nd) (fun _ _ _ _ _ => ets_nil) (fun _ _ _ _ _ => ex_tup (ea_cons (ex_ixK (ex_var) (ex_ixK (ex_var) (ex_int))) (ea_cons (ex_ixK (ex_var) (ex_int)) (ea_nil))) (len_cons (len_cons len_nil))))) (ea_cons (ex_var) (ea_nil))) (len_cons (len_cons len_nil))))) (sxs_nil))
    (sxs_cons (sx_set nd (ex_bin op_addK ops_add (ex_var) (ex_sum T.m_sum (ea_cons (EN.x (en_lc rfl nd (b := false) (own := [("entry", 9)]) (ei_seqK (ex_var)) (blkOk_by (N := N__law_due) (sc := defScope s__law_due) (by decide +kernel)) (fun _ _ _ _ _ => eg_name nd) (fun _ _ _ _ _ => ets_nil) (fun _ _ _ _ _ => ex_ixK (ex_var) (ex_int)))) (ea_nil)))))
    (sxs_cons (sx_own nd (en_lst (ea_nil) (len_nil)))
    (sxs_cons (sx_for PassesOwn.never rfl (ei_rng1 T.m_range (ea_cons (ex_bin op_fdivW ops_div (ex_len T.m_len (ea_cons (ex_var) (ea_nil))) (ex_int)) (ea_nil))) (eg_name nd) (sxs_one (sx_if (et_cmp (op_ltK hu) ops_lt (ex_ixK (ex_var) (ex_bin op_mulK ops_mul (ex_int) (ex_var))) (ex_len T.m_len (ea_cons (ex_var) (ea_nil)))) (sxs_cons (sx_set nd (ex_min2 T.m_min (ea_cons (ex_ixK (ex_var) (ex_bin op_addK ops_add (ex_bin op_mulK ops_mul (ex_int) (ex_var)) (ex_int))) (ea_cons (ex_var) (ea_nil)))))
    (sxs_cons (sx_app (ex_tup (ea_cons (ex_ixK (ex_var) (ex_ixK (ex_var) (ex_bin op_mulK ops_mul (ex_int) (ex_var)))) (ea_cons (ex_var) (ea_nil))) (len_cons (len_cons len_nil))))
    (sxs_one (sx_set nd (ex_bin op_sub ops_sub (ex_var) (ex_var)))))) (sxs_nil))))
    (sxs_one (sx_ret (ex_tup (ea_cons (ex_varB) (ea_cons (EX.weak (ex_var)) (ea_nil))) (len_cons (len_cons len_nil))))))))⟩
theorem sc__law_box : FnScope N__law_box ["script", "nodes"] (defScope s__law_box) := ⟨rfl, rfl, rfl, by decide +kernel, rfl, by decide +kernel, by decide +kernel⟩
theorem ok__law_box (T : Tx K mg) : FnOk P w K mg base CX0 1 T.a__law_box T.fd__law_box ["script", "nodes"] (spBox4 K) := by
  refine T.F__law_box.ok sc__law_box (fun vs H Q E h => ?_) (fun cdv A outer s H vs Q E hr h => ?_)
  · obtain ⟨a, ns, z, rfl, _⟩ := h
    rfl
  · obtain ⟨a, ns, z, rfl, hS, hlen, k⟩ := h
    refine ⟨_, pss_one (ps_ret (pe_lst (pa_cons (pe_callTy call_list_of rfl T.m_list PyProof.Rows.boot_list (pa_cons (pv 0) pa_nil)) (pa_cons pe_int (pa_cons (pe_op op_add pe_int (pe_callB call_len_seq rfl T.m_len PySem.boot_len (pa_cons (pv 0) pa_nil))) (pa_cons (pv 1) pa_nil)))))), ?_⟩
    refine ⟨_, rfl, a, _, rfl, .inl hS, fun c hc => ?_⟩
    have hS2 : SqL K (upd H c (.lst (ns.map V.int))) a (ns.map V.int) := Same.seq (fun x o h => upd_keep hc h) hS
    refine ⟨_, rfl, a, _, rfl, .inl hS2, _, _, rfl, rfl, ?_⟩
    refine ⟨_, rfl, ?_⟩
    refine ⟨by show 4 ≤ sizeLine; decide, fun b hb => ?_⟩
    exact box_all4 hc hb k
theorem sc_law : FnScope N_law ["script"] (defScope s_law) := ⟨rfl, rfl, rfl, by decide +kernel, rfl, by decide +kernel, by decide +kernel⟩
theorem ok_law (T : Tx K mg) (good : ∀ ns : List Int, ns.length ≤ 63 → ∃ ω, b_law (lawRo 17 1) (box4 ns) = some (.rt (.bool true), ω)) : FnOk P w K mg base CX0 8 T.a_law T.fd_law ["script"] (spLaw K) := by
  have G__law_draw := ok__law_draw (P := P) (w := w) (base := base) T
  have G__law_due := ok__law_due (P := P) (w := w) (base := base) T
  have G__law_entries := ok__law_entries (P := P) (w := w) (base := base) T
  have G__law_same := ok__law_same (P := P) (w := w) (base := base) T 6
  have G__law_words := ok__law_words (P := P) (w := w) (base := base) T
  have G_input_of := ok_input_of (P := P) (w := w) (base := base) T
  have G_payments := ok_payments (P := P) (w := w) (base := base) T
  have G__law_box := ok__law_box (P := P) (w := w) (base := base) T
  refine T.F_law.ok sc_law (fun vs H Q E h => ?_) (fun cdv A outer s H vs Q E hr h => ?_)
  · obtain ⟨a, ns, rfl, _⟩ := h
    rfl
  · obtain ⟨a, ns, rfl, hS, hlen, k⟩ := h
    have hu := hr.units
    have nd := sc_law.nd
    have R : ∃ t, SXs (cxOf CX0 P w K mg base N_law "law" (defScope s_law) T.a_law cdv A outer s H E).nox ((defBody s_law).drop 1) t b_law := ⟨_, sxs_cons (sx_set nd (ex_ixK (ex_lst (ea_cons (ex_int) (ea_cons (ex_bin op_addK ops_add (ex_int) (ex_funK G__law_draw (hr.mono (by decide)) T.m__law_draw T.F__law_draw.kp T.b__law_draw (ea_cons (ex_var) (ea_cons (ex_int) (ea_nil))) (len_cons (len_cons len_nil)))) (ea_nil))) (len_cons (len_cons len_nil))) (ex_funK G__law_draw (hr.mono (by decide)) T.m__law_draw T.F__law_draw.kp T.b__law_draw (ea_cons (ex_var) (ea_cons (ex_int) (ea_nil))) (len_cons (len_cons len_nil)))))
    (sxs_cons (sx_set nd (ex_tuple T.m_tuple (ea_cons (EN.x (en_lc rfl nd (b := false) (own := [("k", 14)]) (ei_rng1 T.m_range (ea_cons (ex_var) (ea_nil))) (blkOk_by (N := N_law) (sc := defScope s_law) (by decide +kernel)) (fun _ _ _ _ _ => eg_name nd) (fun _ _ _ _ _ => ets_nil) (fun _ _ _ _ _ => ex_bin op_addK ops_add (ex_str) (ex_str1 T.m_str (ea_cons (ex_var) (ea_nil)))))) (ea_nil))))
    (sxs_cons (sx_set nd (ex_ixK (ex_lst (ea_cons (ex_int) (ea_cons (ex_funK G__law_draw (hr.mono (by decide)) T.m__law_draw T.F__law_draw.kp T.b__law_draw (ea_cons (ex_var) (ea_cons (ex_int) (ea_nil))) (len_cons (len_cons len_nil))) (ea_cons (ex_funK G__law_draw (hr.mono (by decide)) T.m__law_draw T.F__law_draw.kp T.b__law_draw (ea_cons (ex_var) (ea_cons (ex_bin op_pow ops_pow (ex_int) (ex_int)) (ea_nil))) (len_cons (len_cons len_nil))) (ea_nil)))) (len_cons (len_cons (len_cons len_nil)))) (ex_funK G__law_draw (hr.mono (by decide)) T.m__law_draw T.F__law_draw.kp T.b__law_draw (ea_cons (ex_var) (ea_cons (ex_int) (ea_nil))) (len_cons (len_cons len_nil)))))
    (sxs_cons (sx_set nd (ex_funK G__law_entries (hr.mono (by decide)) T.m__law_entries T.F__law_entries.kp T.b__law_entries (ea_cons (ex_var) (ea_cons (ex_var) (ea_nil))) (len_cons (len_cons len_nil))))
    (sxs_cons (sx_set nd (ex_bin op_addK ops_add (ex_var) (ex_sum T.m_sum (ea_cons (EN.x (en_lc rfl nd (b := false) (own := [("entry", 10)]) (ei_seqK (ex_var)) (blkOk_by (N := N_law) (sc := defScope s_law) (by decide +kernel)) (fun _ _ _ _ _ => eg_name nd) (fun _ _ _ _ _ => ets_nil) (fun _ _ _ _ _ => ex_ixK (ex_var) (ex_int)))) (ea_nil)))))
    (sxs_cons (sx_set nd (ex_funK G__law_words (hr.mono (by decide)) T.m__law_words T.F__law_words.kp T.b__law_words (ea_cons (ex_var) (ea_cons (ex_var) (ea_cons (ex_var) (ea_nil)))) (len_cons (len_cons (len_cons len_nil)))))
    (sxs_cons (sx_set nd (ex_ixK (ex_lst (ea_cons (ex_int) (ea_cons (ex_int) (ea_cons (ex_int) (ea_cons (ex_int) (ea_cons (ex_int) (ea_cons (ex_int) (ea_nil))))))) (len_cons (len_cons (len_cons (len_cons (len_cons (len_cons len_nil))))))) (ex_funK G__law_draw (hr.mono (by decide)) T.m__law_draw T.F__law_draw.kp T.b__law_draw (ea_cons (ex_var) (ea_cons (ex_int) (ea_nil))) (len_cons (len_cons len_nil)))))
    (sxs_cons (sx_own nd (en_lst (ea_nil) (len_nil)))
    (sxs_cons (sx_for PassesOwn.never rfl (ei_seqK (ex_var)) (eg_name nd) (sxs_one (sx_ext (EN.x (en_listK T.m_list (ea_cons (ex_var) (ea_nil)))))))
    (sxs_cons (sx_if (et_not (et_val (ex_funPK G__law_same (hr.mono (by decide)) T.m__law_same T.F__law_same.kp T.b__law_same (ea_cons (ex_funPK G_input_of (hr.mono (by decide)) T.m_input_of T.F_input_of.kp T.b_input_of (ea_cons (ex_var) (ea_nil)) (len_cons len_nil)) (ea_cons (ex_tupOwnK T.m_tuple) (ea_nil))) (len_cons (len_cons len_nil))))) (sxs_one (sx_ret (ex_bl))) (sxs_nil))
    (sxs_cons (sx_asg (ex_funPK G__law_due (hr.mono (by decide)) T.m__law_due T.F__law_due.kp T.b__law_due (ea_cons (ex_var) (ea_cons (ex_var) (ea_cons (ex_var) (ea_cons (ex_var) (ea_cons (ex_var) (ea_nil)))))) (len_cons (len_cons (len_cons (len_cons (len_cons len_nil)))))) (eg_tupK (egs_cons (eg_name nd) (egs_cons (eg_name nd) (egs_nil))) (leng_cons (leng_cons (leng_nil)))))
    (sxs_cons (sx_set nd (ex_funPK G_payments (hr.mono (by decide)) T.m_payments T.F_payments.kp T.b_payments (ea_cons (ex_var) (ea_cons (ex_var) (ea_cons (ex_var) (ea_cons (ex_var) (ea_cons (ex_var) (ea_nil)))))) (len_cons (len_cons (len_cons (len_cons (len_cons len_nil)))))))
    (sxs_cons (sx_if (et_not (et_val (ex_funPK G__law_same (hr.mono (by decide)) T.m__law_same T.F__law_same.kp T.b__law_same (ea_cons (ex_var) (ea_cons (ex_tup (ea_cons (ex_tuple T.m_tuple (ea_cons (ex_var) (ea_nil))) (ea_cons (ex_var) (ea_nil))) (len_cons (len_cons len_nil))) (ea_nil))) (len_cons (len_cons len_nil))))) (sxs_one (sx_ret (ex_bl))) (sxs_nil))
    (sxs_one (sx_ret (ex_funPK G__law_same (hr.mono (by decide)) T.m__law_same T.F__law_same.kp T.b__law_same (ea_cons (ex_bin op_addK ops_add (ex_sum T.m_sum (ea_cons (EN.x (en_lc rfl nd (b := false) (own := [("name", 15), ("amount", 16)]) (ei_seqK (ex_ixK (ex_var) (ex_int))) (blkOk_by (N := N_law) (sc := defScope s_law) (by decide +kernel)) (fun _ _ _ _ _ => eg_tupK (egs_cons (eg_name nd) (egs_cons (eg_name nd) (egs_nil))) (leng_cons (leng_cons (leng_nil)))) (fun _ _ _ _ _ => ets_nil) (fun _ _ _ _ _ => ex_var))) (ea_nil))) (ex_ixK (ex_var) (ex_int))) (ea_cons (ex_var) (ea_nil))) (len_cons (len_cons len_nil)))))))))))))))))⟩
    obtain ⟨t, R⟩ := R
    refine ⟨_, pss_cons (ps_set (i := 1) sc_law.nd rfl (by first | exact Or.inl rfl | exact Or.inr rfl) (pe_call G__law_box (hr.mono (by decide)) rfl T.m__law_box T.F__law_box.kp T.b__law_box .nil pass0 (pa_cons (pv 0) (pa_cons pe_int pa_nil)))) R.pe, ?_⟩
    refine ⟨_, rfl, ?_⟩
    exact law_go4 (N := N_law) (i := 1) R.sn hS hlen (by decide) (good ns hlen) k
end
/-! ## the end -/
theorem all_mk {l : PySem.W.OpenLaw} {w : World} {K : PySem.W.Frag} {h : Heap} {mg : Str → Option Value} {fa f0 f1 f2 f3 f4 f5 f6 f7 f8 f9 : Addr} (good : ∀ ns : List Int, ns.length ≤ 63 → ∃ ω, b_law (lawRo 17 1) (box4 ns) = some (.rt (.bool true), ω)) (X : K.In h) (G : h.Ns mainGlobals mg) (hfa : mg "law" = some (.ref fa))
    {od0 an0 od1 an1 od2 an2 od3 an3 od4 an4 od5 an5 od6 an6 od7 an7 od8 an8 od9 an9 : Option Addr} {sl0 sl1 sl2 sl3 sl4 sl5 sl6 sl7 sl8 sl9 : Array (Option Value)} {oc0 kV0 dc0 pm0 cd0 ct0 oc1 kV1 dc1 pm1 cd1 ct1 oc2 kV2 dc2 pm2 cd2 ct2 oc3 kV3 dc3 pm3 cd3 ct3 oc4 kV4 dc4 pm4 cd4 ct4 oc5 kV5 dc5 pm5 cd5 ct5 oc6 kV6 dc6 pm6 cd6 ct6 oc7 kV7 dc7 pm7 cd7 ct7 oc8 kV8 dc8 pm8 cd8 ct8 oc9 kV9 dc9 pm9 cd9 ct9 : Value}
    (a0 : PySem.W.nsIn K mainGlobals "input_of" = some (some (.ref f0))) (l0 : K.lookup f0 = some ⟨oc0, od0, .func (PySem.W.fnOf "input_of" "input_of" (defArgs s_input_of) (defBody s_input_of) (defScope s_input_of) .none kV0 dc0 pm0 an0 cd0 ct0), sl0⟩) (c0 : PySem.W.codeIn K cd0 "input_of" = true) (k0 : PySem.W.keepIn K (.ref f0) = true)
    (a1 : PySem.W.nsIn K mainGlobals "payments" = some (some (.ref f1))) (l1 : K.lookup f1 = some ⟨oc1, od1, .func (PySem.W.fnOf "payments" "payments" (defArgs s_payments) (defBody s_payments) (defScope s_payments) .none kV1 dc1 pm1 an1 cd1 ct1), sl1⟩) (c1 : PySem.W.codeIn K cd1 "payments" = true) (k1 : PySem.W.keepIn K (.ref f1) = true)
    (a2 : PySem.W.nsIn K mainGlobals "_law_same" = some (some (.ref f2))) (l2 : K.lookup f2 = some ⟨oc2, od2, .func (PySem.W.fnOf "_law_same" "_law_same" (defArgs s__law_same) (defBody s__law_same) (defScope s__law_same) .none kV2 dc2 pm2 an2 cd2 ct2), sl2⟩) (c2 : PySem.W.codeIn K cd2 "_law_same" = true) (k2 : PySem.W.keepIn K (.ref f2) = true)
    (a3 : PySem.W.nsIn K mainGlobals "_law_box" = some (some (.ref f3))) (l3 : K.lookup f3 = some ⟨oc3, od3, .func (PySem.W.fnOf "_law_box" "_law_box" (defArgs s__law_box) (defBody s__law_box) (defScope s__law_box) .none kV3 dc3 pm3 an3 cd3 ct3), sl3⟩) (c3 : PySem.W.codeIn K cd3 "_law_box" = true) (k3 : PySem.W.keepIn K (.ref f3) = true)
    (a4 : PySem.W.nsIn K mainGlobals "_law_load" = some (some (.ref f4))) (l4 : K.lookup f4 = some ⟨oc4, od4, .func (PySem.W.fnOf "_law_load" "_law_load" (defArgs s__law_load) (defBody s__law_load) (defScope s__law_load) .none kV4 dc4 pm4 an4 cd4 ct4), sl4⟩) (c4 : PySem.W.codeIn K cd4 "_law_load" = true) (k4 : PySem.W.keepIn K (.ref f4) = true)
    (a5 : PySem.W.nsIn K mainGlobals "_law_draw" = some (some (.ref f5))) (l5 : K.lookup f5 = some ⟨oc5, od5, .func (PySem.W.fnOf "_law_draw" "_law_draw" (defArgs s__law_draw) (defBody s__law_draw) (defScope s__law_draw) .none kV5 dc5 pm5 an5 cd5 ct5), sl5⟩) (c5 : PySem.W.codeIn K cd5 "_law_draw" = true) (k5 : PySem.W.keepIn K (.ref f5) = true)
    (a6 : PySem.W.nsIn K mainGlobals "_law_entries" = some (some (.ref f6))) (l6 : K.lookup f6 = some ⟨oc6, od6, .func (PySem.W.fnOf "_law_entries" "_law_entries" (defArgs s__law_entries) (defBody s__law_entries) (defScope s__law_entries) .none kV6 dc6 pm6 an6 cd6 ct6), sl6⟩) (c6 : PySem.W.codeIn K cd6 "_law_entries" = true) (k6 : PySem.W.keepIn K (.ref f6) = true)
    (a7 : PySem.W.nsIn K mainGlobals "_law_words" = some (some (.ref f7))) (l7 : K.lookup f7 = some ⟨oc7, od7, .func (PySem.W.fnOf "_law_words" "_law_words" (defArgs s__law_words) (defBody s__law_words) (defScope s__law_words) .none kV7 dc7 pm7 an7 cd7 ct7), sl7⟩) (c7 : PySem.W.codeIn K cd7 "_law_words" = true) (k7 : PySem.W.keepIn K (.ref f7) = true)
    (a8 : PySem.W.nsIn K mainGlobals "_law_due" = some (some (.ref f8))) (l8 : K.lookup f8 = some ⟨oc8, od8, .func (PySem.W.fnOf "_law_due" "_law_due" (defArgs s__law_due) (defBody s__law_due) (defScope s__law_due) .none kV8 dc8 pm8 an8 cd8 ct8), sl8⟩) (c8 : PySem.W.codeIn K cd8 "_law_due" = true) (k8 : PySem.W.keepIn K (.ref f8) = true)
    (a9 : PySem.W.nsIn K mainGlobals "law" = some (some (.ref f9))) (l9 : K.lookup f9 = some ⟨oc9, od9, .func (PySem.W.fnOf "law" "law" (defArgs s_law) (defBody s_law) (defScope s_law) .none kV9 dc9 pm9 an9 cd9 ct9), sl9⟩) (c9 : PySem.W.codeIn K cd9 "law" = true) (k9 : PySem.W.keepIn K (.ref f9) = true)
    (z_all : PySem.W.nsIn K mainGlobals "all" = some none)
    (z_bool : PySem.W.nsIn K mainGlobals "bool" = some none)
    (z_dict : PySem.W.nsIn K mainGlobals "dict" = some none)
    (z_int : PySem.W.nsIn K mainGlobals "int" = some none)
    (z_isinstance : PySem.W.nsIn K mainGlobals "isinstance" = some none)
    (z_len : PySem.W.nsIn K mainGlobals "len" = some none)
    (z_list : PySem.W.nsIn K mainGlobals "list" = some none)
    (z_min : PySem.W.nsIn K mainGlobals "min" = some none)
    (z_range : PySem.W.nsIn K mainGlobals "range" = some none)
    (z_str : PySem.W.nsIn K mainGlobals "str" = some none)
    (z_sum : PySem.W.nsIn K mainGlobals "sum" = some none)
    (z_tuple : PySem.W.nsIn K mainGlobals "tuple" = some none)
    : ∃ fd : FuncData, (∀ (s : Shared) (v : Value), BindsTo s fd ⟨[v], []⟩ [("script", v)]) ∧ ∀ base : Heap, K.In base → base.Ns mainGlobals mg → FnOk l.prog w K mg base CX0 8 fa fd ["script"] (spLaw K) := by
  have e := hfa.symm.trans (PySem.W.mg_of X G a9)
  cases e
  have F0 := fun_mk (st := s_input_of) l0 c0 k0
  have b0 := F0.binds (ps := ["entries"]) fun _ _ _ _ _ _ us hl => match us, hl with | [_], _ => rfl
  have F1 := fun_mk (st := s_payments) l1 c1 k1
  have b1 := F1.binds (ps := ["members", "rest", "entries", "status", "words"]) fun _ _ _ _ _ _ us hl => match us, hl with | [_, _, _, _, _], _ => rfl
  have F2 := fun_mk (st := s__law_same) l2 c2 k2
  have b2 := F2.binds (ps := ["a", "b"]) fun _ _ _ _ _ _ us hl => match us, hl with | [_, _], _ => rfl
  have F3 := fun_mk (st := s__law_box) l3 c3 k3
  have b3 := F3.binds (ps := ["script", "nodes"]) fun _ _ _ _ _ _ us hl => match us, hl with | [_, _], _ => rfl
  have F4 := fun_mk (st := s__law_load) l4 c4 k4
  have b4 := F4.binds (ps := ["box"]) fun _ _ _ _ _ _ us hl => match us, hl with | [_], _ => rfl
  have F5 := fun_mk (st := s__law_draw) l5 c5 k5
  have b5 := F5.binds (ps := ["box", "many"]) fun _ _ _ _ _ _ us hl => match us, hl with | [_, _], _ => rfl
  have F6 := fun_mk (st := s__law_entries) l6 c6 k6
  have b6 := F6.binds (ps := ["box", "many"]) fun _ _ _ _ _ _ us hl => match us, hl with | [_, _], _ => rfl
  have F7 := fun_mk (st := s__law_words) l7 c7 k7
  have b7 := F7.binds (ps := ["box", "many", "pot"]) fun _ _ _ _ _ _ us hl => match us, hl with | [_, _, _], _ => rfl
  have F8 := fun_mk (st := s__law_due) l8 c8 k8
  have b8 := F8.binds (ps := ["members", "rest", "entries", "status", "words"]) fun _ _ _ _ _ _ us hl => match us, hl with | [_, _, _, _, _], _ => rfl
  have F9 := fun_mk (st := s_law) l9 c9 k9
  have b9 := F9.binds (ps := ["script"]) fun _ _ _ _ _ _ us hl => match us, hl with | [_], _ => rfl
  let T : Tx K mg := { a_input_of := f0, fd_input_of := _, F_input_of := F0, m_input_of := PySem.W.mg_of X G a0, b_input_of := b0, a_payments := f1, fd_payments := _, F_payments := F1, m_payments := PySem.W.mg_of X G a1, b_payments := b1, a__law_same := f2, fd__law_same := _, F__law_same := F2, m__law_same := PySem.W.mg_of X G a2, b__law_same := b2, a__law_box := f3, fd__law_box := _, F__law_box := F3, m__law_box := PySem.W.mg_of X G a3, b__law_box := b3, a__law_load := f4, fd__law_load := _, F__law_load := F4, m__law_load := PySem.W.mg_of X G a4, b__law_load := b4, a__law_draw := f5, fd__law_draw := _, F__law_draw := F5, m__law_draw := PySem.W.mg_of X G a5, b__law_draw := b5, a__law_entries := f6, fd__law_entries := _, F__law_entries := F6, m__law_entries := PySem.W.mg_of X G a6, b__law_entries := b6, a__law_words := f7, fd__law_words := _, F__law_words := F7, m__law_words := PySem.W.mg_of X G a7, b__law_words := b7, a__law_due := f8, fd__law_due := _, F__law_due := F8, m__law_due := PySem.W.mg_of X G a8, b__law_due := b8, a_law := fa, fd_law := _, F_law := F9, m_law := PySem.W.mg_of X G a9, b_law := b9, m_all := PySem.W.mg_none_of X G z_all, m_bool := PySem.W.mg_none_of X G z_bool, m_dict := PySem.W.mg_none_of X G z_dict, m_int := PySem.W.mg_none_of X G z_int, m_isinstance := PySem.W.mg_none_of X G z_isinstance, m_len := PySem.W.mg_none_of X G z_len, m_list := PySem.W.mg_none_of X G z_list, m_min := PySem.W.mg_none_of X G z_min, m_range := PySem.W.mg_none_of X G z_range, m_str := PySem.W.mg_none_of X G z_str, m_sum := PySem.W.mg_none_of X G z_sum, m_tuple := PySem.W.mg_none_of X G z_tuple }
  exact ⟨PySem.W.fnOf "law" "law" (defArgs s_law) (defBody s_law) (defScope s_law) .none kV9 dc9 pm9 an9 cd9 ct9, fun s v => .of_eq rfl, fun base _ _ => ok_law T good⟩
theorem walk {l : PySem.W.OpenLaw} {q : Program} {loose : List Str} {XP : (Str → Option Value) → Heap → Prop} {YP : World → Heap → Prop} {d : DefRec} {K : Params → PySem.W.Frag} (hn : l.most = some 63) (hdf : d.params.defaults = [])
    (hY : ∀ (w : World) (h : Heap), YP w h → (K w.params).In h)
    (F : ∀ (w : World) (mg : Str → Option Value) (fa : Addr) (h : Heap), (K w.params).In h → h.Ns mainGlobals mg → mg d.name = some (.ref fa) →
      ∃ fd : FuncData, (∀ (s : Shared) (u : Value), BindsTo s fd ⟨[u], []⟩ [("script", u)]) ∧ ∀ base : Heap, (K w.params).In base → base.Ns mainGlobals mg → FnOk l.prog w (K w.params) mg base CX0 8 fa fd ["script"] (spLaw (K w.params))) :
    PySem.W.WalkO q loose XP YP l.row.toRowW d [] (fun f vs => PySem.call f vs) :=
  L2.walk_of (n := 63) (k := 8) (x := "script") (CX := fun _ => CX0) (sp := fun w => spLaw (K w.params)) hn (by decide) hdf ⟨rfl, by decide, by decide⟩ hY F (fun _ _ a ns hl _ hS => ⟨a, ns, rfl, hS, hl, fun _ => rfl⟩) fun _ _ _ _ _ z => z
end G_k62
end

section
namespace Dn
open PySem PySem.Spec L2
theorem exMap {α : Type} {e : α → D} {P : α → Prop} : ∀ {ds : List D}, (∀ d ∈ ds, ∃ a, d = e a ∧ P a) → ∃ l : List α, ds = l.map e ∧ ∀ a ∈ l, P a
  | [], _ => ⟨[], rfl, by simp⟩
  | d :: ds, h => by
    obtain ⟨a, rfl, p⟩ := h d (List.mem_cons_self ..)
    obtain ⟨l, rfl, q⟩ := exMap fun x hx => h x (List.mem_cons_of_mem _ hx)
    refine ⟨a :: l, rfl, fun x hx => ?_⟩
    rcases List.mem_cons.mp hx with rfl | hx
    · exact p
    · exact q x hx
theorem okL_of : ∀ {xs : List D}, (∀ x ∈ xs, okD x = true) → okL xs = true
  | [], _ => rfl
  | x :: xs, h => by
    rw [okL, h x (List.mem_cons_self ..), okL_of fun y hy => h y (List.mem_cons_of_mem _ hy)]; rfl
theorem dptL_le {n : Nat} : ∀ {xs : List D}, (∀ x ∈ xs, dpt x ≤ n) → dptL xs ≤ n
  | [], _ => Nat.zero_le _
  | x :: xs, h => by
    rw [dptL]
    exact Nat.max_le.mpr ⟨h x (List.mem_cons_self ..), dptL_le fun y hy => h y (List.mem_cons_of_mem _ hy)⟩
theorem plainInts (ns : List Int) : PyData.plainAll (ns.map PyData.int) = true := by
  induction ns with
  | nil => rfl
  | cons n ns ih => rw [List.map_cons, PyData.plainAll, ih]; rfl
theorem depthInts (ns : List Int) : PyData.depthAll (ns.map PyData.int) ≤ 1 := by
  induction ns with
  | nil => exact Nat.zero_le _
  | cons n ns ih => rw [List.map_cons, PyData.depthAll]; exact Nat.max_le.mpr ⟨by simp [PyData.depth], ih⟩
theorem WS.pure {t : List D} {ρ : Ro} {f : DS} {Q : Ro → Prop} {R : D → Prop} (d : D) (h : ∀ ω, f ρ ω = some (.rt d, ω)) (r : R d) : WS t f ρ Q R := fun ω i => ⟨ρ, ω, i, .inr ⟨d, h ω, r⟩⟩
theorem opIx_tupM {α : Type} {e : α → D} {l : List α} {i : Int} (h0 : 0 ≤ i) (h1 : i < l.length) : ∃ a, opIx (.tuple (l.map e)) (.int i) = some (e a) ∧ a ∈ l ∧ l[i.toNat]? = some a := by
  have hk : i.toNat < l.length := by omega
  refine ⟨l[i.toNat], ?_, List.getElem_mem hk, List.getElem?_eq_getElem hk⟩
  have q := opIx_tup (xs := l.map e) (k := i.toNat) (by simpa using hk)
  rw [show ((i.toNat : Nat) : Int) = i from by omega] at q
  rw [q, List.getElem_map]
end Dn
namespace G_k62
open PySem PySem.Spec L2 Dn
theorem e_draw : d__law_draw = dDraw := rfl
theorem e_same : d__law_same 6 = dSameD 6 := rfl
def nmD (k : Nat) : D := .str ("member" ++ toString (k : Int))
def enD (x : Int × Int × Int) : D := .tuple [.int x.1, .int x.2.1, .int x.2.2]
def EnP (M : Int) (x : Int × Int × Int) : Prop := 0 ≤ x.1 ∧ x.1 < M ∧ 0 ≤ x.2.1
variable {t : List D}
theorem entries_ok (M : Int) (hM : 0 < M) (hM' : M ≤ 16) : ∀ ω, BoxI t ω → ∃ d ω', d__law_entries [ob 0, .int M] ω = some (d, ω') ∧ BoxI t ω' ∧ ∃ l : List (Int × Int × Int), d = .tuple (l.map enD) ∧ l.length ≤ 21 ∧ ∀ x ∈ l, EnP M x := by
  refine WS.fnD (P := fun d => ∃ l : List (Int × Int × Int), d = .tuple (l.map enD) ∧ l.length ≤ 21 ∧ ∀ x ∈ l, EnP M x) ?_
  simp only [e_draw, b__law_entries, List.map, List.length, List.append]
  refine WS.ownThen WA.nil fun _ h => ?_
  subst h
  refine WS.seq (Q' := fun ρ' => ∃ l a b, ρ' = [.val (ob 0), .val (.int M), .own l, a, b] ∧ l.length ≤ 21 ∧ ∀ d ∈ l, ∃ x, d = enD x ∧ EnP M x) ?_ ?_
  · refine WS.for' (P := fun _ => True) (fun k ρ' => ∃ l a b, ρ' = [.val (ob 0), .val (.int M), .own l, a, b] ∧ l.length = k ∧ ∀ d ∈ l, ∃ x, d = enD x ∧ EnP M x) 21 ?_ ⟨[], .un, .un, rfl, rfl, by simp⟩ ?_ ?_
    · refine (WA.range 21 (by decide) (WE.pick 2 (WA.consP ?_ (WA.consP (WE.draw 22 rfl (fun _ => rfl) (by decide) (by decide)) WA.nilP)) (WE.draw 2 rfl (fun _ => rfl) (by decide) (by decide)))).mono ?_
      · exact WE.c ⟨21, rfl, by decide, by decide⟩
      · exact fun ds h => ⟨h.1, fun _ _ => trivial⟩
    · rintro k ρ' d hk ⟨l, a, b, rfl, rfl, hl⟩ -
      refine ⟨_, rfl, ?_⟩
      refine WS.setThen (P := IntIn 0 4294967296) (WE.pick 3 (WA.consP (WE.c ⟨_, rfl, by decide, by decide⟩) (WA.consP (WE.c ⟨_, rfl, by decide, by decide⟩) (WA.consP (WE.bin (WE.c (P := fun d => d = .int 1) rfl) (WE.draw 4294967295 rfl (fun _ => rfl) (by decide) (by decide)) ?_) WA.nilP))) (WE.draw 3 rfl (fun _ => rfl) (by decide) (by decide))) ?_
      · rintro x y rfl ⟨i, rfl, h0, h1⟩
        exact ⟨.int (1 + i), rfl, _, rfl, by omega, by omega⟩
      rintro _ ⟨am, rfl, ha0, ha1⟩
      refine WS.app (P := fun d => ∃ x, d = enD x ∧ EnP M x) (xs := l) (WE.tup (WA.cons (WE.draw M rfl (fun _ => rfl) hM ?_) (WA.cons (WE.v (d := .int am) (P := fun d => d = .int am) rfl rfl) (WA.cons (P := IntIn 0 4294967296) (WE.pick 3 (WA.consP (WE.c ⟨_, rfl, by decide, by decide⟩) (WA.consP (WE.c ⟨_, rfl, by decide, by decide⟩) (WA.consP (WE.draw 4294967296 rfl (fun _ => rfl) (by decide) (by decide)) WA.nilP))) (WE.draw 3 rfl (fun _ => rfl) (by decide) (by decide))) WA.nil))) ?_) rfl (by omega) ?_
      · have : M.natAbs < 32 := by omega
        have : M.natAbs.log2 < 5 := by
          by_cases h : M.natAbs = 0
          · omega
          · exact (Nat.log2_lt h).mpr this
        omega
      · rintro l ⟨_, _, rfl, ⟨m, rfl, m0, m1⟩, _, _, rfl, rfl, _, _, rfl, ⟨n, rfl, _, _⟩, rfl⟩
        exact ⟨(m, am, n), rfl, m0, m1, ha0⟩
      · rintro d ⟨x, rfl, hx⟩
        refine ⟨l ++ [enD x], _, _, rfl, by simp, fun d hd => ?_⟩
        rcases List.mem_append.mp hd with h | h
        · exact hl d h
        · exact ⟨x, List.mem_singleton.mp h, hx⟩
    · rintro k ρ' hk ⟨l, a, b, rfl, rfl, hl⟩
      exact ⟨l, a, b, rfl, hk, hl⟩
  · rintro ρ' ⟨l, a, b, rfl, hz, hl⟩
    obtain ⟨l', rfl, hl'⟩ := exMap hl
    exact WS.ret (WE.pure (.tuple (l'.map enD)) (fun _ => rfl) ⟨l', rfl, by simpa using hz, hl'⟩)
theorem words_ok (M : Int) (pot : Int) (hM : 0 < M) (hM' : M ≤ 16) (hp : 0 ≤ pot) : ∀ ω, BoxI t ω → ∃ d ω', d__law_words [ob 0, .int M, .int pot] ω = some (d, ω') ∧ BoxI t ω' ∧ ∃ l : List Int, d = .tuple (l.map .int) ∧ l.length ≤ 1024 ∧ ∀ x ∈ l, 0 ≤ x := by
  have hlog : M.natAbs.log2 < 9000 := by
    have : M.natAbs < 32 := by omega
    have : M.natAbs.log2 < 5 := by
      by_cases h : M.natAbs = 0
      · omega
      · exact (Nat.log2_lt h).mpr this
    omega
  refine WS.fnD (P := fun d => ∃ l : List Int, d = .tuple (l.map .int) ∧ l.length ≤ 1024 ∧ ∀ x ∈ l, 0 ≤ x) ?_
  simp only [e_draw, b__law_words, List.map, List.length, List.append]
  refine WS.ownThen WA.nil fun _ h => ?_
  subst h
  refine WS.setThen (P := fun d => ∃ m, d = .int m ∧ 0 < m ∧ m ≤ 4294967296) (WE.pick 3 (WA.consP (WE.c ⟨_, rfl, by decide, by decide⟩) (WA.consP (WE.c ⟨_, rfl, by decide, by decide⟩) (WA.consP (WE.c ⟨_, rfl, by decide, by decide⟩) WA.nilP))) (WE.draw 3 rfl (fun _ => rfl) (by decide) (by decide))) ?_
  rintro _ ⟨sm, rfl, sm0, sm1⟩
  have hlogs : sm.natAbs.log2 < 9000 := by
    have : sm.natAbs < 2 ^ 33 := by omega
    have : sm.natAbs.log2 < 33 := by
      by_cases h : sm.natAbs = 0
      · rw [h]; decide
      · exact (Nat.log2_lt h).mpr this
    omega
  let I : Nat → Ro → Prop := fun k ρ' => ∃ (l : List Int) (a : SV), ρ' = [.val (ob 0), .val (.int M), .val (.int pot), .own (l.map .int), .val (.int sm), a] ∧ l.length = 2 * k ∧ ∀ x ∈ l, 0 ≤ x
  refine WS.seq (Q' := fun ρ' => ∃ k, k ≤ 512 ∧ I k ρ') ?_ ?_
  · refine WS.for' (P := fun _ => True) I 512 ?_ ⟨[], .un, rfl, rfl, by simp⟩ ?_ (fun k ρ hk h => ⟨k, hk, h⟩)
    · refine (WA.range 512 (by decide) (WE.pick 2 (WA.consP ?_ (WA.consP (WE.draw 513 rfl (fun _ => rfl) (by decide) (by decide)) WA.nilP)) (WE.draw 2 rfl (fun _ => rfl) (by decide) (by decide)))).mono ?_
      · exact WE.c ⟨512, rfl, by decide, by decide⟩
      · exact fun ds h => ⟨h.1, fun _ _ => trivial⟩
    · rintro k ρ' d hk ⟨l, a, rfl, hz, hl⟩ -
      refine ⟨_, rfl, ?_⟩
      refine WS.appThen (P := NatD) (xs := l.map .int) (WE.bin (P := fun d => ∃ ds, d = .list ds ∧ AllP 3 NatD ds) (Q := IntIn 0 3) (WE.lst (WA.consP ((WE.draw M rfl (fun _ => rfl) hM hlog).mono ?_) (WA.consP (WE.v (d := .int M) rfl ⟨M, rfl, by omega⟩) (WA.consP ((WE.draw 4294967296 rfl (fun _ => rfl) (by decide) (by decide)).mono ?_) WA.nilP))) fun l h => ⟨l, rfl, h⟩) (WE.pick 6 (WA.consP (WE.c ⟨_, rfl, by decide, by decide⟩) (WA.consP (WE.c ⟨_, rfl, by decide, by decide⟩) (WA.consP (WE.c ⟨_, rfl, by decide, by decide⟩) (WA.consP (WE.c ⟨_, rfl, by decide, by decide⟩) (WA.consP (WE.c ⟨_, rfl, by decide, by decide⟩) (WA.consP (WE.c ⟨_, rfl, by decide, by decide⟩) WA.nilP)))))) (WE.draw 6 rfl (fun _ => rfl) (by decide) (by decide))) ?_) rfl (by simp; omega) ?_
      · rintro d ⟨i, rfl, h, _⟩; exact ⟨i, rfl, h⟩
      · rintro d ⟨i, rfl, h, _⟩; exact ⟨i, rfl, h⟩
      · rintro x y ⟨ds, rfl, hd, hp⟩ ⟨i, rfl, h0, h1⟩
        obtain ⟨d, e, hm⟩ := atI_mem (xs := ds) h0 (by rw [hd]; exact h1)
        exact ⟨d, e, hp d hm⟩
      rintro _ ⟨x, rfl, hx⟩
      refine WS.app (P := NatD) (xs := l.map .int ++ [.int x]) (WE.bin (P := fun d => ∃ ds, d = .list ds ∧ AllP 2 NatD ds) (Q := IntIn 0 2) (WE.lst (WA.consP ((WE.draw sm rfl (fun _ => rfl) sm0 hlogs).mono ?_) (WA.consP (WE.pure (.int (if 4294967295 < pot then 4294967295 else pot)) (fun _ => rfl) ⟨_, rfl, by split <;> omega⟩) WA.nilP)) fun l h => ⟨l, rfl, h⟩) (WE.call (WA.cons (WE.bin (WE.draw 40 rfl (fun _ => rfl) (by decide) (by decide)) (WE.c (P := fun d => d = .int 0) rfl) (R := fun d => ∃ c, d = .bool c) ?_) WA.nil) ?_) ?_) rfl (by simp; omega) ?_
      · rintro d ⟨i, rfl, h, _⟩; exact ⟨i, rfl, h⟩
      · rintro x y ⟨i, rfl, _, _⟩ rfl
        exact ⟨_, opEq_int i 0, _, rfl⟩
      · rintro _ ⟨_, _, rfl, ⟨c, rfl⟩, rfl⟩
        exact ⟨_, rfl, _, rfl, by split <;> decide, by split <;> decide⟩
      · rintro x y ⟨ds, rfl, hd, hp⟩ ⟨i, rfl, h0, h1⟩
        obtain ⟨d, e, hm⟩ := atI_mem (xs := ds) h0 (by rw [hd]; exact h1)
        exact ⟨d, e, hp d hm⟩
      rintro _ ⟨y, rfl, hy⟩
      refine ⟨l ++ [x, y], _, by simp; rfl, by simp; omega, fun d hd => ?_⟩
      rcases List.mem_append.mp hd with h | h
      · exact hl d h
      · simp at h; rcases h with rfl | rfl <;> assumption
  · rintro ρ' ⟨k, hk, l, a, rfl, hz, hl⟩
    refine WS.seq (Q' := fun ρ' => ∃ (l : List Int), ρ'[3]? = some (.own (l.map .int)) ∧ l.length ≤ 1024 ∧ ∀ x ∈ l, 0 ≤ x) ?_ ?_
    · refine WS.ite (P := fun c => c = true → l ≠ []) (WT.and (P := fun _ => True) (P' := fun c => c = true → l ≠ []) (WT.ofE (WE.bin (WE.draw 6 rfl (fun _ => rfl) (by decide) (by decide)) (WE.c (P := fun d => d = .int 0) rfl) ?_)) (fun _ => WT.ofE (WE.pure (.bool (!PyData.eqv (.list (l.map .int)) (.list []))) (fun ω => ?_) ⟨_, rfl, ?_⟩)) (fun _ h => absurd h (by decide)) (fun _ c h => h)) ?_ ?_
      · rintro x y ⟨i, rfl, _, _⟩ rfl
        exact ⟨_, opEq_int i 0, _, rfl, trivial⟩
      · have h1 := depthInts l
        simp [opNe, cmpOk, PyData.plain, plainInts, PyData.depth, PyData.plainAll]
        have h2 : PyData.depthAll (List.map PyData.int l) ≤ 59 := by omega
        rw [if_pos h2]
      · rintro h rfl
        exact absurd h (by decide)
      · intro h
        have hn := h rfl
        intro ω ib
        refine ⟨[.val (ob 0), .val (.int M), .val (.int pot), .own (l.dropLast.map .int), .val (.int sm), a], ω, ib, .inl ⟨?_, l.dropLast, rfl, by simp; omega, fun x hx => hl x (List.dropLast_subset l hx)⟩⟩
        have hl0 : 0 < l.length := List.length_pos_iff.mpr hn
        have e : (l.map PyData.int)[(l.map PyData.int).length - 1]? = some (.int l[l.length - 1]) := by
          rw [List.length_map, List.getElem?_map, List.getElem?_eq_getElem (by omega)]; rfl
        have e' : l[l.length - 1]? = some l[l.length - 1] := List.getElem?_eq_getElem (by omega)
        simp [e']
      · intro h
        exact WS.next ⟨l, rfl, by omega, hl⟩
    · rintro ρ' ⟨l, e, hz, hl⟩
      exact WS.ret (WE.pure (.tuple (l.map .int)) (fun _ => by simp [e]) ⟨l, rfl, hz, hl⟩)

/-! ## the plain law -/
def flatI (l : List (Int × Int × Int)) : List Int := l.flatMap fun x => [x.1, x.2.1, x.2.2]
theorem flatI_len (l : List (Int × Int × Int)) : (flatI l).length = 3 * l.length := by
  induction l with
  | nil => rfl
  | cons x l ih =>
    rw [flatI, List.flatMap_cons, List.length_append]
    rw [flatI] at ih
    rw [ih, List.length_cons]
    simp only [List.length_cons, List.length_nil]
    omega
theorem flat_loop (t0 t1 t2 t3 t4 t5 t6 t7 t8 t11 t12 t13 t14 t15 t16 : SV) (ω : Wd) (l : List (Int × Int × Int)) (hl : l.length ≤ 21) : ∃ v, loopD (gSet 10) (sExt 9 (eOfN (aList (aCons (eVar 10) aNil)))) (l.map enD) [t0, t1, t2, t3, t4, t5, t6, t7, t8, .own [], .un, t11, t12, t13, t14, t15, t16] ω = some (.nx [t0, t1, t2, t3, t4, t5, t6, t7, t8, .own ((flatI l).map .int), v, t11, t12, t13, t14, t15, t16], ω) := by
  have q : ∀ (l : List (Int × Int × Int)) (ys : List Int) (v : SV), ys.length + 3 * l.length ≤ 1000 → ∃ v', loopD (gSet 10) (sExt 9 (eOfN (aList (aCons (eVar 10) aNil)))) (l.map enD) [t0, t1, t2, t3, t4, t5, t6, t7, t8, .own (ys.map .int), v, t11, t12, t13, t14, t15, t16] ω = some (.nx [t0, t1, t2, t3, t4, t5, t6, t7, t8, .own ((ys ++ flatI l).map .int), v', t11, t12, t13, t14, t15, t16], ω) := by
    intro l
    induction l with
    | nil => intro ys v _; exact ⟨v, by rw [flatI]; simp [loopD]⟩
    | cons x l ih =>
      intro ys v h
      rw [List.length_cons] at h
      obtain ⟨v', e⟩ := ih (ys ++ [x.1, x.2.1, x.2.2]) (.val (enD x)) (by simp; omega)
      refine ⟨v', ?_⟩
      rw [List.map_cons]
      unfold loopD
      have hz : ys.length + 3 ≤ sizeLine := Nat.le_trans (by omega : _ ≤ 1003) (by decide)
      simp [enD, hz]
      simp [enD] at e
      rw [e]
      simp [flatI]
  obtain ⟨v, e⟩ := q l [] .un (by simp; omega)
  exact ⟨v, by simpa using e⟩
theorem input_ok (l : List (Int × Int × Int)) (hl : l.length ≤ 21) (ω : Wd) : d_input_of [.tuple (l.map enD)] ω = some (.tuple ((flatI l).map .int), ω) := by
  have q : ∀ (l : List (Int × Int × Int)) (ρ0 : SV), lc2D (gSet 1) tYesD (iSq (eVar 1)) (gSet 2) tYesD (eVar 2) [2] [ρ0, .un, .un] (l.map enD) ω = some ((flatI l).map .int, ω) := by
    intro l ρ0
    induction l with
    | nil => rfl
    | cons x l ih =>
      rw [List.map_cons]
      unfold lc2D
      simp [ih, enD, lcD, wipeR]
      simp [flatI]
  have hz : 3 * l.length ≤ sizeLine := Nat.le_trans (by omega : _ ≤ 1003) (by decide)
  simp [d_input_of, defD, b_input_of, wipeR, q, flatI_len, hz, opTuple]

abbrev Pay := List (Nat × Int)
def pyD (x : Nat × Int) : D := .tuple [nmD x.1, .int x.2]
def stp (M : Nat) (ws : List Int) (s : Int × Pay) (k : Nat) : Int × Pay :=
  let a := ws.getD (2 * k) 0
  let b := ws.getD (2 * k + 1) 0
  if a < M then let m := if s.1 < b then s.1 else b; (s.1 - m, s.2 ++ [(a.toNat, m)]) else s
def run (M : Nat) (ws : List Int) (left : Int) : Int × Pay := (List.range (ws.length / 2)).foldl (stp M ws) (left, [])
def pay0 (l : List (Int × Int × Int)) : Pay := l.map fun x => (x.1.toNat, x.2.1)
def amt (l : List (Int × Int × Int)) : Int := (l.map fun x => x.2.1).sum
theorem run_sum (M : Nat) (ws : List Int) (left : Int) : ((run M ws left).2.map Prod.snd).sum + (run M ws left).1 = left := by
  have q : ∀ (ks : List Nat) (s : Int × Pay), ((ks.foldl (stp M ws) s).2.map Prod.snd).sum + (ks.foldl (stp M ws) s).1 = (s.2.map Prod.snd).sum + s.1 := by
    intro ks
    induction ks with
    | nil => intro s; rfl
    | cons k ks ih =>
      intro s
      rw [List.foldl_cons, ih]
      unfold stp
      simp only []
      split
      · simp only [List.map_append, List.sum_append, List.map_cons, List.map_nil, List.sum_cons, List.sum_nil]
        omega
      · rfl
  have := q (List.range (ws.length / 2)) (left, [])
  simpa [run] using this
theorem run_len (M : Nat) (ws : List Int) (left : Int) : (run M ws left).2.length ≤ ws.length / 2 := by
  have q : ∀ (ks : List Nat) (s : Int × Pay), (ks.foldl (stp M ws) s).2.length ≤ s.2.length + ks.length := by
    intro ks
    induction ks with
    | nil => intro s; simp
    | cons k ks ih =>
      intro s
      rw [List.foldl_cons]
      refine Nat.le_trans (ih _) ?_
      unfold stp
      simp only []
      split <;> simp <;> omega
  have := q (List.range (ws.length / 2)) (left, [])
  simpa [run] using this
def mem (M : Nat) : D := .tuple ((List.range M).map nmD)
theorem mem_ix {M : Nat} {a : Int} (h0 : 0 ≤ a) (h1 : a < M) : opIx (mem M) (.int a) = some (nmD a.toNat) := by
  have hk : a.toNat < ((List.range M).map nmD).length := by simp; omega
  have q := opIx_tup hk
  rw [show ((a.toNat : Nat) : Int) = a from by omega] at q
  refine Eq.trans (show opIx (mem M) (.int a) = _ from q) ?_
  rw [List.getElem_map, List.getElem_range]
theorem ws_ix {ws : List Int} {k : Nat} (hk : k < ws.length) : opIx (.tuple (ws.map .int)) (.int (k : Int)) = some (.int (ws.getD k 0)) := by
  have q := opIx_tup (xs := ws.map .int) (k := k) (by simpa using hk)
  rw [q]
  simp [hk]
theorem pay0_ok {M : Nat} {l : List (Int × Int × Int)} (hl : ∀ x ∈ l, EnP M x) (ρ : Ro) (ω : Wd) (h0 : ρ[0]? = some (.val (mem M))) (h9 : 9 < ρ.length) : lcD (gSet 9) tYesD (eTup (aCons (eBin opIx (eVar 0) (eBin opIx (eVar 9) (eC (.int 0)))) (aCons (eBin opIx (eVar 9) (eC (.int 1))) aNil))) ρ (l.map enD) ω = some ((pay0 l).map pyD, ω) := by
  have e : (pay0 l).map pyD = l.map fun x => pyD (x.1.toNat, x.2.1) := by simp [pay0]
  rw [e]
  refine lcD_map _ _ _ fun x hx => ⟨_, rfl, rfl, ?_⟩
  obtain ⟨h1, h2, _⟩ := hl x hx
  have e0 : (ρ.set 9 (.val (enD x)))[0]? = some (.val (mem M)) := by rw [List.getElem?_set_ne (by decide)]; exact h0
  have e9 : (ρ.set 9 (.val (enD x)))[9]? = some (.val (enD x)) := by rw [List.getElem?_set_self h9]
  simp [e0, e9]
  have i0 : opIx (enD x) (.int 0) = some (.int x.1) := atI0
  have i1 : opIx (enD x) (.int 1) = some (.int x.2.1) := atI1
  simp [i0, i1, mem_ix h1 h2, pyD]
theorem sum0_ok {l : List (Int × Int × Int)} (i : Nat) (ρ : Ro) (ω : Wd) (h9 : i < ρ.length) : lcD (gSet i) tYesD (eBin opIx (eVar i) (eC (.int 1))) ρ (l.map enD) ω = some ((l.map fun x => x.2.1).map .int, ω) := by
  rw [List.map_map]
  refine lcD_map _ _ _ fun x hx => ⟨_, rfl, rfl, ?_⟩
  have e9 : (ρ.set i (.val (enD x)))[i]? = some (.val (enD x)) := by rw [List.getElem?_set_self h9]
  have i1 : opIx (enD x) (.int 1) = some (.int x.2.1) := atI1
  simp [e9, i1]
theorem opSum_ints (ns : List Int) : opSum [.list (ns.map .int)] = some (.int ns.sum) := by
  simp [opSum, intsOf_map]
def odd (ws : List Int) (st : Int) : Bool := st != 1 || ws.length % 2 == 1
/-- the loop of both functions, at its own reading of the round -/
theorem pay_loop {M : Nat} {ws : List Int} (hw : ∀ x ∈ ws, 0 ≤ x) (hz : ws.length ≤ 1024) (fk fk1 : DE) (ek : Nat → D) (m1 m2 m3 : SV) (ω : Wd)
    (hfk : ∀ ρ k, k < ws.length / 2 → ρ[7]? = some (.val (ek k)) → fk ρ ω = some (.int ((2 * k : Nat) : Int), ω)) (hfk1 : ∀ ρ k, k < ws.length / 2 → ρ[7]? = some (.val (ek k)) → fk1 ρ ω = some (.int ((2 * k + 1 : Nat) : Int), ω)) (left : Int) :
    ∃ a b c, loopD (gSet 7) (sIf (tOfE (eBin opLt (eBin opIx (eVar 4) fk) (eCall opLen (aCons (eVar 0) aNil)))) (sSeq (sSet 8 (eCall opMin2 (aCons (eBin opIx (eVar 4) fk1) (aCons (eVar 5) aNil))))
  (sSeq (sApp 6 (eTup (aCons (eBin opIx (eVar 0) (eBin opIx (eVar 4) fk)) (aCons (eVar 8) aNil))))
  (sSet 5 (eBin opSub (eVar 5) (eVar 8))))) sNext) ((List.range (ws.length / 2)).map ek) [.val (mem M), m1, m2, m3, .val (.tuple (ws.map .int)), .val (.int left), .own [], .un, .un, .un] ω = some (.nx [.val (mem M), m1, m2, m3, .val (.tuple (ws.map .int)), .val (.int (run M ws left).1), .own ((run M ws left).2.map pyD), a, b, c], ω) := by
  have q : ∀ (ks : List Nat) (s : Int × Pay) (a b c : SV), (∀ k ∈ ks, k < ws.length / 2) → s.2.length + ks.length ≤ 1024 → ∃ a' b' c', loopD (gSet 7) (sIf (tOfE (eBin opLt (eBin opIx (eVar 4) fk) (eCall opLen (aCons (eVar 0) aNil)))) (sSeq (sSet 8 (eCall opMin2 (aCons (eBin opIx (eVar 4) fk1) (aCons (eVar 5) aNil))))
  (sSeq (sApp 6 (eTup (aCons (eBin opIx (eVar 0) (eBin opIx (eVar 4) fk)) (aCons (eVar 8) aNil))))
  (sSet 5 (eBin opSub (eVar 5) (eVar 8))))) sNext) (ks.map ek) [.val (mem M), m1, m2, m3, .val (.tuple (ws.map .int)), .val (.int s.1), .own (s.2.map pyD), a, b, c] ω = some (.nx [.val (mem M), m1, m2, m3, .val (.tuple (ws.map .int)), .val (.int (ks.foldl (stp M ws) s).1), .own ((ks.foldl (stp M ws) s).2.map pyD), a', b', c'], ω) := by
    intro ks
    induction ks with
    | nil => intro s a b c _ _; exact ⟨a, b, c, rfl⟩
    | cons k ks ih =>
      intro s a b c hk hs
      rw [List.length_cons] at hs
      have hk0 := hk k (List.mem_cons_self ..)
      have hk' := fun x hx => hk x (List.mem_cons_of_mem _ hx)
      have h1 : 2 * k < ws.length := by omega
      have h2 : 2 * k + 1 < ws.length := by omega
      have a0 : 0 ≤ ws.getD (2 * k) 0 := by
        rw [List.getD_eq_getElem?_getD, List.getElem?_eq_getElem h1]
        exact hw _ (List.getElem_mem h1)
      have hsz : s.2.length < sizeLine := Nat.lt_of_lt_of_le (by omega : _ < 1025) (by decide)
      have F : ∀ x0 x1 x2 x3 x4 x5 x6 x8 x9, fk [x0, x1, x2, x3, x4, x5, x6, .val (ek k), x8, x9] ω = some (.int ((2 * k : Nat) : Int), ω) := fun _ _ _ _ _ _ _ _ _ => hfk _ k hk0 rfl
      have F1 : ∀ x0 x1 x2 x3 x4 x5 x6 x8 x9, fk1 [x0, x1, x2, x3, x4, x5, x6, .val (ek k), x8, x9] ω = some (.int ((2 * k + 1 : Nat) : Int), ω) := fun _ _ _ _ _ _ _ _ _ => hfk1 _ k hk0 rfl
      rw [List.map_cons]
      unfold loopD
      by_cases hc : ws.getD (2 * k) 0 < M
      · obtain ⟨a', b', c', e⟩ := ih (stp M ws s k) (.val (ek k)) (.val (.int (if s.1 < ws.getD (2 * k + 1) 0 then s.1 else ws.getD (2 * k + 1) 0))) c hk' (by unfold stp; simp only [hc, if_true, List.length_append, List.length_singleton]; omega)
        refine ⟨a', b', c', ?_⟩
        rw [List.foldl_cons, ← e]
        have o1 : opLt (.int (ws.getD (2 * k) 0)) (.int M) = some (.bool true) := by unfold opLt; simp only []; rw [decide_eq_true hc]
        have o2 : opLen [mem M] = some (.int M) := by simp [opLen, mem]
        simp only [gSet_ap, List.set_cons_succ, List.set_cons_zero]
        simp only [sIf_ap, tOfE_ap, eBin_ap, eVar_ap, List.getElem?_cons_zero, List.getElem?_cons_succ, F, F1, ws_ix h1, ws_ix h2, eCall_ap, aCons_ap, aNil_ap, o1, o2, if_true, sSeq_ap, sSet_ap, opMin2, List.set_cons_succ, List.set_cons_zero, sApp_ap, eTup_ap, mem_ix a0 hc, List.length_map, hsz, opSub]
        simp only [stp, hc, if_true, List.map_append, List.map_cons, List.map_nil, pyD]
      · obtain ⟨a', b', c', e⟩ := ih (stp M ws s k) (.val (ek k)) b c hk' (by unfold stp; simp only [hc, if_false]; omega)
        refine ⟨a', b', c', ?_⟩
        rw [List.foldl_cons, ← e]
        have o1 : opLt (.int (ws.getD (2 * k) 0)) (.int M) = some (.bool false) := by unfold opLt; simp only []; rw [decide_eq_false hc]
        have o2 : opLen [mem M] = some (.int M) := by simp [opLen, mem]
        simp only [gSet_ap, List.set_cons_succ, List.set_cons_zero]
        simp only [sIf_ap, tOfE_ap, eBin_ap, eVar_ap, List.getElem?_cons_zero, List.getElem?_cons_succ, F, ws_ix h1, eCall_ap, aCons_ap, aNil_ap, o1, o2, if_false, Bool.false_eq_true, sNext_ap]
        simp only [stp, hc, if_false]
  obtain ⟨a, b, c, e⟩ := q (List.range (ws.length / 2)) (left, []) .un .un .un (fun k hk => List.mem_range.mp hk) (by simp; omega)
  exact ⟨a, b, c, e⟩

def fin (M : Nat) (r : Int) (l : List (Int × Int × Int)) (st : Int) (ws : List Int) : Int × Pay := if odd ws st = true then (r, pay0 l) else run M ws (r + amt l)
theorem fin_sum (M : Nat) (r : Int) (l : List (Int × Int × Int)) (st : Int) (ws : List Int) : ((fin M r l st ws).2.map Prod.snd).sum + (fin M r l st ws).1 = r + amt l := by
  unfold fin
  split
  · simp only [pay0, amt, List.map_map]
    have e : (Prod.snd ∘ fun (x : Int × Int × Int) => (x.1.toNat, x.2.1)) = fun x => x.2.1 := rfl
    rw [e]
    omega
  · exact run_sum ..
theorem fin_len (M : Nat) (r : Int) (l : List (Int × Int × Int)) (st : Int) (ws : List Int) (hl : l.length ≤ 21) (hz : ws.length ≤ 1024) : (fin M r l st ws).2.length ≤ 1024 := by
  unfold fin
  split
  · simp [pay0]; omega
  · have := run_len M ws (r + amt l); omega
theorem odd_true {ws : List Int} {st : Int} (h : odd ws st = true) : st ≠ 1 ∨ (st = 1 ∧ ws.length % 2 = 1) := by
  simp [odd] at h; omega
theorem odd_false {ws : List Int} {st : Int} (h : odd ws st = false) : st = 1 ∧ ws.length % 2 = 0 := by
  simp [odd] at h; omega
theorem due_ok {M : Nat} {r : Int} {l : List (Int × Int × Int)} {st : Int} {ws : List Int} (hl : ∀ x ∈ l, EnP M x) (hw : ∀ x ∈ ws, 0 ≤ x) (hz : ws.length ≤ 1024) (ω : Wd) : d__law_due [mem M, .int r, .tuple (l.map enD), .int st, .tuple (ws.map .int)] ω = some (.tuple [.list ((fin M r l st ws).2.map pyD), .int (fin M r l st ws).1], ω) := by
  have P0 := fun ρ h0 h9 => pay0_ok (ρ := ρ) (ω := ω) hl h0 h9
  have o2 : opLen [.tuple (ws.map .int)] = some (.int ws.length) := by simp [opLen]
  cases h : odd ws st with
  | true =>
    have hf : fin M r l st ws = (r, pay0 l) := by unfold fin; rw [h, if_pos rfl]
    rw [hf]
    have P1 := P0 [.val (mem M), .val (.int r), .val (.tuple (l.map enD)), .val (.int st), .val (.tuple (ws.map .int)), .un, .un, .un, .un, .un] rfl (by simp)
    rcases odd_true h with hs | ⟨hs, hp⟩
    · simp [d__law_due, defD, b__law_due, opNe_int, hs, wipeR, P1]
    · subst hs
      have hp' : ((ws.length : Int) % 2) = 1 := by omega
      simp [d__law_due, defD, b__law_due, opNe_int, opEq_int, wipeR, P1, o2, opInt, opMod, hp']
  | false =>
    have hf : fin M r l st ws = run M ws (r + amt l) := by unfold fin; rw [h]; rfl
    rw [hf]
    obtain ⟨rfl, hp⟩ := odd_false h
    have hp' : ¬ ((ws.length : Int) % 2) = 1 := by omega
    have hd : (ws.length : Int) / 2 = ((ws.length / 2 : Nat) : Int) := by omega
    have hr := rgOk_nat (n := ws.length / 2) (by omega)
    have P2 := sum0_ok (l := l) 9 [.val (mem M), .val (.int r), .val (.tuple (l.map enD)), .val (.int 1), .val (.tuple (ws.map .int)), .un, .un, .un, .un, .un] ω (by simp)
    obtain ⟨a, b, c, L⟩ := pay_loop (M := M) hw hz (eBin opMul (eC (.int 2)) (eVar 7)) (eBin opAdd (eBin opMul (eC (.int 2)) (eVar 7)) (eC (.int 1))) (fun k => .int (k : Int)) (.val (.int r)) (.val (.tuple (l.map enD))) (.val (.int 1)) ω (fun ρ k _ e => by simp [e, opMul, mulOk_l]) (fun ρ k _ e => by simp [e, opMul, mulOk_l, opAdd]) (r + amt l)
    have e2 : (2 : Int).natAbs.log2 < 9000 := by decide
    have S := opSum_ints (l.map fun x => x.2.1)
    simp only [d__law_due, defD, b__law_due, List.map_cons, List.map_nil, List.length_cons, List.length_nil, List.replicate, List.cons_append, List.nil_append, sSeq_ap, sIf_ap, tOrD_ap, tOfE_ap, eBin_ap, eVar_ap, List.getElem?_cons_zero, List.getElem?_cons_succ, eC_ap, opNe_int, opEq_int, decide_true, Bool.not_true, Bool.false_eq_true, if_false, eCall_ap, aCons_ap, aNil_ap, o2, opInt, opMod, opDiv, hp', decide_false, sNext_ap, sSet_ap, List.set_cons_succ, List.set_cons_zero, sOwn_ap, sFor_ap, iRange_ap, e2, and_true, hd, eOfN_ap, eLcN_ap, iSq_ap, wipeR, P2, S, opAdd, hr, if_true, rgD0, show (0:Int) < 2 from by decide]
    unfold amt at L
    simp only [L, sRet_ap, eTup_ap, aCons_ap, eVarB_ap, List.getElem?_cons_zero, List.getElem?_cons_succ, aNil_ap, eVar_ap, amt]

theorem pays_ok {M : Nat} {r : Int} {l : List (Int × Int × Int)} {st : Int} {ws : List Int} (hl : ∀ x ∈ l, EnP M x) (hw : ∀ x ∈ ws, 0 ≤ x) (hz : ws.length ≤ 1024) (ω : Wd) : d_payments [mem M, .int r, .tuple (l.map enD), .int st, .tuple (ws.map .int)] ω = some (.tuple [.tuple ((fin M r l st ws).2.map pyD), .int (fin M r l st ws).1], ω) := by
  have P0 := fun ρ h0 h9 => pay0_ok (ρ := ρ) (ω := ω) hl h0 h9
  have o2 : opLen [.tuple (ws.map .int)] = some (.int ws.length) := by simp [opLen]
  cases h : odd ws st with
  | true =>
    have hf : fin M r l st ws = (r, pay0 l) := by unfold fin; rw [h, if_pos rfl]
    rw [hf]
    have P1 := P0 [.val (mem M), .val (.int r), .val (.tuple (l.map enD)), .val (.int st), .val (.tuple (ws.map .int)), .un, .un, .un, .un, .un] rfl (by simp)
    rcases odd_true h with hs | ⟨hs, hp⟩
    · simp [d_payments, defD, b_payments, opNe_int, hs, wipeR, P1, opTuple]
    · subst hs
      have hp' : ((ws.length : Int) % 2) = 1 := by omega
      simp [d_payments, defD, b_payments, opNe_int, opEq_int, wipeR, P1, o2, opInt, opMod, hp', opTuple]
  | false =>
    have hf : fin M r l st ws = run M ws (r + amt l) := by unfold fin; rw [h]; rfl
    rw [hf]
    obtain ⟨rfl, hp⟩ := odd_false h
    have hp' : ¬ ((ws.length : Int) % 2) = 1 := by omega
    have P2 := sum0_ok (l := l) 9 [.val (mem M), .val (.int r), .val (.tuple (l.map enD)), .val (.int 1), .val (.tuple (ws.map .int)), .un, .un, .un, .un, .un] ω (by simp)
    obtain ⟨a, b, c, L⟩ := pay_loop (M := M) hw hz (eVar 7) (eBin opAdd (eVar 7) (eC (.int 1))) (fun k => .int (0 + k * 2)) (.val (.int r)) (.val (.tuple (l.map enD))) (.val (.int 1)) ω (fun ρ k _ e => by simp [e]; omega) (fun ρ k _ e => by simp [e, opAdd]; omega) (r + amt l)
    have hr : rg3Ok 0 ws.length 2 = true := by
      have F : ∀ n : Nat, n ≤ 2000 → Builtin.Range.rangeFitsLong (n : Int) = true := fun n hn => by
        unfold Builtin.Range.rangeFitsLong; simp; omega
      by_cases h0 : 0 < ws.length
      · have e : ((ws.length : Int) - 1) / 2 + 1 = (((ws.length - 1) / 2 + 1 : Nat) : Int) := by omega
        have f1 := F ((ws.length - 1) / 2 + 1) (by omega)
        have f2 := F ws.length (by omega)
        have f3 := F (ws.length + 1) (by omega)
        have f4 := F 0 (by omega)
        have f5 := F 2 (by omega)
        rw [Int.natCast_add] at f3
        simp [rg3Ok_eq, rg3N, Builtin.Range.small, Builtin.Range.rangeSize, h0, e, -Int.natCast_add, -Int.natCast_ediv, f1, f2]
        exact ⟨⟨⟨f4, f5⟩, f3⟩, by omega⟩
      · have e : ws.length = 0 := by omega
        rw [rg3Ok_eq, e]; decide
    have hn : rg3N 0 ws.length 2 = ws.length / 2 := by
      simp [rg3N, Builtin.Range.rangeSize]
      omega
    have S := opSum_ints (l.map fun x => x.2.1)
    simp only [d_payments, defD, b_payments, List.map_cons, List.map_nil, List.length_cons, List.length_nil, List.replicate, List.cons_append, List.nil_append, sSeq_ap, sIf_ap, tOrD_ap, tOfE_ap, eBin_ap, eVar_ap, List.getElem?_cons_zero, List.getElem?_cons_succ, eC_ap, opNe_int, opEq_int, decide_true, Bool.not_true, Bool.false_eq_true, if_false, eCall_ap, aCons_ap, aNil_ap, o2, opInt, opMod, hp', decide_false, sNext_ap, sSet_ap, List.set_cons_succ, List.set_cons_zero, sOwn_ap, sFor_ap, iRange3_ap, eOfN_ap, eLcN_ap, iSq_ap, wipeR, P2, S, opAdd, hr, if_true, rg3D, hn, show (0:Int) < 2 from by decide]
    unfold amt at L
    simp only [L, sRet_ap, eTup_ap, aCons_ap, eTupOwn_ap, List.getElem?_cons_zero, List.getElem?_cons_succ, aNil_ap, eVar_ap, amt]

theorem ok_pyD (x : Nat × Int) : okD (pyD x) = true := rfl
theorem told_ok {ps : Pay} {i : Int} (h : ps.length ≤ 1024) : okD (.tuple [.tuple (ps.map pyD), .int i]) = true ∧ dpt (.tuple [.tuple (ps.map pyD), .int i]) ≤ 6 := by
  have h1 : okL (ps.map pyD) = true := okL_of fun x hx => by
    obtain ⟨y, _, rfl⟩ := List.mem_map.mp hx
    exact ok_pyD y
  have h2 : dptL (ps.map pyD) ≤ 2 := dptL_le fun x hx => by
    obtain ⟨y, _, rfl⟩ := List.mem_map.mp hx
    simp [pyD, nmD, dpt, dptL]
  refine ⟨?_, ?_⟩
  · simp [okD, okL, h1]; omega
  · simp [dpt, dptL]; omega
theorem flat_ok {ns : List Int} (h : ns.length ≤ 1024) : okD (.tuple (ns.map .int)) = true ∧ dpt (.tuple (ns.map .int)) ≤ 6 := by
  have h1 : okL (ns.map .int) = true := okL_of fun x hx => by
    obtain ⟨y, _, rfl⟩ := List.mem_map.mp hx
    rfl
  have h2 : dptL (ns.map .int) ≤ 1 := dptL_le fun x hx => by
    obtain ⟨y, _, rfl⟩ := List.mem_map.mp hx
    simp [dpt]
  refine ⟨?_, ?_⟩
  · simp [okD, h1]; omega
  · simp [dpt]; omega
theorem nm_len : ∀ k : Nat, k < 16 → ("member" : Str).length + (toString (k : Int) : Str).length ≤ 100 := by decide
theorem nm_log : ∀ k : Nat, k < 16 → (k : Int).natAbs.log2 < 1920 := by decide
theorem members_ok {M : Nat} (hM : M ≤ 16) (ρ : Ro) (ω : Wd) (h : 14 < ρ.length) : lcD (gSet 14) tYesD (eBin opAdd (eC (.str "member")) (eCall opStr (aCons (eVar 14) aNil))) ρ (rgD 0 (M : Int)) ω = some ((List.range M).map nmD, ω) := by
  rw [rgD0]
  refine lcD_map _ _ _ fun k hk => ⟨_, rfl, rfl, ?_⟩
  have hk : k < M := List.mem_range.mp hk
  have e : (ρ.set 14 (.val (.int (k : Int))))[14]? = some (.val (.int (k : Int))) := by rw [List.getElem?_set_self h]
  have hs : opAdd (.str "member") (.str (toString (k : Int))) = some (nmD k) := by
    have hl : ("member" : Str).length + (toString (k : Int) : Str).length ≤ sizeLine := by
      exact Nat.le_trans (nm_len k (by omega)) (by decide)
    show (if _ then _ else _) = _
    rw [if_pos hl]; rfl
  have hs2 : opStr [.int (k : Int)] = some (.str (toString (k : Int))) := by
    have hl := nm_log k (by omega)
    show (if _ then _ else _) = _
    rw [if_pos hl]
  simp only [eBin_ap, eC_ap, eCall_ap, aCons_ap, eVar_ap, e, aNil_ap, hs2, hs]
theorem good (ns : List Int) (h : ns.length ≤ 63) : ∃ ω, b_law (lawRo 17 1) (box4 ns) = some (.rt (.bool true), ω) := by
  have W : WS [.int 0] b_law (lawRo 17 1) (fun _ => False) (fun d => d = .bool true) := by
    simp only [b_law, e_draw]
    refine WS.setThen (P := IntIn 1 17) (WE.pick 2 (WA.consP (WE.c ⟨_, rfl, by decide, by decide⟩) (WA.consP (WE.bin (WE.c (P := fun d => d = .int 1) rfl) (WE.draw 16 rfl (fun _ => rfl) (by decide) (by decide)) ?_) WA.nilP)) (WE.draw 2 rfl (fun _ => rfl) (by decide) (by decide))) ?_
    · rintro x y rfl ⟨i, rfl, h0, h1⟩
      exact ⟨.int (1 + i), rfl, _, rfl, by omega, by omega⟩
    rintro _ ⟨M', rfl, hM0, hM1⟩
    obtain ⟨M, rfl⟩ : ∃ M : Nat, M' = M := ⟨M'.toNat, by omega⟩
    refine WS.setThen (P := fun d => d = mem M) (WE.pure _ (fun ω => ?_) rfl) ?_
    · have q := members_ok (M := M) (by omega) [.un, .val (ob 0), .val (.int M), .un, .un, .un, .un, .un, .un, .un, .un, .un, .un, .un, .un, .un, .un] ω (by simp)
      have r := rgOk_nat (n := M) (by omega)
      simp [lawRo, List.replicate, wipeR, r, q, opTuple, mem]
    rintro _ rfl
    refine WS.setThen (P := NatD) (WE.pick 3 (WA.consP (WE.c ⟨_, rfl, by decide⟩) (WA.consP ((WE.draw 1000 rfl (fun _ => rfl) (by decide) (by decide)).mono ?_) (WA.consP ((WE.draw (10 ^ 30) rfl (fun _ => rfl) (by decide) (by decide)).mono ?_) WA.nilP))) (WE.draw 3 rfl (fun _ => rfl) (by decide) (by decide))) ?_
    · rintro d ⟨i, rfl, h, _⟩; exact ⟨i, rfl, h⟩
    · rintro d ⟨i, rfl, h, _⟩; exact ⟨i, rfl, h⟩
    rintro _ ⟨r, rfl, hr⟩
    refine WS.setThen (WE.fn (Q := fun ds => ds = [ob 0, .int M]) (fun ω i => ⟨_, ω, rfl, i, rfl⟩) fun ds e => by subst e; exact entries_ok M (by omega) (by omega)) ?_
    rintro _ ⟨l, rfl, hl1, hl⟩
    have ha : 0 ≤ amt l := by
      clear hl1
      induction l with
      | nil => exact Int.le_refl 0
      | cons x l ih =>
        have h1 := (hl x (List.mem_cons_self ..)).2.2
        have h2 := ih fun y hy => hl y (List.mem_cons_of_mem _ hy)
        unfold amt at h2 ⊢
        rw [List.map_cons, List.sum_cons]
        omega
    refine WS.setThen (P := fun d => d = .int (r + amt l)) (WE.pure _ (fun ω => ?_) rfl) ?_
    · have q := sum0_ok (l := l) 10 [.un, .val (ob 0), .val (.int M), .val (mem M), .val (.int r), .val (.tuple (l.map enD)), .un, .un, .un, .un, .un, .un, .un, .un, .un, .un, .un] ω (by simp)
      have S := opSum_ints (l.map fun x => x.2.1)
      simp [lawRo, List.replicate, wipeR, -List.map_map, q, S, opAdd, amt]
    rintro _ rfl
    refine WS.setThen (WE.fn (Q := fun ds => ds = [ob 0, .int M, .int (r + amt l)]) (fun ω i => ⟨_, ω, rfl, i, rfl⟩) fun ds e => by subst e; exact words_ok M (r + amt l) (by omega) (by omega) (by omega)) ?_
    rintro _ ⟨ws, rfl, hz, hw⟩
    refine WS.setThen (P := fun d => ∃ i, d = .int i) (WE.pick 6 (WA.consP (WE.c ⟨_, rfl⟩) (WA.consP (WE.c ⟨_, rfl⟩) (WA.consP (WE.c ⟨_, rfl⟩) (WA.consP (WE.c ⟨_, rfl⟩) (WA.consP (WE.c ⟨_, rfl⟩) (WA.consP (WE.c ⟨_, rfl⟩) WA.nilP)))))) (WE.draw 6 rfl (fun _ => rfl) (by decide) (by decide))) ?_
    rintro _ ⟨st, rfl⟩
    refine WS.pure (.bool true) (fun ω => ?_) rfl
    obtain ⟨v, F⟩ := flat_loop .un (.val (ob 0)) (.val (.int M)) (.val (mem M)) (.val (.int r)) (.val (.tuple (l.map enD))) (.val (.int (r + amt l))) (.val (.tuple (ws.map .int))) (.val (.int st)) .un .un .un .un .un .un ω l hl1
    have I := fun ω => input_ok l hl1 ω
    have fo := flat_ok (ns := flatI l) (by rw [flatI_len]; omega)
    have S1 := fun ω => sameD_refl 6 _ ω fo.1 fo.2
    have D1 := fun ω => due_ok (M := M) (r := r) (l := l) (st := st) (ws := ws) hl hw hz ω
    have D2 := fun ω => pays_ok (M := M) (r := r) (l := l) (st := st) (ws := ws) hl hw hz ω
    have fl := fin_len M r l st ws hl1 hz
    have fs := fin_sum M r l st ws
    generalize fin M r l st ws = X at D1 D2 fl fs
    obtain ⟨left, ps⟩ := X
    have to := told_ok (ps := ps) (i := left) fl
    have S2 := fun ω => sameD_refl 6 _ ω to.1 to.2
    have L : ∀ ρ : Ro, 16 < ρ.length → lcD (gTupD (gConsD (gSet 15) (gConsD (gSet 16) gNilD))) tYesD (eVar 16) ρ (ps.map pyD) ω = some ((ps.map Prod.snd).map .int, ω) := fun ρ hρ => by
      rw [List.map_map]
      refine lcD_map _ _ _ fun x hx => ⟨(ρ.set 15 (.val (nmD x.1))).set 16 (.val (.int x.2)), rfl, rfl, ?_⟩
      have e : ((ρ.set 15 (.val (nmD x.1))).set 16 (.val (.int x.2)))[16]? = some (.val (.int x.2)) := List.getElem?_set_self (by simpa using hρ)
      simp [e]
    have S := opSum_ints (ps.map Prod.snd)
    have i0 : ∀ x y : D, opIx (.tuple [x, y]) (.int 0) = some x := fun _ _ => atI0
    have i1 : ∀ x y : D, opIx (.tuple [x, y]) (.int 1) = some y := fun _ _ => atI1
    have S3 := fun ω => sameD_refl 6 (.int (r + amt l)) ω rfl (by simp [dpt])
    simp only [e_same, lawRo, List.replicate, List.set_cons_succ, List.set_cons_zero, sSeq_ap, sOwn_ap, aNil_ap, sFor_ap, iSq_ap, eVar_ap, List.getElem?_cons_succ, List.getElem?_cons_zero, F, sIf_ap, tNotD_ap, tOfE_ap, eFunP_ap, aCons_ap, I, eTupOwn_ap, S1, Bool.not_true, Bool.false_eq_true, if_false, sNext_ap, sAsg_ap, D1, D2, gTupD_ap, gConsD, gNilD, gSet_ap, sSet_ap, eTup_ap, eCall_ap, opTuple, S2, sRet_ap, eBin_ap, eOfN_ap, eLcN_ap, i0, i1, eC_ap]
    have L' := fun a0 a1 a2 a3 a4 a5 a6 a7 a8 a9 a10 a11 a12 a13 a14 a15 a16 => L [a0, a1, a2, a3, a4, a5, a6, a7, a8, a9, a10, a11, a12, a13, a14, a15, a16] (by simp)
    simp only [wipeR, List.set_cons_succ, List.set_cons_zero, L', S, opAdd, fs, S3]
  have ib : BoxI [.int 0] (box4 ns) := ⟨ns, 0, 4711 + ns.length, rfl⟩
  obtain ⟨ρ', ω', _, ⟨_, q⟩ | ⟨d, e, rfl⟩⟩ := W _ ib
  · exact q.elim
  · exact ⟨ω', e⟩
end G_k62
end

section
open PySem PySem.W PyProof.Rows
set_option maxRecDepth 100000 in
set_option maxHeartbeats 0 in
theorem PySem.Challenge.cw_onewatcher_k62_great_payments_holds : PySem.Challenge.rw_onewatcher_k62_great_payments.Holds := by
  w_on; o_law; k_head; (case hw => w_witness2)
  k_fill
  refine G_k62.walk (l := PySem.Challenge.rw_onewatcher_k62_great_payments) rfl rfl (fun w h Y => PySem.W.kIn_of Y) ?F
  case F =>
    intro w mg fa h KX G hmg
    refine' G_k62.all_mk G_k62.good KX G hmg ?a0 ?l0 ?c0 ?k0 ?a1 ?l1 ?c1 ?k1 ?a2 ?l2 ?c2 ?k2 ?a3 ?l3 ?c3 ?k3 ?a4 ?l4 ?c4 ?k4 ?a5 ?l5 ?c5 ?k5 ?a6 ?l6 ?c6 ?k6 ?a7 ?l7 ?c7 ?k7 ?a8 ?l8 ?c8 ?k8 ?a9 ?l9 ?c9 ?k9 ?z_all ?z_bool ?z_dict ?z_int ?z_isinstance ?z_len ?z_list ?z_min ?z_range ?z_str ?z_sum ?z_tuple
    (case a0 => k_is)
    (case l0 => k_is)
    (case c0 => k_is)
    (case k0 => k_is)
    (case a1 => k_is)
    (case l1 => k_is)
    (case c1 => k_is)
    (case k1 => k_is)
    (case a2 => k_is)
    (case l2 => k_is)
    (case c2 => k_is)
    (case k2 => k_is)
    (case a3 => k_is)
    (case l3 => k_is)
    (case c3 => k_is)
    (case k3 => k_is)
    (case a4 => k_is)
    (case l4 => k_is)
    (case c4 => k_is)
    (case k4 => k_is)
    (case a5 => k_is)
    (case l5 => k_is)
    (case c5 => k_is)
    (case k5 => k_is)
    (case a6 => k_is)
    (case l6 => k_is)
    (case c6 => k_is)
    (case k6 => k_is)
    (case a7 => k_is)
    (case l7 => k_is)
    (case c7 => k_is)
    (case k7 => k_is)
    (case a8 => k_is)
    (case l8 => k_is)
    (case c8 => k_is)
    (case k8 => k_is)
    (case a9 => k_is)
    (case l9 => k_is)
    (case c9 => k_is)
    (case k9 => k_is)
    (case z_all => k_is)
    (case z_bool => k_is)
    (case z_dict => k_is)
    (case z_int => k_is)
    (case z_isinstance => k_is)
    (case z_len => k_is)
    (case z_list => k_is)
    (case z_min => k_is)
    (case z_range => k_is)
    (case z_str => k_is)
    (case z_sum => k_is)
    (case z_tuple => k_is)
end
