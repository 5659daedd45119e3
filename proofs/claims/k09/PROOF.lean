import PyProof.Rows.All
import Wide.All
import OpenK.AllK
import Wide.FinOn
import HandS.ForMost
import HandS.Defaults
import HandS.TupAny
import HandS.TupMul
import HandS.Style
import HandS.Conv
import HandS.Deep
import HandS.SortInts
import HandS.IsInst
import HandS.RaiseMore
import HandS.Strs
import HandS.HeadHook2
import HandS.Head0
import HandS.Head1
import HandS.Head2
import HandS.HeadEnd
import HandS.HeadHook1
import HandS.HeadHook3
import HandS.HeadHook4
import PySem.Challenge.RW_lendland_k09_whole_numbers_and_deeds_as
set_option Elab.async false
set_option linter.all false
set_option maxRecDepth 100000
set_option maxHeartbeats 0
set_option autoImplicit false
/-! A layer of value semantics over the hand layer: a def's body is read as a predicate transformer over pure data. -/
namespace Y
open PySem PySem.Spec PyProof.Rows L2
abbrev D := PyData
abbrev Frag := PySem.W.Frag
abbrev Sg := L2.St

/-! ### heaps -/
theorem same_new {H : Hp} {p : Addr} {o : HO} (h : H p = none) : Same H (upd H p o) := fun b x e => by
  rw [upd_ne (ne_of_none e h)]; exact e
theorem same_upd_upd {S H : Hp} {p : Addr} {o : HO} (h : Same S H) : Same (upd S p o) (upd H p o) := fun b x e => by
  by_cases q : b = p
  · subst q; rw [upd_same] at e ⊢; exact e
  · rw [upd_ne q] at e ⊢; exact h b x e
theorem same_under {S H : Hp} {p : Addr} {o : HO} (h : Same S H) (e : H p = some o) : Same (upd S p o) H := fun b x q => by
  by_cases z : b = p
  · subst z; rw [upd_same] at q; cases q; exact e
  · rw [upd_ne z] at q; exact h b x q
theorem same_over {S H : Hp} {p : Addr} {o : HO} (h : Same S H) (e : S p = none) : Same S (upd H p o) := fun b x q => by
  rw [upd_ne (ne_of_none q e)]; exact h b x q
theorem Same.tup {K : Frag} {H H' : Hp} {a : Addr} {xs : List V} (e : Same H H') (h : SqT K H a xs) : SqT K H' a xs := by
  rcases h with (h | ⟨o, h⟩) | h
  · exact .inl (.inl (e _ _ h))
  · exact .inl (.inr ⟨o, e _ _ h⟩)
  · exact .inr h

/-! ### how data lies in a heap; the script's list is told by a dict's sign -/
mutual
inductive Dr (K : Frag) (S : Hp) : V → D → Prop
  | non : Dr K S .non .none
  | bl (b : Bool) : Dr K S (.bl b) (.bool b)
  | int (i : Int) : Dr K S (.int i) (.int i)
  | str (x : Str) : Dr K S (.str x) (.str x)
  | lst {a : Addr} {xs : List V} {ds : List D} : S a = some (.lst xs) → DrAll K S xs ds → Dr K S (.ref a) (.list ds)
  | tup {a : Addr} {xs : List V} {ds : List D} : SqT K S a xs → DrAll K S xs ds → Dr K S (.ref a) (.tuple ds)
  | scr {a : Addr} {ns : List Int} : SqL K S a (ns.map V.int) → Dr K S (.ref a) (.dict [(.none, .list (ns.map PyData.int))])
inductive DrAll (K : Frag) (S : Hp) : List V → List D → Prop
  | nil : DrAll K S [] []
  | cons {v : V} {vs : List V} {d : D} {ds : List D} : Dr K S v d → DrAll K S vs ds → DrAll K S (v :: vs) (d :: ds)
end
section
variable {K : Frag} {S S' H H' : Hp}
mutual
theorem Dr.mono (e : Same S S') : ∀ {v : V} {d : D}, Dr K S v d → Dr K S' v d
  | _, _, .non => .non
  | _, _, .bl b => .bl b
  | _, _, .int i => .int i
  | _, _, .str x => .str x
  | _, _, .lst h a => .lst (e _ _ h) (DrAll.mono e a)
  | _, _, .tup h a => .tup (Same.tup e h) (DrAll.mono e a)
  | _, _, .scr h => .scr (e.seq h)
theorem DrAll.mono (e : Same S S') : ∀ {vs : List V} {ds : List D}, DrAll K S vs ds → DrAll K S' vs ds
  | _, _, .nil => .nil
  | _, _, .cons h t => .cons (Dr.mono e h) (DrAll.mono e t)
end
theorem DrAll.length : ∀ {vs : List V} {ds : List D}, DrAll K S vs ds → vs.length = ds.length
  | _, _, .nil => rfl
  | _, _, .cons _ t => by simp [DrAll.length t]
theorem DrAll.get : ∀ {vs : List V} {ds : List D} {i : Nat} {d : D}, DrAll K S vs ds → ds[i]? = some d → ∃ v, vs[i]? = some v ∧ Dr K S v d
  | _, _, _, _, .nil, e => by simp at e
  | _, _, 0, _, .cons r _, e => by simp at e; subst e; exact ⟨_, rfl, r⟩
  | _, _, i + 1, d, .cons _ t, e => by
    obtain ⟨v, h1, h2⟩ := DrAll.get (i := i) (d := d) t (by simpa using e)
    exact ⟨v, by simpa using h1, h2⟩
theorem DrAll.getV : ∀ {vs : List V} {ds : List D} {i : Nat} {v : V}, DrAll K S vs ds → vs[i]? = some v → ∃ d, ds[i]? = some d ∧ Dr K S v d
  | _, _, _, _, .nil, e => by simp at e
  | _, _, 0, _, .cons r _, e => by simp at e; subst e; exact ⟨_, rfl, r⟩
  | _, _, i + 1, v, .cons _ t, e => by
    obtain ⟨d, h1, h2⟩ := DrAll.getV (i := i) (v := v) t (by simpa using e)
    exact ⟨d, by simpa using h1, h2⟩
theorem DrAll.append : ∀ {vs ws : List V} {ds es : List D}, DrAll K S vs ds → DrAll K S ws es → DrAll K S (vs ++ ws) (ds ++ es)
  | _, _, _, _, .nil, s => s
  | _, _, _, _, .cons r t, s => .cons r (DrAll.append t s)
theorem DrAll.take : ∀ {vs : List V} {ds : List D} (n : Nat), DrAll K S vs ds → DrAll K S (vs.take n) (ds.take n)
  | _, _, 0, _ => .nil
  | _, _, _ + 1, .nil => .nil
  | _, _, n + 1, .cons r t => .cons r (DrAll.take n t)
theorem DrAll.drop : ∀ {vs : List V} {ds : List D} (n : Nat), DrAll K S vs ds → DrAll K S (vs.drop n) (ds.drop n)
  | _, _, 0, r => r
  | _, _, _ + 1, .nil => .nil
  | _, _, n + 1, .cons _ t => DrAll.drop n t
theorem DrAll.set {x : V} {d : D} (r : Dr K S x d) : ∀ {vs : List V} {ds : List D} (i : Nat), DrAll K S vs ds → DrAll K S (vs.set i x) (ds.set i d)
  | _, _, _, .nil => .nil
  | _, _, 0, .cons _ t => .cons r t
  | _, _, i + 1, .cons q t => .cons q (DrAll.set r i t)
theorem DrAll.erase : ∀ {vs : List V} {ds : List D} (i : Nat), DrAll K S vs ds → DrAll K S (vs.eraseIdx i) (ds.eraseIdx i)
  | _, _, _, .nil => .nil
  | _, _, 0, .cons _ t => t
  | _, _, i + 1, .cons q t => .cons q (DrAll.erase i t)
theorem DrAll.rev : ∀ {vs : List V} {ds : List D}, DrAll K S vs ds → DrAll K S vs.reverse ds.reverse
  | _, _, .nil => .nil
  | _, _, .cons r t => by
    rw [List.reverse_cons, List.reverse_cons]
    exact (DrAll.rev t).append (.cons r .nil)
theorem DrAll.rep {vs : List V} {ds : List D} (h : DrAll K S vs ds) : ∀ k : Nat, DrAll K S (List.replicate k vs).flatten (List.replicate k ds).flatten
  | 0 => .nil
  | k + 1 => by
    rw [List.replicate_succ, List.replicate_succ, List.flatten_cons, List.flatten_cons]
    exact h.append (DrAll.rep h k)
theorem DrAll.ints : ∀ ns : List Int, DrAll K S (ns.map V.int) (ns.map PyData.int)
  | [] => .nil
  | i :: r => .cons (.int i) (DrAll.ints r)
theorem DrAll.of_ints : ∀ {ns : List Int} {vs : List V}, DrAll K S vs (ns.map PyData.int) → vs = ns.map V.int
  | [], _, h => by cases h; rfl
  | i :: r, _, h => by
    cases h with
    | cons h1 h2 =>
      cases h1
      rw [DrAll.of_ints h2]; rfl
theorem DrAll.of_bools : ∀ {bs : List Bool} {vs : List V}, DrAll K S vs (bs.map PyData.bool) → vs = bs.map V.bl
  | [], _, h => by cases h; rfl
  | i :: r, _, h => by
    cases h with
    | cons h1 h2 =>
      cases h1
      rw [DrAll.of_bools h2]; rfl
end

/-! ### what the slots hold -/
inductive Sl where
  | no
  | val (d : D)
  | own (ds : List D)
def SlOk (K : Frag) (S H : Hp) : Sl → Option V → List Addr → Prop
  | .no, _, F => F = []
  | .val d, o, F => F = [] ∧ ∃ v, o = some v ∧ Dr K S v d
  | .own ds, o, F => ∃ a xs, F = [a] ∧ o = some (.ref a) ∧ H a = some (.lst xs) ∧ DrAll K S xs ds
theorem SlOk.step {K : Frag} {S H S' H' : Hp} {s : Sl} {o : Option V} {F : List Addr} (h : SlOk K S H s o F) (e : Same S S') (k : ∀ a ∈ F, H' a = H a) : SlOk K S' H' s o F := by
  cases s with
  | no => exact h
  | val d => obtain ⟨e1, v, e2, r⟩ := h; exact ⟨e1, v, e2, r.mono e⟩
  | own ds =>
    obtain ⟨a, xs, e1, e2, hh, r⟩ := h
    exact ⟨a, xs, e1, e2, by rw [k a (by rw [e1]; exact List.mem_singleton.mpr rfl)]; exact hh, r.mono e⟩

/-- the heaps at a def's entry (what is frozen there; all that must stay), the slots whose list the caller sees changed -/
structure Gh where
  S0 : Hp
  H0 : Hp
  io : List (Nat × Addr)
structure Fp (K : Frag) (G : Gh) (S : Hp) (env : List Sl) (σ : Sg) (H : Hp) (F : Nat → List Addr) : Prop where
  at_ : ∀ i s, env[i]? = some s → ∃ o, σ[i]? = some o ∧ SlOk K S H s o (F i)
  out : ∀ i, env[i]? = none → F i = []
  apart : ∀ i j a, a ∈ F i → a ∈ F j → i = j
  free : ∀ i a, a ∈ F i → S a = none ∧ G.H0 a = none ∧ ∃ o, H a = some o
  io : ∀ p ∈ G.io, ∃ r, F p.1 = p.2 :: r
structure Abs (K : Frag) (G : Gh) (S : Hp) (env : List Sl) (σ : Sg) (H : Hp) : Prop where
  len : σ.length = env.length
  s0 : Same G.S0 S
  sH : Same S H
  h0 : Same G.H0 H
  nw : ∀ b o, G.S0 b = none → G.H0 b = some o → S b = none
  fp : ∃ F, Fp K G S env σ H F
/-- the heap grows by frozen objects alone -/
structure Ext (S H S' H' : Hp) : Prop where
  s : Same S S'
  h : Same H H'
  sh : Same S' H'
  nw : ∀ b o, S b = none → H b = some o → S' b = none
theorem Ext.refl {S H : Hp} (h : Same S H) : Ext S H S H := ⟨Same.refl _, Same.refl _, h, fun _ _ h _ => h⟩
theorem Ext.new {S H : Hp} {p : Addr} {o : HO} (h : Same S H) (n : H p = none) : Ext S H (upd S p o) (upd H p o) := by
  have sn : S p = none := h.free n
  exact ⟨same_new sn, same_new n, same_upd_upd h, fun b u q e => by rw [upd_ne (ne_of_none e n)]; exact q⟩
theorem Ext.trans {S H S1 H1 S2 H2 : Hp} (a : Ext S H S1 H1) (b : Ext S1 H1 S2 H2) : Ext S H S2 H2 :=
  ⟨a.s.trans b.s, a.h.trans b.h, b.sh, fun c o q e => b.nw c o (a.nw c o q e) (a.h _ _ e)⟩
section
variable {K : Frag} {G : Gh} {S S' H H' : Hp} {env : List Sl} {σ : Sg}
theorem Abs.ext (A : Abs K G S env σ H) (e : Ext S H S' H') : Abs K G S' env σ H' := by
  obtain ⟨F, f⟩ := A.fp
  refine ⟨A.len, A.s0.trans e.s, e.sh, A.h0.trans e.h, fun b o q z => e.nw b o (A.nw b o q z) (A.h0 _ _ z), F, ?_, f.out, f.apart, ?_, f.io⟩
  · intro i s hi
    obtain ⟨o, ho, hs⟩ := f.at_ i s hi
    refine ⟨o, ho, hs.step e.s fun a ha => ?_⟩
    obtain ⟨_, _, u, hu⟩ := f.free i a ha
    rw [hu]; exact e.h _ _ hu
  · intro i a ha
    obtain ⟨h1, h2, u, hu⟩ := f.free i a ha
    exact ⟨e.nw a u h1 hu, h2, u, e.h _ _ hu⟩
theorem Abs.slot (A : Abs K G S env σ H) {i : Nat} {d : D} (h : env[i]? = some (.val d)) : ∃ v, σ[i]? = some (some v) ∧ Dr K S v d := by
  obtain ⟨F, f⟩ := A.fp
  obtain ⟨o, ho, _, v, rfl, r⟩ := f.at_ i _ h
  exact ⟨v, ho, r⟩
theorem Abs.own (A : Abs K G S env σ H) {i : Nat} {ds : List D} (h : env[i]? = some (.own ds)) : ∃ a xs, σ[i]? = some (some (.ref a)) ∧ H a = some (.lst xs) ∧ DrAll K S xs ds ∧ S a = none ∧ G.H0 a = none := by
  obtain ⟨F, f⟩ := A.fp
  obtain ⟨o, ho, a, xs, e, rfl, hh, r⟩ := f.at_ i _ h
  obtain ⟨h1, h2, _⟩ := f.free i a (by rw [e]; exact List.mem_singleton.mpr rfl)
  exact ⟨a, xs, ho, hh, r, h1, h2⟩
/-- a footprint's change at one slot -/
def fset (F : Nat → List Addr) (i : Nat) (l : List Addr) : Nat → List Addr := fun j => if j = i then l else F j
theorem fset_same {F : Nat → List Addr} {i : Nat} {l : List Addr} : fset F i l i = l := if_pos rfl
theorem fset_ne {F : Nat → List Addr} {i j : Nat} {l : List Addr} (h : j ≠ i) : fset F i l j = F j := if_neg h
/-- a slot gets a frozen value (its own list, if it had one, is let go) -/
theorem Abs.setV (A : Abs K G S env σ H) {i : Nat} {v : V} {d : D} (hio : ∀ p ∈ G.io, p.1 ≠ i) (r : Dr K S v d) : Abs K G S (env.set i (.val d)) (σ.set i (some v)) H := by
  obtain ⟨F, f⟩ := A.fp
  refine ⟨by rw [List.length_set, List.length_set]; exact A.len, A.s0, A.sH, A.h0, A.nw, fset F i [], ?_, ?_, ?_, ?_, ?_⟩
  · intro j s hj
    by_cases e : i = j
    · subst e
      by_cases hl : i < env.length
      · rw [List.getElem?_set_self hl] at hj
        cases hj
        refine ⟨some v, ?_, fset_same, v, rfl, r⟩
        rw [List.getElem?_set_self (by rw [A.len]; exact hl)]
      · rw [List.getElem?_eq_none (by rw [List.length_set]; omega)] at hj
        cases hj
    · rw [List.getElem?_set_ne e] at hj ⊢
      rw [fset_ne (Ne.symm e)]
      exact f.at_ j s hj
  · intro j hj
    by_cases e : j = i
    · subst e; exact fset_same
    · rw [fset_ne e]
      rw [List.getElem?_set_ne (Ne.symm e)] at hj
      exact f.out j hj
  · intro j k a hj hk
    by_cases e1 : j = i
    · subst e1; rw [fset_same] at hj; cases hj
    · by_cases e2 : k = i
      · subst e2; rw [fset_same] at hk; cases hk
      · rw [fset_ne e1] at hj; rw [fset_ne e2] at hk
        exact f.apart j k a hj hk
  · intro j a hj
    by_cases e1 : j = i
    · subst e1; rw [fset_same] at hj; cases hj
    · rw [fset_ne e1] at hj; exact f.free j a hj
  · intro p hp
    rw [fset_ne (hio p hp)]
    exact f.io p hp
/-- a slot is forgotten -/
theorem Abs.setN (A : Abs K G S env σ H) {i : Nat} {o : Option V} (hio : ∀ p ∈ G.io, p.1 ≠ i) : Abs K G S (env.set i .no) (σ.set i o) H := by
  obtain ⟨F, f⟩ := A.fp
  refine ⟨by rw [List.length_set, List.length_set]; exact A.len, A.s0, A.sH, A.h0, A.nw, fset F i [], ?_, ?_, ?_, ?_, ?_⟩
  · intro j s hj
    by_cases e : i = j
    · subst e
      by_cases hl : i < env.length
      · rw [List.getElem?_set_self hl] at hj
        cases hj
        refine ⟨o, ?_, fset_same⟩
        rw [List.getElem?_set_self (by rw [A.len]; exact hl)]
      · rw [List.getElem?_eq_none (by rw [List.length_set]; omega)] at hj
        cases hj
    · rw [List.getElem?_set_ne e] at hj ⊢
      rw [fset_ne (Ne.symm e)]
      exact f.at_ j s hj
  · intro j hj
    by_cases e : j = i
    · subst e; exact fset_same
    · rw [fset_ne e]
      rw [List.getElem?_set_ne (Ne.symm e)] at hj
      exact f.out j hj
  · intro j k a hj hk
    by_cases e1 : j = i
    · subst e1; rw [fset_same] at hj; cases hj
    · by_cases e2 : k = i
      · subst e2; rw [fset_same] at hk; cases hk
      · rw [fset_ne e1] at hj; rw [fset_ne e2] at hk
        exact f.apart j k a hj hk
  · intro j a hj
    by_cases e1 : j = i
    · subst e1; rw [fset_same] at hj; cases hj
    · rw [fset_ne e1] at hj; exact f.free j a hj
  · intro p hp
    rw [fset_ne (hio p hp)]
    exact f.io p hp
/-- an own list is frozen -/
theorem Abs.freeze (A : Abs K G S env σ H) {i : Nat} {ds : List D} (h : env[i]? = some (.own ds)) (hio : ∀ p ∈ G.io, p.1 ≠ i) :
    ∃ (a : Addr) (S' : Hp), σ[i]? = some (some (V.ref a)) ∧ Same S S' ∧ Dr K S' (.ref a) (.list ds) ∧ Abs K G S' (env.set i (.val (.list ds))) σ H := by
  obtain ⟨F, f⟩ := A.fp
  obtain ⟨o, ho, a, xs, e, rfl, hh, r⟩ := f.at_ i _ h
  obtain ⟨h1, h2, _⟩ := f.free i a (by rw [e]; exact List.mem_singleton.mpr rfl)
  have sS : Same S (upd S a (.lst xs)) := same_new h1
  have r1 : Dr K (upd S a (.lst xs)) (.ref a) (.list ds) := .lst upd_same (r.mono sS)
  have hne : ∀ {j b}, j ≠ i → b ∈ F j → b ≠ a := fun {j b} hj hb q => hj (f.apart j i a (q ▸ hb) (by rw [e]; exact List.mem_singleton.mpr rfl))
  refine ⟨a, upd S a (.lst xs), ho, sS, r1, by rw [List.length_set]; exact A.len, A.s0.trans sS, same_under A.sH hh, A.h0, fun b o q z => ?_, fset F i [], ?_, ?_, ?_, ?_, ?_⟩
  · rw [upd_ne (ne_of_none z h2)]; exact A.nw b o q z
  · intro j s hj
    by_cases e' : i = j
    · subst e'
      have hl : i < env.length := (List.getElem?_eq_some_iff.mp h).1
      rw [List.getElem?_set_self hl] at hj
      cases hj
      exact ⟨_, ho, fset_same, _, rfl, r1⟩
    · rw [List.getElem?_set_ne e'] at hj
      rw [fset_ne (Ne.symm e')]
      obtain ⟨o', ho', hs⟩ := f.at_ j s hj
      exact ⟨o', ho', hs.step sS fun _ _ => rfl⟩
  · intro j hj
    by_cases e' : j = i
    · subst e'; exact fset_same
    · rw [fset_ne e']
      rw [List.getElem?_set_ne (Ne.symm e')] at hj
      exact f.out j hj
  · intro j k b hj hk
    by_cases e1 : j = i
    · subst e1; rw [fset_same] at hj; cases hj
    · by_cases e2 : k = i
      · subst e2; rw [fset_same] at hk; cases hk
      · rw [fset_ne e1] at hj; rw [fset_ne e2] at hk
        exact f.apart j k b hj hk
  · intro j b hj
    by_cases e1 : j = i
    · subst e1; rw [fset_same] at hj; cases hj
    · rw [fset_ne e1] at hj
      obtain ⟨q1, q2, q3⟩ := f.free j b hj
      exact ⟨by rw [upd_ne (hne e1 hj)]; exact q1, q2, q3⟩
  · intro p hp
    rw [fset_ne (hio p hp)]
    exact f.io p hp
/-- an own list is changed where it lies -/
theorem Abs.change (A : Abs K G S env σ H) {i : Nat} {ds ds' : List D} {a : Addr} {xs' : List V} (h : env[i]? = some (.own ds)) (ha : σ[i]? = some (some (.ref a))) (r : DrAll K S xs' ds') :
    Abs K G S (env.set i (.own ds')) σ (upd H a (.lst xs')) := by
  obtain ⟨F, f⟩ := A.fp
  obtain ⟨o, ho, a', xs, e, rfl, hh, _⟩ := f.at_ i _ h
  obtain rfl : a' = a := by rw [ha] at ho; cases ho; rfl
  obtain ⟨h1, h2, _⟩ := f.free i a' (by rw [e]; exact List.mem_singleton.mpr rfl)
  have hne : ∀ {j b}, j ≠ i → b ∈ F j → b ≠ a' := fun {j b} hj hb q => hj (f.apart j i a' (q ▸ hb) (by rw [e]; exact List.mem_singleton.mpr rfl))
  refine ⟨by rw [List.length_set]; exact A.len, A.s0, same_over A.sH h1, same_over A.h0 h2, A.nw, F, ?_, ?_, f.apart, ?_, f.io⟩
  · intro j s hj
    by_cases e' : i = j
    · subst e'
      have hl : i < env.length := (List.getElem?_eq_some_iff.mp h).1
      rw [List.getElem?_set_self hl] at hj
      cases hj
      exact ⟨_, ho, a', xs', e, rfl, upd_same, r⟩
    · rw [List.getElem?_set_ne e'] at hj
      obtain ⟨o', ho', hs⟩ := f.at_ j s hj
      exact ⟨o', ho', hs.step (Same.refl _) fun b hb => upd_ne (hne (Ne.symm e') hb)⟩
  · intro j hj
    refine f.out j ?_
    by_cases e' : i = j
    · subst e'
      have hl : i < env.length := (List.getElem?_eq_some_iff.mp h).1
      rw [List.getElem?_set_self hl] at hj; cases hj
    · rwa [List.getElem?_set_ne e'] at hj
  · intro j b hj
    obtain ⟨q1, q2, u, q3⟩ := f.free j b hj
    refine ⟨q1, q2, ?_⟩
    by_cases z : b = a'
    · exact ⟨_, by rw [z]; exact upd_same⟩
    · exact ⟨u, by rw [upd_ne z]; exact q3⟩
/-- a new list that stands by itself: parked while other code runs -/
def Gh.park (G : Gh) (a : Addr) (o : HO) : Gh := { G with H0 := upd G.H0 a o }
theorem Abs.park (A : Abs K G S env σ H) {a : Addr} {o : HO} (n : H a = none) : Abs K (G.park a o) S env σ (upd H a o) := by
  obtain ⟨F, f⟩ := A.fp
  have hn0 : G.H0 a = none := A.h0.free n
  have hs : S a = none := A.sH.free n
  have hne : ∀ {j b}, b ∈ F j → b ≠ a := fun {j b} hb q => by
    obtain ⟨_, _, u, hu⟩ := f.free j b hb
    rw [q, n] at hu; cases hu
  refine ⟨A.len, A.s0, same_over A.sH hs, same_upd_upd A.h0, fun b u q z => ?_, F, ?_, f.out, f.apart, ?_, f.io⟩
  · by_cases e : b = a
    · subst e; exact hs
    · have z' : upd G.H0 a o b = some u := z
      rw [upd_ne e] at z'; exact A.nw b u q z'
  · intro j s hj
    obtain ⟨o', ho', hs'⟩ := f.at_ j s hj
    exact ⟨o', ho', hs'.step (Same.refl _) fun b hb => upd_ne (hne hb)⟩
  · intro j b hj
    obtain ⟨q1, q2, u, q3⟩ := f.free j b hj
    exact ⟨q1, by show upd G.H0 a o b = none; rw [upd_ne (hne hj)]; exact q2, u, by rw [upd_ne (hne hj)]; exact q3⟩
/-- a list that is parked at a -/
structure Prk (K : Frag) (G : Gh) (S : Hp) (env : List Sl) (σ : Sg) (H : Hp) (a : Addr) (xs : List V) : Prop where
  abs : Abs K (G.park a (.lst xs)) S env σ H
  s0 : G.S0 a = none
  h0 : G.H0 a = none
theorem Abs.prk (A : Abs K G S env σ H) {a : Addr} {xs : List V} (n : H a = none) : Prk K G S env σ (upd H a (.lst xs)) a xs :=
  ⟨A.park n, A.s0.free (A.sH.free n), A.h0.free n⟩
variable {a : Addr} {xs ys : List V}
theorem Prk.here (P : Prk K G S env σ H a xs) : H a = some (.lst xs) := P.abs.h0 a _ upd_same
theorem Prk.sa (P : Prk K G S env σ H a xs) : S a = none := P.abs.nw a (.lst xs) P.s0 upd_same
theorem Prk.ne (P : Prk K G S env σ H a xs) {F : Nat → List Addr} (f : Fp K (G.park a (.lst xs)) S env σ H F) : ∀ {j b}, b ∈ F j → b ≠ a := fun {j b} hb q => by
  obtain ⟨_, q2, _⟩ := f.free j b hb
  have q2' : upd G.H0 a (.lst xs) b = none := q2
  rw [q, upd_same] at q2'; cases q2'
theorem Prk.old (P : Prk K G S env σ H a xs) {b : Addr} {u : HO} (h : G.H0 b = some u) : upd G.H0 a (.lst xs) b = some u := by
  rw [upd_ne (ne_of_none h P.h0)]; exact h
/-- changed while it is parked -/
theorem Prk.put (P : Prk K G S env σ H a xs) : Prk K G S env σ (upd H a (.lst ys)) a ys := by
  obtain ⟨F, f⟩ := P.abs.fp
  refine ⟨⟨P.abs.len, P.abs.s0, same_over P.abs.sH P.sa, fun b u q => ?_, fun b u q z => ?_, F, ?_, f.out, f.apart, ?_, f.io⟩, P.s0, P.h0⟩
  · have q' : upd G.H0 a (.lst ys) b = some u := q
    by_cases e : b = a
    · subst e; rw [upd_same] at q' ⊢; exact q'
    · rw [upd_ne e] at q' ⊢
      exact P.abs.h0 b u (P.old q')
  · by_cases e : b = a
    · subst e; exact P.sa
    · have z' : upd G.H0 a (.lst ys) b = some u := z
      rw [upd_ne e] at z'
      exact P.abs.nw b u q (P.old z')
  · intro j s hj
    obtain ⟨o, ho, hs⟩ := f.at_ j s hj
    exact ⟨o, ho, hs.step (Same.refl _) fun b hb => upd_ne (P.ne f hb)⟩
  · intro j b hj
    obtain ⟨q1, q2, u, q3⟩ := f.free j b hj
    have hba := P.ne f hj
    have q2' : upd G.H0 a (.lst xs) b = none := q2
    rw [upd_ne hba] at q2'
    exact ⟨q1, by show upd G.H0 a (.lst ys) b = none; rw [upd_ne hba]; exact q2', u, by rw [upd_ne hba]; exact q3⟩
/-- forgotten -/
theorem Prk.drop (P : Prk K G S env σ H a xs) : Abs K G S env σ H := by
  obtain ⟨F, f⟩ := P.abs.fp
  refine ⟨P.abs.len, P.abs.s0, P.abs.sH, fun b u q => P.abs.h0 b u (P.old q), fun b u q z => P.abs.nw b u q (P.old z), F, f.at_, f.out, f.apart, ?_, f.io⟩
  intro j b hj
  obtain ⟨q1, q2, q3⟩ := f.free j b hj
  have q2' : upd G.H0 a (.lst xs) b = none := q2
  rw [upd_ne (P.ne f hj)] at q2'
  exact ⟨q1, q2', q3⟩
/-- frozen -/
theorem Prk.freeze (P : Prk K G S env σ H a xs) {ds : List D} (r : DrAll K S xs ds) : ∃ S', Same S S' ∧ Abs K G S' env σ H ∧ Dr K S' (.ref a) (.list ds) := by
  have A := P.drop
  have sS : Same S (upd S a (.lst xs)) := same_new P.sa
  obtain ⟨F, f⟩ := P.abs.fp
  obtain ⟨F2, f2⟩ := A.fp
  have hne : ∀ {j b}, b ∈ F j → b ≠ a := fun {j b} hb => P.ne f hb
  refine ⟨_, sS, ⟨A.len, A.s0.trans sS, same_under A.sH P.here, A.h0, fun b u q z => ?_, F, ?_, f.out, f.apart, ?_, f.io⟩, .lst upd_same (r.mono sS)⟩
  · rw [upd_ne (ne_of_none z P.h0)]; exact A.nw b u q z
  · intro j s hj
    obtain ⟨o, ho, hs⟩ := f.at_ j s hj
    exact ⟨o, ho, hs.step sS fun _ _ => rfl⟩
  · intro j b hj
    obtain ⟨q1, q2, q3⟩ := f.free j b hj
    have q2' : upd G.H0 a (.lst xs) b = none := q2
    rw [upd_ne (hne hj)] at q2'
    exact ⟨by rw [upd_ne (hne hj)]; exact q1, q2', q3⟩
/-- a slot's own -/
theorem Prk.setO (P : Prk K G S env σ H a xs) {ds : List D} (r : DrAll K S xs ds) {i : Nat} (hio : ∀ p ∈ G.io, p.1 ≠ i) : Abs K G S (env.set i (.own ds)) (σ.set i (some (.ref a))) H := by
  have A := P.drop
  obtain ⟨F, f⟩ := P.abs.fp
  have hne : ∀ {j b}, b ∈ F j → b ≠ a := fun {j b} hb => P.ne f hb
  by_cases hl : i < env.length
  · refine ⟨by rw [List.length_set, List.length_set]; exact A.len, A.s0, A.sH, A.h0, A.nw, fset F i [a], ?_, ?_, ?_, ?_, ?_⟩
    · intro j s hj
      by_cases e : i = j
      · subst e
        rw [List.getElem?_set_self hl] at hj
        cases hj
        refine ⟨_, List.getElem?_set_self (by rw [A.len]; exact hl), a, xs, fset_same, rfl, P.here, r⟩
      · rw [List.getElem?_set_ne e] at hj ⊢
        rw [fset_ne (Ne.symm e)]
        exact f.at_ j s hj
    · intro j hj
      by_cases e : j = i
      · subst e
        rw [List.getElem?_set_self hl] at hj; cases hj
      · rw [fset_ne e]
        rw [List.getElem?_set_ne (Ne.symm e)] at hj
        exact f.out j hj
    · intro j k b hj hk
      by_cases e1 : j = i
      · subst e1
        rw [fset_same] at hj
        by_cases e2 : k = j
        · exact e2.symm
        · rw [fset_ne e2] at hk
          exact absurd (List.mem_singleton.mp hj) (hne hk)
      · rw [fset_ne e1] at hj
        by_cases e2 : k = i
        · subst e2
          rw [fset_same] at hk
          exact absurd (List.mem_singleton.mp hk) (hne hj)
        · rw [fset_ne e2] at hk
          exact f.apart j k b hj hk
    · intro j b hj
      by_cases e1 : j = i
      · subst e1
        rw [fset_same] at hj
        rw [List.mem_singleton.mp hj]
        exact ⟨P.sa, P.h0, _, P.here⟩
      · rw [fset_ne e1] at hj
        obtain ⟨q1, q2, q3⟩ := f.free j b hj
        have q2' : upd G.H0 a (.lst xs) b = none := q2
        rw [upd_ne (hne hj)] at q2'
        exact ⟨q1, q2', q3⟩
    · intro p hp
      rw [fset_ne (hio p hp)]
      exact f.io p hp
  · have e1 : env.set i (.own ds) = env := List.set_eq_of_length_le (by omega)
    have e2 : σ.set i (some (.ref a)) = σ := List.set_eq_of_length_le (by rw [A.len]; omega)
    rw [e1, e2]
    exact A
end
end Y

namespace Y
open PySem PySem.Spec PyProof.Rows L2
/-! ### readings by pure data -/
abbrev WE := List Sl → (D → List Sl → Prop) → Prop
abbrev WL := List Sl → (List D → List Sl → Prop) → Prop
abbrev WT := List Sl → (Bool → List Sl → Prop) → Prop
/-- an operand: a value, or a name whose own list is looked at where it lies -/
inductive Ar where
  | val (d : D)
  | slot (i : Nat)
abbrev WO := List Sl → (Ar → List Sl → Prop) → Prop
abbrev WA := List Sl → (List Ar → List Sl → Prop) → Prop
def ArOk (K : Frag) (S : Hp) (σ : Sg) (v : V) : Ar → Prop
  | .val d => Dr K S v d
  | .slot i => σ[i]? = some (some v)
def Ar.get (env : List Sl) : Ar → Option D
  | .val d => some d
  | .slot i => match env[i]? with
    | some (.own ds) => some (.list ds)
    | some (.val d) => some d
    | _ => none
def Ar.isSlot : Ar → Bool
  | .val _ => false
  | .slot _ => true
def getAll (env : List Sl) : List Ar → Option (List D)
  | [] => some []
  | a :: r => match a.get env, getAll env r with
    | some d, some ds => some (d :: ds)
    | _, _ => none
inductive ArsOk (K : Frag) (S : Hp) (σ : Sg) : List V → List Ar → Prop
  | nil : ArsOk K S σ [] []
  | cons {v : V} {a : Ar} {vs : List V} {as : List Ar} : ArOk K S σ v a → ArsOk K S σ vs as → ArsOk K S σ (v :: vs) (a :: as)
/-- an operand as it lies: its own list in the heap, all within it frozen -/
def Dk (K : Frag) (S H : Hp) (v : V) : D → Prop
  | .list ds => ∃ a xs, v = .ref a ∧ H a = some (.lst xs) ∧ DrAll K S xs ds
  | d => Dr K S v d
inductive DkAll (K : Frag) (S H : Hp) : List V → List D → Prop
  | nil : DkAll K S H [] []
  | cons {v : V} {d : D} {vs : List V} {ds : List D} : Dk K S H v d → DkAll K S H vs ds → DkAll K S H (v :: vs) (d :: ds)
section
variable {K : Frag} {G : Gh} {S S' H H' : Hp} {env : List Sl} {σ : Sg}
theorem ArOk.mono {v : V} {a : Ar} (h : ArOk K S σ v a) (e : Same S S') : ArOk K S' σ v a := by
  cases a with
  | val d => exact Dr.mono e h
  | slot i => exact h
theorem ArsOk.mono {vs : List V} {as : List Ar} (h : ArsOk K S σ vs as) (e : Same S S') : ArsOk K S' σ vs as := by
  induction h with
  | nil => exact .nil
  | cons h _ ih => exact .cons (h.mono e) ih
theorem Dr.dk {v : V} {d : D} (h : Dr K S v d) (e : Same S H) : Dk K S H v d := by
  cases d with
  | list ds => cases h with
    | lst h a => exact ⟨_, _, rfl, e _ _ h, a⟩
  | _ => exact h
theorem Dk.dr {v : V} {d : D} (h : Dk K S H v d) (e : Same S H) : Dr K H v d := by
  cases d with
  | list ds =>
    obtain ⟨a, xs, rfl, h, r⟩ := h
    exact .lst h (r.mono e)
  | _ => exact Dr.mono e h
theorem ArOk.dk {v : V} {a : Ar} {d : D} (A : Abs K G S env σ H) (h : ArOk K S σ v a) (g : a.get env = some d) : Dk K S H v d := by
  cases a with
  | val d' =>
    cases g
    exact Dr.dk h A.sH
  | slot i =>
    have h' : σ[i]? = some (some v) := h
    cases e : env[i]? with
    | none => simp [Ar.get, e] at g
    | some s =>
      simp only [Ar.get, e] at g
      cases s with
      | no => cases g
      | val d' =>
        cases g
        obtain ⟨v', e1, r⟩ := A.slot e
        rw [h'] at e1; cases e1
        exact r.dk A.sH
      | own ds =>
        cases g
        obtain ⟨b, xs, e1, hh, r, _⟩ := A.own e
        rw [h'] at e1; cases e1
        exact ⟨b, xs, rfl, hh, r⟩
theorem ArsOk.dk {vs : List V} {as : List Ar} (A : Abs K G S env σ H) (h : ArsOk K S σ vs as) : ∀ {ds : List D}, getAll env as = some ds → DkAll K S H vs ds := by
  induction h with
  | nil => intro ds e; cases e; exact .nil
  | @cons v a vs as h _ ih =>
    intro ds e
    unfold getAll at e
    cases e1 : a.get env with
    | none => simp [e1] at e
    | some d =>
      cases e2 : getAll env as with
      | none => simp [e1, e2] at e
      | some es =>
        simp only [e1, e2, Option.some.injEq] at e
        subst e
        exact .cons (h.dk A e1) (ih e2)
theorem ioNe {l : List (Nat × Addr)} {io : List Nat} {i : Nat} (e : l.map (·.1) = io) (h : io.contains i = false) : ∀ p ∈ l, p.1 ≠ i := fun p hp q => by
  have : i ∈ io := by rw [← e, ← q]; exact List.mem_map_of_mem hp
  have h2 : ¬ (io.contains i = true) := by rw [h]; decide
  exact h2 (by simpa using this)
end
/-! ### the judgements -/
def up (K : Frag) (G : Gh) (w : WE) : TE := fun σ H Q => ∃ S env P, Abs K G S env σ H ∧ w env P ∧ ∀ d env', P d env' → ∀ v H' S', Same S S' → Abs K G S' env' σ H' → Dr K S' v d → Q v H'
def upL (K : Frag) (G : Gh) (w : WL) : TE := fun σ H Q => ∃ S env P, Abs K G S env σ H ∧ w env P ∧ ∀ ds env', P ds env' → ∀ a xs H' S', Same S S' → Prk K G S' env' σ H' a xs → DrAll K S' xs ds → Q (.ref a) H'
def upO (K : Frag) (G : Gh) (w : WO) : TE := fun σ H Q => ∃ S env P, Abs K G S env σ H ∧ w env P ∧ ∀ a env', P a env' → ∀ v H' S', Same S S' → Abs K G S' env' σ H' → ArOk K S' σ v a → Q v H'
def upA (K : Frag) (G : Gh) (w : WA) : TA := fun σ H Q => ∃ S env P, Abs K G S env σ H ∧ w env P ∧ ∀ as env', P as env' → ∀ vs H' S', Same S S' → Abs K G S' env' σ H' → ArsOk K S' σ vs as → Q vs H'
def upT (K : Frag) (G : Gh) (w : WT) : TT := fun σ H Q => ∃ S env P, Abs K G S env σ H ∧ w env P ∧ ∀ b env', P b env' → ∀ H' S', Same S S' → Abs K G S' env' σ H' → Q b H'
def JE (X : Cx) (io : List Nat) (e : Expr) (w : WE) : Prop := ∀ G : Gh, G.io.map (·.1) = io → PE X e (up X.K G w)
def JL (X : Cx) (io : List Nat) (e : Expr) (w : WL) : Prop := ∀ G : Gh, G.io.map (·.1) = io → PE X e (upL X.K G w)
def JO (X : Cx) (io : List Nat) (e : Expr) (w : WO) : Prop := ∀ G : Gh, G.io.map (·.1) = io → PE X e (upO X.K G w)
def JA (X : Cx) (io : List Nat) (es : List Expr) (w : WA) : Prop := ∀ G : Gh, G.io.map (·.1) = io → PA X es (upA X.K G w)
def JT (X : Cx) (io : List Nat) (e : Expr) (w : WT) : Prop := ∀ G : Gh, G.io.map (·.1) = io → PT X e (upT X.K G w)
def JW (X : Cx) (io : List Nat) (e : Expr) (w : WT) : Prop := ∀ G : Gh, G.io.map (·.1) = io → PW X e (upT X.K G w)
section
variable {X : Cx}
theorem pe_to {e : Expr} {t t' : TE} (h : PE X e t) (c : ∀ σ H Q, t' σ H Q → t σ H Q) : PE X e t' := ⟨fun pins s σ H Q I hw => h.run pins s σ H Q I (c σ H Q hw)⟩
theorem pt_to {e : Expr} {t t' : TT} (h : PT X e t) (c : ∀ σ H Q, t' σ H Q → t σ H Q) : PT X e t' := ⟨fun pins s σ H Q I hw => h.run pins s σ H Q I (c σ H Q hw)⟩
theorem pw_to {e : Expr} {t t' : TT} (h : PW X e t) (c : ∀ σ H Q, t' σ H Q → t σ H Q) : PW X e t' := ⟨fun wh pins s σ H Q I hw => h.run wh pins s σ H Q I (c σ H Q hw)⟩
theorem pa_to {e : List Expr} {t t' : TA} (h : PA X e t) (c : ∀ σ H Q, t' σ H Q → t σ H Q) : PA X e t' := ⟨fun pos pins s σ H Q I hw => h.run pos pins s σ H Q I (c σ H Q hw)⟩
theorem ps_to {st : Stmt} {t t' : TS} (h : PS X st t) (c : ∀ D σ H, t' D σ H → t D σ H) : PS X st t' := ⟨fun pins s σ H D I hw => h.run pins s σ H D I (c D σ H hw)⟩
theorem pss_to {st : List Stmt} {t t' : TS} (h : PSs X st t) (c : ∀ D σ H, t' D σ H → t D σ H) : PSs X st t' := ⟨fun pins s σ H D I hw => h.run pins s σ H D I (c D σ H hw)⟩
theorem pi_to {tg e : Expr} {t t' : TI} (h : PI X tg e t) (c : ∀ σ H R, t' σ H R → t σ H R) : PI X tg e t' := ⟨fun pins s σ H R I hw => h.run pins s σ H R I (c σ H R hw)⟩
theorem pg_to {tg : Expr} {t t' : TG} (h : PG X tg t) (c : ∀ v σ H Q, t' v σ H Q → t v σ H Q) : PG X tg t' := ⟨fun pins s σ H v u Q I r hw => h.run pins s σ H v u Q I r (c v σ H Q hw)⟩
theorem opr_to {f : Value → Value → Sem Value} {r r' : R2} (h : OpR X f r) (c : ∀ x y H Q, r' x y H Q → r x y H Q) : OpR X f r' := fun pins s σ H x y v u Q I rx ry hw => h pins s σ H x y v u Q I rx ry (c x y H Q hw)
theorem callr_to {f : Value} {r r' : List V → Hp → VK → Prop} (h : CallR X f r) (c : ∀ xs H Q, r' xs H Q → r xs H Q) : CallR X f r' := fun pins s σ H xs us Q I rx hw => h pins s σ H xs us Q I rx (c xs H Q hw)

/-! ### names and constants -/
variable {io : List Nat}
def wV (i : Nat) : WE := fun env P => match env[i]? with
  | some (.val d) => P d env
  | some (.own ds) => P (.list ds) (env.set i (.val (.list ds)))
  | _ => False
theorem jV (i : Nat) {x : Str} {pos : Pos} (hN : X.N[i]? = some x := by rfl) (hv : Vis X.env.scope x := by first | exact Or.inl rfl | exact Or.inr (Or.inl rfl) | exact Or.inr (Or.inr rfl))
    (hi : io.contains i = false := by rfl) (hd : (x == ("__debug__" : Str)) = false := by decide) (hcd : (x == ("__classdict__" : Str)) = false := by decide) : JE X io (.Name x pos) (wV i) := fun G hG => by
  refine pe_to (pe_var hN hv hd hcd) fun σ H Q ⟨S, env, P, A, w, k⟩ => ?_
  unfold wV at w
  cases e : env[i]? with
  | none => simp [e] at w
  | some s =>
    rw [e] at w
    cases s with
    | no => cases w
    | val d =>
      obtain ⟨v, e1, r⟩ := A.slot e
      exact ⟨v, e1, k _ _ w _ _ _ (Same.refl _) A r⟩
    | own ds =>
      obtain ⟨a, S', e1, sS, r, A'⟩ := A.freeze e (ioNe hG hi)
      exact ⟨_, e1, k _ _ w _ _ _ sS A' r⟩
/-- a name as an operand: its own list stays its own -/
def wS (i : Nat) : WO := fun env P => match env[i]? with
  | some (.val d) => P (.val d) env
  | some (.own _) => P (.slot i) env
  | _ => False
theorem jS (i : Nat) {x : Str} {pos : Pos} (hN : X.N[i]? = some x := by rfl) (hv : Vis X.env.scope x := by first | exact Or.inl rfl | exact Or.inr (Or.inl rfl) | exact Or.inr (Or.inr rfl))
    (hd : (x == ("__debug__" : Str)) = false := by decide) (hcd : (x == ("__classdict__" : Str)) = false := by decide) : JO X io (.Name x pos) (wS i) := fun G hG => by
  refine pe_to (pe_var hN hv hd hcd) fun σ H Q ⟨S, env, P, A, w, k⟩ => ?_
  unfold wS at w
  cases e : env[i]? with
  | none => simp [e] at w
  | some s =>
    rw [e] at w
    cases s with
    | no => cases w
    | val d =>
      obtain ⟨v, e1, r⟩ := A.slot e
      exact ⟨v, e1, k _ _ w _ _ _ (Same.refl _) A r⟩
    | own ds =>
      obtain ⟨a, xs, e1, _⟩ := A.own e
      exact ⟨_, e1, k _ _ w _ _ _ (Same.refl _) A e1⟩
def wO (w : WE) : WO := fun env P => w env fun d e => P (.val d) e
theorem jO {e : Expr} {w : WE} (h : JE X io e w) : JO X io e (wO w) := fun G hG =>
  pe_to (h G hG) fun σ H Q ⟨S, env, P, A, w, k⟩ => ⟨S, env, _, A, w, fun d env' p v H' S' s A' r => k (.val d) env' p v H' S' s A' r⟩
def wK (d : D) : WE := fun env P => P d env
theorem jInt {i j pos} : JE X io (.Constant (.int i) j pos) (wK (.int i)) := fun G hG => pe_to pe_int fun σ H Q ⟨S, env, P, A, w, k⟩ => k _ _ w _ _ _ (Same.refl _) A (.int i)
theorem jBl {b j pos} : JE X io (.Constant (.bool b) j pos) (wK (.bool b)) := fun G hG => pe_to pe_bl fun σ H Q ⟨S, env, P, A, w, k⟩ => k _ _ w _ _ _ (Same.refl _) A (.bl b)
theorem jNon {j pos} : JE X io (.Constant .none j pos) (wK .none) := fun G hG => pe_to pe_non fun σ H Q ⟨S, env, P, A, w, k⟩ => k _ _ w _ _ _ (Same.refl _) A .non
theorem jStr {x j pos} : JE X io (.Constant (.str x) j pos) (wK (.str x)) := fun G hG => pe_to pe_str fun σ H Q ⟨S, env, P, A, w, k⟩ => k _ _ w _ _ _ (Same.refl _) A (.str x)
/-- a fresh list, frozen -/
def wFz (w : WL) : WE := fun env P => w env fun ds e => P (.list ds) e
theorem jFz {e : Expr} {w : WL} (h : JL X io e w) : JE X io e (wFz w) := fun G hG =>
  pe_to (h G hG) fun σ H Q ⟨S, env, P, A, w, k⟩ => ⟨S, env, _, A, w, fun ds env' p a xs H' S' s K' r => by
    obtain ⟨S2, s2, A2, r2⟩ := K'.freeze r
    exact k _ _ p _ _ _ (s.trans s2) A2 r2⟩

/-! ### operators -/
def rD2 (K : Frag) (f : D → D → (D → Prop) → Prop) : R2 := fun x y H Q => ∃ S d e P, Same S H ∧ Dk K S H x d ∧ Dk K S H y e ∧ f d e P ∧ ∀ r, P r → ∀ v H' S', Ext S H S' H' → Dr K S' v r → Q v H'
def rD1 (K : Frag) (f : D → (D → Prop) → Prop) : V → Hp → VK → Prop := fun x H Q => ∃ S d P, Same S H ∧ Dk K S H x d ∧ f d P ∧ ∀ r, P r → ∀ v H' S', Ext S H S' H' → Dr K S' v r → Q v H'
def rDn (K : Frag) (f : List D → (D → Prop) → Prop) : List V → Hp → VK → Prop := fun xs H Q => ∃ S ds P, Same S H ∧ DkAll K S H xs ds ∧ f ds P ∧ ∀ r, P r → ∀ v H' S', Ext S H S' H' → Dr K S' v r → Q v H'
def get2 (x y : Ar) (env : List Sl) (k : D → D → Prop) : Prop := match x.get env, y.get env with
  | some d, some e => k d e
  | _, _ => False
theorem get2_ok {x y : Ar} {env : List Sl} {k : D → D → Prop} (h : get2 x y env k) : ∃ d e, x.get env = some d ∧ y.get env = some e ∧ k d e := by
  unfold get2 at h
  cases e1 : x.get env with
  | none => simp [e1] at h
  | some d =>
    cases e2 : y.get env with
    | none => simp [e1, e2] at h
    | some e => simp only [e1, e2] at h; exact ⟨d, e, rfl, rfl, h⟩
def get1 (x : Ar) (env : List Sl) (k : D → Prop) : Prop := match x.get env with
  | some d => k d
  | _ => False
theorem get1_ok {x : Ar} {env : List Sl} {k : D → Prop} (h : get1 x env k) : ∃ d, x.get env = some d ∧ k d := by
  unfold get1 at h
  cases e1 : x.get env with
  | none => simp [e1] at h
  | some d => simp only [e1] at h; exact ⟨d, rfl, h⟩
def getN (as : List Ar) (env : List Sl) (k : List D → Prop) : Prop := match getAll env as with
  | some ds => k ds
  | _ => False
theorem getN_ok {as : List Ar} {env : List Sl} {k : List D → Prop} (h : getN as env k) : ∃ ds, getAll env as = some ds ∧ k ds := by
  unfold getN at h
  cases e1 : getAll env as with
  | none => simp [e1] at h
  | some d => simp only [e1] at h; exact ⟨d, rfl, h⟩
def wB (f : D → D → (D → Prop) → Prop) (wa wb : WO) : WE := fun env P => wa env fun x e1 => wb e1 fun y e2 => get2 x y e2 fun d e => f d e fun r => P r e2
def wU (f : D → (D → Prop) → Prop) (wa : WO) : WE := fun env P => wa env fun x e1 => get1 x e1 fun d => f d fun r => P r e1
def wC (f : List D → (D → Prop) → Prop) (wa : WA) : WE := fun env P => wa env fun as e1 => getN as e1 fun ds => f ds fun r => P r e1
variable {f : D → D → (D → Prop) → Prop} {f1 : D → (D → Prop) → Prop} {fn : List D → (D → Prop) → Prop} {a b e : Expr} {es : List Expr} {wa wb : WO} {ws : WA} {pos p : Pos}
theorem two_to {ta tb : TE} {r : R2} {G : Gh} (hr : r = rD2 X.K f) (ha : ta = upO X.K G wa) (hb : tb = upO X.K G wb) : ∀ σ H Q, up X.K G (wB f wa wb) σ H Q → tOp r ta tb σ H Q := by
  subst hr ha hb
  rintro σ H Q ⟨S, env, P, A, w, k⟩
  refine ⟨S, env, _, A, w, fun x e1 p1 v1 H1 S1 s1 A1 r1 => ⟨S1, e1, _, A1, p1, fun y e2 p2 v2 H2 S2 s2 A2 r2 => ?_⟩⟩
  obtain ⟨d, e, g1, g2, p⟩ := get2_ok p2
  refine ⟨S2, d, e, _, A2.sH, (r1.mono s2).dk A2 g1, r2.dk A2 g2, p, fun r pr v H' S' ex rr => ?_⟩
  exact k r e2 pr v H' S' (s1.trans (s2.trans ex.s)) (A2.ext ex) rr
theorem jB {op : Operator} (ho : OpR X (binaryOp op) (rD2 X.K f)) (ha : JO X io a wa) (hb : JO X io b wb) : JE X io (.BinOp a op b pos) (wB f wa wb) := fun G hG =>
  pe_to (pe_op ho (ha G hG) (hb G hG)) (two_to rfl rfl rfl)
theorem jCmp {op : CmpOp} (ho : OpR X (compareOp op) (rD2 X.K f)) (ha : JO X io a wa) (hb : JO X io b wb) (hm : behindInMarks op b = false := by first | exact nomark _ | rfl) : JE X io (.Compare a [op] [b] pos) (wB f wa wb) := fun G hG =>
  pe_to (pe_cmpR ho (ha G hG) (hb G hG) hm) (two_to rfl rfl rfl)
theorem jIx (hr : IxR X (rD2 X.K f)) (ha : JO X io a wa) (hb : JO X io b wb) (hs : PlainIx b := by exact fun _ _ => rfl) : JE X io (.Subscript a b pos) (wB f wa wb) := fun G hG =>
  pe_to (pe_ix hr (ha G hG) (hb G hG) hs) (two_to rfl rfl rfl)
theorem jU {op : UnaryOp} (ho : UnR X (unaryOp op) (rD1 X.K f1)) (ha : JO X io a wa) : JE X io (.UnaryOp op a pos) (wU f1 wa) := fun G hG => by
  refine pe_to (pe_un ho (ha G hG)) ?_
  rintro σ H Q ⟨S, env, P, A, w, k⟩
  refine ⟨S, env, _, A, w, fun x e1 p1 v1 H1 S1 s1 A1 r1 => ?_⟩
  obtain ⟨d, g1, p⟩ := get1_ok p1
  exact ⟨S1, d, _, A1.sH, r1.dk A1 g1, p, fun r pr v H' S' ex rr => k r e1 pr v H' S' (s1.trans ex.s) (A1.ext ex) rr⟩

/-! ### arguments -/
def aN : WA := fun env P => P [] env
def aC (w : WO) (wr : WA) : WA := fun env P => w env fun x e1 => wr e1 fun as e2 => P (x :: as) e2
theorem jaN : JA X io [] aN := fun G hG => pa_to pa_nil fun σ H Q ⟨S, env, P, A, w, k⟩ => k _ _ w _ _ _ (Same.refl _) A .nil
theorem jaC {w : WO} {wr : WA} (h : JO X io e w) (hr : JA X io es wr) (hs : starEach (e :: es) X.env = (false, eval e X.env) :: starEach es X.env := by rfl) : JA X io (e :: es) (aC w wr) := fun G hG => by
  refine pa_to (pa_cons (h G hG) (hr G hG) hs) ?_
  rintro σ H Q ⟨S, env, P, A, w, k⟩
  refine ⟨S, env, _, A, w, fun x e1 p1 v1 H1 S1 s1 A1 r1 => ⟨S1, e1, _, A1, p1, fun as e2 p2 vs H2 S2 s2 A2 r2 => ?_⟩⟩
  exact k _ _ p2 _ _ _ (s1.trans s2) A2 (.cons (r1.mono s2) r2)
theorem call_to {G : Gh} {t : TA} (ht : t = upA X.K G ws) : ∀ σ H Q, up X.K G (wC fn ws) σ H Q → tCB (rDn X.K fn) t σ H Q := by
  subst ht
  rintro σ H Q ⟨S, env, P, A, w, k⟩
  refine ⟨S, env, _, A, w, fun as e1 p1 vs H1 S1 s1 A1 r1 => ?_⟩
  obtain ⟨ds, g, p⟩ := getN_ok p1
  exact ⟨S1, ds, _, A1.sH, r1.dk A1 g, p, fun r pr v H' S' ex rr => k r e1 pr v H' S' (s1.trans ex.s) (A1.ext ex) rr⟩
/-- a built-in function, a built-in class, called -/
theorem jCB {x : Str} {id : String} (hc : CallR X (.builtin id) (rDn X.K fn)) (hg : Gl X x) (hm : X.mg x = none) (hv : bootBuiltins x = some (.builtin id)) (ha : JA X io (e :: es) ws) (hn : x ≠ "__name__" := by decide) (hdb : (x == ("__debug__" : Str)) = false := by decide)
    (he : starEach (e :: es) X.env = (false, eval e X.env) :: starEach es X.env := by rfl) (hpl : (backTo pos (starEach es X.env)).any (·.1) = false := by rfl) : JE X io (.Call (.Name x p) (e :: es) [] pos) (wC fn ws) := fun G hG =>
  pe_to (pe_callB hc hg hm hv (ha G hG) hn hdb he hpl) (call_to rfl)
theorem jCT {x : Str} {T : String} (hc : CallR X (.type T) (rDn X.K fn)) (hg : Gl X x) (hm : X.mg x = none) (hv : bootBuiltins x = some (.type T)) (ha : JA X io (e :: es) ws) (hn : x ≠ "__name__" := by decide) (hdb : (x == ("__debug__" : Str)) = false := by decide)
    (he : starEach (e :: es) X.env = (false, eval e X.env) :: starEach es X.env := by rfl) (hpl : (backTo pos (starEach es X.env)).any (·.1) = false := by rfl) : JE X io (.Call (.Name x p) (e :: es) [] pos) (wC fn ws) := fun G hG =>
  pe_to (pe_callTy hc hg hm hv (ha G hG) hn hdb he hpl) (call_to rfl)

/-! ### displays -/
def vals : List Ar → Option (List D)
  | [] => some []
  | .val d :: r => (vals r).map (d :: ·)
  | .slot _ :: _ => none
theorem ArsOk.vals {K : Frag} {S : Hp} {σ : Sg} {vs : List V} {as : List Ar} (h : ArsOk K S σ vs as) : ∀ {ds : List D}, vals as = some ds → DrAll K S vs ds := by
  induction h with
  | nil => intro ds e; cases e; exact .nil
  | @cons v a vs as h _ ih =>
    intro ds e
    cases a with
    | slot i => cases e
    | val d =>
      unfold Y.vals at e
      cases q : Y.vals as with
      | none => rw [q] at e; cases e
      | some es =>
        rw [q] at e; cases e
        exact .cons h (ih q)
def onVals (as : List Ar) (k : List D → Prop) : Prop := match vals as with
  | some ds => k ds
  | none => False
theorem onVals_ok {as : List Ar} {k : List D → Prop} (h : onVals as k) : ∃ ds, vals as = some ds ∧ k ds := by
  unfold onVals at h
  cases e : vals as with
  | none => rw [e] at h; cases h
  | some ds => rw [e] at h; exact ⟨ds, rfl, h⟩
/-- (a, b, ..) -/
def wTup (ws : WA) : WE := fun env P => ws env fun as e1 => onVals as fun ds => ds.length ≤ sizeLine ∧ P (.tuple ds) e1
/-- [a, b, ..] -/
def wLst (ws : WA) : WL := fun env P => ws env fun as e1 => onVals as fun ds => ds.length ≤ sizeLine ∧ P ds e1
theorem jTup {x1 : Nat} (h : JA X io es ws) : JE X io (.Tuple es x1 pos) (wTup ws) := fun G hG => by
  refine pe_to (pe_tup (h G hG)) ?_
  rintro σ H Q ⟨S, env, P, A, w, k⟩
  refine ⟨S, env, _, A, w, fun as e1 p1 vs H1 S1 s1 A1 r1 => ?_⟩
  obtain ⟨ds, g, hl, p⟩ := onVals_ok p1
  have r2 := r1.vals g
  refine ⟨by rw [r2.length]; exact hl, fun q hq => ?_⟩
  have ex := Ext.new (o := HO.tup vs) A1.sH hq
  exact k _ _ p _ _ _ (s1.trans ex.s) (A1.ext ex) (.tup (.inl (.inl upd_same)) (r2.mono ex.s))
theorem jLst (h : JA X io es ws) : JL X io (.List es pos) (wLst ws) := fun G hG => by
  refine pe_to (pe_lst (h G hG)) ?_
  rintro σ H Q ⟨S, env, P, A, w, k⟩
  refine ⟨S, env, _, A, w, fun as e1 p1 vs H1 S1 s1 A1 r1 => ?_⟩
  obtain ⟨ds, g, hl, p⟩ := onVals_ok p1
  have r2 := r1.vals g
  exact ⟨by rw [r2.length]; exact hl, fun q hq => k _ _ p _ _ _ _ s1 (A1.prk hq) r2⟩

/-! ### tests -/
def tB_ (w : WE) : WT := fun env P => w env fun d e => match d with
  | .bool b => P b e
  | _ => False
theorem bool_to {G : Gh} {w : WE} : ∀ σ H Q, upT X.K G (tB_ w) σ H Q → tB (up X.K G w) σ H Q := by
  rintro σ H Q ⟨S, env, P, A, w, k⟩
  refine ⟨S, env, _, A, w, fun d e1 p1 v1 H1 S1 s1 A1 r1 => ?_⟩
  cases d with
  | bool b =>
    cases r1
    exact ⟨b, rfl, k b e1 p1 _ _ s1 A1⟩
  | _ => cases p1
theorem jtE {e : Expr} {w : WE} (h : JE X io e w) (he : ∀ whole, isTrue e X.env whole = (do let v ← whole; standAt e.pos; holding [v] (truthy v)) := by intro _; rfl) : JT X io e (tB_ w) := fun G hG =>
  pt_to (pt_val (h G hG) he) bool_to
theorem jtCmp {op : CmpOp} (ho : OpR X (compareOp op) (rD2 X.K f)) (ha : JO X io a wa) (hb : JO X io b wb) (hm : behindInMarks op b = false := by first | exact nomark _ | rfl) : JT X io (.Compare a [op] [b] pos) (tB_ (wB f wa wb)) := fun G hG => by
  refine pt_to (pt_cmpR ho (ha G hG) (hb G hG) hm) ?_
  rintro σ H Q ⟨S, env, P, A, w, k⟩
  refine two_to (f := f) (wa := wa) (wb := wb) rfl rfl rfl σ H _ ⟨S, env, _, A, w, fun d e1 p1 v1 H1 S1 s1 A1 r1 => ?_⟩
  cases d with
  | bool b =>
    cases r1
    exact ⟨b, rfl, k b e1 p1 _ _ s1 A1⟩
  | _ => cases p1
def tAnd_ (t u : WT) : WT := fun env P => t env fun c e1 => if c = true then u e1 P else P false e1
def tOr_ (t u : WT) : WT := fun env P => t env fun c e1 => if c = true then P true e1 else u e1 P
def tNot_ (t : WT) : WT := fun env P => t env fun c e1 => P (!c) e1
variable {t u : WT} {rest : List Expr}
theorem jwA1 (h : JT X io a t) : JW X io (.BoolOp .And [a] pos) t := fun G hG => pw_and1 (h G hG)
theorem jwO1 (h : JT X io a t) : JW X io (.BoolOp .Or [a] pos) t := fun G hG => pw_or1 (h G hG)
theorem jwA (h : JT X io a t) (hr : JW X io (.BoolOp .And (b :: rest) pos) u) : JW X io (.BoolOp .And (a :: b :: rest) pos) (tAnd_ t u) := fun G hG => by
  refine pw_to (pw_and (h G hG) (hr G hG)) ?_
  rintro σ H Q ⟨S, env, P, A, w, k⟩
  refine ⟨S, env, _, A, w, fun c e1 p1 H1 S1 s1 A1 => ?_⟩
  cases c with
  | true => exact ⟨S1, e1, _, A1, p1, fun b e2 p2 H2 S2 s2 A2 => k b e2 p2 H2 S2 (s1.trans s2) A2⟩
  | false => exact k false e1 p1 H1 S1 s1 A1
theorem jwO (h : JT X io a t) (hr : JW X io (.BoolOp .Or (b :: rest) pos) u) : JW X io (.BoolOp .Or (a :: b :: rest) pos) (tOr_ t u) := fun G hG => by
  refine pw_to (pw_or (h G hG) (hr G hG)) ?_
  rintro σ H Q ⟨S, env, P, A, w, k⟩
  refine ⟨S, env, _, A, w, fun c e1 p1 H1 S1 s1 A1 => ?_⟩
  cases c with
  | false => exact ⟨S1, e1, _, A1, p1, fun b e2 p2 H2 S2 s2 A2 => k b e2 p2 H2 S2 (s1.trans s2) A2⟩
  | true => exact k true e1 p1 H1 S1 s1 A1
theorem jtW (h : JW X io e t) : JT X io e t := fun G hG => (h G hG).pt
theorem jtNot (h : JT X io a t) : JT X io (.UnaryOp .Not a pos) (tNot_ t) := fun G hG => by
  refine pt_to (pt_not (h G hG)) ?_
  rintro σ H Q ⟨S, env, P, A, w, k⟩
  exact ⟨S, env, _, A, w, fun c e1 p1 H1 S1 s1 A1 => k (!c) e1 p1 H1 S1 s1 A1⟩

/-! ### and, or, not as values; a if t else b; chains -/
def wAnd (w u : WE) : WE := fun env P => w env fun d e1 => match d with
  | .bool c => if c = true then u e1 P else P (.bool false) e1
  | _ => False
def wOr (w u : WE) : WE := fun env P => w env fun d e1 => match d with
  | .bool c => if c = true then P (.bool true) e1 else u e1 P
  | _ => False
def wNot (w : WE) : WE := fun env P => w env fun d e1 => match d with
  | .bool c => P (.bool (!c)) e1
  | _ => False
variable {w w' : WE}
theorem jOne {op : BoolOp} (h : JE X io a w) : JE X io (.BoolOp op [a] pos) w := fun G hG => pe_one (h G hG)
theorem jAnd (h : JE X io a w) (hr : JE X io (.BoolOp .And (b :: rest) pos) w') : JE X io (.BoolOp .And (a :: b :: rest) pos) (wAnd w w') := fun G hG => by
  refine pe_to (pe_and (h G hG) (hr G hG)) ?_
  rintro σ H Q ⟨S, env, P, A, w, k⟩
  refine ⟨S, env, _, A, w, fun d e1 p1 v1 H1 S1 s1 A1 r1 => ?_⟩
  cases d with
  | bool c =>
    cases r1
    refine ⟨c, rfl, ?_⟩
    cases c with
    | true => exact ⟨S1, e1, _, A1, p1, fun d2 e2 p2 v2 H2 S2 s2 A2 r2 => k d2 e2 p2 v2 H2 S2 (s1.trans s2) A2 r2⟩
    | false => exact k _ e1 p1 _ H1 S1 s1 A1 (.bl false)
  | _ => cases p1
theorem jOr (h : JE X io a w) (hr : JE X io (.BoolOp .Or (b :: rest) pos) w') : JE X io (.BoolOp .Or (a :: b :: rest) pos) (wOr w w') := fun G hG => by
  refine pe_to (pe_or (h G hG) (hr G hG)) ?_
  rintro σ H Q ⟨S, env, P, A, w, k⟩
  refine ⟨S, env, _, A, w, fun d e1 p1 v1 H1 S1 s1 A1 r1 => ?_⟩
  cases d with
  | bool c =>
    cases r1
    refine ⟨c, rfl, ?_⟩
    cases c with
    | false => exact ⟨S1, e1, _, A1, p1, fun d2 e2 p2 v2 H2 S2 s2 A2 r2 => k d2 e2 p2 v2 H2 S2 (s1.trans s2) A2 r2⟩
    | true => exact k _ e1 p1 _ H1 S1 s1 A1 (.bl true)
  | _ => cases p1
theorem jNot (h : JE X io a w) : JE X io (.UnaryOp .Not a pos) (wNot w) := fun G hG => by
  refine pe_to (pe_not (h G hG)) ?_
  rintro σ H Q ⟨S, env, P, A, w, k⟩
  refine ⟨S, env, _, A, w, fun d e1 p1 v1 H1 S1 s1 A1 r1 => ?_⟩
  cases d with
  | bool c =>
    cases r1
    exact ⟨c, rfl, k _ e1 p1 _ H1 S1 s1 A1 (.bl _)⟩
  | _ => cases p1
def wIf (t : WT) (w u : WE) : WE := fun env P => t env fun c e1 => if c = true then w e1 P else u e1 P
theorem jIf {c : Expr} (hc : JT X io c t) (ha : JE X io a w) (hb : JE X io b w') : JE X io (.IfExp c a b pos) (wIf t w w') := fun G hG => by
  refine pe_to (pe_ifExp (hc G hG) (ha G hG) (hb G hG)) ?_
  rintro σ H Q ⟨S, env, P, A, w, k⟩
  refine ⟨S, env, _, A, w, fun c e1 p1 H1 S1 s1 A1 => ?_⟩
  cases c with
  | true => exact ⟨S1, e1, _, A1, p1, fun d2 e2 p2 v2 H2 S2 s2 A2 r2 => k d2 e2 p2 v2 H2 S2 (s1.trans s2) A2 r2⟩
  | false => exact ⟨S1, e1, _, A1, p1, fun d2 e2 p2 v2 H2 S2 s2 A2 r2 => k d2 e2 p2 v2 H2 S2 (s1.trans s2) A2 r2⟩
end
end Y

namespace Y
open PySem PySem.Spec PyProof.Rows L2
/-! ### statements -/
structure Po where
  nx : List Sl → Prop
  rt : D → List Sl → Prop
  bk : List Sl → Prop := fun _ => False
  ct : List Sl → Prop := fun _ => False
abbrev WS := List Sl → Po → Prop
structure Kd (K : Frag) (G : Gh) (S : Hp) (P : Po) (E : Ends) : Prop where
  nx : ∀ env, P.nx env → ∀ σ H S', Same S S' → Abs K G S' env σ H → E.nx σ H
  rt : ∀ d env, P.rt d env → ∀ v σ H S', Same S S' → Abs K G S' env σ H → Dr K S' v d → E.rt v H
  bk : ∀ env, P.bk env → ∀ σ H S', Same S S' → Abs K G S' env σ H → E.bk σ H
  ct : ∀ env, P.ct env → ∀ σ H S', Same S S' → Abs K G S' env σ H → E.ct σ H
theorem Kd.mono {K : Frag} {G : Gh} {S S' : Hp} {P : Po} {E : Ends} (k : Kd K G S P E) (s : Same S S') : Kd K G S' P E :=
  ⟨fun env p σ H S2 s2 => k.nx env p σ H S2 (s.trans s2), fun d env p v σ H S2 s2 => k.rt d env p v σ H S2 (s.trans s2), fun env p σ H S2 s2 => k.bk env p σ H S2 (s.trans s2), fun env p σ H S2 s2 => k.ct env p σ H S2 (s.trans s2)⟩
def upS (K : Frag) (G : Gh) (w : WS) : TS := fun E σ H => ∃ S env P, Abs K G S env σ H ∧ w env P ∧ Kd K G S P E
def JS (X : Cx) (io : List Nat) (st : Stmt) (w : WS) : Prop := ∀ G : Gh, G.io.map (·.1) = io → PS X st (upS X.K G w)
def JSs (X : Cx) (io : List Nat) (st : List Stmt) (w : WS) : Prop := ∀ G : Gh, G.io.map (·.1) = io → PSs X st (upS X.K G w)
section
variable {X : Cx} {io : List Nat} {st : Stmt} {rest sts sts' : List Stmt} {w u : WS} {pos : Pos} {e a b : Expr}
def sNext : WS := fun env P => P.nx env
def sSeq (w u : WS) : WS := fun env P => w env { P with nx := fun e => u e P }
theorem jsN : JSs X io [] sNext := fun G hG => pss_to pss_nil fun E σ H ⟨S, env, P, A, w, k⟩ => k.nx _ w _ _ _ (Same.refl _) A
theorem jsC (h : JS X io st w) (hr : JSs X io rest u) : JSs X io (st :: rest) (sSeq w u) := fun G hG => by
  refine pss_to (pss_cons (h G hG) (hr G hG)) ?_
  rintro E σ H ⟨S, env, P, A, w, k⟩
  exact ⟨S, env, _, A, w, ⟨fun e p σ' H' S' s A' => ⟨S', e, P, A', p, k.mono s⟩, k.rt, k.bk, k.ct⟩⟩
theorem js1 (h : JS X io st w) : JSs X io [st] w := fun G hG => pss_one (h G hG)
theorem jPass : JS X io (.Pass pos) sNext := fun G hG => ps_to ps_pass fun E σ H ⟨S, env, P, A, w, k⟩ => k.nx _ w _ _ _ (Same.refl _) A
def sBrk : WS := fun env P => P.bk env
def sCnt : WS := fun env P => P.ct env
theorem jBrk : JS X io (.Break pos) sBrk := fun G hG => ps_to ps_break fun E σ H ⟨S, env, P, A, w, k⟩ => k.bk _ w _ _ _ (Same.refl _) A
theorem jCnt : JS X io (.Continue pos) sCnt := fun G hG => ps_to ps_continue fun E σ H ⟨S, env, P, A, w, k⟩ => k.ct _ w _ _ _ (Same.refl _) A
def sRet (we : WE) : WS := fun env P => we env P.rt
theorem jRet {we : WE} (h : JE X io e we) : JS X io (.Return (some e) pos) (sRet we) := fun G hG => by
  refine ps_to (ps_ret (h G hG)) ?_
  rintro E σ H ⟨S, env, P, A, w, k⟩
  exact ⟨S, env, _, A, w, fun d e p v H' S' s A' r => k.rt d e p v _ H' S' s A' r⟩
theorem jRetN : JS X io (.Return none pos) (sRet (wK .none)) := fun G hG => ps_to ps_retN fun E σ H ⟨S, env, P, A, w, k⟩ => k.rt _ _ w _ _ _ _ (Same.refl _) A .non
def sExp (we : WE) : WS := fun env P => we env fun _ e => P.nx e
theorem jExp {we : WE} (h : JE X io e we) (hs : swapsWith e none pos.line X.env = pure false := by rfl) : JS X io (.Expr e pos) (sExp we) := fun G hG => by
  refine ps_to (ps_expr (h G hG) hs) ?_
  rintro E σ H ⟨S, env, P, A, w, k⟩
  exact ⟨S, env, _, A, w, fun d e p v H' S' s A' r => k.nx _ p _ _ _ s A'⟩
def sIf (t : WT) (w u : WS) : WS := fun env P => t env fun c e => if c = true then w e P else u e P
theorem jSIf {c : Expr} {t : WT} (hc : JT X io c t) (ha : JSs X io sts w) (hb : JSs X io sts' u) : JS X io (.If c sts sts' pos) (sIf t w u) := fun G hG => by
  refine ps_to (ps_if (hc G hG) (ha G hG) (hb G hG)) ?_
  rintro E σ H ⟨S, env, P, A, w, k⟩
  refine ⟨S, env, _, A, w, fun c e p H' S' s A' => ?_⟩
  cases c with
  | true => exact ⟨S', e, P, A', p, k.mono s⟩
  | false => exact ⟨S', e, P, A', p, k.mono s⟩
def sNever : WS := fun _ _ => False
theorem jNever : JS X io st sNever := fun G hG => ps_to ps_never fun E σ H ⟨S, env, P, A, w, k⟩ => w.elim

/-! ### targets -/
abbrev WG := D → List Sl → (List Sl → Prop) → Prop
abbrev WGs := List D → List Sl → (List Sl → Prop) → Prop
/-- only these slots are stored to -/
structure Kp (us : List Nat) (σ σ' : Sg) : Prop where
  len : σ'.length = σ.length
  at_ : ∀ i, i ∉ us → σ'[i]? = σ[i]?
theorem Kp.refl {us : List Nat} {σ : Sg} : Kp us σ σ := ⟨rfl, fun _ _ => rfl⟩
theorem Kp.trans {us us' : List Nat} {σ σ' σ2 : Sg} (a : Kp us σ σ') (b : Kp us' σ' σ2) : Kp (us ++ us') σ σ2 :=
  ⟨b.len.trans a.len, fun i h => (b.at_ i fun q => h (List.mem_append_right _ q)).trans (a.at_ i fun q => h (List.mem_append_left _ q))⟩
def upG (K : Frag) (G : Gh) (us : List Nat) (w : WG) : TG := fun v σ H Q => ∃ S env d P, Abs K G S env σ H ∧ Dr K S v d ∧ w d env P ∧ ∀ env', P env' → ∀ σ' H' S', Kp us σ σ' → Same S S' → Abs K G S' env' σ' H' → Q σ' H'
def upGs (K : Frag) (G : Gh) (us : List Nat) (w : WGs) : TGs := fun vs σ H Q => ∃ S env ds P, Abs K G S env σ H ∧ DrAll K S vs ds ∧ w ds env P ∧ ∀ env', P env' → ∀ σ' H' S', Kp us σ σ' → Same S S' → Abs K G S' env' σ' H' → Q σ' H'
def JG (X : Cx) (io : List Nat) (tg : Expr) (us : List Nat) (w : WG) : Prop := ∀ G : Gh, G.io.map (·.1) = io → PG X tg (upG X.K G us w)
def JGs (X : Cx) (io : List Nat) (tgs : List Expr) (us : List Nat) (w : WGs) : Prop := ∀ G : Gh, G.io.map (·.1) = io → PGs X tgs (upGs X.K G us w)
theorem pgs_to {tgs : List Expr} {t t' : TGs} (h : PGs X tgs t) (c : ∀ vs σ H Q, t' vs σ H Q → t vs σ H Q) : PGs X tgs t' := ⟨fun pins s σ H vs us Q I r hw => h.run pins s σ H vs us Q I r (c vs σ H Q hw)⟩
def gN (i : Nat) : WG := fun d env P => P (env.set i (.val d))
theorem jgN {i : Nat} {x : Str} (hN : X.N.Nodup) (hi : X.N[i]? = some x := by rfl) (hx : Loc X.env.scope x := by first | exact Or.inl rfl | exact Or.inr rfl) (hio : io.contains i = false := by rfl)
    (hf : X.fn x = true ∨ X.env.scope.names.lookup x = some .local := by first | exact .inl rfl | exact .inr rfl | assumption) : JG X io (.Name x pos) [i] (gN i) := fun G hG => by
  refine pg_to (pg_name hN hi hx hf) ?_
  rintro v σ H Q ⟨S, env, d, P, A, r, w, k⟩
  exact k _ w _ _ _ ⟨by rw [List.length_set], fun j hj => List.getElem?_set_ne fun q => hj (by rw [q]; exact List.mem_singleton.mpr rfl)⟩ (Same.refl _) (A.setV (ioNe hG hio) r)
def gNl : WGs := fun ds env P => match ds with
  | [] => P env
  | _ => False
def gCn (g : WG) (u : WGs) : WGs := fun ds env P => match ds with
  | d :: r => g d env fun e => u r e P
  | _ => False
theorem jgNl : JGs X io [] [] gNl := fun G hG => by
  refine pgs_to pgs_nil ?_
  rintro vs σ H Q ⟨S, env, ds, P, A, r, w, k⟩
  cases r with
  | nil => exact ⟨rfl, k _ w _ _ _ Kp.refl (Same.refl _) A⟩
  | cons h t => cases w
theorem jgCn {tg : Expr} {tgs : List Expr} {g : WG} {u : WGs} {us us' : List Nat} (h : JG X io tg us g) (hr : JGs X io tgs us' u) (hs : (assignEach (tg :: tgs) X.env).map (·.2) = assign tg X.env :: (assignEach tgs X.env).map (·.2) := by rfl) : JGs X io (tg :: tgs) (us ++ us') (gCn g u) := fun G hG => by
  refine pgs_to (pgs_cons (h G hG) (hr G hG) hs) ?_
  rintro vs σ H Q ⟨S, env, ds, P, A, r, w, k⟩
  cases r with
  | nil => cases w
  | cons h t => exact ⟨_, _, rfl, S, env, _, _, A, h, w, fun e p σ' H' S' z s A' => ⟨S', e, _, P, A', t.mono s, p, fun e2 p2 σ2 H2 S2 z2 s2 A2 => k e2 p2 σ2 H2 S2 (z.trans z2) (s.trans s2) A2⟩⟩
def gTp (n : Nat) (u : WGs) : WG := fun d env P => match d with
  | .tuple ds => ds.length = n ∧ u ds env P
  | _ => False
theorem jgTp {es : List Expr} {kk n : Nat} {u : WGs} {us : List Nat} (hc : X.calm = true) (h : JGs X io es us u) (hn : (assignEach es X.env).length = n := by rfl) (hst : (assignEach es X.env).findIdx? (·.1) = none := by rfl) : JG X io (.Tuple es kk pos) us (gTp n u) := fun G hG => by
  refine pg_to (pg_tup hc (h G hG) hn hst) ?_
  rintro v σ H Q ⟨S, env, d, P, A, r, w, k⟩
  cases d with
  | tuple ds =>
    cases r with
    | tup hs ha => exact ⟨_, _, rfl, Same.tup A.sH hs, by rw [ha.length]; exact w.1, S, env, ds, P, A, ha, w.2, k⟩
  | _ => cases w

/-! ### x = e -/
def sSet (we : WE) (g : WG) : WS := fun env P => we env fun d e => g d e P.nx
theorem set_to {K : Frag} {G : Gh} {we : WE} {g : WG} {us : List Nat} : ∀ (E : Ends) σ H, upS K G (sSet we g) E σ H → tAsg (up K G we) (upG K G us g) E σ H := by
  rintro E σ H ⟨S, env, P, A, w, k⟩
  exact ⟨S, env, _, A, w, fun d e p v H' S' s A' r => ⟨S', e, d, _, A', r, p, fun e2 p2 σ2 H2 S2 _ s2 A2 => k.nx e2 p2 σ2 H2 S2 (s.trans s2) A2⟩⟩
theorem jSet {i : Nat} {x : Str} {we : WE} {pos' : Pos} (hN : X.N.Nodup) (h : JE X io e we) (hi : X.N[i]? = some x := by rfl) (hx : Loc X.env.scope x := by first | exact Or.inl rfl | exact Or.inr rfl) (hio : io.contains i = false := by rfl)
    (hs : swapsWith e (some (.Name x pos')) pos.line X.env = pure false := by rfl) (hf : X.fn x = true ∨ X.env.scope.names.lookup x = some .local := by first | exact .inl rfl | exact .inr rfl | assumption) :
    JS X io (.Assign [.Name x pos'] e pos) (sSet we (gN i)) := fun G hG => by
  refine ps_to (ps_set hN hi hx (h G hG) hs hf) ?_
  rintro E σ H ⟨S, env, P, A, w, k⟩
  exact ⟨S, env, _, A, w, fun d e p v H' S' s A' r => k.nx _ p _ _ _ s (A'.setV (ioNe hG hio) r)⟩
theorem jAsg {tg : Expr} {we : WE} {g : WG} {us : List Nat} (h : JE X io e we) (hg : JG X io tg us g) (hs : swapsWithSole [tg] e pos.line X.env = pure false := by rfl) (hw : swappedStores [tg] e X.env = pure none := by rfl)
    (h1 : (assignEach [tg] X.env).map (·.2) = [assign tg X.env] := by rfl) : JS X io (.Assign [tg] e pos) (sSet we g) := fun G hG =>
  ps_to (ps_asg (h G hG) (hg G hG) hs hw h1) set_to
/-- a name gets a list of its own -/
def sOwn (we : WL) (i : Nat) : WS := fun env P => we env fun ds e => P.nx (e.set i (.own ds))
theorem own_to {K : Frag} {G : Gh} {we : WL} {i : Nat} (hio : ∀ p ∈ G.io, p.1 ≠ i) : ∀ (E : Ends) σ H, upS K G (sOwn we i) E σ H → tAsg (upL K G we) (gName i) E σ H := by
  rintro E σ H ⟨S, env, P, A, w, k⟩
  exact ⟨S, env, _, A, w, fun ds e p a xs H' S' s K' r => k.nx _ p _ _ _ s (K'.setO r hio)⟩
theorem jOwn {i : Nat} {x : Str} {we : WL} {pos' : Pos} (hN : X.N.Nodup) (h : JL X io e we) (hi : X.N[i]? = some x := by rfl) (hx : Loc X.env.scope x := by first | exact Or.inl rfl | exact Or.inr rfl) (hio : io.contains i = false := by rfl)
    (hs : swapsWith e (some (.Name x pos')) pos.line X.env = pure false := by rfl) (hf : X.fn x = true ∨ X.env.scope.names.lookup x = some .local := by first | exact .inl rfl | exact .inr rfl | assumption) :
    JS X io (.Assign [.Name x pos'] e pos) (sOwn we i) := fun G hG =>
  ps_to (ps_set hN hi hx (h G hG) hs hf) (own_to (ioNe hG hio))

/-! ### loops -/
def sWhN (t : WT) (b : WS) : Nat → WS
  | 0 => fun _ _ => False
  | n + 1 => fun env P => ∃ N : List Sl → Prop, (∀ e, N e → sWhN t b n e P) ∧ t env fun c e => if c = true then b e { nx := N, rt := P.rt, bk := P.nx, ct := N } else P.nx e
def sWh (t : WT) (b : WS) : WS := fun env P => ∃ n, sWhN t b n env P
theorem jWh {c : Expr} {t : WT} (hp : PassesOwn (model X.prog X.w) X.A X.env X.xe) (hc : JT X io c t) (hb : JSs X io sts w) : JS X io (.While c sts [] pos) (sWh t w) := fun G hG => by
  refine ps_to (ps_while hp (hc G hG) (hb G hG)) ?_
  rintro E σ H ⟨S, env, P, A, ⟨n, hw⟩, k⟩
  refine ⟨fun m σ H => ∃ S' env, Same S S' ∧ Abs X.K G S' env σ H ∧ sWhN t w m env P, ⟨n, S, env, Same.refl _, A, hw⟩, ?_⟩
  rintro m σ1 H1 ⟨S1, env1, s1, A1, w1⟩
  cases m with
  | zero => cases w1
  | succ m =>
    obtain ⟨N, hN, w1⟩ := w1
    refine ⟨S1, env1, _, A1, w1, fun c e p H2 S2 s2 A2 => ?_⟩
    cases c with
    | false => exact k.nx e p _ _ _ (s1.trans s2) A2
    | true =>
      refine ⟨fun σ H => ∃ S' env, Same S S' ∧ Abs X.K G S' env σ H ∧ sWhN t w m env P, fun σ' H' h => ⟨m, Nat.lt_succ_self m, h⟩, S2, e, _, A2, p, ⟨?_, ?_, ?_, ?_⟩⟩
      · exact fun env3 p3 σ3 H3 S3 s3 A3 => ⟨S3, env3, s1.trans (s2.trans s3), A3, hN _ p3⟩
      · exact fun d env3 p3 v σ3 H3 S3 s3 A3 r3 => k.rt d env3 p3 v σ3 H3 S3 (s1.trans (s2.trans s3)) A3 r3
      · exact fun env3 p3 σ3 H3 S3 s3 A3 => k.nx env3 p3 σ3 H3 S3 (s1.trans (s2.trans s3)) A3
      · exact fun env3 p3 σ3 H3 S3 s3 A3 => ⟨S3, env3, s1.trans (s2.trans s3), A3, hN _ p3⟩
/-- what is walked gives these data, in order -/
def ItS (K : Frag) (S0 : Hp) (J : It) (ds : List D) : Prop := ∀ (i : Nat) (S H : Hp), Same S0 S → Same S H →
  (ds.length ≤ i → J.stop i H) ∧ ∀ d, ds[i]? = some d → J.go i H ∧ ∀ x H', J.yld i H x H' → ∃ S', Ext S H S' H' ∧ Dr K S' x d
def upI (K : Frag) (G : Gh) (w : WL) : TI := fun σ H R => ∃ S env P, Abs K G S env σ H ∧ w env P ∧ ∀ ds env', P ds env' → ∀ J H' S', Same S S' → Abs K G S' env' σ H' → ItS K S' J ds → R J H'
def JI (X : Cx) (io : List Nat) (tg e : Expr) (w : WL) : Prop := ∀ G : Gh, G.io.map (·.1) = io → PI X tg e (upI X.K G w)
def sForL (g : WG) (b : WS) : List D → WS
  | [] => fun env P => P.nx env
  | d :: ds => fun env P => ∃ N : List Sl → Prop, (∀ e, N e → sForL g b ds e P) ∧ g d env fun e => b e { nx := N, rt := P.rt, bk := P.nx, ct := N }
def sFor (wi : WL) (g : WG) (b : WS) : WS := fun env P => wi env fun ds e => sForL g b ds e P
theorem drop_cons {α : Type} {l : List α} {i : Nat} (h : i < l.length) : ∃ d, l[i]? = some d ∧ l.drop i = d :: l.drop (i + 1) :=
  ⟨l[i], List.getElem?_eq_getElem h, List.drop_eq_getElem_cons h⟩
theorem jFor {tg it : Expr} {wi : WL} {g : WG} {us : List Nat} (hp : PassesOwn (model X.prog X.w) X.A X.env X.xe) (hc : X.calm = true) (hi : JI X io tg it wi) (hg : JG X io tg us g) (hb : JSs X io sts w)
    (hs : ∀ x, foldedSetIterable it X.env x = pure x := by intro _; rfl) : JS X io (.For tg it sts [] pos) (sFor wi g w) := fun G hG => by
  refine ps_to (ps_for hp hc (hi G hG) (hg G hG) (hb G hG) hs) ?_
  rintro E σ H ⟨S, env, P, A, w0, k⟩
  refine ⟨S, env, _, A, w0, fun ds e1 p1 J H1 S1 s1 A1 it => ?_⟩
  refine ⟨fun i m σ H => i ≤ ds.length ∧ m = ds.length - i ∧ ∃ S' env, Same S1 S' ∧ Abs X.K G S' env σ H ∧ sForL g w (ds.drop i) env P, ⟨ds.length, Nat.zero_le _, rfl, S1, e1, Same.refl _, A1, p1⟩, ?_⟩
  rintro i m σ2 H2 ⟨hi, rfl, S2, e2, s2, A2, p2⟩
  obtain ⟨hstop, hgo⟩ := it i S2 H2 s2 A2.sH
  by_cases hl : i < ds.length
  · obtain ⟨d, hd, ed⟩ := drop_cons hl
    rw [ed] at p2
    obtain ⟨N, hN, p2⟩ := p2
    obtain ⟨g1, g2⟩ := hgo d hd
    refine .inr ⟨g1, fun σ H => ∃ S' env, Same S1 S' ∧ Abs X.K G S' env σ H ∧ sForL g w (ds.drop (i + 1)) env P, fun σ' H' h => ⟨ds.length - (i + 1), by omega, hl, rfl, h⟩, fun x H3 hy => ?_⟩
    obtain ⟨S3, ex, r3⟩ := g2 x H3 hy
    refine ⟨S3, e2, d, _, A2.ext ex, r3, p2, fun e4 p4 σ4 H4 S4 _ s4 A4 => ⟨S4, e4, _, A4, p4, ⟨?_, ?_, ?_, ?_⟩⟩⟩
    · exact fun env5 p5 σ5 H5 S5 s5 A5 => ⟨S5, env5, s2.trans (ex.s.trans (s4.trans s5)), A5, hN _ p5⟩
    · exact fun d env5 p5 v σ5 H5 S5 s5 A5 r5 => k.rt d env5 p5 v σ5 H5 S5 (s1.trans (s2.trans (ex.s.trans (s4.trans s5)))) A5 r5
    · exact fun env5 p5 σ5 H5 S5 s5 A5 => k.nx env5 p5 σ5 H5 S5 (s1.trans (s2.trans (ex.s.trans (s4.trans s5)))) A5
    · exact fun env5 p5 σ5 H5 S5 s5 A5 => ⟨S5, env5, s2.trans (ex.s.trans (s4.trans s5)), A5, hN _ p5⟩
  · have e : i = ds.length := by omega
    subst e
    rw [List.drop_length] at p2
    exact .inl ⟨hstop (Nat.le_refl _), k.nx _ p2 _ _ _ (s1.trans s2) A2⟩

/-! ### what is walked: a list or a tuple, a range -/
theorem its_list {K : Frag} {S : Hp} {a : Addr} {xs : List V} {ds : List D} (h : S a = some (.lst xs)) (r : DrAll K S xs ds) : ItS K S (Itl K a) ds := fun i S1 H s e => by
  have hq : SqL K H a xs := SqL.of (e _ _ (s _ _ h))
  refine ⟨fun hl => ⟨xs, hq, by rw [r.length]; exact hl⟩, fun d hd => ?_⟩
  obtain ⟨x, hx, rx⟩ := r.get hd
  refine ⟨⟨xs, x, hq, hx⟩, fun y H' ⟨e1, hy⟩ => ?_⟩
  subst e1
  have e2 := hy xs hq
  rw [hx] at e2; cases e2
  exact ⟨S1, Ext.refl e, rx.mono s⟩
theorem its_tup {K : Frag} {S : Hp} {a : Addr} {xs : List V} {ds : List D} (h : SqT K S a xs) (r : DrAll K S xs ds) : ItS K S (Itt K a) ds := fun i S1 H s e => by
  have hq : SqT K H a xs := Same.tup e (Same.tup s h)
  refine ⟨fun hl => ⟨xs, hq, by rw [r.length]; exact hl⟩, fun d hd => ?_⟩
  obtain ⟨x, hx, rx⟩ := r.get hd
  refine ⟨⟨xs, x, hq, hx⟩, fun y H' ⟨e1, hy⟩ => ?_⟩
  subst e1
  have e2 := hy xs hq
  rw [hx] at e2; cases e2
  exact ⟨S1, Ext.refl e, rx.mono s⟩
/-- over a list (a tuple): told which -/
def iLs (we : WE) : WL := fun env P => we env fun d e => match d with
  | .list ds => P ds e
  | _ => False
def iTp (we : WE) : WL := fun env P => we env fun d e => match d with
  | .tuple ds => P ds e
  | _ => False
theorem jiL {tg : Expr} {we : WE} (h : JE X io e we) : JI X io tg e (iLs we) := fun G hG => by
  refine pi_to (pi_list (h G hG)) ?_
  rintro σ H R ⟨S, env, P, A, w, k⟩
  refine ⟨S, env, _, A, w, fun d e1 p1 v H1 S1 s1 A1 r1 => ?_⟩
  cases d with
  | list ds =>
    cases r1 with
    | lst hs ha => exact ⟨_, rfl, ⟨_, SqL.of (A1.sH _ _ hs)⟩, k ds e1 p1 _ H1 S1 s1 A1 (its_list hs ha)⟩
  | _ => cases p1
theorem jiT {tg : Expr} {we : WE} (h : JE X io e we) : JI X io tg e (iTp we) := fun G hG => by
  refine pi_to (pi_tup (h G hG)) ?_
  rintro σ H R ⟨S, env, P, A, w, k⟩
  refine ⟨S, env, _, A, w, fun d e1 p1 v H1 S1 s1 A1 r1 => ?_⟩
  cases d with
  | tuple ds =>
    cases r1 with
    | tup hs ha => exact ⟨_, rfl, ⟨_, Same.tup A1.sH hs⟩, k ds e1 p1 _ H1 S1 s1 A1 (its_tup hs ha)⟩
  | _ => cases p1
/-- lo, lo + 1, .., as data -/
def rng (lo hi : Int) : List D := (List.range (hi - lo).toNat).map fun i => .int (lo + (i : Nat))
theorem its_rng {K : Frag} {S : Hp} {lo hi : Int} : ItS K S (Itr lo (hi - lo).toNat) (rng lo hi) := fun i S1 H s e => by
  have hl : (rng lo hi).length = (hi - lo).toNat := by unfold rng; rw [List.length_map, List.length_range]
  refine ⟨fun h => by rw [hl] at h; exact h, fun d hd => ?_⟩
  have hi' : i < (rng lo hi).length := (List.getElem?_eq_some_iff.mp hd).1
  rw [hl] at hi'
  refine ⟨hi', fun x H' ⟨e1, e2⟩ => ?_⟩
  subst e1; subst e2
  have : d = .int (lo + (i : Nat)) := by
    unfold rng at hd
    rw [List.getElem?_map, List.getElem?_range hi'] at hd
    exact (Option.some.inj hd).symm
  subst this
  exact ⟨S1, Ext.refl e, .int _⟩
def onI1 (as : List Ar) (k : Int → Prop) : Prop := match as with
  | [.val (.int j)] => k j
  | _ => False
theorem onI1_ok {as : List Ar} {k : Int → Prop} (h : onI1 as k) : ∃ j, as = [.val (.int j)] ∧ k j := by
  unfold onI1 at h
  split at h
  · exact ⟨_, rfl, h⟩
  · cases h
def onI2 (as : List Ar) (k : Int → Int → Prop) : Prop := match as with
  | [.val (.int i), .val (.int j)] => k i j
  | _ => False
theorem onI2_ok {as : List Ar} {k : Int → Int → Prop} (h : onI2 as k) : ∃ i j, as = [.val (.int i), .val (.int j)] ∧ k i j := by
  unfold onI2 at h
  split at h
  · exact ⟨_, _, rfl, h⟩
  · cases h
def Mid (j : Int) : Prop := -(2 ^ 62) ≤ j ∧ j < 2 ^ 62
def iR1 (ws : WA) : WL := fun env P => ws env fun as e => onI1 as fun j => Mid j ∧ P (rng 0 j) e
def iR2 (ws : WA) : WL := fun env P => ws env fun as e => onI2 as fun i j => (Mid i ∧ Mid j) ∧ P (rng i j) e
variable {p : Pos}
theorem jiR1 {tg : Expr} {ws : WA} (hg : Gl X "range") (hm : X.mg "range" = none) (ha : JA X io [a] ws) (hs : starEach [a] X.env = [(false, eval a X.env)] := by rfl) : JI X io tg (.Call (.Name "range" p) [a] [] pos) (iR1 ws) := fun G hG => by
  refine pi_to (pi_range1 hg hm (ha G hG) hs) ?_
  rintro σ H R ⟨S, env, P, A, w, k⟩
  refine ⟨S, env, _, A, w, fun as e1 p1 vs H1 S1 s1 A1 r1 => ?_⟩
  obtain ⟨j, rfl, ⟨q1, q2⟩, q3⟩ := onI1_ok p1
  cases r1 with
  | cons h1 t1 =>
    cases t1
    cases h1
    refine ⟨j, rfl, q1, q2, k _ e1 q3 _ H1 S1 s1 A1 ?_⟩
    have z : ItS X.K S1 (Itr 0 (j - 0).toNat) (rng 0 j) := its_rng
    rwa [Int.sub_zero] at z
theorem jiR2 {tg : Expr} {ws : WA} (hg : Gl X "range") (hm : X.mg "range" = none) (ha : JA X io [a, b] ws) (hs : starEach [a, b] X.env = [(false, eval a X.env), (false, eval b X.env)] := by rfl) (hs2 : starEach [b] X.env = [(false, eval b X.env)] := by rfl) :
    JI X io tg (.Call (.Name "range" p) [a, b] [] pos) (iR2 ws) := fun G hG => by
  refine pi_to (pi_range2 hg hm (ha G hG) hs hs2) ?_
  rintro σ H R ⟨S, env, P, A, w, k⟩
  refine ⟨S, env, _, A, w, fun as e1 p1 vs H1 S1 s1 A1 r1 => ?_⟩
  obtain ⟨i, j, rfl, ⟨⟨q1, q2⟩, q3, q4⟩, q5⟩ := onI2_ok p1
  cases r1 with
  | cons h1 t1 =>
    cases t1 with
    | cons h2 t2 =>
      cases t2
      cases h1
      cases h2
      exact ⟨i, j, rfl, ⟨q1, q2, q3, q4⟩, k _ e1 q5 _ H1 S1 s1 A1 its_rng⟩
end
end Y

namespace Y
open PySem PySem.Spec PyProof.Rows L2
/-! ### comprehensions -/
def wipeE (env : List Sl) : List Nat → List Sl
  | [] => env
  | v :: vs => (wipeE env vs).set v .no
/-- the slots of the block's own names as they were ahead of it -/
def backE (env0 : List Sl) (env : List Sl) : List Nat → List Sl
  | [] => env
  | v :: vs => (backE env0 env vs).set v (env0.getD v .no)
def noOwn (env : List Sl) : List Nat → Bool
  | [] => true
  | v :: vs => (match env[v]? with
    | some (.own _) => false
    | none => false
    | _ => true) && noOwn env vs
section
variable {K : Frag} {G : Gh} {S S' H H' : Hp} {env env0 : List Sl} {σ : Sg}
theorem Abs.wipe (A : Abs K G S env σ H) : ∀ {vs : List Nat}, (∀ v ∈ vs, ∀ p ∈ G.io, p.1 ≠ v) → Abs K G S (wipeE env vs) (L2.wipe σ vs) H
  | [], _ => A
  | v :: vs, h => (Abs.wipe A (vs := vs) fun u hu => h u (List.mem_cons_of_mem _ hu)).setN (h v List.mem_cons_self)
theorem wipe_get {σ : Sg} {i : Nat} : ∀ {vs : List Nat}, i ∉ vs → (L2.wipe σ vs)[i]? = σ[i]?
  | [], _ => rfl
  | v :: vs, h => by
    rw [L2.wipe, List.getElem?_set_ne (fun e => h (by rw [e]; exact List.mem_cons_self))]
    exact wipe_get fun hm => h (List.mem_cons_of_mem _ hm)
/-- σ with the wiped slots put back -/
def backS (σ τ : Sg) : List Nat → Sg
  | [] => τ
  | v :: vs => (backS σ τ vs).set v (σ.getD v none)
theorem backS_len {σ τ : Sg} : ∀ vs : List Nat, (backS σ τ vs).length = τ.length
  | [] => rfl
  | v :: vs => by rw [backS, List.length_set, backS_len vs]
theorem backS_wipe {σ : Sg} : ∀ {vs : List Nat}, backS σ (L2.wipe σ vs) vs = σ := by
  intro vs
  have key : ∀ us : List Nat, ∀ i : Nat, (backS σ (L2.wipe σ vs) us)[i]? = if i ∈ us then σ[i]? else (L2.wipe σ vs)[i]? := by
    intro us
    induction us with
    | nil => intro i; simp [backS]
    | cons v us ih =>
      intro i
      rw [backS]
      by_cases e : v = i
      · subst e
        simp only [List.mem_cons, true_or, if_true]
        by_cases hl : v < σ.length
        · rw [List.getElem?_set_self (by rw [backS_len, wipe_length]; exact hl)]
          simp [List.getD, List.getElem?_eq_getElem hl]
        · rw [List.getElem?_eq_none (by rw [List.length_set, backS_len, wipe_length]; omega), List.getElem?_eq_none (by omega)]
      · rw [List.getElem?_set_ne e, ih i]
        simp only [List.mem_cons, show ¬ i = v from fun q => e q.symm, false_or]
  refine List.ext_getElem? fun i => ?_
  rw [key vs i]
  by_cases h : i ∈ vs
  · rw [if_pos h]
  · rw [if_neg h, wipe_get h]
theorem Abs.back {τ : Sg} (A : Abs K G S env τ H) (h0 : ∀ (i : Nat) (d : D), env0[i]? = some (Sl.val d) → ∃ v, σ[i]? = some (some v) ∧ Dr K S v d) : ∀ {vs : List Nat}, (∀ v ∈ vs, ∀ p ∈ G.io, p.1 ≠ v) → noOwn env0 vs = true → Abs K G S (backE env0 env vs) (backS σ τ vs) H
  | [], _, _ => A
  | v :: vs, hio, hn => by
    have hn2 : (match env0[v]? with | some (.own _) => false | none => false | _ => true) = true ∧ noOwn env0 vs = true := by
      have := hn
      unfold noOwn at this
      simpa using this
    have ih := Abs.back A h0 (vs := vs) (fun u hu => hio u (List.mem_cons_of_mem _ hu)) hn2.2
    rw [backE, backS]
    cases e : env0[v]? with
    | none => rw [e] at hn2; cases hn2.1
    | some s =>
      have eg : env0.getD v .no = s := by rw [List.getD_eq_getElem?_getD, e]; rfl
      rw [eg]
      cases s with
      | no => exact ih.setN (hio v List.mem_cons_self)
      | val d =>
        obtain ⟨x, ex, rx⟩ := h0 v d e
        have es : σ.getD v none = some x := by rw [List.getD_eq_getElem?_getD, ex]; rfl
        rw [es]
        exact ih.setV (hio v List.mem_cons_self) rx
      | own ds => rw [e] at hn2; cases hn2.1
end
def wLcL (g : WG) (tt : WT) (te : WE) (vs : List Nat) : List D → List D → WL
  | [], acc => fun env P => P acc env
  | d :: ds, acc => fun env P => ∃ N : List D → List Sl → Prop, (∀ acc e, N acc e → wLcL g tt te vs ds acc e P) ∧ g d env fun e1 => tt e1 fun b e2 => if b = true then te e2 fun y e3 => N (acc ++ [y]) (wipeE e3 vs) else N acc (wipeE e2 vs)
def wLc (wi : WL) (g : WG) (tt : WT) (te : WE) (vs : List Nat) : WL := fun env P => wi env fun ds e1 =>
  noOwn e1 vs = true ∧ ds.length ≤ sizeLine ∧ wLcL g tt te vs ds [] (wipeE e1 vs) fun acc e2 => P acc (backE e1 e2 vs)
def tt_ : WT := fun env P => P true env
def JTs (X : Cx) (io : List Nat) (es : List Expr) (t : WT) : Prop := ∀ G : Gh, G.io.map (·.1) = io → PTs X es (upT X.K G t)
section
variable {X : Cx} {io : List Nat} {e a b : Expr} {pos : Pos}
theorem jts0 : JTs X io [] tt_ := fun G hG => ⟨fun pins s σ H Q I ⟨S, env, P, A, w, k⟩ => pts_nil.run pins s σ H Q I (k true env w H S (Same.refl _) A)⟩
theorem jts1 {t : WT} (h : JT X io e t) : JTs X io [e] t := fun G hG => pts_one (h G hG)
def exE (io : List Nat) (K : Frag) (w : WE) : TE := fun σ H Q => ∃ G : Gh, G.io.map (·.1) = io ∧ up K G w σ H Q
def exT (io : List Nat) (K : Frag) (w : WT) : TT := fun σ H Q => ∃ G : Gh, G.io.map (·.1) = io ∧ upT K G w σ H Q
def exG (io : List Nat) (K : Frag) (us : List Nat) (w : WG) : TG := fun v σ H Q => ∃ G : Gh, G.io.map (·.1) = io ∧ upG K G us w v σ H Q
theorem JE.ex {w : WE} (h : JE X io e w) : PE X e (exE io X.K w) := ⟨fun pins s σ H Q I ⟨G, hG, q⟩ => (h G hG).run pins s σ H Q I q⟩
theorem JTs.ex {es : List Expr} {w : WT} (h : JTs X io es w) : PTs X es (exT io X.K w) := ⟨fun pins s σ H Q I ⟨G, hG, q⟩ => (h G hG).run pins s σ H Q I q⟩
theorem JG.ex {us : List Nat} {w : WG} (h : JG X io e us w) : PG X e (exG io X.K us w) := ⟨fun pins s σ H v u Q I r ⟨G, hG, q⟩ => (h G hG).run pins s σ H v u Q I r q⟩
theorem wipe_wipe {σ : Sg} {vs : List Nat} (h : ∀ v ∈ vs, v < σ.length) : L2.wipe (L2.wipe σ vs) vs = L2.wipe σ vs := by
  have key : ∀ us : List Nat, (∀ u ∈ us, u ∈ vs) → L2.wipe (L2.wipe σ vs) us = L2.wipe σ vs := by
    intro us
    induction us with
    | nil => intro _; rfl
    | cons u us ih =>
      intro hs
      rw [L2.wipe, ih fun v hv => hs v (List.mem_cons_of_mem _ hv)]
      refine List.ext_getElem? fun i => ?_
      by_cases e : u = i
      · subst e
        have hu := hs u List.mem_cons_self
        rw [List.getElem?_set_self (by rw [wipe_length]; exact h u hu)]
        have : ∀ ws : List Nat, u ∈ ws → (L2.wipe σ ws)[u]? = some none := by
          intro ws
          induction ws with
          | nil => intro q; cases q
          | cons w ws ihw =>
            intro q
            rw [L2.wipe]
            by_cases z : w = u
            · subst z
              rw [List.getElem?_set_self (by rw [wipe_length]; exact h w hu)]
            · rw [List.getElem?_set_ne z]
              exact ihw ((List.mem_cons.mp q).resolve_left fun q2 => z q2.symm)
        exact (this vs hu).symm
      · rw [List.getElem?_set_ne e]
  exact key vs fun u hu => hu
theorem Kp.wipe {us vs : List Nat} {σ σ' : Sg} (h : Kp us σ σ') (hs : ∀ u ∈ us, u ∈ vs) : L2.wipe σ' vs = L2.wipe σ vs := by
  have key : ∀ ws : List Nat, ∀ i : Nat, i ∉ ws → (i ∉ us) → (L2.wipe σ' ws)[i]? = (L2.wipe σ ws)[i]? := fun ws i h1 h2 => by
    rw [wipe_get h1, wipe_get h1]; exact h.at_ i h2
  have inn : ∀ (τ : Sg) (ws : List Nat) (i : Nat), i ∈ ws → (L2.wipe τ ws)[i]? = if i < τ.length then some none else none := by
    intro τ ws i
    induction ws with
    | nil => intro q; cases q
    | cons w ws ih =>
      intro q
      rw [L2.wipe]
      by_cases z : w = i
      · subst z
        by_cases hl : w < τ.length
        · rw [List.getElem?_set_self (by rw [wipe_length]; exact hl), if_pos hl]
        · rw [List.getElem?_eq_none (by rw [List.length_set, wipe_length]; omega), if_neg hl]
      · rw [List.getElem?_set_ne z]
        exact ih ((List.mem_cons.mp q).resolve_left fun q2 => z q2.symm)
  refine List.ext_getElem? fun i => ?_
  by_cases hv : i ∈ vs
  · rw [inn σ' vs i hv, inn σ vs i hv, h.len]
  · exact key vs i hv fun q => hv (hs i q)
theorem wipe_wipe2 {σ : Sg} {vs : List Nat} : L2.wipe (L2.wipe σ vs) vs = L2.wipe σ vs :=
  Kp.wipe (us := vs) ⟨wipe_length _ _, fun i h => wipe_get h⟩ fun _ h => h
/-- THE COMPREHENSION: its reading -/
theorem lc_to {K : Frag} {G : Gh} {wi : WL} {g : WG} {us vs : List Nat} {tt : WT} {te : WE} (hG : G.io.map (·.1) = io) (hus : us.all (fun u => vs.contains u) = true) (hio : vs.all (fun u => !io.contains u) = true) :
    ∀ σ H Q, upL K G (wLc wi g tt te vs) σ H Q → tLc (upI K G wi) (exG io K us g) (exT io K tt) (exE io K te) vs σ H Q := by
  have hus' : ∀ u ∈ us, u ∈ vs := fun u hu => by
    have := List.all_eq_true.mp hus u hu
    simpa using this
  have hio' : ∀ v ∈ vs, ∀ p ∈ G.io, p.1 ≠ v := fun v hv => ioNe hG (by
    have := List.all_eq_true.mp hio v hv
    simpa using this)
  rintro σ H Q ⟨S, env, P, A, w0, k⟩
  refine ⟨S, env, _, A, w0, fun ds e1 p1 J H1 S1 s1 A1 it D hD => ?_⟩
  obtain ⟨hno, hlen, pl⟩ := p1
  have Aw : Abs K G S1 (wipeE e1 vs) (L2.wipe σ vs) H1 := A1.wipe hio'
  refine ⟨fun i m H => i ≤ ds.length ∧ m = ds.length - i ∧ ∃ S' env acc dacc, Same S1 S' ∧ Prk K G S' env (L2.wipe σ vs) H D acc ∧ DrAll K S' acc dacc ∧ dacc.length ≤ i ∧ wLcL g tt te vs (ds.drop i) dacc env (fun acc e2 => P acc (backE e1 e2 vs)),
    ⟨ds.length, Nat.zero_le _, rfl, S1, _, [], [], Same.refl _, Aw.prk hD, .nil, Nat.le_refl _, pl⟩, ?_⟩
  rintro i m H2 ⟨hi2, rfl, S2, e2, acc, dacc, s2, K2, r2, hacc, p2⟩
  obtain ⟨hstop, hgo⟩ := it i S2 H2 s2 K2.abs.sH
  by_cases hl : i < ds.length
  · obtain ⟨d, hd, ed⟩ := drop_cons hl
    rw [ed] at p2
    obtain ⟨N, hN, p2⟩ := p2
    obtain ⟨g1, g2⟩ := hgo d hd
    refine .inr ⟨g1, fun H => ∃ S' env acc dacc, Same S1 S' ∧ Prk K G S' env (L2.wipe σ vs) H D acc ∧ DrAll K S' acc dacc ∧ dacc.length ≤ i + 1 ∧ wLcL g tt te vs (ds.drop (i + 1)) dacc env (fun acc e2 => P acc (backE e1 e2 vs)),
      fun H' h => ⟨ds.length - (i + 1), by omega, hl, rfl, h⟩, fun x H3 hy => ?_⟩
    obtain ⟨S3, ex, r3⟩ := g2 x H3 hy
    refine ⟨G.park D (.lst acc), hG, S3, e2, d, _, K2.abs.ext ex, r3, p2, fun e4 p4 σ4 H4 S4 z4 s4 A4 => ⟨?_, G.park D (.lst acc), hG, S4, e4, _, A4, p4, fun b e5 p5 H5 S5 s5 A5 => ?_⟩⟩
    · rw [z4.wipe hus', wipe_wipe2]
    · have ew : L2.wipe σ4 vs = L2.wipe σ vs := by rw [z4.wipe hus', wipe_wipe2]
      cases b with
      | false =>
        refine ⟨S5, _, acc, dacc, s2.trans (ex.s.trans (s4.trans s5)), ⟨?_, K2.s0, K2.h0⟩, r2.mono (ex.s.trans (s4.trans s5)), Nat.le_succ_of_le hacc, hN _ _ p5⟩
        have := A5.wipe (vs := vs) hio'
        rwa [ew] at this
      | true =>
        refine ⟨G.park D (.lst acc), hG, S5, e5, _, A5, p5, fun y e6 p6 v6 H6 S6 s6 A6 r6 => ?_⟩
        have K6 : Prk K G S6 (wipeE e6 vs) (L2.wipe σ vs) H6 D acc := by
          have := A6.wipe (vs := vs) hio'
          rw [ew] at this
          exact ⟨this, K2.s0, K2.h0⟩
        have sS : Same S2 S6 := ex.s.trans (s4.trans (s5.trans s6))
        refine ⟨acc, K6.here, by rw [r2.length]; omega, S6, _, acc ++ [v6], dacc ++ [y], s2.trans sS, K6.put, (r2.mono sS).append (.cons r6 .nil), by rw [List.length_append]; exact Nat.succ_le_succ hacc, hN _ _ p6⟩
  · have e : i = ds.length := by omega
    subst e
    rw [List.drop_length] at p2
    refine .inl ⟨hstop (Nat.le_refl _), k _ _ p2 D acc H2 S2 (s1.trans s2) ⟨?_, K2.s0, K2.h0⟩ r2⟩
    have := Abs.back (σ := σ) (env0 := e1) K2.abs (fun i d hi => by
      obtain ⟨v, h1, h2⟩ := A1.slot hi
      exact ⟨v, h1, h2.mono s2⟩) (vs := vs) hio' hno
    rwa [backS_wipe] at this
section
variable {elt tg it : Expr} {ifs : List Expr} {scope : Scope} {own : List (Str × Nat)} {wi : WL} {g : WG} {us : List Nat} {tt : WT} {te : WE}
/-- as a value -/
theorem jLc (hc : X.calm = true) (hN : X.N.Nodup) (hi : JI X io tg it wi) (ok : BlkOk X.N X.env.scope scope own)
    (hg : ∀ (s : Shared) (H : Hp) (C : Addr) (cl : List (Str × Addr)) (fp : List Addr), JG (X.blk s H scope (compEnvC scope cl C X.env) fp) io tg us g) (ht : ∀ (s : Shared) (H : Hp) (C : Addr) (cl : List (Str × Addr)) (fp : List Addr), JTs (X.blk s H scope (compEnvC scope cl C X.env) fp) io ifs tt)
    (he : ∀ (s : Shared) (H : Hp) (C : Addr) (cl : List (Str × Addr)) (fp : List Addr), JE (X.blk s H scope (compEnvC scope cl C X.env) fp) io elt te) (hus : us.all (fun u => (own.map (·.2)).contains u) = true := by rfl) (hio : (own.map (·.2)).all (fun u => !io.contains u) = true := by rfl)
    (hs : ∀ x, foldedSetIterable it X.env x = pure x := by intro _; rfl) :
    JL X io (.ListComp elt [⟨tg, it, ifs, 0⟩] scope pos) (wLc wi g tt te (own.map (·.2))) := fun G hG =>
  pe_to (pe_lc (g := exG io X.K us g) (tt := exT io X.K tt) (te := exE io X.K te) hc hN (hi G hG) ok (fun s H C cl fp => (hg s H C cl fp).ex) (fun s H C cl fp => (ht s H C cl fp).ex) (fun s H C cl fp => (he s H C cl fp).ex) hs) (lc_to hG hus hio)
/-- y = [..], y a local: the list y's own, or frozen -/
theorem jSetLc {i : Nat} {y : Str} {py spos : Pos} (hc : X.calm = true) (hN : X.N.Nodup) (hsw : swapsWith (.ListComp elt [⟨tg, it, ifs, 0⟩] scope pos) (some (.Name y py)) spos.line X.env = pure true) (hi : JI X io tg it wi) (ok : BlkOk X.N X.env.scope scope own)
    (hg : ∀ (s : Shared) (H : Hp) (C : Addr) (cl : List (Str × Addr)) (fp : List Addr), JG (X.blk s H scope (compEnvC scope cl C X.env) fp) io tg us g) (ht : ∀ (s : Shared) (H : Hp) (C : Addr) (cl : List (Str × Addr)) (fp : List Addr), JTs (X.blk s H scope (compEnvC scope cl C X.env) fp) io ifs tt)
    (he : ∀ (s : Shared) (H : Hp) (C : Addr) (cl : List (Str × Addr)) (fp : List Addr), JE (X.blk s H scope (compEnvC scope cl C X.env) fp) io elt te)
    (hy : X.N[i]? = some y := by rfl) (hyl : X.env.scope.names.lookup y = some .local := by rfl) (hiy : io.contains i = false := by rfl)
    (hus : us.all (fun u => (own.map (·.2)).contains u) = true := by rfl) (hio : (own.map (·.2)).all (fun u => !io.contains u) = true := by rfl)
    (hs : ∀ x, foldedSetIterable it X.env x = pure x := by intro _; rfl) :
    JS X io (.Assign [.Name y py] (.ListComp elt [⟨tg, it, ifs, 0⟩] scope pos) spos) (sSet (wFz (wLc wi g tt te (own.map (·.2)))) (gN i)) := fun G hG => by
  refine ps_to (ps_setLc (g := exG io X.K us g) (tt := exT io X.K tt) (te := exE io X.K te) hc hN hy hyl hsw (hi G hG) ok (fun s H C cl fp => (hg s H C cl fp).ex) (fun s H C cl fp => (ht s H C cl fp).ex) (fun s H C cl fp => (he s H C cl fp).ex) hs) ?_
  rintro E σ H ⟨S, env, P, A, w, k⟩
  refine lc_to hG hus hio σ H _ ⟨S, env, _, A, w, fun ds e p a xs H' S' s K' r => ?_⟩
  obtain ⟨S2, s2, A2, r2⟩ := K'.freeze r
  exact k.nx _ p _ _ _ (s.trans s2) (A2.setV (ioNe hG hiy) r2)
theorem jOwnLc {i : Nat} {y : Str} {py spos : Pos} (hc : X.calm = true) (hN : X.N.Nodup) (hsw : swapsWith (.ListComp elt [⟨tg, it, ifs, 0⟩] scope pos) (some (.Name y py)) spos.line X.env = pure true) (hi : JI X io tg it wi) (ok : BlkOk X.N X.env.scope scope own)
    (hg : ∀ (s : Shared) (H : Hp) (C : Addr) (cl : List (Str × Addr)) (fp : List Addr), JG (X.blk s H scope (compEnvC scope cl C X.env) fp) io tg us g) (ht : ∀ (s : Shared) (H : Hp) (C : Addr) (cl : List (Str × Addr)) (fp : List Addr), JTs (X.blk s H scope (compEnvC scope cl C X.env) fp) io ifs tt)
    (he : ∀ (s : Shared) (H : Hp) (C : Addr) (cl : List (Str × Addr)) (fp : List Addr), JE (X.blk s H scope (compEnvC scope cl C X.env) fp) io elt te)
    (hy : X.N[i]? = some y := by rfl) (hyl : X.env.scope.names.lookup y = some .local := by rfl) (hiy : io.contains i = false := by rfl)
    (hus : us.all (fun u => (own.map (·.2)).contains u) = true := by rfl) (hio : (own.map (·.2)).all (fun u => !io.contains u) = true := by rfl)
    (hs : ∀ x, foldedSetIterable it X.env x = pure x := by intro _; rfl) :
    JS X io (.Assign [.Name y py] (.ListComp elt [⟨tg, it, ifs, 0⟩] scope pos) spos) (sOwn (wLc wi g tt te (own.map (·.2))) i) := fun G hG => by
  refine ps_to (ps_setLc (g := exG io X.K us g) (tt := exT io X.K tt) (te := exE io X.K te) hc hN hy hyl hsw (hi G hG) ok (fun s H C cl fp => (hg s H C cl fp).ex) (fun s H C cl fp => (ht s H C cl fp).ex) (fun s H C cl fp => (he s H C cl fp).ex) hs) ?_
  rintro E σ H ⟨S, env, P, A, w, k⟩
  exact lc_to hG hus hio σ H _ ⟨S, env, _, A, w, fun ds e p a xs H' S' s K' r => k.nx _ p _ _ _ s (K'.setO r (ioNe hG hiy))⟩
end
end
/-! ### own lists changed -/
section
variable {X : Cx} {io : List Nat} {e a b ix : Expr} {pos p0 : Pos} {x : Str}
def ownAt (env : List Sl) (i : Nat) (k : List D → Prop) : Prop := match env[i]? with
  | some (.own ds) => k ds
  | _ => False
theorem ownAt_ok {env : List Sl} {i : Nat} {k : List D → Prop} (h : ownAt env i k) : ∃ ds, env[i]? = some (.own ds) ∧ k ds := by
  unfold ownAt at h
  cases e : env[i]? with
  | none => simp [e] at h
  | some s =>
    cases s with
    | own ds => simp only [e] at h; exact ⟨ds, rfl, h⟩
    | _ => simp [e] at h
def onInt (d : D) (k : Int → Prop) : Prop := match d with
  | .int i => k i
  | _ => False
theorem onInt_ok {d : D} {k : Int → Prop} (h : onInt d k) : ∃ i, d = .int i ∧ k i := by
  unfold onInt at h
  split at h
  · exact ⟨_, rfl, h⟩
  · cases h
def onIx (n : Nat) (i : Int) (k : Nat → Prop) : Prop := match ixN n i with
  | some j => k j
  | none => False
theorem onIx_ok {n : Nat} {i : Int} {k : Nat → Prop} (h : onIx n i k) : ∃ j, ixN n i = some j ∧ k j := by
  unfold onIx at h
  cases e : ixN n i with
  | none => rw [e] at h; cases h
  | some j => rw [e] at h; exact ⟨j, rfl, h⟩
/-- x[i] = .. of a name's own list -/
def gIx (i : Nat) (wi : WE) : WG := fun d env P => ownAt env i fun _ => wi env fun k e => onInt k fun j => ownAt e i fun ds => onIx ds.length j fun m => P (e.set i (.own (ds.set m d)))
theorem jgIx {i : Nat} {wi : WE} (hi : JE X io ix wi) (hN : X.N[i]? = some x := by rfl) (hv : Vis X.env.scope x := by first | exact Or.inl rfl | exact Or.inr (Or.inl rfl) | exact Or.inr (Or.inr rfl)) (hd : (x == ("__debug__" : Str)) = false := by decide) (hcd : (x == ("__classdict__" : Str)) = false := by decide)
    (ha : ∀ v, assign (.Subscript (.Name x p0) ix pos) X.env v = (do
      let ov ← holding [v] (eval (.Name x p0) X.env)
      let iv ← holding [v, ov] (eval ix X.env)
      standAt pos
      holding [v, ov, iv] (setItem ov iv v)
      release [v, ov, iv] []) := by intro _; rfl) : JG X io (.Subscript (.Name x p0) ix pos) [] (gIx i wi) := fun G hG => by
  refine pg_to (pg_sub (pe_var hN hv hd hcd) (hi G hG) set_list ha) ?_
  rintro v σ H Q ⟨S, env, d, P, A, r, w, k⟩
  obtain ⟨ds0, ho0, w⟩ := ownAt_ok w
  obtain ⟨c, xs0, hy, _⟩ := A.own ho0
  refine ⟨_, hy, S, env, _, A, w, fun k1 e1 p1 v1 H1 S1 s1 A1 r1 => ?_⟩
  obtain ⟨j, rfl, p2⟩ := onInt_ok p1
  obtain ⟨ds, ho, p3⟩ := ownAt_ok p2
  obtain ⟨m, hm, p4⟩ := onIx_ok p3
  obtain ⟨c', xs, q1, q2, q3, _⟩ := A1.own ho
  rw [hy] at q1; cases q1
  cases r1
  refine ⟨c, xs, j, m, rfl, rfl, q2, by rw [q3.length]; exact hm, ?_⟩
  exact k _ p4 _ _ _ Kp.refl s1 (A1.change ho hy (q3.set (r.mono s1) m))
/-- x.append(e) -/
def sApp (i : Nat) (we : WE) : WS := fun env P => ownAt env i fun _ => we env fun d e => ownAt e i fun ds => ds.length < sizeLine ∧ P.nx (e.set i (.own (ds ++ [d])))
theorem ty_own {K : Frag} {H : Hp} {a : Addr} {xs : List V} (h : H a = some (.lst xs)) : tyV K "list" (.ref a) H := .inl ⟨rfl, xs, SqL.of h⟩
theorem jApp {i : Nat} {we : WE} {pc pa : Pos} (h : JE X io e we)
    (hbm : ∀ t, PA X [e] t → PE X (.Call (.Attribute (.Name x p0) "append" pa) [e] [] pc) (tBM X.K "list" rAppend (tVar i) t) := by exact fun t ha => pe_bm PySem.F.plainAttrs_list PySem.F.slot_list_append PySem.F.type_list_append mt_append (pv _) ha)
    (hs : swapsWith (.Call (.Attribute (.Name x p0) "append" pa) [e] [] pc) none pos.line X.env = pure false := by rfl)
    (hst : starEach [e] X.env = (false, eval e X.env) :: starEach [] X.env := by rfl) :
    JS X io (.Expr (.Call (.Attribute (.Name x p0) "append" pa) [e] [] pc) pos) (sApp i we) := fun G hG => by
  refine ps_to (ps_expr (hbm _ (pa_cons (h G hG) pa_nil hst)) hs) ?_
  rintro E σ H ⟨S, env, P, A, w, k⟩
  obtain ⟨ds0, ho0, w⟩ := ownAt_ok w
  obtain ⟨c, xs0, hy, hh0, _⟩ := A.own ho0
  refine ⟨_, hy, ty_own hh0, S, env, _, A, w, fun d e1 p1 v1 H1 S1 s1 A1 r1 => ?_⟩
  obtain ⟨ds, ho, hl, p4⟩ := ownAt_ok p1
  obtain ⟨c', xs, q1, q2, q3, _⟩ := A1.own ho
  rw [hy] at q1; cases q1
  refine ⟨c, xs, v1, rfl, rfl, q2, by rw [q3.length]; exact hl, ?_⟩
  exact k.nx _ p4 _ _ _ s1 (A1.change ho hy (q3.append (.cons r1 .nil)))
/-- x.pop(e) as a value -/
def onSeq (n : Nat) (i : Int) (k : Nat → Prop) : Prop := match seqIndex? i n with
  | some j => k j
  | none => False
theorem onSeq_ok {n : Nat} {i : Int} {k : Nat → Prop} (h : onSeq n i k) : ∃ j, seqIndex? i n = some j ∧ k j := by
  unfold onSeq at h
  cases e : seqIndex? i n with
  | none => rw [e] at h; cases h
  | some j => rw [e] at h; exact ⟨j, rfl, h⟩
def onSome {α : Type} (o : Option α) (k : α → Prop) : Prop := match o with
  | some x => k x
  | none => False
theorem onSome_ok {α : Type} {o : Option α} {k : α → Prop} (h : onSome o k) : ∃ x, o = some x ∧ k x := by
  cases o with
  | none => cases h
  | some x => exact ⟨x, rfl, h⟩
def wPopAt (i : Nat) (we : WE) : WE := fun env P => ownAt env i fun _ => we env fun k e => onInt k fun j => ownAt e i fun ds => (-(2 ^ 63) ≤ j ∧ j < 2 ^ 63) ∧ onSeq ds.length j fun m => onSome ds[m]? fun d => P d (e.set i (.own (ds.eraseIdx m)))
theorem jPopAt {i : Nat} {we : WE} {pa : Pos} (h : JE X io e we)
    (hbm : ∀ t, PA X [e] t → PE X (.Call (.Attribute (.Name x p0) "pop" pa) [e] [] pos) (tBM X.K "list" rPopAt (tVar i) t) := by exact fun t ha => pe_bm PySem.F.plainAttrs_list PySem.F.slot_list_pop PySem.F.type_list_pop mt_popAt (pv _) ha)
    (hst : starEach [e] X.env = (false, eval e X.env) :: starEach [] X.env := by rfl) :
    JE X io (.Call (.Attribute (.Name x p0) "pop" pa) [e] [] pos) (wPopAt i we) := fun G hG => by
  refine pe_to (hbm _ (pa_cons (h G hG) pa_nil hst)) ?_
  rintro σ H Q ⟨S, env, P, A, w, k⟩
  obtain ⟨ds0, ho0, w⟩ := ownAt_ok w
  obtain ⟨c, xs0, hy, hh0, _⟩ := A.own ho0
  refine ⟨_, hy, ty_own hh0, S, env, _, A, w, fun d e1 p1 v1 H1 S1 s1 A1 r1 => ?_⟩
  obtain ⟨j, rfl, p2⟩ := onInt_ok p1
  obtain ⟨ds, ho, ⟨b1, b2⟩, p3⟩ := ownAt_ok p2
  obtain ⟨m, hm, p4⟩ := onSeq_ok p3
  obtain ⟨d, hd, p5⟩ := onSome_ok p4
  obtain ⟨c', xs, q1, q2, q3, _⟩ := A1.own ho
  rw [hy] at q1; cases q1
  cases r1
  obtain ⟨y, hxy, ry⟩ := q3.get hd
  refine ⟨c, xs, j, m, y, rfl, rfl, q2, b1, b2, by rw [q3.length]; exact hm, hxy, ?_⟩
  exact k _ _ p5 _ _ _ s1 (A1.change ho hy (q3.erase m)) ry
/-- x op= e, a name's value -/
def valAt (env : List Sl) (i : Nat) (k : D → Prop) : Prop := match env[i]? with
  | some (.val d) => k d
  | _ => False
theorem valAt_ok {env : List Sl} {i : Nat} {k : D → Prop} (h : valAt env i k) : ∃ d, env[i]? = some (.val d) ∧ k d := by
  unfold valAt at h
  cases e : env[i]? with
  | none => simp [e] at h
  | some s =>
    cases s with
    | val d => simp only [e] at h; exact ⟨d, rfl, h⟩
    | _ => simp [e] at h
def sAug (i : Nat) (f : D → D → (D → Prop) → Prop) (we : WE) : WS := fun env P => valAt env i fun d0 => we env fun d e => f d0 d fun r => P.nx (e.set i (.val r))
theorem jAug {i : Nat} {f : D → D → (D → Prop) → Prop} {op : Operator} {we : WE} (hNd : X.N.Nodup) (ho : PIp X op (rD2 X.K f)) (h : JE X io e we) (hN : X.N[i]? = some x := by rfl) (hx : Loc X.env.scope x := by first | exact Or.inl rfl | exact Or.inr rfl) (hio : io.contains i = false := by rfl)
    (hf : X.fn x = true ∨ X.env.scope.names.lookup x = some .local := by first | exact .inl rfl | exact .inr rfl | assumption) : JS X io (.AugAssign (.Name x p0) op e pos) (sAug i f we) := fun G hG => by
  refine ps_to (ps_aug hNd hN hx (h G hG) ho hf) ?_
  rintro E σ H ⟨S, env, P, A, w, k⟩
  obtain ⟨d0, h0, w⟩ := valAt_ok w
  obtain ⟨v0, hv0, r0⟩ := A.slot h0
  refine ⟨v0, hv0, S, env, _, A, w, fun d e1 p1 v1 H1 S1 s1 A1 r1 => ?_⟩
  refine ⟨S1, d0, d, _, A1.sH, (r0.mono s1).dk A1.sH, r1.dk A1.sH, p1, fun r pr v H' S' ex rr => ?_⟩
  exact k.nx _ pr _ _ _ (s1.trans ex.s) ((A1.ext ex).setV (ioNe hG hio) rr)
end
end Y

namespace Y
open PySem PySem.Spec PyProof.Rows L2
/-! ### what a def promises, by pure data: the answer, and what the first argument's list then holds -/
abbrev FSpec := List D → (D → List D → Prop) → Prop
def PFn (K : Frag) (F : FSpec) : Sp := fun vs H Q _ => ∃ S ds P, Same S H ∧ DrAll K S vs ds ∧ F ds P ∧ ∀ d o, P d o → ∀ v H' S', Ext S H S' H' → Dr K S' v d → Q v H'
def PIo (K : Frag) (F : FSpec) : Sp := fun vs H Q _ => ∃ S a xs bs vs' ds P, vs = .ref a :: vs' ∧ Same S H ∧ S a = none ∧ H a = some (.lst xs) ∧ DrAll K S xs bs ∧ DrAll K S vs' ds ∧ F (.list bs :: ds) P ∧
  ∀ d o, P d o → ∀ v H' S' xs', Same S S' → Same S' H' → (∀ b u, b ≠ a → H b = some u → H' b = some u) → (∀ b u, S b = none → H b = some u → S' b = none) → H' a = some (.lst xs') → DrAll K S' xs' o → Dr K S' v d → Q v H'
def env0 (n : Nat) (ds : List D) : List Sl := ds.map .val ++ List.replicate (n - ds.length) .no
/-- a def's body, run: all its arguments frozen -/
def runF (m n : Nat) (w : WS) : FSpec := fun ds P => ds.length = m ∧ w (env0 n ds) { nx := fun _ => P .none [], rt := fun d _ => P d [] }
/-- .. the first argument a list that it changes -/
def runI (m n : Nat) (w : WS) : FSpec := fun ds P => match ds with
  | .list bs :: r => r.length + 1 = m ∧ w (.own bs :: env0 (n - 1) r) { nx := fun e => ownAt e 0 fun o => P .none o, rt := fun d e => ownAt e 0 fun o => P d o }
  | _ => False
section
variable {P : Program} {w : World} {K : Frag} {mg : Str → Option Value} {base : Heap}
abbrev FnP (K : Frag) (x : Str) (st : Stmt) (f : Addr) (fd : FuncData) : Prop := FunD K x x (defArgs st) (defBody st) (defScope st) [] [] f fd
theorem fn_run {x : Str} {st : Stmt} {f : Addr} {fd : FuncData} {N ps : List Str} {k : Nat} {sp : Sp} (F : FnP K x st f fd) (S : FnScope N ps (defScope st)) (len : ∀ vs H Q E, sp vs H Q E → vs.length = ps.length)
    (hbody : ∀ (cdv : Value) (A : Around) (outer : List Env) (s : Shared) (H : Hp) (vs : List V) (Q : VK) (E : XK), Room k (A.deeper (envOfC x (defScope st) s.heap.objs.size f cdv)) → sp vs H Q E →
      ∃ t, PSs (cxOf CX0 P w K mg base N x (defScope st) f cdv A outer s H E).nox (defBody st) t ∧ t { nx := fun _ H' => Q .non H', rt := Q } (L2.start N vs) H) : FnOk P w K mg base CX0 (k + 1) f fd ps sp :=
  FunD.ok F S len fun cdv A outer s H vs Q E hr h => by
    obtain ⟨t, h1, h2⟩ := hbody cdv A outer s H vs Q E hr h
    exact ⟨t, h1.nox, h2⟩
theorem fp_vals {K : Frag} {S : Hp} {H : Hp} : ∀ {vs : List V} {ds : List D}, DrAll K S vs ds → ∀ (n : Nat) (i : Nat) (s : Sl), (ds.map Sl.val ++ List.replicate n Sl.no)[i]? = some s → ∃ o, (vs.map some ++ List.replicate n none)[i]? = some o ∧ SlOk K S H s o []
  | _, _, .nil, n, i, s, h => by
    simp only [List.map_nil, List.nil_append] at h ⊢
    obtain ⟨h1, h2⟩ := List.getElem?_eq_some_iff.mp h
    rw [List.length_replicate] at h1
    rw [List.getElem_replicate] at h2
    subst h2
    exact ⟨none, by rw [List.getElem?_replicate, if_pos h1], rfl⟩
  | _, _, .cons (v := v) (d := d) r t, n, 0, s, h => by
    simp only [List.map_cons, List.cons_append, List.getElem?_cons_zero, Option.some.injEq] at h ⊢
    subst h
    exact ⟨_, rfl, rfl, v, rfl, r⟩
  | _, _, .cons r t, n, i + 1, s, h => by
    simp only [List.map_cons, List.cons_append, List.getElem?_cons_succ] at h ⊢
    exact fp_vals t n i s h
theorem abs_start {S H : Hp} {vs : List V} {ds : List D} {N : List Str} (e : Same S H) (r : DrAll K S vs ds) : Abs K ⟨S, H, []⟩ S (env0 N.length ds) (L2.start N vs) H := by
  refine ⟨?_, Same.refl _, e, Same.refl _, fun _ _ h _ => h, fun _ => [], ⟨fun i s h => ?_, fun _ _ => rfl, fun _ _ _ h => (nomatch h), fun _ _ h => (nomatch h), fun _ h => (nomatch h)⟩⟩
  · simp [L2.start, env0, r.length]
  · unfold env0 at h
    unfold L2.start
    rw [r.length]
    exact fp_vals r _ i s h
/-- a def that changes nothing of its callers' -/
theorem fn_pure {x : Str} {st : Stmt} {f : Addr} {fd : FuncData} {N ps : List Str} {k : Nat} {w0 : WS} (F : FnP K x st f fd) (S : FnScope N ps (defScope st))
    (h : ∀ (cdv : Value) (A : Around) (outer : List Env) (s : Shared) (H : Hp) (E : XK), Room k (A.deeper (envOfC x (defScope st) s.heap.objs.size f cdv)) → JSs (cxOf CX0 P w K mg base N x (defScope st) f cdv A outer s H E).nox [] (defBody st) w0) :
    FnOk P w K mg base CX0 (k + 1) f fd ps (PFn K (runF ps.length N.length w0)) := by
  refine fn_run F S (fun vs H Q E ⟨S0, ds, Pp, e, r, ⟨hl, _⟩, _⟩ => by rw [r.length]; exact hl) (fun cdv A outer s H vs Q E hr ⟨S0, ds, Pp, e, r, ⟨hl, hF⟩, hQ⟩ => ?_)
  refine ⟨_, h cdv A outer s H E hr ⟨S0, H, []⟩ rfl, S0, env0 N.length ds, _, abs_start e r, hF, ?_, ?_, ?_, ?_⟩
  · exact fun env p σ H' S' s A => hQ .none [] p .non H' S' ⟨s, A.h0, A.sH, fun b o q z => A.nw b o q z⟩ .non
  · exact fun d env p v σ H' S' s A rr => hQ d [] p v H' S' ⟨s, A.h0, A.sH, fun b o q z => A.nw b o q z⟩ rr
  · exact fun env p => p.elim
  · exact fun env p => p.elim
/-- a def that changes its first argument's list -/
theorem fn_io {x : Str} {st : Stmt} {f : Addr} {fd : FuncData} {N ps : List Str} {k : Nat} {w0 : WS} (F : FnP K x st f fd) (S : FnScope N ps (defScope st)) (hN : 1 ≤ N.length)
    (h : ∀ (cdv : Value) (A : Around) (outer : List Env) (s : Shared) (H : Hp) (E : XK), Room k (A.deeper (envOfC x (defScope st) s.heap.objs.size f cdv)) → JSs (cxOf CX0 P w K mg base N x (defScope st) f cdv A outer s H E).nox [0] (defBody st) w0) :
    FnOk P w K mg base CX0 (k + 1) f fd ps (PIo K (runI ps.length N.length w0)) := by
  refine fn_run F S (fun vs H Q E ⟨S0, a, xs, bs, vs', ds, Pp, ev, e, _, _, _, r, ⟨hl, _⟩, _⟩ => by rw [ev, List.length_cons, r.length]; exact hl) (fun cdv A outer s H vs Q E hr ⟨S0, a, xs, bs, vs', ds, Pp, ev, e, sa, ha, rb, r, ⟨hl, hF⟩, hQ⟩ => ?_)
  subst ev
  have hG : Same (fun b => if b = a then none else H b) H := fun b u q => by
    have q' : (if b = a then none else H b) = some u := q
    by_cases z : b = a
    · rw [if_pos z] at q'; cases q'
    · rw [if_neg z] at q'; exact q'
  refine ⟨_, h cdv A outer s H E hr ⟨S0, fun b => if b = a then none else H b, [(0, a)]⟩ rfl, S0, .own bs :: env0 (N.length - 1) ds, _, ?_, hF, ?_, ?_, ?_, ?_⟩
  · refine ⟨?_, Same.refl _, e, hG, fun _ _ h _ => h, fun i => if i = 0 then [a] else [], ⟨fun i s h => ?_, fun i h => ?_, fun i j b hi hj => ?_, fun i b hi => ?_, fun p hp => ?_⟩⟩
    · have hlen := r.length
      simp only [L2.start, env0, List.length_append, List.length_map, List.length_replicate, List.length_cons]
      omega
    · cases i with
      | zero =>
        simp only [List.getElem?_cons_zero, Option.some.injEq] at h
        subst h
        exact ⟨some (.ref a), rfl, a, xs, if_pos rfl, rfl, ha, rb⟩
      | succ i =>
        rw [List.getElem?_cons_succ] at h
        unfold env0 at h
        obtain ⟨o, h1, h2⟩ := fp_vals (H := H) r _ i s h
        refine ⟨o, ?_, h2⟩
        unfold L2.start
        rw [List.map_cons, List.cons_append, List.getElem?_cons_succ, List.length_cons, r.length]
        rw [show N.length - (ds.length + 1) = N.length - 1 - ds.length by omega]
        exact h1
    · cases i with
      | zero => simp at h
      | succ i => exact if_neg (Nat.succ_ne_zero i)
    · have h1 : i = 0 := by
        by_cases z : i = 0
        · exact z
        · simp [z] at hi
      have h2 : j = 0 := by
        by_cases z : j = 0
        · exact z
        · simp [z] at hj
      rw [h1, h2]
    · by_cases z : i = 0
      · rw [if_pos z] at hi
        rw [List.mem_singleton.mp hi]
        exact ⟨sa, if_pos rfl, _, ha⟩
      · rw [if_neg z] at hi; cases hi
    · rw [List.mem_singleton.mp hp]
      exact ⟨[], if_pos rfl⟩
  all_goals
    have fin : ∀ (d : D) (env : List Sl), ownAt env 0 (fun o => Pp d o) → ∀ v (σ : Sg) H' S', Same S0 S' → Abs K ⟨S0, fun b => if b = a then none else H b, [(0, a)]⟩ S' env σ H' → Dr K S' v d → Q v H' := by
      intro d env p v σ H' S' ss A rr
      obtain ⟨o, ho, p⟩ := ownAt_ok p
      obtain ⟨F, f⟩ := A.fp
      obtain ⟨ov, hov, b, ys, eF, _, hb, rys⟩ := f.at_ 0 _ ho
      obtain ⟨rr0, e0⟩ := f.io (0, a) (List.mem_singleton.mpr rfl)
      have eab : b = a := by
        have e0' : F 0 = a :: rr0 := e0
        rw [eF] at e0'; cases e0'; rfl
      subst eab
      have hfr := f.free 0 b (by rw [eF]; exact List.mem_singleton.mpr rfl)
      refine hQ d o p v H' S' ys ss A.sH (fun c u hc q => A.h0 c u (by show (if c = b then none else H c) = some u; rw [if_neg hc]; exact q)) (fun c u q z => ?_) hb rys rr
      by_cases hcb : c = b
      · rw [hcb]; exact hfr.1
      · exact A.nw c u q (by show (if c = b then none else H c) = some u; rw [if_neg hcb]; exact z)
  · exact fun env p σ H' S' ss A => fin .none env p .non σ H' S' ss A .non
  · exact fun d env p v σ H' S' ss A rr => fin d env p v σ H' S' ss A rr
  · exact fun env p => p.elim
  · exact fun env p => p.elim
end
/-! ### calls of defs -/
section
variable {X : Cx} {io : List Nat} {e a b : Expr} {es : List Expr} {pos p : Pos} {x : Str} {k n : Nat} {f : Addr} {fd : FuncData} {ps : List Str} {F : FSpec} {ws : WA}
def scal_ : D → Bool
  | .none => true
  | .bool _ => true
  | .int _ => true
  | .str _ => true
  | _ => false
theorem scal_dr {K : Frag} {S S' : Hp} {v : V} {d : D} (h : scal_ d = true) (r : Dr K S v d) : Dr K S' v d := by
  cases r with
  | non => exact .non
  | bl b => exact .bl b
  | int i => exact .int i
  | str x => exact .str x
  | _ => cases h
/-- f(..), all arguments frozen -/
def wCall (F : FSpec) (ws : WA) : WE := fun env P => ws env fun as e1 => onVals as fun ds => F ds fun d _ => P d e1
/-- f(..), lists of one's own looked at: the answer is a scalar -/
def wCallS (F : FSpec) (ws : WA) : WE := fun env P => ws env fun as e1 => getN as e1 fun ds => F ds fun d _ => scal_ d = true ∧ P d e1
theorem jCall (hF : FnOk X.prog X.w X.K X.mg X.base CX0 k f fd ps (PFn X.K F)) (hr : Room k X.A) (hg : Gl X x) (hm : X.mg x = some (.ref f)) (hk : PySem.W.keepIn X.K (.ref f) = true) (hb : Binds X.K fd ps []) (ha : JA X io (e :: es) ws)
    (hdb : (x == ("__debug__" : Str)) = false := by decide) (he : starEach (e :: es) X.env = (false, eval e X.env) :: starEach es X.env := by rfl) (hpl : (backTo pos (starEach es X.env)).any (·.1) = false := by rfl) :
    JE X io (.Call (.Name x p) (e :: es) [] pos) (wCall F ws) := fun G hG => by
  refine pe_to (pe_call hF hr hg hm hk hb .nil pass0 (ha G hG) hdb he hpl) ?_
  rintro σ H Q ⟨S, env, P, A, w, kk⟩
  refine ⟨S, env, _, A, w, fun as e1 p1 vs H1 S1 s1 A1 r1 => ?_⟩
  obtain ⟨ds, g, p⟩ := onVals_ok p1
  refine ⟨S1, ds, _, A1.sH, by rw [List.append_nil]; exact r1.vals g, p, fun d o p v H' S' ex r => ?_⟩
  exact kk _ _ p _ _ _ (s1.trans ex.s) (A1.ext ex) r
theorem DkAll.dr {K : Frag} {S H : Hp} (e : Same S H) {vs : List V} {ds : List D} (h : DkAll K S H vs ds) : DrAll K H vs ds := by
  induction h with
  | nil => exact .nil
  | cons h _ ih => exact .cons (h.dr e) ih
theorem jCallS (hF : FnOk X.prog X.w X.K X.mg X.base CX0 k f fd ps (PFn X.K F)) (hr : Room k X.A) (hg : Gl X x) (hm : X.mg x = some (.ref f)) (hk : PySem.W.keepIn X.K (.ref f) = true) (hb : Binds X.K fd ps []) (ha : JA X io (e :: es) ws)
    (hdb : (x == ("__debug__" : Str)) = false := by decide) (he : starEach (e :: es) X.env = (false, eval e X.env) :: starEach es X.env := by rfl) (hpl : (backTo pos (starEach es X.env)).any (·.1) = false := by rfl) :
    JE X io (.Call (.Name x p) (e :: es) [] pos) (wCallS F ws) := fun G hG => by
  refine pe_to (pe_call hF hr hg hm hk hb .nil pass0 (ha G hG) hdb he hpl) ?_
  rintro σ H Q ⟨S, env, P, A, w, kk⟩
  refine ⟨S, env, _, A, w, fun as e1 p1 vs H1 S1 s1 A1 r1 => ?_⟩
  obtain ⟨ds, g, p⟩ := getN_ok p1
  refine ⟨H1, ds, _, Same.refl _, by rw [List.append_nil]; exact (r1.dk A1 g).dr A1.sH, p, fun d o ⟨sc, p⟩ v H' S' ex r => ?_⟩
  have ex1 : Ext S1 H1 S1 H' := ⟨Same.refl _, ex.h, A1.sH.trans ex.h, fun _ _ q _ => q⟩
  exact kk _ _ p _ _ _ s1 (A1.ext ex1) (scal_dr sc r)
/-- f(x, ..), x a name whose own list is changed -/
def wCallI (F : FSpec) (i : Nat) (ws : WA) : WE := fun env P => ownAt env i fun _ => ws env fun as e1 => onVals as fun ds => ownAt e1 i fun bs => F (.list bs :: ds) fun d o => P d (e1.set i (.own o))
theorem jCallI {i : Nat} {x0 : Str} {p0 : Pos} (hF : FnOk X.prog X.w X.K X.mg X.base CX0 k f fd ps (PIo X.K F)) (hr : Room k X.A) (hg : Gl X x) (hm : X.mg x = some (.ref f)) (hk : PySem.W.keepIn X.K (.ref f) = true) (hb : Binds X.K fd ps []) (ha : JA X io es ws)
    (hN : X.N[i]? = some x0 := by rfl) (hv : Vis X.env.scope x0 := by first | exact Or.inl rfl | exact Or.inr (Or.inl rfl) | exact Or.inr (Or.inr rfl)) (hd : (x0 == ("__debug__" : Str)) = false := by decide) (hcd : (x0 == ("__classdict__" : Str)) = false := by decide)
    (hdb : (x == ("__debug__" : Str)) = false := by decide) (he : starEach (.Name x0 p0 :: es) X.env = (false, eval (.Name x0 p0) X.env) :: starEach es X.env := by rfl) (hpl : (backTo pos (starEach es X.env)).any (·.1) = false := by rfl) :
    JE X io (.Call (.Name x p) (.Name x0 p0 :: es) [] pos) (wCallI F i ws) := fun G hG => by
  refine pe_to (pe_call hF hr hg hm hk hb .nil pass0 (pa_cons (pe_var (pos := p0) hN hv hd hcd) (ha G hG) he) hdb he hpl) ?_
  rintro σ H Q ⟨S, env, P, A, w, kk⟩
  obtain ⟨bs0, ho0, w⟩ := ownAt_ok w
  obtain ⟨a, xs0, hy, _⟩ := A.own ho0
  refine ⟨_, hy, S, env, _, A, w, fun as e1 p1 vs H1 S1 s1 A1 r1 => ?_⟩
  obtain ⟨ds, g, p⟩ := onVals_ok p1
  obtain ⟨bs, ho, p⟩ := ownAt_ok p
  obtain ⟨a', xs, q1, q2, q3, q4, _⟩ := A1.own ho
  rw [hy] at q1; cases q1
  refine ⟨S1, a, xs, bs, vs, ds, _, by rw [List.append_nil], A1.sH, q4, q2, q3, r1.vals g, p, fun d o p v H' S' xs' sS sH hk hn ha' rr r => ?_⟩
  have sa' : S' a = none := hn a _ q4 q2
  have ex : Ext S1 H1 S' (upd H' a (.lst xs)) := by
    refine ⟨sS, fun b u q => ?_, same_over sH sa', fun b u q z => hn b u q z⟩
    by_cases z : b = a
    · subst z; rw [upd_same]; rw [q2] at q; exact q
    · rw [upd_ne z]; exact hk b u z q
  have A2 := (A1.ext ex).change (a := a) (xs' := xs') (ds' := o) ho hy rr
  have eH : upd (upd H' a (.lst xs)) a (.lst xs') = H' := by
    rw [upd_upd]
    funext b
    by_cases z : b = a
    · subst z; rw [upd_same]; exact ha'.symm
    · rw [upd_ne z]
  rw [eH] at A2
  exact kk _ _ p _ _ _ (s1.trans sS) A2 r
end
/-! ### several names at once -/
inductive Ax where
  | val (d : D)
  | new (ds : List D)
def Ax.sl : Ax → Sl
  | .val d => .val d
  | .new ds => .own ds
abbrev WX := List Sl → (List Ax → List Sl → Prop) → Prop
def AbsX (K : Frag) (S : Hp) (env : List Sl) (σ : Sg) (H : Hp) : Gh → List V → List Ax → Prop
  | G, [], [] => Abs K G S env σ H
  | G, v :: vs, .val d :: as => Dr K S v d ∧ AbsX K S env σ H G vs as
  | G, v :: vs, .new ds :: as => ∃ a xs, v = .ref a ∧ G.S0 a = none ∧ G.H0 a = none ∧ DrAll K S xs ds ∧ AbsX K S env σ H (G.park a (.lst xs)) vs as
  | _, _, _ => False
def upX (K : Frag) (G : Gh) (w : WX) : TA := fun σ H Q => ∃ S env P, Abs K G S env σ H ∧ w env P ∧ ∀ as env', P as env' → ∀ vs H' S', Same S S' → AbsX K S' env' σ H' G vs as → Q vs H'
def JX (X : Cx) (io : List Nat) (es : List Expr) (w : WX) : Prop := ∀ G : Gh, G.io.map (·.1) = io → PA X es (upX X.K G w)
section
variable {X : Cx} {io : List Nat} {e a b : Expr} {es : List Expr} {pos p : Pos}
def xN : WX := fun env P => P [] env
def xV (w : WE) (u : WX) : WX := fun env P => w env fun d e => u e fun as e2 => P (.val d :: as) e2
def xL (w : WL) (u : WX) : WX := fun env P => w env fun ds e => u e fun as e2 => P (.new ds :: as) e2
theorem jxN : JX X io [] xN := fun G hG => pa_to pa_nil fun σ H Q ⟨S, env, P, A, w, k⟩ => k _ _ w _ _ _ (Same.refl _) A
theorem jxV {w : WE} {u : WX} (h : JE X io e w) (hr : JX X io es u) (hs : starEach (e :: es) X.env = (false, eval e X.env) :: starEach es X.env := by rfl) : JX X io (e :: es) (xV w u) := fun G hG => by
  refine pa_to (pa_cons (h G hG) (hr G hG) hs) ?_
  rintro σ H Q ⟨S, env, P, A, w, k⟩
  refine ⟨S, env, _, A, w, fun d e1 p1 v1 H1 S1 s1 A1 r1 => ⟨S1, e1, _, A1, p1, fun as e2 p2 vs H2 S2 s2 A2 => ?_⟩⟩
  exact k _ _ p2 _ _ _ (s1.trans s2) ⟨r1.mono s2, A2⟩
theorem jxL {w : WL} {u : WX} (h : JL X io e w) (hr : JX X io es u) (hs : starEach (e :: es) X.env = (false, eval e X.env) :: starEach es X.env := by rfl) : JX X io (e :: es) (xL w u) := fun G hG => by
  have hr' : PA X es (fun σ H Q => ∃ G' : Gh, G'.io.map (·.1) = io ∧ upX X.K G' u σ H Q) := ⟨fun pos pins s σ H Q I ⟨G', hG', q⟩ => (hr G' hG').run pos pins s σ H Q I q⟩
  refine pa_to (pa_cons (h G hG) hr' hs) ?_
  rintro σ H Q ⟨S, env, P, A, w, k⟩
  refine ⟨S, env, _, A, w, fun ds e1 p1 a xs H1 S1 s1 K1 r1 => ⟨G.park a (.lst xs), hG, S1, e1, _, K1.abs, p1, fun as e2 p2 vs H2 S2 s2 A2 => ?_⟩⟩
  exact k _ _ p2 _ _ _ (s1.trans s2) ⟨a, xs, rfl, K1.s0, K1.h0, r1.mono s2, A2⟩
def setXs : List Nat → List Sl → List Sl → List Sl
  | i :: is, s :: ss, env => (setXs is ss env).set i s
  | _, _, env => env
def setVs : List Nat → List V → Sg → Sg
  | i :: is, v :: vs, σ => (setVs is vs σ).set i (some v)
  | _, _, σ => σ
theorem AbsX.set {K : Frag} {S H : Hp} {env : List Sl} {σ : Sg} : ∀ {vs : List V} {as : List Ax} {G : Gh} {is : List Nat}, AbsX K S env σ H G vs as → (∀ i ∈ is, ∀ p ∈ G.io, p.1 ≠ i) → is.length = as.length → Abs K G S (setXs is (as.map Ax.sl) env) (setVs is vs σ) H
  | [], [], G, [], h, _, _ => h
  | v :: vs, .val d :: as, G, i :: is, h, hio, hl => by
    have ih := AbsX.set h.2 (is := is) (fun j hj => hio j (List.mem_cons_of_mem _ hj)) (by simpa using hl)
    exact ih.setV (hio i List.mem_cons_self) h.1
  | v :: vs, .new ds :: as, G, i :: is, h, hio, hl => by
    obtain ⟨a, xs, rfl, h1, h2, r, h3⟩ := h
    have ih := AbsX.set h3 (is := is) (fun j hj => hio j (List.mem_cons_of_mem _ hj)) (by simpa using hl)
    exact Prk.setO ⟨ih, h1, h2⟩ r (hio i List.mem_cons_self)
  | [], [], _, _ :: _, _, _, hl => by cases hl
  | _ :: _, .val _ :: _, _, [], _, _, hl => by cases hl
  | _ :: _, .new _ :: _, _, [], _, _, hl => by cases hl
  | [], .val _ :: _, _, _, h, _, _ => h.elim
  | [], .new _ :: _, _, _, h, _, _ => h.elim
  | _ :: _, [], _, _, h, _, _ => by cases h
theorem AbsX.length {K : Frag} {S H : Hp} {env : List Sl} {σ : Sg} : ∀ {vs : List V} {as : List Ax} {G : Gh}, AbsX K S env σ H G vs as → vs.length = as.length
  | [], [], _, _ => rfl
  | v :: vs, .val d :: as, G, h => by simp [AbsX.length h.2]
  | v :: vs, .new ds :: as, G, h => by obtain ⟨_, _, _, _, _, _, h⟩ := h; simp [AbsX.length h]
  | [], .val _ :: _, _, h => h.elim
  | [], .new _ :: _, _, h => h.elim
  | _ :: _, [], _, h => by cases h
theorem Ext.junk {S H : Hp} {q : Addr} {o : HO} (e : Same S H) (n : H q = none) : Ext S H S (upd H q o) :=
  ⟨Same.refl _, same_new n, same_over e (e.free n), fun _ _ q _ => q⟩
theorem AbsX.ext {K : Frag} {S H S' H' : Hp} {env : List Sl} {σ : Sg} (ex : Ext S H S' H') : ∀ {vs : List V} {as : List Ax} {G : Gh}, AbsX K S env σ H G vs as → AbsX K S' env σ H' G vs as
  | [], [], G, h => Abs.ext (show Abs K G S env σ H from h) ex
  | v :: vs, .val d :: as, G, h => ⟨h.1.mono ex.s, AbsX.ext ex h.2⟩
  | v :: vs, .new ds :: as, G, h => by
    obtain ⟨a, xs, e1, h1, h2, r, h3⟩ := h
    exact ⟨a, xs, e1, h1, h2, r.mono ex.s, AbsX.ext ex h3⟩
  | [], .val _ :: _, _, h => h.elim
  | [], .new _ :: _, _, h => h.elim
  | _ :: _, [], _, h => by cases h
theorem AbsX.sH {K : Frag} {S H : Hp} {env : List Sl} {σ : Sg} : ∀ {vs : List V} {as : List Ax} {G : Gh}, AbsX K S env σ H G vs as → Same S H
  | [], [], G, h => (show Abs K G S env σ H from h).sH
  | v :: vs, .val d :: as, G, h => AbsX.sH h.2
  | v :: vs, .new ds :: as, G, h => by obtain ⟨_, _, _, _, _, _, h⟩ := h; exact AbsX.sH h
  | [], .val _ :: _, _, h => h.elim
  | [], .new _ :: _, _, h => h.elim
  | _ :: _, [], _, h => by cases h
/-- x, y, .. = e, e', ..: the names' places -/
def sPar (is : List Nat) (w : WX) : WS := fun env P => w env fun as e => is.length = as.length ∧ P.nx (setXs is (as.map Ax.sl) e)
/-- two plain local names -/
theorem jPar2 {i j : Nat} {x y : Str} {w : WX} {px py pt : Pos} {kt k2 pt2} (hc : X.calm = true) (hN : X.N.Nodup) (ha : JX X io [a, b] w) (hw : swappedStores [.Tuple [.Name x px, .Name y py] kt pt] (.Tuple [a, b] k2 pt2) X.env = pure (some [x, y])) (hi : X.N[i]? = some x := by rfl) (hj : X.N[j]? = some y := by rfl) (hij : i ≠ j := by decide)
    (hx : X.env.scope.names.lookup x = some .local := by rfl) (hy : X.env.scope.names.lookup y = some .local := by rfl)
    (hs : swapsWithSole [.Tuple [.Name x px, .Name y py] kt pt] (.Tuple [a, b] k2 pt2) pos.line X.env = pure false := by rfl) (hio : io.contains i = false := by rfl) (hjo : io.contains j = false := by rfl) :
    JS X io (.Assign [.Tuple [.Name x px, .Name y py] kt pt] (.Tuple [a, b] k2 pt2) pos) (sPar [i, j] w) := fun G hG => by
  refine ps_to (ps_par hc hN hi hj hij hx hy (ha G hG) hw hs) ?_
  rintro E σ H ⟨S, env, P, A, w, k⟩
  refine ⟨S, env, _, A, w, fun as e1 p1 vs H1 S1 s1 A1 => ?_⟩
  obtain ⟨hl, p1⟩ := p1
  have hlen := A1.length
  match vs, hlen with
  | [v, u], hlen =>
    refine ⟨v, u, rfl, ?_⟩
    have A2 := A1.set (is := [i, j]) (fun q hq => by
      rcases List.mem_cons.mp hq with rfl | hq
      · exact ioNe hG hio
      · rw [List.mem_singleton.mp hq]; exact ioNe hG hjo) hl
    have es : setVs [i, j] [v, u] σ = (σ.set i (some v)).set j (some u) := by
      show (σ.set j (some u)).set i (some v) = _
      rw [List.set_comm _ _ (Ne.symm hij)]
    rw [es] at A2
    exact k.nx _ p1 _ _ _ s1 A2
  | [], hlen => simp at hlen; rw [← hlen] at hl; simp at hl
  | [_], hlen => simp at hlen; rw [← hlen] at hl; simp at hl
  | _ :: _ :: _ :: _, hlen => simp at hlen; rw [← hlen] at hl; simp at hl
end
end Y

namespace Y
open PySem PySem.Spec PyProof.Rows L2
/-! ### what the operators do, by data -/
def fAdd (d e : D) (Q : D → Prop) : Prop := match d, e with
  | .int i, .int j => Q (.int (i + j))
  | .list a, .list b => a.length + b.length ≤ sizeLine ∧ Q (.list (a ++ b))
  | .tuple a, .tuple b => a.length + b.length ≤ sizeLine ∧ Q (.tuple (a ++ b))
  | _, _ => False
def fSub (d e : D) (Q : D → Prop) : Prop := match d, e with
  | .int i, .int j => Q (.int (i - j))
  | _, _ => False
def fMul (d e : D) (Q : D → Prop) : Prop := match d, e with
  | .int i, .int j => ((-(2 ^ 64) < i ∧ i < 2 ^ 64) ∨ (-(2 ^ 64) < j ∧ j < 2 ^ 64)) ∧ Q (.int (i * j))
  | .list a, .int k => ((-(2 ^ 63) ≤ k ∧ k < 2 ^ 63) ∧ a.length * k.toNat ≤ sizeLine) ∧ Q (.list (List.replicate k.toNat a).flatten)
  | _, _ => False
def fDiv (d e : D) (Q : D → Prop) : Prop := match d, e with
  | .int i, .int j => (j ≠ 0 ∧ j.natAbs < 1073741824) ∧ Q (.int (i.fdiv j))
  | _, _ => False
def fMod (d e : D) (Q : D → Prop) : Prop := match d, e with
  | .int i, .int j => j ≠ 0 ∧ Q (.int (i.fmod j))
  | _, _ => False
def fPow (d e : D) (Q : D → Prop) : Prop := match d, e with
  | .int i, .int j => (0 ≤ j ∧ j ≤ 1000000 ∧ i.natAbs < 2 ^ 64) ∧ Q (.int (i ^ j.toNat))
  | _, _ => False
def fNeg (d : D) (Q : D → Prop) : Prop := match d with
  | .int i => Q (.int (-i))
  | _ => False
def fLt (d e : D) (Q : D → Prop) : Prop := match d, e with
  | .int i, .int j => Q (.bool (decide (i < j)))
  | _, _ => False
def fLe (d e : D) (Q : D → Prop) : Prop := match d, e with
  | .int i, .int j => Q (.bool (decide (i ≤ j)))
  | _, _ => False
def fGt (d e : D) (Q : D → Prop) : Prop := match d, e with
  | .int i, .int j => Q (.bool (decide (j < i)))
  | _, _ => False
def fGe (d e : D) (Q : D → Prop) : Prop := match d, e with
  | .int i, .int j => Q (.bool (decide (j ≤ i)))
  | _, _ => False
def shp (d : D) : Prop := SeqAt.shaped d = true
def fEq (d e : D) (Q : D → Prop) : Prop := match d, e with
  | .int i, .int j => Q (.bool (decide (i = j)))
  | _, _ => (shp d ∧ shp e) ∧ Q (.bool (PyData.eqv d e))
def fNe (d e : D) (Q : D → Prop) : Prop := match d, e with
  | .int i, .int j => Q (.bool (!decide (i = j)))
  | _, _ => (shp d ∧ shp e) ∧ Q (.bool (!PyData.eqv d e))
def isNo : D → Bool
  | .none => true
  | _ => false
def isB (b : Bool) : D → Bool
  | .bool c => b == c
  | _ => false
def fIs (d e : D) (Q : D → Prop) : Prop := match e with
  | .none => Q (.bool (isNo d))
  | _ => False
def fIsNot (d e : D) (Q : D → Prop) : Prop := match e with
  | .none => Q (.bool (!isNo d))
  | _ => False
def flatD : D → Bool
  | .none => true
  | .bool _ => true
  | .int _ => true
  | .str _ => true
  | _ => false
def fIn (d e : D) (Q : D → Prop) : Prop := match e with
  | .list es => (shp d ∧ shp (.list es)) ∧ Q (.bool (es.any fun z => PyData.eqv z d))
  | .tuple es => (flatD d = true ∧ es.all flatD = true) ∧ Q (.bool (es.any fun z => PyData.eqv z d))
  | _ => False
def fNotIn (d e : D) (Q : D → Prop) : Prop := match e with
  | .list es => (shp d ∧ shp (.list es)) ∧ Q (.bool (!es.any fun z => PyData.eqv z d))
  | .tuple es => (flatD d = true ∧ es.all flatD = true) ∧ Q (.bool (!es.any fun z => PyData.eqv z d))
  | _ => False
def fIx (d e : D) (Q : D → Prop) : Prop := match e with
  | .int j => match d with
    | .list ds => onSome (atI ds j) Q
    | .tuple ds => onSome (atI ds j) Q
    | .dict [(.none, .list ds)] => onSome (atI ds j) Q
    | _ => False
  | _ => False
section
variable {K : Frag} {S H : Hp}
theorem Dk.int {v : V} {i : Int} (h : Dk K S H v (.int i)) : v = .int i := by cases h; rfl
theorem Dk.nil {v : V} (h : Dk K S H v .none) : v = .non := by cases h; rfl
theorem Dk.bool {v : V} {b : Bool} (h : Dk K S H v (.bool b)) : v = .bl b := by cases h; rfl
theorem Dk.str {v : V} {b : Str} (h : Dk K S H v (.str b)) : v = .str b := by cases h; rfl
theorem Dk.tup {v : V} {ds : List D} (h : Dk K S H v (.tuple ds)) : ∃ a xs, v = .ref a ∧ SqT K S a xs ∧ DrAll K S xs ds := by
  cases h with
  | tup h1 h2 => exact ⟨_, _, rfl, h1, h2⟩
mutual
theorem Dr.dp : ∀ {v : V} {d : D}, d.canLay0 = true → Dr K S v d → Dp K S v d
  | _, _, _, .non => .non
  | _, _, _, .bl b => .bl b
  | _, _, _, .int i => .int i
  | _, _, _, .str x => .str x
  | _, _, h, .lst a b => .lst (SqL.of a) (DrAll.dp (by simpa [PyData.canLay0] using h) b)
  | _, _, h, .tup a b => .tup a (DrAll.dp (by simpa [PyData.canLay0] using h) b)
  | _, _, h, .scr _ => by simp [PyData.canLay0] at h
theorem DrAll.dp : ∀ {vs : List V} {ds : List D}, PyData.canLayAll0 ds = true → DrAll K S vs ds → DpAll K S vs ds
  | _, _, _, .nil => .nil
  | _, _, h, .cons a b => by
    have h' := h
    simp only [PyData.canLayAll0, Bool.and_eq_true] at h'
    exact .cons (Dr.dp h'.1 a) (DrAll.dp h'.2 b)
end
theorem Dk.dp {v : V} {d : D} (e : Same S H) (h : shp d) (r : Dk K S H v d) : Dp K H v d := Dr.dp (SeqAt.canLay_of_shaped h) (r.dr e)
theorem flat_v {v : V} {d : D} (h : flatD d = true) (r : Dr K S v d) : flatV v = true := by
  cases r <;> first | rfl | exact absurd (show false = true from h) Bool.false_ne_true
theorem flat_vs : ∀ {vs : List V} {ds : List D}, ds.all flatD = true → DrAll K S vs ds → vs.all flatV = true
  | _, _, _, .nil => rfl
  | _, _, h, .cons a b => by
    simp only [List.all_cons, Bool.and_eq_true] at h ⊢
    exact ⟨flat_v h.1 a, flat_vs h.2 b⟩
theorem eqV_eqv {v u : V} {d e : D} (hd : flatD d = true) (he : flatD e = true) (r : Dr K S v d) (q : Dr K S u e) : eqV v u = PyData.eqv d e := by
  cases r <;> first | exact absurd (show false = true from hd) Bool.false_ne_true | (cases q <;> first | exact absurd (show false = true from he) Bool.false_ne_true | rfl | (simp [eqV, PyData.eqv]; done))
theorem inV_any {u : V} {e : D} (he : flatD e = true) (q : Dr K S u e) : ∀ {vs : List V} {ds : List D}, ds.all flatD = true → DrAll K S vs ds → inV u vs = ds.any fun z => PyData.eqv z e
  | _, _, _, .nil => rfl
  | _, _, h, .cons a b => by
    simp only [List.all_cons, Bool.and_eq_true] at h
    have ih := inV_any he q h.2 b
    unfold inV at ih ⊢
    rw [List.any_cons, List.any_cons, ih, eqV_eqv h.1 he a q]
theorem Dk.flat {v : V} {d : D} (h : flatD d = true) (r : Dk K S H v d) : Dr K S v d := by
  cases d with
  | list _ => cases h
  | _ => exact r
end
section
variable {X : Cx}
theorem opAdd : OpR X (binaryOp .Add) (rD2 X.K fAdd) := by
  refine opr_to ((op_add.or op_cat).or op_catA) ?_
  rintro x y H Q ⟨S, d, e, P, sH, rx, ry, h, k⟩
  cases d with
  | int i =>
    cases e with
    | int j => exact .inl (.inl ⟨i, j, rx.int, ry.int, k _ h _ _ _ (Ext.refl sH) (.int _)⟩)
    | _ => cases h
  | list a =>
    cases e with
    | list b =>
      obtain ⟨p, xs, rfl, hp, rp⟩ := rx
      obtain ⟨q, ys, rfl, hq, rq⟩ := ry
      refine .inl (.inr ⟨p, q, xs, ys, rfl, rfl, hp, hq, by rw [rp.length, rq.length]; exact h.1, fun c hc => ?_⟩)
      have ex := Ext.new (o := HO.lst (xs ++ ys)) sH hc
      exact k _ h.2 _ _ _ ex (.lst upd_same ((rp.append rq).mono ex.s))
    | _ => cases h
  | tuple a =>
    cases e with
    | tuple b =>
      obtain ⟨p, xs, rfl, hp, rp⟩ := rx.tup
      obtain ⟨q, ys, rfl, hq, rq⟩ := ry.tup
      refine .inr ⟨p, q, xs, ys, rfl, rfl, Same.tup sH hp, Same.tup sH hq, by rw [rp.length, rq.length]; exact h.1, fun e => ?_, fun _ e => ?_, fun _ _ c hc => ?_⟩
      · subst e
        cases rp
        exact k _ h.2 _ _ _ (Ext.refl sH) (.tup hq rq)
      · subst e
        cases rq
        have h2 := h.2
        rw [List.append_nil] at h2
        exact k _ h2 _ _ _ (Ext.refl sH) (.tup hp rp)
      · have ex := Ext.new (o := HO.tup (xs ++ ys)) sH hc
        exact k _ h.2 _ _ _ ex (.tup (.inl (.inl upd_same)) ((rp.append rq).mono ex.s))
    | _ => cases h
  | _ => cases e <;> cases h
theorem opSub : OpR X (binaryOp .Sub) (rD2 X.K fSub) := by
  refine opr_to op_sub ?_
  rintro x y H Q ⟨S, d, e, P, sH, rx, ry, h, k⟩
  cases d <;> cases e <;> first | exact ⟨_, _, rx.int, ry.int, k _ h _ _ _ (Ext.refl sH) (.int _)⟩ | cases h
theorem opMul : OpR X (binaryOp .Mult) (rD2 X.K fMul) := by
  refine opr_to (op_mul.or op_rep) ?_
  rintro x y H Q ⟨S, d, e, P, sH, rx, ry, h, k⟩
  cases d with
  | int i =>
    cases e with
    | int j => exact .inl ⟨_, _, rx.int, ry.int, h.1, k _ h.2 _ _ _ (Ext.refl sH) (.int _)⟩
    | _ => cases h
  | list a =>
    cases e with
    | int j =>
      obtain ⟨p, xs, rfl, hp, rp⟩ := rx
      refine .inr ⟨p, j, xs, rfl, ry.int, hp, h.1.1.1, h.1.1.2, by rw [rp.length]; exact h.1.2, fun c hc => ?_⟩
      have ex := Ext.new (o := HO.lst (List.replicate j.toNat xs).flatten) sH hc
      exact k _ h.2 _ _ _ ex (.lst upd_same ((rp.rep _).mono ex.s))
    | _ => cases h
  | _ => cases e <;> cases h
theorem opDiv : OpR X (binaryOp .FloorDiv) (rD2 X.K fDiv) := by
  refine opr_to op_fdivN ?_
  rintro x y H Q ⟨S, d, e, P, sH, rx, ry, h, k⟩
  cases d <;> cases e <;> first | exact ⟨_, _, rx.int, ry.int, h.1, k _ h.2 _ _ _ (Ext.refl sH) (.int _)⟩ | cases h
theorem opMod : OpR X (binaryOp .Mod) (rD2 X.K fMod) := by
  refine opr_to op_modN ?_
  rintro x y H Q ⟨S, d, e, P, sH, rx, ry, h, k⟩
  cases d <;> cases e <;> first | exact ⟨_, _, rx.int, ry.int, h.1, k _ h.2 _ _ _ (Ext.refl sH) (.int _)⟩ | cases h
theorem opPow : OpR X (binaryOp .Pow) (rD2 X.K fPow) := by
  refine opr_to op_pow ?_
  rintro x y H Q ⟨S, d, e, P, sH, rx, ry, h, k⟩
  cases d <;> cases e <;> first | exact ⟨_, _, rx.int, ry.int, h.1, k _ h.2 _ _ _ (Ext.refl sH) (.int _)⟩ | cases h
theorem unNeg : UnR X (unaryOp .USub) (rD1 X.K fNeg) := fun pins s σ H x v Q I rx ⟨S, d, P, sH, rd, h, k⟩ => by
  cases d <;> first | exact un_neg pins s σ H x v Q I rx ⟨_, rd.int, k _ h _ _ _ (Ext.refl sH) (.int _)⟩ | cases h
theorem opLt : OpR X (compareOp .Lt) (rD2 X.K fLt) := by
  refine opr_to op_lt ?_
  rintro x y H Q ⟨S, d, e, P, sH, rx, ry, h, k⟩
  cases d <;> cases e <;> first | exact ⟨_, _, rx.int, ry.int, k _ h _ _ _ (Ext.refl sH) (.bl _)⟩ | cases h
theorem opLe : OpR X (compareOp .LtE) (rD2 X.K fLe) := by
  refine opr_to op_le ?_
  rintro x y H Q ⟨S, d, e, P, sH, rx, ry, h, k⟩
  cases d <;> cases e <;> first | exact ⟨_, _, rx.int, ry.int, k _ h _ _ _ (Ext.refl sH) (.bl _)⟩ | cases h
theorem opGt : OpR X (compareOp .Gt) (rD2 X.K fGt) := by
  refine opr_to op_gt ?_
  rintro x y H Q ⟨S, d, e, P, sH, rx, ry, h, k⟩
  cases d <;> cases e <;> first | exact ⟨_, _, rx.int, ry.int, k _ h _ _ _ (Ext.refl sH) (.bl _)⟩ | cases h
theorem opGe : OpR X (compareOp .GtE) (rD2 X.K fGe) := by
  refine opr_to op_ge ?_
  rintro x y H Q ⟨S, d, e, P, sH, rx, ry, h, k⟩
  cases d <;> cases e <;> first | exact ⟨_, _, rx.int, ry.int, k _ h _ _ _ (Ext.refl sH) (.bl _)⟩ | cases h
theorem opEq (hu : X.A.units + 64 < cLine) : OpR X (compareOp .Eq) (rD2 X.K fEq) := by
  refine opr_to (op_eq.or (op_eqD hu)) ?_
  rintro x y H Q ⟨S, d, e, P, sH, rx, ry, h, k⟩
  by_cases hi : ∃ i j, d = .int i ∧ e = .int j
  · obtain ⟨i, j, rfl, rfl⟩ := hi
    rw [rx.int, ry.int]
    refine .inl ⟨rfl, ?_⟩
    have ed : decide (V.int i = V.int j) = decide (i = j) := by by_cases z : i = j <;> simp [z]
    rw [ed]
    exact k _ h _ _ _ (Ext.refl sH) (.bl _)
  · have h2 : (shp d ∧ shp e) ∧ P (.bool (PyData.eqv d e)) := by
      cases d <;> cases e <;> first | exact h | exact absurd ⟨_, _, rfl, rfl⟩ hi
    exact .inr ⟨d, e, rx.dp sH h2.1.1, ry.dp sH h2.1.2, h2.1.1, h2.1.2, k _ h2.2 _ _ _ (Ext.refl sH) (.bl _)⟩
theorem opNe (hu : X.A.units + 64 < cLine) : OpR X (compareOp .NotEq) (rD2 X.K fNe) := by
  refine opr_to (op_ne.or (op_neD hu)) ?_
  rintro x y H Q ⟨S, d, e, P, sH, rx, ry, h, k⟩
  by_cases hi : ∃ i j, d = .int i ∧ e = .int j
  · obtain ⟨i, j, rfl, rfl⟩ := hi
    rw [rx.int, ry.int]
    refine .inl ⟨rfl, ?_⟩
    have ed : decide (V.int i = V.int j) = decide (i = j) := by by_cases z : i = j <;> simp [z]
    rw [ed]
    exact k _ h _ _ _ (Ext.refl sH) (.bl _)
  · have h2 : (shp d ∧ shp e) ∧ P (.bool (!PyData.eqv d e)) := by
      cases d <;> cases e <;> first | exact h | exact absurd ⟨_, _, rfl, rfl⟩ hi
    exact .inr ⟨d, e, rx.dp sH h2.1.1, ry.dp sH h2.1.2, h2.1.1, h2.1.2, k _ h2.2 _ _ _ (Ext.refl sH) (.bl _)⟩
theorem isNo_v {K : Frag} {S H : Hp} {v : V} {d : D} (r : Dk K S H v d) : decide (v = .non) = isNo d := by
  cases d with
  | list ds => obtain ⟨a, xs, rfl, _⟩ := r; rfl
  | _ => cases r <;> rfl
theorem opIs : OpR X (compareOp .Is) (rD2 X.K fIs) := by
  refine opr_to op_isN ?_
  rintro x y H Q ⟨S, d, e, P, sH, rx, ry, h, k⟩
  cases e with
  | none => exact ⟨ry.nil, by rw [isNo_v rx]; exact k _ h _ _ _ (Ext.refl sH) (.bl _)⟩
  | _ => cases h
theorem opIsNot : OpR X (compareOp .IsNot) (rD2 X.K fIsNot) := by
  refine opr_to op_notN ?_
  rintro x y H Q ⟨S, d, e, P, sH, rx, ry, h, k⟩
  cases e with
  | none => exact ⟨ry.nil, by rw [isNo_v rx]; exact k _ h _ _ _ (Ext.refl sH) (.bl _)⟩
  | _ => cases h
theorem opIn (hu : X.A.units + 65 < cLine) : OpR X (compareOp .In) (rD2 X.K fIn) := by
  refine opr_to ((op_inD hu).or op_in_seq) ?_
  rintro x y H Q ⟨S, d, e, P, sH, rx, ry, h, k⟩
  cases e with
  | list es => exact .inl ⟨d, es, rx.dp sH h.1.1, ry.dp sH h.1.2, h.1.1, h.1.2, k _ h.2 _ _ _ (Ext.refl sH) (.bl _)⟩
  | tuple es =>
    obtain ⟨p, xs, rfl, hp, rp⟩ := ry.tup
    refine .inr ⟨p, xs, rfl, .inr (Same.tup sH hp), flat_v h.1.1 (rx.flat h.1.1), flat_vs h.1.2 rp, ?_⟩
    have ei := inV_any h.1.1 (rx.flat h.1.1) h.1.2 rp
    rw [if_neg Bool.false_ne_true, ei]
    exact k _ h.2 _ _ _ (Ext.refl sH) (.bl _)
  | _ => cases h
theorem opNotIn (hu : X.A.units + 65 < cLine) : OpR X (compareOp .NotIn) (rD2 X.K fNotIn) := by
  refine opr_to ((op_notInD hu).or op_notIn_seq) ?_
  rintro x y H Q ⟨S, d, e, P, sH, rx, ry, h, k⟩
  cases e with
  | list es => exact .inl ⟨d, es, rx.dp sH h.1.1, ry.dp sH h.1.2, h.1.1, h.1.2, k _ h.2 _ _ _ (Ext.refl sH) (.bl _)⟩
  | tuple es =>
    obtain ⟨p, xs, rfl, hp, rp⟩ := ry.tup
    refine .inr ⟨p, xs, rfl, .inr (Same.tup sH hp), flat_v h.1.1 (rx.flat h.1.1), flat_vs h.1.2 rp, ?_⟩
    have ei := inV_any h.1.1 (rx.flat h.1.1) h.1.2 rp
    rw [if_pos rfl, ei]
    exact k _ h.2 _ _ _ (Ext.refl sH) (.bl _)
  | _ => cases h
theorem atI_dr {K : Frag} {S : Hp} {vs : List V} {ds : List D} (r : DrAll K S vs ds) {i : Int} {d : D} (h : atI ds i = some d) : ∃ v, atI vs i = some v ∧ Dr K S v d := by
  unfold atI at h ⊢
  rw [r.length]
  cases e : ixN ds.length i with
  | none => rw [e] at h; cases h
  | some j =>
    rw [e] at h
    exact r.get h
theorem ixr_to {r r' : R2} (h : IxR X r) (c : ∀ x y H Q, r' x y H Q → r x y H Q) : IxR X r' := fun value slice pins s σ H x y v u Q I rx ry hw hs => h value slice pins s σ H x y v u Q I rx ry (c x y H Q hw) hs
theorem ixSeq : IxR X (rD2 X.K fIx) := by
  refine ixr_to ix_seq ?_
  intro x y H Q h
  obtain ⟨S, d, e, P, sH, qx, qy, h, k⟩ := h
  cases e with
  | int j =>
    have ey := qy.int
    subst ey
    cases d with
    | list ds =>
      obtain ⟨d, hd, p⟩ := onSome_ok (show onSome (atI ds j) P from h)
      obtain ⟨p', xs, rfl, hp, rp⟩ := qx
      obtain ⟨z, hz, rz⟩ := atI_dr rp hd
      exact .inl ⟨p', xs, j, z, rfl, rfl, SqL.of hp, hz, k _ p _ _ _ (Ext.refl sH) rz⟩
    | tuple ds =>
      obtain ⟨d, hd, p⟩ := onSome_ok (show onSome (atI ds j) P from h)
      obtain ⟨p', xs, rfl, hp, rp⟩ := qx.tup
      obtain ⟨z, hz, rz⟩ := atI_dr rp hd
      exact .inr (.inl ⟨p', xs, j, z, rfl, rfl, Same.tup sH hp, hz, k _ p _ _ _ (Ext.refl sH) rz⟩)
    | dict kvs =>
      cases qx with
      | scr hs =>
        rename_i a ns
        obtain ⟨d, hd, p⟩ := onSome_ok (show onSome (atI (ns.map PyData.int) j) P from h)
        obtain ⟨z, hz, rz⟩ := atI_dr (DrAll.ints (K := X.K) (S := S) ns) hd
        exact .inl ⟨a, _, j, z, rfl, rfl, sH.seq hs, hz, k _ p _ _ _ (Ext.refl sH) rz⟩
    | _ => cases h
  | _ => cases d <;> cases h

/-! ### slices -/
def cutL {α : Type} (xs : List α) (lo hi : Option Int) : List α := (xs.drop (HT.sIx xs.length 0 lo)).take (HT.sIx xs.length xs.length hi - HT.sIx xs.length 0 lo)
theorem cut_dr {K : Frag} {S : Hp} {vs : List V} {ds : List D} (r : DrAll K S vs ds) (lo hi : Option Int) : DrAll K S (cutV vs lo hi) (cutL ds lo hi) := by
  unfold cutV cutL
  rw [r.length]
  exact (r.drop _).take _
theorem cut_all {α : Type} {xs : List α} {lo hi : Option Int} (h : HT.sIx xs.length 0 lo = 0 ∧ HT.sIx xs.length xs.length hi = xs.length) : cutL xs lo hi = xs := by
  unfold cutL
  rw [h.1, h.2]
  simp
@[irreducible] def fSl (d : D) (lo hi : Option Int) (Q : D → Prop) : Prop := match d with
  | .list ds => Q (.list (cutL ds lo hi))
  | .tuple ds => Q (.tuple (cutL ds lo hi))
  | _ => False
theorem fSl_l {ds : List D} {lo hi : Option Int} {Q : D → Prop} (h : Q (.list (cutL ds lo hi))) : fSl (.list ds) lo hi Q := by unfold fSl; exact h
theorem fSl_t {ds : List D} {lo hi : Option Int} {Q : D → Prop} (h : Q (.tuple (cutL ds lo hi))) : fSl (.tuple ds) lo hi Q := by unfold fSl; exact h
abbrev WP := List Sl → (Option Int → List Sl → Prop) → Prop
def upP (K : Frag) (G : Gh) (w : WP) : TO := fun σ H Q => ∃ S env P, Abs K G S env σ H ∧ w env P ∧ ∀ o env', P o env' → ∀ H' S', Same S S' → Abs K G S' env' σ H' → Q o H'
def JP (X : Cx) (io : List Nat) (e : Option Expr) (w : WP) : Prop := ∀ G : Gh, G.io.map (·.1) = io → PO X e (upP X.K G w)
theorem po_to {e : Option Expr} {t t' : TO} (h : PO X e t) (c : ∀ σ H Q, t' σ H Q → t σ H Q) : PO X e t' := ⟨fun pins s σ H Q I hw => h.run pins s σ H Q I (c σ H Q hw)⟩
variable {io : List Nat}
def pN : WP := fun env P => P none env
def pI (w : WE) : WP := fun env P => w env fun d e => onInt d fun i => P (some i) e
theorem jpN : JP X io none pN := fun G hG => po_to po_none fun σ H Q ⟨S, env, P, A, w, k⟩ => k _ _ w _ _ (Same.refl _) A
theorem jpI {e : Expr} {w : WE} (h : JE X io e w) : JP X io (some e) (pI w) := fun G hG => by
  refine po_to (po_some (h G hG)) ?_
  rintro σ H Q ⟨S, env, P, A, w, k⟩
  refine ⟨S, env, _, A, w, fun d e1 p1 v1 H1 S1 s1 A1 r1 => ?_⟩
  obtain ⟨i, rfl, p⟩ := onInt_ok p1
  cases r1
  exact ⟨i, rfl, k _ _ p _ _ s1 A1⟩
def wSl (wa : WO) (wl wh : WP) : WE := fun env P => wa env fun x e1 => wl e1 fun lo e2 => wh e2 fun hi e3 => get1 x e3 fun d => fSl d lo hi fun r => P r e3
def rSlD (K : Frag) : V → Option Int → Option Int → Hp → VK → Prop := fun x lo hi H Q => ∃ S d P, Same S H ∧ Dk K S H x d ∧ fSl d lo hi P ∧ ∀ r, P r → ∀ v H' S', Ext S H S' H' → Dr K S' v r → Q v H'
theorem slSeq : SlR X (rSlD X.K) := fun pins s σ H x v vl vu lo hi sl Q I rx hs pl pu h => by
  refine (sl_list.or sl_tupA) pins s σ H x v vl vu lo hi sl Q I rx hs pl pu ?_
  obtain ⟨S, d, P, sH, qx, h, k⟩ := h
  unfold fSl at h
  cases d with
  | list ds =>
    obtain ⟨p, xs, rfl, hp, rp⟩ := qx
    refine .inl ⟨p, xs, rfl, SqL.of hp, fun c hc => ?_⟩
    have ex := Ext.new (o := HO.lst (cutV xs lo hi)) sH hc
    exact k _ h _ _ _ ex (.lst upd_same ((cut_dr rp lo hi).mono ex.s))
  | tuple ds =>
    obtain ⟨p, xs, rfl, hp, rp⟩ := qx.tup
    refine .inr ⟨p, xs, rfl, Same.tup sH hp, fun e => ?_, fun _ c hc => ?_⟩
    · rw [rp.length] at e
      have h' : P (.tuple (cutL ds lo hi)) := h
      rw [cut_all e] at h'
      exact k _ h' _ _ _ (Ext.refl sH) (.tup hp rp)
    · have ex := Ext.new (o := HO.tup (cutV xs lo hi)) sH hc
      exact k _ h _ _ _ ex (.tup (.inl (.inl upd_same)) ((cut_dr rp lo hi).mono ex.s))
  | _ => cases h
theorem jSl {e : Expr} {lo hi : Option Expr} {wa : WO} {wl wh : WP} {p2 pos : Pos} (ha : JO X io e wa) (hl : JP X io lo wl) (hh : JP X io hi wh) : JE X io (.Subscript e (.Slice lo hi none p2) pos) (wSl wa wl wh) := fun G hG => by
  refine pe_to (pe_slice slSeq (ha G hG) (hl G hG) (hh G hG)) ?_
  rintro σ H Q ⟨S, env, P, A, w, k⟩
  refine ⟨S, env, _, A, w, fun x e1 p1 v1 H1 S1 s1 A1 r1 => ⟨S1, e1, _, A1, p1, fun lo e2 p2 H2 S2 s2 A2 => ⟨S2, e2, _, A2, p2, fun hi e3 p3 H3 S3 s3 A3 => ?_⟩⟩⟩
  obtain ⟨d, g, p⟩ := get1_ok p3
  exact ⟨S3, d, _, A3.sH, (r1.mono (s2.trans s3)).dk A3 g, p, fun r pr v H' S' ex rr => k r e3 pr v H' S' (s1.trans (s2.trans (s3.trans ex.s))) (A3.ext ex) rr⟩

/-! ### built-in functions -/
def fLen (ds : List D) (Q : D → Prop) : Prop := match ds with
  | [.list es] => Q (.int es.length)
  | [.tuple es] => Q (.int es.length)
  | [.dict [(.none, .list es)]] => Q (.int es.length)
  | _ => False
theorem DkAll.one {K : Frag} {S H : Hp} {vs : List V} {d : D} (h : DkAll K S H vs [d]) : ∃ v, vs = [v] ∧ Dk K S H v d := by
  cases h with
  | cons h1 h2 => cases h2; exact ⟨_, rfl, h1⟩
theorem DkAll.two {K : Frag} {S H : Hp} {vs : List V} {d e : D} (h : DkAll K S H vs [d, e]) : ∃ v u, vs = [v, u] ∧ Dk K S H v d ∧ Dk K S H u e := by
  cases h with
  | cons h1 h2 =>
    cases h2 with
    | cons h2 h3 => cases h3; exact ⟨_, _, rfl, h1, h2⟩
theorem fLen_ok {ds : List D} {Q : D → Prop} (h : fLen ds Q) : ∃ d, ds = [d] ∧ ((∃ es, d = .list es ∧ Q (.int es.length)) ∨ (∃ es, d = .tuple es ∧ Q (.int es.length)) ∨ ∃ es, d = .dict [(.none, .list es)] ∧ Q (.int es.length)) := by
  unfold fLen at h
  split at h
  · exact ⟨_, rfl, .inl ⟨_, rfl, h⟩⟩
  · exact ⟨_, rfl, .inr (.inl ⟨_, rfl, h⟩)⟩
  · exact ⟨_, rfl, .inr (.inr ⟨_, rfl, h⟩)⟩
  · cases h
theorem cLen : CallR X (.builtin "len") (rDn X.K fLen) := by
  refine callr_to call_len_seq ?_
  rintro vs H Q ⟨S, ds, P, sH, r, h, k⟩
  obtain ⟨d, e, h'⟩ := fLen_ok h
  subst e
  obtain ⟨v, rfl, rd⟩ := r.one
  clear h
  rcases h' with ⟨es, rfl, h⟩ | ⟨es, rfl, h⟩ | ⟨es, rfl, h⟩
  · obtain ⟨p, xs, rfl, hp, rp⟩ := rd
    rw [← rp.length] at h
    exact ⟨p, xs, rfl, .inl (SqL.of hp), k _ h _ _ _ (Ext.refl sH) (.int _)⟩
  · obtain ⟨p, xs, rfl, hp, rp⟩ := rd.tup
    rw [← rp.length] at h
    exact ⟨p, xs, rfl, .inr (Same.tup sH hp), k _ h _ _ _ (Ext.refl sH) (.int _)⟩
  · cases rd with
    | scr hs =>
      rename_i a ns
      refine ⟨a, _, rfl, .inl (sH.seq hs), ?_⟩
      rw [List.length_map] at h ⊢
      exact k _ h _ _ _ (Ext.refl sH) (.int _)
def fInt (ds : List D) (Q : D → Prop) : Prop := match ds with
  | [.int i] => Q (.int i)
  | [.bool b] => Q (.int (if b then 1 else 0))
  | _ => False
theorem cInt : CallR X (.type "int") (rDn X.K fInt) := by
  refine callr_to call_int1 ?_
  rintro vs H Q ⟨S, ds, P, sH, r, h, k⟩
  unfold fInt at h
  split at h
  · obtain ⟨v, rfl, rd⟩ := r.one
    exact .inl ⟨_, by rw [rd.int], k _ h _ _ _ (Ext.refl sH) (.int _)⟩
  · obtain ⟨v, rfl, rd⟩ := r.one
    exact .inr ⟨_, by rw [rd.bool], k _ h _ _ _ (Ext.refl sH) (.int _)⟩
  · cases h
def fAbs (ds : List D) (Q : D → Prop) : Prop := match ds with
  | [.int i] => Q (.int (if i < 0 then -i else i))
  | _ => False
theorem cAbs : CallR X (.builtin "abs") (rDn X.K fAbs) := by
  refine callr_to call_abs ?_
  rintro vs H Q ⟨S, ds, P, sH, r, h, k⟩
  unfold fAbs at h
  split at h
  · obtain ⟨v, rfl, rd⟩ := r.one
    exact ⟨_, by rw [rd.int], k _ h _ _ _ (Ext.refl sH) (.int _)⟩
  · cases h
def fTuple (ds : List D) (Q : D → Prop) : Prop := match ds with
  | [.list es] => Q (.tuple es)
  | [.tuple es] => Q (.tuple es)
  | _ => False
theorem cTuple : CallR X (.type "tuple") (rDn X.K fTuple) := by
  refine callr_to call_tuple_of ?_
  rintro vs H Q ⟨S, ds, P, sH, r, h, k⟩
  unfold fTuple at h
  split at h
  · obtain ⟨v, rfl, rd⟩ := r.one
    obtain ⟨p, xs, rfl, hp, rp⟩ := rd
    refine ⟨p, xs, rfl, .inl ⟨SqL.of hp, fun c hc => ?_⟩⟩
    have ex := Ext.new (o := HO.tup xs) sH hc
    exact k _ h _ _ _ ex (.tup (.inl (.inl upd_same)) (rp.mono ex.s))
  · obtain ⟨v, rfl, rd⟩ := r.one
    obtain ⟨p, xs, rfl, hp, rp⟩ := rd.tup
    exact ⟨p, xs, rfl, .inr ⟨Same.tup sH hp, k _ h _ _ _ (Ext.refl sH) (.tup hp rp)⟩⟩
  · cases h
/-! ### fresh lists by calls and operators -/
def rDL (K : Frag) (f : List D → (List D → Prop) → Prop) : List V → Hp → VK → Prop := fun xs H Q => ∃ S ds P, Same S H ∧ DkAll K S H xs ds ∧ f ds P ∧ ∀ rs, P rs → ∀ a zs, H a = none → DrAll K S zs rs → Q (.ref a) (upd H a (.lst zs))
def wCL (f : List D → (List D → Prop) → Prop) (wa : WA) : WL := fun env P => wa env fun as e1 => getN as e1 fun ds => f ds fun r => P r e1
theorem jCTL {x : Str} {T : String} {f : List D → (List D → Prop) → Prop} {e : Expr} {es : List Expr} {ws : WA} {p pos : Pos} (hc : CallR X (.type T) (rDL X.K f)) (hg : Gl X x) (hm : X.mg x = none) (hv : bootBuiltins x = some (.type T)) (ha : JA X io (e :: es) ws) (hn : x ≠ "__name__" := by decide) (hdb : (x == ("__debug__" : Str)) = false := by decide)
    (he : starEach (e :: es) X.env = (false, eval e X.env) :: starEach es X.env := by rfl) (hpl : (backTo pos (starEach es X.env)).any (·.1) = false := by rfl) : JL X io (.Call (.Name x p) (e :: es) [] pos) (wCL f ws) := fun G hG => by
  refine pe_to (pe_callTy hc hg hm hv (ha G hG) hn hdb he hpl) ?_
  rintro σ H Q ⟨S, env, P, A, w, k⟩
  refine ⟨S, env, _, A, w, fun as e1 p1 vs H1 S1 s1 A1 r1 => ?_⟩
  obtain ⟨ds, g, p⟩ := getN_ok p1
  exact ⟨S1, ds, _, A1.sH, r1.dk A1 g, p, fun rs pr a zs ha rr => k rs e1 pr a zs _ _ s1 (A1.prk ha) rr⟩
def fList (ds : List D) (Q : List D → Prop) : Prop := match ds with
  | [.list es] => Q es
  | [.tuple es] => Q es
  | _ => False
theorem cList : CallR X (.type "list") (rDL X.K fList) := by
  refine callr_to call_list_of ?_
  rintro vs H Q ⟨S, ds, P, sH, r, h, k⟩
  unfold fList at h
  split at h
  · obtain ⟨v, rfl, rd⟩ := r.one
    obtain ⟨p, xs, rfl, hp, rp⟩ := rd
    exact ⟨p, xs, rfl, .inl (SqL.of hp), fun c hc => k _ h _ _ hc rp⟩
  · obtain ⟨v, rfl, rd⟩ := r.one
    obtain ⟨p, xs, rfl, hp, rp⟩ := rd.tup
    exact ⟨p, xs, rfl, .inr (Same.tup sH hp), fun c hc => k _ h _ _ hc rp⟩
  · cases h
/-- xs * k, a list of one's own -/
def fRepL (d e : D) (Q : List D → Prop) : Prop := match d, e with
  | .list a, .int k => ((-(2 ^ 63) ≤ k ∧ k < 2 ^ 63) ∧ a.length * k.toNat ≤ sizeLine) ∧ Q (List.replicate k.toNat a).flatten
  | _, _ => False
def wBL (f : D → D → (List D → Prop) → Prop) (wa wb : WO) : WL := fun env P => wa env fun x e1 => wb e1 fun y e2 => get2 x y e2 fun d e => f d e fun r => P r e2
theorem jRepL {a b : Expr} {wa wb : WO} {pos : Pos} (ha : JO X io a wa) (hb : JO X io b wb) : JL X io (.BinOp a .Mult b pos) (wBL fRepL wa wb) := fun G hG => by
  refine pe_to (pe_op op_rep (ha G hG) (hb G hG)) ?_
  rintro σ H Q ⟨S, env, P, A, w, k⟩
  refine ⟨S, env, _, A, w, fun x e1 p1 v1 H1 S1 s1 A1 r1 => ⟨S1, e1, _, A1, p1, fun y e2 p2 v2 H2 S2 s2 A2 r2 => ?_⟩⟩
  obtain ⟨d, e, g1, g2, p⟩ := get2_ok p2
  cases d with
  | list ds =>
    cases e with
    | int j =>
      obtain ⟨q, xs, rfl, hq, rq⟩ := (r1.mono s2).dk A2 g1
      refine ⟨q, j, xs, rfl, (r2.dk A2 g2).int, hq, p.1.1.1, p.1.1.2, by rw [rq.length]; exact p.1.2, fun c hc => ?_⟩
      exact k _ _ p.2 _ _ _ _ (s1.trans s2) (A2.prk hc) (rq.rep _)
    | _ => cases p
  | _ => cases p
end
end Y

namespace Y
open PySem PySem.Spec PyProof.Rows L2
/-! ### over a list or a tuple, whichever comes -/
def iSq (we : WE) : WL := fun env P => we env fun d e => match d with
  | .list ds => P ds e
  | .tuple ds => P ds e
  | _ => False
section
variable {X : Cx} {io : List Nat} {e a b c : Expr} {pos p : Pos} {we : WE}
theorem jiQ {tg : Expr} (h : JE X io e we) : JI X io tg e (iSq we) := fun G hG => ⟨fun pins s σ H R I ⟨S, env, P, A, w, k⟩ => by
  have run := (h G hG).run pins s σ H (fun v H1 => ∃ S1 d e1, Same S S1 ∧ Abs X.K G S1 e1 σ H1 ∧ Dr X.K S1 v d ∧ (match d with | .list ds => P ds e1 | .tuple ds => P ds e1 | _ => False)) I
    ⟨S, env, _, A, w, fun d e1 p1 v H1 S1 s1 A1 r1 => ⟨S1, d, e1, s1, A1, r1, p1⟩⟩
  refine thn run fun v s1 ⟨x, H1, I1, rx, S1, d, e1, ss, A1, rd, p1⟩ => ?_
  cases d with
  | list ds =>
    cases rd with
    | lst hs ha =>
      rename_i q xs
      have hq : SqL X.K H1 q xs := SqL.of (A1.sH _ _ hs)
      cases rx
      obtain ⟨its, rv, pl, hz⟩ := I1.list hq
      refine wpAny_pyIter_list pl.isList ⟨_, [s1.heap.objs.size], _, Itl X.K q, H1, rfl, I1.kept (t' := s1.toks) (fun u o z => Heap.get?_push_of_some _ z), turn_list q _, ⟨_, Heap.get?_push_size _ rfl, rfl, rfl⟩, ?_, k ds e1 p1 _ H1 S1 ss A1 (its_list hs ha)⟩
      intro u hu
      rw [List.mem_singleton.mp hu]
      exact I1.fpOk (Nat.le_refl _) (I1.hok.fresh (Nat.le_refl _))
  | tuple ds =>
    cases rd with
    | tup hs ha =>
      rename_i q xs
      have hq : SqT X.K H1 q xs := Same.tup A1.sH hs
      cases rx
      obtain ⟨its, rv, pl, hz⟩ := I1.tuple hq
      refine wpAny_pyIter_tuple (show s1.heap.IsTuple q its.toArray from pl) ⟨_, [s1.heap.objs.size], _, Itt X.K q, H1, rfl, I1.kept (t' := s1.toks) (fun u o z => Heap.get?_push_of_some _ z), turn_tuple q _, ⟨_, Heap.get?_push_size _ rfl, rfl, rfl⟩, ?_, k ds e1 p1 _ H1 S1 ss A1 (its_tup hs ha)⟩
      intro u hu
      rw [List.mem_singleton.mp hu]
      exact I1.fpOk (Nat.le_refl _) (I1.hok.fresh (Nat.le_refl _))
  | _ => cases p1⟩
/-- range with a step -/
def onI3 (as : List Ar) (k : Int → Int → Int → Prop) : Prop := match as with
  | [.val (.int i), .val (.int j), .val (.int c)] => k i j c
  | _ => False
theorem onI3_ok {as : List Ar} {k : Int → Int → Int → Prop} (h : onI3 as k) : ∃ i j c, as = [.val (.int i), .val (.int j), .val (.int c)] ∧ k i j c := by
  unfold onI3 at h
  split at h
  · exact ⟨_, _, _, rfl, h⟩
  · cases h
def rngC (i c : Int) (n : Nat) : List D := (List.range n).map fun k => .int (i + (k : Nat) * c)
def iR3 (ws : WA) : WL := fun env P => ws env fun as e => onI3 as fun i j c => ∃ n, RgC i j c n ∧ P (rngC i c n) e
theorem its_rngC {K : Frag} {S : Hp} {i c : Int} {n : Nat} : ItS K S (Itc i c n) (rngC i c n) := fun m S1 H s e => by
  have hl : (rngC i c n).length = n := by unfold rngC; rw [List.length_map, List.length_range]
  refine ⟨fun h => by rw [hl] at h; exact h, fun d hd => ?_⟩
  have hi' : m < (rngC i c n).length := (List.getElem?_eq_some_iff.mp hd).1
  rw [hl] at hi'
  refine ⟨hi', fun x H' ⟨e1, e2⟩ => ?_⟩
  subst e1; subst e2
  have : d = .int (i + (m : Nat) * c) := by
    unfold rngC at hd
    rw [List.getElem?_map, List.getElem?_range hi'] at hd
    exact (Option.some.inj hd).symm
  subst this
  exact ⟨S1, Ext.refl e, .int _⟩
theorem jiR3 {tg : Expr} {ws : WA} (hg : Gl X "range") (hm : X.mg "range" = none) (ha : JA X io [a, b, c] ws) (hpi : ∀ t, PA X [a, b, c] t → PI X tg (.Call (.Name "range" p) [a, b, c] [] pos) (iRng3 t) := by exact fun t ha => pi_range3 (by assumption) (by assumption) ha) :
    JI X io tg (.Call (.Name "range" p) [a, b, c] [] pos) (iR3 ws) := fun G hG => by
  refine pi_to (hpi _ (ha G hG)) ?_
  rintro σ H R ⟨S, env, P, A, w, k⟩
  refine ⟨S, env, _, A, w, fun as e1 p1 vs H1 S1 s1 A1 r1 => ?_⟩
  obtain ⟨i, j, c, rfl, n, hn, q⟩ := onI3_ok p1
  cases r1 with
  | cons h1 t1 =>
    cases t1 with
    | cons h2 t2 =>
      cases t2 with
      | cons h3 t3 =>
        cases t3
        cases h1
        cases h2
        cases h3
        exact ⟨i, j, c, n, rfl, hn, k _ e1 q _ H1 S1 s1 A1 its_rngC⟩
/-- a chain of two comparisons -/
def wCh (f g : D → D → (D → Prop) → Prop) (wa wb wc : WO) : WE := fun env P => wa env fun x e1 => wb e1 fun y e2 => get2 x y e2 fun d e => f d e fun r => match r with
  | .bool true => wc e2 fun z e3 => get2 y z e3 fun d e => g d e fun r => P r e3
  | .bool false => P (.bool false) e2
  | _ => False
theorem chain_to {K : Frag} {G : Gh} {f g : D → D → (D → Prop) → Prop} {wa wb wc : WO} : ∀ σ H Q, up K G (wCh f g wa wb wc) σ H Q → tChain (rD2 K f) (rD2 K g) (upO K G wa) (upO K G wb) (upO K G wc) σ H Q := by
  rintro σ H Q ⟨S, env, P, A, w, k⟩
  refine ⟨S, env, _, A, w, fun x e1 p1 v1 H1 S1 s1 A1 r1 => ⟨S1, e1, _, A1, p1, fun y e2 p2 v2 H2 S2 s2 A2 r2 => ?_⟩⟩
  obtain ⟨d, e, g1, g2, p⟩ := get2_ok p2
  refine ⟨S2, d, e, _, A2.sH, (r1.mono s2).dk A2 g1, r2.dk A2 g2, p, fun r pr v H3 S3 ex rr => ?_⟩
  cases r with
  | bool k' =>
    cases rr
    refine ⟨k', rfl, ?_⟩
    cases k' with
    | false => exact k _ e2 pr _ _ _ (s1.trans (s2.trans ex.s)) (A2.ext ex) (.bl false)
    | true =>
      refine ⟨S3, e2, _, A2.ext ex, pr, fun z e4 p4 v4 H4 S4 s4 A4 r4 => ?_⟩
      obtain ⟨d', e', g1', g2', p'⟩ := get2_ok p4
      exact ⟨S4, d', e', _, A4.sH, (r2.mono (ex.s.trans s4)).dk A4 g1', r4.dk A4 g2', p', fun r pr v H' S' ex2 rr => k r e4 pr v H' S' (s1.trans (s2.trans (ex.s.trans (s4.trans ex2.s)))) (A4.ext ex2) rr⟩
  | _ => cases pr
theorem jCh {op op' : CmpOp} {f g : D → D → (D → Prop) → Prop} {wa wb wc : WO} (ho : OpR X (compareOp op) (rD2 X.K f)) (ho' : OpR X (compareOp op') (rD2 X.K g)) (ha : JO X io a wa) (hb : JO X io b wb) (hc : JO X io c wc)
    (hm : lastMarks [op, op'] [b, c] = false := by with_unfolding_all rfl) : JE X io (.Compare a [op, op'] [b, c] pos) (wCh f g wa wb wc) := fun G hG =>
  pe_to (pe_chain ho ho' (ha G hG) (hb G hG) (hc G hG) hm) chain_to
theorem jtCh {op op' : CmpOp} {f g : D → D → (D → Prop) → Prop} {wa wb wc : WO} (ho : OpR X (compareOp op) (rD2 X.K f)) (ho' : OpR X (compareOp op') (rD2 X.K g)) (ha : JO X io a wa) (hb : JO X io b wb) (hc : JO X io c wc)
    (hm : lastMarks [op, op'] [b, c] = false := by with_unfolding_all rfl) : JT X io (.Compare a [op, op'] [b, c] pos) (tB_ (wCh f g wa wb wc)) := fun G hG => by
  refine pt_to (pt_chain ho ho' (ha G hG) (hb G hG) (hc G hG) hm) ?_
  rintro σ H Q ⟨S, env, P, A, w, k⟩
  refine chain_to σ H _ ⟨S, env, _, A, w, fun d e1 p1 v1 H1 S1 s1 A1 r1 => ?_⟩
  cases d with
  | bool b =>
    cases r1
    exact ⟨b, rfl, k b e1 p1 _ _ s1 A1⟩
  | _ => cases p1
end
/-! ### several names, by the tuple itself -/
section
variable {X : Cx} {io : List Nat} {pos : Pos}
def gNms : List Nat → TGs
  | [] => gNil
  | i :: is => gCons (gName i) (gNms is)
def seqVs : List Nat → List V → Sg → Sg
  | i :: is, v :: vs, σ => seqVs is vs (σ.set i (some v))
  | _, _, σ => σ
theorem setVs_comm : ∀ {is : List Nat} {vs : List V} {σ : Sg} {i : Nat} {o : Option V}, i ∉ is → setVs is vs (σ.set i o) = (setVs is vs σ).set i o
  | [], _, _, _, _, _ => by simp [setVs]
  | _ :: _, [], _, _, _, _ => by simp [setVs]
  | j :: is, v :: vs, σ, i, o, h => by
    rw [setVs, setVs, setVs_comm (fun q => h (List.mem_cons_of_mem _ q)), List.set_comm _ _ (fun e => h (by rw [e]; exact List.mem_cons_self))]
theorem seq_set : ∀ {is : List Nat} {vs : List V} {σ : Sg}, is.Nodup → seqVs is vs σ = setVs is vs σ
  | [], _, _, _ => by simp [seqVs, setVs]
  | _ :: _, [], _, _ => by simp [seqVs, setVs]
  | i :: is, v :: vs, σ, h => by
    have h2 := List.nodup_cons.mp h
    rw [seqVs, setVs, seq_set h2.2, setVs_comm h2.1]
theorem gNms_ok : ∀ {is : List Nat} {vs : List V} {σ : Sg} {H : Hp} {Q : Sg → Hp → Prop}, is.length = vs.length → Q (seqVs is vs σ) H → gNms is vs σ H Q
  | [], [], _, _, _, _, h => ⟨rfl, h⟩
  | [], _ :: _, _, _, _, hl, _ => by cases hl
  | _ :: _, [], _, _, _, hl, _ => by cases hl
  | i :: is, v :: vs, σ, H, Q, hl, h => ⟨v, vs, rfl, gNms_ok (by simpa using hl) h⟩
/-- x, y, .. = e, e', ..: the tuple is made and opened -/
theorem jParT {is : List Nat} {tgs es : List Expr} {kt k2 : Nat} {pt pt2 : Pos} {w : WX} (hc : X.calm = true) (ha : JX X io es w) (hg : PGs X tgs (gNms is)) (hnd : is.Nodup := by decide) (hsz : is.length ≤ 1000 := by decide) (hio : is.all (fun i => !io.contains i) = true := by rfl)
    (hn : (assignEach tgs X.env).length = is.length := by rfl) (hst : (assignEach tgs X.env).findIdx? (·.1) = none := by rfl)
    (hs : swapsWithSole [.Tuple tgs kt pt] (.Tuple es k2 pt2) pos.line X.env = pure false := by rfl) (hw : swappedStores [.Tuple tgs kt pt] (.Tuple es k2 pt2) X.env = pure none := by rfl)
    (h1 : (assignEach [.Tuple tgs kt pt] X.env).map (·.2) = [assign (.Tuple tgs kt pt) X.env] := by rfl) :
    JS X io (.Assign [.Tuple tgs kt pt] (.Tuple es k2 pt2) pos) (sPar is w) := fun G hG => by
  refine ps_to (ps_asg (pe_tup (ha G hG)) (pg_tup hc hg hn hst) hs hw h1) ?_
  rintro E σ H ⟨S, env, P, A, w, k⟩
  refine ⟨S, env, _, A, w, fun as e1 p1 vs H1 S1 s1 A1 => ?_⟩
  obtain ⟨hl, p1⟩ := p1
  have hlen := A1.length
  have hbig : vs.length ≤ sizeLine := by
    have h0 := small1000 hsz
    omega
  refine ⟨hbig, fun q hq => ⟨q, vs, rfl, .inl (.inl upd_same), by omega, gNms_ok (by omega) ?_⟩⟩
  have A2 := (A1.ext (Ext.junk (o := HO.tup vs) A1.sH hq)).set (is := is) (fun i hi => ioNe hG (by
    have := List.all_eq_true.mp hio i hi
    simpa using this)) hl
  rw [seq_set hnd]
  exact k.nx _ p1 _ _ _ s1 A2
/-- three plain local names -/
theorem jPar3 {i j l : Nat} {x y z : Str} {a b c : Expr} {w : WX} {px py pz pt : Pos} {kt k2 pt2} (hc : X.calm = true) (hN : X.N.Nodup) (ha : JX X io [a, b, c] w)
    (hw : swappedStores [.Tuple [.Name x px, .Name y py, .Name z pz] kt pt] (.Tuple [a, b, c] k2 pt2) X.env = pure (some [x, y, z])) (hi : X.N[i]? = some x := by rfl) (hj : X.N[j]? = some y := by rfl) (hl : X.N[l]? = some z := by rfl) (hij : i ≠ j := by decide) (hil : i ≠ l := by decide) (hjl : j ≠ l := by decide)
    (hx : X.env.scope.names.lookup x = some .local := by rfl) (hy : X.env.scope.names.lookup y = some .local := by rfl) (hz : X.env.scope.names.lookup z = some .local := by rfl)
    (hs : swapsWithSole [.Tuple [.Name x px, .Name y py, .Name z pz] kt pt] (.Tuple [a, b, c] k2 pt2) pos.line X.env = pure false := by rfl) (hio : [i, j, l].all (fun i => !io.contains i) = true := by rfl) :
    JS X io (.Assign [.Tuple [.Name x px, .Name y py, .Name z pz] kt pt] (.Tuple [a, b, c] k2 pt2) pos) (sPar [i, j, l] w) := fun G hG => by
  refine ps_to (ps_par3 hc hN hi hj hl hij hil hjl hx hy hz (ha G hG) hw hs) ?_
  rintro E σ H ⟨S, env, P, A, w, k⟩
  refine ⟨S, env, _, A, w, fun as e1 p1 vs H1 S1 s1 A1 => ?_⟩
  obtain ⟨hlen, p1⟩ := p1
  have hlen2 := A1.length
  have A2 := A1.set (is := [i, j, l]) (fun i hi => ioNe hG (by
    have := List.all_eq_true.mp hio i hi
    simpa using this)) hlen
  match vs, hlen2 with
  | [u, v, w], _ =>
    refine ⟨u, v, w, rfl, ?_⟩
    have es : setVs [i, j, l] [u, v, w] σ = ((σ.set i (some u)).set j (some v)).set l (some w) := by
      rw [← seq_set (by simp [hij, hil, hjl])]
      rfl
    rw [es] at A2
    exact k.nx _ p1 _ _ _ s1 A2
  | [], h => simp at h; rw [← h] at hlen; simp at hlen
  | [_], h => simp at h; rw [← h] at hlen; simp at hlen
  | [_, _], h => simp at h; rw [← h] at hlen; simp at hlen
  | _ :: _ :: _ :: _ :: _, h => simp at h; rw [← h] at hlen; simp at hlen
end
/-! ### x[i] op= e of a name's own list -/
section
variable {X : Cx} {io : List Nat} {e ix : Expr} {pos p0 ps : Pos} {x : Str}
theorem pget_own : PGet X (rIxL X.K) := fun pins s σ H o i ov iv Q I ro ri ⟨p, xs, j, v, e1, e2, hq, he, q⟩ => by
  subst e1; subst e2
  cases ro
  obtain ⟨t, rfl⟩ := ri
  obtain ⟨its, r, pl, hz⟩ := I.list hq
  obtain ⟨m, h1, h2, h3, h4, h5⟩ := atI_get he
  obtain ⟨u, eu, ru⟩ := r.get h2
  have hl := r.length
  have hn := line63
  have fin : EP X pins σ Q u s := ⟨v, H, I, ru, q⟩
  by_cases h0 : 0 ≤ j
  · have hj : j.toNat = m := by
      rw [seqIndex_of h0 h5] at h1
      exact Option.some.inj h1
    exact wpAny_getItem_list pl.isList h0 (by omega) (by rw [hj]; simpa using eu) fin
  · have hj : (j + (its.toArray.size : Int)).toNat = m := by
      rw [seqIndex_neg (by omega) h4] at h1
      rw [List.size_toArray, ← hl]
      exact Option.some.inj h1
    exact wpAny_getItem_list_neg pl.isList (by omega) (by rw [List.size_toArray] <;> omega) (by omega) (by rw [hj]; simpa using eu) fin
def sAugIx (i : Nat) (f : D → D → (D → Prop) → Prop) (wi we : WE) : WS := fun env P => ownAt env i fun _ => wi env fun k e => onInt k fun j => ownAt e i fun ds => onSome (atI ds j) fun d0 => we e fun d e2 => f d0 d fun r => ownAt e2 i fun ds2 => onIx ds2.length j fun m => P.nx (e2.set i (.own (ds2.set m r)))
theorem jAugIx {i : Nat} {f : D → D → (D → Prop) → Prop} {op : Operator} {wi we : WE} (ho : PIp X op (rD2 X.K f)) (hi : JE X io ix wi) (h : JE X io e we) (hN : X.N[i]? = some x := by rfl) (hv : Vis X.env.scope x := by first | exact Or.inl rfl | exact Or.inr (Or.inl rfl) | exact Or.inr (Or.inr rfl)) (hd : (x == ("__debug__" : Str)) = false := by decide) (hcd : (x == ("__classdict__" : Str)) = false := by decide)
    (ha : ∀ ov iv new, augStore ix ov iv new = (do holding [new, ov, iv] (setItem ov iv new); release [new, ov, iv] []; pure .next) := by intros; rfl) :
    JS X io (.AugAssign (.Subscript (.Name x p0) ix ps) op e pos) (sAugIx i f wi we) := fun G hG => by
  refine ps_to (ps_augS (pe_var hN hv hd hcd) (hi G hG) pget_own (h G hG) ho set_list ha) ?_
  rintro E σ H ⟨S, env, P, A, w, k⟩
  obtain ⟨ds0, ho0, w⟩ := ownAt_ok w
  obtain ⟨c, xs0, hy, _⟩ := A.own ho0
  refine ⟨_, hy, S, env, _, A, w, fun k1 e1 p1 v1 H1 S1 s1 A1 r1 => ?_⟩
  obtain ⟨j, rfl, p2⟩ := onInt_ok p1
  obtain ⟨ds, ho1, p3⟩ := ownAt_ok p2
  obtain ⟨d0, hd0, p4⟩ := onSome_ok p3
  obtain ⟨c', xs, q1, q2, q3, _⟩ := A1.own ho1
  rw [hy] at q1; cases q1
  cases r1
  obtain ⟨z, hz, rz⟩ := atI_dr q3 hd0
  refine ⟨c, xs, j, z, rfl, rfl, SqL.of q2, hz, S1, e1, _, A1, p4, fun d e2 p5 v2 H2 S2 s2 A2 r2 => ?_⟩
  refine ⟨S2, d0, d, _, A2.sH, (rz.mono s2).dk A2.sH, r2.dk A2.sH, p5, fun r pr v H3 S3 ex rr => ?_⟩
  obtain ⟨ds2, ho2, p6⟩ := ownAt_ok pr
  obtain ⟨m, hm, p7⟩ := onIx_ok p6
  have A3 := A2.ext ex
  obtain ⟨c2, xs2, q1, q4, q5, _⟩ := A3.own ho2
  rw [hy] at q1; cases q1
  refine ⟨c, xs2, j, m, rfl, rfl, q4, by rw [q5.length]; exact hm, ?_⟩
  exact k.nx _ p7 _ _ _ (s1.trans (s2.trans ex.s)) (A3.change ho2 hy (q5.set rr m))
end
/-! ### what a def of the program is, to its callers -/
structure Def_ (P : Program) (w : World) (K : Frag) (mg : Str → Option Value) (base : Heap) (x : Str) (ps : List Str) (sp : Sp) (k : Nat) : Prop where
  ex : ∃ (f : Addr) (fd : FuncData), FnOk P w K mg base CX0 k f fd ps sp ∧ mg x = some (.ref f) ∧ PySem.W.keepIn K (.ref f) = true ∧ Binds K fd ps []
/-- the names that the module leaves to the built-ins -/
structure Bt (mg : Str → Option Value) : Prop where
  len : mg "len" = none
  range : mg "range" = none
  list : mg "list" = none
  tuple : mg "tuple" = none
  int : mg "int" = none
  abs : mg "abs" = none
  sum : mg "sum" = none
  max : mg "max" = none
  min : mg "min" = none
  all : mg "all" = none
  any : mg "any" = none
  zip : mg "zip" = none
  enumerate : mg "enumerate" = none
  sorted : mg "sorted" = none
  set : mg "set" = none
  dict : mg "dict" = none
  isinstance : mg "isinstance" = none
  repr : mg "repr" = none
  str : mg "str" = none
  bool : mg "bool" = none
section
variable {X : Cx} {io : List Nat} {e a b : Expr} {es : List Expr} {pos p : Pos} {x : Str} {k j : Nat} {ps : List Str} {F : FSpec} {ws : WA}
theorem dCall (D : Def_ X.prog X.w X.K X.mg X.base x ps (PFn X.K F) k) (hr : Room j X.A) (ha : JA X io (e :: es) ws) (hkj : k ≤ j := by decide) (hg : Gl X x := by rfl)
    (hdb : (x == ("__debug__" : Str)) = false := by decide) (he : starEach (e :: es) X.env = (false, eval e X.env) :: starEach es X.env := by rfl) (hpl : (backTo pos (starEach es X.env)).any (·.1) = false := by rfl) :
    JE X io (.Call (.Name x p) (e :: es) [] pos) (wCall F ws) := by
  obtain ⟨f, fd, hF, hm, hk, hb⟩ := D.ex
  exact jCall hF (hr.mono hkj) hg hm hk hb ha hdb he hpl
theorem dCallS (D : Def_ X.prog X.w X.K X.mg X.base x ps (PFn X.K F) k) (hr : Room j X.A) (ha : JA X io (e :: es) ws) (hkj : k ≤ j := by decide) (hg : Gl X x := by rfl)
    (hdb : (x == ("__debug__" : Str)) = false := by decide) (he : starEach (e :: es) X.env = (false, eval e X.env) :: starEach es X.env := by rfl) (hpl : (backTo pos (starEach es X.env)).any (·.1) = false := by rfl) :
    JE X io (.Call (.Name x p) (e :: es) [] pos) (wCallS F ws) := by
  obtain ⟨f, fd, hF, hm, hk, hb⟩ := D.ex
  exact jCallS hF (hr.mono hkj) hg hm hk hb ha hdb he hpl
theorem dCallI {i : Nat} {x0 : Str} {p0 : Pos} (D : Def_ X.prog X.w X.K X.mg X.base x ps (PIo X.K F) k) (hr : Room j X.A) (ha : JA X io es ws) (hkj : k ≤ j := by decide) (hg : Gl X x := by rfl)
    (hN : X.N[i]? = some x0 := by rfl) (hv : Vis X.env.scope x0 := by first | exact Or.inl rfl | exact Or.inr (Or.inl rfl) | exact Or.inr (Or.inr rfl)) (hd : (x0 == ("__debug__" : Str)) = false := by decide) (hcd : (x0 == ("__classdict__" : Str)) = false := by decide)
    (hdb : (x == ("__debug__" : Str)) = false := by decide) (he : starEach (.Name x0 p0 :: es) X.env = (false, eval (.Name x0 p0) X.env) :: starEach es X.env := by rfl) (hpl : (backTo pos (starEach es X.env)).any (·.1) = false := by rfl) :
    JE X io (.Call (.Name x p) (.Name x0 p0 :: es) [] pos) (wCallI F i ws) := by
  obtain ⟨f, fd, hF, hm, hk, hb⟩ := D.ex
  exact jCallI hF (hr.mono hkj) hg hm hk hb ha hN hv hd hcd hdb he hpl
theorem hu64 (hr : Room j X.A) : X.A.units + 64 < cLine := hr.units
theorem hu65 (hr : Room j X.A) : X.A.units + 65 < cLine := by have := hr.un; omega
def fAddI (d e : D) (Q : D → Prop) : Prop := match d, e with
  | .int i, .int j => Q (.int (i + j))
  | _, _ => False
theorem pip_of {op : Operator} {f : Int → Int → Int} {g : D → D → (D → Prop) → Prop} {C : Int → Int → Prop} (h : OpR X (inplaceOp op) (rI C fun i j => .int (f i j))) (hg : ∀ d e Q, g d e Q → ∃ i j, d = .int i ∧ e = .int j ∧ C i j ∧ Q (.int (f i j))) : PIp X op (rD2 X.K g) := by
  have h2 : OpR X (inplaceOp op) (rD2 X.K g) := by
    refine opr_to h ?_
    rintro x y H Q ⟨S, d, e, P, sH, rx, ry, q, k⟩
    obtain ⟨i, j, rfl, rfl, hc, q⟩ := hg _ _ _ q
    exact ⟨i, j, rx.int, ry.int, hc, k _ q _ _ _ (Ext.refl sH) (.int _)⟩
  exact h2
theorem ri_of {op : Operator} {g : Int → Int → V} (h : OpR X (inplaceOp op) (rI0 g)) : OpR X (inplaceOp op) (rI (fun _ _ => True) g) := opr_to h fun x y H Q ⟨i, j, a, b, _, q⟩ => ⟨i, j, a, b, q⟩
theorem ipAdd : PIp X .Add (rD2 X.K fAddI) := pip_of (C := fun _ _ => True) (f := fun i j => i + j) (ri_of iop_add) fun d e Q h => by
  cases d <;> cases e <;> first | exact ⟨_, _, rfl, rfl, trivial, h⟩ | cases h
theorem ipSub : PIp X .Sub (rD2 X.K fSub) := pip_of (C := fun _ _ => True) (f := fun i j => i - j) (ri_of iop_sub) fun d e Q h => by
  cases d <;> cases e <;> first | exact ⟨_, _, rfl, rfl, trivial, h⟩ | cases h
def fMulI (d e : D) (Q : D → Prop) : Prop := match d, e with
  | .int i, .int j => ((-(2 ^ 64) < i ∧ i < 2 ^ 64) ∨ (-(2 ^ 64) < j ∧ j < 2 ^ 64)) ∧ Q (.int (i * j))
  | _, _ => False
theorem ipMul : PIp X .Mult (rD2 X.K fMulI) := pip_of (C := CMul) (f := fun i j => i * j) iop_mul fun d e Q h => by
  cases d <;> cases e <;> first | exact ⟨_, _, rfl, rfl, h.1, h.2⟩ | cases h
end
end Y

namespace Y
open PySem PySem.Spec PyProof.Rows L2
/-! ### is of anything and a bool or None -/
def fIsB (d e : D) (Q : D → Prop) : Prop := match e with
  | .none => Q (.bool (isNo d))
  | .bool b => Q (.bool (isB b d))
  | _ => False
section
variable {X : Cx}
theorem op_isAny : OpR X (compareOp .Is) (fun x y H Q => ∃ b, y = .bl b ∧ Q (.bl (decide (x = .bl b))) H) := by
  intro pins s σ H x y v u Q I rx ry h
  obtain ⟨b, rfl, q⟩ := h
  cases (show u = Value.bool b from ry)
  cases x with
  | bl a =>
    cases (show v = Value.bool a from rx)
    by_cases e : a = b
    · subst e
      exact wpAny_is_self rfl ⟨.bl true, H, I, rfl, by simpa using q⟩
    · exact wpAny_is_other rfl (fun z => e (Value.bool.inj z)) ⟨.bl false, H, I, rfl, by simpa [e] using q⟩
  | non => cases rx; exact wpAny_is_other rfl (fun z => nomatch z) ⟨.bl false, H, I, rfl, q⟩
  | int i => obtain ⟨t, rfl⟩ := rx; exact wpAny_is_other rfl (fun z => nomatch z) ⟨.bl false, H, I, rfl, q⟩
  | str i => obtain ⟨t, rfl⟩ := rx; exact wpAny_is_other rfl (fun z => nomatch z) ⟨.bl false, H, I, rfl, q⟩
  | byt i => obtain ⟨t, rfl⟩ := rx; exact wpAny_is_other rfl (fun z => nomatch z) ⟨.bl false, H, I, rfl, q⟩
  | flt i => obtain ⟨t, rfl⟩ := rx; exact wpAny_is_other rfl (fun z => nomatch z) ⟨.bl false, H, I, rfl, q⟩
  | ref a => cases rx; exact wpAny_is_other rfl (fun z => nomatch z) ⟨.bl false, H, I, rfl, q⟩
  | ty a => cases rx; exact wpAny_is_other rfl (fun z => nomatch z) ⟨.bl false, H, I, rfl, q⟩
theorem isB_v {K : Frag} {S H : Hp} {v : V} {d : D} {b : Bool} (r : Dk K S H v d) : decide (v = .bl b) = isB b d := by
  cases d with
  | list ds => obtain ⟨a, xs, rfl, _⟩ := r; rfl
  | bool c =>
    rw [r.bool]
    show decide (V.bl c = V.bl b) = (b == c)
    cases b <;> cases c <;> rfl
  | _ => cases r <;> rfl
theorem opIsB : OpR X (compareOp .Is) (rD2 X.K fIsB) := by
  refine opr_to (op_isN.or op_isAny) ?_
  rintro x y H Q ⟨S, d, e, P, sH, rx, ry, h, k⟩
  cases e with
  | none => exact .inl ⟨ry.nil, by rw [isNo_v rx]; exact k _ h _ _ _ (Ext.refl sH) (.bl _)⟩
  | bool b => exact .inr ⟨b, ry.bool, by rw [isB_v rx]; exact k _ h _ _ _ (Ext.refl sH) (.bl _)⟩
  | _ => cases h
/-! ### isinstance of a built-in class -/
def tyName : D → String
  | .none => "NoneType"
  | .bool _ => "bool"
  | .int _ => "int"
  | .str _ => "str"
  | .list _ => "list"
  | .tuple _ => "tuple"
  | .dict _ => "?"
theorem tup_tyx {K : Frag} {H : Hp} {a : Addr} {xs : List V} (h : SqT K H a xs) : TyX K H (.ref a) (.type "tuple") := by
  rcases h with (h | ⟨o, h⟩) | ⟨o, its, n, hk, hc, _⟩
  · exact .base (.tup h)
  · exact .fTuple h
  · exact .kTuple hk hc
theorem Dk.tyx {K : Frag} {S H : Hp} {v : V} {d : D} (e : Same S H) (r : Dk K S H v d) (h : tyName d ≠ "?") : TyX K H v (.type (tyName d)) := by
  cases d with
  | none => rw [r.nil]; exact .base .non
  | bool b => rw [r.bool]; exact .base (.bl b)
  | int i => rw [r.int]; exact .base (.int i)
  | str x => rw [r.str]; exact .base (.str x)
  | list ds => obtain ⟨a, xs, rfl, hh, _⟩ := r; exact .base (.lst hh)
  | tuple ds => obtain ⟨a, xs, rfl, hh, _⟩ := r.tup; exact tup_tyx (Same.tup e hh)
  | dict _ => exact absurd rfl h
inductive Ty where
  | str | int | bool | dict | tuple | list
def Ty.nm : Ty → String
  | .str => "str"
  | .int => "int"
  | .bool => "bool"
  | .dict => "dict"
  | .tuple => "tuple"
  | .list => "list"
def Ty.is : Ty → D → Bool
  | .str, .str _ => true
  | .int, .int _ => true
  | .int, .bool _ => true
  | .bool, .bool _ => true
  | .tuple, .tuple _ => true
  | .list, .list _ => true
  | _, _ => false
def notDict : D → Bool
  | .dict _ => false
  | _ => true
theorem ty_kit (t : Ty) (d : D) (h : notDict d = true) : kitB (tyName d) t.nm = some (t.is d) := by
  cases d with
  | none => cases t <;> decide +kernel
  | bool b =>
    have e : t.is (.bool b) = t.is (.bool true) := by cases t <;> rfl
    rw [e]
    show kitB "bool" t.nm = _
    cases t <;> decide +kernel
  | int b =>
    have e : t.is (.int b) = t.is (.int 0) := by cases t <;> rfl
    rw [e]
    show kitB "int" t.nm = _
    cases t <;> decide +kernel
  | str b =>
    have e : t.is (.str b) = t.is (.str "") := by cases t <;> rfl
    rw [e]
    show kitB "str" t.nm = _
    cases t <;> decide +kernel
  | list b =>
    have e : t.is (.list b) = t.is (.list []) := by cases t <;> rfl
    rw [e]
    show kitB "list" t.nm = _
    cases t <;> decide +kernel
  | tuple b =>
    have e : t.is (.tuple b) = t.is (.tuple []) := by cases t <;> rfl
    rw [e]
    show kitB "tuple" t.nm = _
    cases t <;> decide +kernel
  | dict _ => exact absurd (show false = true from h) Bool.false_ne_true
theorem ty_ne {d : D} (h : notDict d = true) : tyName d ≠ "?" := by
  cases d with
  | none => show "NoneType" ≠ "?"; decide
  | bool b => show "bool" ≠ "?"; decide
  | int b => show "int" ≠ "?"; decide
  | str b => show "str" ≠ "?"; decide
  | list b => show "list" ≠ "?"; decide
  | tuple b => show "tuple" ≠ "?"; decide
  | dict _ => exact absurd (show false = true from h) Bool.false_ne_true
def fIsi (T : Ty) (d : D) (Q : D → Prop) : Prop := notDict d = true ∧ Q (.bool (T.is d))
variable {io : List Nat} {e a b : Expr} {pos p p2 : Pos}
theorem jIsi {Ty0 : Ty} {T : String} (hT : Ty0.nm = T) {wa : WO} (hg : Gl X "isinstance") (hm : X.mg "isinstance" = none) (hg2 : Gl X (Str.ofString T)) (hm2 : X.mg (Str.ofString T) = none) (hv2 : bootBuiltins (Str.ofString T) = some (.type T)) (ha : JO X io e wa) (hn2 : Str.ofString T ≠ "__name__" := by decide) (hd2 : (Str.ofString T == ("__debug__" : Str)) = false := by decide)
    (hs : starEach [e, .Name (Str.ofString T) p2] X.env = (false, eval e X.env) :: starEach [.Name (Str.ofString T) p2] X.env := by rfl) (hs2 : starEach [.Name (Str.ofString T) p2] X.env = (false, eval (.Name (Str.ofString T) p2) X.env) :: starEach [] X.env := by rfl)
    (hpl : (backTo pos (starEach [.Name (Str.ofString T) p2] X.env)).any (·.1) = false := by rfl) :
    JE X io (.Call (.Name "isinstance" p) [e, .Name (Str.ofString T) p2] [] pos) (wU (fIsi Ty0) wa) := fun G hG => by
  subst hT
  refine pe_to (pe_callB call_isi hg hm (by decide +kernel) (pa_cons (ha G hG) (pa_cons (pe_bltn (v := .ty _) (pos := p2) hg2 hm2 hv2 rfl hn2 hd2) pa_nil hs2) hs) (by decide) (by decide) hs hpl) ?_
  rintro σ H Q ⟨S, env, P, A, w, k⟩
  refine ⟨S, env, _, A, w, fun x e1 p1 v1 H1 S1 s1 A1 r1 => ?_⟩
  obtain ⟨d, g1, h, p⟩ := get1_ok p1
  have hd : tyName d ≠ "?" := ty_ne h
  exact ⟨v1, .ty _, _, _, _, rfl, .ty _, (r1.dk A1 g1).tyx A1.sH hd, kit_ty (ty_kit Ty0 d h), k _ _ p _ _ _ s1 A1 (.bl _)⟩
/-! ### repr of ints and texts -/
def fRepr (ds : List D) (Q : D → Prop) : Prop := match ds with
  | [.int i] => i.natAbs.log2 < 1920 ∧ Q (.str (toString i))
  | [.str x] => (reprText x).length ≤ sizeLine ∧ Q (.str (reprText x))
  | _ => False
theorem call_repr_str : CallR X (.builtin "repr") (fun xs H Q => ∃ x, xs = [.str x] ∧ (reprText x).length ≤ sizeLine ∧ Q (.str (reprText x)) H) := by
  intro pins s σ H xs us Q I r h
  obtain ⟨x, rfl, hz, q⟩ := h
  obtain ⟨u, rfl, t, rfl⟩ := vals1 r
  exact PySem.P.repr_of_str ⟨.str _, H, I.tok _, ⟨_, rfl⟩, q⟩ (hsz := hz)
theorem cRepr : CallR X (.builtin "repr") (rDn X.K fRepr) := by
  refine callr_to (SkE.call_repr_int.or call_repr_str) ?_
  rintro vs H Q ⟨S, ds, P, sH, r, h, k⟩
  unfold fRepr at h
  split at h
  · obtain ⟨v, rfl, rd⟩ := r.one
    exact .inl ⟨_, by rw [rd.int], h.1, k _ h.2 _ _ _ (Ext.refl sH) (.str _)⟩
  · obtain ⟨v, rfl, rd⟩ := r.one
    exact .inr ⟨_, by rw [rd.str], h.1, k _ h.2 _ _ _ (Ext.refl sH) (.str _)⟩
  · cases h
/-! ### index -/
def fIndex (d e : D) (Q : D → Prop) : Prop := match d with
  | .list ds => (shp (.list ds) ∧ shp e) ∧ ∃ j, (∃ z, ds[j]? = some z ∧ PyData.eqv z e = true) ∧ (∀ (m : Nat) z', m < j → ds[m]? = some z' → PyData.eqv z' e = false) ∧ Q (.int (j : Nat))
  | _ => False
def isL : D → Bool
  | .list _ => true
  | _ => false
def wMtL (f : D → D → (D → Prop) → Prop) (wa wb : WO) : WE := fun env P => wa env fun x e1 => get1 x e1 fun d0 => isL d0 = true ∧ wb e1 fun y e2 => get2 x y e2 fun d e => f d e fun r => P r e2
theorem jIndex {wa wb : WO} (ha : JO X io a wa) (hb : JO X io b wb)
    (hbm : ∀ to t, PE X a to → PA X [b] t → PE X (.Call (.Attribute a "index" p) [b] [] pos) (tBM X.K "list" (rIndexD X.K) to t))
    (hst : starEach [b] X.env = (false, eval b X.env) :: starEach [] X.env := by rfl) :
    JE X io (.Call (.Attribute a "index" p) [b] [] pos) (wMtL fIndex wa wb) := fun G hG => by
  refine pe_to (hbm _ _ (ha G hG) (pa_cons (hb G hG) pa_nil hst)) ?_
  rintro σ H Q ⟨S, env, P, A, w, k⟩
  refine ⟨S, env, _, A, w, fun x e1 p1 v1 H1 S1 s1 A1 r1 => ?_⟩
  obtain ⟨d0, g0, hL, p1⟩ := get1_ok p1
  have k0 := r1.dk A1 g0
  cases d0 with
  | list ds0 =>
    obtain ⟨q0, xs0, rfl, hq0, _⟩ := k0
    refine ⟨ty_own hq0, S1, e1, _, A1, p1, fun y e2 p2 v2 H2 S2 s2 A2 r2 => ?_⟩
    obtain ⟨d, e, g1, g2, p⟩ := get2_ok p2
    cases d with
    | list ds =>
      obtain ⟨⟨h1, h2⟩, j, ⟨z, hz, hzj⟩, hno, q⟩ := p
      have kx := (r1.mono s2).dk A2 g1
      exact ⟨q0, v2, e, ds, j, z, rfl, rfl, kx.dp A2.sH h1, (r2.dk A2 g2).dp A2.sH h2, h1, h2, hz, hzj, hno, k _ _ q _ _ _ (s1.trans s2) A2 (.int _)⟩
    | _ => cases p
  | _ => exact absurd (show false = true from hL) Bool.false_ne_true
/-! ### what the proof never comes to -/
def wNo : WE := fun _ _ => False
theorem jNo : JE X io e wNo := fun G hG => ⟨fun pins s σ H Q I ⟨S, env, P, A, w, k⟩ => w.elim⟩
/-! ### tuple.index of texts -/
def strs? : List D → Option (List Str)
  | [] => some []
  | .str x :: r => (strs? r).map (x :: ·)
  | _ :: _ => none
theorem strs_ok {K : Frag} {S : Hp} : ∀ {ds : List D} {ys : List Str} {vs : List V}, strs? ds = some ys → DrAll K S vs ds → vs = ys.map V.str
  | [], ys, _, h, .nil => by cases h; rfl
  | .str x :: r, ys, _, h, .cons a b => by
    unfold strs? at h
    cases e : strs? r with
    | none => rw [e] at h; cases h
    | some zs =>
      rw [e] at h; cases h
      cases a
      rw [strs_ok e b]; rfl
  | .none :: _, _, _, h, _ => by cases h
  | .bool _ :: _, _, _, h, _ => by cases h
  | .int _ :: _, _, _, h, _ => by cases h
  | .list _ :: _, _, _, h, _ => by cases h
  | .tuple _ :: _, _, _, h, _ => by cases h
  | .dict _ :: _, _, _, h, _ => by cases h
def fIndexT (d e : D) (Q : D → Prop) : Prop := match d, e with
  | .tuple ds, .str z => onSome (strs? ds) fun ys => ∃ j, ys[j]? = some z ∧ (∀ m, m < j → ys[m]? ≠ some z) ∧ Q (.int (j : Nat))
  | _, _ => False
end
end Y
namespace Y
open PySem PySem.Spec PyProof.Rows L2
section
variable {X : Cx} {io : List Nat} {e a b : Expr} {pos p p2 : Pos}
/-! ### the module's constants -/
theorem jGlob {x : Str} {d : D} {a : Addr} (hg : Gl X x) (hm : X.mg x = some (.ref a)) (hr : ∀ S, Dr X.K S (.ref a) d) (hd : (x == ("__debug__" : Str)) = false := by decide) : JE X io (.Name x pos) (wK d) := fun G hG =>
  pe_to (pe_glob (v := .ref a) hg hm rfl hd) fun σ H Q ⟨S, env, P, A, w, k⟩ => k _ _ w _ _ _ (Same.refl _) A (hr S)
/-- a tuple of texts that the module's top has written -/
structure KTup (K : Frag) (mg : Str → Option Value) (x : Str) (ys : List Str) : Prop where
  ex : ∃ (a : Addr) (o : Obj) (its : Array Value) (n : Nat), mg x = some (.ref a) ∧ K.lookup a = some o ∧ o.cls = .type "tuple" ∧ o.dict = none ∧ o.data = .seq its n ∧ its.size ≤ sizeLine ∧ Vals (ys.map V.str) its.toList
theorem strs_dr {K : Frag} {S : Hp} : ∀ ys : List Str, DrAll K S (ys.map V.str) (ys.map PyData.str)
  | [] => .nil
  | y :: ys => .cons (.str y) (strs_dr ys)
theorem jKT {x : Str} {ys : List Str} (hg : Gl X x) (h : KTup X.K X.mg x ys) (hd : (x == ("__debug__" : Str)) = false := by decide) : JE X io (.Name x pos) (wK (.tuple (ys.map PyData.str))) := by
  obtain ⟨a, o, its, n, h1, h2, h3, h4, h5, h6, h7⟩ := h.ex
  exact jGlob hg h1 (fun S => .tup (.inr ⟨o, its, n, h2, h3, h5, h6, h7⟩) (strs_dr ys)) hd
def wIxT (ys : List Str) (wb : WO) : WE := fun env P => wb env fun y e2 => get1 y e2 fun d => match d with
  | .str z => ∃ j, ys[j]? = some z ∧ (∀ m, m < j → ys[m]? ≠ some z) ∧ P (.int (j : Nat)) e2
  | _ => False
theorem jIxT {x : Str} {ys : List Str} {wb : WO} (h : KTup X.K X.mg x ys) (hg : Gl X x) (hb : JO X io b wb)
    (hbm : ∀ to t, PE X (.Name x p2) to → PA X [b] t → PE X (.Call (.Attribute (.Name x p2) "index" p) [b] [] pos) (tBM X.K "tuple" (fun x xs H Q => ∃ p, ∃ ys : List Str, ∃ z j, x = .ref p ∧ xs = [.str z] ∧ SqT X.K H p (ys.map V.str) ∧ ys[j]? = some z ∧ (∀ m, m < j → ys[m]? ≠ some z) ∧ Q (.int (j : Nat)) H) to t) := by exact fun to t ho ha => pe_bm PySem.F.plainAttrs_tuple PySem.F.slot_tuple_index PySem.F.type_tuple_index mt_tup_index ho ha)
    (hd : (x == ("__debug__" : Str)) = false := by decide) (hst : starEach [b] X.env = (false, eval b X.env) :: starEach [] X.env := by rfl) :
    JE X io (.Call (.Attribute (.Name x p2) "index" p) [b] [] pos) (wIxT ys wb) := fun G hG => by
  obtain ⟨a, o, its, n, h1, h2, h3, h4, h5, h6, h7⟩ := h.ex
  refine pe_to (hbm _ _ (pe_glob (v := .ref a) hg h1 rfl hd) (pa_cons (hb G hG) pa_nil hst)) ?_
  rintro σ H Q ⟨S, env, P, A, w, k⟩
  refine ⟨.inr (.inl ⟨rfl, o, h2, h3, h4⟩), S, env, _, A, w, fun y e1 p1 v1 H1 S1 s1 A1 r1 => ?_⟩
  obtain ⟨d, g1, p⟩ := get1_ok p1
  cases d with
  | str z =>
    obtain ⟨j, q1, q2, q3⟩ := p
    exact ⟨a, ys, z, j, rfl, by rw [(r1.dk A1 g1).str], .inr ⟨o, its, n, h2, h3, h5, h6, h7⟩, q1, q2, k _ _ q3 _ _ _ s1 A1 (.int _)⟩
  | _ => cases p
/-! ### list(range(..)) -/
def rgD (a b : Int) : List D := rng a b
theorem rg_dr {K : Frag} {S : Hp} {a b : Int} : DrAll K S (rgV a b) (rng a b) := by
  unfold rgV rng
  generalize List.range (b - a).toNat = l
  induction l with
  | nil => exact .nil
  | cons i l ih => exact .cons (.int _) ih
end
end Y

namespace Y
open PySem PySem.Spec PyProof.Rows L2
/-! ### readings, answered -/
theorem if_t {c : Bool} {A B : Prop} (h : c = true) (k : A) : if c = true then A else B := by rw [if_pos h]; exact k
theorem if_f {c : Bool} {A B : Prop} (h : c = false) (k : B) : if c = true then A else B := by rw [if_neg (by rw [h]; decide)]; exact k
theorem if_c {c : Bool} {A B : Prop} (ht : c = true → A) (hf : c = false → B) : if c = true then A else B := by
  cases c with
  | true => exact if_t rfl (ht rfl)
  | false => exact if_f rfl (hf rfl)
theorem forL_inv {g : WG} {b : WS} {P : Po} : ∀ {ds : List D} {env : List Sl} (I : Nat → List Sl → Prop), I 0 env →
    (∀ (i : Nat) d e, ds[i]? = some d → I i e → g d e fun e1 => b e1 { nx := I (i + 1), rt := P.rt, bk := P.nx, ct := I (i + 1) }) → (∀ e, I ds.length e → P.nx e) → sForL g b ds env P
  | [], env, I, h0, _, hd => hd env h0
  | d :: ds, env, I, h0, hs, hd => ⟨I 1, fun e h => forL_inv (ds := ds) (fun i e => I (i + 1) e) h (fun i d' e' hi h' => hs (i + 1) d' e' hi h') hd, hs 0 d env rfl h0⟩
theorem forM_inv {α : Type} {f : α → D} {g : WG} {b : WS} {P : Po} {xs : List α} {env : List Sl} (I : Nat → List Sl → Prop) (h0 : I 0 env)
    (hs : ∀ (i : Nat) x e, xs[i]? = some x → I i e → g (f x) e fun e1 => b e1 { nx := I (i + 1), rt := P.rt, bk := P.nx, ct := I (i + 1) }) (hd : ∀ e, I xs.length e → P.nx e) : sForL g b (xs.map f) env P :=
  forL_inv I h0 (fun i d e hi h => by
    rw [List.getElem?_map] at hi
    cases q : xs[i]? with
    | none => rw [q] at hi; cases hi
    | some x => rw [q] at hi; cases hi; exact hs i x e q h) (by rw [List.length_map]; exact hd)
/-- over lo .. lo + n - 1 -/
theorem rng_eq {lo hi : Int} : rng lo hi = (List.range (hi - lo).toNat).map fun (i : Nat) => PyData.int (lo + (i : Int)) := rfl
theorem forR_inv {lo hi : Int} {g : WG} {b : WS} {P : Po} {env : List Sl} (I : Nat → List Sl → Prop) (h0 : I 0 env)
    (hs : ∀ (i : Nat) e, i < (hi - lo).toNat → I i e → g (.int (lo + (i : Int))) e fun e1 => b e1 { nx := I (i + 1), rt := P.rt, bk := P.nx, ct := I (i + 1) }) (hd : ∀ e, I (hi - lo).toNat e → P.nx e) : sForL g b (rng lo hi) env P := by
  rw [rng_eq]
  refine forM_inv I h0 (fun i x e hi h => ?_) (by rw [List.length_range]; exact hd)
  obtain ⟨h1, h2⟩ := List.getElem?_eq_some_iff.mp hi
  rw [List.length_range] at h1
  rw [List.getElem_range] at h2
  subst h2
  exact hs i e h1 h
theorem while_inv {t : WT} {b : WS} {P : Po} {env : List Sl} (I : Nat → List Sl → Prop) (n : Nat) (h0 : I n env)
    (hs : ∀ (m : Nat) e, I m e → t e fun c e1 => if c = true then b e1 { nx := fun e2 => ∃ m', m' < m ∧ I m' e2, rt := P.rt, bk := P.nx, ct := fun e2 => ∃ m', m' < m ∧ I m' e2 } else P.nx e1) : sWh t b env P := by
  have key : ∀ (k m : Nat) e, m < k → I m e → sWhN t b k e P := by
    intro k
    induction k with
    | zero => intro m e h; omega
    | succ k ih => exact fun m e h hi => ⟨fun e2 => ∃ m', m' < m ∧ I m' e2, fun e2 ⟨m', h1, h2⟩ => ih m' e2 (by omega) h2, hs m e hi⟩
  exact ⟨n + 1, key (n + 1) n env (Nat.lt_succ_self n) h0⟩
section
variable {g : WG} {tt : WT} {te : WE} {vs : List Nat}
/-- a comprehension's turns, by what holds of the list so far -/
theorem lcL_inv : ∀ {ds : List D} {acc : List D} {env : List Sl} {P : List D → List Sl → Prop} (I : Nat → List D → List Sl → Prop), I 0 acc env →
    (∀ (i : Nat) d acc e, ds[i]? = some d → I i acc e → g d e fun e1 => tt e1 fun b e2 => if b = true then te e2 fun y e3 => I (i + 1) (acc ++ [y]) (wipeE e3 vs) else I (i + 1) acc (wipeE e2 vs)) → (∀ acc e, I ds.length acc e → P acc e) → wLcL g tt te vs ds acc env P
  | [], acc, env, P, I, h0, _, hd => hd acc env h0
  | d :: ds, acc, env, P, I, h0, hs, hd => ⟨I 1, fun acc e h => lcL_inv (ds := ds) (fun i acc e => I (i + 1) acc e) h (fun i d' acc' e' hi h' => hs (i + 1) d' acc' e' hi h') hd, hs 0 d acc env rfl h0⟩
/-- .. that leave the slots as they are: kept by c, made by v -/
theorem lcL_pure {α : Type} {f : α → D} (c : α → Bool) (v : α → D) {env : List Sl} {P : List D → List Sl → Prop} : ∀ {xs : List α} {acc : List D},
    (∀ x ∈ xs, ∀ (T : D → List Sl → Prop) (F : List Sl → Prop), (c x = true → T (v x) env) → (c x = false → F env) → g (f x) env fun e1 => tt e1 fun b e2 => if b = true then te e2 fun y e3 => T y (wipeE e3 vs) else F (wipeE e2 vs)) →
    P (acc ++ (xs.filter c).map v) env → wLcL g tt te vs (xs.map f) acc env P
  | [], acc, _, h => show P acc env from by simpa using h
  | x :: xs, acc, hs, h => by
    refine ⟨fun acc' e' => (acc' = acc ++ ([x].filter c).map v) ∧ e' = env, ?_, hs x List.mem_cons_self (fun y e' => acc ++ [y] = acc ++ ([x].filter c).map v ∧ e' = env) (fun e' => acc = acc ++ ([x].filter c).map v ∧ e' = env) (fun hc => ⟨by simp [hc], rfl⟩) (fun hc => ⟨by simp [hc], rfl⟩)⟩
    rintro acc' e' ⟨rfl, rfl⟩
    refine lcL_pure (xs := xs) c v (fun y hy => hs y (List.mem_cons_of_mem _ hy)) ?_
    have e : (x :: xs).filter c = [x].filter c ++ xs.filter c := by rw [← List.filter_append]; rfl
    rw [e, List.map_append] at h
    rw [List.append_assoc]
    exact h
theorem lcL_map {α : Type} {f : α → D} (v : α → D) {env : List Sl} {P : List D → List Sl → Prop} {xs : List α}
    (hs : ∀ x ∈ xs, ∀ (T : D → List Sl → Prop), T (v x) env → g (f x) env fun e1 => te e1 fun y e3 => T y (wipeE e3 vs)) (h : P (xs.map v) env) : wLcL g tt_ te vs (xs.map f) [] env P := by
  refine lcL_pure (fun _ => true) v (fun x hx T F ht _ => ?_) (by rw [List.filter_eq_self.mpr fun _ _ => rfl]; exact h)
  have := hs x hx T (ht rfl)
  simpa [tt_] using this
end
/-! ### what can be compared -/
def shN (n : Nat) (d : D) : Prop := d.canLay0 = true ∧ d.depth ≤ n
theorem shN.shp {n : Nat} {d : D} (h : shN n d) (hn : n ≤ 64 := by decide) : shp d := by
  unfold Y.shp SeqAt.shaped
  rw [h.1, decide_eq_true (Nat.le_trans h.2 hn)]; rfl
theorem canLayAll_iff : ∀ {ds : List D}, PyData.canLayAll0 ds = true ↔ ∀ d ∈ ds, d.canLay0 = true
  | [] => by simp [PyData.canLayAll0]
  | d :: ds => by simp [PyData.canLayAll0, canLayAll_iff (ds := ds)]
theorem depthAll_le {n : Nat} : ∀ {ds : List D}, (∀ d ∈ ds, d.depth ≤ n) → PyData.depthAll ds ≤ n
  | [], _ => by simp [PyData.depthAll]
  | d :: ds, h => by
    simp only [PyData.depthAll]
    have h1 := h d List.mem_cons_self
    have h2 := depthAll_le (ds := ds) fun e he => h e (List.mem_cons_of_mem _ he)
    omega
theorem shN_int {n : Nat} {i : Int} : shN n (.int i) := ⟨rfl, by simp [PyData.depth]⟩
theorem shN_str {n : Nat} {i : Str} (h : PyData.strOk i = true) : shN n (.str i) := ⟨by simpa [PyData.canLay0] using h, by simp [PyData.depth]⟩
theorem shN_none {n : Nat} : shN n .none := ⟨rfl, by simp [PyData.depth]⟩
theorem shN_bool {n : Nat} {b : Bool} : shN n (.bool b) := ⟨rfl, by simp [PyData.depth]⟩
theorem shN_list {n : Nat} {ds : List D} (h : ∀ d ∈ ds, shN n d) : shN (n + 1) (.list ds) :=
  ⟨by simp only [PyData.canLay0]; exact canLayAll_iff.mpr fun d hd => (h d hd).1, by
    simp only [PyData.depth]
    have := depthAll_le (ds := ds) (n := n) fun d hd => (h d hd).2
    omega⟩
theorem shN_tuple {n : Nat} {ds : List D} (h : ∀ d ∈ ds, shN n d) : shN (n + 1) (.tuple ds) :=
  ⟨by simp only [PyData.canLay0]; exact canLayAll_iff.mpr fun d hd => (h d hd).1, by
    simp only [PyData.depth]
    have := depthAll_le (ds := ds) (n := n) fun d hd => (h d hd).2
    omega⟩
theorem shp_ints {xs : List Int} : shp (.list (xs.map PyData.int)) := (shN_list (n := 0) fun d hd => by
  obtain ⟨i, _, rfl⟩ := List.mem_map.mp hd
  exact shN_int).shp
theorem shp_intsT {xs : List Int} : shp (.tuple (xs.map PyData.int)) := (shN_tuple (n := 0) fun d hd => by
  obtain ⟨i, _, rfl⟩ := List.mem_map.mp hd
  exact shN_int).shp
/-! ### data without truth values: == is equality -/
mutual
def cln : D → Bool
  | .none => true
  | .int _ => true
  | .str _ => true
  | .list ds => clnAll ds
  | .tuple ds => clnAll ds
  | _ => false
def clnAll : List D → Bool
  | [] => true
  | d :: ds => cln d && clnAll ds
end
mutual
theorem eqv_iff : ∀ {d e : D}, cln d = true → cln e = true → (PyData.eqv d e = true ↔ d = e)
  | .none, e, _, he => by cases e <;> simp [PyData.eqv, cln] at he ⊢
  | .int i, e, _, he => by cases e <;> simp [PyData.eqv, cln] at he ⊢
  | .str i, e, _, he => by cases e <;> simp [PyData.eqv, cln] at he ⊢
  | .list ds, e, hd, he => by
    cases e with
    | list es =>
      have := eqvAll_iff (ds := ds) (es := es) (by simpa [cln] using hd) (by simpa [cln] using he)
      simp only [PyData.eqv, PyData.list.injEq]
      exact this
    | _ => simp [PyData.eqv, cln] at he ⊢
  | .tuple ds, e, hd, he => by
    cases e with
    | tuple es =>
      have := eqvAll_iff (ds := ds) (es := es) (by simpa [cln] using hd) (by simpa [cln] using he)
      simp only [PyData.eqv, PyData.tuple.injEq]
      exact this
    | _ => simp [PyData.eqv, cln] at he ⊢
  | .bool _, _, h, _ => by simp [cln] at h
  | .dict _, _, h, _ => by simp [cln] at h
theorem eqvAll_iff : ∀ {ds es : List D}, clnAll ds = true → clnAll es = true → (PyData.eqvAll ds es = true ↔ ds = es)
  | [], [], _, _ => by simp [PyData.eqvAll]
  | [], _ :: _, _, _ => by simp [PyData.eqvAll]
  | _ :: _, [], _, _ => by simp [PyData.eqvAll]
  | d :: ds, e :: es, hd, he => by
    simp only [clnAll, Bool.and_eq_true] at hd he
    simp only [PyData.eqvAll, Bool.and_eq_true, List.cons.injEq]
    rw [eqv_iff hd.1 he.1, eqvAll_iff hd.2 he.2]
end
theorem clnAll_iff : ∀ {ds : List D}, clnAll ds = true ↔ ∀ d ∈ ds, cln d = true
  | [] => by simp [clnAll]
  | d :: ds => by simp [clnAll, clnAll_iff (ds := ds)]
theorem cln_ints {xs : List Int} : clnAll (xs.map PyData.int) = true := clnAll_iff.mpr fun d hd => by
  obtain ⟨i, _, rfl⟩ := List.mem_map.mp hd
  rfl
theorem eqv_eq {d e : D} (hd : cln d = true) (he : cln e = true) [Decidable (d = e)] : PyData.eqv d e = decide (d = e) := by
  by_cases h : d = e
  · rw [decide_eq_true h]; exact (eqv_iff hd he).mpr h
  · rw [decide_eq_false h]
    cases q : PyData.eqv d e with
    | false => rfl
    | true => exact absurd ((eqv_iff hd he).mp q) h
theorem eqv_ff {d e : D} (hd : cln d = true) (he : cln e = true) (h : d ≠ e) : PyData.eqv d e = false := by
  cases q : PyData.eqv d e with
  | false => rfl
  | true => exact absurd ((eqv_iff hd he).mp q) h
theorem eqv_tt {d : D} (hd : cln d = true) : PyData.eqv d d = true := (eqv_iff hd hd).mpr rfl
theorem int_inj {xs ys : List Int} : xs.map PyData.int = ys.map PyData.int ↔ xs = ys :=
  ⟨fun h => List.map_inj_right (fun a b e => by injection e) |>.mp h, fun h => by rw [h]⟩
/-! ### items -/
theorem onSome_i {α : Type} {o : Option α} {x : α} {k : α → Prop} (h : o = some x) (hk : k x) : onSome o k := by rw [h]; exact hk
theorem atI_map {α β : Type} {xs : List α} {f : α → β} {i : Int} : atI (xs.map f) i = (atI xs i).map f := by
  unfold atI
  rw [List.length_map]
  cases ixN xs.length i with
  | none => rfl
  | some j =>
    show (xs.map f)[j]? = (xs[j]?).map f
    rw [List.getElem?_map]
theorem atI_int {xs : List Int} {i v : Int} (h : atI xs i = some v) : atI (xs.map PyData.int) i = some (.int v) := by rw [atI_map, h]; rfl
theorem strOk_of (s : String) : PyData.strOk (Str.ofString s) = true := by
  unfold PyData.strOk
  rw [Str.ofString_eq_toList, Array.all_eq_true_iff_forall_mem]
  intro c hc
  have h : c ∈ s.toList.map Char.toNat := by simpa using hc
  obtain ⟨d, _, rfl⟩ := List.mem_map.mp h
  have h := d.valid
  simp only [UInt32.isValidChar, Nat.isValidChar] at h
  have ht : d.toNat = d.val.toNat := rfl
  rw [ht]
  exact decide_eq_true (by omega)
/-- data that the law's look serves: small ints, short texts, so deep -/
def okS : Nat → D → Bool
  | 0, _ => false
  | n + 1, d => match d with
    | .none => true
    | .bool _ => true
    | .int i => decide (i.natAbs.log2 < 1920)
    | .str x => decide ((reprText x).length ≤ sizeLine) && PyData.strOk (reprText x)
    | .list ds => decide (ds.length ≤ 1048576) && ds.all (okS n)
    | .tuple ds => decide (ds.length ≤ 1048576) && ds.all (okS n)
    | .dict _ => false
/-- the law's look, where what is told is what is due -/
@[irreducible] def S_same (n : Nat) : FSpec := fun ds P => ∃ d, ds = [d, d] ∧ okS n d = true ∧ P (.bool true) []
/-! ### the head's constants, the law's end -/
def tupN (K : Frag) (x : Str) : Bool := match K.lookup (He.ga K x) with
  | some ⟨_, none, _, _⟩ => true
  | _ => false
def tupKT (K : Frag) (x : Str) (ys : List Str) : Bool := He.tupB K x (ys.map He.Dv.str) && tupN K x
theorem ktup_of {K : Frag} {mg : Str → Option Value} {x : Str} {ys : List Str} (hm : mg x = some (.ref (He.ga K x))) (h : tupKT K x ys = true) : KTup K mg x ys := by
  obtain ⟨h, hn⟩ := He.ba h
  unfold He.tupB at h
  unfold tupN at hn
  cases q : K.lookup (He.ga K x) with
  | none => rw [q] at h; cases h
  | some o =>
    obtain ⟨oc, od, dt, osl⟩ := o
    rw [q] at h hn
    cases od with
    | some _ => cases hn
    | none =>
    cases oc with
    | type c =>
      cases dt with
      | seq its n =>
        obtain ⟨h1, h2⟩ := He.ba (show (decide (c = "tuple") && (decide (its.size ≤ sizeLine) && He.relAll ((ys.map He.Dv.str).map (He.Dv.v K)) its.toList)) = true from h)
        obtain ⟨h3, h4⟩ := He.ba h2
        have h5 := He.relAll_ok h4
        rw [List.map_map] at h5
        exact ⟨_, _, its, n, hm, q, congrArg Value.type (of_decide_eq_true h1), rfl, rfl, of_decide_eq_true h3, h5⟩
      | _ => cases h
    | _ => cases dt <;> cases h
theorem law_sp {K : Frag} {H : Hp} {a : Addr} {ns : List Int} {F : FSpec} (hS : SqL K H a (ns.map V.int)) (h : F [.dict [(.none, .list (ns.map .int))]] fun d _ => d = .bool true) :
    PFn K F [.ref a] H (fun v _ => v = .bl true) fun _ _ _ => False :=
  ⟨H, _, _, Same.refl H, .cons (.scr hS) .nil, h, fun d o e v H' S' _ r => by subst e; cases r; rfl⟩
end Y

namespace P
open PySem PySem.Spec PyProof.Rows L2 Y
def K_KINDS : List Str := ["lend", "borrow", "give", "settle", "pay"]
def N_write_number : List Str := ["number", "rest", "found"]
def w_write_number : WS := sSeq (sSet (wB fMul (wO (wK (.int 2))) (wS 0)) (gN 1)) (sSeq (sIf (tB_ (wB fLt (wS 0) (wO (wK (.int 0))))) (sSet (wB fSub (wO (wB fMul (wO (wU fNeg (wO (wK (.int 2))))) (wS 0))) (wO (wK (.int 1)))) (gN 1)) (sNext)) (sSeq (sOwn (wLst (aN)) 2) (sSeq (sWh (tB_ (wB fGt (wS 1) (wO (wK (.int 127))))) (sSeq (sApp 2 (wB fAdd (wO (wB fMod (wS 1) (wO (wK (.int 128))))) (wO (wK (.int 128))))) (sSet (wB fDiv (wS 1) (wO (wK (.int 128)))) (gN 1)))) (sSeq (sApp 2 (wV 1)) (sRet (wV 2))))))
@[irreducible] def F_write_number : FSpec := runF 1 3 w_write_number
def N_read_number : List Str := ["octets", "at", "total", "scale", "start"]
def w_read_number : WS := sSeq (sSet (wK (.int 0)) (gN 2)) (sSeq (sSet (wK (.int 1)) (gN 3)) (sSeq (sSet (wV 1) (gN 4)) (sSeq (sWh (tAnd_ (tB_ (wB fLt (wS 1) (wO (wC fLen (aC (wS 0) (aN)))))) (tB_ (wB fGt (wO (wB fIx (wS 0) (wS 1))) (wO (wK (.int 127)))))) (sSeq (sAug 2 fAddI (wB fMul (wO (wB fSub (wO (wB fIx (wS 0) (wS 1))) (wO (wK (.int 128))))) (wS 3))) (sSeq (sAug 3 fMulI (wK (.int 128))) (sAug 1 fAddI (wK (.int 1)))))) (sSeq (sIf (tOr_ (tB_ (wB fGe (wS 1) (wO (wC fLen (aC (wS 0) (aN)))))) (tAnd_ (tB_ (wB fEq (wO (wB fIx (wS 0) (wS 1))) (wO (wK (.int 0))))) (tB_ (wB fGt (wS 1) (wS 4))))) (sRet (wK .none)) (sNext)) (sSeq (sAug 2 fAddI (wB fMul (wO (wB fIx (wS 0) (wS 1))) (wS 3))) (sSeq (sIf (tB_ (wB fEq (wO (wB fMod (wS 2) (wO (wK (.int 2))))) (wO (wK (.int 1))))) (sRet (wTup (aC (wO (wB fDiv (wO (wU fNeg (wO (wB fAdd (wS 2) (wO (wK (.int 1))))))) (wO (wK (.int 2))))) (aC (wO (wB fAdd (wS 1) (wO (wK (.int 1))))) (aN))))) (sNext)) (sRet (wTup (aC (wO (wB fDiv (wS 2) (wO (wK (.int 2))))) (aC (wO (wB fAdd (wS 1) (wO (wK (.int 1))))) (aN)))))))))))
@[irreducible] def F_read_number : FSpec := runF 2 5 w_read_number
def N_check_of : List Str := ["octets", "found", "octet"]
def w_check_of : WS := sSeq (sSet (wK (.int 7)) (gN 1)) (sSeq (sFor (iSq (wV 0)) (gN 2) (sSet (wB fMod (wO (wB fAdd (wO (wB fMul (wS 1) (wO (wK (.int 31))))) (wS 2))) (wO (wK (.int 251)))) (gN 1))) (sRet (wV 1)))
@[irreducible] def F_check_of : FSpec := runF 1 3 w_check_of
def N_record : List Str := ["deed", "body"]
def w_record : WS := sSeq (sSet (wB fAdd (wO (wB fAdd (wO (wFz (wLst (aC (wO (wIxT K_KINDS (wO (wB fIx (wS 0) (wO (wK (.int 0))))))) (aN))))) (wO (wCall F_write_number (aC (wO (wB fIx (wS 0) (wO (wK (.int 1))))) (aN)))))) (wO (wCall F_write_number (aC (wO (wB fIx (wS 0) (wO (wK (.int 2))))) (aN))))) (gN 1)) (sRet (wB fAdd (wO (wB fAdd (wO (wFz (wLst (aC (wO (wC fLen (aC (wS 1) (aN)))) (aN))))) (wS 1))) (wO (wFz (wLst (aC (wO (wCall F_check_of (aC (wO (wV 1)) (aN)))) (aN)))))))
@[irreducible] def F_record : FSpec := runF 1 2 w_record
def N_read_record : List Str := ["octets", "at", "size", "body", "house", "coins"]
def w_read_record : WS := sSeq (sIf (tOr_ (tB_ (wB fGe (wS 1) (wO (wC fLen (aC (wS 0) (aN)))))) (tB_ (wB fGt (wO (wB fAdd (wO (wB fAdd (wS 1) (wO (wB fIx (wS 0) (wS 1))))) (wO (wK (.int 2))))) (wO (wC fLen (aC (wS 0) (aN))))))) (sRet (wK .none)) (sNext)) (sSeq (sSet (wB fIx (wS 0) (wS 1)) (gN 2)) (sSeq (sSet (wSl (wS 0) (pI (wB fAdd (wS 1) (wO (wK (.int 1))))) (pI (wB fAdd (wO (wB fAdd (wS 1) (wO (wK (.int 1))))) (wS 2)))) (gN 3)) (sSeq (sIf (tOr_ (tB_ (wB fEq (wS 2) (wO (wK (.int 0))))) (tOr_ (tB_ (wB fNe (wO (wB fIx (wS 0) (wO (wB fAdd (wO (wB fAdd (wS 1) (wO (wK (.int 1))))) (wS 2))))) (wO (wCall F_check_of (aC (wO (wV 3)) (aN)))))) (tB_ (wB fGe (wO (wB fIx (wS 3) (wO (wK (.int 0))))) (wO (wC fLen (aC (wO (wK (.tuple (K_KINDS.map PyData.str)))) (aN)))))))) (sRet (wK .none)) (sNext)) (sSeq (sSet (wCall F_read_number (aC (wO (wV 3)) (aC (wO (wK (.int 1))) (aN)))) (gN 4)) (sSeq (sIf (tB_ (wB fIsB (wS 4) (wO (wK .none)))) (sRet (wK .none)) (sNext)) (sSeq (sSet (wCall F_read_number (aC (wO (wV 3)) (aC (wO (wB fIx (wS 4) (wO (wK (.int 1))))) (aN)))) (gN 5)) (sSeq (sIf (tOr_ (tB_ (wB fIsB (wS 5) (wO (wK .none)))) (tB_ (wB fNe (wO (wB fIx (wS 5) (wO (wK (.int 1))))) (wS 2)))) (sRet (wK .none)) (sNext)) (sRet (wTup (aC (wO (wTup (aC (wO (wB fIx (wO (wK (.tuple (K_KINDS.map PyData.str)))) (wO (wB fIx (wS 3) (wO (wK (.int 0))))))) (aC (wO (wB fIx (wS 4) (wO (wK (.int 0))))) (aC (wO (wB fIx (wS 5) (wO (wK (.int 0))))) (aN)))))) (aC (wO (wB fAdd (wO (wB fAdd (wS 1) (wS 2))) (wO (wK (.int 2))))) (aN))))))))))))
@[irreducible] def F_read_record : FSpec := runF 2 6 w_read_record
def N_law_cell : List Str := ["script", "k"]
def w_law_cell : WS := sSeq (sIf (tB_ (wB fLt (wS 1) (wO (wC fLen (aC (wS 0) (aN)))))) (sRet (wB fIx (wS 0) (wS 1))) (sNext)) (sRet (wK (.int 0)))
@[irreducible] def F_law_cell : FSpec := runF 2 2 w_law_cell
def N_law_digits : List Str := ["script", "first", "last", "digits", "k", "cell", "turn", "seed"]
def w_law_digits : WS := sSeq (sOwn (wLst (aN)) 3) (sSeq (sFor (iR2 (aC (wS 1) (aC (wS 2) (aN)))) (gN 4) (sSeq (sSet (wCall F_law_cell (aC (wO (wV 0)) (aC (wO (wV 4)) (aN)))) (gN 5)) (sSeq (sIf (tB_ (wB fLt (wS 5) (wO (wK (.int 0))))) (sSet (wB fSub (wO (wK (.int 1))) (wO (wB fMul (wO (wK (.int 2))) (wS 5)))) (gN 5)) (sNext)) (sIf (tB_ (wB fGe (wS 5) (wO (wB fPow (wO (wK (.int 10))) (wO (wK (.int 18))))))) (sFor (iR1 (aC (wO (wK (.int 60))) (aN))) (gN 6) (sIf (tB_ (wB fGt (wS 5) (wO (wK (.int 0))))) (sSeq (sApp 3 (wB fMod (wO (wC fInt (aC (wS 5) (aN)))) (wO (wK (.int 1000))))) (sSet (wB fDiv (wS 5) (wO (wK (.int 1000)))) (gN 5))) (sNext))) (sSeq (sSet (wB fMod (wO (wC fInt (aC (wO (wB fAdd (wO (wB fAdd (wO (wB fMul (wS 5) (wO (wK (.int 48271))))) (wO (wB fMul (wS 4) (wO (wK (.int 69621))))))) (wO (wK (.int 11))))) (aN)))) (wO (wK (.int 2147483647)))) (gN 7)) (sFor (iR1 (aC (wO (wK (.int 12))) (aN))) (gN 6) (sSeq (sSet (wB fMod (wO (wC fInt (aC (wO (wB fAdd (wO (wB fAdd (wO (wB fMul (wS 7) (wO (wK (.int 16807))))) (wO (wB fMul (wO (wK (.int 7))) (wS 6))))) (wO (wK (.int 1))))) (aN)))) (wO (wK (.int 2147483647)))) (gN 7)) (sApp 3 (wB fMod (wO (wC fInt (aC (wO (wB fDiv (wS 7) (wO (wK (.int 997))))) (aN)))) (wO (wK (.int 1000)))))))))))) (sRet (wV 3)))
@[irreducible] def F_law_digits : FSpec := runF 3 8 w_law_digits
def N_law_draw : List Str := ["box", "many"]
def w_law_draw : WS := sSeq (sSet (wB fAdd (wO (wB fIx (wS 0) (wO (wK (.int 1))))) (wO (wK (.int 1)))) (gIx 0 (wK (.int 1)))) (sSeq (sIf (tB_ (wB fGt (wO (wB fIx (wS 0) (wO (wK (.int 1))))) (wO (wC fLen (aC (wO (wB fIx (wS 0) (wO (wK (.int 0))))) (aN)))))) (sRet (wB fMod (wO (wC fInt (aC (wO (wB fAdd (wO (wB fMul (wO (wB fIx (wS 0) (wO (wK (.int 1))))) (wO (wK (.int 7))))) (wO (wK (.int 3))))) (aN)))) (wS 1))) (sNext)) (sRet (wB fMod (wO (wC fInt (aC (wO (wB fIx (wO (wB fIx (wS 0) (wO (wK (.int 0))))) (wO (wB fSub (wO (wB fIx (wS 0) (wO (wK (.int 1))))) (wO (wK (.int 1))))))) (aN)))) (wS 1))))
@[irreducible] def F_law_draw : FSpec := runI 2 2 w_law_draw
def N_law_pick : List Str := ["box", "row"]
def w_law_pick : WS := sRet (wB fIx (wS 1) (wO (wB fMod (wO (wC fInt (aC (wO (wCallI F_law_draw 0 (aC (wO (wK (.int 1000))) (aN)))) (aN)))) (wO (wC fLen (aC (wS 1) (aN)))))))
@[irreducible] def F_law_pick : FSpec := runI 2 2 w_law_pick
def N_law_same : List Str := ["told", "due", "k"]
def w_law_same (Fr : FSpec) : WS := sSeq (sIf (tB_ (wB fIsB (wS 1) (wO (wK .none)))) (sRet (wB fIsB (wS 0) (wO (wK .none)))) (sNext)) (sSeq (sIf (tB_ (wB fIsB (wS 1) (wO (wK (.bool true))))) (sRet (wB fIsB (wS 0) (wO (wK (.bool true))))) (sNext)) (sSeq (sIf (tB_ (wB fIsB (wS 1) (wO (wK (.bool false))))) (sRet (wB fIsB (wS 0) (wO (wK (.bool false))))) (sNext)) (sSeq (sIf (tB_ (wU (fIsi .str) (wS 1))) (sRet (wAnd (wU (fIsi .str) (wS 0)) (wB fEq (wO (wC fRepr (aC (wS 0) (aN)))) (wO (wC fRepr (aC (wS 1) (aN))))))) (sNext)) (sSeq (sIf (tB_ (wU (fIsi .int) (wS 1))) (sRet (wAnd (wU (fIsi .int) (wS 0)) (wAnd (wNot (wU (fIsi .bool) (wS 0))) (wB fEq (wO (wC fRepr (aC (wS 0) (aN)))) (wO (wC fRepr (aC (wS 1) (aN)))))))) (sNext)) (sSeq (sIf (tB_ (wU (fIsi .dict) (wS 1))) (sRet (wAnd (wU (fIsi .dict) (wS 0)) (wCall Fr (aC (wO (wFz (wCL fList (aC (wO (wNo)) (aN))))) (aC (wO (wFz (wCL fList (aC (wO (wNo)) (aN))))) (aN)))))) (sNext)) (sSeq (sIf (tOr_ (tAnd_ (tB_ (wU (fIsi .tuple) (wS 1))) (tNot_ (tB_ (wU (fIsi .tuple) (wS 0))))) (tAnd_ (tB_ (wU (fIsi .list) (wS 1))) (tNot_ (tB_ (wU (fIsi .list) (wS 0)))))) (sRet (wK (.bool false))) (sNext)) (sSeq (sIf (tB_ (wB fNe (wO (wC fLen (aC (wS 0) (aN)))) (wO (wC fLen (aC (wS 1) (aN)))))) (sRet (wK (.bool false))) (sNext)) (sSeq (sFor (iR1 (aC (wO (wC fLen (aC (wS 1) (aN)))) (aN))) (gN 2) (sIf (tNot_ (tB_ (wCall Fr (aC (wO (wB fIx (wS 0) (wS 2))) (aC (wO (wB fIx (wS 1) (wS 2))) (aN)))))) (sRet (wK (.bool false))) (sNext))) (sRet (wK (.bool true)))))))))))
@[irreducible] def F_law_same (Fr : FSpec) : FSpec := runF 2 3 (w_law_same Fr)
def N_law_octets : List Str := ["number", "rest", "found", "turn"]
def w_law_octets : WS := sSeq (sPar [1, 2] (xV (wIf (tB_ (wB fGe (wS 0) (wO (wK (.int 0))))) (wB fMul (wO (wK (.int 2))) (wS 0)) (wB fSub (wO (wB fSub (wO (wK (.int 0))) (wO (wB fMul (wO (wK (.int 2))) (wS 0))))) (wO (wK (.int 1))))) (xL (wLst (aN)) (xN)))) (sSeq (sFor (iR1 (aC (wO (wK (.int 9))) (aN))) (gN 3) (sIf (tB_ (wB fGt (wS 1) (wO (wK (.int 127))))) (sSeq (sApp 2 (wB fAdd (wO (wB fMod (wO (wC fInt (aC (wS 1) (aN)))) (wO (wK (.int 128))))) (wO (wK (.int 128))))) (sSet (wB fDiv (wS 1) (wO (wK (.int 128)))) (gN 1))) (sNext))) (sRet (wB fAdd (wS 2) (wO (wFz (wLst (aC (wO (wV 1)) (aN))))))))
@[irreducible] def F_law_octets : FSpec := runF 1 4 w_law_octets
def N_law_read : List Str := ["octets", "at", "whole", "scale", "k"]
def w_law_read : WS := sSeq (sPar [2, 3] (xV (wK (.int 0)) (xV (wK (.int 1)) (xN)))) (sSeq (sFor (iR2 (aC (wS 1) (aC (wO (wC fLen (aC (wS 0) (aN)))) (aN)))) (gN 4) (sIf (tB_ (wB fGt (wO (wB fIx (wS 0) (wS 4))) (wO (wK (.int 127))))) (sPar [2, 3] (xV (wB fAdd (wS 2) (wO (wB fMul (wO (wB fSub (wO (wB fIx (wS 0) (wS 4))) (wO (wK (.int 128))))) (wS 3)))) (xV (wB fMul (wS 3) (wO (wK (.int 128)))) (xN)))) (sSeq (sSet (wB fAdd (wS 2) (wO (wB fMul (wO (wB fIx (wS 0) (wS 4))) (wS 3)))) (gN 2)) (sSeq (sIf (tAnd_ (tB_ (wB fEq (wO (wB fIx (wS 0) (wS 4))) (wO (wK (.int 0))))) (tB_ (wB fGt (wS 4) (wS 1)))) (sRet (wK .none)) (sNext)) (sRet (wTup (aC (wO (wIf (tB_ (wB fEq (wO (wB fMod (wO (wC fInt (aC (wS 2) (aN)))) (wO (wK (.int 2))))) (wO (wK (.int 0))))) (wB fDiv (wS 2) (wO (wK (.int 2)))) (wB fSub (wO (wK (.int 0))) (wO (wB fDiv (wO (wB fAdd (wS 2) (wO (wK (.int 1))))) (wO (wK (.int 2)))))))) (aC (wO (wB fAdd (wS 4) (wO (wK (.int 1))))) (aN))))))))) (sRet (wK .none)))
@[irreducible] def F_law_read : FSpec := runF 2 5 w_law_read
def N_law_check : List Str := ["body", "found", "octet"]
def w_law_check : WS := sSeq (sSet (wK (.int 7)) (gN 1)) (sSeq (sFor (iSq (wV 0)) (gN 2) (sSet (wB fMod (wO (wC fInt (aC (wO (wB fAdd (wO (wB fMul (wO (wK (.int 31))) (wS 1))) (wS 2))) (aN)))) (wO (wK (.int 251)))) (gN 1))) (sRet (wV 1)))
@[irreducible] def F_law_check : FSpec := runF 1 3 w_law_check
def N_law_record : List Str := ["deed", "kinds", "body"]
def w_law_record : WS := sSeq (sSet (wFz (wLst (aC (wO (wK (.str "lend"))) (aC (wO (wK (.str "borrow"))) (aC (wO (wK (.str "give"))) (aC (wO (wK (.str "settle"))) (aC (wO (wK (.str "pay"))) (aN)))))))) (gN 1)) (sSeq (sSet (wB fAdd (wO (wB fAdd (wO (wFz (wLst (aC (wO (wMtL fIndex (wS 1) (wO (wB fIx (wS 0) (wO (wK (.int 0))))))) (aN))))) (wO (wCall F_law_octets (aC (wO (wB fIx (wS 0) (wO (wK (.int 1))))) (aN)))))) (wO (wCall F_law_octets (aC (wO (wB fIx (wS 0) (wO (wK (.int 2))))) (aN))))) (gN 2)) (sRet (wB fAdd (wO (wB fAdd (wO (wFz (wLst (aC (wO (wC fLen (aC (wS 2) (aN)))) (aN))))) (wS 2))) (wO (wFz (wLst (aC (wO (wCall F_law_check (aC (wO (wV 2)) (aN)))) (aN))))))))
@[irreducible] def F_law_record : FSpec := runF 1 3 w_law_record
def N_law_told : List Str := ["octets", "at", "kinds", "body", "check", "house", "coins"]
def w_law_told : WS := sSeq (sSet (wFz (wLst (aC (wO (wK (.str "lend"))) (aC (wO (wK (.str "borrow"))) (aC (wO (wK (.str "give"))) (aC (wO (wK (.str "settle"))) (aC (wO (wK (.str "pay"))) (aN)))))))) (gN 2)) (sSeq (sIf (tOr_ (tB_ (wB fGe (wS 1) (wO (wC fLen (aC (wS 0) (aN)))))) (tOr_ (tB_ (wB fEq (wO (wB fIx (wS 0) (wS 1))) (wO (wK (.int 0))))) (tB_ (wB fLt (wO (wC fLen (aC (wS 0) (aN)))) (wO (wB fAdd (wO (wB fAdd (wS 1) (wO (wB fIx (wS 0) (wS 1))))) (wO (wK (.int 2))))))))) (sRet (wK .none)) (sNext)) (sSeq (sPar [3, 4] (xV (wSl (wS 0) (pI (wB fAdd (wS 1) (wO (wK (.int 1))))) (pI (wB fAdd (wO (wB fAdd (wS 1) (wO (wK (.int 1))))) (wO (wB fIx (wS 0) (wS 1)))))) (xV (wB fIx (wS 0) (wO (wB fAdd (wO (wB fAdd (wS 1) (wO (wK (.int 1))))) (wO (wB fIx (wS 0) (wS 1)))))) (xN)))) (sSeq (sIf (tOr_ (tB_ (wB fNe (wS 4) (wO (wCall F_law_check (aC (wO (wV 3)) (aN)))))) (tB_ (wB fGt (wO (wB fIx (wS 3) (wO (wK (.int 0))))) (wO (wK (.int 4)))))) (sRet (wK .none)) (sNext)) (sSeq (sSet (wCall F_law_read (aC (wO (wV 3)) (aC (wO (wK (.int 1))) (aN)))) (gN 5)) (sSeq (sSet (wIf (tB_ (wB fIsNot (wS 5) (wO (wK .none)))) (wCall F_law_read (aC (wO (wV 3)) (aC (wO (wB fIx (wS 5) (wO (wK (.int 1))))) (aN)))) (wK .none)) (gN 6)) (sSeq (sIf (tOr_ (tB_ (wB fIsB (wS 6) (wO (wK .none)))) (tB_ (wB fNe (wO (wB fIx (wS 6) (wO (wK (.int 1))))) (wO (wC fLen (aC (wS 3) (aN))))))) (sRet (wK .none)) (sNext)) (sRet (wTup (aC (wO (wTup (aC (wO (wB fIx (wS 2) (wO (wB fIx (wS 3) (wO (wK (.int 0))))))) (aC (wO (wB fIx (wS 5) (wO (wK (.int 0))))) (aC (wO (wB fIx (wS 6) (wO (wK (.int 0))))) (aN)))))) (aC (wO (wB fAdd (wO (wB fAdd (wS 1) (wO (wB fIx (wS 0) (wS 1))))) (wO (wK (.int 2))))) (aN)))))))))))
@[irreducible] def F_law_told : FSpec := runF 2 7 w_law_told
def N_law_bent : List Str := ["box", "octets", "spot", "rows", "size", "body"]
def w_law_bent : WS := sSeq (sSet (wCallI F_law_draw 0 (aC (wO (wC fLen (aC (wS 1) (aN)))) (aN))) (gN 2)) (sSeq (sOwn (wLst (aC (wO (wSl (wS 1) (pN) (pI (wV 2)))) (aC (wO (wB fAdd (wO (wB fAdd (wO (wSl (wS 1) (pN) (pI (wV 2)))) (wO (wFz (wLst (aC (wO (wCallI F_law_draw 0 (aC (wO (wK (.int 256))) (aN)))) (aN))))))) (wO (wSl (wS 1) (pI (wB fAdd (wS 2) (wO (wK (.int 1))))) (pN))))) (aC (wO (wB fAdd (wO (wB fAdd (wO (wSl (wS 1) (pN) (pI (wV 2)))) (wO (wFz (wLst (aC (wO (wCallI F_law_draw 0 (aC (wO (wK (.int 256))) (aN)))) (aN))))))) (wO (wSl (wS 1) (pI (wV 2)) (pN))))) (aC (wO (wB fAdd (wS 1) (wO (wFz (wLst (aC (wO (wK (.int 7))) (aN))))))) (aN)))))) 3) (sSeq (sSet (wB fIx (wS 1) (wO (wK (.int 0)))) (gN 4)) (sSeq (sFor (iSq (wFz (wLst (aC (wO (wB fAdd (wO (wSl (wS 1) (pI (wK (.int 1))) (pI (wV 4)))) (wO (wFz (wLst (aC (wO (wIf (tB_ (wB fLt (wO (wB fIx (wS 1) (wS 4))) (wO (wK (.int 128))))) (wB fAdd (wO (wB fIx (wS 1) (wS 4))) (wO (wK (.int 128)))) (wB fIx (wS 1) (wS 4)))) (aC (wO (wK (.int 0))) (aN)))))))) (aC (wO (wB fAdd (wO (wFz (wLst (aC (wO (wK (.int 5))) (aN))))) (wO (wSl (wS 1) (pI (wK (.int 2))) (pI (wB fAdd (wS 4) (wO (wK (.int 1))))))))) (aC (wO (wB fAdd (wO (wSl (wS 1) (pI (wK (.int 1))) (pI (wB fAdd (wS 4) (wO (wK (.int 1))))))) (wO (wFz (wLst (aC (wO (wK (.int 0))) (aN))))))) (aC (wO (wFz (wLst (aC (wO (wK (.int 0))) (aN))))) (aN)))))))) (gN 5) (sApp 3 (wB fAdd (wO (wB fAdd (wO (wFz (wLst (aC (wO (wC fLen (aC (wS 5) (aN)))) (aN))))) (wS 5))) (wO (wFz (wLst (aC (wO (wCall F_law_check (aC (wO (wV 5)) (aN)))) (aN)))))))) (sRet (wB fAdd (wS 3) (wO (wFz (wLst (aC (wO (wFz (wLst (aC (wO (wK (.int 0))) (aC (wO (wK (.int 7))) (aN)))))) (aC (wO (wFz (wLst (aN)))) (aN)))))))))))
@[irreducible] def F_law_bent : FSpec := runI 2 6 w_law_bent
def N_law : List Str := ["script", "box", "numbers", "number", "octets", "ahead", "rows", "turn", "deed", "row", "k"]
def w_law : WS := sSeq (sOwn (wLst (aC (wO (wCall F_law_digits (aC (wO (wV 0)) (aC (wO (wK (.int 0))) (aC (wO (wK (.int 40))) (aN)))))) (aC (wO (wK (.int 0))) (aN)))) 1) (sSeq (sSet (wFz (wLc (iR1 (aC (wO (wK (.int 3))) (aN))) (gN 10) (tt_) (wB fSub (wO (wB fMul (wO (wCallI F_law_draw 1 (aC (wO (wK (.int 1000))) (aN)))) (wO (wK (.int 10))))) (wO (wB fMul (wO (wCallI F_law_draw 1 (aC (wO (wK (.int 1000))) (aN)))) (wO (wK (.int 9)))))) [10])) (gN 2)) (sSeq (sSet (wB fAdd (wS 2) (wO (wFz (wLst (aC (wO (wCallI F_law_pick 1 (aC (wO (wFz (wLst (aC (wO (wK (.int 0))) (aC (wO (wK (.int 63))) (aC (wO (wK (.int 64))) (aC (wO (wK (.int 8191))) (aC (wO (wK (.int 8192))) (aC (wO (wK (.int 9999))) (aN)))))))))) (aN)))) (aC (wO (wB fSub (wO (wK (.int 0))) (wO (wCallI F_law_pick 1 (aC (wO (wFz (wLst (aC (wO (wK (.int 1))) (aC (wO (wK (.int 64))) (aC (wO (wK (.int 65))) (aC (wO (wK (.int 8192))) (aC (wO (wK (.int 8193))) (aC (wO (wK (.int 9999))) (aN)))))))))) (aN)))))) (aN))))))) (gN 2)) (sSeq (sFor (iSq (wV 2)) (gN 3) (sSeq (sPar [4, 5] (xV (wCall F_law_octets (aC (wO (wV 3)) (aN))) (xV (wFz (wLc (iR1 (aC (wO (wCallI F_law_draw 1 (aC (wO (wK (.int 3))) (aN)))) (aN))) (gN 10) (tt_) (wCallI F_law_draw 1 (aC (wO (wK (.int 256))) (aN))) [10])) (xN)))) (sSeq (sIf (tNot_ (tB_ (wCall (S_same 9) (aC (wO (wFz (wLst (aC (wO (wCall F_write_number (aC (wO (wV 3)) (aN)))) (aC (wO (wCall F_read_number (aC (wO (wB fAdd (wS 5) (wS 4))) (aC (wO (wC fLen (aC (wS 5) (aN)))) (aN))))) (aN)))))) (aC (wO (wFz (wLst (aC (wO (wV 4)) (aC (wO (wTup (aC (wO (wV 3)) (aC (wO (wB fAdd (wO (wC fLen (aC (wS 5) (aN)))) (wO (wC fLen (aC (wS 4) (aN)))))) (aN))))) (aN)))))) (aN)))))) (sRet (wK (.bool false))) (sNext)) (sSeq (sSet (wFz (wLst (aC (wO (wSl (wS 4) (pN) (pI (wU fNeg (wO (wK (.int 1))))))) (aC (wO (wB fAdd (wO (wSl (wS 4) (pN) (pI (wU fNeg (wO (wK (.int 1))))))) (wO (wFz (wLst (aC (wO (wB fAdd (wO (wB fIx (wS 4) (wO (wU fNeg (wO (wK (.int 1))))))) (wO (wK (.int 128))))) (aN))))))) (aC (wO (wB fAdd (wO (wSl (wS 4) (pN) (pI (wU fNeg (wO (wK (.int 1))))))) (wO (wFz (wLst (aC (wO (wB fAdd (wO (wB fIx (wS 4) (wO (wU fNeg (wO (wK (.int 1))))))) (wO (wK (.int 128))))) (aC (wO (wK (.int 0))) (aN)))))))) (aC (wO (wB fAdd (wS 4) (wO (wFz (wLst (aC (wO (wK (.int 0))) (aN))))))) (aC (wO (wFz (wLst (aC (wO (wK (.int 128))) (aN))))) (aC (wO (wFz (wLst (aN)))) (aN))))))))) (gN 6)) (sIf (tNot_ (tB_ (wCall (S_same 9) (aC (wO (wFz (wLc (iSq (wV 6)) (gN 9) (tt_) (wCall F_read_number (aC (wO (wFz (wCL fList (aC (wS 9) (aN))))) (aC (wO (wK (.int 0))) (aN)))) [9]))) (aC (wO (wFz (wLc (iSq (wV 6)) (gN 9) (tt_) (wCall F_law_read (aC (wO (wV 9)) (aC (wO (wK (.int 0))) (aN)))) [9]))) (aN)))))) (sRet (wK (.bool false))) (sNext)))))) (sSeq (sFor (iR1 (aC (wO (wK (.int 3))) (aN))) (gN 7) (sSeq (sSet (wTup (aC (wO (wCallI F_law_pick 1 (aC (wO (wFz (wLst (aC (wO (wK (.str "lend"))) (aC (wO (wK (.str "borrow"))) (aC (wO (wK (.str "give"))) (aC (wO (wK (.str "settle"))) (aC (wO (wK (.str "pay"))) (aN))))))))) (aN)))) (aC (wO (wCallI F_law_pick 1 (aC (wO (wFz (wLst (aC (wO (wK (.int 0))) (aC (wO (wK (.int 6))) (aC (wO (wK (.int 99))) (aC (wO (wB fIx (wS 2) (wO (wK (.int 0))))) (aN)))))))) (aN)))) (aC (wO (wCallI F_law_pick 1 (aC (wO (wV 2)) (aN)))) (aN))))) (gN 8)) (sSeq (sSet (wCall F_law_record (aC (wO (wV 8)) (aN))) (gN 4)) (sSeq (sIf (tNot_ (tB_ (wCall (S_same 9) (aC (wO (wFz (wLst (aC (wO (wCall F_record (aC (wO (wV 8)) (aN)))) (aC (wO (wCall F_check_of (aC (wO (wSl (wS 4) (pI (wK (.int 1))) (pI (wU fNeg (wO (wK (.int 1))))))) (aN)))) (aC (wO (wCall F_read_record (aC (wO (wFz (wCL fList (aC (wS 4) (aN))))) (aC (wO (wK (.int 0))) (aN))))) (aN))))))) (aC (wO (wFz (wLst (aC (wO (wV 4)) (aC (wO (wB fIx (wS 4) (wO (wU fNeg (wO (wK (.int 1))))))) (aC (wO (wTup (aC (wO (wV 8)) (aC (wO (wC fLen (aC (wS 4) (aN)))) (aN))))) (aN))))))) (aN)))))) (sRet (wK (.bool false))) (sNext)) (sSeq (sFor (iSq (wCallI F_law_bent 1 (aC (wO (wV 4)) (aN)))) (gN 9) (sIf (tNot_ (tB_ (wCall (S_same 9) (aC (wO (wCall F_read_record (aC (wO (wFz (wCL fList (aC (wS 9) (aN))))) (aC (wO (wK (.int 0))) (aN))))) (aC (wO (wCall F_law_told (aC (wO (wV 9)) (aC (wO (wK (.int 0))) (aN))))) (aN)))))) (sRet (wK (.bool false))) (sNext))) (sIf (tNot_ (tB_ (wCall (S_same 9) (aC (wO (wCall F_read_record (aC (wO (wB fAdd (wO (wB fAdd (wO (wFz (wLst (aC (wO (wK (.int 9))) (aC (wO (wK (.int 9))) (aN)))))) (wS 4))) (wO (wFz (wLst (aC (wO (wK (.int 1))) (aN))))))) (aC (wO (wK (.int 2))) (aN))))) (aC (wO (wTup (aC (wO (wV 8)) (aC (wO (wB fAdd (wO (wC fLen (aC (wS 4) (aN)))) (wO (wK (.int 2))))) (aN))))) (aN)))))) (sRet (wK (.bool false))) (sNext))))))) (sRet (wCall (S_same 9) (aC (wO (wCall F_check_of (aC (wO (wFz (wLst (aN)))) (aN)))) (aC (wO (wK (.int 7))) (aN)))))))))
@[irreducible] def F_law : FSpec := runF 1 11 w_law
end P

namespace P
open PySem PySem.Spec PyProof.Rows L2 Y
/-! ### what every law shares -/
theorem so {A B : Prop} (k : B) (h : A := by first | exact rfl | decide | (simp only [List.length_map, List.length_append, List.length_cons, List.length_nil, sizeLine] at *; omega) | omega) : A ∧ B := ⟨h, k⟩
theorem atN {α : Type} {ds : List α} {k : Int} (h : 0 ≤ k) : atI ds k = ds[k.toNat]? := by
  unfold atI ixN
  rw [if_pos h]
  by_cases h : k < ds.length
  · rw [if_pos h]; rfl
  · rw [if_neg h, List.getElem?_eq_none (by omega)]; rfl
theorem mid_of {j : Int} (h1 : -1000000000 ≤ j := by omega) (h2 : j ≤ 1000000000 := by omega) : Mid j := by constructor <;> omega
theorem atI_some {xs : List Int} {k : Int} (h0 : 0 ≤ k) (h1 : k < xs.length) : ∃ v, v ∈ xs ∧ atI xs k = some v := by
  refine ⟨xs[k.toNat]'(by omega), List.getElem_mem _, ?_⟩
  rw [atN h0]; exact List.getElem?_eq_getElem _
def SC (ns : List Int) : D := .dict [(.none, .list (ns.map .int))]
theorem cell_ok {ns : List Int} {k : Int} {Q : D → List D → Prop} (h0 : 0 ≤ k) (h : ∀ v : Int, Q (.int v) []) : F_law_cell [SC ns, .int k] Q := by
  unfold F_law_cell
  refine ⟨rfl, ?_⟩
  refine if_c (fun hc => ?_) (fun _ => h 0)
  have hk : k < (ns.map PyData.int).length := of_decide_eq_true hc
  rw [List.length_map] at hk
  obtain ⟨v, _, e⟩ := atI_some h0 hk
  exact onSome_i (atI_int e) (h _)
theorem len1 {xs : List Int} {v : Int} {n m : Nat} (h : xs.length ≤ n) (hm : n + 1 ≤ m := by omega) : (xs ++ [v]).length ≤ m := by rw [List.length_append, List.length_singleton]; omega
theorem app_int {xs : List Int} {v : Int} : xs.map PyData.int ++ [PyData.int v] = (xs ++ [v]).map PyData.int := by rw [List.map_append]; rfl
theorem digits_ok {ns : List Int} {Q : D → List D → Prop} (h : ∀ xs : List Int, xs.length ≤ 2400 → Q (.list (xs.map .int)) []) : F_law_digits [SC ns, .int 0, .int 40] Q := by
  unfold F_law_digits
  refine ⟨rfl, (by decide : 0 ≤ sizeLine), ⟨mid_of, mid_of⟩, ?_⟩
  refine forR_inv (fun i e => ∃ k c t s, ∃ xs : List Int, xs.length ≤ 60 * i ∧ e = [.val (SC ns), .val (.int 0), .val (.int 40), .own (xs.map .int), k, c, t, s]) ⟨_, _, _, _, [], Nat.zero_le _, rfl⟩ ?_ ?_
  · rintro i e hi ⟨k, c, t, s, xs, hx, rfl⟩
    refine cell_ok (by omega) (fun v => ?_)
    refine if_c (fun hc => so ?_) (fun hc => ?_) <;> refine so ?_ <;> refine if_c (fun hd => ?_) (fun hd => ?_)
    iterate 2
    ·
     refine ⟨mid_of, ?_⟩
     refine forR_inv (fun j e => ∃ k c t s, ∃ xs : List Int, xs.length ≤ 60 * i + j ∧ e = [.val (SC ns), .val (.int 0), .val (.int 40), .own (xs.map .int), k, .val (.int c), t, s]) ⟨_, _, _, _, xs, hx, rfl⟩ ?_ ?_
     · rintro j e hj ⟨k, c, t, s, xs, hx, rfl⟩
       refine if_c (fun hc => ?_) (fun hc => ?_)
       · refine so ?_
         refine so ?_
         refine so ?_
         exact ⟨_, _, _, _, xs ++ [_], len1 hx, by rw [← app_int]; rfl⟩
       · exact ⟨_, _, _, _, xs, by omega, rfl⟩
     · rintro e ⟨k, c, t, s, xs, hx, rfl⟩
       exact ⟨_, _, _, _, xs, by omega, rfl⟩
    ·
     refine so (so (so ?_))
     refine ⟨mid_of, ?_⟩
     refine forR_inv (fun j e => ∃ k c t s, ∃ xs : List Int, xs.length ≤ 60 * i + j ∧ e = [.val (SC ns), .val (.int 0), .val (.int 40), .own (xs.map .int), k, .val (.int c), t, .val (.int s)]) ⟨_, _, _, _, xs, hx, rfl⟩ ?_ ?_
     · rintro j e hj ⟨k, c, t, s, xs, hx, rfl⟩
       refine so (so (so (so (so (so ?_)))))
       exact ⟨_, _, _, _, xs ++ [_], len1 hx, by rw [← app_int]; rfl⟩
     · rintro e ⟨k, c, t, s, xs, hx, rfl⟩
       exact ⟨_, _, _, _, xs, by omega, rfl⟩
  · rintro e ⟨k, c, t, s, xs, hx, rfl⟩
    exact h xs hx
end P

namespace P
open PySem PySem.Spec PyProof.Rows L2 Y
def Box (B : List D) : Prop := ∃ (xs : List Int) (n : Int), B = [.list (xs.map .int), .int n] ∧ 0 ≤ n
theorem fmod_lo {a b : Int} (h : 0 < b) : 0 ≤ a.fmod b ∧ a.fmod b < b := ⟨Int.fmod_nonneg_of_pos a h, Int.fmod_lt_of_pos a h⟩
theorem draw_ok {B : List D} {many : Int} {Q : D → List D → Prop} (hB : Box B) (hm : 0 < many := by first | decide | omega) (h : ∀ (v : Int) B', 0 ≤ v → v < many → Box B' → Q (.int v) B') : F_law_draw [.list B, .int many] Q := by
  obtain ⟨xs, n, rfl, hn⟩ := hB
  unfold F_law_draw
  refine ⟨rfl, ?_⟩
  refine if_c (fun hc => so ?_) (fun hc => ?_)
  · refine so ?_
    exact h _ _ (fmod_lo hm).1 (fmod_lo hm).2 ⟨xs, n + 1, rfl, by omega⟩
  · have hc' : ¬ ((xs.map PyData.int).length : Int) < n + 1 := of_decide_eq_false hc
    rw [List.length_map] at hc'
    obtain ⟨v, _, e⟩ := atI_some (xs := xs) (k := n) hn (by omega)
    refine onSome_i (atI_int (v := v) (by rw [show n + 1 - 1 = n by omega]; exact e)) ?_
    exact so (h _ _ (fmod_lo hm).1 (fmod_lo hm).2 ⟨xs, n + 1, rfl, by omega⟩)
theorem pick_ok {B : List D} {rs : List D} {Q : D → List D → Prop} (hB : Box B) (hr : rs ≠ []) (h : ∀ d B', d ∈ rs → Box B' → Q d B') : F_law_pick [.list B, .list rs] Q := by
  have hl : 0 < rs.length := List.length_pos_iff.mpr hr
  unfold F_law_pick
  refine ⟨rfl, ?_⟩
  refine draw_ok hB (by decide) (fun v B' h0 h1 hB' => ?_)
  refine so ?_
  have h2 := fmod_lo (a := v) (b := rs.length) (by omega)
  refine onSome_i (x := rs[(v.fmod rs.length).toNat]'(by omega)) (by rw [atN h2.1]; exact List.getElem?_eq_getElem _) (h _ _ (List.getElem_mem _) hB')
theorem same_ok {n : Nat} {a b : D} {Q : D → List D → Prop} (e : a = b) (h : okS n b = true) (k : Q (.bool true) []) : S_same n [a, b] Q := by subst e; unfold S_same; exact ⟨a, rfl, h, k⟩
theorem same_step (n : Nat) (ds : List D) (P : D → List D → Prop) (h : S_same (n + 1) ds P) : F_law_same (S_same n) ds P := by
  unfold S_same at h
  obtain ⟨d, rfl, hd, hP⟩ := h
  unfold F_law_same
  refine ⟨rfl, ?_⟩
  have loop : ∀ (ds : List D) (C : List D → D), (C ds = .list ds ∨ C ds = .tuple ds) → ds.length ≤ 1048576 → ds.all (okS n) = true → ∀ env0 : Sl,
      sForL (gN 2) (sIf (tNot_ (tB_ (wCall (S_same n) (aC (wO (wB fIx (wS 0) (wS 2))) (aC (wO (wB fIx (wS 1) (wS 2))) (aN)))))) (sRet (wK (.bool false))) (sNext)) (rng 0 ds.length) [.val (C ds), .val (C ds), env0] { nx := fun e => P (.bool true) [], rt := fun d x => P d [] } := by
    intro ds C hC hl ha env0
    refine forR_inv (fun i e => ∃ k, e = [.val (C ds), .val (C ds), k]) ⟨_, rfl⟩ ?_ ?_
    · rintro i e hi ⟨k, rfl⟩
      have hi' : i < ds.length := by omega
      have q : atI ds (0 + (i : Int)) = some ds[i] := by
        rw [atN (by omega), show (0 + (i : Int)).toNat = i by omega]; exact List.getElem?_eq_getElem hi'
      have it : ∀ R : D → Prop, R ds[i] → onSome (atI ds (0 + (i : Int))) R := fun R h => onSome_i q h
      have go : fIx (C ds) (.int (0 + (i : Int))) = onSome (atI ds (0 + (i : Int))) := by
        rcases hC with h | h <;> rw [h] <;> rfl
      have key : ∀ R : D → Prop, R ds[i] → fIx (C ds) (.int (0 + (i : Int))) R := fun R h => by rw [go]; exact onSome_i q h
      refine key _ (key _ (same_ok rfl (List.all_eq_true.mp ha _ (List.getElem_mem _)) ?_))
      exact if_f rfl ⟨_, rfl⟩
    · rintro e ⟨k, rfl⟩
      exact hP
  cases d with
  | none => exact hP
  | bool b => cases b <;> exact hP
  | int i =>
    have h := of_decide_eq_true hd
    refine so (if_f rfl ?_)
    refine so (if_t rfl ?_)
    refine so (if_t rfl ?_)
    refine so (if_t rfl ?_)
    refine so (so ?_ h) h
    exact so (by rw [eqv_tt rfl]; exact hP) ⟨shN_str (n := 0) (strOk_of _) |>.shp, shN_str (n := 0) (strOk_of _) |>.shp⟩
  | str x =>
    have h := hd
    simp only [okS, Bool.and_eq_true, decide_eq_true_eq] at h
    refine so (if_t rfl ?_)
    refine so (if_t rfl ?_)
    refine so (so ?_ h.1) h.1
    exact so (by rw [eqv_tt rfl]; exact hP) ⟨shN_str (n := 0) h.2 |>.shp, shN_str (n := 0) h.2 |>.shp⟩
  | list ds =>
    have h := hd
    simp only [okS, Bool.and_eq_true, decide_eq_true_eq] at h
    refine so (if_f rfl ?_)
    refine so (if_f rfl ?_)
    refine so (if_f rfl ?_)
    refine so (if_f rfl ?_)
    refine so (if_t rfl ?_)
    refine so (if_f rfl ?_)
    refine if_f (by simp) ?_
    refine ⟨mid_of, ?_⟩
    exact loop ds .list (.inl rfl) h.1 h.2 _
  | tuple ds =>
    have h := hd
    simp only [okS, Bool.and_eq_true, decide_eq_true_eq] at h
    refine so (if_f rfl ?_)
    refine so (if_f rfl ?_)
    refine so (if_f rfl ?_)
    refine so (if_t rfl ?_)
    refine so (if_f rfl ?_)
    refine so (if_f rfl ?_)
    refine if_f rfl ?_
    refine if_f (by simp) ?_
    refine ⟨mid_of, ?_⟩
    exact loop ds .tuple (.inr rfl) h.1 h.2 _
  | dict _ => cases hd
end P

namespace P
open PySem PySem.Spec PyProof.Rows L2 Y
/-! ### the plain law of numbers and deeds told as octets -/
def zig (n : Int) : Int := if n < 0 then -2 * n - 1 else 2 * n
def enc : Nat → Int → List Int
  | 0, r => [r]
  | f + 1, r => if 127 < r then (r.fmod 128 + 128) :: enc f (r.fdiv 128) else [r]
def fin (t k : Int) : Int × Int := if t.fmod 2 = 1 then ((-(t + 1)).fdiv 2, k) else (t.fdiv 2, k)
def go : List Int → Int → Int → Int → Int → Option (Int × Int)
  | [], _, _, _, _ => none
  | o :: r, t, s, a, st => if 127 < o then go r (t + (o - 128) * s) (s * 128) (a + 1) st else if o = 0 ∧ st < a then none else some (fin (t + o * s) (a + 1))
def rd (xs : List Int) (a : Int) : Option (Int × Int) := go (xs.drop a.toNat) 0 1 a a
def octs (xs : List Int) : Prop := ∀ o ∈ xs, 0 ≤ o ∧ o < 256
theorem zig_nn {n : Int} : 0 ≤ zig n := by unfold zig; split <;> omega
theorem fin_zig {n k : Int} : fin (zig n) k = (n, k) := by
  unfold fin zig
  rw [Int.fmod_eq_emod_of_nonneg _ (by decide), Int.fdiv_eq_ediv_of_nonneg _ (by decide), Int.fdiv_eq_ediv_of_nonneg _ (by decide)]
  by_cases h : n < 0
  · rw [if_pos h, if_pos (by omega)]; congr 1; omega
  · rw [if_neg h, if_neg (by omega)]; congr 1; omega
theorem enc_octs : ∀ {f : Nat} {r : Int}, 0 ≤ r → r < 128 ^ (f + 1) → octs (enc f r)
  | 0, r, h0, h1, o, ho => by
    rw [show o = r from by simpa [enc] using ho]
    simp at h1
    omega
  | f + 1, r, h0, h1, o, ho => by
    unfold enc at ho
    by_cases h : 127 < r
    · rw [if_pos h] at ho
      rw [Int.fmod_eq_emod_of_nonneg _ (by decide), Int.fdiv_eq_ediv_of_nonneg _ (by decide)] at ho
      rcases List.mem_cons.mp ho with rfl | ho
      · omega
      · have : r / 128 < 128 ^ (f + 1) := by
          rw [Int.pow_succ] at h1
          exact Int.ediv_lt_of_lt_mul (by decide) h1
        exact enc_octs (by omega) this o ho
    · rw [if_neg h] at ho
      rw [show o = r from by simpa using ho]
      omega
theorem enc_ne {f : Nat} {r : Int} : enc f r ≠ [] := by
  cases f with
  | zero => simp [enc]
  | succ f => unfold enc; split <;> simp
theorem enc_len : ∀ {f : Nat} {r : Int}, (enc f r).length ≤ f + 1
  | 0, r => by simp [enc]
  | f + 1, r => by
    unfold enc
    split
    · have := enc_len (f := f) (r := r.fdiv 128)
      simp; omega
    · simp
/-- what is written reads back, whatever stands behind it -/
theorem go_enc : ∀ {f : Nat} {r t s a st : Int} {tl : List Int}, 0 ≤ r → r < 128 ^ (f + 1) → (st < a → r ≠ 0) → go (enc f r ++ tl) t s a st = some (fin (t + r * s) (a + (enc f r).length))
  | 0, r, t, s, a, st, tl, h0, h1, hz => by
    have h1' : r < 128 := by simpa using h1
    show go (r :: tl) t s a st = _
    unfold go
    rw [if_neg (by omega), if_neg (fun q => hz q.2 q.1)]
    rfl
  | f + 1, r, t, s, a, st, tl, h0, h1, hz => by
    unfold enc
    by_cases h : 127 < r
    · rw [if_pos h]
      rw [Int.fmod_eq_emod_of_nonneg _ (by decide), Int.fdiv_eq_ediv_of_nonneg _ (by decide)]
      show go ((r % 128 + 128) :: (enc f (r / 128) ++ tl)) t s a st = _
      unfold go
      rw [if_pos (by omega)]
      have : r / 128 < 128 ^ (f + 1) := by
        rw [Int.pow_succ] at h1
        exact Int.ediv_lt_of_lt_mul (by decide) h1
      rw [go_enc (by omega) this (fun _ => by omega)]
      have e : t + (r % 128 + 128 - 128) * s + r / 128 * (s * 128) = t + r * s := by
        have := Int.mul_ediv_add_emod r 128
        have e2 : r * s = (128 * (r / 128) + r % 128) * s := by rw [this]
        rw [e2, Int.add_mul]
        have : r % 128 + 128 - 128 = r % 128 := by omega
        rw [this]
        have : r / 128 * (s * 128) = 128 * (r / 128) * s := by rw [Int.mul_comm s 128, ← Int.mul_assoc, Int.mul_comm (r / 128) 128]
        omega
      rw [e, List.length_cons]
      congr 2
      omega
    · rw [if_neg h]
      show go (r :: tl) t s a st = _
      unfold go
      rw [if_neg h, if_neg (fun q => hz q.2 q.1)]
      rfl
theorem go_at : ∀ {xs : List Int} {t s a st : Int} {v k : Int}, go xs t s a st = some (v, k) → a < k ∧ k ≤ a + xs.length
  | [], _, _, _, _, _, _, h => by cases h
  | o :: r, t, s, a, st, v, k, h => by
    unfold go at h
    split at h
    · have := go_at h
      simp only [List.length_cons]
      omega
    · split at h
      · cases h
      · have e : k = a + 1 := by
          have := Option.some.inj h
          unfold fin at this
          split at this <;> exact (congrArg Prod.snd this).symm
        simp only [List.length_cons]
        omega
/-- how large what is read can be -/
theorem go_le : ∀ {xs : List Int} {t s a st : Int} {v k : Int} {n : Nat}, octs xs → xs.length ≤ n → 0 ≤ t → t < s → go xs t s a st = some (v, k) → v.natAbs ≤ s.toNat * 256 ^ n
  | [], _, _, _, _, _, _, _, _, _, _, _, h => by cases h
  | o :: r, t, s, a, st, v, k, n, ho, hn, ht, hs, h => by
    have o0 := ho o List.mem_cons_self
    obtain ⟨n, rfl⟩ : ∃ m, n = m + 1 := ⟨n - 1, by simp at hn; omega⟩
    have pw : s.toNat * 256 ^ (n + 1) = (s * 256).toNat * 256 ^ n := by
      rw [Nat.pow_succ, Nat.mul_comm (256 ^ n), ← Nat.mul_assoc]
      congr 1
      omega
    unfold go at h
    split at h
    · have h1 : (o - 128) * s ≤ 127 * s := Int.mul_le_mul_of_nonneg_right (by omega) (by omega)
      have h2 : 0 ≤ (o - 128) * s := Int.mul_nonneg (by omega) (by omega)
      have := go_le (n := n) (fun x hx => ho x (List.mem_cons_of_mem _ hx)) (by simp at hn; omega) (by omega) (by omega) h
      refine Nat.le_trans this ?_
      rw [pw]
      exact Nat.mul_le_mul_right _ (by omega)
    · split at h
      · cases h
      · have h1 : o * s ≤ 255 * s := Int.mul_le_mul_of_nonneg_right (by omega) (by omega)
        have h2 : 0 ≤ o * s := Int.mul_nonneg (by omega) (by omega)
        have e : v.natAbs ≤ (s * 256).toNat := by
          have := Option.some.inj h
          unfold fin at this
          split at this
          · have := congrArg Prod.fst this
            simp only at this
            rw [Int.fdiv_eq_ediv_of_nonneg _ (by decide)] at this
            omega
          · have := congrArg Prod.fst this
            simp only at this
            rw [Int.fdiv_eq_ediv_of_nonneg _ (by decide)] at this
            omega
        rw [pw]
        exact Nat.le_trans e (Nat.le_mul_of_pos_right _ (Nat.pow_pos (by decide)))
def chk (xs : List Int) : Int := xs.foldl (fun f o => (f * 31 + o).fmod 251) 7
theorem chk_lo {xs : List Int} : 0 ≤ chk xs ∧ chk xs < 256 := by
  unfold chk
  have : ∀ (xs : List Int) (f : Int), 0 ≤ f ∧ f < 256 → 0 ≤ xs.foldl (fun f o => (f * 31 + o).fmod 251) f ∧ xs.foldl (fun f o => (f * 31 + o).fmod 251) f < 256 := by
    intro xs
    induction xs with
    | nil => exact fun f h => h
    | cons o r ih =>
      intro f _
      refine ih _ ?_
      show 0 ≤ (f * 31 + o).fmod 251 ∧ (f * 31 + o).fmod 251 < 256
      rw [Int.fmod_eq_emod_of_nonneg _ (by decide)]
      omega
  exact this xs 7 (by decide)
def kindsD : List D := [.str "lend", .str "borrow", .str "give", .str "settle", .str "pay"]
def kd (i : Int) : D := (atI kindsD i).getD .none
def rdD : Option (Int × Int) → D
  | none => .none
  | some (v, k) => .tuple [.int v, .int k]
def told (xs : List Int) (a : Int) : D :=
  if (xs.length : Int) ≤ a then .none
  else if (atI xs a).getD 0 = 0 ∨ (xs.length : Int) < a + (atI xs a).getD 0 + 2 then .none
  else if chk (cutL xs (some (a + 1)) (some (a + 1 + (atI xs a).getD 0))) ≠ (atI xs (a + 1 + (atI xs a).getD 0)).getD 0 ∨ 4 < (atI (cutL xs (some (a + 1)) (some (a + 1 + (atI xs a).getD 0))) 0).getD 0 then .none
  else match rd (cutL xs (some (a + 1)) (some (a + 1 + (atI xs a).getD 0))) 1 with
    | none => .none
    | some (h, k) => match rd (cutL xs (some (a + 1)) (some (a + 1 + (atI xs a).getD 0))) k with
      | none => .none
      | some (c, k2) => if k2 ≠ (atI xs a).getD 0 then .none
        else .tuple [.tuple [kd ((atI (cutL xs (some (a + 1)) (some (a + 1 + (atI xs a).getD 0))) 0).getD 0), .int h, .int c], .int (a + (atI xs a).getD 0 + 2)]
theorem cut_nat {α : Type} {xs : List α} {lo hi : Int} (h0 : 0 ≤ lo) (h1 : lo ≤ hi) (h2 : hi ≤ xs.length) : cutL xs (some lo) (some hi) = (xs.drop lo.toNat).take (hi - lo).toNat := by
  obtain ⟨l, rfl⟩ := Int.eq_ofNat_of_zero_le h0
  obtain ⟨m, rfl⟩ := Int.eq_ofNat_of_zero_le (Int.le_trans h0 h1)
  unfold cutL
  rw [HT.sIx_nat, HT.sIx_nat, Nat.min_eq_left (by omega), Nat.min_eq_left (by omega)]
  congr 1
  omega
theorem cut_map {α β : Type} {f : α → β} {xs : List α} {lo hi : Option Int} : cutL (xs.map f) lo hi = (cutL xs lo hi).map f := by
  unfold cutL
  rw [List.length_map, List.map_take, List.map_drop]
theorem cut_mem {α : Type} {xs : List α} {lo hi : Option Int} {x : α} (h : x ∈ cutL xs lo hi) : x ∈ xs := List.mem_of_mem_drop (List.mem_of_mem_take h)
theorem cut_le {α : Type} {xs : List α} {lo hi : Option Int} : (cutL xs lo hi).length ≤ xs.length := by
  unfold cutL
  rw [List.length_take, List.length_drop]; omega
end P

namespace P
open PySem PySem.Spec PyProof.Rows L2 Y
theorem enc_s {f : Nat} {r : Int} : enc (f + 1) r = if 127 < r then (r.fmod 128 + 128) :: enc f (r.fdiv 128) else [r] := rfl
abbrev LI (xs : List Int) : D := .list (xs.map .int)
theorem write_ok {n : Int} {Q : D → List D → Prop} (h1 : zig n < 128 ^ 10) (h : Q (LI (enc 9 (zig n))) []) : F_write_number [.int n] Q := by
  unfold F_write_number
  refine ⟨rfl, so ?_⟩
  have tail : ∀ r0 : Int, r0 = zig n → (sSeq (sOwn (wLst (aN)) 2) (sSeq (sWh (tB_ (wB fGt (wS 1) (wO (wK (.int 127))))) (sSeq (sApp 2 (wB fAdd (wO (wB fMod (wS 1) (wO (wK (.int 128))))) (wO (wK (.int 128))))) (sSet (wB fDiv (wS 1) (wO (wK (.int 128)))) (gN 1)))) (sSeq (sApp 2 (wV 1)) (sRet (wV 2))))) [.val (.int n), .val (.int r0), .no] { nx := fun _ => Q .none [], rt := fun d _ => Q d [] } := by
    rintro r0 rfl
    refine so ?_
    refine while_inv (fun m e => ∃ (r : Int) (fs : List Int), e = [.val (.int n), .val (.int r), .own (fs.map .int)] ∧ fs ++ enc m r = enc 9 (zig n) ∧ 0 ≤ r ∧ r < 128 ^ (m + 1) ∧ fs.length + m ≤ 9) 9 ⟨zig n, [], rfl, rfl, zig_nn, h1, by simp⟩ ?_
    rintro m e ⟨r, fs, rfl, he, h0, hr, hl⟩
    refine if_c (fun hc => ?_) (fun hc => ?_)
    · have hc := of_decide_eq_true hc
      refine so (so (so ?_))
      obtain ⟨m, rfl⟩ : ∃ k, m = k + 1 := ⟨m - 1, by
        cases m with
        | zero => simp at hr; omega
        | succ m => rfl⟩
      rw [enc_s (f := m)] at he
      rw [if_pos hc] at he
      refine ⟨m, by omega, _, fs ++ [_], by rw [← app_int]; rfl, by rw [List.append_assoc]; exact he, ?_, ?_, by simp; omega⟩
      · rw [Int.fdiv_eq_ediv_of_nonneg _ (by decide)]; omega
      · rw [Int.fdiv_eq_ediv_of_nonneg _ (by decide)]
        rw [Int.pow_succ] at hr
        exact Int.ediv_lt_of_lt_mul (by decide) hr
    · have hc := of_decide_eq_false hc
      refine so ?_
      have e : fs ++ [r] = enc 9 (zig n) := by
        rw [← he]
        cases m with
        | zero => rfl
        | succ m => rw [enc_s (f := m), if_neg hc]
      show Q (.list (fs.map PyData.int ++ [.int r])) []
      rw [app_int, e]
      exact h
  refine if_c (fun hc => ?_) (fun hc => ?_)
  · have hc := of_decide_eq_true hc
    refine so (tail _ ?_)
    unfold zig; rw [if_pos hc]
  · have hc := of_decide_eq_false hc
    refine tail _ ?_
    unfold zig; rw [if_neg hc]
theorem octets_ok {n : Int} {Q : D → List D → Prop} (h : Q (LI (enc 9 (zig n))) []) : F_law_octets [.int n] Q := by
  unfold F_law_octets
  refine ⟨rfl, ?_⟩
  have tail : ∀ r0 : Int, r0 = zig n → (sSeq (sFor (iR1 (aC (wO (wK (.int 9))) (aN))) (gN 3) (sIf (tB_ (wB fGt (wS 1) (wO (wK (.int 127))))) (sSeq (sApp 2 (wB fAdd (wO (wB fMod (wO (wC fInt (aC (wS 1) (aN)))) (wO (wK (.int 128))))) (wO (wK (.int 128))))) (sSet (wB fDiv (wS 1) (wO (wK (.int 128)))) (gN 1))) (sNext))) (sRet (wB fAdd (wS 2) (wO (wFz (wLst (aC (wO (wV 1)) (aN)))))))) [.val (.int n), .val (.int r0), .own [], .no] { nx := fun _ => Q .none [], rt := fun d _ => Q d [] } := by
    rintro r0 rfl
    refine ⟨mid_of, ?_⟩
    refine forR_inv (fun i e => ∃ (r : Int) (fs : List Int) (k : Sl), e = [.val (.int n), .val (.int r), .own (fs.map .int), k] ∧ (fs ++ enc (9 - i) r = enc 9 (zig n)) ∧ fs.length ≤ i) ⟨zig n, [], _, rfl, rfl, Nat.le_refl _⟩ ?_ ?_
    · rintro i e hi ⟨r, fs, k, rfl, he, hl⟩
      have hi : i < 9 := hi
      obtain ⟨m, hm⟩ : ∃ m, 9 - i = m + 1 := ⟨8 - i, by omega⟩
      have hm2 : 9 - (i + 1) = m := by omega
      rw [hm] at he
      rw [enc_s (f := m)] at he
      refine if_c (fun hc => ?_) (fun hc => ?_)
      · have hc := of_decide_eq_true hc
        rw [if_pos hc] at he
        refine so (so (so ?_))
        exact ⟨_, fs ++ [_], _, by rw [← app_int]; rfl, by rw [List.append_assoc, hm2]; exact he, len1 hl⟩
      · have hc := of_decide_eq_false hc
        rw [if_neg hc] at he
        refine ⟨r, fs, _, rfl, ?_, by omega⟩
        rw [hm2, ← he]
        cases m with
        | zero => rfl
        | succ m => rw [enc_s (f := m), if_neg hc]
    · rintro e ⟨r, fs, k, rfl, he, hl⟩
      have hl : fs.length ≤ 9 := hl
      refine so ?_
      refine so ?_ (by simp [sizeLine]; omega)
      show Q (.list (fs.map PyData.int ++ [.int r])) []
      rw [app_int, show fs ++ [r] = enc 9 (zig n) from he]
      exact h
  refine if_c (fun hc => so ?_) (fun hc => so ?_)
  · have hc := of_decide_eq_true hc
    refine so (so (tail _ ?_))
    unfold zig; rw [if_neg (by omega)]
  · have hc := of_decide_eq_false hc
    refine so (so (tail _ ?_))
    unfold zig; rw [if_pos (by omega)]; omega
theorem drop_cons {xs : List Int} {k v : Int} (h0 : 0 ≤ k) (h : atI xs k = some v) : xs.drop k.toNat = v :: xs.drop (k + 1).toNat := by
  rw [atN h0] at h
  obtain ⟨h1, h2⟩ := List.getElem?_eq_some_iff.mp h
  rw [show (k + 1).toNat = k.toNat + 1 by omega, ← h2]
  exact List.drop_eq_getElem_cons h1
theorem readp_ok {xs : List Int} {a : Int} {Q : D → List D → Prop} (ho : octs xs) (h0 : 0 ≤ a) (h : Q (rdD (rd xs a)) []) : F_read_number [LI xs, .int a] Q := by
  unfold F_read_number
  refine ⟨rfl, ?_⟩
  refine while_inv (fun m e => ∃ (k t s : Int), e = [.val (LI xs), .val (.int k), .val (.int t), .val (.int s), .val (.int a)] ∧ go (xs.drop k.toNat) t s k a = rd xs a ∧ 0 ≤ k ∧ m = xs.length - k.toNat) _ ⟨a, 0, 1, rfl, rfl, h0, rfl⟩ ?_
  rintro m e ⟨k, t, s, rfl, he, hk, rfl⟩
  refine if_c (fun hc => ?_) (fun hc => ?_)
  · have hc := of_decide_eq_true hc
    rw [List.length_map] at hc
    obtain ⟨v, hv, ev⟩ := atI_some hk hc
    have hv := ho v hv
    have dr := drop_cons hk ev
    rw [dr, go] at he
    refine onSome_i (atI_int ev) ?_
    refine if_c (fun hd => ?_) (fun hd => ?_)
    · rw [if_pos (of_decide_eq_true hd)] at he
      refine onSome_i (atI_int ev) ?_
      refine so (so ?_)
      exact ⟨_, by omega, k + 1, _, _, rfl, he, by omega, rfl⟩
    · have hd := of_decide_eq_false hd
      rw [if_neg hd] at he
      refine if_f (decide_eq_false (by rw [List.length_map]; omega)) ?_
      refine onSome_i (atI_int ev) ?_
      refine if_c (fun hz => ?_) (fun hz => ?_)
      · have hz := of_decide_eq_true hz
        refine if_c (fun hy => ?_) (fun hy => ?_)
        · have hy := of_decide_eq_true hy
          rw [if_pos ⟨hz, hy⟩] at he
          rw [← he] at h
          exact h
        · have hy := of_decide_eq_false hy
          rw [if_neg (fun q => hy q.2)] at he
          refine onSome_i (atI_int ev) ?_
          refine so (so ?_)
          refine if_c (fun ht => ?_) (fun ht => ?_)
          · have ht := of_decide_eq_true ht
            rw [fin, if_pos ht] at he
            rw [← he] at h
            exact so (so h)
          · have ht := of_decide_eq_false ht
            rw [fin, if_neg ht] at he
            rw [← he] at h
            exact so (so h)
      · have hz := of_decide_eq_false hz
        rw [if_neg (fun q => hz q.1)] at he
        refine onSome_i (atI_int ev) ?_
        refine so (so ?_)
        refine if_c (fun ht => ?_) (fun ht => ?_)
        · have ht := of_decide_eq_true ht
          rw [fin, if_pos ht] at he
          rw [← he] at h
          exact so (so h)
        · have ht := of_decide_eq_false ht
          rw [fin, if_neg ht] at he
          rw [← he] at h
          exact so (so h)
  · have hc := of_decide_eq_false hc
    rw [List.length_map] at hc
    rw [List.drop_eq_nil_of_le (by omega)] at he
    refine if_f rfl ?_
    refine if_t (decide_eq_true (by rw [List.length_map]; omega)) ?_
    rw [← he] at h
    exact h
theorem readl_ok {xs : List Int} {a : Int} {Q : D → List D → Prop} (ho : octs xs) (h0 : 0 ≤ a) (ha : a < 1000000) (hl : xs.length < 1000000) (h : Q (rdD (rd xs a)) []) : F_law_read [LI xs, .int a] Q := by
  unfold F_law_read
  refine ⟨rfl, rfl, ⟨mid_of, mid_of (by rw [List.length_map]; omega) (by rw [List.length_map]; omega)⟩, ?_⟩
  refine forR_inv (fun i e => ∃ (t s : Int) (k : Sl), e = [.val (LI xs), .val (.int a), .val (.int t), .val (.int s), k] ∧ go (xs.drop (a + (i : Int)).toNat) t s (a + (i : Int)) a = rd xs a) ⟨0, 1, _, rfl, by simp [rd]⟩ ?_ ?_
  · rintro i e hi ⟨t, s, k, rfl, he⟩
    rw [List.length_map] at hi
    obtain ⟨v, hv, ev⟩ := atI_some (xs := xs) (k := a + (i : Int)) (by omega) (by omega)
    have hv := ho v hv
    rw [drop_cons (by omega) ev, go] at he
    refine onSome_i (atI_int ev) ?_
    refine if_c (fun hd => ?_) (fun hd => ?_)
    · rw [if_pos (of_decide_eq_true hd)] at he
      refine onSome_i (atI_int ev) ?_
      refine so (so (so ?_))
      refine ⟨_, _, _, rfl, ?_⟩
      rw [show (a + ((i + 1 : Nat) : Int)) = a + (i : Int) + 1 by omega]
      exact he
    · rw [if_neg (of_decide_eq_false hd)] at he
      refine onSome_i (atI_int ev) ?_
      refine so ?_
      refine onSome_i (atI_int ev) ?_
      have main : ¬ (v = 0 ∧ a < a + (i : Int)) → (sRet (wTup (aC (wO (wIf (tB_ (wB fEq (wO (wB fMod (wO (wC fInt (aC (wS 2) (aN)))) (wO (wK (.int 2))))) (wO (wK (.int 0))))) (wB fDiv (wS 2) (wO (wK (.int 2)))) (wB fSub (wO (wK (.int 0))) (wO (wB fDiv (wO (wB fAdd (wS 2) (wO (wK (.int 1))))) (wO (wK (.int 2)))))))) (aC (wO (wB fAdd (wS 4) (wO (wK (.int 1))))) (aN))))) [.val (LI xs), .val (.int a), .val (.int (t + v * s)), .val (.int s), .val (.int (a + (i : Int)))] { nx := fun _ => Q .none [], rt := fun d _ => Q d [] } := by
        intro hn
        rw [if_neg hn] at he
        rw [← he] at h
        refine so ?_
        unfold fin at h
        have h2 : ∀ x : Int, x.fmod 2 = x % 2 := fun x => Int.fmod_eq_emod_of_nonneg _ (by decide)
        have h3 : ∀ x : Int, x.fdiv 2 = x / 2 := fun x => Int.fdiv_eq_ediv_of_nonneg _ (by decide)
        refine if_c (fun ht => ?_) (fun ht => ?_)
        · have ht := of_decide_eq_true ht
          rw [h2] at ht
          rw [h2, if_neg (by omega)] at h
          exact so (so h)
        · have ht := of_decide_eq_false ht
          rw [h2] at ht
          rw [h2, if_pos (by omega)] at h
          refine so (so ?_)
          have e2 : (-(t + v * s + 1)).fdiv 2 = 0 - (t + v * s + 1).fdiv 2 := by rw [h3, h3]; omega
          rw [e2] at h
          exact h
      refine if_c (fun hz => ?_) (fun hz => ?_)
      · have hz := of_decide_eq_true hz
        refine if_c (fun hy => ?_) (fun hy => ?_)
        · have hy := of_decide_eq_true hy
          rw [if_pos ⟨hz, hy⟩] at he
          rw [← he] at h
          exact h
        · exact main fun q => (of_decide_eq_false hy) q.2
      · refine if_f rfl ?_
        exact main fun q => (of_decide_eq_false hz) q.1
  · rintro e ⟨t, s, k, rfl, he⟩
    rw [List.length_map] at he
    rw [List.drop_eq_nil_of_le (by omega)] at he
    rw [← he] at h
    exact h
theorem check_ok {xs : List Int} {Q : D → List D → Prop} (h : Q (.int (chk xs)) []) : F_check_of [LI xs] Q := by
  unfold F_check_of
  refine ⟨rfl, ?_⟩
  refine forM_inv (xs := xs) (f := PyData.int) (fun i e => ∃ (f : Int) (k : Sl), e = [.val (LI xs), .val (.int f), k] ∧ (xs.drop i).foldl (fun f o => (f * 31 + o).fmod 251) f = chk xs) ⟨7, _, rfl, rfl⟩ ?_ ?_
  · rintro i x e hi ⟨f, k, rfl, he⟩
    obtain ⟨h1, h2⟩ := List.getElem?_eq_some_iff.mp hi
    rw [List.drop_eq_getElem_cons h1, h2, List.foldl_cons] at he
    refine so (so ?_)
    exact ⟨_, _, rfl, he⟩
  · rintro e ⟨f, k, rfl, he⟩
    rw [List.drop_length] at he
    rw [← he] at h
    exact h
theorem checkl_ok {xs : List Int} {Q : D → List D → Prop} (h : Q (.int (chk xs)) []) : F_law_check [LI xs] Q := by
  unfold F_law_check
  refine ⟨rfl, ?_⟩
  refine forM_inv (xs := xs) (f := PyData.int) (fun i e => ∃ (f : Int) (k : Sl), e = [.val (LI xs), .val (.int f), k] ∧ (xs.drop i).foldl (fun f o => (f * 31 + o).fmod 251) f = chk xs) ⟨7, _, rfl, rfl⟩ ?_ ?_
  · rintro i x e hi ⟨f, k, rfl, he⟩
    obtain ⟨h1, h2⟩ := List.getElem?_eq_some_iff.mp hi
    rw [List.drop_eq_getElem_cons h1, h2, List.foldl_cons, Int.mul_comm] at he
    refine so (so ?_)
    exact ⟨_, _, rfl, he⟩
  · rintro e ⟨f, k, rfl, he⟩
    rw [List.drop_length] at he
    rw [← he] at h
    exact h
end P

namespace P
open PySem PySem.Spec PyProof.Rows L2 Y
theorem qe {Q : D → List D → Prop} {a b : D} {o : List D} (e : a = b) (h : Q b o) : Q a o := e ▸ h
def bodyOf (j : Nat) (h c : Int) : List Int := ((j : Int) :: enc 9 (zig h)) ++ enc 9 (zig c)
def recOf (j : Nat) (h c : Int) : List Int := ((bodyOf j h c).length : Int) :: (bodyOf j h c ++ [chk (bodyOf j h c)])
def deedD (j : Nat) (h c : Int) : D := .tuple [kindsD.getD j .none, .int h, .int c]
theorem body_len {j : Nat} {h c : Int} : (bodyOf j h c).length ≤ 21 := by
  have h1 := enc_len (f := 9) (r := zig h)
  have h2 := enc_len (f := 9) (r := zig c)
  simp only [bodyOf, List.length_append, List.length_cons]
  omega
theorem check_e {ds : List D} {xs : List Int} {Q : D → List D → Prop} (e : ds = xs.map .int) (h : Q (.int (chk xs)) []) : F_check_of [.list ds] Q := by subst e; exact check_ok h
theorem checkl_e {ds : List D} {xs : List Int} {Q : D → List D → Prop} (e : ds = xs.map .int) (h : Q (.int (chk xs)) []) : F_law_check [.list ds] Q := by subst e; exact checkl_ok h
theorem kinds_at {j : Nat} (hj : j < 5) : ∃ z, kindsD.getD j .none = .str z ∧ K_KINDS[j]? = some z ∧ (∀ m, m < j → K_KINDS[m]? ≠ some z) ∧ PyData.strOk z = true ∧ kindsD[j]? = some (.str z) ∧ (∀ (m : Nat) z', m < j → kindsD[m]? = some z' → PyData.eqv z' (.str z) = false) := by
  match j, hj with
  | 0, _ => exact ⟨"lend", rfl, rfl, by decide +kernel, strOk_of _, rfl, fun m z' h => by omega⟩
  | 1, _ => exact ⟨"borrow", rfl, rfl, by decide +kernel, strOk_of _, rfl, fun m z' h e => by
      match m, h with
      | 0, _ => cases e; decide +kernel⟩
  | 2, _ => exact ⟨"give", rfl, rfl, by decide +kernel, strOk_of _, rfl, fun m z' h e => by
      match m, h with
      | 0, _ => cases e; decide +kernel
      | 1, _ => cases e; decide +kernel⟩
  | 3, _ => exact ⟨"settle", rfl, rfl, by decide +kernel, strOk_of _, rfl, fun m z' h e => by
      match m, h with
      | 0, _ => cases e; decide +kernel
      | 1, _ => cases e; decide +kernel
      | 2, _ => cases e; decide +kernel⟩
  | 4, _ => exact ⟨"pay", rfl, rfl, by decide +kernel, strOk_of _, rfl, fun m z' h e => by
      match m, h with
      | 0, _ => cases e; decide +kernel
      | 1, _ => cases e; decide +kernel
      | 2, _ => cases e; decide +kernel
      | 3, _ => cases e; decide +kernel⟩
theorem kindsD_ok : ∀ d ∈ kindsD, shN 0 d := by
  intro d hd
  simp only [kindsD, List.mem_cons, List.not_mem_nil, or_false] at hd
  rcases hd with rfl | rfl | rfl | rfl | rfl <;> exact shN_str (strOk_of _)
theorem body_e {j : Nat} {h c : Int} : ([PyData.int (j : Int)] ++ (enc 9 (zig h)).map PyData.int) ++ (enc 9 (zig c)).map PyData.int = (bodyOf j h c).map PyData.int := by simp [bodyOf]
theorem rec_e {j : Nat} {h c : Int} : ([PyData.int ((([PyData.int (j : Int)] ++ (enc 9 (zig h)).map PyData.int) ++ (enc 9 (zig c)).map PyData.int).length : Int)] ++ (([PyData.int (j : Int)] ++ (enc 9 (zig h)).map PyData.int) ++ (enc 9 (zig c)).map PyData.int)) ++ [.int (chk (bodyOf j h c))] = (recOf j h c).map PyData.int := by
  rw [body_e]; simp [recOf, bodyOf]
theorem record_ok {j : Nat} {h c : Int} {Q : D → List D → Prop} (hj : j < 5) (hh : zig h < 128 ^ 10) (hc : zig c < 128 ^ 10) (k : Q (LI (recOf j h c)) []) : F_record [deedD j h c] Q := by
  have l1 := enc_len (f := 9) (r := zig h)
  have l2 := enc_len (f := 9) (r := zig c)
  obtain ⟨z, e1, e2, e3, _⟩ := kinds_at hj
  unfold deedD
  rw [e1]
  unfold F_record
  refine ⟨rfl, ?_⟩
  refine ⟨j, e2, e3, so (write_ok hh (so (write_ok hc (so (so (so (check_e body_e (so (so ?_)))))))))⟩
  exact qe (congrArg PyData.list rec_e) k
theorem recordl_ok {j : Nat} {h c : Int} {Q : D → List D → Prop} (hj : j < 5) (k : Q (LI (recOf j h c)) []) : F_law_record [deedD j h c] Q := by
  have l1 := enc_len (f := 9) (r := zig h)
  have l2 := enc_len (f := 9) (r := zig c)
  obtain ⟨z, e1, e2, e3, e4, e5, e6⟩ := kinds_at hj
  unfold deedD
  rw [e1]
  unfold F_law_record
  refine ⟨rfl, ?_⟩
  refine so (so ⟨⟨(shN_list (n := 0) kindsD_ok).shp, (shN_str (n := 0) e4).shp⟩, j, ⟨_, e5, eqv_tt rfl⟩, e6, ?_⟩)
  refine so (octets_ok (so (octets_ok (so (so (so (checkl_e body_e (so (so ?_)))))))))
  exact qe (congrArg PyData.list rec_e) k
end P

namespace P
open PySem PySem.Spec PyProof.Rows L2 Y
theorem map_len' {xs : List Int} : ((xs.map PyData.int).length : Int) = xs.length := by rw [List.length_map]
theorem fSl_e {xs : List Int} {lo hi : Option Int} {Q : D → Prop} (h : Q (LI (cutL xs lo hi))) : fSl (LI xs) lo hi Q := by
  refine fSl_l ?_
  rw [cut_map]; exact h
theorem atN0 {xs : List Int} {v : Int} {k : Int} (h : atI xs k = some v) : (atI xs k).getD 0 = v := by rw [h]; rfl
theorem octs_cut {xs : List Int} {lo hi : Option Int} (h : octs xs) : octs (cutL xs lo hi) := fun o ho => h o (cut_mem ho)
theorem atI_mem {xs : List Int} {k v : Int} (h : atI xs k = some v) : v ∈ xs := by
  unfold atI at h
  cases q : ixN xs.length k with
  | none => rw [q] at h; cases h
  | some j => rw [q] at h; exact List.mem_of_getElem? h
theorem kd_at {i : Int} (h0 : 0 ≤ i) (h1 : i ≤ 4) : ∃ z, atI kindsD i = some (.str z) ∧ kd i = .str z ∧ K_KINDS[i.toNat]? = some z := by
  have : i = 0 ∨ i = 1 ∨ i = 2 ∨ i = 3 ∨ i = 4 := by omega
  rcases this with rfl | rfl | rfl | rfl | rfl
  · exact ⟨"lend", rfl, rfl, rfl⟩
  · exact ⟨"borrow", rfl, rfl, rfl⟩
  · exact ⟨"give", rfl, rfl, rfl⟩
  · exact ⟨"settle", rfl, rfl, rfl⟩
  · exact ⟨"pay", rfl, rfl, rfl⟩
theorem readrec_ok {xs : List Int} {a : Int} {Q : D → List D → Prop} (ho : octs xs) (h0 : 0 ≤ a) (h : Q (told xs a) []) : F_read_record [LI xs, .int a] Q := by
  unfold F_read_record
  refine ⟨rfl, ?_⟩
  unfold told at h
  refine if_c (fun hc => ?_) (fun hc => ?_)
  · have hc := of_decide_eq_true hc
    rw [map_len'] at hc
    rw [if_pos hc] at h
    exact h
  have hc := of_decide_eq_false hc
  rw [map_len'] at hc
  rw [if_neg hc] at h
  obtain ⟨z, hz, ez⟩ := atI_some (xs := xs) (k := a) h0 (by omega)
  have hz := ho z hz
  rw [atN0 ez] at h
  refine onSome_i (atI_int ez) ?_
  refine if_c (fun hd => ?_) (fun hd => ?_)
  · have hd := of_decide_eq_true hd
    rw [map_len'] at hd
    rw [if_pos (Or.inr (by omega))] at h
    exact h
  have hd := of_decide_eq_false hd
  rw [map_len'] at hd
  refine onSome_i (atI_int ez) ?_
  refine fSl_e ?_
  refine if_c (fun he => ?_) (fun he => ?_)
  · have he := of_decide_eq_true he
    rw [if_pos (Or.inl he)] at h
    exact h
  have he := of_decide_eq_false he
  rw [if_neg (by omega)] at h
  obtain ⟨y, hy, ey⟩ := atI_some (xs := xs) (k := a + 1 + z) (by omega) (by omega)
  have hy := ho y hy
  rw [atN0 ey] at h
  refine onSome_i (atI_int ey) ?_
  have hb : (cutL xs (some (a + 1)) (some (a + 1 + z))).length = z.toNat := by
    rw [cut_nat (by omega) (by omega) (by omega), List.length_take, List.length_drop]; omega
  have ob : octs (cutL xs (some (a + 1)) (some (a + 1 + z))) := octs_cut ho
  generalize cutL xs (some (a + 1)) (some (a + 1 + z)) = b at h hb ob
  refine check_ok ?_
  obtain ⟨v, hv, ev⟩ := atI_some (xs := b) (k := 0) (by omega) (by omega)
  have hv := ob v hv
  rw [atN0 ev] at h
  have cont : ¬ 4 < v → y = chk b → (sSeq (sSet (wCall F_read_number (aC (wO (wV 3)) (aC (wO (wK (.int 1))) (aN)))) (gN 4)) (sSeq (sIf (tB_ (wB fIsB (wS 4) (wO (wK .none)))) (sRet (wK .none)) (sNext)) (sSeq (sSet (wCall F_read_number (aC (wO (wV 3)) (aC (wO (wB fIx (wS 4) (wO (wK (.int 1))))) (aN)))) (gN 5)) (sSeq (sIf (tOr_ (tB_ (wB fIsB (wS 5) (wO (wK .none)))) (tB_ (wB fNe (wO (wB fIx (wS 5) (wO (wK (.int 1))))) (wS 2)))) (sRet (wK .none)) (sNext)) (sRet (wTup (aC (wO (wTup (aC (wO (wB fIx (wO (wK (.tuple (K_KINDS.map PyData.str)))) (wO (wB fIx (wS 3) (wO (wK (.int 0))))))) (aC (wO (wB fIx (wS 4) (wO (wK (.int 0))))) (aC (wO (wB fIx (wS 5) (wO (wK (.int 0))))) (aN)))))) (aC (wO (wB fAdd (wO (wB fAdd (wS 1) (wS 2))) (wO (wK (.int 2))))) (aN)))))))))
      [.val (LI xs), .val (.int a), .val (.int z), .val (LI b), .no, .no] { nx := fun _ => Q .none [], rt := fun d _ => Q d [] } := by
    intro hn hyy
    rw [if_neg (fun q => q.elim (fun q => q hyy.symm) hn)] at h
    refine readp_ok ob (by omega) ?_
    cases e1 : rd b 1 with
    | none =>
      rw [e1] at h
      exact h
    | some p =>
      obtain ⟨hh, k⟩ := p
      rw [e1] at h
      have hk := (go_at (show go (b.drop 1) 0 1 1 1 = some (hh, k) from e1)).1
      refine readp_ok ob (by omega) ?_
      simp only at h
      cases e2 : rd b k with
      | none =>
        rw [e2] at h
        exact h
      | some p2 =>
        obtain ⟨cc, k2⟩ := p2
        rw [e2] at h
        simp only at h
        refine if_c (fun hf => ?_) (fun hf => ?_)
        · have hf : k2 ≠ z := by simpa using hf
          rw [if_pos hf] at h
          exact h
        · have hf : k2 = z := by simpa using hf
          rw [if_neg (by simpa using hf)] at h
          obtain ⟨s, _, es, ek⟩ := kd_at hv.1 (by omega)
          rw [es] at h
          refine onSome_i (atI_int ev) ?_
          refine onSome_i (x := .str s) ?_ ?_
          · rw [atN hv.1, List.getElem?_map, ek]; rfl
          · exact so (so h)
  refine if_c (fun hf => ?_) (fun hf => ?_)
  · have hf : y ≠ chk b := by simpa using hf
    rw [if_pos (Or.inl (fun q => hf q.symm))] at h
    refine if_t rfl ?_
    exact h
  · have hf : y = chk b := by simpa using hf
    refine onSome_i (atI_int ev) ?_
    refine if_c (fun hg => ?_) (fun hg => ?_)
    · have hg : 5 ≤ v := of_decide_eq_true hg
      rw [if_pos (Or.inr (by omega))] at h
      exact h
    · have hg : ¬ 5 ≤ v := of_decide_eq_false hg
      exact cont (by omega) hf
end P

namespace P
open PySem PySem.Spec PyProof.Rows L2 Y
theorem kindsD_e : [PyData.str (Str.ofString "lend"), .str (Str.ofString "borrow"), .str (Str.ofString "give"), .str (Str.ofString "settle"), .str (Str.ofString "pay")] = kindsD := rfl
theorem toldl_ok {xs : List Int} {a : Int} {Q : D → List D → Prop} (ho : octs xs) (h0 : 0 ≤ a) (hl : xs.length < 1000000) (h : Q (told xs a) []) : F_law_told [LI xs, .int a] Q := by
  unfold F_law_told
  refine ⟨rfl, so ?_⟩
  unfold told at h
  refine if_c (fun hc => ?_) (fun hc => ?_)
  · have hc := of_decide_eq_true hc
    rw [map_len'] at hc
    rw [if_pos hc] at h
    exact h
  have hc := of_decide_eq_false hc
  rw [map_len'] at hc
  rw [if_neg hc] at h
  obtain ⟨z, hz, ez⟩ := atI_some (xs := xs) (k := a) h0 (by omega)
  have hz := ho z hz
  rw [atN0 ez] at h
  refine onSome_i (atI_int ez) ?_
  refine if_c (fun hd => ?_) (fun hd => ?_)
  · have hd := of_decide_eq_true hd
    rw [if_pos (Or.inl hd)] at h
    exact h
  have hd := of_decide_eq_false hd
  refine onSome_i (atI_int ez) ?_
  refine if_c (fun he => ?_) (fun he => ?_)
  · have he := of_decide_eq_true he
    rw [map_len'] at he
    rw [if_pos (Or.inr he)] at h
    exact h
  have he := of_decide_eq_false he
  rw [map_len'] at he
  rw [if_neg (by omega)] at h
  refine onSome_i (atI_int ez) ?_
  refine fSl_e ?_
  refine onSome_i (atI_int ez) ?_
  obtain ⟨y, hy, ey⟩ := atI_some (xs := xs) (k := a + 1 + z) (by omega) (by omega)
  have hy := ho y hy
  rw [atN0 ey] at h
  refine onSome_i (atI_int ey) (so ?_)
  have hb : (cutL xs (some (a + 1)) (some (a + 1 + z))).length = z.toNat := by
    rw [cut_nat (by omega) (by omega) (by omega), List.length_take, List.length_drop]; omega
  have ob : octs (cutL xs (some (a + 1)) (some (a + 1 + z))) := octs_cut ho
  generalize cutL xs (some (a + 1)) (some (a + 1 + z)) = b at h hb ob
  refine checkl_ok ?_
  obtain ⟨v, hv, ev⟩ := atI_some (xs := b) (k := 0) (by omega) (by omega)
  have hv := ob v hv
  rw [atN0 ev] at h
  refine if_c (fun hf => ?_) (fun hf => ?_)
  · have hf : y ≠ chk b := by simpa using hf
    rw [if_pos (Or.inl (fun q => hf q.symm))] at h
    exact h
  have hf : y = chk b := by simpa using hf
  refine onSome_i (atI_int ev) ?_
  refine if_c (fun hg => ?_) (fun hg => ?_)
  · have hg : 4 < v := of_decide_eq_true hg
    rw [if_pos (Or.inr (by omega))] at h
    exact h
  have hg : ¬ 4 < v := of_decide_eq_false hg
  rw [if_neg (fun q => q.elim (fun q => q hf.symm) hg)] at h
  refine readl_ok ob (by omega) (by omega) (by omega) ?_
  cases e1 : rd b 1 with
  | none =>
    rw [e1] at h
    exact h
  | some p =>
    obtain ⟨hh, k⟩ := p
    rw [e1] at h
    have hk := go_at (show go (b.drop 1) 0 1 1 1 = some (hh, k) from e1)
    have hk2 : (b.drop 1).length ≤ b.length := by rw [List.length_drop]; omega
    refine readl_ok ob (by omega) (by omega) (by omega) ?_
    simp only at h
    cases e2 : rd b k with
    | none =>
      rw [e2] at h
      exact h
    | some p2 =>
      obtain ⟨cc, k2⟩ := p2
      rw [e2] at h
      simp only at h
      refine if_c (fun hf => ?_) (fun hf => ?_)
      · have hf : ¬ k2 = b.length := by simpa using hf
        rw [if_pos (by omega)] at h
        exact h
      · have hf : k2 = b.length := by simpa using hf
        rw [if_neg (by omega)] at h
        obtain ⟨s, es, ek, _⟩ := kd_at hv.1 (by omega)
        rw [ek] at h
        refine onSome_i (atI_int ev) ?_
        refine onSome_i (x := PyData.str s) es ?_
        refine so ?_
        refine onSome_i (atI_int ez) ?_
        exact so h
theorem log_le {v : Int} {n : Nat} (h : v.natAbs ≤ 2 ^ n) (hn : n < 1919) : v.natAbs.log2 < 1920 := by
  by_cases q : v.natAbs = 0
  · rw [q]; decide
  · refine (Nat.log2_lt q).mpr ?_
    exact Nat.lt_of_le_of_lt h (Nat.pow_lt_pow_right (by decide) (by omega))
theorem okS_int {v : Int} {m n : Nat} (h : v.natAbs ≤ 2 ^ n) (hn : n < 1919 := by decide) : okS (m + 1) (.int v) = true := decide_eq_true (log_le h hn)
theorem rd_small {xs : List Int} {a v k : Int} {n : Nat} (ho : octs xs) (hn : xs.length ≤ n) (h : rd xs a = some (v, k)) : v.natAbs ≤ 2 ^ (8 * n) := by
  have := go_le (n := n) (fun o ho' => ho o (List.mem_of_mem_drop ho')) (by rw [List.length_drop]; omega) (Int.le_refl 0) (by decide) h
  rw [show (1 : Int).toNat = 1 from rfl, Nat.one_mul] at this
  rw [Nat.pow_mul]
  exact this
theorem rd_okS {xs : List Int} {a : Int} {m : Nat} (h0 : 0 ≤ a) (ha : a ≤ 1000) (ho : octs xs) (hn : xs.length ≤ 100) : okS (m + 2) (rdD (rd xs a)) = true := by
  cases e : rd xs a with
  | none => rfl
  | some p =>
    obtain ⟨v, k⟩ := p
    have h1 := rd_small ho hn e
    have h2 := go_at e
    have h3 : (xs.drop a.toNat).length ≤ xs.length := by rw [List.length_drop]; omega
    simp only [rdD, okS, List.length_cons, List.length_nil, List.all_cons, List.all_nil, Bool.and_true, Bool.and_eq_true, decide_eq_true_eq]
    exact ⟨by decide, log_le h1 (by decide), log_le (n := 20) (by omega) (by decide)⟩
theorem kd_okS {i : Int} {m : Nat} : okS (m + 1) (kd i) = true := by
  unfold kd
  cases e : atI kindsD i with
  | none => rfl
  | some d =>
    have : d ∈ kindsD := by
      unfold atI at e
      cases q : ixN kindsD.length i with
      | none => rw [q] at e; cases e
      | some j => rw [q] at e; exact List.mem_of_getElem? e
    simp only [kindsD, List.mem_cons, List.not_mem_nil, or_false] at this
    rcases this with rfl | rfl | rfl | rfl | rfl <;> simp only [okS, Option.getD] <;> decide +kernel
theorem told_okS {xs : List Int} {a : Int} {m : Nat} (h0 : 0 ≤ a) (ha : a ≤ 1000) (ho : octs xs) (hn : xs.length ≤ 100) : okS (m + 3) (told xs a) = true := by
  unfold told
  split
  · rfl
  split
  · rfl
  split
  · rfl
  split
  · rfl
  rename_i h k e1
  split
  · rfl
  rename_i c k2 e2
  split
  · rfl
  have hl : (cutL xs (some (a + 1)) (some (a + 1 + (atI xs a).getD 0))).length ≤ 100 := Nat.le_trans cut_le hn
  have h1 := rd_small (octs_cut ho) hl e1
  have h2 := rd_small (octs_cut ho) hl e2
  have h3 : ((atI xs a).getD 0).natAbs ≤ 256 := by
    cases e : atI xs a with
    | none => decide
    | some z => have := ho z (atI_mem e); show z.natAbs ≤ 256; omega
  simp only [okS, List.length_cons, List.length_nil, List.all_cons, List.all_nil, Bool.and_true, Bool.and_eq_true, decide_eq_true_eq]
  exact ⟨by decide, ⟨by decide, kd_okS, log_le h1 (by decide), log_le h2 (by decide)⟩, log_le (n := 20) (by omega) (by decide)⟩
end P

namespace P
open PySem PySem.Spec PyProof.Rows L2 Y
def RowD (n : Nat) (d : D) : Prop := ∃ b : List Int, d = LI b ∧ octs b ∧ b.length ≤ n
theorem octs_app {xs ys : List Int} (h : octs xs) (k : octs ys) : octs (xs ++ ys) := fun o ho => (List.mem_append.mp ho).elim (h o) (k o)
theorem octs_one {v : Int} (h : 0 ≤ v ∧ v < 256) : octs [v] := fun o ho => by rw [List.mem_singleton.mp ho]; exact h
theorem octs_cons {v : Int} {xs : List Int} (h : 0 ≤ v ∧ v < 256) (k : octs xs) : octs (v :: xs) := octs_app (octs_one h) k
theorem octs_nil : octs [] := fun o ho => nomatch ho
theorem bent_ok {B : List D} {xs : List Int} {Q : D → List D → Prop} (hB : Box B) (ho : octs xs) (hl : xs.length ≤ 25) (hs : ∃ z, atI xs 0 = some z ∧ 1 ≤ z ∧ z + 2 ≤ xs.length)
    (k : ∀ ds B', (∀ d ∈ ds, RowD 60 d) → ds.length ≤ 20 → Box B' → Q (.list ds) B') : F_law_bent [.list B, LI xs] Q := by
  obtain ⟨z, ez, z1, z2⟩ := hs
  unfold F_law_bent
  refine ⟨rfl, ?_⟩
  refine draw_ok hB (by rw [map_len']; omega) (fun spot B1 s0 s1 hB1 => ?_)
  refine fSl_e (fSl_e (draw_ok hB1 (by decide) fun v1 B2 v10 v11 hB2 => so ?_))
  refine so ?_ (by have := cut_le (xs := xs) (lo := none) (hi := some spot); simp [sizeLine]; omega)
  refine fSl_e (so ?_ (by have := cut_le (xs := xs) (lo := none) (hi := some spot); have := cut_le (xs := xs) (lo := some (spot + 1)) (hi := none); simp [sizeLine]; omega))
  refine fSl_e (draw_ok hB2 (by decide) fun v2 B3 v20 v21 hB3 => so ?_)
  refine so ?_ (by have := cut_le (xs := xs) (lo := none) (hi := some spot); simp [sizeLine]; omega)
  refine fSl_e (so ?_ (by have := cut_le (xs := xs) (lo := none) (hi := some spot); have := cut_le (xs := xs) (lo := some spot) (hi := none); simp [sizeLine]; omega))
  refine so (so (so ?_) (by simp [sizeLine]; omega))
  refine onSome_i (atI_int ez) ?_
  obtain ⟨y, hy, ey⟩ := atI_some (xs := xs) (k := z) (by omega) (by omega)
  have hy := ho y hy
  have cl : ∀ lo hi, (cutL xs lo hi).length ≤ 25 := fun lo hi => Nat.le_trans cut_le hl
  have co : ∀ lo hi, octs (cutL xs lo hi) := fun lo hi => octs_cut ho
  have tail : ∀ w : Int, 0 ≤ w ∧ w < 256 → (∀ b ∈ ([cutL xs (some 1) (some z) ++ [w, 0], [5] ++ cutL xs (some 2) (some (z + 1)), cutL xs (some 1) (some (z + 1)) ++ [0], [0]] : List (List Int)), octs b ∧ b.length ≤ 50) := by
    intro w hw b hb
    simp only [List.mem_cons, List.not_mem_nil, or_false] at hb
    have c1 := cl (some 1) (some z)
    have c2 := cl (some 2) (some (z + 1))
    have c3 := cl (some 1) (some (z + 1))
    rcases hb with rfl | rfl | rfl | rfl
    · exact ⟨octs_app (co _ _) (octs_cons hw (octs_one (by decide))), by simp; omega⟩
    · exact ⟨octs_app (octs_one (by decide)) (co _ _), by simp; omega⟩
    · exact ⟨octs_app (co _ _) (octs_one (by decide)), by simp; omega⟩
    · exact ⟨octs_one (by decide), by decide⟩
  have loop : ∀ w : Int, 0 ≤ w ∧ w < 256 → ∀ ds : List D, ds = [.list ((cutL xs (some 1) (some z)).map .int ++ [.int w, .int 0]), .list ([.int 5] ++ (cutL xs (some 2) (some (z + 1))).map .int), .list ((cutL xs (some 1) (some (z + 1))).map .int ++ [.int 0]), .list [.int 0]] → ∀ rows : List D, (∀ d ∈ rows, RowD 60 d) → rows.length = 4 →
      (sSeq (fun e P => sForL (gN 5) (sApp 3 (wB fAdd (wO (wB fAdd (wO (wFz (wLst (aC (wO (wC fLen (aC (wS 5) (aN)))) (aN))))) (wS 5))) (wO (wFz (wLst (aC (wO (wCall F_law_check (aC (wO (wV 5)) (aN)))) (aN))))))) ds e P) (sRet (wB fAdd (wS 3) (wO (wFz (wLst (aC (wO (wFz (wLst (aC (wO (wK (.int 0))) (aC (wO (wK (.int 7))) (aN)))))) (aC (wO (wFz (wLst (aN)))) (aN)))))))))
        [.own B3, .val (LI xs), .val (.int spot), .own rows, .val (.int z), .no] { nx := fun e => ownAt e 0 fun o => Q PyData.none o, rt := fun d e => ownAt e 0 fun o => Q d o } := by
    intro w hw ds hds rows hr hrl
    have hds : ds = ([cutL xs (some 1) (some z) ++ [w, 0], [5] ++ cutL xs (some 2) (some (z + 1)), cutL xs (some 1) (some (z + 1)) ++ [0], [0]] : List (List Int)).map LI := by
      rw [hds]; simp
    subst hds
    refine forM_inv (f := LI) (fun i e => ∃ rows k, e = [.own B3, .val (LI xs), .val (.int spot), .own rows, .val (.int z), k] ∧ (∀ d ∈ rows, RowD 60 d) ∧ rows.length = 4 + i) ⟨rows, _, rfl, hr, hrl⟩ ?_ ?_
    · rintro i b e hi ⟨rows, k2, rfl, hr, hrl⟩
      obtain ⟨ob, lb⟩ := tail w hw b (List.mem_of_getElem? hi)
      refine so (so (checkl_ok (so (so (so ⟨_, _, rfl, ?_, ?_⟩ ?_) ?_))) ?_)
      · intro d hd
        rcases List.mem_append.mp hd with hd | hd
        · exact hr d hd
        · rw [List.mem_singleton.mp hd]
          refine ⟨(b.length : Int) :: (b ++ [chk b]), by simp, octs_cons (by omega) (octs_app ob (octs_one chk_lo)), by simp; omega⟩
      · simp; omega
      · have : i < 4 := (List.getElem?_eq_some_iff.mp hi).1
        rw [hrl]; simp [sizeLine]; omega
      · simp [sizeLine]; omega
      · simp [sizeLine]; omega
    · rintro e ⟨rows, k2, rfl, hr, hrl⟩
      refine so (so (so (so ?_ ?_)))
      · refine k _ _ ?_ ?_ hB3
        · intro d hd
          rcases List.mem_append.mp hd with hd | hd
          · exact hr d hd
          · simp only [List.mem_cons, List.not_mem_nil, or_false] at hd
            rcases hd with rfl | rfl
            · exact ⟨[0, 7], rfl, octs_cons (by decide) (octs_one (by decide)), by decide⟩
            · exact ⟨[], rfl, octs_nil, by decide⟩
        · rw [List.length_append, hrl]; simp
      · rw [hrl]; simp [sizeLine]
  have rows : ∀ d ∈ ([LI (cutL xs none (some spot)), .list ((cutL xs none (some spot)).map .int ++ [.int v1] ++ (cutL xs (some (spot + 1)) none).map .int), .list ((cutL xs none (some spot)).map .int ++ [.int v2] ++ (cutL xs (some spot) none).map .int), .list (xs.map .int ++ [.int 7])] : List D), RowD 60 d := by
    intro d hd
    have c1 := cl none (some spot)
    have c2 := cl (some (spot + 1)) none
    have c3 := cl (some spot) none
    simp only [List.mem_cons, List.not_mem_nil, or_false] at hd
    rcases hd with rfl | rfl | rfl | rfl
    · exact ⟨_, rfl, co _ _, by omega⟩
    · exact ⟨cutL xs none (some spot) ++ [v1] ++ cutL xs (some (spot + 1)) none, by simp, octs_app (octs_app (co _ _) (octs_one ⟨v10, v11⟩)) (co _ _), by simp; omega⟩
    · exact ⟨cutL xs none (some spot) ++ [v2] ++ cutL xs (some spot) none, by simp, octs_app (octs_app (co _ _) (octs_one ⟨v20, v21⟩)) (co _ _), by simp; omega⟩
    · exact ⟨xs ++ [7], by simp, octs_app ho (octs_one (by decide)), by simp; omega⟩
  refine fSl_e ?_
  refine onSome_i (atI_int ey) ?_
  have fin : ∀ w : Int, 0 ≤ w ∧ w < 256 → _ := fun w hw => loop w hw _ rfl _ rows rfl
  refine if_c (fun hc => ?_) (fun hc => ?_)
  · have hc := of_decide_eq_true hc
    refine onSome_i (atI_int ey) ?_
    refine so (so ?_ (by have := cl (some 1) (some z); simp [sizeLine]; omega))
    refine so (fSl_e (so ?_ (by have := cl (some 2) (some (z + 1)); simp [sizeLine]; omega)))
    refine fSl_e (so (so ?_ (by have := cl (some 1) (some (z + 1)); simp [sizeLine]; omega)))
    refine so (so ?_)
    exact fin (y + 128) (by omega)
  · have hc := of_decide_eq_false hc
    refine onSome_i (atI_int ey) ?_
    refine so (so ?_ (by have := cl (some 1) (some z); simp [sizeLine]; omega))
    refine so (fSl_e (so ?_ (by have := cl (some 2) (some (z + 1)); simp [sizeLine]; omega)))
    refine fSl_e (so (so ?_ (by have := cl (some 1) (some (z + 1)); simp [sizeLine]; omega)))
    refine so (so ?_)
    exact fin y hy
end P

namespace P
open PySem PySem.Spec PyProof.Rows L2 Y
theorem enc_last : ∀ {f : Nat} {r : Int}, 0 ≤ r → r < 128 ^ (f + 1) → ∃ i l, enc f r = i ++ [l] ∧ 0 ≤ l ∧ l ≤ 127
  | 0, r, h0, h1 => ⟨[], r, rfl, h0, by simp at h1; omega⟩
  | f + 1, r, h0, h1 => by
    rw [enc_s]
    by_cases h : 127 < r
    · rw [if_pos h, Int.fdiv_eq_ediv_of_nonneg _ (by decide)]
      have : r / 128 < 128 ^ (f + 1) := by
        rw [Int.pow_succ] at h1
        exact Int.ediv_lt_of_lt_mul (by decide) h1
      obtain ⟨i, l, e, q⟩ := enc_last (f := f) (r := r / 128) (by omega) this
      exact ⟨_ :: i, l, by rw [e]; rfl, q⟩
    · rw [if_neg h]
      exact ⟨[], r, rfl, h0, by omega⟩
theorem atI_last {α : Type} {xs : List α} {y : α} : atI (xs ++ [y]) (-1) = some y := by
  unfold atI ixN
  rw [if_neg (by decide), if_pos (by simp; omega)]
  show (xs ++ [y])[(-1 + ((xs ++ [y]).length : Int)).toNat]? = _
  rw [List.length_append, List.length_singleton, show (-1 + ((xs.length + 1 : Nat) : Int)).toNat = xs.length by omega]
  simp
theorem sIx_neg {n d : Nat} {v : Int} (h : v < 0) : HT.sIx n d (some v) = (v + n).toNat := if_pos h
theorem cut_mid {α : Type} {xs : List α} {x y : α} : cutL (x :: (xs ++ [y])) (some 1) (some (-1)) = xs := by
  unfold cutL
  rw [show HT.sIx (x :: (xs ++ [y])).length 0 (some 1) = 1 from by rw [show (1 : Int) = ((1 : Nat) : Int) from rfl, HT.sIx_nat]; simp]
  rw [sIx_neg (by decide)]
  rw [show (-1 + ((x :: (xs ++ [y])).length : Int)).toNat = xs.length + 1 by simp; omega]
  simp
theorem told_rec {pre post : List Int} {j : Nat} {h c : Int} (hj : j < 5) (hh : zig h < 128 ^ 10) (hc : zig c < 128 ^ 10) :
    told (pre ++ recOf j h c ++ post) pre.length = .tuple [deedD j h c, .int ((pre.length : Int) + ((recOf j h c).length : Int))] := by
  have bl := body_len (j := j) (h := h) (c := c)
  have b1 : 1 ≤ (bodyOf j h c).length := by simp [bodyOf]
  have e0 : atI (pre ++ recOf j h c ++ post) (pre.length : Int) = some ((bodyOf j h c).length : Int) := by
    rw [atN (by omega)]; simp [recOf]
  have el : (pre ++ recOf j h c ++ post).length = pre.length + ((bodyOf j h c).length + 2) + post.length := by simp [recOf]; omega
  have ec : cutL (pre ++ recOf j h c ++ post) (some ((pre.length : Int) + 1)) (some ((pre.length : Int) + 1 + ((bodyOf j h c).length : Int))) = bodyOf j h c := by
    rw [cut_nat (by omega) (by omega) (by rw [el]; omega)]
    rw [show ((pre.length : Int) + 1).toNat = pre.length + 1 by omega, show ((pre.length : Int) + 1 + ((bodyOf j h c).length : Int) - ((pre.length : Int) + 1)).toNat = (bodyOf j h c).length by omega]
    have : pre ++ recOf j h c ++ post = (pre ++ [((bodyOf j h c).length : Int)]) ++ (bodyOf j h c ++ ([chk (bodyOf j h c)] ++ post)) := by simp [recOf]
    rw [this, List.drop_left' (by simp), List.take_left' rfl]
  have e1 : atI (pre ++ recOf j h c ++ post) ((pre.length : Int) + 1 + ((bodyOf j h c).length : Int)) = some (chk (bodyOf j h c)) := by
    rw [atN (by omega)]
    have : pre ++ recOf j h c ++ post = (pre ++ [((bodyOf j h c).length : Int)] ++ bodyOf j h c) ++ (chk (bodyOf j h c) :: post) := by simp [recOf]
    rw [this, List.getElem?_append_right (by simp; omega)]
    rw [show ((pre.length : Int) + 1 + ((bodyOf j h c).length : Int)).toNat - (pre ++ [((bodyOf j h c).length : Int)] ++ bodyOf j h c).length = 0 by simp; omega]
    rfl
  have e2 : atI (bodyOf j h c) 0 = some (j : Int) := by rw [atN (by decide)]; rfl
  unfold told
  rw [if_neg (by rw [el]; omega), e0]
  simp only [Option.getD_some]
  rw [if_neg (by rw [el]; omega), ec, e1, e2]
  simp only [Option.getD_some]
  rw [if_neg (by omega)]
  have r1 : rd (bodyOf j h c) 1 = some (h, 1 + ((enc 9 (zig h)).length : Int)) := by
    unfold rd
    show go (enc 9 (zig h) ++ enc 9 (zig c)) 0 1 1 1 = _
    rw [go_enc zig_nn hh (fun q => by omega)]
    rw [show 0 + zig h * 1 = zig h by omega, fin_zig]
  have r2 : rd (bodyOf j h c) (1 + ((enc 9 (zig h)).length : Int)) = some (c, ((bodyOf j h c).length : Int)) := by
    unfold rd
    rw [show (1 + ((enc 9 (zig h)).length : Int)).toNat = ((j : Int) :: enc 9 (zig h)).length by simp; omega]
    unfold bodyOf
    rw [List.drop_left' rfl]
    have := go_enc (f := 9) (r := zig c) (t := 0) (s := 1) (a := 1 + ((enc 9 (zig h)).length : Int)) (st := 1 + ((enc 9 (zig h)).length : Int)) (tl := []) zig_nn hc (fun q => by omega)
    rw [List.append_nil] at this
    rw [this, show 0 + zig c * 1 = zig c by omega, fin_zig]
    congr 2
    simp; omega
  rw [r1]
  simp only
  rw [r2]
  simp only
  rw [if_neg (by omega)]
  have ek : kd (j : Int) = kindsD.getD j .none := by
    unfold kd
    rw [atN (by omega)]
    simp
  rw [ek]
  unfold deedD recOf
  congr 3
  simp; omega
theorem rec_octs {j : Nat} {h c : Int} (hj : j < 5) (hh : zig h < 128 ^ 10) (hc : zig c < 128 ^ 10) : octs (recOf j h c) := by
  have bl := body_len (j := j) (h := h) (c := c)
  unfold recOf
  refine octs_cons (by omega) (octs_app ?_ (octs_one chk_lo))
  unfold bodyOf
  exact octs_app (octs_cons (by omega) (enc_octs zig_nn hh)) (enc_octs zig_nn hc)
end P

namespace P
open PySem PySem.Spec PyProof.Rows L2 Y
theorem pickI_ok {B : List D} {vs : List Int} {Q : D → List D → Prop} (hB : Box B) (hr : vs ≠ []) (h : ∀ v B', v ∈ vs → Box B' → Q (.int v) B') : F_law_pick [.list B, LI vs] Q :=
  pick_ok hB (by simpa using hr) fun d B' hd hB' => by
    obtain ⟨v, hv, rfl⟩ := List.mem_map.mp hd
    exact h v B' hv hB'
def Nums (ns : List Int) : Prop := ∀ n ∈ ns, n.natAbs ≤ 10000
theorem zig_small {n : Int} (h : n.natAbs ≤ 10000) : zig n < 128 ^ 10 := by unfold zig; split <;> omega
theorem map_len {xs : List Int} : (xs.map PyData.int).length = xs.length := List.length_map _
theorem rng_len {a b : Int} : (rng a b).length = (b - a).toNat := by unfold rng; rw [List.length_map, List.length_range]
theorem readp_e {ds : List D} {xs : List Int} {a k : Int} {Q : D → List D → Prop} (e : ds = xs.map .int) (ea : a = k) (ho : octs xs) (h0 : 0 ≤ k) (h : Q (rdD (rd xs k)) []) : F_read_number [.list ds, .int a] Q := by subst e; subst ea; exact readp_ok ho h0 h
theorem readrec_e {ds : List D} {xs : List Int} {a : Int} {Q : D → List D → Prop} (e : ds = xs.map .int) (ho : octs xs) (h0 : 0 ≤ a) (h : Q (told xs a) []) : F_read_record [.list ds, .int a] Q := by subst e; exact readrec_ok ho h0 h
theorem okS_l {n : Nat} {ds : List D} (h : ds.length ≤ 1048576) (k : ∀ d ∈ ds, okS n d = true) : okS (n + 1) (.list ds) = true := by
  simp only [okS, Bool.and_eq_true, decide_eq_true_eq, List.all_eq_true]; exact ⟨h, k⟩
theorem okS_t {n : Nat} {ds : List D} (h : ds.length ≤ 1048576) (k : ∀ d ∈ ds, okS n d = true) : okS (n + 1) (.tuple ds) = true := by
  simp only [okS, Bool.and_eq_true, decide_eq_true_eq, List.all_eq_true]; exact ⟨h, k⟩
theorem okA_nil {n : Nat} : ∀ d ∈ ([] : List D), okS n d = true := fun _ h => nomatch h
theorem okA_cons {n : Nat} {d : D} {ds : List D} (h : okS n d = true) (k : ∀ e ∈ ds, okS n e = true) : ∀ e ∈ d :: ds, okS n e = true := fun e he => (List.mem_cons.mp he).elim (fun q => q ▸ h) (k e)
theorem okS_LI {m : Nat} {xs : List Int} (ho : octs xs) (hl : xs.length ≤ 1000) : okS (m + 2) (LI xs) = true := okS_l (by simp; omega) fun d hd => by
  obtain ⟨i, hi, rfl⟩ := List.mem_map.mp hd
  have := ho i hi
  exact okS_int (n := 10) (by omega)
theorem lcL_mapL {α : Type} {g : WG} {te : WE} {us : List Nat} {f : α → D} {ds : List D} {xs : List α} (v : α → D) {env : List Sl} {P : List D → List Sl → Prop} (e : ds = xs.map f)
    (hs : ∀ x ∈ xs, ∀ (T : D → List Sl → Prop), T (v x) env → g (f x) env fun e1 => te e1 fun y e3 => T y (wipeE e3 us)) (h : P (xs.map v) env) : wLcL g tt_ te us ds [] env P := by subst e; exact lcL_map v hs h
theorem cut_rec {j : Nat} {h c : Int} : cutL (recOf j h c) (some 1) (some (-1)) = bodyOf j h c := cut_mid
theorem rec_last {j : Nat} {h c : Int} : atI (recOf j h c) (-1) = some (chk (bodyOf j h c)) := by
  unfold recOf; rw [← List.cons_append]; exact atI_last
theorem rec_at0 {j : Nat} {h c : Int} : atI (recOf j h c) 0 = some ((bodyOf j h c).length : Int) := by rw [atN (by decide)]; rfl
theorem rec_len {j : Nat} {h c : Int} : (recOf j h c).length ≤ 23 := by
  have := body_len (j := j) (h := h) (c := c)
  simp [recOf]; omega
theorem told_rec0 {j : Nat} {h c : Int} (hj : j < 5) (hh : zig h < 128 ^ 10) (hc : zig c < 128 ^ 10) : told (recOf j h c) 0 = .tuple [deedD j h c, .int ((recOf j h c).length : Int)] := by
  have := told_rec (pre := []) (post := []) hj hh hc
  simpa using this
theorem zig_abs {h : Int} (hh : zig h < 128 ^ 10) : h.natAbs ≤ 2 ^ 80 := by unfold zig at hh; split at hh <;> omega
theorem deed_okS {j m : Nat} {h c : Int} (hj : j < 5) (hh : zig h < 128 ^ 10) (hc : zig c < 128 ^ 10) : okS (m + 2) (deedD j h c) = true := by
  have ek : kd (j : Int) = kindsD.getD j .none := by
    unfold kd
    rw [atN (by omega)]
    simp
  unfold deedD
  rw [← ek]
  exact okS_t (by simp) (okA_cons kd_okS (okA_cons (okS_int (n := 80) (zig_abs hh)) (okA_cons (okS_int (n := 80) (zig_abs hc)) okA_nil)))
theorem law_ok {ns : List Int} : F_law [SC ns] fun d _ => d = .bool true := by
  unfold F_law
  refine ⟨rfl, digits_ok fun xs hx => so ?_⟩
  have hB : Box [.list (xs.map .int), .int 0] := ⟨xs, 0, rfl, Int.le_refl 0⟩
  refine ⟨mid_of, rfl, by decide, ?_⟩
  refine lcL_inv (fun i acc e => ∃ (B : List D) (vs : List Int), e = [.val (SC ns), .own B, .no, .no, .no, .no, .no, .no, .no, .no, .no] ∧ Box B ∧ acc = vs.map .int ∧ Nums vs ∧ vs.length = i) ⟨_, [], rfl, hB, rfl, fun _ h => (nomatch h), rfl⟩ ?_ ?_
  · rintro i d acc e hi ⟨B, vs, rfl, hB, rfl, hn, hl⟩
    refine draw_ok hB (by decide) fun v1 B1 v10 v11 hB1 => so ?_
    refine draw_ok hB1 (by decide) fun v2 B2 v20 v21 hB2 => so ?_
    refine ⟨B2, vs ++ [_], rfl, hB2, app_int, ?_, by simp [hl]⟩
    intro n hn'
    rcases List.mem_append.mp hn' with h | h
    · exact hn n h
    · rw [List.mem_singleton.mp h]; omega
  rintro acc e ⟨B, vs, rfl, hB, rfl, hn, hl⟩
  refine so (pickI_ok (vs := [0, 63, 64, 8191, 8192, 9999]) hB (by decide) fun p1 B1 hp1 hB1 => ?_)
  refine so (pickI_ok (vs := [1, 64, 65, 8192, 8193, 9999]) hB1 (by decide) fun p2 B2 hp2 hB2 => so (so ?_ (by rw [map_len, hl]; exact (by decide : 3 + 2 ≤ sizeLine))))
  have hn2 : Nums (vs ++ [p1, 0 - p2]) := by
    intro n hn'
    rcases List.mem_append.mp hn' with h | h
    · exact hn n h
    · simp only [List.mem_cons, List.not_mem_nil, or_false] at h hp1 hp2
      omega
  have hl2 : (vs ++ [p1, 0 - p2]).length = 5 := by rw [List.length_append, hl]; rfl
  have e2 : vs.map PyData.int ++ [.int p1, .int (0 - p2)] = (vs ++ [p1, 0 - p2]).map PyData.int := by rw [List.map_append]; rfl
  refine forL_inv (fun i e => ∃ B s3 s4 s5 s6, e = [.val (SC ns), .own B, .val (LI (vs ++ [p1, 0 - p2])), s3, s4, s5, s6, .no, .no, .no, .no] ∧ Box B) ⟨_, _, _, _, _, by unfold LI; rw [List.map_append]; rfl, hB2⟩ ?_ ?_
  · rintro i d e hi ⟨B, s3, s4, s5, s6, rfl, hB⟩
    have hi' : (vs.map PyData.int ++ [.int p1, .int (0 - p2)])[i]? = some d := hi
    rw [e2, List.getElem?_map] at hi'
    obtain ⟨n, hn', rfl⟩ := Option.map_eq_some_iff.mp hi'
    have hnn := hn2 n (List.mem_of_getElem? hn')
    have hz := zig_small hnn
    refine octets_ok ?_
    refine draw_ok hB (by decide) fun many B1 m0 m1 hB1 => ⟨mid_of, rfl, by rw [rng_len]; unfold sizeLine; omega, ?_⟩
    refine lcL_inv (fun i acc e => ∃ (B : List D) (ah : List Int), e = [.val (SC ns), .own B, .val (LI (vs ++ [p1, 0 - p2])), .val (.int n), s4, s5, s6, .no, .no, .no, .no] ∧ Box B ∧ acc = ah.map .int ∧ octs ah ∧ ah.length = i) ⟨_, [], rfl, hB1, rfl, octs_nil, rfl⟩ ?_ ?_
    · rintro i d acc e hi ⟨B, ah, rfl, hB, rfl, ho, hl⟩
      refine draw_ok hB (by decide) fun v B1 v0 v1 hB1 => ?_
      exact ⟨_, ah ++ [v], rfl, hB1, app_int, octs_app ho (octs_one ⟨v0, v1⟩), by simp [hl]⟩
    rintro acc e ⟨B, ah, rfl, hB, rfl, hao, hal⟩
    rw [rng_len] at hal
    have hal : ah.length ≤ 3 := by omega
    have ho := enc_octs (f := 9) (zig_nn (n := n)) hz
    have hl := enc_len (f := 9) (r := zig n)
    obtain ⟨ini, l, el, l0, l1⟩ := enc_last (f := 9) (zig_nn (n := n)) hz
    have al : atI (enc 9 (zig n)) (-1) = some l := by rw [el]; exact atI_last
    refine so (write_ok hz ?_)
    refine so ?_ (by simp [sizeLine]; omega)
    refine readp_e (xs := ah ++ enc 9 (zig n)) (k := ah.length) (by simp) map_len' (octs_app hao ho) (by omega) (so (so (so ?_)))
    have hrd : rd (ah ++ enc 9 (zig n)) ah.length = some (n, (ah.length : Int) + ((enc 9 (zig n)).length : Int)) := by
      unfold rd
      rw [Int.toNat_natCast, List.drop_left' rfl]
      have := go_enc (f := 9) (r := zig n) (t := 0) (s := 1) (a := ah.length) (st := ah.length) (tl := []) zig_nn hz (fun q => by omega)
      rw [List.append_nil] at this
      rw [this, show 0 + zig n * 1 = zig n by omega, fin_zig]
    refine same_ok (by simp [hrd, rdD]) (okS_l (by simp) (okA_cons (okS_LI ho (by omega)) (okA_cons (okS_t (by simp) (okA_cons (okS_int (n := 20) (by omega)) (okA_cons (okS_int (n := 20) (by simp; omega)) okA_nil))) okA_nil))) ?_
    have cl : ∀ lo hi, (cutL (enc 9 (zig n)) lo hi).length ≤ 10 := fun lo hi => Nat.le_trans cut_le hl
    have co : ∀ lo hi, octs (cutL (enc 9 (zig n)) lo hi) := fun lo hi => octs_cut ho
    have c1 := cl none (some (-1))
    refine fSl_e (fSl_e (onSome_i (atI_int al) (so (so ?_ (by simp [sizeLine]; omega)))))
    refine fSl_e (onSome_i (atI_int al) (so (so ?_ (by simp [sizeLine]; omega))))
    refine so (so ?_ (by simp [sizeLine]; omega))
    refine so (so (so ?_))
    have rows : ∀ b ∈ ([cutL (enc 9 (zig n)) none (some (-1)), cutL (enc 9 (zig n)) none (some (-1)) ++ [l + 128], cutL (enc 9 (zig n)) none (some (-1)) ++ [l + 128, 0], enc 9 (zig n) ++ [0], [128], []] : List (List Int)), octs b ∧ b.length ≤ 20 := by
      intro b hb
      simp only [List.mem_cons, List.not_mem_nil, or_false] at hb
      rcases hb with rfl | rfl | rfl | rfl | rfl | rfl
      · exact ⟨co _ _, by omega⟩
      · exact ⟨octs_app (co _ _) (octs_one (by omega)), by simp; omega⟩
      · exact ⟨octs_app (co _ _) (octs_cons (by omega) (octs_one (by decide))), by simp; omega⟩
      · exact ⟨octs_app ho (octs_one (by decide)), by simp; omega⟩
      · exact ⟨octs_one (by decide), by decide⟩
      · exact ⟨octs_nil, by decide⟩
    refine ⟨rfl, by simp [sizeLine], ?_⟩
    refine lcL_mapL (f := LI) (xs := [cutL (enc 9 (zig n)) none (some (-1)), cutL (enc 9 (zig n)) none (some (-1)) ++ [l + 128], cutL (enc 9 (zig n)) none (some (-1)) ++ [l + 128, 0], enc 9 (zig n) ++ [0], [128], []]) (fun b => rdD (rd b 0)) (by simp) (fun b hb T hT => readp_ok (rows b hb).1 (by decide) hT) ?_
    refine ⟨rfl, by simp [sizeLine], ?_⟩
    refine lcL_mapL (f := LI) (xs := [cutL (enc 9 (zig n)) none (some (-1)), cutL (enc 9 (zig n)) none (some (-1)) ++ [l + 128], cutL (enc 9 (zig n)) none (some (-1)) ++ [l + 128, 0], enc 9 (zig n) ++ [0], [128], []]) (fun b => rdD (rd b 0)) (by simp) (fun b hb T hT => readl_ok (rows b hb).1 (by decide) (by decide) (by have := (rows b hb).2; omega) hT) ?_
    refine same_ok rfl (okS_l (by simp) fun d hd => ?_) ?_
    · obtain ⟨b, hb, rfl⟩ := List.mem_map.mp hd
      exact rd_okS (by decide) (by decide) (rows b hb).1 (by have := (rows b hb).2; omega)
    exact ⟨_, _, _, _, _, rfl, hB⟩
  · rintro e ⟨B, s3, s4, s5, s6, rfl, hB⟩
    refine ⟨mid_of, ?_⟩
    refine forR_inv (fun i e => ∃ B s3 s4 s5 s6 s7 s8 s9, e = [.val (SC ns), .own B, .val (LI (vs ++ [p1, 0 - p2])), s3, s4, s5, s6, s7, s8, s9, .no] ∧ Box B) ⟨_, _, _, _, _, _, _, _, rfl, hB⟩ ?_ ?_
    · rintro i e hi ⟨B, s3, s4, s5, s6, s7, s8, s9, rfl, hB⟩
      refine so (pick_ok (rs := kindsD) hB (by decide) fun d1 B1 hd1 hB1 => ?_)
      obtain ⟨n0, hn0, en0⟩ := atI_some (xs := vs ++ [p1, 0 - p2]) (k := 0) (by decide) (by rw [hl2]; decide)
      refine onSome_i (atI_int en0) (so ?_)
      refine pickI_ok (vs := [0, 6, 99, n0]) hB1 (by simp) fun h B2 hh hB2 => ?_
      refine pickI_ok (vs := vs ++ [p1, 0 - p2]) hB2 (by simp) fun c B3 hc hB3 => so ?_
      have hcc := zig_small (hn2 c hc)
      have hhh : zig h < 128 ^ 10 := by
        simp only [List.mem_cons, List.not_mem_nil, or_false] at hh
        rcases hh with rfl | rfl | rfl | rfl
        · decide
        · decide
        · decide
        · exact zig_small (hn2 _ hn0)
      obtain ⟨j, hj, rfl⟩ : ∃ j, j < 5 ∧ d1 = kindsD.getD j .none := by
        simp only [kindsD, List.mem_cons, List.not_mem_nil, or_false] at hd1
        rcases hd1 with rfl | rfl | rfl | rfl | rfl
        · exact ⟨0, by decide, rfl⟩
        · exact ⟨1, by decide, rfl⟩
        · exact ⟨2, by decide, rfl⟩
        · exact ⟨3, by decide, rfl⟩
        · exact ⟨4, by decide, rfl⟩
      refine recordl_ok hj ?_
      refine record_ok hj hhh hcc ?_
      refine fSl_e (check_e (xs := bodyOf j h c) (by rw [cut_rec]) ?_)
      refine readrec_e (xs := recOf j h c) rfl (rec_octs hj hhh hcc) (by decide) (so ?_)
      refine onSome_i (atI_int rec_last) (so (so ?_))
      have hrl := rec_len (j := j) (h := h) (c := c)
      refine same_ok (by simp [told_rec0 hj hhh hcc]; rfl) (okS_l (by simp) (okA_cons (okS_LI (rec_octs hj hhh hcc) (by omega)) (okA_cons (okS_int (n := 10) (by have := chk_lo (xs := bodyOf j h c); omega)) (okA_cons (okS_t (by simp) (okA_cons (deed_okS hj hhh hcc) (okA_cons (okS_int (n := 10) (by rw [map_len]; omega)) okA_nil))) okA_nil)))) ?_
      refine bent_ok hB3 (rec_octs hj hhh hcc) (by omega) ⟨_, rec_at0, by have : 1 ≤ (bodyOf j h c).length := by simp [bodyOf]
                                                                          omega, by simp [recOf]; omega⟩ fun ds B4 hds hdl hB4 => ?_
      refine forL_inv (fun _ e => ∃ s9, e = [.val (SC ns), .own B4, .val (LI (vs ++ [p1, 0 - p2])), s3, .val (LI (recOf j h c)), s5, s6, .val (.int (0 + (i : Int))), .val (deedD j h c), s9, .no]) ⟨_, rfl⟩ ?_ ?_
      · rintro i2 d e hi ⟨s9, rfl⟩
        obtain ⟨b, rfl, hbo, hbl⟩ := hds d (List.mem_of_getElem? hi)
        refine readrec_ok hbo (by decide) (toldl_ok hbo (by decide) (by omega) (same_ok rfl (told_okS (by decide) (by decide) hbo (by omega)) ?_))
        exact ⟨_, rfl⟩
      · rintro e ⟨s9, rfl⟩
        refine so (so ?_ (by simp [sizeLine]; omega)) (by simp [sizeLine])
        refine so (so ?_ (by simp [sizeLine]; omega)) (by simp [sizeLine])
        have ht : told ([9, 9] ++ recOf j h c ++ [1]) 2 = .tuple [deedD j h c, .int (2 + ((recOf j h c).length : Int))] := told_rec (pre := [9, 9]) (post := [1]) hj hhh hcc
        refine readrec_e (xs := [9, 9] ++ recOf j h c ++ [1]) (by simp) (octs_app (octs_app (octs_cons (by decide) (octs_one (by decide))) (rec_octs hj hhh hcc)) (octs_one (by decide))) (by decide) (so ?_)
        refine same_ok (by rw [ht, Int.add_comm]; simp) (okS_t (by simp) (okA_cons (deed_okS hj hhh hcc) (okA_cons (okS_int (n := 10) (by rw [map_len]; omega)) okA_nil))) ?_
        exact ⟨_, _, _, _, _, _, _, _, rfl, hB4⟩
    · rintro e ⟨B, s3, s4, s5, s6, s7, s8, s9, rfl, hB⟩
      refine so (check_e (xs := []) rfl (same_ok rfl (by decide) ?_))
      exact rfl
end P

namespace P
open PySem PySem.Spec PyProof.Rows L2 Y
abbrev R : PySem.W.OpenRow := PySem.W.OpenLaw.row PySem.Challenge.rw_lendland_k09_whole_numbers_and_deeds_as
def top (i : Nat) : Stmt := R.prog.main.body.getD i (.Pass ⟨0, 0, 0, 0⟩)
section
variable {P : Program} {w : World} {K : Frag} {mg : Str → Option Value} {base : Heap}
theorem sc_write_number : FnScope N_write_number ["number"] (defScope (top 2)) := ⟨rfl, rfl, rfl, by decide +kernel, rfl, by decide +kernel, by decide +kernel⟩
theorem ok_write_number {f : Addr} {fd : FuncData} (B : Bt mg) (F : FnP K "write_number" (top 2) f fd)  : FnOk P w K mg base CX0 1 f fd ["number"] (PFn K F_write_number) := by
  rw [show F_write_number = runF 1 3 w_write_number from by unfold F_write_number; rfl]; exact fn_pure F sc_write_number (fun cdv A outer s H E hr =>
    jsC (jSet (i := 1) sc_write_number.nd (jB opMul (jO (jInt)) (jS 0)))
    (jsC (jSIf (jtCmp opLt (jS 0) (jO (jInt))) (js1 (jSet (i := 1) sc_write_number.nd (jB opSub (jO (jB opMul (jO (jU unNeg (jO (jInt)))) (jS 0))) (jO (jInt))))) (jsN))
    (jsC (jOwn (i := 2) sc_write_number.nd (jLst (jaN)))
    (jsC (jWh PassesOwn.never (jtCmp opGt (jS 1) (jO (jInt))) (jsC (jApp (i := 2) (jB opAdd (jO (jB opMod (jS 1) (jO (jInt)))) (jO (jInt))))
    (js1 (jSet (i := 1) sc_write_number.nd (jB opDiv (jS 1) (jO (jInt)))))))
    (jsC (jApp (i := 2) (jV 1))
    (js1 (jRet (jV 2))))))))
theorem sc_read_number : FnScope N_read_number ["octets", "at"] (defScope (top 3)) := ⟨rfl, rfl, rfl, by decide +kernel, rfl, by decide +kernel, by decide +kernel⟩
theorem ok_read_number {f : Addr} {fd : FuncData} (B : Bt mg) (F : FnP K "read_number" (top 3) f fd)  : FnOk P w K mg base CX0 1 f fd ["octets", "at"] (PFn K F_read_number) := by
  rw [show F_read_number = runF 2 5 w_read_number from by unfold F_read_number; rfl]; exact fn_pure F sc_read_number (fun cdv A outer s H E hr =>
    jsC (jSet (i := 2) sc_read_number.nd (jInt))
    (jsC (jSet (i := 3) sc_read_number.nd (jInt))
    (jsC (jSet (i := 4) sc_read_number.nd (jV 1))
    (jsC (jWh PassesOwn.never (jtW (jwA (jtCmp opLt (jS 1) (jO (jCB cLen (by rfl) B.len (by decide +kernel) (jaC (jS 0) (jaN))))) (jwA1 (jtCmp opGt (jO (jIx ixSeq (jS 0) (jS 1))) (jO (jInt)))))) (jsC (jAug (i := 2) sc_read_number.nd ipAdd (jB opMul (jO (jB opSub (jO (jIx ixSeq (jS 0) (jS 1))) (jO (jInt)))) (jS 3)))
    (jsC (jAug (i := 3) sc_read_number.nd ipMul (jInt))
    (js1 (jAug (i := 1) sc_read_number.nd ipAdd (jInt))))))
    (jsC (jSIf (jtW (jwO (jtCmp opGe (jS 1) (jO (jCB cLen (by rfl) B.len (by decide +kernel) (jaC (jS 0) (jaN))))) (jwO1 (jtW (jwA (jtCmp (opEq (hu64 hr)) (jO (jIx ixSeq (jS 0) (jS 1))) (jO (jInt))) (jwA1 (jtCmp opGt (jS 1) (jS 4)))))))) (js1 (jRet (jNon))) (jsN))
    (jsC (jAug (i := 2) sc_read_number.nd ipAdd (jB opMul (jO (jIx ixSeq (jS 0) (jS 1))) (jS 3)))
    (jsC (jSIf (jtCmp (opEq (hu64 hr)) (jO (jB opMod (jS 2) (jO (jInt)))) (jO (jInt))) (js1 (jRet (jTup (jaC (jO (jB opDiv (jO (jU unNeg (jO (jB opAdd (jS 2) (jO (jInt)))))) (jO (jInt)))) (jaC (jO (jB opAdd (jS 1) (jO (jInt)))) (jaN)))))) (jsN))
    (js1 (jRet (jTup (jaC (jO (jB opDiv (jS 2) (jO (jInt)))) (jaC (jO (jB opAdd (jS 1) (jO (jInt)))) (jaN)))))))))))))
theorem sc_check_of : FnScope N_check_of ["octets"] (defScope (top 4)) := ⟨rfl, rfl, rfl, by decide +kernel, rfl, by decide +kernel, by decide +kernel⟩
theorem ok_check_of {f : Addr} {fd : FuncData} (B : Bt mg) (F : FnP K "check_of" (top 4) f fd)  : FnOk P w K mg base CX0 1 f fd ["octets"] (PFn K F_check_of) := by
  rw [show F_check_of = runF 1 3 w_check_of from by unfold F_check_of; rfl]; exact fn_pure F sc_check_of (fun cdv A outer s H E hr =>
    jsC (jSet (i := 1) sc_check_of.nd (jInt))
    (jsC (jFor PassesOwn.never rfl (jiQ (jV 0)) (jgN (i := 2) sc_check_of.nd) (js1 (jSet (i := 1) sc_check_of.nd (jB opMod (jO (jB opAdd (jO (jB opMul (jS 1) (jO (jInt)))) (jS 2))) (jO (jInt))))))
    (js1 (jRet (jV 1)))))
theorem sc_record : FnScope N_record ["deed"] (defScope (top 5)) := ⟨rfl, rfl, rfl, by decide +kernel, rfl, by decide +kernel, by decide +kernel⟩
theorem ok_record {f : Addr} {fd : FuncData} (B : Bt mg) (F : FnP K "record" (top 5) f fd) (D_write_number : Def_ P w K mg base "write_number" ["number"] (PFn K F_write_number) 1) (D_check_of : Def_ P w K mg base "check_of" ["octets"] (PFn K F_check_of) 1) (KT_KINDS : KTup K mg "KINDS" K_KINDS) : FnOk P w K mg base CX0 2 f fd ["deed"] (PFn K F_record) := by
  rw [show F_record = runF 1 2 w_record from by unfold F_record; rfl]; exact fn_pure F sc_record (fun cdv A outer s H E hr =>
    jsC (jSet (i := 1) sc_record.nd (jB opAdd (jO (jB opAdd (jO (jFz (jLst (jaC (jO (jIxT KT_KINDS (by rfl) (jO (jIx ixSeq (jS 0) (jO (jInt)))))) (jaN))))) (jO (dCall D_write_number hr (jaC (jO (jIx ixSeq (jS 0) (jO (jInt)))) (jaN)))))) (jO (dCall D_write_number hr (jaC (jO (jIx ixSeq (jS 0) (jO (jInt)))) (jaN))))))
    (js1 (jRet (jB opAdd (jO (jB opAdd (jO (jFz (jLst (jaC (jO (jCB cLen (by rfl) B.len (by decide +kernel) (jaC (jS 1) (jaN)))) (jaN))))) (jS 1))) (jO (jFz (jLst (jaC (jO (dCall D_check_of hr (jaC (jO (jV 1)) (jaN)))) (jaN)))))))))
theorem sc_read_record : FnScope N_read_record ["octets", "at"] (defScope (top 6)) := ⟨rfl, rfl, rfl, by decide +kernel, rfl, by decide +kernel, by decide +kernel⟩
theorem ok_read_record {f : Addr} {fd : FuncData} (B : Bt mg) (F : FnP K "read_record" (top 6) f fd) (D_check_of : Def_ P w K mg base "check_of" ["octets"] (PFn K F_check_of) 1) (D_read_number : Def_ P w K mg base "read_number" ["octets", "at"] (PFn K F_read_number) 1) (KT_KINDS : KTup K mg "KINDS" K_KINDS) : FnOk P w K mg base CX0 2 f fd ["octets", "at"] (PFn K F_read_record) := by
  rw [show F_read_record = runF 2 6 w_read_record from by unfold F_read_record; rfl]; exact fn_pure F sc_read_record (fun cdv A outer s H E hr =>
    jsC (jSIf (jtW (jwO (jtCmp opGe (jS 1) (jO (jCB cLen (by rfl) B.len (by decide +kernel) (jaC (jS 0) (jaN))))) (jwO1 (jtCmp opGt (jO (jB opAdd (jO (jB opAdd (jS 1) (jO (jIx ixSeq (jS 0) (jS 1))))) (jO (jInt)))) (jO (jCB cLen (by rfl) B.len (by decide +kernel) (jaC (jS 0) (jaN)))))))) (js1 (jRet (jNon))) (jsN))
    (jsC (jSet (i := 2) sc_read_record.nd (jIx ixSeq (jS 0) (jS 1)))
    (jsC (jSet (i := 3) sc_read_record.nd (jSl (jS 0) (jpI (jB opAdd (jS 1) (jO (jInt)))) (jpI (jB opAdd (jO (jB opAdd (jS 1) (jO (jInt)))) (jS 2)))))
    (jsC (jSIf (jtW (jwO (jtCmp (opEq (hu64 hr)) (jS 2) (jO (jInt))) (jwO (jtCmp (opNe (hu64 hr)) (jO (jIx ixSeq (jS 0) (jO (jB opAdd (jO (jB opAdd (jS 1) (jO (jInt)))) (jS 2))))) (jO (dCall D_check_of hr (jaC (jO (jV 3)) (jaN))))) (jwO1 (jtCmp opGe (jO (jIx ixSeq (jS 3) (jO (jInt)))) (jO (jCB cLen (by rfl) B.len (by decide +kernel) (jaC (jO (jKT (by rfl) KT_KINDS)) (jaN))))))))) (js1 (jRet (jNon))) (jsN))
    (jsC (jSet (i := 4) sc_read_record.nd (dCall D_read_number hr (jaC (jO (jV 3)) (jaC (jO (jInt)) (jaN)))))
    (jsC (jSIf (jtCmp opIsB (jS 4) (jO (jNon))) (js1 (jRet (jNon))) (jsN))
    (jsC (jSet (i := 5) sc_read_record.nd (dCall D_read_number hr (jaC (jO (jV 3)) (jaC (jO (jIx ixSeq (jS 4) (jO (jInt)))) (jaN)))))
    (jsC (jSIf (jtW (jwO (jtCmp opIsB (jS 5) (jO (jNon))) (jwO1 (jtCmp (opNe (hu64 hr)) (jO (jIx ixSeq (jS 5) (jO (jInt)))) (jS 2))))) (js1 (jRet (jNon))) (jsN))
    (js1 (jRet (jTup (jaC (jO (jTup (jaC (jO (jIx ixSeq (jO (jKT (by rfl) KT_KINDS)) (jO (jIx ixSeq (jS 3) (jO (jInt)))))) (jaC (jO (jIx ixSeq (jS 4) (jO (jInt)))) (jaC (jO (jIx ixSeq (jS 5) (jO (jInt)))) (jaN)))))) (jaC (jO (jB opAdd (jO (jB opAdd (jS 1) (jS 2))) (jO (jInt)))) (jaN))))))))))))))
theorem sc_law_cell : FnScope N_law_cell ["script", "k"] (defScope (top 8)) := ⟨rfl, rfl, rfl, by decide +kernel, rfl, by decide +kernel, by decide +kernel⟩
theorem ok_law_cell {f : Addr} {fd : FuncData} (B : Bt mg) (F : FnP K "_law_cell" (top 8) f fd)  : FnOk P w K mg base CX0 1 f fd ["script", "k"] (PFn K F_law_cell) := by
  rw [show F_law_cell = runF 2 2 w_law_cell from by unfold F_law_cell; rfl]; exact fn_pure F sc_law_cell (fun cdv A outer s H E hr =>
    jsC (jSIf (jtCmp opLt (jS 1) (jO (jCB cLen (by rfl) B.len (by decide +kernel) (jaC (jS 0) (jaN))))) (js1 (jRet (jIx ixSeq (jS 0) (jS 1)))) (jsN))
    (js1 (jRet (jInt))))
theorem sc_law_digits : FnScope N_law_digits ["script", "first", "last"] (defScope (top 9)) := ⟨rfl, rfl, rfl, by decide +kernel, rfl, by decide +kernel, by decide +kernel⟩
theorem ok_law_digits {f : Addr} {fd : FuncData} (B : Bt mg) (F : FnP K "_law_digits" (top 9) f fd) (D_law_cell : Def_ P w K mg base "_law_cell" ["script", "k"] (PFn K F_law_cell) 1) : FnOk P w K mg base CX0 2 f fd ["script", "first", "last"] (PFn K F_law_digits) := by
  rw [show F_law_digits = runF 3 8 w_law_digits from by unfold F_law_digits; rfl]; exact fn_pure F sc_law_digits (fun cdv A outer s H E hr =>
    jsC (jOwn (i := 3) sc_law_digits.nd (jLst (jaN)))
    (jsC (jFor PassesOwn.never rfl (jiR2 (by rfl) B.range (jaC (jS 1) (jaC (jS 2) (jaN)))) (jgN (i := 4) sc_law_digits.nd) (jsC (jSet (i := 5) sc_law_digits.nd (dCall D_law_cell hr (jaC (jO (jV 0)) (jaC (jO (jV 4)) (jaN)))))
    (jsC (jSIf (jtCmp opLt (jS 5) (jO (jInt))) (js1 (jSet (i := 5) sc_law_digits.nd (jB opSub (jO (jInt)) (jO (jB opMul (jO (jInt)) (jS 5)))))) (jsN))
    (js1 (jSIf (jtCmp opGe (jS 5) (jO (jB opPow (jO (jInt)) (jO (jInt))))) (js1 (jFor PassesOwn.never rfl (jiR1 (by rfl) B.range (jaC (jO (jInt)) (jaN))) (jgN (i := 6) sc_law_digits.nd) (js1 (jSIf (jtCmp opGt (jS 5) (jO (jInt))) (jsC (jApp (i := 3) (jB opMod (jO (jCT cInt (by rfl) B.int (by decide +kernel) (jaC (jS 5) (jaN)))) (jO (jInt))))
    (js1 (jSet (i := 5) sc_law_digits.nd (jB opDiv (jS 5) (jO (jInt)))))) (jsN))))) (jsC (jSet (i := 7) sc_law_digits.nd (jB opMod (jO (jCT cInt (by rfl) B.int (by decide +kernel) (jaC (jO (jB opAdd (jO (jB opAdd (jO (jB opMul (jS 5) (jO (jInt)))) (jO (jB opMul (jS 4) (jO (jInt)))))) (jO (jInt)))) (jaN)))) (jO (jInt))))
    (js1 (jFor PassesOwn.never rfl (jiR1 (by rfl) B.range (jaC (jO (jInt)) (jaN))) (jgN (i := 6) sc_law_digits.nd) (jsC (jSet (i := 7) sc_law_digits.nd (jB opMod (jO (jCT cInt (by rfl) B.int (by decide +kernel) (jaC (jO (jB opAdd (jO (jB opAdd (jO (jB opMul (jS 7) (jO (jInt)))) (jO (jB opMul (jO (jInt)) (jS 6))))) (jO (jInt)))) (jaN)))) (jO (jInt))))
    (js1 (jApp (i := 3) (jB opMod (jO (jCT cInt (by rfl) B.int (by decide +kernel) (jaC (jO (jB opDiv (jS 7) (jO (jInt)))) (jaN)))) (jO (jInt))))))))))))))
    (js1 (jRet (jV 3)))))
theorem sc_law_draw : FnScope N_law_draw ["box", "many"] (defScope (top 10)) := ⟨rfl, rfl, rfl, by decide +kernel, rfl, by decide +kernel, by decide +kernel⟩
theorem ok_law_draw {f : Addr} {fd : FuncData} (B : Bt mg) (F : FnP K "_law_draw" (top 10) f fd)  : FnOk P w K mg base CX0 1 f fd ["box", "many"] (PIo K F_law_draw) := by
  rw [show F_law_draw = runI 2 2 w_law_draw from by unfold F_law_draw; rfl]; exact fn_io F sc_law_draw (by decide) (fun cdv A outer s H E hr =>
    jsC (jAsg (jB opAdd (jO (jIx ixSeq (jS 0) (jO (jInt)))) (jO (jInt))) (jgIx (i := 0) (jInt)))
    (jsC (jSIf (jtCmp opGt (jO (jIx ixSeq (jS 0) (jO (jInt)))) (jO (jCB cLen (by rfl) B.len (by decide +kernel) (jaC (jO (jIx ixSeq (jS 0) (jO (jInt)))) (jaN))))) (js1 (jRet (jB opMod (jO (jCT cInt (by rfl) B.int (by decide +kernel) (jaC (jO (jB opAdd (jO (jB opMul (jO (jIx ixSeq (jS 0) (jO (jInt)))) (jO (jInt)))) (jO (jInt)))) (jaN)))) (jS 1)))) (jsN))
    (js1 (jRet (jB opMod (jO (jCT cInt (by rfl) B.int (by decide +kernel) (jaC (jO (jIx ixSeq (jO (jIx ixSeq (jS 0) (jO (jInt)))) (jO (jB opSub (jO (jIx ixSeq (jS 0) (jO (jInt)))) (jO (jInt)))))) (jaN)))) (jS 1))))))
theorem sc_law_pick : FnScope N_law_pick ["box", "row"] (defScope (top 11)) := ⟨rfl, rfl, rfl, by decide +kernel, rfl, by decide +kernel, by decide +kernel⟩
theorem ok_law_pick {f : Addr} {fd : FuncData} (B : Bt mg) (F : FnP K "_law_pick" (top 11) f fd) (D_law_draw : Def_ P w K mg base "_law_draw" ["box", "many"] (PIo K F_law_draw) 1) : FnOk P w K mg base CX0 2 f fd ["box", "row"] (PIo K F_law_pick) := by
  rw [show F_law_pick = runI 2 2 w_law_pick from by unfold F_law_pick; rfl]; exact fn_io F sc_law_pick (by decide) (fun cdv A outer s H E hr =>
    js1 (jRet (jIx ixSeq (jS 1) (jO (jB opMod (jO (jCT cInt (by rfl) B.int (by decide +kernel) (jaC (jO (dCallI (i := 0) D_law_draw hr (jaC (jO (jInt)) (jaN)))) (jaN)))) (jO (jCB cLen (by rfl) B.len (by decide +kernel) (jaC (jS 1) (jaN)))))))))
theorem sc_law_same : FnScope N_law_same ["told", "due"] (defScope (top 12)) := ⟨rfl, rfl, rfl, by decide +kernel, rfl, by decide +kernel, by decide +kernel⟩
theorem ok_law_same {f : Addr} {fd : FuncData} {Fr : FSpec} {k : Nat} (hk : 0 ≤ k) (B : Bt mg) (F : FnP K "_law_same" (top 12) f fd) (D_self : Def_ P w K mg base "_law_same" ["told", "due"] (PFn K Fr) k)  : FnOk P w K mg base CX0 (k + 1) f fd ["told", "due"] (PFn K (F_law_same Fr)) := by
  rw [show F_law_same Fr = runF 2 3 (w_law_same Fr) from by unfold F_law_same; rfl]; exact fn_pure F sc_law_same (fun cdv A outer s H E hr =>
    jsC (jSIf (jtCmp opIsB (jS 1) (jO (jNon))) (js1 (jRet (jCmp opIsB (jS 0) (jO (jNon))))) (jsN))
    (jsC (jSIf (jtCmp opIsB (jS 1) (jO (jBl))) (js1 (jRet (jCmp opIsB (jS 0) (jO (jBl))))) (jsN))
    (jsC (jSIf (jtCmp opIsB (jS 1) (jO (jBl))) (js1 (jRet (jCmp opIsB (jS 0) (jO (jBl))))) (jsN))
    (jsC (jSIf (jtE (jIsi (Ty0 := .str) rfl (by rfl) B.isinstance (by rfl) B.str (by decide +kernel) (jS 1))) (js1 (jRet (jAnd (jIsi (Ty0 := .str) rfl (by rfl) B.isinstance (by rfl) B.str (by decide +kernel) (jS 0)) (jOne (jCmp (opEq (hu64 hr)) (jO (jCB cRepr (by rfl) B.repr (by decide +kernel) (jaC (jS 0) (jaN)))) (jO (jCB cRepr (by rfl) B.repr (by decide +kernel) (jaC (jS 1) (jaN))))))))) (jsN))
    (jsC (jSIf (jtE (jIsi (Ty0 := .int) rfl (by rfl) B.isinstance (by rfl) B.int (by decide +kernel) (jS 1))) (js1 (jRet (jAnd (jIsi (Ty0 := .int) rfl (by rfl) B.isinstance (by rfl) B.int (by decide +kernel) (jS 0)) (jAnd (jNot (jIsi (Ty0 := .bool) rfl (by rfl) B.isinstance (by rfl) B.bool (by decide +kernel) (jS 0))) (jOne (jCmp (opEq (hu64 hr)) (jO (jCB cRepr (by rfl) B.repr (by decide +kernel) (jaC (jS 0) (jaN)))) (jO (jCB cRepr (by rfl) B.repr (by decide +kernel) (jaC (jS 1) (jaN)))))))))) (jsN))
    (jsC (jSIf (jtE (jIsi (Ty0 := .dict) rfl (by rfl) B.isinstance (by rfl) B.dict (by decide +kernel) (jS 1))) (js1 (jRet (jAnd (jIsi (Ty0 := .dict) rfl (by rfl) B.isinstance (by rfl) B.dict (by decide +kernel) (jS 0)) (jOne (dCall D_self hr (jaC (jO (jFz (jCTL cList (by rfl) B.list (by decide +kernel) (jaC (jO (jNo)) (jaN))))) (jaC (jO (jFz (jCTL cList (by rfl) B.list (by decide +kernel) (jaC (jO (jNo)) (jaN))))) (jaN))) (Nat.le_refl _)))))) (jsN))
    (jsC (jSIf (jtW (jwO (jtW (jwA (jtE (jIsi (Ty0 := .tuple) rfl (by rfl) B.isinstance (by rfl) B.tuple (by decide +kernel) (jS 1))) (jwA1 (jtNot (jtE (jIsi (Ty0 := .tuple) rfl (by rfl) B.isinstance (by rfl) B.tuple (by decide +kernel) (jS 0))))))) (jwO1 (jtW (jwA (jtE (jIsi (Ty0 := .list) rfl (by rfl) B.isinstance (by rfl) B.list (by decide +kernel) (jS 1))) (jwA1 (jtNot (jtE (jIsi (Ty0 := .list) rfl (by rfl) B.isinstance (by rfl) B.list (by decide +kernel) (jS 0)))))))))) (js1 (jRet (jBl))) (jsN))
    (jsC (jSIf (jtCmp (opNe (hu64 hr)) (jO (jCB cLen (by rfl) B.len (by decide +kernel) (jaC (jS 0) (jaN)))) (jO (jCB cLen (by rfl) B.len (by decide +kernel) (jaC (jS 1) (jaN))))) (js1 (jRet (jBl))) (jsN))
    (jsC (jFor PassesOwn.never rfl (jiR1 (by rfl) B.range (jaC (jO (jCB cLen (by rfl) B.len (by decide +kernel) (jaC (jS 1) (jaN)))) (jaN))) (jgN (i := 2) sc_law_same.nd) (js1 (jSIf (jtNot (jtE (dCall D_self hr (jaC (jO (jIx ixSeq (jS 0) (jS 2))) (jaC (jO (jIx ixSeq (jS 1) (jS 2))) (jaN))) (Nat.le_refl _)))) (js1 (jRet (jBl))) (jsN))))
    (js1 (jRet (jBl))))))))))))
theorem sc_law_octets : FnScope N_law_octets ["number"] (defScope (top 13)) := ⟨rfl, rfl, rfl, by decide +kernel, rfl, by decide +kernel, by decide +kernel⟩
theorem ok_law_octets {f : Addr} {fd : FuncData} (B : Bt mg) (F : FnP K "_law_octets" (top 13) f fd)  : FnOk P w K mg base CX0 1 f fd ["number"] (PFn K F_law_octets) := by
  rw [show F_law_octets = runF 1 4 w_law_octets from by unfold F_law_octets; rfl]; exact fn_pure F sc_law_octets (fun cdv A outer s H E hr =>
    jsC (jPar2 rfl sc_law_octets.nd (jxV (jIf (jtCmp opGe (jS 0) (jO (jInt))) (jB opMul (jO (jInt)) (jS 0)) (jB opSub (jO (jB opSub (jO (jInt)) (jO (jB opMul (jO (jInt)) (jS 0))))) (jO (jInt)))) (jxL (jLst (jaN)) (jxN))) rfl)
    (jsC (jFor PassesOwn.never rfl (jiR1 (by rfl) B.range (jaC (jO (jInt)) (jaN))) (jgN (i := 3) sc_law_octets.nd) (js1 (jSIf (jtCmp opGt (jS 1) (jO (jInt))) (jsC (jApp (i := 2) (jB opAdd (jO (jB opMod (jO (jCT cInt (by rfl) B.int (by decide +kernel) (jaC (jS 1) (jaN)))) (jO (jInt)))) (jO (jInt))))
    (js1 (jSet (i := 1) sc_law_octets.nd (jB opDiv (jS 1) (jO (jInt)))))) (jsN))))
    (js1 (jRet (jB opAdd (jS 2) (jO (jFz (jLst (jaC (jO (jV 1)) (jaN))))))))))
theorem sc_law_read : FnScope N_law_read ["octets", "at"] (defScope (top 14)) := ⟨rfl, rfl, rfl, by decide +kernel, rfl, by decide +kernel, by decide +kernel⟩
theorem ok_law_read {f : Addr} {fd : FuncData} (B : Bt mg) (F : FnP K "_law_read" (top 14) f fd)  : FnOk P w K mg base CX0 1 f fd ["octets", "at"] (PFn K F_law_read) := by
  rw [show F_law_read = runF 2 5 w_law_read from by unfold F_law_read; rfl]; exact fn_pure F sc_law_read (fun cdv A outer s H E hr =>
    jsC (jParT (is := [2, 3]) rfl (jxV (jInt) (jxV (jInt) (jxN))) (pgs_cons (pg_name (i := 2) sc_law_read.nd rfl (by first | exact Or.inl rfl | exact Or.inr rfl)) (pgs_cons (pg_name (i := 3) sc_law_read.nd rfl (by first | exact Or.inl rfl | exact Or.inr rfl)) (pgs_nil))))
    (jsC (jFor PassesOwn.never rfl (jiR2 (by rfl) B.range (jaC (jS 1) (jaC (jO (jCB cLen (by rfl) B.len (by decide +kernel) (jaC (jS 0) (jaN)))) (jaN)))) (jgN (i := 4) sc_law_read.nd) (js1 (jSIf (jtCmp opGt (jO (jIx ixSeq (jS 0) (jS 4))) (jO (jInt))) (js1 (jPar2 rfl sc_law_read.nd (jxV (jB opAdd (jS 2) (jO (jB opMul (jO (jB opSub (jO (jIx ixSeq (jS 0) (jS 4))) (jO (jInt)))) (jS 3)))) (jxV (jB opMul (jS 3) (jO (jInt))) (jxN))) rfl)) (jsC (jSet (i := 2) sc_law_read.nd (jB opAdd (jS 2) (jO (jB opMul (jO (jIx ixSeq (jS 0) (jS 4))) (jS 3)))))
    (jsC (jSIf (jtW (jwA (jtCmp (opEq (hu64 hr)) (jO (jIx ixSeq (jS 0) (jS 4))) (jO (jInt))) (jwA1 (jtCmp opGt (jS 4) (jS 1))))) (js1 (jRet (jNon))) (jsN))
    (js1 (jRet (jTup (jaC (jO (jIf (jtCmp (opEq (hu64 hr)) (jO (jB opMod (jO (jCT cInt (by rfl) B.int (by decide +kernel) (jaC (jS 2) (jaN)))) (jO (jInt)))) (jO (jInt))) (jB opDiv (jS 2) (jO (jInt))) (jB opSub (jO (jInt)) (jO (jB opDiv (jO (jB opAdd (jS 2) (jO (jInt)))) (jO (jInt))))))) (jaC (jO (jB opAdd (jS 4) (jO (jInt)))) (jaN)))))))))))
    (js1 (jRet (jNon)))))
theorem sc_law_check : FnScope N_law_check ["body"] (defScope (top 15)) := ⟨rfl, rfl, rfl, by decide +kernel, rfl, by decide +kernel, by decide +kernel⟩
theorem ok_law_check {f : Addr} {fd : FuncData} (B : Bt mg) (F : FnP K "_law_check" (top 15) f fd)  : FnOk P w K mg base CX0 1 f fd ["body"] (PFn K F_law_check) := by
  rw [show F_law_check = runF 1 3 w_law_check from by unfold F_law_check; rfl]; exact fn_pure F sc_law_check (fun cdv A outer s H E hr =>
    jsC (jSet (i := 1) sc_law_check.nd (jInt))
    (jsC (jFor PassesOwn.never rfl (jiQ (jV 0)) (jgN (i := 2) sc_law_check.nd) (js1 (jSet (i := 1) sc_law_check.nd (jB opMod (jO (jCT cInt (by rfl) B.int (by decide +kernel) (jaC (jO (jB opAdd (jO (jB opMul (jO (jInt)) (jS 1))) (jS 2))) (jaN)))) (jO (jInt))))))
    (js1 (jRet (jV 1)))))
theorem sc_law_record : FnScope N_law_record ["deed"] (defScope (top 16)) := ⟨rfl, rfl, rfl, by decide +kernel, rfl, by decide +kernel, by decide +kernel⟩
theorem ok_law_record {f : Addr} {fd : FuncData} (B : Bt mg) (F : FnP K "_law_record" (top 16) f fd) (D_law_octets : Def_ P w K mg base "_law_octets" ["number"] (PFn K F_law_octets) 1) (D_law_check : Def_ P w K mg base "_law_check" ["body"] (PFn K F_law_check) 1) : FnOk P w K mg base CX0 2 f fd ["deed"] (PFn K F_law_record) := by
  rw [show F_law_record = runF 1 3 w_law_record from by unfold F_law_record; rfl]; exact fn_pure F sc_law_record (fun cdv A outer s H E hr =>
    jsC (jSet (i := 1) sc_law_record.nd (jFz (jLst (jaC (jO (jStr)) (jaC (jO (jStr)) (jaC (jO (jStr)) (jaC (jO (jStr)) (jaC (jO (jStr)) (jaN)))))))))
    (jsC (jSet (i := 2) sc_law_record.nd (jB opAdd (jO (jB opAdd (jO (jFz (jLst (jaC (jO (jIndex (jS 1) (jO (jIx ixSeq (jS 0) (jO (jInt)))) (fun to t ho ha => pe_bm PySem.F.plainAttrs_list PySem.F.slot_list_index PySem.F.type_list_index (mt_indexD (hu65 hr)) ho ha))) (jaN))))) (jO (dCall D_law_octets hr (jaC (jO (jIx ixSeq (jS 0) (jO (jInt)))) (jaN)))))) (jO (dCall D_law_octets hr (jaC (jO (jIx ixSeq (jS 0) (jO (jInt)))) (jaN))))))
    (js1 (jRet (jB opAdd (jO (jB opAdd (jO (jFz (jLst (jaC (jO (jCB cLen (by rfl) B.len (by decide +kernel) (jaC (jS 2) (jaN)))) (jaN))))) (jS 2))) (jO (jFz (jLst (jaC (jO (dCall D_law_check hr (jaC (jO (jV 2)) (jaN)))) (jaN))))))))))
theorem sc_law_told : FnScope N_law_told ["octets", "at"] (defScope (top 17)) := ⟨rfl, rfl, rfl, by decide +kernel, rfl, by decide +kernel, by decide +kernel⟩
theorem ok_law_told {f : Addr} {fd : FuncData} (B : Bt mg) (F : FnP K "_law_told" (top 17) f fd) (D_law_check : Def_ P w K mg base "_law_check" ["body"] (PFn K F_law_check) 1) (D_law_read : Def_ P w K mg base "_law_read" ["octets", "at"] (PFn K F_law_read) 1) : FnOk P w K mg base CX0 2 f fd ["octets", "at"] (PFn K F_law_told) := by
  rw [show F_law_told = runF 2 7 w_law_told from by unfold F_law_told; rfl]; exact fn_pure F sc_law_told (fun cdv A outer s H E hr =>
    jsC (jSet (i := 2) sc_law_told.nd (jFz (jLst (jaC (jO (jStr)) (jaC (jO (jStr)) (jaC (jO (jStr)) (jaC (jO (jStr)) (jaC (jO (jStr)) (jaN)))))))))
    (jsC (jSIf (jtW (jwO (jtCmp opGe (jS 1) (jO (jCB cLen (by rfl) B.len (by decide +kernel) (jaC (jS 0) (jaN))))) (jwO (jtCmp (opEq (hu64 hr)) (jO (jIx ixSeq (jS 0) (jS 1))) (jO (jInt))) (jwO1 (jtCmp opLt (jO (jCB cLen (by rfl) B.len (by decide +kernel) (jaC (jS 0) (jaN)))) (jO (jB opAdd (jO (jB opAdd (jS 1) (jO (jIx ixSeq (jS 0) (jS 1))))) (jO (jInt))))))))) (js1 (jRet (jNon))) (jsN))
    (jsC (jPar2 rfl sc_law_told.nd (jxV (jSl (jS 0) (jpI (jB opAdd (jS 1) (jO (jInt)))) (jpI (jB opAdd (jO (jB opAdd (jS 1) (jO (jInt)))) (jO (jIx ixSeq (jS 0) (jS 1)))))) (jxV (jIx ixSeq (jS 0) (jO (jB opAdd (jO (jB opAdd (jS 1) (jO (jInt)))) (jO (jIx ixSeq (jS 0) (jS 1)))))) (jxN))) rfl)
    (jsC (jSIf (jtW (jwO (jtCmp (opNe (hu64 hr)) (jS 4) (jO (dCall D_law_check hr (jaC (jO (jV 3)) (jaN))))) (jwO1 (jtCmp opGt (jO (jIx ixSeq (jS 3) (jO (jInt)))) (jO (jInt)))))) (js1 (jRet (jNon))) (jsN))
    (jsC (jSet (i := 5) sc_law_told.nd (dCall D_law_read hr (jaC (jO (jV 3)) (jaC (jO (jInt)) (jaN)))))
    (jsC (jSet (i := 6) sc_law_told.nd (jIf (jtCmp opIsNot (jS 5) (jO (jNon))) (dCall D_law_read hr (jaC (jO (jV 3)) (jaC (jO (jIx ixSeq (jS 5) (jO (jInt)))) (jaN)))) (jNon)))
    (jsC (jSIf (jtW (jwO (jtCmp opIsB (jS 6) (jO (jNon))) (jwO1 (jtCmp (opNe (hu64 hr)) (jO (jIx ixSeq (jS 6) (jO (jInt)))) (jO (jCB cLen (by rfl) B.len (by decide +kernel) (jaC (jS 3) (jaN)))))))) (js1 (jRet (jNon))) (jsN))
    (js1 (jRet (jTup (jaC (jO (jTup (jaC (jO (jIx ixSeq (jS 2) (jO (jIx ixSeq (jS 3) (jO (jInt)))))) (jaC (jO (jIx ixSeq (jS 5) (jO (jInt)))) (jaC (jO (jIx ixSeq (jS 6) (jO (jInt)))) (jaN)))))) (jaC (jO (jB opAdd (jO (jB opAdd (jS 1) (jO (jIx ixSeq (jS 0) (jS 1))))) (jO (jInt)))) (jaN)))))))))))))
theorem sc_law_bent : FnScope N_law_bent ["box", "octets"] (defScope (top 18)) := ⟨rfl, rfl, rfl, by decide +kernel, rfl, by decide +kernel, by decide +kernel⟩
theorem ok_law_bent {f : Addr} {fd : FuncData} (B : Bt mg) (F : FnP K "_law_bent" (top 18) f fd) (D_law_draw : Def_ P w K mg base "_law_draw" ["box", "many"] (PIo K F_law_draw) 1) (D_law_check : Def_ P w K mg base "_law_check" ["body"] (PFn K F_law_check) 1) : FnOk P w K mg base CX0 2 f fd ["box", "octets"] (PIo K F_law_bent) := by
  rw [show F_law_bent = runI 2 6 w_law_bent from by unfold F_law_bent; rfl]; exact fn_io F sc_law_bent (by decide) (fun cdv A outer s H E hr =>
    jsC (jSet (i := 2) sc_law_bent.nd (dCallI (i := 0) D_law_draw hr (jaC (jO (jCB cLen (by rfl) B.len (by decide +kernel) (jaC (jS 1) (jaN)))) (jaN))))
    (jsC (jOwn (i := 3) sc_law_bent.nd (jLst (jaC (jO (jSl (jS 1) (jpN) (jpI (jV 2)))) (jaC (jO (jB opAdd (jO (jB opAdd (jO (jSl (jS 1) (jpN) (jpI (jV 2)))) (jO (jFz (jLst (jaC (jO (dCallI (i := 0) D_law_draw hr (jaC (jO (jInt)) (jaN)))) (jaN))))))) (jO (jSl (jS 1) (jpI (jB opAdd (jS 2) (jO (jInt)))) (jpN))))) (jaC (jO (jB opAdd (jO (jB opAdd (jO (jSl (jS 1) (jpN) (jpI (jV 2)))) (jO (jFz (jLst (jaC (jO (dCallI (i := 0) D_law_draw hr (jaC (jO (jInt)) (jaN)))) (jaN))))))) (jO (jSl (jS 1) (jpI (jV 2)) (jpN))))) (jaC (jO (jB opAdd (jS 1) (jO (jFz (jLst (jaC (jO (jInt)) (jaN))))))) (jaN)))))))
    (jsC (jSet (i := 4) sc_law_bent.nd (jIx ixSeq (jS 1) (jO (jInt))))
    (jsC (jFor PassesOwn.never rfl (jiQ (jFz (jLst (jaC (jO (jB opAdd (jO (jSl (jS 1) (jpI (jInt)) (jpI (jV 4)))) (jO (jFz (jLst (jaC (jO (jIf (jtCmp opLt (jO (jIx ixSeq (jS 1) (jS 4))) (jO (jInt))) (jB opAdd (jO (jIx ixSeq (jS 1) (jS 4))) (jO (jInt))) (jIx ixSeq (jS 1) (jS 4)))) (jaC (jO (jInt)) (jaN)))))))) (jaC (jO (jB opAdd (jO (jFz (jLst (jaC (jO (jInt)) (jaN))))) (jO (jSl (jS 1) (jpI (jInt)) (jpI (jB opAdd (jS 4) (jO (jInt)))))))) (jaC (jO (jB opAdd (jO (jSl (jS 1) (jpI (jInt)) (jpI (jB opAdd (jS 4) (jO (jInt)))))) (jO (jFz (jLst (jaC (jO (jInt)) (jaN))))))) (jaC (jO (jFz (jLst (jaC (jO (jInt)) (jaN))))) (jaN)))))))) (jgN (i := 5) sc_law_bent.nd) (js1 (jApp (i := 3) (jB opAdd (jO (jB opAdd (jO (jFz (jLst (jaC (jO (jCB cLen (by rfl) B.len (by decide +kernel) (jaC (jS 5) (jaN)))) (jaN))))) (jS 5))) (jO (jFz (jLst (jaC (jO (dCall D_law_check hr (jaC (jO (jV 5)) (jaN)))) (jaN)))))))))
    (js1 (jRet (jB opAdd (jS 3) (jO (jFz (jLst (jaC (jO (jFz (jLst (jaC (jO (jInt)) (jaC (jO (jInt)) (jaN)))))) (jaC (jO (jFz (jLst (jaN)))) (jaN)))))))))))))
theorem sc_law : FnScope N_law ["script"] (defScope (top 19)) := ⟨rfl, rfl, rfl, by decide +kernel, rfl, by decide +kernel, by decide +kernel⟩
theorem ok_law {f : Addr} {fd : FuncData} (B : Bt mg) (F : FnP K "law" (top 19) f fd) (D_law_digits : Def_ P w K mg base "_law_digits" ["script", "first", "last"] (PFn K F_law_digits) 2) (D_law_draw : Def_ P w K mg base "_law_draw" ["box", "many"] (PIo K F_law_draw) 1) (D_law_pick : Def_ P w K mg base "_law_pick" ["box", "row"] (PIo K F_law_pick) 2) (D_law_octets : Def_ P w K mg base "_law_octets" ["number"] (PFn K F_law_octets) 1) (D_law_same : Def_ P w K mg base "_law_same" ["told", "due"] (PFn K (S_same 9)) 9) (D_read_number : Def_ P w K mg base "read_number" ["octets", "at"] (PFn K F_read_number) 1) (D_write_number : Def_ P w K mg base "write_number" ["number"] (PFn K F_write_number) 1) (D_law_read : Def_ P w K mg base "_law_read" ["octets", "at"] (PFn K F_law_read) 1) (D_law_record : Def_ P w K mg base "_law_record" ["deed"] (PFn K F_law_record) 2) (D_read_record : Def_ P w K mg base "read_record" ["octets", "at"] (PFn K F_read_record) 2) (D_check_of : Def_ P w K mg base "check_of" ["octets"] (PFn K F_check_of) 1) (D_record : Def_ P w K mg base "record" ["deed"] (PFn K F_record) 2) (D_law_bent : Def_ P w K mg base "_law_bent" ["box", "octets"] (PIo K F_law_bent) 2) (D_law_told : Def_ P w K mg base "_law_told" ["octets", "at"] (PFn K F_law_told) 2) : FnOk P w K mg base CX0 10 f fd ["script"] (PFn K F_law) := by
  rw [show F_law = runF 1 11 w_law from by unfold F_law; rfl]; exact fn_pure F sc_law (fun cdv A outer s H E hr =>
    jsC (jOwn (i := 1) sc_law.nd (jLst (jaC (jO (dCall D_law_digits hr (jaC (jO (jV 0)) (jaC (jO (jInt)) (jaC (jO (jInt)) (jaN)))))) (jaC (jO (jInt)) (jaN)))))
    (jsC (jSetLc (i := 2) rfl sc_law.nd (sw_true rfl rfl rfl (by decide +kernel)) (jiR1 (by rfl) B.range (jaC (jO (jInt)) (jaN))) (blkOk_by (own := [("k", 10)]) rfl) (fun _ _ _ _ _ => jgN (i := 10) sc_law.nd) (fun _ _ _ _ _ => jts0) (fun _ _ _ _ _ => jB opSub (jO (jB opMul (jO (dCallI (i := 1) D_law_draw hr (jaC (jO (jInt)) (jaN)))) (jO (jInt)))) (jO (jB opMul (jO (dCallI (i := 1) D_law_draw hr (jaC (jO (jInt)) (jaN)))) (jO (jInt))))))
    (jsC (jSet (i := 2) sc_law.nd (jB opAdd (jS 2) (jO (jFz (jLst (jaC (jO (dCallI (i := 1) D_law_pick hr (jaC (jO (jFz (jLst (jaC (jO (jInt)) (jaC (jO (jInt)) (jaC (jO (jInt)) (jaC (jO (jInt)) (jaC (jO (jInt)) (jaC (jO (jInt)) (jaN)))))))))) (jaN)))) (jaC (jO (jB opSub (jO (jInt)) (jO (dCallI (i := 1) D_law_pick hr (jaC (jO (jFz (jLst (jaC (jO (jInt)) (jaC (jO (jInt)) (jaC (jO (jInt)) (jaC (jO (jInt)) (jaC (jO (jInt)) (jaC (jO (jInt)) (jaN)))))))))) (jaN)))))) (jaN))))))))
    (jsC (jFor PassesOwn.never rfl (jiQ (jV 2)) (jgN (i := 3) sc_law.nd) (jsC (jPar2 rfl sc_law.nd (jxV (dCall D_law_octets hr (jaC (jO (jV 3)) (jaN))) (jxV (jFz (jLc rfl sc_law.nd (jiR1 (by rfl) B.range (jaC (jO (dCallI (i := 1) D_law_draw hr (jaC (jO (jInt)) (jaN)))) (jaN))) (blkOk_by (own := [("k", 10)]) rfl) (fun _ _ _ _ _ => jgN (i := 10) sc_law.nd) (fun _ _ _ _ _ => jts0) (fun _ _ _ _ _ => dCallI (i := 1) D_law_draw hr (jaC (jO (jInt)) (jaN))))) (jxN))) rfl)
    (jsC (jSIf (jtNot (jtE (dCall D_law_same hr (jaC (jO (jFz (jLst (jaC (jO (dCall D_write_number hr (jaC (jO (jV 3)) (jaN)))) (jaC (jO (dCall D_read_number hr (jaC (jO (jB opAdd (jS 5) (jS 4))) (jaC (jO (jCB cLen (by rfl) B.len (by decide +kernel) (jaC (jS 5) (jaN)))) (jaN))))) (jaN)))))) (jaC (jO (jFz (jLst (jaC (jO (jV 4)) (jaC (jO (jTup (jaC (jO (jV 3)) (jaC (jO (jB opAdd (jO (jCB cLen (by rfl) B.len (by decide +kernel) (jaC (jS 5) (jaN)))) (jO (jCB cLen (by rfl) B.len (by decide +kernel) (jaC (jS 4) (jaN)))))) (jaN))))) (jaN)))))) (jaN)))))) (js1 (jRet (jBl))) (jsN))
    (jsC (jSet (i := 6) sc_law.nd (jFz (jLst (jaC (jO (jSl (jS 4) (jpN) (jpI (jU unNeg (jO (jInt)))))) (jaC (jO (jB opAdd (jO (jSl (jS 4) (jpN) (jpI (jU unNeg (jO (jInt)))))) (jO (jFz (jLst (jaC (jO (jB opAdd (jO (jIx ixSeq (jS 4) (jO (jU unNeg (jO (jInt)))))) (jO (jInt)))) (jaN))))))) (jaC (jO (jB opAdd (jO (jSl (jS 4) (jpN) (jpI (jU unNeg (jO (jInt)))))) (jO (jFz (jLst (jaC (jO (jB opAdd (jO (jIx ixSeq (jS 4) (jO (jU unNeg (jO (jInt)))))) (jO (jInt)))) (jaC (jO (jInt)) (jaN)))))))) (jaC (jO (jB opAdd (jS 4) (jO (jFz (jLst (jaC (jO (jInt)) (jaN))))))) (jaC (jO (jFz (jLst (jaC (jO (jInt)) (jaN))))) (jaC (jO (jFz (jLst (jaN)))) (jaN))))))))))
    (js1 (jSIf (jtNot (jtE (dCall D_law_same hr (jaC (jO (jFz (jLc rfl sc_law.nd (jiQ (jV 6)) (blkOk_by (own := [("row", 9)]) rfl) (fun _ _ _ _ _ => jgN (i := 9) sc_law.nd) (fun _ _ _ _ _ => jts0) (fun _ _ _ _ _ => dCall D_read_number hr (jaC (jO (jFz (jCTL cList (by rfl) B.list (by decide +kernel) (jaC (jS 9) (jaN))))) (jaC (jO (jInt)) (jaN))))))) (jaC (jO (jFz (jLc rfl sc_law.nd (jiQ (jV 6)) (blkOk_by (own := [("row", 9)]) rfl) (fun _ _ _ _ _ => jgN (i := 9) sc_law.nd) (fun _ _ _ _ _ => jts0) (fun _ _ _ _ _ => dCall D_law_read hr (jaC (jO (jV 9)) (jaC (jO (jInt)) (jaN))))))) (jaN)))))) (js1 (jRet (jBl))) (jsN)))))))
    (jsC (jFor PassesOwn.never rfl (jiR1 (by rfl) B.range (jaC (jO (jInt)) (jaN))) (jgN (i := 7) sc_law.nd) (jsC (jSet (i := 8) sc_law.nd (jTup (jaC (jO (dCallI (i := 1) D_law_pick hr (jaC (jO (jFz (jLst (jaC (jO (jStr)) (jaC (jO (jStr)) (jaC (jO (jStr)) (jaC (jO (jStr)) (jaC (jO (jStr)) (jaN))))))))) (jaN)))) (jaC (jO (dCallI (i := 1) D_law_pick hr (jaC (jO (jFz (jLst (jaC (jO (jInt)) (jaC (jO (jInt)) (jaC (jO (jInt)) (jaC (jO (jIx ixSeq (jS 2) (jO (jInt)))) (jaN)))))))) (jaN)))) (jaC (jO (dCallI (i := 1) D_law_pick hr (jaC (jO (jV 2)) (jaN)))) (jaN))))))
    (jsC (jSet (i := 4) sc_law.nd (dCall D_law_record hr (jaC (jO (jV 8)) (jaN))))
    (jsC (jSIf (jtNot (jtE (dCall D_law_same hr (jaC (jO (jFz (jLst (jaC (jO (dCall D_record hr (jaC (jO (jV 8)) (jaN)))) (jaC (jO (dCall D_check_of hr (jaC (jO (jSl (jS 4) (jpI (jInt)) (jpI (jU unNeg (jO (jInt)))))) (jaN)))) (jaC (jO (dCall D_read_record hr (jaC (jO (jFz (jCTL cList (by rfl) B.list (by decide +kernel) (jaC (jS 4) (jaN))))) (jaC (jO (jInt)) (jaN))))) (jaN))))))) (jaC (jO (jFz (jLst (jaC (jO (jV 4)) (jaC (jO (jIx ixSeq (jS 4) (jO (jU unNeg (jO (jInt)))))) (jaC (jO (jTup (jaC (jO (jV 8)) (jaC (jO (jCB cLen (by rfl) B.len (by decide +kernel) (jaC (jS 4) (jaN)))) (jaN))))) (jaN))))))) (jaN)))))) (js1 (jRet (jBl))) (jsN))
    (jsC (jFor PassesOwn.never rfl (jiQ (dCallI (i := 1) D_law_bent hr (jaC (jO (jV 4)) (jaN)))) (jgN (i := 9) sc_law.nd) (js1 (jSIf (jtNot (jtE (dCall D_law_same hr (jaC (jO (dCall D_read_record hr (jaC (jO (jFz (jCTL cList (by rfl) B.list (by decide +kernel) (jaC (jS 9) (jaN))))) (jaC (jO (jInt)) (jaN))))) (jaC (jO (dCall D_law_told hr (jaC (jO (jV 9)) (jaC (jO (jInt)) (jaN))))) (jaN)))))) (js1 (jRet (jBl))) (jsN))))
    (js1 (jSIf (jtNot (jtE (dCall D_law_same hr (jaC (jO (dCall D_read_record hr (jaC (jO (jB opAdd (jO (jB opAdd (jO (jFz (jLst (jaC (jO (jInt)) (jaC (jO (jInt)) (jaN)))))) (jS 4))) (jO (jFz (jLst (jaC (jO (jInt)) (jaN))))))) (jaC (jO (jInt)) (jaN))))) (jaC (jO (jTup (jaC (jO (jV 8)) (jaC (jO (jB opAdd (jO (jCB cLen (by rfl) B.len (by decide +kernel) (jaC (jS 4) (jaN)))) (jO (jInt)))) (jaN))))) (jaN)))))) (js1 (jRet (jBl))) (jsN))))))))
    (js1 (jRet (dCall D_law_same hr (jaC (jO (dCall D_check_of hr (jaC (jO (jFz (jLst (jaN)))) (jaN)))) (jaC (jO (jInt)) (jaN)))))))))))
end
end P

namespace P
open PySem PySem.Spec PyProof.Rows L2 Y
def dd (i : Nat) (n : Str) : He.DefD := ⟨(n, none), n, n, defArgs (top i), defBody (top i), defScope (top i), [], []⟩
def fn : List He.DefD := [dd 2 "write_number", dd 3 "read_number", dd 4 "check_of", dd 5 "record", dd 6 "read_record", dd 8 "_law_cell", dd 9 "_law_digits", dd 10 "_law_draw", dd 11 "_law_pick", dd 12 "_law_same", dd 13 "_law_octets", dd 14 "_law_read", dd 15 "_law_check", dd 16 "_law_record", dd 17 "_law_told", dd 18 "_law_bent", dd 19 "law"]
def fa : List He.Fa := [.glo "write_number", .glo "read_number", .glo "check_of", .glo "record", .glo "read_record", .glo "_law_cell", .glo "_law_digits", .glo "_law_draw", .glo "_law_pick", .glo "_law_same", .glo "_law_octets", .glo "_law_read", .glo "_law_check", .glo "_law_record", .glo "_law_told", .glo "_law_bent", .glo "law", .free "len", .free "range", .free "list", .free "tuple", .free "int", .free "abs", .free "sum", .free "max", .free "min", .free "all", .free "any", .free "zip", .free "enumerate", .free "sorted", .free "set", .free "dict", .free "isinstance", .free "repr", .free "str", .free "bool", .glo "KINDS"]
def exb (K : Frag) : Bool := tupKT K "KINDS" K_KINDS
abbrev hk : PySem.W.Hook := He.hookX 4 fa fn [] [] exb
def ob (s : PySem.W.SharedT) : He.AlX := He.obsX 4 fa fn [] [] exb (HandSHeadRun.getT s)
theorem ob_eq (s : PySem.W.SharedT) : ob s = hk.obs s.abs := He.obsX_eq (HandSHeadRun.getT_eq s)
def loose0 : List Str := ["KINDS", "write_number", "read_number", "check_of", "record", "read_record", "_law_cell", "_law_digits", "_law_draw", "_law_pick", "_law_same", "_law_octets", "_law_read", "_law_check", "_law_record", "_law_told", "_law_bent"]
def loose : List Str := loose0
theorem run (w : World) : HandSHeadRun.RunEq R (PySem.W.view R.prog [19]) hk ob 4000 loose w := by
  intro os
  kernel_rfl
section
variable {P : Program} {w : World} {K : Frag} {mg : Str → Option Value} {base h : Heap}
theorem pfn_imp {S F : FSpec} (h : ∀ ds P, S ds P → F ds P) {vs : List V} {H : Hp} {Q : VK} {E : XK} (q : PFn K S vs H Q E) : PFn K F vs H Q E := by
  obtain ⟨S0, ds, P0, h1, h2, h3, h4⟩ := q
  exact ⟨S0, ds, P0, h1, h2, h _ _ h3, h4⟩
theorem same_zero {vs : List V} {H : Hp} {Q : VK} {E : XK} (q : PFn K (S_same 0) vs H Q E) : False := by
  obtain ⟨S0, ds, P0, _, _, h3, _⟩ := q
  unfold S_same at h3
  obtain ⟨d, _, hd, _⟩ := h3
  cases hd
theorem same_all {f : Addr} {fd : FuncData} (B : Bt mg) (F : FnP K "_law_same" (top 12) f fd) (g : mg "_law_same" = some (.ref f)) (kp : PySem.W.keepIn K (.ref f) = true) : ∀ n, FnOk P w K mg base CX0 n f fd ["told", "due"] (PFn K (S_same n))
  | 0 => ⟨fun vs H Q E h => (same_zero h).elim, fun A outer s H args us vs Q E _ _ _ _ h => (same_zero h).elim⟩
  | n + 1 => (ok_law_same (Nat.zero_le n) B F ⟨f, fd, same_all B F g kp n, g, kp, FunD.bindsN F fun _ _ _ _ _ _ us hl => match us, hl with | [_, _], _ => rfl⟩).imp fun vs H Q E h => pfn_imp (same_step n) h
theorem same_def {f : Addr} {fd : FuncData} (B : Bt mg) (F : FnP K "_law_same" (top 12) f fd) (g : mg "_law_same" = some (.ref f)) (kp : PySem.W.keepIn K (.ref f) = true) (n : Nat) : Def_ P w K mg base "_law_same" ["told", "due"] (PFn K (S_same n)) n :=
  ⟨f, fd, same_all B F g kp n, g, kp, FunD.bindsN F fun _ _ _ _ _ _ us hl => match us, hl with | [_, _], _ => rfl⟩
theorem facts {fL : Addr} {Q : List Int → Prop} (X : K.In h) (G : h.Ns mainGlobals mg) (hfa : mg ("law" : Str) = some (.ref fL)) (c : He.SaysX fa fn [] [] exb w h K) :
    ∃ fd : FuncData, (∀ (s : Shared) (v : Value), BindsTo s fd ⟨[v], []⟩ [("script", v)]) ∧ ∀ base : Heap, FnOk P w K mg base CX0 10 fL fd ["script"] (PFn K F_law) := by
  have cD : He.SaysD fa fn K := congrArg (fun z : He.AlT => z.1) c.t
  have B : Bt mg := ⟨He.free_ok X G (cD.fact 17 (f := .free "len") rfl), He.free_ok X G (cD.fact 18 (f := .free "range") rfl), He.free_ok X G (cD.fact 19 (f := .free "list") rfl), He.free_ok X G (cD.fact 20 (f := .free "tuple") rfl), He.free_ok X G (cD.fact 21 (f := .free "int") rfl), He.free_ok X G (cD.fact 22 (f := .free "abs") rfl), He.free_ok X G (cD.fact 23 (f := .free "sum") rfl), He.free_ok X G (cD.fact 24 (f := .free "max") rfl), He.free_ok X G (cD.fact 25 (f := .free "min") rfl), He.free_ok X G (cD.fact 26 (f := .free "all") rfl), He.free_ok X G (cD.fact 27 (f := .free "any") rfl), He.free_ok X G (cD.fact 28 (f := .free "zip") rfl), He.free_ok X G (cD.fact 29 (f := .free "enumerate") rfl), He.free_ok X G (cD.fact 30 (f := .free "sorted") rfl), He.free_ok X G (cD.fact 31 (f := .free "set") rfl), He.free_ok X G (cD.fact 32 (f := .free "dict") rfl), He.free_ok X G (cD.fact 33 (f := .free "isinstance") rfl), He.free_ok X G (cD.fact 34 (f := .free "repr") rfl), He.free_ok X G (cD.fact 35 (f := .free "str") rfl), He.free_ok X G (cD.fact 36 (f := .free "bool") rfl)⟩
  have KT_KINDS : KTup K mg "KINDS" K_KINDS := by
    refine ktup_of (He.glo_ok X G (cD.fact 37 (f := .glo "KINDS") rfl)) ?_
    exact (c.more : exb K = true)
  obtain ⟨d_write_number, f_write_number⟩ := cD.def_ 0 (d := dd 2 "write_number") rfl
  have g_write_number := He.glo_ok X G (cD.fact 0 (f := .glo "write_number") rfl)
  obtain ⟨d_read_number, f_read_number⟩ := cD.def_ 1 (d := dd 3 "read_number") rfl
  have g_read_number := He.glo_ok X G (cD.fact 1 (f := .glo "read_number") rfl)
  obtain ⟨d_check_of, f_check_of⟩ := cD.def_ 2 (d := dd 4 "check_of") rfl
  have g_check_of := He.glo_ok X G (cD.fact 2 (f := .glo "check_of") rfl)
  obtain ⟨d_record, f_record⟩ := cD.def_ 3 (d := dd 5 "record") rfl
  have g_record := He.glo_ok X G (cD.fact 3 (f := .glo "record") rfl)
  obtain ⟨d_read_record, f_read_record⟩ := cD.def_ 4 (d := dd 6 "read_record") rfl
  have g_read_record := He.glo_ok X G (cD.fact 4 (f := .glo "read_record") rfl)
  obtain ⟨d_law_cell, f_law_cell⟩ := cD.def_ 5 (d := dd 8 "_law_cell") rfl
  have g_law_cell := He.glo_ok X G (cD.fact 5 (f := .glo "_law_cell") rfl)
  obtain ⟨d_law_digits, f_law_digits⟩ := cD.def_ 6 (d := dd 9 "_law_digits") rfl
  have g_law_digits := He.glo_ok X G (cD.fact 6 (f := .glo "_law_digits") rfl)
  obtain ⟨d_law_draw, f_law_draw⟩ := cD.def_ 7 (d := dd 10 "_law_draw") rfl
  have g_law_draw := He.glo_ok X G (cD.fact 7 (f := .glo "_law_draw") rfl)
  obtain ⟨d_law_pick, f_law_pick⟩ := cD.def_ 8 (d := dd 11 "_law_pick") rfl
  have g_law_pick := He.glo_ok X G (cD.fact 8 (f := .glo "_law_pick") rfl)
  obtain ⟨d_law_same, f_law_same⟩ := cD.def_ 9 (d := dd 12 "_law_same") rfl
  have g_law_same := He.glo_ok X G (cD.fact 9 (f := .glo "_law_same") rfl)
  obtain ⟨d_law_octets, f_law_octets⟩ := cD.def_ 10 (d := dd 13 "_law_octets") rfl
  have g_law_octets := He.glo_ok X G (cD.fact 10 (f := .glo "_law_octets") rfl)
  obtain ⟨d_law_read, f_law_read⟩ := cD.def_ 11 (d := dd 14 "_law_read") rfl
  have g_law_read := He.glo_ok X G (cD.fact 11 (f := .glo "_law_read") rfl)
  obtain ⟨d_law_check, f_law_check⟩ := cD.def_ 12 (d := dd 15 "_law_check") rfl
  have g_law_check := He.glo_ok X G (cD.fact 12 (f := .glo "_law_check") rfl)
  obtain ⟨d_law_record, f_law_record⟩ := cD.def_ 13 (d := dd 16 "_law_record") rfl
  have g_law_record := He.glo_ok X G (cD.fact 13 (f := .glo "_law_record") rfl)
  obtain ⟨d_law_told, f_law_told⟩ := cD.def_ 14 (d := dd 17 "_law_told") rfl
  have g_law_told := He.glo_ok X G (cD.fact 14 (f := .glo "_law_told") rfl)
  obtain ⟨d_law_bent, f_law_bent⟩ := cD.def_ 15 (d := dd 18 "_law_bent") rfl
  have g_law_bent := He.glo_ok X G (cD.fact 15 (f := .glo "_law_bent") rfl)
  obtain ⟨d_law, f_law⟩ := cD.def_ 16 (d := dd 19 "law") rfl
  have g_law := He.glo_ok X G (cD.fact 16 (f := .glo "law") rfl)
  have e := hfa.symm.trans g_law
  cases e
  refine ⟨d_law, fun s v => FunD.bindsA (ps := ["script"]) f_law (fun _ _ _ _ _ _ us hl => match us, hl with | [_], _ => rfl) s [v] rfl, fun base => ?_⟩
  have D_law_cell : Def_ P w K mg base "_law_cell" ["script", "k"] (PFn K F_law_cell) 1 := ⟨_, d_law_cell, ok_law_cell B f_law_cell, g_law_cell, f_law_cell.kp, FunD.bindsN f_law_cell (fun _ _ _ _ _ _ us hl => match us, hl with | [_, _], _ => rfl)⟩
  have D_law_digits : Def_ P w K mg base "_law_digits" ["script", "first", "last"] (PFn K F_law_digits) 2 := ⟨_, d_law_digits, ok_law_digits B f_law_digits D_law_cell, g_law_digits, f_law_digits.kp, FunD.bindsN f_law_digits (fun _ _ _ _ _ _ us hl => match us, hl with | [_, _, _], _ => rfl)⟩
  have D_law_draw : Def_ P w K mg base "_law_draw" ["box", "many"] (PIo K F_law_draw) 1 := ⟨_, d_law_draw, ok_law_draw B f_law_draw, g_law_draw, f_law_draw.kp, FunD.bindsN f_law_draw (fun _ _ _ _ _ _ us hl => match us, hl with | [_, _], _ => rfl)⟩
  have D_law_pick : Def_ P w K mg base "_law_pick" ["box", "row"] (PIo K F_law_pick) 2 := ⟨_, d_law_pick, ok_law_pick B f_law_pick D_law_draw, g_law_pick, f_law_pick.kp, FunD.bindsN f_law_pick (fun _ _ _ _ _ _ us hl => match us, hl with | [_, _], _ => rfl)⟩
  have D_law_octets : Def_ P w K mg base "_law_octets" ["number"] (PFn K F_law_octets) 1 := ⟨_, d_law_octets, ok_law_octets B f_law_octets, g_law_octets, f_law_octets.kp, FunD.bindsN f_law_octets (fun _ _ _ _ _ _ us hl => match us, hl with | [_], _ => rfl)⟩
  have D_law_same : Def_ P w K mg base "_law_same" ["told", "due"] (PFn K (S_same 9)) 9 := same_def B f_law_same g_law_same f_law_same.kp 9
  have D_read_number : Def_ P w K mg base "read_number" ["octets", "at"] (PFn K F_read_number) 1 := ⟨_, d_read_number, ok_read_number B f_read_number, g_read_number, f_read_number.kp, FunD.bindsN f_read_number (fun _ _ _ _ _ _ us hl => match us, hl with | [_, _], _ => rfl)⟩
  have D_write_number : Def_ P w K mg base "write_number" ["number"] (PFn K F_write_number) 1 := ⟨_, d_write_number, ok_write_number B f_write_number, g_write_number, f_write_number.kp, FunD.bindsN f_write_number (fun _ _ _ _ _ _ us hl => match us, hl with | [_], _ => rfl)⟩
  have D_law_read : Def_ P w K mg base "_law_read" ["octets", "at"] (PFn K F_law_read) 1 := ⟨_, d_law_read, ok_law_read B f_law_read, g_law_read, f_law_read.kp, FunD.bindsN f_law_read (fun _ _ _ _ _ _ us hl => match us, hl with | [_, _], _ => rfl)⟩
  have D_law_check : Def_ P w K mg base "_law_check" ["body"] (PFn K F_law_check) 1 := ⟨_, d_law_check, ok_law_check B f_law_check, g_law_check, f_law_check.kp, FunD.bindsN f_law_check (fun _ _ _ _ _ _ us hl => match us, hl with | [_], _ => rfl)⟩
  have D_law_record : Def_ P w K mg base "_law_record" ["deed"] (PFn K F_law_record) 2 := ⟨_, d_law_record, ok_law_record B f_law_record D_law_octets D_law_check, g_law_record, f_law_record.kp, FunD.bindsN f_law_record (fun _ _ _ _ _ _ us hl => match us, hl with | [_], _ => rfl)⟩
  have D_check_of : Def_ P w K mg base "check_of" ["octets"] (PFn K F_check_of) 1 := ⟨_, d_check_of, ok_check_of B f_check_of, g_check_of, f_check_of.kp, FunD.bindsN f_check_of (fun _ _ _ _ _ _ us hl => match us, hl with | [_], _ => rfl)⟩
  have D_read_record : Def_ P w K mg base "read_record" ["octets", "at"] (PFn K F_read_record) 2 := ⟨_, d_read_record, ok_read_record B f_read_record D_check_of D_read_number KT_KINDS, g_read_record, f_read_record.kp, FunD.bindsN f_read_record (fun _ _ _ _ _ _ us hl => match us, hl with | [_, _], _ => rfl)⟩
  have D_record : Def_ P w K mg base "record" ["deed"] (PFn K F_record) 2 := ⟨_, d_record, ok_record B f_record D_write_number D_check_of KT_KINDS, g_record, f_record.kp, FunD.bindsN f_record (fun _ _ _ _ _ _ us hl => match us, hl with | [_], _ => rfl)⟩
  have D_law_bent : Def_ P w K mg base "_law_bent" ["box", "octets"] (PIo K F_law_bent) 2 := ⟨_, d_law_bent, ok_law_bent B f_law_bent D_law_draw D_law_check, g_law_bent, f_law_bent.kp, FunD.bindsN f_law_bent (fun _ _ _ _ _ _ us hl => match us, hl with | [_, _], _ => rfl)⟩
  have D_law_told : Def_ P w K mg base "_law_told" ["octets", "at"] (PFn K F_law_told) 2 := ⟨_, d_law_told, ok_law_told B f_law_told D_law_check D_law_read, g_law_told, f_law_told.kp, FunD.bindsN f_law_told (fun _ _ _ _ _ _ us hl => match us, hl with | [_, _], _ => rfl)⟩
  exact ok_law B f_law D_law_digits D_law_draw D_law_pick D_law_octets D_law_same D_read_number D_write_number D_law_read D_law_record D_read_record D_check_of D_record D_law_bent D_law_told
end
end P
open PySem PySem.W PySem.Calls PyProof.Rows
theorem PySem.Challenge.cw_lendland_k09_whole_numbers_and_deeds_as_holds : PySem.Challenge.rw_lendland_k09_whole_numbers_and_deeds_as.Holds := by
  w_on; o_law
  refine HandSHeadRun.head_any (r := OpenLaw.row PySem.Challenge.rw_lendland_k09_whole_numbers_and_deeds_as) (q := view (OpenLaw.row PySem.Challenge.rw_lendland_k09_whole_numbers_and_deeds_as).prog [19]) (H := P.hk) (ob := P.ob) (M := 4000) (loose := P.loose) (d := HandSHeadRun.topDef (OpenLaw.row PySem.Challenge.rw_lendland_k09_whole_numbers_and_deeds_as).prog 19) (kwd := []) P.ob_eq
    (by kernel_rfl) (fun s => by kernel_rfl) P.run (by kernel_rfl) (by kernel_rfl) (by kernel_rfl) (by rfl) (by first | assumption | decide +kernel) (by decide +kernel) ⟨rfl, rfl, rfl, rfl, rfl, by decide +kernel⟩ ?hw ?hc
  case hw => w_witness2
  case hc =>
    refine L2.walk_ofE (l := PySem.Challenge.rw_lendland_k09_whole_numbers_and_deeds_as) (n := 63) (k := 10) (x := "script") (CX := L2.CX0) rfl (by decide) (by kernel_rfl) ⟨rfl, by decide, by decide⟩ ?F (fun _ _ _ _ z => z)
    intro w mg fa h Y G hmg0
    obtain ⟨K, KX, c⟩ := Y
    have hmg : mg ("law" : PySem.Str) = some (.ref fa) := by
      have e : (HandSHeadRun.topDef (OpenLaw.row PySem.Challenge.rw_lendland_k09_whole_numbers_and_deeds_as).prog 19).name = ("law" : PySem.Str) := by kernel_rfl
      rw [← e]
      exact hmg0
    obtain ⟨fd, hb, hF⟩ := P.facts (P := (PySem.Challenge.rw_lendland_k09_whole_numbers_and_deeds_as).prog) (Q := fun _ => True) KX G hmg c
    exact ⟨K, fd, Y.PFn K P.F_law, KX, hb, fun H a ns _ _ hS => Y.law_sp hS P.law_ok, fun base _ _ => hF base⟩

