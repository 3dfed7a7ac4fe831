import PyProof.Rows.All
import Wide.All
import OpenK.AllK
import Wide.FinOn
import HandS.ForMost
import HandS.Walk
import HandS.More
import HandS.TupAny
import HandS.ForExc
import HandS.IsInst
import HandS.Deep
import HandS.Style
import PySem.Challenge.RW_onewaytown_k06_ways_looked_at
set_option Elab.async false
set_option linter.all false
set_option maxRecDepth 100000
set_option maxHeartbeats 4000000
/-! The layer: readings over pure slots. F is the part of the heap that stands still from now on, H the heap, B the heap at the entry. -/
namespace Lay
open PySem L2

/-- what is said of a value over the part that stands still -/
abbrev Pd := Hp → V → Prop
def Stab (f : Pd) : Prop := ∀ F F' v, Same F F' → f F v → f F' v
def isTup : HO → Bool
  | .tup _ => true
  | .frz _ _ => true
  | _ => false
/-- what a slot is known to hold -/
inductive Sl where
  | no
  | fz (f : Pd)
  | mo (m : Hp → Hp → V → List Addr → Prop)
/-- what is said of an owned thing leans on its own objects and on what stands still alone -/
def MStab (m : Hp → Hp → V → List Addr → Prop) : Prop := ∀ F F' H H' v as, Same F F' → (∀ a ∈ as, H' a = H a) → m F H v as → m F' H' v as

structure Gr (F H F' H' : Hp) : Prop where
  f : Same F F'
  h : Same H H'
  i : Same F' H'
  n : ∀ a o, H a = some o → isTup o = false → F a = none → F' a = none
theorem Gr.refl {F H : Hp} (i : Same F H) : Gr F H F H := ⟨Same.refl _, Same.refl _, i, fun _ _ _ _ e => e⟩
theorem Gr.trans {F H F1 H1 F2 H2 : Hp} (a : Gr F H F1 H1) (b : Gr F1 H1 F2 H2) : Gr F H F2 H2 :=
  ⟨a.f.trans b.f, a.h.trans b.h, b.i, fun x o h t e => b.n x o (a.h x o h) t (a.n x o h t e)⟩
/-- a new object that may be changed later -/
theorem Gr.new {F H : Hp} (i : Same F H) {p : Addr} {o : HO} (hp : H p = none) : Gr F H F (upd H p o) :=
  ⟨Same.refl _, fun b u e => by rw [upd_ne (ne_of_none e hp)]; exact e, fun b u e => by rw [upd_ne (ne_of_none (i b u e) hp)]; exact i b u e, fun _ _ _ _ e => e⟩
/-- an object that stands from now on -/
theorem Gr.put {F H F' H' : Hp} (g : Gr F H F' H') {p : Addr} {o : HO} (hp : H p = none ∨ isTup o = true) (hf : F' p = none) (hq : H' p = some o) : Gr F H (upd F' p o) H' := by
  refine ⟨fun b u e => ?_, g.h, fun b u e => ?_, fun a u e t z => ?_⟩
  · have e1 := g.f b u e
    rw [upd_ne (ne_of_none e1 hf)]
    exact e1
  · by_cases hb : b = p
    · rw [hb, upd_same] at e
      cases e
      rw [hb]; exact hq
    · rw [upd_ne hb] at e
      exact g.i b u e
  · by_cases hb : a = p
    · subst hb
      rcases hp with hp | hp
      · rw [hp] at e; cases e
      · have := g.h a u e
        rw [hq] at this
        cases this
        rw [hp] at t; cases t
    · rw [upd_ne hb]
      exact g.n a u e t z
/-- .. a tuple (or a known thing) that may stand there already -/
theorem Gr.putT {F H F' H' : Hp} (g : Gr F H F' H') {p : Addr} {o : HO} (ho : isTup o = true) (hq : H' p = some o) : ∃ F'', Gr F H F'' H' ∧ Same F' F'' ∧ F'' p = some o := by
  cases e : F' p with
  | none => exact ⟨upd F' p o, g.put (.inr ho) e hq, fun b u z => by rw [upd_ne (ne_of_none z e)]; exact z, upd_same⟩
  | some u =>
    have q := g.i p u e
    rw [hq] at q
    cases q
    exact ⟨F', g, Same.refl _, e⟩
/-- .. a new list that may stand there already -/
theorem Gr.putN {F H F' H' : Hp} (g : Gr F H F' H') {p : Addr} {o : HO} (ho : H p = none) (hq : H' p = some o) : ∃ F'', Gr F H F'' H' ∧ Same F' F'' ∧ F'' p = some o := by
  cases e : F' p with
  | none => exact ⟨upd F' p o, g.put (.inl ho) e hq, fun b u z => by rw [upd_ne (ne_of_none z e)]; exact z, upd_same⟩
  | some u =>
    have q := g.i p u e
    rw [hq] at q
    cases q
    exact ⟨F', g, Same.refl _, e⟩
theorem Gr.fresh {F H F' H' : Hp} (g : Gr F H F' H') {p : Addr} (h : H' p = none) : H p = none := g.h.free h

/-! ### the slots -/
def SlOk (F H : Hp) (ov : Option (Option V)) (as : List Addr) : Sl → Prop
  | .no => True
  | .fz f => Stab f ∧ ∃ v, ov = some (some v) ∧ f F v
  | .mo m => MStab m ∧ ∃ v, ov = some (some v) ∧ m F H v as
structure Own (B : Hp) (F H : Hp) (σ : St) (ρ : List Sl) (w : Nat → List Addr) : Prop where
  dj : ∀ i j a, a ∈ w i → a ∈ w j → i = j
  at_ : ∀ i a, a ∈ w i → F a = none ∧ B a = none ∧ ∃ o, H a = some o ∧ isTup o = false
  sl : ∀ i s, ρ[i]? = some s → SlOk F H σ[i]? (w i) s
/-- B: the heap at the def's entry; F0: what stands still at least -/
structure Cfg (B F0 F H : Hp) (σ : St) (ρ : List Sl) : Prop where
  gr : Gr F0 B F H
  len : σ.length = ρ.length
  own : ∃ w, Own B F H σ ρ w
section
variable {B F0 F H F' H' : Hp} {σ : St} {ρ : List Sl}
theorem Cfg.i (c : Cfg B F0 F H σ ρ) : Same F H := c.gr.i
theorem Cfg.go (c : Cfg B F0 F H σ ρ) (g : Gr F H F' H') : Cfg B F0 F' H' σ ρ := by
  refine ⟨c.gr.trans g, c.len, ?_⟩
  obtain ⟨w, o⟩ := c.own
  refine ⟨w, o.dj, fun i a ha => ?_, fun i s hs => ?_⟩
  · obtain ⟨h1, h2, u, h3, h4⟩ := o.at_ i a ha
    exact ⟨g.n a u h3 h4 h1, h2, u, g.h a u h3, h4⟩
  · have q := o.sl i s hs
    cases s with
    | no => trivial
    | fz f => obtain ⟨st, v, e, p⟩ := q; exact ⟨st, v, e, st _ _ v g.f p⟩
    | mo m =>
      obtain ⟨st, v, e, p⟩ := q
      refine ⟨st, v, e, st _ _ _ _ _ _ g.f (fun a ha => ?_) p⟩
      obtain ⟨_, _, u, h3, _⟩ := o.at_ i a ha
      rw [h3, g.h a u h3]
/-- a slot is known anew: it stands still -/
theorem Cfg.setF (c : Cfg B F0 F H σ ρ) {i : Nat} {v : V} {f : Pd} (st : Stab f) (h : f F v) : Cfg B F0 F H (σ.set i (some v)) (ρ.set i (.fz f)) := by
  refine ⟨c.gr, by simp [c.len], ?_⟩
  obtain ⟨w, o⟩ := c.own
  refine ⟨fun j => if j = i then [] else w j, fun j k a h1 h2 => ?_, fun j a h1 => ?_, fun j s hs => ?_⟩
  · split at h1
    · cases h1
    · split at h2
      · cases h2
      · exact o.dj j k a h1 h2
  · split at h1
    · cases h1
    · exact o.at_ j a h1
  · by_cases hj : j = i
    · subst hj
      have hl : j < ρ.length := by
        have := (List.getElem?_eq_some_iff.mp hs).1
        simpa using this
      rw [List.getElem?_set_self hl] at hs
      cases hs
      rw [List.getElem?_set_self (by rw [c.len]; exact hl), if_pos rfl]
      exact ⟨st, v, rfl, h⟩
    · rw [if_neg hj, List.getElem?_set_ne (fun e => hj e.symm)]
      rw [List.getElem?_set_ne (fun e => hj e.symm)] at hs
      exact o.sl j s hs
/-- .. it holds an owned thing: whose objects no other slot owns -/
theorem Cfg.setM (c : Cfg B F0 F H σ ρ) {i : Nat} {v : V} {m : Hp → Hp → V → List Addr → Prop} {as : List Addr} (st : MStab m) (h : m F H v as)
    (hn : ∀ a ∈ as, F a = none ∧ B a = none ∧ ∃ o, H a = some o ∧ isTup o = false)
    (hd : ∀ w, Own B F H σ ρ w → ∀ j a, j ≠ i → a ∈ w j → a ∉ as) : Cfg B F0 F H (σ.set i (some v)) (ρ.set i (.mo m)) := by
  refine ⟨c.gr, by simp [c.len], ?_⟩
  obtain ⟨w, o⟩ := c.own
  have hd := hd w o
  refine ⟨fun j => if j = i then as else w j, fun j k a h1 h2 => ?_, fun j a h1 => ?_, fun j s hs => ?_⟩
  · split at h1 <;> split at h2
    · omega
    · rename_i e1 e2; exact absurd h1 (hd k a e2 h2)
    · rename_i e1 e2; exact absurd h2 (hd j a e1 h1)
    · exact o.dj j k a h1 h2
  · split at h1
    · exact hn a h1
    · exact o.at_ j a h1
  · by_cases hj : j = i
    · subst hj
      have hl : j < ρ.length := by
        have := (List.getElem?_eq_some_iff.mp hs).1
        simpa using this
      rw [List.getElem?_set_self hl] at hs
      cases hs
      rw [List.getElem?_set_self (by rw [c.len]; exact hl), if_pos rfl]
      exact ⟨st, v, rfl, h⟩
    · rw [if_neg hj, List.getElem?_set_ne (fun e => hj e.symm)]
      rw [List.getElem?_set_ne (fun e => hj e.symm)] at hs
      exact o.sl j s hs
/-- a new object goes into a slot -/
theorem Cfg.setN (c : Cfg B F0 F H σ ρ) {i : Nat} {v : V} {m : Hp → Hp → V → List Addr → Prop} {as : List Addr} (st : MStab m) (g : Gr F H F' H') (h : m F' H' v as)
    (hn : ∀ a ∈ as, F' a = none ∧ H a = none ∧ ∃ o, H' a = some o ∧ isTup o = false) : Cfg B F0 F' H' (σ.set i (some v)) (ρ.set i (.mo m)) := by
  obtain ⟨w0, o0⟩ := c.own
  refine ⟨(c.go g).gr, by simp [c.len], ?_⟩
  obtain ⟨w, o, oH⟩ : ∃ w, Own B F' H' σ ρ w ∧ ∀ i a, a ∈ w i → ∃ u, H a = some u := by
    refine ⟨w0, ⟨o0.dj, fun i a ha => ?_, fun i s hs => ?_⟩, fun i a ha => ?_⟩
    · obtain ⟨h1, h2, u, h3, h4⟩ := o0.at_ i a ha
      exact ⟨g.n a u h3 h4 h1, h2, u, g.h a u h3, h4⟩
    · have q := o0.sl i s hs
      cases s with
      | no => trivial
      | fz f => obtain ⟨st, v, e, p⟩ := q; exact ⟨st, v, e, st _ _ v g.f p⟩
        | mo m =>
        obtain ⟨st, v, e, p⟩ := q
        refine ⟨st, v, e, st _ _ _ _ _ _ g.f (fun a ha => ?_) p⟩
        obtain ⟨_, _, u, h3, _⟩ := o0.at_ i a ha
        rw [h3, g.h a u h3]
    · obtain ⟨_, _, u, h3, _⟩ := o0.at_ i a ha
      exact ⟨u, h3⟩
  have hd : ∀ j a, j ≠ i → a ∈ w j → a ∉ as := fun j a _ ha hb => by
    obtain ⟨u, hu⟩ := oH j a ha
    obtain ⟨_, hz, _⟩ := hn a hb
    rw [hu] at hz; cases hz
  refine ⟨fun j => if j = i then as else w j, fun j k a h1 h2 => ?_, fun j a h1 => ?_, fun j s hs => ?_⟩
  · split at h1 <;> split at h2
    · omega
    · rename_i e1 e2; exact absurd h1 (hd k a e2 h2)
    · rename_i e1 e2; exact absurd h2 (hd j a e1 h1)
    · exact o.dj j k a h1 h2
  · split at h1
    · obtain ⟨q1, q2, q3⟩ := hn a h1
      exact ⟨q1, c.gr.fresh q2, q3⟩
    · exact o.at_ j a h1
  · by_cases hj : j = i
    · subst hj
      have hl : j < ρ.length := by
        have := (List.getElem?_eq_some_iff.mp hs).1
        simpa using this
      rw [List.getElem?_set_self hl] at hs
      cases hs
      rw [List.getElem?_set_self (by rw [c.len]; exact hl), if_pos rfl]
      exact ⟨st, v, rfl, h⟩
    · rw [if_neg hj, List.getElem?_set_ne (fun e => hj e.symm)]
      rw [List.getElem?_set_ne (fun e => hj e.symm)] at hs
      exact o.sl j s hs
/-- an owned thing is changed where it stands: its slot keeps its value, its objects are the same or new ones -/
theorem Cfg.chg (c : Cfg B F0 F H σ ρ) {i : Nat} {m m' : Hp → Hp → V → List Addr → Prop} (hi : ρ[i]? = some (.mo m)) (st' : MStab m')
    (k : ∀ v as, σ[i]? = some (some v) → m F H v as → (∀ a ∈ as, F a = none ∧ B a = none ∧ ∃ o, H a = some o ∧ isTup o = false) →
      m' F H' v as ∧ (∀ a, a ∉ as → H' a = H a) ∧ (∀ a ∈ as, ∃ o, H' a = some o ∧ isTup o = false)) : Cfg B F0 F H' σ (ρ.set i (.mo m')) := by
  obtain ⟨w, o⟩ := c.own
  obtain ⟨st, v, ev, hm⟩ := o.sl i _ hi
  obtain ⟨q1, q2, q3⟩ := k v (w i) ev hm (o.at_ i)
  have hl : i < ρ.length := (List.getElem?_eq_some_iff.mp hi).1
  have gB : ∀ a u, B a = some u → H' a = some u := fun a u e => by
    rw [q2 a fun z => by have := (o.at_ i a z).2.1; rw [e] at this; cases this]
    exact c.gr.h a u e
  have gF : ∀ a u, F a = some u → H' a = some u := fun a u e => by
    rw [q2 a fun z => by have := (o.at_ i a z).1; rw [e] at this; cases this]
    exact c.gr.i a u e
  refine ⟨⟨c.gr.f, gB, gF, c.gr.n⟩, by simp [c.len], w, o.dj, fun j a ha => ?_, fun j s hs => ?_⟩
  · obtain ⟨h1, h2, u, h3, h4⟩ := o.at_ j a ha
    refine ⟨h1, h2, ?_⟩
    by_cases hj : a ∈ w i
    · exact q3 a hj
    · rw [q2 a hj]; exact ⟨u, h3, h4⟩
  · by_cases hj : j = i
    · subst hj
      rw [List.getElem?_set_self hl] at hs
      cases hs
      exact ⟨st', v, ev, q1⟩
    · rw [List.getElem?_set_ne (fun e => hj e.symm)] at hs
      have q := o.sl j s hs
      cases s with
      | no => trivial
      | fz f => exact q
        | mo m2 =>
        obtain ⟨st2, v2, e2, p2⟩ := q
        exact ⟨st2, v2, e2, st2 _ _ _ _ _ _ (Same.refl _) (fun a ha => q2 a fun z => hj (o.dj j i a ha z)) p2⟩
/-- less is known of the slots -/
theorem Cfg.less (c : Cfg B F0 F H σ ρ) {ρ' : List Sl} {σ' : St} (hl : σ'.length = ρ'.length) (h : ∀ (i : Nat) (s : Sl), ρ'[i]? = some s → s = Sl.no ∨ (ρ[i]? = some s ∧ σ'[i]? = σ[i]?)) : Cfg B F0 F H σ' ρ' := by
  obtain ⟨w, o⟩ := c.own
  refine ⟨c.gr, hl, w, o.dj, o.at_, fun i s hs => ?_⟩
  rcases h i s hs with rfl | ⟨h1, h2⟩
  · trivial
  · rw [h2]; exact o.sl i s h1
end
end Lay
namespace Lay
open PySem L2

/-! ### data in the heap -/
theorem rd_mono {F F' : Hp} (s : Same F F') {a : Addr} {u : HO} (h : Rd F a u) : Rd F' a u := by
  rcases h with h | ⟨o, h⟩
  · exact Or.inl (s a _ h)
  · exact Or.inr ⟨o, s a _ h⟩
theorem sqt_mono {K : PySem.W.Frag} {F F' : Hp} (s : Same F F') {a : Addr} {xs : List V} (h : SqT K F a xs) : SqT K F' a xs := by
  rcases h with h | h
  · exact Or.inl (rd_mono s h)
  · exact Or.inr h
mutual
theorem dp_mono {K : PySem.W.Frag} {F F' : Hp} (s : Same F F') : ∀ {v : V} {d : PyData}, Dp K F v d → Dp K F' v d
  | _, _, .non => .non
  | _, _, .bl b => .bl b
  | _, _, .int i => .int i
  | _, _, .str x => .str x
  | _, _, .lst h a => .lst (s.seq h) (dpAll_mono s a)
  | _, _, .tup h a => .tup (sqt_mono s h) (dpAll_mono s a)
theorem dpAll_mono {K : PySem.W.Frag} {F F' : Hp} (s : Same F F') : ∀ {xs : List V} {ds : List PyData}, DpAll K F xs ds → DpAll K F' xs ds
  | _, _, .nil => .nil
  | _, _, .cons h a => .cons (dp_mono s h) (dpAll_mono s a)
end
mutual
/-- data whose lists are all newer than B -/
inductive Nw (K : PySem.W.Frag) (B F : Hp) : V → PyData → Prop
  | non : Nw K B F .non .none
  | bl (b : Bool) : Nw K B F (.bl b) (.bool b)
  | int (i : Int) : Nw K B F (.int i) (.int i)
  | str (x : Str) : Nw K B F (.str x) (.str x)
  | lst {a : Addr} {xs : List V} {ds : List PyData} : B a = none → F a = some (.lst xs) → NwAll K B F xs ds → Nw K B F (.ref a) (.list ds)
  | tup {a : Addr} {xs : List V} {ds : List PyData} : SqT K F a xs → NwAll K B F xs ds → Nw K B F (.ref a) (.tuple ds)
inductive NwAll (K : PySem.W.Frag) (B F : Hp) : List V → List PyData → Prop
  | nil : NwAll K B F [] []
  | cons {v : V} {vs : List V} {d : PyData} {ds : List PyData} : Nw K B F v d → NwAll K B F vs ds → NwAll K B F (v :: vs) (d :: ds)
end
mutual
theorem nw_mono {K : PySem.W.Frag} {B B' F F' : Hp} (q : Same B' B) (s : Same F F') : ∀ {v : V} {d : PyData}, Nw K B F v d → Nw K B' F' v d
  | _, _, .non => .non
  | _, _, .bl b => .bl b
  | _, _, .int i => .int i
  | _, _, .str x => .str x
  | _, _, .lst n h a => .lst (q.free n) (s _ _ h) (nwAll_mono q s a)
  | _, _, .tup h a => .tup (sqt_mono s h) (nwAll_mono q s a)
theorem nwAll_mono {K : PySem.W.Frag} {B B' F F' : Hp} (q : Same B' B) (s : Same F F') : ∀ {xs : List V} {ds : List PyData}, NwAll K B F xs ds → NwAll K B' F' xs ds
  | _, _, .nil => .nil
  | _, _, .cons h a => .cons (nw_mono q s h) (nwAll_mono q s a)
end
mutual
theorem nw_dp {K : PySem.W.Frag} {B F : Hp} : ∀ {v : V} {d : PyData}, Nw K B F v d → Dp K F v d
  | _, _, .non => .non
  | _, _, .bl b => .bl b
  | _, _, .int i => .int i
  | _, _, .str x => .str x
  | _, _, .lst n h a => .lst (.inl (.inl h)) (nwAll_dp a)
  | _, _, .tup h a => .tup h (nwAll_dp a)
theorem nwAll_dp {K : PySem.W.Frag} {B F : Hp} : ∀ {xs : List V} {ds : List PyData}, NwAll K B F xs ds → DpAll K F xs ds
  | _, _, .nil => .nil
  | _, _, .cons h a => .cons (nw_dp h) (nwAll_dp a)
end
mutual
/-- no lists within -/
def flatD : PyData → Bool
  | .none => true
  | .bool _ => true
  | .int _ => true
  | .str _ => true
  | .tuple ds => flatDs ds
  | .list _ => false
  | .dict _ => false
def flatDs : List PyData → Bool
  | [] => true
  | d :: ds => flatD d && flatDs ds
end
theorem flatDs_map {α : Type} {e : α → PyData} (h : ∀ x, flatD (e x) = true) : ∀ xs : List α, flatDs (xs.map e) = true
  | [] => rfl
  | x :: r => by
    show (flatD (e x) && flatDs (r.map e)) = true
    rw [h x, flatDs_map h r]
    rfl
mutual
theorem dp_nw {K : PySem.W.Frag} {B F : Hp} : ∀ {v : V} {d : PyData}, Dp K F v d → flatD d = true → Nw K B F v d
  | _, _, .non, _ => .non
  | _, _, .bl b, _ => .bl b
  | _, _, .int i, _ => .int i
  | _, _, .str x, _ => .str x
  | _, _, .lst h a, z => Bool.noConfusion (show false = true from z)
  | _, _, .tup (ds := ds) h a, z => .tup h (dpAll_nw a (show flatDs ds = true from z))
theorem dpAll_nw {K : PySem.W.Frag} {B F : Hp} : ∀ {xs : List V} {ds : List PyData}, DpAll K F xs ds → flatDs ds = true → NwAll K B F xs ds
  | _, _, .nil, _ => .nil
  | _, _, .cons (d := d) (ds := ds) h a, z => by
    have z : (flatD d && flatDs ds) = true := z
    rw [Bool.and_eq_true] at z
    exact .cons (dp_nw h z.1) (dpAll_nw a z.2)
end
theorem sqt_put {K : PySem.W.Frag} {F H F1 H' : Hp} (g : Gr F H F1 H') {a : Addr} {xs : List V} (h : SqT K H' a xs) : ∃ F2, Gr F H F2 H' ∧ Same F1 F2 ∧ SqT K F2 a xs := by
  rcases h with (h | ⟨o, h⟩) | h
  · obtain ⟨F2, g2, s, e⟩ := g.putT rfl h
    exact ⟨F2, g2, s, .inl (.inl e)⟩
  · obtain ⟨F2, g2, s, e⟩ := g.putT rfl h
    exact ⟨F2, g2, s, .inl (.inr ⟨o, e⟩)⟩
  · exact ⟨F1, g, Same.refl _, .inr h⟩
mutual
/-- what holds no lists may stand still at any time -/
theorem dp_prom {K : PySem.W.Frag} {B F H H' : Hp} : ∀ {v : V} {d : PyData}, Dp K H' v d → flatD d = true → ∀ F1, Gr F H F1 H' → ∃ F2, Gr F H F2 H' ∧ Same F1 F2 ∧ Nw K B F2 v d
  | _, _, .non, _, F1, g => ⟨F1, g, Same.refl _, .non⟩
  | _, _, .bl b, _, F1, g => ⟨F1, g, Same.refl _, .bl b⟩
  | _, _, .int i, _, F1, g => ⟨F1, g, Same.refl _, .int i⟩
  | _, _, .str x, _, F1, g => ⟨F1, g, Same.refl _, .str x⟩
  | _, _, .lst h a, z, _, _ => Bool.noConfusion (show false = true from z)
  | _, _, .tup (ds := ds) h a, z, F1, g => by
    obtain ⟨F2, g2, s2, q2⟩ := sqt_put g h
    obtain ⟨F3, g3, s3, q3⟩ := dpAll_prom (B := B) a (show flatDs ds = true from z) F2 g2
    exact ⟨F3, g3, s2.trans s3, .tup (sqt_mono s3 q2) q3⟩
theorem dpAll_prom {K : PySem.W.Frag} {B F H H' : Hp} : ∀ {xs : List V} {ds : List PyData}, DpAll K H' xs ds → flatDs ds = true → ∀ F1, Gr F H F1 H' → ∃ F2, Gr F H F2 H' ∧ Same F1 F2 ∧ NwAll K B F2 xs ds
  | _, _, .nil, _, F1, g => ⟨F1, g, Same.refl _, .nil⟩
  | _, _, .cons (d := d) (ds := ds) h a, z, F1, g => by
    have z : (flatD d && flatDs ds) = true := z
    rw [Bool.and_eq_true] at z
    obtain ⟨F2, g2, s2, q2⟩ := dp_prom (B := B) h z.1 F1 g
    obtain ⟨F3, g3, s3, q3⟩ := dpAll_prom (B := B) a z.2 F2 g2
    exact ⟨F3, g3, s2.trans s3, .cons (nw_mono (Same.refl _) s3 q2) q3⟩
end
mutual
/-- what is new behind a call may stand still from then on -/
theorem nw_fix {K : PySem.W.Frag} {B F H H' : Hp} (sB : Same B H) : ∀ {v : V} {d : PyData}, Nw K H H' v d → ∀ F1, Gr F H F1 H' → ∃ F2, Gr F H F2 H' ∧ Same F1 F2 ∧ Nw K B F2 v d
  | _, _, .non, F1, g => ⟨F1, g, Same.refl _, .non⟩
  | _, _, .bl b, F1, g => ⟨F1, g, Same.refl _, .bl b⟩
  | _, _, .int i, F1, g => ⟨F1, g, Same.refl _, .int i⟩
  | _, _, .str x, F1, g => ⟨F1, g, Same.refl _, .str x⟩
  | _, _, .lst n h a, F1, g => by
    obtain ⟨F2, g2, s2, q2⟩ := g.putN n h
    obtain ⟨F3, g3, s3, q3⟩ := nwAll_fix sB a F2 g2
    exact ⟨F3, g3, s2.trans s3, .lst (sB.free n) (s3 _ _ q2) q3⟩
  | _, _, .tup h a, F1, g => by
    obtain ⟨F2, g2, s2, q2⟩ := sqt_put g h
    obtain ⟨F3, g3, s3, q3⟩ := nwAll_fix sB a F2 g2
    exact ⟨F3, g3, s2.trans s3, .tup (sqt_mono s3 q2) q3⟩
theorem nwAll_fix {K : PySem.W.Frag} {B F H H' : Hp} (sB : Same B H) : ∀ {xs : List V} {ds : List PyData}, NwAll K H H' xs ds → ∀ F1, Gr F H F1 H' → ∃ F2, Gr F H F2 H' ∧ Same F1 F2 ∧ NwAll K B F2 xs ds
  | _, _, .nil, F1, g => ⟨F1, g, Same.refl _, .nil⟩
  | _, _, .cons h a, F1, g => by
    obtain ⟨F2, g2, s2, q2⟩ := nw_fix sB h F1 g
    obtain ⟨F3, g3, s3, q3⟩ := nwAll_fix sB a F2 g2
    exact ⟨F3, g3, s2.trans s3, .cons (nw_mono (Same.refl _) s3 q2) q3⟩
end
theorem nwAll_len {K : PySem.W.Frag} {B F : Hp} : ∀ {xs : List V} {ds : List PyData}, NwAll K B F xs ds → xs.length = ds.length
  | _, _, .nil => rfl
  | _, _, .cons _ a => congrArg (· + 1) (nwAll_len a)
theorem dpAll_len {K : PySem.W.Frag} {F : Hp} : ∀ {xs : List V} {ds : List PyData}, DpAll K F xs ds → xs.length = ds.length
  | _, _, .nil => rfl
  | _, _, .cons _ a => congrArg (· + 1) (dpAll_len a)
theorem nwAll_get {K : PySem.W.Frag} {B F : Hp} : ∀ {xs : List V} {ds : List PyData}, NwAll K B F xs ds → ∀ {i : Nat} {d : PyData}, ds[i]? = some d → ∃ v, xs[i]? = some v ∧ Nw K B F v d
  | _, _, .nil, i, d, e => by simp at e
  | _, _, .cons h _, 0, d, e => by simp at e; subst e; exact ⟨_, rfl, h⟩
  | _, _, .cons _ a, i + 1, d, e => by
    obtain ⟨v, h1, h2⟩ := nwAll_get a (i := i) (d := d) (by simpa using e)
    exact ⟨v, by simpa using h1, h2⟩
theorem dpAll_get {K : PySem.W.Frag} {F : Hp} : ∀ {xs : List V} {ds : List PyData}, DpAll K F xs ds → ∀ {i : Nat} {d : PyData}, ds[i]? = some d → ∃ v, xs[i]? = some v ∧ Dp K F v d
  | _, _, .nil, i, d, e => by simp at e
  | _, _, .cons h _, 0, d, e => by simp at e; subst e; exact ⟨_, rfl, h⟩
  | _, _, .cons _ a, i + 1, d, e => by
    obtain ⟨v, h1, h2⟩ := dpAll_get a (i := i) (d := d) (by simpa using e)
    exact ⟨v, by simpa using h1, h2⟩
theorem nwAll_getV {K : PySem.W.Frag} {B F : Hp} {xs : List V} {ds : List PyData} (h : NwAll K B F xs ds) {i : Nat} {v : V} (e : xs[i]? = some v) : ∃ d, ds[i]? = some d ∧ Nw K B F v d := by
  obtain ⟨hi, _⟩ := List.getElem?_eq_some_iff.mp e
  have hi' : i < ds.length := by rw [← nwAll_len h]; exact hi
  obtain ⟨w, h1, h2⟩ := nwAll_get h (List.getElem?_eq_getElem hi')
  rw [e] at h1
  cases h1
  exact ⟨_, List.getElem?_eq_getElem hi', h2⟩
theorem dpAll_getV {K : PySem.W.Frag} {F : Hp} {xs : List V} {ds : List PyData} (h : DpAll K F xs ds) {i : Nat} {v : V} (e : xs[i]? = some v) : ∃ d, ds[i]? = some d ∧ Dp K F v d := by
  obtain ⟨hi, _⟩ := List.getElem?_eq_some_iff.mp e
  have hi' : i < ds.length := by rw [← dpAll_len h]; exact hi
  obtain ⟨w, h1, h2⟩ := dpAll_get h (List.getElem?_eq_getElem hi')
  rw [e] at h1
  cases h1
  exact ⟨_, List.getElem?_eq_getElem hi', h2⟩
theorem nwAll_app {K : PySem.W.Frag} {B F : Hp} : ∀ {xs ys : List V} {ds es : List PyData}, NwAll K B F xs ds → NwAll K B F ys es → NwAll K B F (xs ++ ys) (ds ++ es)
  | _, _, _, _, .nil, b => b
  | _, _, _, _, .cons h a, b => .cons h (nwAll_app a b)
theorem nwAll_take {K : PySem.W.Frag} {B F : Hp} : ∀ {xs : List V} {ds : List PyData} (n : Nat), NwAll K B F xs ds → NwAll K B F (xs.take n) (ds.take n)
  | _, _, 0, _ => .nil
  | _, _, n + 1, .nil => .nil
  | _, _, n + 1, .cons h a => .cons h (nwAll_take n a)
theorem nwAll_drop {K : PySem.W.Frag} {B F : Hp} : ∀ {xs : List V} {ds : List PyData} (n : Nat), NwAll K B F xs ds → NwAll K B F (xs.drop n) (ds.drop n)
  | _, _, 0, h => h
  | _, _, n + 1, .nil => .nil
  | _, _, n + 1, .cons h a => nwAll_drop n a
theorem dpAll_take {K : PySem.W.Frag} {F : Hp} : ∀ {xs : List V} {ds : List PyData} (n : Nat), DpAll K F xs ds → DpAll K F (xs.take n) (ds.take n)
  | _, _, 0, _ => .nil
  | _, _, n + 1, .nil => .nil
  | _, _, n + 1, .cons h a => .cons h (dpAll_take n a)
theorem dpAll_drop {K : PySem.W.Frag} {F : Hp} : ∀ {xs : List V} {ds : List PyData} (n : Nat), DpAll K F xs ds → DpAll K F (xs.drop n) (ds.drop n)
  | _, _, 0, h => h
  | _, _, n + 1, .nil => .nil
  | _, _, n + 1, .cons h a => dpAll_drop n a
theorem dpAll_app {K : PySem.W.Frag} {F : Hp} : ∀ {xs ys : List V} {ds es : List PyData}, DpAll K F xs ds → DpAll K F ys es → DpAll K F (xs ++ ys) (ds ++ es)
  | _, _, _, _, .nil, b => b
  | _, _, _, _, .cons h a, b => .cons h (dpAll_app a b)
theorem nwAll_rev {K : PySem.W.Frag} {B F : Hp} : ∀ {xs : List V} {ds : List PyData}, NwAll K B F xs ds → NwAll K B F xs.reverse ds.reverse
  | _, _, .nil => .nil
  | _, _, .cons h a => by
    rw [List.reverse_cons, List.reverse_cons]
    exact nwAll_app (nwAll_rev a) (.cons h .nil)
theorem dpAll_ints {K : PySem.W.Frag} {F : Hp} : ∀ {xs : List V} {ns : List Int}, DpAll K F xs (ns.map PyData.int) → xs = ns.map V.int
  | _, [], .nil => rfl
  | _, n :: r, .cons (.int _) a => by rw [dpAll_ints a]; rfl
theorem nwAll_ints {K : PySem.W.Frag} {B F : Hp} (ns : List Int) : NwAll K B F (ns.map V.int) (ns.map PyData.int) := by
  induction ns with
  | nil => exact .nil
  | cons n r ih => exact .cons (.int n) ih
theorem dpAll_bls {K : PySem.W.Frag} {F : Hp} : ∀ {xs : List V} {ns : List Bool}, DpAll K F xs (ns.map PyData.bool) → xs = ns.map V.bl
  | _, [], .nil => rfl
  | _, n :: r, .cons (.bl _) a => by rw [dpAll_bls a]; rfl
end Lay
namespace Lay
open PySem L2

abbrev dat (K : PySem.W.Frag) (d : PyData) : Pd := fun F v => Dp K F v d
abbrev nwd (K : PySem.W.Frag) (B : Hp) (d : PyData) : Pd := fun F v => Nw K B F v d
theorem st_dat {K : PySem.W.Frag} {d : PyData} : Stab (dat K d) := fun _ _ _ s h => dp_mono s h
theorem st_nwd {K : PySem.W.Frag} {B : Hp} {d : PyData} : Stab (nwd K B d) := fun _ _ _ s h => nw_mono (Same.refl _) s h
/-- an owned list, an owned dict (keys ints) -/
inductive KvAll (K : PySem.W.Frag) (B F : Hp) : List (Key × V) → List (Int × PyData) → Prop
  | nil : KvAll K B F [] []
  | cons {k : Int} {v : V} {d : PyData} {kv : List (Key × V)} {kvs : List (Int × PyData)} : Nw K B F v d → KvAll K B F kv kvs → KvAll K B F ((Sum.inl k, v) :: kv) ((k, d) :: kvs)
def mlP (K : PySem.W.Frag) (B : Hp) (ds : List PyData) : Hp → Hp → V → List Addr → Prop := fun F H v as => ∃ l xs, v = .ref l ∧ as = [l] ∧ H l = some (.lst xs) ∧ NwAll K B F xs ds
def mdP (K : PySem.W.Frag) (B : Hp) (kvs : List (Int × PyData)) : Hp → Hp → V → List Addr → Prop := fun F H v as => ∃ l kv, v = .ref l ∧ as = [l] ∧ H l = some (.dK kv) ∧ KvAll K B F kv kvs
theorem kvAll_mono {K : PySem.W.Frag} {B F F' : Hp} (s : Same F F') : ∀ {kv : List (Key × V)} {kvs : List (Int × PyData)}, KvAll K B F kv kvs → KvAll K B F' kv kvs
  | _, _, .nil => .nil
  | _, _, .cons h a => .cons (nw_mono (Same.refl _) s h) (kvAll_mono s a)
theorem st_ml {K : PySem.W.Frag} {B : Hp} {ds : List PyData} : MStab (mlP K B ds) := fun F F' H H' v as s e ⟨l, xs, h1, h2, h3, h4⟩ =>
  ⟨l, xs, h1, h2, by rw [e l (by rw [h2]; exact List.mem_singleton.mpr rfl)]; exact h3, nwAll_mono (Same.refl _) s h4⟩
theorem st_md {K : PySem.W.Frag} {B : Hp} {kvs : List (Int × PyData)} : MStab (mdP K B kvs) := fun F F' H H' v as s e ⟨l, kv, h1, h2, h3, h4⟩ =>
  ⟨l, kv, h1, h2, by rw [e l (by rw [h2]; exact List.mem_singleton.mpr rfl)]; exact h3, kvAll_mono s h4⟩
abbrev sn (K : PySem.W.Frag) (B : Hp) (d : PyData) : Sl := .fz (nwd K B d)
abbrev sa (K : PySem.W.Frag) (d : PyData) : Sl := .fz (dat K d)
abbrev ml (K : PySem.W.Frag) (B : Hp) (ds : List PyData) : Sl := .mo (mlP K B ds)
abbrev md (K : PySem.W.Frag) (B : Hp) (kvs : List (Int × PyData)) : Sl := .mo (mdP K B kvs)
/-- a dict read: tracked, keys ints -/
def isDict (K : PySem.W.Frag) (kvs : List (Int × PyData)) : Pd := fun H v => ∃ l kv, v = .ref l ∧ Rd H l (.dK kv) ∧ ∃ B, KvAll K B H kv kvs
theorem st_isDict {K : PySem.W.Frag} {kvs : List (Int × PyData)} : Stab (isDict K kvs) := fun _ _ _ s ⟨l, kv, h1, h2, B, h3⟩ => ⟨l, kv, h1, rd_mono s h2, B, kvAll_mono s h3⟩

/-! ### what evaluates to what -/
def Ev (B F0 : Hp) (ρ : List Sl) (te : TE) (f : Pd) : Prop := ∀ F H σ, Cfg B F0 F H σ ρ → ∀ Q : VK, (∀ v F' H', Gr F H F' H' → f F' v → Q v H') → te σ H Q
def EvH (B F0 : Hp) (ρ : List Sl) (te : TE) (f : Pd) : Prop := ∀ F H σ, Cfg B F0 F H σ ρ → ∀ Q : VK, (∀ v F' H', Gr F H F' H' → f H' v → Q v H') → te σ H Q
def EvM (K : PySem.W.Frag) (B F0 : Hp) (ρ : List Sl) (te : TE) (ds : List PyData) : Prop := ∀ F H σ, Cfg B F0 F H σ ρ → ∀ Q : VK,
  (∀ l xs F' H', Gr F H F' H' → F' l = none → H l = none → H' l = some (.lst xs) → NwAll K B F' xs ds → Q (.ref l) H') → te σ H Q
def EvT (B F0 : Hp) (ρ : List Sl) (tt : TT) (c : Bool) : Prop := ∀ F H σ, Cfg B F0 F H σ ρ → ∀ Q : Bool → Hp → Prop, (∀ F' H', Gr F H F' H' → Q c H') → tt σ H Q
/-- a slot that is read as data -/
def RdS (K : PySem.W.Frag) (s : Sl) (d : PyData) : Prop := ∀ B F0 F H σ ρ (i : Nat), Cfg B F0 F H σ ρ → ρ[i]? = some s → ∃ v, σ[i]? = some (some v) ∧ Dp K H v d
section
variable {K : PySem.W.Frag} {B F0 : Hp} {ρ : List Sl} {te ta tb tc : TE} {f g : Pd} {d e : PyData} {ds es : List PyData}
theorem rd_sa : RdS K (sa K d) d := fun B F0 F H σ ρ i c e => by
  obtain ⟨w, o⟩ := c.own
  obtain ⟨_, v, h1, h2⟩ := o.sl i _ e
  exact ⟨v, h1, dp_mono c.i h2⟩
theorem rd_sn {B' : Hp} : RdS K (sn K B' d) d := fun B F0 F H σ ρ i c e => by
  obtain ⟨w, o⟩ := c.own
  obtain ⟨_, v, h1, h2⟩ := o.sl i _ e
  exact ⟨v, h1, dp_mono c.i (nw_dp h2)⟩
theorem rd_ml {B' : Hp} : RdS K (ml K B' ds) (.list ds) := fun B F0 F H σ ρ i c e => by
  obtain ⟨w, o⟩ := c.own
  obtain ⟨_, v, h1, l, xs, rfl, _, h4, h5⟩ := o.sl i _ e
  exact ⟨_, h1, .lst (.inl (.inl h4)) (dpAll_mono c.i (nwAll_dp h5))⟩
theorem ev_var {i : Nat} (h : ρ[i]? = some (.fz f)) : Ev B F0 ρ (tVar i) f := fun F H σ c Q q => by
  obtain ⟨w, o⟩ := c.own
  obtain ⟨_, v, h1, h2⟩ := o.sl i _ h
  exact ⟨v, h1, q v F H (Gr.refl c.i) h2⟩
theorem evh_var {i : Nat} {s : Sl} (h : ρ[i]? = some s) (r : RdS K s d) : EvH B F0 ρ (tVar i) (dat K d) := fun F H σ c Q q => by
  obtain ⟨v, h1, h2⟩ := r B F0 F H σ ρ i c h
  exact ⟨v, h1, q v F H (Gr.refl c.i) h2⟩
theorem evh_fz {i : Nat} (st : Stab f) (h : ρ[i]? = some (.fz f)) : EvH B F0 ρ (tVar i) f := fun F H σ c Q q => by
  obtain ⟨w, o⟩ := c.own
  obtain ⟨_, v, h1, h2⟩ := o.sl i _ h
  exact ⟨v, h1, q v F H (Gr.refl c.i) (st _ _ _ c.i h2)⟩
theorem evh_md {B' : Hp} {kvs : List (Int × PyData)} {i : Nat} (h : ρ[i]? = some (md K B' kvs)) : EvH B F0 ρ (tVar i) (isDict K kvs) := fun F H σ c Q q => by
  obtain ⟨w, o⟩ := c.own
  obtain ⟨_, v, h1, l, kv, rfl, _, h4, h5⟩ := o.sl i _ h
  exact ⟨_, h1, q _ F H (Gr.refl c.i) ⟨l, kv, rfl, .inl h4, _, kvAll_mono c.i h5⟩⟩
theorem Ev.h (st : Stab f) (h : Ev B F0 ρ te f) : EvH B F0 ρ te f := fun F H σ c Q q => h F H σ c Q fun v F' H' g p => q v F' H' g (st _ _ _ g.i p)
theorem Ev.dat (h : Ev B F0 ρ te (nwd K B d)) : Ev B F0 ρ te (dat K d) := fun F H σ c Q q => h F H σ c Q fun v F' H' g p => q v F' H' g (nw_dp p)
theorem Ev.hd (h : Ev B F0 ρ te (nwd K B d)) : EvH B F0 ρ te (Lay.dat K d) := h.dat.h st_dat
theorem Ev.imp (h : Ev B F0 ρ te f) (k : ∀ F v, f F v → g F v) : Ev B F0 ρ te g := fun F H σ c Q q => h F H σ c Q fun v F' H' gr p => q v F' H' gr (k _ _ p)
/-- what holds no lists may be taken as standing still -/
theorem EvH.nw (h : EvH B F0 ρ te (dat K d)) (fl : flatD d = true) : Ev B F0 ρ te (nwd K B d) := fun F H σ c Q q => h F H σ c Q fun v F' H' g p => by
  obtain ⟨F2, g2, _, p2⟩ := dp_prom (B := B) p fl F' g
  exact q v F2 H' g2 p2
theorem Ev.nwf (h : Ev B F0 ρ te (Lay.dat K d)) (fl : flatD d = true) : Ev B F0 ρ te (nwd K B d) := fun F H σ c Q q => h F H σ c Q fun v F' H' g p => q v F' H' g (dp_nw p fl)
/-- a list read now, its items (no lists) taken as standing still -/
theorem EvH.nwl (h : EvH B F0 ρ te (Lay.dat K (.list ds))) (fl : flatDs ds = true) : ∀ F H σ, Cfg B F0 F H σ ρ → ∀ Q : VK, (∀ v F' H', Gr F H F' H' → (∃ a xs, v = .ref a ∧ SqL K H' a xs ∧ NwAll K B F' xs ds) → Q v H') → te σ H Q := fun F H σ c Q q => h F H σ c Q fun v F' H' g p => by
  cases p with
  | @lst a xs _ h1 h2 =>
    obtain ⟨F2, g2, _, p2⟩ := dpAll_prom (B := B) h2 fl F' g
    exact q _ F2 H' g2 ⟨a, xs, rfl, h1, p2⟩
theorem EvM.nw (h : EvM K B F0 ρ te ds) : Ev B F0 ρ te (nwd K B (.list ds)) := fun F H σ c Q q => h F H σ c Q fun l xs F' H' g hf hn hl a => by
  refine q _ (upd F' l (.lst xs)) H' (g.put (.inl hn) hf hl) (.lst (c.gr.fresh hn) upd_same (nwAll_mono (Same.refl _) (fun b u e => ?_) a))
  rw [upd_ne (ne_of_none e hf)]
  exact e
theorem ev_int {n : Int} : Ev B F0 ρ (tC (.int n)) (nwd K B (.int n)) := fun F H σ c Q q => q _ F H (Gr.refl c.i) (.int n)
theorem ev_bl {n : Bool} : Ev B F0 ρ (tC (.bl n)) (nwd K B (.bool n)) := fun F H σ c Q q => q _ F H (Gr.refl c.i) (.bl n)
theorem ev_non : Ev B F0 ρ (tC .non) (nwd K B .none) := fun F H σ c Q q => q _ F H (Gr.refl c.i) .non
theorem ev_str {x : Str} : Ev B F0 ρ (tC (.str x)) (nwd K B (.str x)) := fun F H σ c Q q => q _ F H (Gr.refl c.i) (.str x)

/-! ### operators on values -/
theorem evo {r : R2} {fa fb : Pd} {z : V} (sa : Stab fa) (ha : EvH B F0 ρ ta fa) (hb : EvH B F0 ρ tb fb) (nz : ∀ F, f F z) (hr : ∀ H x y, fa H x → fb H y → ∀ Q : VK, Q z H → r x y H Q) : Ev B F0 ρ (tOp r ta tb) f := fun F H σ c Q q =>
  ha F H σ c _ fun x F1 H1 g1 p1 => hb F1 H1 σ (c.go g1) _ fun y F2 H2 g2 p2 => hr H2 x y (sa _ _ _ g2.h p1) p2 Q (q z F2 H2 (g1.trans g2) (nz F2))
theorem ev_ii {g : Int → Int → V} {a b c : Int} (ha : EvH B F0 ρ ta (dat K (.int a))) (hb : EvH B F0 ρ tb (dat K (.int b))) (e : g a b = .int c) : Ev B F0 ρ (tOp (rI0 g) ta tb) (nwd K B (.int c)) :=
  evo st_dat ha hb (fun F => .int c) fun H x y hx hy Q q => by
    cases hx; cases hy
    exact ⟨a, b, rfl, rfl, by rw [e]; exact q⟩
theorem ev_ib {g : Int → Int → V} {a b : Int} {c : Bool} (ha : EvH B F0 ρ ta (dat K (.int a))) (hb : EvH B F0 ρ tb (dat K (.int b))) (e : g a b = .bl c) : Ev B F0 ρ (tOp (rI0 g) ta tb) (nwd K B (.bool c)) :=
  evo st_dat ha hb (fun F => .bl c) fun H x y hx hy Q q => by
    cases hx; cases hy
    exact ⟨a, b, rfl, rfl, by rw [e]; exact q⟩
theorem ev_ci {C : Int → Int → Prop} {g : Int → Int → V} {a b c : Int} (ha : EvH B F0 ρ ta (dat K (.int a))) (hb : EvH B F0 ρ tb (dat K (.int b))) (hc : C a b) (e : g a b = .int c) : Ev B F0 ρ (tOp (rI C g) ta tb) (nwd K B (.int c)) :=
  evo st_dat ha hb (fun F => .int c) fun H x y hx hy Q q => by
    cases hx; cases hy
    exact ⟨a, b, rfl, rfl, hc, by rw [e]; exact q⟩
theorem ev_eqI {a b : Int} (ha : EvH B F0 ρ ta (dat K (.int a))) (hb : EvH B F0 ρ tb (dat K (.int b))) : Ev B F0 ρ (tOp rEq ta tb) (nwd K B (.bool (decide (a = b)))) :=
  evo st_dat ha hb (fun F => .bl _) fun H x y hx hy Q q => by
    cases hx; cases hy
    refine ⟨rfl, ?_⟩
    have e : decide (V.int a = V.int b) = decide (a = b) := by
      by_cases h : a = b
      · rw [decide_eq_true h, decide_eq_true (congrArg V.int h)]
      · rw [decide_eq_false h, decide_eq_false fun z => h (V.int.inj z)]
    rw [e]; exact q
theorem ev_neI {a b : Int} (ha : EvH B F0 ρ ta (dat K (.int a))) (hb : EvH B F0 ρ tb (dat K (.int b))) : Ev B F0 ρ (tOp rNe ta tb) (nwd K B (.bool (!decide (a = b)))) :=
  evo st_dat ha hb (fun F => .bl _) fun H x y hx hy Q q => by
    cases hx; cases hy
    refine ⟨rfl, ?_⟩
    have e : decide (V.int a = V.int b) = decide (a = b) := by
      by_cases h : a = b
      · rw [decide_eq_true h, decide_eq_true (congrArg V.int h)]
      · rw [decide_eq_false h, decide_eq_false fun z => h (V.int.inj z)]
    rw [e]; exact q
theorem ev_eqS {a b : Str} (ha : EvH B F0 ρ ta (dat K (.str a))) (hb : EvH B F0 ρ tb (dat K (.str b))) : Ev B F0 ρ (tOp rEq ta tb) (nwd K B (.bool (decide (a = b)))) :=
  evo st_dat ha hb (fun F => .bl _) fun H x y hx hy Q q => by
    cases hx; cases hy
    refine ⟨rfl, ?_⟩
    have e : decide (V.str a = V.str b) = decide (a = b) := by
      by_cases h : a = b
      · rw [decide_eq_true h, decide_eq_true (congrArg V.str h)]
      · rw [decide_eq_false h, decide_eq_false fun z => h (V.str.inj z)]
    rw [e]; exact q
theorem ev_neS {a b : Str} (ha : EvH B F0 ρ ta (dat K (.str a))) (hb : EvH B F0 ρ tb (dat K (.str b))) : Ev B F0 ρ (tOp rNe ta tb) (nwd K B (.bool (!decide (a = b)))) :=
  evo st_dat ha hb (fun F => .bl _) fun H x y hx hy Q q => by
    cases hx; cases hy
    refine ⟨rfl, ?_⟩
    have e : decide (V.str a = V.str b) = decide (a = b) := by
      by_cases h : a = b
      · rw [decide_eq_true h, decide_eq_true (congrArg V.str h)]
      · rw [decide_eq_false h, decide_eq_false fun z => h (V.str.inj z)]
    rw [e]; exact q
theorem ev_eqD (ha : EvH B F0 ρ ta (dat K d)) (hb : EvH B F0 ρ tb (dat K e)) (hd : SeqAt.shaped d = true) (he : SeqAt.shaped e = true) : Ev B F0 ρ (tOp (rEqD K) ta tb) (nwd K B (.bool (PyData.eqv d e))) :=
  evo st_dat ha hb (fun F => .bl _) fun H x y hx hy Q q => ⟨d, e, hx, hy, hd, he, q⟩
theorem ev_neD (ha : EvH B F0 ρ ta (dat K d)) (hb : EvH B F0 ρ tb (dat K e)) (hd : SeqAt.shaped d = true) (he : SeqAt.shaped e = true) : Ev B F0 ρ (tOp (rNeD K) ta tb) (nwd K B (.bool (!PyData.eqv d e))) :=
  evo st_dat ha hb (fun F => .bl _) fun H x y hx hy Q q => ⟨d, e, hx, hy, hd, he, q⟩
theorem inV_ints {a : Int} : ∀ {ns : List Int}, inV (.int a) (ns.map V.int) = decide (a ∈ ns)
  | [] => by simp [inV]
  | n :: r => by
    have ih := inV_ints (a := a) (ns := r)
    unfold inV at ih ⊢
    rw [List.map_cons, List.any_cons, ih]
    show (n == a || decide (a ∈ r)) = decide (a ∈ n :: r)
    by_cases h : n = a
    · subst h; simp
    · have h' : ¬ a = n := fun z => h z.symm
      simp [h, h']
theorem all_flat_ints : ∀ ns : List Int, (ns.map V.int).all flatV = true
  | [] => rfl
  | n :: r => by rw [List.map_cons, List.all_cons, all_flat_ints r]; rfl
theorem ev_inI {neg : Bool} {a : Int} {ns : List Int} (ha : EvH B F0 ρ ta (dat K (.int a))) (hb : EvH B F0 ρ tb (dat K (.list (ns.map .int)))) : Ev B F0 ρ (tOp (rIn K neg) ta tb) (nwd K B (.bool (if neg then !decide (a ∈ ns) else decide (a ∈ ns)))) :=
  evo st_dat ha hb (fun F => .bl _) fun H x y hx hy Q q => by
    cases hx
    cases hy with
    | lst h1 h2 =>
      rw [dpAll_ints h2] at h1
      refine ⟨_, _, rfl, .inl h1, rfl, all_flat_ints ns, ?_⟩
      rw [inV_ints]; exact q
theorem ev_inT {neg : Bool} {a : Int} {ns : List Int} (ha : EvH B F0 ρ ta (dat K (.int a))) (hb : EvH B F0 ρ tb (dat K (.tuple (ns.map .int)))) : Ev B F0 ρ (tOp (rIn K neg) ta tb) (nwd K B (.bool (if neg then !decide (a ∈ ns) else decide (a ∈ ns)))) :=
  evo st_dat ha hb (fun F => .bl _) fun H x y hx hy Q q => by
    cases hx
    cases hy with
    | tup h1 h2 =>
      rw [dpAll_ints h2] at h1
      refine ⟨_, _, rfl, .inr h1, rfl, all_flat_ints ns, ?_⟩
      rw [inV_ints]; exact q
/-- is None, is not None -/
theorem ev_isN {c : Bool} (ha : EvH B F0 ρ ta (dat K d)) (hb : EvH B F0 ρ tb (dat K .none)) (hc : ∀ F v, Dp K F v d → decide (v = .non) = c) : Ev B F0 ρ (tOp (fun x y H Q => y = .non ∧ Q (.bl (decide (x = .non))) H) ta tb) (nwd K B (.bool c)) :=
  evo st_dat ha hb (fun F => .bl _) fun H x y hx hy Q q => by
    cases hy
    exact ⟨rfl, by rw [hc _ _ hx]; exact q⟩
theorem ev_notN {c : Bool} (ha : EvH B F0 ρ ta (dat K d)) (hb : EvH B F0 ρ tb (dat K .none)) (hc : ∀ F v, Dp K F v d → decide (v = .non) = c) : Ev B F0 ρ (tOp (fun x y H Q => y = .non ∧ Q (.bl (!decide (x = .non))) H) ta tb) (nwd K B (.bool (!c))) :=
  evo st_dat ha hb (fun F => .bl _) fun H x y hx hy Q q => by
    cases hy
    exact ⟨rfl, by rw [hc _ _ hx]; exact q⟩
/-! ### items -/
theorem dpAll_atI {F : Hp} {xs : List V} {i : Int} (h : DpAll K F xs ds) (e : atI ds i = some d) : ∃ v, atI xs i = some v ∧ Dp K F v d := by
  unfold atI at e ⊢
  rw [dpAll_len h]
  cases z : ixN ds.length i with
  | none => rw [z] at e; cases e
  | some j =>
    rw [z] at e
    exact dpAll_get h e
theorem nwAll_atI {B F : Hp} {xs : List V} {i : Int} (h : NwAll K B F xs ds) (e : atI ds i = some d) : ∃ v, atI xs i = some v ∧ Nw K B F v d := by
  unfold atI at e ⊢
  rw [nwAll_len h]
  cases z : ixN ds.length i with
  | none => rw [z] at e; cases e
  | some j =>
    rw [z] at e
    exact nwAll_get h e
theorem evh_ixL {i : Int} (ha : EvH B F0 ρ ta (dat K (.list ds))) (hb : EvH B F0 ρ tb (dat K (.int i))) (e : atI ds i = some d) : EvH B F0 ρ (tOp (rIxL K) ta tb) (dat K d) := fun F H σ c Q q =>
  ha F H σ c _ fun x F1 H1 g1 p1 => hb F1 H1 σ (c.go g1) _ fun y F2 H2 g2 p2 => by
    cases p2
    cases p1 with
    | lst h1 h2 =>
      obtain ⟨v, h3, h4⟩ := dpAll_atI h2 e
      exact ⟨_, _, i, v, rfl, rfl, g2.h.seq h1, h3, q v F2 H2 (g1.trans g2) (dp_mono g2.h h4)⟩
theorem ev_ixL {i : Int} (ha : Ev B F0 ρ ta (dat K (.list ds))) (hb : EvH B F0 ρ tb (dat K (.int i))) (e : atI ds i = some d) : Ev B F0 ρ (tOp (rIxL K) ta tb) (dat K d) := fun F H σ c Q q =>
  ha F H σ c _ fun x F1 H1 g1 p1 => hb F1 H1 σ (c.go g1) _ fun y F2 H2 g2 p2 => by
    cases p2
    cases p1 with
    | lst h1 h2 =>
      obtain ⟨v, h3, h4⟩ := dpAll_atI h2 e
      exact ⟨_, _, i, v, rfl, rfl, g2.i.seq (g2.f.seq h1), h3, q v F2 H2 (g1.trans g2) (dp_mono g2.f h4)⟩
theorem ev_ixN {i : Int} (ha : Ev B F0 ρ ta (nwd K B (.list ds))) (hb : EvH B F0 ρ tb (dat K (.int i))) (e : atI ds i = some d) : Ev B F0 ρ (tOp (rIxL K) ta tb) (nwd K B d) := fun F H σ c Q q =>
  ha F H σ c _ fun x F1 H1 g1 p1 => hb F1 H1 σ (c.go g1) _ fun y F2 H2 g2 p2 => by
    cases p2
    cases p1 with
    | lst h0 h1 h2 =>
      obtain ⟨v, h3, h4⟩ := nwAll_atI h2 e
      exact ⟨_, _, i, v, rfl, rfl, .inl (.inl (g2.i _ _ (g2.f _ _ h1))), h3, q v F2 H2 (g1.trans g2) (nw_mono (Same.refl _) g2.f h4)⟩
theorem evh_ixT {i : Int} (ha : EvH B F0 ρ ta (dat K (.tuple ds))) (hb : EvH B F0 ρ tb (dat K (.int i))) (e : atI ds i = some d) : EvH B F0 ρ (tOp (rIxT K) ta tb) (dat K d) := fun F H σ c Q q =>
  ha F H σ c _ fun x F1 H1 g1 p1 => hb F1 H1 σ (c.go g1) _ fun y F2 H2 g2 p2 => by
    cases p2
    cases p1 with
    | tup h1 h2 =>
      obtain ⟨v, h3, h4⟩ := dpAll_atI h2 e
      exact ⟨_, _, i, v, rfl, rfl, sqt_mono g2.h h1, h3, q v F2 H2 (g1.trans g2) (dp_mono g2.h h4)⟩
theorem ev_ixT {i : Int} (ha : Ev B F0 ρ ta (nwd K B (.tuple ds))) (hb : EvH B F0 ρ tb (dat K (.int i))) (e : atI ds i = some d) : Ev B F0 ρ (tOp (rIxT K) ta tb) (nwd K B d) := fun F H σ c Q q =>
  ha F H σ c _ fun x F1 H1 g1 p1 => hb F1 H1 σ (c.go g1) _ fun y F2 H2 g2 p2 => by
    cases p2
    cases p1 with
    | tup h1 h2 =>
      obtain ⟨v, h3, h4⟩ := nwAll_atI h2 e
      exact ⟨_, _, i, v, rfl, rfl, sqt_mono g2.i (sqt_mono g2.f h1), h3, q v F2 H2 (g1.trans g2) (nw_mono (Same.refl _) g2.f h4)⟩
end
end Lay
namespace Lay
open PySem L2

section
variable {K : PySem.W.Frag} {B F0 : Hp} {ρ ρ1 ρ2 : List Sl} {te ta tb tc : TE} {t u : TT} {f g : Pd} {d e : PyData} {ds es : List PyData}
/-! ### tests, truths -/
theorem et_B {c : Bool} (h : EvH B F0 ρ te (dat K (.bool c))) : EvT B F0 ρ (tB te) c := fun F H σ k Q q => h F H σ k _ fun v F' H' g p => by
  cases p
  exact ⟨c, rfl, q F' H' g⟩
theorem et_test {c : Bool} (h : EvH B F0 ρ te (dat K (.bool c))) : EvT B F0 ρ (tTest te) c := fun F H σ k Q q => h F H σ k _ fun v F' H' g p => by
  cases p
  exact ⟨c, rfl, q F' H' g⟩
theorem et_and {a c : Bool} (h1 : EvT B F0 ρ t a) (h2 : a = true → EvT B F0 ρ u c) : EvT B F0 ρ (tAnd t u) (a && c) := fun F H σ k Q q => h1 F H σ k _ fun F1 H1 g1 => by
  cases a with
  | true => exact iteT (h2 rfl F1 H1 σ (k.go g1) _ fun F2 H2 g2 => q F2 H2 (g1.trans g2))
  | false => exact iteF (q F1 H1 g1)
theorem et_or {a c : Bool} (h1 : EvT B F0 ρ t a) (h2 : a = false → EvT B F0 ρ u c) : EvT B F0 ρ (tOr t u) (a || c) := fun F H σ k Q q => h1 F H σ k _ fun F1 H1 g1 => by
  cases a with
  | true => exact iteT (q F1 H1 g1)
  | false => exact iteF (h2 rfl F1 H1 σ (k.go g1) _ fun F2 H2 g2 => q F2 H2 (g1.trans g2))
theorem et_not {a : Bool} (h1 : EvT B F0 ρ t a) : EvT B F0 ρ (tNot t) (!a) := fun F H σ k Q q => h1 F H σ k _ fun F1 H1 g1 => q F1 H1 g1
theorem et_is {a c : Bool} (h : EvT B F0 ρ t a) (e : a = c) : EvT B F0 ρ t c := e ▸ h
theorem ev_is {d' : PyData} (h : Ev B F0 ρ te (nwd K B d)) (e : d = d') : Ev B F0 ρ te (nwd K B d') := e ▸ h
theorem ev_andV {a c : Bool} (h1 : EvH B F0 ρ ta (dat K (.bool a))) (h2 : a = true → Ev B F0 ρ tb (nwd K B (.bool c))) : Ev B F0 ρ (tAndV ta tb) (nwd K B (.bool (a && c))) := fun F H σ k Q q => h1 F H σ k _ fun v F1 H1 g1 p => by
  cases p
  refine ⟨a, rfl, ?_⟩
  cases a with
  | true => exact iteT (h2 rfl F1 H1 σ (k.go g1) _ fun v F2 H2 g2 p2 => q v F2 H2 (g1.trans g2) p2)
  | false => exact iteF (q _ F1 H1 g1 (.bl false))
theorem ev_orV {a c : Bool} (h1 : EvH B F0 ρ ta (dat K (.bool a))) (h2 : a = false → Ev B F0 ρ tb (nwd K B (.bool c))) : Ev B F0 ρ (tOrV ta tb) (nwd K B (.bool (a || c))) := fun F H σ k Q q => h1 F H σ k _ fun v F1 H1 g1 p => by
  cases p
  refine ⟨a, rfl, ?_⟩
  cases a with
  | true => exact iteT (q _ F1 H1 g1 (.bl true))
  | false => exact iteF (h2 rfl F1 H1 σ (k.go g1) _ fun v F2 H2 g2 p2 => q v F2 H2 (g1.trans g2) p2)
theorem ev_notV {a : Bool} (h1 : EvH B F0 ρ ta (dat K (.bool a))) : Ev B F0 ρ (tNotV ta) (nwd K B (.bool (!a))) := fun F H σ k Q q => h1 F H σ k _ fun v F1 H1 g1 p => by
  cases p
  exact ⟨a, rfl, q _ F1 H1 g1 (.bl _)⟩
theorem ev_if {c : Bool} (h : EvT B F0 ρ t c) (h1 : c = true → Ev B F0 ρ ta f) (h2 : c = false → Ev B F0 ρ tb f) : Ev B F0 ρ (tIf t ta tb) f := fun F H σ k Q q => h F H σ k _ fun F1 H1 g1 => by
  cases c with
  | true => exact iteT (h1 rfl F1 H1 σ (k.go g1) _ fun v F2 H2 g2 p2 => q v F2 H2 (g1.trans g2) p2)
  | false => exact iteF (h2 rfl F1 H1 σ (k.go g1) _ fun v F2 H2 g2 p2 => q v F2 H2 (g1.trans g2) p2)

/-! ### arguments, displays -/
def AOk : List Pd → Hp → List V → Prop
  | [], _, vs => vs = []
  | f :: r, H, vs => ∃ v t, vs = v :: t ∧ f H v ∧ AOk r H t
def EvA (B F0 : Hp) (ρ : List Sl) (ta : TA) (fs : List Pd) : Prop := ∀ F H σ, Cfg B F0 F H σ ρ → ∀ Q : List V → Hp → Prop, (∀ vs F' H', Gr F H F' H' → AOk fs H' vs → Q vs H') → ta σ H Q
def EvAs (K : PySem.W.Frag) (B F0 : Hp) (ρ : List Sl) (ta : TA) (ds : List PyData) : Prop := ∀ F H σ, Cfg B F0 F H σ ρ → ∀ Q : List V → Hp → Prop, (∀ vs F' H', Gr F H F' H' → NwAll K B F' vs ds → Q vs H') → ta σ H Q
def EvAd (K : PySem.W.Frag) (B F0 : Hp) (ρ : List Sl) (ta : TA) (ds : List PyData) : Prop := ∀ F H σ, Cfg B F0 F H σ ρ → ∀ Q : List V → Hp → Prop, (∀ vs F' H', Gr F H F' H' → DpAll K F' vs ds → Q vs H') → ta σ H Q
theorem ea_nil : EvA B F0 ρ tNil [] := fun F H σ k Q q => q [] F H (Gr.refl k.i) rfl
theorem ea_cons {tr : TA} {fs : List Pd} (st : Stab f) (h : EvH B F0 ρ te f) (hr : EvA B F0 ρ tr fs) : EvA B F0 ρ (tCons te tr) (f :: fs) := fun F H σ k Q q =>
  h F H σ k _ fun v F1 H1 g1 p => hr F1 H1 σ (k.go g1) _ fun vs F2 H2 g2 p2 => q (v :: vs) F2 H2 (g1.trans g2) ⟨v, vs, rfl, st _ _ _ g2.h p, p2⟩
theorem eas_nil : EvAs K B F0 ρ tNil [] := fun F H σ k Q q => q [] F H (Gr.refl k.i) .nil
theorem eas_cons {tr : TA} (h : Ev B F0 ρ te (nwd K B d)) (hr : EvAs K B F0 ρ tr ds) : EvAs K B F0 ρ (tCons te tr) (d :: ds) := fun F H σ k Q q =>
  h F H σ k _ fun v F1 H1 g1 p => hr F1 H1 σ (k.go g1) _ fun vs F2 H2 g2 p2 => q (v :: vs) F2 H2 (g1.trans g2) (.cons (nw_mono (Same.refl _) g2.f p) p2)
theorem ead_nil : EvAd K B F0 ρ tNil [] := fun F H σ k Q q => q [] F H (Gr.refl k.i) .nil
theorem ead_cons {tr : TA} (h : Ev B F0 ρ te (dat K d)) (hr : EvAd K B F0 ρ tr ds) : EvAd K B F0 ρ (tCons te tr) (d :: ds) := fun F H σ k Q q =>
  h F H σ k _ fun v F1 H1 g1 p => hr F1 H1 σ (k.go g1) _ fun vs F2 H2 g2 p2 => q (v :: vs) F2 H2 (g1.trans g2) (.cons (dp_mono g2.f p) p2)
theorem sz_of {n : Nat} (h : n ≤ 100000) : n ≤ sizeLine := Nat.le_trans h (by decide)
theorem sz_lt {n : Nat} (h : n < 100000) : n < sizeLine := Nat.lt_of_lt_of_le h (by decide)
theorem ev_tup {tr : TA} (h : EvAs K B F0 ρ tr ds) (hl : ds.length ≤ 100000) : Ev B F0 ρ (tTup tr) (nwd K B (.tuple ds)) := fun F H σ k Q q =>
  h F H σ k _ fun vs F1 H1 g1 p => ⟨sz_of (by rw [nwAll_len p]; exact hl), fun a ha => by
    have g2 : Gr F H F1 (upd H1 a (.tup vs)) := g1.trans (Gr.new g1.i ha)
    obtain ⟨F2, g3, s, e⟩ := g2.putT (o := .tup vs) rfl upd_same
    exact q _ F2 _ g3 (.tup (.inl (.inl e)) (nwAll_mono (Same.refl _) s p))⟩
theorem evm_lst {tr : TA} (h : EvAs K B F0 ρ tr ds) (hl : ds.length ≤ 100000) : EvM K B F0 ρ (tLst tr) ds := fun F H σ k Q q =>
  h F H σ k _ fun vs F1 H1 g1 p => ⟨sz_of (by rw [nwAll_len p]; exact hl), fun a ha => by
    have g2 : Gr F H F1 (upd H1 a (.lst vs)) := g1.trans (Gr.new g1.i ha)
    exact q a vs F1 _ g2 (g1.i.free ha) (g1.fresh ha) upd_same p⟩
theorem ev_lstD {tr : TA} (h : EvAd K B F0 ρ tr ds) (hl : ds.length ≤ 100000) : Ev B F0 ρ (tLst tr) (dat K (.list ds)) := fun F H σ k Q q =>
  h F H σ k _ fun vs F1 H1 g1 p => ⟨sz_of (by rw [dpAll_len p]; exact hl), fun a ha => by
    have g2 : Gr F H F1 (upd H1 a (.lst vs)) := g1.trans (Gr.new g1.i ha)
    obtain ⟨F2, g3, s, e⟩ := g2.putN (p := a) (o := .lst vs) (g1.fresh ha) upd_same
    exact q _ F2 _ g3 (.lst (.inl (.inl e)) (dpAll_mono s p))⟩
/-! ### calls of defs that change nothing -/
def Fp (K : PySem.W.Frag) {α : Type} (pre : α → Prop) (args : α → List Pd) (res : α → PyData) : Sp := fun vs H Q _ => ∃ x, pre x ∧ AOk (args x) H vs ∧ ∀ v H', Same H H' → Nw K H H' v (res x) → Q v H'
theorem gr_call {F H H' : Hp} (i : Same F H) (s : Same H H') : Gr F H F H' := ⟨Same.refl _, s, i.trans s, fun _ _ _ _ e => e⟩
theorem ev_call {α : Type} {pre : α → Prop} {args : α → List Pd} {res : α → PyData} {tr : TA} {E : XK} (x : α) (hp : pre x) (h : EvA B F0 ρ tr (args x)) : Ev B F0 ρ (tCall (Fp K pre args res) [] E tr) (nwd K B (res x)) := fun F H σ k Q q =>
  h F H σ k _ fun vs F1 H1 g1 p => ⟨x, hp, by rw [List.append_nil]; exact p, fun v H2 s n => by
    obtain ⟨F2, g2, _, n2⟩ := nw_fix (B := B) (k.go g1).gr.h n F1 (gr_call g1.i s)
    exact q v F2 H2 (g1.trans g2) n2⟩
theorem evm_call {α : Type} {pre : α → Prop} {args : α → List Pd} {res : α → PyData} {tr : TA} {E : XK} (x : α) (hp : pre x) (h : EvA B F0 ρ tr (args x)) (e : res x = .list ds) (fl : flatDs ds = true) : EvM K B F0 ρ (tCall (Fp K pre args res) [] E tr) ds := fun F H σ k Q q =>
  h F H σ k _ fun vs F1 H1 g1 p => ⟨x, hp, by rw [List.append_nil]; exact p, fun v H2 s n => by
    rw [e] at n
    cases n with
    | @lst l xs _ h1 h2 h3 =>
      have g0 := gr_call g1.i s
      have n1 : F1 l = none := g1.i.free h1
      obtain ⟨F2, g2, _, n2⟩ := dpAll_prom (B := B) (nwAll_dp h3) fl F1 (Gr.refl g0.i)
      exact q l xs F2 H2 (g1.trans (g0.trans g2)) (g2.n l _ h2 rfl n1) (g1.fresh h1) h2 n2⟩
theorem ev_meth {α : Type} {C : Addr} {m : Str} {pre : α → Prop} {args : α → List Pd} {res : α → PyData} {tr : TA} {fs : List Pd} {E : XK} (x : α) (hp : pre x) (ha : EvH B F0 ρ ta f) (st : Stab f)
    (hi : ∀ H v, f H v → ∃ a dx fl, v = .ref a ∧ H a = some (.ins C dx fl) ∧ fl.lookup m = none) (h : EvA B F0 ρ tr fs) (e : args x = f :: fs) : Ev B F0 ρ (tMeth C m (Fp K pre args res) [] E ta tr) (nwd K B (res x)) := fun F H σ k Q q =>
  ha F H σ k _ fun v F1 H1 g1 p => by
    obtain ⟨a, dx, fl, rfl, h1, h2⟩ := hi _ _ p
    refine ⟨a, dx, fl, rfl, h1, h2, h F1 H1 σ (k.go g1) _ fun vs F2 H2 g2 p2 => ?_⟩
    refine ⟨x, hp, ?_, fun v H3 s n => ?_⟩
    · rw [e, List.append_nil]
      exact ⟨_, _, rfl, st _ _ _ g2.h p, p2⟩
    · have g := g1.trans g2
      obtain ⟨F3, g3, _, n3⟩ := nw_fix (B := B) (k.go g).gr.h n F2 (gr_call g2.i s)
      exact q v F3 H3 (g.trans g3) n3
/-! ### built-in calls -/
theorem ev_cb {r : List V → Hp → VK → Prop} {tr : TA} {fs : List Pd} {z : V} (h : EvA B F0 ρ tr fs) (nz : ∀ F, f F z) (hr : ∀ H vs, AOk fs H vs → ∀ Q : VK, Q z H → r vs H Q) : Ev B F0 ρ (tCB r tr) f := fun F H σ k Q q =>
  h F H σ k _ fun vs F1 H1 g1 p => hr H1 vs p Q (q z F1 H1 g1 (nz F1))
/-- .. that make a new list -/
theorem evm_cb {r : List V → Hp → VK → Prop} {tr : TA} {fs : List Pd} {R : List V → Prop} (h : EvA B F0 ρ tr fs) (hR : ∀ F xs, R xs → NwAll K B F xs ds)
    (hr : ∀ H vs, AOk fs H vs → ∀ Q : VK, (∀ p xs, H p = none → R xs → Q (.ref p) (upd H p (.lst xs))) → r vs H Q) : EvM K B F0 ρ (tCB r tr) ds := fun F H σ k Q q =>
  h F H σ k _ fun vs F1 H1 g1 p => hr H1 vs p Q fun a xs ha hx => q a xs F1 _ (g1.trans (Gr.new g1.i ha)) (g1.i.free ha) (g1.fresh ha) upd_same (hR F1 xs hx)

/-! ### what changes an owned thing on the way -/
def EvX (B F0 : Hp) (ρ : List Sl) (te : TE) (ρ' : List Sl) (f : Pd) : Prop := ∀ F H σ, Cfg B F0 F H σ ρ → ∀ Q : VK, (∀ v F' H', Cfg B F0 F' H' σ ρ' → f F' v → Q v H') → te σ H Q
theorem Ev.x (h : Ev B F0 ρ te f) : EvX B F0 ρ te ρ f := fun F H σ k Q q => h F H σ k Q fun v F' H' g p => q v F' H' (k.go g) p

/-! ### statements -/
def At (B F0 : Hp) (N : St → Hp → Prop) (ρ : List Sl) : Prop := ∀ F H σ, Cfg B F0 F H σ ρ → N σ H
def Only (is : List Nat) (σ σ' : St) : Prop := σ'.length = σ.length ∧ ∀ j, j ∉ is → σ'[j]? = σ[j]?
def Bind (B F0 : Hp) (g : TG) (is : List Nat) (f : Pd) (ρ ρ' : List Sl) : Prop := ∀ F H σ x, Cfg B F0 F H σ ρ → f F x → ∀ Q : St → Hp → Prop, (∀ σ', Cfg B F0 F H σ' ρ' → Only is σ σ' → Q σ' H) → g x σ H Q
def BindL (K : PySem.W.Frag) (B F0 : Hp) (g : TGs) (is : List Nat) (ds : List PyData) (ρ ρ' : List Sl) : Prop := ∀ F H σ xs, Cfg B F0 F H σ ρ → NwAll K B F xs ds → ∀ Q : St → Hp → Prop, (∀ σ', Cfg B F0 F H σ' ρ' → Only is σ σ' → Q σ' H) → g xs σ H Q
theorem bind_name {i : Nat} (st : Stab f) : Bind B F0 (gName i) [i] f ρ (ρ.set i (.fz f)) := fun F H σ x k p Q q =>
  q _ (k.setF st p) ⟨by simp, fun j hj => by rw [List.getElem?_set_ne (fun e => hj (by rw [e]; exact List.mem_singleton.mpr rfl))]⟩
theorem bindl_nil : BindL K B F0 gNil [] [] ρ ρ := fun F H σ xs k p Q q => by
  cases p
  exact ⟨rfl, q σ k ⟨rfl, fun _ _ => rfl⟩⟩
theorem bindl_cons {g : TG} {gs : TGs} {is js : List Nat} (h1 : Bind B F0 g is (nwd K B d) ρ ρ1) (h2 : BindL K B F0 gs js ds ρ1 ρ2) : BindL K B F0 (gCons g gs) (is ++ js) (d :: ds) ρ ρ2 := fun F H σ xs k p Q q => by
  cases p with
  | @cons v vs _ _ p1 p2 =>
    refine ⟨v, vs, rfl, h1 F H σ v k p1 _ fun σ1 k1 o1 => h2 F H σ1 vs k1 p2 _ fun σ2 k2 o2 => q σ2 k2 ⟨o2.1.trans o1.1, fun j hj => ?_⟩⟩
    rw [o2.2 j fun z => hj (List.mem_append.mpr (.inr z)), o1.2 j fun z => hj (List.mem_append.mpr (.inl z))]
theorem bind_tup {gs : TGs} {is : List Nat} {n : Nat} (h : BindL K B F0 gs is ds ρ ρ1) (hl : ds.length = n) : Bind B F0 (gTup K n gs) is (nwd K B (.tuple ds)) ρ ρ1 := fun F H σ x k p Q q => by
  cases p with
  | @tup a xs _ h1 h2 => exact ⟨a, xs, rfl, sqt_mono k.i h1, by rw [nwAll_len h2]; exact hl, h F H σ xs k h2 Q q⟩
variable {D : Ends} {N : St → Hp → Prop}
theorem at_asg {g : TG} {is : List Nat} (h : EvX B F0 ρ te ρ1 f) (b : Bind B F0 g is f ρ1 ρ2) (k : At B F0 D.nx ρ2) : At B F0 (tAsg te g D) ρ := fun F H σ c =>
  h F H σ c _ fun v F' H' c' p => b F' H' σ v c' p _ fun σ' c2 _ => k F' H' σ' c2
theorem at_set {i : Nat} (h : Ev B F0 ρ te (nwd K B d)) (k : At B F0 D.nx (ρ.set i (sn K B d))) : At B F0 (tAsg te (gName i) D) ρ := at_asg h.x (bind_name st_nwd) k
theorem at_setD {i : Nat} (h : Ev B F0 ρ te (dat K d)) (k : At B F0 D.nx (ρ.set i (sa K d))) : At B F0 (tAsg te (gName i) D) ρ := at_asg h.x (bind_name st_dat) k
theorem at_setF {i : Nat} (st : Stab f) (h : Ev B F0 ρ te f) (k : At B F0 D.nx (ρ.set i (.fz f))) : At B F0 (tAsg te (gName i) D) ρ := at_asg h.x (bind_name st) k
theorem at_setM {i : Nat} (h : EvM K B F0 ρ te ds) (k : At B F0 D.nx (ρ.set i (ml K B ds))) : At B F0 (tAsg te (gName i) D) ρ := fun F H σ c =>
  h F H σ c _ fun l xs F' H' g hf hn hl a => k F' H' _ (c.setN (as := [l]) st_ml g ⟨l, xs, rfl, rfl, hl, a⟩ fun b hb => by
    rw [List.mem_singleton.mp hb]
    exact ⟨hf, hn, _, hl, rfl⟩)
theorem at_setK {i : Nat} (k : At B F0 D.nx (ρ.set i (md K B []))) : At B F0 (tAsg tDNewK (gName i) D) ρ := fun F H σ c p hp =>
  k F _ _ (c.setN (as := [p]) (m := mdP K B []) st_md (Gr.new c.i hp) ⟨p, [], rfl, rfl, upd_same, .nil⟩ fun b hb => by
    rw [List.mem_singleton.mp hb]
    exact ⟨c.i.free hp, hp, _, upd_same, rfl⟩)
theorem at_drop (h : EvX B F0 ρ te ρ1 f) (k : At B F0 D.nx ρ1) : At B F0 (tDrop te D) ρ := fun F H σ c => h F H σ c _ fun v F' H' c' _ => k F' H' σ c'
theorem at_if {c : Bool} {ts us : TS} (h : EvT B F0 ρ t c) (h1 : c = true → At B F0 (ts D) ρ) (h2 : c = false → At B F0 (us D) ρ) : At B F0 (tIfS t ts us D) ρ := fun F H σ k => h F H σ k _ fun F' H' g => by
  cases c with
  | true => exact iteT (h1 rfl F' H' σ (k.go g))
  | false => exact iteF (h2 rfl F' H' σ (k.go g))
theorem at_seq {ts us : TS} (h : At B F0 (ts { D with nx := us D }) ρ) : At B F0 (tSeq ts us D) ρ := h
theorem at_nx (h : At B F0 D.nx ρ) : At B F0 (tNext D) ρ := h
theorem at_ret (h : Ev B F0 ρ te (nwd K B d)) (k : ∀ v H', Same B H' → Nw K B H' v d → D.rt v H') : At B F0 (tRet te D) ρ := fun F H σ c =>
  h F H σ c _ fun v F' H' g p => k v H' (c.go g).gr.h (nw_mono (Same.refl _) g.i p)
/-- an owned list is handed back -/
theorem at_retL {i : Nat} (h : ρ[i]? = some (ml K B ds)) (k : ∀ v H', Same B H' → Nw K B H' v (.list ds) → D.rt v H') : At B F0 (tRet (tVar i) D) ρ := fun F H σ c => by
  obtain ⟨w, o⟩ := c.own
  obtain ⟨_, v, h1, l, xs, rfl, h3, h4, h5⟩ := o.sl i _ h
  obtain ⟨_, hb, _⟩ := o.at_ i l (by rw [h3]; exact List.mem_singleton.mpr rfl)
  exact ⟨_, h1, k _ H c.gr.h (.lst hb h4 (nwAll_mono (Same.refl _) c.i h5))⟩
/-! ### loops -/
structure Wk (J : It) (q : PyData → Pd) (F1 : Hp) (ds : List PyData) : Prop where
  goes : ∀ i H, i < ds.length → Same F1 H → J.go i H
  stops : ∀ H, Same F1 H → J.stop ds.length H
  yields : ∀ i F H x H', i < ds.length → Same F1 F → Same F H → J.yld i H x H' → ∃ F' d, Gr F H F' H' ∧ ds[i]? = some d ∧ q d F' x
def EvI (B F0 : Hp) (ρ : List Sl) (wi : TI) (ρ' : List Sl) (q : PyData → Pd) (ds : List PyData) : Prop := ∀ F H σ, Cfg B F0 F H σ ρ → ∀ R : It → Hp → Prop, (∀ J F' H', Cfg B F0 F' H' σ ρ' → Gr F0 B F' H' → Wk J q F' ds → R J H') → wi σ H R
/-- .. where nothing is changed on the way -/
def EvJ (B F0 : Hp) (ρ : List Sl) (wi : TI) (q : PyData → Pd) (ds : List PyData) : Prop := ∀ F H σ, Cfg B F0 F H σ ρ → ∀ R : It → Hp → Prop, (∀ J F' H', Gr F H F' H' → Wk J q F' ds → R J H') → wi σ H R
theorem EvJ.i {wi : TI} {q : PyData → Pd} (h : EvJ B F0 ρ wi q ds) : EvI B F0 ρ wi ρ q ds := fun F H σ c R r => h F H σ c R fun J F' H' g w => r J F' H' (c.go g) (c.go g).gr w
theorem wk_list {a : Addr} {xs : List V} {F1 : Hp} (h : SqL K F1 a xs) (hd : DpAll K F1 xs ds) : Wk (Itl K a) (dat K) F1 ds where
  goes := fun i H hi s => ⟨xs, xs[i]'(by rw [dpAll_len hd]; exact hi), s.seq h, by simp [dpAll_len hd, hi]⟩
  stops := fun H s => ⟨xs, s.seq h, by rw [dpAll_len hd]; exact Nat.le_refl _⟩
  yields := fun i F H x H' hi s1 s2 y => by
    obtain ⟨rfl, y⟩ := y
    obtain ⟨d, h1, h2⟩ := dpAll_getV hd (y xs ((s1.trans s2).seq h))
    exact ⟨F, d, Gr.refl s2, h1, dp_mono s1 h2⟩
theorem wk_listN {a : Addr} {xs : List V} {F1 : Hp} (h : SqL K F1 a xs) (hd : NwAll K B F1 xs ds) : Wk (Itl K a) (nwd K B) F1 ds where
  goes := fun i H hi s => ⟨xs, xs[i]'(by rw [nwAll_len hd]; exact hi), s.seq h, by simp [nwAll_len hd, hi]⟩
  stops := fun H s => ⟨xs, s.seq h, by rw [nwAll_len hd]; exact Nat.le_refl _⟩
  yields := fun i F H x H' hi s1 s2 y => by
    obtain ⟨rfl, y⟩ := y
    obtain ⟨d, h1, h2⟩ := nwAll_getV hd (y xs ((s1.trans s2).seq h))
    exact ⟨F, d, Gr.refl s2, h1, nw_mono (Same.refl _) s1 h2⟩
theorem evi_listD (h : EvX B F0 ρ te ρ1 (dat K (.list ds))) : EvI B F0 ρ (iList K te) ρ1 (dat K) ds := fun F H σ c R r => h F H σ c _ fun v F' H' c' p => by
  cases p with
  | @lst a xs _ h1 h2 => exact ⟨a, rfl, ⟨xs, c'.i.seq h1⟩, r _ F' H' c' c'.gr (wk_list h1 h2)⟩
theorem evi_list (h : EvX B F0 ρ te ρ1 (nwd K B (.list ds))) : EvI B F0 ρ (iList K te) ρ1 (nwd K B) ds := fun F H σ c R r => h F H σ c _ fun v F' H' c' p => by
  cases p with
  | @lst a xs _ _ h1 h2 => exact ⟨a, rfl, ⟨xs, .inl (.inl (c'.i _ _ h1))⟩, r _ F' H' c' c'.gr (wk_listN (.inl (.inl h1)) h2)⟩
theorem evj_listD (h : Ev B F0 ρ te (dat K (.list ds))) : EvJ B F0 ρ (iList K te) (dat K) ds := fun F H σ c R r => h F H σ c _ fun v F' H' g p => by
  cases p with
  | @lst a xs _ h1 h2 => exact ⟨a, rfl, ⟨xs, g.i.seq h1⟩, r _ F' H' g (wk_list h1 h2)⟩
theorem evj_list (h : Ev B F0 ρ te (nwd K B (.list ds))) : EvJ B F0 ρ (iList K te) (nwd K B) ds := fun F H σ c R r => h F H σ c _ fun v F' H' g p => by
  cases p with
  | @lst a xs _ _ h1 h2 => exact ⟨a, rfl, ⟨xs, .inl (.inl (g.i _ _ h1))⟩, r _ F' H' g (wk_listN (.inl (.inl h1)) h2)⟩
/-- .. an argument's list without lists within -/
theorem evj_listF (h : Ev B F0 ρ te (dat K (.list ds))) (fl : flatDs ds = true) : EvJ B F0 ρ (iList K te) (nwd K B) ds := fun F H σ c R r => h F H σ c _ fun v F' H' g p => by
  cases p with
  | @lst a xs _ h1 h2 => exact ⟨a, rfl, ⟨xs, g.i.seq h1⟩, r _ F' H' g (wk_listN h1 (dpAll_nw h2 fl))⟩
def rangeD (lo : Int) (n : Nat) : List PyData := (List.range n).map fun i : Nat => .int (lo + (i : Int))
theorem rangeD_get {lo : Int} {n i : Nat} (h : i < n) : (rangeD lo n)[i]? = some (.int (lo + (i : Int))) := by
  unfold rangeD
  rw [List.getElem?_map, List.getElem?_range h]
  rfl
theorem wk_range {lo : Int} {n : Nat} {F1 : Hp} : Wk (Itr lo n) (nwd K B) F1 (rangeD lo n) where
  goes := fun i H hi s => by
    have h2 : i < n := by simpa [rangeD] using hi
    exact h2
  stops := fun H s => by simp [rangeD, Itr]
  yields := fun i F H x H' hi s1 s2 y => by
    obtain ⟨rfl, rfl⟩ := y
    exact ⟨F, _, Gr.refl s2, rangeD_get (by simpa [rangeD] using hi), .int _⟩
theorem evj_range1 {tr : TA} {n : Int} (h : EvA B F0 ρ tr [dat K (.int n)]) (h1 : -1000000 ≤ n ∧ n ≤ 1000000) : EvJ B F0 ρ (iRng1 tr) (nwd K B) (rangeD 0 n.toNat) := fun F H σ c R r => h F H σ c _ fun vs F' H' g p => by
  obtain ⟨v, t, rfl, p1, rfl⟩ := p
  cases p1
  exact ⟨n, rfl, by omega, by omega, r _ F' H' g wk_range⟩
theorem evj_range2 {tr : TA} {lo n : Int} (h : EvA B F0 ρ tr [dat K (.int lo), dat K (.int n)]) (h1 : -1000000 ≤ lo ∧ lo ≤ 1000000 ∧ -1000000 ≤ n ∧ n ≤ 1000000) : EvJ B F0 ρ (iRng2 tr) (nwd K B) (rangeD lo (n - lo).toNat) := fun F H σ c R r => h F H σ c _ fun vs F' H' g p => by
  obtain ⟨v, t, rfl, p1, v2, t2, rfl, p2, rfl⟩ := p
  cases p1; cases p2
  exact ⟨lo, n, rfl, ⟨by omega, by omega, by omega, by omega⟩, r _ F' H' g wk_range⟩
/-- enumerate(list): new pairs -/
def enumD (ds : List PyData) : List PyData := ds.zipIdx.map fun p => .tuple [.int (p.2 : Int), p.1]
theorem enumD_get {i : Nat} {d : PyData} (h : ds[i]? = some d) : (enumD ds)[i]? = some (.tuple [.int (i : Int), d]) := by
  unfold enumD
  rw [List.getElem?_map, List.getElem?_zipIdx, h]
  simp
theorem enumD_len : (enumD ds).length = ds.length := by simp [enumD]
theorem wk_enum {a : Addr} {xs : List V} {F1 : Hp} (h : SqL K F1 a xs) (hd : NwAll K B F1 xs ds) : Wk (Ite K a) (nwd K B) F1 (enumD ds) where
  goes := fun i H hi s => by
    rw [enumD_len] at hi
    exact ⟨xs, xs[i]'(by rw [nwAll_len hd]; exact hi), s.seq h, by simp [nwAll_len hd, hi]⟩
  stops := fun H s => ⟨xs, s.seq h, by rw [nwAll_len hd, enumD_len]; exact Nat.le_refl _⟩
  yields := fun i F H x H' hi s1 s2 y => by
    obtain ⟨T, z, rfl, h1, rfl, y⟩ := y
    obtain ⟨d, h3, h4⟩ := nwAll_getV hd (y xs ((s1.trans s2).seq h))
    obtain ⟨F2, g2, s, e⟩ := (Gr.new (o := .tup [.int (i : Nat), z]) s2 h1).putT rfl upd_same
    exact ⟨F2, _, g2, enumD_get h3, .tup (.inl (.inl e)) (.cons (.int _) (.cons (nw_mono (Same.refl _) (s1.trans s) h4) .nil))⟩
theorem evj_enum {tr : TA} (h : ∀ F H σ, Cfg B F0 F H σ ρ → ∀ Q : List V → Hp → Prop, (∀ v F' H', Gr F H F' H' → Nw K B F' v (.list ds) → Q [v] H') → tr σ H Q) : EvJ B F0 ρ (iEnum K tr) (nwd K B) (enumD ds) := fun F H σ c R r => h F H σ c _ fun v F' H' g p => by
  cases p with
  | @lst a xs _ _ h1 h2 => exact ⟨a, xs, rfl, .inl (.inl (g.i _ _ h1)), r _ F' H' g (wk_enum (.inl (.inl h1)) h2)⟩
theorem evj_enumF {tr : TA} (h : ∀ F H σ, Cfg B F0 F H σ ρ → ∀ Q : List V → Hp → Prop, (∀ v F' H', Gr F H F' H' → Dp K F' v (.list ds) → Q [v] H') → tr σ H Q) (fl : flatDs ds = true) : EvJ B F0 ρ (iEnum K tr) (nwd K B) (enumD ds) := fun F H σ c R r => h F H σ c _ fun v F' H' g p => by
  cases p with
  | @lst a xs _ h1 h2 => exact ⟨a, xs, rfl, g.i.seq h1, r _ F' H' g (wk_enum h1 (dpAll_nw h2 fl))⟩
theorem ea_one (h : Ev B F0 ρ te f) : ∀ F H σ, Cfg B F0 F H σ ρ → ∀ Q : List V → Hp → Prop, (∀ v F' H', Gr F H F' H' → f F' v → Q [v] H') → (tCons te tNil) σ H Q := fun F H σ c Q q => h F H σ c _ fun v F' H' g p => q v F' H' g p
/-! the rules for loops -/
def Lp (B F1 : Hp) {α : Type} (Inv : List α → List Sl → Prop) (pre : List α) (σ : St) (H : Hp) : Prop := ∃ F ρ', Cfg B F1 F H σ ρ' ∧ Inv pre ρ'
theorem at_lp {α : Type} {Inv : List α → List Sl → Prop} {pre : List α} (h : Inv pre ρ) : At B F0 (Lp B F0 Inv pre) ρ := fun F H σ c => ⟨F, ρ, c, h⟩
theorem Cfg.up {F1 F H : Hp} {σ : St} (g : Gr F0 B F1 H) (c : Cfg B F1 F H σ ρ) : Cfg B F0 F H σ ρ := ⟨⟨g.f.trans c.gr.f, c.gr.h, c.gr.i, fun a o h t e => c.gr.n a o h t (g.n a o h t e)⟩, c.len, c.own⟩
theorem at_for {α : Type} {xs : List α} {e : α → PyData} {q : PyData → Pd} {wi : TI} {g : TG} {tb : TS} (hw : EvI B F0 ρ wi ρ1 q (xs.map e)) (Inv : List α → List Sl → Prop) (h0 : Inv [] ρ1)
    (hs : ∀ F1 pre x post ρ', xs = pre ++ x :: post → Inv pre ρ' → ∃ is ρ2, Bind B F1 g is (q (e x)) ρ' ρ2 ∧ At B F1 (tb { D with nx := Lp B F1 Inv (pre ++ [x]), ct := Lp B F1 Inv (pre ++ [x]), bk := D.nx }) ρ2)
    (hd : ∀ ρ', Inv xs ρ' → At B F0 D.nx ρ') : At B F0 (tFor wi g tb D) ρ := fun F H σ c => by
  refine hw F H σ c _ fun J F1 H1 c1 g1 w => ?_
  have up0 : ∀ a o, B a = some o → isTup o = false → F0 a = none → F1 a = none := c1.gr.n
  have upc : ∀ {F H : Hp} {σ : St} {ρ : List Sl}, Cfg B F1 F H σ ρ → Cfg B F0 F H σ ρ := fun {F H σ ρ} c =>
    ⟨⟨c1.gr.f.trans c.gr.f, c.gr.h, c.gr.i, fun a o h t e => c.gr.n a o h t (up0 a o h t e)⟩, c.len, c.own⟩
  refine ⟨fun i m σ H => m = xs.length - i ∧ i ≤ xs.length ∧ Lp B F1 Inv (xs.take i) σ H, ⟨xs.length, by simp, Nat.zero_le _, F1, ρ1, ?_, by simpa using h0⟩, ?_⟩
  · exact ⟨⟨Same.refl _, c1.gr.h, c1.gr.i, fun a o h t e => e⟩, c1.len, c1.own⟩
  · rintro i m σ' H' ⟨rfl, hi, F', ρ', c', inv⟩
    have sF : Same F1 H' := c'.gr.f.trans c'.gr.i
    by_cases hlt : i < xs.length
    · have hl : i < (xs.map e).length := by simpa using hlt
      refine .inr ⟨w.goes i H' hl sF, Lp B F1 Inv (xs.take (i + 1)), fun σ2 H2 l2 => ⟨xs.length - (i + 1), by omega, rfl, hlt, l2⟩, fun x H2 y => ?_⟩
      obtain ⟨F2, d, g2, hd2, p2⟩ := w.yields i F' H' x H2 hl c'.gr.f c'.i y
      have ex : xs = xs.take i ++ xs[i] :: xs.drop (i + 1) := by
        rw [List.getElem_cons_drop, List.take_append_drop]
      have ed : d = e xs[i] := by
        rw [List.getElem?_map, List.getElem?_eq_getElem hlt] at hd2
        exact (Option.some.inj hd2).symm
      subst ed
      obtain ⟨is, ρ2, b2, k2⟩ := hs F1 (xs.take i) xs[i] (xs.drop (i + 1)) ρ' ex inv
      have et : xs.take (i + 1) = xs.take i ++ [xs[i]] := by
        rw [List.take_succ, List.getElem?_eq_getElem hlt]; rfl
      rw [et]
      exact b2 F2 H2 σ' x (c'.go g2) p2 _ fun σ3 c3 _ => k2 F2 H2 σ3 c3
    · have ei : i = xs.length := by omega
      subst ei
      rw [List.take_length] at inv
      exact .inl ⟨by have := w.stops H' sF; simpa using this, hd ρ' inv F' H' σ' (upc c')⟩
def Lw (B F0 : Hp) (Inv : Nat → List Sl → Prop) (m : Nat) (σ : St) (H : Hp) : Prop := ∃ m', m' < m ∧ ∃ F ρ', Cfg B F0 F H σ ρ' ∧ Inv m' ρ'
theorem at_lw {Inv : Nat → List Sl → Prop} {m m' : Nat} (h : Inv m' ρ) (hm : m' < m) : At B F0 (Lw B F0 Inv m) ρ := fun F H σ c => ⟨m', hm, F, ρ, c, h⟩
theorem at_while {tb : TS} (Inv : Nat → List Sl → Prop) (m0 : Nat) (h0 : Inv m0 ρ)
    (hs : ∀ m ρ', Inv m ρ' → ∃ c, EvT B F0 ρ' t c ∧ (c = true → At B F0 (tb { D with nx := Lw B F0 Inv m, ct := Lw B F0 Inv m, bk := D.nx }) ρ') ∧ (c = false → At B F0 D.nx ρ')) : At B F0 (tWhile t tb D) ρ := fun F H σ c => by
  refine ⟨fun m σ H => ∃ F ρ', Cfg B F0 F H σ ρ' ∧ Inv m ρ', ⟨m0, F, ρ, c, h0⟩, ?_⟩
  rintro m σ' H' ⟨F', ρ', c', inv⟩
  obtain ⟨k, e1, e2, e3⟩ := hs m ρ' inv
  refine e1 F' H' σ' c' _ fun F2 H2 g2 => ?_
  cases k with
  | true => exact iteT ⟨Lw B F0 Inv m, fun σ3 H3 l => l, e2 rfl F2 H2 σ' (c'.go g2)⟩
  | false => exact iteF (e3 rfl F2 H2 σ' (c'.go g2))
end
end Lay
namespace Lay
open PySem L2

/-! ### comprehensions -/
def wipeR (ρ : List Sl) : List Nat → List Sl
  | [] => ρ
  | v :: vs => (wipeR ρ vs).set v .no
theorem wipe_get (σ : St) (i : Nat) : ∀ vs : List Nat, (wipe σ vs)[i]? = if i ∈ vs then (if i < σ.length then some none else none) else σ[i]?
  | [] => by simp [wipe]
  | v :: vs => by
    have ih := wipe_get σ i vs
    show ((wipe σ vs).set v none)[i]? = _
    by_cases h : v = i
    · subst h
      by_cases hl : v < σ.length
      · rw [List.getElem?_set_self (by rw [wipe_length]; exact hl)]
        simp [hl]
      · rw [List.getElem?_eq_none (by rw [List.length_set, wipe_length]; omega)]
        simp [hl]
    · rw [List.getElem?_set_ne h, ih]
      have h' : ¬ i = v := fun z => h z.symm
      simp [h']
theorem wipeR_len (ρ : List Sl) : ∀ vs : List Nat, (wipeR ρ vs).length = ρ.length
  | [] => rfl
  | v :: vs => by
    show ((wipeR ρ vs).set v .no).length = _
    rw [List.length_set, wipeR_len]
theorem wipeR_get (ρ : List Sl) (i : Nat) (s : Sl) : ∀ vs : List Nat, (wipeR ρ vs)[i]? = some s → s = Sl.no ∨ (i ∉ vs ∧ ρ[i]? = some s)
  | [], h => .inr ⟨by simp, h⟩
  | v :: vs, h => by
    have h : ((wipeR ρ vs).set v .no)[i]? = some s := h
    by_cases e : v = i
    · subst e
      by_cases hl : v < (wipeR ρ vs).length
      · rw [List.getElem?_set_self hl] at h
        exact .inl (Option.some.inj h).symm
      · rw [List.getElem?_eq_none (by rw [List.length_set]; omega)] at h
        cases h
    · rw [List.getElem?_set_ne e] at h
      rcases wipeR_get ρ i s vs h with z | ⟨z1, z2⟩
      · exact .inl z
      · exact .inr ⟨by simp only [List.mem_cons, not_or]; exact ⟨fun q => e q.symm, z1⟩, z2⟩
theorem Cfg.wipe {B F0 F H : Hp} {σ : St} {ρ : List Sl} (c : Cfg B F0 F H σ ρ) (vs : List Nat) : Cfg B F0 F H (wipe σ vs) (wipeR ρ vs) :=
  c.less (by rw [wipe_length, wipeR_len, c.len]) fun i s h => by
    rcases wipeR_get ρ i s vs h with z | ⟨z1, z2⟩
    · exact .inl z
    · exact .inr ⟨z2, by rw [wipe_get, if_neg z1]⟩
theorem wipe_only {σ σ' : St} {is vs : List Nat} (o : Only is (wipe σ vs) σ') (h : ∀ j ∈ is, j ∈ vs) : wipe σ' vs = wipe σ vs := by
  apply List.ext_getElem?
  intro i
  have l : σ'.length = σ.length := by rw [o.1, wipe_length]
  rw [wipe_get, wipe_get, l]
  by_cases hi : i ∈ vs
  · rw [if_pos hi, if_pos hi]
  · rw [if_neg hi, if_neg hi, o.2 i fun z => hi (h i z), wipe_get, if_neg hi]

section
variable {K : PySem.W.Frag} {B F0 : Hp} {ρ ρ1 ρ2 : List Sl} {te ta tb tc : TE} {t u : TT} {f g : Pd} {d e : PyData} {ds es : List PyData}
theorem evm_lc {α : Type} {xs : List α} {e : α → PyData} {q : PyData → Pd} {wi : TI} {g : TG} {tt : TT} {vs : List Nat} (p : α → Bool) (f : α → PyData) (hw : EvJ B F0 ρ wi q (xs.map e))
    (hb : ∀ F1 x, x ∈ xs → ∃ is ρ2, Bind B F1 g is (q (e x)) (wipeR ρ vs) ρ2 ∧ (∀ j ∈ is, j ∈ vs) ∧ EvT B F1 ρ2 tt (p x) ∧ (p x = true → Ev B F1 ρ2 te (nwd K B (f x)))) (hz : xs.length ≤ 100000) :
    EvM K B F0 ρ (tLc wi g tt te vs) ((xs.filter p).map f) := fun F H σ c Q k => by
  refine hw F H σ c _ fun J F1 H1 g1 w D hD => ?_
  have c1 := c.go g1
  -- at turn i: what stands still is F', the new list at D holds what is made so far
  refine ⟨fun i m H' => m = xs.length - i ∧ i ≤ xs.length ∧ ∃ F' acc, Gr F1 H1 F' H' ∧ F' D = none ∧ H' D = some (.lst acc) ∧ NwAll K B F' acc (((xs.take i).filter p).map f),
    ⟨xs.length, by simp, Nat.zero_le _, F1, [], Gr.new g1.i hD, g1.i.free hD, upd_same, by simpa using NwAll.nil⟩, ?_⟩
  rintro i m H' ⟨rfl, hi, F', acc, g', fD, hD', na⟩
  have sF : Same F1 H' := g'.f.trans g'.i
  by_cases hlt : i < xs.length
  · have hl : i < (xs.map e).length := by simpa using hlt
    have et : xs.take (i + 1) = xs.take i ++ [xs[i]] := by
      rw [List.take_succ, List.getElem?_eq_getElem hlt]; rfl
    refine .inr ⟨w.goes i H' hl sF, fun H2 => ∃ F' acc, Gr F1 H1 F' H2 ∧ F' D = none ∧ H2 D = some (.lst acc) ∧ NwAll K B F' acc (((xs.take (i + 1)).filter p).map f), fun H2 l2 => ⟨xs.length - (i + 1), by omega, rfl, hlt, l2⟩, fun x H2 y => ?_⟩
    obtain ⟨F2, d, g2, hd2, p2⟩ := w.yields i F' H' x H2 hl g'.f g'.i y
    have ed : d = e xs[i] := by
      rw [List.getElem?_map, List.getElem?_eq_getElem hlt] at hd2
      exact (Option.some.inj hd2).symm
    subst ed
    obtain ⟨is, ρ2, b2, hj, t2, e2⟩ := hb F1 xs[i] (List.getElem_mem hlt)
    have cw : Cfg B F1 F2 H2 (wipe σ vs) (wipeR ρ vs) := by
      have c2 := (c.go (g1.trans (g'.trans g2))).wipe vs
      exact ⟨⟨g'.f.trans g2.f, c2.gr.h, c2.gr.i, fun a o h t z => (g'.trans g2).n a o (c1.gr.h a o h) t z⟩, c2.len, c2.own⟩
    refine b2 F2 H2 (wipe σ vs) x cw p2 _ fun σ3 c3 o3 => ⟨wipe_only o3 hj, t2 F2 H2 σ3 c3 _ fun F3 H3 g3 => ?_⟩
    have hD3 : H3 D = some (.lst acc) := g3.h _ _ (g2.h _ _ hD')
    have fD3 : F3 D = none := g3.n D _ (g2.h _ _ hD') rfl (g2.n D _ hD' rfl fD)
    have gg : Gr F1 H1 F3 H3 := g'.trans (g2.trans g3)
    cases hp : p xs[i] with
    | false =>
      refine iteF ⟨F3, acc, gg, fD3, hD3, ?_⟩
      rw [et, List.filter_append, List.map_append]
      have : ([xs[i]].filter p).map f = [] := by simp [hp]
      rw [this, List.append_nil]
      exact nwAll_mono (Same.refl _) (g2.f.trans g3.f) na
    | true =>
      refine iteT (e2 hp F3 H3 σ3 (c3.go g3) _ fun v F4 H4 g4 p4 => ⟨acc, g4.h _ _ hD3, ?_, F4, acc ++ [v], ?_, g4.n D _ hD3 rfl fD3, upd_same, ?_⟩)
      · refine sz_lt ?_
        rw [nwAll_len na, List.length_map]
        have h1 : ((xs.take i).filter p).length ≤ (xs.take i).length := List.length_filter_le _ _
        rw [List.length_take] at h1
        omega
      · have g5 : Gr F1 H1 F4 H4 := gg.trans g4
        refine ⟨g5.f, fun a o h => ?_, fun a o h => ?_, g5.n⟩
        · rw [upd_ne (ne_of_none h hD)]; exact g5.h a o h
        · have : a ≠ D := ne_of_none h (g4.n D _ hD3 rfl fD3)
          rw [upd_ne this]; exact g5.i a o h
      · rw [et, List.filter_append, List.map_append]
        have : ([xs[i]].filter p).map f = [f xs[i]] := by simp [hp]
        rw [this]
        exact nwAll_app (nwAll_mono (Same.refl _) ((g2.f.trans g3.f).trans g4.f) na) (.cons p4 .nil)
  · have ei : i = xs.length := by omega
    subst ei
    rw [List.take_length] at na
    refine .inl ⟨by have := w.stops H' sF; simpa using this, k D acc F' H' (g1.trans g') fD (g1.fresh hD) hD' na⟩
/-- without a test -/
theorem evm_lc1 {α : Type} {xs : List α} {e : α → PyData} {q : PyData → Pd} {wi : TI} {g : TG} {vs : List Nat} (f : α → PyData) (hw : EvJ B F0 ρ wi q (xs.map e))
    (hb : ∀ F1 x, x ∈ xs → ∃ is ρ2, Bind B F1 g is (q (e x)) (wipeR ρ vs) ρ2 ∧ (∀ j ∈ is, j ∈ vs) ∧ Ev B F1 ρ2 te (nwd K B (f x))) (hz : xs.length ≤ 100000) :
    EvM K B F0 ρ (tLc wi g tYes te vs) (xs.map f) := by
  have h := evm_lc (K := K) (B := B) (F0 := F0) (ρ := ρ) (te := te) (wi := wi) (g := g) (tt := tYes) (vs := vs) (fun _ : α => true) f hw (fun F1 x hx => by
    obtain ⟨is, ρ2, h1, h2, h3⟩ := hb F1 x hx
    exact ⟨is, ρ2, h1, h2, fun F H σ c Q q => q F H (Gr.refl c.i), fun _ => h3⟩) hz
  have e2 : xs.filter (fun _ => true) = xs := List.filter_eq_self.mpr fun _ _ => rfl
  rw [e2] at h
  exact h

/-! ### owned lists and dicts changed -/
theorem evx_append {i : Nat} (hi : ρ[i]? = some (ml K B ds)) (h : Ev B F0 ρ te (nwd K B d)) (hz : ds.length < 100000) :
    EvX B F0 ρ (tBM K "list" rAppend (tVar i) (tCons te tNil)) (ρ.set i (ml K B (ds ++ [d]))) (nwd K B .none) := fun F H σ c Q q => by
  obtain ⟨w, o⟩ := c.own
  obtain ⟨_, v, h1, l, xs, rfl, h3, h4, h5⟩ := o.sl i _ hi
  refine ⟨_, h1, .inl ⟨rfl, _, SqL.of h4⟩, h F H σ c _ fun y F2 H2 g p => ⟨l, xs, y, rfl, rfl, g.h _ _ h4, sz_lt (by rw [nwAll_len h5]; exact hz), ?_⟩⟩
  refine q _ F2 _ ((c.go g).chg hi st_ml fun v' as e m n => ?_) .non
  obtain ⟨l', xs', rfl, rfl, e4, e5⟩ := m
  rw [h1] at e
  cases e
  rw [g.h _ _ h4] at e4
  cases e4
  refine ⟨⟨l, xs ++ [y], rfl, rfl, upd_same, nwAll_app e5 (.cons p .nil)⟩, fun a ha => upd_ne fun z => ha (by rw [z]; exact List.mem_singleton.mpr rfl), fun a ha => ?_⟩
  rw [List.mem_singleton.mp ha]
  exact ⟨_, upd_same, rfl⟩
theorem evx_extend {i : Nat} (hi : ρ[i]? = some (ml K B ds)) (h : Ev B F0 ρ te (nwd K B (.list es))) (hz : ds.length + es.length ≤ 100000) :
    EvX B F0 ρ (tBM K "list" rExtend (tVar i) (tCons te tNil)) (ρ.set i (ml K B (ds ++ es))) (nwd K B .none) := fun F H σ c Q q => by
  obtain ⟨w, o⟩ := c.own
  obtain ⟨_, v, h1, l, xs, rfl, h3, h4, h5⟩ := o.sl i _ hi
  refine ⟨_, h1, .inl ⟨rfl, _, SqL.of h4⟩, h F H σ c _ fun y F2 H2 g p => ?_⟩
  cases p with
  | @lst b zs _ _ p1 p2 =>
    refine ⟨l, b, xs, zs, rfl, rfl, g.h _ _ h4, g.i _ _ p1, sz_of (by rw [nwAll_len h5, nwAll_len p2]; exact hz), ?_⟩
    refine q _ F2 _ ((c.go g).chg hi st_ml fun v' as e m n => ?_) .non
    obtain ⟨l', xs', rfl, rfl, e4, e5⟩ := m
    rw [h1] at e
    cases e
    rw [g.h _ _ h4] at e4
    cases e4
    refine ⟨⟨l, xs ++ zs, rfl, rfl, upd_same, nwAll_app e5 p2⟩, fun a ha => upd_ne fun z => ha (by rw [z]; exact List.mem_singleton.mpr rfl), fun a ha => ?_⟩
    rw [List.mem_singleton.mp ha]
    exact ⟨_, upd_same, rfl⟩
theorem nwAll_dropLast {F : Hp} : ∀ {xs : List V} {ds : List PyData}, NwAll K B F xs ds → NwAll K B F xs.dropLast ds.dropLast := fun {xs ds} h => by
  rw [List.dropLast_eq_take, List.dropLast_eq_take, nwAll_len h]
  exact nwAll_take _ h
theorem evx_pop {i : Nat} (hi : ρ[i]? = some (ml K B ds)) (hd : ds[ds.length - 1]? = some d) :
    EvX B F0 ρ (tBM0 K "list" rPop (tVar i)) (ρ.set i (ml K B ds.dropLast)) (nwd K B d) := fun F H σ c Q q => by
  obtain ⟨w, o⟩ := c.own
  obtain ⟨_, v, h1, l, xs, rfl, h3, h4, h5⟩ := o.sl i _ hi
  obtain ⟨y, e1, e2⟩ := nwAll_get h5 hd
  refine ⟨_, h1, .inl ⟨rfl, _, SqL.of h4⟩, l, xs, y, rfl, rfl, h4, by rw [nwAll_len h5]; exact e1, ?_⟩
  refine q y F _ (c.chg hi st_ml fun v' as e m n => ?_) e2
  obtain ⟨l', xs', rfl, rfl, e4, e5⟩ := m
  rw [h1] at e
  cases e
  rw [h4] at e4
  cases e4
  refine ⟨⟨l, xs.dropLast, rfl, rfl, upd_same, nwAll_dropLast e5⟩, fun a ha => upd_ne fun z => ha (by rw [z]; exact List.mem_singleton.mpr rfl), fun a ha => ?_⟩
  rw [List.mem_singleton.mp ha]
  exact ⟨_, upd_same, rfl⟩
theorem evx_clear {i : Nat} (hi : ρ[i]? = some (ml K B ds)) :
    EvX B F0 ρ (tBM0 K "list" rClear (tVar i)) (ρ.set i (ml K B [])) (nwd K B .none) := fun F H σ c Q q => by
  obtain ⟨w, o⟩ := c.own
  obtain ⟨_, v, h1, l, xs, rfl, h3, h4, h5⟩ := o.sl i _ hi
  refine ⟨_, h1, .inl ⟨rfl, _, SqL.of h4⟩, l, xs, rfl, rfl, h4, ?_⟩
  refine q _ F _ (c.chg hi st_ml fun v' as e m n => ?_) .non
  obtain ⟨l', xs', rfl, rfl, e4, e5⟩ := m
  rw [h1] at e
  cases e
  refine ⟨⟨l, [], rfl, rfl, upd_same, .nil⟩, fun a ha => upd_ne fun z => ha (by rw [z]; exact List.mem_singleton.mpr rfl), fun a ha => ?_⟩
  rw [List.mem_singleton.mp ha]
  exact ⟨_, upd_same, rfl⟩
/-- xs[pop()] : the index's own change comes first to none of the parts -/
theorem evx_ixL {i : Int} (ha : Ev B F0 ρ ta (dat K (.list ds))) (hb : EvX B F0 ρ tb ρ1 (nwd K B (.int i))) (e : atI ds i = some d)
    (hk : ∀ F H σ, Cfg B F0 F H σ ρ → ∀ Q : VK, (∀ v F' H', Cfg B F0 F' H' σ ρ1 → Same F F' → Nw K B F' v (.int i) → Q v H') → tb σ H Q) : EvX B F0 ρ (tOp (rIxL K) ta tb) ρ1 (dat K d) := fun F H σ c Q q =>
  ha F H σ c _ fun x F1 H1 g1 p1 => hk F1 H1 σ (c.go g1) _ fun y F2 H2 c2 s2 p2 => by
    cases p2
    cases p1 with
    | lst h1 h2 =>
      obtain ⟨v, h3, h4⟩ := dpAll_atI h2 e
      exact ⟨_, _, i, v, rfl, rfl, c2.i.seq (s2.seq h1), h3, q v F2 H2 c2 (dp_mono s2 h4)⟩
/-! dicts -/
def lookI (kvs : List (Int × PyData)) (k : Int) : Option PyData := (kvs.find? fun p => p.1 == k).map (·.2)
def putI (kvs : List (Int × PyData)) (k : Int) (d : PyData) : List (Int × PyData) := if (kvs.any fun p => p.1 == k) = true then kvs.map (fun p => if p.1 = k then (p.1, d) else p) else kvs ++ [(k, d)]
theorem kv_len {F : Hp} : ∀ {kv : List (Key × V)} {kvs : List (Int × PyData)}, KvAll K B F kv kvs → kv.length = kvs.length
  | _, _, .nil => rfl
  | _, _, .cons _ a => congrArg (· + 1) (kv_len a)
theorem inl_dec (a k : Int) : decide ((Sum.inl a : Key) = Sum.inl k) = (a == k) := by
  by_cases e : a = k
  · subst e; simp
  · have h : ¬ (Sum.inl a : Key) = Sum.inl k := fun q => e (Sum.inl.inj q)
    rw [decide_eq_false h]
    exact (beq_eq_false_iff_ne.mpr e).symm
theorem kv_look {F : Hp} {k : Int} : ∀ {kv : List (Key × V)} {kvs : List (Int × PyData)}, KvAll K B F kv kvs → (lookI kvs k = none ∧ valV kv (Sum.inl k : Key) = none) ∨ ∃ v d, lookI kvs k = some d ∧ valV kv (Sum.inl k : Key) = some v ∧ Nw K B F v d
  | _, _, .nil => .inl ⟨rfl, rfl⟩
  | _, _, .cons (k := k0) (v := v) (d := d) (kv := kv) (kvs := kvs) h a => by
    by_cases e : k0 = k
    · subst e
      exact .inr ⟨v, d, by simp [lookI], valV_pos rfl, h⟩
    · have e1 : lookI ((k0, d) :: kvs) k = lookI kvs k := by
        have : ((k0, d).1 == k) = false := beq_eq_false_iff_ne.mpr e
        unfold lookI
        rw [List.find?_cons, this]
      have e2 : valV ((Sum.inl k0, v) :: kv) (Sum.inl k : Key) = valV kv (Sum.inl k : Key) := valV_neg fun q => e (Sum.inl.inj q)
      rw [e1, e2]
      exact kv_look a
theorem kv_any {F : Hp} {k : Int} : ∀ {kv : List (Key × V)} {kvs : List (Int × PyData)}, KvAll K B F kv kvs → (kv.any fun p => decide (p.1 = (Sum.inl k : Key))) = (kvs.any fun p => p.1 == k)
  | _, _, .nil => rfl
  | _, _, .cons (k := k0) h a => by
    rw [List.any_cons, List.any_cons, kv_any a, inl_dec]
theorem kv_map {F : Hp} {k : Int} {v : V} (h : Nw K B F v d) : ∀ {kv : List (Key × V)} {kvs : List (Int × PyData)}, KvAll K B F kv kvs → KvAll K B F (kv.map fun p => if p.1 = (Sum.inl k : Key) then (p.1, v) else p) (kvs.map fun p => if p.1 = k then (p.1, d) else p)
  | _, _, .nil => .nil
  | _, _, .cons (k := k0) h0 a => by
    rw [List.map_cons, List.map_cons]
    by_cases e : k0 = k
    · rw [if_pos (by rw [e]), if_pos e]
      exact .cons h (kv_map h a)
    · rw [if_neg (fun q => e (Sum.inl.inj q)), if_neg e]
      exact .cons h0 (kv_map h a)
theorem kv_app {F : Hp} : ∀ {kv kv' : List (Key × V)} {kvs kvs' : List (Int × PyData)}, KvAll K B F kv kvs → KvAll K B F kv' kvs' → KvAll K B F (kv ++ kv') (kvs ++ kvs')
  | _, _, _, _, .nil, b => b
  | _, _, _, _, .cons h a, b => .cons h (kv_app a b)
theorem kv_put {F : Hp} {k : Int} {v : V} {kv : List (Key × V)} {kvs : List (Int × PyData)} (h : Nw K B F v d) (a : KvAll K B F kv kvs) : KvAll K B F (putK kv (Sum.inl k : Key) v) (putI kvs k d) := by
  unfold putK putI
  rw [kv_any a]
  by_cases e : (kvs.any fun p => p.1 == k) = true
  · rw [if_pos e, if_pos e]; exact kv_map h a
  · rw [if_neg e, if_neg e]; exact kv_app a (.cons h .nil)
theorem kv_keys {F : Hp} : ∀ {kv : List (Key × V)} {kvs : List (Int × PyData)}, KvAll K B F kv kvs → kv.map (·.1) = (kvs.map (·.1)).map Sum.inl
  | _, _, .nil => rfl
  | _, _, .cons _ a => by
    rw [List.map_cons, List.map_cons, List.map_cons, kv_keys a]
theorem ev_din {k : Int} {kvs : List (Int × PyData)} (ha : EvH B F0 ρ ta (dat K (.int k))) (hb : EvH B F0 ρ tb (isDict K kvs)) : Ev B F0 ρ (tDIn ta tb) (nwd K B (.bool (lookI kvs k).isSome)) := fun F H σ c Q q =>
  ha F H σ c _ fun x F1 H1 g1 p1 => hb F1 H1 σ (c.go g1) _ fun y F2 H2 g2 ⟨l, kv, e, r, B', a⟩ => by
    cases p1
    refine ⟨l, valV kv (Sum.inl k : Key), e, .inl ⟨kv, Sum.inl k, r, rfl, rfl⟩, q _ F2 H2 (g1.trans g2) ?_⟩
    rcases kv_look (k := k) a with ⟨h1, h2⟩ | ⟨v, d, h1, h2, _⟩
    · rw [h1, h2]; exact .bl _
    · rw [h1, h2]; exact .bl _
theorem ev_dnotin {k : Int} {kvs : List (Int × PyData)} (ha : EvH B F0 ρ ta (dat K (.int k))) (hb : EvH B F0 ρ tb (isDict K kvs)) : Ev B F0 ρ (tDNotIn ta tb) (nwd K B (.bool (!(lookI kvs k).isSome))) := fun F H σ c Q q =>
  ha F H σ c _ fun x F1 H1 g1 p1 => hb F1 H1 σ (c.go g1) _ fun y F2 H2 g2 ⟨l, kv, e, r, B', a⟩ => by
    cases p1
    refine ⟨l, valV kv (Sum.inl k : Key), e, .inl ⟨kv, Sum.inl k, r, rfl, rfl⟩, q _ F2 H2 (g1.trans g2) ?_⟩
    rcases kv_look (k := k) a with ⟨h1, h2⟩ | ⟨v, d, h1, h2, _⟩
    · rw [h1, h2]; exact .bl _
    · rw [h1, h2]; exact .bl _
/-- d[k], what is held holds no lists -/
theorem evh_dget {k : Int} {kvs : List (Int × PyData)} (ha : EvH B F0 ρ ta (isDict K kvs)) (hb : EvH B F0 ρ tb (dat K (.int k))) (hk : lookI kvs k = some d) : EvH B F0 ρ (tDGet ta tb) (dat K d) := fun F H σ c Q q =>
  ha F H σ c _ fun y F1 H1 g1 ⟨l, kv, e, r, B', a⟩ => hb F1 H1 σ (c.go g1) _ fun x F2 H2 g2 p2 => by
    cases p2
    rcases kv_look (k := k) a with ⟨h1, _⟩ | ⟨v, d', h1, h2, h3⟩
    · rw [hk] at h1; cases h1
    · rw [hk] at h1; cases h1
      exact ⟨l, v, e, .inl ⟨kv, Sum.inl k, rd_mono g2.h r, rfl, h2.symm⟩, q v F2 H2 (g1.trans g2) (dp_mono g2.h (nw_dp h3))⟩
variable {D : Ends}
theorem at_dput {i : Nat} {k : Int} {kvs : List (Int × PyData)} (hi : ρ[i]? = some (md K B kvs)) (hv : Ev B F0 ρ te (nwd K B d)) (hk : EvH B F0 ρ tb (dat K (.int k))) (hz : kvs.length < 100000)
    (n : At B F0 D.nx (ρ.set i (md K B (putI kvs k d)))) : At B F0 (sDPut (tVar i) tb te D) ρ := fun F H σ c => by
  refine hv F H σ c _ fun v F1 H1 g1 p1 => ?_
  have c1 := c.go g1
  obtain ⟨w, o⟩ := c1.own
  obtain ⟨_, v', h1, l, kv, rfl, h3, h4, h5⟩ := o.sl i _ hi
  refine ⟨_, h1, hk F1 H1 σ c1 _ fun x F2 H2 g2 p2 => ?_⟩
  cases p2
  refine ⟨l, _, rfl, .inl ⟨kv, Sum.inl k, g2.h _ _ h4, rfl, sz_lt (by rw [kv_len h5]; exact hz), rfl⟩, n F2 _ σ ((c1.go g2).chg hi st_md fun v' as e m n => ?_)⟩
  obtain ⟨l', kv', rfl, rfl, e4, e5⟩ := m
  rw [h1] at e
  cases e
  rw [g2.h _ _ h4] at e4
  cases e4
  refine ⟨⟨l, _, rfl, rfl, upd_same, kv_put (nw_mono (Same.refl _) g2.f p1) e5⟩, fun a ha => upd_ne fun z => ha (by rw [z]; exact List.mem_singleton.mpr rfl), fun a ha => ?_⟩
  rw [List.mem_singleton.mp ha]
  exact ⟨_, upd_same, rfl⟩
end
end Lay
namespace Lay
open PySem L2 PySem.Spec PyProof.Rows

/-! ### a def of the text, its promise -/
structure Dfn (K : PySem.W.Frag) (mg : Str → Option Value) (x qual : Str) (st : Stmt) (ps : List Str) : Prop where
  ex : ∃ f fd, Fun K x qual st f fd ∧ mg x = some (.ref f) ∧ Binds K fd ps []
structure Mfn (K : PySem.W.Frag) (C : Addr) (m qual : Str) (st : Stmt) (ps : List Str) : Prop where
  ex : ∃ f fd, Fun K m qual st f fd ∧ Meth K C m f ∧ Binds K fd ps []
structure Ok (P : Program) (w : World) (K : PySem.W.Frag) (mg : Str → Option Value) (base : Heap) (C : CXT) (k : Nat) (x : Str) (ps : List Str) (sp : Sp) : Prop where
  ex : ∃ f fd, FnOk P w K mg base C k f fd ps sp ∧ mg x = some (.ref f) ∧ PySem.W.keepIn K (.ref f) = true ∧ Binds K fd ps []
structure OkM (P : Program) (w : World) (K : PySem.W.Frag) (mg : Str → Option Value) (base : Heap) (C : CXT) (k : Nat) (A : Addr) (m : Str) (ps : List Str) (sp : Sp) : Prop where
  ex : ∃ f fd, FnOk P w K mg base C k f fd ps sp ∧ Meth K A m f ∧ Cls K A ∧ Binds K fd ps []
section
variable {X : Cx} {k : Nat} {x m : Str} {ps : List Str} {sp : Sp} {p pos apos : Pos} {e o : Expr} {es : List Expr} {t : TA} {ta : TE} {C : Addr}
theorem ok_call (G : Ok X.prog X.w X.K X.mg X.base CX0 k x ps sp) (hr : Room k X.A) (hg : Gl X x) (ha : PA X (e :: es) t) (hdb : (x == ("__debug__" : Str)) = false := by decide)
    (he : starEach (e :: es) X.env = (false, eval e X.env) :: starEach es X.env := by rfl) (hpl : (backTo pos (starEach es X.env)).any (·.1) = false := by rfl) : PE X (.Call (.Name x p) (e :: es) [] pos) (tCall sp [] E0 t) := by
  obtain ⟨f, fd, F, hm, hk, hb⟩ := G.ex
  exact pe_call F hr hg hm hk hb .nil pass0 ha hdb he hpl
theorem ok_callX (G : Ok X.prog X.w X.K X.mg X.base (L2.CX X.prog X.w) k x ps sp) (hr : Room k X.A) (hg : Gl X x) (ha : PA X (e :: es) t) (hdb : (x == ("__debug__" : Str)) = false := by decide)
    (he : starEach (e :: es) X.env = (false, eval e X.env) :: starEach es X.env := by rfl) (hpl : (backTo pos (starEach es X.env)).any (·.1) = false := by rfl) : PE X (.Call (.Name x p) (e :: es) [] pos) (tCall sp [] E0 t) := by
  obtain ⟨f, fd, F, hm, hk, hb⟩ := G.ex
  exact pe_call F hr hg hm hk hb .nil passL ha hdb he hpl
theorem ok_meth0 {pl : Sem Bool} (G : OkM X.prog X.w X.K X.mg X.base CX0 k C m ps sp) (hr : Room k X.A) (he : PE X o ta)
    (ht : eval (.Call (.Attribute o m apos) [] [] pos) X.env = (do
      let ov ← eval o X.env
      standAt apos.atName
      let (f, first) ← holding [ov] (getMethod ov m pl)
      callWith pos f first (backTo pos (starEach [] X.env)) (backToKw pos (keywordEach [] X.env))) := by rfl) : PE X (.Call (.Attribute o m apos) [] [] pos) (tMeth C m sp [] E0 ta tNil) := by
  obtain ⟨f, fd, F, hm, hc, hb⟩ := G.ex
  exact pe_meth0 he hc hm F hr hb .nil pass0 ht
theorem ok_methX {pl : Sem Bool} (G : OkM X.prog X.w X.K X.mg X.base (L2.CX X.prog X.w) k C m ps sp) (hr : Room k X.A) (he : PE X o ta) (ha : PA X (e :: es) t)
    (hst : starEach (e :: es) X.env = (false, eval e X.env) :: starEach es X.env := by rfl) (hpl : (backTo pos (starEach es X.env)).any (·.1) = false := by rfl)
    (ht : eval (.Call (.Attribute o m apos) (e :: es) [] pos) X.env = (do
      let ov ← eval o X.env
      standAt apos.atName
      let (f, first) ← holding [ov] (getMethod ov m pl)
      callWith pos f first (backTo pos (starEach (e :: es) X.env)) (backToKw pos (keywordEach [] X.env))) := by rfl) : PE X (.Call (.Attribute o m apos) (e :: es) [] pos) (tMeth C m sp [] E0 ta t) := by
  obtain ⟨f, fd, F, hm, hc, hb⟩ := G.ex
  exact pe_meth he hc hm F hr hb .nil passL ha hst hpl ht
theorem Room.units65 {A : Around} (r : Room k A) : A.units + 65 < cLine := by have := r.un; omega
end
section
variable {P : Program} {w : World} {K : PySem.W.Frag} {mg : Str → Option Value} {base : Heap}
theorem aok_len : ∀ {fs : List Pd} {H : Hp} {vs : List V}, AOk fs H vs → vs.length = fs.length
  | [], _, _, h => by rw [show _ = [] from h]; rfl
  | f :: r, H, _, h => by
    obtain ⟨v, t, rfl, _, h2⟩ := h
    rw [List.length_cons, List.length_cons, aok_len h2]
theorem aok_get : ∀ {fs : List Pd} {H : Hp} {vs : List V}, AOk fs H vs → ∀ {i : Nat} {f : Pd}, fs[i]? = some f → ∃ v, vs[i]? = some v ∧ f H v
  | [], _, _, _, i, f, e => by simp at e
  | g :: r, H, _, h, 0, f, e => by
    obtain ⟨v, t, rfl, h1, h2⟩ := h
    simp at e; subst e
    exact ⟨v, rfl, h1⟩
  | g :: r, H, _, h, i + 1, f, e => by
    obtain ⟨v, t, rfl, h1, h2⟩ := h
    obtain ⟨u, q1, q2⟩ := aok_get h2 (i := i) (f := f) (by simpa using e)
    exact ⟨u, by simpa using q1, q2⟩
/-- the slots at a def's entry -/
def enterR (N : Nat) (fs : List Pd) : List Sl := fs.map Sl.fz ++ List.replicate (N - fs.length) Sl.no
theorem cfg_start {N : List Str} {fs : List Pd} {H : Hp} {vs : List V} (h : AOk fs H vs) (st : ∀ f ∈ fs, Stab f) (hl : fs.length ≤ N.length) : Cfg H H H H (L2.start N vs) (enterR N.length fs) := by
  have el := aok_len h
  refine ⟨Gr.refl (Same.refl _), by simp [L2.start, enterR, el], fun _ => [], fun i j a h1 => (List.not_mem_nil h1).elim, fun i a h1 => (List.not_mem_nil h1).elim, fun i s hs => ?_⟩
  unfold enterR at hs
  by_cases hi : i < fs.length
  · rw [List.getElem?_append_left (by simpa using hi), List.getElem?_map, List.getElem?_eq_getElem hi] at hs
    cases hs
    obtain ⟨v, e1, e2⟩ := aok_get h (List.getElem?_eq_getElem hi)
    refine ⟨st _ (List.getElem_mem hi), v, ?_, e2⟩
    unfold L2.start
    rw [List.getElem?_append_left (by simpa [el] using hi), List.getElem?_map, e1]
    rfl
  · rw [List.getElem?_append_right (by simpa using Nat.le_of_not_lt hi), List.getElem?_replicate] at hs
    split at hs
    · cases hs; trivial
    · cases hs
/-- THE RULE for a def that changes nothing and raises nothing -/
theorem fp_ok {x qual : Str} {st : Stmt} {N ps : List Str} {k : Nat} {α : Type} {pre : α → Prop} {args : α → List Pd} {res : α → PyData} (D : Dfn K mg x qual st ps) (S : FnScope N ps (defScope st)) (hN : ps.length ≤ N.length)
    (hlen : ∀ x, (args x).length = ps.length) (stab : ∀ x, ∀ f ∈ args x, Stab f)
    (body : ∀ (f : Addr) (cdv : Value) (A : Around) (outer : List Env) (s : Shared) (H : Hp) (E : XK), Room k (A.deeper (envOfC qual (defScope st) s.heap.objs.size f cdv)) →
      ∃ t, PSs (cxOf CX0 P w K mg base N qual (defScope st) f cdv A outer s H E).nox (defBody st) t ∧
        ∀ x, pre x → ∀ Q : VK, (∀ v H', Same H H' → Nw K H H' v (res x) → Q v H') → At H H (t { nx := fun _ H' => Q .non H', rt := Q }) (enterR N.length (args x))) : Ok P w K mg base CX0 (k + 1) x ps (Fp K pre args res) := by
  obtain ⟨f, fd, F, hg, hb⟩ := D.ex
  refine ⟨f, fd, F.ok S (fun vs H Q E h => ?_) (fun cdv A outer s H vs Q E hr h => ?_), hg, F.kp, hb⟩
  · obtain ⟨z, _, h2, _⟩ := h
    rw [aok_len h2, hlen]
  · obtain ⟨z, h1, h2, h3⟩ := h
    obtain ⟨t, q1, q2⟩ := body f cdv A outer s H E hr
    exact ⟨t, q1, q2 z h1 Q h3 H H _ (cfg_start h2 (stab z) (by rw [hlen]; exact hN))⟩
/-- .. for a method -/
theorem fpm_ok {m qual : Str} {st : Stmt} {N ps : List Str} {k : Nat} {C : Addr} {α : Type} {pre : α → Prop} {args : α → List Pd} {res : α → PyData} (D : Mfn K C m qual st ps) (cl : Cls K C) (S : FnScope N ps (defScope st)) (hN : ps.length ≤ N.length)
    (hlen : ∀ x, (args x).length = ps.length) (stab : ∀ x, ∀ f ∈ args x, Stab f)
    (body : ∀ (f : Addr) (cdv : Value) (A : Around) (outer : List Env) (s : Shared) (H : Hp) (E : XK), Room k (A.deeper (envOfC qual (defScope st) s.heap.objs.size f cdv)) →
      ∃ t, PSs (cxOf CX0 P w K mg base N qual (defScope st) f cdv A outer s H E).nox (defBody st) t ∧
        ∀ x, pre x → ∀ Q : VK, (∀ v H', Same H H' → Nw K H H' v (res x) → Q v H') → At H H (t { nx := fun _ H' => Q .non H', rt := Q }) (enterR N.length (args x))) : OkM P w K mg base CX0 (k + 1) C m ps (Fp K pre args res) := by
  obtain ⟨f, fd, F, hg, hb⟩ := D.ex
  refine ⟨f, fd, F.ok S (fun vs H Q E h => ?_) (fun cdv A outer s H vs Q E hr h => ?_), hg, cl, hb⟩
  · obtain ⟨z, _, h2, _⟩ := h
    rw [aok_len h2, hlen]
  · obtain ⟨z, h1, h2, h3⟩ := h
    obtain ⟨t, q1, q2⟩ := body f cdv A outer s H E hr
    exact ⟨t, q1, q2 z h1 Q h3 H H _ (cfg_start h2 (stab z) (by rw [hlen]; exact hN))⟩
end
/-- the built-in names that the module leaves alone -/
structure Zs (mg : Str → Option Value) : Prop where
  range : mg "range" = none
  len : mg "len" = none
  enumerate : mg "enumerate" = none
  zip : mg "zip" = none
  min : mg "min" = none
  max : mg "max" = none
  sorted : mg "sorted" = none
  sum : mg "sum" = none
  all : mg "all" = none
  list : mg "list" = none
  str : mg "str" = none
  int : mg "int" = none
  bool : mg "bool" = none
  isinstance : mg "isinstance" = none
  set : mg "set" = none
  dict : mg "dict" = none
  tuple : mg "tuple" = none
section
variable {K : PySem.W.Frag} {B F0 : Hp} {ρ : List Sl} {te ta tb : TE} {d e : PyData} {ds es : List PyData}
theorem stab1 {f : Pd} (h : Stab f) : ∀ g ∈ [f], Stab g := fun g hg => by
  rw [List.mem_singleton.mp hg]; exact h
theorem stab0 : ∀ g ∈ ([] : List Pd), Stab g := fun g hg => (List.not_mem_nil hg).elim
theorem stabC {f : Pd} {fs : List Pd} (h : Stab f) (hs : ∀ g ∈ fs, Stab g) : ∀ g ∈ f :: fs, Stab g := fun g hg => by
  rcases List.mem_cons.mp hg with rfl | hg
  · exact h
  · exact hs g hg
/-- an int that comes as an argument -/
theorem rd_arg {d : PyData} : RdS K (.fz (dat K d)) d := rd_sa
/-! len, min, max -/
theorem ev_lenL (h : EvH B F0 ρ te (dat K (.list ds))) : Ev B F0 ρ (tCB (fun xs H Q => ∃ p ys, xs = [.ref p] ∧ (SqL K H p ys ∨ SqT K H p ys) ∧ Q (.int ys.length) H) (tCons te tNil)) (nwd K B (.int ds.length)) :=
  ev_cb (f := nwd K B (.int ds.length)) (z := .int ds.length) (ea_cons st_dat h ea_nil) (fun F => .int _) fun H vs a Q q => by
    obtain ⟨v, t, rfl, p, rfl⟩ := a
    cases p with
    | lst h1 h2 => exact ⟨_, _, rfl, .inl h1, by rw [dpAll_len h2]; exact q⟩
theorem ev_lenT (h : EvH B F0 ρ te (dat K (.tuple ds))) : Ev B F0 ρ (tCB (fun xs H Q => ∃ p ys, xs = [.ref p] ∧ (SqL K H p ys ∨ SqT K H p ys) ∧ Q (.int ys.length) H) (tCons te tNil)) (nwd K B (.int ds.length)) :=
  ev_cb (f := nwd K B (.int ds.length)) (z := .int ds.length) (ea_cons st_dat h ea_nil) (fun F => .int _) fun H vs a Q q => by
    obtain ⟨v, t, rfl, p, rfl⟩ := a
    cases p with
    | tup h1 h2 => exact ⟨_, _, rfl, .inr h1, by rw [dpAll_len h2]; exact q⟩
theorem ev_min2 {a b : Int} (ha : EvH B F0 ρ ta (dat K (.int a))) (hb : EvH B F0 ρ tb (dat K (.int b))) : Ev B F0 ρ (tCB (fun xs H Q => ∃ i j, xs = [.int i, .int j] ∧ Q (.int (if j < i then j else i)) H) (tCons ta (tCons tb tNil))) (nwd K B (.int (min a b))) :=
  ev_cb (f := nwd K B (.int (min a b))) (z := .int (min a b)) (ea_cons st_dat ha (ea_cons st_dat hb ea_nil)) (fun F => .int _) fun H vs a' Q q => by
    obtain ⟨v, t, rfl, p, v2, t2, rfl, p2, rfl⟩ := a'
    cases p; cases p2
    have e : (if b < a then b else a) = min a b := by rw [Int.min_def]; split <;> split <;> omega
    exact ⟨a, b, rfl, by rw [e]; exact q⟩
theorem ev_max2 {a b : Int} (ha : EvH B F0 ρ ta (dat K (.int a))) (hb : EvH B F0 ρ tb (dat K (.int b))) : Ev B F0 ρ (tCB (fun xs H Q => ∃ i j, xs = [.int i, .int j] ∧ Q (.int (if j > i then j else i)) H) (tCons ta (tCons tb tNil))) (nwd K B (.int (max a b))) :=
  ev_cb (f := nwd K B (.int (max a b))) (z := .int (max a b)) (ea_cons st_dat ha (ea_cons st_dat hb ea_nil)) (fun F => .int _) fun H vs a' Q q => by
    obtain ⟨v, t, rfl, p, v2, t2, rfl, p2, rfl⟩ := a'
    cases p; cases p2
    have e : (if b > a then b else a) = max a b := by rw [Int.max_def]; split <;> split <;> omega
    exact ⟨a, b, rfl, by rw [e]; exact q⟩
/-! slices of lists -/
def cutD (ds : List PyData) (lo hi : Option Int) : List PyData := (ds.drop (HT.sIx ds.length 0 lo)).take (HT.sIx ds.length ds.length hi - HT.sIx ds.length 0 lo)
def EvO (K : PySem.W.Frag) (B F0 : Hp) (ρ : List Sl) (to : TO) (o : Option Int) : Prop := ∀ F H σ, Cfg B F0 F H σ ρ → ∀ Q : Option Int → Hp → Prop, (∀ F' H', Gr F H F' H' → Q o H') → to σ H Q
theorem eo_none : EvO K B F0 ρ tNoPart none := fun F H σ c Q q => q F H (Gr.refl c.i)
theorem eo_some {i : Int} (h : EvH B F0 ρ te (dat K (.int i))) : EvO K B F0 ρ (tPart te) (some i) := fun F H σ c Q q => h F H σ c _ fun v F' H' g p => by
  cases p
  exact ⟨i, rfl, q F' H' g⟩
theorem evm_slice {tl th : TO} {lo hi : Option Int} (h : EvH B F0 ρ te (dat K (.list ds))) (fl : flatDs ds = true) (h1 : EvO K B F0 ρ tl lo) (h2 : EvO K B F0 ρ th hi) : EvM K B F0 ρ (tSl (rSlL K) te tl th) (cutD ds lo hi) := fun F H σ c Q q =>
  (h.nwl fl) F H σ c _ fun v F1 H1 g1 p1 => h1 F1 H1 σ (c.go g1) _ fun F2 H2 g2 => h2 F2 H2 σ ((c.go g1).go g2) _ fun F3 H3 g3 => by
    obtain ⟨a, xs, rfl, q1, q2⟩ := p1
    have g := g1.trans (g2.trans g3)
    refine ⟨a, xs, rfl, (g2.h.trans g3.h).seq q1, fun p hp => ?_⟩
    refine q p _ F3 _ (g.trans (Gr.new g.i hp)) (g.i.free hp) (g.fresh hp) upd_same ?_
    have e : xs.length = ds.length := nwAll_len q2
    unfold cutV cutD
    rw [e]
    exact nwAll_take _ (nwAll_drop _ (nwAll_mono (Same.refl _) (g2.f.trans g3.f) q2))
end
end Lay
namespace Lay
open PySem L2
theorem enumD_map {α : Type} (g : α → PyData) (xs : List α) : enumD (xs.map g) = xs.zipIdx.map fun p => .tuple [.int (p.2 : Int), g p.1] := by
  unfold enumD
  rw [List.zipIdx_map, List.map_map]
  rfl
section
variable {K : PySem.W.Frag} {B F0 : Hp} {ρ : List Sl} {te ta tb : TE} {d e : PyData} {ds es : List PyData}
theorem evj_enumX {α : Type} {g : α → PyData} {xs : List α} (h : Ev B F0 ρ te (nwd K B (.list (xs.map g)))) : EvJ B F0 ρ (iEnum K (tCons te tNil)) (nwd K B) (xs.zipIdx.map fun p => .tuple [.int (p.2 : Int), g p.1]) := by
  rw [← enumD_map]
  exact evj_enum (ea_one h)
theorem evj_enumXF {α : Type} {g : α → PyData} {xs : List α} (h : Ev B F0 ρ te (dat K (.list (xs.map g)))) (fl : ∀ x, flatD (g x) = true) : EvJ B F0 ρ (iEnum K (tCons te tNil)) (nwd K B) (xs.zipIdx.map fun p => .tuple [.int (p.2 : Int), g p.1]) := by
  rw [← enumD_map]
  exact evj_enumF (ea_one h) (flatDs_map fl xs)
/-- an item of a list written on the spot -/
theorem ev_pick {tr : TA} {i : Int} (h : EvAs K B F0 ρ tr ds) (hl : ds.length ≤ 100000) (hb : EvH B F0 ρ tb (dat K (.int i))) (e : atI ds i = some d) : Ev B F0 ρ (tOp (rIxL K) (tLst tr) tb) (nwd K B d) := ev_ixN (evm_lst h hl).nw hb e
theorem atI_nn {α : Type} {xs : List α} {i : Int} {x : α} (h : 0 ≤ i) (e : xs[i.toNat]? = some x) : atI xs i = some x := by
  have h2 : i.toNat < xs.length := (List.getElem?_eq_some_iff.mp e).1
  unfold atI ixN
  rw [if_pos h, if_pos (by omega)]
  exact e
theorem atI_map {α β : Type} {xs : List α} {i : Int} {x : α} (g : α → β) (e : atI xs i = some x) : atI (xs.map g) i = some (g x) := by
  unfold atI at e ⊢
  rw [List.length_map]
  cases z : ixN xs.length i with
  | none => rw [z] at e; cases e
  | some j =>
    rw [z] at e
    have e : xs[j]? = some x := e
    show (xs.map g)[j]? = some (g x)
    rw [List.getElem?_map, e]; rfl
end
end Lay
namespace Lay
open PySem L2
/-! the rules of statements with what follows them -/
section
variable {K : PySem.W.Frag} {B F0 : Hp} {ρ ρ1 ρ2 : List Sl} {te ta tb tc : TE} {t : TT} {f g : Pd} {d e : PyData} {ds es : List PyData} {D : Ends} {u ts us : TS}
theorem q_asg {g : TG} {is : List Nat} (h : EvX B F0 ρ te ρ1 f) (b : Bind B F0 g is f ρ1 ρ2) (k : At B F0 (u D) ρ2) : At B F0 (tSeq (tAsg te g) u D) ρ := at_asg (D := { D with nx := u D }) h b k
theorem q_set (K : PySem.W.Frag) {i : Nat} (h : Ev B F0 ρ te (nwd K B d)) (k : At B F0 (u D) (ρ.set i (sn K B d))) : At B F0 (tSeq (tAsg te (gName i)) u D) ρ := at_set (D := { D with nx := u D }) h k
theorem q_setD (K : PySem.W.Frag) {i : Nat} (h : Ev B F0 ρ te (dat K d)) (k : At B F0 (u D) (ρ.set i (sa K d))) : At B F0 (tSeq (tAsg te (gName i)) u D) ρ := at_setD (D := { D with nx := u D }) h k
theorem q_setF {i : Nat} (st : Stab f) (h : Ev B F0 ρ te f) (k : At B F0 (u D) (ρ.set i (.fz f))) : At B F0 (tSeq (tAsg te (gName i)) u D) ρ := at_setF (D := { D with nx := u D }) st h k
theorem q_setM (K : PySem.W.Frag) {i : Nat} (h : EvM K B F0 ρ te ds) (k : At B F0 (u D) (ρ.set i (ml K B ds))) : At B F0 (tSeq (tAsg te (gName i)) u D) ρ := at_setM (D := { D with nx := u D }) h k
theorem q_setK {i : Nat} (K : PySem.W.Frag) (k : At B F0 (u D) (ρ.set i (md K B []))) : At B F0 (tSeq (tAsg tDNewK (gName i)) u D) ρ := at_setK (D := { D with nx := u D }) k
theorem q_drop (h : EvX B F0 ρ te ρ1 f) (k : At B F0 (u D) ρ1) : At B F0 (tSeq (tDrop te) u D) ρ := at_drop (D := { D with nx := u D }) h k
theorem q_if {c : Bool} (h : EvT B F0 ρ t c) (h1 : c = true → At B F0 (ts { D with nx := u D }) ρ) (h2 : c = false → At B F0 (us { D with nx := u D }) ρ) : At B F0 (tSeq (tIfS t ts us) u D) ρ := at_if (D := { D with nx := u D }) h h1 h2
theorem q_when {c : Bool} (h : EvT B F0 ρ t c) (h1 : c = true → At B F0 (ts { D with nx := u D }) ρ) (h2 : c = false → At B F0 (u D) ρ) : At B F0 (tSeq (tIfS t ts tNext) u D) ρ := at_if (D := { D with nx := u D }) h h1 h2
theorem at_when {c : Bool} (h : EvT B F0 ρ t c) (h1 : c = true → At B F0 (ts D) ρ) (h2 : c = false → At B F0 D.nx ρ) : At B F0 (tIfS t ts tNext D) ρ := at_if h h1 h2
theorem q_for {α : Type} {xs : List α} {e : α → PyData} {q : PyData → Pd} {wi : TI} {g : TG} {tb : TS} (hw : EvI B F0 ρ wi ρ1 q (xs.map e)) (Inv : List α → List Sl → Prop) (h0 : Inv [] ρ1)
    (hs : ∀ F1 pre x post ρ', xs = pre ++ x :: post → Inv pre ρ' → ∃ is ρ2, Bind B F1 g is (q (e x)) ρ' ρ2 ∧ At B F1 (tb { D with nx := Lp B F1 Inv (pre ++ [x]), ct := Lp B F1 Inv (pre ++ [x]), bk := u D }) ρ2)
    (hd : ∀ ρ', Inv xs ρ' → At B F0 (u D) ρ') : At B F0 (tSeq (tFor wi g tb) u D) ρ := at_for (D := { D with nx := u D }) hw Inv h0 hs hd
theorem q_while {tb : TS} (Inv : Nat → List Sl → Prop) (m0 : Nat) (h0 : Inv m0 ρ)
    (hs : ∀ m ρ', Inv m ρ' → ∃ c, EvT B F0 ρ' t c ∧ (c = true → At B F0 (tb { D with nx := Lw B F0 Inv m, ct := Lw B F0 Inv m, bk := u D }) ρ') ∧ (c = false → At B F0 (u D) ρ')) : At B F0 (tSeq (tWhile t tb) u D) ρ := at_while (D := { D with nx := u D }) Inv m0 h0 hs
theorem q_dput {i : Nat} {k : Int} {kvs : List (Int × PyData)} (hi : ρ[i]? = some (md K B kvs)) (hv : Ev B F0 ρ te (nwd K B d)) (hk : EvH B F0 ρ tb (dat K (.int k))) (hz : kvs.length < 100000)
    (n : At B F0 (u D) (ρ.set i (md K B (putI kvs k d)))) : At B F0 (tSeq (sDPut (tVar i) tb te) u D) ρ := at_dput (D := { D with nx := u D }) hi hv hk hz n
theorem at_lpD {α : Type} {Inv : List α → List Sl → Prop} {pre : List α} {r : VK} {bk ct : L2.St → Hp → Prop} (h : Inv pre ρ) : At B F0 (Ends.nx ⟨Lp B F0 Inv pre, r, bk, ct⟩) ρ := at_lp h
theorem at_lwD {Inv : Nat → List Sl → Prop} {m m' : Nat} {r : VK} {bk ct : L2.St → Hp → Prop} (h : Inv m' ρ) (hm : m' < m) : At B F0 (Ends.nx ⟨Lw B F0 Inv m, r, bk, ct⟩) ρ := at_lw h hm
theorem at_go {N : L2.St → Hp → Prop} {r : VK} {bk ct : L2.St → Hp → Prop} (h : At B F0 N ρ) : At B F0 (Ends.nx ⟨N, r, bk, ct⟩) ρ := h
theorem at_nxt {N : L2.St → Hp → Prop} {r : VK} {bk ct : L2.St → Hp → Prop} (h : At B F0 N ρ) : At B F0 (tNext ⟨N, r, bk, ct⟩) ρ := h
end
end Lay
namespace Lay
open PySem L2
/-! ### shapes and equality of data -/
def okS (n : Nat) (d : PyData) : Prop := d.canLay0 = true ∧ d.depth ≤ n
theorem okS.mono {n m : Nat} {d : PyData} (h : okS n d) (k : n ≤ m) : okS m d := ⟨h.1, Nat.le_trans h.2 k⟩
theorem okS.shaped {n : Nat} {d : PyData} (h : okS n d) (k : n ≤ 64 := by decide) : SeqAt.shaped d = true := by
  unfold SeqAt.shaped
  rw [h.1, decide_eq_true (Nat.le_trans h.2 k)]
  rfl
theorem okS_int {i : Int} : okS 0 (.int i) := ⟨by rw [PyData.canLay0], by rw [PyData.depth]; exact Nat.le_refl _⟩
theorem okS_bool {i : Bool} : okS 0 (.bool i) := ⟨by rw [PyData.canLay0], by rw [PyData.depth]; exact Nat.le_refl _⟩
theorem okS_none : okS 0 .none := ⟨by rw [PyData.canLay0], by rw [PyData.depth]; exact Nat.le_refl _⟩
theorem okS_all {n : Nat} : ∀ {ds : List PyData}, (∀ d ∈ ds, okS n d) → PyData.canLayAll0 ds = true ∧ PyData.depthAll ds ≤ n
  | [], _ => ⟨by rw [PyData.canLayAll0], by rw [PyData.depthAll]; exact Nat.zero_le _⟩
  | d :: ds, h => by
    have h1 := h d (List.mem_cons.mpr (.inl rfl))
    have h2 := okS_all (n := n) (ds := ds) fun e he => h e (List.mem_cons.mpr (.inr he))
    refine ⟨by rw [PyData.canLayAll0, h1.1, h2.1]; rfl, ?_⟩
    rw [PyData.depthAll]
    have := h1.2
    have := h2.2
    omega
theorem okS_list {n : Nat} {ds : List PyData} (h : ∀ d ∈ ds, okS n d) : okS (n + 1) (.list ds) := by
  have q := okS_all h
  exact ⟨by rw [PyData.canLay0]; exact q.1, by rw [PyData.depth]; have := q.2; omega⟩
theorem okS_tup {n : Nat} {ds : List PyData} (h : ∀ d ∈ ds, okS n d) : okS (n + 1) (.tuple ds) := by
  have q := okS_all h
  exact ⟨by rw [PyData.canLay0]; exact q.1, by rw [PyData.depth]; have := q.2; omega⟩
theorem okS_map {α : Type} {n : Nat} {e : α → PyData} {xs : List α} (h : ∀ x, okS n (e x)) : ∀ d ∈ xs.map e, okS n d := fun d hd => by
  obtain ⟨x, _, rfl⟩ := List.mem_map.mp hd
  exact h x
theorem okS_nil {n : Nat} : ∀ d ∈ ([] : List PyData), okS n d := fun d hd => (List.not_mem_nil hd).elim
theorem okS_cons {n : Nat} {d : PyData} {ds : List PyData} (h : okS n d) (hs : ∀ d ∈ ds, okS n d) : ∀ e ∈ d :: ds, okS n e := fun e he => by
  rcases List.mem_cons.mp he with rfl | he
  · exact h
  · exact hs e he
theorem okS_ints {ns : List Int} : okS 1 (.list (ns.map .int)) := okS_list (okS_map fun _ => okS_int)
abbrev pairD (p : Int × Int) : PyData := .tuple [.int p.1, .int p.2]
abbrev rowD (p : Int × Int × Int) : PyData := .tuple [.int p.1, .int p.2.1, .int p.2.2]
abbrev intsD (ns : List Int) : PyData := .list (ns.map .int)
theorem okS_pair {p : Int × Int} : okS 1 (pairD p) := okS_tup (okS_cons okS_int (okS_cons okS_int okS_nil))
theorem okS_row {p : Int × Int × Int} : okS 1 (rowD p) := okS_tup (okS_cons okS_int (okS_cons okS_int (okS_cons okS_int okS_nil)))
theorem okS_rows {α : Type} {n : Nat} {e : α → PyData} {xs : List α} (h : ∀ x, okS n (e x)) : okS (n + 1) (.list (xs.map e)) := okS_list (okS_map h)
theorem ok60_ints {ns : List Int} : okS 60 (.list (ns.map .int)) := okS_ints.mono (by decide)
theorem ok60_pairs {ns : List (Int × Int)} : okS 60 (.list (ns.map pairD)) := (okS_rows fun _ => okS_pair).mono (by decide)
theorem ok60_rows {ns : List (Int × Int × Int)} : okS 60 (.list (ns.map rowD)) := (okS_rows fun _ => okS_row).mono (by decide)
theorem ok60_intss {ns : List (List Int)} : okS 60 (.list (ns.map intsD)) := (okS_rows fun _ => okS_ints).mono (by decide)
theorem ok60_rowss {ns : List (List (Int × Int × Int))} : okS 60 (.list (ns.map fun r => .list (r.map rowD))) := (okS_rows fun _ => okS_rows fun _ => okS_row).mono (by decide)
theorem ok60_pairss {ns : List (List (Int × Int))} : okS 60 (.list (ns.map fun r => .list (r.map pairD))) := (okS_rows fun _ => okS_rows fun _ => okS_pair).mono (by decide)
theorem eqv_nil {ds : List PyData} : PyData.eqv (.list ds) (.list []) = ds.isEmpty := by
  cases ds with
  | nil => rw [PyData.eqv]; rfl
  | cons d r => rw [PyData.eqv]; rfl
theorem eqv_int {a b : Int} : PyData.eqv (.int a) (.int b) = (a == b) := by rw [PyData.eqv]
/-- equal data are equal values, for data that tell their values -/
theorem eqvAll_map {α : Type} {e : α → PyData} (h : ∀ x y, PyData.eqv (e x) (e y) = true ↔ x = y) : ∀ xs ys : List α, PyData.eqvAll (xs.map e) (ys.map e) = true ↔ xs = ys
  | [], [] => by simp [PyData.eqvAll]
  | [], _ :: _ => by simp [PyData.eqvAll]
  | _ :: _, [] => by simp [PyData.eqvAll]
  | x :: xs, y :: ys => by
    rw [List.map_cons, List.map_cons, PyData.eqvAll, Bool.and_eq_true, h x y, eqvAll_map h xs ys]
    simp
theorem eqv_list {α : Type} {e : α → PyData} (h : ∀ x y, PyData.eqv (e x) (e y) = true ↔ x = y) (xs ys : List α) : PyData.eqv (.list (xs.map e)) (.list (ys.map e)) = true ↔ xs = ys := by
  rw [PyData.eqv]
  exact eqvAll_map h xs ys
theorem eqv_ints (xs ys : List Int) : PyData.eqv (intsD xs) (intsD ys) = true ↔ xs = ys := eqv_list (fun x y => by rw [PyData.eqv]; simp) xs ys
theorem eqv_pair (p q : Int × Int) : PyData.eqv (pairD p) (pairD q) = true ↔ p = q := by
  obtain ⟨a, b⟩ := p
  obtain ⟨c, d⟩ := q
  rw [PyData.eqv, PyData.eqvAll, PyData.eqvAll, PyData.eqvAll, PyData.eqv, PyData.eqv]
  simp
theorem eqv_row (p q : Int × Int × Int) : PyData.eqv (rowD p) (rowD q) = true ↔ p = q := by
  obtain ⟨a, b, c⟩ := p
  obtain ⟨a', b', c'⟩ := q
  rw [PyData.eqv, PyData.eqvAll, PyData.eqvAll, PyData.eqvAll, PyData.eqvAll, PyData.eqv, PyData.eqv, PyData.eqv]
  simp
theorem eqv_same {n : Nat} {d : PyData} (h : okS n d) : PyData.eqv d d = true := SeqAt.eqv_refl d h.1
section
variable {K : PySem.W.Frag} {B F0 : Hp} {ρ : List Sl} {te ta tb : TE} {d e : PyData} {ds es : List PyData}
/-- xs != [], xs == [] -/
theorem ev_neNil (ha : EvH B F0 ρ ta (dat K (.list ds))) (hs : okS 60 (.list ds)) : Ev B F0 ρ (tOp (rNeD K) ta (tLst tNil)) (nwd K B (.bool (!ds.isEmpty))) := by
  have h := ev_neD (K := K) (B := B) (F0 := F0) (ρ := ρ) ha (evm_lst (ds := []) eas_nil (by simp)).nw.hd hs.shaped (okS_list (n := 0) okS_nil).shaped
  rw [eqv_nil] at h
  exact h
theorem ev_eqNil (ha : EvH B F0 ρ ta (dat K (.list ds))) (hs : okS 60 (.list ds)) : Ev B F0 ρ (tOp (rEqD K) ta (tLst tNil)) (nwd K B (.bool ds.isEmpty)) := by
  have h := ev_eqD (K := K) (B := B) (F0 := F0) (ρ := ρ) ha (evm_lst (ds := []) eas_nil (by simp)).nw.hd hs.shaped (okS_list (n := 0) okS_nil).shaped
  rw [eqv_nil] at h
  exact h
/-- an item of an own list without lists within, a list owned or handed in -/
theorem ev_ixF {i : Int} (ha : EvH B F0 ρ ta (dat K (.list ds))) (hb : EvH B F0 ρ tb (dat K (.int i))) (e : atI ds i = some d) (fl : flatD d = true) : Ev B F0 ρ (tOp (rIxL K) ta tb) (nwd K B d) := (evh_ixL ha hb e).nw fl
end
theorem zip_at {α : Type} {xs : List α} {pre post : List (α × Nat)} {c : α} {k : Nat} (h : xs.zipIdx = pre ++ (c, k) :: post) : k = pre.length ∧ k < xs.length ∧ xs[k]? = some c := by
  have h1 : xs.zipIdx[pre.length]? = some (c, k) := by rw [h, List.getElem?_append_right (Nat.le_refl _), Nat.sub_self]; rfl
  rw [List.getElem?_zipIdx] at h1
  cases e : xs[pre.length]? with
  | none => rw [e] at h1; cases h1
  | some x =>
    rw [e] at h1
    have h2 := Option.some.inj h1
    have h3 : x = c := congrArg Prod.fst h2
    have h4 : 0 + pre.length = k := congrArg Prod.snd h2
    have h5 : k = pre.length := by omega
    refine ⟨h5, ?_, ?_⟩
    · rw [h5]; exact (List.getElem?_eq_some_iff.mp e).1
    · rw [h5, e, h3]
end Lay
namespace Lay
open PySem L2

/-! ### things of any kind, isinstance against built-in classes -/
def Kd (K : PySem.W.Frag) (H : Hp) (v : V) : Prop := v = .non ∨ (∃ b, v = .bl b) ∨ (∃ i, v = .int i) ∨ (∃ x, v = .str x) ∨
  ∃ a, v = .ref a ∧ ((∃ xs, SqL K H a xs) ∨ (∃ xs, SqT K H a xs) ∨ ∃ kv, Rd H a (.dK kv))
def kdP (K : PySem.W.Frag) (v0 : V) : Pd := fun H v => v = v0 ∧ Kd K H v0
theorem st_kdP {K : PySem.W.Frag} {v0 : V} : Stab (kdP K v0) := fun F F' v s ⟨e, k⟩ => ⟨e, by
  rcases k with k | k | k | k | ⟨a, e, k⟩
  · exact .inl k
  · exact .inr (.inl k)
  · exact .inr (.inr (.inl k))
  · exact .inr (.inr (.inr (.inl k)))
  · refine .inr (.inr (.inr (.inr ⟨a, e, ?_⟩)))
    rcases k with ⟨xs, k⟩ | ⟨xs, k⟩ | ⟨kv, k⟩
    · exact .inl ⟨xs, s.seq k⟩
    · exact .inr (.inl ⟨xs, sqt_mono s k⟩)
    · exact .inr (.inr ⟨kv, rd_mono s k⟩)⟩
theorem kd_dp {K : PySem.W.Frag} {H : Hp} {v : V} {d : PyData} (h : Dp K H v d) : Kd K H v := by
  cases h with
  | non => exact .inl rfl
  | bl b => exact .inr (.inl ⟨b, rfl⟩)
  | int i => exact .inr (.inr (.inl ⟨i, rfl⟩))
  | str x => exact .inr (.inr (.inr (.inl ⟨x, rfl⟩)))
  | lst h1 _ => exact .inr (.inr (.inr (.inr ⟨_, rfl, .inl ⟨_, h1⟩⟩)))
  | tup h1 _ => exact .inr (.inr (.inr (.inr ⟨_, rfl, .inr (.inl ⟨_, h1⟩)⟩)))
/-- the name of its class -/
theorem kd_ty {K : PySem.W.Frag} {H : Hp} {v : V} (k : Kd K H v) : (v = .non ∧ TyX K H v (.type "NoneType")) ∨ (∃ b, v = .bl b ∧ TyX K H v (.type "bool")) ∨ (∃ i, v = .int i ∧ TyX K H v (.type "int")) ∨ (∃ x, v = .str x ∧ TyX K H v (.type "str")) ∨
    ∃ a, v = .ref a ∧ (((∃ xs, SqL K H a xs) ∧ TyX K H v (.type "list")) ∨ ((∃ xs, SqT K H a xs) ∧ TyX K H v (.type "tuple")) ∨ TyX K H v (.type "dict")) := by
  rcases k with rfl | ⟨b, rfl⟩ | ⟨i, rfl⟩ | ⟨x, rfl⟩ | ⟨a, rfl, k⟩
  · exact .inl ⟨rfl, .base .non⟩
  · exact .inr (.inl ⟨b, rfl, .base (.bl b)⟩)
  · exact .inr (.inr (.inl ⟨i, rfl, .base (.int i)⟩))
  · exact .inr (.inr (.inr (.inl ⟨x, rfl, .base (.str x)⟩)))
  · refine .inr (.inr (.inr (.inr ⟨a, rfl, ?_⟩)))
    rcases k with ⟨xs, k⟩ | ⟨xs, k⟩ | ⟨kv, k | ⟨o, k⟩⟩
    · refine .inl ⟨⟨xs, k⟩, ?_⟩
      rcases k with (k | ⟨o, k⟩) | ⟨o, its, n, k, c, _⟩
      · exact .base (.lst k)
      · exact .base (.frz k)
      · exact .kList k c
    · refine .inr (.inl ⟨⟨xs, k⟩, ?_⟩)
      rcases k with (k | ⟨o, k⟩) | ⟨o, its, n, k, c, _⟩
      · exact .base (.tup k)
      · exact .fTuple k
      · exact .kTuple k c
    · exact .inr (.inr (.base (.dK k)))
    · exact .inr (.inr (.fDict k))
def isI : V → Bool
  | .int _ => true
  | .bl _ => true
  | _ => false
def isB : V → Bool
  | .bl _ => true
  | _ => false
section
variable {K : PySem.W.Frag} {B F0 : Hp} {ρ : List Sl} {te ta tb tc : TE} {d e : PyData} {ds es : List PyData} {f : Pd}
theorem kb {a b : String} {r : Bool} (h : kitB a b = some r) : PySem.W.kitOne K (.type a) (.type b) = some r := kit_ty h
theorem isi_run {H : Hp} {v : V} {n : String} {r : Bool} (t : Value) (ty : TyX K H v t) (h : PySem.W.kitOne K t (.type n) = some r) {Q : VK} (q : Q (.bl r) H) : rIsi K [v, .ty n] H Q :=
  ⟨v, .ty n, t, .type n, r, rfl, .ty n, ty, h, q⟩
theorem ev_isi {v : V} {n : String} {r : Bool} (ha : EvH B F0 ρ ta (kdP K v)) (hk : ∀ H, Kd K H v → ∃ t, TyX K H v t ∧ PySem.W.kitOne K t (.type n) = some r) : Ev B F0 ρ (tCB (rIsi K) (tCons ta (tCons (tC (.ty n)) tNil))) (nwd K B (.bool r)) := fun F H σ c Q q =>
  ha F H σ c _ fun x F1 H1 g1 ⟨e, k⟩ => by
    subst e
    obtain ⟨t, ty, h⟩ := hk H1 k
    exact isi_run t ty h (q _ F1 H1 g1 (.bl r))
theorem isi_int {v : V} {H : Hp} (k : Kd K H v) : ∃ t, TyX K H v t ∧ PySem.W.kitOne K t (.type "int") = some (isI v) := by
  rcases kd_ty k with ⟨rfl, t⟩ | ⟨b, rfl, t⟩ | ⟨i, rfl, t⟩ | ⟨x, rfl, t⟩ | ⟨a, rfl, ⟨_, t⟩ | ⟨_, t⟩ | t⟩
  all_goals exact ⟨_, t, kb (by dsimp only [isI]; decide +kernel)⟩
theorem isi_bool {v : V} {H : Hp} (k : Kd K H v) : ∃ t, TyX K H v t ∧ PySem.W.kitOne K t (.type "bool") = some (isB v) := by
  rcases kd_ty k with ⟨rfl, t⟩ | ⟨b, rfl, t⟩ | ⟨i, rfl, t⟩ | ⟨x, rfl, t⟩ | ⟨a, rfl, ⟨_, t⟩ | ⟨_, t⟩ | t⟩
  all_goals exact ⟨_, t, kb (by dsimp only [isB]; decide +kernel)⟩
theorem kd_var {i : Nat} {v : V} (h : ρ[i]? = some (.fz (kdP K v))) : EvH B F0 ρ (tVar i) (kdP K v) := evh_fz st_kdP h
/-- lo <= x <= hi -/
theorem ev_chain {lo x hi : Int} (ha : EvH B F0 ρ ta (dat K (.int lo))) (hb : EvH B F0 ρ tb (dat K (.int x))) (hc : EvH B F0 ρ tc (dat K (.int hi))) :
    Ev B F0 ρ (tChain (rI0 fun i j => .bl (decide (i ≤ j))) (rI0 fun i j => .bl (decide (i ≤ j))) ta tb tc) (nwd K B (.bool (decide (lo ≤ x) && decide (x ≤ hi)))) := fun F H σ c Q q =>
  ha F H σ c _ fun v1 F1 H1 g1 p1 => hb F1 H1 σ (c.go g1) _ fun v2 F2 H2 g2 p2 => by
    cases p1; cases p2
    refine ⟨lo, x, rfl, rfl, _, rfl, ?_⟩
    cases e : decide (lo ≤ x) with
    | true =>
      refine iteT (hc F2 H2 σ ((c.go g1).go g2) _ fun v3 F3 H3 g3 p3 => ?_)
      cases p3
      refine ⟨x, hi, rfl, rfl, q _ F3 H3 (g1.trans (g2.trans g3)) ?_⟩
      rw [e]
      exact .bl _
    | false =>
      refine iteF (q _ F2 H2 (g1.trans g2) ?_)
      rw [e]
      exact .bl _
end

/-! ### owned things changed, with new things beside -/
/-- what stood stands, but at as -/
structure Ch (as : List Addr) (F H F' H' : Hp) : Prop where
  f : Same F F'
  i : Same F' H'
  h : ∀ a o, a ∉ as → H a = some o → H' a = some o
  n : ∀ a o, H a = some o → isTup o = false → F a = none → F' a = none
theorem Cfg.chF {B F0 F H F' H' : Hp} {σ : St} {ρ : List Sl} (c : Cfg B F0 F H σ ρ) {i : Nat} {m m' : Hp → Hp → V → List Addr → Prop} (hi : ρ[i]? = some (.mo m)) (st' : MStab m')
    (k : ∀ v as, σ[i]? = some (some v) → m F H v as → m' F' H' v as ∧ Ch as F H F' H' ∧ (∀ a ∈ as, ∃ o, H' a = some o ∧ isTup o = false)) : Cfg B F0 F' H' σ (ρ.set i (.mo m')) := by
  obtain ⟨w, o⟩ := c.own
  obtain ⟨st, v, ev, hm⟩ := o.sl i _ hi
  obtain ⟨q1, q2, q3⟩ := k v (w i) ev hm
  have hl : i < ρ.length := (List.getElem?_eq_some_iff.mp hi).1
  have nf : ∀ a ∈ w i, F' a = none := fun a ha => by
    obtain ⟨h1, _, u, h3, h4⟩ := o.at_ i a ha
    exact q2.n a u h3 h4 h1
  have gB : ∀ a u, B a = some u → H' a = some u := fun a u e =>
    q2.h a u (fun z => by have := (o.at_ i a z).2.1; rw [e] at this; cases this) (c.gr.h a u e)
  refine ⟨⟨c.gr.f.trans q2.f, gB, q2.i, fun a u h t z => q2.n a u (c.gr.h a u h) t (c.gr.n a u h t z)⟩, by simp [c.len], w, o.dj, fun j a ha => ?_, fun j s hs => ?_⟩
  · obtain ⟨h1, h2, u, h3, h4⟩ := o.at_ j a ha
    refine ⟨q2.n a u h3 h4 h1, h2, ?_⟩
    by_cases hj : a ∈ w i
    · exact q3 a hj
    · exact ⟨u, q2.h a u hj h3, h4⟩
  · by_cases hj : j = i
    · subst hj
      rw [List.getElem?_set_self hl] at hs
      cases hs
      exact ⟨st', v, ev, q1⟩
    · rw [List.getElem?_set_ne (fun e => hj e.symm)] at hs
      have q := o.sl j s hs
      cases s with
      | no => trivial
      | fz f => obtain ⟨st1, v1, e1, p1⟩ := q; exact ⟨st1, v1, e1, st1 _ _ _ q2.f p1⟩
      | mo m2 =>
        obtain ⟨st2, v2, e2, p2⟩ := q
        refine ⟨st2, v2, e2, st2 _ _ _ _ _ _ q2.f (fun a ha => ?_) p2⟩
        obtain ⟨_, _, u, h3, _⟩ := o.at_ j a ha
        rw [h3, q2.h a u (fun z => hj (o.dj j i a ha z)) h3]

/-! ### towns -/
structure TSt where
  many : Int
  built : Int
  held : List (Int × Int × Int)
/-- the attributes, in the order in which __init__ stores them -/
def tf (n b : Int) (d : Addr) : List (Str × V) := [("many", .int n), ("built", .int b), ("held", .ref d)]
def heldD (h : List (Int × Int × Int)) : List (Int × PyData) := h.map fun p => (p.1, pairD p.2)
def e0 : Hp := fun _ => none
def isTown (K : PySem.W.Frag) (C : Addr) (st : TSt) : Pd := fun H v => ∃ t dx d kv, v = .ref t ∧ H t = some (.ins C dx (tf st.many st.built d)) ∧ H d = some (.dK kv) ∧ KvAll K e0 H kv (heldD st.held)
theorem st_isTown {K : PySem.W.Frag} {C : Addr} {st : TSt} : Stab (isTown K C st) := fun F F' v s ⟨t, dx, d, kv, h1, h2, h3, h4⟩ => ⟨t, dx, d, kv, h1, s _ _ h2, s _ _ h3, kvAll_mono s h4⟩
/-- an owned town -/
def mtP (K : PySem.W.Frag) (C : Addr) (st : TSt) : Hp → Hp → V → List Addr → Prop := fun F H v as => ∃ t dx d kv, v = .ref t ∧ as = [t, d] ∧ H t = some (.ins C dx (tf st.many st.built d)) ∧ H d = some (.dK kv) ∧ KvAll K e0 F kv (heldD st.held)
theorem st_mt {K : PySem.W.Frag} {C : Addr} {st : TSt} : MStab (mtP K C st) := fun F F' H H' v as s e ⟨t, dx, d, kv, h1, h2, h3, h4, h5⟩ => by
  subst h2
  exact ⟨t, dx, d, kv, h1, rfl, by rw [e t (by simp)]; exact h3, by rw [e d (by simp)]; exact h4, kvAll_mono s h5⟩
abbrev mt (K : PySem.W.Frag) (C : Addr) (st : TSt) : Sl := .mo (mtP K C st)
/-- a town as it should be: what the methods keep -/
structure TOk (st : TSt) : Prop where
  lo : 1 ≤ st.many
  hi : st.many ≤ 16
  b0 : 0 ≤ st.built
  b1 : st.built ≤ 100000
  keys : st.held.Pairwise fun p q => p.1 < q.1
  rng : ∀ p ∈ st.held, 0 ≤ p.1 ∧ p.1 < st.built ∧ 0 ≤ p.2.1 ∧ p.2.1 < st.many ∧ 0 ≤ p.2.2 ∧ p.2.2 < st.many ∧ p.2.1 ≠ p.2.2
  few : st.held.length ≤ 60
theorem ks1 : ¬ (("many" : Str) = "built") := by decide +kernel
theorem ks2 : ¬ (("many" : Str) = "held") := by decide +kernel
theorem ks3 : ¬ (("built" : Str) = "held") := by decide +kernel
theorem tf_many {n b : Int} {d : Addr} : (tf n b d).lookup ("many" : Str) = some (.int n) := by
  simp only [tf, List.lookup_cons, show (("many" : Str) == "many") = true from by decide +kernel]
theorem tf_built {n b : Int} {d : Addr} : (tf n b d).lookup ("built" : Str) = some (.int b) := by
  simp only [tf, List.lookup_cons, show (("built" : Str) == "many") = false from by decide +kernel, show (("built" : Str) == "built") = true from by decide +kernel]
theorem tf_held {n b : Int} {d : Addr} : (tf n b d).lookup ("held" : Str) = some (.ref d) := by
  simp only [tf, List.lookup_cons, show (("held" : Str) == "many") = false from by decide +kernel, show (("held" : Str) == "built") = false from by decide +kernel, show (("held" : Str) == "held") = true from by decide +kernel]
theorem tf_no {n b : Int} {d : Addr} {m : Str} (h1 : (m == ("many" : Str)) = false) (h2 : (m == ("built" : Str)) = false) (h3 : (m == ("held" : Str)) = false) : (tf n b d).lookup m = none := by
  simp only [tf, List.lookup_cons, h1, h2, h3]
  rfl
theorem tf_put {n b c : Int} {d : Addr} : putF "built" (.int c) (tf n b d) = tf n c d := by
  show (if ("many" : Str) = "built" then _ else (("many" : Str), V.int n) :: (if ("built" : Str) = "built" then (("built" : Str), V.int c) :: [(("held" : Str), V.ref d)] else _)) = _
  rw [if_neg ks1, if_pos rfl]
  rfl
section
variable {K : PySem.W.Frag} {B F0 : Hp} {ρ : List Sl} {te ta tb tc : TE} {d e : PyData} {ds es : List PyData} {f : Pd} {C : Addr} {st : TSt}
theorem town_in {m : Str} (h1 : (m == ("many" : Str)) = false) (h2 : (m == ("built" : Str)) = false) (h3 : (m == ("held" : Str)) = false) : ∀ H v, isTown K C st H v → ∃ a dx fl, v = .ref a ∧ H a = some (.ins C dx fl) ∧ fl.lookup m = none := fun H v ⟨t, dx, d, kv, e, h, _⟩ =>
  ⟨t, dx, _, e, h, tf_no h1 h2 h3⟩
theorem evh_town {i : Nat} (h : ρ[i]? = some (.fz (isTown K C st))) : EvH B F0 ρ (tVar i) (isTown K C st) := evh_fz st_isTown h
theorem evh_mt {i : Nat} (h : ρ[i]? = some (mt K C st)) : EvH B F0 ρ (tVar i) (isTown K C st) := fun F H σ c Q q => by
  obtain ⟨w, o⟩ := c.own
  obtain ⟨_, v, h1, t, dx, d, kv, rfl, _, h4, h5, h6⟩ := o.sl i _ h
  exact ⟨_, h1, q _ F H (Gr.refl c.i) ⟨t, dx, d, kv, rfl, h4, h5, kvAll_mono c.i h6⟩⟩
/-- the town's own fields -/
theorem ev_many (cl : Cls K C) (na : NoAttr K C "many") (ha : EvH B F0 ρ ta (isTown K C st)) : Ev B F0 ρ (tFld K ta "many") (nwd K B (.int st.many)) := fun F H σ c Q q =>
  ha F H σ c _ fun v F' H' g ⟨t, dx, d, kv, e, h, _⟩ => ⟨t, C, dx, _, _, e, h, cl, na, tf_many, q _ F' H' g (.int _)⟩
theorem ev_built (cl : Cls K C) (na : NoAttr K C "built") (ha : EvH B F0 ρ ta (isTown K C st)) : Ev B F0 ρ (tFld K ta "built") (nwd K B (.int st.built)) := fun F H σ c Q q =>
  ha F H σ c _ fun v F' H' g ⟨t, dx, d, kv, e, h, _⟩ => ⟨t, C, dx, _, _, e, h, cl, na, tf_built, q _ F' H' g (.int _)⟩
theorem evh_held (cl : Cls K C) (na : NoAttr K C "held") (ha : EvH B F0 ρ ta (isTown K C st)) : EvH B F0 ρ (tFld K ta "held") (isDict K (heldD st.held)) := fun F H σ c Q q =>
  ha F H σ c _ fun v F' H' g ⟨t, dx, d, kv, e, h, h2, h3⟩ => ⟨t, C, dx, _, _, e, h, cl, na, tf_held, q _ F' H' g ⟨d, kv, rfl, .inl h2, e0, h3⟩⟩
/-- sorted(a dict), its keys already rising -/
theorem pw_perm {ns ms : List Int} (p : ms.Perm ns) (h1 : ms.Pairwise (· ≤ ·)) (h2 : ns.Pairwise (· < ·)) : ms = ns :=
  List.Perm.eq_of_pairwise (le := (· ≤ ·)) (fun a b _ _ h1 h2 => Int.le_antisymm h1 h2) h1 (h2.imp fun h => Int.le_of_lt h) p
end
end Lay
namespace Lay
open PySem L2 PySem.Spec PyProof.Rows
/-! the layer's rules with the written part named (within a comprehension's block it is the def's) -/
section
variable {X : Cx} (K : PySem.W.Frag) {te ta tb : TE} {e o a b : Expr} {es : List Expr} {f : Str} {pos apos : Pos} {t : TA}
theorem kop_catA (hK : X.K = K := by rfl) : OpR X (binaryOp .Add) (rCatA K) := hK ▸ op_catA
theorem kop_in_seq (hK : X.K = K := by rfl) : OpR X (compareOp .In) (rIn K false) := hK ▸ op_in_seq
theorem kop_notIn_seq (hK : X.K = K := by rfl) : OpR X (compareOp .NotIn) (rIn K true) := hK ▸ op_notIn_seq
theorem kop_eqD (hu : X.A.units + 64 < cLine) (hK : X.K = K := by rfl) : OpR X (compareOp .Eq) (rEqD K) := hK ▸ op_eqD hu
theorem kop_neD (hu : X.A.units + 64 < cLine) (hK : X.K = K := by rfl) : OpR X (compareOp .NotEq) (rNeD K) := hK ▸ op_neD hu
theorem kop_inD (hu : X.A.units + 65 < cLine) (hK : X.K = K := by rfl) : OpR X (compareOp .In) (rInD K) := hK ▸ op_inD hu
theorem kop_notInD (hu : X.A.units + 65 < cLine) (hK : X.K = K := by rfl) : OpR X (compareOp .NotIn) (rNotInD K) := hK ▸ op_notInD hu
theorem kix_list (hK : X.K = K := by rfl) : IxR X (rIxL K) := hK ▸ ix_list
theorem kix_tup (hK : X.K = K := by rfl) : IxR X (rIxT K) := hK ▸ ix_tup
theorem ksl_list (hK : X.K = K := by rfl) : SlR X (rSlL K) := hK ▸ sl_list
theorem ksl_tup (hK : X.K = K := by rfl) : SlR X (rSlT K) := hK ▸ sl_tup
theorem kcall_len_seq (hK : X.K = K := by rfl) : CallR X (.builtin "len") (fun xs H Q => ∃ p ys, xs = [.ref p] ∧ (SqL K H p ys ∨ SqT K H p ys) ∧ Q (.int ys.length) H) := hK ▸ call_len_seq
theorem kcall_list_of (hK : X.K = K := by rfl) : CallR X (.type "list") (fun xs H Q => ∃ p ys, xs = [.ref p] ∧ (SqL K H p ys ∨ SqT K H p ys) ∧ ∀ l, H l = none → Q (.ref l) (upd H l (.lst ys))) := hK ▸ call_list_of
theorem kcr_sorted (hK : X.K = K := by rfl) : CallR X (.builtin "sorted") (rSorted K) := hK ▸ cr_sorted
theorem kcall_isi (hK : X.K = K := by rfl) : CallR X (.builtin "isinstance") (rIsi K) := hK ▸ call_isi
theorem kpe_fld (he : PE X e ta) (hb : attributeBase e f X.env (eval e X.env) = eval e X.env) (hK : X.K = K := by rfl) : PE X (.Attribute e f pos) (tFld K ta f) := hK ▸ pe_fld he hb
theorem kpi_list {tg l : Expr} {tl : TE} (hl : PE X l tl) (hK : X.K = K := by rfl) : PI X tg l (iList K tl) := hK ▸ pi_list hl
theorem kpi_tup {tg l : Expr} {tl : TE} (hl : PE X l tl) (hK : X.K = K := by rfl) : PI X tg l (iTup K tl) := hK ▸ pi_tup hl
theorem kpg_tup {es : List Expr} {k : Nat} {t : TGs} (n : Nat) (hc : X.calm = true) (h : PGs X es t) (hn : (assignEach es X.env).length = n := by rfl) (hst : (assignEach es X.env).findIdx? (·.1) = none := by rfl) (hK : X.K = K := by rfl) : PG X (.Tuple es k pos) (gTup K n t) :=
  hK ▸ pg_tup hc h hn hst
theorem glob_int {n : Int} {x : Str} (hg : Gl X x) (h : ∃ t, X.mg x = some (.int n t)) (hd : (x == ("__debug__" : Str)) = false := by decide) : PE X (.Name x pos) (tC (.int n)) := by
  obtain ⟨t, h⟩ := h
  exact pe_glob hg h ⟨t, rfl⟩ hd
theorem glob_str {n : Str} {x : Str} (hg : Gl X x) (h : ∃ t, X.mg x = some (.str n t)) (hd : (x == ("__debug__" : Str)) = false := by decide) : PE X (.Name x pos) (tC (.str n)) := by
  obtain ⟨t, h⟩ := h
  exact pe_glob hg h ⟨t, rfl⟩ hd
/-- calls whose exceptions go on to the def's own wish -/
theorem ok_callP {k : Nat} {x : Str} {ps : List Str} {sp : Sp} {E : XK} {p : Pos} (tk : Takes X (fun cls d _ H => E cls d H)) (G : Ok X.prog X.w X.K X.mg X.base (L2.CX X.prog X.w) k x ps sp) (hr : Room k X.A) (hg : Gl X x) (ha : PA X (e :: es) t) (hdb : (x == ("__debug__" : Str)) = false := by decide)
    (he : starEach (e :: es) X.env = (false, eval e X.env) :: starEach es X.env := by rfl) (hpl : (backTo pos (starEach es X.env)).any (·.1) = false := by rfl) : PE X (.Call (.Name x p) (e :: es) [] pos) (tCall sp [] E t) := by
  obtain ⟨f, fd, F, hm, hk, hb⟩ := G.ex
  exact pe_call F hr hg hm hk hb .nil (passes_call tk fun _ _ _ _ h => h) ha hdb he hpl
theorem ok_methP {pl : Sem Bool} {k : Nat} {C : Addr} {m : Str} {ps : List Str} {sp : Sp} {E : XK} (tk : Takes X (fun cls d _ H => E cls d H)) (G : OkM X.prog X.w X.K X.mg X.base (L2.CX X.prog X.w) k C m ps sp) (hr : Room k X.A) (he : PE X o ta) (ha : PA X (e :: es) t)
    (hst : starEach (e :: es) X.env = (false, eval e X.env) :: starEach es X.env := by rfl) (hpl : (backTo pos (starEach es X.env)).any (·.1) = false := by rfl)
    (ht : eval (.Call (.Attribute o m apos) (e :: es) [] pos) X.env = (do
      let ov ← eval o X.env
      standAt apos.atName
      let (f, first) ← holding [ov] (getMethod ov m pl)
      callWith pos f first (backTo pos (starEach (e :: es) X.env)) (backToKw pos (keywordEach [] X.env))) := by rfl) : PE X (.Call (.Attribute o m apos) (e :: es) [] pos) (tMeth C m sp [] E ta t) := by
  obtain ⟨f, fd, F, hm, hc, hb⟩ := G.ex
  exact pe_meth he hc hm F hr hb .nil (passes_call tk fun _ _ _ _ h => h) ha hst hpl ht
/-- a class made by an __init__ that may raise -/
structure OkMk (P : Program) (w : World) (K : PySem.W.Frag) (mg : Str → Option Value) (base : Heap) (C : CXT) (k : Nat) (x : Str) (A : Addr) (ps : List Str) (sp : Sp) : Prop where
  ex : ∃ f fd, FnOk P w K mg base C k f fd ps sp ∧ Mk K A f ∧ mg x = some (.ref A) ∧ Binds K fd ps []
theorem ok_make {k : Nat} {x : Str} {C : Addr} {ps : List Str} {sp : Sp} {p : Pos} (G : OkMk X.prog X.w X.K X.mg X.base (L2.CX X.prog X.w) k x C ps sp) (hr : Room (k + 1) X.A) (hg : Gl X x) (ha : PA X (e :: es) t) (hdb : (x == ("__debug__" : Str)) = false := by decide)
    (he : starEach (e :: es) X.env = (false, eval e X.env) :: starEach es X.env := by rfl) (hpl : (backTo pos (starEach es X.env)).any (·.1) = false := by rfl) : PE X (.Call (.Name x p) (e :: es) [] pos) (tMake C sp [] E0 t) := by
  obtain ⟨f, fd, F, M, hm, hb⟩ := G.ex
  exact pe_make M F hr hg hm hb .nil passL ha hdb he hpl
theorem ok_makeP {k : Nat} {x : Str} {C : Addr} {ps : List Str} {sp : Sp} {p : Pos} {E : XK} (tk : Takes X (fun cls d _ H => E cls d H)) (G : OkMk X.prog X.w X.K X.mg X.base (L2.CX X.prog X.w) k x C ps sp) (hr : Room (k + 1) X.A) (hg : Gl X x) (ha : PA X (e :: es) t) (hdb : (x == ("__debug__" : Str)) = false := by decide)
    (he : starEach (e :: es) X.env = (false, eval e X.env) :: starEach es X.env := by rfl) (hpl : (backTo pos (starEach es X.env)).any (·.1) = false := by rfl) : PE X (.Call (.Name x p) (e :: es) [] pos) (tMake C sp [] E t) := by
  obtain ⟨f, fd, F, M, hm, hb⟩ := G.ex
  exact pe_make M F hr hg hm hb .nil (passes_call tk fun _ _ _ _ h => h) ha hdb he hpl
end
end Lay
namespace Lay
open PySem L2 PySem.Spec PyProof.Rows
section
variable {X : Cx} (K : PySem.W.Frag) {te : TE} {e a b : Expr} {pos p : Pos} {ta : TA}
theorem kpe_revL {k : Nat} {p1 p2 p3 : Pos} (he : PE X e te) (hK : X.K = K := by rfl) : PE X (.Subscript e (.Slice none none (some (.UnaryOp .USub (.Constant (.int 1) k p1) p2)) p3) pos) (tRevL K te) := hK ▸ pe_revL he
theorem kcr_all (hc : X.calm = true) (hK : X.K = K := by rfl) : CallR X (.builtin "all") (rAll K) := hK ▸ cr_all hc
theorem kcr_sum (hc : X.calm = true) (hK : X.K = K := by rfl) : CallR X (.builtin "sum") (rSum K) := hK ▸ cr_sum hc
theorem kcall_tuple_of (hK : X.K = K := by rfl) : CallR X (.type "tuple") (fun xs H Q => ∃ p ys, xs = [.ref p] ∧ ((SqL K H p ys ∧ ∀ l, H l = none → Q (.ref l) (upd H l (.tup ys))) ∨ (SqT K H p ys ∧ Q (.ref p) H))) := hK ▸ call_tuple_of
end
section
variable {K : PySem.W.Frag} {B F0 : Hp} {ρ ρ1 : List Sl} {te ta tb tc : TE} {d e : PyData} {ds es : List PyData} {f : Pd}
/-! any data, told as it may be read -/
theorem dpAll_app2 {F : Hp} {xs ys : List V} (h1 : DpAll K F xs ds) (h2 : DpAll K F ys es) : DpAll K F (xs ++ ys) (ds ++ es) := dpAll_app h1 h2
/-- xs + ys of new lists (both tracked) -/
theorem evm_cat (ha : Ev B F0 ρ ta (nwd K B (.list ds))) (hb : Ev B F0 ρ tb (nwd K B (.list es))) (hz : ds.length + es.length ≤ 100000) : EvM K B F0 ρ (tOp rCat ta tb) (ds ++ es) := fun F H σ c Q q =>
  ha F H σ c _ fun x F1 H1 g1 p1 => hb F1 H1 σ (c.go g1) _ fun y F2 H2 g2 p2 => by
    cases p1 with
    | @lst a xs _ _ a1 a2 =>
      cases p2 with
      | @lst b ys _ _ b1 b2 =>
        refine ⟨a, b, xs, ys, rfl, rfl, g2.i _ _ (g2.f _ _ a1), g2.i _ _ b1, sz_of (by rw [nwAll_len a2, nwAll_len b2]; exact hz), fun p hp => ?_⟩
        have g := g1.trans g2
        exact q p _ F2 _ (g.trans (Gr.new g.i hp)) (g.i.free hp) (g.fresh hp) upd_same (nwAll_app (nwAll_mono (Same.refl _) g2.f a2) b2)
/-- a list read now (tracked), its items said of what stands still -/
def EvN (K : PySem.W.Frag) (B F0 : Hp) (ρ : List Sl) (te : TE) (ds : List PyData) : Prop := ∀ F H σ, Cfg B F0 F H σ ρ → ∀ Q : VK, (∀ a xs F' H', Gr F H F' H' → H' a = some (.lst xs) → NwAll K B F' xs ds → Q (.ref a) H') → te σ H Q
theorem evn_ml {i : Nat} (h : ρ[i]? = some (ml K B ds)) : EvN K B F0 ρ (tVar i) ds := fun F H σ c Q q => by
  obtain ⟨w, o⟩ := c.own
  obtain ⟨_, v, h1, l, xs, rfl, _, h4, h5⟩ := o.sl i _ h
  exact ⟨_, h1, q l xs F H (Gr.refl c.i) h4 h5⟩
theorem Ev.n (h : Ev B F0 ρ te (nwd K B (.list ds))) : EvN K B F0 ρ te ds := fun F H σ c Q q => h F H σ c _ fun v F' H' g p => by
  cases p with
  | @lst a xs _ _ a1 a2 => exact q a xs F' H' g (g.i _ _ a1) a2
theorem EvM.n (h : EvM K B F0 ρ te ds) : EvN K B F0 ρ te ds := h.nw.n
theorem evm_catN (ha : EvN K B F0 ρ ta ds) (hb : EvN K B F0 ρ tb es) (hz : ds.length + es.length ≤ 100000) : EvM K B F0 ρ (tOp rCat ta tb) (ds ++ es) := fun F H σ c Q q =>
  ha F H σ c _ fun a xs F1 H1 g1 a1 a2 => hb F1 H1 σ (c.go g1) _ fun b ys F2 H2 g2 b1 b2 => by
    refine ⟨a, b, xs, ys, rfl, rfl, g2.h _ _ a1, b1, sz_of (by rw [nwAll_len a2, nwAll_len b2]; exact hz), fun p hp => ?_⟩
    have g := g1.trans g2
    exact q p _ F2 _ (g.trans (Gr.new g.i hp)) (g.i.free hp) (g.fresh hp) upd_same (nwAll_app (nwAll_mono (Same.refl _) g2.f a2) b2)
/-- list(xs), list(t): items without lists -/
theorem evm_listL (ha : EvH B F0 ρ ta (dat K (.list ds))) (fl : flatDs ds = true) : EvM K B F0 ρ (tCB (fun xs H Q => ∃ p ys, xs = [.ref p] ∧ (SqL K H p ys ∨ SqT K H p ys) ∧ ∀ l, H l = none → Q (.ref l) (upd H l (.lst ys))) (tCons ta tNil)) ds := fun F H σ c Q q =>
  (ha.nwl fl) F H σ c _ fun v F1 H1 g1 p1 => by
    obtain ⟨a, xs, rfl, q1, q2⟩ := p1
    exact ⟨a, xs, rfl, .inl q1, fun p hp => q p _ F1 _ (g1.trans (Gr.new g1.i hp)) (g1.i.free hp) (g1.fresh hp) upd_same q2⟩
theorem evm_listT (ha : EvH B F0 ρ ta (dat K (.tuple ds))) (fl : flatDs ds = true) : EvM K B F0 ρ (tCB (fun xs H Q => ∃ p ys, xs = [.ref p] ∧ (SqL K H p ys ∨ SqT K H p ys) ∧ ∀ l, H l = none → Q (.ref l) (upd H l (.lst ys))) (tCons ta tNil)) ds := fun F H σ c Q q =>
  (ha.nw (B := B) (show flatD (.tuple ds) = true from fl)) F H σ c _ fun v F1 H1 g1 p1 => by
    cases p1 with
    | @tup a xs _ q1 q2 => exact ⟨a, xs, rfl, .inr (sqt_mono g1.i q1), fun p hp => q p _ F1 _ (g1.trans (Gr.new g1.i hp)) (g1.i.free hp) (g1.fresh hp) upd_same q2⟩
/-- tuple(xs) of a list -/
theorem ev_tupleL (ha : Ev B F0 ρ ta (nwd K B (.list ds))) : Ev B F0 ρ (tCB (fun xs H Q => ∃ p ys, xs = [.ref p] ∧ ((SqL K H p ys ∧ ∀ l, H l = none → Q (.ref l) (upd H l (.tup ys))) ∨ (SqT K H p ys ∧ Q (.ref p) H))) (tCons ta tNil)) (nwd K B (.tuple ds)) := fun F H σ c Q q =>
  ha F H σ c _ fun v F1 H1 g1 p1 => by
    cases p1 with
    | @lst a xs _ _ a1 a2 =>
      refine ⟨a, xs, rfl, .inl ⟨.inl (.inl (g1.i _ _ a1)), fun p hp => ?_⟩⟩
      have g2 : Gr F H F1 (upd H1 p (.tup xs)) := g1.trans (Gr.new g1.i hp)
      obtain ⟨F3, g3, s, e⟩ := g2.putT (o := .tup xs) rfl upd_same
      exact q _ F3 _ g3 (.tup (.inl (.inl e)) (nwAll_mono (Same.refl _) s a2))
theorem ev_tupleN (ha : EvN K B F0 ρ ta ds) : Ev B F0 ρ (tCB (fun xs H Q => ∃ p ys, xs = [.ref p] ∧ ((SqL K H p ys ∧ ∀ l, H l = none → Q (.ref l) (upd H l (.tup ys))) ∨ (SqT K H p ys ∧ Q (.ref p) H))) (tCons ta tNil)) (nwd K B (.tuple ds)) := fun F H σ c Q q =>
  ha F H σ c _ fun a xs F1 H1 g1 a1 a2 => by
    refine ⟨a, xs, rfl, .inl ⟨.inl (.inl a1), fun p hp => ?_⟩⟩
    have g2 : Gr F H F1 (upd H1 p (.tup xs)) := g1.trans (Gr.new g1.i hp)
    obtain ⟨F3, g3, s, e⟩ := g2.putT (o := .tup xs) rfl upd_same
    exact q _ F3 _ g3 (.tup (.inl (.inl e)) (nwAll_mono (Same.refl _) s a2))
/-- xs[::-1] -/
theorem evm_rev (ha : EvH B F0 ρ ta (dat K (.list ds))) (fl : flatDs ds = true) : EvM K B F0 ρ (tRevL K ta) ds.reverse := fun F H σ c Q q =>
  (ha.nwl fl) F H σ c _ fun v F1 H1 g1 p1 => by
    obtain ⟨a, xs, rfl, q1, q2⟩ := p1
    exact ⟨a, xs, rfl, q1, fun p hp => q p _ F1 _ (g1.trans (Gr.new g1.i hp)) (g1.i.free hp) (g1.fresh hp) upd_same (nwAll_rev q2)⟩
/-- t[lo:hi], not the whole -/
theorem ev_sliceT {tl th : TO} {lo hi : Option Int} (h : EvH B F0 ρ te (dat K (.tuple ds))) (fl : flatDs ds = true) (h1 : EvO K B F0 ρ tl lo) (h2 : EvO K B F0 ρ th hi) (hw : ¬ (HT.sIx ds.length 0 lo = 0 ∧ HT.sIx ds.length ds.length hi = ds.length)) :
    Ev B F0 ρ (tSl (rSlT K) te tl th) (nwd K B (.tuple (cutD ds lo hi))) := fun F H σ c Q q =>
  (h.nw (B := B) (show flatD (.tuple ds) = true from fl)) F H σ c _ fun v F1 H1 g1 p1 => h1 F1 H1 σ (c.go g1) _ fun F2 H2 g2 => h2 F2 H2 σ ((c.go g1).go g2) _ fun F3 H3 g3 => by
    cases p1 with
    | @tup a xs _ q1 q2 =>
      have e : xs.length = ds.length := nwAll_len q2
      have g := g1.trans (g2.trans g3)
      refine ⟨a, xs, rfl, sqt_mono (g2.h.trans g3.h) (sqt_mono g1.i q1), by rw [e]; exact hw, fun p hp => ?_⟩
      have g4 : Gr F H F3 (upd H3 p (.tup (cutV xs lo hi))) := g.trans (Gr.new g.i hp)
      obtain ⟨F5, g5, s, e5⟩ := g4.putT (o := .tup (cutV xs lo hi)) rfl upd_same
      refine q _ F5 _ g5 (.tup (.inl (.inl e5)) ?_)
      unfold cutV cutD
      rw [e]
      exact nwAll_take _ (nwAll_drop _ (nwAll_mono (Same.refl _) ((g2.f.trans g3.f).trans s) q2))
/-- all of truths -/
theorem ev_all {bs : List Bool} (ha : EvH B F0 ρ ta (dat K (.list (bs.map .bool)))) : Ev B F0 ρ (tCB (rAll K) (tCons ta tNil)) (nwd K B (.bool (bs.all id))) := fun F H σ c Q q =>
  ha F H σ c _ fun v F1 H1 g1 p1 => by
    cases p1 with
    | lst h1 h2 =>
      rw [dpAll_bls h2] at h1
      exact ⟨_, bs, rfl, h1, q _ F1 H1 g1 (.bl _)⟩
/-- sum of ints -/
theorem ev_sum {ns : List Int} (ha : EvH B F0 ρ ta (dat K (intsD ns))) : Ev B F0 ρ (tCB (rSum K) (tCons ta tNil)) (nwd K B (.int ns.sum)) := fun F H σ c Q q =>
  ha F H σ c _ fun v F1 H1 g1 p1 => by
    cases p1 with
    | lst h1 h2 =>
      rw [dpAll_ints h2] at h1
      exact ⟨_, ns, rfl, h1, q _ F1 H1 g1 (.int _)⟩
/-- truths compared by is -/
theorem ev_isB {a c : Bool} (ha : EvH B F0 ρ ta (dat K (.bool a))) (hb : EvH B F0 ρ tb (dat K (.bool c))) : Ev B F0 ρ (tOp rIsB ta tb) (nwd K B (.bool (decide (a = c)))) :=
  evo st_dat ha hb (fun F => .bl _) fun H x y hx hy Q q => by
    cases hx; cases hy
    exact ⟨a, c, rfl, rfl, q⟩
theorem ev_notB {a c : Bool} (ha : EvH B F0 ρ ta (dat K (.bool a))) (hb : EvH B F0 ρ tb (dat K (.bool c))) : Ev B F0 ρ (tOp rNotB ta tb) (nwd K B (.bool (!decide (a = c)))) :=
  evo st_dat ha hb (fun F => .bl _) fun H x y hx hy Q q => by
    cases hx; cases hy
    exact ⟨a, c, rfl, rfl, q⟩
theorem ev_eqB {a b : Bool} (ha : EvH B F0 ρ ta (dat K (.bool a))) (hb : EvH B F0 ρ tb (dat K (.bool b))) : Ev B F0 ρ (tOp rEq ta tb) (nwd K B (.bool (decide (a = b)))) :=
  evo st_dat ha hb (fun F => .bl _) fun H x y hx hy Q q => by
    cases hx; cases hy
    refine ⟨rfl, ?_⟩
    have e : decide (V.bl a = V.bl b) = decide (a = b) := by cases a <;> cases b <;> rfl
    rw [e]; exact q
theorem ev_neB {a b : Bool} (ha : EvH B F0 ρ ta (dat K (.bool a))) (hb : EvH B F0 ρ tb (dat K (.bool b))) : Ev B F0 ρ (tOp rNe ta tb) (nwd K B (.bool (!decide (a = b)))) :=
  evo st_dat ha hb (fun F => .bl _) fun H x y hx hy Q q => by
    cases hx; cases hy
    refine ⟨rfl, ?_⟩
    have e : decide (V.bl a = V.bl b) = decide (a = b) := by cases a <;> cases b <;> rfl
    rw [e]; exact q
/-- isinstance of data -/
theorem ev_isiD {n : String} {r : Bool} (ha : EvH B F0 ρ ta (dat K d)) (hk : ∀ H v, Dp K H v d → ∃ t, TyX K H v t ∧ PySem.W.kitOne K t (.type n) = some r) : Ev B F0 ρ (tCB (rIsi K) (tCons ta (tCons (tC (.ty n)) tNil))) (nwd K B (.bool r)) := fun F H σ c Q q =>
  ha F H σ c _ fun x F1 H1 g1 p => by
    obtain ⟨t, ty, h⟩ := hk H1 x p
    exact isi_run t ty h (q _ F1 H1 g1 (.bl r))
/-- the name of a datum's class -/
def tyD : PyData → String
  | .none => "NoneType"
  | .bool _ => "bool"
  | .int _ => "int"
  | .str _ => "str"
  | .list _ => "list"
  | .tuple _ => "tuple"
  | .dict _ => "dict"
theorem tyx_sql {H : Hp} {a : Addr} {xs : List V} (k : SqL K H a xs) : TyX K H (.ref a) (.type "list") := by
  rcases k with (k | ⟨o, k⟩) | ⟨o, its, n, k, c, _⟩
  · exact .base (.lst k)
  · exact .base (.frz k)
  · exact .kList k c
theorem tyx_sqt {H : Hp} {a : Addr} {xs : List V} (k : SqT K H a xs) : TyX K H (.ref a) (.type "tuple") := by
  rcases k with (k | ⟨o, k⟩) | ⟨o, its, n, k, c, _⟩
  · exact .base (.tup k)
  · exact .fTuple k
  · exact .kTuple k c
theorem tyx_dp {H : Hp} {v : V} (h : Dp K H v d) : TyX K H v (.type (tyD d)) := by
  cases h with
  | non => exact .base .non
  | bl b => exact .base (.bl b)
  | int i => exact .base (.int i)
  | str x => exact .base (.str x)
  | lst h1 _ => exact tyx_sql h1
  | tup h1 _ => exact tyx_sqt h1
/-- a tuple of classes of their own names: int and bool apart -/
def isaB (n : String) (d : PyData) : Bool := tyD d == n || (n == "int" && tyD d == "bool")
theorem kit_isa (n : String) (hn : n = "int" ∨ n = "bool" ∨ n = "list" ∨ n = "tuple" ∨ n = "str") : kitB (tyD d) n = some (isaB n d) := by
  have key : ∀ m ∈ ["NoneType", "bool", "int", "str", "list", "tuple", "dict"], ∀ n ∈ ["int", "bool", "list", "tuple", "str"], kitB m n = some (m == n || (n == "int" && m == "bool")) := by decide +kernel
  have hm : tyD d ∈ ["NoneType", "bool", "int", "str", "list", "tuple", "dict"] := by cases d <;> simp [tyD]
  have hn2 : n ∈ ["int", "bool", "list", "tuple", "str"] := by
    rcases hn with h | h | h | h | h <;> rw [h] <;> simp
  exact key _ hm n hn2
theorem ev_isa {n : String} (ha : EvH B F0 ρ ta (dat K d)) (hn : n = "int" ∨ n = "bool" ∨ n = "list" ∨ n = "tuple" ∨ n = "str") : Ev B F0 ρ (tCB (rIsi K) (tCons ta (tCons (tC (.ty n)) tNil))) (nwd K B (.bool (isaB n d))) :=
  ev_isiD ha fun H v p => ⟨_, tyx_dp p, kb (kit_isa n hn)⟩
/-! walks over a tuple, over two lists at once -/
theorem evj_tupD (h : Ev B F0 ρ te (dat K (.tuple ds))) : EvJ B F0 ρ (iTup K te) (dat K) ds := fun F H σ c R r => h F H σ c _ fun v F' H' g p => by
  cases p with
  | @tup a xs _ h1 h2 =>
    refine ⟨a, rfl, ⟨xs, sqt_mono g.i h1⟩, r _ F' H' g ⟨fun i H2 hi s => ⟨xs, xs[i]'(by rw [dpAll_len h2]; exact hi), sqt_mono s h1, by simp [dpAll_len h2, hi]⟩, fun H2 s => ⟨xs, sqt_mono s h1, by rw [dpAll_len h2]; exact Nat.le_refl _⟩, fun i F2 H2 x H3 hi s1 s2 y => ?_⟩⟩
    obtain ⟨rfl, y⟩ := y
    obtain ⟨d, e1, e2⟩ := dpAll_getV h2 (y xs (sqt_mono (s1.trans s2) h1))
    exact ⟨F2, d, Gr.refl s2, e1, dp_mono s1 e2⟩
theorem evj_tupN (h : Ev B F0 ρ te (nwd K B (.tuple ds))) : EvJ B F0 ρ (iTup K te) (nwd K B) ds := fun F H σ c R r => h F H σ c _ fun v F' H' g p => by
  cases p with
  | @tup a xs _ h1 h2 =>
    refine ⟨a, rfl, ⟨xs, sqt_mono g.i h1⟩, r _ F' H' g ⟨fun i H2 hi s => ⟨xs, xs[i]'(by rw [nwAll_len h2]; exact hi), sqt_mono s h1, by simp [nwAll_len h2, hi]⟩, fun H2 s => ⟨xs, sqt_mono s h1, by rw [nwAll_len h2]; exact Nat.le_refl _⟩, fun i F2 H2 x H3 hi s1 s2 y => ?_⟩⟩
    obtain ⟨rfl, y⟩ := y
    obtain ⟨d, e1, e2⟩ := nwAll_getV h2 (y xs (sqt_mono (s1.trans s2) h1))
    exact ⟨F2, d, Gr.refl s2, e1, nw_mono (Same.refl _) s1 e2⟩
theorem evj_zip {α : Type} {e1 e2 : α → PyData} {ps : List α} (h1 : Ev B F0 ρ ta (dat K (.list (ps.map e1)))) (h2 : Ev B F0 ρ tb (dat K (.list (ps.map e2)))) : EvJ B F0 ρ (iZip K (tCons ta (tCons tb tNil))) (dat K) (ps.map fun p => .tuple [e1 p, e2 p]) := fun F H σ c R r =>
  h1 F H σ c _ fun v1 F1 H1 g1 p1 => h2 F1 H1 σ (c.go g1) _ fun v2 F2 H2 g2 p2 => by
    cases p1 with
    | @lst a xs _ a1 a2 =>
      cases p2 with
      | @lst b ys _ b1 b2 =>
        have g := g1.trans g2
        have lx : xs.length = ps.length := by rw [dpAll_len a2, List.length_map]
        have ly : ys.length = ps.length := by rw [dpAll_len b2, List.length_map]
        have sa2 : SqL K F2 a xs := g2.f.seq a1
        have w := walk_zip (K := K) (a := a) (b := b) (xs := xs) (ys := ys) (n := ps.length) (by rw [lx, ly]; simp)
        refine ⟨a, b, xs, ys, rfl, g.i.seq sa2, g.i.seq b1, r _ F2 H2 g ⟨fun i H3 hi s => w.goes i H3 (by simpa using hi) ⟨s.seq sa2, s.seq b1⟩, fun H3 s => by
          have := w.stops H3 ⟨s.seq sa2, s.seq b1⟩
          simpa using this, fun i F3 H3 x H4 hi s1 s2 y => ?_⟩⟩
        obtain ⟨T, x1, x2, rfl, hT, rfl, y1, y2⟩ := w.yields i H3 x H4 (by simpa using hi) ⟨(s1.trans s2).seq sa2, (s1.trans s2).seq b1⟩ y
        obtain ⟨d1, m1, m2⟩ := dpAll_getV a2 y1
        obtain ⟨d2, m3, m4⟩ := dpAll_getV b2 y2
        rw [List.getElem?_map] at m1 m3
        cases ep : ps[i]? with
        | none => rw [ep] at m1; cases m1
        | some p =>
          rw [ep] at m1 m3
          cases m1; cases m3
          obtain ⟨F5, g5, s, e⟩ := (Gr.new (o := .tup [x1, x2]) s2 hT).putT rfl upd_same
          refine ⟨F5, _, g5, by rw [List.getElem?_map, ep]; rfl, .tup (.inl (.inl e)) (.cons (dp_mono ((g2.f.trans s1).trans s) m2) (.cons (dp_mono (s1.trans s) m4) .nil))⟩
/-- targets of a tuple of any data -/
def BindLD (K : PySem.W.Frag) (B F0 : Hp) (g : TGs) (is : List Nat) (ds : List PyData) (ρ ρ' : List Sl) : Prop := ∀ F H σ xs, Cfg B F0 F H σ ρ → DpAll K F xs ds → ∀ Q : L2.St → Hp → Prop, (∀ σ', Cfg B F0 F H σ' ρ' → Only is σ σ' → Q σ' H) → g xs σ H Q
theorem bindld_nil : BindLD K B F0 gNil [] [] ρ ρ := fun F H σ xs k p Q q => by
  cases p
  exact ⟨rfl, q σ k ⟨rfl, fun _ _ => rfl⟩⟩
theorem bindld_cons {g : TG} {gs : TGs} {is js : List Nat} {ρ2 : List Sl} (h1 : Bind B F0 g is (dat K d) ρ ρ1) (h2 : BindLD K B F0 gs js ds ρ1 ρ2) : BindLD K B F0 (gCons g gs) (is ++ js) (d :: ds) ρ ρ2 := fun F H σ xs k p Q q => by
  cases p with
  | @cons v vs _ _ p1 p2 =>
    refine ⟨v, vs, rfl, h1 F H σ v k p1 _ fun σ1 k1 o1 => h2 F H σ1 vs k1 p2 _ fun σ2 k2 o2 => q σ2 k2 ⟨o2.1.trans o1.1, fun j hj => ?_⟩⟩
    rw [o2.2 j fun z => hj (List.mem_append.mpr (.inr z)), o1.2 j fun z => hj (List.mem_append.mpr (.inl z))]
theorem bind_tupD {gs : TGs} {is : List Nat} {n : Nat} (h : BindLD K B F0 gs is ds ρ ρ1) (hl : ds.length = n) : Bind B F0 (gTup K n gs) is (dat K (.tuple ds)) ρ ρ1 := fun F H σ x k p Q q => by
  cases p with
  | @tup a xs _ h1 h2 => exact ⟨a, xs, rfl, sqt_mono k.i h1, by rw [dpAll_len h2]; exact hl, h F H σ xs k h2 Q q⟩
/-- a dict handed back: new, tracked -/
def isDictT (K : PySem.W.Frag) (kvs : List (Int × PyData)) : Pd := fun H v => ∃ l kv, v = .ref l ∧ H l = some (.dK kv) ∧ KvAll K e0 H kv kvs
theorem st_isDictT {kvs : List (Int × PyData)} : Stab (isDictT K kvs) := fun _ _ _ s ⟨l, kv, h1, h2, h3⟩ => ⟨l, kv, h1, s _ _ h2, kvAll_mono s h3⟩
theorem ev_lenD {kvs : List (Int × PyData)} (ha : EvH B F0 ρ ta (isDictT K kvs)) : Ev B F0 ρ (tCB (fun xs H Q => ∃ a kvs, xs = [V.ref a] ∧ H a = some (.dK kvs) ∧ Q (.int kvs.length) H) (tCons ta tNil)) (nwd K B (.int kvs.length)) := fun F H σ c Q q =>
  ha F H σ c _ fun v F' H' g ⟨l, kv, e, h, a⟩ => ⟨l, kv, by rw [e], h, by rw [kv_len a]; exact q _ F' H' g (.int _)⟩
theorem kvAll_e0 {F : Hp} : ∀ {kv : List (Key × V)} {kvs : List (Int × PyData)}, KvAll K B F kv kvs → KvAll K e0 F kv kvs
  | _, _, .nil => .nil
  | _, _, .cons h a => .cons (nw_mono (B' := e0) (fun _ _ z => nomatch z) (Same.refl _) h) (kvAll_e0 a)
theorem evh_mdT {i : Nat} {kvs : List (Int × PyData)} (h : ρ[i]? = some (md K B kvs)) : EvH B F0 ρ (tVar i) (isDictT K kvs) := fun F H σ c Q q => by
  obtain ⟨w, o⟩ := c.own
  obtain ⟨_, v, h1, l, kv, rfl, _, h4, h5⟩ := o.sl i _ h
  exact ⟨_, h1, q _ F H (Gr.refl c.i) ⟨l, kv, rfl, h4, kvAll_mono c.i (kvAll_e0 h5)⟩⟩
theorem isDictT_d {kvs : List (Int × PyData)} {H : Hp} {v : V} (h : isDictT K kvs H v) : isDict K kvs H v := by
  obtain ⟨l, kv, e, h1, h2⟩ := h
  exact ⟨l, kv, e, .inl h1, e0, h2⟩
/-- {k: v}, one pair -/
theorem q_disp1 {D : Ends} {u : TS} {i : Nat} {k : Int} (hk : Ev B F0 ρ ta (nwd K B (.int k))) (hv : Ev B F0 ρ tb (nwd K B d)) (n : At B F0 (u D) (ρ.set i (md K B [(k, d)]))) : At B F0 (tSeq (tAsg (tDisp [(ta, tb)]) (gName i)) u D) ρ := fun F H σ c p hp => by
  have g0 : Gr F H F (upd H p (.dK [])) := Gr.new c.i hp
  refine hk F _ σ (c.go g0) _ fun x F1 H1 g1 p1 => hv F1 H1 σ ((c.go g0).go g1) _ fun y F2 H2 g2 p2 => ?_
  cases p1
  have hD := g2.h _ _ (g1.h _ _ upd_same)
  refine ⟨hD, [(Sum.inl k, y)], rfl, by simp, ?_⟩
  have g : Gr F H F2 H2 := g0.trans (g1.trans g2)
  have fD : F2 p = none := g2.n p _ (g1.h _ _ upd_same) rfl (g1.n p _ upd_same rfl (c.i.free hp))
  have em : mergeK [] [((Sum.inl k : Key), y)] = [((Sum.inl k : Key), y)] := rfl
  rw [em]
  have g3 : Gr F H F2 (upd H2 p (.dK [(Sum.inl k, y)])) := ⟨g.f, fun a o e => by rw [upd_ne (ne_of_none e hp)]; exact g.h a o e, fun a o e => by rw [upd_ne (ne_of_none e fD)]; exact g.i a o e, g.n⟩
  refine n F2 _ _ (c.setN (as := [p]) (m := mdP K B [(k, d)]) st_md g3 ⟨p, _, rfl, rfl, upd_same, .cons p2 .nil⟩ fun a ha => ?_)
  rw [List.mem_singleton.mp ha]
  exact ⟨fD, hp, _, upd_same, rfl⟩
end
end Lay
namespace Lay
open PySem L2 PySem.Spec PyProof.Rows
/-! the end: what the top has written -/
abbrev aOf {mg : Str → Option Value} {x : Str} {C : Addr} (_ : mg x = some (.ref C)) : Addr := C
abbrev kOf {K : PySem.W.Frag} {h : Heap} (_ : K.In h) : PySem.W.Frag := K
section
variable {K : PySem.W.Frag} {h : Heap} {mg : Str → Option Value} {x qual m : Str} {st : Stmt} {ps : List Str} {f C : Addr} {oc kV dc pm cd ct : Value} {od an : Option Addr} {sl : Array (Option Value)}
theorem dfn_mk (X : K.In h) (G : h.Ns mainGlobals mg) (a : PySem.W.nsIn K mainGlobals x = some (some (.ref f))) (l : K.lookup f = some ⟨oc, od, .func (PySem.W.fnOf x qual (defArgs st) (defBody st) (defScope st) .none kV dc pm an cd ct), sl⟩)
    (c : PySem.W.codeIn K cd qual = true) (k : PySem.W.keepIn K (.ref f) = true)
    (b : ∀ (kV doc pm : Value) (an : Option Addr) (cdv ct : Value) (us : List Value), us.length = ps.length → bindArgs (PySem.W.fnOf x qual (defArgs st) (defBody st) (defScope st) .none kV doc pm an cdv ct) ⟨us, []⟩ = pure (ps.zip us)) : Dfn K mg x qual st ps :=
  have F := fun_mk (st := st) l c k
  ⟨f, _, F, PySem.W.mg_of X G a, F.binds b⟩
theorem mfn_mk {cx : Str} (X : K.In h) (g : mg cx = some (.ref C)) (a : PySem.W.findIn K (.ref C) m = some (some (.ref f))) (i : PySem.W.isFn K (.ref f) = true) (l : K.lookup f = some ⟨oc, od, .func (PySem.W.fnOf m qual (defArgs st) (defBody st) (defScope st) .none kV dc pm an cd ct), sl⟩)
    (c : PySem.W.codeIn K cd qual = true) (k : PySem.W.keepIn K (.ref f) = true)
    (b : ∀ (kV doc pm : Value) (an : Option Addr) (cdv ct : Value) (us : List Value), us.length = ps.length → bindArgs (PySem.W.fnOf m qual (defArgs st) (defBody st) (defScope st) .none kV doc pm an cdv ct) ⟨us, []⟩ = pure (ps.zip us)) : Mfn K C m qual st ps :=
  have F := fun_mk (st := st) l c k
  ⟨f, _, F, ⟨a, i, k⟩, F.binds b⟩
/-- an __init__ that is found at the class -/
structure Ifn (K : PySem.W.Frag) (C : Addr) (qual : Str) (st : Stmt) (ps : List Str) : Prop where
  ex : ∃ f fd, Fun K "__init__" qual st f fd ∧ Mk K C f ∧ Binds K fd ps []
theorem ifn_mk {cx : Str} (X : K.In h) (g : mg cx = some (.ref C)) (mk : PySem.W.makesIn K C = true) (kc : PySem.W.keepIn K (.ref C) = true) (a : PySem.W.findIn K (.ref C) "__init__" = some (some (.ref f))) (i : PySem.W.isFn K (.ref f) = true) (l : K.lookup f = some ⟨oc, od, .func (PySem.W.fnOf "__init__" qual (defArgs st) (defBody st) (defScope st) .none kV dc pm an cd ct), sl⟩)
    (c : PySem.W.codeIn K cd qual = true) (k : PySem.W.keepIn K (.ref f) = true)
    (b : ∀ (kV doc pm : Value) (an : Option Addr) (cdv ct : Value) (us : List Value), us.length = ps.length → bindArgs (PySem.W.fnOf "__init__" qual (defArgs st) (defBody st) (defScope st) .none kV doc pm an cdv ct) ⟨us, []⟩ = pure (ps.zip us)) : Ifn K C qual st ps :=
  have F := fun_mk (st := st) l c k
  ⟨f, _, F, ⟨mk, a, i, kc⟩, F.binds b⟩
theorem with_cls {Gl : Prop} (X : K.In h) (G : h.Ns mainGlobals mg) (a : PySem.W.nsIn K mainGlobals x = some (some (.ref C))) (k : mg x = some (.ref C) → Gl) : Gl := k (PySem.W.mg_of X G a)
theorem cls_mk {cx : Str} (X : K.In h) (g : mg cx = some (.ref C)) (pg : PySem.W.plainGet K C Str.empty = true) (hd : PySem.W.hasDictIn K C = true) (po : PySem.W.plainOver K C = true) (sa : PySem.W.findIn K (.ref C) "__setattr__" = some (some (.builtin "object.__setattr__"))) : Cls K C := ⟨pg, hd, po, sa⟩
theorem noattr_mk {cx : Str} (X : K.In h) (g : mg cx = some (.ref C)) (a : PySem.W.findIn K (.ref C) m = some none) : NoAttr K C m := a
theorem none_mk (X : K.In h) (G : h.Ns mainGlobals mg) (a : PySem.W.nsIn K mainGlobals x = some none) : mg x = none := PySem.W.mg_none_of X G a
theorem mg_mk {v : Value} (X : K.In h) (G : h.Ns mainGlobals mg) (a : PySem.W.nsIn K mainGlobals x = some (some v)) : mg x = some v := PySem.W.mg_of X G a
theorem int_mk {n : Int} {t : Tok} (X : K.In h) (G : h.Ns mainGlobals mg) (a : PySem.W.nsIn K mainGlobals x = some (some (.int n t))) : ∃ t, mg x = some (.int n t) := ⟨t, PySem.W.mg_of X G a⟩
theorem str_mk {n : Str} {t : Tok} (X : K.In h) (G : h.Ns mainGlobals mg) (a : PySem.W.nsIn K mainGlobals x = some (some (.str n t))) : ∃ t, mg x = some (.str n t) := ⟨t, PySem.W.mg_of X G a⟩
theorem at_enter {N : List Str} {fs : List Pd} {H : Hp} {vs : List V} {M : L2.St → Hp → Prop} (ha : AOk fs H vs) (st : ∀ f ∈ fs, Stab f) (hl : fs.length ≤ N.length) (h : At H H M (enterR N.length fs)) : M (L2.start N vs) H := h H H _ (cfg_start ha st hl)
theorem cps {p q : Prop} (x : p) (k : p → q) : q := k x
end
theorem Cfg.setN2 {B F0 F H F' H' : Hp} {σ : L2.St} {ρ : List Sl} (c : Cfg B F0 F H σ ρ) {i j : Nat} (hij : i ≠ j) {v v' : V} {m m' : Hp → Hp → V → List Addr → Prop} {as as' : List Addr} (st : MStab m) (st' : MStab m') (g : Gr F H F' H') (h : m F' H' v as) (h' : m' F' H' v' as')
    (hn : ∀ a ∈ as, F' a = none ∧ H a = none ∧ ∃ o, H' a = some o ∧ isTup o = false) (hn' : ∀ a ∈ as', F' a = none ∧ H a = none ∧ ∃ o, H' a = some o ∧ isTup o = false) (hd : ∀ a ∈ as, a ∉ as') :
    Cfg B F0 F' H' ((σ.set i (some v)).set j (some v')) ((ρ.set i (.mo m)).set j (.mo m')) := by
  have c1 := c.setN (i := i) (v := v) st g h hn
  obtain ⟨w0, o0⟩ := c.own
  -- what stood in the slots: objects of H alone
  have oH : ∀ k a, a ∈ w0 k → ∃ u, H a = some u := fun k a ha => by
    obtain ⟨_, _, u, h3, _⟩ := o0.at_ k a ha
    exact ⟨u, h3⟩
  have old : ∀ k a, a ∈ w0 k → a ∉ as ∧ a ∉ as' := fun k a ha => by
    obtain ⟨u, hu⟩ := oH k a ha
    refine ⟨fun z => ?_, fun z => ?_⟩
    · have := (hn a z).2.1; rw [hu] at this; cases this
    · have := (hn' a z).2.1; rw [hu] at this; cases this
  refine ⟨(c.go g).gr, by simp [c.len], fun k => if k = j then as' else if k = i then as else w0 k, fun k l a h1 h2 => ?_, fun k a h1 => ?_, fun k s hs => ?_⟩
  · (try dsimp only at h1 h2)
    by_cases kj : k = j
    · by_cases lj : l = j
      · omega
      · rw [if_pos kj] at h1
        rw [if_neg lj] at h2
        split at h2
        · exact absurd h1 (hd a h2)
        · exact absurd h1 (old l a h2).2
    · rw [if_neg kj] at h1
      by_cases lj : l = j
      · rw [if_pos lj] at h2
        split at h1
        · exact absurd h2 (hd a h1)
        · exact absurd h2 (old k a h1).2
      · rw [if_neg lj] at h2
        split at h1 <;> split at h2
        · omega
        · exact absurd h1 (old l a h2).1
        · exact absurd h2 (old k a h1).1
        · exact o0.dj k l a h1 h2
  · (try dsimp only at h1)
    split at h1
    · obtain ⟨q1, q2, q3⟩ := hn' a h1
      exact ⟨q1, c.gr.fresh q2, q3⟩
    · split at h1
      · obtain ⟨q1, q2, q3⟩ := hn a h1
        exact ⟨q1, c.gr.fresh q2, q3⟩
      · obtain ⟨h1, h2, u, h3, h4⟩ := o0.at_ k a h1
        exact ⟨g.n a u h3 h4 h1, h2, u, g.h a u h3, h4⟩
  · (try dsimp only)
    by_cases kj : k = j
    · subst kj
      have hl : k < (ρ.set i (.mo m)).length := by
        have := (List.getElem?_eq_some_iff.mp hs).1
        simpa using this
      rw [List.getElem?_set_self hl] at hs
      cases hs
      rw [List.getElem?_set_self (by rw [List.length_set, c.len]; simpa using hl), if_pos rfl]
      exact ⟨st', v', rfl, h'⟩
    · rw [if_neg kj, List.getElem?_set_ne (fun e => kj e.symm)]
      rw [List.getElem?_set_ne (fun e => kj e.symm)] at hs
      by_cases ki : k = i
      · subst ki
        have hl : k < ρ.length := by
          have := (List.getElem?_eq_some_iff.mp hs).1
          simpa using this
        rw [List.getElem?_set_self hl] at hs
        cases hs
        rw [List.getElem?_set_self (by rw [c.len]; exact hl), if_pos rfl]
        exact ⟨st, v, rfl, h⟩
      · rw [if_neg ki, List.getElem?_set_ne (fun e => ki e.symm)]
        rw [List.getElem?_set_ne (fun e => ki e.symm)] at hs
        have q := o0.sl k s hs
        cases s with
        | no => trivial
        | fz f => obtain ⟨st, v, e, p⟩ := q; exact ⟨st, v, e, st _ _ v g.f p⟩
        | mo m =>
          obtain ⟨st, v, e, p⟩ := q
          refine ⟨st, v, e, st _ _ _ _ _ _ g.f (fun a ha => ?_) p⟩
          obtain ⟨_, _, u, h3, _⟩ := o0.at_ k a ha
          rw [h3, g.h a u h3]
/-- an owned list is let stand still from now on -/
theorem Cfg.fix {K : PySem.W.Frag} {B F0 F H : Hp} {σ : L2.St} {ρ : List Sl} {ds : List PyData} (c : Cfg B F0 F H σ ρ) {i : Nat} (hi : ρ[i]? = some (ml K B ds)) : ∃ F', Cfg B F0 F' H σ (ρ.set i (sn K B (.list ds))) := by
  obtain ⟨w, o⟩ := c.own
  obtain ⟨_, v, e1, l, xs, rfl, ew, h4, h5⟩ := o.sl i _ hi
  have hl : i < ρ.length := (List.getElem?_eq_some_iff.mp hi).1
  obtain ⟨fl, bl, _, _, _⟩ := o.at_ i l (by rw [ew]; simp)
  have sF : Same F (upd F l (.lst xs)) := fun a u e => by rw [upd_ne (ne_of_none e fl)]; exact e
  refine ⟨upd F l (.lst xs), ⟨⟨c.gr.f.trans sF, c.gr.h, fun a u e => ?_, fun a u e t z => ?_⟩, by simp [c.len], fun k => if k = i then [] else w k, fun k j a h1 h2 => ?_, fun k a h1 => ?_, fun k s hs => ?_⟩⟩
  · by_cases ha : a = l
    · subst ha
      rw [upd_same] at e
      cases e
      exact h4
    · rw [upd_ne ha] at e
      exact c.i a u e
  · have ha : a ≠ l := fun q => by rw [q, bl] at e; cases e
    rw [upd_ne ha]
    exact c.gr.n a u e t z
  · (try dsimp only at h1 h2)
    split at h1
    · cases h1
    · split at h2
      · cases h2
      · exact o.dj k j a h1 h2
  · (try dsimp only at h1)
    split at h1
    · cases h1
    · rename_i ki
      obtain ⟨q1, q2, q3⟩ := o.at_ k a h1
      have ha : a ≠ l := fun q => ki (o.dj k i a h1 (by rw [ew, q]; simp))
      exact ⟨by rw [upd_ne ha]; exact q1, q2, q3⟩
  · (try dsimp only)
    by_cases ki : k = i
    · subst ki
      rw [List.getElem?_set_self hl] at hs
      cases hs
      exact ⟨st_nwd, _, e1, .lst bl upd_same (nwAll_mono (Same.refl _) sF h5)⟩
    · rw [if_neg ki]
      rw [List.getElem?_set_ne (fun e => ki e.symm)] at hs
      have q := o.sl k s hs
      cases s with
      | no => trivial
      | fz f => obtain ⟨st, v, e, p⟩ := q; exact ⟨st, v, e, st _ _ v sF p⟩
      | mo m =>
        obtain ⟨st, v, e, p⟩ := q
        exact ⟨st, v, e, st _ _ _ _ _ _ sF (fun a ha => rfl) p⟩
theorem at_fix {K : PySem.W.Frag} {B F0 : Hp} {ρ : List Sl} {ds : List PyData} {N : L2.St → Hp → Prop} (i : Nat) (hi : ρ[i]? = some (ml K B ds)) (k : At B F0 N (ρ.set i (sn K B (.list ds)))) : At B F0 N ρ := fun F H σ c => by
  obtain ⟨F', c'⟩ := c.fix hi
  exact k F' H σ c'
/-- a list that is tracked, whoever made it -/
theorem evn_e0 {K : PySem.W.Frag} {B F0 : Hp} {ρ : List Sl} {ds : List PyData} {i : Nat} (h : ρ[i]? = some (sn K e0 (.list ds))) (fl : flatDs ds = true) : EvN K B F0 ρ (tVar i) ds := fun F H σ c Q q => by
  obtain ⟨w, o⟩ := c.own
  obtain ⟨_, v, h1, p⟩ := o.sl i _ h
  cases p with
  | @lst a xs _ _ a1 a2 => exact ⟨_, h1, q a xs F H (Gr.refl c.i) (c.i _ _ a1) (dpAll_nw (nwAll_dp a2) fl)⟩
theorem evh_e0 {K : PySem.W.Frag} {B B' F0 : Hp} {ρ : List Sl} {d : PyData} {i : Nat} (h : ρ[i]? = some (sn K B' d)) : EvH B F0 ρ (tVar i) (nwd K e0 d) := fun F H σ c Q q => by
  obtain ⟨w, o⟩ := c.own
  obtain ⟨_, v, h1, p⟩ := o.sl i _ h
  exact ⟨_, h1, q _ F H (Gr.refl c.i) (nw_mono (B' := e0) (fun _ _ z => nomatch z) c.i p)⟩
theorem evh_mlE {K : PySem.W.Frag} {B B' F0 : Hp} {ρ : List Sl} {ds : List PyData} {i : Nat} (h : ρ[i]? = some (ml K B' ds)) : EvH B F0 ρ (tVar i) (nwd K e0 (.list ds)) := fun F H σ c Q q => by
  obtain ⟨w, o⟩ := c.own
  obtain ⟨_, v, h1, l, xs, rfl, _, h4, h5⟩ := o.sl i _ h
  exact ⟨_, h1, q _ F H (Gr.refl c.i) (.lst rfl h4 (nwAll_mono (B' := e0) (fun _ _ z => nomatch z) c.i h5))⟩
theorem cut_take {α : Type} (e : α → PyData) (xs : List α) {i : Int} (h : 0 ≤ i) : cutD (xs.map e) none (some i) = (xs.take i.toNat).map e := by
  have h1 : HT.sIx (xs.map e).length 0 none = 0 := rfl
  have h2 : HT.sIx (xs.map e).length (xs.map e).length (some i) = min i.toNat xs.length := by
    unfold HT.sIx
    simp only [List.length_map]
    first | omega | (split <;> omega) | (simp; omega)
  unfold cutD
  rw [h1, h2, List.drop_zero, Nat.sub_zero, ← List.map_take]
  congr 1
  by_cases h3 : i.toNat ≤ xs.length
  · rw [Nat.min_eq_left h3]
  · rw [Nat.min_eq_right (by omega), List.take_length, List.take_of_length_le (by omega)]
end Lay
namespace Lay
open PySem L2 PySem.Spec PyProof.Rows
def top (i : Nat) : Stmt := PySem.Challenge.pw_onewaytown_k06_ways_looked_at.main.body.getD i (.Pass ⟨0, 0, 0, 0⟩)
/-! short tactics: ev goes through a reading's parts as far as it can; bd binds a target -/
local macro_rules | `(tactic| walk_at "ev1") => `(tactic| first
  | with_reducible exact ev_int
  | with_reducible exact ev_bl
  | with_reducible exact ev_str
  | with_reducible exact ev_non
  | with_reducible refine' ev_var (by with_unfolding_all rfl)
  | with_reducible refine' evh_var (by with_unfolding_all rfl) (by first | exact rd_sn | exact rd_sa | exact rd_ml)
  | with_reducible refine' EvH.nw (evh_var (by with_unfolding_all rfl) (by first | exact rd_sn | exact rd_sa | exact rd_ml)) (by with_unfolding_all rfl)
  | with_reducible refine' evh_md (by with_unfolding_all rfl)
  | with_reducible refine' ev_ii ?_ ?_ (by rfl)
  | with_reducible refine' ev_ib ?_ ?_ (by rfl)
  | with_reducible refine' ev_ci ?_ ?_ ?_ (by rfl)
  | with_reducible refine' ev_call (α := Int × Int × Int × Int) (_, _, _, _) ?_ ?_
  | with_reducible refine' ev_call (α := Int × Int × Int) (_, _, _) ?_ ?_
  | with_reducible refine' ev_call (α := Int × Int) (_, _) ?_ ?_
  | with_reducible refine' ev_call (α := Int) _ ?_ ?_
  | with_reducible refine' ev_call (α := List Int) _ ?_ ?_
  | with_reducible refine' ev_min2 ?_ ?_
  | with_reducible refine' ev_max2 ?_ ?_
  | with_reducible refine' ev_lenL ?_
  | with_reducible refine' ev_eqI ?_ ?_
  | with_reducible refine' ev_neI ?_ ?_
  | with_reducible refine' ev_notV ?_
  | with_reducible refine' ev_neNil ?_ ?_
  | with_reducible refine' ev_eqNil ?_ ?_
  | with_reducible exact ok60_ints
  | with_reducible exact ok60_pairs
  | with_reducible exact ok60_rows
  | with_reducible exact ok60_intss
  | with_reducible refine' ev_tup ?_ (by simp)
  | with_reducible exact eas_nil
  | with_reducible refine' eas_cons ?_ ?_
  | with_reducible exact ea_nil
  | with_reducible refine' ea_cons st_dat ?_ ?_
  | with_reducible refine' et_B (K := by assumption) ?_
  | with_reducible refine' et_test (K := by assumption) ?_
  | with_reducible refine' et_not ?_
  | with_reducible refine' evj_enumX ?_
  | with_reducible refine' EvM.nw ?_
  | with_reducible refine' evm_lst ?_ (by simp)
  | with_reducible refine' Ev.hd ?_)
local macro_rules | `(tactic| walk_at "ev") => `(tactic| repeat' walk_at "ev1")
local macro_rules | `(tactic| walk_at "bd1") => `(tactic| first
  | with_reducible exact bind_name st_nwd
  | with_reducible exact bind_name st_dat
  | with_reducible exact bindl_nil
  | with_reducible refine' bindl_cons ?_ ?_
  | with_reducible refine' bind_tup ?_ (by with_unfolding_all rfl))
local macro_rules | `(tactic| walk_at "bd") => `(tactic| repeat' walk_at "bd1")
/-- side goals of numbers -/
local macro_rules | `(tactic| walk_at "num") => `(tactic| first | (show (0 : Int) < _; decide) | (show (0 : Int) < _; omega) | (unfold CMul; (try dsimp only); omega) | (unfold CDiv; (try dsimp only); omega) | (dsimp only; omega) | omega | trivial)
/-- the reading's start -/
local macro_rules | `(tactic| walk_at "go") => `(tactic| try dsimp only [cxOf, Cx.nox, Cx.wish])

abbrev s_w_mixed : Stmt := top 16
theorem sc_w_mixed : FnScope ["_law_cell", "_law_k"] ["_law_cell", "_law_k"] (defScope s_w_mixed) := ⟨rfl, rfl, rfl, by decide +kernel, rfl, by decide +kernel, by decide +kernel⟩
def mixedF (c k : Int) : Int := (c * (48271 + 2 * k * k) + 69621 * k + 11) % 2147483647 * 69621 % 2147483629
abbrev spMixed (K : PySem.W.Frag) : Sp := Fp K (fun x : Int × Int => 0 ≤ x.2 ∧ x.2 ≤ 100000) (fun x => [dat K (.int x.1), dat K (.int x.2)]) (fun x => .int (mixedF x.1 x.2))
theorem sq_small {k : Int} (h1 : 0 ≤ k) (h2 : k ≤ 100000) : 0 ≤ 2 * k * k ∧ 2 * k * k ≤ 20000000000 := by
  have e : 2 * k * k = 2 * (k * k) := Int.mul_assoc 2 k k
  have a : 0 ≤ k * k := Int.mul_nonneg h1 h1
  have b : k * k ≤ 100000 * 100000 := Int.mul_le_mul h2 h2 h1 (by decide)
  omega
theorem mixedF_pos (c k : Int) : 0 ≤ mixedF c k := Int.emod_nonneg _ (by decide)
theorem mixedF_lt (c k : Int) : mixedF c k < 2147483629 := Int.emod_lt_of_pos _ (by decide)
section
variable {P : Program} {w : World} {K : PySem.W.Frag} {mg : Str → Option Value} {base : Heap}
theorem ok_mixed (D : Dfn K mg "_law_mixed" "_law_mixed" s_w_mixed ["_law_cell", "_law_k"]) : Ok P w K mg base CX0 1 "_law_mixed" ["_law_cell", "_law_k"] (spMixed K) := by
  refine fp_ok D sc_w_mixed (by decide) (fun _ => rfl) (fun _ => stabC st_dat (stab1 st_dat)) (fun f cdv A outer s H E hr => ⟨_, (pss_one (ps_ret (pe_op op_mod (pe_op op_mul (pe_op op_mod (pe_op op_add (pe_op op_add (pe_op op_mul (pv 0) (pe_op op_add pe_int (pe_op op_mul (pe_op op_mul pe_int (pv 1)) (pv 1)))) (pe_op op_mul pe_int (pv 1))) pe_int) pe_int) pe_int) pe_int))), ?_⟩)
  rintro ⟨c, k⟩ ⟨h1, h2⟩ Q q
  dsimp only at h1 h2
  have hk := sq_small h1 h2
  refine' at_ret (d := .int (mixedF c k)) (ev_is (d := _) ?h ?e) q
  case h => walk_at "ev" <;> first | (show (0 : Int) < _; decide) | (unfold CMul; dsimp only; omega)
  case e => rfl
end

abbrev s_w_seed : Stmt := top 17
theorem sc_w_seed : FnScope ["_law_script", "_law_found", "_law_k", "_law_cell"] ["_law_script"] (defScope s_w_seed) := ⟨rfl, rfl, rfl, by decide +kernel, rfl, by decide +kernel, by decide +kernel⟩
def seedStep (a : Int) (p : Int × Nat) : Int := (a * 999983 + mixedF p.1 ((p.2 : Int) % 60)) % 2147483629
def seedF (ns : List Int) : Int := ns.zipIdx.foldl seedStep 7
abbrev spSeed (K : PySem.W.Frag) : Sp := Fp K (fun _ : List Int => True) (fun ns => [dat K (.list (ns.map .int))]) (fun ns => .int (seedF ns))
section
variable {P : Program} {w : World} {K : PySem.W.Frag} {mg : Str → Option Value} {base : Heap}
theorem ok_seed (Z : Zs mg) (G_w_mixed : Ok P w K mg base CX0 1 "_law_mixed" ["_law_cell", "_law_k"] (spMixed K)) (D : Dfn K mg "_law_seed" "_law_seed" s_w_seed ["_law_script"]) : Ok P w K mg base CX0 2 "_law_seed" ["_law_script"] (spSeed K) := by
  refine fp_ok D sc_w_seed (by decide) (fun _ => rfl) (fun _ => stab1 st_dat) (fun f cdv A outer s H E hr => ⟨_, (pss_cons (ps_set (i := 1) sc_w_seed.nd rfl (Or.inl rfl) pe_int)
    (pss_cons (ps_for PassesOwn.never rfl (pi_enum rfl Z.enumerate (pa_cons (pv 0) pa_nil)) (kpg_tup K 2 rfl (pgs_cons (pg_name (i := 2) sc_w_seed.nd rfl (Or.inl rfl)) (pgs_cons (pg_name (i := 3) sc_w_seed.nd rfl (Or.inl rfl)) pgs_nil)))
      (pss_one (ps_set (i := 1) sc_w_seed.nd rfl (Or.inl rfl) (pe_op op_mod (pe_op op_add (pe_op op_mul (pv 1) pe_int) (ok_call G_w_mixed (by exact hr.mono (by decide)) rfl (pa_cons (pv 3) (pa_cons (pe_op op_mod (pv 2) pe_int) pa_nil)))) pe_int))))
    (pss_one (ps_ret (pv 1))))), ?_⟩)
  rintro ns - Q q
  walk_at "go"
  refine' q_set K ?h0 (q_for (xs := ns.zipIdx) (e := fun p => .tuple [.int (p.2 : Int), .int p.1]) (EvJ.i (evj_enumXF ?h1 fun _ => rfl)) (fun pre ρ' => ∃ s1 s2, ρ' = [sa K (.list (ns.map .int)), sn K H (.int (pre.foldl seedStep 7)), s1, s2]) ?h2 ?h3 ?h4)
  case h0 => walk_at "ev"
  case h1 => walk_at "ev"
  case h2 => exact ⟨_, _, rfl⟩
  case h3 =>
    rintro F1 pre ⟨c, k⟩ post ρ' - ⟨s1, s2, rfl⟩
    refine' ⟨_, _, (by walk_at "bd"), ?_⟩
    refine' at_set (K := K) (ev_is (d := _) ?g1 ?g2) (at_lpD ?g3)
    case g1 => walk_at "ev" <;> walk_at "num"
    case g2 => exact (rfl : _ = PyData.int (seedStep (pre.foldl seedStep 7) (c, k)))
    case g3 => exact ⟨_, _, by rw [List.foldl_append] <;> rfl⟩
  case h4 =>
    rintro ρ' ⟨s1, s2, rfl⟩
    refine' at_ret (d := .int (seedF ns)) ?_ q
    walk_at "ev"
end

abbrev s_w_many : Stmt := top 20
theorem sc_w_many : FnScope ["_law_seed_here", "_law_most"] ["_law_seed_here", "_law_most"] (defScope s_w_many) := ⟨rfl, rfl, rfl, by decide +kernel, rfl, by decide +kernel, by decide +kernel⟩
def manyL : List Int := [1, 2, 3, 4, 5, 6, 7, 9, 12, 16]
def manyF (s most : Int) : Int := min most (manyL.getD (mixedF s 60 % 10).toNat 1)
theorem manyL_at {i : Int} (h1 : 0 ≤ i) (h2 : i < 10) : atI manyL i = some (manyL.getD i.toNat 1) := by
  refine atI_nn h1 ?_
  have h3 : i.toNat < manyL.length := by show i.toNat < 10; omega
  rw [List.getElem?_eq_getElem h3, List.getD_eq_getElem?_getD, List.getElem?_eq_getElem h3]
  rfl
theorem manyL_rng {n : Nat} : 1 ≤ manyL.getD n 1 ∧ manyL.getD n 1 ≤ 16 := by
  by_cases h : n < 10
  · have : ∀ m : Fin 10, 1 ≤ manyL.getD m.1 1 ∧ manyL.getD m.1 1 ≤ 16 := by decide
    exact this ⟨n, h⟩
  · have : manyL.getD n 1 = 1 := by
      rw [List.getD_eq_getElem?_getD, List.getElem?_eq_none (by show 10 ≤ n; omega)]
      rfl
    omega
abbrev spMany (K : PySem.W.Frag) : Sp := Fp K (fun _ : Int × Int => True) (fun x => [dat K (.int x.1), dat K (.int x.2)]) (fun x => .int (manyF x.1 x.2))
section
variable {P : Program} {w : World} {K : PySem.W.Frag} {mg : Str → Option Value} {base : Heap}
theorem ok_many (Z : Zs mg) (G_w_mixed : Ok P w K mg base CX0 1 "_law_mixed" ["_law_cell", "_law_k"] (spMixed K)) (D : Dfn K mg "_law_many" "_law_many" s_w_many ["_law_seed_here", "_law_most"]) : Ok P w K mg base CX0 2 "_law_many" ["_law_seed_here", "_law_most"] (spMany K) := by
  refine fp_ok D sc_w_many (by decide) (fun _ => rfl) (fun _ => stabC st_dat (stab1 st_dat)) (fun f cdv A outer s H E hr => ⟨_, (pss_one (ps_ret (pe_callB (call_min2 rfl) (by rfl) Z.min (by decide +kernel) (pa_cons (pv 1) (pa_cons (pe_ix (kix_list K) (pe_lst (pa_cons pe_int (pa_cons pe_int (pa_cons pe_int (pa_cons pe_int (pa_cons pe_int (pa_cons pe_int (pa_cons pe_int (pa_cons pe_int (pa_cons pe_int (pa_cons pe_int pa_nil))))))))))) (pe_op op_mod (ok_call G_w_mixed (by exact hr.mono (by decide)) rfl (pa_cons (pv 0) (pa_cons pe_int pa_nil))) pe_int) (fun _ _ => rfl)) pa_nil))))), ?_⟩)
  rintro ⟨sd, most⟩ - Q q
  walk_at "go"
  refine' at_ret (d := .int (manyF sd most)) ?_ q
  have e : atI (manyL.map PyData.int) (mixedF sd 60 % 10) = some (.int (manyL.getD (mixedF sd 60 % 10).toNat 1)) := atI_map _ (manyL_at (Int.emod_nonneg _ (by decide)) (Int.emod_lt_of_pos _ (by decide)))
  refine' ev_min2 (a := most) (b := manyL.getD (mixedF sd 60 % 10).toNat 1) ?_ (Ev.hd (ev_pick (ds := [.int 1, .int 2, .int 3, .int 4, .int 5, .int 6, .int 7, .int 9, .int 12, .int 16]) ?_ (by decide) ?_ e))
  all_goals walk_at "ev"
  all_goals walk_at "num"
end

abbrev s_w_ends : Stmt := top 18
theorem sc_w_ends : FnScope ["_law_many_here", "_law_way", "_law_k", "_law_number", "_law_one", "_law_other", "_law_same", "_law_place"] ["_law_many_here", "_law_way", "_law_k", "_law_number"] (defScope s_w_ends) := ⟨rfl, rfl, rfl, by decide +kernel, rfl, by decide +kernel, by decide +kernel⟩
def rangeI (n : Int) : List Int := (List.range n.toNat).map fun i : Nat => 0 + (i : Int)
theorem rangeD_eq (n : Int) : rangeD 0 n.toNat = (rangeI n).map PyData.int := by
  unfold rangeD rangeI
  rw [List.map_map]
  rfl
theorem mem_rangeI {n x : Int} : x ∈ rangeI n ↔ 0 ≤ x ∧ x < n := by
  unfold rangeI
  rw [List.mem_map]
  constructor
  · rintro ⟨i, hi, rfl⟩
    rw [List.mem_range] at hi
    omega
  · intro h
    exact ⟨x.toNat, List.mem_range.mpr (by omega), by omega⟩
theorem rangeI_len (n : Int) : (rangeI n).length = n.toNat := by simp [rangeI]
def sameF (n one : Int) : List Int := (rangeI n).filter fun p => decide (p % 2 = one % 2) && !decide (p = one)
def endsF (n way k m : Int) : Int × Int :=
  if way = 1 ∧ k + 1 < n then (k + 1, m % (k + 1))
  else if way = 2 then (if (sameF n (m % n)).isEmpty then (m % n, (m % n + 1 + m / 20 % (n - 1)) % n) else (m % n, (sameF n (m % n)).getD (m / 20 % ((sameF n (m % n)).length : Int)).toNat 0))
  else if way = 3 then (m % n, (m % n + 1 + m / 20 % 2 * (n - 2)) % n)
  else (m % n, (m % n + 1 + m / 20 % (n - 1)) % n)
abbrev spEnds (K : PySem.W.Frag) : Sp := Fp K (fun x : Int × Int × Int × Int => 2 ≤ x.1 ∧ x.1 ≤ 16 ∧ 0 ≤ x.2.2.1 ∧ x.2.2.1 ≤ 100000) (fun x => [dat K (.int x.1), dat K (.int x.2.1), dat K (.int x.2.2.1), dat K (.int x.2.2.2)]) (fun x => pairD (endsF x.1 x.2.1 x.2.2.1 x.2.2.2))
section
variable {P : Program} {w : World} {K : PySem.W.Frag} {mg : Str → Option Value} {base : Heap}
theorem ok_ends (Z : Zs mg) (D : Dfn K mg "_law_ends" "_law_ends" s_w_ends ["_law_many_here", "_law_way", "_law_k", "_law_number"]) : Ok P w K mg base CX0 1 "_law_ends" ["_law_many_here", "_law_way", "_law_k", "_law_number"] (spEnds K) := by
  refine fp_ok D sc_w_ends (by decide) (fun _ => rfl) (fun _ => stabC st_dat (stabC st_dat (stabC st_dat (stab1 st_dat)))) (fun f cdv A outer s H E hr => ⟨_, (pss_cons (ps_set (i := 4) sc_w_ends.nd rfl (Or.inr rfl) (pe_op op_mod (pv 3) (pv 0)))
    (pss_cons (ps_set (i := 5) sc_w_ends.nd rfl (Or.inl rfl) (pe_op op_mod (pe_op op_add (pe_op op_add (pv 4) pe_int) (pe_op op_mod (pe_op op_fdiv (pv 3) pe_int) (pe_op op_sub (pv 0) pe_int))) (pv 0)))
    (pss_cons (ps_if (PW.pt (pw_and (pt_cmpR op_eq (pv 1) pe_int (nomark _)) (pw_and1 (pt_cmpR op_lt (pe_op op_add (pv 2) pe_int) (pv 0) (nomark _))))) (pss_one (ps_ret (pe_tup (pa_cons (pe_op op_add (pv 2) pe_int) (pa_cons (pe_op op_mod (pv 3) (pe_op op_add (pv 2) pe_int)) pa_nil))))) pss_nil)
    (pss_cons (ps_if (pt_cmpR op_eq (pv 1) pe_int (nomark _)) (pss_cons (ps_setLc (i := 6) (own := [("_law_place", 7)]) rfl sc_w_ends.nd rfl rfl (sw_true rfl rfl rfl (by decide +kernel)) (pi_range1 rfl Z.range (pa_cons (pv 0) pa_nil)) (blkOk_by (by dsimp only [cxOf, Cx.nox, Cx.wish, compEnvC, envOfC]; decide +kernel)) (fun _ _ _ _ _ => (pg_name (i := 7) sc_w_ends.nd rfl (Or.inl rfl))) (fun _ _ _ _ _ => (pts_one (PW.pt (pw_and (pt_cmpR op_eq (pe_op op_mod (pv 7) pe_int) (pe_op op_mod (pv 4) pe_int) (nomark _)) (pw_and1 (pt_cmpR op_ne (pv 7) (pv 4) (nomark _))))))) (fun _ _ _ _ _ => (pv 7)))
    (pss_one (ps_ret (pe_ifExp (pt_cmpR (kop_neD K (by exact hr.units)) (pv 6) (pe_lst pa_nil) (nomark _)) (pe_tup (pa_cons (pv 4) (pa_cons (pe_ix (kix_list K) (pv 6) (pe_op op_mod (pe_op op_fdiv (pv 3) pe_int) (pe_callB (kcall_len_seq K) (by rfl) Z.len PySem.boot_len (pa_cons (pv 6) pa_nil))) (fun _ _ => rfl)) pa_nil))) (pe_tup (pa_cons (pv 4) (pa_cons (pv 5) pa_nil))))))) pss_nil)
    (pss_cons (ps_if (pt_cmpR op_eq (pv 1) pe_int (nomark _)) (pss_one (ps_ret (pe_tup (pa_cons (pv 4) (pa_cons (pe_op op_mod (pe_op op_add (pe_op op_add (pv 4) pe_int) (pe_op op_mul (pe_op op_mod (pe_op op_fdiv (pv 3) pe_int) pe_int) (pe_op op_sub (pv 0) pe_int))) (pv 0)) pa_nil))))) pss_nil)
    (pss_one (ps_ret (pe_tup (pa_cons (pv 4) (pa_cons (pv 5) pa_nil)))))))))), ?_⟩)
  rintro ⟨n, way, k, m⟩ ⟨h1, h2, h3, h4⟩ Q q
  dsimp only at h1 h2 h3 h4
  walk_at "go"
  refine' q_set K ?a1 (q_set K ?a2 ?a3)
  case a1 => walk_at "ev" <;> walk_at "num"
  case a2 => walk_at "ev" <;> walk_at "num"
  refine q_when (c := decide (way = 1) && decide (k + 1 < n)) (et_and ?b1 fun _ => ?b2) (fun c1 => ?b3) (fun c1 => ?b4)
  case b1 => walk_at "ev"
  case b2 => walk_at "ev"
  case b3 =>
    have c2 : way = 1 ∧ k + 1 < n := by simpa using c1
    have e : endsF n way k m = (k + 1, m % (k + 1)) := by unfold endsF; rw [if_pos c2]
    rw [e] at q
    refine' at_ret (d := pairD (k + 1, m % (k + 1))) ?_ q
    walk_at "ev" <;> walk_at "num"
  case b4 =>
  have c2 : ¬ (way = 1 ∧ k + 1 < n) := by simpa using c1
  refine q_when (c := decide (way = 2)) ?d1 (fun c3 => ?d2) (fun c3 => ?d3)
  case d1 => walk_at "ev"
  case d2 =>
    have c4 : way = 2 := by simpa using c3
    refine' q_setM K (evm_lc (xs := rangeI n) (e := PyData.int) (q := nwd K H) (fun p => decide (p % 2 = m % n % 2) && !decide (p = m % n)) PyData.int ?r1 ?r2 ?r3) ?r4
    case r1 =>
      rw [← rangeD_eq]
      refine evj_range1 ?_ (by omega)
      walk_at "ev"
    case r2 =>
      intro F1 x hx
      refine' ⟨_, _, (by walk_at "bd"), (by decide), et_and ?t1 fun _ => ?t2, fun _ => ?t3⟩
      case t1 => walk_at "ev" <;> walk_at "num"
      case t2 => walk_at "ev"
      case t3 => walk_at "ev"
    case r3 => rw [rangeI_len]; omega
    have es : ((rangeI n).filter fun p => decide (p % 2 = m % n % 2) && !decide (p = m % n)) = sameF n (m % n) := rfl
    rw [es]
    have hl : (sameF n (m % n)).length ≤ 16 := by
      have h := List.length_filter_le (fun p => decide (p % 2 = m % n % 2) && !decide (p = m % n)) (rangeI n)
      rw [rangeI_len, es] at h
      omega
    refine' at_ret (d := pairD (endsF n way k m)) (ev_if (c := !(sameF n (m % n)).isEmpty) ?u0 (fun c5 => ?u1) (fun c5 => ?u2)) q
    case u0 =>
      have e : (!(sameF n (m % n)).isEmpty) = (!((sameF n (m % n)).map PyData.int).isEmpty) := by simp
      rw [e]
      walk_at "ev"
    case u1 =>
      have c6 : ¬ (sameF n (m % n)).isEmpty = true := by simpa using c5
      have hp : 0 < (sameF n (m % n)).length := by
        cases hz : sameF n (m % n) with
        | nil => rw [hz] at c6; exact absurd rfl c6
        | cons a r => simp
      have e : endsF n way k m = (m % n, (sameF n (m % n)).getD (m / 20 % ((sameF n (m % n)).length : Int)).toNat 0) := by
        unfold endsF
        rw [if_neg c2, if_pos c4, if_neg c6]
      rw [e]
      have e2 : atI ((sameF n (m % n)).map PyData.int) (m / 20 % (((sameF n (m % n)).map PyData.int).length : Int)) = some (.int ((sameF n (m % n)).getD (m / 20 % ((sameF n (m % n)).length : Int)).toNat 0)) := by
        rw [List.length_map]
        have g1 : 0 ≤ m / 20 % ((sameF n (m % n)).length : Int) := Int.emod_nonneg _ (by omega)
        have g2 : m / 20 % ((sameF n (m % n)).length : Int) < ((sameF n (m % n)).length : Int) := Int.emod_lt_of_pos _ (by omega)
        refine atI_map _ (atI_nn g1 ?_)
        rw [List.getD_eq_getElem?_getD, List.getElem?_eq_getElem (by omega)]
        rfl
      refine' ev_tup (eas_cons ?w1 (eas_cons (ev_ixF ?w2 ?w3 e2 rfl) eas_nil)) (by simp)
      case w1 => walk_at "ev"
      case w2 => walk_at "ev"
      case w3 => walk_at "ev" <;> first | (show (0 : Int) < _; rw [List.length_map]; omega) | walk_at "num"
    case u2 =>
      have c6 : (sameF n (m % n)).isEmpty = true := by simpa using c5
      have e : endsF n way k m = (m % n, (m % n + 1 + m / 20 % (n - 1)) % n) := by
        unfold endsF
        rw [if_neg c2, if_pos c4, if_pos c6]
      rw [e]
      walk_at "ev"
  case d3 =>
    have c4 : ¬ way = 2 := by simpa using c3
    refine q_when (c := decide (way = 3)) ?f1 (fun c5 => ?f2) (fun c5 => ?f3)
    case f1 => walk_at "ev"
    case f2 =>
      have c6 : way = 3 := by simpa using c5
      have e : endsF n way k m = (m % n, (m % n + 1 + m / 20 % 2 * (n - 2)) % n) := by
        unfold endsF
        rw [if_neg c2, if_neg c4, if_pos c6]
      rw [e] at q
      refine' at_ret ?_ q
      walk_at "ev" <;> walk_at "num"
    case f3 =>
      have c6 : ¬ way = 3 := by simpa using c5
      have e : endsF n way k m = (m % n, (m % n + 1 + m / 20 % (n - 1)) % n) := by
        unfold endsF
        rw [if_neg c2, if_neg c4, if_neg c6]
      rw [e] at q
      refine' at_ret ?_ q
      walk_at "ev"
end

abbrev s_w_pairs : Stmt := top 19
theorem sc_w_pairs : FnScope ["_law_script", "_law_seed_here", "_law_many_here", "_law_most", "_law_way", "_law_far", "_law_found", "_law_k", "_law_cell"] ["_law_script", "_law_seed_here", "_law_many_here", "_law_most"] (defScope s_w_pairs) := ⟨rfl, rfl, rfl, by decide +kernel, rfl, by decide +kernel, by decide +kernel⟩
def farF (sd n most : Int) : Int := [n, n + 3, most, 2 * n].getD (mixedF sd 2 % 4).toNat 0
def pairsF (script : List Int) (sd n most : Int) : List (Int × Int) :=
  if n = 1 then [] else (script.take (min (farF sd n most) most).toNat).zipIdx.map fun p => endsF n (mixedF sd 1 % 5) (p.2 : Int) (mixedF p.1 (3 + (p.2 : Int) % 50))
abbrev spPairs (K : PySem.W.Frag) : Sp := Fp K (fun x : List Int × Int × Int × Int => x.1.length ≤ 63 ∧ 1 ≤ x.2.2.1 ∧ x.2.2.1 ≤ 16 ∧ 0 ≤ x.2.2.2 ∧ x.2.2.2 ≤ 60) (fun x => [dat K (intsD x.1), dat K (.int x.2.1), dat K (.int x.2.2.1), dat K (.int x.2.2.2)]) (fun x => .list ((pairsF x.1 x.2.1 x.2.2.1 x.2.2.2).map pairD))
section
variable {P : Program} {w : World} {K : PySem.W.Frag} {mg : Str → Option Value} {base : Heap}
theorem ok_pairs (Z : Zs mg) (G_w_mixed : Ok P w K mg base CX0 1 "_law_mixed" ["_law_cell", "_law_k"] (spMixed K)) (G_w_ends : Ok P w K mg base CX0 1 "_law_ends" ["_law_many_here", "_law_way", "_law_k", "_law_number"] (spEnds K)) (D : Dfn K mg "_law_pairs" "_law_pairs" s_w_pairs ["_law_script", "_law_seed_here", "_law_many_here", "_law_most"]) : Ok P w K mg base CX0 2 "_law_pairs" ["_law_script", "_law_seed_here", "_law_many_here", "_law_most"] (spPairs K) := by
  refine fp_ok D sc_w_pairs (by decide) (fun _ => rfl) (fun _ => stabC st_dat (stabC st_dat (stabC st_dat (stab1 st_dat)))) (fun f cdv A outer s H E hr => ⟨_, (pss_cons (ps_if (pt_cmpR op_eq (pv 2) pe_int (nomark _)) (pss_one (ps_ret (pe_lst pa_nil))) pss_nil)
    (pss_cons (ps_set (i := 4) sc_w_pairs.nd rfl (Or.inl rfl) (pe_op op_mod (ok_call G_w_mixed (by exact hr.mono (by decide)) rfl (pa_cons (pv 1) (pa_cons pe_int pa_nil))) pe_int))
    (pss_cons (ps_set (i := 5) sc_w_pairs.nd rfl (Or.inl rfl) (pe_ix (kix_list K) (pe_lst (pa_cons (pv 2) (pa_cons (pe_op op_add (pv 2) pe_int) (pa_cons (pv 3) (pa_cons (pe_op op_mul pe_int (pv 2)) pa_nil))))) (pe_op op_mod (ok_call G_w_mixed (by exact hr.mono (by decide)) rfl (pa_cons (pv 1) (pa_cons pe_int pa_nil))) pe_int) (fun _ _ => rfl)))
    (pss_cons (ps_set (i := 6) sc_w_pairs.nd rfl (Or.inl rfl) (pe_lst pa_nil))
    (pss_cons (ps_for PassesOwn.never rfl (pi_enum rfl Z.enumerate (pa_cons (pe_slice (ksl_list K) (pv 0) po_none (po_some (pe_callB (call_min2 rfl) (by rfl) Z.min (by decide +kernel) (pa_cons (pv 5) (pa_cons (pv 3) pa_nil))))) pa_nil)) (kpg_tup K 2 rfl (pgs_cons (pg_name (i := 7) sc_w_pairs.nd rfl (Or.inl rfl)) (pgs_cons (pg_name (i := 8) sc_w_pairs.nd rfl (Or.inl rfl)) pgs_nil)))
      (pss_one (ps_expr (pe_bm PySem.F.plainAttrs_list PySem.F.slot_list_append PySem.F.type_list_append mt_append (pv 6) (pa_cons (ok_call G_w_ends (by exact hr.mono (by decide)) rfl (pa_cons (pv 2) (pa_cons (pv 4) (pa_cons (pv 7) (pa_cons (ok_call G_w_mixed (by exact hr.mono (by decide)) rfl (pa_cons (pv 8) (pa_cons (pe_op op_add pe_int (pe_op op_mod (pv 7) pe_int)) pa_nil))) pa_nil))))) pa_nil)))))
    (pss_one (ps_ret (pv 6)))))))), ?_⟩)
  rintro ⟨script, sd, n, most⟩ ⟨h0, h1, h2, h3, h4⟩ Q q
  dsimp only at h0 h1 h2 h3 h4
  walk_at "go"
  refine q_when (c := decide (n = 1)) ?a1 (fun c1 => ?a2) (fun c1 => ?a3)
  case a1 => walk_at "ev"
  case a2 =>
    have c2 : n = 1 := by simpa using c1
    have e : pairsF script sd n most = [] := by unfold pairsF; rw [if_pos c2]
    rw [e] at q
    refine' at_ret (d := .list []) ?_ q
    walk_at "ev"
  case a3 =>
  have c2 : ¬ n = 1 := by simpa using c1
  have m0 := Int.emod_nonneg (mixedF sd 2) (show (4 : Int) ≠ 0 by decide)
  have m1 := Int.emod_lt_of_pos (mixedF sd 2) (show (0 : Int) < 4 by decide)
  have ef : atI (List.map PyData.int [n, n + 3, most, 2 * n]) (mixedF sd 2 % 4) = some (.int (farF sd n most)) := by
    refine atI_map _ (atI_nn m0 ?_)
    unfold farF
    rw [List.getD_eq_getElem?_getD, List.getElem?_eq_getElem (by show (mixedF sd 2 % 4).toNat < 4; omega)]
    rfl
  have bf : 0 ≤ farF sd n most ∧ farF sd n most ≤ 100 := by
    have : ∀ k : Nat, k < 4 → 0 ≤ [n, n + 3, most, 2 * n].getD k 0 ∧ [n, n + 3, most, 2 * n].getD k 0 ≤ 100 := fun k hk =>
      match k, hk with
      | 0, _ => by show 0 ≤ n ∧ n ≤ 100; omega
      | 1, _ => by show 0 ≤ n + 3 ∧ n + 3 ≤ 100; omega
      | 2, _ => by show 0 ≤ most ∧ most ≤ 100; omega
      | 3, _ => by show 0 ≤ 2 * n ∧ 2 * n ≤ 100; omega
    exact this _ (by omega)
  refine' q_set K ?b1 (q_set K (d := .int (farF sd n most)) ?b2 (q_setM K (ds := []) ?b3 (q_for (xs := (script.take (min (farF sd n most) most).toNat).zipIdx) (e := fun p => .tuple [.int (p.2 : Int), .int p.1]) (EvJ.i (evj_enumX (K := K) ?b4))
    (fun pre ρ' => ∃ s1 s2, ρ' = [sa K (intsD script), sa K (.int sd), sa K (.int n), sa K (.int most), sn K H (.int (mixedF sd 1 % 5)), sn K H (.int (farF sd n most)), ml K H ((pre.map fun p => endsF n (mixedF sd 1 % 5) (p.2 : Int) (mixedF p.1 (3 + (p.2 : Int) % 50))).map pairD), s1, s2]) ?b5 ?b6 ?b7)))
  case b1 =>
    walk_at "ev"
    · dsimp only; omega
    · decide
  case b2 =>
    refine' ev_pick (ds := [.int n, .int (n + 3), .int most, .int (2 * n)]) ?_ (by simp) ?_ ef
    all_goals walk_at "ev"
    all_goals walk_at "num"
  case b3 => exact evm_lst eas_nil (by simp)
  case b4 =>
    rw [← cut_take PyData.int script (by omega : 0 ≤ min (farF sd n most) most)]
    refine' EvM.nw (evm_slice ?_ (flatDs_map (fun _ => rfl) _) eo_none (eo_some ?_))
    all_goals walk_at "ev"
  case b5 => exact ⟨_, _, rfl⟩
  case b6 =>
    rintro F1 pre ⟨c, k⟩ post ρ' hx ⟨s1, s2, rfl⟩
    obtain ⟨k1, k2, _⟩ := zip_at hx
    rw [List.length_take] at k2
    refine' ⟨_, _, (by walk_at "bd"), ?_⟩
    refine' at_drop (evx_append (by with_unfolding_all rfl) (d := pairD (endsF n (mixedF sd 1 % 5) (k : Int) (mixedF c (3 + (k : Int) % 50)))) ?g1 ?g2) (at_lpD ?g3)
    case g1 =>
      refine' ev_call (α := Int × Int × Int × Int) (n, mixedF sd 1 % 5, (k : Int), mixedF c (3 + (k : Int) % 50)) ?_ ?_
      · exact ⟨by dsimp only; omega, h2, by dsimp only; omega, by dsimp only; omega⟩
      · walk_at "ev"
        · dsimp only; omega
        · decide
    case g2 => simp only [List.length_map]; omega
    case g3 => exact ⟨_, _, by rw [List.map_append, List.map_append] <;> rfl⟩
  case b7 =>
    rintro ρ' ⟨s1, s2, rfl⟩
    have e : pairsF script sd n most = (script.take (min (farF sd n most) most).toNat).zipIdx.map fun p => endsF n (mixedF sd 1 % 5) (p.2 : Int) (mixedF p.1 (3 + (p.2 : Int) % 50)) := by unfold pairsF; rw [if_neg c2]
    rw [e] at q
    exact at_retL (by with_unfolding_all rfl) q
end

/-! where ways lead: the list that is found, the list that waits -/
def ledStep (here : Int) (s : List Int × List Int) (r : Int × Int × Int) : List Int × List Int := if r.2.1 = here ∧ r.2.2 ∉ s.1 then (s.1 ++ [r.2.2], s.2 ++ [r.2.2]) else s
def ledRun (ways : List (Int × Int × Int)) : Nat → List Int × List Int → List Int
  | 0, s => s.1
  | k + 1, s => match s.2.getLast? with
    | none => s.1
    | some h => ledRun ways k (ways.foldl (ledStep h) (s.1, s.2.dropLast))
def ledF (ways : List (Int × Int × Int)) (place : Int) : List Int := ledRun ways (ways.length + 1) ([place], [place])
def ledCnt (ways : List (Int × Int × Int)) (f : List Int) : Nat := ways.countP fun r => decide (r.2.2 ∉ f)
theorem ledCnt_le {f : List Int} {x : Int} : ∀ {ways : List (Int × Int × Int)}, ledCnt ways (f ++ [x]) ≤ ledCnt ways f
  | [] => Nat.le_refl _
  | r :: ways => by
    have ih := ledCnt_le (f := f) (x := x) (ways := ways)
    unfold ledCnt at ih ⊢
    rw [List.countP_cons, List.countP_cons]
    by_cases h : r.2.2 ∈ f
    · simp [h]; simpa using ih
    · by_cases h2 : r.2.2 = x
      · simp [h, h2] at ih ⊢; omega
      · simp [h, h2] at ih ⊢; omega
theorem ledCnt_lt {f : List Int} {x : Int} (hx : x ∉ f) : ∀ {ways : List (Int × Int × Int)}, (∃ r ∈ ways, r.2.2 = x) → ledCnt ways (f ++ [x]) + 1 ≤ ledCnt ways f
  | [], h => by obtain ⟨r, hr, _⟩ := h; exact (List.not_mem_nil hr).elim
  | r :: ways, h => by
    by_cases e : r.2.2 = x
    · have ih := ledCnt_le (f := f) (x := x) (ways := ways)
      unfold ledCnt at ih ⊢
      rw [List.countP_cons, List.countP_cons]
      have hr : r.2.2 ∉ f := by rw [e]; exact hx
      simp [hr, e] at ih ⊢
      simp [hx]
      omega
    · have ih := ledCnt_lt hx (ways := ways) (by
        obtain ⟨q, hq, hqe⟩ := h
        rcases List.mem_cons.mp hq with rfl | hq
        · exact (e hqe).elim
        · exact ⟨q, hq, hqe⟩)
      unfold ledCnt at ih ⊢
      rw [List.countP_cons, List.countP_cons]
      by_cases h3 : r.2.2 ∈ f
      · simp [h3] at ih ⊢; omega
      · simp [h3, e] at ih ⊢; omega
structure LedI (ways : List (Int × Int × Int)) (m : Nat) (s : List Int × List Int) : Prop where
  a : s.1.length + ledCnt ways s.1 ≤ ways.length + 1
  b : ledCnt ways s.1 + s.2.length ≤ m
theorem ledI_step {ways : List (Int × Int × Int)} {m : Nat} {s : List Int × List Int} {h : Int} {r : Int × Int × Int} (hr : r ∈ ways) (I : LedI ways m s) : LedI ways m (ledStep h s r) := by
  unfold ledStep
  split
  next c =>
    have k := ledCnt_lt c.2 ⟨r, hr, rfl⟩
    have a := I.a
    have b := I.b
    exact ⟨by show (s.1 ++ [r.2.2]).length + ledCnt ways (s.1 ++ [r.2.2]) ≤ _; rw [List.length_append]; simp; omega, by show ledCnt ways (s.1 ++ [r.2.2]) + (s.2 ++ [r.2.2]).length ≤ m; rw [List.length_append]; simp; omega⟩
  · exact I
theorem ledI_fold {ways : List (Int × Int × Int)} {m : Nat} {h : Int} : ∀ {pre : List (Int × Int × Int)} {s : List Int × List Int}, (∀ r ∈ pre, r ∈ ways) → LedI ways m s → LedI ways m (pre.foldl (ledStep h) s)
  | [], _, _, I => I
  | r :: pre, s, hp, I => ledI_fold (pre := pre) (s := ledStep h s r) (fun q hq => hp q (List.mem_cons_of_mem _ hq)) (ledI_step (hp r (List.mem_cons_self ..)) I)
theorem ledI_pop {ways : List (Int × Int × Int)} {m : Nat} {f w : List Int} (I : LedI ways (m + 1) (f, w)) (hw : w ≠ []) : LedI ways m (f, w.dropLast) := by
  have a := I.a
  have b := I.b
  have : w.length ≠ 0 := fun z => hw (List.eq_nil_of_length_eq_zero z)
  exact ⟨a, by show ledCnt ways f + w.dropLast.length ≤ m; rw [List.length_dropLast]; have : ledCnt ways f + w.length ≤ m + 1 := b; omega⟩
theorem ledI_start {ways : List (Int × Int × Int)} {p : Int} : LedI ways (ways.length + 1) ([p], [p]) := by
  have : ledCnt ways [p] ≤ ways.length := List.countP_le_length
  exact ⟨by show 1 + ledCnt ways [p] ≤ _; omega, by show ledCnt ways [p] + 1 ≤ _; omega⟩
theorem ledRun_nil {ways : List (Int × Int × Int)} {f : List Int} : ∀ m, ledRun ways m (f, []) = f
  | 0 => rfl
  | _ + 1 => rfl
theorem ledRun_pop {ways : List (Int × Int × Int)} {m : Nat} {f w : List Int} {h : Int} (e : w.getLast? = some h) : ledRun ways (m + 1) (f, w) = ledRun ways m (ways.foldl (ledStep h) (f, w.dropLast)) := by
  show (match w.getLast? with | none => f | some h => _) = _
  rw [e]
theorem last_get {α : Type} {e : α → PyData} {w : List α} {h : α} (k : w.getLast? = some h) : (w.map e)[(w.map e).length - 1]? = some (e h) := by
  rw [List.length_map, List.getElem?_map, ← List.getLast?_eq_getElem?, k]
  rfl
theorem getLast_some {α : Type} {w : List α} (h : w ≠ []) : ∃ x, w.getLast? = some x := ⟨_, List.getLast?_eq_some_getLast h⟩
theorem map_dropLast {α : Type} (e : α → PyData) (w : List α) : (w.map e).dropLast = w.dropLast.map e := by rw [List.dropLast_eq_take, List.dropLast_eq_take, List.length_map, List.map_take]
section
variable {K : PySem.W.Frag} {B F0 : Hp} {ρ : List Sl} {ta : TE}
def sortI (ns : List Int) : List Int := ns.mergeSort fun a b => decide (a ≤ b)
theorem sortI_perm (ns : List Int) : (sortI ns).Perm ns := List.mergeSort_perm _ _
theorem sortI_pw (ns : List Int) : (sortI ns).Pairwise (· ≤ ·) := by
  have h := List.pairwise_mergeSort (le := fun a b : Int => decide (a ≤ b)) (fun a b c h1 h2 => by simp at h1 h2 ⊢; omega) (fun a b => by simp; omega) ns
  exact h.imp fun h => by simpa using h
theorem evm_sortedI {ns : List Int} (ha : EvH B F0 ρ ta (dat K (.list (ns.map .int)))) (hl : ns.length < 64) : EvM K B F0 ρ (tCB (rSorted K) (tCons ta tNil)) ((sortI ns).map .int) := fun F H σ c Q q =>
  ha F H σ c _ fun v F1 H1 g1 p1 => by
    cases p1 with
    | lst h1 h2 =>
      rw [dpAll_ints h2] at h1
      refine ⟨_, ns, rfl, h1, hl, fun ns' p hp1 hp2 hp => ?_⟩
      have e : ns' = sortI ns := List.Perm.eq_of_pairwise (le := (· ≤ ·)) (fun a b _ _ h1 h2 => Int.le_antisymm h1 h2) hp2 (sortI_pw ns) (hp1.trans (sortI_perm ns).symm)
      subst e
      exact q p _ F1 _ (g1.trans (Gr.new g1.i hp)) (g1.i.free hp) (g1.fresh hp) upd_same (nwAll_ints _)
end

abbrev s_w_led : Stmt := top 22
theorem sc_w_led : FnScope ["_law_ways", "_law_place", "_law_found", "_law_waiting", "_law_here", "_law_street", "_law_one", "_law_other"] ["_law_ways", "_law_place"] (defScope s_w_led) := ⟨rfl, rfl, rfl, by decide +kernel, rfl, by decide +kernel, by decide +kernel⟩
abbrev spWLed (K : PySem.W.Frag) : Sp := Fp K (fun x : List (Int × Int × Int) × Int => x.1.length ≤ 62) (fun x => [dat K (.list (x.1.map rowD)), dat K (.int x.2)]) (fun x => .list ((sortI (ledF x.1 x.2)).map .int))
section
variable {P : Program} {w : World} {K : PySem.W.Frag} {mg : Str → Option Value} {base : Heap}
theorem ok_wled (Z : Zs mg) (D : Dfn K mg "_law_led" "_law_led" s_w_led ["_law_ways", "_law_place"]) : Ok P w K mg base CX0 1 "_law_led" ["_law_ways", "_law_place"] (spWLed K) := by
  refine fp_ok D sc_w_led (by decide) (fun _ => rfl) (fun _ => stabC st_dat (stab1 st_dat)) (fun f cdv A outer s H E hr => ⟨_, (pss_cons (ps_set (i := 2) sc_w_led.nd rfl (Or.inl rfl) (pe_lst (pa_cons (pv 1) pa_nil)))
    (pss_cons (ps_set (i := 3) sc_w_led.nd rfl (Or.inl rfl) (pe_lst (pa_cons (pv 1) pa_nil)))
    (pss_cons (ps_while PassesOwn.never (pt_cmpR (kop_neD K (by exact hr.units)) (pv 3) (pe_lst pa_nil) (nomark _)) (pss_cons (ps_set (i := 4) sc_w_led.nd rfl (Or.inl rfl) (pe_bm0 PySem.F.plainAttrs_list PySem.F.slot_list_pop PySem.F.type_list_pop mt_pop (pv 3)))
    (pss_one (ps_for PassesOwn.never rfl (kpi_list K (pv 0)) (kpg_tup K 3 rfl (pgs_cons (pg_name (i := 5) sc_w_led.nd rfl (Or.inl rfl)) (pgs_cons (pg_name (i := 6) sc_w_led.nd rfl (Or.inl rfl)) (pgs_cons (pg_name (i := 7) sc_w_led.nd rfl (Or.inl rfl)) pgs_nil))))
      (pss_one (ps_if (PW.pt (pw_and (pt_cmpR op_eq (pv 6) (pv 4) (nomark _)) (pw_and1 (pt_cmpR (kop_notIn_seq K) (pv 7) (pv 2) rfl)))) (pss_cons (ps_expr (pe_bm PySem.F.plainAttrs_list PySem.F.slot_list_append PySem.F.type_list_append mt_append (pv 2) (pa_cons (pv 7) pa_nil)))
    (pss_one (ps_expr (pe_bm PySem.F.plainAttrs_list PySem.F.slot_list_append PySem.F.type_list_append mt_append (pv 3) (pa_cons (pv 7) pa_nil))))) pss_nil))))))
    (pss_one (ps_ret (pe_callB (kcr_sorted K) (by rfl) Z.sorted (by decide +kernel) (pa_cons (pv 2) pa_nil))))))), ?_⟩)
  rintro ⟨ways, place⟩ hl Q q
  dsimp only at hl
  walk_at "go"
  refine' q_setM K (ds := [.int place]) ?a1 (q_setM K (ds := [.int place]) ?a2 (q_while (fun m ρ' => ∃ f w s4 s5 s6 s7, ρ' = [sa K (.list (ways.map rowD)), sa K (.int place), ml K H (f.map .int), ml K H (w.map .int), s4, s5, s6, s7] ∧ ledRun ways m (f, w) = ledF ways place ∧ LedI ways m (f, w) ∧ m ≤ 63) (ways.length + 1) ?a3 ?a4))
  case a1 => exact evm_lst (by walk_at "ev") (by simp)
  case a2 => exact evm_lst (by walk_at "ev") (by simp)
  case a3 => exact ⟨[place], [place], _, _, _, _, rfl, rfl, ledI_start, by omega⟩
  case a4 =>
    rintro m ρ' ⟨f, w, s4, s5, s6, s7, rfl, er, I, hm63⟩
    refine ⟨!w.isEmpty, ?b1, fun hc => ?b2, fun hc => ?b3⟩
    case b1 =>
      have e : (w.map PyData.int).isEmpty = w.isEmpty := by cases w <;> rfl
      rw [← e]
      walk_at "ev"
    case b2 =>
      have hw : w ≠ [] := by intro z; rw [z] at hc; simp at hc
      obtain ⟨h, eh⟩ := getLast_some hw
      cases m with
      | zero =>
        have := I.b
        have : w.length ≠ 0 := fun z => hw (List.eq_nil_of_length_eq_zero z)
        dsimp only at *
        omega
      | succ m =>
      rw [ledRun_pop eh] at er
      have I2 := ledI_pop I hw
      refine' q_asg (evx_pop (i := 3) rfl (last_get eh)) (bind_name (i := 4) st_nwd) (at_for (xs := ways) (e := rowD) (EvJ.i (evj_listF ?c1 (flatDs_map (fun _ => rfl) _)))
        (fun pre ρ' => ∃ s5 s6 s7, ρ' = [sa K (.list (ways.map rowD)), sa K (.int place), ml K H ((pre.foldl (ledStep h) (f, w.dropLast)).1.map .int), ml K H ((pre.foldl (ledStep h) (f, w.dropLast)).2.map .int), sn K H (.int h), s5, s6, s7]) ?c2 ?c3 ?c4)
      case c1 => exact ev_var rfl
      case c2 =>
        rw [map_dropLast]
        exact ⟨_, _, _, rfl⟩
      case c3 =>
        rintro F1 pre ⟨street, one, other⟩ post ρ' hx ⟨s5, s6, s7, rfl⟩
        have hm : ∀ r ∈ pre, r ∈ ways := fun r hr => by rw [hx]; exact List.mem_append.mpr (.inl hr)
        have I3 := ledI_fold (h := h) hm I2
        have ef : (pre ++ [(street, one, other)]).foldl (ledStep h) (f, w.dropLast) = ledStep h (pre.foldl (ledStep h) (f, w.dropLast)) (street, one, other) := by rw [List.foldl_append]; rfl
        generalize pre.foldl (ledStep h) (f, w.dropLast) = s at I3 ef
        obtain ⟨f1, w1⟩ := s
        have i1 := I3.a
        have i2 := I3.b
        dsimp only at i1 i2
        refine' ⟨_, _, (by walk_at "bd"), ?_⟩
        refine' at_when (c := decide (one = h) && !decide (other ∈ f1)) (et_and ?d1 fun _ => ?d2) (fun hd => ?d3) (fun hd => ?d4)
        case d1 => walk_at "ev"
        case d2 => exact et_test (K := K) (Ev.hd (ev_inI (neg := true) (Ev.hd (ev_var rfl)) (evh_var rfl rd_ml)))
        case d3 =>
          have hd2 : one = h ∧ other ∉ f1 := by simpa using hd
          have es : ledStep h (f1, w1) (street, one, other) = (f1 ++ [other], w1 ++ [other]) := by unfold ledStep; rw [if_pos hd2]
          refine' q_drop (evx_append (i := 2) (d := .int other) rfl ?e1 ?e2) (at_drop (evx_append (i := 3) (d := .int other) rfl ?e3 ?e4) (at_lpD ?e5))
          case e1 => walk_at "ev"
          case e2 => rw [List.length_map]; dsimp only; omega
          case e3 => walk_at "ev"
          case e4 => rw [List.length_map]; dsimp only; omega
          case e5 =>
            refine ⟨sn K H (.int street), sn K H (.int one), sn K H (.int other), ?_⟩
            rw [ef, es, List.map_append, List.map_append]
            rfl
        case d4 =>
          have hd2 : ¬ (one = h ∧ other ∉ f1) := by simpa using hd
          have es : ledStep h (f1, w1) (street, one, other) = (f1, w1) := by unfold ledStep; rw [if_neg hd2]
          refine at_nxt (at_lp ?_)
          refine ⟨sn K H (.int street), sn K H (.int one), sn K H (.int other), ?_⟩
          rw [ef, es]
          rfl
      case c4 =>
        rintro ρ' ⟨s5, s6, s7, rfl⟩
        refine at_lwD (m' := m) (?_ : ∃ f w s4 s5 s6 s7, _ ∧ _ ∧ _ ∧ _) (Nat.lt_succ_self m)
        exact ⟨_, _, _, _, _, _, rfl, er, ledI_fold (fun r hr => hr) I2, by omega⟩
    case b3 =>
      have hw : w = [] := by cases w with | nil => rfl | cons a b => simp at hc
      subst hw
      rw [ledRun_nil] at er
      subst er
      refine at_ret (d := .list ((sortI (ledF ways place)).map .int)) (EvM.nw (evm_sortedI (evh_var rfl rd_ml) ?_)) q
      have := I.a
      dsimp only at this
      omega
end

abbrev s_led_to : Stmt := top 8
theorem sc_led_to : FnScope ["ways", "place", "found", "waiting", "here", "street", "one", "other"] ["ways", "place"] (defScope s_led_to) := ⟨rfl, rfl, rfl, by decide +kernel, rfl, by decide +kernel, by decide +kernel⟩
def foundD (f : List Int) : List (Int × PyData) := f.map fun x => (x, .bool true)
theorem look_found {x : Int} : ∀ {f : List Int}, (lookI (foundD f) x).isSome = decide (x ∈ f)
  | [] => rfl
  | y :: f => by
    have ih := look_found (x := x) (f := f)
    unfold lookI foundD at ih ⊢
    rw [List.map_cons, List.find?_cons]
    by_cases e : y = x
    · subst e; simp
    · rw [show ((y, PyData.bool true).1 == x) = false from beq_eq_false_iff_ne.mpr e]
      have e' : ¬ x = y := fun z => e z.symm
      simp only [List.mem_cons, e', false_or]
      exact ih
theorem put_found {x : Int} {f : List Int} (h : x ∉ f) : putI (foundD f) x (.bool true) = foundD (f ++ [x]) := by
  unfold putI
  have e : ((foundD f).any fun p => p.1 == x) = false := by
    rw [List.any_eq_false]
    intro p hp
    obtain ⟨y, hy, rfl⟩ := List.mem_map.mp hp
    intro z
    exact h (by rw [← eq_of_beq z]; exact hy)
  rw [e]
  unfold foundD
  rw [List.map_append]
  rfl
/-- a new dict of what is found -/
def spLedTo (K : PySem.W.Frag) : Sp := fun vs H Q _ => ∃ (ways : List (Int × Int × Int)) (place : Int), ways.length ≤ 62 ∧ AOk [dat K (.list (ways.map rowD)), dat K (.int place)] H vs ∧
  ∀ l kv H', Same H H' → H l = none → H' l = some (.dK kv) → KvAll K e0 H' kv (foundD (ledF ways place)) → Q (.ref l) H'
/-- an owned dict is handed back -/
theorem at_retK {K : PySem.W.Frag} {B F0 : Hp} {ρ : List Sl} {D : Ends} {i : Nat} {kvs : List (Int × PyData)} (h : ρ[i]? = some (md K B kvs)) (k : ∀ l kv H', Same B H' → B l = none → H' l = some (.dK kv) → KvAll K e0 H' kv kvs → D.rt (.ref l) H') : At B F0 (tRet (tVar i) D) ρ := fun F H σ c => by
  obtain ⟨w, o⟩ := c.own
  obtain ⟨_, v, e1, l, kv, rfl, ew, h4, h5⟩ := o.sl i _ h
  exact ⟨_, e1, k l kv H c.gr.h (o.at_ i l (by rw [ew]; simp)).2.1 h4 (kvAll_mono c.i (kvAll_e0 h5))⟩
/-- the size of what led_to tells -/
theorem ev_lenLed {K : PySem.W.Frag} {B F0 : Hp} {ρ : List Sl} {tr : TA} (ways : List (Int × Int × Int)) (place : Int) (hl : ways.length ≤ 62) (h : EvA B F0 ρ tr [dat K (.list (ways.map rowD)), dat K (.int place)]) :
    Ev B F0 ρ (tCB (fun xs H Q => ∃ a kvs, xs = [V.ref a] ∧ H a = some (.dK kvs) ∧ Q (.int kvs.length) H) (tCons (tCall (spLedTo K) [] E0 tr) tNil)) (nwd K B (.int ((ledF ways place).length))) := fun F H σ c Q q =>
  h F H σ c _ fun vs F1 H1 g1 p1 => ⟨ways, place, hl, by rw [List.append_nil]; exact p1, fun l kv H2 s n e k => ⟨l, kv, rfl, e, by
    have e2 : kv.length = (ledF ways place).length := by rw [kv_len k, foundD, List.length_map]
    rw [e2]
    exact q _ F1 H2 (g1.trans (gr_call g1.i s)) (.int _)⟩⟩
section
variable {P : Program} {w : World} {K : PySem.W.Frag} {mg : Str → Option Value} {base : Heap}
theorem ok_ledto (Z : Zs mg) (D : Dfn K mg "led_to" "led_to" s_led_to ["ways", "place"]) : Ok P w K mg base CX0 1 "led_to" ["ways", "place"] (spLedTo K) := by
  obtain ⟨f, fd, F, hg, hb⟩ := D.ex
  refine ⟨f, fd, F.ok sc_led_to (fun vs H Q E h => ?_) (fun cdv A outer s H vs Q E hr h => ?_), hg, F.kp, hb⟩
  · obtain ⟨ways, place, _, h, _⟩ := h
    rw [aok_len h]; rfl
  obtain ⟨ways, place, hl, h, q⟩ := h
  refine ⟨_, (pss_cons (ps_set (i := 2) sc_led_to.nd rfl (Or.inl rfl) (pe_disp (pps_cons (pv 1) pe_bl pps_nil) (by rfl) (by rfl) (fun z => by cases z) (by decide)))
    (pss_cons (ps_set (i := 3) sc_led_to.nd rfl (Or.inl rfl) (pe_lst (pa_cons (pv 1) pa_nil)))
    (pss_cons (ps_while PassesOwn.never (pt_cmpR (kop_neD K (by exact hr.units)) (pv 3) (pe_lst pa_nil) (nomark _)) (pss_cons (ps_set (i := 4) sc_led_to.nd rfl (Or.inl rfl) (pe_bm0 PySem.F.plainAttrs_list PySem.F.slot_list_pop PySem.F.type_list_pop mt_pop (pv 3)))
    (pss_one (ps_for PassesOwn.never rfl (kpi_list K (pv 0)) (kpg_tup K 3 rfl (pgs_cons (pg_name (i := 5) sc_led_to.nd rfl (Or.inl rfl)) (pgs_cons (pg_name (i := 6) sc_led_to.nd rfl (Or.inl rfl)) (pgs_cons (pg_name (i := 7) sc_led_to.nd rfl (Or.inl rfl)) pgs_nil))))
      (pss_one (ps_if (PW.pt (pw_and (pt_cmpR op_eq (pv 6) (pv 4) (nomark _)) (pw_and1 (pt_cmp (pc_dnotin (by exact hu_of hr) (pv 7) (pv 2)))))) (pss_cons (ps_dput (by exact hu_of hr) (pv 2) (pv 7) pe_bl rfl)
    (pss_one (ps_expr (pe_bm PySem.F.plainAttrs_list PySem.F.slot_list_append PySem.F.type_list_append mt_append (pv 3) (pa_cons (pv 7) pa_nil))))) pss_nil))))))
    (pss_one (ps_ret (pv 2)))))), ?_⟩
  refine at_enter h (stabC st_dat (stab1 st_dat)) (by simp) ?_
  walk_at "go"
  refine' q_disp1 (K := K) (k := place) (d := .bool true) ?a0 ?a1 (q_setM K (ds := [.int place]) ?a2 (q_while (fun m ρ' => ∃ f w s4 s5 s6 s7, ρ' = [sa K (.list (ways.map rowD)), sa K (.int place), md K H (foundD f), ml K H (w.map .int), s4, s5, s6, s7] ∧ ledRun ways m (f, w) = ledF ways place ∧ LedI ways m (f, w) ∧ m ≤ 63) (ways.length + 1) ?a3 ?a4))
  case a0 => walk_at "ev"
  case a1 => walk_at "ev"
  case a2 => exact evm_lst (by walk_at "ev") (by simp)
  case a3 => exact ⟨[place], [place], _, _, _, _, rfl, rfl, ledI_start, by omega⟩
  case a4 =>
    rintro m ρ' ⟨f, w, s4, s5, s6, s7, rfl, er, I, hm63⟩
    refine ⟨!w.isEmpty, ?b1, fun hc => ?b2, fun hc => ?b3⟩
    case b1 =>
      have e : (w.map PyData.int).isEmpty = w.isEmpty := by cases w <;> rfl
      rw [← e]
      walk_at "ev"
    case b2 =>
      have hw : w ≠ [] := by intro z; rw [z] at hc; simp at hc
      obtain ⟨h, eh⟩ := getLast_some hw
      cases m with
      | zero =>
        have := I.b
        have : w.length ≠ 0 := fun z => hw (List.eq_nil_of_length_eq_zero z)
        dsimp only at *
        omega
      | succ m =>
      rw [ledRun_pop eh] at er
      have I2 := ledI_pop I hw
      refine' q_asg (evx_pop (i := 3) rfl (last_get eh)) (bind_name (i := 4) st_nwd) (at_for (xs := ways) (e := rowD) (EvJ.i (evj_listF ?c1 (flatDs_map (fun _ => rfl) _)))
        (fun pre ρ' => ∃ s5 s6 s7, ρ' = [sa K (.list (ways.map rowD)), sa K (.int place), md K H (foundD (pre.foldl (ledStep h) (f, w.dropLast)).1), ml K H ((pre.foldl (ledStep h) (f, w.dropLast)).2.map .int), sn K H (.int h), s5, s6, s7]) ?c2 ?c3 ?c4)
      case c1 => exact ev_var rfl
      case c2 =>
        rw [map_dropLast]
        exact ⟨_, _, _, rfl⟩
      case c3 =>
        rintro F1 pre ⟨street, one, other⟩ post ρ' hx ⟨s5, s6, s7, rfl⟩
        have hm : ∀ r ∈ pre, r ∈ ways := fun r hr => by rw [hx]; exact List.mem_append.mpr (.inl hr)
        have I3 := ledI_fold (h := h) hm I2
        have ef : (pre ++ [(street, one, other)]).foldl (ledStep h) (f, w.dropLast) = ledStep h (pre.foldl (ledStep h) (f, w.dropLast)) (street, one, other) := by rw [List.foldl_append]; rfl
        generalize pre.foldl (ledStep h) (f, w.dropLast) = s at I3 ef
        obtain ⟨f1, w1⟩ := s
        have i1 := I3.a
        have i2 := I3.b
        dsimp only at i1 i2
        refine' ⟨_, _, (by walk_at "bd"), ?_⟩
        refine' at_when (c := decide (one = h) && !decide (other ∈ f1)) (et_and ?d1 fun _ => ?d2) (fun hd => ?d3) (fun hd => ?d4)
        case d1 => walk_at "ev"
        case d2 =>
          rw [← look_found]
          refine et_test (K := K) (Ev.hd (ev_dnotin (Ev.hd (ev_var rfl)) (evh_md rfl)))
        case d3 =>
          have hd2 : one = h ∧ other ∉ f1 := by simpa using hd
          have es : ledStep h (f1, w1) (street, one, other) = (f1 ++ [other], w1 ++ [other]) := by unfold ledStep; rw [if_pos hd2]
          refine' q_dput (i := 2) (k := other) (d := .bool true) rfl ?e1 ?e2 ?e6 (at_drop (evx_append (i := 3) (d := .int other) rfl ?e3 ?e4) (at_lpD ?e5))
          case e1 => walk_at "ev"
          case e2 => walk_at "ev"
          case e6 => rw [foundD, List.length_map]; dsimp only; omega
          case e3 => walk_at "ev"
          case e4 => rw [List.length_map]; dsimp only; omega
          case e5 =>
            refine ⟨sn K H (.int street), sn K H (.int one), sn K H (.int other), ?_⟩
            rw [ef, es, put_found hd2.2, List.map_append]
            rfl
        case d4 =>
          have hd2 : ¬ (one = h ∧ other ∉ f1) := by simpa using hd
          have es : ledStep h (f1, w1) (street, one, other) = (f1, w1) := by unfold ledStep; rw [if_neg hd2]
          refine at_nxt (at_lp ?_)
          refine ⟨sn K H (.int street), sn K H (.int one), sn K H (.int other), ?_⟩
          rw [ef, es]
          rfl
      case c4 =>
        rintro ρ' ⟨s5, s6, s7, rfl⟩
        refine at_lwD (m' := m) (?_ : ∃ f w s4 s5 s6 s7, _ ∧ _ ∧ _ ∧ _) (Nat.lt_succ_self m)
        exact ⟨_, _, _, _, _, _, rfl, er, ledI_fold (fun r hr => hr) I2, by omega⟩
    case b3 =>
      have hw : w = [] := by cases w with | nil => rfl | cons a b => simp at hc
      subst hw
      rw [ledRun_nil] at er
      subst er
      exact at_retK rfl q
end

/-! ### is_among, the class Town -/
structure XCls (K : PySem.W.Frag) (mg : Str → Option Value) (x : Str) (C : Addr) : Prop where
  g : mg x = some (.ref C)
  x : PySem.W.excIn K C [.type "ValueError", .type "Exception", .type "BaseException", .type "object"] "ValueError.__new__" = true
  k : PySem.W.keepIn K (.ref C) = true
  b : PySem.W.subIn K (.ref C) (.type "BaseException") = some true
  t : PySem.W.typeIn K (.ref C) = some (.type "type")
structure TownTxt (K : PySem.W.Frag) (mg : Str → Option Value) (C : Addr) : Prop where
  cl : Cls K C
  nM : NoAttr K C "many"
  nB : NoAttr K C "built"
  nH : NoAttr K C "held"
  g : mg "Town" = some (.ref C)
  c_MOST_PLACES : ∃ t, mg "MOST_PLACES" = some (.int 16 t)
  c_MOST_STREETS : ∃ t, mg "MOST_STREETS" = some (.int 60 t)
def amongB (lo hi : Int) : V → Bool
  | .int i => decide (lo ≤ i) && decide (i ≤ hi)
  | _ => false
abbrev s_is_among : Stmt := top 13
theorem sc_is_among : FnScope ["thing", "least", "most"] ["thing", "least", "most"] (defScope s_is_among) := ⟨rfl, rfl, rfl, by decide +kernel, rfl, by decide +kernel, by decide +kernel⟩
abbrev s_Town_places : Stmt := inClass (top 14) 1
theorem sc_Town_places : FnScope ["self"] ["self"] (defScope s_Town_places) := ⟨rfl, rfl, rfl, by decide +kernel, rfl, by decide +kernel, by decide +kernel⟩
abbrev s_Town_streets : Stmt := inClass (top 14) 5
theorem sc_Town_streets : FnScope ["self", "street"] ["self"] (defScope s_Town_streets) := ⟨rfl, rfl, rfl, by decide +kernel, rfl, by decide +kernel, by decide +kernel⟩
abbrev s_Town_need_place : Stmt := inClass (top 14) 2
theorem sc_Town_need_place : FnScope ["self", "thing"] ["self", "thing"] (defScope s_Town_need_place) := ⟨rfl, rfl, rfl, by decide +kernel, rfl, by decide +kernel, by decide +kernel⟩
abbrev spAmong (K : PySem.W.Frag) : Sp := Fp K (fun _ : V × Int × Int => True) (fun x => [kdP K x.1, dat K (.int x.2.1), dat K (.int x.2.2)]) (fun x => .bool (amongB x.2.1 x.2.2 x.1))
abbrev spPlaces (K : PySem.W.Frag) (C : Addr) : Sp := Fp K (fun _ : TSt => True) (fun st => [isTown K C st]) (fun st => .int st.many)
abbrev spStreets (K : PySem.W.Frag) (C : Addr) : Sp := Fp K (fun st : TSt => TOk st) (fun st => [isTown K C st]) (fun st => .list (st.held.map rowD))
def spNeed (K : PySem.W.Frag) (C CP : Addr) : Sp := fun vs H Q E => ∃ (st : TSt) (v0 : V), AOk [isTown K C st, kdP K v0] H vs ∧ (amongB 0 (st.many - 1) v0 = true → ∀ H', Same H H' → Q .non H') ∧ (amongB 0 (st.many - 1) v0 = false → ∀ H', Same H H' → E (.ref CP) none H')
theorem look_held {s one other : Int} : ∀ {h : List (Int × Int × Int)}, h.Pairwise (fun p q => p.1 < q.1) → (s, one, other) ∈ h → lookI (heldD h) s = some (pairD (one, other))
  | [], _, m => by simp at m
  | (a, b, c) :: r, pw, m => by
    obtain ⟨p1, p2⟩ := List.pairwise_cons.mp pw
    by_cases e : a = s
    · subst e
      rcases List.mem_cons.mp m with m | m
      · cases m
        simp [lookI, heldD]
      · exact absurd (p1 _ m) (Int.lt_irrefl _)
    · have m' : (s, one, other) ∈ r := by
        rcases List.mem_cons.mp m with m | m
        · cases m; exact absurd rfl e
        · exact m
      have ih := look_held p2 m'
      unfold lookI heldD at ih ⊢
      rw [List.map_cons, List.find?_cons, show ((a, pairD (b, c)).1 == s) = false from beq_eq_false_iff_ne.mpr e]
      exact ih
section
variable {K : PySem.W.Frag} {B F0 : Hp} {ρ : List Sl} {ta tb : TE} {ds es : List PyData} {d : PyData}
theorem ev_catT (ha : Ev B F0 ρ ta (nwd K B (.tuple ds))) (hb : Ev B F0 ρ tb (nwd K B (.tuple es))) (h1 : ds ≠ []) (h2 : es ≠ []) (hl : ds.length + es.length ≤ 100000) : Ev B F0 ρ (tOp (rCatA K) ta tb) (nwd K B (.tuple (ds ++ es))) := fun F H σ c Q q =>
  ha F H σ c _ fun x F1 H1 g1 p1 => hb F1 H1 σ (c.go g1) _ fun y F2 H2 g2 p2 => by
    cases p1 with
    | @tup a xs _ a1 a2 =>
      cases p2 with
      | @tup b ys _ b1 b2 =>
        have l1 := nwAll_len a2
        have l2 := nwAll_len b2
        have n1 : xs ≠ [] := fun z => h1 (List.length_eq_zero_iff.mp (by rw [← l1, z]; rfl))
        have n2 : ys ≠ [] := fun z => h2 (List.length_eq_zero_iff.mp (by rw [← l2, z]; rfl))
        refine ⟨a, b, xs, ys, rfl, rfl, sqt_mono g2.i (sqt_mono g2.f a1), sqt_mono g2.i b1, sz_of (by rw [l1, l2]; exact hl), fun z => absurd z n1, fun _ z => absurd z n2, fun _ _ p hp => ?_⟩
        have g3 : Gr F H F2 (upd H2 p (.tup (xs ++ ys))) := (g1.trans g2).trans (Gr.new g2.i hp)
        obtain ⟨F3, g4, s, e⟩ := g3.putT (o := .tup (xs ++ ys)) rfl upd_same
        exact q _ F3 _ g4 (.tup (.inl (.inl e)) (nwAll_app (nwAll_mono (Same.refl _) (g2.f.trans s) a2) (nwAll_mono (Same.refl _) s b2)))
/-- sorted(d), d's keys rising -/
theorem evm_sortedD {kvs : List (Int × PyData)} (ha : EvH B F0 ρ ta (isDict K kvs)) (hl : kvs.length < 64) (hp : (kvs.map (·.1)).Pairwise (· < ·)) :
    EvM K B F0 ρ (tCB (fun xs H Q => ∃ (a : Addr) (kvs : List (Key × V)) (ks : List Int), xs = [.ref a] ∧ Rd H a (.dK kvs) ∧ kvs.map (·.1) = ks.map Sum.inl ∧ ks.length < 64 ∧ ∀ (ys : List Int) (p : Addr), ys.Perm ks → ys.Pairwise (· ≤ ·) → H p = none → Q (.ref p) (upd H p (.lst (ys.map V.int)))) (tCons ta tNil)) ((kvs.map (·.1)).map PyData.int) := fun F H σ c Q q =>
  ha F H σ c _ fun x F1 H1 g1 ⟨l, kv, e, r, B', a⟩ => by
    subst e
    refine ⟨l, kv, kvs.map (·.1), rfl, r, kv_keys a, by rw [List.length_map]; exact hl, fun ys p h1 h2 h3 => ?_⟩
    rw [pw_perm h1 h2 hp]
    exact q p _ F1 _ (g1.trans (Gr.new g1.i h3)) (g1.i.free h3) (g1.fresh h3) upd_same (nwAll_ints _)
end
section
variable {P : Program} {w : World} {K : PySem.W.Frag} {mg : Str → Option Value} {base : Heap} {C : Addr}
theorem ok_among (Z : Zs mg) (D : Dfn K mg "is_among" "is_among" s_is_among ["thing", "least", "most"]) : Ok P w K mg base CX0 1 "is_among" ["thing", "least", "most"] (spAmong K) := by
  refine fp_ok D sc_is_among (by decide) (fun _ => rfl) (fun _ => stabC st_kdP (stabC st_dat (stab1 st_dat))) (fun f cdv A outer s H E hr => ⟨_, (pss_one (ps_ret (pe_and (pe_callB (kcall_isi K) (by rfl) Z.isinstance (by decide +kernel) (pa_cons (pv 0) (pa_cons (pe_bltn (v := .ty "int") (by rfl) Z.int (by decide +kernel) rfl) pa_nil))) (pe_and (pe_not (pe_callB (kcall_isi K) (by rfl) Z.isinstance (by decide +kernel) (pa_cons (pv 0) (pa_cons (pe_bltn (v := .ty "bool") (by rfl) Z.bool (by decide +kernel) rfl) pa_nil)))) (pe_one (pe_chain op_le op_le (pv 1) (pv 0) (pv 2))))))), ?_⟩)
  rintro ⟨v, lo, hi⟩ - Q q
  walk_at "go"
  have e : amongB lo hi v = (isI v && ((!isB v) && amongB lo hi v)) := by cases v <;> simp [amongB, isI, isB]
  refine at_ret (d := .bool (amongB lo hi v)) ?_ q
  rw [e]
  refine ev_andV (Ev.hd (ev_isi (kd_var rfl) fun H k => isi_int k)) fun c1 => ev_andV (Ev.hd (ev_notV (Ev.hd (ev_isi (kd_var rfl) fun H k => isi_bool k)))) fun c2 => ?_
  cases v with
  | int i =>
    refine' ev_chain ?_ ?_ ?_
    · walk_at "ev"
    · exact fun F H σ c Q q => (kd_var (K := K) (v := .int i) rfl) F H σ c Q fun v F' H' g p => q v F' H' g (by rw [p.1]; exact .int i)
    · walk_at "ev"
  | _ => simp [isI, isB] at c1 c2
theorem ok_places (T : TownTxt K mg C) (D : Mfn K C "places" "Town.places" s_Town_places ["self"]) : OkM P w K mg base CX0 1 C "places" ["self"] (spPlaces K C) := by
  refine fpm_ok D T.cl sc_Town_places (by decide) (fun _ => rfl) (fun _ => stab1 st_isTown) (fun f cdv A outer s H E hr => ⟨_, (pss_one (ps_ret (kpe_fld K (pv 0) rfl))), ?_⟩)
  rintro st - Q q
  walk_at "go"
  exact at_ret (ev_many T.cl T.nM (evh_town rfl)) q
theorem ok_streets (Z : Zs mg) (T : TownTxt K mg C) (D : Mfn K C "streets" "Town.streets" s_Town_streets ["self"]) : OkM P w K mg base CX0 1 C "streets" ["self"] (spStreets K C) := by
  refine fpm_ok D T.cl sc_Town_streets (by decide) (fun _ => rfl) (fun _ => stab1 st_isTown) (fun f cdv A outer s H E hr => ⟨_, (pss_one (ps_ret (pe_lc (own := [("street", 1)]) (tt := tYes) rfl sc_Town_streets.nd (kpi_list K (pe_callB (call_sortedDI rfl) (by rfl) Z.sorted (by decide +kernel) (pa_cons (kpe_fld K (pv 0) rfl) pa_nil))) (blkOk_by (by dsimp only [cxOf, Cx.nox, Cx.wish, compEnvC, envOfC]; decide +kernel)) (fun _ _ _ _ _ => (pg_name (i := 1) sc_Town_streets.nd rfl (Or.inl rfl))) (fun _ _ _ _ _ => pts_nil) (fun _ _ _ _ _ => (pe_op (kop_catA K) (pe_tup (pa_cons (pv 1) pa_nil)) (pe_dget (by exact hu_of hr) (kpe_fld K (pv 0) rfl) (pv 1) (fun _ _ => rfl))))))), ?_⟩)
  rintro st ok Q q
  walk_at "go"
  have ek : (heldD st.held).map (·.1) = st.held.map (·.1) := by
    unfold heldD
    rw [List.map_map]
    rfl
  refine at_ret (d := .list (st.held.map rowD)) (EvM.nw ?_) q
  refine evm_lc1 (xs := st.held) (e := fun p => .int p.1) rowD (evj_list (EvM.nw ?_)) (fun F1 x hx => ?_) (by have := ok.few; omega)
  · have h := evm_sortedD (K := K) (B := H) (F0 := H) (evh_held (ρ := enterR [Str.ofString "self", Str.ofString "street"].length [isTown K C st]) T.cl T.nH (evh_town (C := C) (st := st) (i := 0) rfl)) (by unfold heldD; rw [List.length_map]; have := ok.few; omega) (by rw [ek]; exact List.pairwise_map.mpr ok.keys)
    rw [ek, List.map_map] at h
    exact h
  · obtain ⟨s, one, other⟩ := x
    refine ⟨_, _, bind_name st_nwd, by decide, ?_⟩
    refine ev_catT (ds := [.int s]) (es := [.int one, .int other]) ?_ ?_ (by simp) (by simp) (by simp)
    · walk_at "ev"
    · exact (evh_dget (evh_held T.cl T.nH (evh_town (C := C) (st := st) rfl)) (evh_var rfl rd_sn) (look_held ok.keys hx)).nw rfl
end
theorem xcls_mk {K : PySem.W.Frag} {h : Heap} {mg : Str → Option Value} {xn : Str} {C : Addr} (X : K.In h) (g : mg xn = some (.ref C)) (x : PySem.W.excIn K C [.type "ValueError", .type "Exception", .type "BaseException", .type "object"] "ValueError.__new__" = true) (k : PySem.W.keepIn K (.ref C) = true)
    (b : PySem.W.subIn K (.ref C) (.type "BaseException") = some true) (t : PySem.W.typeIn K (.ref C) = some (.type "type")) : XCls K mg xn C := ⟨g, x, k, b, t⟩

abbrev s_Town_build : Stmt := inClass (top 14) 3
theorem sc_Town_build : FnScope ["self", "one", "other"] ["self", "one", "other"] (defScope s_Town_build) := ⟨rfl, rfl, rfl, by decide +kernel, rfl, by decide +kernel, by decide +kernel⟩
abbrev s_Town_dig : Stmt := inClass (top 14) 4
theorem sc_Town_dig : FnScope ["self", "street"] ["self", "street"] (defScope s_Town_dig) := ⟨rfl, rfl, rfl, by decide +kernel, rfl, by decide +kernel, by decide +kernel⟩
abbrev s_Town___init : Stmt := inClass (top 14) 0
theorem sc_Town___init : FnScope ["self", "many"] ["self", "many"] (defScope s_Town___init) := ⟨rfl, rfl, rfl, by decide +kernel, rfl, by decide +kernel, by decide +kernel⟩
section
variable {P : Program} {w : World} {K : PySem.W.Frag} {mg : Str → Option Value} {base : Heap} {C CP CM CB CS : Addr}
theorem ok_need (T : TownTxt K mg C) (X_BadPlace : XCls K mg "BadPlace" CP) (G_is_among : Ok P w K mg base CX0 1 "is_among" ["thing", "least", "most"] (spAmong K)) (D : Mfn K C "need_place" "Town.need_place" s_Town_need_place ["self", "thing"]) :
    OkM P w K mg base (L2.CX P w) 2 C "need_place" ["self", "thing"] (spNeed K C CP) := by
  obtain ⟨f, fd, F, hm, hb⟩ := D.ex
  refine ⟨f, fd, F.okX sc_Town_need_place (fun vs H Q E h => ?_) (fun cdv A outer s H vs Q E hr h => ?_), hm, T.cl, hb⟩
  · obtain ⟨st, v0, h, _⟩ := h
    rw [aok_len h]; rfl
  · obtain ⟨st, v0, h, k1, k2⟩ := h
    refine ⟨_, (pss_one (ps_if (pt_not (pt_val (ok_call G_is_among (by exact hr.mono (by decide)) rfl (pa_cons (pv 1) (pa_cons pe_int (pa_cons (pe_op op_sub (kpe_fld K (pv 0) rfl) pe_int) pa_nil)))))) (pss_one (ps_raise rfl (takes_of rfl rfl rfl rfl) (pmk_own PySem.F.excBase_ValueError X_BadPlace.x X_BadPlace.g X_BadPlace.k (raises_own X_BadPlace.b X_BadPlace.t) rfl))) pss_nil)), ?_⟩
    refine at_enter h (stabC st_isTown (stab1 st_kdP)) (by simp) ?_
    walk_at "go"
    refine at_when (c := !amongB 0 (st.many - 1) v0) (et_not (et_B (K := K) (Ev.hd (ev_call (α := V × Int × Int) (v0, 0, st.many - 1) trivial (ea_cons st_kdP (kd_var rfl) (ea_cons st_dat ?a1 (ea_cons st_dat ?a2 ea_nil))))))) (fun c1 => ?_) (fun c1 => ?_)
    case a1 => walk_at "ev"
    case a2 =>
      refine' Ev.hd (ev_ii (Ev.hd (ev_many T.cl T.nM (evh_town rfl))) ?_ rfl)
      walk_at "ev"
    · exact fun F H1 σ c => k2 (by simpa using c1) H1 c.gr.h
    · exact fun F H1 σ c => k1 (by simpa using c1) H1 c.gr.h
end
/-! the owned town, its place known -/
def mtQ (K : PySem.W.Frag) (C : Addr) (st : TSt) (t d : Addr) : Hp → Hp → V → List Addr → Prop := fun F H v as => v = .ref t ∧ as = [t, d] ∧ ∃ dx kv, H t = some (.ins C dx (tf st.many st.built d)) ∧ H d = some (.dK kv) ∧ KvAll K e0 F kv (heldD st.held)
theorem st_mtQ {K : PySem.W.Frag} {C : Addr} {st : TSt} {t d : Addr} : MStab (mtQ K C st t d) := fun F F' H H' v as s e ⟨h1, h2, dx, kv, h3, h4, h5⟩ => by
  subst h2
  exact ⟨h1, rfl, dx, kv, by rw [e t (by simp)]; exact h3, by rw [e d (by simp)]; exact h4, kvAll_mono s h5⟩
def hid (t d : Addr) (H : Hp) : Hp := fun a => if a = t ∨ a = d then none else H a
theorem hid_same {t d : Addr} {H : Hp} : Same (hid t d H) H := fun a o h => by
  unfold hid at h
  split at h
  · cases h
  · exact h
theorem hid_at {t d a : Addr} {H : Hp} {o : HO} (h : H a = some o) (h1 : a ≠ t) (h2 : a ≠ d) : hid t d H a = some o := by
  unfold hid
  rw [if_neg (by rintro (z | z); exact h1 z; exact h2 z)]
  exact h
/-- what is known elsewhere is no owned thing's -/
theorem hid_sub {t d : Addr} {F H : Hp} (s : Same F H) (h1 : F t = none) (h2 : F d = none) : Same F (hid t d H) := fun a o h => hid_at (s a o h) (ne_of_none h h1) (ne_of_none h h2)
theorem sqt_hid {K : PySem.W.Frag} {t d a : Addr} {H : Hp} {xs : List V} (h1 : H t ≠ none → ∀ o, H t = some o → isTup o = false) (h2 : ∀ o, H d = some o → isTup o = false) (h : SqT K H a xs) : SqT K (hid t d H) a xs := by
  have g : ∀ o, isTup o = true → H a = some o → hid t d H a = some o := fun o ho e => hid_at e (fun z => by
    subst z
    have := h1 (by rw [e]; simp) o e
    rw [ho] at this; cases this) (fun z => by
    subst z
    have := h2 o e
    rw [ho] at this; cases this)
  rcases h with (h | ⟨o, h⟩) | h
  · exact .inl (.inl (g _ rfl h))
  · exact .inl (.inr ⟨o, g _ rfl h⟩)
  · exact .inr h
theorem kv_pairs {K : PySem.W.Frag} {H F : Hp} (k : ∀ a xs, SqT K H a xs → SqT K F a xs) : ∀ {h : List (Int × Int × Int)} {kv : List (Key × V)}, KvAll K e0 H kv (heldD h) → KvAll K e0 F kv (heldD h)
  | [], _, .nil => .nil
  | p :: r, _, .cons (d := _) hn a => by
    refine .cons ?_ (kv_pairs k a)
    cases hn with
    | tup h1 h2 =>
      cases h2 with
      | cons x1 x2 =>
        cases x1
        cases x2 with
        | cons x3 x4 =>
          cases x3
          cases x4
          exact .tup (k _ _ h1) (.cons (.int _) (.cons (.int _) .nil))
theorem cfg_town {K : PySem.W.Frag} {C t d dx : Addr} {st : TSt} {kv : List (Key × V)} {N : List Str} {fs : List Pd} {H : Hp} {vs : List V} (ht : H t = some (.ins C dx (tf st.many st.built d))) (hd : H d = some (.dK kv)) (hk : KvAll K e0 H kv (heldD st.held))
    (ha : AOk fs (hid t d H) vs) (sb : ∀ f ∈ fs, Stab f) (hl : fs.length + 1 ≤ N.length) :
    Cfg (hid t d H) (hid t d H) (hid t d H) H (L2.start N (.ref t :: vs)) (.mo (mtQ K C st t d) :: enterR (N.length - 1) fs) := by
  have el := aok_len ha
  have nt : hid t d H t = none := by unfold hid; rw [if_pos (.inl rfl)]
  have nd : hid t d H d = none := by unfold hid; rw [if_pos (.inr rfl)]
  refine ⟨⟨Same.refl _, hid_same, hid_same, fun a o h t z => z⟩, by simp [L2.start, enterR, el]; omega, fun j => if j = 0 then [t, d] else [], fun i j a h1 h2 => ?_, fun i a h1 => ?_, fun i s hs => ?_⟩
  · split at h1 <;> split at h2 <;> first | omega | exact (List.not_mem_nil h1).elim | exact (List.not_mem_nil h2).elim
  · split at h1
    · rcases List.mem_cons.mp h1 with rfl | h1
      · exact ⟨nt, nt, _, ht, rfl⟩
      · rw [List.mem_singleton.mp h1]
        exact ⟨nd, nd, _, hd, rfl⟩
    · cases h1
  · cases i with
    | zero =>
      cases hs
      refine ⟨st_mtQ, .ref t, rfl, rfl, rfl, dx, kv, ht, hd, kv_pairs (fun a xs h => sqt_hid (fun _ o e => by rw [ht] at e; cases e; rfl) (fun o e => by rw [hd] at e; cases e; rfl) h) hk⟩
    | succ i =>
      rw [if_neg (Nat.succ_ne_zero i)]
      have hs : (enterR (N.length - 1) fs)[i]? = some s := hs
      have c0 := cfg_start (N := List.replicate (N.length - 1) ("x" : Str)) ha sb (by simp; omega)
      obtain ⟨w, o⟩ := c0.own
      have q := o.sl i s (by simpa using hs)
      have e2 : (L2.start N (.ref t :: vs))[i + 1]? = (L2.start (List.replicate (N.length - 1) ("x" : Str)) vs)[i]? := by
        unfold L2.start
        rw [List.map_cons, List.cons_append, List.getElem?_cons_succ, List.length_cons, List.length_replicate]
        congr 3
        omega
      rw [e2]
      cases s with
      | no => trivial
      | fz f => exact q
      | mo m =>
        obtain ⟨_, v, _, h1⟩ := q
        exact absurd hs (by
          unfold enterR
          intro z
          have := List.mem_of_getElem? z
          rcases List.mem_append.mp this with h | h
          · obtain ⟨f, _, e⟩ := List.mem_map.mp h; cases e
          · have := List.eq_of_mem_replicate h; cases this)
section
variable {K : PySem.W.Frag} {B F0 : Hp} {ρ : List Sl} {te ta tb tc : TE} {d0 e : PyData} {D : Ends} {u : TS} {C t d : Addr} {st : TSt}
theorem evh_mtQ {i : Nat} (h : ρ[i]? = some (.mo (mtQ K C st t d))) : EvH B F0 ρ (tVar i) (isTown K C st) := fun F H σ c Q q => by
  obtain ⟨w, o⟩ := c.own
  obtain ⟨_, v, h1, rfl, _, dx, kv, h4, h5, h6⟩ := o.sl i _ h
  exact ⟨_, h1, q _ F H (Gr.refl c.i) ⟨t, dx, d, kv, rfl, h4, h5, kvAll_mono c.i h6⟩⟩
theorem ev_town {i : Nat} (h : ρ[i]? = some (.mo (mtQ K C st t d))) : ∀ F H σ, Cfg B F0 F H σ ρ → σ[i]? = some (some (.ref t)) ∧ F t = none ∧ F d = none ∧ ∃ dx kv, H t = some (.ins C dx (tf st.many st.built d)) ∧ H d = some (.dK kv) ∧ KvAll K e0 F kv (heldD st.held) := fun F H σ c => by
  obtain ⟨w, o⟩ := c.own
  obtain ⟨_, v, h1, rfl, ea, dx, kv, h4, h5, h6⟩ := o.sl i _ h
  exact ⟨h1, (o.at_ i t (by rw [ea]; simp)).1, (o.at_ i d (by rw [ea]; simp)).1, dx, kv, h4, h5, h6⟩
theorem put_held {h : List (Int × Int × Int)} {b x y : Int} (hb : ∀ p ∈ h, p.1 < b) : putI (heldD h) b (pairD (x, y)) = heldD (h ++ [(b, x, y)]) := by
  unfold putI
  have : ((heldD h).any fun p => p.1 == b) = false := by
    rw [List.any_eq_false]
    intro p hp
    obtain ⟨q, hq, rfl⟩ := List.mem_map.mp hp
    have := hb q hq
    simp
    omega
  rw [if_neg (by rw [this]; simp)]
  unfold heldD
  rw [List.map_append]
  rfl
/-- self.held[self.built] = (x, y) -/
theorem q_put_held (cl : Cls K C) (nH : NoAttr K C "held") {i : Nat} {b x y : Int} (h : ρ[i]? = some (.mo (mtQ K C st t d))) (hv : Ev B F0 ρ te (nwd K B (pairD (x, y)))) (hk : EvH B F0 ρ tb (dat K (.int b))) (hb : ∀ p ∈ st.held, p.1 < b) (hz : st.held.length < 100000)
    (n : At B F0 (u D) (ρ.set i (.mo (mtQ K C { st with held := st.held ++ [(b, x, y)] } t d)))) : At B F0 (tSeq (sDPut (tFld K (tVar i) "held") tb te) u D) ρ := fun F H σ c => by
  refine hv F H σ c _ fun v F1 H1 g1 p1 => ?_
  have c1 := c.go g1
  obtain ⟨es, ft, fd, dx, kv, h4, h5, h6⟩ := ev_town h F1 H1 σ c1
  refine ⟨_, es, t, C, dx, _, _, rfl, h4, cl, nH, tf_held, hk F1 H1 σ c1 _ fun z F2 H2 g2 p2 => ?_⟩
  cases p2
  have c2 := c1.go g2
  obtain ⟨_, ft2, fd2, dx2, kv2, h42, h52, h62⟩ := ev_town h F2 H2 σ c2
  refine ⟨d, _, rfl, .inl ⟨kv2, Sum.inl b, h52, rfl, sz_lt (by rw [kv_len h62]; unfold heldD; rw [List.length_map]; exact hz), rfl⟩, ?_⟩
  have ntd : t ≠ d := ne_of h42 h52 (by intro z; cases z)
  refine n F2 _ σ (c2.chF h st_mtQ fun v' as ev m => ?_)
  obtain ⟨rfl, rfl, dx', kv', m1, m2, m3⟩ := m
  rw [h42] at m1; cases m1
  rw [h52] at m2; cases m2
  refine ⟨⟨rfl, rfl, dx2, _, by rw [upd_ne ntd]; exact h42, upd_same, ?_⟩, ⟨Same.refl _, fun a o e => ?_, fun a o e1 e2 => ?_, fun a o _ _ z => z⟩, fun a ha => ?_⟩
  · show KvAll K e0 F2 _ (heldD (st.held ++ [(b, x, y)]))
    rw [← put_held hb]
    exact kv_put (nw_mono (B' := e0) (fun _ _ z => nomatch z) g2.f p1) h62
  · rw [upd_ne (ne_of_none e fd2)]; exact c2.i a o e
  · rw [upd_ne (fun z => e1 (by rw [z]; simp))]; exact e2
  · rcases List.mem_cons.mp ha with rfl | ha
    · exact ⟨_, by rw [upd_ne ntd]; exact h42, rfl⟩
    · rw [List.mem_singleton.mp ha]; exact ⟨_, upd_same, rfl⟩
/-- self.built += k -/
theorem q_built (cl : Cls K C) (nB : NoAttr K C "built") {i : Nat} {k : Int} (h : ρ[i]? = some (.mo (mtQ K C st t d))) (hv : EvH B F0 ρ te (dat K (.int k)))
    (n : At B F0 (u D) (ρ.set i (.mo (mtQ K C { st with built := st.built + k } t d)))) : At B F0 (tSeq (sFldAug K (tVar i) te rAdd "built") u D) ρ := fun F H σ c => by
  obtain ⟨es, ft, fd, dx, kv, h4, h5, h6⟩ := ev_town h F H σ c
  refine ⟨_, es, t, C, dx, _, _, rfl, h4, cl, nB, tf_built, hv F H σ c _ fun z F2 H2 g2 p2 => ?_⟩
  cases p2
  have c2 := c.go g2
  obtain ⟨_, ft2, fd2, dx2, kv2, h42, h52, h62⟩ := ev_town h F2 H2 σ c2
  refine ⟨_, _, rfl, rfl, dx2, _, h42, (by show 3 < 1000; decide), ?_⟩
  have ntd : t ≠ d := ne_of h42 h52 (by intro z; cases z)
  refine n F2 _ σ (c2.chF h st_mtQ fun v' as ev m => ?_)
  obtain ⟨rfl, rfl, dx', kv', m1, m2, m3⟩ := m
  rw [h42] at m1; cases m1
  rw [h52] at m2; cases m2
  refine ⟨⟨rfl, rfl, dx2, kv2, ?_, by rw [upd_ne ntd.symm]; exact h52, h62⟩, ⟨Same.refl _, fun a o e => ?_, fun a o e1 e2 => ?_, fun a o _ _ z => z⟩, fun a ha => ?_⟩
  · rw [upd_same, tf_put]
  · rw [upd_ne (ne_of_none e ft2)]; exact c2.i a o e
  · rw [upd_ne (fun z => e1 (by rw [z]; simp))]; exact e2
  · rcases List.mem_cons.mp ha with rfl | ha
    · exact ⟨_, upd_same, rfl⟩
    · rw [List.mem_singleton.mp ha]; exact ⟨_, by rw [upd_ne ntd.symm]; exact h52, rfl⟩
end
/-- the methods that change a town -/
structure TChg (K : PySem.W.Frag) (C : Addr) (st' : TSt) (t d : Addr) (H H' : Hp) : Prop where
  h : ∀ a o, a ≠ t → a ≠ d → H a = some o → H' a = some o
  t : ∃ dx kv, H' t = some (.ins C dx (tf st'.many st'.built d)) ∧ H' d = some (.dK kv) ∧ KvAll K e0 H' kv (heldD st'.held)
/-- what a changing method is handed -/
def TArg (K : PySem.W.Frag) (C : Addr) (st : TSt) (t d : Addr) (fs : List Pd) (H : Hp) (vs : List V) : Prop := ∃ ws, vs = .ref t :: ws ∧ (∃ dx kv, H t = some (.ins C dx (tf st.many st.built d)) ∧ H d = some (.dK kv) ∧ KvAll K e0 H kv (heldD st.held)) ∧ AOk fs (hid t d H) ws
def spBuild (K : PySem.W.Frag) (C CP CM : Addr) : Sp := fun vs H Q E => ∃ (st : TSt) (t d : Addr) (v1 v2 : V), TArg K C st t d [kdP K v1, kdP K v2] H vs ∧ TOk st ∧
  (∀ a b, v1 = .int a → v2 = .int b → 0 ≤ a → a < st.many → 0 ≤ b → b < st.many → a ≠ b → st.held.length < 60 → ∀ H', TChg K C { many := st.many, built := st.built + 1, held := st.held ++ [(st.built, a, b)] } t d H H' → Q (.int st.built) H') ∧
  ((amongB 0 (st.many - 1) v1 = false ∨ amongB 0 (st.many - 1) v2 = false ∨ v1 = v2) → ∀ H', TChg K C st t d H H' → E (.ref CP) none H') ∧
  (amongB 0 (st.many - 1) v1 = true → amongB 0 (st.many - 1) v2 = true → v1 ≠ v2 → st.held.length = 60 → ∀ H', TChg K C st t d H H' → E (.ref CM) none H')
def spDig (K : PySem.W.Frag) (C CS : Addr) : Sp := fun vs H Q E => ∃ (st : TSt) (t d : Addr) (v1 : V), TArg K C st t d [kdP K v1] H vs ∧ TOk st ∧
  (∀ s, v1 = .int s → s ∈ st.held.map (·.1) → ∀ H', TChg K C { st with held := st.held.filter fun p => decide (p.1 ≠ s) } t d H H' → Q .non H') ∧
  ((∀ s, v1 = .int s → s ∉ st.held.map (·.1)) → ∀ H', TChg K C st t d H H' → E (.ref CS) none H')
def spInit (K : PySem.W.Frag) (C CB : Addr) : Sp := fun vs H Q E => ∃ (x dx : Addr) (v : V), vs = [.ref x, v] ∧ H x = some (.ins C dx []) ∧ Kd K H v ∧
  (∀ n, v = .int n → 1 ≤ n → n ≤ 16 → ∀ d H', H d = none → (∀ a o, a ≠ x → H a = some o → H' a = some o) → H' x = some (.ins C dx (tf n 0 d)) → H' d = some (.dK []) → Q .non H') ∧ (amongB 1 16 v = false → ∀ H', Same H H' → E (.ref CB) none H')
section
variable {K : PySem.W.Frag} {B F0 : Hp} {ρ : List Sl} {te ta tb tc : TE} {d0 e : PyData} {D : Ends} {u : TS} {C t d : Addr} {st st' : TSt}
/-- the end of a changing method: what stands at the slots is told of the heap -/
theorem chg_of {H0 F H : Hp} {σ : L2.St} {i : Nat} (h : ρ[i]? = some (.mo (mtQ K C st t d))) (c : Cfg (hid t d H0) (hid t d H0) F H σ ρ) : TChg K C st t d H0 H := by
  obtain ⟨_, _, _, dx, kv, h1, h2, h3⟩ := ev_town h F H σ c
  exact ⟨fun a o n1 n2 e => c.gr.h a o (hid_at e n1 n2), dx, kv, h1, h2, kvAll_mono c.i h3⟩
theorem ev_isKd {i : Nat} {v : V} (h : ρ[i]? = some (.fz (kdP K v))) : Ev B F0 ρ (tVar i) (kdP K v) := ev_var h
/-- an int that came as a thing of any kind -/
theorem ev_kdInt {i : Nat} {n : Int} (h : ρ[i]? = some (.fz (kdP K (.int n)))) : Ev B F0 ρ (tVar i) (nwd K B (.int n)) := (ev_var h).imp fun F v p => by rw [p.1]; exact .int n
/-- need_place on the town's own -/
theorem q_need {CP : Addr} {E : XK} {i j : Nat} {v : V} (h : ρ[i]? = some (.mo (mtQ K C st t d))) (hj : ρ[j]? = some (.fz (kdP K v)))
    (k1 : amongB 0 (st.many - 1) v = true → At B F0 (u D) ρ) (k2 : amongB 0 (st.many - 1) v = false → ∀ F H σ, Cfg B F0 F H σ ρ → E (.ref CP) none H) :
    At B F0 (tSeq (tDrop (tMeth C "need_place" (spNeed K C CP) [] E (tVar i) (tCons (tVar j) tNil))) u D) ρ := fun F H σ c => by
  obtain ⟨es, ft, fd, dx, kv, h4, h5, h6⟩ := ev_town h F H σ c
  obtain ⟨w, o⟩ := c.own
  obtain ⟨_, v', e1, e2, e3⟩ := o.sl j _ hj
  refine ⟨_, es, t, dx, _, rfl, h4, tf_no (by decide +kernel) (by decide +kernel) (by decide +kernel), v', e1, st, v, ?_, fun q H' s => ?_, fun q H' s => ?_⟩
  · exact ⟨_, _, rfl, ⟨t, dx, d, kv, rfl, h4, h5, kvAll_mono c.i h6⟩, _, _, rfl, st_kdP _ _ _ c.i ⟨e2, e3⟩, rfl⟩
  · exact k1 q F H' σ (c.go (gr_call c.i s))
  · exact k2 q F H' σ (c.go (gr_call c.i s))
/-- len(self.held) -/
theorem ev_lenHeld (cl : Cls K C) (nH : NoAttr K C "held") (ha : EvH B F0 ρ ta (isTown K C st)) : Ev B F0 ρ (tCB (fun xs H Q => ∃ a kvs, xs = [V.ref a] ∧ H a = some (.dK kvs) ∧ Q (.int kvs.length) H) (tCons (tFld K ta "held") tNil)) (nwd K B (.int st.held.length)) := fun F H σ c Q q =>
  ha F H σ c _ fun v F' H' g ⟨t, dx, d, kv, e, h, h2, h3⟩ => ⟨t, C, dx, _, _, e, h, cl, nH, tf_held, d, kv, rfl, h2, by
    rw [kv_len h3, show (heldD st.held).length = st.held.length by simp [heldD]]
    exact q _ F' H' g (.int _)⟩
end
section
variable {P : Program} {w : World} {K : PySem.W.Frag} {mg : Str → Option Value} {base : Heap} {C CP CM CB CS : Addr}
theorem among_int {lo hi : Int} {v : V} (h : amongB lo hi v = true) : ∃ i, v = .int i ∧ lo ≤ i ∧ i ≤ hi := by
  cases v with
  | int i => exact ⟨i, rfl, by simpa [amongB] using h⟩
  | _ => simp [amongB] at h
theorem ok_build (Z : Zs mg) (T : TownTxt K mg C) (X_BadPlace : XCls K mg "BadPlace" CP) (X_TooMany : XCls K mg "TooMany" CM) (M_need_place : OkM P w K mg base (L2.CX P w) 2 C "need_place" ["self", "thing"] (spNeed K C CP))
    (D : Mfn K C "build" "Town.build" s_Town_build ["self", "one", "other"]) : OkM P w K mg base (L2.CX P w) 3 C "build" ["self", "one", "other"] (spBuild K C CP CM) := by
  obtain ⟨f, fd, F, hm, hb⟩ := D.ex
  refine ⟨f, fd, F.okX sc_Town_build (fun vs H Q E h => ?_) (fun cdv A outer s H vs Q E hr h => ?_), hm, T.cl, hb⟩
  · obtain ⟨st, t, d, v1, v2, ⟨ws, rfl, _, h⟩, _⟩ := h
    rw [List.length_cons, aok_len h]; rfl
  · obtain ⟨st, t, d, v1, v2, ⟨ws, rfl, ⟨dx, kv, h1, h2, h3⟩, h4⟩, ok, k1, k2, k3⟩ := h
    obtain ⟨tM, gM⟩ := T.c_MOST_STREETS
    refine ⟨_, (pss_cons (ps_expr (ok_methP (takes_of rfl rfl rfl rfl) M_need_place (by exact hr.mono (by decide)) (pv 0) (pa_cons (pv 1) pa_nil)))
    (pss_cons (ps_expr (ok_methP (takes_of rfl rfl rfl rfl) M_need_place (by exact hr.mono (by decide)) (pv 0) (pa_cons (pv 2) pa_nil)))
    (pss_cons (ps_if (pt_cmpR op_eq (pv 1) (pv 2) (nomark _)) (pss_one (ps_raise rfl (takes_of rfl rfl rfl rfl) (pmk_own PySem.F.excBase_ValueError X_BadPlace.x X_BadPlace.g X_BadPlace.k (raises_own X_BadPlace.b X_BadPlace.t) rfl))) pss_nil)
    (pss_cons (ps_if (pt_cmpR op_eq (pe_callB call_lenD (by rfl) Z.len PySem.boot_len (pa_cons (kpe_fld K (pv 0) rfl) pa_nil)) (glob_int rfl T.c_MOST_STREETS) (nomark _)) (pss_one (ps_raise rfl (takes_of rfl rfl rfl rfl) (pmk_own PySem.F.excBase_ValueError X_TooMany.x X_TooMany.g X_TooMany.k (raises_own X_TooMany.b X_TooMany.t) rfl))) pss_nil)
    (pss_cons (ps_dput (by exact hu_of hr) (kpe_fld K (pv 0) rfl) (kpe_fld K (pv 0) rfl) (pe_tup (pa_cons (pv 1) (pa_cons (pv 2) pa_nil))) rfl)
    (pss_cons (ps_fldaug (pv 0) pe_int in_add)
    (pss_one (ps_ret (pe_op op_sub (kpe_fld K (pv 0) rfl) pe_int))))))))), ?_⟩
    refine (?_ : At (hid t d H) (hid t d H) _ _) _ _ _ (cfg_town (st := st) h1 h2 h3 h4 (stabC st_kdP (stab1 st_kdP)) (by simp))
    walk_at "go"
    refine q_need rfl rfl (fun c1 => ?_) (fun c1 F H1 σ c => k2 (.inl c1) H1 (chg_of (i := 0) rfl c))
    refine q_need rfl rfl (fun c2 => ?_) (fun c2 F H1 σ c => k2 (.inr (.inl c2)) H1 (chg_of (i := 0) rfl c))
    obtain ⟨a, rfl, a1, a2⟩ := among_int c1
    obtain ⟨b, rfl, b1, b2⟩ := among_int c2
    refine q_when (c := decide (a = b)) (et_test (K := K) (Ev.hd (ev_eqI (Ev.hd (ev_kdInt rfl)) (Ev.hd (ev_kdInt rfl))))) (fun c3 => ?_) (fun c3 => ?_)
    · have c4 : a = b := by simpa using c3
      exact fun F H1 σ c => k2 (.inr (.inr (by rw [c4]))) H1 (chg_of (i := 0) rfl c)
    have c4 : a ≠ b := by simpa using c3
    refine q_when (c := decide ((st.held.length : Int) = 60)) (et_test (K := K) (Ev.hd (ev_eqI (Ev.hd (ev_lenHeld T.cl T.nH (evh_mtQ rfl))) (Ev.hd ev_int)))) (fun c5 => ?_) (fun c5 => ?_)
    · have c6 : (st.held.length : Int) = 60 := by simpa using c5
      exact fun F H1 σ c => k3 c1 c2 (fun z => c4 (V.int.inj z)) (by omega) H1 (chg_of (i := 0) rfl c)
    have c6 : ¬ (st.held.length : Int) = 60 := by simpa using c5
    have few := ok.few
    refine q_put_held T.cl T.nH (i := 0) (b := st.built) (x := a) (y := b) rfl (ev_tup (eas_cons (ev_kdInt rfl) (eas_cons (ev_kdInt rfl) eas_nil)) (by simp)) (Ev.hd (ev_built T.cl T.nB (evh_mtQ rfl))) (fun p hp => (ok.rng p hp).2.1) (by omega) ?_
    refine q_built T.cl T.nB (i := 0) (k := 1) rfl (Ev.hd ev_int) ?_
    refine fun F H1 σ c => ?_
    refine (ev_ii (K := K) (a := st.built + 1) (b := 1) (Ev.hd (ev_built (st := { many := st.many, built := st.built + 1, held := st.held ++ [(st.built, a, b)] }) T.cl T.nB (evh_mtQ (t := t) (d := d) rfl))) (Ev.hd ev_int) rfl) F H1 σ c _ fun v F2 H2 g p => ?_
    cases p
    have e : st.built + 1 - 1 = st.built := by omega
    rw [e]
    exact k1 a b rfl rfl a1 (by omega) b1 (by omega) c4 (by omega) H2 (chg_of (i := 0) rfl (c.go g))
end
section
variable {K : PySem.W.Frag} {B F0 : Hp} {ρ : List Sl} {te ta tb tc : TE} {d0 e : PyData} {D : Ends} {u : TS} {C t d : Addr} {st st' : TSt}
theorem drop_held {s : Int} : ∀ {h : List (Int × Int × Int)} {F : Hp} {kv : List (Key × V)}, KvAll K e0 F kv (heldD h) → KvAll K e0 F (dropK kv (Sum.inl s : Key)) (heldD (h.filter fun p => decide (p.1 ≠ s)))
  | [], _, _, .nil => .nil
  | p :: r, _, _, .cons hn a => by
    have ih := drop_held (s := s) a
    by_cases e : p.1 = s
    · rw [dropK_pos (by show (Sum.inl p.1 : Key) = Sum.inl s; rw [e]), List.filter_cons, if_neg (by simp [e])]
      exact ih
    · rw [dropK_neg (by exact fun q => e (Sum.inl.inj q)), List.filter_cons, if_pos (by simp [e])]
      exact .cons hn ih
theorem look_mem {s : Int} : ∀ {h : List (Int × Int × Int)}, (lookI (heldD h) s).isSome = decide (s ∈ h.map (·.1))
  | [] => by simp [lookI, heldD]
  | p :: r => by
    have ih := look_mem (s := s) (h := r)
    unfold lookI heldD at ih ⊢
    rw [List.map_cons, List.find?_cons]
    by_cases e : p.1 = s
    · rw [show ((p.1, pairD p.2).1 == s) = true from by simp [e]]
      simp [e]
    · rw [show ((p.1, pairD p.2).1 == s) = false from beq_eq_false_iff_ne.mpr e]
      have e' : ¬ s = p.1 := fun z => e z.symm
      simp only [List.map_cons, List.mem_cons, e', false_or]
      exact ih
/-- self.held.pop(s) -/
theorem at_pop_held (cl : Cls K C) (nH : NoAttr K C "held") {i : Nat} {s : Int} (h : ρ[i]? = some (.mo (mtQ K C st t d))) (hk : EvH B F0 ρ tb (dat K (.int s))) (hm : s ∈ st.held.map (·.1))
    (n : At B F0 D.nx (ρ.set i (.mo (mtQ K C { st with held := st.held.filter fun p => decide (p.1 ≠ s) } t d)))) : At B F0 (tDrop (tDPop1 (tFld K (tVar i) "held") tb) D) ρ := fun F H σ c => by
  obtain ⟨es, ft, fd, dx, kv, h4, h5, h6⟩ := ev_town h F H σ c
  refine ⟨_, es, t, C, dx, _, _, rfl, h4, cl, nH, tf_held, d, rfl, .inl ⟨kv, .inl h5⟩, hk F H σ c _ fun z F2 H2 g p => ?_⟩
  cases p
  have c2 := c.go g
  obtain ⟨_, ft2, fd2, dx2, kv2, h42, h52, h62⟩ := ev_town h F2 H2 σ c2
  have hs : (lookI (heldD st.held) s).isSome = true := by rw [look_mem]; exact decide_eq_true hm
  rcases kv_look (k := s) h62 with ⟨q1, _⟩ | ⟨v, dd, q1, q2, _⟩
  · rw [q1] at hs; cases hs
  · refine ⟨kv2, Sum.inl s, v, h52, rfl, q2, ?_⟩
    have ntd : t ≠ d := ne_of h42 h52 (by intro z; cases z)
    refine n F2 _ σ (c2.chF h st_mtQ fun v' as ev m => ?_)
    obtain ⟨rfl, rfl, dx', kv', m1, m2, m3⟩ := m
    rw [h42] at m1; cases m1
    rw [h52] at m2; cases m2
    refine ⟨⟨rfl, rfl, dx2, _, by rw [upd_ne ntd]; exact h42, upd_same, drop_held h62⟩, ⟨Same.refl _, fun a o e => ?_, fun a o e1 e2 => ?_, fun a o _ _ z => z⟩, fun a ha => ?_⟩
    · rw [upd_ne (ne_of_none e fd2)]; exact c2.i a o e
    · rw [upd_ne (fun z => e1 (by rw [z]; simp))]; exact e2
    · rcases List.mem_cons.mp ha with rfl | ha
      · exact ⟨_, by rw [upd_ne ntd]; exact h42, rfl⟩
      · rw [List.mem_singleton.mp ha]; exact ⟨_, upd_same, rfl⟩
end
section
variable {P : Program} {w : World} {K : PySem.W.Frag} {mg : Str → Option Value} {base : Heap} {C CP CM CB CS : Addr}
theorem ok_dig (Z : Zs mg) (T : TownTxt K mg C) (X_BadStreet : XCls K mg "BadStreet" CS) (G_is_among : Ok P w K mg base CX0 1 "is_among" ["thing", "least", "most"] (spAmong K))
    (D : Mfn K C "dig" "Town.dig" s_Town_dig ["self", "street"]) : OkM P w K mg base (L2.CX P w) 2 C "dig" ["self", "street"] (spDig K C CS) := by
  obtain ⟨f, fd, F, hm, hb⟩ := D.ex
  refine ⟨f, fd, F.okX sc_Town_dig (fun vs H Q E h => ?_) (fun cdv A outer s H vs Q E hr h => ?_), hm, T.cl, hb⟩
  · obtain ⟨st, t, d, v1, ⟨ws, rfl, _, h⟩, _⟩ := h
    rw [List.length_cons, aok_len h]; rfl
  · obtain ⟨st, t, d, v1, ⟨ws, rfl, ⟨dx, kv, h1, h2, h3⟩, h4⟩, ok, k1, k2⟩ := h
    refine ⟨_, (pss_cons (ps_if (PW.pt (pw_or (pt_not (pt_val (ok_call G_is_among (by exact hr.mono (by decide)) rfl (pa_cons (pv 1) (pa_cons pe_int (pa_cons (pe_op op_sub (kpe_fld K (pv 0) rfl) pe_int) pa_nil)))))) (pw_or1 (pt_cmp (pc_dnotin (by exact hu_of hr) (pv 1) (kpe_fld K (pv 0) rfl)))))) (pss_one (ps_raise rfl (takes_of rfl rfl rfl rfl) (pmk_own PySem.F.excBase_ValueError X_BadStreet.x X_BadStreet.g X_BadStreet.k (raises_own X_BadStreet.b X_BadStreet.t) rfl))) pss_nil)
    (pss_one (ps_expr (pe_dpop1 (kpe_fld K (pv 0) rfl) (pv 1) ⟨rfl, by rfl, rfl, rfl⟩)))), ?_⟩
    refine (?_ : At (hid t d H) (hid t d H) _ _) _ _ _ (cfg_town (st := st) h1 h2 h3 h4 (stab1 st_kdP) (by simp))
    walk_at "go"
    have among : EvT (hid t d H) (hid t d H) (Sl.mo (mtQ K C st t d) :: enterR 1 [kdP K v1]) (tNot (tB (tCall (spAmong K) [] E0 (tCons (tVar 1) (tCons (tC (.int 0)) (tCons (tOp (rI0 fun i j => .int (i - j)) (tFld K (tVar 0) "built") (tC (.int 1))) tNil)))))) (!amongB 0 (st.built - 1) v1) :=
      et_not (et_B (K := K) (Ev.hd (ev_call (α := V × Int × Int) (v1, 0, st.built - 1) trivial (ea_cons st_kdP (kd_var rfl) (ea_cons st_dat (Ev.hd ev_int) (ea_cons st_dat (Ev.hd (ev_ii (Ev.hd (ev_built T.cl T.nB (evh_mtQ rfl))) (Ev.hd ev_int) rfl)) ea_nil))))))
    cases am : amongB 0 (st.built - 1) v1 with
    | false =>
      refine q_when (c := true) (et_is (et_or (c := true) among fun z => ?_) (by rw [am]; rfl)) (fun _ => ?_) (fun z => by cases z)
      · rw [am] at z; cases z
      · refine fun F H1 σ c => k2 (fun s e m => ?_) H1 (chg_of (i := 0) rfl c)
        subst e
        obtain ⟨p, hp, rfl⟩ := List.mem_map.mp m
        have r := ok.rng p hp
        have : amongB 0 (st.built - 1) (.int p.1) = true := by simp [amongB]; omega
        rw [this] at am; cases am
    | true =>
      obtain ⟨n, rfl, n1, n2⟩ := among_int am
      refine q_when (c := !decide (n ∈ st.held.map (·.1))) (et_is (et_or (c := !decide (n ∈ st.held.map (·.1))) among fun _ => ?_) (by rw [am]; rfl)) (fun c1 => ?_) (fun c1 => ?_)
      · have h := ev_dnotin (K := K) (B := hid t d H) (F0 := hid t d H) (ρ := Sl.mo (mtQ K C st t d) :: enterR 1 [kdP K (.int n)]) (Ev.hd (ev_kdInt (i := 1) rfl)) (evh_held T.cl T.nH (evh_mtQ (i := 0) rfl))
        rw [look_mem] at h
        exact et_B (K := K) (Ev.hd h)
      · have c2 : n ∉ st.held.map (·.1) := by simpa using c1
        exact fun F H1 σ c => k2 (fun s e => by cases e; exact c2) H1 (chg_of (i := 0) rfl c)
      · have c2 : n ∈ st.held.map (·.1) := by simpa using c1
        refine at_pop_held T.cl T.nH (i := 0) rfl (Ev.hd (ev_kdInt rfl)) c2 ?_
        exact fun F H1 σ c => k1 n rfl c2 H1 (chg_of (i := 0) rfl c)
end

theorem putB {n b : Int} : putF "built" (.int b) (putF "many" (.int n) []) = ([("many", V.int n), ("built", V.int b)] : List (Str × V)) := by
  show (if ("many" : Str) = "built" then _ else (("many" : Str), V.int n) :: [(("built" : Str), V.int b)]) = _
  rw [if_neg ks1]
theorem putH {n b : Int} {d : Addr} : putF "held" (.ref d) ([("many", V.int n), ("built", V.int b)] : List (Str × V)) = tf n b d := by
  show (if ("many" : Str) = "held" then _ else (("many" : Str), V.int n) :: (if ("built" : Str) = "held" then _ else (("built" : Str), V.int b) :: [(("held" : Str), V.ref d)])) = _
  rw [if_neg ks2, if_neg ks3]
  rfl
section
variable {P : Program} {w : World} {K : PySem.W.Frag} {mg : Str → Option Value} {base : Heap} {C CP CM CB CS : Addr}
theorem ok_init (T : TownTxt K mg C) (X_BadCount : XCls K mg "BadCount" CB) (G_is_among : Ok P w K mg base CX0 1 "is_among" ["thing", "least", "most"] (spAmong K)) {f : Addr} {fd : FuncData} (F : Fun K "__init__" "Town.__init__" s_Town___init f fd) :
    FnOk P w K mg base (L2.CX P w) 2 f fd ["self", "many"] (spInit K C CB) := by
  refine F.okX sc_Town___init (fun vs H Q E h => ?_) (fun cdv A outer s H vs Q E hr h => ?_)
  · obtain ⟨x, dx, v, rfl, _⟩ := h
    rfl
  · obtain ⟨x, dx, v, rfl, hx, kd, k1, k2⟩ := h
    refine ⟨_, (pss_cons (ps_if (pt_not (pt_val (ok_call G_is_among (by exact hr.mono (by decide)) rfl (pa_cons (pv 1) (pa_cons pe_int (pa_cons (glob_int rfl T.c_MOST_PLACES) pa_nil)))))) (pss_one (ps_raise rfl (takes_of rfl rfl rfl rfl) (pmk_own PySem.F.excBase_ValueError X_BadCount.x X_BadCount.g X_BadCount.k (raises_own X_BadCount.b X_BadCount.t) rfl))) pss_nil)
    (pss_cons (ps_fld (pv 0) (pv 1) rfl)
    (pss_cons (ps_fld (pv 0) pe_int rfl)
    (pss_one (ps_fld (pv 0) pe_dnewK rfl))))), ?_⟩
    walk_at "go"
    refine ⟨_, rfl, (v, 1, 16), trivial, ⟨_, _, rfl, ⟨rfl, kd⟩, _, _, rfl, .int 1, _, _, rfl, .int 16, rfl⟩, fun r H1 s1 n => ?_⟩
    cases n
    refine ⟨_, rfl, ?_⟩
    cases am : amongB 1 16 v with
    | false => exact iteT (k2 am H1 s1)
    | true =>
      refine iteF ?_
      obtain ⟨n, rfl, n1, n2⟩ := among_int am
      refine ⟨_, rfl, _, rfl, x, C, dx, _, rfl, s1 _ _ hx, T.cl, T.nM, (by decide), ?_⟩
      refine ⟨_, rfl, x, C, dx, _, rfl, upd_same, T.cl, T.nB, (by show 1 < 1000; decide), ?_⟩
      intro d hd
      have nxd : x ≠ d := fun z => by rw [z, upd_same] at hd; cases hd
      refine ⟨_, rfl, x, C, dx, _, rfl, (by rw [upd_ne nxd]; exact upd_same), T.cl, T.nH, (by rw [putB]; show 2 < 1000; decide), ?_⟩
      have hd1 : H1 d = none := by
        rw [upd_ne nxd.symm, upd_ne nxd.symm] at hd
        exact hd
      refine k1 n rfl n1 n2 d _ (s1.free hd1) (fun a o hne e => ?_) ?_ ?_
      · rw [upd_ne hne, upd_ne (ne_of_none (s1 _ _ e) hd1), upd_ne hne, upd_ne hne]
        exact s1 _ _ e
      · rw [upd_same]
        rw [putB, putH]
      · rw [upd_ne nxd.symm, upd_same]
end
section
variable {K : PySem.W.Frag} {B F0 : Hp} {ρ : List Sl} {te ta tb tc : TE} {d0 e : PyData} {D : Ends} {u : TS} {C CB CP CM CS : Addr} {st st' : TSt} {E : XK}
/-! the town as an owned thing of a def's: made, built at, dug at -/
theorem q_make {i : Nat} {n : Int} (ha : EvH B F0 ρ ta (dat K (.int n))) (h1 : 1 ≤ n) (h2 : n ≤ 16) (k : At B F0 (u D) (ρ.set i (mt K C { many := n, built := 0, held := [] }))) :
    At B F0 (tSeq (tAsg (tMake C (spInit K C CB) [] E (tCons ta tNil)) (gName i)) u D) ρ := fun F H σ c => ha F H σ c _ fun v F1 H1 g1 p => by
  cases p
  intro x dx nx ndx nex
  have c1 := c.go g1
  refine ⟨x, dx, .int n, rfl, upd_same, kd_dp (K := K) (.int n), fun m em _ _ d H2 hd hs hx hk => ⟨rfl, ?_⟩, fun z => absurd z (by simp [amongB]; omega)⟩
  cases em
  have nd : H1 d = none := by
    have n1 : d ≠ x := fun z => by rw [z, upd_same] at hd; cases hd
    rw [upd_ne n1] at hd
    have n2 : d ≠ dx := fun z => by rw [z, upd_same] at hd; cases hd
    rw [upd_ne n2] at hd
    exact hd
  have s2 : Same H1 H2 := fun a o e => hs a o (ne_of_none e nx) (by rw [upd_ne (ne_of_none e nx), upd_ne (ne_of_none e ndx)]; exact e)
  have g2 : Gr F1 H1 F1 H2 := gr_call g1.i s2
  refine k F1 H2 _ (c1.setN (as := [x, d]) st_mt g2 ⟨x, dx, d, [], rfl, rfl, hx, hk, .nil⟩ fun a ha => ?_)
  rcases List.mem_cons.mp ha with rfl | ha
  · exact ⟨g1.i.free nx, nx, _, hx, rfl⟩
  · rw [List.mem_singleton.mp ha]
    exact ⟨g1.i.free nd, nd, _, hk, rfl⟩
theorem chg_ch {F H H2 : Hp} {t d : Addr} (i : Same F H) (ft : F t = none) (fd : F d = none) (h : TChg K C st' t d H H2) : ∃ F2, Ch [t, d] F H F2 H2 ∧ ∃ dx kv, H2 t = some (.ins C dx (tf st'.many st'.built d)) ∧ H2 d = some (.dK kv) ∧ KvAll K e0 F2 kv (heldD st'.held) := by
  obtain ⟨hh, dx, kv, h1, h2, h3⟩ := h
  have iF : Same F H2 := fun a o e => hh a o (ne_of_none e ft) (ne_of_none e fd) (i a o e)
  -- the pairs of the town are taken as standing still
  have key : ∀ {hl : List (Int × PyData)} {kv : List (Key × V)}, KvAll K e0 H2 kv hl → (∀ p ∈ hl, flatD p.2 = true) → ∀ F1, Gr F H2 F1 H2 → ∃ F2, Gr F H2 F2 H2 ∧ Same F1 F2 ∧ KvAll K e0 F2 kv hl := by
    intro hl kv a
    induction a with
    | nil => exact fun _ F1 g => ⟨F1, g, Same.refl _, .nil⟩
    | @cons k v dd kv kvs hn _ ih =>
      intro fl F1 g
      obtain ⟨F2, g2, s2, n2⟩ := dp_prom (B := e0) (nw_dp hn) (fl (k, dd) (List.mem_cons.mpr (.inl rfl))) F1 g
      obtain ⟨F3, g3, s3, n3⟩ := ih (fun p hp => fl p (List.mem_cons.mpr (.inr hp))) F2 g2
      exact ⟨F3, g3, s2.trans s3, .cons (nw_mono (Same.refl _) s3 n2) n3⟩
  obtain ⟨F2, g2, _, n2⟩ := key h3 (fun p hp => by
    obtain ⟨q, _, rfl⟩ := List.mem_map.mp hp
    rfl) F (Gr.refl iF)
  refine ⟨F2, ⟨g2.f, g2.i, fun a o hn e => hh a o (fun z => hn (by rw [z]; simp)) (fun z => hn (by rw [z]; simp)) e, fun a o e ht z => ?_⟩, dx, kv, h1, h2, n2⟩
  by_cases ea : a = t
  · subst ea
    exact g2.n _ _ h1 rfl z
  · by_cases ed : a = d
    · subst ed
      exact g2.n _ _ h2 rfl z
    · exact g2.n a o (hh a o ea ed e) ht z
/-- an owned town's slot, opened -/
theorem mt_open {i : Nat} (h : ρ[i]? = some (mt K C st)) : ∀ F H σ, Cfg B F0 F H σ ρ → ∃ t d dx kv, σ[i]? = some (some (.ref t)) ∧ F t = none ∧ F d = none ∧ H t = some (.ins C dx (tf st.many st.built d)) ∧ H d = some (.dK kv) ∧ KvAll K e0 F kv (heldD st.held) := fun F H σ c => by
  obtain ⟨w, o⟩ := c.own
  obtain ⟨_, v, h1, t, dx, d, kv, rfl, ea, h4, h5, h6⟩ := o.sl i _ h
  exact ⟨t, d, dx, kv, h1, (o.at_ i t (by rw [ea]; simp)).1, (o.at_ i d (by rw [ea]; simp)).1, h4, h5, h6⟩
theorem cfg_chg {F H H2 : Hp} {σ : L2.St} {i : Nat} {t d : Addr} (h : ρ[i]? = some (mt K C st)) (c : Cfg B F0 F H σ ρ) (es : σ[i]? = some (some (.ref t))) (ft : F t = none) (fd : F d = none) {dx : Addr} (ht : H t = some (.ins C dx (tf st.many st.built d))) (hc : TChg K C st' t d H H2) :
    ∃ F2, Same F F2 ∧ Cfg B F0 F2 H2 σ (ρ.set i (mt K C st')) := by
  obtain ⟨F2, ch, dx2, kv2, q1, q2, q3⟩ := chg_ch c.i ft fd hc
  refine ⟨F2, ch.f, c.chF h st_mt fun v as ev m => ?_⟩
  obtain ⟨t', dx', d', kv', rfl, rfl, m1, m2, m3⟩ := m
  rw [es] at ev
  cases ev
  rw [ht] at m1
  have ed : d = d' := by
    have := congrArg (fun o => match o with | some (HO.ins _ _ fs) => fs.lookup ("held" : Str) | _ => none) m1
    simp only [tf_held] at this
    cases this
    rfl
  subst ed
  refine ⟨⟨t, dx2, d, kv2, rfl, rfl, q1, q2, q3⟩, ch, fun a ha => ?_⟩
  rcases List.mem_cons.mp ha with rfl | ha
  · exact ⟨_, q1, rfl⟩
  · rw [List.mem_singleton.mp ha]; exact ⟨_, q2, rfl⟩
theorem evx_build {i : Nat} {a b : Int} (h : ρ[i]? = some (mt K C st)) (ha : EvH B F0 ρ ta (dat K (.int a))) (hb : EvH B F0 ρ tb (dat K (.int b))) (ok : TOk st) (a1 : 0 ≤ a) (a2 : a < st.many) (b1 : 0 ≤ b) (b2 : b < st.many) (hne : a ≠ b) (few : st.held.length < 60) :
    EvX B F0 ρ (tMeth C "build" (spBuild K C CP CM) [] E0 (tVar i) (tCons ta (tCons tb tNil))) (ρ.set i (mt K C { many := st.many, built := st.built + 1, held := st.held ++ [(st.built, a, b)] })) (nwd K B (.int st.built)) := fun F H σ c Q q => by
  obtain ⟨t, d, dx, kv, es, ft, fd, h4, h5, h6⟩ := mt_open h F H σ c
  refine ⟨_, es, t, dx, _, rfl, h4, tf_no (by decide +kernel) (by decide +kernel) (by decide +kernel), ha F H σ c _ fun v1 F1 H1 g1 p1 => hb F1 H1 σ (c.go g1) _ fun v2 F2 H2 g2 p2 => ?_⟩
  cases p1; cases p2
  have c2 := (c.go g1).go g2
  have g := g1.trans g2
  have ft2 := g.n t _ h4 rfl ft
  have fd2 := g.n d _ h5 rfl fd
  have ht2 := g.h _ _ h4
  refine ⟨st, t, d, .int a, .int b, ⟨[.int a, .int b], rfl, ⟨dx, kv, ht2, g.h _ _ h5, kvAll_mono (g.f.trans g.i) h6⟩, ⟨_, _, rfl, ⟨rfl, kd_dp (K := K) (.int a)⟩, _, _, rfl, ⟨rfl, kd_dp (K := K) (.int b)⟩, rfl⟩⟩, ok, fun a' b' ea eb _ _ _ _ _ _ H3 hc => ?_, fun z => ?_, fun _ _ _ z => by omega⟩
  · cases ea; cases eb
    obtain ⟨F3, _, c3⟩ := cfg_chg h c2 es ft2 fd2 ht2 hc
    exact q _ F3 H3 c3 (.int _)
  · rcases z with z | z | z
    · simp [amongB] at z; omega
    · simp [amongB] at z; omega
    · exact absurd (V.int.inj z) hne
theorem evx_dig {i : Nat} {s : Int} {ρ1 : List Sl} {st1 : TSt} (hx : EvX B F0 ρ ta ρ1 (nwd K B (.int s))) (h : ρ1[i]? = some (mt K C st1)) (ok : TOk st1) (hm : s ∈ st1.held.map (·.1))
    (ho : ∀ F H σ, Cfg B F0 F H σ ρ → ∃ t dx fs, σ[i]? = some (some (.ref t)) ∧ H t = some (.ins C dx fs) ∧ fs.lookup ("dig" : Str) = none) :
    EvX B F0 ρ (tMeth C "dig" (spDig K C CS) [] E0 (tVar i) (tCons ta tNil)) (ρ1.set i (mt K C { st1 with held := st1.held.filter fun p => decide (p.1 ≠ s) })) (nwd K B .none) := fun F H σ c Q q => by
  obtain ⟨t0, dx0, fs0, e0', e1, e2⟩ := ho F H σ c
  refine ⟨_, e0', t0, dx0, fs0, rfl, e1, e2, hx F H σ c _ fun v1 F1 H1 c1 p1 => ?_⟩
  cases p1
  obtain ⟨t, d, dx, kv, es, ft, fd, h4, h5, h6⟩ := mt_open h F1 H1 σ c1
  rw [e0'] at es
  cases es
  refine ⟨st1, t0, d, .int s, ⟨[.int s], rfl, ⟨dx, kv, h4, h5, kvAll_mono c1.i h6⟩, ⟨_, _, rfl, ⟨rfl, kd_dp (K := K) (.int s)⟩, rfl⟩⟩, ok, fun s' es _ H3 hc => ?_, fun z => absurd hm (z s rfl)⟩
  cases es
  obtain ⟨F3, _, c3⟩ := cfg_chg h c1 e0' ft fd h4 hc
  exact q _ F3 H3 c3 .non
end
section
variable {P : Program} {w : World} {K : PySem.W.Frag} {mg : Str → Option Value} {base : Heap} {C CB : Addr}
theorem ok_mkTown (T : TownTxt K mg C) (X_BadCount : XCls K mg "BadCount" CB) (G_is_among : Ok P w K mg base CX0 1 "is_among" ["thing", "least", "most"] (spAmong K)) (I : Ifn K C "Town.__init__" s_Town___init ["self", "many"]) : OkMk P w K mg base (L2.CX P w) 2 "Town" C ["self", "many"] (spInit K C CB) := by
  obtain ⟨f, fd, F, M, hb⟩ := I.ex
  exact ⟨f, fd, ok_init T X_BadCount G_is_among F, M, T.g, hb⟩
end

section
variable {K : PySem.W.Frag} {B F0 : Hp} {ρ ρ1 : List Sl} {te ta tb tc : TE} {d e : PyData} {ds es : List PyData} {D : Ends} {u : TS} {C CB CP CM CS : Addr} {st st' : TSt}
theorem evx_appendX {i : Nat} (hx : EvX B F0 ρ te ρ1 (nwd K B d)) (hi : ρ[i]? = some (ml K B ds)) (h1 : ρ1[i]? = some (ml K B ds)) (hz : ds.length < 100000) :
    EvX B F0 ρ (tBM K "list" rAppend (tVar i) (tCons te tNil)) (ρ1.set i (ml K B (ds ++ [d]))) (nwd K B .none) := fun F H σ c Q q => by
  obtain ⟨w, o⟩ := c.own
  obtain ⟨_, v, e1, l, xs, rfl, e3, e4, e5⟩ := o.sl i _ hi
  refine ⟨_, e1, .inl ⟨rfl, _, SqL.of e4⟩, hx F H σ c _ fun y F2 H2 c2 p => ?_⟩
  obtain ⟨w2, o2⟩ := c2.own
  obtain ⟨_, v2, f1, l2, xs2, rfl, f3, f4, f5⟩ := o2.sl i _ h1
  rw [e1] at f1
  cases f1
  refine ⟨l, xs2, y, rfl, rfl, f4, sz_lt (by rw [nwAll_len f5]; exact hz), ?_⟩
  refine q _ F2 _ (c2.chg h1 st_ml fun v' as e m n => ?_) .non
  obtain ⟨l', xs', rfl, rfl, m4, m5⟩ := m
  rw [e1] at e
  cases e
  rw [f4] at m4
  cases m4
  refine ⟨⟨l, xs2 ++ [y], rfl, rfl, upd_same, nwAll_app m5 (.cons p .nil)⟩, fun a ha => upd_ne fun z => ha (by rw [z]; exact List.mem_singleton.mpr rfl), fun a ha => ?_⟩
  rw [List.mem_singleton.mp ha]
  exact ⟨_, upd_same, rfl⟩
theorem evx_tup1 {tr : TA} (hx : EvX B F0 ρ te ρ1 (nwd K B d)) (h : EvAs K B F0 ρ1 tr ds) (hl : ds.length < 100000) : EvX B F0 ρ (tTup (tCons te tr)) ρ1 (nwd K B (.tuple (d :: ds))) := fun F H σ c Q q =>
  hx F H σ c _ fun v F1 H1 c1 p1 => h F1 H1 σ c1 _ fun vs F2 H2 g2 p2 => ⟨sz_of (by rw [List.length_cons, nwAll_len p2]; omega), fun a ha => by
    have g3 : Gr F1 H1 F2 (upd H2 a (.tup (v :: vs))) := g2.trans (Gr.new g2.i ha)
    obtain ⟨F3, g4, s, e⟩ := g3.putT (o := .tup (v :: vs)) rfl upd_same
    exact q _ F3 _ (c1.go g4) (.tup (.inl (.inl e)) (.cons (nw_mono (Same.refl _) (g2.f.trans s) p1) (nwAll_mono (Same.refl _) s p2)))⟩
theorem ho_mt {i : Nat} (h : ρ[i]? = some (mt K C st)) : ∀ F H σ, Cfg B F0 F H σ ρ → ∃ t dx fs, σ[i]? = some (some (.ref t)) ∧ H t = some (.ins C dx fs) ∧ fs.lookup ("dig" : Str) = none := fun F H σ c => by
  obtain ⟨t, d, dx, kv, es, _, _, h4, _⟩ := mt_open h F H σ c
  exact ⟨t, dx, _, es, h4, tf_no (by decide +kernel) (by decide +kernel) (by decide +kernel)⟩
end
abbrev s_w_made : Stmt := top 21
theorem sc_w_made : FnScope ["_law_many_here", "_law_pairs_here", "_law_seed_here", "_law_town", "_law_rows", "_law_k", "_law_one", "_law_other"] ["_law_many_here", "_law_pairs_here", "_law_seed_here"] (defScope s_w_made) := ⟨rfl, rfl, rfl, by decide +kernel, rfl, by decide +kernel, by decide +kernel⟩
def madeN (sd b : Int) (k : Nat) : Int := if mixedF sd (61 + (k : Int) % 30) % 4 = 1 then b + 1 else b
def madeStep (sd : Int) (s : TSt) (p : (Int × Int) × Nat) : TSt := { many := s.many, built := madeN sd s.built p.2 + 1, held := s.held ++ [(madeN sd s.built p.2, p.1.1, p.1.2)] }
def madeF (n : Int) (pairs : List (Int × Int)) (sd : Int) : TSt := pairs.zipIdx.foldl (madeStep sd) ⟨n, 0, []⟩
/-- good pairs of a town of n places -/
def pairsOk (n : Int) (pairs : List (Int × Int)) : Prop := pairs.length ≤ 60 ∧ ∀ p ∈ pairs, 0 ≤ p.1 ∧ p.1 < n ∧ 0 ≤ p.2 ∧ p.2 < n ∧ p.1 ≠ p.2
structure MadeI (n : Int) (pre : List ((Int × Int) × Nat)) (st : TSt) : Prop where
  ok : TOk st
  many : st.many = n
  bt : st.built ≤ 2 * (pre.length : Int)
  held : st.held.map (·.2) = pre.map (·.1)
theorem pw_snoc {h : List (Int × Int × Int)} {b : Int} {x : Int × Int} (k : h.Pairwise fun p q => p.1 < q.1) (l : ∀ p ∈ h, p.1 < b) : (h ++ [(b, x)]).Pairwise fun p q => p.1 < q.1 := by
  rw [List.pairwise_append]
  refine ⟨k, List.pairwise_singleton _ _, fun p hp q hq => ?_⟩
  rw [List.mem_singleton.mp hq]
  exact l p hp
theorem tok_build {st : TSt} (ok : TOk st) {b a c : Int} (hb : st.built ≤ b) (hb2 : b < 100000) (a1 : 0 ≤ a) (a2 : a < st.many) (c1 : 0 ≤ c) (c2 : c < st.many) (hne : a ≠ c) (few : st.held.length < 60) : TOk { many := st.many, built := b + 1, held := st.held ++ [(b, a, c)] } where
  lo := ok.lo
  hi := ok.hi
  b0 := by have := ok.b0; show 0 ≤ b + 1; omega
  b1 := by show b + 1 ≤ 100000; omega
  keys := pw_snoc ok.keys fun p hp => by have := (ok.rng p hp).2.1; omega
  rng := fun p hp => by
    rcases List.mem_append.mp hp with hp | hp
    · obtain ⟨q1, q2, q3⟩ := ok.rng p hp
      exact ⟨q1, by show p.1 < b + 1; omega, q3⟩
    · rw [List.mem_singleton.mp hp]
      have := ok.b0
      exact ⟨by show 0 ≤ b; omega, by show b < b + 1; omega, a1, a2, c1, c2, hne⟩
  few := by
    show (st.held ++ [(b, a, c)]).length ≤ 60
    rw [List.length_append]; simp; omega
theorem filt_new {h : List (Int × Int × Int)} {b : Int} {x : Int × Int} (l : ∀ p ∈ h, p.1 < b) : (h ++ [(b, x)]).filter (fun p => decide (p.1 ≠ b)) = h := by
  rw [List.filter_append, List.filter_eq_self.mpr fun p hp => by have := l p hp; simp; omega]
  simp
theorem made_nil {n : Int} (h1 : 1 ≤ n) (h2 : n ≤ 16) : MadeI n [] ⟨n, 0, []⟩ :=
  ⟨⟨h1, h2, Int.le_refl _, (by show (0 : Int) ≤ 100000; decide), List.Pairwise.nil, fun p hp => (List.not_mem_nil hp).elim, Nat.zero_le _⟩, rfl, Int.le_refl _, rfl⟩
theorem made_step {n sd : Int} {pre : List ((Int × Int) × Nat)} {st : TSt} {a c : Int} {k : Nat} (I : MadeI n pre st) (hl : pre.length < 60) (a1 : 0 ≤ a) (a2 : a < n) (c1 : 0 ≤ c) (c2 : c < n) (hne : a ≠ c) : MadeI n (pre ++ [((a, c), k)]) (madeStep sd st ((a, c), k)) := by
  have hm := I.many
  have hlen : st.held.length = pre.length := by
    have := congrArg List.length I.held
    rw [List.length_map, List.length_map] at this
    exact this
  have hb : madeN sd st.built k = st.built ∨ madeN sd st.built k = st.built + 1 := by
    unfold madeN
    split
    · exact .inr rfl
    · exact .inl rfl
  have bt := I.bt
  refine ⟨tok_build (st := st) (b := madeN sd st.built k) (a := a) (c := c) I.ok (by omega) (by omega) a1 (by omega) c1 (by omega) hne (by omega), hm, ?_, ?_⟩
  · show madeN sd st.built k + 1 ≤ 2 * ((pre ++ [((a, c), k)]).length : Int)
    rw [List.length_append]
    simp
    omega
  · show (st.held ++ [(madeN sd st.built k, a, c)]).map (·.2) = (pre ++ [((a, c), k)]).map (·.1)
    rw [List.map_append, List.map_append, I.held]
    rfl
/-- rows.append((town.build(one, other), one, other)) -/
theorem made_tail {K : PySem.W.Frag} {B F0 : Hp} {ρ : List Sl} {C CP CM : Addr} {D : Ends} {st : TSt} {x0 x1 x2 x3 : Sl} {a b : Int} (hρ : ρ = [x0, x1, x2, mt K C st, ml K B (st.held.map rowD), x3, sn K B (.int a), sn K B (.int b)]) (ok : TOk st)
    (a1 : 0 ≤ a) (a2 : a < st.many) (b1 : 0 ≤ b) (b2 : b < st.many) (hne : a ≠ b) (few : st.held.length < 60)
    (k : At B F0 D.nx [x0, x1, x2, mt K C { many := st.many, built := st.built + 1, held := st.held ++ [(st.built, a, b)] }, ml K B ((st.held ++ [(st.built, a, b)]).map rowD), x3, sn K B (.int a), sn K B (.int b)]) :
    At B F0 (tDrop (tBM K "list" rAppend (tVar 4) (tCons (tTup (tCons (tMeth C "build" (spBuild K C CP CM) [] E0 (tVar 3) (tCons (tVar 6) (tCons (tVar 7) tNil))) (tCons (tVar 6) (tCons (tVar 7) tNil)))) tNil)) D) ρ := by
  subst hρ
  refine at_drop (evx_appendX (evx_tup1 (evx_build (i := 3) (a := a) (b := b) rfl (evh_var rfl rd_sn) (evh_var rfl rd_sn) ok a1 a2 b1 b2 hne few) (eas_cons (ev_var rfl) (eas_cons (ev_var rfl) eas_nil)) (by simp)) rfl rfl (by rw [List.length_map]; omega)) ?_
  rw [List.map_append] at k
  exact k
def spMade (K : PySem.W.Frag) (C : Addr) : Sp := fun vs H Q _ => ∃ (n sd : Int) (pairs : List (Int × Int)), AOk [dat K (.int n), dat K (.list (pairs.map pairD)), dat K (.int sd)] H vs ∧ 1 ≤ n ∧ n ≤ 16 ∧ pairsOk n pairs ∧
  ∀ (p t d dx l : Addr) (kv : List (Key × V)) (xs : List V) (H' : Hp), Same H H' → H t = none → H d = none → H l = none → H' p = some (.tup [.ref t, .ref l]) → H' t = some (.ins C dx (tf n (madeF n pairs sd).built d)) → H' d = some (.dK kv) → KvAll K e0 H' kv (heldD (madeF n pairs sd).held) →
    H' l = some (.lst xs) → NwAll K H H' xs ((madeF n pairs sd).held.map rowD) → Q (.ref p) H'
theorem made_held {n sd : Int} {pairs : List (Int × Int)} (h1 : 1 ≤ n) (h2 : n ≤ 16) (h : pairsOk n pairs) : MadeI n pairs.zipIdx (madeF n pairs sd) := by
  have key : ∀ (post pre : List ((Int × Int) × Nat)) (st : TSt), pre ++ post = pairs.zipIdx → MadeI n pre st → MadeI n pairs.zipIdx (post.foldl (madeStep sd) st) := by
    intro post
    induction post with
    | nil =>
      intro pre st e I
      rw [List.append_nil] at e
      rw [← e]; exact I
    | cons x r ih =>
      intro pre st e I
      obtain ⟨⟨a, c⟩, k⟩ := x
      obtain ⟨k1, k2, k3⟩ := zip_at e.symm
      obtain ⟨q1, q2, q3, q4, q5⟩ := h.2 (a, c) (List.mem_of_getElem? k3)
      have := h.1
      exact ih (pre ++ [((a, c), k)]) _ (by rw [← e]; simp) (made_step I (by omega) q1 q2 q3 q4 q5)
  exact key pairs.zipIdx [] ⟨n, 0, []⟩ rfl (made_nil h1 h2)
section
variable {P : Program} {w : World} {K : PySem.W.Frag} {mg : Str → Option Value} {base : Heap} {C CP CM CB CS : Addr}
theorem ok_made (Z : Zs mg) (G_w_mixed : Ok P w K mg base CX0 1 "_law_mixed" ["_law_cell", "_law_k"] (spMixed K)) (MK_Town : OkMk P w K mg base (L2.CX P w) 2 "Town" C ["self", "many"] (spInit K C CB)) (M_build : OkM P w K mg base (L2.CX P w) 3 C "build" ["self", "one", "other"] (spBuild K C CP CM))
    (M_dig : OkM P w K mg base (L2.CX P w) 2 C "dig" ["self", "street"] (spDig K C CS)) (D : Dfn K mg "_law_made" "_law_made" s_w_made ["_law_many_here", "_law_pairs_here", "_law_seed_here"]) : Ok P w K mg base CX0 4 "_law_made" ["_law_many_here", "_law_pairs_here", "_law_seed_here"] (spMade K C) := by
  obtain ⟨f, fd, F, hg, hb⟩ := D.ex
  refine ⟨f, fd, F.ok sc_w_made (fun vs H Q E h => ?_) (fun cdv A outer s H vs Q E hr h => ?_), hg, F.kp, hb⟩
  · obtain ⟨n, sd, pairs, h, _⟩ := h
    rw [aok_len h]; rfl
  obtain ⟨n, sd, pairs, h, n1, n2, pk, q⟩ := h
  refine ⟨_, (pss_cons (ps_set (i := 3) sc_w_made.nd rfl (Or.inl rfl) (ok_make MK_Town (by exact hr.mono (by decide)) rfl (pa_cons (pv 0) pa_nil)))
    (pss_cons (ps_set (i := 4) sc_w_made.nd rfl (Or.inl rfl) (pe_lst pa_nil))
    (pss_cons (ps_for PassesOwn.never rfl (pi_enum rfl Z.enumerate (pa_cons (pv 1) pa_nil)) (kpg_tup K 2 rfl (pgs_cons (pg_name (i := 5) sc_w_made.nd rfl (Or.inl rfl)) (pgs_cons (kpg_tup K 2 rfl (pgs_cons (pg_name (i := 6) sc_w_made.nd rfl (Or.inl rfl)) (pgs_cons (pg_name (i := 7) sc_w_made.nd rfl (Or.inl rfl)) pgs_nil))) pgs_nil)))
      (pss_cons (ps_if (pt_cmpR op_eq (pe_op op_mod (ok_call G_w_mixed (by exact hr.mono (by decide)) rfl (pa_cons (pv 2) (pa_cons (pe_op op_add pe_int (pe_op op_mod (pv 5) pe_int)) pa_nil))) pe_int) pe_int (nomark _)) (pss_one (ps_expr (ok_methX M_dig (by exact hr.mono (by decide)) (pv 3) (pa_cons (ok_methX M_build (by exact hr.mono (by decide)) (pv 3) (pa_cons (pv 7) (pa_cons (pv 6) pa_nil))) pa_nil)))) pss_nil)
    (pss_one (ps_expr (pe_bm PySem.F.plainAttrs_list PySem.F.slot_list_append PySem.F.type_list_append mt_append (pv 4) (pa_cons (pe_tup (pa_cons (ok_methX M_build (by exact hr.mono (by decide)) (pv 3) (pa_cons (pv 6) (pa_cons (pv 7) pa_nil))) (pa_cons (pv 6) (pa_cons (pv 7) pa_nil)))) pa_nil))))))
    (pss_one (ps_ret (pe_tup (pa_cons (pv 3) (pa_cons (pv 4) pa_nil)))))))), ?_⟩
  refine at_enter h (stabC st_dat (stabC st_dat (stab1 st_dat))) (by simp) ?_
  walk_at "go"
  refine' q_make (n := n) ?a1 n1 n2 (q_setM K (ds := []) ?a2 (q_for (xs := pairs.zipIdx) (e := fun p => .tuple [.int (p.2 : Int), pairD p.1]) (EvJ.i (evj_enumXF (K := K) ?a3 fun _ => rfl))
    (fun pre ρ' => ∃ s1 s2 s3, MadeI n pre (pre.foldl (madeStep sd) ⟨n, 0, []⟩) ∧ ρ' = [sa K (.int n), sa K (.list (pairs.map pairD)), sa K (.int sd), mt K C (pre.foldl (madeStep sd) ⟨n, 0, []⟩), ml K H ((pre.foldl (madeStep sd) ⟨n, 0, []⟩).held.map rowD), s1, s2, s3]) ?a4 ?a5 ?a6))
  case a1 => walk_at "ev"
  case a2 => exact evm_lst eas_nil (by simp)
  case a3 => walk_at "ev"
  case a4 => exact ⟨_, _, _, made_nil n1 n2, rfl⟩
  case a5 =>
    rintro F1 pre ⟨⟨a, c⟩, k⟩ post ρ' hx ⟨s1, s2, s3, I, rfl⟩
    obtain ⟨k1, k2, k3⟩ := zip_at hx
    obtain ⟨q1, q2, q3, q4, q5⟩ := pk.2 (a, c) (List.mem_of_getElem? k3)
    have hl := pk.1
    dsimp only at q1 q2 q3 q4 q5
    generalize hst : pre.foldl (madeStep sd) ⟨n, 0, []⟩ = st at I
    have I2 := made_step (sd := sd) (k := k) I (by omega) q1 q2 q3 q4 q5
    have many := I.many
    have hlen : st.held.length = pre.length := by
      have := congrArg List.length I.held
      rw [List.length_map, List.length_map] at this
      exact this
    have bt := I.bt
    have b0 := I.ok.b0
    refine' ⟨_, _, (by walk_at "bd"), ?_⟩
    have e1 : (pre ++ [((a, c), k)]).foldl (madeStep sd) ⟨n, 0, []⟩ = madeStep sd st ((a, c), k) := by rw [List.foldl_append, hst]; rfl
    refine' q_when (c := decide (mixedF sd (61 + (k : Int) % 30) % 4 = 1)) ?b1 (fun c1 => ?b2) (fun c1 => ?b3)
    case b1 => walk_at "ev" <;> walk_at "num"
    case b2 =>
      have c2 : mixedF sd (61 + (k : Int) % 30) % 4 = 1 := by simpa using c1
      have eb : madeN sd st.built k = st.built + 1 := by unfold madeN; rw [if_pos c2]
      refine' at_drop (evx_dig (st1 := { many := st.many, built := st.built + 1, held := st.held ++ [(st.built, c, a)] }) (s := st.built) (evx_build (i := 3) (a := c) (b := a) rfl ?g1 ?g2 I.ok q3 (by omega) q1 (by omega) (fun z => q5 z.symm) (by omega)) (i := 3) rfl (tok_build I.ok (Int.le_refl _) (by omega) q3 (by omega) q1 (by omega) (fun z => q5 z.symm) (by omega)) (by simp) (ho_mt (i := 3) (st := st) rfl)) (at_go ?g3)
      case g1 => walk_at "ev"
      case g2 => walk_at "ev"
      case g3 =>
        have ef : (st.held ++ [(st.built, c, a)]).filter (fun p => decide (p.1 ≠ st.built)) = st.held := filt_new fun p hp => (I.ok.rng p hp).2.1
        dsimp only
        rw [ef]
        refine made_tail (st := { many := st.many, built := st.built + 1, held := st.held }) (x3 := sn K H (.int (k : Int))) (a := a) (b := c) rfl ⟨I.ok.lo, I.ok.hi, by show 0 ≤ st.built + 1; omega, by show st.built + 1 ≤ 100000; omega, I.ok.keys, fun p hp => by have := I.ok.rng p hp; exact ⟨this.1, by show p.1 < st.built + 1; omega, this.2.2⟩, I.ok.few⟩ q1 (by show a < st.many; omega) q3 (by show c < st.many; omega) q5 (by show st.held.length < 60; omega) (at_lpD ?_)
        refine ⟨sn K H (.int (k : Int)), sn K H (.int a), sn K H (.int c), ?_, ?_⟩
        · rw [e1]; exact I2
        · rw [e1]
          unfold madeStep
          dsimp only
          rw [eb]
    case b3 =>
      have c2 : ¬ mixedF sd (61 + (k : Int) % 30) % 4 = 1 := by simpa using c1
      have eb : madeN sd st.built k = st.built := by unfold madeN; rw [if_neg c2]
      refine made_tail (st := st) (x3 := sn K H (.int (k : Int))) (a := a) (b := c) rfl I.ok q1 (by omega) q3 (by omega) q5 (by omega) (at_lpD ?_)
      refine ⟨sn K H (.int (k : Int)), sn K H (.int a), sn K H (.int c), ?_, ?_⟩
      · rw [e1]; exact I2
      · rw [e1]
        unfold madeStep
        dsimp only
        rw [eb]
  case a6 =>
    rintro ρ' ⟨s1, s2, s3, I, rfl⟩
    refine fun F1 H1 σ c => ?_
    obtain ⟨t, d, dx, kv, es, ft, fd, h4, h5, h6⟩ := mt_open (i := 3) rfl F1 H1 σ c
    obtain ⟨w, o⟩ := c.own
    obtain ⟨_, v, e1, l, xs, rfl, ea, e4, e5⟩ := o.sl 4 _ rfl
    have wt : t ∈ w 3 := by
      obtain ⟨_, v, z1, t', dx', d', kv', rfl, z2, _⟩ := o.sl 3 _ rfl
      rw [es] at z1
      cases z1
      rw [z2]; simp
    have hl := o.at_ 4 l (by rw [ea]; simp)
    refine ⟨_, es, _, e1, (by show 2 ≤ sizeLine; decide), fun p hp => ?_⟩
    have nt : t ≠ p := fun z => by rw [z, hp] at h4; cases h4
    have nd : d ≠ p := fun z => by rw [z, hp] at h5; cases h5
    have nl : l ≠ p := fun z => by rw [z, hp] at e4; cases e4
    have s : Same H1 (upd H1 p (.tup [.ref t, .ref l])) := fun a u e => by rw [upd_ne (ne_of_none e hp)]; exact e
    have many : (madeF n pairs sd).many = n := I.many
    refine q p t d dx l kv xs _ (c.gr.h.trans s) ?_ ?_ hl.2.1 upd_same ?_ (s _ _ h5) (kvAll_mono (c.i.trans s) h6) (s _ _ e4) (nwAll_mono (Same.refl _) (c.i.trans s) e5)
    · exact (o.at_ 3 t wt).2.1
    · obtain ⟨_, v, z1, t', dx', d', kv', rfl, z2, z3, _⟩ := o.sl 3 _ rfl
      rw [es] at z1
      cases z1
      rw [h4] at z3
      have ed : d = d' := by
        have := congrArg (fun o => match o with | some (HO.ins _ _ fs) => fs.lookup ("held" : Str) | _ => none) z3
        simp only [tf_held] at this
        cases this
        rfl
      subst ed
      exact (o.at_ 3 d (by rw [z2]; simp)).2.1
    · have h4 : H1 t = some (.ins C dx (tf (madeF n pairs sd).many (madeF n pairs sd).built d)) := h4
      rw [many] at h4
      exact s _ _ h4
end

theorem kv_fix {K : PySem.W.Frag} {F H2 : Hp} {hl : List (Int × PyData)} {kv : List (Key × V)} (a : KvAll K e0 H2 kv hl) : (∀ p ∈ hl, flatD p.2 = true) → ∀ F1, Gr F H2 F1 H2 → ∃ F2, Gr F H2 F2 H2 ∧ Same F1 F2 ∧ KvAll K e0 F2 kv hl := by
  induction a with
  | nil => exact fun _ F1 g => ⟨F1, g, Same.refl _, .nil⟩
  | @cons k v dd kv kvs hn _ ih =>
    intro fl F1 g
    obtain ⟨F2, g2, s2, n2⟩ := dp_prom (B := e0) (nw_dp hn) (fl (k, dd) (List.mem_cons.mpr (.inl rfl))) F1 g
    obtain ⟨F3, g3, s3, n3⟩ := ih (fun p hp => fl p (List.mem_cons.mpr (.inr hp))) F2 g2
    exact ⟨F3, g3, s2.trans s3, .cons (nw_mono (Same.refl _) s3 n2) n3⟩
theorem q_made {K : PySem.W.Frag} {B F0 : Hp} {ρ : List Sl} {tr : TA} {D : Ends} {u : TS} {C : Addr} {i j : Nat} {n sd : Int} {pairs : List (Int × Int)} (hij : i ≠ j) (h : EvA B F0 ρ tr [dat K (.int n), dat K (.list (pairs.map pairD)), dat K (.int sd)]) (h1 : 1 ≤ n) (h2 : n ≤ 16) (pk : pairsOk n pairs)
    (k : At B F0 (u D) ((ρ.set i (mt K C (madeF n pairs sd))).set j (ml K B ((madeF n pairs sd).held.map rowD)))) :
    At B F0 (tSeq (tAsg (tCall (spMade K C) [] E0 tr) (gTup K 2 (gCons (gName i) (gCons (gName j) gNil)))) u D) ρ := fun F H σ c =>
  h F H σ c _ fun vs F1 H1 g1 p1 => ⟨n, sd, pairs, by rw [List.append_nil]; exact p1, h1, h2, pk, fun p t d dx l kv xs H2 s nt nd nl ep et ed ek el ex => by
    refine ⟨p, [.ref t, .ref l], rfl, .inl (.inl ep), rfl, _, _, rfl, _, _, rfl, rfl, ?_⟩
    have many : (madeF n pairs sd).many = n := (made_held (sd := sd) h1 h2 pk).many
    have c1 := c.go g1
    have g2 : Gr F1 H1 F1 H2 := gr_call c1.i s
    obtain ⟨F3, g3, s3, n3⟩ := kv_fix ek (fun q hq => by
      obtain ⟨r, _, rfl⟩ := List.mem_map.mp hq
      rfl) F1 (Gr.refl g2.i)
    obtain ⟨F4, g4, s4, n4⟩ := dpAll_prom (B := B) (nwAll_dp ex) (flatDs_map (fun _ => rfl) _) F3 g3
    have ft := g4.n t _ et rfl (c1.i.free nt)
    have fd := g4.n d _ ed rfl (c1.i.free nd)
    have fl := g4.n l _ el rfl (c1.i.free nl)
    refine k F4 H2 _ (c1.setN2 (i := i) (j := j) (as := [t, d]) (as' := [l]) hij st_mt st_ml (g2.trans g4) ⟨t, dx, d, kv, rfl, rfl, by rw [many]; exact et, ed, kvAll_mono s4 n3⟩ ⟨l, xs, rfl, rfl, el, n4⟩ (fun a ha => ?_) (fun a ha => ?_) (fun a ha hb => ?_))
    · rcases List.mem_cons.mp ha with rfl | ha
      · exact ⟨ft, nt, _, et, rfl⟩
      · rw [List.mem_singleton.mp ha]
        exact ⟨fd, nd, _, ed, rfl⟩
    · rw [List.mem_singleton.mp ha]
      exact ⟨fl, nl, _, el, rfl⟩
    · rw [List.mem_singleton.mp hb] at ha
      rcases List.mem_cons.mp ha with rfl | ha
      · rw [et] at el; cases el
      · rw [List.mem_singleton.mp ha] at el
        rw [ed] at el; cases el⟩
theorem made_pre {sd : Int} : ∀ (l : List ((Int × Int) × Nat)) (st : TSt) (s : Int × Int × Int) (r : List (Int × Int × Int)), st.held = s :: r → ∃ r', (l.foldl (madeStep sd) st).held = s :: r'
  | [], st, s, r, e => ⟨r, e⟩
  | x :: l, st, s, r, e => made_pre l (madeStep sd st x) s (r ++ [(madeN sd st.built x.2, x.1.1, x.1.2)]) (by show st.held ++ _ = _; rw [e]; rfl)
/-- the first street's number -/
theorem made_head {n sd : Int} {pairs : List (Int × Int)} {s : Int × Int × Int} {r : List (Int × Int × Int)} (h : (madeF n pairs sd).held = s :: r) : s.1 = 0 ∨ s.1 = 1 := by
  cases pairs with
  | nil => cases h
  | cons p ps =>
    unfold madeF at h
    rw [List.zipIdx_cons, List.foldl_cons] at h
    obtain ⟨r', e⟩ := made_pre (sd := sd) (ps.zipIdx (0 + 1)) (madeStep sd ⟨n, 0, []⟩ (p, 0)) (madeN sd 0 0, p.1, p.2) [] rfl
    rw [e] at h
    cases h
    show madeN sd 0 0 = 0 ∨ madeN sd 0 0 = 1
    unfold madeN
    split
    · exact .inr rfl
    · exact .inl rfl
theorem made_num {n sd : Int} {pairs : List (Int × Int)} (h1 : 1 ≤ n) (h2 : n ≤ 16) (h : pairsOk n pairs) : ∀ p ∈ (madeF n pairs sd).held, 0 ≤ p.1 ∧ p.1 < 120 ∧ 0 ≤ p.2.1 ∧ p.2.1 < n ∧ 0 ≤ p.2.2 ∧ p.2.2 < n ∧ p.2.1 ≠ p.2.2 := fun p hp => by
  have I := made_held (sd := sd) h1 h2 h
  obtain ⟨q1, q2, q3⟩ := I.ok.rng p hp
  have b := I.bt
  have l := h.1
  rw [List.length_zipIdx] at b
  have m := I.many
  unfold madeF at hp q2 q3 m b
  rw [m] at q3
  exact ⟨q1, by omega, q3⟩

theorem off_ok {n one o : Int} (h0 : 0 ≤ one) (h1 : one < n) (o1 : 1 ≤ o) (o2 : o ≤ n - 1) : 0 ≤ (one + o) % n ∧ (one + o) % n < n ∧ one ≠ (one + o) % n := by
  have a := Int.emod_nonneg (one + o) (show n ≠ 0 by omega)
  have b := Int.emod_lt_of_pos (one + o) (show 0 < n by omega)
  refine ⟨a, b, ?_⟩
  by_cases h : one + o < n
  · rw [Int.emod_eq_of_lt (by omega) h]; omega
  · have e : one + o = (one + o - n) + n := by omega
    rw [e, Int.add_emod_right, Int.emod_eq_of_lt (by omega) (by omega)]
    omega
theorem ends_ok {n way k m : Int} (h1 : 2 ≤ n) (hk : 0 ≤ k) : 0 ≤ (endsF n way k m).1 ∧ (endsF n way k m).1 < n ∧ 0 ≤ (endsF n way k m).2 ∧ (endsF n way k m).2 < n ∧ (endsF n way k m).1 ≠ (endsF n way k m).2 := by
  have a := Int.emod_nonneg m (show n ≠ 0 by omega)
  have b := Int.emod_lt_of_pos m (show 0 < n by omega)
  have c := Int.emod_nonneg (m / 20) (show n - 1 ≠ 0 by omega)
  have d := Int.emod_lt_of_pos (m / 20) (show 0 < n - 1 by omega)
  have plain : 0 ≤ (m % n + 1 + m / 20 % (n - 1)) % n ∧ (m % n + 1 + m / 20 % (n - 1)) % n < n ∧ m % n ≠ (m % n + 1 + m / 20 % (n - 1)) % n := by
    rw [Int.add_assoc]
    exact off_ok a b (by omega) (by omega)
  unfold endsF
  split
  next h =>
    have e := Int.emod_nonneg m (show k + 1 ≠ 0 by omega)
    have f := Int.emod_lt_of_pos m (show 0 < k + 1 by omega)
    dsimp only
    omega
  next =>
    split
    next =>
      split
      next => exact ⟨a, b, plain⟩
      next he =>
        dsimp only
        have hl : 0 < (sameF n (m % n)).length := by
          cases hs : sameF n (m % n) with
          | nil => rw [hs] at he; simp at he
          | cons x r => simp
        have i0 := Int.emod_nonneg (m / 20) (show ((sameF n (m % n)).length : Int) ≠ 0 by omega)
        have i1 := Int.emod_lt_of_pos (m / 20) (show (0 : Int) < ((sameF n (m % n)).length : Int) by omega)
        have il : (m / 20 % ((sameF n (m % n)).length : Int)).toNat < (sameF n (m % n)).length := by omega
        have e : (sameF n (m % n)).getD (m / 20 % ((sameF n (m % n)).length : Int)).toNat 0 = (sameF n (m % n))[(m / 20 % ((sameF n (m % n)).length : Int)).toNat] := by
          rw [List.getD_eq_getElem?_getD, List.getElem?_eq_getElem il]; rfl
        rw [e]
        have hm := List.getElem_mem il
        generalize (sameF n (m % n))[(m / 20 % ((sameF n (m % n)).length : Int)).toNat] = x at hm
        unfold sameF at hm
        rw [List.mem_filter, mem_rangeI] at hm
        obtain ⟨⟨x0, x1⟩, hx⟩ := hm
        have hx2 : x ≠ m % n := by
          have := (Bool.and_eq_true_iff.mp hx).2
          simpa using this
        exact ⟨a, b, x0, x1, fun z => hx2 z.symm⟩
    next =>
      split
      next =>
        dsimp only
        have t0 := Int.emod_nonneg (m / 20) (show (2 : Int) ≠ 0 by decide)
        have t1 := Int.emod_lt_of_pos (m / 20) (show (0 : Int) < 2 by decide)
        have o : m / 20 % 2 = 0 ∨ m / 20 % 2 = 1 := by omega
        refine ⟨a, b, ?_⟩
        rcases o with o | o
        · rw [o, Int.zero_mul, Int.add_zero]; exact off_ok a b (by omega) (by omega)
        · rw [o, Int.one_mul, Int.add_assoc]; exact off_ok a b (by omega) (by omega)
      next => exact ⟨a, b, plain⟩
theorem pairs_ok {script : List Int} {sd n : Int} {most : Int} (h1 : 1 ≤ n) (h3 : 0 ≤ most) (h4 : most ≤ 60) : pairsOk n (pairsF script sd n most) := by
  unfold pairsF
  split
  · exact ⟨Nat.zero_le _, fun p hp => (List.not_mem_nil hp).elim⟩
  · refine ⟨?_, fun p hp => ?_⟩
    · rw [List.length_map, List.length_zipIdx, List.length_take]; omega
    · obtain ⟨⟨c, k⟩, _, rfl⟩ := List.mem_map.mp hp
      exact ends_ok (by omega) (by dsimp only; omega)

abbrev s_is_step : Stmt := top 7
theorem sc_is_step : FnScope ["thing", "street", "one"] ["thing", "street"] (defScope s_is_step) := ⟨rfl, rfl, rfl, by decide +kernel, rfl, by decide +kernel, by decide +kernel⟩
abbrev s_is_one_way : Stmt := top 9
theorem sc_is_one_way : FnScope ["town", "thing", "some", "step", "street", "back", "one", "other"] ["town", "thing"] (defScope s_is_one_way) := ⟨rfl, rfl, rfl, by decide +kernel, rfl, by decide +kernel, by decide +kernel⟩
def stepB (s : Int × Int × Int) : PyData → Bool
  | .tuple [.int a, .int b, .int c] => decide ((a, b, c) = s) || decide ((a, b, c) = (s.1, s.2.2, s.2.1))
  | _ => false
def plainI (d : PyData) : Bool := isaB "int" d && !isaB "bool" d
theorem plainI_int {d : PyData} (h : plainI d = true) : ∃ i, d = .int i := by
  cases d with
  | int i => exact ⟨i, rfl⟩
  | _ => simp [plainI, isaB, tyD] at h
theorem stepB_int {s : Int × Int × Int} {d : PyData} (h : stepB s d = true) : ∃ r : Int × Int × Int, d = rowD r ∧ (r = s ∨ r = (s.1, s.2.2, s.2.1)) := by
  unfold stepB at h
  split at h
  · exact ⟨(_, _, _), rfl, by simpa using h⟩
  · cases h
theorem tyD_tuple {d : PyData} (h : ∀ ds, d ≠ .tuple ds) : isaB "tuple" d = false := by
  cases d with
  | tuple ds => exact absurd rfl (h ds)
  | _ => simp [isaB, tyD]
theorem tyD_list {d : PyData} (h : ∀ ds, d ≠ .list ds) : isaB "list" d = false := by
  cases d with
  | list ds => exact absurd rfl (h ds)
  | _ => simp [isaB, tyD]
theorem isaT {ds : List PyData} : isaB "tuple" (.tuple ds) = true := by simp [isaB, tyD]
theorem isaL {ds : List PyData} : isaB "list" (.list ds) = true := by simp [isaB, tyD]
theorem shaped_row {r : Int × Int × Int} : SeqAt.shaped (rowD r) = true := (okS_row (p := r)).shaped
abbrev spStep (K : PySem.W.Frag) : Sp := Fp K (fun _ : PyData × Int × Int × Int => True) (fun x => [dat K x.1, dat K (rowD x.2)]) (fun x => .bool (stepB x.2 x.1))
section
variable {P : Program} {w : World} {K : PySem.W.Frag} {mg : Str → Option Value} {base : Heap} {C : Addr}
theorem ok_step (Z : Zs mg) (D : Dfn K mg "is_step" "is_step" s_is_step ["thing", "street"]) : Ok P w K mg base CX0 1 "is_step" ["thing", "street"] (spStep K) := by
  refine fp_ok D sc_is_step (by decide) (fun _ => rfl) (fun _ => stabC st_dat (stab1 st_dat)) (fun f cdv A outer s H E hr => ⟨_, (pss_cons (ps_if (PW.pt (pw_or (pt_not (pt_val (pe_callB (kcall_isi K) (by rfl) Z.isinstance (by decide +kernel) (pa_cons (pv 0) (pa_cons (pe_bltn (v := .ty "tuple") (by rfl) Z.tuple (by decide +kernel) rfl) pa_nil))))) (pw_or1 (pt_cmpR op_ne (pe_callB (kcall_len_seq K) (by rfl) Z.len PySem.boot_len (pa_cons (pv 0) pa_nil)) pe_int (nomark _))))) (pss_one (ps_ret pe_bl)) pss_nil)
    (pss_cons (ps_if (pt_not (pt_val (pe_callB (kcr_all K rfl) (by rfl) Z.all (by decide +kernel) (pa_cons (pe_lc (own := [("one", 2)]) (tt := tYes) rfl sc_is_step.nd (kpi_tup K (pv 0)) (blkOk_by (by dsimp only [cxOf, Cx.nox, Cx.wish, compEnvC, envOfC]; decide +kernel)) (fun _ _ _ _ _ => (pg_name (i := 2) sc_is_step.nd rfl (Or.inl rfl))) (fun _ _ _ _ _ => pts_nil) (fun _ _ _ _ _ => (pe_and (pe_callB (kcall_isi K) (by rfl) Z.isinstance (by decide +kernel) (pa_cons (pv 2) (pa_cons (pe_bltn (v := .ty "int") (by rfl) Z.int (by decide +kernel) rfl) pa_nil))) (pe_one (pe_not (pe_callB (kcall_isi K) (by rfl) Z.isinstance (by decide +kernel) (pa_cons (pv 2) (pa_cons (pe_bltn (v := .ty "bool") (by rfl) Z.bool (by decide +kernel) rfl) pa_nil)))))))) pa_nil)))) (pss_one (ps_ret pe_bl)) pss_nil)
    (pss_one (ps_ret (pe_or (pe_cmpR (kop_eqD K (by exact hr.units)) (pv 0) (pv 1) (nomark _)) (pe_one (pe_cmpR (kop_eqD K (by exact hr.units)) (pv 0) (pe_tup (pa_cons (pe_ix (kix_tup K) (pv 1) pe_int (fun _ _ => rfl)) (pa_cons (pe_ix (kix_tup K) (pv 1) pe_int (fun _ _ => rfl)) (pa_cons (pe_ix (kix_tup K) (pv 1) pe_int (fun _ _ => rfl)) pa_nil)))) (nomark _)))))))), ?_⟩)
  rintro ⟨d, s0, s1, s2⟩ - Q q
  dsimp only at q
  walk_at "go"
  by_cases ht : ∃ ds, d = .tuple ds
  · obtain ⟨ds, rfl⟩ := ht
    refine' q_when (c := !decide ((ds.length : Int) = 3)) (et_is (et_or (et_not (et_B (K := K) (Ev.hd (ev_isa (n := "tuple") ?a1 (by decide))))) (c := !decide ((ds.length : Int) = 3)) fun _ => ?a2) ?a3) (fun c1 => ?a4) (fun c1 => ?a5)
    case a1 => exact evh_var rfl rd_sa
    case a2 => exact et_test (K := K) (Ev.hd (ev_neI (Ev.hd (ev_lenT (evh_var rfl rd_sa))) (Ev.hd ev_int)))
    case a3 => rw [isaT]; rfl
    case a4 =>
      have e : stepB (s0, s1, s2) (.tuple ds) = false := by
        have c2 : ¬ (ds.length : Int) = 3 := by simpa using c1
        unfold stepB
        split
        next h => cases h; simp at c2
        · rfl
      rw [e] at q
      exact at_ret ev_bl q
    have hl : ds.length = 3 := by have : (ds.length : Int) = 3 := by simpa using c1
                                  omega
    have e1 : (ds.map fun x => PyData.bool (plainI x)) = (ds.map plainI).map .bool := by rw [List.map_map]; rfl
    refine' q_when (c := !((ds.map plainI).all id)) (et_not (et_B (K := K) (Ev.hd (ev_all (bs := ds.map plainI) (Ev.hd (EvM.nw ?hall)))))) (fun c2 => ?b1) (fun c2 => ?b2)
    case hall =>
      rw [← e1]
      exact evm_lc1 (xs := ds) (e := fun x => x) (q := dat K) (fun x => .bool (plainI x)) (by rw [List.map_id']; exact evj_tupD (ev_var rfl)) (fun F1 x hx => ⟨_, _, bind_name (i := 2) st_dat, by decide, ev_andV (Ev.hd (ev_isa (n := "int") (evh_var (d := x) rfl rd_sa) (by decide))) (fun _ => ev_notV (Ev.hd (ev_isa (n := "bool") (evh_var (d := x) rfl rd_sa) (by decide))))⟩) (by omega)
    case b1 =>
      have e : stepB (s0, s1, s2) (.tuple ds) = false := by
        unfold stepB
        split
        next h => cases h; simp [plainI, isaB, tyD] at c2
        · rfl
      rw [e] at q
      exact at_ret ev_bl q
    have c3 : ∀ x ∈ ds, plainI x = true := by simpa using c2
    obtain ⟨x1, x2, x3, rfl⟩ : ∃ x1 x2 x3, ds = [x1, x2, x3] := by
      match ds, hl with
      | [x1, x2, x3], _ => exact ⟨_, _, _, rfl⟩
    obtain ⟨a, rfl⟩ := plainI_int (c3 x1 (by simp))
    obtain ⟨b, rfl⟩ := plainI_int (c3 x2 (by simp))
    obtain ⟨c, rfl⟩ := plainI_int (c3 x3 (by simp))
    have ee : ∀ r : Int × Int × Int, PyData.eqv (rowD (a, b, c)) (rowD r) = decide ((a, b, c) = r) := fun r => by
      rw [Bool.eq_iff_iff, eqv_row]; simp
    refine at_ret (d := .bool (stepB (s0, s1, s2) (rowD (a, b, c)))) ?_ q
    refine ev_orV (a := decide ((a, b, c) = (s0, s1, s2))) (c := decide ((a, b, c) = (s0, s2, s1))) ?_ (fun _ => ?_)
    · rw [← ee]; exact Ev.hd (ev_eqD (evh_var rfl rd_sa) (evh_var rfl rd_sa) shaped_row shaped_row)
    · rw [← ee]
      refine ev_eqD (evh_var rfl rd_sa) (Ev.hd (ev_tup (ds := [.int s0, .int s2, .int s1]) (eas_cons (EvH.nw (evh_ixT (evh_var rfl rd_sa) (Ev.hd ev_int) rfl) rfl) (eas_cons (EvH.nw (evh_ixT (evh_var rfl rd_sa) (Ev.hd ev_int) rfl) rfl) (eas_cons (EvH.nw (evh_ixT (evh_var rfl rd_sa) (Ev.hd ev_int) rfl) rfl) eas_nil))) (by simp))) shaped_row (shaped_row (r := (s0, s2, s1)))
  · have e : stepB (s0, s1, s2) d = false := by
      unfold stepB
      split
      · exact absurd ⟨_, rfl⟩ ht
      · rfl
    rw [e] at q
    refine' q_when (c := true) (et_is (et_or (c := true) (et_not (et_B (K := K) (Ev.hd (ev_isa (n := "tuple") (d := d) ?a1 (by decide))))) fun z => ?a2) ?a3) (fun _ => ?a4) (fun z => by cases z)
    case a1 => exact evh_var rfl rd_sa
    case a2 => rw [tyD_tuple fun ds z => ht ⟨ds, z⟩] at z; cases z
    case a3 => rw [tyD_tuple fun ds z => ht ⟨ds, z⟩]; rfl
    case a4 => exact at_ret ev_bl q
end
/-! a thing that may be a dict: none is an empty dict -/
def oD (K : PySem.W.Frag) : Option PyData → Pd
  | some d => dat K d
  | none => isDictT K []
theorem st_oD {K : PySem.W.Frag} : ∀ {o : Option PyData}, Stab (oD K o)
  | some _ => st_dat
  | none => st_isDictT
def rowOf : PyData → Int × Int × Int
  | .tuple [.int a, .int b, .int c] => (a, b, c)
  | _ => (0, 0, 0)
def turnR (r : Int × Int × Int) : Int × Int × Int := (r.1, r.2.2, r.2.1)
def goesB (n : Int) (ways : List (Int × Int × Int)) : Bool := decide (((ledF ways 0).length : Int) = n) && decide (((ledF (ways.map turnR) 0).length : Int) = n)
def oneB (st : TSt) : Option PyData → Bool
  | some (.list ds) => decide (ds.length = st.held.length) && ((ds.zip st.held).all fun p => stepB p.2 p.1) && goesB st.many (ds.map rowOf)
  | _ => false
theorem rows_of {h : List (Int × Int × Int)} : ∀ {ds : List PyData}, ds.length = h.length → ((ds.zip h).all fun p => stepB p.2 p.1) = true → ds = (ds.map rowOf).map rowD := by
  induction h with
  | nil => intro ds e _; rw [List.eq_nil_of_length_eq_zero e]; rfl
  | cons s h ih =>
    intro ds e a
    cases ds with
    | nil => cases e
    | cons d ds =>
      rw [List.zip_cons_cons, List.all_cons, Bool.and_eq_true] at a
      obtain ⟨r, rfl, _⟩ := stepB_int a.1
      have := ih (ds := ds) (by simpa using e) a.2
      rw [List.map_cons, List.map_cons, ← this]
      rfl
abbrev spOne (K : PySem.W.Frag) (C : Addr) : Sp := Fp K (fun x : TSt × Option PyData => TOk x.1) (fun x => [isTown K C x.1, oD K x.2]) (fun x => .bool (oneB x.1 x.2))
section
variable {K : PySem.W.Frag} {B F0 : Hp} {ρ : List Sl} {ta : TE} {f : Pd} {C : Addr}
theorem ev_isiX {n : String} {r : Bool} (ha : EvH B F0 ρ ta f) (hk : ∀ H v, f H v → ∃ t, TyX K H v t ∧ PySem.W.kitOne K t (.type n) = some r) : Ev B F0 ρ (tCB (rIsi K) (tCons ta (tCons (tC (.ty n)) tNil))) (nwd K B (.bool r)) := fun F H σ c Q q =>
  ha F H σ c _ fun x F1 H1 g1 p => by
    obtain ⟨t, ty, h⟩ := hk H1 x p
    exact isi_run t ty h (q _ F1 H1 g1 (.bl r))
theorem dict_no_list {kvs : List (Int × PyData)} : ∀ H v, isDictT K kvs H v → ∃ t, TyX K H v t ∧ PySem.W.kitOne K t (.type "list") = some false := fun H v ⟨l, kv, e, h, _⟩ => by
  subst e
  exact ⟨_, .base (.dK h), kb (by decide +kernel)⟩
theorem ev_places {st : TSt} (ha : EvH B F0 ρ ta (isTown K C st)) : Ev B F0 ρ (tMeth C "places" (spPlaces K C) [] E0 ta tNil) (nwd K B (.int st.many)) := ev_meth st trivial ha st_isTown (town_in (by decide +kernel) (by decide +kernel) (by decide +kernel)) ea_nil rfl
theorem ev_streets {st : TSt} (ok : TOk st) (ha : EvH B F0 ρ ta (isTown K C st)) : Ev B F0 ρ (tMeth C "streets" (spStreets K C) [] E0 ta tNil) (nwd K B (.list (st.held.map rowD))) := ev_meth st ok ha st_isTown (town_in (by decide +kernel) (by decide +kernel) (by decide +kernel)) ea_nil rfl
end
section
variable {P : Program} {w : World} {K : PySem.W.Frag} {mg : Str → Option Value} {base : Heap} {C : Addr}
theorem ok_one (Z : Zs mg) (T : TownTxt K mg C) (G_is_step : Ok P w K mg base CX0 1 "is_step" ["thing", "street"] (spStep K)) (G_led_to : Ok P w K mg base CX0 1 "led_to" ["ways", "place"] (spLedTo K)) (M_places : OkM P w K mg base CX0 1 C "places" ["self"] (spPlaces K C)) (M_streets : OkM P w K mg base CX0 1 C "streets" ["self"] (spStreets K C))
    (D : Dfn K mg "is_one_way" "is_one_way" s_is_one_way ["town", "thing"]) : Ok P w K mg base CX0 2 "is_one_way" ["town", "thing"] (spOne K C) := by
  refine fp_ok D sc_is_one_way (by decide) (fun _ => rfl) (fun _ => stabC st_isTown (stab1 st_oD)) (fun f cdv A outer s H E hr => ⟨_, (pss_cons (ps_set (i := 2) sc_is_one_way.nd rfl (Or.inl rfl) (ok_meth0 M_streets (by exact hr.mono (by decide)) (pv 0)))
    (pss_cons (ps_if (PW.pt (pw_or (pt_not (pt_val (pe_callB (kcall_isi K) (by rfl) Z.isinstance (by decide +kernel) (pa_cons (pv 1) (pa_cons (pe_bltn (v := .ty "list") (by rfl) Z.list (by decide +kernel) rfl) pa_nil))))) (pw_or1 (pt_cmpR op_ne (pe_callB (kcall_len_seq K) (by rfl) Z.len PySem.boot_len (pa_cons (pv 1) pa_nil)) (pe_callB (kcall_len_seq K) (by rfl) Z.len PySem.boot_len (pa_cons (pv 2) pa_nil)) (nomark _))))) (pss_one (ps_ret pe_bl)) pss_nil)
    (pss_cons (ps_if (pt_not (pt_val (pe_callB (kcr_all K rfl) (by rfl) Z.all (by decide +kernel) (pa_cons (pe_lc (own := [("step", 3), ("street", 4)]) (tt := tYes) rfl sc_is_one_way.nd (pi_zip rfl Z.zip (pa_cons (pv 1) (pa_cons (pv 2) pa_nil))) (blkOk_by (by dsimp only [cxOf, Cx.nox, Cx.wish, compEnvC, envOfC]; decide +kernel)) (fun _ _ _ _ _ => (kpg_tup K 2 rfl (pgs_cons (pg_name (i := 3) sc_is_one_way.nd rfl (Or.inl rfl)) (pgs_cons (pg_name (i := 4) sc_is_one_way.nd rfl (Or.inl rfl)) pgs_nil)))) (fun _ _ _ _ _ => pts_nil) (fun _ _ _ _ _ => (ok_call G_is_step (by exact hr.mono (by decide)) rfl (pa_cons (pv 3) (pa_cons (pv 4) pa_nil))))) pa_nil)))) (pss_one (ps_ret pe_bl)) pss_nil)
    (pss_cons (ps_setLc (i := 5) (own := [("street", 4), ("one", 6), ("other", 7)]) (tt := tYes) rfl sc_is_one_way.nd rfl rfl (sw_true rfl rfl rfl (by decide +kernel)) (kpi_list K (pv 1)) (blkOk_by (by dsimp only [cxOf, Cx.nox, Cx.wish, compEnvC, envOfC]; decide +kernel)) (fun _ _ _ _ _ => (kpg_tup K 3 rfl (pgs_cons (pg_name (i := 4) sc_is_one_way.nd rfl (Or.inl rfl)) (pgs_cons (pg_name (i := 6) sc_is_one_way.nd rfl (Or.inl rfl)) (pgs_cons (pg_name (i := 7) sc_is_one_way.nd rfl (Or.inl rfl)) pgs_nil))))) (fun _ _ _ _ _ => pts_nil) (fun _ _ _ _ _ => (pe_tup (pa_cons (pv 4) (pa_cons (pv 7) (pa_cons (pv 6) pa_nil))))))
    (pss_one (ps_ret (pe_and (pe_cmpR op_eq (pe_callB call_lenD (by rfl) Z.len PySem.boot_len (pa_cons (ok_call G_led_to (by exact hr.mono (by decide)) rfl (pa_cons (pv 1) (pa_cons pe_int pa_nil))) pa_nil)) (ok_meth0 M_places (by exact hr.mono (by decide)) (pv 0)) (nomark _)) (pe_one (pe_cmpR op_eq (pe_callB call_lenD (by rfl) Z.len PySem.boot_len (pa_cons (ok_call G_led_to (by exact hr.mono (by decide)) rfl (pa_cons (pv 5) (pa_cons pe_int pa_nil))) pa_nil)) (ok_meth0 M_places (by exact hr.mono (by decide)) (pv 0)) (nomark _)))))))))), ?_⟩)
  rintro ⟨st, o⟩ ok Q q
  dsimp only at q ok
  walk_at "go"
  refine' q_set K (d := .list (st.held.map rowD)) (ev_streets ok (evh_town rfl)) ?_
  cases o with
  | none =>
    refine' q_when (c := true) (et_is (et_or (c := true) (et_not (et_B (K := K) (Ev.hd (ev_isiX (n := "list") (r := false) (evh_fz (f := isDictT K []) st_isDictT ?a1) dict_no_list)))) fun z => ?a2) rfl) (fun _ => ?a4) (fun z => by cases z)
    case a1 => rfl
    case a2 => cases z
    case a4 => exact at_ret ev_bl q
  | some d =>
  by_cases ht : ∃ ds, d = .list ds
  · obtain ⟨ds, rfl⟩ := ht
    refine' q_when (c := !decide ((ds.length : Int) = (st.held.length : Int))) (et_is (et_or (et_not (et_B (K := K) (Ev.hd (ev_isa (n := "list") ?a1 (by decide))))) (c := !decide ((ds.length : Int) = (st.held.length : Int))) fun _ => ?a2) ?a3) (fun c1 => ?a4) (fun c1 => ?a5)
    case a1 => exact evh_var (d := .list ds) rfl rd_sa
    case a2 =>
      have h := ev_neI (K := K) (B := H) (F0 := H) (Ev.hd (ev_lenL (evh_var (ρ := (enterR 8 [isTown K C st, oD K (some (.list ds))]).set 2 (sn K H (.list (st.held.map rowD)))) (i := 1) (d := .list ds) rfl rd_sa))) (Ev.hd (ev_lenL (evh_var (i := 2) (d := .list (st.held.map rowD)) rfl rd_sn)))
      rw [List.length_map] at h
      exact et_test (K := K) (Ev.hd h)
    case a3 => rw [isaL]; rfl
    case a4 =>
      have c2 : ds.length ≠ st.held.length := by have : ¬ (ds.length : Int) = (st.held.length : Int) := by simpa using c1
                                                 omega
      have e : oneB st (some (.list ds)) = false := by simp [oneB, c2]
      rw [e] at q
      exact at_ret ev_bl q
    have hl : ds.length = st.held.length := by
      have : (ds.length : Int) = (st.held.length : Int) := by simpa using c1
      omega
    have few := ok.few
    have ez : ((ds.zip st.held).map fun p => PyData.bool (stepB p.2 p.1)) = ((ds.zip st.held).map fun p => stepB p.2 p.1).map .bool := by rw [List.map_map]; rfl
    refine' q_when (c := !(((ds.zip st.held).map fun p => stepB p.2 p.1).all id)) (et_not (et_B (K := K) (Ev.hd (ev_all (bs := (ds.zip st.held).map fun p => stepB p.2 p.1) (Ev.hd (EvM.nw ?hall)))))) (fun c2 => ?b1) (fun c2 => ?b2)
    case hall =>
      rw [← ez]
      refine evm_lc1 (xs := ds.zip st.held) (e := fun p : PyData × Int × Int × Int => .tuple [p.1, rowD p.2]) (q := dat K) _ (evj_zip (e1 := fun p : PyData × Int × Int × Int => p.1) (e2 := fun p => rowD p.2) ?_ ?_) (fun F1 x hx => ?_) (by rw [List.length_zip]; omega)
      · rw [List.map_fst_zip (by omega)]
        exact ev_var rfl
      · have e2 : ((ds.zip st.held).map fun p => rowD p.2) = st.held.map rowD := by
          have := (List.map_map (g := rowD) (f := Prod.snd) (l := ds.zip st.held)).symm
          rw [List.map_snd_zip (by omega)] at this
          exact this
        rw [e2]
        exact Ev.dat (ev_var rfl)
      · refine ⟨_, _, bind_tupD (bindld_cons (bind_name st_dat) (bindld_cons (bind_name st_dat) bindld_nil)) rfl, by decide, ?_⟩
        exact ev_call (α := PyData × Int × Int × Int) (x.1, x.2) trivial (ea_cons st_dat (evh_var rfl rd_sa) (ea_cons st_dat (evh_var rfl rd_sa) ea_nil))
    case b1 =>
      have c3 : ((ds.zip st.held).all fun p => stepB p.2 p.1) = false := by
        rw [List.all_map] at c2
        simpa using c2
      have e : oneB st (some (.list ds)) = false := by
        show (decide (ds.length = st.held.length) && ((ds.zip st.held).all fun p => stepB p.2 p.1) && _) = false
        rw [c3, Bool.and_false, Bool.false_and]
      rw [e] at q
      exact at_ret ev_bl q
    have c3 : ((ds.zip st.held).all fun p => stepB p.2 p.1) = true := by
      rw [List.all_map] at c2
      simpa using c2
    have er := rows_of hl c3
    generalize hw : ds.map rowOf = ways at er
    subst er
    have lw : ways.length = st.held.length := by rw [← hl, List.length_map]
    have e : oneB st (some (.list (ways.map rowD))) = (decide (((ledF ways 0).length : Int) = st.many) && decide (((ledF (ways.map turnR) 0).length : Int) = st.many)) := by
      show (decide ((ways.map rowD).length = st.held.length) && (((ways.map rowD).zip st.held).all fun p => stepB p.2 p.1) && goesB st.many ((ways.map rowD).map rowOf)) = _
      rw [c3, hw, decide_eq_true hl]
      rfl
    rw [e] at q
    refine' q_setM K (ds := (ways.map turnR).map rowD) ?d1 (at_ret (ev_andV (a := decide (((ledF ways 0).length : Int) = st.many)) (c := decide (((ledF (ways.map turnR) 0).length : Int) = st.many)) ?d2 (fun _ => ?d3)) q)
    case d1 =>
      rw [List.map_map]
      refine evm_lc1 (xs := ways) (e := rowD) _ (evj_listF (ev_var rfl) (flatDs_map (fun _ => rfl) _)) (fun F1 x hx => ?_) (by omega)
      refine ⟨_, _, (by walk_at "bd"), by decide, ?_⟩
      obtain ⟨a, b, c⟩ := x
      exact ev_tup (ds := [.int a, .int c, .int b]) (by walk_at "ev") (by simp)
    case d2 => exact Ev.hd (ev_eqI (Ev.hd (ev_lenLed ways 0 (by omega) (ea_cons st_dat (evh_var (d := .list (ways.map rowD)) rfl rd_sa) (ea_cons st_dat (Ev.hd ev_int) ea_nil)))) (Ev.hd (ev_places (evh_town rfl))))
    case d3 => exact ev_eqI (Ev.hd (ev_lenLed (ways.map turnR) 0 (by rw [List.length_map]; omega) (ea_cons st_dat (evh_var rfl rd_ml) (ea_cons st_dat (Ev.hd ev_int) ea_nil)))) (Ev.hd (ev_places (evh_town rfl)))
  · have ht2 : ∀ ds, d ≠ .list ds := fun ds z => ht ⟨ds, z⟩
    have e : oneB st (some d) = false := by
      unfold oneB
      split
      next h => cases h; exact absurd ⟨_, rfl⟩ ht
      · rfl
    rw [e] at q
    refine' q_when (c := true) (et_is (et_or (c := true) (et_not (et_B (K := K) (Ev.hd (ev_isa (n := "list") (d := d) ?a1 (by decide))))) fun z => ?a2) ?a3) (fun _ => ?a4) (fun z => by cases z)
    case a1 => exact evh_var rfl rd_sa
    case a2 => rw [tyD_list ht2] at z; cases z
    case a3 => rw [tyD_list ht2]; rfl
    case a4 => exact at_ret ev_bl q
end

abbrev s_w_good : Stmt := top 23
theorem sc_w_good : FnScope ["_law_many_here", "_law_rows", "_law_ways", "_law_mine", "_law_street", "_law_one", "_law_other", "_law_back"] ["_law_many_here", "_law_rows", "_law_ways"] (defScope s_w_good) := ⟨rfl, rfl, rfl, by decide +kernel, rfl, by decide +kernel, by decide +kernel⟩
def normR (r : Int × Int × Int) : Int × Int × Int := (r.1, min r.2.1 r.2.2, max r.2.1 r.2.2)
def goodB (n : Int) (rows ways : List (Int × Int × Int)) : Bool := decide (ways.map normR = rows.map normR) && goesB n ways
abbrev spGood (K : PySem.W.Frag) : Sp := Fp K (fun x : Int × List (Int × Int × Int) × List (Int × Int × Int) => x.2.1.length ≤ 62 ∧ x.2.2.length ≤ 62) (fun x => [dat K (.int x.1), dat K (.list (x.2.1.map rowD)), dat K (.list (x.2.2.map rowD))]) (fun x => .bool (goodB x.1 x.2.1 x.2.2))
theorem sortI_len (ns : List Int) : (sortI ns).length = ns.length := (sortI_perm ns).length_eq
section
variable {K : PySem.W.Frag} {B F0 : Hp} {ρ : List Sl} {tr : TA}
theorem ev_lenWLed (ways : List (Int × Int × Int)) (place : Int) (hl : ways.length ≤ 62) (h : EvA B F0 ρ tr [dat K (.list (ways.map rowD)), dat K (.int place)]) :
    Ev B F0 ρ (tCB (fun xs H Q => ∃ p ys, xs = [.ref p] ∧ (SqL K H p ys ∨ SqT K H p ys) ∧ Q (.int ys.length) H) (tCons (tCall (spWLed K) [] E0 tr) tNil)) (nwd K B (.int (ledF ways place).length)) := by
  have h2 := ev_lenL (K := K) (B := B) (F0 := F0) (ρ := ρ) (Ev.hd (ev_call (α := List (Int × Int × Int) × Int) (pre := fun x => x.1.length ≤ 62) (args := fun x => [dat K (.list (x.1.map rowD)), dat K (.int x.2)]) (res := fun x => .list ((sortI (ledF x.1 x.2)).map .int)) (E := E0) (ways, place) hl h))
  rw [List.length_map, sortI_len] at h2
  exact h2
end
section
variable {P : Program} {w : World} {K : PySem.W.Frag} {mg : Str → Option Value} {base : Heap} {C : Addr}
theorem ok_good (Z : Zs mg) (G_w_led : Ok P w K mg base CX0 1 "_law_led" ["_law_ways", "_law_place"] (spWLed K)) (D : Dfn K mg "_law_good" "_law_good" s_w_good ["_law_many_here", "_law_rows", "_law_ways"]) : Ok P w K mg base CX0 2 "_law_good" ["_law_many_here", "_law_rows", "_law_ways"] (spGood K) := by
  refine fp_ok D sc_w_good (by decide) (fun _ => rfl) (fun _ => stabC st_dat (stabC st_dat (stab1 st_dat))) (fun f cdv A outer s H E hr => ⟨_, (pss_cons (ps_setLc (i := 3) (own := [("_law_street", 4), ("_law_one", 5), ("_law_other", 6)]) (tt := tYes) rfl sc_w_good.nd rfl rfl (sw_true rfl rfl rfl (by decide +kernel)) (kpi_list K (pv 2)) (blkOk_by (by dsimp only [cxOf, Cx.nox, Cx.wish, compEnvC, envOfC]; decide +kernel)) (fun _ _ _ _ _ => (kpg_tup K 3 rfl (pgs_cons (pg_name (i := 4) sc_w_good.nd rfl (Or.inl rfl)) (pgs_cons (pg_name (i := 5) sc_w_good.nd rfl (Or.inl rfl)) (pgs_cons (pg_name (i := 6) sc_w_good.nd rfl (Or.inl rfl)) pgs_nil))))) (fun _ _ _ _ _ => pts_nil) (fun _ _ _ _ _ => (pe_tup (pa_cons (pv 4) (pa_cons (pe_callB (call_min2 rfl) (by rfl) Z.min (by decide +kernel) (pa_cons (pv 5) (pa_cons (pv 6) pa_nil))) (pa_cons (pe_callB (call_max2 rfl) (by rfl) Z.max (by decide +kernel) (pa_cons (pv 5) (pa_cons (pv 6) pa_nil))) pa_nil))))))
    (pss_cons (ps_if (pt_cmpR (kop_neD K (by exact hr.units)) (pv 3) (pe_lc (own := [("_law_street", 4), ("_law_one", 5), ("_law_other", 6)]) (tt := tYes) rfl sc_w_good.nd (kpi_list K (pv 1)) (blkOk_by (by dsimp only [cxOf, Cx.nox, Cx.wish, compEnvC, envOfC]; decide +kernel)) (fun _ _ _ _ _ => (kpg_tup K 3 rfl (pgs_cons (pg_name (i := 4) sc_w_good.nd rfl (Or.inl rfl)) (pgs_cons (pg_name (i := 5) sc_w_good.nd rfl (Or.inl rfl)) (pgs_cons (pg_name (i := 6) sc_w_good.nd rfl (Or.inl rfl)) pgs_nil))))) (fun _ _ _ _ _ => pts_nil) (fun _ _ _ _ _ => (pe_tup (pa_cons (pv 4) (pa_cons (pe_callB (call_min2 rfl) (by rfl) Z.min (by decide +kernel) (pa_cons (pv 5) (pa_cons (pv 6) pa_nil))) (pa_cons (pe_callB (call_max2 rfl) (by rfl) Z.max (by decide +kernel) (pa_cons (pv 5) (pa_cons (pv 6) pa_nil))) pa_nil)))))) (nomark _)) (pss_one (ps_ret pe_bl)) pss_nil)
    (pss_cons (ps_setLc (i := 7) (own := [("_law_street", 4), ("_law_one", 5), ("_law_other", 6)]) (tt := tYes) rfl sc_w_good.nd rfl rfl (sw_true rfl rfl rfl (by decide +kernel)) (kpi_list K (pv 2)) (blkOk_by (by dsimp only [cxOf, Cx.nox, Cx.wish, compEnvC, envOfC]; decide +kernel)) (fun _ _ _ _ _ => (kpg_tup K 3 rfl (pgs_cons (pg_name (i := 4) sc_w_good.nd rfl (Or.inl rfl)) (pgs_cons (pg_name (i := 5) sc_w_good.nd rfl (Or.inl rfl)) (pgs_cons (pg_name (i := 6) sc_w_good.nd rfl (Or.inl rfl)) pgs_nil))))) (fun _ _ _ _ _ => pts_nil) (fun _ _ _ _ _ => (pe_tup (pa_cons (pv 4) (pa_cons (pv 6) (pa_cons (pv 5) pa_nil))))))
    (pss_one (ps_ret (pe_and (pe_cmpR op_eq (pe_callB (kcall_len_seq K) (by rfl) Z.len PySem.boot_len (pa_cons (ok_call G_w_led (by exact hr.mono (by decide)) rfl (pa_cons (pv 2) (pa_cons pe_int pa_nil))) pa_nil)) (pv 0) (nomark _)) (pe_one (pe_cmpR op_eq (pe_callB (kcall_len_seq K) (by rfl) Z.len PySem.boot_len (pa_cons (ok_call G_w_led (by exact hr.mono (by decide)) rfl (pa_cons (pv 7) (pa_cons pe_int pa_nil))) pa_nil)) (pv 0) (nomark _))))))))), ?_⟩)
  rintro ⟨n, rows, ways⟩ ⟨hl1, hl2⟩ Q q
  dsimp only at q hl1 hl2
  walk_at "go"
  refine' q_setM K (ds := (ways.map normR).map rowD) ?a1 (q_when (c := !decide (ways.map normR = rows.map normR)) ?a2 (fun c1 => ?a3) (fun c1 => ?a4))
  case a1 =>
    rw [List.map_map]
    refine evm_lc1 (xs := ways) (e := rowD) _ (evj_listF (ev_var rfl) (flatDs_map (fun _ => rfl) _)) (fun F1 x hx => ?_) (by omega)
    refine ⟨_, _, (by walk_at "bd"), by decide, ?_⟩
    obtain ⟨a, b, c⟩ := x
    exact ev_tup (ds := [.int a, .int (min b c), .int (max b c)]) (by walk_at "ev") (by simp)
  case a2 =>
    have h := ev_neD (K := K) (B := H) (F0 := H) (ρ := (enterR 8 [dat K (.int n), dat K (.list (rows.map rowD)), dat K (.list (ways.map rowD))]).set 3 (ml K H ((ways.map normR).map rowD))) (evh_var (i := 3) rfl rd_ml) (Ev.hd (EvM.nw (evm_lc1 (vs := [4, 5, 6]) (g := gTup K 3 (gCons (gName 4) (gCons (gName 5) (gCons (gName 6) gNil)))) (te := tTup (tCons (tVar 4) (tCons (tCB _ (tCons (tVar 5) (tCons (tVar 6) tNil))) (tCons (tCB _ (tCons (tVar 5) (tCons (tVar 6) tNil))) tNil)))) (xs := rows) (e := rowD) (rowD ∘ normR) (evj_listF (ev_var (i := 1) rfl) (flatDs_map (fun _ => rfl) _)) (fun F1 x hx => by
      refine ⟨_, _, (by walk_at "bd"), by decide, ?_⟩
      obtain ⟨a, b, c⟩ := x
      exact ev_tup (ds := [.int a, .int (min b c), .int (max b c)]) (by walk_at "ev") (by simp)) (by omega)))) (ok60_rows.shaped (by decide)) (by rw [← List.map_map]; exact (ok60_rows.shaped (by decide)))
    rw [← List.map_map] at h
    have e : PyData.eqv (.list ((ways.map normR).map rowD)) (.list ((rows.map normR).map rowD)) = decide (ways.map normR = rows.map normR) := by
      rw [Bool.eq_iff_iff, eqv_list eqv_row]; simp
    rw [e] at h
    exact et_test (K := K) (Ev.hd h)
  case a3 =>
    have c2 : ¬ ways.map normR = rows.map normR := by simpa using c1
    have e : goodB n rows ways = false := by unfold goodB; rw [decide_eq_false c2]; rfl
    rw [e] at q
    exact at_ret ev_bl q
  case a4 =>
    have c2 : ways.map normR = rows.map normR := by simpa using c1
    have e : goodB n rows ways = (decide (((ledF ways 0).length : Int) = n) && decide (((ledF (ways.map turnR) 0).length : Int) = n)) := by unfold goodB; rw [decide_eq_true c2]; rfl
    rw [e] at q
    refine' q_setM K (ds := (ways.map turnR).map rowD) ?d1 (at_ret (ev_andV (a := decide (((ledF ways 0).length : Int) = n)) (c := decide (((ledF (ways.map turnR) 0).length : Int) = n)) ?d2 (fun _ => ?d3)) q)
    case d1 =>
      rw [List.map_map (f := turnR)]
      refine evm_lc1 (xs := ways) (e := rowD) _ (evj_listF (ev_var rfl) (flatDs_map (fun _ => rfl) _)) (fun F1 x hx => ?_) (by omega)
      refine ⟨_, _, (by walk_at "bd"), by decide, ?_⟩
      obtain ⟨a, b, c⟩ := x
      exact ev_tup (ds := [.int a, .int c, .int b]) (by walk_at "ev") (by simp)
    case d2 => exact Ev.hd (ev_eqI (Ev.hd (ev_lenWLed ways 0 (by omega) (ea_cons st_dat (evh_var (d := .list (ways.map rowD)) rfl rd_sa) (ea_cons st_dat (Ev.hd ev_int) ea_nil)))) (evh_var rfl rd_sa))
    case d3 => exact ev_eqI (Ev.hd (ev_lenWLed (ways.map turnR) 0 (by rw [List.length_map]; omega) (ea_cons st_dat (evh_var rfl rd_ml) (ea_cons st_dat (Ev.hd ev_int) ea_nil)))) (evh_var rfl rd_sa)
end

abbrev s_w_truths : Stmt := top 26
theorem sc_w_truths : FnScope ["_law_ways", "_law_found", "_law_step", "_law_one"] ["_law_ways"] (defScope s_w_truths) := ⟨rfl, rfl, rfl, by decide +kernel, rfl, by decide +kernel, by decide +kernel⟩
def truthD (i : Int) : PyData := if i ∈ ([0, 1] : List Int) then .bool (decide (i = 1)) else .int i
def truthsD (r : Int × Int × Int) : PyData := .tuple [truthD r.1, truthD r.2.1, truthD r.2.2]
abbrev spTruths (K : PySem.W.Frag) : Sp := Fp K (fun x : List (Int × Int × Int) => x.length ≤ 62) (fun x => [dat K (.list (x.map rowD))]) (fun x => .list (x.map truthsD))
section
variable {P : Program} {w : World} {K : PySem.W.Frag} {mg : Str → Option Value} {base : Heap} {C : Addr}
theorem ok_truths (Z : Zs mg) (D : Dfn K mg "_law_truths" "_law_truths" s_w_truths ["_law_ways"]) : Ok P w K mg base CX0 1 "_law_truths" ["_law_ways"] (spTruths K) := by
  refine fp_ok D sc_w_truths (by decide) (fun _ => rfl) (fun _ => stab1 st_dat) (fun f cdv A outer s H E hr => ⟨_, (pss_cons (ps_set (i := 1) sc_w_truths.nd rfl (Or.inl rfl) (pe_lst pa_nil))
    (pss_cons (ps_for PassesOwn.never rfl (kpi_list K (pv 0)) (pg_name (i := 2) sc_w_truths.nd rfl (Or.inl rfl))
      (pss_one (ps_expr (pe_bm PySem.F.plainAttrs_list PySem.F.slot_list_append PySem.F.type_list_append mt_append (pv 1) (pa_cons (pe_callTy (kcall_tuple_of K) (by rfl) Z.tuple (by decide +kernel) (pa_cons (pe_lc (own := [("_law_one", 3)]) (tt := tYes) rfl sc_w_truths.nd (kpi_tup K (pv 2)) (blkOk_by (by dsimp only [cxOf, Cx.nox, Cx.wish, compEnvC, envOfC]; decide +kernel)) (fun _ _ _ _ _ => (pg_name (i := 3) sc_w_truths.nd rfl (Or.inl rfl))) (fun _ _ _ _ _ => pts_nil) (fun _ _ _ _ _ => (pe_ifExp (pt_cmpR (kop_in_seq K) (pv 3) (pe_tup (pa_cons pe_int (pa_cons pe_int pa_nil))) rfl) (pe_cmpR op_eq (pv 3) pe_int (nomark _)) (pv 3)))) pa_nil)) pa_nil)))))
    (pss_one (ps_ret (pv 1))))), ?_⟩)
  rintro ways hl Q q
  walk_at "go"
  refine' q_setM K (ds := []) ?a1 (q_for (xs := ways) (e := rowD) (EvJ.i (evj_listF ?a2 (flatDs_map (fun _ => rfl) _))) (fun pre ρ' => ∃ s2, ρ' = [sa K (.list (ways.map rowD)), ml K H (pre.map truthsD), s2, Sl.no]) ?a3 ?a4 ?a5)
  case a1 => exact evm_lst eas_nil (by simp)
  case a2 => exact ev_var rfl
  case a3 => exact ⟨_, rfl⟩
  case a4 =>
    rintro F1 pre r post ρ' hx ⟨s2, rfl⟩
    have lp : pre.length < 100 := by have := congrArg List.length hx; rw [List.length_append, List.length_cons] at this; omega
    refine' ⟨_, _, (by walk_at "bd"), ?_⟩
    refine' at_drop (evx_append (i := 1) (d := truthsD r) rfl ?b1 ?b2) (at_lpD ?b3)
    case b1 =>
      have e : truthsD r = .tuple ([r.1, r.2.1, r.2.2].map truthD) := rfl
      rw [e]
      refine ev_tupleL (EvM.nw (evm_lc1 (xs := [r.1, r.2.1, r.2.2]) (e := fun i => .int i) truthD (evj_tupN (ev_var (i := 2) rfl)) (fun F2 x hx => ?_) (by simp)))
      refine ⟨_, _, bind_name st_nwd, by decide, ?_⟩
      refine ev_if (c := decide (x ∈ ([0, 1] : List Int))) (et_test (K := K) (Ev.hd (ev_inT (neg := false) (ns := [0, 1]) (Ev.hd (ev_var rfl)) (Ev.hd (ev_tup (ds := [.int 0, .int 1]) (by walk_at "ev") (by simp)))))) (fun h => ?_) (fun h => ?_)
      · have e2 : truthD x = .bool (decide (x = 1)) := by unfold truthD; rw [if_pos (by simpa using h)]
        rw [e2]
        walk_at "ev"
      · have e2 : truthD x = .int x := by unfold truthD; rw [if_neg (by simpa using h)]
        rw [e2]
        walk_at "ev"
    case b2 => rw [List.length_map]; omega
    case b3 =>
      refine ⟨sn K H (rowD r), ?_⟩
      rw [List.map_append]
      rfl
  case a5 =>
    rintro ρ' ⟨s2, rfl⟩
    exact at_retL rfl q
end

abbrev s_w_spoilt : Stmt := top 25
theorem sc_w_spoilt : FnScope ["_law_ways", "_law_many_here", "_law_number", "_law_at", "_law_step", "_law_some"] ["_law_ways", "_law_many_here", "_law_number"] (defScope s_w_spoilt) := ⟨rfl, rfl, rfl, by decide +kernel, rfl, by decide +kernel, by decide +kernel⟩
def strI (i : Int) : Str := toString i
def spoilD (s : Int × Int × Int) (n : Int) : List PyData := [.tuple [.int s.1, .int s.2.1, .int n], .tuple [.int s.1, .int s.2.1, .int s.2.1], .tuple [.int (s.1 + 1000), .int s.2.1, .int s.2.2], .list [.int s.1, .int s.2.1, .int s.2.2],
  .tuple [.int s.1, .int s.2.1], .tuple [.int s.1, .int s.2.1, .int s.2.2, .int 0], .tuple [.int s.1, .none, .int s.2.2], .tuple [.str (strI s.1), .int s.2.1, .int s.2.2], .none, .tuple [.int s.1, .int s.2.1, .int (-1 - s.2.2)]]
def spoiltD (ways : List (Int × Int × Int)) (n number : Int) : List PyData :=
  let i := (number / 12 % (ways.length : Int)).toNat
  let s := ways.getD i (0, 0, 0)
  if number % 12 < 10 then (ways.take i).map rowD ++ [(spoilD s n).getD (number % 12).toNat .none] ++ (ways.drop (i + 1)).map rowD
  else if number % 12 = 10 then (ways.take i).map rowD ++ (ways.drop (i + 1)).map rowD
  else ways.map rowD ++ [rowD s]
abbrev spSpoilt (K : PySem.W.Frag) : Sp := Fp K (fun x : List (Int × Int × Int) × Int × Int => x.1 ≠ [] ∧ x.1.length ≤ 62 ∧ (∀ r ∈ x.1, 0 ≤ r.1 ∧ r.1 < 1000) ∧ 0 ≤ x.2.2) (fun x => [nwd K e0 (.list (x.1.map rowD)), dat K (.int x.2.1), dat K (.int x.2.2)]) (fun x => .list (spoiltD x.1 x.2.1 x.2.2))
theorem cut_drop {α : Type} (e : α → PyData) (xs : List α) {i : Int} (h : 0 ≤ i) : cutD (xs.map e) (some i) none = (xs.drop i.toNat).map e := by
  have h1 : HT.sIx (xs.map e).length 0 (some i) = min i.toNat xs.length := by
    unfold HT.sIx
    simp only [List.length_map]
    first | omega | (split <;> omega) | (simp; omega)
  have h2 : HT.sIx (xs.map e).length (xs.map e).length none = (xs.map e).length := rfl
  unfold cutD
  rw [h1, h2, ← List.map_drop]
  by_cases h3 : i.toNat ≤ xs.length
  · rw [Nat.min_eq_left h3, List.take_of_length_le (by rw [List.length_map, List.length_map, List.length_drop]; omega)]
  · rw [Nat.min_eq_right (by omega), List.drop_of_length_le (Nat.le_refl _), List.drop_of_length_le (by omega), List.map_nil, List.take_nil]
section
variable {K : PySem.W.Frag} {B F0 : Hp} {ρ : List Sl} {ta : TE}
theorem ev_neg {a : Int} (ha : EvH B F0 ρ ta (dat K (.int a))) : Ev B F0 ρ (tUn (rU fun i => .int (-i)) ta) (nwd K B (.int (-a))) := fun F H σ c Q q =>
  ha F H σ c _ fun v F1 H1 g1 p => by
    cases p
    exact ⟨a, rfl, q _ F1 H1 g1 (.int _)⟩
theorem log_small {i : Int} (h1 : 0 ≤ i) (h2 : i < 1000) : i.natAbs.log2 < 1920 := by
  have : i.natAbs < 2 ^ 1920 := Nat.lt_of_lt_of_le (show i.natAbs < 1000 by omega) (by decide +kernel)
  by_cases h : i.natAbs = 0
  · rw [h]; decide
  · exact (Nat.log2_lt h).mpr this
theorem ev_str_int {i : Int} (ha : EvH B F0 ρ ta (dat K (.int i))) (h1 : 0 ≤ i) (h2 : i < 1000) : Ev B F0 ρ (tCB (fun xs H Q => ∃ i : Int, xs = [.int i] ∧ i.natAbs.log2 < 1920 ∧ Q (.str (toString i)) H) (tCons ta tNil)) (nwd K B (.str (strI i))) := fun F H σ c Q q =>
  ha F H σ c _ fun v F1 H1 g1 p => by
    cases p
    exact ⟨i, rfl, log_small h1 h2, q _ F1 H1 g1 (.str _)⟩
end
section
variable {P : Program} {w : World} {K : PySem.W.Frag} {mg : Str → Option Value} {base : Heap} {C : Addr}
theorem ok_spoilt (Z : Zs mg) (D : Dfn K mg "_law_spoilt" "_law_spoilt" s_w_spoilt ["_law_ways", "_law_many_here", "_law_number"]) : Ok P w K mg base CX0 1 "_law_spoilt" ["_law_ways", "_law_many_here", "_law_number"] (spSpoilt K) := by
  refine fp_ok D sc_w_spoilt (by decide) (fun _ => rfl) (fun _ => stabC st_nwd (stabC st_dat (stab1 st_dat))) (fun f cdv A outer s H E hr => ⟨_, (pss_cons (ps_set (i := 3) sc_w_spoilt.nd rfl (Or.inl rfl) (pe_op op_mod (pe_op op_fdiv (pv 2) pe_int) (pe_callB (kcall_len_seq K) (by rfl) Z.len PySem.boot_len (pa_cons (pv 0) pa_nil))))
    (pss_cons (ps_set (i := 4) sc_w_spoilt.nd rfl (Or.inl rfl) (pe_ix (kix_list K) (pv 0) (pv 3) (fun _ _ => rfl)))
    (pss_cons (ps_set (i := 5) sc_w_spoilt.nd rfl (Or.inl rfl) (pe_lst (pa_cons (pe_tup (pa_cons (pe_ix (kix_tup K) (pv 4) pe_int (fun _ _ => rfl)) (pa_cons (pe_ix (kix_tup K) (pv 4) pe_int (fun _ _ => rfl)) (pa_cons (pv 1) pa_nil)))) (pa_cons (pe_tup (pa_cons (pe_ix (kix_tup K) (pv 4) pe_int (fun _ _ => rfl)) (pa_cons (pe_ix (kix_tup K) (pv 4) pe_int (fun _ _ => rfl)) (pa_cons (pe_ix (kix_tup K) (pv 4) pe_int (fun _ _ => rfl)) pa_nil)))) (pa_cons (pe_tup (pa_cons (pe_op op_add (pe_ix (kix_tup K) (pv 4) pe_int (fun _ _ => rfl)) pe_int) (pa_cons (pe_ix (kix_tup K) (pv 4) pe_int (fun _ _ => rfl)) (pa_cons (pe_ix (kix_tup K) (pv 4) pe_int (fun _ _ => rfl)) pa_nil)))) (pa_cons (pe_callTy (kcall_list_of K) (by rfl) Z.list (by decide +kernel) (pa_cons (pv 4) pa_nil)) pa_nil))))))
    (pss_cons (ps_set (i := 5) sc_w_spoilt.nd rfl (Or.inl rfl) (pe_op op_cat (pv 5) (pe_lst (pa_cons (pe_slice (ksl_tup K) (pv 4) po_none (po_some pe_int)) (pa_cons (pe_op (kop_catA K) (pv 4) (pe_tup (pa_cons pe_int pa_nil))) (pa_cons (pe_tup (pa_cons (pe_ix (kix_tup K) (pv 4) pe_int (fun _ _ => rfl)) (pa_cons pe_non (pa_cons (pe_ix (kix_tup K) (pv 4) pe_int (fun _ _ => rfl)) pa_nil)))) (pa_cons (pe_tup (pa_cons (pe_callTy call_str_int (by rfl) Z.str (by decide +kernel) (pa_cons (pe_ix (kix_tup K) (pv 4) pe_int (fun _ _ => rfl)) pa_nil)) (pa_cons (pe_ix (kix_tup K) (pv 4) pe_int (fun _ _ => rfl)) (pa_cons (pe_ix (kix_tup K) (pv 4) pe_int (fun _ _ => rfl)) pa_nil)))) (pa_cons pe_non pa_nil))))))))
    (pss_cons (ps_expr (pe_bm PySem.F.plainAttrs_list PySem.F.slot_list_append PySem.F.type_list_append mt_append (pv 5) (pa_cons (pe_tup (pa_cons (pe_ix (kix_tup K) (pv 4) pe_int (fun _ _ => rfl)) (pa_cons (pe_ix (kix_tup K) (pv 4) pe_int (fun _ _ => rfl)) (pa_cons (pe_op op_sub (pe_un un_neg pe_int) (pe_ix (kix_tup K) (pv 4) pe_int (fun _ _ => rfl))) pa_nil)))) pa_nil)))
    (pss_cons (ps_if (pt_cmpR op_lt (pe_op op_mod (pv 2) pe_int) pe_int (nomark _)) (pss_one (ps_ret (pe_op op_cat (pe_op op_cat (pe_slice (ksl_list K) (pv 0) po_none (po_some (pv 3))) (pe_lst (pa_cons (pe_ix (kix_list K) (pv 5) (pe_op op_mod (pv 2) pe_int) (fun _ _ => rfl)) pa_nil))) (pe_slice (ksl_list K) (pv 0) (po_some (pe_op op_add (pv 3) pe_int)) po_none)))) pss_nil)
    (pss_cons (ps_if (pt_cmpR op_eq (pe_op op_mod (pv 2) pe_int) pe_int (nomark _)) (pss_one (ps_ret (pe_op op_cat (pe_slice (ksl_list K) (pv 0) po_none (po_some (pv 3))) (pe_slice (ksl_list K) (pv 0) (po_some (pe_op op_add (pv 3) pe_int)) po_none)))) pss_nil)
    (pss_one (ps_ret (pe_op op_cat (pv 0) (pe_lst (pa_cons (pv 4) pa_nil)))))))))))), ?_⟩)
  rintro ⟨ways, n, number⟩ ⟨hne, hl, hb, hn⟩ Q q
  dsimp only at q hl hne hb hn
  walk_at "go"
  have lpos : 0 < ways.length := by cases ways with | nil => exact absurd rfl hne | cons a r => simp
  have i0 := Int.emod_nonneg (number / 12) (show (ways.length : Int) ≠ 0 by omega)
  have i1 := Int.emod_lt_of_pos (number / 12) (show (0 : Int) < (ways.length : Int) by omega)
  have m0 := Int.emod_nonneg number (show (12 : Int) ≠ 0 by decide)
  have m1 := Int.emod_lt_of_pos number (show (0 : Int) < 12 by decide)
  have il : (number / 12 % (ways.length : Int)).toNat < ways.length := by omega
  have eg : ways[(number / 12 % (ways.length : Int)).toNat]? = some (ways.getD (number / 12 % (ways.length : Int)).toNat (0, 0, 0)) := by
    rw [List.getD_eq_getElem?_getD, List.getElem?_eq_getElem il]; rfl
  have hb2 := hb _ (List.mem_of_getElem? eg)
  have eq : spoiltD ways n number = (if number % 12 < 10 then (ways.take (number / 12 % (ways.length : Int)).toNat).map rowD ++ [(spoilD (ways.getD (number / 12 % (ways.length : Int)).toNat (0, 0, 0)) n).getD (number % 12).toNat .none] ++ (ways.drop ((number / 12 % (ways.length : Int)).toNat + 1)).map rowD
    else if number % 12 = 10 then (ways.take (number / 12 % (ways.length : Int)).toNat).map rowD ++ (ways.drop ((number / 12 % (ways.length : Int)).toNat + 1)).map rowD
    else ways.map rowD ++ [rowD (ways.getD (number / 12 % (ways.length : Int)).toNat (0, 0, 0))]) := rfl
  rw [eq] at q
  generalize hi : number / 12 % (ways.length : Int) = i at *
  generalize hs : ways.getD i.toNat (0, 0, 0) = st at *
  obtain ⟨s, a, b⟩ := st
  dsimp only at hb2
  have fr : ∀ xs : List (Int × Int × Int), flatDs (xs.map rowD) = true := fun xs => flatDs_map (fun _ => rfl) xs
  refine' q_set K (d := .int i) ?a1 (q_set K (d := rowD (s, a, b)) ?a2 (q_set K (d := .list ((spoilD (s, a, b) n).take 4)) ?a3 (q_setM K (ds := (spoilD (s, a, b) n).take 9) ?a4 (q_drop (evx_append (i := 5) (d := .tuple [.int s, .int a, .int (-1 - b)]) rfl ?a5 ?a6) ?a7))))
  case a1 =>
    have e : PyData.int i = .int (number / 12 % ((ways.map rowD).length : Int)) := by rw [List.length_map, hi]
    rw [e]
    refine ev_ci (Ev.hd (ev_ci (evh_var rfl rd_sa) (Ev.hd ev_int) ⟨by decide, by decide⟩ rfl)) (Ev.hd (ev_lenL (evh_var (d := .list (ways.map rowD)) rfl rd_sn))) ?_ rfl
    rw [List.length_map]; show (0 : Int) < _; omega
  case a2 => exact (evh_ixL (evh_var (d := .list (ways.map rowD)) rfl rd_sn) (evh_var rfl rd_sn) (atI_map rowD (atI_nn i0 eg))).nw rfl
  case a3 =>
    refine EvM.nw (evm_lst (ds := (spoilD (s, a, b) n).take 4) (eas_cons ?_ (eas_cons ?_ (eas_cons ?_ (eas_cons ?_ eas_nil)))) (by simp [spoilD]))
    · exact ev_tup (eas_cons (ev_ixT (ev_var rfl) (Ev.hd ev_int) rfl) (eas_cons (ev_ixT (ev_var rfl) (Ev.hd ev_int) rfl) (eas_cons ((evh_var rfl rd_sa).nw rfl) eas_nil))) (by simp)
    · exact ev_tup (eas_cons (ev_ixT (ev_var rfl) (Ev.hd ev_int) rfl) (eas_cons (ev_ixT (ev_var rfl) (Ev.hd ev_int) rfl) (eas_cons (ev_ixT (ev_var rfl) (Ev.hd ev_int) rfl) eas_nil))) (by simp)
    · exact ev_tup (eas_cons (ev_ii (Ev.hd (ev_ixT (ev_var rfl) (Ev.hd ev_int) rfl)) (Ev.hd ev_int) rfl) (eas_cons (ev_ixT (ev_var rfl) (Ev.hd ev_int) rfl) (eas_cons (ev_ixT (ev_var rfl) (Ev.hd ev_int) rfl) eas_nil))) (by simp)
    · exact EvM.nw (evm_listT (Ev.hd (ev_var rfl)) rfl)
  case a4 =>
    have e : (spoilD (s, a, b) n).take 9 = (spoilD (s, a, b) n).take 4 ++ [.tuple [.int s, .int a], .tuple [.int s, .int a, .int b, .int 0], .tuple [.int s, .none, .int b], .tuple [.str (strI s), .int a, .int b], .none] := rfl
    rw [e]
    refine evm_catN (Ev.n (ev_var rfl)) (EvM.n (evm_lst (eas_cons ?_ (eas_cons ?_ (eas_cons ?_ (eas_cons ?_ (eas_cons ev_non eas_nil))))) (by simp))) (by simp [spoilD])
    · exact ev_sliceT (ds := [.int s, .int a, .int b]) (lo := none) (hi := some 2) (Ev.hd (ev_var rfl)) rfl eo_none (eo_some (Ev.hd ev_int)) (fun z => absurd z.2 (show ¬ (2 : Nat) = 3 by decide))
    · exact ev_catT (ds := [.int s, .int a, .int b]) (es := [.int 0]) (ev_var rfl) (ev_tup (eas_cons ev_int eas_nil) (by simp)) (by simp) (by simp) (by simp)
    · exact ev_tup (eas_cons (ev_ixT (ev_var rfl) (Ev.hd ev_int) rfl) (eas_cons ev_non (eas_cons (ev_ixT (ev_var rfl) (Ev.hd ev_int) rfl) eas_nil))) (by simp)
    · exact ev_tup (eas_cons (ev_str_int (Ev.hd (ev_ixT (ev_var rfl) (Ev.hd ev_int) rfl)) hb2.1 hb2.2) (eas_cons (ev_ixT (ev_var rfl) (Ev.hd ev_int) rfl) (eas_cons (ev_ixT (ev_var rfl) (Ev.hd ev_int) rfl) eas_nil))) (by simp)
  case a5 => exact ev_tup (eas_cons (ev_ixT (ev_var rfl) (Ev.hd ev_int) rfl) (eas_cons (ev_ixT (ev_var rfl) (Ev.hd ev_int) rfl) (eas_cons (ev_ii (Ev.hd (ev_neg (Ev.hd ev_int))) (Ev.hd (ev_ixT (ev_var rfl) (Ev.hd ev_int) rfl)) rfl) eas_nil))) (by simp)
  case a6 => simp [spoilD]
  case a7 =>
    have emod : ∀ {B F0 ρ}, ρ[2]? = some (sa K (.int number)) → EvH B F0 ρ (tOp (rI (fun _ j => 0 < j) fun i j => .int (i % j)) (tVar 2) (tC (.int 12))) (dat K (.int (number % 12))) := fun h => Ev.hd (ev_ci (evh_var h rd_sa) (Ev.hd ev_int) (by decide) rfl)
    have cutL : ∀ {ρ : List Sl}, ρ[0]? = some (sn K e0 (.list (ways.map rowD))) → ρ[3]? = some (sn K H (.int i)) → EvM K H H ρ (tSl (rSlL K) (tVar 0) tNoPart (tPart (tVar 3))) ((ways.take i.toNat).map rowD) := fun h1 h2 => by
      rw [← cut_take rowD ways i0]
      exact evm_slice (evh_var h1 rd_sn) (fr _) eo_none (eo_some (evh_var h2 rd_sn))
    have cutR : ∀ {ρ : List Sl}, ρ[0]? = some (sn K e0 (.list (ways.map rowD))) → ρ[3]? = some (sn K H (.int i)) → EvM K H H ρ (tSl (rSlL K) (tVar 0) (tPart (tOp (rI0 fun i j => .int (i + j)) (tVar 3) (tC (.int 1)))) tNoPart) ((ways.drop (i.toNat + 1)).map rowD) := fun h1 h2 => by
      have e : i.toNat + 1 = (i + 1).toNat := by omega
      rw [e, ← cut_drop rowD ways (show 0 ≤ i + 1 by omega)]
      exact evm_slice (evh_var h1 rd_sn) (fr _) (eo_some (Ev.hd (ev_ii (evh_var h2 rd_sn) (Ev.hd ev_int) rfl))) eo_none
    have l1 : (ways.take i.toNat).length ≤ 62 := by rw [List.length_take]; omega
    have l2 : (ways.drop (i.toNat + 1)).length ≤ 62 := by rw [List.length_drop]; omega
    refine' q_when (c := decide (number % 12 < 10)) (et_test (K := K) (Ev.hd (ev_ib (emod rfl) (Ev.hd ev_int) rfl))) (fun c1 => ?b1) (fun c1 => ?b2)
    case b1 =>
      have c2 : number % 12 < 10 := by simpa using c1
      rw [if_pos c2] at q
      refine at_ret (EvM.nw (evm_catN (EvM.n (evm_catN (EvM.n (cutL rfl rfl)) (EvM.n (evm_lst (eas_cons ?_ eas_nil) (by simp))) (by rw [List.length_map]; simp; omega))) (EvM.n (cutR rfl rfl)) (by rw [List.length_append, List.length_map, List.length_map]; simp; omega))) q
      have eg2 : atI (spoilD (s, a, b) n) (number % 12) = some ((spoilD (s, a, b) n).getD (number % 12).toNat .none) := by
        refine atI_nn m0 ?_
        rw [List.getD_eq_getElem?_getD, List.getElem?_eq_getElem (by show (number % 12).toNat < 10; omega)]
        rfl
      exact fun F H σ c Q q => (evn_ml (K := K) (ds := spoilD (s, a, b) n) (i := 5) rfl) F H σ c _ fun x xs F1 H1 g1 a1 a2 => (emod rfl) F1 H1 σ (c.go g1) _ fun v F2 H2 g2 p2 => by
        cases p2
        obtain ⟨v, e1, e2⟩ := nwAll_atI a2 eg2
        exact ⟨x, xs, number % 12, v, rfl, rfl, SqL.of (g2.h _ _ a1), e1, q _ F2 H2 (g1.trans g2) (nw_mono (Same.refl _) g2.f e2)⟩
    case b2 =>
      have c2 : ¬ number % 12 < 10 := by simpa using c1
      rw [if_neg c2] at q
      refine' q_when (c := decide (number % 12 = 10)) (et_test (K := K) (Ev.hd (ev_eqI (emod rfl) (Ev.hd ev_int)))) (fun c3 => ?d1) (fun c3 => ?d2)
      case d1 =>
        have c4 : number % 12 = 10 := by simpa using c3
        rw [if_pos c4] at q
        exact at_ret (EvM.nw (evm_catN (EvM.n (cutL rfl rfl)) (EvM.n (cutR rfl rfl)) (by rw [List.length_map, List.length_map]; omega))) q
      case d2 =>
        have c4 : ¬ number % 12 = 10 := by simpa using c3
        rw [if_neg c4] at q
        exact at_ret (EvM.nw (evm_catN (evn_e0 rfl (fr _)) (EvM.n (evm_lst (eas_cons (ev_var rfl) eas_nil) (by simp))) (by rw [List.length_map]; simp; omega))) q
end

/-! the law of ways, plain -/
structure RowsOk (n : Int) (rows : List (Int × Int × Int)) : Prop where
  len : rows.length ≤ 60
  rng : ∀ r ∈ rows, 0 ≤ r.1 ∧ r.1 < 1000 ∧ 0 ≤ r.2.1 ∧ r.2.1 < n ∧ 0 ≤ r.2.2 ∧ r.2.2 < n ∧ r.2.1 ≠ r.2.2
  pw : rows.Pairwise fun p q => p.1 < q.1
  hd : ∀ s r, rows = s :: r → s.1 = 0 ∨ s.1 = 1
theorem made_rows {n sd : Int} {pairs : List (Int × Int)} (h1 : 1 ≤ n) (h2 : n ≤ 16) (h : pairsOk n pairs) : RowsOk n (madeF n pairs sd).held where
  len := (made_held (sd := sd) h1 h2 h).ok.few
  rng := fun r hr => by
    obtain ⟨q1, q2, q3⟩ := made_num h1 h2 h r hr
    exact ⟨q1, by omega, q3⟩
  pw := (made_held (sd := sd) h1 h2 h).ok.keys
  hd := fun s r e => made_head e
structure Turned (rows ways : List (Int × Int × Int)) : Prop where
  len : ways.length = rows.length
  at_ : ∀ (i : Nat) w, ways[i]? = some w → ∃ r, rows[i]? = some r ∧ (w = r ∨ w = turnR r)
theorem turn_turn (r : Int × Int × Int) : turnR (turnR r) = r := rfl
theorem norm_turn (r : Int × Int × Int) : normR (turnR r) = normR r := by
  unfold normR turnR
  dsimp only
  rw [Int.min_comm, Int.max_comm]
theorem Turned.norm {rows ways : List (Int × Int × Int)} (t : Turned rows ways) : ways.map normR = rows.map normR := by
  apply List.ext_getElem?
  intro i
  rw [List.getElem?_map, List.getElem?_map]
  cases e : ways[i]? with
  | none =>
    rw [List.getElem?_eq_none_iff] at e
    rw [List.getElem?_eq_none (by rw [← t.len]; exact e)]
  | some w =>
    obtain ⟨r, hr, h⟩ := t.at_ i w e
    rw [hr]
    rcases h with rfl | rfl
    · rfl
    · show some (normR (turnR r)) = some (normR r)
      rw [norm_turn]
theorem stepB_row {s w : Int × Int × Int} : stepB s (rowD w) = (decide (w = s) || decide (w = turnR s)) := rfl
theorem mem_zip_at {α β : Type} {xs : List α} {ys : List β} {p : α × β} (h : p ∈ xs.zip ys) : ∃ i : Nat, xs[i]? = some p.1 ∧ ys[i]? = some p.2 := by
  obtain ⟨i, hi, rfl⟩ := List.mem_iff_getElem.mp h
  rw [List.getElem_zip]
  rw [List.length_zip] at hi
  exact ⟨i, List.getElem?_eq_getElem (by omega), List.getElem?_eq_getElem (by omega)⟩
theorem at_mem_zip {α β : Type} {xs : List α} {ys : List β} {i : Nat} {x : α} {y : β} (h1 : xs[i]? = some x) (h2 : ys[i]? = some y) : (x, y) ∈ xs.zip ys := by
  refine List.mem_of_getElem? (i := i) ?_
  rw [List.getElem?_zip_eq_some]
  exact ⟨h1, h2⟩
theorem Turned.all {rows ways : List (Int × Int × Int)} (t : Turned rows ways) : (((ways.map rowD).zip rows).all fun p => stepB p.2 p.1) = true := by
  rw [List.all_eq_true]
  intro p hp
  obtain ⟨i, h1, h2⟩ := mem_zip_at hp
  rw [List.getElem?_map] at h1
  cases e : ways[i]? with
  | none => rw [e] at h1; cases h1
  | some w =>
    rw [e] at h1
    obtain ⟨d, s⟩ := p
    cases h1
    obtain ⟨r, hr, h⟩ := t.at_ i w e
    dsimp only at h2
    rw [hr] at h2
    have e2 : r = s := Option.some.inj h2
    subst e2
    show stepB r (rowD w) = true
    rw [stepB_row]
    rcases h with rfl | rfl
    · simp
    · simp
theorem map_rowOf (ways : List (Int × Int × Int)) : (ways.map rowD).map rowOf = ways := by
  rw [List.map_map]
  exact List.map_id' ways
theorem one_good {st : TSt} {ways : List (Int × Int × Int)} (t : Turned st.held ways) : oneB st (some (.list (ways.map rowD))) = goodB st.many st.held ways := by
  show (decide ((ways.map rowD).length = st.held.length) && (((ways.map rowD).zip st.held).all fun p => stepB p.2 p.1) && goesB st.many ((ways.map rowD).map rowOf)) = _
  rw [t.all, map_rowOf, decide_eq_true (by rw [List.length_map]; exact t.len)]
  unfold goodB
  rw [decide_eq_true t.norm]
  rfl
theorem one_len {st : TSt} {ds : List PyData} (h : ds.length ≠ st.held.length) : oneB st (some (.list ds)) = false := by
  show (decide (ds.length = st.held.length) && _ && _) = false
  rw [decide_eq_false h, Bool.false_and, Bool.false_and]
theorem one_bad {st : TSt} {ds : List PyData} {i : Nat} {d : PyData} {r : Int × Int × Int} (h1 : ds[i]? = some d) (h2 : st.held[i]? = some r) (h : stepB r d = false) : oneB st (some (.list ds)) = false := by
  show (_ && ((ds.zip st.held).all fun p => stepB p.2 p.1) && _) = false
  have e : ((ds.zip st.held).all fun p => stepB p.2 p.1) = false := by
    rw [List.all_eq_false]
    exact ⟨(d, r), at_mem_zip h1 h2, by rw [h]; simp⟩
  rw [e, Bool.and_false, Bool.false_and]
theorem one_same {st : TSt} {ds : List PyData} {i : Nat} {d : PyData} (hi : ds[i]? = some d) (h : ∀ r, st.held[i]? = some r → stepB r d = false) : oneB st (some (.list ds)) = false := by
  by_cases hl : ds.length = st.held.length
  · have il : i < st.held.length := by rw [← hl]; exact (List.getElem?_eq_some_iff.mp hi).1
    exact one_bad hi (List.getElem?_eq_getElem il) (h _ (List.getElem?_eq_getElem il))
  · exact one_len hl
/-- the things that are none -/
def oddD (ways : List (Int × Int × Int)) : Nat → Option PyData
  | 0 => some .none
  | 1 => some (.int 5)
  | 2 => some (.tuple (ways.map rowD))
  | 3 => none
  | 4 => some (.str "ways")
  | 5 => some (.list [.list (ways.map rowD)])
  | 6 => some (.bool true)
  | _ => some (.list (ways.map rowD ++ [.none]))
theorem one_odd {st : TSt} {ways : List (Int × Int × Int)} (t : Turned st.held ways) (k : Nat) : oneB st (oddD ways k) = false := by
  unfold oddD
  split
  · rfl
  · rfl
  · rfl
  · rfl
  · rfl
  · exact one_same (i := 0) rfl fun r _ => rfl
  · rfl
  · exact one_len (by rw [List.length_append, List.length_map, t.len]; simp)
theorem one_rev {n : Int} {st : TSt} {ways : List (Int × Int × Int)} (R : RowsOk n st.held) (t : Turned st.held ways) (h : 1 < ways.length) : oneB st (some (.list (ways.map rowD).reverse)) = false := by
  have l := t.len
  have h0 : st.held[0]? = some st.held[0] := List.getElem?_eq_getElem (by omega)
  have hw : ways[ways.length - 1]? = some ways[ways.length - 1] := List.getElem?_eq_getElem (by omega)
  generalize ways[ways.length - 1] = w at hw
  refine one_bad (i := 0) (d := rowD w) (r := st.held[0]) ?_ h0 ?_
  · rw [List.getElem?_reverse (by rw [List.length_map]; omega), List.length_map, List.getElem?_map, show ways.length - 1 - 0 = ways.length - 1 by omega, hw]
    rfl
  · obtain ⟨r, hr, h2⟩ := t.at_ _ _ hw
    have hlt : st.held[0].1 < r.1 := by
      have hj : ways.length - 1 < st.held.length := by omega
      rw [List.getElem?_eq_getElem hj] at hr
      cases hr
      exact List.pairwise_iff_getElem.mp R.pw 0 (ways.length - 1) (by omega) hj (by omega)
    have e : w.1 = r.1 := by rcases h2 with rfl | rfl <;> rfl
    rw [stepB_row, decide_eq_false (fun z => by rw [z] at e; omega), decide_eq_false (fun z => by rw [z] at e; have : (turnR st.held[0]).1 = st.held[0].1 := rfl; omega)]
    rfl
theorem step_spoilt {n : Int} {r s : Int × Int × Int} (h : s = r ∨ s = turnR r) (hr : 0 ≤ r.1 ∧ r.1 < 1000 ∧ 0 ≤ r.2.1 ∧ r.2.1 < n ∧ 0 ≤ r.2.2 ∧ r.2.2 < n ∧ r.2.1 ≠ r.2.2) {k : Nat} (hk : k < 10) : stepB r ((spoilD s n).getD k .none) = false := by
  obtain ⟨r0, r1, r2⟩ := r
  have h3 : ∃ a b, s = (r0, a, b) ∧ 0 ≤ a ∧ a < n ∧ 0 ≤ b ∧ b < n ∧ a ≠ b ∧ ((a = r1 ∧ b = r2) ∨ (a = r2 ∧ b = r1)) := by
    dsimp only at hr
    rcases h with rfl | rfl
    · exact ⟨r1, r2, rfl, by omega, by omega, by omega, by omega, by omega, .inl ⟨rfl, rfl⟩⟩
    · exact ⟨r2, r1, rfl, by omega, by omega, by omega, by omega, by omega, .inr ⟨rfl, rfl⟩⟩
  obtain ⟨a, b, rfl, a0, a1, b0, b1, ne, ab⟩ := h3
  have key : ∀ x y z : Int, ¬ (x = r0 ∧ y = r1 ∧ z = r2) → ¬ (x = r0 ∧ y = r2 ∧ z = r1) → stepB (r0, r1, r2) (.tuple [.int x, .int y, .int z]) = false := fun x y z h1 h2 => by
    show (decide ((x, y, z) = (r0, r1, r2)) || decide ((x, y, z) = (r0, r2, r1))) = false
    rw [decide_eq_false (fun e => h1 (by cases e; exact ⟨rfl, rfl, rfl⟩)), decide_eq_false (fun e => h2 (by cases e; exact ⟨rfl, rfl, rfl⟩))]
    rfl
  dsimp only at hr
  match k, hk with
  | 0, _ => exact key _ _ _ (by omega) (by omega)
  | 1, _ => exact key _ _ _ (by omega) (by omega)
  | 2, _ => exact key _ _ _ (by dsimp only; omega) (by dsimp only; omega)
  | 3, _ => rfl
  | 4, _ => rfl
  | 5, _ => rfl
  | 6, _ => rfl
  | 7, _ => rfl
  | 8, _ => rfl
  | 9, _ => exact key _ _ _ (by dsimp only; omega) (by dsimp only; omega)
theorem one_spoilt {n number : Int} {st : TSt} {ways : List (Int × Int × Int)} (R : RowsOk n st.held) (t : Turned st.held ways) (hne : ways ≠ []) : oneB st (some (.list (spoiltD ways n number))) = false := by
  have lpos : 0 < ways.length := by cases ways with | nil => exact absurd rfl hne | cons a r => simp
  have i0 := Int.emod_nonneg (number / 12) (show (ways.length : Int) ≠ 0 by omega)
  have i1 := Int.emod_lt_of_pos (number / 12) (show (0 : Int) < (ways.length : Int) by omega)
  have m0 := Int.emod_nonneg number (show (12 : Int) ≠ 0 by decide)
  unfold spoiltD
  dsimp only
  generalize number / 12 % (ways.length : Int) = i at i0 i1
  have il : i.toNat < ways.length := by omega
  have eg : ways[i.toNat]? = some (ways.getD i.toNat (0, 0, 0)) := by
    rw [List.getD_eq_getElem?_getD, List.getElem?_eq_getElem il]; rfl
  generalize ways.getD i.toNat (0, 0, 0) = s at eg
  obtain ⟨r, hr, h2⟩ := t.at_ _ _ eg
  have l := t.len
  split
  next h =>
    refine one_bad (i := i.toNat) ?_ hr (step_spoilt h2 (R.rng r (List.mem_of_getElem? hr)) (k := (number % 12).toNat) (by omega))
    have lt : ((ways.take i.toNat).map rowD).length = i.toNat := by rw [List.length_map, List.length_take]; omega
    rw [List.append_assoc, List.getElem?_append_right (by omega), lt, Nat.sub_self]
    rfl
  next h =>
    split
    · refine one_len ?_
      rw [List.length_append, List.length_map, List.length_map, List.length_take, List.length_drop]
      omega
    · refine one_len ?_
      rw [List.length_append, List.length_map]
      simp
      omega
theorem one_truths {n : Int} {st : TSt} {ways : List (Int × Int × Int)} (R : RowsOk n st.held) (t : Turned st.held ways) (hne : ways ≠ []) : oneB st (some (.list (ways.map truthsD))) = false := by
  cases ways with
  | nil => exact absurd rfl hne
  | cons w ws =>
    obtain ⟨r, hr, h⟩ := t.at_ 0 w rfl
    refine one_bad (i := 0) (d := truthsD w) (r := r) rfl hr ?_
    cases hh : st.held with
    | nil => rw [hh] at hr; cases hr
    | cons s rs =>
      have := R.hd s rs hh
      rw [hh] at hr
      cases hr
      have e : w.1 = r.1 := by rcases h with rfl | rfl <;> rfl
      have e2 : truthD w.1 = .bool (decide (w.1 = 1)) := by
        unfold truthD
        rw [if_pos]
        rw [e]
        rcases this with h | h <;> rw [h] <;> simp
      unfold truthsD
      rw [e2]
      rfl
theorem one_far {n : Int} {st : TSt} {x y : Int} (R : RowsOk n st.held) : oneB st (some (.list [.tuple [.int 1000, .int x, .int y]])) = false := by
  refine one_same (i := 0) rfl fun r hr => ?_
  have := (R.rng r (List.mem_of_getElem? hr)).2.1
  show stepB r (rowD (1000, x, y)) = false
  rw [stepB_row, decide_eq_false (fun z => by rw [← z] at this; omega), decide_eq_false (fun z => by have e : (1000 : Int) = r.1 := congrArg (·.1) z; omega)]
  rfl

def spLaw (K : PySem.W.Frag) : Sp := fun vs H Q _ => ∃ (a : Addr) (ns : List Int), vs = [.ref a] ∧ SqL K H a (ns.map V.int) ∧ ns.length ≤ 63 ∧ ∀ H', Q (.bl true) H'
theorem walk {l : PySem.W.OpenLaw} {q : Program} {loose : List Str} {XP : (Str → Option Value) → Heap → Prop} {YP : World → Heap → Prop} {d : DefRec} {K : Params → PySem.W.Frag} (hn : l.most = some 63) (hdf : d.params.defaults = [])
    (hY : ∀ (w : World) (h : Heap), YP w h → (K w.params).In h)
    (F : ∀ (w : World) (mg : Str → Option Value) (fa : Addr) (h : Heap), (K w.params).In h → h.Ns mainGlobals mg → mg d.name = some (.ref fa) →
      ∃ fd : FuncData, (∀ (s : Shared) (u : Value), BindsTo s fd ⟨[u], []⟩ [("_law_script", u)]) ∧ ∀ base : Heap, (K w.params).In base → base.Ns mainGlobals mg → FnOk l.prog w (K w.params) mg base CX0 12 fa fd ["_law_script"] (spLaw (K w.params))) :
    PySem.W.WalkO q loose XP YP l.row.toRowW d [] (fun f vs => PySem.call f vs) :=
  L2.walk_of (n := 63) (k := 12) (x := "_law_script") (CX := fun _ => CX0) (sp := fun w => spLaw (K w.params)) hn (by decide) hdf ⟨rfl, by decide, by decide⟩ hY F (fun _ _ a ns hl _ hS => ⟨a, ns, rfl, hS, hl, fun _ => rfl⟩) fun _ _ _ _ _ z => z
/-- the law's own def: its binding, its promise at any ground -/
theorem law_end {K : PySem.W.Frag} {P : Program} {w : World} {mg : Str → Option Value} {fa : Addr} {st : Stmt} (D : Dfn K mg "law" "law" st ["_law_script"]) (hx : mg "law" = some (.ref fa)) (hb : ∀ (kV doc pm : Value) (an : Option Addr) (cdv ct : Value) (s : Shared) (u : Value), BindsTo s (PySem.W.fnOf "law" "law" (defArgs st) (defBody st) (defScope st) .none kV doc pm an cdv ct) ⟨[u], []⟩ [("_law_script", u)])
    (ok : ∀ (base : Heap) (f : Addr) (fd : FuncData), Fun K "law" "law" st f fd → FnOk P w K mg base CX0 12 f fd ["_law_script"] (spLaw K)) :
    ∃ fd : FuncData, (∀ (s : Shared) (u : Value), BindsTo s fd ⟨[u], []⟩ [("_law_script", u)]) ∧ ∀ base : Heap, K.In base → base.Ns mainGlobals mg → FnOk P w K mg base CX0 12 fa fd ["_law_script"] (spLaw K) := by
  obtain ⟨f, fd, F, hg, _⟩ := D.ex
  rw [hx] at hg
  cases hg
  refine ⟨fd, fun s u => ?_, fun base _ _ => ok base fa fd F⟩
  obtain ⟨oc, od, kV, doc, pm, an, cdv, ct, osl, rfl, _, _⟩ := F.ex
  exact hb _ _ _ _ _ _ s u

abbrev s_law : Stmt := top 27
theorem sc_law : FnScope ["_law_script", "_law_seed_here", "_law_many_here", "_law_pairs_here", "_law_town", "_law_rows", "_law_kind", "_law_ways", "_law_k", "_law_street", "_law_one", "_law_other", "_law_is_turned", "_law_kept", "_law_found", "_law_odd"] ["_law_script"] (defScope s_law) := ⟨rfl, rfl, rfl, by decide +kernel, rfl, by decide +kernel, by decide +kernel⟩
/-! things of several kinds at once -/
def EvFs (B F0 : Hp) (ρ : List Sl) (ta : TA) (fs : List Pd) : Prop := ∀ F H σ, Cfg B F0 F H σ ρ → ∀ Q : List V → Hp → Prop, (∀ vs F' H', Gr F H F' H' → AOk fs F' vs → Q vs H') → ta σ H Q
section
variable {K : PySem.W.Frag} {B F0 : Hp} {ρ : List Sl} {te tb : TE} {tr : TA} {f : Pd} {fs : List Pd}
theorem aok_mono : ∀ {fs : List Pd} {F F' : Hp} {vs : List V}, (∀ f ∈ fs, Stab f) → Same F F' → AOk fs F vs → AOk fs F' vs
  | [], _, _, _, _, _, h => h
  | f :: fs, F, F', vs, st, s, ⟨v, ws, e, p, h⟩ => ⟨v, ws, e, st f (List.mem_cons_self ..) _ _ _ s p, aok_mono (fun g hg => st g (List.mem_cons_of_mem _ hg)) s h⟩
theorem efs_nil : EvFs B F0 ρ tNil [] := fun F H σ c Q q => q [] F H (Gr.refl c.i) rfl
theorem efs_cons (st : Stab f) (h : Ev B F0 ρ te f) (hr : EvFs B F0 ρ tr fs) : EvFs B F0 ρ (tCons te tr) (f :: fs) := fun F H σ c Q q =>
  h F H σ c _ fun v F1 H1 g1 p1 => hr F1 H1 σ (c.go g1) _ fun vs F2 H2 g2 p2 => q _ F2 H2 (g1.trans g2) ⟨v, vs, rfl, st _ _ _ g2.f p1, p2⟩
theorem ev_pickF {i : Int} (h : EvFs B F0 ρ tr fs) (hs : ∀ g ∈ fs, Stab g) (hl : fs.length ≤ 100000) (hb : EvH B F0 ρ tb (dat K (.int i))) (h0 : 0 ≤ i) (e : fs[i.toNat]? = some f) : Ev B F0 ρ (tOp (rIxL K) (tLst tr) tb) f := fun F H σ c Q q =>
  h F H σ c _ fun vs F1 H1 g1 p1 => ⟨sz_of (by rw [aok_len p1]; exact hl), fun a ha => by
    have g2 : Gr F H F1 (upd H1 a (.lst vs)) := g1.trans (Gr.new g1.i ha)
    refine hb F1 _ σ (c.go g2) _ fun v F3 H3 g3 p3 => ?_
    cases p3
    obtain ⟨v, e1, e2⟩ := aok_get p1 e
    exact ⟨a, vs, i, v, rfl, rfl, SqL.of (g3.h _ _ upd_same), atI_nn h0 e1, q _ F3 H3 (g2.trans g3) (hs f (List.mem_of_getElem? e) _ _ _ g3.f e2)⟩⟩
theorem ev_dnew : Ev B F0 ρ tDNewK (isDictT K []) := fun F H σ c Q q p hp => by
  obtain ⟨F2, g2, s2, e2⟩ := (Gr.new (o := .dK []) c.i hp).putN (o := .dK []) hp upd_same
  exact q _ F2 _ g2 ⟨p, [], rfl, e2, .nil⟩
/-- a list or dict handed over as it stands -/
theorem evh_one {st : TSt} {C : Addr} {o : Option PyData} {tm : TE} {ta : TE} (ok : TOk st) (hm : EvH B F0 ρ tm (isTown K C st)) (ha : EvH B F0 ρ ta (oD K o)) : Ev B F0 ρ (tCall (spOne K C) [] E0 (tCons tm (tCons ta tNil))) (nwd K B (.bool (oneB st o))) :=
  ev_call (α := TSt × Option PyData) (st, o) ok (ea_cons st_isTown hm (ea_cons st_oD ha ea_nil))
theorem evh_oD {o : Option PyData} {i : Nat} (h : ρ[i]? = some (.fz (oD K o))) : EvH B F0 ρ (tVar i) (oD K o) := evh_fz st_oD h
theorem Ev.oD {d : PyData} (h : Ev B F0 ρ te (nwd K B d)) : EvH B F0 ρ te (Lay.oD K (some d)) := h.hd
end
def oddP (K : PySem.W.Frag) (B : Hp) : Option PyData → Pd
  | some d => nwd K B d
  | none => isDictT K []
theorem oddP_oD {K : PySem.W.Frag} {B : Hp} : ∀ {o : Option PyData} {F : Hp} {v : V}, oddP K B o F v → oD K o F v
  | some _, _, _, h => nw_dp h
  | none, _, _, h => h
theorem st_oddP {K : PySem.W.Frag} {B : Hp} : ∀ {o : Option PyData}, Stab (oddP K B o)
  | some _ => st_nwd
  | none => st_isDictT
def turnB (sd n kind : Int) (p : (Int × Int × Int) × Nat) : Bool :=
  [decide (mixedF sd (100 + (p.2 : Int)) % 2 = 1), decide ((p.1.2.1 + 1) % n = p.1.2.2), decide (p.1.2.1 < p.1.2.2)].getD kind.toNat true
def wayF (sd n kind : Int) (p : (Int × Int × Int) × Nat) : Int × Int × Int := if turnB sd n kind p then p.1 else turnR p.1
def waysF (sd n kind : Int) (rows : List (Int × Int × Int)) : List (Int × Int × Int) := rows.zipIdx.map (wayF sd n kind)
theorem turned {sd n kind : Int} {rows : List (Int × Int × Int)} : Turned rows (waysF sd n kind rows) where
  len := by unfold waysF; rw [List.length_map, List.length_zipIdx]
  at_ := fun i w h => by
    unfold waysF at h
    rw [List.getElem?_map, List.getElem?_zipIdx] at h
    cases e : rows[i]? with
    | none => rw [e] at h; cases h
    | some r =>
      rw [e] at h
      refine ⟨r, rfl, ?_⟩
      have : wayF sd n kind (r, 0 + i) = w := by simpa using h
      rw [← this]
      unfold wayF
      split
      · exact .inl rfl
      · exact .inr rfl
section
variable {P : Program} {w : World} {K : PySem.W.Frag} {mg : Str → Option Value} {base : Heap} {C : Addr}
theorem ok_law (Z : Zs mg) (T : TownTxt K mg C) (G_w_mixed : Ok P w K mg base CX0 1 "_law_mixed" ["_law_cell", "_law_k"] (spMixed K)) (G_w_seed : Ok P w K mg base CX0 2 "_law_seed" ["_law_script"] (spSeed K)) (G_w_many : Ok P w K mg base CX0 2 "_law_many" ["_law_seed_here", "_law_most"] (spMany K)) (G_w_pairs : Ok P w K mg base CX0 2 "_law_pairs" ["_law_script", "_law_seed_here", "_law_many_here", "_law_most"] (spPairs K)) (G_w_made : Ok P w K mg base CX0 4 "_law_made" ["_law_many_here", "_law_pairs_here", "_law_seed_here"] (spMade K C))
    (G_is_one_way : Ok P w K mg base CX0 2 "is_one_way" ["town", "thing"] (spOne K C)) (G_w_good : Ok P w K mg base CX0 2 "_law_good" ["_law_many_here", "_law_rows", "_law_ways"] (spGood K)) (G_w_spoilt : Ok P w K mg base CX0 1 "_law_spoilt" ["_law_ways", "_law_many_here", "_law_number"] (spSpoilt K)) (G_w_truths : Ok P w K mg base CX0 1 "_law_truths" ["_law_ways"] (spTruths K))
    {f : Addr} {fd : FuncData} (F : Fun K "law" "law" s_law f fd) : FnOk P w K mg base CX0 12 f fd ["_law_script"] (spLaw K) := by
  refine F.ok sc_law (fun vs H Q E h => ?_) (fun cdv A outer s H vs Q E hr h => ?_)
  · obtain ⟨a, ns, rfl, _⟩ := h
    rfl
  obtain ⟨a0, ns, rfl, hsq, hns, q⟩ := h
  refine ⟨_, (pss_cons (ps_set (i := 1) sc_law.nd rfl (Or.inl rfl) (ok_call G_w_seed (by exact hr.mono (by decide)) rfl (pa_cons (pv 0) pa_nil)))
    (pss_cons (ps_set (i := 2) sc_law.nd rfl (Or.inl rfl) (ok_call G_w_many (by exact hr.mono (by decide)) rfl (pa_cons (pv 1) (pa_cons pe_int pa_nil))))
    (pss_cons (ps_set (i := 3) sc_law.nd rfl (Or.inl rfl) (ok_call G_w_pairs (by exact hr.mono (by decide)) rfl (pa_cons (pv 0) (pa_cons (pv 1) (pa_cons (pv 2) (pa_cons pe_int pa_nil))))))
    (pss_cons (ps_asg (ok_call G_w_made (by exact hr.mono (by decide)) rfl (pa_cons (pv 2) (pa_cons (pv 3) (pa_cons (pv 1) pa_nil)))) (kpg_tup K 2 rfl (pgs_cons (pg_name (i := 4) sc_law.nd rfl (Or.inl rfl)) (pgs_cons (pg_name (i := 5) sc_law.nd rfl (Or.inl rfl)) pgs_nil))))
    (pss_cons (ps_set (i := 6) sc_law.nd rfl (Or.inl rfl) (pe_op op_mod (ok_call G_w_mixed (by exact hr.mono (by decide)) rfl (pa_cons (pv 1) (pa_cons pe_int pa_nil))) pe_int))
    (pss_cons (ps_set (i := 7) sc_law.nd rfl (Or.inl rfl) (pe_lst pa_nil))
    (pss_cons (ps_for PassesOwn.never rfl (pi_enum rfl Z.enumerate (pa_cons (pv 5) pa_nil)) (kpg_tup K 2 rfl (pgs_cons (pg_name (i := 8) sc_law.nd rfl (Or.inl rfl)) (pgs_cons (kpg_tup K 3 rfl (pgs_cons (pg_name (i := 9) sc_law.nd rfl (Or.inl rfl)) (pgs_cons (pg_name (i := 10) sc_law.nd rfl (Or.inl rfl)) (pgs_cons (pg_name (i := 11) sc_law.nd rfl (Or.inl rfl)) pgs_nil)))) pgs_nil)))
      (pss_cons (ps_set (i := 12) sc_law.nd rfl (Or.inl rfl) (pe_ix (kix_list K) (pe_lst (pa_cons (pe_cmpR op_eq (pe_op op_mod (ok_call G_w_mixed (by exact hr.mono (by decide)) rfl (pa_cons (pv 1) (pa_cons (pe_op op_add pe_int (pv 8)) pa_nil))) pe_int) pe_int (nomark _)) (pa_cons (pe_cmpR op_eq (pe_op op_mod (pe_op op_add (pv 10) pe_int) (pv 2)) (pv 11) (nomark _)) (pa_cons (pe_cmpR op_lt (pv 10) (pv 11) (nomark _)) pa_nil)))) (pv 6) (fun _ _ => rfl)))
    (pss_one (ps_expr (pe_bm PySem.F.plainAttrs_list PySem.F.slot_list_append PySem.F.type_list_append mt_append (pv 7) (pa_cons (pe_ifExp (pt_val (pv 12)) (pe_tup (pa_cons (pv 9) (pa_cons (pv 10) (pa_cons (pv 11) pa_nil)))) (pe_tup (pa_cons (pv 9) (pa_cons (pv 11) (pa_cons (pv 10) pa_nil))))) pa_nil))))))
    (pss_cons (ps_set (i := 13) sc_law.nd rfl (Or.inl rfl) (pe_callTy (kcall_list_of K) (by rfl) Z.list (by decide +kernel) (pa_cons (pv 7) pa_nil)))
    (pss_cons (ps_set (i := 14) sc_law.nd rfl (Or.inl rfl) (ok_call G_is_one_way (by exact hr.mono (by decide)) rfl (pa_cons (pv 4) (pa_cons (pv 7) pa_nil))))
    (pss_cons (ps_if (PW.pt (pw_or (pt_not (pt_val (pe_callB (kcall_isi K) (by rfl) Z.isinstance (by decide +kernel) (pa_cons (pv 14) (pa_cons (pe_bltn (v := .ty "bool") (by rfl) Z.bool (by decide +kernel) rfl) pa_nil))))) (pw_or (pt_cmpR op_ne (pv 14) (ok_call G_w_good (by exact hr.mono (by decide)) rfl (pa_cons (pv 2) (pa_cons (pv 5) (pa_cons (pv 7) pa_nil)))) (nomark _)) (pw_or1 (pt_cmpR (kop_neD K (by exact hr.units)) (pv 7) (pv 13) (nomark _)))))) (pss_one (ps_ret pe_bl)) pss_nil)
    (pss_cons (ps_set (i := 15) sc_law.nd rfl (Or.inl rfl) (pe_ix (kix_list K) (pe_lst (pa_cons pe_non (pa_cons pe_int (pa_cons (pe_callTy (kcall_tuple_of K) (by rfl) Z.tuple (by decide +kernel) (pa_cons (pv 7) pa_nil)) (pa_cons pe_dnewK (pa_cons pe_str (pa_cons (pe_lst (pa_cons (pv 7) pa_nil)) (pa_cons pe_bl (pa_cons (pe_op op_cat (pv 7) (pe_lst (pa_cons pe_non pa_nil))) pa_nil))))))))) (pe_op op_mod (ok_call G_w_mixed (by exact hr.mono (by decide)) rfl (pa_cons (pv 1) (pa_cons pe_int pa_nil))) pe_int) (fun _ _ => rfl)))
    (pss_cons (ps_if (pt_cmpR op_notBl (ok_call G_is_one_way (by exact hr.mono (by decide)) rfl (pa_cons (pv 4) (pa_cons (pv 15) pa_nil))) pe_bl (nomark _)) (pss_one (ps_ret pe_bl)) pss_nil)
    (pss_cons (ps_if (pt_cmpR (kop_eqD K (by exact hr.units)) (pv 7) (pe_lst pa_nil) (nomark _)) (pss_one (ps_ret pe_bl)) pss_nil)
    (pss_cons (ps_if (PW.pt (pw_and (pt_cmpR op_gt (pe_callB (kcall_len_seq K) (by rfl) Z.len PySem.boot_len (pa_cons (pv 7) pa_nil)) pe_int (nomark _)) (pw_and1 (pt_cmpR op_notBl (ok_call G_is_one_way (by exact hr.mono (by decide)) rfl (pa_cons (pv 4) (pa_cons (kpe_revL K (pv 7)) pa_nil))) pe_bl (nomark _))))) (pss_one (ps_ret pe_bl)) pss_nil)
    (pss_cons (ps_for PassesOwn.never rfl (pi_range1 rfl Z.range (pa_cons pe_int pa_nil)) (pg_name (i := 8) sc_law.nd rfl (Or.inl rfl))
      (pss_one (ps_if (pt_cmpR op_notBl (ok_call G_is_one_way (by exact hr.mono (by decide)) rfl (pa_cons (pv 4) (pa_cons (ok_call G_w_spoilt (by exact hr.mono (by decide)) rfl (pa_cons (pv 7) (pa_cons (pv 2) (pa_cons (ok_call G_w_mixed (by exact hr.mono (by decide)) rfl (pa_cons (pv 1) (pa_cons (pe_op op_add pe_int (pv 8)) pa_nil))) pa_nil)))) pa_nil))) pe_bl (nomark _)) (pss_one (ps_ret pe_bl)) pss_nil)))
    (pss_one (ps_ret (pe_and (pe_cmpR op_isBl (ok_call G_is_one_way (by exact hr.mono (by decide)) rfl (pa_cons (pv 4) (pa_cons (ok_call G_w_truths (by exact hr.mono (by decide)) rfl (pa_cons (pv 7) pa_nil)) pa_nil))) pe_bl (nomark _)) (pe_one (pe_cmpR op_isBl (ok_call G_is_one_way (by exact hr.mono (by decide)) rfl (pa_cons (pv 4) (pa_cons (pe_lst (pa_cons (pe_op (kop_catA K) (pe_tup (pa_cons pe_int pa_nil)) (pe_slice (ksl_tup K) (pe_ix (kix_list K) (pv 7) pe_int (fun _ _ => rfl)) (po_some pe_int) po_none)) pa_nil)) pa_nil))) pe_bl (nomark _))))))))))))))))))))), ?_⟩
  refine at_enter (fs := [dat K (intsD ns)]) ⟨_, _, rfl, .lst hsq (nwAll_dp (nwAll_ints (B := e0) ns)), rfl⟩ (stab1 st_dat) (by simp) ?_
  walk_at "go"
  generalize hsd : seedF ns = sd
  have hn1 : 1 ≤ manyF sd 16 ∧ manyF sd 16 ≤ 16 := by
    unfold manyF
    have := manyL_rng (n := (mixedF sd 60 % 10).toNat)
    omega
  generalize hnn : manyF sd 16 = n at hn1
  have pk := pairs_ok (script := ns) (sd := sd) (n := n) (most := 60) hn1.1 (by decide) (by decide)
  generalize hpp : pairsF ns sd n 60 = pairs at pk
  have R := made_rows (sd := sd) hn1.1 hn1.2 pk
  have I := made_held (sd := sd) hn1.1 hn1.2 pk
  have ok : TOk (madeF n pairs sd) := I.ok
  have many : (madeF n pairs sd).many = n := I.many
  have k0 := Int.emod_nonneg (mixedF sd 3) (show (3 : Int) ≠ 0 by decide)
  have k1 := Int.emod_lt_of_pos (mixedF sd 3) (show (0 : Int) < 3 by decide)
  refine' q_set K (d := .int sd) ?a1 (q_set K (d := .int n) ?a2 (q_set K (d := .list (pairs.map pairD)) ?a3 (q_made (i := 4) (j := 5) (by decide) ?a4 hn1.1 hn1.2 pk (q_set K (d := .int (mixedF sd 3 % 3)) ?a5 (q_setM K (ds := []) ?a6 ?a7)))))
  case a1 => rw [← hsd]; walk_at "ev"; trivial
  case a2 => rw [← hnn]; walk_at "ev"; trivial
  case a3 =>
    rw [← hpp]
    refine ev_call (α := List Int × Int × Int × Int) (ns, sd, n, 60) ⟨hns, hn1.1, hn1.2, (by decide : (0 : Int) ≤ 60), (by decide : (60 : Int) ≤ 60)⟩ ?_
    walk_at "ev"
  case a4 => walk_at "ev"
  case a5 => walk_at "ev" <;> walk_at "num"
  case a6 => exact evm_lst eas_nil (by simp)
  case a7 =>
  generalize hst : madeF n pairs sd = st at R ok many ⊢
  generalize hkd : mixedF sd 3 % 3 = kind at k0 k1
  generalize hrows : st.held = rows at R ⊢
  have lr := R.len
  have tn := turned (sd := sd) (n := n) (kind := kind) (rows := rows)
  have tst : Turned st.held (waysF sd n kind rows) := by rw [hrows]; exact tn
  have Rst : RowsOk n st.held := by rw [hrows]; exact R
  refine' at_fix (K := K) 5 rfl (q_for (xs := rows.zipIdx) (e := fun p => .tuple [.int (p.2 : Int), rowD p.1]) (EvJ.i (evj_enumX (K := K) ?b1))
    (fun pre ρ' => ∃ s8 s9 s10 s11 s12, ρ' = [sa K (intsD ns), sn K H (.int sd), sn K H (.int n), sn K H (.list (pairs.map pairD)), mt K C st, sn K H (.list (rows.map rowD)), sn K H (.int kind), ml K H ((pre.map (wayF sd n kind)).map rowD), s8, s9, s10, s11, s12, Sl.no, Sl.no, Sl.no]) ?b2 ?b3 ?b4)
  case b1 => exact ev_var rfl
  case b2 => exact ⟨_, _, _, _, _, rfl⟩
  case b3 =>
    rintro F1 pre ⟨⟨s, a, b⟩, k⟩ post ρ' hx ⟨s8, s9, s10, s11, s12, rfl⟩
    obtain ⟨k1', k2, k3⟩ := zip_at hx
    have hr := R.rng _ (List.mem_of_getElem? k3)
    dsimp only at hr
    refine' ⟨_, _, (by walk_at "bd"), ?_⟩
    refine' q_set K (d := .bool (turnB sd n kind ((s, a, b), k))) ?c1 (at_drop (evx_append (i := 7) (d := rowD (wayF sd n kind ((s, a, b), k))) rfl ?c2 ?c3) (at_lpD ?c4))
    case c1 =>
      refine ev_pick (ds := [.bool (decide (mixedF sd (100 + (k : Int)) % 2 = 1)), .bool (decide ((a + 1) % n = b)), .bool (decide (a < b))]) (eas_cons ?_ (eas_cons ?_ (eas_cons ?_ eas_nil))) (by simp) (evh_var rfl rd_sn) ?_
      · walk_at "ev" <;> walk_at "num"
      · walk_at "ev" <;> walk_at "num"
      · walk_at "ev"
      · have e : atI ([decide (mixedF sd (100 + (k : Int)) % 2 = 1), decide ((a + 1) % n = b), decide (a < b)].map PyData.bool) kind = some (.bool (turnB sd n kind ((s, a, b), k))) := by
          refine atI_map _ (atI_nn k0 ?_)
          unfold turnB
          rw [List.getD_eq_getElem?_getD, List.getElem?_eq_getElem (by show kind.toNat < 3; omega)]
          rfl
        exact e
    case c2 =>
      refine ev_if (c := turnB sd n kind ((s, a, b), k)) (et_B (K := K) (evh_var rfl rd_sn)) (fun h => ?_) (fun h => ?_)
      · have e : wayF sd n kind ((s, a, b), k) = (s, a, b) := by unfold wayF; rw [if_pos h]
        rw [e]
        walk_at "ev"
      · have e : wayF sd n kind ((s, a, b), k) = (s, b, a) := by unfold wayF; rw [if_neg (by rw [h]; simp)]; rfl
        rw [e]
        walk_at "ev"
    case c3 =>
      rw [List.length_map, List.length_map]
      omega
    case c4 =>
      refine ⟨sn K H (.int (k : Int)), sn K H (.int s), sn K H (.int a), sn K H (.int b), sn K H (.bool (turnB sd n kind ((s, a, b), k))), ?_⟩
      rw [List.map_append, List.map_append]
      rfl
  case b4 =>
    rintro ρ' ⟨s8, s9, s10, s11, s12, rfl⟩
    have ew : (rows.zipIdx).map (wayF sd n kind) = waysF sd n kind rows := rfl
    rw [ew]
    generalize waysF sd n kind rows = ways at tn tst
    have lw : ways.length ≤ 60 := by rw [tn.len]; exact lr
    have fr : flatDs (ways.map rowD) = true := flatDs_map (fun _ => rfl) ways
    refine at_fix (K := K) 7 rfl ?_
    refine' q_setM K (ds := ways.map rowD) (evm_listL ?a1 fr) (q_set K (d := .bool (goodB n rows ways)) ?a2 (q_when (c := false) ?a3 (fun z => by cases z) fun _ => ?a4))
    case a1 => exact evh_var rfl rd_sn
    case a2 =>
      rw [← many, ← hrows, ← one_good tst]
      exact evh_one ok (evh_mt rfl) (Ev.oD (ev_var rfl))
    case a3 =>
      have h1 : isaB "bool" (.bool (goodB n rows ways)) = true := by simp [isaB, tyD]
      refine et_is (et_or (c := false) (et_not (et_B (K := K) (Ev.hd (ev_isa (n := "bool") (d := .bool (goodB n rows ways)) ?e1 (by decide))))) fun _ => ?e2) (by rw [h1]; rfl)
      case e1 => exact evh_var rfl rd_sn
      case e2 =>
        refine et_is (et_or (c := false) (et_test (K := K) (Ev.hd (ev_neB (a := goodB n rows ways) (b := goodB n rows ways) ?f1 (Ev.hd (ev_call (α := Int × List (Int × Int × Int) × List (Int × Int × Int)) (n, rows, ways) ⟨by dsimp only; omega, by dsimp only; omega⟩ ?f2))))) fun _ => ?f3) (by simp)
        case f1 => exact evh_var rfl rd_sn
        case f2 => walk_at "ev"
        case f3 =>
          exact et_is (et_test (K := K) (Ev.hd (ev_neD (d := .list (ways.map rowD)) (e := .list (ways.map rowD)) (evh_var rfl rd_sn) (evh_var rfl rd_ml) (ok60_rows.shaped (by decide)) (ok60_rows.shaped (by decide))))) (by rw [eqv_same ok60_rows]; rfl)
    case a4 =>
    have o0 := Int.emod_nonneg (mixedF sd 4) (show (8 : Int) ≠ 0 by decide)
    have o1 := Int.emod_lt_of_pos (mixedF sd 4) (show (0 : Int) < 8 by decide)
    refine' q_setF (f := oddP K H (oddD ways (mixedF sd 4 % 8).toNat)) st_oddP ?b1 (q_when (c := false) ?b2 (fun z => by cases z) fun _ => ?b3)
    case b1 =>
      refine ev_pickF (K := K) (i := mixedF sd 4 % 8) (fs := [nwd K H .none, nwd K H (.int 5), nwd K H (.tuple (ways.map rowD)), isDictT K [], nwd K H (.str "ways"), nwd K H (.list [.list (ways.map rowD)]), nwd K H (.bool true), nwd K H (.list (ways.map rowD ++ [.none]))])
        (efs_cons st_nwd ev_non (efs_cons st_nwd ev_int (efs_cons st_nwd (ev_tupleL (ev_var rfl)) (efs_cons st_isDictT ev_dnew (efs_cons st_nwd ev_str (efs_cons st_nwd (EvM.nw (evm_lst (eas_cons (ev_var rfl) eas_nil) (by simp))) (efs_cons st_nwd ev_bl (efs_cons st_nwd (EvM.nw (evm_catN (Ev.n (ev_var rfl)) (EvM.n (evm_lst (eas_cons ev_non eas_nil) (by simp))) (by rw [List.length_map]; simp; omega))) efs_nil)))))))) (stabC st_nwd (stabC st_nwd (stabC st_nwd (stabC st_isDictT (stabC st_nwd (stabC st_nwd (stabC st_nwd (stab1 st_nwd)))))))) (by simp) ?c1 o0 ?c2
      case c1 => walk_at "ev" <;> walk_at "num"
      case c2 =>
        have key : ∀ k : Nat, k < 8 → [nwd K H .none, nwd K H (.int 5), nwd K H (.tuple (ways.map rowD)), isDictT K [], nwd K H (.str "ways"), nwd K H (.list [.list (ways.map rowD)]), nwd K H (.bool true), nwd K H (.list (ways.map rowD ++ [.none]))][k]? = some (oddP K H (oddD ways k)) := fun k hk =>
          match k, hk with
          | 0, _ => rfl
          | 1, _ => rfl
          | 2, _ => rfl
          | 3, _ => rfl
          | 4, _ => rfl
          | 5, _ => rfl
          | 6, _ => rfl
          | 7, _ => rfl
        exact key _ (by omega)
    case b2 =>
      refine et_is (et_test (K := K) (Ev.hd (ev_notB (Ev.hd (evh_one (o := oddD ways (mixedF sd 4 % 8).toNat) ok (evh_mt rfl) ?c1)) (Ev.hd ev_bl)))) (by rw [one_odd tst]; rfl)
      case c1 => exact fun F H σ c Q q => (evh_fz (i := 15) (f := oddP K _ (oddD ways (mixedF sd 4 % 8).toNat)) st_oddP rfl) F H σ c Q fun v F' H' g p => q v F' H' g (oddP_oD p)
    case b3 =>
    refine' q_when (c := (ways.map rowD).isEmpty) ?d1 (fun _ => at_ret (K := K) (d := .bool true) ev_bl fun v H' s n => by cases n; exact q H') fun hne => ?d2
    case d1 => walk_at "ev"
    case d2 =>
    have hne2 : ways ≠ [] := fun z => by rw [z] at hne; cases hne
    refine' q_when (c := false) ?e1 (fun z => by cases z) fun _ => ?e2
    case e1 =>
      refine et_is (et_and (a := decide ((1 : Int) < ((ways.map rowD).length : Int))) (c := false) (et_test (K := K) (Ev.hd (ev_ib (Ev.hd (ev_lenL (evh_var (d := .list (ways.map rowD)) rfl rd_sn))) (Ev.hd ev_int) ?f1))) fun h => ?f2) (by simp)
      case f1 => rfl
      case f2 =>
        have h2 : 1 < ways.length := by rw [List.length_map] at h; have : (1 : Int) < (ways.length : Int) := by simpa using h
                                        omega
        refine et_is (et_test (K := K) (Ev.hd (ev_notB (Ev.hd (evh_one (o := some (.list (ways.map rowD).reverse)) ok (evh_mt rfl) (Ev.oD (EvM.nw (evm_rev (evh_var rfl rd_sn) fr))))) (Ev.hd ev_bl)))) (by rw [one_rev Rst tst h2]; rfl)
    case e2 =>
    refine' q_for (xs := rangeI 6) (e := PyData.int) (q := nwd K H) (EvJ.i ?f1)
      (fun pre ρ' => ∃ s8, ρ' = [sa K (intsD ns), sn K H (.int sd), sn K H (.int n), sn K H (.list (pairs.map pairD)), mt K C st, sn K H (.list (rows.map rowD)), sn K H (.int kind), sn K H (.list (ways.map rowD)), s8, s9, s10, s11, s12, ml K H (ways.map rowD), sn K H (.bool (goodB n rows ways)), Sl.fz (oddP K H (oddD ways (mixedF sd 4 % 8).toNat))]) ?f2 ?f3 ?f4
    case f1 =>
      rw [← rangeD_eq]
      exact evj_range1 (ea_cons st_dat (Ev.hd ev_int) ea_nil) (by decide)
    case f2 => exact ⟨_, rfl⟩
    case f3 =>
      rintro F1 pre k post ρ' hx ⟨s8, rfl⟩
      have hk : 0 ≤ k ∧ k < 6 := mem_rangeI.mp (by rw [hx]; simp)
      refine' ⟨_, _, (by walk_at "bd"), ?_⟩
      refine' at_when (c := false) ?g1 (fun z => by cases z) (fun _ => at_nxt (at_lp ⟨_, rfl⟩))
      case g1 =>
        refine et_is (et_test (K := K) (Ev.hd (ev_notB (Ev.hd (evh_one (o := some (.list (spoiltD ways n (mixedF sd (200 + k))))) ok (evh_mt rfl) (Ev.oD (ev_call (α := List (Int × Int × Int) × Int × Int) (ways, n, mixedF sd (200 + k)) ?h1 ?h2)))) (Ev.hd ev_bl)))) (by rw [one_spoilt Rst tst hne2]; rfl)
        case h1 =>
          refine ⟨hne2, by dsimp only; omega, fun w hw => ?_, mixedF_pos _ _⟩
          obtain ⟨i, hi⟩ := List.mem_iff_getElem?.mp hw
          obtain ⟨r, hr, h⟩ := tst.at_ i w hi
          have hb := Rst.rng r (List.mem_of_getElem? hr)
          have e : w.1 = r.1 := by rcases h with rfl | rfl <;> rfl
          omega
        case h2 =>
          refine ea_cons st_nwd (evh_e0 rfl) (ea_cons st_dat (evh_var rfl rd_sn) (ea_cons st_dat (Ev.hd ?_) ea_nil))
          walk_at "ev" <;> walk_at "num"
    case f4 =>
      rintro ρ' ⟨s8, rfl⟩
      refine at_ret (K := K) (d := .bool (true && true)) (ev_andV (K := K) (a := true) (c := true) ?g1 fun _ => ?g2) fun v H' s n => by cases n; exact q H'
      case g1 =>
        have hg : decide (oneB st (some (.list (ways.map truthsD))) = false) = true := by rw [one_truths Rst tst hne2]; rfl
        rw [← hg]
        exact Ev.hd (ev_isB (Ev.hd (evh_one (o := some (.list (ways.map truthsD))) ok (evh_mt rfl) (Ev.oD (ev_call (α := List (Int × Int × Int)) ways (by omega) (ea_cons st_dat (evh_var rfl rd_sn) ea_nil))))) (Ev.hd ev_bl))
      case g2 =>
        cases ways with
        | nil => exact absurd rfl hne2
        | cons w ws =>
          obtain ⟨x, y, z⟩ := w
          have hb : oneB st (some (.list [.tuple [.int 1000, .int y, .int z]])) = false := one_far Rst
          have hg : decide (oneB st (some (.list [.tuple [.int 1000, .int y, .int z]])) = false) = true := by rw [hb]; rfl
          rw [← hg]
          refine ev_isB (Ev.hd (evh_one (o := some (.list [.tuple [.int 1000, .int y, .int z]])) ok (evh_mt rfl) (Ev.oD (EvM.nw (evm_lst (eas_cons ?_ eas_nil) (by simp)))))) (Ev.hd ev_bl)
          refine ev_catT (ds := [.int 1000]) (es := [.int y, .int z]) (ev_tup (eas_cons ev_int eas_nil) (by simp)) ?_ (by simp) (by simp) (by simp)
          refine ev_sliceT (ds := [.int x, .int y, .int z]) (lo := some 1) (hi := none) (evh_ixL (i := 0) (evh_var (d := .list (((x, y, z) :: ws).map rowD)) rfl rd_sn) (Ev.hd ev_int) (atI_map rowD (x := (x, y, z)) (atI_nn (i := 0) (Int.le_refl 0) rfl))) rfl (eo_some (Ev.hd ev_int)) eo_none (fun z => ?_)
          exact absurd z.1 (show ¬ (1 : Nat) = 0 by decide)
end

end Lay
open PySem PySem.W PyProof.Rows
set_option maxRecDepth 100000 in
set_option maxHeartbeats 0 in
theorem PySem.Challenge.cw_onewaytown_k06_ways_looked_at_holds : PySem.Challenge.rw_onewaytown_k06_ways_looked_at.Holds := by
  w_on; o_law; k_head; (case hw => w_witness2)
  k_fill
  refine Lay.walk (l := PySem.Challenge.rw_onewaytown_k06_ways_looked_at) rfl rfl (fun w h Y => PySem.W.kIn_of Y) ?F
  case F =>
    intro w mg fa h KX G hmg
    refine' Lay.with_cls (x := "Town") KX G ?aCTown ?rTown
    (case aCTown => k_is)
    intro gTown
    refine' Lay.with_cls (x := "BadCount") KX G ?aCBadCount ?rBadCount
    (case aCBadCount => k_is)
    intro gBadCount
    refine' Lay.with_cls (x := "BadPlace") KX G ?aCBadPlace ?rBadPlace
    (case aCBadPlace => k_is)
    intro gBadPlace
    refine' Lay.with_cls (x := "BadStreet") KX G ?aCBadStreet ?rBadStreet
    (case aCBadStreet => k_is)
    intro gBadStreet
    refine' Lay.with_cls (x := "TooMany") KX G ?aCTooMany ?rTooMany
    (case aCTooMany => k_is)
    intro gTooMany
    refine' Lay.cps (⟨Lay.none_mk KX G ?z0_Z, Lay.none_mk KX G ?z1_Z, Lay.none_mk KX G ?z2_Z, Lay.none_mk KX G ?z3_Z, Lay.none_mk KX G ?z4_Z, Lay.none_mk KX G ?z5_Z, Lay.none_mk KX G ?z6_Z, Lay.none_mk KX G ?z7_Z, Lay.none_mk KX G ?z8_Z, Lay.none_mk KX G ?z9_Z, Lay.none_mk KX G ?z10_Z, Lay.none_mk KX G ?z11_Z, Lay.none_mk KX G ?z12_Z, Lay.none_mk KX G ?z13_Z, Lay.none_mk KX G ?z14_Z, Lay.none_mk KX G ?z15_Z, Lay.none_mk KX G ?z16_Z⟩ : Lay.Zs mg) ?r_Z
    (case z0_Z => k_is); (case z1_Z => k_is); (case z2_Z => k_is); (case z3_Z => k_is); (case z4_Z => k_is); (case z5_Z => k_is); (case z6_Z => k_is); (case z7_Z => k_is); (case z8_Z => k_is); (case z9_Z => k_is); (case z10_Z => k_is); (case z11_Z => k_is); (case z12_Z => k_is); (case z13_Z => k_is); (case z14_Z => k_is); (case z15_Z => k_is); (case z16_Z => k_is)
    intro Z
    refine' Lay.cps (Lay.cls_mk KX gTown ?pg_T ?hd_T ?po_T ?sa_T) ?r_T
    (case pg_T => k_is); (case hd_T => k_is); (case po_T => k_is); (case sa_T => k_is)
    intro Tcl
    refine' Lay.cps (Lay.noattr_mk (m := "many") KX gTown ?aM_T) ?rM_T
    (case aM_T => k_is)
    intro TnM
    refine' Lay.cps (Lay.noattr_mk (m := "built") KX gTown ?aB_T) ?rB_T
    (case aB_T => k_is)
    intro TnB
    refine' Lay.cps (Lay.noattr_mk (m := "held") KX gTown ?aH_T) ?rH_T
    (case aH_T => k_is)
    intro TnH
    refine' Lay.cps (Lay.int_mk (x := "MOST_PLACES") (n := 16) KX G ?aP_T) ?rP_T
    (case aP_T => k_is)
    intro TcP
    refine' Lay.cps (Lay.int_mk (x := "MOST_STREETS") (n := 60) KX G ?aS_T) ?rS_T
    (case aS_T => k_is)
    intro TcS
    refine' Lay.cps (Lay.TownTxt.mk Tcl TnM TnB TnH gTown TcP TcS) ?rT_T
    intro T
    refine' Lay.cps (Lay.xcls_mk KX gBadCount ?x_XBadCount ?k_XBadCount ?b_XBadCount ?t_XBadCount) ?r_XBadCount
    (case x_XBadCount => k_exc); (case k_XBadCount => k_is); (case b_XBadCount => k_is); (case t_XBadCount => k_is)
    intro X_BadCount
    refine' Lay.cps (Lay.xcls_mk KX gBadPlace ?x_XBadPlace ?k_XBadPlace ?b_XBadPlace ?t_XBadPlace) ?r_XBadPlace
    (case x_XBadPlace => k_exc); (case k_XBadPlace => k_is); (case b_XBadPlace => k_is); (case t_XBadPlace => k_is)
    intro X_BadPlace
    refine' Lay.cps (Lay.xcls_mk KX gBadStreet ?x_XBadStreet ?k_XBadStreet ?b_XBadStreet ?t_XBadStreet) ?r_XBadStreet
    (case x_XBadStreet => k_exc); (case k_XBadStreet => k_is); (case b_XBadStreet => k_is); (case t_XBadStreet => k_is)
    intro X_BadStreet
    refine' Lay.cps (Lay.xcls_mk KX gTooMany ?x_XTooMany ?k_XTooMany ?b_XTooMany ?t_XTooMany) ?r_XTooMany
    (case x_XTooMany => k_exc); (case k_XTooMany => k_is); (case b_XTooMany => k_is); (case t_XTooMany => k_is)
    intro X_TooMany
    refine' Lay.cps (Lay.dfn_mk (x := "law") (qual := "law") (st := Lay.s_law) (ps := ["_law_script"]) KX G ?a_Dlaw ?l_Dlaw ?c_Dlaw ?k_Dlaw (fun _ _ _ _ _ _ us hl => match us, hl with | [_], _ => rfl)) ?r_Dlaw
    (case a_Dlaw => k_is); (case l_Dlaw => k_is); (case c_Dlaw => k_is); (case k_Dlaw => k_is)
    intro D_law
    refine' Lay.cps (Lay.dfn_mk (x := "_law_mixed") (qual := "_law_mixed") (st := Lay.s_w_mixed) (ps := ["_law_cell", "_law_k"]) KX G ?a_D_law_mixed ?l_D_law_mixed ?c_D_law_mixed ?k_D_law_mixed (fun _ _ _ _ _ _ us hl => match us, hl with | [_, _], _ => rfl)) ?r_D_law_mixed
    (case a_D_law_mixed => k_is); (case l_D_law_mixed => k_is); (case c_D_law_mixed => k_is); (case k_D_law_mixed => k_is)
    intro D_w_mixed
    refine' Lay.cps (Lay.dfn_mk (x := "_law_seed") (qual := "_law_seed") (st := Lay.s_w_seed) (ps := ["_law_script"]) KX G ?a_D_law_seed ?l_D_law_seed ?c_D_law_seed ?k_D_law_seed (fun _ _ _ _ _ _ us hl => match us, hl with | [_], _ => rfl)) ?r_D_law_seed
    (case a_D_law_seed => k_is); (case l_D_law_seed => k_is); (case c_D_law_seed => k_is); (case k_D_law_seed => k_is)
    intro D_w_seed
    refine' Lay.cps (Lay.dfn_mk (x := "_law_many") (qual := "_law_many") (st := Lay.s_w_many) (ps := ["_law_seed_here", "_law_most"]) KX G ?a_D_law_many ?l_D_law_many ?c_D_law_many ?k_D_law_many (fun _ _ _ _ _ _ us hl => match us, hl with | [_, _], _ => rfl)) ?r_D_law_many
    (case a_D_law_many => k_is); (case l_D_law_many => k_is); (case c_D_law_many => k_is); (case k_D_law_many => k_is)
    intro D_w_many
    refine' Lay.cps (Lay.dfn_mk (x := "_law_ends") (qual := "_law_ends") (st := Lay.s_w_ends) (ps := ["_law_many_here", "_law_way", "_law_k", "_law_number"]) KX G ?a_D_law_ends ?l_D_law_ends ?c_D_law_ends ?k_D_law_ends (fun _ _ _ _ _ _ us hl => match us, hl with | [_, _, _, _], _ => rfl)) ?r_D_law_ends
    (case a_D_law_ends => k_is); (case l_D_law_ends => k_is); (case c_D_law_ends => k_is); (case k_D_law_ends => k_is)
    intro D_w_ends
    refine' Lay.cps (Lay.dfn_mk (x := "_law_pairs") (qual := "_law_pairs") (st := Lay.s_w_pairs) (ps := ["_law_script", "_law_seed_here", "_law_many_here", "_law_most"]) KX G ?a_D_law_pairs ?l_D_law_pairs ?c_D_law_pairs ?k_D_law_pairs (fun _ _ _ _ _ _ us hl => match us, hl with | [_, _, _, _], _ => rfl)) ?r_D_law_pairs
    (case a_D_law_pairs => k_is); (case l_D_law_pairs => k_is); (case c_D_law_pairs => k_is); (case k_D_law_pairs => k_is)
    intro D_w_pairs
    refine' Lay.cps (Lay.dfn_mk (x := "_law_made") (qual := "_law_made") (st := Lay.s_w_made) (ps := ["_law_many_here", "_law_pairs_here", "_law_seed_here"]) KX G ?a_D_law_made ?l_D_law_made ?c_D_law_made ?k_D_law_made (fun _ _ _ _ _ _ us hl => match us, hl with | [_, _, _], _ => rfl)) ?r_D_law_made
    (case a_D_law_made => k_is); (case l_D_law_made => k_is); (case c_D_law_made => k_is); (case k_D_law_made => k_is)
    intro D_w_made
    refine' Lay.cps (Lay.dfn_mk (x := "is_among") (qual := "is_among") (st := Lay.s_is_among) (ps := ["thing", "least", "most"]) KX G ?a_Dis_among ?l_Dis_among ?c_Dis_among ?k_Dis_among (fun _ _ _ _ _ _ us hl => match us, hl with | [_, _, _], _ => rfl)) ?r_Dis_among
    (case a_Dis_among => k_is); (case l_Dis_among => k_is); (case c_Dis_among => k_is); (case k_Dis_among => k_is)
    intro D_is_among
    refine' Lay.cps (Lay.mfn_mk (m := "places") (qual := "Town.places") (st := Lay.s_Town_places) (ps := ["self"]) KX gTown ?a_DTown_places ?i_DTown_places ?l_DTown_places ?c_DTown_places ?k_DTown_places (fun _ _ _ _ _ _ us hl => match us, hl with | [_], _ => rfl)) ?r_DTown_places
    (case a_DTown_places => k_is); (case i_DTown_places => k_is); (case l_DTown_places => k_is); (case c_DTown_places => k_is); (case k_DTown_places => k_is)
    intro D_Town_places
    refine' Lay.cps (Lay.mfn_mk (m := "streets") (qual := "Town.streets") (st := Lay.s_Town_streets) (ps := ["self"]) KX gTown ?a_DTown_streets ?i_DTown_streets ?l_DTown_streets ?c_DTown_streets ?k_DTown_streets (fun _ _ _ _ _ _ us hl => match us, hl with | [_], _ => rfl)) ?r_DTown_streets
    (case a_DTown_streets => k_is); (case i_DTown_streets => k_is); (case l_DTown_streets => k_is); (case c_DTown_streets => k_is); (case k_DTown_streets => k_is)
    intro D_Town_streets
    refine' Lay.cps (Lay.mfn_mk (m := "need_place") (qual := "Town.need_place") (st := Lay.s_Town_need_place) (ps := ["self", "thing"]) KX gTown ?a_DTown_need_place ?i_DTown_need_place ?l_DTown_need_place ?c_DTown_need_place ?k_DTown_need_place (fun _ _ _ _ _ _ us hl => match us, hl with | [_, _], _ => rfl)) ?r_DTown_need_place
    (case a_DTown_need_place => k_is); (case i_DTown_need_place => k_is); (case l_DTown_need_place => k_is); (case c_DTown_need_place => k_is); (case k_DTown_need_place => k_is)
    intro D_Town_need_place
    refine' Lay.cps (Lay.mfn_mk (m := "build") (qual := "Town.build") (st := Lay.s_Town_build) (ps := ["self", "one", "other"]) KX gTown ?a_DTown_build ?i_DTown_build ?l_DTown_build ?c_DTown_build ?k_DTown_build (fun _ _ _ _ _ _ us hl => match us, hl with | [_, _, _], _ => rfl)) ?r_DTown_build
    (case a_DTown_build => k_is); (case i_DTown_build => k_is); (case l_DTown_build => k_is); (case c_DTown_build => k_is); (case k_DTown_build => k_is)
    intro D_Town_build
    refine' Lay.cps (Lay.mfn_mk (m := "dig") (qual := "Town.dig") (st := Lay.s_Town_dig) (ps := ["self", "street"]) KX gTown ?a_DTown_dig ?i_DTown_dig ?l_DTown_dig ?c_DTown_dig ?k_DTown_dig (fun _ _ _ _ _ _ us hl => match us, hl with | [_, _], _ => rfl)) ?r_DTown_dig
    (case a_DTown_dig => k_is); (case i_DTown_dig => k_is); (case l_DTown_dig => k_is); (case c_DTown_dig => k_is); (case k_DTown_dig => k_is)
    intro D_Town_dig
    refine' Lay.cps (Lay.ifn_mk (qual := "Town.__init__") (st := Lay.s_Town___init) (ps := ["self", "many"]) KX gTown ?mk_DTown___init__ ?kc_DTown___init__ ?a_DTown___init__ ?i_DTown___init__ ?l_DTown___init__ ?c_DTown___init__ ?k_DTown___init__ (fun _ _ _ _ _ _ us hl => match us, hl with | [_, _], _ => rfl)) ?r_DTown___init__
    (case mk_DTown___init__ => k_is); (case kc_DTown___init__ => k_is); (case a_DTown___init__ => k_is); (case i_DTown___init__ => k_is); (case l_DTown___init__ => k_is); (case c_DTown___init__ => k_is); (case k_DTown___init__ => k_is)
    intro I_Town___init
    refine' Lay.cps (Lay.dfn_mk (x := "is_step") (qual := "is_step") (st := Lay.s_is_step) (ps := ["thing", "street"]) KX G ?a_Dis_step ?l_Dis_step ?c_Dis_step ?k_Dis_step (fun _ _ _ _ _ _ us hl => match us, hl with | [_, _], _ => rfl)) ?r_Dis_step
    (case a_Dis_step => k_is); (case l_Dis_step => k_is); (case c_Dis_step => k_is); (case k_Dis_step => k_is)
    intro D_is_step
    refine' Lay.cps (Lay.dfn_mk (x := "led_to") (qual := "led_to") (st := Lay.s_led_to) (ps := ["ways", "place"]) KX G ?a_Dled_to ?l_Dled_to ?c_Dled_to ?k_Dled_to (fun _ _ _ _ _ _ us hl => match us, hl with | [_, _], _ => rfl)) ?r_Dled_to
    (case a_Dled_to => k_is); (case l_Dled_to => k_is); (case c_Dled_to => k_is); (case k_Dled_to => k_is)
    intro D_led_to
    refine' Lay.cps (Lay.dfn_mk (x := "is_one_way") (qual := "is_one_way") (st := Lay.s_is_one_way) (ps := ["town", "thing"]) KX G ?a_Dis_one_way ?l_Dis_one_way ?c_Dis_one_way ?k_Dis_one_way (fun _ _ _ _ _ _ us hl => match us, hl with | [_, _], _ => rfl)) ?r_Dis_one_way
    (case a_Dis_one_way => k_is); (case l_Dis_one_way => k_is); (case c_Dis_one_way => k_is); (case k_Dis_one_way => k_is)
    intro D_is_one_way
    refine' Lay.cps (Lay.dfn_mk (x := "_law_led") (qual := "_law_led") (st := Lay.s_w_led) (ps := ["_law_ways", "_law_place"]) KX G ?a_D_law_led ?l_D_law_led ?c_D_law_led ?k_D_law_led (fun _ _ _ _ _ _ us hl => match us, hl with | [_, _], _ => rfl)) ?r_D_law_led
    (case a_D_law_led => k_is); (case l_D_law_led => k_is); (case c_D_law_led => k_is); (case k_D_law_led => k_is)
    intro D_w_led
    refine' Lay.cps (Lay.dfn_mk (x := "_law_good") (qual := "_law_good") (st := Lay.s_w_good) (ps := ["_law_many_here", "_law_rows", "_law_ways"]) KX G ?a_D_law_good ?l_D_law_good ?c_D_law_good ?k_D_law_good (fun _ _ _ _ _ _ us hl => match us, hl with | [_, _, _], _ => rfl)) ?r_D_law_good
    (case a_D_law_good => k_is); (case l_D_law_good => k_is); (case c_D_law_good => k_is); (case k_D_law_good => k_is)
    intro D_w_good
    refine' Lay.cps (Lay.dfn_mk (x := "_law_spoilt") (qual := "_law_spoilt") (st := Lay.s_w_spoilt) (ps := ["_law_ways", "_law_many_here", "_law_number"]) KX G ?a_D_law_spoilt ?l_D_law_spoilt ?c_D_law_spoilt ?k_D_law_spoilt (fun _ _ _ _ _ _ us hl => match us, hl with | [_, _, _], _ => rfl)) ?r_D_law_spoilt
    (case a_D_law_spoilt => k_is); (case l_D_law_spoilt => k_is); (case c_D_law_spoilt => k_is); (case k_D_law_spoilt => k_is)
    intro D_w_spoilt
    refine' Lay.cps (Lay.dfn_mk (x := "_law_truths") (qual := "_law_truths") (st := Lay.s_w_truths) (ps := ["_law_ways"]) KX G ?a_D_law_truths ?l_D_law_truths ?c_D_law_truths ?k_D_law_truths (fun _ _ _ _ _ _ us hl => match us, hl with | [_], _ => rfl)) ?r_D_law_truths
    (case a_D_law_truths => k_is); (case l_D_law_truths => k_is); (case c_D_law_truths => k_is); (case k_D_law_truths => k_is)
    intro D_w_truths
    refine' Lay.law_end D_law hmg ?bbL ?okL
    (case bbL => exact fun _ _ _ _ _ _ _ _ => .of_eq rfl)
    case okL =>
    intro base f fd F
    have G_w_mixed := Lay.ok_mixed (P := (PySem.Challenge.rw_onewaytown_k06_ways_looked_at).prog) (w := w) (base := base) D_w_mixed
    have G_w_seed := Lay.ok_seed (P := (PySem.Challenge.rw_onewaytown_k06_ways_looked_at).prog) (w := w) (base := base) Z G_w_mixed D_w_seed
    have G_w_many := Lay.ok_many (P := (PySem.Challenge.rw_onewaytown_k06_ways_looked_at).prog) (w := w) (base := base) Z G_w_mixed D_w_many
    have G_w_ends := Lay.ok_ends (P := (PySem.Challenge.rw_onewaytown_k06_ways_looked_at).prog) (w := w) (base := base) Z D_w_ends
    have G_w_pairs := Lay.ok_pairs (P := (PySem.Challenge.rw_onewaytown_k06_ways_looked_at).prog) (w := w) (base := base) Z G_w_mixed G_w_ends D_w_pairs
    have G_is_among := Lay.ok_among (P := (PySem.Challenge.rw_onewaytown_k06_ways_looked_at).prog) (w := w) (base := base) Z D_is_among
    have M_places := Lay.ok_places (P := (PySem.Challenge.rw_onewaytown_k06_ways_looked_at).prog) (w := w) (base := base) T D_Town_places
    have M_streets := Lay.ok_streets (P := (PySem.Challenge.rw_onewaytown_k06_ways_looked_at).prog) (w := w) (base := base) Z T D_Town_streets
    have M_need_place := Lay.ok_need (P := (PySem.Challenge.rw_onewaytown_k06_ways_looked_at).prog) (w := w) (base := base) T X_BadPlace G_is_among D_Town_need_place
    have M_build := Lay.ok_build (P := (PySem.Challenge.rw_onewaytown_k06_ways_looked_at).prog) (w := w) (base := base) Z T X_BadPlace X_TooMany M_need_place D_Town_build
    have M_dig := Lay.ok_dig (P := (PySem.Challenge.rw_onewaytown_k06_ways_looked_at).prog) (w := w) (base := base) Z T X_BadStreet G_is_among D_Town_dig
    have MK_Town := Lay.ok_mkTown (P := (PySem.Challenge.rw_onewaytown_k06_ways_looked_at).prog) (w := w) (base := base) T X_BadCount G_is_among I_Town___init
    have G_w_made := Lay.ok_made (P := (PySem.Challenge.rw_onewaytown_k06_ways_looked_at).prog) (w := w) (base := base) Z G_w_mixed MK_Town M_build M_dig D_w_made
    have G_is_step := Lay.ok_step (P := (PySem.Challenge.rw_onewaytown_k06_ways_looked_at).prog) (w := w) (base := base) Z D_is_step
    have G_led_to := Lay.ok_ledto (P := (PySem.Challenge.rw_onewaytown_k06_ways_looked_at).prog) (w := w) (base := base) Z D_led_to
    have G_is_one_way := Lay.ok_one (P := (PySem.Challenge.rw_onewaytown_k06_ways_looked_at).prog) (w := w) (base := base) Z T G_is_step G_led_to M_places M_streets D_is_one_way
    have G_w_led := Lay.ok_wled (P := (PySem.Challenge.rw_onewaytown_k06_ways_looked_at).prog) (w := w) (base := base) Z D_w_led
    have G_w_good := Lay.ok_good (P := (PySem.Challenge.rw_onewaytown_k06_ways_looked_at).prog) (w := w) (base := base) Z G_w_led D_w_good
    have G_w_spoilt := Lay.ok_spoilt (P := (PySem.Challenge.rw_onewaytown_k06_ways_looked_at).prog) (w := w) (base := base) Z D_w_spoilt
    have G_w_truths := Lay.ok_truths (P := (PySem.Challenge.rw_onewaytown_k06_ways_looked_at).prog) (w := w) (base := base) Z D_w_truths
    exact Lay.ok_law Z T G_w_mixed G_w_seed G_w_many G_w_pairs G_w_made G_is_one_way G_w_good G_w_spoilt G_w_truths F
