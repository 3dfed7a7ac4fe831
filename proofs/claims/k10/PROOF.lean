import PyProof.Rows.All
import Wide.All
import OpenK.AllK
import Wide.FinOn
import HandS.ForMost
import HandS.Walk
import HandS.More
import HandS.TupAny
import HandS.ForExc
import HandS.IsInst
import HandS.Deep
import HandS.Style
import HandS.Conv
import HandS.Exc
import HandS.ExcIs
import HandS.Lambda
import HandS.EndTab
import HandS.EndOwn
import HandS.ExcInit
import HandS.ExcField
import HandS.Text
import HandS.Iter
import PyProof.StrOps2
import PyProof.StrLawsTight
import HandS.Comp
import KE.GoesComp
import PySem.Challenge.RW_onewaytown_k10_towns_written
set_option Elab.async false
set_option linter.all false
set_option maxRecDepth 100000
set_option maxHeartbeats 4000000
/-! The layer: readings over pure slots. F is the part of the heap that stands still from now on, H the heap, B the heap at the entry. -/
namespace Lay
open PySem L2

/-- what is said of a value over the part that stands still -/
abbrev Pd := Hp → V → Prop
def Stab (f : Pd) : Prop := ∀ F F' v, Same F F' → f F v → f F' v
def isTup : HO → Bool
  | .tup _ => true
  | .frz _ _ => true
  | .ext _ => true
  | _ => false
def isTbl : HO → Bool
  | .tbl _ => true
  | _ => false
/-- what a slot is known to hold -/
inductive Sl where
  | no
  | fz (f : Pd)
  | mo (m : Hp → Hp → V → List Addr → Prop)
/-- what is said of an owned thing leans on its own objects and on what stands still alone -/
def MStab (m : Hp → Hp → V → List Addr → Prop) : Prop := ∀ F F' H H' v as, Same F F' → (∀ a ∈ as, H' a = H a) → m F H v as → m F' H' v as

structure Gr (F H F' H' : Hp) : Prop where
  f : Same F F'
  h : Same H H'
  i : Same F' H'
  n : ∀ a o, H a = some o → isTup o = false → F a = none → F' a = none
  t : ∀ a o, F' a = some o → isTbl o = true → F a = some o
theorem Gr.refl {F H : Hp} (i : Same F H) : Gr F H F H := ⟨Same.refl _, Same.refl _, i, fun _ _ _ _ e => e, fun _ _ e _ => e⟩
theorem Gr.trans {F H F1 H1 F2 H2 : Hp} (a : Gr F H F1 H1) (b : Gr F1 H1 F2 H2) : Gr F H F2 H2 :=
  ⟨a.f.trans b.f, a.h.trans b.h, b.i, fun x o h t e => b.n x o (a.h x o h) t (a.n x o h t e), fun x o e t => a.t x o (b.t x o e t) t⟩
/-- a new object that may be changed later -/
theorem Gr.new {F H : Hp} (i : Same F H) {p : Addr} {o : HO} (hp : H p = none) : Gr F H F (upd H p o) :=
  ⟨Same.refl _, fun b u e => by rw [upd_ne (ne_of_none e hp)]; exact e, fun b u e => by rw [upd_ne (ne_of_none (i b u e) hp)]; exact i b u e, fun _ _ _ _ e => e, fun _ _ e _ => e⟩
/-- an object that stands from now on -/
theorem Gr.put {F H F' H' : Hp} (g : Gr F H F' H') {p : Addr} {o : HO} (hp : H p = none ∨ isTup o = true) (nt : isTbl o = false) (hf : F' p = none) (hq : H' p = some o) : Gr F H (upd F' p o) H' := by
  refine ⟨fun b u e => ?_, g.h, fun b u e => ?_, fun a u e t z => ?_, fun a u e t => ?_⟩
  · have e1 := g.f b u e
    rw [upd_ne (ne_of_none e1 hf)]
    exact e1
  · by_cases hb : b = p
    · rw [hb, upd_same] at e
      cases e
      rw [hb]; exact hq
    · rw [upd_ne hb] at e
      exact g.i b u e
  · by_cases hb : a = p
    · subst hb
      rcases hp with hp | hp
      · rw [hp] at e; cases e
      · have := g.h a u e
        rw [hq] at this
        cases this
        rw [hp] at t; cases t
    · rw [upd_ne hb]
      exact g.n a u e t z
  · by_cases hb : a = p
    · rw [hb, upd_same] at e
      cases e
      rw [nt] at t; cases t
    · rw [upd_ne hb] at e
      exact g.t a u e t
/-- .. a tuple (or a known thing) that may stand there already -/
theorem Gr.putT {F H F' H' : Hp} (g : Gr F H F' H') {p : Addr} {o : HO} (ho : isTup o = true) (hq : H' p = some o) : ∃ F'', Gr F H F'' H' ∧ Same F' F'' ∧ F'' p = some o := by
  cases e : F' p with
  | none => exact ⟨upd F' p o, g.put (.inr ho) (by cases o <;> first | rfl | cases ho) e hq, fun b u z => by rw [upd_ne (ne_of_none z e)]; exact z, upd_same⟩
  | some u =>
    have q := g.i p u e
    rw [hq] at q
    cases q
    exact ⟨F', g, Same.refl _, e⟩
/-- .. a new list that may stand there already -/
theorem Gr.putN {F H F' H' : Hp} (g : Gr F H F' H') {p : Addr} {o : HO} (ho : H p = none) (hq : H' p = some o) (nt : isTbl o = false := by rfl) : ∃ F'', Gr F H F'' H' ∧ Same F' F'' ∧ F'' p = some o := by
  cases e : F' p with
  | none => exact ⟨upd F' p o, g.put (.inl ho) nt e hq, fun b u z => by rw [upd_ne (ne_of_none z e)]; exact z, upd_same⟩
  | some u =>
    have q := g.i p u e
    rw [hq] at q
    cases q
    exact ⟨F', g, Same.refl _, e⟩
theorem Gr.fresh {F H F' H' : Hp} (g : Gr F H F' H') {p : Addr} (h : H' p = none) : H p = none := g.h.free h

/-! ### the slots -/
def SlOk (F H : Hp) (ov : Option (Option V)) (as : List Addr) : Sl → Prop
  | .no => True
  | .fz f => Stab f ∧ ∃ v, ov = some (some v) ∧ f F v
  | .mo m => MStab m ∧ ∃ v, ov = some (some v) ∧ m F H v as
structure Own (B : Hp) (F H : Hp) (σ : St) (ρ : List Sl) (w : Nat → List Addr) : Prop where
  dj : ∀ i j a, a ∈ w i → a ∈ w j → i = j
  at_ : ∀ i a, a ∈ w i → F a = none ∧ B a = none ∧ ∃ o, H a = some o ∧ isTup o = false
  sl : ∀ i s, ρ[i]? = some s → SlOk F H σ[i]? (w i) s
/-- B: the heap at the def's entry; F0: what stands still at least -/
structure Cfg (B F0 F H : Hp) (σ : St) (ρ : List Sl) : Prop where
  gr : Gr F0 B F H
  len : σ.length = ρ.length
  own : ∃ w, Own B F H σ ρ w
section
variable {B F0 F H F' H' : Hp} {σ : St} {ρ : List Sl}
theorem Cfg.i (c : Cfg B F0 F H σ ρ) : Same F H := c.gr.i
theorem Cfg.go (c : Cfg B F0 F H σ ρ) (g : Gr F H F' H') : Cfg B F0 F' H' σ ρ := by
  refine ⟨c.gr.trans g, c.len, ?_⟩
  obtain ⟨w, o⟩ := c.own
  refine ⟨w, o.dj, fun i a ha => ?_, fun i s hs => ?_⟩
  · obtain ⟨h1, h2, u, h3, h4⟩ := o.at_ i a ha
    exact ⟨g.n a u h3 h4 h1, h2, u, g.h a u h3, h4⟩
  · have q := o.sl i s hs
    cases s with
    | no => trivial
    | fz f => obtain ⟨st, v, e, p⟩ := q; exact ⟨st, v, e, st _ _ v g.f p⟩
    | mo m =>
      obtain ⟨st, v, e, p⟩ := q
      refine ⟨st, v, e, st _ _ _ _ _ _ g.f (fun a ha => ?_) p⟩
      obtain ⟨_, _, u, h3, _⟩ := o.at_ i a ha
      rw [h3, g.h a u h3]
/-- a slot is known anew: it stands still -/
theorem Cfg.setF (c : Cfg B F0 F H σ ρ) {i : Nat} {v : V} {f : Pd} (st : Stab f) (h : f F v) : Cfg B F0 F H (σ.set i (some v)) (ρ.set i (.fz f)) := by
  refine ⟨c.gr, by simp [c.len], ?_⟩
  obtain ⟨w, o⟩ := c.own
  refine ⟨fun j => if j = i then [] else w j, fun j k a h1 h2 => ?_, fun j a h1 => ?_, fun j s hs => ?_⟩
  · split at h1
    · cases h1
    · split at h2
      · cases h2
      · exact o.dj j k a h1 h2
  · split at h1
    · cases h1
    · exact o.at_ j a h1
  · by_cases hj : j = i
    · subst hj
      have hl : j < ρ.length := by
        have := (List.getElem?_eq_some_iff.mp hs).1
        simpa using this
      rw [List.getElem?_set_self hl] at hs
      cases hs
      rw [List.getElem?_set_self (by rw [c.len]; exact hl), if_pos rfl]
      exact ⟨st, v, rfl, h⟩
    · rw [if_neg hj, List.getElem?_set_ne (fun e => hj e.symm)]
      rw [List.getElem?_set_ne (fun e => hj e.symm)] at hs
      exact o.sl j s hs
/-- .. it holds an owned thing: whose objects no other slot owns -/
theorem Cfg.setM (c : Cfg B F0 F H σ ρ) {i : Nat} {v : V} {m : Hp → Hp → V → List Addr → Prop} {as : List Addr} (st : MStab m) (h : m F H v as)
    (hn : ∀ a ∈ as, F a = none ∧ B a = none ∧ ∃ o, H a = some o ∧ isTup o = false)
    (hd : ∀ w, Own B F H σ ρ w → ∀ j a, j ≠ i → a ∈ w j → a ∉ as) : Cfg B F0 F H (σ.set i (some v)) (ρ.set i (.mo m)) := by
  refine ⟨c.gr, by simp [c.len], ?_⟩
  obtain ⟨w, o⟩ := c.own
  have hd := hd w o
  refine ⟨fun j => if j = i then as else w j, fun j k a h1 h2 => ?_, fun j a h1 => ?_, fun j s hs => ?_⟩
  · split at h1 <;> split at h2
    · omega
    · rename_i e1 e2; exact absurd h1 (hd k a e2 h2)
    · rename_i e1 e2; exact absurd h2 (hd j a e1 h1)
    · exact o.dj j k a h1 h2
  · split at h1
    · exact hn a h1
    · exact o.at_ j a h1
  · by_cases hj : j = i
    · subst hj
      have hl : j < ρ.length := by
        have := (List.getElem?_eq_some_iff.mp hs).1
        simpa using this
      rw [List.getElem?_set_self hl] at hs
      cases hs
      rw [List.getElem?_set_self (by rw [c.len]; exact hl), if_pos rfl]
      exact ⟨st, v, rfl, h⟩
    · rw [if_neg hj, List.getElem?_set_ne (fun e => hj e.symm)]
      rw [List.getElem?_set_ne (fun e => hj e.symm)] at hs
      exact o.sl j s hs
/-- a new object goes into a slot -/
theorem Cfg.setN (c : Cfg B F0 F H σ ρ) {i : Nat} {v : V} {m : Hp → Hp → V → List Addr → Prop} {as : List Addr} (st : MStab m) (g : Gr F H F' H') (h : m F' H' v as)
    (hn : ∀ a ∈ as, F' a = none ∧ H a = none ∧ ∃ o, H' a = some o ∧ isTup o = false) : Cfg B F0 F' H' (σ.set i (some v)) (ρ.set i (.mo m)) := by
  obtain ⟨w0, o0⟩ := c.own
  refine ⟨(c.go g).gr, by simp [c.len], ?_⟩
  obtain ⟨w, o, oH⟩ : ∃ w, Own B F' H' σ ρ w ∧ ∀ i a, a ∈ w i → ∃ u, H a = some u := by
    refine ⟨w0, ⟨o0.dj, fun i a ha => ?_, fun i s hs => ?_⟩, fun i a ha => ?_⟩
    · obtain ⟨h1, h2, u, h3, h4⟩ := o0.at_ i a ha
      exact ⟨g.n a u h3 h4 h1, h2, u, g.h a u h3, h4⟩
    · have q := o0.sl i s hs
      cases s with
      | no => trivial
      | fz f => obtain ⟨st, v, e, p⟩ := q; exact ⟨st, v, e, st _ _ v g.f p⟩
        | mo m =>
        obtain ⟨st, v, e, p⟩ := q
        refine ⟨st, v, e, st _ _ _ _ _ _ g.f (fun a ha => ?_) p⟩
        obtain ⟨_, _, u, h3, _⟩ := o0.at_ i a ha
        rw [h3, g.h a u h3]
    · obtain ⟨_, _, u, h3, _⟩ := o0.at_ i a ha
      exact ⟨u, h3⟩
  have hd : ∀ j a, j ≠ i → a ∈ w j → a ∉ as := fun j a _ ha hb => by
    obtain ⟨u, hu⟩ := oH j a ha
    obtain ⟨_, hz, _⟩ := hn a hb
    rw [hu] at hz; cases hz
  refine ⟨fun j => if j = i then as else w j, fun j k a h1 h2 => ?_, fun j a h1 => ?_, fun j s hs => ?_⟩
  · split at h1 <;> split at h2
    · omega
    · rename_i e1 e2; exact absurd h1 (hd k a e2 h2)
    · rename_i e1 e2; exact absurd h2 (hd j a e1 h1)
    · exact o.dj j k a h1 h2
  · split at h1
    · obtain ⟨q1, q2, q3⟩ := hn a h1
      exact ⟨q1, c.gr.fresh q2, q3⟩
    · exact o.at_ j a h1
  · by_cases hj : j = i
    · subst hj
      have hl : j < ρ.length := by
        have := (List.getElem?_eq_some_iff.mp hs).1
        simpa using this
      rw [List.getElem?_set_self hl] at hs
      cases hs
      rw [List.getElem?_set_self (by rw [c.len]; exact hl), if_pos rfl]
      exact ⟨st, v, rfl, h⟩
    · rw [if_neg hj, List.getElem?_set_ne (fun e => hj e.symm)]
      rw [List.getElem?_set_ne (fun e => hj e.symm)] at hs
      exact o.sl j s hs
/-- an owned thing is changed where it stands: its slot keeps its value, its objects are the same or new ones -/
theorem Cfg.chg (c : Cfg B F0 F H σ ρ) {i : Nat} {m m' : Hp → Hp → V → List Addr → Prop} (hi : ρ[i]? = some (.mo m)) (st' : MStab m')
    (k : ∀ v as, σ[i]? = some (some v) → m F H v as → (∀ a ∈ as, F a = none ∧ B a = none ∧ ∃ o, H a = some o ∧ isTup o = false) →
      m' F H' v as ∧ (∀ a, a ∉ as → H' a = H a) ∧ (∀ a ∈ as, ∃ o, H' a = some o ∧ isTup o = false)) : Cfg B F0 F H' σ (ρ.set i (.mo m')) := by
  obtain ⟨w, o⟩ := c.own
  obtain ⟨st, v, ev, hm⟩ := o.sl i _ hi
  obtain ⟨q1, q2, q3⟩ := k v (w i) ev hm (o.at_ i)
  have hl : i < ρ.length := (List.getElem?_eq_some_iff.mp hi).1
  have gB : ∀ a u, B a = some u → H' a = some u := fun a u e => by
    rw [q2 a fun z => by have := (o.at_ i a z).2.1; rw [e] at this; cases this]
    exact c.gr.h a u e
  have gF : ∀ a u, F a = some u → H' a = some u := fun a u e => by
    rw [q2 a fun z => by have := (o.at_ i a z).1; rw [e] at this; cases this]
    exact c.gr.i a u e
  refine ⟨⟨c.gr.f, gB, gF, c.gr.n, c.gr.t⟩, by simp [c.len], w, o.dj, fun j a ha => ?_, fun j s hs => ?_⟩
  · obtain ⟨h1, h2, u, h3, h4⟩ := o.at_ j a ha
    refine ⟨h1, h2, ?_⟩
    by_cases hj : a ∈ w i
    · exact q3 a hj
    · rw [q2 a hj]; exact ⟨u, h3, h4⟩
  · by_cases hj : j = i
    · subst hj
      rw [List.getElem?_set_self hl] at hs
      cases hs
      exact ⟨st', v, ev, q1⟩
    · rw [List.getElem?_set_ne (fun e => hj e.symm)] at hs
      have q := o.sl j s hs
      cases s with
      | no => trivial
      | fz f => exact q
        | mo m2 =>
        obtain ⟨st2, v2, e2, p2⟩ := q
        exact ⟨st2, v2, e2, st2 _ _ _ _ _ _ (Same.refl _) (fun a ha => q2 a fun z => hj (o.dj j i a ha z)) p2⟩
/-- less is known of the slots -/
theorem Cfg.less (c : Cfg B F0 F H σ ρ) {ρ' : List Sl} {σ' : St} (hl : σ'.length = ρ'.length) (h : ∀ (i : Nat) (s : Sl), ρ'[i]? = some s → s = Sl.no ∨ (ρ[i]? = some s ∧ σ'[i]? = σ[i]?)) : Cfg B F0 F H σ' ρ' := by
  obtain ⟨w, o⟩ := c.own
  refine ⟨c.gr, hl, w, o.dj, o.at_, fun i s hs => ?_⟩
  rcases h i s hs with rfl | ⟨h1, h2⟩
  · trivial
  · rw [h2]; exact o.sl i s h1
end
end Lay
namespace Lay
open PySem L2

/-! ### data in the heap -/
theorem rd_mono {F F' : Hp} (s : Same F F') {a : Addr} {u : HO} (h : Rd F a u) : Rd F' a u := by
  rcases h with h | ⟨o, h⟩
  · exact Or.inl (s a _ h)
  · exact Or.inr ⟨o, s a _ h⟩
theorem sqt_mono {K : PySem.W.Frag} {F F' : Hp} (s : Same F F') {a : Addr} {xs : List V} (h : SqT K F a xs) : SqT K F' a xs := by
  rcases h with h | h
  · exact Or.inl (rd_mono s h)
  · exact Or.inr h
mutual
theorem dp_mono {K : PySem.W.Frag} {F F' : Hp} (s : Same F F') : ∀ {v : V} {d : PyData}, Dp K F v d → Dp K F' v d
  | _, _, .non => .non
  | _, _, .bl b => .bl b
  | _, _, .int i => .int i
  | _, _, .str x => .str x
  | _, _, .lst h a => .lst (s.seq h) (dpAll_mono s a)
  | _, _, .tup h a => .tup (sqt_mono s h) (dpAll_mono s a)
theorem dpAll_mono {K : PySem.W.Frag} {F F' : Hp} (s : Same F F') : ∀ {xs : List V} {ds : List PyData}, DpAll K F xs ds → DpAll K F' xs ds
  | _, _, .nil => .nil
  | _, _, .cons h a => .cons (dp_mono s h) (dpAll_mono s a)
end
mutual
/-- data whose lists are all newer than B -/
inductive Nw (K : PySem.W.Frag) (B F : Hp) : V → PyData → Prop
  | non : Nw K B F .non .none
  | bl (b : Bool) : Nw K B F (.bl b) (.bool b)
  | int (i : Int) : Nw K B F (.int i) (.int i)
  | str (x : Str) : Nw K B F (.str x) (.str x)
  | lst {a : Addr} {xs : List V} {ds : List PyData} : B a = none → F a = some (.lst xs) → NwAll K B F xs ds → Nw K B F (.ref a) (.list ds)
  | tup {a : Addr} {xs : List V} {ds : List PyData} : SqT K F a xs → NwAll K B F xs ds → Nw K B F (.ref a) (.tuple ds)
inductive NwAll (K : PySem.W.Frag) (B F : Hp) : List V → List PyData → Prop
  | nil : NwAll K B F [] []
  | cons {v : V} {vs : List V} {d : PyData} {ds : List PyData} : Nw K B F v d → NwAll K B F vs ds → NwAll K B F (v :: vs) (d :: ds)
end
mutual
theorem nw_mono {K : PySem.W.Frag} {B B' F F' : Hp} (q : Same B' B) (s : Same F F') : ∀ {v : V} {d : PyData}, Nw K B F v d → Nw K B' F' v d
  | _, _, .non => .non
  | _, _, .bl b => .bl b
  | _, _, .int i => .int i
  | _, _, .str x => .str x
  | _, _, .lst n h a => .lst (q.free n) (s _ _ h) (nwAll_mono q s a)
  | _, _, .tup h a => .tup (sqt_mono s h) (nwAll_mono q s a)
theorem nwAll_mono {K : PySem.W.Frag} {B B' F F' : Hp} (q : Same B' B) (s : Same F F') : ∀ {xs : List V} {ds : List PyData}, NwAll K B F xs ds → NwAll K B' F' xs ds
  | _, _, .nil => .nil
  | _, _, .cons h a => .cons (nw_mono q s h) (nwAll_mono q s a)
end
mutual
theorem nw_dp {K : PySem.W.Frag} {B F : Hp} : ∀ {v : V} {d : PyData}, Nw K B F v d → Dp K F v d
  | _, _, .non => .non
  | _, _, .bl b => .bl b
  | _, _, .int i => .int i
  | _, _, .str x => .str x
  | _, _, .lst n h a => .lst (.inl (.inl h)) (nwAll_dp a)
  | _, _, .tup h a => .tup h (nwAll_dp a)
theorem nwAll_dp {K : PySem.W.Frag} {B F : Hp} : ∀ {xs : List V} {ds : List PyData}, NwAll K B F xs ds → DpAll K F xs ds
  | _, _, .nil => .nil
  | _, _, .cons h a => .cons (nw_dp h) (nwAll_dp a)
end
mutual
/-- no lists within -/
def flatD : PyData → Bool
  | .none => true
  | .bool _ => true
  | .int _ => true
  | .str _ => true
  | .tuple ds => flatDs ds
  | .list _ => false
  | .dict _ => false
def flatDs : List PyData → Bool
  | [] => true
  | d :: ds => flatD d && flatDs ds
end
theorem flatDs_map {α : Type} {e : α → PyData} (h : ∀ x, flatD (e x) = true) : ∀ xs : List α, flatDs (xs.map e) = true
  | [] => rfl
  | x :: r => by
    show (flatD (e x) && flatDs (r.map e)) = true
    rw [h x, flatDs_map h r]
    rfl
mutual
theorem dp_nw {K : PySem.W.Frag} {B F : Hp} : ∀ {v : V} {d : PyData}, Dp K F v d → flatD d = true → Nw K B F v d
  | _, _, .non, _ => .non
  | _, _, .bl b, _ => .bl b
  | _, _, .int i, _ => .int i
  | _, _, .str x, _ => .str x
  | _, _, .lst h a, z => Bool.noConfusion (show false = true from z)
  | _, _, .tup (ds := ds) h a, z => .tup h (dpAll_nw a (show flatDs ds = true from z))
theorem dpAll_nw {K : PySem.W.Frag} {B F : Hp} : ∀ {xs : List V} {ds : List PyData}, DpAll K F xs ds → flatDs ds = true → NwAll K B F xs ds
  | _, _, .nil, _ => .nil
  | _, _, .cons (d := d) (ds := ds) h a, z => by
    have z : (flatD d && flatDs ds) = true := z
    rw [Bool.and_eq_true] at z
    exact .cons (dp_nw h z.1) (dpAll_nw a z.2)
end
theorem sqt_put {K : PySem.W.Frag} {F H F1 H' : Hp} (g : Gr F H F1 H') {a : Addr} {xs : List V} (h : SqT K H' a xs) : ∃ F2, Gr F H F2 H' ∧ Same F1 F2 ∧ SqT K F2 a xs := by
  rcases h with (h | ⟨o, h⟩) | h
  · obtain ⟨F2, g2, s, e⟩ := g.putT rfl h
    exact ⟨F2, g2, s, .inl (.inl e)⟩
  · obtain ⟨F2, g2, s, e⟩ := g.putT rfl h
    exact ⟨F2, g2, s, .inl (.inr ⟨o, e⟩)⟩
  · exact ⟨F1, g, Same.refl _, .inr h⟩
mutual
/-- what holds no lists may stand still at any time -/
theorem dp_prom {K : PySem.W.Frag} {B F H H' : Hp} : ∀ {v : V} {d : PyData}, Dp K H' v d → flatD d = true → ∀ F1, Gr F H F1 H' → ∃ F2, Gr F H F2 H' ∧ Same F1 F2 ∧ Nw K B F2 v d
  | _, _, .non, _, F1, g => ⟨F1, g, Same.refl _, .non⟩
  | _, _, .bl b, _, F1, g => ⟨F1, g, Same.refl _, .bl b⟩
  | _, _, .int i, _, F1, g => ⟨F1, g, Same.refl _, .int i⟩
  | _, _, .str x, _, F1, g => ⟨F1, g, Same.refl _, .str x⟩
  | _, _, .lst h a, z, _, _ => Bool.noConfusion (show false = true from z)
  | _, _, .tup (ds := ds) h a, z, F1, g => by
    obtain ⟨F2, g2, s2, q2⟩ := sqt_put g h
    obtain ⟨F3, g3, s3, q3⟩ := dpAll_prom (B := B) a (show flatDs ds = true from z) F2 g2
    exact ⟨F3, g3, s2.trans s3, .tup (sqt_mono s3 q2) q3⟩
theorem dpAll_prom {K : PySem.W.Frag} {B F H H' : Hp} : ∀ {xs : List V} {ds : List PyData}, DpAll K H' xs ds → flatDs ds = true → ∀ F1, Gr F H F1 H' → ∃ F2, Gr F H F2 H' ∧ Same F1 F2 ∧ NwAll K B F2 xs ds
  | _, _, .nil, _, F1, g => ⟨F1, g, Same.refl _, .nil⟩
  | _, _, .cons (d := d) (ds := ds) h a, z, F1, g => by
    have z : (flatD d && flatDs ds) = true := z
    rw [Bool.and_eq_true] at z
    obtain ⟨F2, g2, s2, q2⟩ := dp_prom (B := B) h z.1 F1 g
    obtain ⟨F3, g3, s3, q3⟩ := dpAll_prom (B := B) a z.2 F2 g2
    exact ⟨F3, g3, s2.trans s3, .cons (nw_mono (Same.refl _) s3 q2) q3⟩
end
mutual
/-- what is new behind a call may stand still from then on -/
theorem nw_fix {K : PySem.W.Frag} {B F H H' : Hp} (sB : Same B H) : ∀ {v : V} {d : PyData}, Nw K H H' v d → ∀ F1, Gr F H F1 H' → ∃ F2, Gr F H F2 H' ∧ Same F1 F2 ∧ Nw K B F2 v d
  | _, _, .non, F1, g => ⟨F1, g, Same.refl _, .non⟩
  | _, _, .bl b, F1, g => ⟨F1, g, Same.refl _, .bl b⟩
  | _, _, .int i, F1, g => ⟨F1, g, Same.refl _, .int i⟩
  | _, _, .str x, F1, g => ⟨F1, g, Same.refl _, .str x⟩
  | _, _, .lst n h a, F1, g => by
    obtain ⟨F2, g2, s2, q2⟩ := g.putN n h
    obtain ⟨F3, g3, s3, q3⟩ := nwAll_fix sB a F2 g2
    exact ⟨F3, g3, s2.trans s3, .lst (sB.free n) (s3 _ _ q2) q3⟩
  | _, _, .tup h a, F1, g => by
    obtain ⟨F2, g2, s2, q2⟩ := sqt_put g h
    obtain ⟨F3, g3, s3, q3⟩ := nwAll_fix sB a F2 g2
    exact ⟨F3, g3, s2.trans s3, .tup (sqt_mono s3 q2) q3⟩
theorem nwAll_fix {K : PySem.W.Frag} {B F H H' : Hp} (sB : Same B H) : ∀ {xs : List V} {ds : List PyData}, NwAll K H H' xs ds → ∀ F1, Gr F H F1 H' → ∃ F2, Gr F H F2 H' ∧ Same F1 F2 ∧ NwAll K B F2 xs ds
  | _, _, .nil, F1, g => ⟨F1, g, Same.refl _, .nil⟩
  | _, _, .cons h a, F1, g => by
    obtain ⟨F2, g2, s2, q2⟩ := nw_fix sB h F1 g
    obtain ⟨F3, g3, s3, q3⟩ := nwAll_fix sB a F2 g2
    exact ⟨F3, g3, s2.trans s3, .cons (nw_mono (Same.refl _) s3 q2) q3⟩
end
theorem nwAll_len {K : PySem.W.Frag} {B F : Hp} : ∀ {xs : List V} {ds : List PyData}, NwAll K B F xs ds → xs.length = ds.length
  | _, _, .nil => rfl
  | _, _, .cons _ a => congrArg (· + 1) (nwAll_len a)
theorem dpAll_len {K : PySem.W.Frag} {F : Hp} : ∀ {xs : List V} {ds : List PyData}, DpAll K F xs ds → xs.length = ds.length
  | _, _, .nil => rfl
  | _, _, .cons _ a => congrArg (· + 1) (dpAll_len a)
theorem nwAll_get {K : PySem.W.Frag} {B F : Hp} : ∀ {xs : List V} {ds : List PyData}, NwAll K B F xs ds → ∀ {i : Nat} {d : PyData}, ds[i]? = some d → ∃ v, xs[i]? = some v ∧ Nw K B F v d
  | _, _, .nil, i, d, e => by simp at e
  | _, _, .cons h _, 0, d, e => by simp at e; subst e; exact ⟨_, rfl, h⟩
  | _, _, .cons _ a, i + 1, d, e => by
    obtain ⟨v, h1, h2⟩ := nwAll_get a (i := i) (d := d) (by simpa using e)
    exact ⟨v, by simpa using h1, h2⟩
theorem dpAll_get {K : PySem.W.Frag} {F : Hp} : ∀ {xs : List V} {ds : List PyData}, DpAll K F xs ds → ∀ {i : Nat} {d : PyData}, ds[i]? = some d → ∃ v, xs[i]? = some v ∧ Dp K F v d
  | _, _, .nil, i, d, e => by simp at e
  | _, _, .cons h _, 0, d, e => by simp at e; subst e; exact ⟨_, rfl, h⟩
  | _, _, .cons _ a, i + 1, d, e => by
    obtain ⟨v, h1, h2⟩ := dpAll_get a (i := i) (d := d) (by simpa using e)
    exact ⟨v, by simpa using h1, h2⟩
theorem nwAll_getV {K : PySem.W.Frag} {B F : Hp} {xs : List V} {ds : List PyData} (h : NwAll K B F xs ds) {i : Nat} {v : V} (e : xs[i]? = some v) : ∃ d, ds[i]? = some d ∧ Nw K B F v d := by
  obtain ⟨hi, _⟩ := List.getElem?_eq_some_iff.mp e
  have hi' : i < ds.length := by rw [← nwAll_len h]; exact hi
  obtain ⟨w, h1, h2⟩ := nwAll_get h (List.getElem?_eq_getElem hi')
  rw [e] at h1
  cases h1
  exact ⟨_, List.getElem?_eq_getElem hi', h2⟩
theorem dpAll_getV {K : PySem.W.Frag} {F : Hp} {xs : List V} {ds : List PyData} (h : DpAll K F xs ds) {i : Nat} {v : V} (e : xs[i]? = some v) : ∃ d, ds[i]? = some d ∧ Dp K F v d := by
  obtain ⟨hi, _⟩ := List.getElem?_eq_some_iff.mp e
  have hi' : i < ds.length := by rw [← dpAll_len h]; exact hi
  obtain ⟨w, h1, h2⟩ := dpAll_get h (List.getElem?_eq_getElem hi')
  rw [e] at h1
  cases h1
  exact ⟨_, List.getElem?_eq_getElem hi', h2⟩
theorem nwAll_app {K : PySem.W.Frag} {B F : Hp} : ∀ {xs ys : List V} {ds es : List PyData}, NwAll K B F xs ds → NwAll K B F ys es → NwAll K B F (xs ++ ys) (ds ++ es)
  | _, _, _, _, .nil, b => b
  | _, _, _, _, .cons h a, b => .cons h (nwAll_app a b)
theorem nwAll_take {K : PySem.W.Frag} {B F : Hp} : ∀ {xs : List V} {ds : List PyData} (n : Nat), NwAll K B F xs ds → NwAll K B F (xs.take n) (ds.take n)
  | _, _, 0, _ => .nil
  | _, _, n + 1, .nil => .nil
  | _, _, n + 1, .cons h a => .cons h (nwAll_take n a)
theorem nwAll_drop {K : PySem.W.Frag} {B F : Hp} : ∀ {xs : List V} {ds : List PyData} (n : Nat), NwAll K B F xs ds → NwAll K B F (xs.drop n) (ds.drop n)
  | _, _, 0, h => h
  | _, _, n + 1, .nil => .nil
  | _, _, n + 1, .cons h a => nwAll_drop n a
theorem dpAll_take {K : PySem.W.Frag} {F : Hp} : ∀ {xs : List V} {ds : List PyData} (n : Nat), DpAll K F xs ds → DpAll K F (xs.take n) (ds.take n)
  | _, _, 0, _ => .nil
  | _, _, n + 1, .nil => .nil
  | _, _, n + 1, .cons h a => .cons h (dpAll_take n a)
theorem dpAll_drop {K : PySem.W.Frag} {F : Hp} : ∀ {xs : List V} {ds : List PyData} (n : Nat), DpAll K F xs ds → DpAll K F (xs.drop n) (ds.drop n)
  | _, _, 0, h => h
  | _, _, n + 1, .nil => .nil
  | _, _, n + 1, .cons h a => dpAll_drop n a
theorem dpAll_app {K : PySem.W.Frag} {F : Hp} : ∀ {xs ys : List V} {ds es : List PyData}, DpAll K F xs ds → DpAll K F ys es → DpAll K F (xs ++ ys) (ds ++ es)
  | _, _, _, _, .nil, b => b
  | _, _, _, _, .cons h a, b => .cons h (dpAll_app a b)
theorem nwAll_rev {K : PySem.W.Frag} {B F : Hp} : ∀ {xs : List V} {ds : List PyData}, NwAll K B F xs ds → NwAll K B F xs.reverse ds.reverse
  | _, _, .nil => .nil
  | _, _, .cons h a => by
    rw [List.reverse_cons, List.reverse_cons]
    exact nwAll_app (nwAll_rev a) (.cons h .nil)
theorem dpAll_ints {K : PySem.W.Frag} {F : Hp} : ∀ {xs : List V} {ns : List Int}, DpAll K F xs (ns.map PyData.int) → xs = ns.map V.int
  | _, [], .nil => rfl
  | _, n :: r, .cons (.int _) a => by rw [dpAll_ints a]; rfl
theorem nwAll_ints {K : PySem.W.Frag} {B F : Hp} (ns : List Int) : NwAll K B F (ns.map V.int) (ns.map PyData.int) := by
  induction ns with
  | nil => exact .nil
  | cons n r ih => exact .cons (.int n) ih
theorem dpAll_bls {K : PySem.W.Frag} {F : Hp} : ∀ {xs : List V} {ns : List Bool}, DpAll K F xs (ns.map PyData.bool) → xs = ns.map V.bl
  | _, [], .nil => rfl
  | _, n :: r, .cons (.bl _) a => by rw [dpAll_bls a]; rfl
end Lay
namespace Lay
open PySem L2

abbrev dat (K : PySem.W.Frag) (d : PyData) : Pd := fun F v => Dp K F v d
abbrev nwd (K : PySem.W.Frag) (B : Hp) (d : PyData) : Pd := fun F v => Nw K B F v d
theorem st_dat {K : PySem.W.Frag} {d : PyData} : Stab (dat K d) := fun _ _ _ s h => dp_mono s h
theorem st_nwd {K : PySem.W.Frag} {B : Hp} {d : PyData} : Stab (nwd K B d) := fun _ _ _ s h => nw_mono (Same.refl _) s h
/-- an owned list, an owned dict (keys ints) -/
inductive KvAll (K : PySem.W.Frag) (B F : Hp) : List (Key × V) → List (Int × PyData) → Prop
  | nil : KvAll K B F [] []
  | cons {k : Int} {v : V} {d : PyData} {kv : List (Key × V)} {kvs : List (Int × PyData)} : Nw K B F v d → KvAll K B F kv kvs → KvAll K B F ((Sum.inl k, v) :: kv) ((k, d) :: kvs)
def mlP (K : PySem.W.Frag) (B : Hp) (ds : List PyData) : Hp → Hp → V → List Addr → Prop := fun F H v as => ∃ l xs, v = .ref l ∧ as = [l] ∧ H l = some (.lst xs) ∧ NwAll K B F xs ds
def mdP (K : PySem.W.Frag) (B : Hp) (kvs : List (Int × PyData)) : Hp → Hp → V → List Addr → Prop := fun F H v as => ∃ l kv, v = .ref l ∧ as = [l] ∧ H l = some (.dK kv) ∧ KvAll K B F kv kvs
theorem kvAll_mono {K : PySem.W.Frag} {B F F' : Hp} (s : Same F F') : ∀ {kv : List (Key × V)} {kvs : List (Int × PyData)}, KvAll K B F kv kvs → KvAll K B F' kv kvs
  | _, _, .nil => .nil
  | _, _, .cons h a => .cons (nw_mono (Same.refl _) s h) (kvAll_mono s a)
theorem st_ml {K : PySem.W.Frag} {B : Hp} {ds : List PyData} : MStab (mlP K B ds) := fun F F' H H' v as s e ⟨l, xs, h1, h2, h3, h4⟩ =>
  ⟨l, xs, h1, h2, by rw [e l (by rw [h2]; exact List.mem_singleton.mpr rfl)]; exact h3, nwAll_mono (Same.refl _) s h4⟩
theorem st_md {K : PySem.W.Frag} {B : Hp} {kvs : List (Int × PyData)} : MStab (mdP K B kvs) := fun F F' H H' v as s e ⟨l, kv, h1, h2, h3, h4⟩ =>
  ⟨l, kv, h1, h2, by rw [e l (by rw [h2]; exact List.mem_singleton.mpr rfl)]; exact h3, kvAll_mono s h4⟩
abbrev sn (K : PySem.W.Frag) (B : Hp) (d : PyData) : Sl := .fz (nwd K B d)
abbrev sa (K : PySem.W.Frag) (d : PyData) : Sl := .fz (dat K d)
abbrev ml (K : PySem.W.Frag) (B : Hp) (ds : List PyData) : Sl := .mo (mlP K B ds)
abbrev md (K : PySem.W.Frag) (B : Hp) (kvs : List (Int × PyData)) : Sl := .mo (mdP K B kvs)
/-- a dict read: tracked, keys ints -/
def isDict (K : PySem.W.Frag) (kvs : List (Int × PyData)) : Pd := fun H v => ∃ l kv, v = .ref l ∧ Rd H l (.dK kv) ∧ ∃ B, KvAll K B H kv kvs
theorem st_isDict {K : PySem.W.Frag} {kvs : List (Int × PyData)} : Stab (isDict K kvs) := fun _ _ _ s ⟨l, kv, h1, h2, B, h3⟩ => ⟨l, kv, h1, rd_mono s h2, B, kvAll_mono s h3⟩

/-! ### what evaluates to what -/
def Ev (B F0 : Hp) (ρ : List Sl) (te : TE) (f : Pd) : Prop := ∀ F H σ, Cfg B F0 F H σ ρ → ∀ Q : VK, (∀ v F' H', Gr F H F' H' → f F' v → Q v H') → te σ H Q
def EvH (B F0 : Hp) (ρ : List Sl) (te : TE) (f : Pd) : Prop := ∀ F H σ, Cfg B F0 F H σ ρ → ∀ Q : VK, (∀ v F' H', Gr F H F' H' → f H' v → Q v H') → te σ H Q
def EvM (K : PySem.W.Frag) (B F0 : Hp) (ρ : List Sl) (te : TE) (ds : List PyData) : Prop := ∀ F H σ, Cfg B F0 F H σ ρ → ∀ Q : VK,
  (∀ l xs F' H', Gr F H F' H' → F' l = none → H l = none → H' l = some (.lst xs) → NwAll K B F' xs ds → Q (.ref l) H') → te σ H Q
def EvT (B F0 : Hp) (ρ : List Sl) (tt : TT) (c : Bool) : Prop := ∀ F H σ, Cfg B F0 F H σ ρ → ∀ Q : Bool → Hp → Prop, (∀ F' H', Gr F H F' H' → Q c H') → tt σ H Q
/-- a slot that is read as data -/
def RdS (K : PySem.W.Frag) (s : Sl) (d : PyData) : Prop := ∀ B F0 F H σ ρ (i : Nat), Cfg B F0 F H σ ρ → ρ[i]? = some s → ∃ v, σ[i]? = some (some v) ∧ Dp K H v d
section
variable {K : PySem.W.Frag} {B F0 : Hp} {ρ : List Sl} {te ta tb tc : TE} {f g : Pd} {d e : PyData} {ds es : List PyData}
theorem rd_sa : RdS K (sa K d) d := fun B F0 F H σ ρ i c e => by
  obtain ⟨w, o⟩ := c.own
  obtain ⟨_, v, h1, h2⟩ := o.sl i _ e
  exact ⟨v, h1, dp_mono c.i h2⟩
theorem rd_sn {B' : Hp} : RdS K (sn K B' d) d := fun B F0 F H σ ρ i c e => by
  obtain ⟨w, o⟩ := c.own
  obtain ⟨_, v, h1, h2⟩ := o.sl i _ e
  exact ⟨v, h1, dp_mono c.i (nw_dp h2)⟩
theorem rd_ml {B' : Hp} : RdS K (ml K B' ds) (.list ds) := fun B F0 F H σ ρ i c e => by
  obtain ⟨w, o⟩ := c.own
  obtain ⟨_, v, h1, l, xs, rfl, _, h4, h5⟩ := o.sl i _ e
  exact ⟨_, h1, .lst (.inl (.inl h4)) (dpAll_mono c.i (nwAll_dp h5))⟩
theorem ev_var {i : Nat} (h : ρ[i]? = some (.fz f)) : Ev B F0 ρ (tVar i) f := fun F H σ c Q q => by
  obtain ⟨w, o⟩ := c.own
  obtain ⟨_, v, h1, h2⟩ := o.sl i _ h
  exact ⟨v, h1, q v F H (Gr.refl c.i) h2⟩
theorem evh_var {i : Nat} {s : Sl} (h : ρ[i]? = some s) (r : RdS K s d) : EvH B F0 ρ (tVar i) (dat K d) := fun F H σ c Q q => by
  obtain ⟨v, h1, h2⟩ := r B F0 F H σ ρ i c h
  exact ⟨v, h1, q v F H (Gr.refl c.i) h2⟩
theorem evh_fz {i : Nat} (st : Stab f) (h : ρ[i]? = some (.fz f)) : EvH B F0 ρ (tVar i) f := fun F H σ c Q q => by
  obtain ⟨w, o⟩ := c.own
  obtain ⟨_, v, h1, h2⟩ := o.sl i _ h
  exact ⟨v, h1, q v F H (Gr.refl c.i) (st _ _ _ c.i h2)⟩
theorem evh_md {B' : Hp} {kvs : List (Int × PyData)} {i : Nat} (h : ρ[i]? = some (md K B' kvs)) : EvH B F0 ρ (tVar i) (isDict K kvs) := fun F H σ c Q q => by
  obtain ⟨w, o⟩ := c.own
  obtain ⟨_, v, h1, l, kv, rfl, _, h4, h5⟩ := o.sl i _ h
  exact ⟨_, h1, q _ F H (Gr.refl c.i) ⟨l, kv, rfl, .inl h4, _, kvAll_mono c.i h5⟩⟩
theorem Ev.h (st : Stab f) (h : Ev B F0 ρ te f) : EvH B F0 ρ te f := fun F H σ c Q q => h F H σ c Q fun v F' H' g p => q v F' H' g (st _ _ _ g.i p)
theorem Ev.dat (h : Ev B F0 ρ te (nwd K B d)) : Ev B F0 ρ te (dat K d) := fun F H σ c Q q => h F H σ c Q fun v F' H' g p => q v F' H' g (nw_dp p)
theorem Ev.hd (h : Ev B F0 ρ te (nwd K B d)) : EvH B F0 ρ te (Lay.dat K d) := h.dat.h st_dat
theorem Ev.imp (h : Ev B F0 ρ te f) (k : ∀ F v, f F v → g F v) : Ev B F0 ρ te g := fun F H σ c Q q => h F H σ c Q fun v F' H' gr p => q v F' H' gr (k _ _ p)
/-- what holds no lists may be taken as standing still -/
theorem EvH.nw (h : EvH B F0 ρ te (dat K d)) (fl : flatD d = true) : Ev B F0 ρ te (nwd K B d) := fun F H σ c Q q => h F H σ c Q fun v F' H' g p => by
  obtain ⟨F2, g2, _, p2⟩ := dp_prom (B := B) p fl F' g
  exact q v F2 H' g2 p2
theorem Ev.nwf (h : Ev B F0 ρ te (Lay.dat K d)) (fl : flatD d = true) : Ev B F0 ρ te (nwd K B d) := fun F H σ c Q q => h F H σ c Q fun v F' H' g p => q v F' H' g (dp_nw p fl)
/-- a list read now, its items (no lists) taken as standing still -/
theorem EvH.nwl (h : EvH B F0 ρ te (Lay.dat K (.list ds))) (fl : flatDs ds = true) : ∀ F H σ, Cfg B F0 F H σ ρ → ∀ Q : VK, (∀ v F' H', Gr F H F' H' → (∃ a xs, v = .ref a ∧ SqL K H' a xs ∧ NwAll K B F' xs ds) → Q v H') → te σ H Q := fun F H σ c Q q => h F H σ c Q fun v F' H' g p => by
  cases p with
  | @lst a xs _ h1 h2 =>
    obtain ⟨F2, g2, _, p2⟩ := dpAll_prom (B := B) h2 fl F' g
    exact q _ F2 H' g2 ⟨a, xs, rfl, h1, p2⟩
theorem EvM.nw (h : EvM K B F0 ρ te ds) : Ev B F0 ρ te (nwd K B (.list ds)) := fun F H σ c Q q => h F H σ c Q fun l xs F' H' g hf hn hl a => by
  refine q _ (upd F' l (.lst xs)) H' (g.put (.inl hn) rfl hf hl) (.lst (c.gr.fresh hn) upd_same (nwAll_mono (Same.refl _) (fun b u e => ?_) a))
  rw [upd_ne (ne_of_none e hf)]
  exact e
theorem ev_int {n : Int} : Ev B F0 ρ (tC (.int n)) (nwd K B (.int n)) := fun F H σ c Q q => q _ F H (Gr.refl c.i) (.int n)
theorem ev_bl {n : Bool} : Ev B F0 ρ (tC (.bl n)) (nwd K B (.bool n)) := fun F H σ c Q q => q _ F H (Gr.refl c.i) (.bl n)
theorem ev_non : Ev B F0 ρ (tC .non) (nwd K B .none) := fun F H σ c Q q => q _ F H (Gr.refl c.i) .non
theorem ev_str {x : Str} : Ev B F0 ρ (tC (.str x)) (nwd K B (.str x)) := fun F H σ c Q q => q _ F H (Gr.refl c.i) (.str x)

/-! ### operators on values -/
theorem evo {r : R2} {fa fb : Pd} {z : V} (sa : Stab fa) (ha : EvH B F0 ρ ta fa) (hb : EvH B F0 ρ tb fb) (nz : ∀ F, f F z) (hr : ∀ H x y, fa H x → fb H y → ∀ Q : VK, Q z H → r x y H Q) : Ev B F0 ρ (tOp r ta tb) f := fun F H σ c Q q =>
  ha F H σ c _ fun x F1 H1 g1 p1 => hb F1 H1 σ (c.go g1) _ fun y F2 H2 g2 p2 => hr H2 x y (sa _ _ _ g2.h p1) p2 Q (q z F2 H2 (g1.trans g2) (nz F2))
theorem ev_ii {g : Int → Int → V} {a b c : Int} (ha : EvH B F0 ρ ta (dat K (.int a))) (hb : EvH B F0 ρ tb (dat K (.int b))) (e : g a b = .int c) : Ev B F0 ρ (tOp (rI0 g) ta tb) (nwd K B (.int c)) :=
  evo st_dat ha hb (fun F => .int c) fun H x y hx hy Q q => by
    cases hx; cases hy
    exact ⟨a, b, rfl, rfl, by rw [e]; exact q⟩
theorem ev_ib {g : Int → Int → V} {a b : Int} {c : Bool} (ha : EvH B F0 ρ ta (dat K (.int a))) (hb : EvH B F0 ρ tb (dat K (.int b))) (e : g a b = .bl c) : Ev B F0 ρ (tOp (rI0 g) ta tb) (nwd K B (.bool c)) :=
  evo st_dat ha hb (fun F => .bl c) fun H x y hx hy Q q => by
    cases hx; cases hy
    exact ⟨a, b, rfl, rfl, by rw [e]; exact q⟩
theorem ev_ci {C : Int → Int → Prop} {g : Int → Int → V} {a b c : Int} (ha : EvH B F0 ρ ta (dat K (.int a))) (hb : EvH B F0 ρ tb (dat K (.int b))) (hc : C a b) (e : g a b = .int c) : Ev B F0 ρ (tOp (rI C g) ta tb) (nwd K B (.int c)) :=
  evo st_dat ha hb (fun F => .int c) fun H x y hx hy Q q => by
    cases hx; cases hy
    exact ⟨a, b, rfl, rfl, hc, by rw [e]; exact q⟩
theorem ev_eqI {a b : Int} (ha : EvH B F0 ρ ta (dat K (.int a))) (hb : EvH B F0 ρ tb (dat K (.int b))) : Ev B F0 ρ (tOp rEq ta tb) (nwd K B (.bool (decide (a = b)))) :=
  evo st_dat ha hb (fun F => .bl _) fun H x y hx hy Q q => by
    cases hx; cases hy
    refine ⟨rfl, ?_⟩
    have e : decide (V.int a = V.int b) = decide (a = b) := by
      by_cases h : a = b
      · rw [decide_eq_true h, decide_eq_true (congrArg V.int h)]
      · rw [decide_eq_false h, decide_eq_false fun z => h (V.int.inj z)]
    rw [e]; exact q
theorem ev_neI {a b : Int} (ha : EvH B F0 ρ ta (dat K (.int a))) (hb : EvH B F0 ρ tb (dat K (.int b))) : Ev B F0 ρ (tOp rNe ta tb) (nwd K B (.bool (!decide (a = b)))) :=
  evo st_dat ha hb (fun F => .bl _) fun H x y hx hy Q q => by
    cases hx; cases hy
    refine ⟨rfl, ?_⟩
    have e : decide (V.int a = V.int b) = decide (a = b) := by
      by_cases h : a = b
      · rw [decide_eq_true h, decide_eq_true (congrArg V.int h)]
      · rw [decide_eq_false h, decide_eq_false fun z => h (V.int.inj z)]
    rw [e]; exact q
theorem ev_eqS {a b : Str} (ha : EvH B F0 ρ ta (dat K (.str a))) (hb : EvH B F0 ρ tb (dat K (.str b))) : Ev B F0 ρ (tOp rEq ta tb) (nwd K B (.bool (decide (a = b)))) :=
  evo st_dat ha hb (fun F => .bl _) fun H x y hx hy Q q => by
    cases hx; cases hy
    refine ⟨rfl, ?_⟩
    have e : decide (V.str a = V.str b) = decide (a = b) := by
      by_cases h : a = b
      · rw [decide_eq_true h, decide_eq_true (congrArg V.str h)]
      · rw [decide_eq_false h, decide_eq_false fun z => h (V.str.inj z)]
    rw [e]; exact q
theorem ev_neS {a b : Str} (ha : EvH B F0 ρ ta (dat K (.str a))) (hb : EvH B F0 ρ tb (dat K (.str b))) : Ev B F0 ρ (tOp rNe ta tb) (nwd K B (.bool (!decide (a = b)))) :=
  evo st_dat ha hb (fun F => .bl _) fun H x y hx hy Q q => by
    cases hx; cases hy
    refine ⟨rfl, ?_⟩
    have e : decide (V.str a = V.str b) = decide (a = b) := by
      by_cases h : a = b
      · rw [decide_eq_true h, decide_eq_true (congrArg V.str h)]
      · rw [decide_eq_false h, decide_eq_false fun z => h (V.str.inj z)]
    rw [e]; exact q
theorem ev_eqD (ha : EvH B F0 ρ ta (dat K d)) (hb : EvH B F0 ρ tb (dat K e)) (hd : SeqAt.shaped d = true) (he : SeqAt.shaped e = true) : Ev B F0 ρ (tOp (rEqD K) ta tb) (nwd K B (.bool (PyData.eqv d e))) :=
  evo st_dat ha hb (fun F => .bl _) fun H x y hx hy Q q => ⟨d, e, hx, hy, hd, he, q⟩
theorem ev_neD (ha : EvH B F0 ρ ta (dat K d)) (hb : EvH B F0 ρ tb (dat K e)) (hd : SeqAt.shaped d = true) (he : SeqAt.shaped e = true) : Ev B F0 ρ (tOp (rNeD K) ta tb) (nwd K B (.bool (!PyData.eqv d e))) :=
  evo st_dat ha hb (fun F => .bl _) fun H x y hx hy Q q => ⟨d, e, hx, hy, hd, he, q⟩
theorem inV_ints {a : Int} : ∀ {ns : List Int}, inV (.int a) (ns.map V.int) = decide (a ∈ ns)
  | [] => by simp [inV]
  | n :: r => by
    have ih := inV_ints (a := a) (ns := r)
    unfold inV at ih ⊢
    rw [List.map_cons, List.any_cons, ih]
    show (n == a || decide (a ∈ r)) = decide (a ∈ n :: r)
    by_cases h : n = a
    · subst h; simp
    · have h' : ¬ a = n := fun z => h z.symm
      simp [h, h']
theorem all_flat_ints : ∀ ns : List Int, (ns.map V.int).all flatV = true
  | [] => rfl
  | n :: r => by rw [List.map_cons, List.all_cons, all_flat_ints r]; rfl
theorem ev_inI {neg : Bool} {a : Int} {ns : List Int} (ha : EvH B F0 ρ ta (dat K (.int a))) (hb : EvH B F0 ρ tb (dat K (.list (ns.map .int)))) : Ev B F0 ρ (tOp (rIn K neg) ta tb) (nwd K B (.bool (if neg then !decide (a ∈ ns) else decide (a ∈ ns)))) :=
  evo st_dat ha hb (fun F => .bl _) fun H x y hx hy Q q => by
    cases hx
    cases hy with
    | lst h1 h2 =>
      rw [dpAll_ints h2] at h1
      refine ⟨_, _, rfl, .inl h1, rfl, all_flat_ints ns, ?_⟩
      rw [inV_ints]; exact q
theorem ev_inT {neg : Bool} {a : Int} {ns : List Int} (ha : EvH B F0 ρ ta (dat K (.int a))) (hb : EvH B F0 ρ tb (dat K (.tuple (ns.map .int)))) : Ev B F0 ρ (tOp (rIn K neg) ta tb) (nwd K B (.bool (if neg then !decide (a ∈ ns) else decide (a ∈ ns)))) :=
  evo st_dat ha hb (fun F => .bl _) fun H x y hx hy Q q => by
    cases hx
    cases hy with
    | tup h1 h2 =>
      rw [dpAll_ints h2] at h1
      refine ⟨_, _, rfl, .inr h1, rfl, all_flat_ints ns, ?_⟩
      rw [inV_ints]; exact q
/-- is None, is not None -/
theorem ev_isN {c : Bool} (ha : EvH B F0 ρ ta (dat K d)) (hb : EvH B F0 ρ tb (dat K .none)) (hc : ∀ F v, Dp K F v d → decide (v = .non) = c) : Ev B F0 ρ (tOp (fun x y H Q => y = .non ∧ Q (.bl (decide (x = .non))) H) ta tb) (nwd K B (.bool c)) :=
  evo st_dat ha hb (fun F => .bl _) fun H x y hx hy Q q => by
    cases hy
    exact ⟨rfl, by rw [hc _ _ hx]; exact q⟩
theorem ev_notN {c : Bool} (ha : EvH B F0 ρ ta (dat K d)) (hb : EvH B F0 ρ tb (dat K .none)) (hc : ∀ F v, Dp K F v d → decide (v = .non) = c) : Ev B F0 ρ (tOp (fun x y H Q => y = .non ∧ Q (.bl (!decide (x = .non))) H) ta tb) (nwd K B (.bool (!c))) :=
  evo st_dat ha hb (fun F => .bl _) fun H x y hx hy Q q => by
    cases hy
    exact ⟨rfl, by rw [hc _ _ hx]; exact q⟩
/-! ### items -/
theorem dpAll_atI {F : Hp} {xs : List V} {i : Int} (h : DpAll K F xs ds) (e : atI ds i = some d) : ∃ v, atI xs i = some v ∧ Dp K F v d := by
  unfold atI at e ⊢
  rw [dpAll_len h]
  cases z : ixN ds.length i with
  | none => rw [z] at e; cases e
  | some j =>
    rw [z] at e
    exact dpAll_get h e
theorem nwAll_atI {B F : Hp} {xs : List V} {i : Int} (h : NwAll K B F xs ds) (e : atI ds i = some d) : ∃ v, atI xs i = some v ∧ Nw K B F v d := by
  unfold atI at e ⊢
  rw [nwAll_len h]
  cases z : ixN ds.length i with
  | none => rw [z] at e; cases e
  | some j =>
    rw [z] at e
    exact nwAll_get h e
theorem evh_ixL {i : Int} (ha : EvH B F0 ρ ta (dat K (.list ds))) (hb : EvH B F0 ρ tb (dat K (.int i))) (e : atI ds i = some d) : EvH B F0 ρ (tOp (rIxL K) ta tb) (dat K d) := fun F H σ c Q q =>
  ha F H σ c _ fun x F1 H1 g1 p1 => hb F1 H1 σ (c.go g1) _ fun y F2 H2 g2 p2 => by
    cases p2
    cases p1 with
    | lst h1 h2 =>
      obtain ⟨v, h3, h4⟩ := dpAll_atI h2 e
      exact ⟨_, _, i, v, rfl, rfl, g2.h.seq h1, h3, q v F2 H2 (g1.trans g2) (dp_mono g2.h h4)⟩
theorem ev_ixL {i : Int} (ha : Ev B F0 ρ ta (dat K (.list ds))) (hb : EvH B F0 ρ tb (dat K (.int i))) (e : atI ds i = some d) : Ev B F0 ρ (tOp (rIxL K) ta tb) (dat K d) := fun F H σ c Q q =>
  ha F H σ c _ fun x F1 H1 g1 p1 => hb F1 H1 σ (c.go g1) _ fun y F2 H2 g2 p2 => by
    cases p2
    cases p1 with
    | lst h1 h2 =>
      obtain ⟨v, h3, h4⟩ := dpAll_atI h2 e
      exact ⟨_, _, i, v, rfl, rfl, g2.i.seq (g2.f.seq h1), h3, q v F2 H2 (g1.trans g2) (dp_mono g2.f h4)⟩
theorem ev_ixN {i : Int} (ha : Ev B F0 ρ ta (nwd K B (.list ds))) (hb : EvH B F0 ρ tb (dat K (.int i))) (e : atI ds i = some d) : Ev B F0 ρ (tOp (rIxL K) ta tb) (nwd K B d) := fun F H σ c Q q =>
  ha F H σ c _ fun x F1 H1 g1 p1 => hb F1 H1 σ (c.go g1) _ fun y F2 H2 g2 p2 => by
    cases p2
    cases p1 with
    | lst h0 h1 h2 =>
      obtain ⟨v, h3, h4⟩ := nwAll_atI h2 e
      exact ⟨_, _, i, v, rfl, rfl, .inl (.inl (g2.i _ _ (g2.f _ _ h1))), h3, q v F2 H2 (g1.trans g2) (nw_mono (Same.refl _) g2.f h4)⟩
theorem evh_ixT {i : Int} (ha : EvH B F0 ρ ta (dat K (.tuple ds))) (hb : EvH B F0 ρ tb (dat K (.int i))) (e : atI ds i = some d) : EvH B F0 ρ (tOp (rIxT K) ta tb) (dat K d) := fun F H σ c Q q =>
  ha F H σ c _ fun x F1 H1 g1 p1 => hb F1 H1 σ (c.go g1) _ fun y F2 H2 g2 p2 => by
    cases p2
    cases p1 with
    | tup h1 h2 =>
      obtain ⟨v, h3, h4⟩ := dpAll_atI h2 e
      exact ⟨_, _, i, v, rfl, rfl, sqt_mono g2.h h1, h3, q v F2 H2 (g1.trans g2) (dp_mono g2.h h4)⟩
theorem ev_ixT {i : Int} (ha : Ev B F0 ρ ta (nwd K B (.tuple ds))) (hb : EvH B F0 ρ tb (dat K (.int i))) (e : atI ds i = some d) : Ev B F0 ρ (tOp (rIxT K) ta tb) (nwd K B d) := fun F H σ c Q q =>
  ha F H σ c _ fun x F1 H1 g1 p1 => hb F1 H1 σ (c.go g1) _ fun y F2 H2 g2 p2 => by
    cases p2
    cases p1 with
    | tup h1 h2 =>
      obtain ⟨v, h3, h4⟩ := nwAll_atI h2 e
      exact ⟨_, _, i, v, rfl, rfl, sqt_mono g2.i (sqt_mono g2.f h1), h3, q v F2 H2 (g1.trans g2) (nw_mono (Same.refl _) g2.f h4)⟩
end
end Lay
namespace Lay
open PySem L2

section
variable {K : PySem.W.Frag} {B F0 : Hp} {ρ ρ1 ρ2 : List Sl} {te ta tb tc : TE} {t u : TT} {f g : Pd} {d e : PyData} {ds es : List PyData}
/-! ### tests, truths -/
theorem et_B {c : Bool} (h : EvH B F0 ρ te (dat K (.bool c))) : EvT B F0 ρ (tB te) c := fun F H σ k Q q => h F H σ k _ fun v F' H' g p => by
  cases p
  exact ⟨c, rfl, q F' H' g⟩
theorem et_test {c : Bool} (h : EvH B F0 ρ te (dat K (.bool c))) : EvT B F0 ρ (tTest te) c := fun F H σ k Q q => h F H σ k _ fun v F' H' g p => by
  cases p
  exact ⟨c, rfl, q F' H' g⟩
theorem et_and {a c : Bool} (h1 : EvT B F0 ρ t a) (h2 : a = true → EvT B F0 ρ u c) : EvT B F0 ρ (tAnd t u) (a && c) := fun F H σ k Q q => h1 F H σ k _ fun F1 H1 g1 => by
  cases a with
  | true => exact iteT (h2 rfl F1 H1 σ (k.go g1) _ fun F2 H2 g2 => q F2 H2 (g1.trans g2))
  | false => exact iteF (q F1 H1 g1)
theorem et_or {a c : Bool} (h1 : EvT B F0 ρ t a) (h2 : a = false → EvT B F0 ρ u c) : EvT B F0 ρ (tOr t u) (a || c) := fun F H σ k Q q => h1 F H σ k _ fun F1 H1 g1 => by
  cases a with
  | true => exact iteT (q F1 H1 g1)
  | false => exact iteF (h2 rfl F1 H1 σ (k.go g1) _ fun F2 H2 g2 => q F2 H2 (g1.trans g2))
theorem et_not {a : Bool} (h1 : EvT B F0 ρ t a) : EvT B F0 ρ (tNot t) (!a) := fun F H σ k Q q => h1 F H σ k _ fun F1 H1 g1 => q F1 H1 g1
theorem et_is {a c : Bool} (h : EvT B F0 ρ t a) (e : a = c) : EvT B F0 ρ t c := e ▸ h
theorem ev_is {d' : PyData} (h : Ev B F0 ρ te (nwd K B d)) (e : d = d') : Ev B F0 ρ te (nwd K B d') := e ▸ h
theorem ev_andV {a c : Bool} (h1 : EvH B F0 ρ ta (dat K (.bool a))) (h2 : a = true → Ev B F0 ρ tb (nwd K B (.bool c))) : Ev B F0 ρ (tAndV ta tb) (nwd K B (.bool (a && c))) := fun F H σ k Q q => h1 F H σ k _ fun v F1 H1 g1 p => by
  cases p
  refine ⟨a, rfl, ?_⟩
  cases a with
  | true => exact iteT (h2 rfl F1 H1 σ (k.go g1) _ fun v F2 H2 g2 p2 => q v F2 H2 (g1.trans g2) p2)
  | false => exact iteF (q _ F1 H1 g1 (.bl false))
theorem ev_orV {a c : Bool} (h1 : EvH B F0 ρ ta (dat K (.bool a))) (h2 : a = false → Ev B F0 ρ tb (nwd K B (.bool c))) : Ev B F0 ρ (tOrV ta tb) (nwd K B (.bool (a || c))) := fun F H σ k Q q => h1 F H σ k _ fun v F1 H1 g1 p => by
  cases p
  refine ⟨a, rfl, ?_⟩
  cases a with
  | true => exact iteT (q _ F1 H1 g1 (.bl true))
  | false => exact iteF (h2 rfl F1 H1 σ (k.go g1) _ fun v F2 H2 g2 p2 => q v F2 H2 (g1.trans g2) p2)
theorem ev_notV {a : Bool} (h1 : EvH B F0 ρ ta (dat K (.bool a))) : Ev B F0 ρ (tNotV ta) (nwd K B (.bool (!a))) := fun F H σ k Q q => h1 F H σ k _ fun v F1 H1 g1 p => by
  cases p
  exact ⟨a, rfl, q _ F1 H1 g1 (.bl _)⟩
theorem ev_if {c : Bool} (h : EvT B F0 ρ t c) (h1 : c = true → Ev B F0 ρ ta f) (h2 : c = false → Ev B F0 ρ tb f) : Ev B F0 ρ (tIf t ta tb) f := fun F H σ k Q q => h F H σ k _ fun F1 H1 g1 => by
  cases c with
  | true => exact iteT (h1 rfl F1 H1 σ (k.go g1) _ fun v F2 H2 g2 p2 => q v F2 H2 (g1.trans g2) p2)
  | false => exact iteF (h2 rfl F1 H1 σ (k.go g1) _ fun v F2 H2 g2 p2 => q v F2 H2 (g1.trans g2) p2)

/-! ### arguments, displays -/
def AOk : List Pd → Hp → List V → Prop
  | [], _, vs => vs = []
  | f :: r, H, vs => ∃ v t, vs = v :: t ∧ f H v ∧ AOk r H t
def EvA (B F0 : Hp) (ρ : List Sl) (ta : TA) (fs : List Pd) : Prop := ∀ F H σ, Cfg B F0 F H σ ρ → ∀ Q : List V → Hp → Prop, (∀ vs F' H', Gr F H F' H' → AOk fs H' vs → Q vs H') → ta σ H Q
def EvAs (K : PySem.W.Frag) (B F0 : Hp) (ρ : List Sl) (ta : TA) (ds : List PyData) : Prop := ∀ F H σ, Cfg B F0 F H σ ρ → ∀ Q : List V → Hp → Prop, (∀ vs F' H', Gr F H F' H' → NwAll K B F' vs ds → Q vs H') → ta σ H Q
def EvAd (K : PySem.W.Frag) (B F0 : Hp) (ρ : List Sl) (ta : TA) (ds : List PyData) : Prop := ∀ F H σ, Cfg B F0 F H σ ρ → ∀ Q : List V → Hp → Prop, (∀ vs F' H', Gr F H F' H' → DpAll K F' vs ds → Q vs H') → ta σ H Q
theorem ea_nil : EvA B F0 ρ tNil [] := fun F H σ k Q q => q [] F H (Gr.refl k.i) rfl
theorem ea_cons {tr : TA} {fs : List Pd} (st : Stab f) (h : EvH B F0 ρ te f) (hr : EvA B F0 ρ tr fs) : EvA B F0 ρ (tCons te tr) (f :: fs) := fun F H σ k Q q =>
  h F H σ k _ fun v F1 H1 g1 p => hr F1 H1 σ (k.go g1) _ fun vs F2 H2 g2 p2 => q (v :: vs) F2 H2 (g1.trans g2) ⟨v, vs, rfl, st _ _ _ g2.h p, p2⟩
theorem eas_nil : EvAs K B F0 ρ tNil [] := fun F H σ k Q q => q [] F H (Gr.refl k.i) .nil
theorem eas_cons {tr : TA} (h : Ev B F0 ρ te (nwd K B d)) (hr : EvAs K B F0 ρ tr ds) : EvAs K B F0 ρ (tCons te tr) (d :: ds) := fun F H σ k Q q =>
  h F H σ k _ fun v F1 H1 g1 p => hr F1 H1 σ (k.go g1) _ fun vs F2 H2 g2 p2 => q (v :: vs) F2 H2 (g1.trans g2) (.cons (nw_mono (Same.refl _) g2.f p) p2)
theorem ead_nil : EvAd K B F0 ρ tNil [] := fun F H σ k Q q => q [] F H (Gr.refl k.i) .nil
theorem ead_cons {tr : TA} (h : Ev B F0 ρ te (dat K d)) (hr : EvAd K B F0 ρ tr ds) : EvAd K B F0 ρ (tCons te tr) (d :: ds) := fun F H σ k Q q =>
  h F H σ k _ fun v F1 H1 g1 p => hr F1 H1 σ (k.go g1) _ fun vs F2 H2 g2 p2 => q (v :: vs) F2 H2 (g1.trans g2) (.cons (dp_mono g2.f p) p2)
theorem sz_of {n : Nat} (h : n ≤ 100000) : n ≤ sizeLine := Nat.le_trans h (by decide)
theorem sz_lt {n : Nat} (h : n < 100000) : n < sizeLine := Nat.lt_of_lt_of_le h (by decide)
theorem ev_tup {tr : TA} (h : EvAs K B F0 ρ tr ds) (hl : ds.length ≤ 100000) : Ev B F0 ρ (tTup tr) (nwd K B (.tuple ds)) := fun F H σ k Q q =>
  h F H σ k _ fun vs F1 H1 g1 p => ⟨sz_of (by rw [nwAll_len p]; exact hl), fun a ha => by
    have g2 : Gr F H F1 (upd H1 a (.tup vs)) := g1.trans (Gr.new g1.i ha)
    obtain ⟨F2, g3, s, e⟩ := g2.putT (o := .tup vs) rfl upd_same
    exact q _ F2 _ g3 (.tup (.inl (.inl e)) (nwAll_mono (Same.refl _) s p))⟩
theorem evm_lst {tr : TA} (h : EvAs K B F0 ρ tr ds) (hl : ds.length ≤ 100000) : EvM K B F0 ρ (tLst tr) ds := fun F H σ k Q q =>
  h F H σ k _ fun vs F1 H1 g1 p => ⟨sz_of (by rw [nwAll_len p]; exact hl), fun a ha => by
    have g2 : Gr F H F1 (upd H1 a (.lst vs)) := g1.trans (Gr.new g1.i ha)
    exact q a vs F1 _ g2 (g1.i.free ha) (g1.fresh ha) upd_same p⟩
theorem ev_lstD {tr : TA} (h : EvAd K B F0 ρ tr ds) (hl : ds.length ≤ 100000) : Ev B F0 ρ (tLst tr) (dat K (.list ds)) := fun F H σ k Q q =>
  h F H σ k _ fun vs F1 H1 g1 p => ⟨sz_of (by rw [dpAll_len p]; exact hl), fun a ha => by
    have g2 : Gr F H F1 (upd H1 a (.lst vs)) := g1.trans (Gr.new g1.i ha)
    obtain ⟨F2, g3, s, e⟩ := g2.putN (p := a) (o := .lst vs) (g1.fresh ha) upd_same
    exact q _ F2 _ g3 (.lst (.inl (.inl e)) (dpAll_mono s p))⟩
/-! ### calls of defs that change nothing -/
def Fp (K : PySem.W.Frag) {α : Type} (pre : α → Prop) (args : α → List Pd) (res : α → PyData) : Sp := fun vs H Q _ => ∃ x, pre x ∧ AOk (args x) H vs ∧ ∀ v H', Same H H' → Nw K H H' v (res x) → Q v H'
theorem gr_call {F H H' : Hp} (i : Same F H) (s : Same H H') : Gr F H F H' := ⟨Same.refl _, s, i.trans s, fun _ _ _ _ e => e, fun _ _ e _ => e⟩
theorem ev_call {α : Type} {pre : α → Prop} {args : α → List Pd} {res : α → PyData} {tr : TA} {E : XK} (x : α) (hp : pre x) (h : EvA B F0 ρ tr (args x)) : Ev B F0 ρ (tCall (Fp K pre args res) [] E tr) (nwd K B (res x)) := fun F H σ k Q q =>
  h F H σ k _ fun vs F1 H1 g1 p => ⟨x, hp, by rw [List.append_nil]; exact p, fun v H2 s n => by
    obtain ⟨F2, g2, _, n2⟩ := nw_fix (B := B) (k.go g1).gr.h n F1 (gr_call g1.i s)
    exact q v F2 H2 (g1.trans g2) n2⟩
theorem evm_call {α : Type} {pre : α → Prop} {args : α → List Pd} {res : α → PyData} {tr : TA} {E : XK} (x : α) (hp : pre x) (h : EvA B F0 ρ tr (args x)) (e : res x = .list ds) (fl : flatDs ds = true) : EvM K B F0 ρ (tCall (Fp K pre args res) [] E tr) ds := fun F H σ k Q q =>
  h F H σ k _ fun vs F1 H1 g1 p => ⟨x, hp, by rw [List.append_nil]; exact p, fun v H2 s n => by
    rw [e] at n
    cases n with
    | @lst l xs _ h1 h2 h3 =>
      have g0 := gr_call g1.i s
      have n1 : F1 l = none := g1.i.free h1
      obtain ⟨F2, g2, _, n2⟩ := dpAll_prom (B := B) (nwAll_dp h3) fl F1 (Gr.refl g0.i)
      exact q l xs F2 H2 (g1.trans (g0.trans g2)) (g2.n l _ h2 rfl n1) (g1.fresh h1) h2 n2⟩
theorem ev_meth {α : Type} {C : Addr} {m : Str} {pre : α → Prop} {args : α → List Pd} {res : α → PyData} {tr : TA} {fs : List Pd} {E : XK} (x : α) (hp : pre x) (ha : EvH B F0 ρ ta f) (st : Stab f)
    (hi : ∀ H v, f H v → ∃ a dx fl, v = .ref a ∧ H a = some (.ins C dx fl) ∧ fl.lookup m = none) (h : EvA B F0 ρ tr fs) (e : args x = f :: fs) : Ev B F0 ρ (tMeth C m (Fp K pre args res) [] E ta tr) (nwd K B (res x)) := fun F H σ k Q q =>
  ha F H σ k _ fun v F1 H1 g1 p => by
    obtain ⟨a, dx, fl, rfl, h1, h2⟩ := hi _ _ p
    refine ⟨a, dx, fl, rfl, h1, h2, h F1 H1 σ (k.go g1) _ fun vs F2 H2 g2 p2 => ?_⟩
    refine ⟨x, hp, ?_, fun v H3 s n => ?_⟩
    · rw [e, List.append_nil]
      exact ⟨_, _, rfl, st _ _ _ g2.h p, p2⟩
    · have g := g1.trans g2
      obtain ⟨F3, g3, _, n3⟩ := nw_fix (B := B) (k.go g).gr.h n F2 (gr_call g2.i s)
      exact q v F3 H3 (g.trans g3) n3
/-! ### built-in calls -/
theorem ev_cb {r : List V → Hp → VK → Prop} {tr : TA} {fs : List Pd} {z : V} (h : EvA B F0 ρ tr fs) (nz : ∀ F, f F z) (hr : ∀ H vs, AOk fs H vs → ∀ Q : VK, Q z H → r vs H Q) : Ev B F0 ρ (tCB r tr) f := fun F H σ k Q q =>
  h F H σ k _ fun vs F1 H1 g1 p => hr H1 vs p Q (q z F1 H1 g1 (nz F1))
/-- .. that make a new list -/
theorem evm_cb {r : List V → Hp → VK → Prop} {tr : TA} {fs : List Pd} {R : List V → Prop} (h : EvA B F0 ρ tr fs) (hR : ∀ F xs, R xs → NwAll K B F xs ds)
    (hr : ∀ H vs, AOk fs H vs → ∀ Q : VK, (∀ p xs, H p = none → R xs → Q (.ref p) (upd H p (.lst xs))) → r vs H Q) : EvM K B F0 ρ (tCB r tr) ds := fun F H σ k Q q =>
  h F H σ k _ fun vs F1 H1 g1 p => hr H1 vs p Q fun a xs ha hx => q a xs F1 _ (g1.trans (Gr.new g1.i ha)) (g1.i.free ha) (g1.fresh ha) upd_same (hR F1 xs hx)

/-! ### what changes an owned thing on the way -/
def EvX (B F0 : Hp) (ρ : List Sl) (te : TE) (ρ' : List Sl) (f : Pd) : Prop := ∀ F H σ, Cfg B F0 F H σ ρ → ∀ Q : VK, (∀ v F' H', Cfg B F0 F' H' σ ρ' → f F' v → Q v H') → te σ H Q
theorem Ev.x (h : Ev B F0 ρ te f) : EvX B F0 ρ te ρ f := fun F H σ k Q q => h F H σ k Q fun v F' H' g p => q v F' H' (k.go g) p

/-! ### statements -/
def At (B F0 : Hp) (N : St → Hp → Prop) (ρ : List Sl) : Prop := ∀ F H σ, Cfg B F0 F H σ ρ → N σ H
def Only (is : List Nat) (σ σ' : St) : Prop := σ'.length = σ.length ∧ ∀ j, j ∉ is → σ'[j]? = σ[j]?
def Bind (B F0 : Hp) (g : TG) (is : List Nat) (f : Pd) (ρ ρ' : List Sl) : Prop := ∀ F H σ x, Cfg B F0 F H σ ρ → f F x → ∀ Q : St → Hp → Prop, (∀ σ', Cfg B F0 F H σ' ρ' → Only is σ σ' → Q σ' H) → g x σ H Q
def BindL (K : PySem.W.Frag) (B F0 : Hp) (g : TGs) (is : List Nat) (ds : List PyData) (ρ ρ' : List Sl) : Prop := ∀ F H σ xs, Cfg B F0 F H σ ρ → NwAll K B F xs ds → ∀ Q : St → Hp → Prop, (∀ σ', Cfg B F0 F H σ' ρ' → Only is σ σ' → Q σ' H) → g xs σ H Q
theorem bind_name {i : Nat} (st : Stab f) : Bind B F0 (gName i) [i] f ρ (ρ.set i (.fz f)) := fun F H σ x k p Q q =>
  q _ (k.setF st p) ⟨by simp, fun j hj => by rw [List.getElem?_set_ne (fun e => hj (by rw [e]; exact List.mem_singleton.mpr rfl))]⟩
theorem bindl_nil : BindL K B F0 gNil [] [] ρ ρ := fun F H σ xs k p Q q => by
  cases p
  exact ⟨rfl, q σ k ⟨rfl, fun _ _ => rfl⟩⟩
theorem bindl_cons {g : TG} {gs : TGs} {is js : List Nat} (h1 : Bind B F0 g is (nwd K B d) ρ ρ1) (h2 : BindL K B F0 gs js ds ρ1 ρ2) : BindL K B F0 (gCons g gs) (is ++ js) (d :: ds) ρ ρ2 := fun F H σ xs k p Q q => by
  cases p with
  | @cons v vs _ _ p1 p2 =>
    refine ⟨v, vs, rfl, h1 F H σ v k p1 _ fun σ1 k1 o1 => h2 F H σ1 vs k1 p2 _ fun σ2 k2 o2 => q σ2 k2 ⟨o2.1.trans o1.1, fun j hj => ?_⟩⟩
    rw [o2.2 j fun z => hj (List.mem_append.mpr (.inr z)), o1.2 j fun z => hj (List.mem_append.mpr (.inl z))]
theorem bind_tup {gs : TGs} {is : List Nat} {n : Nat} (h : BindL K B F0 gs is ds ρ ρ1) (hl : ds.length = n) : Bind B F0 (gTup K n gs) is (nwd K B (.tuple ds)) ρ ρ1 := fun F H σ x k p Q q => by
  cases p with
  | @tup a xs _ h1 h2 => exact ⟨a, xs, rfl, sqt_mono k.i h1, by rw [nwAll_len h2]; exact hl, h F H σ xs k h2 Q q⟩
variable {D : Ends} {N : St → Hp → Prop}
theorem at_asg {g : TG} {is : List Nat} (h : EvX B F0 ρ te ρ1 f) (b : Bind B F0 g is f ρ1 ρ2) (k : At B F0 D.nx ρ2) : At B F0 (tAsg te g D) ρ := fun F H σ c =>
  h F H σ c _ fun v F' H' c' p => b F' H' σ v c' p _ fun σ' c2 _ => k F' H' σ' c2
theorem at_set {i : Nat} (h : Ev B F0 ρ te (nwd K B d)) (k : At B F0 D.nx (ρ.set i (sn K B d))) : At B F0 (tAsg te (gName i) D) ρ := at_asg h.x (bind_name st_nwd) k
theorem at_setD {i : Nat} (h : Ev B F0 ρ te (dat K d)) (k : At B F0 D.nx (ρ.set i (sa K d))) : At B F0 (tAsg te (gName i) D) ρ := at_asg h.x (bind_name st_dat) k
theorem at_setF {i : Nat} (st : Stab f) (h : Ev B F0 ρ te f) (k : At B F0 D.nx (ρ.set i (.fz f))) : At B F0 (tAsg te (gName i) D) ρ := at_asg h.x (bind_name st) k
theorem at_setM {i : Nat} (h : EvM K B F0 ρ te ds) (k : At B F0 D.nx (ρ.set i (ml K B ds))) : At B F0 (tAsg te (gName i) D) ρ := fun F H σ c =>
  h F H σ c _ fun l xs F' H' g hf hn hl a => k F' H' _ (c.setN (as := [l]) st_ml g ⟨l, xs, rfl, rfl, hl, a⟩ fun b hb => by
    rw [List.mem_singleton.mp hb]
    exact ⟨hf, hn, _, hl, rfl⟩)
theorem at_setK {i : Nat} (k : At B F0 D.nx (ρ.set i (md K B []))) : At B F0 (tAsg tDNewK (gName i) D) ρ := fun F H σ c p hp =>
  k F _ _ (c.setN (as := [p]) (m := mdP K B []) st_md (Gr.new c.i hp) ⟨p, [], rfl, rfl, upd_same, .nil⟩ fun b hb => by
    rw [List.mem_singleton.mp hb]
    exact ⟨c.i.free hp, hp, _, upd_same, rfl⟩)
theorem at_drop (h : EvX B F0 ρ te ρ1 f) (k : At B F0 D.nx ρ1) : At B F0 (tDrop te D) ρ := fun F H σ c => h F H σ c _ fun v F' H' c' _ => k F' H' σ c'
theorem at_if {c : Bool} {ts us : TS} (h : EvT B F0 ρ t c) (h1 : c = true → At B F0 (ts D) ρ) (h2 : c = false → At B F0 (us D) ρ) : At B F0 (tIfS t ts us D) ρ := fun F H σ k => h F H σ k _ fun F' H' g => by
  cases c with
  | true => exact iteT (h1 rfl F' H' σ (k.go g))
  | false => exact iteF (h2 rfl F' H' σ (k.go g))
theorem at_seq {ts us : TS} (h : At B F0 (ts { D with nx := us D }) ρ) : At B F0 (tSeq ts us D) ρ := h
theorem at_nx (h : At B F0 D.nx ρ) : At B F0 (tNext D) ρ := h
theorem at_ret (h : Ev B F0 ρ te (nwd K B d)) (k : ∀ v H', Same B H' → Nw K B H' v d → D.rt v H') : At B F0 (tRet te D) ρ := fun F H σ c =>
  h F H σ c _ fun v F' H' g p => k v H' (c.go g).gr.h (nw_mono (Same.refl _) g.i p)
/-- an owned list is handed back -/
theorem at_retL {i : Nat} (h : ρ[i]? = some (ml K B ds)) (k : ∀ v H', Same B H' → Nw K B H' v (.list ds) → D.rt v H') : At B F0 (tRet (tVar i) D) ρ := fun F H σ c => by
  obtain ⟨w, o⟩ := c.own
  obtain ⟨_, v, h1, l, xs, rfl, h3, h4, h5⟩ := o.sl i _ h
  obtain ⟨_, hb, _⟩ := o.at_ i l (by rw [h3]; exact List.mem_singleton.mpr rfl)
  exact ⟨_, h1, k _ H c.gr.h (.lst hb h4 (nwAll_mono (Same.refl _) c.i h5))⟩
/-! ### loops -/
structure Wk (J : It) (q : PyData → Pd) (F1 : Hp) (ds : List PyData) : Prop where
  goes : ∀ i H, i < ds.length → Same F1 H → J.go i H
  stops : ∀ H, Same F1 H → J.stop ds.length H
  yields : ∀ i F H x H', i < ds.length → Same F1 F → Same F H → J.yld i H x H' → ∃ F' d, Gr F H F' H' ∧ ds[i]? = some d ∧ q d F' x
def EvI (B F0 : Hp) (ρ : List Sl) (wi : TI) (ρ' : List Sl) (q : PyData → Pd) (ds : List PyData) : Prop := ∀ F H σ, Cfg B F0 F H σ ρ → ∀ R : It → Hp → Prop, (∀ J F' H', Cfg B F0 F' H' σ ρ' → Gr F0 B F' H' → Wk J q F' ds → R J H') → wi σ H R
/-- .. where nothing is changed on the way -/
def EvJ (B F0 : Hp) (ρ : List Sl) (wi : TI) (q : PyData → Pd) (ds : List PyData) : Prop := ∀ F H σ, Cfg B F0 F H σ ρ → ∀ R : It → Hp → Prop, (∀ J F' H', Gr F H F' H' → Wk J q F' ds → R J H') → wi σ H R
theorem EvJ.i {wi : TI} {q : PyData → Pd} (h : EvJ B F0 ρ wi q ds) : EvI B F0 ρ wi ρ q ds := fun F H σ c R r => h F H σ c R fun J F' H' g w => r J F' H' (c.go g) (c.go g).gr w
theorem wk_list {a : Addr} {xs : List V} {F1 : Hp} (h : SqL K F1 a xs) (hd : DpAll K F1 xs ds) : Wk (Itl K a) (dat K) F1 ds where
  goes := fun i H hi s => ⟨xs, xs[i]'(by rw [dpAll_len hd]; exact hi), s.seq h, by simp [dpAll_len hd, hi]⟩
  stops := fun H s => ⟨xs, s.seq h, by rw [dpAll_len hd]; exact Nat.le_refl _⟩
  yields := fun i F H x H' hi s1 s2 y => by
    obtain ⟨rfl, y⟩ := y
    obtain ⟨d, h1, h2⟩ := dpAll_getV hd (y xs ((s1.trans s2).seq h))
    exact ⟨F, d, Gr.refl s2, h1, dp_mono s1 h2⟩
theorem wk_listN {a : Addr} {xs : List V} {F1 : Hp} (h : SqL K F1 a xs) (hd : NwAll K B F1 xs ds) : Wk (Itl K a) (nwd K B) F1 ds where
  goes := fun i H hi s => ⟨xs, xs[i]'(by rw [nwAll_len hd]; exact hi), s.seq h, by simp [nwAll_len hd, hi]⟩
  stops := fun H s => ⟨xs, s.seq h, by rw [nwAll_len hd]; exact Nat.le_refl _⟩
  yields := fun i F H x H' hi s1 s2 y => by
    obtain ⟨rfl, y⟩ := y
    obtain ⟨d, h1, h2⟩ := nwAll_getV hd (y xs ((s1.trans s2).seq h))
    exact ⟨F, d, Gr.refl s2, h1, nw_mono (Same.refl _) s1 h2⟩
theorem evi_listD (h : EvX B F0 ρ te ρ1 (dat K (.list ds))) : EvI B F0 ρ (iList K te) ρ1 (dat K) ds := fun F H σ c R r => h F H σ c _ fun v F' H' c' p => by
  cases p with
  | @lst a xs _ h1 h2 => exact ⟨a, rfl, ⟨xs, c'.i.seq h1⟩, r _ F' H' c' c'.gr (wk_list h1 h2)⟩
theorem evi_list (h : EvX B F0 ρ te ρ1 (nwd K B (.list ds))) : EvI B F0 ρ (iList K te) ρ1 (nwd K B) ds := fun F H σ c R r => h F H σ c _ fun v F' H' c' p => by
  cases p with
  | @lst a xs _ _ h1 h2 => exact ⟨a, rfl, ⟨xs, .inl (.inl (c'.i _ _ h1))⟩, r _ F' H' c' c'.gr (wk_listN (.inl (.inl h1)) h2)⟩
theorem evj_listD (h : Ev B F0 ρ te (dat K (.list ds))) : EvJ B F0 ρ (iList K te) (dat K) ds := fun F H σ c R r => h F H σ c _ fun v F' H' g p => by
  cases p with
  | @lst a xs _ h1 h2 => exact ⟨a, rfl, ⟨xs, g.i.seq h1⟩, r _ F' H' g (wk_list h1 h2)⟩
theorem evj_list (h : Ev B F0 ρ te (nwd K B (.list ds))) : EvJ B F0 ρ (iList K te) (nwd K B) ds := fun F H σ c R r => h F H σ c _ fun v F' H' g p => by
  cases p with
  | @lst a xs _ _ h1 h2 => exact ⟨a, rfl, ⟨xs, .inl (.inl (g.i _ _ h1))⟩, r _ F' H' g (wk_listN (.inl (.inl h1)) h2)⟩
/-- .. an argument's list without lists within -/
theorem evj_listF (h : Ev B F0 ρ te (dat K (.list ds))) (fl : flatDs ds = true) : EvJ B F0 ρ (iList K te) (nwd K B) ds := fun F H σ c R r => h F H σ c _ fun v F' H' g p => by
  cases p with
  | @lst a xs _ h1 h2 => exact ⟨a, rfl, ⟨xs, g.i.seq h1⟩, r _ F' H' g (wk_listN h1 (dpAll_nw h2 fl))⟩
def rangeD (lo : Int) (n : Nat) : List PyData := (List.range n).map fun i : Nat => .int (lo + (i : Int))
theorem rangeD_get {lo : Int} {n i : Nat} (h : i < n) : (rangeD lo n)[i]? = some (.int (lo + (i : Int))) := by
  unfold rangeD
  rw [List.getElem?_map, List.getElem?_range h]
  rfl
theorem wk_range {lo : Int} {n : Nat} {F1 : Hp} : Wk (Itr lo n) (nwd K B) F1 (rangeD lo n) where
  goes := fun i H hi s => by
    have h2 : i < n := by simpa [rangeD] using hi
    exact h2
  stops := fun H s => by simp [rangeD, Itr]
  yields := fun i F H x H' hi s1 s2 y => by
    obtain ⟨rfl, rfl⟩ := y
    exact ⟨F, _, Gr.refl s2, rangeD_get (by simpa [rangeD] using hi), .int _⟩
theorem evj_range1 {tr : TA} {n : Int} (h : EvA B F0 ρ tr [dat K (.int n)]) (h1 : -1000000 ≤ n ∧ n ≤ 1000000) : EvJ B F0 ρ (iRng1 tr) (nwd K B) (rangeD 0 n.toNat) := fun F H σ c R r => h F H σ c _ fun vs F' H' g p => by
  obtain ⟨v, t, rfl, p1, rfl⟩ := p
  cases p1
  exact ⟨n, rfl, by omega, by omega, r _ F' H' g wk_range⟩
theorem evj_range2 {tr : TA} {lo n : Int} (h : EvA B F0 ρ tr [dat K (.int lo), dat K (.int n)]) (h1 : -1000000 ≤ lo ∧ lo ≤ 1000000 ∧ -1000000 ≤ n ∧ n ≤ 1000000) : EvJ B F0 ρ (iRng2 tr) (nwd K B) (rangeD lo (n - lo).toNat) := fun F H σ c R r => h F H σ c _ fun vs F' H' g p => by
  obtain ⟨v, t, rfl, p1, v2, t2, rfl, p2, rfl⟩ := p
  cases p1; cases p2
  exact ⟨lo, n, rfl, ⟨by omega, by omega, by omega, by omega⟩, r _ F' H' g wk_range⟩
/-- enumerate(list): new pairs -/
def enumD (ds : List PyData) : List PyData := ds.zipIdx.map fun p => .tuple [.int (p.2 : Int), p.1]
theorem enumD_get {i : Nat} {d : PyData} (h : ds[i]? = some d) : (enumD ds)[i]? = some (.tuple [.int (i : Int), d]) := by
  unfold enumD
  rw [List.getElem?_map, List.getElem?_zipIdx, h]
  simp
theorem enumD_len : (enumD ds).length = ds.length := by simp [enumD]
theorem wk_enum {a : Addr} {xs : List V} {F1 : Hp} (h : SqL K F1 a xs) (hd : NwAll K B F1 xs ds) : Wk (Ite K a) (nwd K B) F1 (enumD ds) where
  goes := fun i H hi s => by
    rw [enumD_len] at hi
    exact ⟨xs, xs[i]'(by rw [nwAll_len hd]; exact hi), s.seq h, by simp [nwAll_len hd, hi]⟩
  stops := fun H s => ⟨xs, s.seq h, by rw [nwAll_len hd, enumD_len]; exact Nat.le_refl _⟩
  yields := fun i F H x H' hi s1 s2 y => by
    obtain ⟨T, z, rfl, h1, rfl, y⟩ := y
    obtain ⟨d, h3, h4⟩ := nwAll_getV hd (y xs ((s1.trans s2).seq h))
    obtain ⟨F2, g2, s, e⟩ := (Gr.new (o := .tup [.int (i : Nat), z]) s2 h1).putT rfl upd_same
    exact ⟨F2, _, g2, enumD_get h3, .tup (.inl (.inl e)) (.cons (.int _) (.cons (nw_mono (Same.refl _) (s1.trans s) h4) .nil))⟩
theorem evj_enum {tr : TA} (h : ∀ F H σ, Cfg B F0 F H σ ρ → ∀ Q : List V → Hp → Prop, (∀ v F' H', Gr F H F' H' → Nw K B F' v (.list ds) → Q [v] H') → tr σ H Q) : EvJ B F0 ρ (iEnum K tr) (nwd K B) (enumD ds) := fun F H σ c R r => h F H σ c _ fun v F' H' g p => by
  cases p with
  | @lst a xs _ _ h1 h2 => exact ⟨a, xs, rfl, .inl (.inl (g.i _ _ h1)), r _ F' H' g (wk_enum (.inl (.inl h1)) h2)⟩
theorem evj_enumF {tr : TA} (h : ∀ F H σ, Cfg B F0 F H σ ρ → ∀ Q : List V → Hp → Prop, (∀ v F' H', Gr F H F' H' → Dp K F' v (.list ds) → Q [v] H') → tr σ H Q) (fl : flatDs ds = true) : EvJ B F0 ρ (iEnum K tr) (nwd K B) (enumD ds) := fun F H σ c R r => h F H σ c _ fun v F' H' g p => by
  cases p with
  | @lst a xs _ h1 h2 => exact ⟨a, xs, rfl, g.i.seq h1, r _ F' H' g (wk_enum h1 (dpAll_nw h2 fl))⟩
theorem ea_one (h : Ev B F0 ρ te f) : ∀ F H σ, Cfg B F0 F H σ ρ → ∀ Q : List V → Hp → Prop, (∀ v F' H', Gr F H F' H' → f F' v → Q [v] H') → (tCons te tNil) σ H Q := fun F H σ c Q q => h F H σ c _ fun v F' H' g p => q v F' H' g p
/-! the rules for loops -/
def Lp (B F1 : Hp) {α : Type} (Inv : List α → List Sl → Prop) (pre : List α) (σ : St) (H : Hp) : Prop := ∃ F ρ', Cfg B F1 F H σ ρ' ∧ Inv pre ρ'
theorem at_lp {α : Type} {Inv : List α → List Sl → Prop} {pre : List α} (h : Inv pre ρ) : At B F0 (Lp B F0 Inv pre) ρ := fun F H σ c => ⟨F, ρ, c, h⟩
theorem Cfg.up {F1 F H : Hp} {σ : St} (g : Gr F0 B F1 H) (c : Cfg B F1 F H σ ρ) : Cfg B F0 F H σ ρ := ⟨⟨g.f.trans c.gr.f, c.gr.h, c.gr.i, fun a o h t e => c.gr.n a o h t (g.n a o h t e), fun a o e t => g.t a o (c.gr.t a o e t) t⟩, c.len, c.own⟩
theorem at_for {α : Type} {xs : List α} {e : α → PyData} {q : PyData → Pd} {wi : TI} {g : TG} {tb : TS} (hw : EvI B F0 ρ wi ρ1 q (xs.map e)) (Inv : List α → List Sl → Prop) (h0 : Inv [] ρ1)
    (hs : ∀ F1 pre x post ρ', xs = pre ++ x :: post → Inv pre ρ' → ∃ is ρ2, Bind B F1 g is (q (e x)) ρ' ρ2 ∧ At B F1 (tb { D with nx := Lp B F1 Inv (pre ++ [x]), ct := Lp B F1 Inv (pre ++ [x]), bk := D.nx }) ρ2)
    (hd : ∀ ρ', Inv xs ρ' → At B F0 D.nx ρ') : At B F0 (tFor wi g tb D) ρ := fun F H σ c => by
  refine hw F H σ c _ fun J F1 H1 c1 g1 w => ?_
  have up0 : ∀ a o, B a = some o → isTup o = false → F0 a = none → F1 a = none := c1.gr.n
  have upc : ∀ {F H : Hp} {σ : St} {ρ : List Sl}, Cfg B F1 F H σ ρ → Cfg B F0 F H σ ρ := fun {F H σ ρ} c =>
    ⟨⟨c1.gr.f.trans c.gr.f, c.gr.h, c.gr.i, fun a o h t e => c.gr.n a o h t (up0 a o h t e), fun a o e t => c1.gr.t a o (c.gr.t a o e t) t⟩, c.len, c.own⟩
  refine ⟨fun i m σ H => m = xs.length - i ∧ i ≤ xs.length ∧ Lp B F1 Inv (xs.take i) σ H, ⟨xs.length, by simp, Nat.zero_le _, F1, ρ1, ?_, by simpa using h0⟩, ?_⟩
  · exact ⟨⟨Same.refl _, c1.gr.h, c1.gr.i, fun a o h t e => e, fun _ _ e _ => e⟩, c1.len, c1.own⟩
  · rintro i m σ' H' ⟨rfl, hi, F', ρ', c', inv⟩
    have sF : Same F1 H' := c'.gr.f.trans c'.gr.i
    by_cases hlt : i < xs.length
    · have hl : i < (xs.map e).length := by simpa using hlt
      refine .inr ⟨w.goes i H' hl sF, Lp B F1 Inv (xs.take (i + 1)), fun σ2 H2 l2 => ⟨xs.length - (i + 1), by omega, rfl, hlt, l2⟩, fun x H2 y => ?_⟩
      obtain ⟨F2, d, g2, hd2, p2⟩ := w.yields i F' H' x H2 hl c'.gr.f c'.i y
      have ex : xs = xs.take i ++ xs[i] :: xs.drop (i + 1) := by
        rw [List.getElem_cons_drop, List.take_append_drop]
      have ed : d = e xs[i] := by
        rw [List.getElem?_map, List.getElem?_eq_getElem hlt] at hd2
        exact (Option.some.inj hd2).symm
      subst ed
      obtain ⟨is, ρ2, b2, k2⟩ := hs F1 (xs.take i) xs[i] (xs.drop (i + 1)) ρ' ex inv
      have et : xs.take (i + 1) = xs.take i ++ [xs[i]] := by
        rw [List.take_succ, List.getElem?_eq_getElem hlt]; rfl
      rw [et]
      exact b2 F2 H2 σ' x (c'.go g2) p2 _ fun σ3 c3 _ => k2 F2 H2 σ3 c3
    · have ei : i = xs.length := by omega
      subst ei
      rw [List.take_length] at inv
      exact .inl ⟨by have := w.stops H' sF; simpa using this, hd ρ' inv F' H' σ' (upc c')⟩
def Lw (B F0 : Hp) (Inv : Nat → List Sl → Prop) (m : Nat) (σ : St) (H : Hp) : Prop := ∃ m', m' < m ∧ ∃ F ρ', Cfg B F0 F H σ ρ' ∧ Inv m' ρ'
theorem at_lw {Inv : Nat → List Sl → Prop} {m m' : Nat} (h : Inv m' ρ) (hm : m' < m) : At B F0 (Lw B F0 Inv m) ρ := fun F H σ c => ⟨m', hm, F, ρ, c, h⟩
theorem at_while {tb : TS} (Inv : Nat → List Sl → Prop) (m0 : Nat) (h0 : Inv m0 ρ)
    (hs : ∀ m ρ', Inv m ρ' → ∃ c, EvT B F0 ρ' t c ∧ (c = true → At B F0 (tb { D with nx := Lw B F0 Inv m, ct := Lw B F0 Inv m, bk := D.nx }) ρ') ∧ (c = false → At B F0 D.nx ρ')) : At B F0 (tWhile t tb D) ρ := fun F H σ c => by
  refine ⟨fun m σ H => ∃ F ρ', Cfg B F0 F H σ ρ' ∧ Inv m ρ', ⟨m0, F, ρ, c, h0⟩, ?_⟩
  rintro m σ' H' ⟨F', ρ', c', inv⟩
  obtain ⟨k, e1, e2, e3⟩ := hs m ρ' inv
  refine e1 F' H' σ' c' _ fun F2 H2 g2 => ?_
  cases k with
  | true => exact iteT ⟨Lw B F0 Inv m, fun σ3 H3 l => l, e2 rfl F2 H2 σ' (c'.go g2)⟩
  | false => exact iteF (e3 rfl F2 H2 σ' (c'.go g2))
end
end Lay
namespace Lay
open PySem L2

/-! ### comprehensions -/
def wipeR (ρ : List Sl) : List Nat → List Sl
  | [] => ρ
  | v :: vs => (wipeR ρ vs).set v .no
theorem wipe_get (σ : St) (i : Nat) : ∀ vs : List Nat, (wipe σ vs)[i]? = if i ∈ vs then (if i < σ.length then some none else none) else σ[i]?
  | [] => by simp [wipe]
  | v :: vs => by
    have ih := wipe_get σ i vs
    show ((wipe σ vs).set v none)[i]? = _
    by_cases h : v = i
    · subst h
      by_cases hl : v < σ.length
      · rw [List.getElem?_set_self (by rw [wipe_length]; exact hl)]
        simp [hl]
      · rw [List.getElem?_eq_none (by rw [List.length_set, wipe_length]; omega)]
        simp [hl]
    · rw [List.getElem?_set_ne h, ih]
      have h' : ¬ i = v := fun z => h z.symm
      simp [h']
theorem wipeR_len (ρ : List Sl) : ∀ vs : List Nat, (wipeR ρ vs).length = ρ.length
  | [] => rfl
  | v :: vs => by
    show ((wipeR ρ vs).set v .no).length = _
    rw [List.length_set, wipeR_len]
theorem wipeR_get (ρ : List Sl) (i : Nat) (s : Sl) : ∀ vs : List Nat, (wipeR ρ vs)[i]? = some s → s = Sl.no ∨ (i ∉ vs ∧ ρ[i]? = some s)
  | [], h => .inr ⟨by simp, h⟩
  | v :: vs, h => by
    have h : ((wipeR ρ vs).set v .no)[i]? = some s := h
    by_cases e : v = i
    · subst e
      by_cases hl : v < (wipeR ρ vs).length
      · rw [List.getElem?_set_self hl] at h
        exact .inl (Option.some.inj h).symm
      · rw [List.getElem?_eq_none (by rw [List.length_set]; omega)] at h
        cases h
    · rw [List.getElem?_set_ne e] at h
      rcases wipeR_get ρ i s vs h with z | ⟨z1, z2⟩
      · exact .inl z
      · exact .inr ⟨by simp only [List.mem_cons, not_or]; exact ⟨fun q => e q.symm, z1⟩, z2⟩
theorem Cfg.wipe {B F0 F H : Hp} {σ : St} {ρ : List Sl} (c : Cfg B F0 F H σ ρ) (vs : List Nat) : Cfg B F0 F H (wipe σ vs) (wipeR ρ vs) :=
  c.less (by rw [wipe_length, wipeR_len, c.len]) fun i s h => by
    rcases wipeR_get ρ i s vs h with z | ⟨z1, z2⟩
    · exact .inl z
    · exact .inr ⟨z2, by rw [wipe_get, if_neg z1]⟩
theorem wipe_only {σ σ' : St} {is vs : List Nat} (o : Only is (wipe σ vs) σ') (h : ∀ j ∈ is, j ∈ vs) : wipe σ' vs = wipe σ vs := by
  apply List.ext_getElem?
  intro i
  have l : σ'.length = σ.length := by rw [o.1, wipe_length]
  rw [wipe_get, wipe_get, l]
  by_cases hi : i ∈ vs
  · rw [if_pos hi, if_pos hi]
  · rw [if_neg hi, if_neg hi, o.2 i fun z => hi (h i z), wipe_get, if_neg hi]

section
variable {K : PySem.W.Frag} {B F0 : Hp} {ρ ρ1 ρ2 : List Sl} {te ta tb tc : TE} {t u : TT} {f g : Pd} {d e : PyData} {ds es : List PyData}
theorem evm_lc {α : Type} {xs : List α} {e : α → PyData} {q : PyData → Pd} {wi : TI} {g : TG} {tt : TT} {vs : List Nat} (p : α → Bool) (f : α → PyData) (hw : EvJ B F0 ρ wi q (xs.map e))
    (hb : ∀ F1 x, x ∈ xs → ∃ is ρ2, Bind B F1 g is (q (e x)) (wipeR ρ vs) ρ2 ∧ (∀ j ∈ is, j ∈ vs) ∧ EvT B F1 ρ2 tt (p x) ∧ (p x = true → Ev B F1 ρ2 te (nwd K B (f x)))) (hz : xs.length ≤ 100000) :
    EvM K B F0 ρ (tLc wi g tt te vs) ((xs.filter p).map f) := fun F H σ c Q k => by
  refine hw F H σ c _ fun J F1 H1 g1 w D hD => ?_
  have c1 := c.go g1
  -- at turn i: what stands still is F', the new list at D holds what is made so far
  refine ⟨fun i m H' => m = xs.length - i ∧ i ≤ xs.length ∧ ∃ F' acc, Gr F1 H1 F' H' ∧ F' D = none ∧ H' D = some (.lst acc) ∧ NwAll K B F' acc (((xs.take i).filter p).map f),
    ⟨xs.length, by simp, Nat.zero_le _, F1, [], Gr.new g1.i hD, g1.i.free hD, upd_same, by simpa using NwAll.nil⟩, ?_⟩
  rintro i m H' ⟨rfl, hi, F', acc, g', fD, hD', na⟩
  have sF : Same F1 H' := g'.f.trans g'.i
  by_cases hlt : i < xs.length
  · have hl : i < (xs.map e).length := by simpa using hlt
    have et : xs.take (i + 1) = xs.take i ++ [xs[i]] := by
      rw [List.take_succ, List.getElem?_eq_getElem hlt]; rfl
    refine .inr ⟨w.goes i H' hl sF, fun H2 => ∃ F' acc, Gr F1 H1 F' H2 ∧ F' D = none ∧ H2 D = some (.lst acc) ∧ NwAll K B F' acc (((xs.take (i + 1)).filter p).map f), fun H2 l2 => ⟨xs.length - (i + 1), by omega, rfl, hlt, l2⟩, fun x H2 y => ?_⟩
    obtain ⟨F2, d, g2, hd2, p2⟩ := w.yields i F' H' x H2 hl g'.f g'.i y
    have ed : d = e xs[i] := by
      rw [List.getElem?_map, List.getElem?_eq_getElem hlt] at hd2
      exact (Option.some.inj hd2).symm
    subst ed
    obtain ⟨is, ρ2, b2, hj, t2, e2⟩ := hb F1 xs[i] (List.getElem_mem hlt)
    have cw : Cfg B F1 F2 H2 (wipe σ vs) (wipeR ρ vs) := by
      have c2 := (c.go (g1.trans (g'.trans g2))).wipe vs
      exact ⟨⟨g'.f.trans g2.f, c2.gr.h, c2.gr.i, fun a o h t z => (g'.trans g2).n a o (c1.gr.h a o h) t z, (g'.trans g2).t⟩, c2.len, c2.own⟩
    refine b2 F2 H2 (wipe σ vs) x cw p2 _ fun σ3 c3 o3 => ⟨wipe_only o3 hj, t2 F2 H2 σ3 c3 _ fun F3 H3 g3 => ?_⟩
    have hD3 : H3 D = some (.lst acc) := g3.h _ _ (g2.h _ _ hD')
    have fD3 : F3 D = none := g3.n D _ (g2.h _ _ hD') rfl (g2.n D _ hD' rfl fD)
    have gg : Gr F1 H1 F3 H3 := g'.trans (g2.trans g3)
    cases hp : p xs[i] with
    | false =>
      refine iteF ⟨F3, acc, gg, fD3, hD3, ?_⟩
      rw [et, List.filter_append, List.map_append]
      have : ([xs[i]].filter p).map f = [] := by simp [hp]
      rw [this, List.append_nil]
      exact nwAll_mono (Same.refl _) (g2.f.trans g3.f) na
    | true =>
      refine iteT (e2 hp F3 H3 σ3 (c3.go g3) _ fun v F4 H4 g4 p4 => ⟨acc, g4.h _ _ hD3, ?_, F4, acc ++ [v], ?_, g4.n D _ hD3 rfl fD3, upd_same, ?_⟩)
      · refine sz_lt ?_
        rw [nwAll_len na, List.length_map]
        have h1 : ((xs.take i).filter p).length ≤ (xs.take i).length := List.length_filter_le _ _
        rw [List.length_take] at h1
        omega
      · have g5 : Gr F1 H1 F4 H4 := gg.trans g4
        refine ⟨g5.f, fun a o h => ?_, fun a o h => ?_, g5.n, g5.t⟩
        · rw [upd_ne (ne_of_none h hD)]; exact g5.h a o h
        · have : a ≠ D := ne_of_none h (g4.n D _ hD3 rfl fD3)
          rw [upd_ne this]; exact g5.i a o h
      · rw [et, List.filter_append, List.map_append]
        have : ([xs[i]].filter p).map f = [f xs[i]] := by simp [hp]
        rw [this]
        exact nwAll_app (nwAll_mono (Same.refl _) ((g2.f.trans g3.f).trans g4.f) na) (.cons p4 .nil)
  · have ei : i = xs.length := by omega
    subst ei
    rw [List.take_length] at na
    refine .inl ⟨by have := w.stops H' sF; simpa using this, k D acc F' H' (g1.trans g') fD (g1.fresh hD) hD' na⟩
/-- without a test -/
theorem evm_lc1 {α : Type} {xs : List α} {e : α → PyData} {q : PyData → Pd} {wi : TI} {g : TG} {vs : List Nat} (f : α → PyData) (hw : EvJ B F0 ρ wi q (xs.map e))
    (hb : ∀ F1 x, x ∈ xs → ∃ is ρ2, Bind B F1 g is (q (e x)) (wipeR ρ vs) ρ2 ∧ (∀ j ∈ is, j ∈ vs) ∧ Ev B F1 ρ2 te (nwd K B (f x))) (hz : xs.length ≤ 100000) :
    EvM K B F0 ρ (tLc wi g tYes te vs) (xs.map f) := by
  have h := evm_lc (K := K) (B := B) (F0 := F0) (ρ := ρ) (te := te) (wi := wi) (g := g) (tt := tYes) (vs := vs) (fun _ : α => true) f hw (fun F1 x hx => by
    obtain ⟨is, ρ2, h1, h2, h3⟩ := hb F1 x hx
    exact ⟨is, ρ2, h1, h2, fun F H σ c Q q => q F H (Gr.refl c.i), fun _ => h3⟩) hz
  have e2 : xs.filter (fun _ => true) = xs := List.filter_eq_self.mpr fun _ _ => rfl
  rw [e2] at h
  exact h

/-! ### owned lists and dicts changed -/
theorem evx_append {i : Nat} (hi : ρ[i]? = some (ml K B ds)) (h : Ev B F0 ρ te (nwd K B d)) (hz : ds.length < 100000) :
    EvX B F0 ρ (tBM K "list" rAppend (tVar i) (tCons te tNil)) (ρ.set i (ml K B (ds ++ [d]))) (nwd K B .none) := fun F H σ c Q q => by
  obtain ⟨w, o⟩ := c.own
  obtain ⟨_, v, h1, l, xs, rfl, h3, h4, h5⟩ := o.sl i _ hi
  refine ⟨_, h1, .inl ⟨rfl, _, SqL.of h4⟩, h F H σ c _ fun y F2 H2 g p => ⟨l, xs, y, rfl, rfl, g.h _ _ h4, sz_lt (by rw [nwAll_len h5]; exact hz), ?_⟩⟩
  refine q _ F2 _ ((c.go g).chg hi st_ml fun v' as e m n => ?_) .non
  obtain ⟨l', xs', rfl, rfl, e4, e5⟩ := m
  rw [h1] at e
  cases e
  rw [g.h _ _ h4] at e4
  cases e4
  refine ⟨⟨l, xs ++ [y], rfl, rfl, upd_same, nwAll_app e5 (.cons p .nil)⟩, fun a ha => upd_ne fun z => ha (by rw [z]; exact List.mem_singleton.mpr rfl), fun a ha => ?_⟩
  rw [List.mem_singleton.mp ha]
  exact ⟨_, upd_same, rfl⟩
theorem evx_extend {i : Nat} (hi : ρ[i]? = some (ml K B ds)) (h : Ev B F0 ρ te (nwd K B (.list es))) (hz : ds.length + es.length ≤ 100000) :
    EvX B F0 ρ (tBM K "list" rExtend (tVar i) (tCons te tNil)) (ρ.set i (ml K B (ds ++ es))) (nwd K B .none) := fun F H σ c Q q => by
  obtain ⟨w, o⟩ := c.own
  obtain ⟨_, v, h1, l, xs, rfl, h3, h4, h5⟩ := o.sl i _ hi
  refine ⟨_, h1, .inl ⟨rfl, _, SqL.of h4⟩, h F H σ c _ fun y F2 H2 g p => ?_⟩
  cases p with
  | @lst b zs _ _ p1 p2 =>
    refine ⟨l, b, xs, zs, rfl, rfl, g.h _ _ h4, g.i _ _ p1, sz_of (by rw [nwAll_len h5, nwAll_len p2]; exact hz), ?_⟩
    refine q _ F2 _ ((c.go g).chg hi st_ml fun v' as e m n => ?_) .non
    obtain ⟨l', xs', rfl, rfl, e4, e5⟩ := m
    rw [h1] at e
    cases e
    rw [g.h _ _ h4] at e4
    cases e4
    refine ⟨⟨l, xs ++ zs, rfl, rfl, upd_same, nwAll_app e5 p2⟩, fun a ha => upd_ne fun z => ha (by rw [z]; exact List.mem_singleton.mpr rfl), fun a ha => ?_⟩
    rw [List.mem_singleton.mp ha]
    exact ⟨_, upd_same, rfl⟩
theorem nwAll_dropLast {F : Hp} : ∀ {xs : List V} {ds : List PyData}, NwAll K B F xs ds → NwAll K B F xs.dropLast ds.dropLast := fun {xs ds} h => by
  rw [List.dropLast_eq_take, List.dropLast_eq_take, nwAll_len h]
  exact nwAll_take _ h
theorem evx_pop {i : Nat} (hi : ρ[i]? = some (ml K B ds)) (hd : ds[ds.length - 1]? = some d) :
    EvX B F0 ρ (tBM0 K "list" rPop (tVar i)) (ρ.set i (ml K B ds.dropLast)) (nwd K B d) := fun F H σ c Q q => by
  obtain ⟨w, o⟩ := c.own
  obtain ⟨_, v, h1, l, xs, rfl, h3, h4, h5⟩ := o.sl i _ hi
  obtain ⟨y, e1, e2⟩ := nwAll_get h5 hd
  refine ⟨_, h1, .inl ⟨rfl, _, SqL.of h4⟩, l, xs, y, rfl, rfl, h4, by rw [nwAll_len h5]; exact e1, ?_⟩
  refine q y F _ (c.chg hi st_ml fun v' as e m n => ?_) e2
  obtain ⟨l', xs', rfl, rfl, e4, e5⟩ := m
  rw [h1] at e
  cases e
  rw [h4] at e4
  cases e4
  refine ⟨⟨l, xs.dropLast, rfl, rfl, upd_same, nwAll_dropLast e5⟩, fun a ha => upd_ne fun z => ha (by rw [z]; exact List.mem_singleton.mpr rfl), fun a ha => ?_⟩
  rw [List.mem_singleton.mp ha]
  exact ⟨_, upd_same, rfl⟩
theorem evx_clear {i : Nat} (hi : ρ[i]? = some (ml K B ds)) :
    EvX B F0 ρ (tBM0 K "list" rClear (tVar i)) (ρ.set i (ml K B [])) (nwd K B .none) := fun F H σ c Q q => by
  obtain ⟨w, o⟩ := c.own
  obtain ⟨_, v, h1, l, xs, rfl, h3, h4, h5⟩ := o.sl i _ hi
  refine ⟨_, h1, .inl ⟨rfl, _, SqL.of h4⟩, l, xs, rfl, rfl, h4, ?_⟩
  refine q _ F _ (c.chg hi st_ml fun v' as e m n => ?_) .non
  obtain ⟨l', xs', rfl, rfl, e4, e5⟩ := m
  rw [h1] at e
  cases e
  refine ⟨⟨l, [], rfl, rfl, upd_same, .nil⟩, fun a ha => upd_ne fun z => ha (by rw [z]; exact List.mem_singleton.mpr rfl), fun a ha => ?_⟩
  rw [List.mem_singleton.mp ha]
  exact ⟨_, upd_same, rfl⟩
/-- xs[pop()] : the index's own change comes first to none of the parts -/
theorem evx_ixL {i : Int} (ha : Ev B F0 ρ ta (dat K (.list ds))) (hb : EvX B F0 ρ tb ρ1 (nwd K B (.int i))) (e : atI ds i = some d)
    (hk : ∀ F H σ, Cfg B F0 F H σ ρ → ∀ Q : VK, (∀ v F' H', Cfg B F0 F' H' σ ρ1 → Same F F' → Nw K B F' v (.int i) → Q v H') → tb σ H Q) : EvX B F0 ρ (tOp (rIxL K) ta tb) ρ1 (dat K d) := fun F H σ c Q q =>
  ha F H σ c _ fun x F1 H1 g1 p1 => hk F1 H1 σ (c.go g1) _ fun y F2 H2 c2 s2 p2 => by
    cases p2
    cases p1 with
    | lst h1 h2 =>
      obtain ⟨v, h3, h4⟩ := dpAll_atI h2 e
      exact ⟨_, _, i, v, rfl, rfl, c2.i.seq (s2.seq h1), h3, q v F2 H2 c2 (dp_mono s2 h4)⟩
/-! dicts -/
def lookI (kvs : List (Int × PyData)) (k : Int) : Option PyData := (kvs.find? fun p => p.1 == k).map (·.2)
def putI (kvs : List (Int × PyData)) (k : Int) (d : PyData) : List (Int × PyData) := if (kvs.any fun p => p.1 == k) = true then kvs.map (fun p => if p.1 = k then (p.1, d) else p) else kvs ++ [(k, d)]
theorem kv_len {F : Hp} : ∀ {kv : List (Key × V)} {kvs : List (Int × PyData)}, KvAll K B F kv kvs → kv.length = kvs.length
  | _, _, .nil => rfl
  | _, _, .cons _ a => congrArg (· + 1) (kv_len a)
theorem inl_dec (a k : Int) : decide ((Sum.inl a : Key) = Sum.inl k) = (a == k) := by
  by_cases e : a = k
  · subst e; simp
  · have h : ¬ (Sum.inl a : Key) = Sum.inl k := fun q => e (Sum.inl.inj q)
    rw [decide_eq_false h]
    exact (beq_eq_false_iff_ne.mpr e).symm
theorem kv_look {F : Hp} {k : Int} : ∀ {kv : List (Key × V)} {kvs : List (Int × PyData)}, KvAll K B F kv kvs → (lookI kvs k = none ∧ valV kv (Sum.inl k : Key) = none) ∨ ∃ v d, lookI kvs k = some d ∧ valV kv (Sum.inl k : Key) = some v ∧ Nw K B F v d
  | _, _, .nil => .inl ⟨rfl, rfl⟩
  | _, _, .cons (k := k0) (v := v) (d := d) (kv := kv) (kvs := kvs) h a => by
    by_cases e : k0 = k
    · subst e
      exact .inr ⟨v, d, by simp [lookI], valV_pos rfl, h⟩
    · have e1 : lookI ((k0, d) :: kvs) k = lookI kvs k := by
        have : ((k0, d).1 == k) = false := beq_eq_false_iff_ne.mpr e
        unfold lookI
        rw [List.find?_cons, this]
      have e2 : valV ((Sum.inl k0, v) :: kv) (Sum.inl k : Key) = valV kv (Sum.inl k : Key) := valV_neg fun q => e (Sum.inl.inj q)
      rw [e1, e2]
      exact kv_look a
theorem kv_any {F : Hp} {k : Int} : ∀ {kv : List (Key × V)} {kvs : List (Int × PyData)}, KvAll K B F kv kvs → (kv.any fun p => decide (p.1 = (Sum.inl k : Key))) = (kvs.any fun p => p.1 == k)
  | _, _, .nil => rfl
  | _, _, .cons (k := k0) h a => by
    rw [List.any_cons, List.any_cons, kv_any a, inl_dec]
theorem kv_map {F : Hp} {k : Int} {v : V} (h : Nw K B F v d) : ∀ {kv : List (Key × V)} {kvs : List (Int × PyData)}, KvAll K B F kv kvs → KvAll K B F (kv.map fun p => if p.1 = (Sum.inl k : Key) then (p.1, v) else p) (kvs.map fun p => if p.1 = k then (p.1, d) else p)
  | _, _, .nil => .nil
  | _, _, .cons (k := k0) h0 a => by
    rw [List.map_cons, List.map_cons]
    by_cases e : k0 = k
    · rw [if_pos (by rw [e]), if_pos e]
      exact .cons h (kv_map h a)
    · rw [if_neg (fun q => e (Sum.inl.inj q)), if_neg e]
      exact .cons h0 (kv_map h a)
theorem kv_app {F : Hp} : ∀ {kv kv' : List (Key × V)} {kvs kvs' : List (Int × PyData)}, KvAll K B F kv kvs → KvAll K B F kv' kvs' → KvAll K B F (kv ++ kv') (kvs ++ kvs')
  | _, _, _, _, .nil, b => b
  | _, _, _, _, .cons h a, b => .cons h (kv_app a b)
theorem kv_put {F : Hp} {k : Int} {v : V} {kv : List (Key × V)} {kvs : List (Int × PyData)} (h : Nw K B F v d) (a : KvAll K B F kv kvs) : KvAll K B F (putK kv (Sum.inl k : Key) v) (putI kvs k d) := by
  unfold putK putI
  rw [kv_any a]
  by_cases e : (kvs.any fun p => p.1 == k) = true
  · rw [if_pos e, if_pos e]; exact kv_map h a
  · rw [if_neg e, if_neg e]; exact kv_app a (.cons h .nil)
theorem kv_keys {F : Hp} : ∀ {kv : List (Key × V)} {kvs : List (Int × PyData)}, KvAll K B F kv kvs → kv.map (·.1) = (kvs.map (·.1)).map Sum.inl
  | _, _, .nil => rfl
  | _, _, .cons _ a => by
    rw [List.map_cons, List.map_cons, List.map_cons, kv_keys a]
theorem ev_din {k : Int} {kvs : List (Int × PyData)} (ha : EvH B F0 ρ ta (dat K (.int k))) (hb : EvH B F0 ρ tb (isDict K kvs)) : Ev B F0 ρ (tDIn ta tb) (nwd K B (.bool (lookI kvs k).isSome)) := fun F H σ c Q q =>
  ha F H σ c _ fun x F1 H1 g1 p1 => hb F1 H1 σ (c.go g1) _ fun y F2 H2 g2 ⟨l, kv, e, r, B', a⟩ => by
    cases p1
    refine ⟨l, valV kv (Sum.inl k : Key), e, .inl ⟨kv, Sum.inl k, r, rfl, rfl⟩, q _ F2 H2 (g1.trans g2) ?_⟩
    rcases kv_look (k := k) a with ⟨h1, h2⟩ | ⟨v, d, h1, h2, _⟩
    · rw [h1, h2]; exact .bl _
    · rw [h1, h2]; exact .bl _
theorem ev_dnotin {k : Int} {kvs : List (Int × PyData)} (ha : EvH B F0 ρ ta (dat K (.int k))) (hb : EvH B F0 ρ tb (isDict K kvs)) : Ev B F0 ρ (tDNotIn ta tb) (nwd K B (.bool (!(lookI kvs k).isSome))) := fun F H σ c Q q =>
  ha F H σ c _ fun x F1 H1 g1 p1 => hb F1 H1 σ (c.go g1) _ fun y F2 H2 g2 ⟨l, kv, e, r, B', a⟩ => by
    cases p1
    refine ⟨l, valV kv (Sum.inl k : Key), e, .inl ⟨kv, Sum.inl k, r, rfl, rfl⟩, q _ F2 H2 (g1.trans g2) ?_⟩
    rcases kv_look (k := k) a with ⟨h1, h2⟩ | ⟨v, d, h1, h2, _⟩
    · rw [h1, h2]; exact .bl _
    · rw [h1, h2]; exact .bl _
/-- d[k], what is held holds no lists -/
theorem evh_dget {k : Int} {kvs : List (Int × PyData)} (ha : EvH B F0 ρ ta (isDict K kvs)) (hb : EvH B F0 ρ tb (dat K (.int k))) (hk : lookI kvs k = some d) : EvH B F0 ρ (tDGet ta tb) (dat K d) := fun F H σ c Q q =>
  ha F H σ c _ fun y F1 H1 g1 ⟨l, kv, e, r, B', a⟩ => hb F1 H1 σ (c.go g1) _ fun x F2 H2 g2 p2 => by
    cases p2
    rcases kv_look (k := k) a with ⟨h1, _⟩ | ⟨v, d', h1, h2, h3⟩
    · rw [hk] at h1; cases h1
    · rw [hk] at h1; cases h1
      exact ⟨l, v, e, .inl ⟨kv, Sum.inl k, rd_mono g2.h r, rfl, h2.symm⟩, q v F2 H2 (g1.trans g2) (dp_mono g2.h (nw_dp h3))⟩
variable {D : Ends}
theorem at_dput {i : Nat} {k : Int} {kvs : List (Int × PyData)} (hi : ρ[i]? = some (md K B kvs)) (hv : Ev B F0 ρ te (nwd K B d)) (hk : EvH B F0 ρ tb (dat K (.int k))) (hz : kvs.length < 100000)
    (n : At B F0 D.nx (ρ.set i (md K B (putI kvs k d)))) : At B F0 (sDPut (tVar i) tb te D) ρ := fun F H σ c => by
  refine hv F H σ c _ fun v F1 H1 g1 p1 => ?_
  have c1 := c.go g1
  obtain ⟨w, o⟩ := c1.own
  obtain ⟨_, v', h1, l, kv, rfl, h3, h4, h5⟩ := o.sl i _ hi
  refine ⟨_, h1, hk F1 H1 σ c1 _ fun x F2 H2 g2 p2 => ?_⟩
  cases p2
  refine ⟨l, _, rfl, .inl ⟨kv, Sum.inl k, g2.h _ _ h4, rfl, sz_lt (by rw [kv_len h5]; exact hz), rfl⟩, n F2 _ σ ((c1.go g2).chg hi st_md fun v' as e m n => ?_)⟩
  obtain ⟨l', kv', rfl, rfl, e4, e5⟩ := m
  rw [h1] at e
  cases e
  rw [g2.h _ _ h4] at e4
  cases e4
  refine ⟨⟨l, _, rfl, rfl, upd_same, kv_put (nw_mono (Same.refl _) g2.f p1) e5⟩, fun a ha => upd_ne fun z => ha (by rw [z]; exact List.mem_singleton.mpr rfl), fun a ha => ?_⟩
  rw [List.mem_singleton.mp ha]
  exact ⟨_, upd_same, rfl⟩
end
end Lay
namespace Lay
open PySem L2 PySem.Spec PyProof.Rows

/-! ### a def of the text, its promise -/
structure Dfn (K : PySem.W.Frag) (mg : Str → Option Value) (x qual : Str) (st : Stmt) (ps : List Str) : Prop where
  ex : ∃ f fd, Fun K x qual st f fd ∧ mg x = some (.ref f) ∧ Binds K fd ps []
structure Mfn (K : PySem.W.Frag) (C : Addr) (m qual : Str) (st : Stmt) (ps : List Str) : Prop where
  ex : ∃ f fd, Fun K m qual st f fd ∧ Meth K C m f ∧ Binds K fd ps []
structure Ok (P : Program) (w : World) (K : PySem.W.Frag) (mg : Str → Option Value) (base : Heap) (C : CXT) (k : Nat) (x : Str) (ps : List Str) (sp : Sp) : Prop where
  ex : ∃ f fd, FnOk P w K mg base C k f fd ps sp ∧ mg x = some (.ref f) ∧ PySem.W.keepIn K (.ref f) = true ∧ Binds K fd ps []
structure OkM (P : Program) (w : World) (K : PySem.W.Frag) (mg : Str → Option Value) (base : Heap) (C : CXT) (k : Nat) (A : Addr) (m : Str) (ps : List Str) (sp : Sp) : Prop where
  ex : ∃ f fd, FnOk P w K mg base C k f fd ps sp ∧ Meth K A m f ∧ Cls K A ∧ Binds K fd ps []
section
variable {X : Cx} {k : Nat} {x m : Str} {ps : List Str} {sp : Sp} {p pos apos : Pos} {e o : Expr} {es : List Expr} {t : TA} {ta : TE} {C : Addr}
theorem ok_call (G : Ok X.prog X.w X.K X.mg X.base CX0 k x ps sp) (hr : Room k X.A) (hg : Gl X x) (ha : PA X (e :: es) t) (hdb : (x == ("__debug__" : Str)) = false := by decide)
    (he : starEach (e :: es) X.env = (false, eval e X.env) :: starEach es X.env := by rfl) (hpl : (backTo pos (starEach es X.env)).any (·.1) = false := by rfl) : PE X (.Call (.Name x p) (e :: es) [] pos) (tCall sp [] E0 t) := by
  obtain ⟨f, fd, F, hm, hk, hb⟩ := G.ex
  exact pe_call F hr hg hm hk hb .nil pass0 ha hdb he hpl
theorem ok_callX (G : Ok X.prog X.w X.K X.mg X.base (L2.CX X.prog X.w) k x ps sp) (hr : Room k X.A) (hg : Gl X x) (ha : PA X (e :: es) t) (hdb : (x == ("__debug__" : Str)) = false := by decide)
    (he : starEach (e :: es) X.env = (false, eval e X.env) :: starEach es X.env := by rfl) (hpl : (backTo pos (starEach es X.env)).any (·.1) = false := by rfl) : PE X (.Call (.Name x p) (e :: es) [] pos) (tCall sp [] E0 t) := by
  obtain ⟨f, fd, F, hm, hk, hb⟩ := G.ex
  exact pe_call F hr hg hm hk hb .nil passL ha hdb he hpl
theorem ok_meth0 {pl : Sem Bool} (G : OkM X.prog X.w X.K X.mg X.base CX0 k C m ps sp) (hr : Room k X.A) (he : PE X o ta)
    (ht : eval (.Call (.Attribute o m apos) [] [] pos) X.env = (do
      let ov ← eval o X.env
      standAt apos.atName
      let (f, first) ← holding [ov] (getMethod ov m pl)
      callWith pos f first (backTo pos (starEach [] X.env)) (backToKw pos (keywordEach [] X.env))) := by rfl) : PE X (.Call (.Attribute o m apos) [] [] pos) (tMeth C m sp [] E0 ta tNil) := by
  obtain ⟨f, fd, F, hm, hc, hb⟩ := G.ex
  exact pe_meth0 he hc hm F hr hb .nil pass0 ht
theorem ok_methX {pl : Sem Bool} (G : OkM X.prog X.w X.K X.mg X.base (L2.CX X.prog X.w) k C m ps sp) (hr : Room k X.A) (he : PE X o ta) (ha : PA X (e :: es) t)
    (hst : starEach (e :: es) X.env = (false, eval e X.env) :: starEach es X.env := by rfl) (hpl : (backTo pos (starEach es X.env)).any (·.1) = false := by rfl)
    (ht : eval (.Call (.Attribute o m apos) (e :: es) [] pos) X.env = (do
      let ov ← eval o X.env
      standAt apos.atName
      let (f, first) ← holding [ov] (getMethod ov m pl)
      callWith pos f first (backTo pos (starEach (e :: es) X.env)) (backToKw pos (keywordEach [] X.env))) := by rfl) : PE X (.Call (.Attribute o m apos) (e :: es) [] pos) (tMeth C m sp [] E0 ta t) := by
  obtain ⟨f, fd, F, hm, hc, hb⟩ := G.ex
  exact pe_meth he hc hm F hr hb .nil passL ha hst hpl ht
theorem Room.units65 {A : Around} (r : Room k A) : A.units + 65 < cLine := by have := r.un; omega
end
section
variable {P : Program} {w : World} {K : PySem.W.Frag} {mg : Str → Option Value} {base : Heap}
theorem aok_len : ∀ {fs : List Pd} {H : Hp} {vs : List V}, AOk fs H vs → vs.length = fs.length
  | [], _, _, h => by rw [show _ = [] from h]; rfl
  | f :: r, H, _, h => by
    obtain ⟨v, t, rfl, _, h2⟩ := h
    rw [List.length_cons, List.length_cons, aok_len h2]
theorem aok_get : ∀ {fs : List Pd} {H : Hp} {vs : List V}, AOk fs H vs → ∀ {i : Nat} {f : Pd}, fs[i]? = some f → ∃ v, vs[i]? = some v ∧ f H v
  | [], _, _, _, i, f, e => by simp at e
  | g :: r, H, _, h, 0, f, e => by
    obtain ⟨v, t, rfl, h1, h2⟩ := h
    simp at e; subst e
    exact ⟨v, rfl, h1⟩
  | g :: r, H, _, h, i + 1, f, e => by
    obtain ⟨v, t, rfl, h1, h2⟩ := h
    obtain ⟨u, q1, q2⟩ := aok_get h2 (i := i) (f := f) (by simpa using e)
    exact ⟨u, by simpa using q1, q2⟩
/-- the slots at a def's entry -/
def enterR (N : Nat) (fs : List Pd) : List Sl := fs.map Sl.fz ++ List.replicate (N - fs.length) Sl.no
theorem cfg_start {N : List Str} {fs : List Pd} {H : Hp} {vs : List V} (h : AOk fs H vs) (st : ∀ f ∈ fs, Stab f) (hl : fs.length ≤ N.length) : Cfg H H H H (L2.start N vs) (enterR N.length fs) := by
  have el := aok_len h
  refine ⟨Gr.refl (Same.refl _), by simp [L2.start, enterR, el], fun _ => [], fun i j a h1 => (List.not_mem_nil h1).elim, fun i a h1 => (List.not_mem_nil h1).elim, fun i s hs => ?_⟩
  unfold enterR at hs
  by_cases hi : i < fs.length
  · rw [List.getElem?_append_left (by simpa using hi), List.getElem?_map, List.getElem?_eq_getElem hi] at hs
    cases hs
    obtain ⟨v, e1, e2⟩ := aok_get h (List.getElem?_eq_getElem hi)
    refine ⟨st _ (List.getElem_mem hi), v, ?_, e2⟩
    unfold L2.start
    rw [List.getElem?_append_left (by simpa [el] using hi), List.getElem?_map, e1]
    rfl
  · rw [List.getElem?_append_right (by simpa using Nat.le_of_not_lt hi), List.getElem?_replicate] at hs
    split at hs
    · cases hs; trivial
    · cases hs
/-- THE RULE for a def that changes nothing and raises nothing -/
theorem fp_ok {x qual : Str} {st : Stmt} {N ps : List Str} {k : Nat} {α : Type} {pre : α → Prop} {args : α → List Pd} {res : α → PyData} (D : Dfn K mg x qual st ps) (S : FnScope N ps (defScope st)) (hN : ps.length ≤ N.length)
    (hlen : ∀ x, (args x).length = ps.length) (stab : ∀ x, ∀ f ∈ args x, Stab f)
    (body : ∀ (f : Addr) (cdv : Value) (A : Around) (outer : List Env) (s : Shared) (H : Hp) (E : XK), Room k (A.deeper (envOfC qual (defScope st) s.heap.objs.size f cdv)) →
      ∃ t, PSs (cxOf CX0 P w K mg base N qual (defScope st) f cdv A outer s H E).nox (defBody st) t ∧
        ∀ x, pre x → ∀ Q : VK, (∀ v H', Same H H' → Nw K H H' v (res x) → Q v H') → At H H (t { nx := fun _ H' => Q .non H', rt := Q }) (enterR N.length (args x))) : Ok P w K mg base CX0 (k + 1) x ps (Fp K pre args res) := by
  obtain ⟨f, fd, F, hg, hb⟩ := D.ex
  refine ⟨f, fd, F.ok S (fun vs H Q E h => ?_) (fun cdv A outer s H vs Q E hr h => ?_), hg, F.kp, hb⟩
  · obtain ⟨z, _, h2, _⟩ := h
    rw [aok_len h2, hlen]
  · obtain ⟨z, h1, h2, h3⟩ := h
    obtain ⟨t, q1, q2⟩ := body f cdv A outer s H E hr
    exact ⟨t, q1, q2 z h1 Q h3 H H _ (cfg_start h2 (stab z) (by rw [hlen]; exact hN))⟩
/-- .. for a method -/
theorem fpm_ok {m qual : Str} {st : Stmt} {N ps : List Str} {k : Nat} {C : Addr} {α : Type} {pre : α → Prop} {args : α → List Pd} {res : α → PyData} (D : Mfn K C m qual st ps) (cl : Cls K C) (S : FnScope N ps (defScope st)) (hN : ps.length ≤ N.length)
    (hlen : ∀ x, (args x).length = ps.length) (stab : ∀ x, ∀ f ∈ args x, Stab f)
    (body : ∀ (f : Addr) (cdv : Value) (A : Around) (outer : List Env) (s : Shared) (H : Hp) (E : XK), Room k (A.deeper (envOfC qual (defScope st) s.heap.objs.size f cdv)) →
      ∃ t, PSs (cxOf CX0 P w K mg base N qual (defScope st) f cdv A outer s H E).nox (defBody st) t ∧
        ∀ x, pre x → ∀ Q : VK, (∀ v H', Same H H' → Nw K H H' v (res x) → Q v H') → At H H (t { nx := fun _ H' => Q .non H', rt := Q }) (enterR N.length (args x))) : OkM P w K mg base CX0 (k + 1) C m ps (Fp K pre args res) := by
  obtain ⟨f, fd, F, hg, hb⟩ := D.ex
  refine ⟨f, fd, F.ok S (fun vs H Q E h => ?_) (fun cdv A outer s H vs Q E hr h => ?_), hg, cl, hb⟩
  · obtain ⟨z, _, h2, _⟩ := h
    rw [aok_len h2, hlen]
  · obtain ⟨z, h1, h2, h3⟩ := h
    obtain ⟨t, q1, q2⟩ := body f cdv A outer s H E hr
    exact ⟨t, q1, q2 z h1 Q h3 H H _ (cfg_start h2 (stab z) (by rw [hlen]; exact hN))⟩
end
/-- the built-in names that the module leaves alone -/
structure Zs (mg : Str → Option Value) : Prop where
  range : mg "range" = none
  len : mg "len" = none
  enumerate : mg "enumerate" = none
  zip : mg "zip" = none
  min : mg "min" = none
  max : mg "max" = none
  sorted : mg "sorted" = none
  sum : mg "sum" = none
  all : mg "all" = none
  list : mg "list" = none
  str : mg "str" = none
  int : mg "int" = none
  bool : mg "bool" = none
  isinstance : mg "isinstance" = none
  set : mg "set" = none
  dict : mg "dict" = none
  tuple : mg "tuple" = none
section
variable {K : PySem.W.Frag} {B F0 : Hp} {ρ : List Sl} {te ta tb : TE} {d e : PyData} {ds es : List PyData}
theorem stab1 {f : Pd} (h : Stab f) : ∀ g ∈ [f], Stab g := fun g hg => by
  rw [List.mem_singleton.mp hg]; exact h
theorem stab0 : ∀ g ∈ ([] : List Pd), Stab g := fun g hg => (List.not_mem_nil hg).elim
theorem stabC {f : Pd} {fs : List Pd} (h : Stab f) (hs : ∀ g ∈ fs, Stab g) : ∀ g ∈ f :: fs, Stab g := fun g hg => by
  rcases List.mem_cons.mp hg with rfl | hg
  · exact h
  · exact hs g hg
/-- an int that comes as an argument -/
theorem rd_arg {d : PyData} : RdS K (.fz (dat K d)) d := rd_sa
/-! len, min, max -/
theorem ev_lenL (h : EvH B F0 ρ te (dat K (.list ds))) : Ev B F0 ρ (tCB (fun xs H Q => ∃ p ys, xs = [.ref p] ∧ (SqL K H p ys ∨ SqT K H p ys) ∧ Q (.int ys.length) H) (tCons te tNil)) (nwd K B (.int ds.length)) :=
  ev_cb (f := nwd K B (.int ds.length)) (z := .int ds.length) (ea_cons st_dat h ea_nil) (fun F => .int _) fun H vs a Q q => by
    obtain ⟨v, t, rfl, p, rfl⟩ := a
    cases p with
    | lst h1 h2 => exact ⟨_, _, rfl, .inl h1, by rw [dpAll_len h2]; exact q⟩
theorem ev_lenT (h : EvH B F0 ρ te (dat K (.tuple ds))) : Ev B F0 ρ (tCB (fun xs H Q => ∃ p ys, xs = [.ref p] ∧ (SqL K H p ys ∨ SqT K H p ys) ∧ Q (.int ys.length) H) (tCons te tNil)) (nwd K B (.int ds.length)) :=
  ev_cb (f := nwd K B (.int ds.length)) (z := .int ds.length) (ea_cons st_dat h ea_nil) (fun F => .int _) fun H vs a Q q => by
    obtain ⟨v, t, rfl, p, rfl⟩ := a
    cases p with
    | tup h1 h2 => exact ⟨_, _, rfl, .inr h1, by rw [dpAll_len h2]; exact q⟩
theorem ev_min2 {a b : Int} (ha : EvH B F0 ρ ta (dat K (.int a))) (hb : EvH B F0 ρ tb (dat K (.int b))) : Ev B F0 ρ (tCB (fun xs H Q => ∃ i j, xs = [.int i, .int j] ∧ Q (.int (if j < i then j else i)) H) (tCons ta (tCons tb tNil))) (nwd K B (.int (min a b))) :=
  ev_cb (f := nwd K B (.int (min a b))) (z := .int (min a b)) (ea_cons st_dat ha (ea_cons st_dat hb ea_nil)) (fun F => .int _) fun H vs a' Q q => by
    obtain ⟨v, t, rfl, p, v2, t2, rfl, p2, rfl⟩ := a'
    cases p; cases p2
    have e : (if b < a then b else a) = min a b := by rw [Int.min_def]; split <;> split <;> omega
    exact ⟨a, b, rfl, by rw [e]; exact q⟩
theorem ev_max2 {a b : Int} (ha : EvH B F0 ρ ta (dat K (.int a))) (hb : EvH B F0 ρ tb (dat K (.int b))) : Ev B F0 ρ (tCB (fun xs H Q => ∃ i j, xs = [.int i, .int j] ∧ Q (.int (if j > i then j else i)) H) (tCons ta (tCons tb tNil))) (nwd K B (.int (max a b))) :=
  ev_cb (f := nwd K B (.int (max a b))) (z := .int (max a b)) (ea_cons st_dat ha (ea_cons st_dat hb ea_nil)) (fun F => .int _) fun H vs a' Q q => by
    obtain ⟨v, t, rfl, p, v2, t2, rfl, p2, rfl⟩ := a'
    cases p; cases p2
    have e : (if b > a then b else a) = max a b := by rw [Int.max_def]; split <;> split <;> omega
    exact ⟨a, b, rfl, by rw [e]; exact q⟩
/-! slices of lists -/
def cutD (ds : List PyData) (lo hi : Option Int) : List PyData := (ds.drop (HT.sIx ds.length 0 lo)).take (HT.sIx ds.length ds.length hi - HT.sIx ds.length 0 lo)
def EvO (K : PySem.W.Frag) (B F0 : Hp) (ρ : List Sl) (to : TO) (o : Option Int) : Prop := ∀ F H σ, Cfg B F0 F H σ ρ → ∀ Q : Option Int → Hp → Prop, (∀ F' H', Gr F H F' H' → Q o H') → to σ H Q
theorem eo_none : EvO K B F0 ρ tNoPart none := fun F H σ c Q q => q F H (Gr.refl c.i)
theorem eo_some {i : Int} (h : EvH B F0 ρ te (dat K (.int i))) : EvO K B F0 ρ (tPart te) (some i) := fun F H σ c Q q => h F H σ c _ fun v F' H' g p => by
  cases p
  exact ⟨i, rfl, q F' H' g⟩
theorem evm_slice {tl th : TO} {lo hi : Option Int} (h : EvH B F0 ρ te (dat K (.list ds))) (fl : flatDs ds = true) (h1 : EvO K B F0 ρ tl lo) (h2 : EvO K B F0 ρ th hi) : EvM K B F0 ρ (tSl (rSlL K) te tl th) (cutD ds lo hi) := fun F H σ c Q q =>
  (h.nwl fl) F H σ c _ fun v F1 H1 g1 p1 => h1 F1 H1 σ (c.go g1) _ fun F2 H2 g2 => h2 F2 H2 σ ((c.go g1).go g2) _ fun F3 H3 g3 => by
    obtain ⟨a, xs, rfl, q1, q2⟩ := p1
    have g := g1.trans (g2.trans g3)
    refine ⟨a, xs, rfl, (g2.h.trans g3.h).seq q1, fun p hp => ?_⟩
    refine q p _ F3 _ (g.trans (Gr.new g.i hp)) (g.i.free hp) (g.fresh hp) upd_same ?_
    have e : xs.length = ds.length := nwAll_len q2
    unfold cutV cutD
    rw [e]
    exact nwAll_take _ (nwAll_drop _ (nwAll_mono (Same.refl _) (g2.f.trans g3.f) q2))
end
end Lay
namespace Lay
open PySem L2
theorem enumD_map {α : Type} (g : α → PyData) (xs : List α) : enumD (xs.map g) = xs.zipIdx.map fun p => .tuple [.int (p.2 : Int), g p.1] := by
  unfold enumD
  rw [List.zipIdx_map, List.map_map]
  rfl
section
variable {K : PySem.W.Frag} {B F0 : Hp} {ρ : List Sl} {te ta tb : TE} {d e : PyData} {ds es : List PyData}
theorem evj_enumX {α : Type} {g : α → PyData} {xs : List α} (h : Ev B F0 ρ te (nwd K B (.list (xs.map g)))) : EvJ B F0 ρ (iEnum K (tCons te tNil)) (nwd K B) (xs.zipIdx.map fun p => .tuple [.int (p.2 : Int), g p.1]) := by
  rw [← enumD_map]
  exact evj_enum (ea_one h)
theorem evj_enumXF {α : Type} {g : α → PyData} {xs : List α} (h : Ev B F0 ρ te (dat K (.list (xs.map g)))) (fl : ∀ x, flatD (g x) = true) : EvJ B F0 ρ (iEnum K (tCons te tNil)) (nwd K B) (xs.zipIdx.map fun p => .tuple [.int (p.2 : Int), g p.1]) := by
  rw [← enumD_map]
  exact evj_enumF (ea_one h) (flatDs_map fl xs)
/-- an item of a list written on the spot -/
theorem ev_pick {tr : TA} {i : Int} (h : EvAs K B F0 ρ tr ds) (hl : ds.length ≤ 100000) (hb : EvH B F0 ρ tb (dat K (.int i))) (e : atI ds i = some d) : Ev B F0 ρ (tOp (rIxL K) (tLst tr) tb) (nwd K B d) := ev_ixN (evm_lst h hl).nw hb e
theorem atI_nn {α : Type} {xs : List α} {i : Int} {x : α} (h : 0 ≤ i) (e : xs[i.toNat]? = some x) : atI xs i = some x := by
  have h2 : i.toNat < xs.length := (List.getElem?_eq_some_iff.mp e).1
  unfold atI ixN
  rw [if_pos h, if_pos (by omega)]
  exact e
theorem atI_map {α β : Type} {xs : List α} {i : Int} {x : α} (g : α → β) (e : atI xs i = some x) : atI (xs.map g) i = some (g x) := by
  unfold atI at e ⊢
  rw [List.length_map]
  cases z : ixN xs.length i with
  | none => rw [z] at e; cases e
  | some j =>
    rw [z] at e
    have e : xs[j]? = some x := e
    show (xs.map g)[j]? = some (g x)
    rw [List.getElem?_map, e]; rfl
end
end Lay
namespace Lay
open PySem L2
/-! the rules of statements with what follows them -/
section
variable {K : PySem.W.Frag} {B F0 : Hp} {ρ ρ1 ρ2 : List Sl} {te ta tb tc : TE} {t : TT} {f g : Pd} {d e : PyData} {ds es : List PyData} {D : Ends} {u ts us : TS}
theorem q_asg {g : TG} {is : List Nat} (h : EvX B F0 ρ te ρ1 f) (b : Bind B F0 g is f ρ1 ρ2) (k : At B F0 (u D) ρ2) : At B F0 (tSeq (tAsg te g) u D) ρ := at_asg (D := { D with nx := u D }) h b k
theorem q_set (K : PySem.W.Frag) {i : Nat} (h : Ev B F0 ρ te (nwd K B d)) (k : At B F0 (u D) (ρ.set i (sn K B d))) : At B F0 (tSeq (tAsg te (gName i)) u D) ρ := at_set (D := { D with nx := u D }) h k
theorem q_setD (K : PySem.W.Frag) {i : Nat} (h : Ev B F0 ρ te (dat K d)) (k : At B F0 (u D) (ρ.set i (sa K d))) : At B F0 (tSeq (tAsg te (gName i)) u D) ρ := at_setD (D := { D with nx := u D }) h k
theorem q_setF {i : Nat} (st : Stab f) (h : Ev B F0 ρ te f) (k : At B F0 (u D) (ρ.set i (.fz f))) : At B F0 (tSeq (tAsg te (gName i)) u D) ρ := at_setF (D := { D with nx := u D }) st h k
theorem q_setM (K : PySem.W.Frag) {i : Nat} (h : EvM K B F0 ρ te ds) (k : At B F0 (u D) (ρ.set i (ml K B ds))) : At B F0 (tSeq (tAsg te (gName i)) u D) ρ := at_setM (D := { D with nx := u D }) h k
theorem q_setK {i : Nat} (K : PySem.W.Frag) (k : At B F0 (u D) (ρ.set i (md K B []))) : At B F0 (tSeq (tAsg tDNewK (gName i)) u D) ρ := at_setK (D := { D with nx := u D }) k
theorem q_drop (h : EvX B F0 ρ te ρ1 f) (k : At B F0 (u D) ρ1) : At B F0 (tSeq (tDrop te) u D) ρ := at_drop (D := { D with nx := u D }) h k
theorem q_if {c : Bool} (h : EvT B F0 ρ t c) (h1 : c = true → At B F0 (ts { D with nx := u D }) ρ) (h2 : c = false → At B F0 (us { D with nx := u D }) ρ) : At B F0 (tSeq (tIfS t ts us) u D) ρ := at_if (D := { D with nx := u D }) h h1 h2
theorem q_when {c : Bool} (h : EvT B F0 ρ t c) (h1 : c = true → At B F0 (ts { D with nx := u D }) ρ) (h2 : c = false → At B F0 (u D) ρ) : At B F0 (tSeq (tIfS t ts tNext) u D) ρ := at_if (D := { D with nx := u D }) h h1 h2
theorem at_when {c : Bool} (h : EvT B F0 ρ t c) (h1 : c = true → At B F0 (ts D) ρ) (h2 : c = false → At B F0 D.nx ρ) : At B F0 (tIfS t ts tNext D) ρ := at_if h h1 h2
theorem q_for {α : Type} {xs : List α} {e : α → PyData} {q : PyData → Pd} {wi : TI} {g : TG} {tb : TS} (hw : EvI B F0 ρ wi ρ1 q (xs.map e)) (Inv : List α → List Sl → Prop) (h0 : Inv [] ρ1)
    (hs : ∀ F1 pre x post ρ', xs = pre ++ x :: post → Inv pre ρ' → ∃ is ρ2, Bind B F1 g is (q (e x)) ρ' ρ2 ∧ At B F1 (tb { D with nx := Lp B F1 Inv (pre ++ [x]), ct := Lp B F1 Inv (pre ++ [x]), bk := u D }) ρ2)
    (hd : ∀ ρ', Inv xs ρ' → At B F0 (u D) ρ') : At B F0 (tSeq (tFor wi g tb) u D) ρ := at_for (D := { D with nx := u D }) hw Inv h0 hs hd
theorem q_while {tb : TS} (Inv : Nat → List Sl → Prop) (m0 : Nat) (h0 : Inv m0 ρ)
    (hs : ∀ m ρ', Inv m ρ' → ∃ c, EvT B F0 ρ' t c ∧ (c = true → At B F0 (tb { D with nx := Lw B F0 Inv m, ct := Lw B F0 Inv m, bk := u D }) ρ') ∧ (c = false → At B F0 (u D) ρ')) : At B F0 (tSeq (tWhile t tb) u D) ρ := at_while (D := { D with nx := u D }) Inv m0 h0 hs
theorem q_dput {i : Nat} {k : Int} {kvs : List (Int × PyData)} (hi : ρ[i]? = some (md K B kvs)) (hv : Ev B F0 ρ te (nwd K B d)) (hk : EvH B F0 ρ tb (dat K (.int k))) (hz : kvs.length < 100000)
    (n : At B F0 (u D) (ρ.set i (md K B (putI kvs k d)))) : At B F0 (tSeq (sDPut (tVar i) tb te) u D) ρ := at_dput (D := { D with nx := u D }) hi hv hk hz n
theorem at_lpD {α : Type} {Inv : List α → List Sl → Prop} {pre : List α} {r : VK} {bk ct : L2.St → Hp → Prop} (h : Inv pre ρ) : At B F0 (Ends.nx ⟨Lp B F0 Inv pre, r, bk, ct⟩) ρ := at_lp h
theorem at_lwD {Inv : Nat → List Sl → Prop} {m m' : Nat} {r : VK} {bk ct : L2.St → Hp → Prop} (h : Inv m' ρ) (hm : m' < m) : At B F0 (Ends.nx ⟨Lw B F0 Inv m, r, bk, ct⟩) ρ := at_lw h hm
theorem at_go {N : L2.St → Hp → Prop} {r : VK} {bk ct : L2.St → Hp → Prop} (h : At B F0 N ρ) : At B F0 (Ends.nx ⟨N, r, bk, ct⟩) ρ := h
theorem at_nxt {N : L2.St → Hp → Prop} {r : VK} {bk ct : L2.St → Hp → Prop} (h : At B F0 N ρ) : At B F0 (tNext ⟨N, r, bk, ct⟩) ρ := h
end
end Lay
namespace Lay
open PySem L2
/-! ### shapes and equality of data -/
def okS (n : Nat) (d : PyData) : Prop := d.canLay0 = true ∧ d.depth ≤ n
theorem okS.mono {n m : Nat} {d : PyData} (h : okS n d) (k : n ≤ m) : okS m d := ⟨h.1, Nat.le_trans h.2 k⟩
theorem okS.shaped {n : Nat} {d : PyData} (h : okS n d) (k : n ≤ 64 := by decide) : SeqAt.shaped d = true := by
  unfold SeqAt.shaped
  rw [h.1, decide_eq_true (Nat.le_trans h.2 k)]
  rfl
theorem okS_int {i : Int} : okS 0 (.int i) := ⟨by rw [PyData.canLay0], by rw [PyData.depth]; exact Nat.le_refl _⟩
theorem okS_bool {i : Bool} : okS 0 (.bool i) := ⟨by rw [PyData.canLay0], by rw [PyData.depth]; exact Nat.le_refl _⟩
theorem okS_none : okS 0 .none := ⟨by rw [PyData.canLay0], by rw [PyData.depth]; exact Nat.le_refl _⟩
theorem okS_all {n : Nat} : ∀ {ds : List PyData}, (∀ d ∈ ds, okS n d) → PyData.canLayAll0 ds = true ∧ PyData.depthAll ds ≤ n
  | [], _ => ⟨by rw [PyData.canLayAll0], by rw [PyData.depthAll]; exact Nat.zero_le _⟩
  | d :: ds, h => by
    have h1 := h d (List.mem_cons.mpr (.inl rfl))
    have h2 := okS_all (n := n) (ds := ds) fun e he => h e (List.mem_cons.mpr (.inr he))
    refine ⟨by rw [PyData.canLayAll0, h1.1, h2.1]; rfl, ?_⟩
    rw [PyData.depthAll]
    have := h1.2
    have := h2.2
    omega
theorem okS_list {n : Nat} {ds : List PyData} (h : ∀ d ∈ ds, okS n d) : okS (n + 1) (.list ds) := by
  have q := okS_all h
  exact ⟨by rw [PyData.canLay0]; exact q.1, by rw [PyData.depth]; have := q.2; omega⟩
theorem okS_tup {n : Nat} {ds : List PyData} (h : ∀ d ∈ ds, okS n d) : okS (n + 1) (.tuple ds) := by
  have q := okS_all h
  exact ⟨by rw [PyData.canLay0]; exact q.1, by rw [PyData.depth]; have := q.2; omega⟩
theorem okS_map {α : Type} {n : Nat} {e : α → PyData} {xs : List α} (h : ∀ x, okS n (e x)) : ∀ d ∈ xs.map e, okS n d := fun d hd => by
  obtain ⟨x, _, rfl⟩ := List.mem_map.mp hd
  exact h x
theorem okS_nil {n : Nat} : ∀ d ∈ ([] : List PyData), okS n d := fun d hd => (List.not_mem_nil hd).elim
theorem okS_cons {n : Nat} {d : PyData} {ds : List PyData} (h : okS n d) (hs : ∀ d ∈ ds, okS n d) : ∀ e ∈ d :: ds, okS n e := fun e he => by
  rcases List.mem_cons.mp he with rfl | he
  · exact h
  · exact hs e he
theorem okS_ints {ns : List Int} : okS 1 (.list (ns.map .int)) := okS_list (okS_map fun _ => okS_int)
abbrev pairD (p : Int × Int) : PyData := .tuple [.int p.1, .int p.2]
abbrev rowD (p : Int × Int × Int) : PyData := .tuple [.int p.1, .int p.2.1, .int p.2.2]
abbrev intsD (ns : List Int) : PyData := .list (ns.map .int)
theorem okS_pair {p : Int × Int} : okS 1 (pairD p) := okS_tup (okS_cons okS_int (okS_cons okS_int okS_nil))
theorem okS_row {p : Int × Int × Int} : okS 1 (rowD p) := okS_tup (okS_cons okS_int (okS_cons okS_int (okS_cons okS_int okS_nil)))
theorem okS_rows {α : Type} {n : Nat} {e : α → PyData} {xs : List α} (h : ∀ x, okS n (e x)) : okS (n + 1) (.list (xs.map e)) := okS_list (okS_map h)
theorem ok60_ints {ns : List Int} : okS 60 (.list (ns.map .int)) := okS_ints.mono (by decide)
theorem ok60_pairs {ns : List (Int × Int)} : okS 60 (.list (ns.map pairD)) := (okS_rows fun _ => okS_pair).mono (by decide)
theorem ok60_rows {ns : List (Int × Int × Int)} : okS 60 (.list (ns.map rowD)) := (okS_rows fun _ => okS_row).mono (by decide)
theorem ok60_intss {ns : List (List Int)} : okS 60 (.list (ns.map intsD)) := (okS_rows fun _ => okS_ints).mono (by decide)
theorem ok60_rowss {ns : List (List (Int × Int × Int))} : okS 60 (.list (ns.map fun r => .list (r.map rowD))) := (okS_rows fun _ => okS_rows fun _ => okS_row).mono (by decide)
theorem ok60_pairss {ns : List (List (Int × Int))} : okS 60 (.list (ns.map fun r => .list (r.map pairD))) := (okS_rows fun _ => okS_rows fun _ => okS_pair).mono (by decide)
theorem eqv_nil {ds : List PyData} : PyData.eqv (.list ds) (.list []) = ds.isEmpty := by
  cases ds with
  | nil => rw [PyData.eqv]; rfl
  | cons d r => rw [PyData.eqv]; rfl
theorem eqv_int {a b : Int} : PyData.eqv (.int a) (.int b) = (a == b) := by rw [PyData.eqv]
/-- equal data are equal values, for data that tell their values -/
theorem eqvAll_map {α : Type} {e : α → PyData} (h : ∀ x y, PyData.eqv (e x) (e y) = true ↔ x = y) : ∀ xs ys : List α, PyData.eqvAll (xs.map e) (ys.map e) = true ↔ xs = ys
  | [], [] => by simp [PyData.eqvAll]
  | [], _ :: _ => by simp [PyData.eqvAll]
  | _ :: _, [] => by simp [PyData.eqvAll]
  | x :: xs, y :: ys => by
    rw [List.map_cons, List.map_cons, PyData.eqvAll, Bool.and_eq_true, h x y, eqvAll_map h xs ys]
    simp
theorem eqv_list {α : Type} {e : α → PyData} (h : ∀ x y, PyData.eqv (e x) (e y) = true ↔ x = y) (xs ys : List α) : PyData.eqv (.list (xs.map e)) (.list (ys.map e)) = true ↔ xs = ys := by
  rw [PyData.eqv]
  exact eqvAll_map h xs ys
theorem eqv_ints (xs ys : List Int) : PyData.eqv (intsD xs) (intsD ys) = true ↔ xs = ys := eqv_list (fun x y => by rw [PyData.eqv]; simp) xs ys
theorem eqv_pair (p q : Int × Int) : PyData.eqv (pairD p) (pairD q) = true ↔ p = q := by
  obtain ⟨a, b⟩ := p
  obtain ⟨c, d⟩ := q
  rw [PyData.eqv, PyData.eqvAll, PyData.eqvAll, PyData.eqvAll, PyData.eqv, PyData.eqv]
  simp
theorem eqv_row (p q : Int × Int × Int) : PyData.eqv (rowD p) (rowD q) = true ↔ p = q := by
  obtain ⟨a, b, c⟩ := p
  obtain ⟨a', b', c'⟩ := q
  rw [PyData.eqv, PyData.eqvAll, PyData.eqvAll, PyData.eqvAll, PyData.eqvAll, PyData.eqv, PyData.eqv, PyData.eqv]
  simp
theorem eqv_same {n : Nat} {d : PyData} (h : okS n d) : PyData.eqv d d = true := SeqAt.eqv_refl d h.1
section
variable {K : PySem.W.Frag} {B F0 : Hp} {ρ : List Sl} {te ta tb : TE} {d e : PyData} {ds es : List PyData}
/-- xs != [], xs == [] -/
theorem ev_neNil (ha : EvH B F0 ρ ta (dat K (.list ds))) (hs : okS 60 (.list ds)) : Ev B F0 ρ (tOp (rNeD K) ta (tLst tNil)) (nwd K B (.bool (!ds.isEmpty))) := by
  have h := ev_neD (K := K) (B := B) (F0 := F0) (ρ := ρ) ha (evm_lst (ds := []) eas_nil (by simp)).nw.hd hs.shaped (okS_list (n := 0) okS_nil).shaped
  rw [eqv_nil] at h
  exact h
theorem ev_eqNil (ha : EvH B F0 ρ ta (dat K (.list ds))) (hs : okS 60 (.list ds)) : Ev B F0 ρ (tOp (rEqD K) ta (tLst tNil)) (nwd K B (.bool ds.isEmpty)) := by
  have h := ev_eqD (K := K) (B := B) (F0 := F0) (ρ := ρ) ha (evm_lst (ds := []) eas_nil (by simp)).nw.hd hs.shaped (okS_list (n := 0) okS_nil).shaped
  rw [eqv_nil] at h
  exact h
/-- an item of an own list without lists within, a list owned or handed in -/
theorem ev_ixF {i : Int} (ha : EvH B F0 ρ ta (dat K (.list ds))) (hb : EvH B F0 ρ tb (dat K (.int i))) (e : atI ds i = some d) (fl : flatD d = true) : Ev B F0 ρ (tOp (rIxL K) ta tb) (nwd K B d) := (evh_ixL ha hb e).nw fl
end
theorem zip_at {α : Type} {xs : List α} {pre post : List (α × Nat)} {c : α} {k : Nat} (h : xs.zipIdx = pre ++ (c, k) :: post) : k = pre.length ∧ k < xs.length ∧ xs[k]? = some c := by
  have h1 : xs.zipIdx[pre.length]? = some (c, k) := by rw [h, List.getElem?_append_right (Nat.le_refl _), Nat.sub_self]; rfl
  rw [List.getElem?_zipIdx] at h1
  cases e : xs[pre.length]? with
  | none => rw [e] at h1; cases h1
  | some x =>
    rw [e] at h1
    have h2 := Option.some.inj h1
    have h3 : x = c := congrArg Prod.fst h2
    have h4 : 0 + pre.length = k := congrArg Prod.snd h2
    have h5 : k = pre.length := by omega
    refine ⟨h5, ?_, ?_⟩
    · rw [h5]; exact (List.getElem?_eq_some_iff.mp e).1
    · rw [h5, e, h3]
end Lay
namespace Lay
open PySem L2

/-! ### things of any kind, isinstance against built-in classes -/
def Kd (K : PySem.W.Frag) (H : Hp) (v : V) : Prop := v = .non ∨ (∃ b, v = .bl b) ∨ (∃ i, v = .int i) ∨ (∃ x, v = .str x) ∨
  ∃ a, v = .ref a ∧ ((∃ xs, SqL K H a xs) ∨ (∃ xs, SqT K H a xs) ∨ ∃ kv, Rd H a (.dK kv))
def kdP (K : PySem.W.Frag) (v0 : V) : Pd := fun H v => v = v0 ∧ Kd K H v0
theorem st_kdP {K : PySem.W.Frag} {v0 : V} : Stab (kdP K v0) := fun F F' v s ⟨e, k⟩ => ⟨e, by
  rcases k with k | k | k | k | ⟨a, e, k⟩
  · exact .inl k
  · exact .inr (.inl k)
  · exact .inr (.inr (.inl k))
  · exact .inr (.inr (.inr (.inl k)))
  · refine .inr (.inr (.inr (.inr ⟨a, e, ?_⟩)))
    rcases k with ⟨xs, k⟩ | ⟨xs, k⟩ | ⟨kv, k⟩
    · exact .inl ⟨xs, s.seq k⟩
    · exact .inr (.inl ⟨xs, sqt_mono s k⟩)
    · exact .inr (.inr ⟨kv, rd_mono s k⟩)⟩
theorem kd_dp {K : PySem.W.Frag} {H : Hp} {v : V} {d : PyData} (h : Dp K H v d) : Kd K H v := by
  cases h with
  | non => exact .inl rfl
  | bl b => exact .inr (.inl ⟨b, rfl⟩)
  | int i => exact .inr (.inr (.inl ⟨i, rfl⟩))
  | str x => exact .inr (.inr (.inr (.inl ⟨x, rfl⟩)))
  | lst h1 _ => exact .inr (.inr (.inr (.inr ⟨_, rfl, .inl ⟨_, h1⟩⟩)))
  | tup h1 _ => exact .inr (.inr (.inr (.inr ⟨_, rfl, .inr (.inl ⟨_, h1⟩)⟩)))
/-- the name of its class -/
theorem kd_ty {K : PySem.W.Frag} {H : Hp} {v : V} (k : Kd K H v) : (v = .non ∧ TyX K H v (.type "NoneType")) ∨ (∃ b, v = .bl b ∧ TyX K H v (.type "bool")) ∨ (∃ i, v = .int i ∧ TyX K H v (.type "int")) ∨ (∃ x, v = .str x ∧ TyX K H v (.type "str")) ∨
    ∃ a, v = .ref a ∧ (((∃ xs, SqL K H a xs) ∧ TyX K H v (.type "list")) ∨ ((∃ xs, SqT K H a xs) ∧ TyX K H v (.type "tuple")) ∨ TyX K H v (.type "dict")) := by
  rcases k with rfl | ⟨b, rfl⟩ | ⟨i, rfl⟩ | ⟨x, rfl⟩ | ⟨a, rfl, k⟩
  · exact .inl ⟨rfl, .base .non⟩
  · exact .inr (.inl ⟨b, rfl, .base (.bl b)⟩)
  · exact .inr (.inr (.inl ⟨i, rfl, .base (.int i)⟩))
  · exact .inr (.inr (.inr (.inl ⟨x, rfl, .base (.str x)⟩)))
  · refine .inr (.inr (.inr (.inr ⟨a, rfl, ?_⟩)))
    rcases k with ⟨xs, k⟩ | ⟨xs, k⟩ | ⟨kv, k | ⟨o, k⟩⟩
    · refine .inl ⟨⟨xs, k⟩, ?_⟩
      rcases k with (k | ⟨o, k⟩) | ⟨o, its, n, k, c, _⟩
      · exact .base (.lst k)
      · exact .base (.frz k)
      · exact .kList k c
    · refine .inr (.inl ⟨⟨xs, k⟩, ?_⟩)
      rcases k with (k | ⟨o, k⟩) | ⟨o, its, n, k, c, _⟩
      · exact .base (.tup k)
      · exact .fTuple k
      · exact .kTuple k c
    · exact .inr (.inr (.base (.dK k)))
    · exact .inr (.inr (.fDict k))
def isI : V → Bool
  | .int _ => true
  | .bl _ => true
  | _ => false
def isB : V → Bool
  | .bl _ => true
  | _ => false
section
variable {K : PySem.W.Frag} {B F0 : Hp} {ρ : List Sl} {te ta tb tc : TE} {d e : PyData} {ds es : List PyData} {f : Pd}
theorem kb {a b : String} {r : Bool} (h : kitB a b = some r) : PySem.W.kitOne K (.type a) (.type b) = some r := kit_ty h
theorem isi_run {H : Hp} {v : V} {n : String} {r : Bool} (t : Value) (ty : TyX K H v t) (h : PySem.W.kitOne K t (.type n) = some r) {Q : VK} (q : Q (.bl r) H) : rIsi K [v, .ty n] H Q :=
  ⟨v, .ty n, t, .type n, r, rfl, .ty n, ty, h, q⟩
theorem ev_isi {v : V} {n : String} {r : Bool} (ha : EvH B F0 ρ ta (kdP K v)) (hk : ∀ H, Kd K H v → ∃ t, TyX K H v t ∧ PySem.W.kitOne K t (.type n) = some r) : Ev B F0 ρ (tCB (rIsi K) (tCons ta (tCons (tC (.ty n)) tNil))) (nwd K B (.bool r)) := fun F H σ c Q q =>
  ha F H σ c _ fun x F1 H1 g1 ⟨e, k⟩ => by
    subst e
    obtain ⟨t, ty, h⟩ := hk H1 k
    exact isi_run t ty h (q _ F1 H1 g1 (.bl r))
theorem isi_int {v : V} {H : Hp} (k : Kd K H v) : ∃ t, TyX K H v t ∧ PySem.W.kitOne K t (.type "int") = some (isI v) := by
  rcases kd_ty k with ⟨rfl, t⟩ | ⟨b, rfl, t⟩ | ⟨i, rfl, t⟩ | ⟨x, rfl, t⟩ | ⟨a, rfl, ⟨_, t⟩ | ⟨_, t⟩ | t⟩
  all_goals exact ⟨_, t, kb (by dsimp only [isI]; decide +kernel)⟩
theorem isi_bool {v : V} {H : Hp} (k : Kd K H v) : ∃ t, TyX K H v t ∧ PySem.W.kitOne K t (.type "bool") = some (isB v) := by
  rcases kd_ty k with ⟨rfl, t⟩ | ⟨b, rfl, t⟩ | ⟨i, rfl, t⟩ | ⟨x, rfl, t⟩ | ⟨a, rfl, ⟨_, t⟩ | ⟨_, t⟩ | t⟩
  all_goals exact ⟨_, t, kb (by dsimp only [isB]; decide +kernel)⟩
theorem kd_var {i : Nat} {v : V} (h : ρ[i]? = some (.fz (kdP K v))) : EvH B F0 ρ (tVar i) (kdP K v) := evh_fz st_kdP h
/-- lo <= x <= hi -/
theorem ev_chain {lo x hi : Int} (ha : EvH B F0 ρ ta (dat K (.int lo))) (hb : EvH B F0 ρ tb (dat K (.int x))) (hc : EvH B F0 ρ tc (dat K (.int hi))) :
    Ev B F0 ρ (tChain (rI0 fun i j => .bl (decide (i ≤ j))) (rI0 fun i j => .bl (decide (i ≤ j))) ta tb tc) (nwd K B (.bool (decide (lo ≤ x) && decide (x ≤ hi)))) := fun F H σ c Q q =>
  ha F H σ c _ fun v1 F1 H1 g1 p1 => hb F1 H1 σ (c.go g1) _ fun v2 F2 H2 g2 p2 => by
    cases p1; cases p2
    refine ⟨lo, x, rfl, rfl, _, rfl, ?_⟩
    cases e : decide (lo ≤ x) with
    | true =>
      refine iteT (hc F2 H2 σ ((c.go g1).go g2) _ fun v3 F3 H3 g3 p3 => ?_)
      cases p3
      refine ⟨x, hi, rfl, rfl, q _ F3 H3 (g1.trans (g2.trans g3)) ?_⟩
      rw [e]
      exact .bl _
    | false =>
      refine iteF (q _ F2 H2 (g1.trans g2) ?_)
      rw [e]
      exact .bl _
end

/-! ### owned things changed, with new things beside -/
/-- what stood stands, but at as -/
structure Ch (as : List Addr) (F H F' H' : Hp) : Prop where
  f : Same F F'
  i : Same F' H'
  h : ∀ a o, a ∉ as → H a = some o → H' a = some o
  n : ∀ a o, H a = some o → isTup o = false → F a = none → F' a = none
  t : ∀ a o, F' a = some o → isTbl o = true → F a = some o
theorem Cfg.chF {B F0 F H F' H' : Hp} {σ : St} {ρ : List Sl} (c : Cfg B F0 F H σ ρ) {i : Nat} {m m' : Hp → Hp → V → List Addr → Prop} (hi : ρ[i]? = some (.mo m)) (st' : MStab m')
    (k : ∀ v as, σ[i]? = some (some v) → m F H v as → m' F' H' v as ∧ Ch as F H F' H' ∧ (∀ a ∈ as, ∃ o, H' a = some o ∧ isTup o = false)) : Cfg B F0 F' H' σ (ρ.set i (.mo m')) := by
  obtain ⟨w, o⟩ := c.own
  obtain ⟨st, v, ev, hm⟩ := o.sl i _ hi
  obtain ⟨q1, q2, q3⟩ := k v (w i) ev hm
  have hl : i < ρ.length := (List.getElem?_eq_some_iff.mp hi).1
  have nf : ∀ a ∈ w i, F' a = none := fun a ha => by
    obtain ⟨h1, _, u, h3, h4⟩ := o.at_ i a ha
    exact q2.n a u h3 h4 h1
  have gB : ∀ a u, B a = some u → H' a = some u := fun a u e =>
    q2.h a u (fun z => by have := (o.at_ i a z).2.1; rw [e] at this; cases this) (c.gr.h a u e)
  refine ⟨⟨c.gr.f.trans q2.f, gB, q2.i, fun a u h t z => q2.n a u (c.gr.h a u h) t (c.gr.n a u h t z), fun a u e t => c.gr.t a u (q2.t a u e t) t⟩, by simp [c.len], w, o.dj, fun j a ha => ?_, fun j s hs => ?_⟩
  · obtain ⟨h1, h2, u, h3, h4⟩ := o.at_ j a ha
    refine ⟨q2.n a u h3 h4 h1, h2, ?_⟩
    by_cases hj : a ∈ w i
    · exact q3 a hj
    · exact ⟨u, q2.h a u hj h3, h4⟩
  · by_cases hj : j = i
    · subst hj
      rw [List.getElem?_set_self hl] at hs
      cases hs
      exact ⟨st', v, ev, q1⟩
    · rw [List.getElem?_set_ne (fun e => hj e.symm)] at hs
      have q := o.sl j s hs
      cases s with
      | no => trivial
      | fz f => obtain ⟨st1, v1, e1, p1⟩ := q; exact ⟨st1, v1, e1, st1 _ _ _ q2.f p1⟩
      | mo m2 =>
        obtain ⟨st2, v2, e2, p2⟩ := q
        refine ⟨st2, v2, e2, st2 _ _ _ _ _ _ q2.f (fun a ha => ?_) p2⟩
        obtain ⟨_, _, u, h3, _⟩ := o.at_ j a ha
        rw [h3, q2.h a u (fun z => hj (o.dj j i a ha z)) h3]

/-! ### towns -/
structure TSt where
  many : Int
  built : Int
  held : List (Int × Int × Int)
/-- the attributes, in the order in which __init__ stores them -/
def tf (n b : Int) (d : Addr) : List (Str × V) := [("many", .int n), ("built", .int b), ("held", .ref d)]
def heldD (h : List (Int × Int × Int)) : List (Int × PyData) := h.map fun p => (p.1, pairD p.2)
def e0 : Hp := fun _ => none
def isTown (K : PySem.W.Frag) (C : Addr) (st : TSt) : Pd := fun H v => ∃ t dx d kv, v = .ref t ∧ H t = some (.ins C dx (tf st.many st.built d)) ∧ H d = some (.dK kv) ∧ KvAll K e0 H kv (heldD st.held)
theorem st_isTown {K : PySem.W.Frag} {C : Addr} {st : TSt} : Stab (isTown K C st) := fun F F' v s ⟨t, dx, d, kv, h1, h2, h3, h4⟩ => ⟨t, dx, d, kv, h1, s _ _ h2, s _ _ h3, kvAll_mono s h4⟩
/-- an owned town -/
def mtP (K : PySem.W.Frag) (C : Addr) (st : TSt) : Hp → Hp → V → List Addr → Prop := fun F H v as => ∃ t dx d kv, v = .ref t ∧ as = [t, d] ∧ H t = some (.ins C dx (tf st.many st.built d)) ∧ H d = some (.dK kv) ∧ KvAll K e0 F kv (heldD st.held)
theorem st_mt {K : PySem.W.Frag} {C : Addr} {st : TSt} : MStab (mtP K C st) := fun F F' H H' v as s e ⟨t, dx, d, kv, h1, h2, h3, h4, h5⟩ => by
  subst h2
  exact ⟨t, dx, d, kv, h1, rfl, by rw [e t (by simp)]; exact h3, by rw [e d (by simp)]; exact h4, kvAll_mono s h5⟩
abbrev mt (K : PySem.W.Frag) (C : Addr) (st : TSt) : Sl := .mo (mtP K C st)
/-- a town as it should be: what the methods keep -/
structure TOk (st : TSt) : Prop where
  lo : 1 ≤ st.many
  hi : st.many ≤ 16
  b0 : 0 ≤ st.built
  b1 : st.built ≤ 100000
  keys : st.held.Pairwise fun p q => p.1 < q.1
  rng : ∀ p ∈ st.held, 0 ≤ p.1 ∧ p.1 < st.built ∧ 0 ≤ p.2.1 ∧ p.2.1 < st.many ∧ 0 ≤ p.2.2 ∧ p.2.2 < st.many ∧ p.2.1 ≠ p.2.2
  few : st.held.length ≤ 60
theorem ks1 : ¬ (("many" : Str) = "built") := by decide +kernel
theorem ks2 : ¬ (("many" : Str) = "held") := by decide +kernel
theorem ks3 : ¬ (("built" : Str) = "held") := by decide +kernel
theorem tf_many {n b : Int} {d : Addr} : (tf n b d).lookup ("many" : Str) = some (.int n) := by
  simp only [tf, List.lookup_cons, show (("many" : Str) == "many") = true from by decide +kernel]
theorem tf_built {n b : Int} {d : Addr} : (tf n b d).lookup ("built" : Str) = some (.int b) := by
  simp only [tf, List.lookup_cons, show (("built" : Str) == "many") = false from by decide +kernel, show (("built" : Str) == "built") = true from by decide +kernel]
theorem tf_held {n b : Int} {d : Addr} : (tf n b d).lookup ("held" : Str) = some (.ref d) := by
  simp only [tf, List.lookup_cons, show (("held" : Str) == "many") = false from by decide +kernel, show (("held" : Str) == "built") = false from by decide +kernel, show (("held" : Str) == "held") = true from by decide +kernel]
theorem tf_no {n b : Int} {d : Addr} {m : Str} (h1 : (m == ("many" : Str)) = false) (h2 : (m == ("built" : Str)) = false) (h3 : (m == ("held" : Str)) = false) : (tf n b d).lookup m = none := by
  simp only [tf, List.lookup_cons, h1, h2, h3]
  rfl
theorem tf_put {n b c : Int} {d : Addr} : putF "built" (.int c) (tf n b d) = tf n c d := by
  show (if ("many" : Str) = "built" then _ else (("many" : Str), V.int n) :: (if ("built" : Str) = "built" then (("built" : Str), V.int c) :: [(("held" : Str), V.ref d)] else _)) = _
  rw [if_neg ks1, if_pos rfl]
  rfl
section
variable {K : PySem.W.Frag} {B F0 : Hp} {ρ : List Sl} {te ta tb tc : TE} {d e : PyData} {ds es : List PyData} {f : Pd} {C : Addr} {st : TSt}
theorem town_in {m : Str} (h1 : (m == ("many" : Str)) = false) (h2 : (m == ("built" : Str)) = false) (h3 : (m == ("held" : Str)) = false) : ∀ H v, isTown K C st H v → ∃ a dx fl, v = .ref a ∧ H a = some (.ins C dx fl) ∧ fl.lookup m = none := fun H v ⟨t, dx, d, kv, e, h, _⟩ =>
  ⟨t, dx, _, e, h, tf_no h1 h2 h3⟩
theorem evh_town {i : Nat} (h : ρ[i]? = some (.fz (isTown K C st))) : EvH B F0 ρ (tVar i) (isTown K C st) := evh_fz st_isTown h
theorem evh_mt {i : Nat} (h : ρ[i]? = some (mt K C st)) : EvH B F0 ρ (tVar i) (isTown K C st) := fun F H σ c Q q => by
  obtain ⟨w, o⟩ := c.own
  obtain ⟨_, v, h1, t, dx, d, kv, rfl, _, h4, h5, h6⟩ := o.sl i _ h
  exact ⟨_, h1, q _ F H (Gr.refl c.i) ⟨t, dx, d, kv, rfl, h4, h5, kvAll_mono c.i h6⟩⟩
/-- the town's own fields -/
theorem ev_many (cl : Cls K C) (na : NoAttr K C "many") (ha : EvH B F0 ρ ta (isTown K C st)) : Ev B F0 ρ (tFld K ta "many") (nwd K B (.int st.many)) := fun F H σ c Q q =>
  ha F H σ c _ fun v F' H' g ⟨t, dx, d, kv, e, h, _⟩ => ⟨t, C, dx, _, _, e, h, cl, na, tf_many, q _ F' H' g (.int _)⟩
theorem ev_built (cl : Cls K C) (na : NoAttr K C "built") (ha : EvH B F0 ρ ta (isTown K C st)) : Ev B F0 ρ (tFld K ta "built") (nwd K B (.int st.built)) := fun F H σ c Q q =>
  ha F H σ c _ fun v F' H' g ⟨t, dx, d, kv, e, h, _⟩ => ⟨t, C, dx, _, _, e, h, cl, na, tf_built, q _ F' H' g (.int _)⟩
theorem evh_held (cl : Cls K C) (na : NoAttr K C "held") (ha : EvH B F0 ρ ta (isTown K C st)) : EvH B F0 ρ (tFld K ta "held") (isDict K (heldD st.held)) := fun F H σ c Q q =>
  ha F H σ c _ fun v F' H' g ⟨t, dx, d, kv, e, h, h2, h3⟩ => ⟨t, C, dx, _, _, e, h, cl, na, tf_held, q _ F' H' g ⟨d, kv, rfl, .inl h2, e0, h3⟩⟩
/-- sorted(a dict), its keys already rising -/
theorem pw_perm {ns ms : List Int} (p : ms.Perm ns) (h1 : ms.Pairwise (· ≤ ·)) (h2 : ns.Pairwise (· < ·)) : ms = ns :=
  List.Perm.eq_of_pairwise (le := (· ≤ ·)) (fun a b _ _ h1 h2 => Int.le_antisymm h1 h2) h1 (h2.imp fun h => Int.le_of_lt h) p
end
end Lay
namespace Lay
open PySem L2 PySem.Spec PyProof.Rows
/-! the layer's rules with the written part named (within a comprehension's block it is the def's) -/
section
variable {X : Cx} (K : PySem.W.Frag) {te ta tb : TE} {e o a b : Expr} {es : List Expr} {f : Str} {pos apos : Pos} {t : TA}
theorem kop_catA (hK : X.K = K := by rfl) : OpR X (binaryOp .Add) (rCatA K) := hK ▸ op_catA
theorem kop_in_seq (hK : X.K = K := by rfl) : OpR X (compareOp .In) (rIn K false) := hK ▸ op_in_seq
theorem kop_notIn_seq (hK : X.K = K := by rfl) : OpR X (compareOp .NotIn) (rIn K true) := hK ▸ op_notIn_seq
theorem kop_eqD (hu : X.A.units + 64 < cLine) (hK : X.K = K := by rfl) : OpR X (compareOp .Eq) (rEqD K) := hK ▸ op_eqD hu
theorem kop_neD (hu : X.A.units + 64 < cLine) (hK : X.K = K := by rfl) : OpR X (compareOp .NotEq) (rNeD K) := hK ▸ op_neD hu
theorem kop_inD (hu : X.A.units + 65 < cLine) (hK : X.K = K := by rfl) : OpR X (compareOp .In) (rInD K) := hK ▸ op_inD hu
theorem kop_notInD (hu : X.A.units + 65 < cLine) (hK : X.K = K := by rfl) : OpR X (compareOp .NotIn) (rNotInD K) := hK ▸ op_notInD hu
theorem kix_list (hK : X.K = K := by rfl) : IxR X (rIxL K) := hK ▸ ix_list
theorem kix_tup (hK : X.K = K := by rfl) : IxR X (rIxT K) := hK ▸ ix_tup
theorem ksl_list (hK : X.K = K := by rfl) : SlR X (rSlL K) := hK ▸ sl_list
theorem ksl_tup (hK : X.K = K := by rfl) : SlR X (rSlT K) := hK ▸ sl_tup
theorem kcall_len_seq (hK : X.K = K := by rfl) : CallR X (.builtin "len") (fun xs H Q => ∃ p ys, xs = [.ref p] ∧ (SqL K H p ys ∨ SqT K H p ys) ∧ Q (.int ys.length) H) := hK ▸ call_len_seq
theorem kcall_list_of (hK : X.K = K := by rfl) : CallR X (.type "list") (fun xs H Q => ∃ p ys, xs = [.ref p] ∧ (SqL K H p ys ∨ SqT K H p ys) ∧ ∀ l, H l = none → Q (.ref l) (upd H l (.lst ys))) := hK ▸ call_list_of
theorem kcr_sorted (hK : X.K = K := by rfl) : CallR X (.builtin "sorted") (rSorted K) := hK ▸ cr_sorted
theorem kcall_isi (hK : X.K = K := by rfl) : CallR X (.builtin "isinstance") (rIsi K) := hK ▸ call_isi
theorem kpe_fld (he : PE X e ta) (hb : attributeBase e f X.env (eval e X.env) = eval e X.env) (hK : X.K = K := by rfl) : PE X (.Attribute e f pos) (tFld K ta f) := hK ▸ pe_fld he hb
theorem kpi_list {tg l : Expr} {tl : TE} (hl : PE X l tl) (hK : X.K = K := by rfl) : PI X tg l (iList K tl) := hK ▸ pi_list hl
theorem kpi_tup {tg l : Expr} {tl : TE} (hl : PE X l tl) (hK : X.K = K := by rfl) : PI X tg l (iTup K tl) := hK ▸ pi_tup hl
theorem kpg_tup {es : List Expr} {k : Nat} {t : TGs} (n : Nat) (hc : X.calm = true) (h : PGs X es t) (hn : (assignEach es X.env).length = n := by rfl) (hst : (assignEach es X.env).findIdx? (·.1) = none := by rfl) (hK : X.K = K := by rfl) : PG X (.Tuple es k pos) (gTup K n t) :=
  hK ▸ pg_tup hc h hn hst
theorem glob_int {n : Int} {x : Str} (hg : Gl X x) (h : ∃ t, X.mg x = some (.int n t)) (hd : (x == ("__debug__" : Str)) = false := by decide) : PE X (.Name x pos) (tC (.int n)) := by
  obtain ⟨t, h⟩ := h
  exact pe_glob hg h ⟨t, rfl⟩ hd
theorem glob_str {n : Str} {x : Str} (hg : Gl X x) (h : ∃ t, X.mg x = some (.str n t)) (hd : (x == ("__debug__" : Str)) = false := by decide) : PE X (.Name x pos) (tC (.str n)) := by
  obtain ⟨t, h⟩ := h
  exact pe_glob hg h ⟨t, rfl⟩ hd
/-- calls whose exceptions go on to the def's own wish -/
theorem ok_callP {k : Nat} {x : Str} {ps : List Str} {sp : Sp} {E : XK} {p : Pos} (tk : Takes X (fun cls d _ H => E cls d H)) (G : Ok X.prog X.w X.K X.mg X.base (L2.CX X.prog X.w) k x ps sp) (hr : Room k X.A) (hg : Gl X x) (ha : PA X (e :: es) t) (hdb : (x == ("__debug__" : Str)) = false := by decide)
    (he : starEach (e :: es) X.env = (false, eval e X.env) :: starEach es X.env := by rfl) (hpl : (backTo pos (starEach es X.env)).any (·.1) = false := by rfl) : PE X (.Call (.Name x p) (e :: es) [] pos) (tCall sp [] E t) := by
  obtain ⟨f, fd, F, hm, hk, hb⟩ := G.ex
  exact pe_call F hr hg hm hk hb .nil (passes_call tk fun _ _ _ _ h => h) ha hdb he hpl
theorem ok_methP {pl : Sem Bool} {k : Nat} {C : Addr} {m : Str} {ps : List Str} {sp : Sp} {E : XK} (tk : Takes X (fun cls d _ H => E cls d H)) (G : OkM X.prog X.w X.K X.mg X.base (L2.CX X.prog X.w) k C m ps sp) (hr : Room k X.A) (he : PE X o ta) (ha : PA X (e :: es) t)
    (hst : starEach (e :: es) X.env = (false, eval e X.env) :: starEach es X.env := by rfl) (hpl : (backTo pos (starEach es X.env)).any (·.1) = false := by rfl)
    (ht : eval (.Call (.Attribute o m apos) (e :: es) [] pos) X.env = (do
      let ov ← eval o X.env
      standAt apos.atName
      let (f, first) ← holding [ov] (getMethod ov m pl)
      callWith pos f first (backTo pos (starEach (e :: es) X.env)) (backToKw pos (keywordEach [] X.env))) := by rfl) : PE X (.Call (.Attribute o m apos) (e :: es) [] pos) (tMeth C m sp [] E ta t) := by
  obtain ⟨f, fd, F, hm, hc, hb⟩ := G.ex
  exact pe_meth he hc hm F hr hb .nil (passes_call tk fun _ _ _ _ h => h) ha hst hpl ht
/-- a class made by an __init__ that may raise -/
structure OkMk (P : Program) (w : World) (K : PySem.W.Frag) (mg : Str → Option Value) (base : Heap) (C : CXT) (k : Nat) (x : Str) (A : Addr) (ps : List Str) (sp : Sp) : Prop where
  ex : ∃ f fd, FnOk P w K mg base C k f fd ps sp ∧ Mk K A f ∧ mg x = some (.ref A) ∧ Binds K fd ps []
theorem ok_make {k : Nat} {x : Str} {C : Addr} {ps : List Str} {sp : Sp} {p : Pos} (G : OkMk X.prog X.w X.K X.mg X.base (L2.CX X.prog X.w) k x C ps sp) (hr : Room (k + 1) X.A) (hg : Gl X x) (ha : PA X (e :: es) t) (hdb : (x == ("__debug__" : Str)) = false := by decide)
    (he : starEach (e :: es) X.env = (false, eval e X.env) :: starEach es X.env := by rfl) (hpl : (backTo pos (starEach es X.env)).any (·.1) = false := by rfl) : PE X (.Call (.Name x p) (e :: es) [] pos) (tMake C sp [] E0 t) := by
  obtain ⟨f, fd, F, M, hm, hb⟩ := G.ex
  exact pe_make M F hr hg hm hb .nil passL ha hdb he hpl
theorem ok_makeP {k : Nat} {x : Str} {C : Addr} {ps : List Str} {sp : Sp} {p : Pos} {E : XK} (tk : Takes X (fun cls d _ H => E cls d H)) (G : OkMk X.prog X.w X.K X.mg X.base (L2.CX X.prog X.w) k x C ps sp) (hr : Room (k + 1) X.A) (hg : Gl X x) (ha : PA X (e :: es) t) (hdb : (x == ("__debug__" : Str)) = false := by decide)
    (he : starEach (e :: es) X.env = (false, eval e X.env) :: starEach es X.env := by rfl) (hpl : (backTo pos (starEach es X.env)).any (·.1) = false := by rfl) : PE X (.Call (.Name x p) (e :: es) [] pos) (tMake C sp [] E t) := by
  obtain ⟨f, fd, F, M, hm, hb⟩ := G.ex
  exact pe_make M F hr hg hm hb .nil (passes_call tk fun _ _ _ _ h => h) ha hdb he hpl
end
end Lay
namespace Lay
open PySem L2 PySem.Spec PyProof.Rows
section
variable {X : Cx} (K : PySem.W.Frag) {te : TE} {e a b : Expr} {pos p : Pos} {ta : TA}
theorem kpe_revL {k : Nat} {p1 p2 p3 : Pos} (he : PE X e te) (hK : X.K = K := by rfl) : PE X (.Subscript e (.Slice none none (some (.UnaryOp .USub (.Constant (.int 1) k p1) p2)) p3) pos) (tRevL K te) := hK ▸ pe_revL he
theorem kcr_all (hc : X.calm = true) (hK : X.K = K := by rfl) : CallR X (.builtin "all") (rAll K) := hK ▸ cr_all hc
theorem kcr_sum (hc : X.calm = true) (hK : X.K = K := by rfl) : CallR X (.builtin "sum") (rSum K) := hK ▸ cr_sum hc
theorem kcall_tuple_of (hK : X.K = K := by rfl) : CallR X (.type "tuple") (fun xs H Q => ∃ p ys, xs = [.ref p] ∧ ((SqL K H p ys ∧ ∀ l, H l = none → Q (.ref l) (upd H l (.tup ys))) ∨ (SqT K H p ys ∧ Q (.ref p) H))) := hK ▸ call_tuple_of
end
section
variable {K : PySem.W.Frag} {B F0 : Hp} {ρ ρ1 : List Sl} {te ta tb tc : TE} {d e : PyData} {ds es : List PyData} {f : Pd}
/-! any data, told as it may be read -/
theorem dpAll_app2 {F : Hp} {xs ys : List V} (h1 : DpAll K F xs ds) (h2 : DpAll K F ys es) : DpAll K F (xs ++ ys) (ds ++ es) := dpAll_app h1 h2
/-- xs + ys of new lists (both tracked) -/
theorem evm_cat (ha : Ev B F0 ρ ta (nwd K B (.list ds))) (hb : Ev B F0 ρ tb (nwd K B (.list es))) (hz : ds.length + es.length ≤ 100000) : EvM K B F0 ρ (tOp rCat ta tb) (ds ++ es) := fun F H σ c Q q =>
  ha F H σ c _ fun x F1 H1 g1 p1 => hb F1 H1 σ (c.go g1) _ fun y F2 H2 g2 p2 => by
    cases p1 with
    | @lst a xs _ _ a1 a2 =>
      cases p2 with
      | @lst b ys _ _ b1 b2 =>
        refine ⟨a, b, xs, ys, rfl, rfl, g2.i _ _ (g2.f _ _ a1), g2.i _ _ b1, sz_of (by rw [nwAll_len a2, nwAll_len b2]; exact hz), fun p hp => ?_⟩
        have g := g1.trans g2
        exact q p _ F2 _ (g.trans (Gr.new g.i hp)) (g.i.free hp) (g.fresh hp) upd_same (nwAll_app (nwAll_mono (Same.refl _) g2.f a2) b2)
/-- a list read now (tracked), its items said of what stands still -/
def EvN (K : PySem.W.Frag) (B F0 : Hp) (ρ : List Sl) (te : TE) (ds : List PyData) : Prop := ∀ F H σ, Cfg B F0 F H σ ρ → ∀ Q : VK, (∀ a xs F' H', Gr F H F' H' → H' a = some (.lst xs) → NwAll K B F' xs ds → Q (.ref a) H') → te σ H Q
theorem evn_ml {i : Nat} (h : ρ[i]? = some (ml K B ds)) : EvN K B F0 ρ (tVar i) ds := fun F H σ c Q q => by
  obtain ⟨w, o⟩ := c.own
  obtain ⟨_, v, h1, l, xs, rfl, _, h4, h5⟩ := o.sl i _ h
  exact ⟨_, h1, q l xs F H (Gr.refl c.i) h4 h5⟩
theorem Ev.n (h : Ev B F0 ρ te (nwd K B (.list ds))) : EvN K B F0 ρ te ds := fun F H σ c Q q => h F H σ c _ fun v F' H' g p => by
  cases p with
  | @lst a xs _ _ a1 a2 => exact q a xs F' H' g (g.i _ _ a1) a2
theorem EvM.n (h : EvM K B F0 ρ te ds) : EvN K B F0 ρ te ds := h.nw.n
theorem evm_catN (ha : EvN K B F0 ρ ta ds) (hb : EvN K B F0 ρ tb es) (hz : ds.length + es.length ≤ 100000) : EvM K B F0 ρ (tOp rCat ta tb) (ds ++ es) := fun F H σ c Q q =>
  ha F H σ c _ fun a xs F1 H1 g1 a1 a2 => hb F1 H1 σ (c.go g1) _ fun b ys F2 H2 g2 b1 b2 => by
    refine ⟨a, b, xs, ys, rfl, rfl, g2.h _ _ a1, b1, sz_of (by rw [nwAll_len a2, nwAll_len b2]; exact hz), fun p hp => ?_⟩
    have g := g1.trans g2
    exact q p _ F2 _ (g.trans (Gr.new g.i hp)) (g.i.free hp) (g.fresh hp) upd_same (nwAll_app (nwAll_mono (Same.refl _) g2.f a2) b2)
/-- list(xs), list(t): items without lists -/
theorem evm_listL (ha : EvH B F0 ρ ta (dat K (.list ds))) (fl : flatDs ds = true) : EvM K B F0 ρ (tCB (fun xs H Q => ∃ p ys, xs = [.ref p] ∧ (SqL K H p ys ∨ SqT K H p ys) ∧ ∀ l, H l = none → Q (.ref l) (upd H l (.lst ys))) (tCons ta tNil)) ds := fun F H σ c Q q =>
  (ha.nwl fl) F H σ c _ fun v F1 H1 g1 p1 => by
    obtain ⟨a, xs, rfl, q1, q2⟩ := p1
    exact ⟨a, xs, rfl, .inl q1, fun p hp => q p _ F1 _ (g1.trans (Gr.new g1.i hp)) (g1.i.free hp) (g1.fresh hp) upd_same q2⟩
theorem evm_listT (ha : EvH B F0 ρ ta (dat K (.tuple ds))) (fl : flatDs ds = true) : EvM K B F0 ρ (tCB (fun xs H Q => ∃ p ys, xs = [.ref p] ∧ (SqL K H p ys ∨ SqT K H p ys) ∧ ∀ l, H l = none → Q (.ref l) (upd H l (.lst ys))) (tCons ta tNil)) ds := fun F H σ c Q q =>
  (ha.nw (B := B) (show flatD (.tuple ds) = true from fl)) F H σ c _ fun v F1 H1 g1 p1 => by
    cases p1 with
    | @tup a xs _ q1 q2 => exact ⟨a, xs, rfl, .inr (sqt_mono g1.i q1), fun p hp => q p _ F1 _ (g1.trans (Gr.new g1.i hp)) (g1.i.free hp) (g1.fresh hp) upd_same q2⟩
/-- tuple(xs) of a list -/
theorem ev_tupleL (ha : Ev B F0 ρ ta (nwd K B (.list ds))) : Ev B F0 ρ (tCB (fun xs H Q => ∃ p ys, xs = [.ref p] ∧ ((SqL K H p ys ∧ ∀ l, H l = none → Q (.ref l) (upd H l (.tup ys))) ∨ (SqT K H p ys ∧ Q (.ref p) H))) (tCons ta tNil)) (nwd K B (.tuple ds)) := fun F H σ c Q q =>
  ha F H σ c _ fun v F1 H1 g1 p1 => by
    cases p1 with
    | @lst a xs _ _ a1 a2 =>
      refine ⟨a, xs, rfl, .inl ⟨.inl (.inl (g1.i _ _ a1)), fun p hp => ?_⟩⟩
      have g2 : Gr F H F1 (upd H1 p (.tup xs)) := g1.trans (Gr.new g1.i hp)
      obtain ⟨F3, g3, s, e⟩ := g2.putT (o := .tup xs) rfl upd_same
      exact q _ F3 _ g3 (.tup (.inl (.inl e)) (nwAll_mono (Same.refl _) s a2))
theorem ev_tupleN (ha : EvN K B F0 ρ ta ds) : Ev B F0 ρ (tCB (fun xs H Q => ∃ p ys, xs = [.ref p] ∧ ((SqL K H p ys ∧ ∀ l, H l = none → Q (.ref l) (upd H l (.tup ys))) ∨ (SqT K H p ys ∧ Q (.ref p) H))) (tCons ta tNil)) (nwd K B (.tuple ds)) := fun F H σ c Q q =>
  ha F H σ c _ fun a xs F1 H1 g1 a1 a2 => by
    refine ⟨a, xs, rfl, .inl ⟨.inl (.inl a1), fun p hp => ?_⟩⟩
    have g2 : Gr F H F1 (upd H1 p (.tup xs)) := g1.trans (Gr.new g1.i hp)
    obtain ⟨F3, g3, s, e⟩ := g2.putT (o := .tup xs) rfl upd_same
    exact q _ F3 _ g3 (.tup (.inl (.inl e)) (nwAll_mono (Same.refl _) s a2))
/-- xs[::-1] -/
theorem evm_rev (ha : EvH B F0 ρ ta (dat K (.list ds))) (fl : flatDs ds = true) : EvM K B F0 ρ (tRevL K ta) ds.reverse := fun F H σ c Q q =>
  (ha.nwl fl) F H σ c _ fun v F1 H1 g1 p1 => by
    obtain ⟨a, xs, rfl, q1, q2⟩ := p1
    exact ⟨a, xs, rfl, q1, fun p hp => q p _ F1 _ (g1.trans (Gr.new g1.i hp)) (g1.i.free hp) (g1.fresh hp) upd_same (nwAll_rev q2)⟩
/-- t[lo:hi], not the whole -/
theorem ev_sliceT {tl th : TO} {lo hi : Option Int} (h : EvH B F0 ρ te (dat K (.tuple ds))) (fl : flatDs ds = true) (h1 : EvO K B F0 ρ tl lo) (h2 : EvO K B F0 ρ th hi) (hw : ¬ (HT.sIx ds.length 0 lo = 0 ∧ HT.sIx ds.length ds.length hi = ds.length)) :
    Ev B F0 ρ (tSl (rSlT K) te tl th) (nwd K B (.tuple (cutD ds lo hi))) := fun F H σ c Q q =>
  (h.nw (B := B) (show flatD (.tuple ds) = true from fl)) F H σ c _ fun v F1 H1 g1 p1 => h1 F1 H1 σ (c.go g1) _ fun F2 H2 g2 => h2 F2 H2 σ ((c.go g1).go g2) _ fun F3 H3 g3 => by
    cases p1 with
    | @tup a xs _ q1 q2 =>
      have e : xs.length = ds.length := nwAll_len q2
      have g := g1.trans (g2.trans g3)
      refine ⟨a, xs, rfl, sqt_mono (g2.h.trans g3.h) (sqt_mono g1.i q1), by rw [e]; exact hw, fun p hp => ?_⟩
      have g4 : Gr F H F3 (upd H3 p (.tup (cutV xs lo hi))) := g.trans (Gr.new g.i hp)
      obtain ⟨F5, g5, s, e5⟩ := g4.putT (o := .tup (cutV xs lo hi)) rfl upd_same
      refine q _ F5 _ g5 (.tup (.inl (.inl e5)) ?_)
      unfold cutV cutD
      rw [e]
      exact nwAll_take _ (nwAll_drop _ (nwAll_mono (Same.refl _) ((g2.f.trans g3.f).trans s) q2))
/-- all of truths -/
theorem ev_all {bs : List Bool} (ha : EvH B F0 ρ ta (dat K (.list (bs.map .bool)))) : Ev B F0 ρ (tCB (rAll K) (tCons ta tNil)) (nwd K B (.bool (bs.all id))) := fun F H σ c Q q =>
  ha F H σ c _ fun v F1 H1 g1 p1 => by
    cases p1 with
    | lst h1 h2 =>
      rw [dpAll_bls h2] at h1
      exact ⟨_, bs, rfl, h1, q _ F1 H1 g1 (.bl _)⟩
/-- sum of ints -/
theorem ev_sum {ns : List Int} (ha : EvH B F0 ρ ta (dat K (intsD ns))) : Ev B F0 ρ (tCB (rSum K) (tCons ta tNil)) (nwd K B (.int ns.sum)) := fun F H σ c Q q =>
  ha F H σ c _ fun v F1 H1 g1 p1 => by
    cases p1 with
    | lst h1 h2 =>
      rw [dpAll_ints h2] at h1
      exact ⟨_, ns, rfl, h1, q _ F1 H1 g1 (.int _)⟩
/-- truths compared by is -/
theorem ev_isB {a c : Bool} (ha : EvH B F0 ρ ta (dat K (.bool a))) (hb : EvH B F0 ρ tb (dat K (.bool c))) : Ev B F0 ρ (tOp rIsB ta tb) (nwd K B (.bool (decide (a = c)))) :=
  evo st_dat ha hb (fun F => .bl _) fun H x y hx hy Q q => by
    cases hx; cases hy
    exact ⟨a, c, rfl, rfl, q⟩
theorem ev_notB {a c : Bool} (ha : EvH B F0 ρ ta (dat K (.bool a))) (hb : EvH B F0 ρ tb (dat K (.bool c))) : Ev B F0 ρ (tOp rNotB ta tb) (nwd K B (.bool (!decide (a = c)))) :=
  evo st_dat ha hb (fun F => .bl _) fun H x y hx hy Q q => by
    cases hx; cases hy
    exact ⟨a, c, rfl, rfl, q⟩
theorem ev_eqB {a b : Bool} (ha : EvH B F0 ρ ta (dat K (.bool a))) (hb : EvH B F0 ρ tb (dat K (.bool b))) : Ev B F0 ρ (tOp rEq ta tb) (nwd K B (.bool (decide (a = b)))) :=
  evo st_dat ha hb (fun F => .bl _) fun H x y hx hy Q q => by
    cases hx; cases hy
    refine ⟨rfl, ?_⟩
    have e : decide (V.bl a = V.bl b) = decide (a = b) := by cases a <;> cases b <;> rfl
    rw [e]; exact q
theorem ev_neB {a b : Bool} (ha : EvH B F0 ρ ta (dat K (.bool a))) (hb : EvH B F0 ρ tb (dat K (.bool b))) : Ev B F0 ρ (tOp rNe ta tb) (nwd K B (.bool (!decide (a = b)))) :=
  evo st_dat ha hb (fun F => .bl _) fun H x y hx hy Q q => by
    cases hx; cases hy
    refine ⟨rfl, ?_⟩
    have e : decide (V.bl a = V.bl b) = decide (a = b) := by cases a <;> cases b <;> rfl
    rw [e]; exact q
/-- isinstance of data -/
theorem ev_isiD {n : String} {r : Bool} (ha : EvH B F0 ρ ta (dat K d)) (hk : ∀ H v, Dp K H v d → ∃ t, TyX K H v t ∧ PySem.W.kitOne K t (.type n) = some r) : Ev B F0 ρ (tCB (rIsi K) (tCons ta (tCons (tC (.ty n)) tNil))) (nwd K B (.bool r)) := fun F H σ c Q q =>
  ha F H σ c _ fun x F1 H1 g1 p => by
    obtain ⟨t, ty, h⟩ := hk H1 x p
    exact isi_run t ty h (q _ F1 H1 g1 (.bl r))
/-- the name of a datum's class -/
def tyD : PyData → String
  | .none => "NoneType"
  | .bool _ => "bool"
  | .int _ => "int"
  | .str _ => "str"
  | .list _ => "list"
  | .tuple _ => "tuple"
  | .dict _ => "dict"
theorem tyx_sql {H : Hp} {a : Addr} {xs : List V} (k : SqL K H a xs) : TyX K H (.ref a) (.type "list") := by
  rcases k with (k | ⟨o, k⟩) | ⟨o, its, n, k, c, _⟩
  · exact .base (.lst k)
  · exact .base (.frz k)
  · exact .kList k c
theorem tyx_sqt {H : Hp} {a : Addr} {xs : List V} (k : SqT K H a xs) : TyX K H (.ref a) (.type "tuple") := by
  rcases k with (k | ⟨o, k⟩) | ⟨o, its, n, k, c, _⟩
  · exact .base (.tup k)
  · exact .fTuple k
  · exact .kTuple k c
theorem tyx_dp {H : Hp} {v : V} (h : Dp K H v d) : TyX K H v (.type (tyD d)) := by
  cases h with
  | non => exact .base .non
  | bl b => exact .base (.bl b)
  | int i => exact .base (.int i)
  | str x => exact .base (.str x)
  | lst h1 _ => exact tyx_sql h1
  | tup h1 _ => exact tyx_sqt h1
/-- a tuple of classes of their own names: int and bool apart -/
def isaB (n : String) (d : PyData) : Bool := tyD d == n || (n == "int" && tyD d == "bool")
theorem kit_isa (n : String) (hn : n = "int" ∨ n = "bool" ∨ n = "list" ∨ n = "tuple" ∨ n = "str") : kitB (tyD d) n = some (isaB n d) := by
  have key : ∀ m ∈ ["NoneType", "bool", "int", "str", "list", "tuple", "dict"], ∀ n ∈ ["int", "bool", "list", "tuple", "str"], kitB m n = some (m == n || (n == "int" && m == "bool")) := by decide +kernel
  have hm : tyD d ∈ ["NoneType", "bool", "int", "str", "list", "tuple", "dict"] := by cases d <;> simp [tyD]
  have hn2 : n ∈ ["int", "bool", "list", "tuple", "str"] := by
    rcases hn with h | h | h | h | h <;> rw [h] <;> simp
  exact key _ hm n hn2
theorem ev_isa {n : String} (ha : EvH B F0 ρ ta (dat K d)) (hn : n = "int" ∨ n = "bool" ∨ n = "list" ∨ n = "tuple" ∨ n = "str") : Ev B F0 ρ (tCB (rIsi K) (tCons ta (tCons (tC (.ty n)) tNil))) (nwd K B (.bool (isaB n d))) :=
  ev_isiD ha fun H v p => ⟨_, tyx_dp p, kb (kit_isa n hn)⟩
/-! walks over a tuple, over two lists at once -/
theorem evj_tupD (h : Ev B F0 ρ te (dat K (.tuple ds))) : EvJ B F0 ρ (iTup K te) (dat K) ds := fun F H σ c R r => h F H σ c _ fun v F' H' g p => by
  cases p with
  | @tup a xs _ h1 h2 =>
    refine ⟨a, rfl, ⟨xs, sqt_mono g.i h1⟩, r _ F' H' g ⟨fun i H2 hi s => ⟨xs, xs[i]'(by rw [dpAll_len h2]; exact hi), sqt_mono s h1, by simp [dpAll_len h2, hi]⟩, fun H2 s => ⟨xs, sqt_mono s h1, by rw [dpAll_len h2]; exact Nat.le_refl _⟩, fun i F2 H2 x H3 hi s1 s2 y => ?_⟩⟩
    obtain ⟨rfl, y⟩ := y
    obtain ⟨d, e1, e2⟩ := dpAll_getV h2 (y xs (sqt_mono (s1.trans s2) h1))
    exact ⟨F2, d, Gr.refl s2, e1, dp_mono s1 e2⟩
theorem evj_tupN (h : Ev B F0 ρ te (nwd K B (.tuple ds))) : EvJ B F0 ρ (iTup K te) (nwd K B) ds := fun F H σ c R r => h F H σ c _ fun v F' H' g p => by
  cases p with
  | @tup a xs _ h1 h2 =>
    refine ⟨a, rfl, ⟨xs, sqt_mono g.i h1⟩, r _ F' H' g ⟨fun i H2 hi s => ⟨xs, xs[i]'(by rw [nwAll_len h2]; exact hi), sqt_mono s h1, by simp [nwAll_len h2, hi]⟩, fun H2 s => ⟨xs, sqt_mono s h1, by rw [nwAll_len h2]; exact Nat.le_refl _⟩, fun i F2 H2 x H3 hi s1 s2 y => ?_⟩⟩
    obtain ⟨rfl, y⟩ := y
    obtain ⟨d, e1, e2⟩ := nwAll_getV h2 (y xs (sqt_mono (s1.trans s2) h1))
    exact ⟨F2, d, Gr.refl s2, e1, nw_mono (Same.refl _) s1 e2⟩
theorem evj_zip {α : Type} {e1 e2 : α → PyData} {ps : List α} (h1 : Ev B F0 ρ ta (dat K (.list (ps.map e1)))) (h2 : Ev B F0 ρ tb (dat K (.list (ps.map e2)))) : EvJ B F0 ρ (iZip K (tCons ta (tCons tb tNil))) (dat K) (ps.map fun p => .tuple [e1 p, e2 p]) := fun F H σ c R r =>
  h1 F H σ c _ fun v1 F1 H1 g1 p1 => h2 F1 H1 σ (c.go g1) _ fun v2 F2 H2 g2 p2 => by
    cases p1 with
    | @lst a xs _ a1 a2 =>
      cases p2 with
      | @lst b ys _ b1 b2 =>
        have g := g1.trans g2
        have lx : xs.length = ps.length := by rw [dpAll_len a2, List.length_map]
        have ly : ys.length = ps.length := by rw [dpAll_len b2, List.length_map]
        have sa2 : SqL K F2 a xs := g2.f.seq a1
        have w := walk_zip (K := K) (a := a) (b := b) (xs := xs) (ys := ys) (n := ps.length) (by rw [lx, ly]; simp)
        refine ⟨a, b, xs, ys, rfl, g.i.seq sa2, g.i.seq b1, r _ F2 H2 g ⟨fun i H3 hi s => w.goes i H3 (by simpa using hi) ⟨s.seq sa2, s.seq b1⟩, fun H3 s => by
          have := w.stops H3 ⟨s.seq sa2, s.seq b1⟩
          simpa using this, fun i F3 H3 x H4 hi s1 s2 y => ?_⟩⟩
        obtain ⟨T, x1, x2, rfl, hT, rfl, y1, y2⟩ := w.yields i H3 x H4 (by simpa using hi) ⟨(s1.trans s2).seq sa2, (s1.trans s2).seq b1⟩ y
        obtain ⟨d1, m1, m2⟩ := dpAll_getV a2 y1
        obtain ⟨d2, m3, m4⟩ := dpAll_getV b2 y2
        rw [List.getElem?_map] at m1 m3
        cases ep : ps[i]? with
        | none => rw [ep] at m1; cases m1
        | some p =>
          rw [ep] at m1 m3
          cases m1; cases m3
          obtain ⟨F5, g5, s, e⟩ := (Gr.new (o := .tup [x1, x2]) s2 hT).putT rfl upd_same
          refine ⟨F5, _, g5, by rw [List.getElem?_map, ep]; rfl, .tup (.inl (.inl e)) (.cons (dp_mono ((g2.f.trans s1).trans s) m2) (.cons (dp_mono (s1.trans s) m4) .nil))⟩
/-- targets of a tuple of any data -/
def BindLD (K : PySem.W.Frag) (B F0 : Hp) (g : TGs) (is : List Nat) (ds : List PyData) (ρ ρ' : List Sl) : Prop := ∀ F H σ xs, Cfg B F0 F H σ ρ → DpAll K F xs ds → ∀ Q : L2.St → Hp → Prop, (∀ σ', Cfg B F0 F H σ' ρ' → Only is σ σ' → Q σ' H) → g xs σ H Q
theorem bindld_nil : BindLD K B F0 gNil [] [] ρ ρ := fun F H σ xs k p Q q => by
  cases p
  exact ⟨rfl, q σ k ⟨rfl, fun _ _ => rfl⟩⟩
theorem bindld_cons {g : TG} {gs : TGs} {is js : List Nat} {ρ2 : List Sl} (h1 : Bind B F0 g is (dat K d) ρ ρ1) (h2 : BindLD K B F0 gs js ds ρ1 ρ2) : BindLD K B F0 (gCons g gs) (is ++ js) (d :: ds) ρ ρ2 := fun F H σ xs k p Q q => by
  cases p with
  | @cons v vs _ _ p1 p2 =>
    refine ⟨v, vs, rfl, h1 F H σ v k p1 _ fun σ1 k1 o1 => h2 F H σ1 vs k1 p2 _ fun σ2 k2 o2 => q σ2 k2 ⟨o2.1.trans o1.1, fun j hj => ?_⟩⟩
    rw [o2.2 j fun z => hj (List.mem_append.mpr (.inr z)), o1.2 j fun z => hj (List.mem_append.mpr (.inl z))]
theorem bind_tupD {gs : TGs} {is : List Nat} {n : Nat} (h : BindLD K B F0 gs is ds ρ ρ1) (hl : ds.length = n) : Bind B F0 (gTup K n gs) is (dat K (.tuple ds)) ρ ρ1 := fun F H σ x k p Q q => by
  cases p with
  | @tup a xs _ h1 h2 => exact ⟨a, xs, rfl, sqt_mono k.i h1, by rw [dpAll_len h2]; exact hl, h F H σ xs k h2 Q q⟩
/-- a dict handed back: new, tracked -/
def isDictT (K : PySem.W.Frag) (kvs : List (Int × PyData)) : Pd := fun H v => ∃ l kv, v = .ref l ∧ H l = some (.dK kv) ∧ KvAll K e0 H kv kvs
theorem st_isDictT {kvs : List (Int × PyData)} : Stab (isDictT K kvs) := fun _ _ _ s ⟨l, kv, h1, h2, h3⟩ => ⟨l, kv, h1, s _ _ h2, kvAll_mono s h3⟩
theorem ev_lenD {kvs : List (Int × PyData)} (ha : EvH B F0 ρ ta (isDictT K kvs)) : Ev B F0 ρ (tCB (fun xs H Q => ∃ a kvs, xs = [V.ref a] ∧ H a = some (.dK kvs) ∧ Q (.int kvs.length) H) (tCons ta tNil)) (nwd K B (.int kvs.length)) := fun F H σ c Q q =>
  ha F H σ c _ fun v F' H' g ⟨l, kv, e, h, a⟩ => ⟨l, kv, by rw [e], h, by rw [kv_len a]; exact q _ F' H' g (.int _)⟩
theorem kvAll_e0 {F : Hp} : ∀ {kv : List (Key × V)} {kvs : List (Int × PyData)}, KvAll K B F kv kvs → KvAll K e0 F kv kvs
  | _, _, .nil => .nil
  | _, _, .cons h a => .cons (nw_mono (B' := e0) (fun _ _ z => nomatch z) (Same.refl _) h) (kvAll_e0 a)
theorem evh_mdT {i : Nat} {kvs : List (Int × PyData)} (h : ρ[i]? = some (md K B kvs)) : EvH B F0 ρ (tVar i) (isDictT K kvs) := fun F H σ c Q q => by
  obtain ⟨w, o⟩ := c.own
  obtain ⟨_, v, h1, l, kv, rfl, _, h4, h5⟩ := o.sl i _ h
  exact ⟨_, h1, q _ F H (Gr.refl c.i) ⟨l, kv, rfl, h4, kvAll_mono c.i (kvAll_e0 h5)⟩⟩
theorem isDictT_d {kvs : List (Int × PyData)} {H : Hp} {v : V} (h : isDictT K kvs H v) : isDict K kvs H v := by
  obtain ⟨l, kv, e, h1, h2⟩ := h
  exact ⟨l, kv, e, .inl h1, e0, h2⟩
/-- {k: v}, one pair -/
theorem q_disp1 {D : Ends} {u : TS} {i : Nat} {k : Int} (hk : Ev B F0 ρ ta (nwd K B (.int k))) (hv : Ev B F0 ρ tb (nwd K B d)) (n : At B F0 (u D) (ρ.set i (md K B [(k, d)]))) : At B F0 (tSeq (tAsg (tDisp [(ta, tb)]) (gName i)) u D) ρ := fun F H σ c p hp => by
  have g0 : Gr F H F (upd H p (.dK [])) := Gr.new c.i hp
  refine hk F _ σ (c.go g0) _ fun x F1 H1 g1 p1 => hv F1 H1 σ ((c.go g0).go g1) _ fun y F2 H2 g2 p2 => ?_
  cases p1
  have hD := g2.h _ _ (g1.h _ _ upd_same)
  refine ⟨hD, [(Sum.inl k, y)], rfl, by simp, ?_⟩
  have g : Gr F H F2 H2 := g0.trans (g1.trans g2)
  have fD : F2 p = none := g2.n p _ (g1.h _ _ upd_same) rfl (g1.n p _ upd_same rfl (c.i.free hp))
  have em : mergeK [] [((Sum.inl k : Key), y)] = [((Sum.inl k : Key), y)] := rfl
  rw [em]
  have g3 : Gr F H F2 (upd H2 p (.dK [(Sum.inl k, y)])) := ⟨g.f, fun a o e => by rw [upd_ne (ne_of_none e hp)]; exact g.h a o e, fun a o e => by rw [upd_ne (ne_of_none e fD)]; exact g.i a o e, g.n, g.t⟩
  refine n F2 _ _ (c.setN (as := [p]) (m := mdP K B [(k, d)]) st_md g3 ⟨p, _, rfl, rfl, upd_same, .cons p2 .nil⟩ fun a ha => ?_)
  rw [List.mem_singleton.mp ha]
  exact ⟨fD, hp, _, upd_same, rfl⟩
end
end Lay
namespace Lay
open PySem L2 PySem.Spec PyProof.Rows
/-! the end: what the top has written -/
abbrev aOf {mg : Str → Option Value} {x : Str} {C : Addr} (_ : mg x = some (.ref C)) : Addr := C
abbrev kOf {K : PySem.W.Frag} {h : Heap} (_ : K.In h) : PySem.W.Frag := K
section
variable {K : PySem.W.Frag} {h : Heap} {mg : Str → Option Value} {x qual m : Str} {st : Stmt} {ps : List Str} {f C : Addr} {oc kV dc pm cd ct : Value} {od an : Option Addr} {sl : Array (Option Value)}
theorem dfn_mk (X : K.In h) (G : h.Ns mainGlobals mg) (a : PySem.W.nsIn K mainGlobals x = some (some (.ref f))) (l : K.lookup f = some ⟨oc, od, .func (PySem.W.fnOf x qual (defArgs st) (defBody st) (defScope st) .none kV dc pm an cd ct), sl⟩)
    (c : PySem.W.codeIn K cd qual = true) (k : PySem.W.keepIn K (.ref f) = true)
    (b : ∀ (kV doc pm : Value) (an : Option Addr) (cdv ct : Value) (us : List Value), us.length = ps.length → bindArgs (PySem.W.fnOf x qual (defArgs st) (defBody st) (defScope st) .none kV doc pm an cdv ct) ⟨us, []⟩ = pure (ps.zip us)) : Dfn K mg x qual st ps :=
  have F := fun_mk (st := st) l c k
  ⟨f, _, F, PySem.W.mg_of X G a, F.binds b⟩
theorem mfn_mk {cx : Str} (X : K.In h) (g : mg cx = some (.ref C)) (a : PySem.W.findIn K (.ref C) m = some (some (.ref f))) (i : PySem.W.isFn K (.ref f) = true) (l : K.lookup f = some ⟨oc, od, .func (PySem.W.fnOf m qual (defArgs st) (defBody st) (defScope st) .none kV dc pm an cd ct), sl⟩)
    (c : PySem.W.codeIn K cd qual = true) (k : PySem.W.keepIn K (.ref f) = true)
    (b : ∀ (kV doc pm : Value) (an : Option Addr) (cdv ct : Value) (us : List Value), us.length = ps.length → bindArgs (PySem.W.fnOf m qual (defArgs st) (defBody st) (defScope st) .none kV doc pm an cdv ct) ⟨us, []⟩ = pure (ps.zip us)) : Mfn K C m qual st ps :=
  have F := fun_mk (st := st) l c k
  ⟨f, _, F, ⟨a, i, k⟩, F.binds b⟩
/-- an __init__ that is found at the class -/
structure Ifn (K : PySem.W.Frag) (C : Addr) (qual : Str) (st : Stmt) (ps : List Str) : Prop where
  ex : ∃ f fd, Fun K "__init__" qual st f fd ∧ Mk K C f ∧ Binds K fd ps []
theorem ifn_mk {cx : Str} (X : K.In h) (g : mg cx = some (.ref C)) (mk : PySem.W.makesIn K C = true) (kc : PySem.W.keepIn K (.ref C) = true) (a : PySem.W.findIn K (.ref C) "__init__" = some (some (.ref f))) (i : PySem.W.isFn K (.ref f) = true) (l : K.lookup f = some ⟨oc, od, .func (PySem.W.fnOf "__init__" qual (defArgs st) (defBody st) (defScope st) .none kV dc pm an cd ct), sl⟩)
    (c : PySem.W.codeIn K cd qual = true) (k : PySem.W.keepIn K (.ref f) = true)
    (b : ∀ (kV doc pm : Value) (an : Option Addr) (cdv ct : Value) (us : List Value), us.length = ps.length → bindArgs (PySem.W.fnOf "__init__" qual (defArgs st) (defBody st) (defScope st) .none kV doc pm an cdv ct) ⟨us, []⟩ = pure (ps.zip us)) : Ifn K C qual st ps :=
  have F := fun_mk (st := st) l c k
  ⟨f, _, F, ⟨mk, a, i, kc⟩, F.binds b⟩
theorem with_cls {Gl : Prop} (X : K.In h) (G : h.Ns mainGlobals mg) (a : PySem.W.nsIn K mainGlobals x = some (some (.ref C))) (k : mg x = some (.ref C) → Gl) : Gl := k (PySem.W.mg_of X G a)
theorem cls_mk {cx : Str} (X : K.In h) (g : mg cx = some (.ref C)) (pg : PySem.W.plainGet K C Str.empty = true) (hd : PySem.W.hasDictIn K C = true) (po : PySem.W.plainOver K C = true) (sa : PySem.W.findIn K (.ref C) "__setattr__" = some (some (.builtin "object.__setattr__"))) : Cls K C := ⟨pg, hd, po, sa⟩
theorem noattr_mk {cx : Str} (X : K.In h) (g : mg cx = some (.ref C)) (a : PySem.W.findIn K (.ref C) m = some none) : NoAttr K C m := a
theorem none_mk (X : K.In h) (G : h.Ns mainGlobals mg) (a : PySem.W.nsIn K mainGlobals x = some none) : mg x = none := PySem.W.mg_none_of X G a
theorem mg_mk {v : Value} (X : K.In h) (G : h.Ns mainGlobals mg) (a : PySem.W.nsIn K mainGlobals x = some (some v)) : mg x = some v := PySem.W.mg_of X G a
theorem int_mk {n : Int} {t : Tok} (X : K.In h) (G : h.Ns mainGlobals mg) (a : PySem.W.nsIn K mainGlobals x = some (some (.int n t))) : ∃ t, mg x = some (.int n t) := ⟨t, PySem.W.mg_of X G a⟩
theorem str_mk {n : Str} {t : Tok} (X : K.In h) (G : h.Ns mainGlobals mg) (a : PySem.W.nsIn K mainGlobals x = some (some (.str n t))) : ∃ t, mg x = some (.str n t) := ⟨t, PySem.W.mg_of X G a⟩
theorem at_enter {N : List Str} {fs : List Pd} {H : Hp} {vs : List V} {M : L2.St → Hp → Prop} (ha : AOk fs H vs) (st : ∀ f ∈ fs, Stab f) (hl : fs.length ≤ N.length) (h : At H H M (enterR N.length fs)) : M (L2.start N vs) H := h H H _ (cfg_start ha st hl)
theorem cps {p q : Prop} (x : p) (k : p → q) : q := k x
end
theorem Cfg.setN2 {B F0 F H F' H' : Hp} {σ : L2.St} {ρ : List Sl} (c : Cfg B F0 F H σ ρ) {i j : Nat} (hij : i ≠ j) {v v' : V} {m m' : Hp → Hp → V → List Addr → Prop} {as as' : List Addr} (st : MStab m) (st' : MStab m') (g : Gr F H F' H') (h : m F' H' v as) (h' : m' F' H' v' as')
    (hn : ∀ a ∈ as, F' a = none ∧ H a = none ∧ ∃ o, H' a = some o ∧ isTup o = false) (hn' : ∀ a ∈ as', F' a = none ∧ H a = none ∧ ∃ o, H' a = some o ∧ isTup o = false) (hd : ∀ a ∈ as, a ∉ as') :
    Cfg B F0 F' H' ((σ.set i (some v)).set j (some v')) ((ρ.set i (.mo m)).set j (.mo m')) := by
  have c1 := c.setN (i := i) (v := v) st g h hn
  obtain ⟨w0, o0⟩ := c.own
  -- what stood in the slots: objects of H alone
  have oH : ∀ k a, a ∈ w0 k → ∃ u, H a = some u := fun k a ha => by
    obtain ⟨_, _, u, h3, _⟩ := o0.at_ k a ha
    exact ⟨u, h3⟩
  have old : ∀ k a, a ∈ w0 k → a ∉ as ∧ a ∉ as' := fun k a ha => by
    obtain ⟨u, hu⟩ := oH k a ha
    refine ⟨fun z => ?_, fun z => ?_⟩
    · have := (hn a z).2.1; rw [hu] at this; cases this
    · have := (hn' a z).2.1; rw [hu] at this; cases this
  refine ⟨(c.go g).gr, by simp [c.len], fun k => if k = j then as' else if k = i then as else w0 k, fun k l a h1 h2 => ?_, fun k a h1 => ?_, fun k s hs => ?_⟩
  · (try dsimp only at h1 h2)
    by_cases kj : k = j
    · by_cases lj : l = j
      · omega
      · rw [if_pos kj] at h1
        rw [if_neg lj] at h2
        split at h2
        · exact absurd h1 (hd a h2)
        · exact absurd h1 (old l a h2).2
    · rw [if_neg kj] at h1
      by_cases lj : l = j
      · rw [if_pos lj] at h2
        split at h1
        · exact absurd h2 (hd a h1)
        · exact absurd h2 (old k a h1).2
      · rw [if_neg lj] at h2
        split at h1 <;> split at h2
        · omega
        · exact absurd h1 (old l a h2).1
        · exact absurd h2 (old k a h1).1
        · exact o0.dj k l a h1 h2
  · (try dsimp only at h1)
    split at h1
    · obtain ⟨q1, q2, q3⟩ := hn' a h1
      exact ⟨q1, c.gr.fresh q2, q3⟩
    · split at h1
      · obtain ⟨q1, q2, q3⟩ := hn a h1
        exact ⟨q1, c.gr.fresh q2, q3⟩
      · obtain ⟨h1, h2, u, h3, h4⟩ := o0.at_ k a h1
        exact ⟨g.n a u h3 h4 h1, h2, u, g.h a u h3, h4⟩
  · (try dsimp only)
    by_cases kj : k = j
    · subst kj
      have hl : k < (ρ.set i (.mo m)).length := by
        have := (List.getElem?_eq_some_iff.mp hs).1
        simpa using this
      rw [List.getElem?_set_self hl] at hs
      cases hs
      rw [List.getElem?_set_self (by rw [List.length_set, c.len]; simpa using hl), if_pos rfl]
      exact ⟨st', v', rfl, h'⟩
    · rw [if_neg kj, List.getElem?_set_ne (fun e => kj e.symm)]
      rw [List.getElem?_set_ne (fun e => kj e.symm)] at hs
      by_cases ki : k = i
      · subst ki
        have hl : k < ρ.length := by
          have := (List.getElem?_eq_some_iff.mp hs).1
          simpa using this
        rw [List.getElem?_set_self hl] at hs
        cases hs
        rw [List.getElem?_set_self (by rw [c.len]; exact hl), if_pos rfl]
        exact ⟨st, v, rfl, h⟩
      · rw [if_neg ki, List.getElem?_set_ne (fun e => ki e.symm)]
        rw [List.getElem?_set_ne (fun e => ki e.symm)] at hs
        have q := o0.sl k s hs
        cases s with
        | no => trivial
        | fz f => obtain ⟨st, v, e, p⟩ := q; exact ⟨st, v, e, st _ _ v g.f p⟩
        | mo m =>
          obtain ⟨st, v, e, p⟩ := q
          refine ⟨st, v, e, st _ _ _ _ _ _ g.f (fun a ha => ?_) p⟩
          obtain ⟨_, _, u, h3, _⟩ := o0.at_ k a ha
          rw [h3, g.h a u h3]
/-- an owned list is let stand still from now on -/
theorem Cfg.fix {K : PySem.W.Frag} {B F0 F H : Hp} {σ : L2.St} {ρ : List Sl} {ds : List PyData} (c : Cfg B F0 F H σ ρ) {i : Nat} (hi : ρ[i]? = some (ml K B ds)) : ∃ F', Cfg B F0 F' H σ (ρ.set i (sn K B (.list ds))) := by
  obtain ⟨w, o⟩ := c.own
  obtain ⟨_, v, e1, l, xs, rfl, ew, h4, h5⟩ := o.sl i _ hi
  have hl : i < ρ.length := (List.getElem?_eq_some_iff.mp hi).1
  obtain ⟨fl, bl, _, _, _⟩ := o.at_ i l (by rw [ew]; simp)
  have sF : Same F (upd F l (.lst xs)) := fun a u e => by rw [upd_ne (ne_of_none e fl)]; exact e
  refine ⟨upd F l (.lst xs), ⟨⟨c.gr.f.trans sF, c.gr.h, fun a u e => ?_, fun a u e t z => ?_, fun a u e t => ?_⟩, by simp [c.len], fun k => if k = i then [] else w k, fun k j a h1 h2 => ?_, fun k a h1 => ?_, fun k s hs => ?_⟩⟩
  · by_cases ha : a = l
    · subst ha
      rw [upd_same] at e
      cases e
      exact h4
    · rw [upd_ne ha] at e
      exact c.i a u e
  · have ha : a ≠ l := fun q => by rw [q, bl] at e; cases e
    rw [upd_ne ha]
    exact c.gr.n a u e t z
  · by_cases ha : a = l
    · rw [ha, upd_same] at e
      cases e
      cases t
    · rw [upd_ne ha] at e
      exact c.gr.t a u e t
  · (try dsimp only at h1 h2)
    split at h1
    · cases h1
    · split at h2
      · cases h2
      · exact o.dj k j a h1 h2
  · (try dsimp only at h1)
    split at h1
    · cases h1
    · rename_i ki
      obtain ⟨q1, q2, q3⟩ := o.at_ k a h1
      have ha : a ≠ l := fun q => ki (o.dj k i a h1 (by rw [ew, q]; simp))
      exact ⟨by rw [upd_ne ha]; exact q1, q2, q3⟩
  · (try dsimp only)
    by_cases ki : k = i
    · subst ki
      rw [List.getElem?_set_self hl] at hs
      cases hs
      exact ⟨st_nwd, _, e1, .lst bl upd_same (nwAll_mono (Same.refl _) sF h5)⟩
    · rw [if_neg ki]
      rw [List.getElem?_set_ne (fun e => ki e.symm)] at hs
      have q := o.sl k s hs
      cases s with
      | no => trivial
      | fz f => obtain ⟨st, v, e, p⟩ := q; exact ⟨st, v, e, st _ _ v sF p⟩
      | mo m =>
        obtain ⟨st, v, e, p⟩ := q
        exact ⟨st, v, e, st _ _ _ _ _ _ sF (fun a ha => rfl) p⟩
theorem at_fix {K : PySem.W.Frag} {B F0 : Hp} {ρ : List Sl} {ds : List PyData} {N : L2.St → Hp → Prop} (i : Nat) (hi : ρ[i]? = some (ml K B ds)) (k : At B F0 N (ρ.set i (sn K B (.list ds)))) : At B F0 N ρ := fun F H σ c => by
  obtain ⟨F', c'⟩ := c.fix hi
  exact k F' H σ c'
/-- a list that is tracked, whoever made it -/
theorem evn_e0 {K : PySem.W.Frag} {B F0 : Hp} {ρ : List Sl} {ds : List PyData} {i : Nat} (h : ρ[i]? = some (sn K e0 (.list ds))) (fl : flatDs ds = true) : EvN K B F0 ρ (tVar i) ds := fun F H σ c Q q => by
  obtain ⟨w, o⟩ := c.own
  obtain ⟨_, v, h1, p⟩ := o.sl i _ h
  cases p with
  | @lst a xs _ _ a1 a2 => exact ⟨_, h1, q a xs F H (Gr.refl c.i) (c.i _ _ a1) (dpAll_nw (nwAll_dp a2) fl)⟩
theorem evh_e0 {K : PySem.W.Frag} {B B' F0 : Hp} {ρ : List Sl} {d : PyData} {i : Nat} (h : ρ[i]? = some (sn K B' d)) : EvH B F0 ρ (tVar i) (nwd K e0 d) := fun F H σ c Q q => by
  obtain ⟨w, o⟩ := c.own
  obtain ⟨_, v, h1, p⟩ := o.sl i _ h
  exact ⟨_, h1, q _ F H (Gr.refl c.i) (nw_mono (B' := e0) (fun _ _ z => nomatch z) c.i p)⟩
theorem evh_mlE {K : PySem.W.Frag} {B B' F0 : Hp} {ρ : List Sl} {ds : List PyData} {i : Nat} (h : ρ[i]? = some (ml K B' ds)) : EvH B F0 ρ (tVar i) (nwd K e0 (.list ds)) := fun F H σ c Q q => by
  obtain ⟨w, o⟩ := c.own
  obtain ⟨_, v, h1, l, xs, rfl, _, h4, h5⟩ := o.sl i _ h
  exact ⟨_, h1, q _ F H (Gr.refl c.i) (.lst rfl h4 (nwAll_mono (B' := e0) (fun _ _ z => nomatch z) c.i h5))⟩
theorem cut_take {α : Type} (e : α → PyData) (xs : List α) {i : Int} (h : 0 ≤ i) : cutD (xs.map e) none (some i) = (xs.take i.toNat).map e := by
  have h1 : HT.sIx (xs.map e).length 0 none = 0 := rfl
  have h2 : HT.sIx (xs.map e).length (xs.map e).length (some i) = min i.toNat xs.length := by
    unfold HT.sIx
    simp only [List.length_map]
    first | omega | (split <;> omega) | (simp; omega)
  unfold cutD
  rw [h1, h2, List.drop_zero, Nat.sub_zero, ← List.map_take]
  congr 1
  by_cases h3 : i.toNat ≤ xs.length
  · rw [Nat.min_eq_left h3]
  · rw [Nat.min_eq_right (by omega), List.take_length, List.take_of_length_le (by omega)]
end Lay
namespace Lay
open PySem L2 PySem.Spec PyProof.Rows
/-! an owned list of owned lists -/
def mllP (K : PySem.W.Frag) (B : Hp) (dss : List (List PyData)) : Hp → Hp → V → List Addr → Prop := fun F H v as => ∃ (l : Addr) (inner : List Addr), v = .ref l ∧ as = l :: inner ∧ H l = some (.lst (inner.map .ref)) ∧ inner.Nodup ∧ l ∉ inner ∧ inner.length = dss.length ∧
  ∀ (i : Nat) ds, dss[i]? = some ds → ∃ a xs, inner[i]? = some a ∧ H a = some (.lst xs) ∧ NwAll K B F xs ds
abbrev mll (K : PySem.W.Frag) (B : Hp) (dss : List (List PyData)) : Sl := .mo (mllP K B dss)
section
variable {K : PySem.W.Frag} {B F0 : Hp} {ρ ρ1 : List Sl} {te ta tb : TE} {d : PyData} {ds : List PyData} {dss : List (List PyData)} {D : Ends} {u : TS}
theorem st_mll : MStab (mllP K B dss) := fun F F' H H' v as s e ⟨l, inner, h1, h2, h3, h4, h5, h6, h7⟩ => by
  subst h2
  refine ⟨l, inner, h1, rfl, by rw [e l (List.mem_cons_self ..)]; exact h3, h4, h5, h6, fun i ds k => ?_⟩
  obtain ⟨a, xs, k1, k2, k3⟩ := h7 i ds k
  exact ⟨a, xs, k1, by rw [e a (List.mem_cons_of_mem _ (List.mem_of_getElem? k1))]; exact k2, nwAll_mono (Same.refl _) s k3⟩
theorem refs_inj : ∀ {xs ys : List Addr}, xs.map V.ref = ys.map V.ref → xs = ys
  | [], [], _ => rfl
  | [], _ :: _, h => by cases h
  | _ :: _, [], h => by cases h
  | x :: xs, y :: ys, h => by
    rw [List.map_cons, List.map_cons] at h
    obtain ⟨h1, h2⟩ := List.cons.inj h
    cases h1
    rw [refs_inj h2]
theorem q_setLL (K : PySem.W.Frag) {α : Type} {xs : List α} {e : α → PyData} {q : PyData → Pd} {wi : TI} {g : TG} {vs : List Nat} {i : Nat} (hw : EvJ B F0 ρ wi q (xs.map e))
    (hb : ∀ F1 x, x ∈ xs → ∃ is ρ2, Bind B F1 g is (q (e x)) (wipeR ρ vs) ρ2 ∧ ∀ j ∈ is, j ∈ vs) (hz : xs.length ≤ 100000) (k : At B F0 (u D) (ρ.set i (mll K B (List.replicate xs.length [])))) :
    At B F0 (tSeq (tAsg (tLc wi g tYes (tLst tNil) vs) (gName i)) u D) ρ := fun F H σ c => by
  refine hw F H σ c _ fun J F1 H1 g1 w D hD => ?_
  have c1 := c.go g1
  refine ⟨fun i m H' => m = xs.length - i ∧ i ≤ xs.length ∧ ∃ (F' : Hp) (inner : List Addr), Gr F1 H1 F' H' ∧ F' D = none ∧ H' D = some (.lst (inner.map .ref)) ∧ inner.length = i ∧ inner.Nodup ∧ D ∉ inner ∧ ∀ a ∈ inner, F' a = none ∧ H1 a = none ∧ H' a = some (.lst []),
    ⟨xs.length, by simp, Nat.zero_le _, F1, [], Gr.new g1.i hD, g1.i.free hD, upd_same, rfl, List.nodup_nil, List.not_mem_nil, fun a ha => (List.not_mem_nil ha).elim⟩, ?_⟩
  rintro i' m H' ⟨rfl, hi, F', inner, g', fD, hD', hl', hn, hdn, hin⟩
  have sF : Same F1 H' := g'.f.trans g'.i
  by_cases hlt : i' < xs.length
  · have hl : i' < (xs.map e).length := by simpa using hlt
    refine .inr ⟨w.goes i' H' hl sF, fun H2 => ∃ (F' : Hp) (inner : List Addr), Gr F1 H1 F' H2 ∧ F' D = none ∧ H2 D = some (.lst (inner.map .ref)) ∧ inner.length = i' + 1 ∧ inner.Nodup ∧ D ∉ inner ∧ ∀ a ∈ inner, F' a = none ∧ H1 a = none ∧ H2 a = some (.lst []), fun H2 l2 => ⟨xs.length - (i' + 1), by omega, rfl, hlt, l2⟩, fun x H2 y => ?_⟩
    obtain ⟨F2, d, g2, hd2, p2⟩ := w.yields i' F' H' x H2 hl g'.f g'.i y
    have ed : d = e xs[i'] := by
      rw [List.getElem?_map, List.getElem?_eq_getElem hlt] at hd2
      exact (Option.some.inj hd2).symm
    subst ed
    obtain ⟨is, ρ2, b2, hj⟩ := hb F1 xs[i'] (List.getElem_mem hlt)
    have cw : Cfg B F1 F2 H2 (wipe σ vs) (wipeR ρ vs) := by
      have c2 := (c.go (g1.trans (g'.trans g2))).wipe vs
      exact ⟨⟨g'.f.trans g2.f, c2.gr.h, c2.gr.i, fun a o h t z => (g'.trans g2).n a o (c1.gr.h a o h) t z, (g'.trans g2).t⟩, c2.len, c2.own⟩
    refine b2 F2 H2 (wipe σ vs) x cw p2 _ fun σ3 c3 o3 => ⟨wipe_only o3 hj, ?_⟩
    unfold tYes
    dsimp only
    rw [if_pos rfl]
    refine ⟨(by show 0 ≤ sizeLine; exact Nat.zero_le _), fun a ha => ?_⟩
    have hD3 : H2 D = some (.lst (inner.map .ref)) := g2.h _ _ hD'
    have aD : D ≠ a := ne_of_none hD3 ha
    have gg : Gr F1 H1 F2 H2 := g'.trans g2
    refine ⟨inner.map .ref, by rw [upd_ne aD]; exact hD3, ?_, F2, inner ++ [a], ?_, g2.n D _ hD' rfl fD, ?_, by rw [List.length_append, List.length_singleton, hl'], ?_, ?_, fun b hb => ?_⟩
    · exact sz_lt (by rw [List.length_map]; omega)
    · refine ⟨gg.f, fun b o h => ?_, fun b o h => ?_, gg.n, gg.t⟩
      · rw [upd_ne (ne_of_none h hD), upd_ne (ne_of_none (gg.h b o h) ha)]; exact gg.h b o h
      · have : b ≠ D := ne_of_none h (g2.n D _ hD' rfl fD)
        rw [upd_ne this, upd_ne (ne_of_none (gg.i b o h) ha)]; exact gg.i b o h
    · rw [List.map_append, upd_same]; rfl
    · rw [List.nodup_append]
      refine ⟨hn, List.nodup_cons.mpr ⟨List.not_mem_nil, List.nodup_nil⟩, fun b hb a' ha' z => ?_⟩
      rw [List.mem_singleton.mp ha'] at z
      have := g2.h _ _ (hin b hb).2.2
      rw [z, ha] at this
      cases this
    · intro z
      rcases List.mem_append.mp z with z | z
      · exact hdn z
      · exact aD (List.mem_singleton.mp z)
    · rcases List.mem_append.mp hb with hb | hb
      · obtain ⟨q1, q2, q3⟩ := hin b hb
        have q4 := g2.h _ _ q3
        refine ⟨g2.n b _ q3 rfl q1, q2, ?_⟩
        rw [upd_ne (fun z => hdn (by rw [← z]; exact hb)), upd_ne (ne_of_none q4 ha)]
        exact q4
      · rw [List.mem_singleton.mp hb]
        refine ⟨gg.i.free ha, gg.fresh ha, ?_⟩
        rw [upd_ne aD.symm, upd_same]
  · have ei : i' = xs.length := by omega
    subst ei
    refine .inl ⟨by have := w.stops H' sF; simpa using this, ?_⟩
    refine k F' H' _ (c.setN (as := D :: inner) st_mll (g1.trans g') ⟨D, inner, rfl, rfl, hD', hn, hdn, by rw [List.length_replicate]; exact hl', fun j ds hj => ?_⟩ fun a ha => ?_)
    · rw [List.getElem?_replicate] at hj
      split at hj
      next h =>
        cases hj
        have hj2 : j < inner.length := by omega
        exact ⟨inner[j], [], List.getElem?_eq_getElem hj2, (hin _ (List.getElem_mem hj2)).2.2, .nil⟩
      next => cases hj
    · rcases List.mem_cons.mp ha with rfl | ha
      · exact ⟨fD, g1.fresh hD, _, hD', rfl⟩
      · obtain ⟨q1, q2, q3⟩ := hin a ha
        exact ⟨q1, g1.fresh q2, _, q3, rfl⟩
theorem evx_appendAt {i : Nat} {j : Int} (hi : ρ[i]? = some (mll K B dss)) (hj : EvH B F0 ρ tb (dat K (.int j))) (j0 : 0 ≤ j) (hds : dss[j.toNat]? = some ds) (h : Ev B F0 ρ te (nwd K B d)) (hz : ds.length < 100000) :
    EvX B F0 ρ (tBM K "list" rAppend (tOp (rIxL K) (tVar i) tb) (tCons te tNil)) (ρ.set i (mll K B (dss.set j.toNat (ds ++ [d])))) (nwd K B .none) := fun F H σ c Q q => by
  obtain ⟨w, o⟩ := c.own
  obtain ⟨_, v, h1, l, inner, rfl, h3, h4, h5, h6, h7, h8⟩ := o.sl i _ hi
  obtain ⟨a, xs, k1, k2, k3⟩ := h8 _ _ hds
  refine ⟨_, h1, hj F H σ c _ fun y F1 H1 g1 p1 => ?_⟩
  cases p1
  refine ⟨l, inner.map .ref, j, .ref a, rfl, rfl, SqL.of (g1.h _ _ h4), atI_nn j0 (by rw [List.getElem?_map, k1]; rfl), .inl ⟨rfl, _, SqL.of (g1.h _ _ k2)⟩, ?_⟩
  refine h F1 H1 σ (c.go g1) _ fun y F2 H2 g2 p2 => ⟨a, xs, y, rfl, rfl, g2.h _ _ (g1.h _ _ k2), sz_lt (by rw [nwAll_len k3]; exact hz), ?_⟩
  have g := g1.trans g2
  have la : l ≠ a := fun z => h6 (by rw [z]; exact List.mem_of_getElem? k1)
  refine q _ F2 _ ((c.go g).chg hi st_mll fun v' as e m n => ?_) .non
  obtain ⟨l', inner', rfl, rfl, m4, m5, m6, m7, m8⟩ := m
  rw [h1] at e
  cases e
  have m4' := m4
  rw [g.h _ _ h4] at m4
  have ei : inner.map V.ref = inner'.map V.ref := by
    have := Option.some.inj m4
    injection this
  have ei := refs_inj ei
  subst ei
  refine ⟨⟨l, inner, rfl, rfl, by rw [upd_ne la]; exact m4', m5, m6, by rw [List.length_set]; exact m7, fun t dt ht => ?_⟩, fun b hb => upd_ne fun z => hb (by rw [z]; exact List.mem_cons_of_mem _ (List.mem_of_getElem? k1)), fun b hb => ?_⟩
  · by_cases et : t = j.toNat
    · subst et
      rw [List.getElem?_set_self (List.getElem?_eq_some_iff.mp hds).1] at ht
      cases ht
      refine ⟨a, xs ++ [y], k1, upd_same, nwAll_app (nwAll_mono (Same.refl _) g.f k3) (.cons p2 .nil)⟩
    · rw [List.getElem?_set_ne (fun z => et z.symm)] at ht
      obtain ⟨b, zs, q1, q2, q3⟩ := m8 t dt ht
      have ne : b ≠ a := fun z => et ((List.getElem?_inj (List.getElem?_eq_some_iff.mp q1).1 m5).mp (by rw [q1, k1, z]))
      exact ⟨b, zs, q1, by rw [upd_ne ne]; exact q2, q3⟩
  · rcases List.mem_cons.mp hb with rfl | hb
    · exact ⟨_, by rw [upd_ne la]; exact m4', rfl⟩
    · by_cases ba : b = a
      · subst ba; exact ⟨_, upd_same, rfl⟩
      · obtain ⟨_, _, u, h3, h4⟩ := n b (List.mem_cons_of_mem _ hb)
        exact ⟨u, by rw [upd_ne ba]; exact h3, h4⟩
theorem nwAll_of_get {F : Hp} : ∀ {xs : List V} {ds : List PyData}, xs.length = ds.length → (∀ (i : Nat) (d : PyData), ds[i]? = some d → ∃ v, xs[i]? = some v ∧ Nw K B F v d) → NwAll K B F xs ds
  | [], [], _, _ => .nil
  | [], _ :: _, h, _ => by cases h
  | _ :: _, [], h, _ => by cases h
  | x :: xs, d :: ds, h, k => by
    obtain ⟨v, e, p⟩ := k 0 d rfl
    cases e
    exact .cons p (nwAll_of_get (by simpa using h) fun i d' hd => k (i + 1) d' hd)
theorem at_retLL {i : Nat} (h : ρ[i]? = some (mll K B dss)) (k : ∀ v H', Same B H' → Nw K B H' v (.list (dss.map .list)) → D.rt v H') : At B F0 (tRet (tVar i) D) ρ := fun F H σ c => by
  obtain ⟨w, o⟩ := c.own
  obtain ⟨_, v, h1, l, inner, rfl, ew, h4, h5, h6, h7, h8⟩ := o.sl i _ h
  have nb : ∀ a ∈ l :: inner, B a = none := fun a ha => (o.at_ i a (by rw [ew]; exact ha)).2.1
  refine ⟨_, h1, k _ H c.gr.h (.lst (nb l (List.mem_cons_self ..)) h4 (nwAll_of_get (by rw [List.length_map, List.length_map]; exact h7) fun j d hd => ?_))⟩
  rw [List.getElem?_map] at hd
  cases e : dss[j]? with
  | none => rw [e] at hd; cases hd
  | some ds =>
    rw [e] at hd
    cases hd
    obtain ⟨a, xs, q1, q2, q3⟩ := h8 j ds e
    exact ⟨.ref a, by rw [List.getElem?_map, q1]; rfl, .lst (nb a (List.mem_cons_of_mem _ (List.mem_of_getElem? q1))) q2 (nwAll_mono (Same.refl _) c.i q3)⟩
end
/-- sorted(a dict), its keys in any order -/
theorem evm_sortedK {K : PySem.W.Frag} {B F0 : Hp} {ρ : List Sl} {ta : TE} {kvs : List (Int × PyData)} {srt : List Int} (ha : EvH B F0 ρ ta (isDict K kvs)) (hl : kvs.length < 64) (hs : srt.Pairwise (· ≤ ·)) (hp : srt.Perm (kvs.map (·.1))) :
    EvM K B F0 ρ (tCB (fun xs H Q => ∃ (a : Addr) (kvs : List (Key × V)) (ks : List Int), xs = [.ref a] ∧ Rd H a (.dK kvs) ∧ kvs.map (·.1) = ks.map Sum.inl ∧ ks.length < 64 ∧ ∀ (ys : List Int) (p : Addr), ys.Perm ks → ys.Pairwise (· ≤ ·) → H p = none → Q (.ref p) (upd H p (.lst (ys.map V.int)))) (tCons ta tNil)) (srt.map .int) := fun F H σ c Q q =>
  ha F H σ c _ fun x F1 H1 g1 ⟨l, kv, e, r, B', a⟩ => by
    subst e
    refine ⟨l, kv, kvs.map (·.1), rfl, r, kv_keys a, by rw [List.length_map]; exact hl, fun ys p h1 h2 h3 => ?_⟩
    have e : ys = srt := List.Perm.eq_of_pairwise (le := (· ≤ ·)) (fun a b _ _ h1 h2 => Int.le_antisymm h1 h2) h2 hs (h1.trans hp.symm)
    subst e
    exact q p _ F1 _ (g1.trans (Gr.new g1.i h3)) (g1.i.free h3) (g1.fresh h3) upd_same (nwAll_ints _)
end Lay
namespace Lay
open PySem L2 PySem.Spec PyProof.Rows
section
variable {K : PySem.W.Frag} {B F0 : Hp} {ρ : List Sl} {te ta tb : TE} {tr : TA} {d e : PyData} {D : Ends} {u : TS}
/-- list(range(n)) -/
theorem evm_listRg {n : Int} (ha : EvH B F0 ρ ta (dat K (.int n))) (h0 : 0 ≤ n) (h1 : n ≤ 1000) : EvM K B F0 ρ (tLstRg (tRg1 ta)) (rangeD 0 n.toNat) := fun F H σ c Q q =>
  ha F H σ c _ fun v F1 H1 g1 p => by
    cases p
    refine ⟨n, rfl, RgOk.of_le (Int.le_refl 0) (by omega) (by decide) h0, fun p hp => ?_⟩
    have e : rgV 0 n = ((List.range n.toNat).map fun i : Nat => (0 : Int) + (i : Int)).map V.int := by
      unfold rgV
      rw [List.map_map, Int.sub_zero]
      rfl
    have e2 : rangeD 0 n.toNat = ((List.range n.toNat).map fun i : Nat => (0 : Int) + (i : Int)).map PyData.int := by
      unfold rangeD
      rw [List.map_map]
      rfl
    rw [e]
    refine q p _ F1 _ (g1.trans (Gr.new g1.i hp)) (g1.i.free hp) (g1.fresh hp) upd_same ?_
    rw [e2]
    exact nwAll_ints _
/-- x, y = a, b -/
theorem q_par (K : PySem.W.Frag) {i j : Nat} (h : EvAs K B F0 ρ tr [d, e]) (k : At B F0 (u D) ((ρ.set i (sn K B d)).set j (sn K B e))) : At B F0 (tSeq (tPar i j tr) u D) ρ := fun F H σ c =>
  h F H σ c _ fun vs F1 H1 g1 p => by
    cases p with
    | @cons v vs _ _ p1 p2 =>
      cases p2 with
      | @cons w ws _ _ p3 p4 =>
        cases p4
        exact ⟨v, w, rfl, k F1 H1 _ (((c.go g1).setF st_nwd p1).setF st_nwd p3)⟩
end
def relabelS (scope sc : Scope) : Scope := { scope with names := scope.names.map fun (n, k) => if (k == .free && sc.kind == .function && sc.names.lookup n == some .cell) then (n, .cell) else (n, k) }
theorem relabel_eq (scope : Scope) (env : Env) : relabel scope env = relabelS scope env.scope := rfl
theorem cut_drop {α : Type} (e : α → PyData) (xs : List α) {i : Int} (h : 0 ≤ i) : cutD (xs.map e) (some i) none = (xs.drop i.toNat).map e := by
  have h1 : HT.sIx (xs.map e).length 0 (some i) = min i.toNat xs.length := by
    unfold HT.sIx
    simp only [List.length_map]
    first | omega | (split <;> omega) | (simp; omega)
  have h2 : HT.sIx (xs.map e).length (xs.map e).length none = (xs.map e).length := rfl
  unfold cutD
  rw [h1, h2, ← List.map_drop]
  by_cases h3 : i.toNat ≤ xs.length
  · rw [Nat.min_eq_left h3, List.take_of_length_le (by rw [List.length_map, List.length_map, List.length_drop]; omega)]
  · rw [Nat.min_eq_right (by omega), List.drop_of_length_le (Nat.le_refl _), List.drop_of_length_le (by omega), List.map_nil, List.take_nil]
end Lay
namespace Lay
open PySem L2 PySem.Spec PyProof.Rows
/-! try: .. except x as n: .. , what is caught stays known behind it -/
/-- the wish of the clause: u is what follows behind the suite, told of the caught thing -/
def wKeep (K : PySem.W.Frag) (m : Nat) (c : Value) (i : Nat) (ts : Addr → Value → Option Addr → TS) (u : Addr → Value → Option Addr → TS) (D : Ends) : WX := fun cls d σ H => σ.length = m →
  ∃ b, PySem.W.exmOne K cls c = some b ∧ b = true ∧ ∀ a, H a = none → ts a cls d { nx := fun σ' H' => u a cls d D (σ'.set i none) H', rt := fun _ _ => False, bk := fun _ _ => False, ct := fun _ _ => False } (σ.set i (some (.ref a))) H
section
variable {X : Cx} {pins : List (Addr × Obj)} {σ : L2.St} {H : Hp} {s : Shared}
theorem to_pin (ok : X.Ok) {a : Addr} {q : Addr × Obj} {pn' : List (Addr × Obj)} (I : Inv (X.suite a (q :: (X.pn ++ pins))) pn' σ H s) : Inv (X.tr (q :: (X.pn ++ pins)) X.xe) [] σ H s :=
  ⟨ok.toTry _ _, I.os, I.bare, I.base, I.loc, I.cell, I.free, I.freeC, fun p hp => I.pin p (List.mem_append_left _ (by rw [List.append_nil] at hp; exact hp)), I.hok, I.len⟩
theorem of_pin (ok : X.Ok) {q : Addr × Obj} {pn' : List (Addr × Obj)} (I : Inv (X.tr (q :: (X.pn ++ pins)) X.xe) pn' σ H s) : Inv X pins σ H s :=
  ⟨ok, I.os, I.bare, I.base, I.loc, I.cell, I.free, I.freeC, fun p hp => I.pin p (List.mem_append_left _ (List.mem_cons_of_mem _ hp)), I.hok, I.len⟩
end
section
variable {X : Cx} {x n : Str} {c : Value} {i : Nat} {body suite rest : List Stmt} {b0 : Stmt} {np pos pos' : Pos} {tb : WX → TS} {ts t1 : Addr → Value → Option Addr → TS} {t0 : TS}
theorem sp_of {X : Cx} {pins : List (Addr × Obj)} {q : Addr × Obj} {D : Ends} {f : Flow} {s' : Shared} (ok : X.Ok) (h : SP (X.tr (q :: (X.pn ++ pins)) X.xe) [] D f s') : SP X pins D f s' := by
  cases f with
  | next => obtain ⟨σ', H', I, k⟩ := h; exact ⟨σ', H', of_pin ok I, k⟩
  | brk => obtain ⟨σ', H', I, k⟩ := h; exact ⟨σ', H', of_pin ok I, k⟩
  | cont => obtain ⟨σ', H', I, k⟩ := h; exact ⟨σ', H', of_pin ok I, k⟩
  | ret u => obtain ⟨v, σ', H', I, r, k⟩ := h; exact ⟨v, σ', H', of_pin ok I, r, k⟩
theorem pss_try_keep (hst : X.stack = X.env :: X.outer) (hfr : X.env.frame = some X.env.locals) (hN : X.N.Nodup) (hi : X.N[i]? = some n) (hln : X.env.kindOf n = some .local) (hnm : Names X x c)
    (hbd : ∀ (W : WX) (pn : List (Addr × Obj)) (xe : Value → Shared → Prop), Takes (X.tr pn xe) W → PassesOwn (model X.prog X.w) X.A X.env xe → PSs (X.tr pn xe) body (tb W))
    (hsu : ∀ (a : Addr) (ob : Obj) (cls : Value) (d : Option Addr) (pn : List (Addr × Obj)), Zc cls d ob → (∃ vs, ob.data = .fields vs) → PSs (X.suite a ((a, ob) :: pn)) (b0 :: suite) (ts a cls d))
    (hr0 : PSs X rest t0) (hr1 : ∀ (a : Addr) (ob : Obj) (cls : Value) (d : Option Addr) (pn : List (Addr × Obj)), Zc cls d ob → (∃ vs, ob.data = .fields vs) → PSs (X.tr ((a, ob) :: pn) X.xe) rest (t1 a cls d)) :
    PSs X (.Try body [.ExceptHandler (some (.Name x np)) (some n) (b0 :: suite) pos'] [] [] pos :: rest) (fun D σ H => tb (wKeep X.K X.N.length c i ts t1 D) { D with nx := t0 D } σ H) := by
  refine ⟨fun pins s0 σ0 H0 D I0 h0 => ?_⟩
  have okX := I0.ok
  have frm : X.A.frames = some (X.env :: X.outer) := by rw [okX.frames, hst]
  refine wpAny_execs_cons (wpAny_Try_except ?_)
  refine wpAny_mono ((hbd (wKeep X.K X.N.length c i ts t1 D) (X.pn ++ pins) _ (fun u sx got => ?caughtG) PassesOwn.looking).run [] s0 σ0 H0 { D with nx := t0 D } (I0.toTry _) h0) (fun fl s1 done => ?thru) (fun e s1 he => he)
  case thru =>
    cases fl with
    | next =>
      obtain ⟨σ1, H1, I1, k⟩ := done
      exact wpAny_execs_nil (hr0.run pins s1 σ1 H1 D (I1.ofTry okX) k)
    | brk =>
      obtain ⟨σ1, H1, I1, k⟩ := done
      exact ⟨σ1, H1, I1.ofTry okX, k⟩
    | cont =>
      obtain ⟨σ1, H1, I1, k⟩ := done
      exact ⟨σ1, H1, I1.ofTry okX, k⟩
    | ret u =>
      obtain ⟨v, σ1, H1, I1, r, k⟩ := done
      exact ⟨v, σ1, H1, I1.ofTry okX, r, k⟩
  case caughtG =>
    obtain ⟨a, B, sI, pn1, σ1, H1, cls, d, rfl, J1, nb, upI, sky, na, osE, agE, wish⟩ := got
    have J := J1.ofTry okX
    obtain ⟨b, hx, rfl, hyes⟩ := wish J.len
    have sky2 : Sky B (X.env :: X.outer) a (Zc cls d) X.env.locals sx.heap := by rw [← hst]; exact sky
    show wpAny (model X.prog X.w) X.A (noteFrame (.ref a) X.env) _ _ _
    refine Sky.land Zc.steady frm hfr sky2 fun hA flA upA => ?_
    have JA : Inv X pins σ1 H1 { sx with heap := hA } := J.landed nb flA.1 (upI.trans upA) osE agE
    obtain ⟨obA, vsA, heA, hzA, hdA⟩ := flA.there
    have off : ∀ {h : Heap} {o : Obj} {vs : Array Value}, h.FunFrames B (X.env :: X.outer) → h.get? a = some o → o.data = .fields vs → a ∉ frs (X.env :: X.outer) := fun {h o vs} ff e dd hm => by
      obtain ⟨_, o', e', hnf⟩ := ff.mem hm
      rw [e] at e'
      cases e'
      exact hnf _ dd
    have offA := off flA.2.2.1 heA hdA
    have neL : a ≠ X.env.locals := fun z => offA (List.mem_filterMap.mpr ⟨X.env, List.mem_cons_self, by rw [hfr, z]⟩)
    have neF : a ∉ X.fs := fun hm => by
      obtain ⟨e, he, k⟩ := List.mem_filterMap.mp hm
      exact offA (List.mem_filterMap.mpr ⟨e, List.mem_cons_of_mem _ he, k⟩)
    have SA := JA.suite heA hdA na neL neF
    refine wpAny_handleBy_cons (codeAny_handlers_test ?_) (by intro z; cases z)
    have looks : PySem.W.Looks (model X.prog X.w) hA (typeOf (.ref a)) cls := fun A' Q' E' s' k q => wpAny_typeOf_ref (k _ _ heA) (by rw [hzA.1]; exact q)
    have asks := PySem.W.exm_one (M := model X.prog X.w) (JA.kIn) looks hx
    have named : ∀ {Q' : Value → Shared → Prop} {E' : Value → Shared → Prop}, Q' c { sx with heap := hA } → wpAny (model X.prog X.w) (X.A.mark (some (.ref a))) (eval (.Name x np) X.env) Q' E' { sx with heap := hA } := fun {Q' E'} q => by
      obtain ⟨hg, hdb, hm | ⟨hm, hv, hnn⟩⟩ := hnm
      · exact ld_glob (X := X.suite a ((a, obA) :: (X.pn ++ pins))) SA hg hm q hdb
      · exact ld_blt (X := X.suite a ((a, obA) :: (X.pn ++ pins))) SA hg hm hv q hnn hdb
    refine named (asks.here ?_)
    refine codeAny_handlers_suite_as ?_
    refine HandSPX.lands_againZ flA fun hB flB upB => ?_
    have JB : Inv X pins σ1 H1 { sx with heap := hB } := J.landed nb flB.1 ((upI.trans upA).trans upB) osE agE
    obtain ⟨obB, vsB, heB, hzB, hdB⟩ := flB.there
    have SB := JB.suite heB hdB na neL neF
    refine store_ok (X := X.suite a ((a, obB) :: (X.pn ++ pins))) (v := .ref a) SB hN hi (.inl hln) rfl (fun sC SC => ?_) (.inr hln)
    refine wpAny_mono ((hsu a obB cls d (X.pn ++ pins) hzB ⟨_, hdB⟩).run [] sC _ H1 _ SC (hyes a na)) (fun fl sD done => ?_) (fun _ _ z => False.elim z)
    cases fl with
    | next =>
      obtain ⟨σD, HD, ID, k⟩ := done
      refine gone_ok (X := X.tr ((a, obB) :: (X.pn ++ pins)) X.xe) (to_pin okX ID) hN hi hln fun sE IE => ?_
      exact wpAny_mono ((hr1 a obB cls d (X.pn ++ pins) hzB ⟨_, hdB⟩).run [] sE _ HD D IE k) (fun _ _ z => sp_of okX z) fun _ _ z => z
    | brk =>
      obtain ⟨_, _, _, k⟩ := done
      exact k.elim
    | cont =>
      obtain ⟨_, _, _, k⟩ := done
      exact k.elim
    | ret u =>
      obtain ⟨_, _, _, _, _, k⟩ := done
      exact k.elim
end
/-- isinstance(e, c), e the thing that was caught -/
def rIsK (K : PySem.W.Frag) (cls : Value) (d : Option Addr) (a : Addr) : List V → Hp → VK → Prop := fun xs H Q => ∃ (D : Addr) (c : V) (cv : Value) (b : Bool), cls = .ref D ∧ d = none ∧ ExcC K D ∧ xs = [.ref a, c] ∧ (∀ u, RelV c u → u = cv) ∧ PySem.W.kitOne K (.ref D) cv = some b ∧ Q (.bl b) H
theorem call_isK {X : Cx} {a : Addr} {cls : Value} {d : Option Addr} {ob : Obj} {pn : List (Addr × Obj)} {xe : Value → Shared → Prop} (hz : Zc cls d ob) (hf : ∃ vs, ob.data = .fields vs) : CallR (X.tr ((a, ob) :: pn) xe) (.builtin "isinstance") (rIsK X.K cls d a) := by
  intro pins s σ H xs us Q I r h
  obtain ⟨D, c, cv, b, rfl, rfl, ec, rfl, hcv, e, q⟩ := h
  cases r with
  | cons r1 r2 =>
    cases r2 with
    | cons r3 r4 =>
      cases r4
      cases r1
      have eu := hcv _ r3
      subst eu
      obtain ⟨here, _⟩ := I.pin (a, ob) (List.mem_append.mpr (.inl List.mem_cons_self))
      obtain ⟨vs, hv⟩ := hf
      have at_ : PySem.W.InstAt s.heap a ob D none := by
        obtain ⟨c1, c2, c3, c4⟩ := ob
        obtain ⟨z1, z2⟩ := hz
        dsimp only at z1 z2 hv
        subst z1 z2 hv
        exact ⟨here, rfl, rfl, trivial⟩
      exact PySem.W.kia_one (PySem.W.handS_kitx_exc ec.hg ec.hk ec.hs ec.hd ec.ha ec.hn ec.ht ec.hm) I.kIn at_ e (fun z => nomatch z) fun tk => ⟨.bl b, H, I.kept (t' := tk) fun _ _ z => z, rfl, q⟩
theorem kpe_bmOf {Y : Cx} (K : PySem.W.Frag) {e : Expr} {T : String} {r : V → List V → Hp → VK → Prop} {to : TE} {t : TA} (h : PE Y e (tBM Y.K T r to t)) (hK : Y.K = K := by rfl) : PE Y e (tBM K T r to t) := hK ▸ h
end Lay
namespace Lay
open PySem L2 PySem.Spec PyProof.Rows
/-! a def with lambdas: its tables of code objects stand in the first slot -/
def noT (H : Hp) : Hp := fun a => match H a with
  | some (.tbl _) => none
  | x => x
theorem noT_same (H : Hp) : Same (noT H) H := fun a o e => by
  unfold noT at e
  split at e
  · cases e
  · exact e
theorem noT_tbl {H : Hp} {a : Addr} {o : HO} (e : noT H a = some o) : isTbl o = false := by
  unfold noT at e
  split at e
  · cases e
  · cases o with
    | tbl ps => rename_i h; exact absurd e (h ps)
    | _ => rfl
theorem noT_at {H : Hp} {a : Addr} {o : HO} (e : H a = some o) (t : isTbl o = false) : noT H a = some o := by
  unfold noT
  rw [e]
  cases o with
  | tbl ps => cases t
  | _ => rfl
/-- the table at P tells code objects of the name q, all of them standing -/
def TabF (F H : Hp) (p : Addr × Str) : Prop := ∃ ps : Array Value, H p.1 = some (.tbl ps) ∧ TriplesOk ps.toList ∧ ∀ (pos : Pos) (cv : Value), codeAmong pos ps.toList = some cv → ∃ c, cv = .ref c ∧ F c = some (LamX.CodeO c p.2)
def tabP (T : List (Addr × Str)) (f : Pd) : Hp → Hp → V → List Addr → Prop := fun F H v as => f F v ∧ as = T.map (·.1) ∧ ∀ p ∈ T, TabF F H p
theorem st_tab {T : List (Addr × Str)} {f : Pd} (st : Stab f) : MStab (tabP T f) := fun F F' H H' v as s e ⟨h1, h2, h3⟩ => by
  subst h2
  refine ⟨st _ _ _ s h1, rfl, fun p hp => ?_⟩
  obtain ⟨ps, k1, k2, k3⟩ := h3 p hp
  refine ⟨ps, by rw [e p.1 (List.mem_map.mpr ⟨p, hp, rfl⟩)]; exact k1, k2, fun pos cv hc => ?_⟩
  obtain ⟨c, e1, e2⟩ := k3 pos cv hc
  exact ⟨c, e1, s _ _ e2⟩
theorem rd_tab {K : PySem.W.Frag} {T : List (Addr × Str)} {d : PyData} : RdS K (.mo (tabP T (dat K d))) d := fun B F0 F H σ ρ i c e => by
  obtain ⟨w, o⟩ := c.own
  obtain ⟨_, v, h1, h2, _⟩ := o.sl i _ e
  exact ⟨v, h1, dp_mono c.i h2⟩
/-- an owned thing that has no tables -/
def NoTb (m : Hp → Hp → V → List Addr → Prop) : Prop := ∀ F H v as, m F H v as → ∀ a ∈ as, ∀ ps, H a ≠ some (.tbl ps)
def noTbl (F : Hp) : Prop := ∀ a o, F a = some o → isTbl o = false
/-- what stands still behind the making of a lambda -/
def extF (F H1 : Hp) : Hp := fun a => match F a with
  | some o => some o
  | none => match H1 a with
    | some (.ext φ) => some (.ext φ)
    | _ => none
theorem extF_old {F H1 : Hp} {a : Addr} {o : HO} (e : F a = some o) : extF F H1 a = some o := by unfold extF; rw [e]
theorem extF_cases {F H1 : Hp} {a : Addr} {o : HO} (e : extF F H1 a = some o) : F a = some o ∨ (F a = none ∧ H1 a = some o ∧ ∃ φ, o = .ext φ) := by
  unfold extF at e
  split at e
  next h => rw [h]; exact .inl e
  next h =>
    split at e
    next φ h2 =>
      cases e
      exact .inr ⟨h, h2, φ, rfl⟩
    next => cases e
theorem extF_new {F H1 : Hp} {a : Addr} {φ : Heap → Prop} (h : H1 a = some (.ext φ)) (i : ∀ o, F a = some o → H1 a = some o) : extF F H1 a = some (.ext φ) := by
  cases e : F a with
  | none => unfold extF; rw [e, h]
  | some o => rw [extF_old e]; exact (i o e).symm.trans h
theorem cfg_lam {T : List (Addr × Str)} {f : Pd} {B F0 F H : Hp} {σ : L2.St} {ρ : List Sl} (c : Cfg B F0 F H σ ρ) {i : Nat} (hi : ρ[i]? = some (.mo (tabP T f))) (nB : noTbl B) (nF0 : noTbl F0) (hm : ∀ (j : Nat) m, j ≠ i → ρ[j]? = some (.mo m) → NoTb m) :
    LamX.Tabs T H ∧ ∀ H1, LamX.ExtN H H1 → LamX.Tabs T H1 → ∃ F1, Cfg B F0 F1 H1 σ ρ := by
  obtain ⟨w, o⟩ := c.own
  obtain ⟨sti, vi, ei, hf, ew, hT⟩ := o.sl i _ hi
  have nF : noTbl F := fun a u e => by
    cases t : isTbl u with
    | false => rfl
    | true =>
      have := nF0 a u (c.gr.t a u e t)
      rw [this] at t; cases t
  refine ⟨fun p hp => ?_, fun H1 x T1 => ?_⟩
  · obtain ⟨ps, k1, k2, k3⟩ := hT p hp
    refine ⟨ps, k1, k2, fun pos cv hc => ?_⟩
    obtain ⟨cc, e1, e2⟩ := k3 pos cv hc
    exact ⟨cc, e1, c.i _ _ e2⟩
  · have keep : ∀ a u, H a = some u → isTbl u = false → H1 a = some u := fun a u e t => x a u e fun ps z => by rw [z] at t; cases t
    have iF : ∀ a u, F a = some u → H1 a = some u := fun a u e => keep a u (c.i a u e) (nF a u e)
    have sF : Same F (extF F H1) := fun a u e => extF_old e
    have iF1 : Same (extF F H1) H1 := fun a u e => by
      rcases extF_cases e with k | ⟨_, k, _⟩
      · exact iF a u k
      · exact k
    refine ⟨extF F H1, ⟨c.gr.f.trans sF, fun a u e => keep a u (c.gr.h a u e) (nB a u e), iF1, fun a u e t z => ?_, fun a u e t => ?_⟩, c.len, fun j => match ρ[j]? with | some (.mo _) => w j | _ => [], fun j k a h1 h2 => ?_, fun j a h1 => ?_, fun j s hs => ?_⟩
    · have z1 := c.gr.n a u e t z
      cases q : extF F H1 a with
      | none => rfl
      | some u' =>
        rcases extF_cases q with k | ⟨_, k, φ, rfl⟩
        · rw [z1] at k; cases k
        · have := keep a u (c.gr.h a u e) (nB a u e)
          rw [k] at this
          cases this
          cases t
    · rcases extF_cases e with k | ⟨_, _, φ, rfl⟩
      · exact c.gr.t a u k t
      · cases t
    · (try dsimp only at h1 h2)
      split at h1
      · split at h2
        · exact o.dj j k a h1 h2
        · cases h2
      · cases h1
    · (try dsimp only at h1)
      split at h1
      next m hj =>
        obtain ⟨q1, q2, u, q3, q4⟩ := o.at_ j a h1
        have nx : ∀ u', H1 a = some u' → isTup u' = false → extF F H1 a = none := fun u' e t => by
          cases q : extF F H1 a with
          | none => rfl
          | some u2 =>
            rcases extF_cases q with k | ⟨_, k, φ, rfl⟩
            · rw [q1] at k; cases k
            · rw [e] at k
              cases k
              cases t
        by_cases ji : j = i
        · subst ji
          rw [ew] at h1
          obtain ⟨p, hp, rfl⟩ := List.mem_map.mp h1
          obtain ⟨ps, k1, _⟩ := T1 p hp
          exact ⟨nx _ k1 rfl, q2, _, k1, rfl⟩
        · obtain ⟨_, vj, ej, mj⟩ := o.sl j _ hj
          have nt : isTbl u = false := by
            cases u with
            | tbl ps => exact absurd q3 (hm j m ji hj _ _ _ _ mj a h1 ps)
            | _ => rfl
          have k1 := keep a u q3 nt
          exact ⟨nx _ k1 q4, q2, u, k1, q4⟩
      · cases h1
    · have q := o.sl j s hs
      cases s with
      | no => trivial
      | fz g => obtain ⟨st, v, e, p⟩ := q; exact ⟨st, v, e, st _ _ v sF p⟩
      | mo m =>
        obtain ⟨st, v, e, p⟩ := q
        refine ⟨st, v, e, ?_⟩
        rw [hs]
        dsimp only
        by_cases ji : j = i
        · subst ji
          rw [hi] at hs
          cases hs
          obtain ⟨p1, p2, p3⟩ := p
          have stf : f (extF F H1) v := by
            have := st F (extF F H1) H H v (w j) sF (fun _ _ => rfl) ⟨p1, p2, p3⟩
            exact this.1
          refine ⟨stf, p2, fun t ht => ?_⟩
          obtain ⟨ps, k1, k2, k3⟩ := T1 t ht
          refine ⟨ps, k1, k2, fun pos cv hc => ?_⟩
          obtain ⟨cc, e1, e2⟩ := k3 pos cv hc
          exact ⟨cc, e1, extF_new e2 fun u hu => iF _ _ hu⟩
        · refine st _ _ _ _ _ _ sF (fun a ha => ?_) p
          obtain ⟨_, _, u, q3, _⟩ := o.at_ j a ha
          have nt : isTbl u = false := by
            cases u with
            | tbl ps => exact absurd q3 (hm j m ji hs _ _ _ _ p a ha ps)
            | _ => rfl
          rw [q3, keep a u q3 nt]
end Lay
namespace Lay
open PySem L2 PySem.Spec PyProof.Rows
/-! tests that change what stands still, or an owned thing -/
def EvXT (B F0 : Hp) (ρ : List Sl) (tt : TT) (ρ' : List Sl) (c : Bool) : Prop := ∀ F H σ, Cfg B F0 F H σ ρ → ∀ Q : Bool → Hp → Prop, (∀ F' H', Cfg B F0 F' H' σ ρ' → Q c H') → tt σ H Q
section
variable {K : PySem.W.Frag} {B F0 : Hp} {ρ ρ1 ρ2 : List Sl} {te ta tb : TE} {t u : TT} {f g : Pd} {d e : PyData} {ds es : List PyData} {D : Ends} {us ts vs : TS} {N : L2.St → Hp → Prop}
theorem EvT.x {c : Bool} (h : EvT B F0 ρ t c) : EvXT B F0 ρ t ρ c := fun F H σ k Q q => h F H σ k Q fun F' H' g => q F' H' (k.go g)
theorem ext_test {c : Bool} (h : EvX B F0 ρ te ρ1 (nwd K B (.bool c))) : EvXT B F0 ρ (tTest te) ρ1 c := fun F H σ k Q q => h F H σ k _ fun v F' H' k' p => by
  cases p
  exact ⟨c, rfl, q F' H' k'⟩
theorem ext_B {c : Bool} (h : EvX B F0 ρ te ρ1 (nwd K B (.bool c))) : EvXT B F0 ρ (tB te) ρ1 c := fun F H σ k Q q => h F H σ k _ fun v F' H' k' p => by
  cases p
  exact ⟨c, rfl, q F' H' k'⟩
theorem ext_or {a c : Bool} (h1 : EvXT B F0 ρ t ρ1 a) (h2 : a = false → EvXT B F0 ρ1 u ρ2 c) (h3 : a = true → ρ1 = ρ2) : EvXT B F0 ρ (tOr t u) ρ2 (a || c) := fun F H σ k Q q => h1 F H σ k _ fun F1 H1 k1 => by
  cases a with
  | true => exact iteT (q F1 H1 (h3 rfl ▸ k1))
  | false => exact iteF (h2 rfl F1 H1 σ k1 _ fun F2 H2 k2 => q F2 H2 k2)
theorem ext_and {a c : Bool} (h1 : EvXT B F0 ρ t ρ1 a) (h2 : a = true → EvXT B F0 ρ1 u ρ2 c) (h3 : a = false → ρ1 = ρ2) : EvXT B F0 ρ (tAnd t u) ρ2 (a && c) := fun F H σ k Q q => h1 F H σ k _ fun F1 H1 k1 => by
  cases a with
  | true => exact iteT (h2 rfl F1 H1 σ k1 _ fun F2 H2 k2 => q F2 H2 k2)
  | false => exact iteF (q F1 H1 (h3 rfl ▸ k1))
theorem ext_is {a c : Bool} (h : EvXT B F0 ρ t ρ1 a) (e : a = c) : EvXT B F0 ρ t ρ1 c := e ▸ h
theorem evx_neD (ha : EvX B F0 ρ ta ρ1 (nwd K B d)) (hb : EvH B F0 ρ1 tb (dat K e)) (hd : SeqAt.shaped d = true) (he : SeqAt.shaped e = true) : EvX B F0 ρ (tOp (rNeD K) ta tb) ρ1 (nwd K B (.bool (!PyData.eqv d e))) := fun F H σ c Q q =>
  ha F H σ c _ fun x F1 H1 c1 p1 => hb F1 H1 σ c1 _ fun y F2 H2 g2 p2 => ⟨d, e, nw_dp (nw_mono (Same.refl _) g2.i (nw_mono (Same.refl _) g2.f p1)), p2, hd, he, q _ F2 H2 (c1.go g2) (.bl _)⟩
theorem evx_eqD (ha : EvX B F0 ρ ta ρ1 (nwd K B d)) (hb : EvH B F0 ρ1 tb (dat K e)) (hd : SeqAt.shaped d = true) (he : SeqAt.shaped e = true) : EvX B F0 ρ (tOp (rEqD K) ta tb) ρ1 (nwd K B (.bool (PyData.eqv d e))) := fun F H σ c Q q =>
  ha F H σ c _ fun x F1 H1 c1 p1 => hb F1 H1 σ c1 _ fun y F2 H2 g2 p2 => ⟨d, e, nw_dp (nw_mono (Same.refl _) g2.i (nw_mono (Same.refl _) g2.f p1)), p2, hd, he, q _ F2 H2 (c1.go g2) (.bl _)⟩
theorem q_whenX {c : Bool} (h : EvXT B F0 ρ t ρ1 c) (h1 : c = true → At B F0 (ts { D with nx := us D }) ρ1) (h2 : c = false → At B F0 (us D) ρ1) : At B F0 (tSeq (tIfS t ts tNext) us D) ρ := fun F H σ k => h F H σ k _ fun F' H' k' => by
  cases c with
  | true => exact iteT (h1 rfl F' H' σ k')
  | false => exact iteF (h2 rfl F' H' σ k')
theorem at_whenX {c : Bool} (h : EvXT B F0 ρ t ρ1 c) (h1 : c = true → At B F0 (ts D) ρ1) (h2 : c = false → At B F0 D.nx ρ1) : At B F0 (tIfS t ts tNext D) ρ := fun F H σ k => h F H σ k _ fun F' H' k' => by
  cases c with
  | true => exact iteT (h1 rfl F' H' σ k')
  | false => exact iteF (h2 rfl F' H' σ k')
theorem at_retX (h : EvX B F0 ρ te ρ1 (nwd K B d)) (k : ∀ v H', Same B H' → Nw K B H' v d → D.rt v H') : At B F0 (tRet te D) ρ := fun F H σ c =>
  h F H σ c _ fun v F' H' c' p => k v H' c'.gr.h (nw_mono (Same.refl _) c'.gr.i p)
/-- what raises: a thing of the class cls, nothing changed that was known -/
def EvR (B F0 : Hp) (ρ : List Sl) (t : XK → TE) (cls : Addr) : Prop := ∀ F H σ, Cfg B F0 F H σ ρ → ∀ (E : XK) (Q : VK), (∀ F' H', Cfg B F0 F' H' σ ρ → E (.ref cls) none H') → t E σ H Q
/-! ### owned things hold no tables -/
theorem nt_ml {B : Hp} : NoTb (mlP K B ds) := fun F H v as ⟨l, xs, _, ea, hl, _⟩ a ha ps e => by
  subst ea
  rw [List.mem_singleton.mp ha, hl] at e
  cases e
theorem nt_md {B : Hp} {kvs : List (Int × PyData)} : NoTb (mdP K B kvs) := fun F H v as ⟨l, xs, _, ea, hl, _⟩ a ha ps e => by
  subst ea
  rw [List.mem_singleton.mp ha, hl] at e
  cases e
theorem nt_mt {C : Addr} {st : TSt} : NoTb (mtP K C st) := fun F H v as ⟨t, dx, d, kv, _, ea, h1, h2, _⟩ a ha ps e => by
  subst ea
  rcases List.mem_cons.mp ha with rfl | ha
  · rw [h1] at e; cases e
  · rw [List.mem_singleton.mp ha, h2] at e; cases e
/-- all slots but the i-th hold no tables -/
def NtAll (i : Nat) (ρ : List Sl) : Prop := ∀ (j : Nat) m, j ≠ i → ρ[j]? = some (.mo m) → NoTb m
theorem nt_nil (i : Nat) : NtAll i [] := fun j m _ h => by cases h
theorem nt_consF {f : Pd} (h : NtAll i ρ) : NtAll (i + 1) (.fz f :: ρ) := fun j m hj e => by
  cases j with
  | zero => cases e
  | succ j => exact h j m (by omega) (by simpa using e)
theorem nt_consN (h : NtAll i ρ) : NtAll (i + 1) (.no :: ρ) := fun j m hj e => by
  cases j with
  | zero => cases e
  | succ j => exact h j m (by omega) (by simpa using e)
theorem nt_consM {m : Hp → Hp → V → List Addr → Prop} (hm : NoTb m) (h : NtAll i ρ) : NtAll (i + 1) (.mo m :: ρ) := fun j m hj e => by
  cases j with
  | zero => cases e; exact hm
  | succ j => exact h j m (by omega) (by simpa using e)
/-- .. of a list of slots without tables anywhere -/
def Nt0 (ρ : List Sl) : Prop := ∀ (j : Nat) m, ρ[j]? = some (.mo m) → NoTb m
theorem n0_nil : Nt0 [] := fun j m h => by cases h
theorem n0_F {f : Pd} (h : Nt0 ρ) : Nt0 (.fz f :: ρ) := fun j m e => by
  cases j with
  | zero => cases e
  | succ j => exact h j m (by simpa using e)
theorem n0_N (h : Nt0 ρ) : Nt0 (.no :: ρ) := fun j m e => by
  cases j with
  | zero => cases e
  | succ j => exact h j m (by simpa using e)
theorem n0_M {m : Hp → Hp → V → List Addr → Prop} (hm : NoTb m) (h : Nt0 ρ) : Nt0 (.mo m :: ρ) := fun j m e => by
  cases j with
  | zero => cases e; exact hm
  | succ j => exact h j m (by simpa using e)
theorem nt_head {s : Sl} (h : Nt0 ρ) : NtAll 0 (s :: ρ) := fun j m hj e => by
  cases j with
  | zero => exact absurd rfl hj
  | succ j => exact h j m (by simpa using e)
/-- a lambda handed to a def: what that def makes of it -/
theorem evx_lam {T : List (Addr × Str)} {fp : Pd} {TT : (XK → Hp → VK → Prop) → Hp → VK → Prop} {t : XK → TE} {i : Nat} (hi : ρ[i]? = some (.mo (tabP T fp))) (nB : noTbl B) (nF0 : noTbl F0) (hm : NtAll i ρ)
    (h : ∀ F H σ, Cfg B F0 F H σ ρ → ∀ Q : VK, (∀ v F' H', Cfg B F0 F' H' σ ρ → f F' v → Q v H') → TT (fun E H' Q' => t E σ H' Q') H Q) : EvX B F0 ρ (LamX.tLam T TT t) ρ f := fun F H σ c Q q => by
  obtain ⟨h1, h2⟩ := cfg_lam c hi nB nF0 hm
  refine ⟨h1, fun H1 x T1 => ?_⟩
  obtain ⟨F1, c1⟩ := h2 H1 x T1
  exact h F1 H1 σ c1 Q q
/-- the entry of a def with lambdas: its tables are in no part that stands still -/
theorem cfg_enterT {T : List (Addr × Str)} {f : Pd} {N : List Str} {H : Hp} {v : V} (st : Stab f) (hv : f (noT H) v) (hT : ∀ p ∈ T, H p.1 = some (.tbl #[])) (hN : 1 ≤ N.length) :
    Cfg (noT H) (noT H) (noT H) H (L2.start N [v]) (.mo (tabP T f) :: List.replicate (N.length - 1) Sl.no) := by
  refine ⟨⟨Same.refl _, noT_same H, noT_same H, fun _ _ _ _ e => e, fun _ _ e _ => e⟩, by simp [L2.start], fun i => if i = 0 then T.map (·.1) else [], fun i j a h1 h2 => ?_, fun i a h1 => ?_, fun i s hs => ?_⟩
  · (try dsimp only at h1 h2)
    split at h1
    · split at h2
      · omega
      · cases h2
    · cases h1
  · (try dsimp only at h1)
    split at h1
    · obtain ⟨p, hp, rfl⟩ := List.mem_map.mp h1
      have e : noT H p.1 = none := by unfold noT; rw [hT p hp]
      exact ⟨e, e, _, hT p hp, rfl⟩
    · cases h1
  · cases i with
    | zero =>
      cases hs
      refine ⟨st_tab st, v, rfl, hv, by simp, fun p hp => ?_⟩
      refine ⟨#[], hT p hp, True.intro, fun pos cv hc => ?_⟩
      have z : codeAmong pos [] = some cv := hc
      simp [codeAmong] at z
    | succ i =>
      have hs : (List.replicate (N.length - 1) Sl.no)[i]? = some s := by simpa using hs
      rw [List.getElem?_replicate] at hs
      split at hs
      · cases hs; trivial
      · cases hs
theorem at_enterT {T : List (Addr × Str)} {f : Pd} {N : List Str} {H : Hp} {v : V} {M : L2.St → Hp → Prop} (st : Stab f) (hv : f (noT H) v) (hT : ∀ p ∈ T, H p.1 = some (.tbl #[])) (hN : 1 ≤ N.length)
    (h : At (noT H) (noT H) M (.mo (tabP T f) :: List.replicate (N.length - 1) Sl.no)) : M (L2.start N [v]) H := h _ _ _ (cfg_enterT st hv hT hN)
theorem noT_noTbl {H : Hp} : noTbl (noT H) := fun a o e => noT_tbl e
theorem seq_noT {H : Hp} {a : Addr} {xs : List V} (h : SqL K H a xs) : SqL K (noT H) a xs := by
  rcases h with (h | ⟨o, h⟩) | h
  · exact .inl (.inl (noT_at h rfl))
  · exact .inl (.inr ⟨o, noT_at h rfl⟩)
  · exact .inr h
end
/-! ### the law's own def, its code object known -/
structure LawC (K : PySem.W.Frag) (f c P : Addr) (st : Stmt) (fd : FuncData) : Prop where
  ex : ∃ (oc : Value) (od : Option Addr) (kV doc pm : Value) (an : Option Addr) (ct : Value) (osl : Array (Option Value)),
    fd = PySem.W.fnOf "law" "law" (defArgs st) (defBody st) (defScope st) .none kV doc pm an (.ref c) ct ∧ K.lookup f = some ⟨oc, od, .func fd, osl⟩ ∧ PySem.W.codeIn K (.ref c) "law" = true
section
variable {P : Program} {w : World} {K : PySem.W.Frag} {mg : Str → Option Value} {base : Heap}
theorem LawC.ok {st : Stmt} {f c TP : Addr} {fd : FuncData} {N ps : List Str} {k : Nat} {sp : Sp} (F : LawC K f c TP st fd) (S : FnScope N ps (defScope st)) (len : ∀ vs H Q E, sp vs H Q E → vs.length = ps.length)
    (hbody : ∀ (A : Around) (outer : List Env) (s : Shared) (H : Hp) (vs : List V) (Q : VK) (E : XK), Room k (A.deeper (envOfC "law" (defScope st) s.heap.objs.size f (.ref c))) → sp vs H Q E →
      ∃ t, PSs (cxOf CX0 P w K mg base N "law" (defScope st) f (.ref c) A outer s H E).nox (defBody st) t ∧ t { nx := fun _ H' => Q .non H', rt := Q } (start N vs) H) : FnOk P w K mg base CX0 (k + 1) f fd ps sp := by
  obtain ⟨oc, od, kV, doc, pm, an, ct, osl, rfl, lk, hcd⟩ := F.ex
  refine fn_of lk hcd S len fun A outer s H vs Q E hr hsp => ?_
  obtain ⟨t, h, q⟩ := hbody A outer s H vs Q E hr hsp
  exact ⟨t, h.nox, q⟩
end
end Lay
namespace Lay
open PySem L2 PySem.Spec PyProof.Rows
/-! owned data: lists in lists, all of them the slot's own; changed afterwards -/
mutual
def pureD : PyData → Bool
  | .none => true
  | .bool _ => true
  | .int _ => true
  | .str _ => true
  | .list ds => pureDs ds
  | .tuple _ => false
  | .dict _ => false
def pureDs : List PyData → Bool
  | [] => true
  | d :: ds => pureD d && pureDs ds
end
mutual
/-- no list within is longer than m -/
def capD (m : Nat) : PyData → Bool
  | .none => true
  | .bool _ => true
  | .int _ => true
  | .str _ => true
  | .list ds => decide (ds.length ≤ m) && capDs m ds
  | .tuple ds => capDs m ds
  | .dict _ => true
def capDs (m : Nat) : List PyData → Bool
  | [] => true
  | d :: ds => capD m d && capDs m ds
end
theorem capDs_all {m : Nat} : ∀ {ds : List PyData}, (∀ d ∈ ds, capD m d = true) → capDs m ds = true
  | [], _ => by rw [capDs]
  | d :: ds, h => by rw [capDs, h d (List.mem_cons_self ..), capDs_all fun e he => h e (List.mem_cons_of_mem _ he)]; rfl
theorem cap_ints {m : Nat} {ns : List Int} (h : ns.length ≤ m) : capD m (intsD ns) = true := by
  rw [capD, capDs_all fun d hd => by
    obtain ⟨n, _, rfl⟩ := List.mem_map.mp hd
    rw [capD]]
  simpa using h
theorem pureDs_all : ∀ {ds : List PyData}, (∀ d ∈ ds, pureD d = true) → pureDs ds = true
  | [], _ => by rw [pureDs]
  | d :: ds, h => by rw [pureDs, h d (List.mem_cons_self ..), pureDs_all fun e he => h e (List.mem_cons_of_mem _ he)]; rfl
theorem pure_ints {ns : List Int} : pureD (intsD ns) = true := by
  rw [pureD]
  exact pureDs_all fun d hd => by
    obtain ⟨n, _, rfl⟩ := List.mem_map.mp hd
    rw [pureD]
theorem pure_list {α : Type} {e : α → PyData} {xs : List α} (h : ∀ x, pureD (e x) = true) : pureD (.list (xs.map e)) = true := by
  rw [pureD]
  exact pureDs_all fun d hd => by
    obtain ⟨n, _, rfl⟩ := List.mem_map.mp hd
    exact h n
section
variable {K : PySem.W.Frag}
mutual
theorem nw_fun {B B' G : Hp} : ∀ {v : V} {d : PyData}, Nw K B G v d → ∀ {d' : PyData}, Nw K B' G v d' → pureD d = true → pureD d' = true → d = d'
  | _, _, .non, _, h2, _, _ => by cases h2; rfl
  | _, _, .bl b, _, h2, _, _ => by cases h2; rfl
  | _, _, .int i, _, h2, _, _ => by cases h2; rfl
  | _, _, .str x, _, h2, _, _ => by cases h2; rfl
  | _, _, .lst n h a, _, h2, p1, p2 => by
    cases h2 with
    | lst n2 h' a' =>
      rw [h] at h'
      cases h'
      rw [pureD] at p1 p2
      rw [nwAll_fun a a' p1 p2]
    | tup h' a' => rw [pureD] at p2; cases p2
  | _, _, .tup h a, _, h2, p1, p2 => by rw [pureD] at p1; cases p1
theorem nwAll_fun {B B' G : Hp} : ∀ {xs : List V} {ds : List PyData}, NwAll K B G xs ds → ∀ {ds' : List PyData}, NwAll K B' G xs ds' → pureDs ds = true → pureDs ds' = true → ds = ds'
  | _, _, .nil, _, h2, _, _ => by cases h2; rfl
  | _, _, .cons h a, _, h2, p1, p2 => by
    cases h2 with
    | cons h' a' =>
      rw [pureDs, Bool.and_eq_true] at p1 p2
      rw [nw_fun h h' p1.1 p2.1, nwAll_fun a a' p1.2 p2.2]
end
/-- a list of own addresses: each stands for a list of data, what is directly within it is there too -/
structure OwnA (K : PySem.W.Frag) (B G : Hp) (as : List Addr) (P : Bool) (n : Nat) (C : Nat → Bool) (a : Addr) (xs : List V) (es : List PyData) : Prop where
  b : B a = none
  g : G a = some (.lst xs)
  nw : Nw K B G (.ref a) (.list es)
  len : xs.length = es.length
  pu : P = true → pureD (.list es) = true
  dp : (PyData.list es).depth ≤ n
  cap : ∀ m, C m = true → capD m (.list es) = true
  sub : ∀ (k : Nat) (fs : List PyData), es[k]? = some (.list fs) → ∃ b, xs[k]? = some (.ref b) ∧ b ∈ as
theorem OwnA.up {B G : Hp} {as as' : List Addr} {P P' : Bool} {n n' : Nat} {C C' : Nat → Bool} {a : Addr} {xs : List V} {es : List PyData} (h : OwnA K B G as P n C a xs es) (s : ∀ x ∈ as, x ∈ as') (p : P' = true → P = true) (hn : n ≤ n') (c : ∀ m, C' m = true → C m = true) : OwnA K B G as' P' n' C' a xs es :=
  ⟨h.b, h.g, h.nw, h.len, fun q => h.pu (p q), Nat.le_trans h.dp hn, fun m q => h.cap m (c m q), fun k fs q => by obtain ⟨b, h1, h2⟩ := h.sub k fs q; exact ⟨b, h1, s b h2⟩⟩
mutual
theorem nw_own {B G : Hp} : ∀ {v : V} {d : PyData}, Nw K B G v d → ∃ as : List Addr, (∀ a ∈ as, ∃ xs es, OwnA K B G as (pureD d) d.depth (fun m => capD m d) a xs es) ∧
    (∀ es, d = .list es → ∃ a, v = .ref a ∧ a ∈ as) ∧ ∀ G' : Hp, (∀ a ∈ as, G' a = G a) → (∀ a o, G a = some o → isTup o = true → G' a = some o) → Nw K B G' v d
  | _, _, .non => ⟨[], fun a h => (by cases h), fun es z => (by cases z), fun G' _ _ => .non⟩
  | _, _, .bl b => ⟨[], fun a h => (by cases h), fun es z => (by cases z), fun G' _ _ => .bl b⟩
  | _, _, .int i => ⟨[], fun a h => (by cases h), fun es z => (by cases z), fun G' _ _ => .int i⟩
  | _, _, .str x => ⟨[], fun a h => (by cases h), fun es z => (by cases z), fun G' _ _ => .str x⟩
  | _, _, .lst (a := l) (xs := xs) (ds := ds) n h al => by
    obtain ⟨as, k1, k2, k3⟩ := nwAll_own al
    refine ⟨l :: as, fun a ha => ?_, fun es z => ⟨l, rfl, List.mem_cons_self ..⟩, fun G' e t => .lst n (by rw [e l (List.mem_cons_self ..)]; exact h) (k3 G' (fun a ha => e a (List.mem_cons_of_mem _ ha)) t)⟩
    rcases List.mem_cons.mp ha with rfl | ha
    · exact ⟨xs, ds, n, h, .lst n h al, nwAll_len al, fun p => p, Nat.le_refl _, fun m p => p, fun k fs q => by obtain ⟨b, h1, h2⟩ := k2 k fs q; exact ⟨b, h1, List.mem_cons_of_mem _ h2⟩⟩
    · obtain ⟨ys, es, q⟩ := k1 a ha
      refine ⟨ys, es, q.up (fun x hx => List.mem_cons_of_mem _ hx) (fun p => (by rw [pureD] at p; exact p)) ?_ fun m p => ?_⟩
      · rw [PyData.depth.eq_def (.list ds)]
        (try dsimp only)
        omega
      · (try dsimp only at p)
        rw [capD, Bool.and_eq_true] at p
        exact p.2
  | _, _, .tup (a := l) (xs := xs) (ds := ds) h al => by
    obtain ⟨as, k1, k2, k3⟩ := nwAll_own al
    refine ⟨as, fun a ha => ?_, fun es z => (by cases z), fun G' e t => .tup ?_ (k3 G' e t)⟩
    · obtain ⟨ys, es, q⟩ := k1 a ha
      refine ⟨ys, es, q.up (fun x hx => hx) (fun p => (by rw [pureD] at p; cases p)) ?_ fun m p => ?_⟩
      · rw [PyData.depth.eq_def (.tuple ds)]
        (try dsimp only)
        omega
      · (try dsimp only at p)
        rw [capD] at p
        exact p
    · rcases h with (h | ⟨o, h⟩) | h
      · exact .inl (.inl (t _ _ h rfl))
      · exact .inl (.inr ⟨o, t _ _ h rfl⟩)
      · exact .inr h
theorem nwAll_own {B G : Hp} : ∀ {xs : List V} {ds : List PyData}, NwAll K B G xs ds → ∃ as : List Addr, (∀ a ∈ as, ∃ xs es, OwnA K B G as (pureDs ds) (PyData.depthAll ds) (fun m => capDs m ds) a xs es) ∧
    (∀ (k : Nat) (fs : List PyData), ds[k]? = some (.list fs) → ∃ b, xs[k]? = some (.ref b) ∧ b ∈ as) ∧
    ∀ G' : Hp, (∀ a ∈ as, G' a = G a) → (∀ a o, G a = some o → isTup o = true → G' a = some o) → NwAll K B G' xs ds
  | _, _, .nil => ⟨[], fun a h => (by cases h), fun k fs z => (by simp at z), fun G' _ _ => .nil⟩
  | _, _, .cons (d := d) (ds := ds) h al => by
    obtain ⟨as, k1, k2, k3⟩ := nw_own h
    obtain ⟨bs, j1, j2, j3⟩ := nwAll_own al
    refine ⟨as ++ bs, fun a ha => ?_, fun k fs z => ?_, fun G' e t => .cons (k3 G' (fun a ha => e a (List.mem_append_left _ ha)) t) (j3 G' (fun a ha => e a (List.mem_append_right _ ha)) t)⟩
    · rcases List.mem_append.mp ha with ha | ha
      · obtain ⟨ys, es, q⟩ := k1 a ha
        refine ⟨ys, es, q.up (fun x hx => List.mem_append_left _ hx) (fun p => (by rw [pureDs, Bool.and_eq_true] at p; exact p.1)) ?_ fun m p => ?_⟩
        · rw [PyData.depthAll.eq_def (d :: ds)]
          (try dsimp only)
          omega
        · (try dsimp only at p)
          rw [capDs, Bool.and_eq_true] at p
          exact p.1
      · obtain ⟨ys, es, q⟩ := j1 a ha
        refine ⟨ys, es, q.up (fun x hx => List.mem_append_right _ hx) (fun p => (by rw [pureDs, Bool.and_eq_true] at p; exact p.2)) ?_ fun m p => ?_⟩
        · rw [PyData.depthAll.eq_def (d :: ds)]
          (try dsimp only)
          omega
        · (try dsimp only at p)
          rw [capDs, Bool.and_eq_true] at p
          exact p.2
    · cases k with
      | zero =>
        simp at z
        obtain ⟨a, h1, h2⟩ := k2 fs z
        exact ⟨a, by rw [h1]; rfl, List.mem_append_left _ h2⟩
      | succ k =>
        obtain ⟨b, h1, h2⟩ := j2 k fs (by simpa using z)
        exact ⟨b, by simpa using h1, List.mem_append_right _ h2⟩
end
/-- an owned thing's part of the heap: its own lists, tuples that stand still -/
def ovH (as : List Addr) (F H : Hp) : Hp := fun a => if a ∈ as then H a else match F a with
  | some o => if isTup o = true then some o else none
  | none => none
theorem ovH_in {as : List Addr} {F H : Hp} {a : Addr} (h : a ∈ as) : ovH as F H a = H a := if_pos h
theorem ovH_tup {as : List Addr} {F H : Hp} {a : Addr} {o : HO} (h : a ∉ as) (e : F a = some o) (t : isTup o = true) : ovH as F H a = some o := by
  unfold ovH
  rw [if_neg h, e]
  exact if_pos t
theorem ovH_cases {as : List Addr} {F H : Hp} {a : Addr} {o : HO} (e : ovH as F H a = some o) : (a ∈ as ∧ H a = some o) ∨ (a ∉ as ∧ F a = some o ∧ isTup o = true) := by
  unfold ovH at e
  split at e
  next h => exact .inl ⟨h, e⟩
  next h =>
    split at e
    next o' h2 =>
      split at e
      next t => cases e; exact .inr ⟨h, h2, t⟩
      next => cases e
    next => cases e
def moP (K : PySem.W.Frag) (B : Hp) (d : PyData) : Hp → Hp → V → List Addr → Prop := fun F H v as => Nw K B (ovH as F H) v d ∧ ∀ a ∈ as, ∃ xs, H a = some (.lst xs)
abbrev moD (K : PySem.W.Frag) (B : Hp) (d : PyData) : Sl := .mo (moP K B d)
variable {B F0 : Hp} {ρ ρ1 : List Sl} {te ta tb : TE} {d e : PyData} {ds : List PyData} {D : Ends} {u : TS} {N : L2.St → Hp → Prop}
theorem st_moD : MStab (moP K B d) := fun F F' H H' v as s e ⟨h1, h2⟩ => by
  refine ⟨nw_mono (Same.refl _) (fun a o h => ?_) h1, fun a ha => by rw [e a ha]; exact h2 a ha⟩
  rcases ovH_cases h with ⟨h3, h4⟩ | ⟨h3, h4, h5⟩
  · rw [ovH_in h3, e a h3]; exact h4
  · exact ovH_tup h3 (s _ _ h4) h5
theorem nt_moD : NoTb (moP K B d) := fun F H v as ⟨_, h⟩ a ha ps e => by
  obtain ⟨xs, h⟩ := h a ha
  rw [h] at e; cases e
theorem rd_moD {B' : Hp} : RdS K (moD K B' d) d := fun B F0 F H σ ρ i c e => by
  obtain ⟨w, o⟩ := c.own
  obtain ⟨_, v, h1, h2, h3⟩ := o.sl i _ e
  refine ⟨v, h1, nw_dp (nw_mono (Same.refl _) (fun a o h => ?_) h2)⟩
  rcases ovH_cases h with ⟨_, h4⟩ | ⟨_, h4, _⟩
  · exact h4
  · exact c.i _ _ h4
/-- what a call makes anew -/
def EvO2 (K : PySem.W.Frag) (B F0 : Hp) (ρ : List Sl) (te : TE) (d : PyData) : Prop := ∀ F H σ, Cfg B F0 F H σ ρ → ∀ Q : VK, (∀ v F1 H1 H2, Gr F H F1 H1 → Same H1 H2 → Nw K H1 H2 v d → Q v H2) → te σ H Q
theorem eo_call {α : Type} {pre : α → Prop} {args : α → List Pd} {res : α → PyData} {tr : TA} {E : XK} (x : α) (hp : pre x) (h : EvA B F0 ρ tr (args x)) : EvO2 K B F0 ρ (tCall (Fp K pre args res) [] E tr) (res x) := fun F H σ k Q q =>
  h F H σ k _ fun vs F1 H1 g1 p => ⟨x, hp, by rw [List.append_nil]; exact p, fun v H2 s n => q v F1 H1 H2 g1 s n⟩
theorem q_setO (K : PySem.W.Frag) {i : Nat} (h : EvO2 K B F0 ρ te d) (k : At B F0 (u D) (ρ.set i (moD K B d))) : At B F0 (tSeq (tAsg te (gName i)) u D) ρ := fun F H σ c =>
  h F H σ c _ fun v F1 H1 H2 g1 s n => by
    have c1 := c.go g1
    obtain ⟨F2, g2, s2, n2⟩ := nw_fix (B := H1) (Same.refl _) n F1 (gr_call g1.i s)
    obtain ⟨as, a1, _, a3⟩ := nw_own n2
    have hn : ∀ a ∈ as, F1 a = none := fun a ha => by obtain ⟨_, _, q⟩ := a1 a ha; exact g1.i.free q.b
    let F3 : Hp := fun a => if a ∈ as then none else F2 a
    have e3 : ∀ a, a ∉ as → F3 a = F2 a := fun a ha => if_neg ha
    have i3 : Same F3 F2 := fun a o e => by
      by_cases ha : a ∈ as
      · have : F3 a = none := if_pos ha
        rw [this] at e; cases e
      · rw [← e3 a ha]; exact e
    have g3 : Gr F1 H1 F3 H2 := ⟨fun a o e => by rw [e3 a fun z => by rw [hn a z] at e; cases e]; exact s2 a o e, g2.h, fun a o e => g2.i a o (i3 a o e), fun a o h t z => by
      by_cases ha : a ∈ as
      · exact if_pos ha
      · rw [e3 a ha]; exact g2.n a o h t z, fun a o e t => g2.t a o (i3 a o e) t⟩
    refine k F3 H2 _ (c.setN (as := as) st_moD (g1.trans g3) ⟨?_, fun a ha => ?_⟩ fun a ha => ?_)
    · refine nw_mono c1.gr.h (Same.refl _) (a3 _ (fun a ha => ?_) fun a o e t => ?_)
      · obtain ⟨xs, _, q⟩ := a1 a ha
        have q := q.g
        rw [ovH_in ha, q]
        exact g2.i _ _ q
      · by_cases ha : a ∈ as
        · rw [ovH_in ha]; exact g2.i _ _ e
        · exact ovH_tup ha (by rw [e3 a ha]; exact e) t
    · obtain ⟨xs, _, q⟩ := a1 a ha
      exact ⟨xs, g2.i _ _ q.g⟩
    · obtain ⟨xs, _, q⟩ := a1 a ha
      exact ⟨if_pos ha, g1.fresh q.b, _, g2.i _ _ q.g, rfl⟩
/-! .. opened: the outer list stands still, the lists within may be changed -/
/-- the owned lists, their items as G tells -/
def mgP (G : Hp) (l : Addr) (X : List V) (S : List Addr) : Hp → Hp → V → List Addr → Prop := fun F H v as => v = .ref l ∧ F l = some (.lst X) ∧ as = S ∧ ∀ a ∈ S, H a = G a ∧ ∃ xs, G a = some (.lst xs)
/-- .. whatever they hold -/
def msP (l : Addr) (X : List V) (S : List Addr) (m : Nat) : Hp → Hp → V → List Addr → Prop := fun F H v as => v = .ref l ∧ F l = some (.lst X) ∧ as = S ∧ ∀ a ∈ S, ∃ xs, H a = some (.lst xs) ∧ xs.length ≤ m
theorem st_mg {G : Hp} {l : Addr} {X : List V} {S : List Addr} : MStab (mgP G l X S) := fun F F' H H' v as s e ⟨h1, h2, h3, h4⟩ => by
  subst h3
  exact ⟨h1, s _ _ h2, rfl, fun a ha => by rw [e a ha]; exact h4 a ha⟩
theorem st_ms {l : Addr} {X : List V} {S : List Addr} {m : Nat} : MStab (msP l X S m) := fun F F' H H' v as s e ⟨h1, h2, h3, h4⟩ => by
  subst h3
  exact ⟨h1, s _ _ h2, rfl, fun a ha => by rw [e a ha]; exact h4 a ha⟩
theorem nt_ms {l : Addr} {X : List V} {S : List Addr} {m : Nat} : NoTb (msP l X S m) := fun F H v as ⟨_, _, e, h⟩ a ha ps z => by
  subst e
  obtain ⟨xs, h, _⟩ := h a ha
  rw [h] at z; cases z
/-- what is known of the opened lists -/
structure Mess (K : PySem.W.Frag) (G : Hp) (l : Addr) (X : List V) (S : List Addr) (ds : List PyData) : Prop where
  len : X.length = ds.length
  cap : ∀ m, capDs m ds = true → ∀ a ∈ S, ∀ xs, G a = some (.lst xs) → xs.length ≤ m
  sub : ∀ (j : Nat) (es : List PyData), ds[j]? = some (.list es) → ∃ a xs, X[j]? = some (.ref a) ∧ a ∈ S ∧ G a = some (.lst xs) ∧ xs.length = es.length ∧
    ∀ (k : Nat) (fs : List PyData), es[k]? = some (.list fs) → ∃ b, xs[k]? = some (.ref b) ∧ b ∈ S
theorem at_open (i : Nat) (hi : ρ[i]? = some (moD K B (.list ds))) (pu : pureDs ds = true) (k : ∀ G l X S, Mess K G l X S ds → At B F0 N (ρ.set i (.mo (mgP G l X S)))) : At B F0 N ρ := fun F H σ c => by
  obtain ⟨w, o⟩ := c.own
  obtain ⟨_, v, e1, hn, hl⟩ := o.sl i _ hi
  have hlt : i < ρ.length := (List.getElem?_eq_some_iff.mp hi).1
  have Gi : Same (ovH (w i) F H) H := fun a u h => by
    rcases ovH_cases h with ⟨_, h4⟩ | ⟨_, h4, _⟩
    · exact h4
    · exact c.i _ _ h4
  have inS : ∀ {a : Addr} {xs : List V}, ovH (w i) F H a = some (.lst xs) → a ∈ w i := fun {a xs} h => by
    rcases ovH_cases h with ⟨h4, _⟩ | ⟨_, _, h5⟩
    · exact h4
    · cases h5
  have hn' := hn
  cases hn with
  | @lst l X _ hB hX al =>
    have lw : l ∈ w i := inS hX
    obtain ⟨fl, bl, _, _, _⟩ := o.at_ i l lw
    obtain ⟨S, s1, s2, _⟩ := nwAll_own al
    have sl : ∀ a ∈ S, a ≠ l := fun a ha z => by
      obtain ⟨xs, es, q⟩ := s1 a ha
      have n := q.nw
      rw [z] at n
      have := nw_fun n hn' (q.pu pu) (by rw [pureD]; exact pu)
      have dd := q.dp
      rw [this, PyData.depth.eq_def (.list ds)] at dd
      (try dsimp only at dd)
      omega
    have sw : ∀ a ∈ S, a ∈ w i := fun a ha => by obtain ⟨_, _, q⟩ := s1 a ha; exact inS q.g
    have M : Mess K (ovH (w i) F H) l X S ds := by
      refine ⟨nwAll_len al, fun m hm a ha xs hx => ?_, fun j es hj => ?_⟩
      · obtain ⟨ys, es, q⟩ := s1 a ha
        have := q.g
        rw [hx] at this
        cases this
        have hc := q.cap m hm
        rw [capD, Bool.and_eq_true] at hc
        rw [q.len]
        simpa using hc.1
      · obtain ⟨a, h1, h2⟩ := s2 j es hj
        obtain ⟨x, x1, x2⟩ := nwAll_get al hj
        rw [h1] at x1
        cases x1
        obtain ⟨ys, es', q⟩ := s1 a h2
        have pes : pureD (.list es) = true := by
          have : ∀ {ds : List PyData} {j : Nat} {d : PyData}, pureDs ds = true → ds[j]? = some d → pureD d = true := by
            intro ds
            induction ds with
            | nil => intro j d _ h; simp at h
            | cons d0 r ih =>
              intro j d p h
              rw [pureDs, Bool.and_eq_true] at p
              cases j with
              | zero => simp at h; rw [← h]; exact p.1
              | succ j => exact ih p.2 (by simpa using h)
          exact this pu hj
        have ee := nw_fun q.nw x2 (q.pu pu) pes
        cases ee
        exact ⟨a, ys, h1, h2, q.g, q.len, q.sub⟩
    have sF : Same F (upd F l (.lst X)) := fun a u e => by rw [upd_ne (ne_of_none e fl)]; exact e
    refine k (ovH (w i) F H) l X S M (upd F l (.lst X)) H σ ⟨⟨c.gr.f.trans sF, c.gr.h, fun a u e => ?_, fun a u e t z => ?_, fun a u e t => ?_⟩, by simp [c.len], fun k => if k = i then S else w k, fun k j a h1 h2 => ?_, fun k a h1 => ?_, fun k s hs => ?_⟩
    · by_cases ha : a = l
      · subst ha
        rw [upd_same] at e
        cases e
        exact Gi _ _ hX
      · rw [upd_ne ha] at e
        exact c.i a u e
    · have ha : a ≠ l := fun q => by rw [q, bl] at e; cases e
      rw [upd_ne ha]
      exact c.gr.n a u e t z
    · by_cases ha : a = l
      · rw [ha, upd_same] at e
        cases e
        cases t
      · rw [upd_ne ha] at e
        exact c.gr.t a u e t
    · (try dsimp only at h1 h2)
      have q1 : a ∈ w k := by
        split at h1
        next e => rw [e]; exact sw a h1
        next => exact h1
      have q2 : a ∈ w j := by
        split at h2
        next e => rw [e]; exact sw a h2
        next => exact h2
      exact o.dj k j a q1 q2
    · (try dsimp only at h1)
      have ha : a ≠ l := by
        split at h1
        next => exact sl a h1
        next ki => exact fun q => ki (o.dj k i a h1 (by rw [q]; exact lw))
      have q1 : a ∈ w k := by
        split at h1
        next e => rw [e]; exact sw a h1
        next => exact h1
      obtain ⟨r1, r2, r3⟩ := o.at_ k a q1
      exact ⟨by rw [upd_ne ha]; exact r1, r2, r3⟩
    · (try dsimp only)
      by_cases ki : k = i
      · subst ki
        rw [List.getElem?_set_self hlt] at hs
        cases hs
        refine ⟨st_mg, _, e1, rfl, upd_same, if_pos rfl, fun a ha => ?_⟩
        have ha2 := sw a ha
        obtain ⟨xs, q⟩ := hl a ha2
        exact ⟨(ovH_in ha2).symm, xs, by rw [ovH_in ha2]; exact q⟩
      · rw [if_neg ki]
        rw [List.getElem?_set_ne (fun e => ki e.symm)] at hs
        have q := o.sl k s hs
        cases s with
        | no => trivial
        | fz f => obtain ⟨st, v, e, p⟩ := q; exact ⟨st, v, e, st _ _ v sF p⟩
        | mo m =>
          obtain ⟨st, v, e, p⟩ := q
          exact ⟨st, v, e, st _ _ _ _ _ _ sF (fun a ha => rfl) p⟩
variable {G : Hp} {l : Addr} {X : List V} {S : List Addr} {m : Nat}
/-- what they hold is forgotten -/
theorem at_mess (i : Nat) (m : Nat) (hi : ρ[i]? = some (.mo (mgP G l X S))) (M : Mess K G l X S ds) (cp : capDs m ds = true) (k : At B F0 N (ρ.set i (.mo (msP l X S m)))) : At B F0 N ρ := fun F H σ c =>
  k F H σ (c.chg hi st_ms fun v as e mm n => by
    obtain ⟨h1, h2, rfl, h4⟩ := mm
    exact ⟨⟨h1, h2, rfl, fun a ha => by obtain ⟨q1, xs, q2⟩ := h4 a ha; exact ⟨xs, by rw [q1]; exact q2, M.cap m cp a ha xs q2⟩⟩, fun _ _ => rfl, fun a ha => by obtain ⟨_, _, q⟩ := n a ha; exact q⟩)
/-- one of the owned lists, whichever -/
def inS (S : List Addr) : PyData → Pd := fun _ _ v => ∃ b ∈ S, v = .ref b
theorem st_inS {d : PyData} : Stab (inS S d) := fun _ _ _ _ h => h
theorem wk_refs {a : Addr} {xs : List V} {F1 : Hp} {n : Nat} (h : SqL K F1 a xs) (hl : xs.length = n) (hx : ∀ x ∈ xs, ∃ b ∈ S, x = .ref b) : Wk (Itl K a) (inS S) F1 (List.replicate n .none) where
  goes := fun i H hi s => by
    have hi : i < xs.length := by rw [hl]; simpa using hi
    exact ⟨xs, xs[i], s.seq h, by simp [hi]⟩
  stops := fun H s => ⟨xs, s.seq h, by rw [List.length_replicate, hl]; exact Nat.le_refl _⟩
  yields := fun i F H x H' hi s1 s2 y => by
    obtain ⟨rfl, y⟩ := y
    have hi2 : i < xs.length := by rw [hl]; simpa using hi
    have e := y xs ((s1.trans s2).seq h)
    refine ⟨F, .none, Gr.refl s2, by rw [List.getElem?_replicate, if_pos (by simpa using hi)], hx x (List.mem_of_getElem? e)⟩
/-- the two inner lists of lists, one behind the other -/
theorem evj_cat2 {i : Nat} {a b : Int} {es fs : List PyData} (hi : ρ[i]? = some (.mo (mgP G l X S))) (M : Mess K G l X S ds) (a0 : 0 ≤ a) (b0 : 0 ≤ b) (ha : ds[a.toNat]? = some (.list es)) (hb : ds[b.toNat]? = some (.list fs)) (pa : ∀ e ∈ es, ∃ q, e = .list q) (pb : ∀ e ∈ fs, ∃ q, e = .list q)
    (hz : es.length + fs.length ≤ 100000) : EvJ B F0 ρ (iList K (tOp rCat (tOp (rIxL K) (tVar i) (tC (.int a))) (tOp (rIxL K) (tVar i) (tC (.int b))))) (inS S) (List.replicate (es.length + fs.length) .none) := fun F H σ c R r => by
  obtain ⟨w, o⟩ := c.own
  obtain ⟨_, v, e1, rfl, hX, ew, hS⟩ := o.sl i _ hi
  obtain ⟨a1, xs, x1, x2, x3, x4, x5⟩ := M.sub a.toNat es ha
  obtain ⟨b1, ys, y1, y2, y3, y4, y5⟩ := M.sub b.toNat fs hb
  have hX2 := SqL.of (K := K) (c.i _ _ hX)
  refine ⟨_, e1, l, X, a, .ref a1, rfl, rfl, hX2, atI_nn a0 x1, ?_⟩
  refine ⟨_, e1, l, X, b, .ref b1, rfl, rfl, hX2, atI_nn b0 y1, ?_⟩
  refine ⟨a1, b1, xs, ys, rfl, rfl, by rw [(hS a1 x2).1]; exact x3, by rw [(hS b1 y2).1]; exact y3, sz_of (by rw [x4, y4]; exact hz), fun p hp => ?_⟩
  have g : Gr F H F (upd H p (.lst (xs ++ ys))) := Gr.new c.i hp
  obtain ⟨F2, g2, s2, e2⟩ := g.putN hp upd_same
  refine ⟨p, rfl, ⟨_, SqL.of upd_same⟩, r _ F2 _ g2 (wk_refs (SqL.of e2) (by rw [List.length_append, x4, y4]) fun x hx => ?_)⟩
  have one : ∀ {zs : List V} {gs : List PyData}, zs.length = gs.length → (∀ e ∈ gs, ∃ q, e = PyData.list q) → (∀ (k : Nat) (fs : List PyData), gs[k]? = some (.list fs) → ∃ b, zs[k]? = some (.ref b) ∧ b ∈ S) → ∀ x ∈ zs, ∃ b ∈ S, x = V.ref b := fun {zs gs} hl hg hk x hx => by
    obtain ⟨k, hk1, rfl⟩ := List.mem_iff_getElem.mp hx
    have hk2 : k < gs.length := by omega
    obtain ⟨q, eq⟩ := hg _ (List.getElem_mem hk2)
    obtain ⟨b, q1, q2⟩ := hk k q (by rw [List.getElem?_eq_getElem hk2, eq])
    rw [List.getElem?_eq_getElem hk1] at q1
    exact ⟨b, q2, Option.some.inj q1⟩
  rcases List.mem_append.mp hx with hx | hx
  · exact one x4 pa x5 x hx
  · exact one y4 pb y5 x hx
/-- the outer list itself -/
theorem evj_outer {i : Nat} (hi : ρ[i]? = some (.mo (msP l X S m))) (M : Mess K G l X S ds) (pa : ∀ e ∈ ds, ∃ q, e = .list q) : EvJ B F0 ρ (iList K (tVar i)) (inS S) (List.replicate ds.length .none) := fun F H σ c R r => by
  obtain ⟨w, o⟩ := c.own
  obtain ⟨_, v, e1, rfl, hX, ew, hS⟩ := o.sl i _ hi
  refine ⟨_, e1, l, rfl, ⟨X, SqL.of (c.i _ _ hX)⟩, r _ F H (Gr.refl c.i) (wk_refs (SqL.of hX) M.len fun x hx => ?_)⟩
  obtain ⟨k, hk1, rfl⟩ := List.mem_iff_getElem.mp hx
  have hk2 : k < ds.length := by rw [← M.len]; exact hk1
  obtain ⟨q, eq⟩ := pa _ (List.getElem_mem hk2)
  obtain ⟨b, xs, q1, q2, _⟩ := M.sub k q (by rw [List.getElem?_eq_getElem hk2, eq])
  rw [List.getElem?_eq_getElem hk1] at q1
  exact ⟨b, q2, Option.some.inj q1⟩
/-- some.append(x), some.clear(), some one of the owned lists -/
theorem evx_messApp {i j : Nat} {f : Pd} (hi : ρ[i]? = some (.mo (msP l X S m))) (hj : ρ[j]? = some (.fz (inS S d))) (ha : Ev B F0 ρ ta f) (hz : m < 100000) :
    EvX B F0 ρ (tBM K "list" rAppend (tVar j) (tCons ta tNil)) (ρ.set i (.mo (msP l X S (m + 1)))) (nwd K B .none) := fun F H σ c Q q => by
  obtain ⟨w, o⟩ := c.own
  obtain ⟨_, v, e1, rfl, hX, ew, hS⟩ := o.sl i _ hi
  obtain ⟨_, v2, e2, b, hb, rfl⟩ := o.sl j _ hj
  obtain ⟨xs, hbx, hbl⟩ := hS b hb
  refine ⟨_, e2, .inl ⟨rfl, _, SqL.of hbx⟩, ha F H σ c _ fun y F2 H2 g p => ⟨b, xs, y, rfl, rfl, g.h _ _ hbx, sz_lt (by omega), ?_⟩⟩
  have c2 := (c.go g).chg (H' := upd H2 b (.lst (xs ++ [y]))) hi (st_ms (l := l) (X := X) (S := S) (m := m + 1)) fun v' as ev mm n => by
    obtain ⟨m1, m2, em, m4⟩ := mm
    subst em
    refine ⟨⟨m1, m2, rfl, fun a ha => ?_⟩, fun a ha => upd_ne fun z => ha (by rw [z]; exact hb), fun a ha => ?_⟩
    · by_cases ab : a = b
      · rw [ab]; exact ⟨_, upd_same, by rw [List.length_append, List.length_singleton]; omega⟩
      · rw [upd_ne ab]; obtain ⟨zs, z1, z2⟩ := m4 a ha; exact ⟨zs, z1, by omega⟩
    · by_cases ab : a = b
      · rw [ab]; exact ⟨_, upd_same, rfl⟩
      · rw [upd_ne ab]; obtain ⟨_, _, q⟩ := n a ha; exact q
  exact q _ F2 _ c2 .non
theorem evx_messClr {i j : Nat} (hi : ρ[i]? = some (.mo (msP l X S m))) (hj : ρ[j]? = some (.fz (inS S d))) : EvX B F0 ρ (tBM0 K "list" rClear (tVar j)) (ρ.set i (.mo (msP l X S m))) (nwd K B .none) := fun F H σ c Q q => by
  obtain ⟨w, o⟩ := c.own
  obtain ⟨_, v, e1, rfl, hX, ew, hS⟩ := o.sl i _ hi
  obtain ⟨_, v2, e2, b, hb, rfl⟩ := o.sl j _ hj
  obtain ⟨xs, hbx, hbl⟩ := hS b hb
  refine ⟨_, e2, .inl ⟨rfl, _, SqL.of hbx⟩, b, xs, rfl, rfl, hbx, ?_⟩
  have c2 := c.chg (H' := upd H b (.lst [])) hi (st_ms (l := l) (X := X) (S := S) (m := m)) fun v' as ev mm n => by
    obtain ⟨m1, m2, em, m4⟩ := mm
    subst em
    refine ⟨⟨m1, m2, rfl, fun a ha => ?_⟩, fun a ha => upd_ne fun z => ha (by rw [z]; exact hb), fun a ha => ?_⟩
    · by_cases ab : a = b
      · rw [ab]; exact ⟨_, upd_same, Nat.zero_le _⟩
      · rw [upd_ne ab]; exact m4 a ha
    · by_cases ab : a = b
      · rw [ab]; exact ⟨_, upd_same, rfl⟩
      · rw [upd_ne ab]; obtain ⟨_, _, q⟩ := n a ha; exact q
  exact q _ F _ c2 .non
end
end Lay
namespace Lay
open PySem L2 PySem.Spec PyProof.Rows
/-! what changes nothing may look at the owned things as if they stood still -/
def Stl (s s' : Sl) : Prop := s' = .no ∨ ∃ f, s' = .fz f ∧ Stab f ∧ ∀ B F0 F H σ ρ (i : Nat), Cfg B F0 F H σ ρ → ρ[i]? = some s → ∃ v, σ[i]? = some (some v) ∧ f H v
inductive Stls : List Sl → List Sl → Prop
  | nil : Stls [] []
  | cons {s s' : Sl} {r r' : List Sl} : Stl s s' → Stls r r' → Stls (s :: r) (s' :: r')
section
variable {K : PySem.W.Frag} {B F0 : Hp} {ρ ρ1 ρz : List Sl} {te ta tb : TE} {f : Pd} {d e : PyData} {ds : List PyData} {D : Ends} {u : TS} {N : L2.St → Hp → Prop}
theorem stl_no {s : Sl} : Stl s .no := .inl rfl
theorem stl_fz (st : Stab f) : Stl (.fz f) (.fz f) := .inr ⟨f, rfl, st, fun B F0 F H σ ρ i c e => by
  obtain ⟨w, o⟩ := c.own
  obtain ⟨_, v, h1, h2⟩ := o.sl i _ e
  exact ⟨v, h1, st _ _ _ c.i h2⟩⟩
theorem stl_rd {s : Sl} (r : RdS K s d) : Stl s (sa K d) := .inr ⟨_, rfl, st_dat, fun B F0 F H σ ρ i c e => r B F0 F H σ ρ i c e⟩
theorem stl_mt {C : Addr} {st : TSt} : Stl (mt K C st) (.fz (isTown K C st)) := .inr ⟨_, rfl, st_isTown, fun B F0 F H σ ρ i c e => by
  obtain ⟨w, o⟩ := c.own
  obtain ⟨_, v, h1, t, dx, d, kv, rfl, _, h4, h5, h6⟩ := o.sl i _ e
  exact ⟨_, h1, t, dx, d, kv, rfl, h4, h5, kvAll_mono c.i h6⟩⟩
theorem stls_at : ∀ {ρ ρz : List Sl}, Stls ρ ρz → ∀ (i : Nat) s', ρz[i]? = some s' → ∃ s, ρ[i]? = some s ∧ Stl s s'
  | _, _, .nil, i, s', h => by simp at h
  | _, _, .cons h r, 0, s', e => by
    simp at e
    subst e
    exact ⟨_, rfl, h⟩
  | _, _, .cons h r, i + 1, s', e => by
    obtain ⟨s, e1, e2⟩ := stls_at r i s' (by simpa using e)
    exact ⟨s, by simpa using e1, e2⟩
theorem stls_len : ∀ {ρ ρz : List Sl}, Stls ρ ρz → ρ.length = ρz.length
  | _, _, .nil => rfl
  | _, _, .cons _ r => by rw [List.length_cons, List.length_cons, stls_len r]
theorem cfg_still {F H : Hp} {σ : L2.St} (h : Stls ρ ρz) (c : Cfg B F0 F H σ ρ) : Cfg H H H H σ ρz := by
  refine ⟨Gr.refl (Same.refl _), by rw [c.len, stls_len h], fun _ => [], fun i j a h1 => (List.not_mem_nil h1).elim, fun i a h1 => (List.not_mem_nil h1).elim, fun i s hs => ?_⟩
  obtain ⟨s0, e1, rfl | ⟨f, rfl, st, k⟩⟩ := stls_at h i s hs
  · trivial
  · obtain ⟨v, e2, p⟩ := k B F0 F H σ ρ i c e1
    exact ⟨st, v, e2, p⟩
theorem ev_still (h : Stls ρ ρz) (k : ∀ B', Ev B' B' ρz te (nwd K B' d)) : Ev B F0 ρ te (nwd K B d) := fun F H σ c Q q =>
  k H H H σ (cfg_still h c) _ fun v F' H' g p => by
    obtain ⟨F2, g2, _, n2⟩ := nw_fix (B := B) c.gr.h (nw_mono (Same.refl _) g.i p) F (gr_call c.i g.h)
    exact q v F2 H' g2 n2
/-- .. and makes a new list of flat things -/
theorem evm_still (h : Stls ρ ρz) (k : ∀ B', Ev B' B' ρz te (nwd K B' (.list ds))) (fl : flatDs ds = true) : EvM K B F0 ρ te ds := fun F H σ c Q q =>
  k H H H σ (cfg_still h c) _ fun v F' H' g p => by
    cases p with
    | @lst l xs _ h1 h2 h3 =>
      have g0 := gr_call c.i g.h
      obtain ⟨F2, g2, _, n2⟩ := dpAll_prom (B := B) (nwAll_dp (nwAll_mono (Same.refl _) g.i h3)) fl F (Gr.refl g0.i)
      have n1 : F l = none := c.i.free h1
      exact q l xs F2 H' (g0.trans g2) (g2.n l _ (g.i _ _ h2) rfl n1) h1 (g.i _ _ h2) n2
theorem eo2_still (h : Stls ρ ρz) (k : ∀ B', Ev B' B' ρz te (nwd K B' d)) : EvO2 K B F0 ρ te d := fun F H σ c Q q =>
  k H H H σ (cfg_still h c) _ fun v F' H' g p => q v F H H' (Gr.refl c.i) g.h (nw_mono (Same.refl _) g.i p)
theorem et_still {t : TT} {b : Bool} (h : Stls ρ ρz) (k : ∀ B', EvT B' B' ρz t b) : EvT B F0 ρ t b := fun F H σ c Q q =>
  k H H H σ (cfg_still h c) _ fun F' H' g => q F H' (gr_call c.i g.h)
/-- a walk over owned lists whose items are changed on the way: what they hold is forgotten at its start -/
theorem EvJ.mess {wi : TI} {q : PyData → Pd} {G : Hp} {l : Addr} {X : List V} {S : List Addr} {es : List PyData} (i m : Nat) (h : EvJ B F0 ρ wi q ds) (hi : ρ[i]? = some (.mo (mgP G l X S))) (M : Mess K G l X S es) (cp : capDs m es = true) : EvI B F0 ρ wi (ρ.set i (.mo (msP l X S m))) q ds := fun F H σ c R r => h F H σ c _ fun J F' H' g w => by
  have c2 := (c.go g).chg (H' := H') hi (st_ms (l := l) (X := X) (S := S) (m := m)) fun v as e mm n => by
    obtain ⟨h1, h2, rfl, h4⟩ := mm
    exact ⟨⟨h1, h2, rfl, fun a ha => by obtain ⟨q1, xs, q2⟩ := h4 a ha; exact ⟨xs, by rw [q1]; exact q2, M.cap m cp a ha xs q2⟩⟩, fun _ _ => rfl, fun a ha => by obtain ⟨_, _, q⟩ := n a ha; exact q⟩
  exact r J F' H' c2 c2.gr w
/-- a thing of a known kind -/
theorem EvH.kd {i : Int} (h : EvH B F0 ρ te (dat K (.int i))) : EvH B F0 ρ te (kdP K (.int i)) := fun F H σ c Q q => h F H σ c _ fun v F' H' g p => by
  have k := kd_dp p
  cases p
  exact q _ F' H' g ⟨rfl, k⟩
end
section
variable {K : PySem.W.Frag} {B F0 : Hp} {ρ : List Sl} {te ta tb : TE} {tr : TA} {f : Pd} {fs : List Pd} {ds ds' : List PyData}
theorem ev_neg {a : Int} (ha : EvH B F0 ρ ta (dat K (.int a))) : Ev B F0 ρ (tUn (rU fun i => .int (-i)) ta) (nwd K B (.int (-a))) := fun F H σ c Q q =>
  ha F H σ c _ fun v F' H' g p => by
    cases p
    exact ⟨a, rfl, q _ F' H' g (.int _)⟩
theorem evm_is (h : EvM K B F0 ρ te ds) (e : ds = ds') : EvM K B F0 ρ te ds' := e ▸ h
/-! things of several kinds at once -/
def EvFs (B F0 : Hp) (ρ : List Sl) (ta : TA) (fs : List Pd) : Prop := ∀ F H σ, Cfg B F0 F H σ ρ → ∀ Q : List V → Hp → Prop, (∀ vs F' H', Gr F H F' H' → AOk fs F' vs → Q vs H') → ta σ H Q
theorem efs_nil : EvFs B F0 ρ tNil [] := fun F H σ c Q q => q [] F H (Gr.refl c.i) rfl
theorem efs_cons (st : Stab f) (h : Ev B F0 ρ te f) (hr : EvFs B F0 ρ tr fs) : EvFs B F0 ρ (tCons te tr) (f :: fs) := fun F H σ c Q q =>
  h F H σ c _ fun v F1 H1 g1 p1 => hr F1 H1 σ (c.go g1) _ fun vs F2 H2 g2 p2 => q _ F2 H2 (g1.trans g2) ⟨v, vs, rfl, st _ _ _ g2.f p1, p2⟩
theorem ev_pickF {i : Int} (h : EvFs B F0 ρ tr fs) (hs : ∀ g ∈ fs, Stab g) (hl : fs.length ≤ 100000) (hb : EvH B F0 ρ tb (dat K (.int i))) (h0 : 0 ≤ i) (e : fs[i.toNat]? = some f) : Ev B F0 ρ (tOp (rIxL K) (tLst tr) tb) f := fun F H σ c Q q =>
  h F H σ c _ fun vs F1 H1 g1 p1 => ⟨sz_of (by rw [aok_len p1]; exact hl), fun a ha => by
    have g2 : Gr F H F1 (upd H1 a (.lst vs)) := g1.trans (Gr.new g1.i ha)
    refine hb F1 _ σ (c.go g2) _ fun v F3 H3 g3 p3 => ?_
    cases p3
    obtain ⟨v, e1, e2⟩ := aok_get p1 e
    exact ⟨a, vs, i, v, rfl, rfl, SqL.of (g3.h _ _ upd_same), atI_nn h0 e1, q _ F3 H3 (g2.trans g3) (hs f (List.mem_of_getElem? e) _ _ _ g3.f e2)⟩⟩
theorem ev_dnew : Ev B F0 ρ tDNewK (isDictT K []) := fun F H σ c Q q p hp => by
  obtain ⟨F2, g2, s2, e2⟩ := (Gr.new (o := .dK []) c.i hp).putN (o := .dK []) hp upd_same
  exact q _ F2 _ g2 ⟨p, [], rfl, e2, .nil⟩
/-- a slot that holds no table -/
def NtS (s : Sl) : Prop := ∀ m, s = .mo m → NoTb m
theorem nts_fz {f : Pd} : NtS (.fz f) := fun m e => by cases e
theorem nts_no : NtS .no := fun m e => by cases e
theorem nts_mo {m : Hp → Hp → V → List Addr → Prop} (h : NoTb m) : NtS (.mo m) := fun m' e => by cases e; exact h
theorem n0_S {s : Sl} (h : NtS s) (r : Nt0 ρ) : Nt0 (s :: ρ) := fun j m e => by
  cases j with
  | zero => simp at e; exact h m e
  | succ j => exact r j m (by simpa using e)
end
end Lay
namespace Lay
open PySem L2 PySem.Spec PyProof.Rows
/-! defs with lambdas that are called by others: they keep all tables -/
section
variable {K : PySem.W.Frag}
theorem sqt_noT {H : Hp} {a : Addr} {xs : List V} (h : SqT K H a xs) : SqT K (noT H) a xs := by
  rcases h with (h | ⟨o, h⟩) | h
  · exact .inl (.inl (noT_at h rfl))
  · exact .inl (.inr ⟨o, noT_at h rfl⟩)
  · exact .inr h
mutual
theorem dp_noT {H : Hp} : ∀ {v : V} {d : PyData}, Dp K H v d → Dp K (noT H) v d
  | _, _, .non => .non
  | _, _, .bl b => .bl b
  | _, _, .int i => .int i
  | _, _, .str x => .str x
  | _, _, .lst h a => .lst (seq_noT h) (dpAll_noT a)
  | _, _, .tup h a => .tup (sqt_noT h) (dpAll_noT a)
theorem dpAll_noT {H : Hp} : ∀ {xs : List V} {ds : List PyData}, DpAll K H xs ds → DpAll K (noT H) xs ds
  | _, _, .nil => .nil
  | _, _, .cons h a => .cons (dp_noT h) (dpAll_noT a)
end
mutual
theorem nw_noT {B H : Hp} : ∀ {v : V} {d : PyData}, Nw K B H v d → Nw K B (noT H) v d
  | _, _, .non => .non
  | _, _, .bl b => .bl b
  | _, _, .int i => .int i
  | _, _, .str x => .str x
  | _, _, .lst n h a => .lst n (noT_at h rfl) (nwAll_noT a)
  | _, _, .tup h a => .tup (sqt_noT h) (nwAll_noT a)
theorem nwAll_noT {B H : Hp} : ∀ {xs : List V} {ds : List PyData}, NwAll K B H xs ds → NwAll K B (noT H) xs ds
  | _, _, .nil => .nil
  | _, _, .cons h a => .cons (nw_noT h) (nwAll_noT a)
end
theorem kv_noT {B H : Hp} : ∀ {kv : List (Key × V)} {kvs : List (Int × PyData)}, KvAll K B H kv kvs → KvAll K B (noT H) kv kvs
  | _, _, .nil => .nil
  | _, _, .cons h a => .cons (nw_noT h) (kv_noT a)
/-- what holds without the tables too -/
def NoTP (f : Pd) : Prop := ∀ H v, f H v → f (noT H) v
theorem np_dat {d : PyData} : NoTP (dat K d) := fun H v h => dp_noT h
theorem np_nwd {B : Hp} {d : PyData} : NoTP (nwd K B d) := fun H v h => nw_noT h
theorem np_town {C : Addr} {st : TSt} : NoTP (isTown K C st) := fun H v ⟨t, dx, d, kv, h1, h2, h3, h4⟩ => ⟨t, dx, d, kv, h1, noT_at h2 rfl, noT_at h3 rfl, kv_noT h4⟩
theorem np_kd {v : V} : NoTP (kdP K v) := fun H u ⟨e, k⟩ => ⟨e, by
  rcases k with k | k | k | k | ⟨a, e, k⟩
  · exact .inl k
  · exact .inr (.inl k)
  · exact .inr (.inr (.inl k))
  · exact .inr (.inr (.inr (.inl k)))
  · refine .inr (.inr (.inr (.inr ⟨a, e, ?_⟩)))
    rcases k with ⟨xs, k⟩ | ⟨xs, k⟩ | ⟨kv, k | ⟨o, k⟩⟩
    · exact .inl ⟨xs, seq_noT k⟩
    · exact .inr (.inl ⟨xs, sqt_noT k⟩)
    · exact .inr (.inr ⟨kv, .inl (noT_at k rfl)⟩)
    · exact .inr (.inr ⟨kv, .inr ⟨o, noT_at k rfl⟩⟩)⟩
theorem aok_noT : ∀ {fs : List Pd} {H : Hp} {vs : List V}, (∀ f ∈ fs, NoTP f) → AOk fs H vs → AOk fs (noT H) vs
  | [], _, _, _, h => h
  | f :: fs, H, vs, st, ⟨v, ws, e, p, h⟩ => ⟨v, ws, e, st f (List.mem_cons_self ..) _ _ p, aok_noT (fun g hg => st g (List.mem_cons_of_mem _ hg)) h⟩
theorem np1 {f : Pd} (h : NoTP f) : ∀ g ∈ [f], NoTP g := fun g hg => by rw [List.mem_singleton.mp hg]; exact h
theorem npC {f : Pd} {fs : List Pd} (h : NoTP f) (hs : ∀ g ∈ fs, NoTP g) : ∀ g ∈ f :: fs, NoTP g := fun g hg => by
  rcases List.mem_cons.mp hg with rfl | hg
  · exact h
  · exact hs g hg
/-- the slots at the entry of a def that has the tables T -/
def enterT (T : List (Addr × Str)) (N : Nat) : List Pd → List Sl
  | [] => List.replicate N Sl.no
  | f :: fs => .mo (tabP T f) :: (fs.map Sl.fz ++ List.replicate (N - (fs.length + 1)) Sl.no)
theorem tabS_F {T : List (Addr × Str)} {H : Hp} (h : LamX.Tabs T H) : ∀ p ∈ T, TabF (noT H) H p := fun p hp => by
  obtain ⟨ps, h1, h2, h3⟩ := h p hp
  refine ⟨ps, h1, h2, fun pos cv hc => ?_⟩
  obtain ⟨c, e1, e2⟩ := h3 pos cv hc
  exact ⟨c, e1, noT_at e2 rfl⟩
theorem cfg_enterTs {T : List (Addr × Str)} {f : Pd} {fs : List Pd} {N : List Str} {H : Hp} {vs : List V} (h : AOk (f :: fs) (noT H) vs) (st : ∀ g ∈ f :: fs, Stab g) (hT : LamX.Tabs T H) (hl : fs.length + 1 ≤ N.length) :
    Cfg (noT H) (noT H) (noT H) H (L2.start N vs) (enterT T N.length (f :: fs)) := by
  have el := aok_len h
  rw [List.length_cons] at el
  refine ⟨⟨Same.refl _, noT_same H, noT_same H, fun _ _ _ _ e => e, fun _ _ e _ => e⟩, by simp [L2.start, enterT, el]; omega, fun i => if i = 0 then T.map (·.1) else [], fun i j a h1 h2 => ?_, fun i a h1 => ?_, fun i s hs => ?_⟩
  · (try dsimp only at h1 h2)
    split at h1
    · split at h2
      · omega
      · cases h2
    · cases h1
  · (try dsimp only at h1)
    split at h1
    · obtain ⟨p, hp, rfl⟩ := List.mem_map.mp h1
      obtain ⟨ps, e1, _⟩ := hT p hp
      have e : noT H p.1 = none := by unfold noT; rw [e1]
      exact ⟨e, e, _, e1, rfl⟩
    · cases h1
  · have sv : ∀ (j : Nat) (v : V), vs[j]? = some v → (L2.start N vs)[j]? = some (some v) := fun j v e => by
      unfold L2.start
      have hj : j < vs.length := (List.getElem?_eq_some_iff.mp e).1
      rw [List.getElem?_append_left (by simpa using hj), List.getElem?_map, e]
      rfl
    cases i with
    | zero =>
      simp [enterT] at hs
      subst hs
      obtain ⟨v, t, e, p, _⟩ := h
      refine ⟨st_tab (st f (List.mem_cons_self ..)), v, sv 0 v (by rw [e]; rfl), p, by simp, tabS_F hT⟩
    | succ i =>
      unfold enterT at hs
      rw [List.getElem?_cons_succ] at hs
      by_cases hi : i < fs.length
      · rw [List.getElem?_append_left (by simpa using hi), List.getElem?_map, List.getElem?_eq_getElem hi] at hs
        cases hs
        obtain ⟨v, e1, e2⟩ := aok_get h (i := i + 1) (f := fs[i]) (by rw [List.getElem?_cons_succ, List.getElem?_eq_getElem hi])
        exact ⟨st _ (List.mem_cons_of_mem _ (List.getElem_mem hi)), v, sv _ v e1, e2⟩
      · rw [List.getElem?_append_right (by simpa using Nat.le_of_not_lt hi), List.getElem?_replicate] at hs
        split at hs
        · cases hs; trivial
        · cases hs
/-- the promise of such a def -/
def FpT (K : PySem.W.Frag) (T : List (Addr × Str)) {α : Type} (pre : α → Prop) (args : α → List Pd) (res : α → PyData) : Sp := fun vs H Q _ => ∃ x, pre x ∧ AOk (args x) H vs ∧ LamX.Tabs T H ∧ ∀ v H', LamX.ExtN H H' → LamX.Tabs T H' → Dp K H' v (res x) → Q v H'
/-- .. read where it stands now -/
def EvXd (K : PySem.W.Frag) (B F0 : Hp) (ρ : List Sl) (te : TE) (ρ' : List Sl) (d : PyData) : Prop := ∀ F H σ, Cfg B F0 F H σ ρ → ∀ Q : VK, (∀ v F' H', Cfg B F0 F' H' σ ρ' → Dp K H' v d → Q v H') → te σ H Q
variable {B F0 : Hp} {ρ ρ1 : List Sl} {te ta tb : TE} {tr : TA} {d e : PyData} {D : Ends} {u : TS} {T : List (Addr × Str)} {f : Pd}
theorem EvXd.flat (h : EvXd K B F0 ρ te ρ1 d) (fl : flatD d = true) : EvX B F0 ρ te ρ1 (nwd K B d) := fun F H σ c Q q => h F H σ c _ fun v F' H' c' p => by
  obtain ⟨F2, g2, _, p2⟩ := dp_prom (B := B) p fl F' (Gr.refl c'.i)
  exact q v F2 H' (c'.go g2) p2
theorem evx_callT {α : Type} {pre : α → Prop} {args : α → List Pd} {res : α → PyData} {E : XK} {i : Nat} (x : α) (hp : pre x) (hi : ρ[i]? = some (.mo (tabP T f))) (nB : noTbl B) (nF0 : noTbl F0) (hm : NtAll i ρ) (h : EvA B F0 ρ tr (args x)) : EvXd K B F0 ρ (tCall (FpT K T pre args res) [] E tr) ρ (res x) := fun F H σ c Q q =>
  h F H σ c _ fun vs F1 H1 g1 p => by
    obtain ⟨h1, h2⟩ := cfg_lam (c.go g1) hi nB nF0 hm
    refine ⟨x, hp, by rw [List.append_nil]; exact p, h1, fun v H2 e T2 dd => ?_⟩
    obtain ⟨F2, c2⟩ := h2 H2 e T2
    exact q v F2 H2 c2 dd
/-- the way out of such a def -/
theorem at_retT {i : Nat} (hi : ρ1[i]? = some (.mo (tabP T f))) (h : EvX B F0 ρ te ρ1 (nwd K B d)) (k : ∀ v H', Same B H' → LamX.Tabs T H' → Dp K H' v d → D.rt v H') : At B F0 (tRet te D) ρ := fun F H σ c =>
  h F H σ c _ fun v F' H' c' p => by
    obtain ⟨w, o⟩ := c'.own
    obtain ⟨_, vi, _, _, _, hT⟩ := o.sl i _ hi
    refine k v H' c'.gr.h (fun q hq => ?_) (nw_dp (nw_mono (Same.refl _) c'.gr.i p))
    obtain ⟨ps, h1, h2, h3⟩ := hT q hq
    exact ⟨ps, h1, h2, fun pos cv hc => by obtain ⟨c0, e1, e2⟩ := h3 pos cv hc; exact ⟨c0, e1, c'.i _ _ e2⟩⟩
end
/-- a def whose code object is known -/
structure FunC (K : PySem.W.Frag) (x qual : Str) (c : Addr) (st : Stmt) (f : Addr) (fd : FuncData) : Prop where
  ex : ∃ (oc : Value) (od : Option Addr) (kV doc pm : Value) (an : Option Addr) (ct : Value) (osl : Array (Option Value)),
    fd = PySem.W.fnOf x qual (defArgs st) (defBody st) (defScope st) .none kV doc pm an (.ref c) ct ∧ K.lookup f = some ⟨oc, od, .func fd, osl⟩ ∧ PySem.W.codeIn K (.ref c) qual = true
  kp : PySem.W.keepIn K (.ref f) = true
structure DfnC (K : PySem.W.Frag) (mg : Str → Option Value) (x qual : Str) (c : Addr) (st : Stmt) (ps : List Str) : Prop where
  ex : ∃ f fd, FunC K x qual c st f fd ∧ mg x = some (.ref f) ∧ Binds K fd ps []
section
variable {P : Program} {w : World} {K : PySem.W.Frag} {mg : Str → Option Value} {base : Heap}
theorem FunC.ok {x qual : Str} {st : Stmt} {f c : Addr} {fd : FuncData} {N ps : List Str} {k : Nat} {sp : Sp} (F : FunC K x qual c st f fd) (S : FnScope N ps (defScope st)) (len : ∀ vs H Q E, sp vs H Q E → vs.length = ps.length)
    (hbody : ∀ (A : Around) (outer : List Env) (s : Shared) (H : Hp) (vs : List V) (Q : VK) (E : XK), Room k (A.deeper (envOfC qual (defScope st) s.heap.objs.size f (.ref c))) → sp vs H Q E →
      ∃ t, PSs (cxOf CX0 P w K mg base N qual (defScope st) f (.ref c) A outer s H E).nox (defBody st) t ∧ t { nx := fun _ H' => Q .non H', rt := Q } (start N vs) H) : FnOk P w K mg base CX0 (k + 1) f fd ps sp := by
  obtain ⟨oc, od, kV, doc, pm, an, ct, osl, rfl, lk, hcd⟩ := F.ex
  refine fn_of lk hcd S len fun A outer s H vs Q E hr hsp => ?_
  obtain ⟨t, h, q⟩ := hbody A outer s H vs Q E hr hsp
  exact ⟨t, h.nox, q⟩
/-- THE RULE for a def with lambdas -/
theorem fpT_ok {T : List (Addr × Str)} {x qual : Str} {c : Addr} {st : Stmt} {N ps : List Str} {k : Nat} {α : Type} {pre : α → Prop} {args : α → List Pd} {res : α → PyData} (D : DfnC K mg x qual c st ps) (S : FnScope N ps (defScope st)) (hN : ps.length ≤ N.length)
    (hlen : ∀ x, (args x).length = ps.length) (stab : ∀ x, ∀ f ∈ args x, Stab f) (np : ∀ x, ∀ f ∈ args x, NoTP f) (pos : 0 < ps.length)
    (body : ∀ (f : Addr) (A : Around) (outer : List Env) (s : Shared) (H : Hp) (E : XK), Room k (A.deeper (envOfC qual (defScope st) s.heap.objs.size f (.ref c))) →
      ∃ t, PSs (cxOf CX0 P w K mg base N qual (defScope st) f (.ref c) A outer s H E).nox (defBody st) t ∧
        ∀ x, pre x → ∀ (B : Hp) (Q : VK), noTbl B → (∀ v H', Same B H' → LamX.Tabs T H' → Dp K H' v (res x) → Q v H') → At B B (t { nx := fun _ H' => Q .non H', rt := Q }) (enterT T N.length (args x))) : Ok P w K mg base CX0 (k + 1) x ps (FpT K T pre args res) := by
  obtain ⟨f, fd, F, hg, hb⟩ := D.ex
  refine ⟨f, fd, F.ok S (fun vs H Q E h => ?_) (fun A outer s H vs Q E hr h => ?_), hg, F.kp, hb⟩
  · obtain ⟨z, _, h2, _⟩ := h
    rw [aok_len h2, hlen]
  · obtain ⟨z, h1, h2, hT, h3⟩ := h
    obtain ⟨t, q1, q2⟩ := body f A outer s H E hr
    refine ⟨t, q1, q2 z h1 (noT H) Q (fun a o e => noT_tbl e) (fun v H' s e dd => h3 v H' (fun b o hb nt => s b o (noT_at hb (by cases o <;> first | rfl | exact absurd rfl (nt _)))) e dd) (noT H) H _ ?_⟩
    have hl := hlen z
    have st := stab z
    have hn := np z
    cases e : args z with
    | nil => rw [e] at hl; simp at hl; omega
    | cons g gs =>
      rw [e] at h2 hl st hn
      rw [List.length_cons] at hl
      exact cfg_enterTs (aok_noT hn h2) st hT (by omega)
end
end Lay
namespace Lay
open PySem L2 PySem.Spec PyProof.Rows
/-! lists that are read only, one behind the other -/
def rCatS (K : PySem.W.Frag) : R2 := fun x y H Q => ∃ l b xs zs, x = .ref l ∧ y = .ref b ∧ SqL K H l xs ∧ SqL K H b zs ∧ xs.length + zs.length ≤ sizeLine ∧ ∀ p, H p = none → Q (.ref p) (upd H p (.lst (xs ++ zs)))
theorem kop_catS {X : Cx} (K : PySem.W.Frag) (hK : X.K = K := by rfl) : OpR X (binaryOp .Add) (rCatS K) := by
  subst hK
  intro pins s σ H x y v u Q I rx ry h
  obtain ⟨l, b, xs, zs, rfl, rfl, hH, hB, hz, q⟩ := h
  cases rx
  cases ry
  obtain ⟨its, r, pl, z1⟩ := I.list hH
  obtain ⟨its2, r2, pl2, z2⟩ := I.list hB
  have l1 := r.length
  have l2 := r2.length
  obtain ⟨⟨cls, dd, data, sl⟩, ho, hc, n, hd⟩ := pl.isList
  obtain ⟨⟨cls2, dd2, data2, sl2⟩, ho2, hc2, n2, hd2⟩ := pl2.isList
  simp only at hc hd hc2 hd2
  subst hc hd hc2 hd2
  have ea : its.toArray ++ its2.toArray = (its ++ its2).toArray := by simp
  refine concat_meets ⟨_, ho, rfl⟩ ⟨_, ho2, rfl⟩ noFill_list_add seq_list_add PySem.F.slot_list_add PySem.F.entry_list_add (PySem.F.args_list_add_2 _ _) (list_addW l b its.toArray its2.toArray n n2 dd dd2 sl sl2 (by rw [List.size_toArray, List.size_toArray]; omega)) ⟨ho, ho2, ?_⟩
  rw [ea]
  exact ⟨.ref _, _, I.lnew (t' := s.toks) (r.append r2) (by rw [List.length_append]; omega), rfl, q _ I.fresh⟩
/-! an own exception class with fields, made as a value -/
def tMkV (C : Addr) (sp : Sp) (ta : TA) : TE := fun σ H Q => ta σ H fun vs H1 => vs.length ≤ 1000 ∧ ∀ a, H1 a = none → sp (.ref a :: vs) (upd H1 a (exo a C none)) (fun v H2 => v = .non ∧ Q (.ref a) H2) (fun _ _ _ => False)
section
variable {X : Cx} {e : Expr} {es : List Expr} {ta : TA} {p p1 p2 pos : Pos}
theorem pe_oexV {CX : CXT} {x : Str} {C fI : Addr} {k : Nat} {fd : FuncData} {ps : List Str} {sp : Sp} (T : OexC X.K C) (iC : PySem.W.findIn X.K (.ref C) "__init__" = some (some (.ref fI))) (tI : PySem.W.typeIn X.K (.ref fI) = some (.type "function"))
    (F1 : FnOk X.prog X.w X.K X.mg X.base CX k fI fd ps sp) (hr : Room (k + 1) X.A) (hb : Binds X.K fd ps []) (hx : Passes CX X (fun _ _ _ => False)) (hg : Gl X x) (hm : X.mg x = some (.ref C)) (ha : PA X (e :: es) ta)
    (hdb : (x == ("__debug__" : Str)) = false := by decide) (he : starEach (e :: es) X.env = (false, eval e X.env) :: starEach es X.env := by rfl) (hpl : (backTo pos (starEach es X.env)).any (·.1) = false := by rfl) :
    PE X (.Call (.Name x p) (e :: es) [] pos) (tMkV C sp ta) := by
  refine ⟨fun pins s σ H Q I h => ?_⟩
  obtain ⟨nm, q, N, bs, bm, sn, sub, ab, col, dd, k0, k1, k2, k3, k5, hC, hbm⟩ := T.cls
  refine wpAny_Call_Name_kw (ld_glob I hg hm ?_ hdb)
  refine PySem.W.callWith_K (h₀ := X.base) I.ok.mod.kin T.kC (thn (ha.run pos pins s σ H _ I h) fun us s1 ⟨vs, H1, I1, r1, hz, q1⟩ => ⟨I1.kIn, ?_⟩) he hpl
  show wpAny _ _ (call (.ref C) us) _ _ _
  obtain ⟨hp, g, dr, tk, os⟩ := s1
  have hn : H1 (hp.objs.size + 1) = none := I1.hok.fresh (Nat.le_succ _)
  have hq := q1 (hp.objs.size + 1) hn
  have I2 : Inv X pins σ (upd H1 (hp.objs.size + 1) (exo (hp.objs.size + 1) C none)) ⟨(hp.push (PySem.W.kdv_tup us)).push (PySem.HandSPX.excO C hp.objs.size), g, dr, tk, os⟩ :=
    I1.laid (t' := tk) (a := hp.objs.size + 1) (o := exo (hp.objs.size + 1) C none) (h' := (hp.push (PySem.W.kdv_tup us)).push (PySem.HandSPX.excO C hp.objs.size)) (fun b o e => Heap.get?_push_of_some _ (Heap.get?_push_of_some _ e)) (Nat.le_succ _)
      (exo_ok (show ((hp.push (PySem.W.kdv_tup us)).push (PySem.HandSPX.excO C hp.objs.size)).get? (hp.objs.size + 1) = some (PySem.HandSPX.excO C hp.objs.size) by heap_get))
  have r2 : Vals (V.ref (hp.objs.size + 1) :: vs) (Value.ref (hp.objs.size + 1) :: us) := .cons rfl r1
  have hl : (Value.ref (hp.objs.size + 1) :: us).length = ps.length := by
    have z := r2.length
    rw [F1.len _ _ _ _ hq] at z
    exact z.symm
  have hus : us.length ≤ sizeLine := by
    have z := Paired.length r1
    rw [sizeLine_eq]
    omega
  have hb2 := hb ⟨(hp.push (PySem.W.kdv_tup us)).push (PySem.HandSPX.excO C hp.objs.size), g, dr, tk, os⟩ (Value.ref (hp.objs.size + 1) :: us) I2.kIn (by rw [List.append_nil]; exact hl)
  rw [List.append_nil] at hb2
  refine wpAny_call (PySem.HandSPX.call_own F.excBase_ValueError (fun Y => PySem.HandSPX.refsVE_contains Y bm hbm) (I1.kIn _ _ hC) (PySem.W.looks_findIn I1.kIn iC) (fun self => PySem.W.bind_fn I1.kIn self tI) hus
    (codeAny_mono (F1.run _ X.stack _ _ ⟨Value.ref (hp.objs.size + 1) :: us, []⟩ (Value.ref (hp.objs.size + 1) :: us) _ _ (fun _ _ _ => False) (hr.make C us []) (I2.env0.make C us []) hb2 r2 hq) fun r s' hq' => ?_))
  cases r with
  | error er => exact hx pins σ _ _ er s' I2 hq'
  | ok fl =>
    cases fl with
    | ret u =>
      obtain ⟨v, H2, I3, rv, ev, q2⟩ := I2.after hq'
      subst ev
      exact ⟨rv, .ref _, H2, I3, rfl, q2⟩
    | next => exact False.elim hq'
    | brk => exact False.elim hq'
    | cont => exact False.elim hq'
/-- Base.__init__(self, ..), Base an own class that has no __init__ of its own -/
theorem pe_binit {pl : Sem Bool} {b : Str} {Bc : Addr} {mc : Value} (hg : Gl X b) (hm : X.mg b = some (.ref Bc)) (sg : PySem.W.specialIn X.K (.ref Bc) "__getattribute__" = some (some (.builtin "type.__getattribute__"))) (tB : PySem.W.typeIn X.K (.ref Bc) = some mc) (rB : PySem.W.readsIn X.K Bc mc = true)
    (vB : PySem.W.findCls X.K (.ref Bc) mc "__init__" = some (.val (.builtin "ValueError.__init__"))) (ha : PA X (e :: es) ta)
    (hc : eval (.Call (.Attribute (.Name b p1) "__init__" p2) (e :: es) [] pos) X.env = (do
      let ov ← eval (.Name b p1) X.env
      standAt p2.atName
      let (f, first) ← holding [ov] (getMethod ov "__init__" pl)
      callWith pos f first (backTo pos (starEach (e :: es) X.env)) (backToKw pos (keywordEach [] X.env))) := by rfl)
    (hdb : (b == ("__debug__" : Str)) = false := by decide) (he : starEach (e :: es) X.env = (false, eval e X.env) :: starEach es X.env := by rfl) (hpl : (backTo pos (starEach es X.env)).any (·.1) = false := by rfl) :
    PE X (.Call (.Attribute (.Name b p1) "__init__" p2) (e :: es) [] pos) (tVeI X.K ta) := by
  refine ⟨fun pins s σ H Q I h => ?_⟩
  refine PySem.W.methodCall_KW (ld_glob I hg hm ?_ hdb) hc
  obtain ⟨m, fr⟩ := I.fr
  refine PySem.W.method_of_cls fr I.ok.mod.kin sg (PySem.W.cls_val fr I.ok.mod.kin tB rB vB (by decide +kernel) ?_)
  show wpAny _ _ (callWith pos (Value.builtin "ValueError.__init__") [] (backTo pos (starEach (e :: es) X.env)) []) _ _ _
  refine PyProof.Rows.callWith_method1 (thn (ha.run pos pins _ σ H _ (I.tok _) h) fun us s1 ⟨vs, H1, I1, r1, a, C, ws, ev, hl, T, ea, q⟩ => ?_) he hpl
  subst ev
  cases r1 with
  | @cons _ u0 _ ur ra rw' =>
    obtain rfl : u0 = Value.ref a := ra
    have hlen : ur.length ≤ sizeLine := by
      have z := Paired.length rw'
      rw [sizeLine_eq]
      omega
    exact oinit_ok T I1 ea hlen fun s' J => ⟨.non, H1, J, rfl, q⟩
/-- e.f, e such a value -/
def tOxf (C : Addr) (f : Str) (te : TE) : TE := fun σ H Q => te σ H fun x H1 => ∃ (a dd : Addr) (fs : List (Str × V)) (v : V), x = .ref a ∧ H1 a = some (exo a C (some dd)) ∧ H1 dd = some (exd dd fs) ∧ fs.lookup f = some v ∧ Q v H1
theorem pe_oxf {C : Addr} {te : TE} {n : Str} (T : XfC X.K C) (hno : PySem.W.findIn X.K (.ref C) n = some none) (he : PE X e te) (hb : attributeBase e n X.env (eval e X.env) = eval e X.env := by rfl) : PE X (.Attribute e n pos) (tOxf C n te) := by
  refine ⟨fun pins s σ H Q I h => ?_⟩
  refine attr_of hb (thn (he.run pins s σ H _ I h) fun u s1 hh => ?_)
  obtain ⟨x, H1, I1, rx, a, dd, fs, v, ex, ea, ed, l, q⟩ := hh
  subst ex
  obtain rfl : u = Value.ref a := rx
  obtain ⟨t1, ho⟩ := exo_at I1.hok ea
  obtain ⟨mA, hns, hr⟩ := exd_at I1.hok ed
  obtain ⟨od, hod, hl⟩ := lookIn_ns hns
  obtain ⟨u, hu, ru⟩ := RelO.some_of (v := v) (o := mA n) (by rw [← l]; exact hr n)
  have J : PySem.W.InstAt s1.heap a { cls := .ref C, dict := some dd, data := .fields #[.ref t1, .none, .none, .none, .bool false, .none] } C (some od) := ⟨ho, rfl, rfl, hod⟩
  exact HandSPX.exc_get I1.kIn J T.ga T.gg T.exC (PySem.W.findObj_own T.hdC hno rfl (by rw [hl, hu])) (handed_of ru) ⟨v, H1, I1.tok _, ru, q⟩
end
end Lay
namespace Lay
open PySem L2 PySem.Spec PyProof.Rows
/-! texts -/
section
variable {K : PySem.W.Frag} {B F0 : Hp} {ρ ρ1 : List Sl} {te ta tb : TE} {tr : TA} {d e : PyData} {ds : List PyData} {f : Pd} {D : Ends} {u ts us : TS} {g : TG}
theorem Ev.sof {a : Str} {F : Hp} {v : V} (p : nwd K B (.str a) F v) : v = .str a := by cases p; rfl
theorem ev_addS {a b : Str} (ha : EvH B F0 ρ ta (dat K (.str a))) (hb : EvH B F0 ρ tb (dat K (.str b))) (hz : a.length + b.length ≤ 100000) : Ev B F0 ρ (tOp (fun x y H Q => ∃ i j, x = .str i ∧ y = .str j ∧ i.length + j.length ≤ sizeLine ∧ Q (.str (i ++ j)) H) ta tb) (nwd K B (.str (a ++ b))) :=
  evo st_dat ha hb (fun F => .str _) fun H x y hx hy Q q => by
    cases hx; cases hy
    exact ⟨a, b, rfl, rfl, sz_of hz, q⟩
theorem ev_strI {i : Int} (ha : EvH B F0 ρ ta (dat K (.int i))) (h : i.natAbs.log2 < 1920) : Ev B F0 ρ (tCB (fun xs H Q => ∃ i, xs = [.int i] ∧ i.natAbs.log2 < 1920 ∧ Q (.str (toString i)) H) (tCons ta tNil)) (nwd K B (.str (toString i))) := fun F H σ c Q q =>
  ha F H σ c _ fun v F' H' g p => by
    cases p
    exact ⟨i, rfl, h, q _ F' H' g (.str _)⟩
theorem ev_intS {a : Str} {n : Int} (ha : EvH B F0 ρ ta (dat K (.str a))) (h : PySem.intText? a = some n) (hl : a.length ≤ 640) : Ev B F0 ρ (tCB (fun xs H Q => ∃ a n, xs = [.str a] ∧ PySem.intText? a = some n ∧ a.length ≤ 640 ∧ Q (.int n) H) (tCons ta tNil)) (nwd K B (.int n)) := fun F H σ c Q q =>
  ha F H σ c _ fun v F' H' g p => by
    cases p
    exact ⟨a, n, rfl, h, hl, q _ F' H' g (.int _)⟩
theorem ev_intB {b : Bool} (ha : EvH B F0 ρ ta (dat K (.bool b))) : Ev B F0 ρ (tCB (fun xs H Q => (∃ i, xs = [.int i] ∧ Q (.int i) H) ∨ ∃ k, xs = [.bl k] ∧ Q (.int (if k then 1 else 0)) H) (tCons ta tNil)) (nwd K B (.int (if b then 1 else 0))) := fun F H σ c Q q =>
  ha F H σ c _ fun v F' H' g p => by
    cases p
    exact .inr ⟨b, rfl, q _ F' H' g (.int _)⟩
theorem ev_lenS {a : Str} (ha : EvH B F0 ρ ta (dat K (.str a))) (hl : a.length ≤ 100000) : Ev B F0 ρ (tCB (fun xs H Q => ∃ z, xs = [.str z] ∧ z.length ≤ sizeLine ∧ Q (.int z.length) H) (tCons ta tNil)) (nwd K B (.int a.length)) := fun F H σ c Q q =>
  ha F H σ c _ fun v F' H' g p => by
    cases p
    exact ⟨a, rfl, sz_of hl, q _ F' H' g (.int _)⟩
theorem ev_ixS {a : Str} {i : Int} {c : Nat} (ha : EvH B F0 ρ ta (dat K (.str a))) (hb : EvH B F0 ρ tb (dat K (.int i))) (hl : a.length ≤ 100000) (h : atI a.cps.toList i = some c) : Ev B F0 ρ (tOp rIxS ta tb) (nwd K B (.str ⟨#[c]⟩)) :=
  evo st_dat ha hb (fun F => .str _) fun H x y hx hy Q q => by
    cases hx; cases hy
    exact ⟨a, i, c, rfl, rfl, sz_of hl, h, q⟩
theorem ev_slS {a : Str} {tl th : TO} {lo hi : Option Int} (ha : EvH B F0 ρ te (dat K (.str a))) (hl : a.length ≤ 100000) (h1 : EvO K B F0 ρ tl lo) (h2 : EvO K B F0 ρ th hi) : Ev B F0 ρ (tSl rSlS te tl th) (nwd K B (.str (cutS a lo hi))) := fun F H σ c Q q =>
  ha F H σ c _ fun v F1 H1 g1 p1 => h1 F1 H1 σ (c.go g1) _ fun F2 H2 g2 => h2 F2 H2 σ ((c.go g1).go g2) _ fun F3 H3 g3 => by
    cases p1
    exact ⟨a, rfl, sz_of hl, q _ F3 H3 (g1.trans (g2.trans g3)) (.str _)⟩
theorem nwAll_strs {F : Hp} : ∀ ws : List Str, NwAll K B F (ws.map V.str) (ws.map PyData.str)
  | [] => .nil
  | w :: ws => .cons (.str w) (nwAll_strs ws)
theorem dpAll_strs {H : Hp} : ∀ {xs : List V} {ws : List Str}, DpAll K H xs (ws.map .str) → xs = ws.map V.str
  | [], [], _ => rfl
  | x :: xs, w :: ws, .cons h a => by
    cases h
    rw [List.map_cons, dpAll_strs a]
theorem evm_split {a b : Str} (ha : EvH B F0 ρ ta (dat K (.str a))) (hb : EvH B F0 ρ tb (dat K (.str b))) (h0 : (b.length == 0) = false) (hl : a.length + 2 ≤ 100000) :
    EvM K B F0 ρ (tM1 (fun x xs H Q => ∃ a b, x = .str a ∧ xs = [.str b] ∧ (b.length == 0) = false ∧ a.length + 2 ≤ sizeLine ∧ rNewStrs (Txt.split a b) H Q) ta tb) ((Txt.split a b).map .str) := fun F H σ c Q q =>
  ha F H σ c _ fun v F1 H1 g1 p1 => by
    cases p1
    refine ⟨⟨a, rfl⟩, hb F1 H1 σ (c.go g1) _ fun v2 F2 H2 g2 p2 => ?_⟩
    cases p2
    refine ⟨a, b, rfl, rfl, h0, sz_of hl, fun p hp => ?_⟩
    have g := g1.trans g2
    exact q p _ F2 _ (g.trans (Gr.new g.i hp)) (g.i.free hp) (g.fresh hp) upd_same (nwAll_strs _)
theorem ev_join {a : Str} {ws : List Str} (ha : EvH B F0 ρ ta (dat K (.str a))) (hb : EvH B F0 ρ tb (dat K (.list (ws.map .str)))) (hz : (ws.map (·.length)).sum + ws.length * a.length ≤ 16777216) :
    Ev B F0 ρ (tM1 (fun x xs H Q => ∃ a p, ∃ ys : List Str, x = .str a ∧ xs = [.ref p] ∧ (SqL K H p (ys.map V.str) ∨ SqT K H p (ys.map V.str)) ∧ (ys.map (·.length)).sum + ys.length * a.length ≤ 16777216 ∧ Q (.str (Txt.join a ys)) H) ta tb) (nwd K B (.str (Txt.join a ws))) := fun F H σ c Q q =>
  ha F H σ c _ fun v F1 H1 g1 p1 => by
    cases p1
    refine ⟨⟨a, rfl⟩, hb F1 H1 σ (c.go g1) _ fun v2 F2 H2 g2 p2 => ?_⟩
    cases p2 with
    | @lst p xs _ h1 h2 =>
      rw [dpAll_strs h2] at h1
      exact ⟨a, p, ws, rfl, rfl, .inl h1, hz, q _ F2 H2 (g1.trans g2) (.str _)⟩
theorem ev_inS {z : Str} {c : Nat} (ha : EvH B F0 ρ ta (dat K (.str ⟨#[c]⟩))) (hb : EvH B F0 ρ tb (dat K (.str z))) : Ev B F0 ρ (tOp (fun x y H Q => ∃ (c : Nat) (z : Str), x = .str ⟨#[c]⟩ ∧ y = .str z ∧ Q (.bl (decide (c ∈ z.cps.toList))) H) ta tb) (nwd K B (.bool (decide (c ∈ z.cps.toList)))) :=
  evo st_dat ha hb (fun F => .bl _) fun H x y hx hy Q q => by
    cases hx; cases hy
    exact ⟨c, z, rfl, rfl, q⟩
theorem ev_notInS {z : Str} {c : Nat} (ha : EvH B F0 ρ ta (dat K (.str ⟨#[c]⟩))) (hb : EvH B F0 ρ tb (dat K (.str z))) : Ev B F0 ρ (tOp (fun x y H Q => ∃ (c : Nat) (z : Str), x = .str ⟨#[c]⟩ ∧ y = .str z ∧ Q (.bl (!decide (c ∈ z.cps.toList))) H) ta tb) (nwd K B (.bool (!decide (c ∈ z.cps.toList)))) :=
  evo st_dat ha hb (fun F => .bl _) fun H x y hx hy Q q => by
    cases hx; cases hy
    exact ⟨c, z, rfl, rfl, q⟩
abbrev sgnD (c : Nat) : PyData := .str ⟨#[c]⟩
theorem evj_str {z : Str} (h : EvH B F0 ρ te (dat K (.str z))) : EvJ B F0 ρ (iStr te) (nwd K B) (z.cps.toList.map sgnD) := fun F H σ c R r => h F H σ c _ fun v F' H' g p => by
  cases p
  have w := walk_str (z := z)
  refine ⟨z, rfl, r _ F' H' g ⟨fun i H2 hi s => w.goes i H2 (by simpa using hi) trivial, fun H2 s => by
    have := w.stops H2 trivial
    simpa using this, fun i F2 H2 x H3 hi s1 s2 y => ?_⟩⟩
  obtain ⟨rfl, cc, hc, rfl⟩ := w.yields i H2 x H3 (by simpa using hi) trivial y
  exact ⟨F2, _, Gr.refl s2, by rw [List.getElem?_map, Array.getElem?_toList, hc]; rfl, .str _⟩
/-- a sign or none -/
def rMulS : R2 := fun x y H Q => ∃ (z : Str) (b : Bool), x = .str z ∧ y = .int (if b then 1 else 0) ∧ Q (.str (if b then z else Str.empty)) H
theorem op_mulS {X : Cx} : OpR X (binaryOp .Mult) rMulS := by
  intro pins s σ H x y v u Q I rx ry h
  obtain ⟨z, b, rfl, rfl, q⟩ := h
  obtain ⟨t, rfl⟩ := rx
  obtain ⟨t', rfl⟩ := ry
  cases b with
  | true =>
    refine PySem.P.mul_str (by decide) (fun _ h => by simp at h) (fun _ h => by simp at h) ?_
    rw [if_neg (by decide), if_pos (by simp)]
    exact ⟨.str z, H, I, ⟨_, rfl⟩, q⟩
  | false => exact PySem.P.mul_str_none (by decide) (by decide) ⟨.str Str.empty, H, I.tok _, ⟨_, rfl⟩, q⟩
theorem ev_mulS {z : Str} {b : Bool} (ha : EvH B F0 ρ ta (dat K (.str z))) (hb : EvH B F0 ρ tb (dat K (.int (if b then 1 else 0)))) : Ev B F0 ρ (tOp rMulS ta tb) (nwd K B (.str (if b then z else Str.empty))) :=
  evo st_dat ha hb (fun F => .str _) fun H x y hx hy Q q => by
    cases hx; cases hy
    exact ⟨z, b, rfl, rfl, q⟩
/-! what raises, whatever was wanted -/
def EvB (B F0 : Hp) (ρ : List Sl) (te : TE) : Prop := ∀ F H σ, Cfg B F0 F H σ ρ → ∀ Q : VK, te σ H Q
theorem q_bad (h : EvB B F0 ρ te) : At B F0 (tSeq (tAsg te g) u D) ρ := fun F H σ c => h F H σ c _
theorem at_bad (h : EvB B F0 ρ te) : At B F0 (tRet te D) ρ := fun F H σ c => h F H σ c _
theorem q_badD (h : EvB B F0 ρ te) : At B F0 (tSeq (tDrop te) u D) ρ := fun F H σ c => h F H σ c _
theorem at_badD (h : EvB B F0 ρ te) : At B F0 (tDrop te D) ρ := fun F H σ c => h F H σ c _
theorem evb_tup1 (h : EvB B F0 ρ te) : EvB B F0 ρ (tTup (tCons te tr)) := fun F H σ c Q => h F H σ c _
theorem evb_tup2 (h0 : Ev B F0 ρ ta f) (h : EvB B F0 ρ te) : EvB B F0 ρ (tTup (tCons ta (tCons te tr))) := fun F H σ c Q => h0 F H σ c _ fun v F' H' g p => h F' H' σ (c.go g) _
/-- a comprehension one of whose items raises -/
theorem evb_lc {α : Type} {xs pre post : List α} {x0 : α} {e : α → PyData} {q : PyData → Pd} {wi : TI} {g : TG} {vs : List Nat} (f : α → PyData) (hx : xs = pre ++ x0 :: post) (hw : EvJ B F0 ρ wi q (xs.map e))
    (hb : ∀ F1 x, x ∈ pre → ∃ is ρ2, Bind B F1 g is (q (e x)) (wipeR ρ vs) ρ2 ∧ (∀ j ∈ is, j ∈ vs) ∧ Ev B F1 ρ2 te (nwd K B (f x))) (h0 : ∀ F1, ∃ is ρ2, Bind B F1 g is (q (e x0)) (wipeR ρ vs) ρ2 ∧ (∀ j ∈ is, j ∈ vs) ∧ EvB B F1 ρ2 te) (hz : xs.length ≤ 100000) :
    EvB B F0 ρ (tLc wi g tYes te vs) := fun F H σ c Q => by
  refine hw F H σ c _ fun J F1 H1 g1 w D hD => ?_
  have c1 := c.go g1
  have lpre : pre.length < xs.length := by rw [hx, List.length_append, List.length_cons]; omega
  refine ⟨fun i m H' => m = xs.length - i ∧ i ≤ pre.length ∧ ∃ F' acc, Gr F1 H1 F' H' ∧ F' D = none ∧ H' D = some (.lst acc) ∧ acc.length = i,
    ⟨xs.length, by simp, Nat.zero_le _, F1, [], Gr.new g1.i hD, g1.i.free hD, upd_same, rfl⟩, ?_⟩
  rintro i' m H' ⟨rfl, hi, F', acc, g', fD, hD', hl'⟩
  have sF : Same F1 H' := g'.f.trans g'.i
  have hlt : i' < xs.length := by omega
  have hl : i' < (xs.map e).length := by simpa using hlt
  refine .inr ⟨w.goes i' H' hl sF, fun H2 => i' < pre.length ∧ ∃ F' acc, Gr F1 H1 F' H2 ∧ F' D = none ∧ H2 D = some (.lst acc) ∧ acc.length = i' + 1, fun H2 ⟨l1, l2⟩ => ⟨xs.length - (i' + 1), by omega, rfl, by omega, l2⟩, fun x H2 y => ?_⟩
  obtain ⟨F2, d, g2, hd2, p2⟩ := w.yields i' F' H' x H2 hl g'.f g'.i y
  have ed : d = e xs[i'] := by
    rw [List.getElem?_map, List.getElem?_eq_getElem hlt] at hd2
    exact (Option.some.inj hd2).symm
  subst ed
  have cw : Cfg B F1 F2 H2 (wipe σ vs) (wipeR ρ vs) := by
    have c2 := (c.go (g1.trans (g'.trans g2))).wipe vs
    exact ⟨⟨g'.f.trans g2.f, c2.gr.h, c2.gr.i, fun a o h t z => (g'.trans g2).n a o (c1.gr.h a o h) t z, (g'.trans g2).t⟩, c2.len, c2.own⟩
  by_cases hp : i' < pre.length
  · have ex : xs[i'] = pre[i'] := by
      have h1 : xs[i']? = pre[i']? := by rw [hx, List.getElem?_append_left hp]
      rw [List.getElem?_eq_getElem hlt, List.getElem?_eq_getElem hp] at h1
      exact Option.some.inj h1
    rw [ex] at p2
    obtain ⟨is, ρ2, b2, hj, ev⟩ := hb F1 pre[i'] (List.getElem_mem hp)
    refine b2 F2 H2 (wipe σ vs) x cw p2 _ fun σ3 c3 o3 => ⟨wipe_only o3 hj, ?_⟩
    unfold tYes
    dsimp only
    rw [if_pos rfl]
    refine ev F2 H2 σ3 c3 _ fun v F3 H3 g3 p3 => ?_
    have gg : Gr F1 H1 F3 H3 := g'.trans (g2.trans g3)
    have hD3 : H3 D = some (.lst acc) := g3.h _ _ (g2.h _ _ hD')
    have fD3 : F3 D = none := g3.n D _ (g2.h _ _ hD') rfl (g2.n D _ hD' rfl fD)
    refine ⟨acc, hD3, sz_lt (by omega), hp, F3, acc ++ [v], ?_, fD3, upd_same, by rw [List.length_append, List.length_singleton, hl']⟩
    refine ⟨gg.f, fun b o h => ?_, fun b o h => ?_, gg.n, gg.t⟩
    · rw [upd_ne (ne_of_none h hD)]; exact gg.h b o h
    · rw [upd_ne (ne_of_none h fD3)]; exact gg.i b o h
  · have ei : i' = pre.length := by omega
    subst ei
    have ex : xs[pre.length] = x0 := by
      have h1 : xs[pre.length]? = some x0 := by rw [hx, List.getElem?_append_right (Nat.le_refl _), Nat.sub_self]; rfl
      rw [List.getElem?_eq_getElem hlt] at h1
      exact Option.some.inj h1
    rw [ex] at p2
    obtain ⟨is, ρ2, b2, hj, ev⟩ := h0 F1
    refine b2 F2 H2 (wipe σ vs) x cw p2 _ fun σ3 c3 o3 => ⟨wipe_only o3 hj, ?_⟩
    unfold tYes
    dsimp only
    rw [if_pos rfl]
    exact ev F2 H2 σ3 c3 _
end
/-! a call within try: what is wanted of its exception leans on the slots -/
def tCallS (sp : Sp) (dvs : List V) (E : L2.St → XK) (t : TA) : TE := fun σ H Q => t σ H fun vs H1 => sp (vs ++ dvs) H1 Q (E σ)
section
variable {X : Cx} {k : Nat} {x : Str} {ps : List Str} {sp : Sp} {p pos : Pos} {e : Expr} {es : List Expr} {t : TA} {W : WX}
theorem ok_callS (tk : Takes X W) (G : Ok X.prog X.w X.K X.mg X.base (L2.CX X.prog X.w) k x ps sp) (hr : Room k X.A) (hg : Gl X x) (ha : PA X (e :: es) t) (hdb : (x == ("__debug__" : Str)) = false := by decide)
    (he : starEach (e :: es) X.env = (false, eval e X.env) :: starEach es X.env := by rfl) (hpl : (backTo pos (starEach es X.env)).any (·.1) = false := by rfl) : PE X (.Call (.Name x p) (e :: es) [] pos) (tCallS sp [] (fun σ cls d H => W cls d σ H) t) := by
  obtain ⟨f, fd, F, hm, hk, hb⟩ := G.ex
  refine ⟨fun pins s σ H Q I h => ?_⟩
  refine wpAny_Call_Name_kw (ld_glob I hg hm ?_ hdb)
  refine PySem.W.callWith_K (h₀ := X.base) I.ok.mod.kin hk (thn (ha.run pos pins s σ H _ I h) fun us s1 ⟨vs, H1, I1, r, q⟩ => ⟨I1.kIn, ?_⟩) he hpl
  have q : sp (vs ++ []) H1 Q (fun cls d H => W cls d σ H) := q
  rw [List.append_nil] at q
  have hl : us.length = ps.length := by rw [← r.length]; exact F.len _ _ _ _ q
  have hb2 := hb s1 us I1.kIn (by rw [List.append_nil]; exact hl)
  rw [List.append_nil] at hb2
  refine wpAny_call (codeAny_mono (F.run X.A X.stack s1 H1 ⟨us, []⟩ us vs Q _ hr I1.env0 hb2 r q) fun r2 s' hq => ?_)
  cases r2 with
  | error er => exact tk er s' (XE.of_call I1 (fun cls d H' h => h) hq)
  | ok fl =>
    cases fl with
    | ret u => exact I1.after hq
    | next => exact False.elim hq
    | brk => exact False.elim hq
    | cont => exact False.elim hq
end
end Lay
namespace Lay
open PySem L2 PySem.Spec PyProof.Rows
/-! a call within a list comprehension whose exception leaves it -/
section
variable {X : Cx} {pins : List (Addr × Obj)} {σ : L2.St} {H H3 : Hp} {s s3 s' : Shared} {E : XK} {u : Value}
theorem okXe (k : X.Ok) (xe : Value → Shared → Prop) : ({ X with xe := xe } : Cx).Ok := ⟨k.mod, k.kind, k.glob, k.blt, k.above, k.inj, k.has, k.cab, k.hd, k.frames, k.stk, k.exf, k.bs, k.bsz, k.noex, k.exfs, k.funs, k.frf⟩
theorem okXe' {xe : Value → Shared → Prop} (k : ({ X with xe := xe } : Cx).Ok) : X.Ok := ⟨k.mod, k.kind, k.glob, k.blt, k.above, k.inj, k.has, k.cab, k.hd, k.frames, k.stk, k.exf, k.bs, k.bsz, k.noex, k.exfs, k.funs, k.frf⟩
theorem invXe (I : Inv X pins σ H s) (xe : Value → Shared → Prop) : Inv { X with xe := xe } pins σ H s := ⟨okXe I.ok xe, I.os, I.bare, I.base, I.loc, I.cell, I.free, I.freeC, I.pin, I.hok, I.len⟩
theorem invXe' {xe : Value → Shared → Prop} (I : Inv { X with xe := xe } pins σ H s) : Inv X pins σ H s := ⟨okXe' I.ok, I.os, I.bare, I.base, I.loc, I.cell, I.free, I.freeC, I.pin, I.hok, I.len⟩

/-- an exception that came out of a call and flies -/
def XFly (X : Cx) (E : XK) (u : Value) (s' : Shared) : Prop :=
  ∃ (a : Addr) (G : Heap) (t : Shared) (pn : List (Addr × Obj)) (τ : L2.St) (H1 : Hp) (cls : Value) (d : Option Addr), u = .ref a ∧ Inv X pn τ H1 t ∧ (∀ b o, t.heap.get? b = some o → b ∉ frs X.stack → G.get? b = some o) ∧
    t.heap.UpToSlots s'.heap ∧ HandSPX.FlyingZ G X.stack a (Zc cls d) s'.heap ∧ H1 a = none ∧ s'.os = t.os ∧ AllBare s'.gens ∧ E cls d H1
theorem fly_of_call (I : Inv X pins σ H s) (c : L2.CX X.prog X.w X.stack H s E u s') : XFly X E u s' := by
  obtain ⟨a, G, t, pn, τ, H1, cls, d, e, J, nb, up, sky, r⟩ := XE.of_call (W := fun cls d _ H => E cls d H) I (fun _ _ _ h => h) c
  obtain ⟨a0, G0, H0, cls0, d0, e0, fl, _⟩ := c
  rw [e0] at e
  cases e
  refine ⟨_, G, t, pn, τ, H1, cls, d, e0, J, nb, up, ?_, r⟩
  obtain ⟨_, _, _, oe, vs, T, oT, ts, he, _, hd, h1, _, _, hT, hdT, h3⟩ := fl
  rcases sky with ⟨_, _, _, o2, v2, k1, _, k2, k3⟩ | y | ⟨_, _, _, o2, v2, T2, oT2, t2, k1, _, k2, k3, _, _, k4, k5, k6⟩
  · rw [he] at k1; cases k1; rw [hd] at k2; cases k2; rw [h1] at k3; cases k3
  · exact y
  · rw [he] at k1; cases k1; rw [hd] at k2; cases k2; rw [h1] at k3; cases k3
    rw [hT] at k4; cases k4; rw [hdT] at k5; cases k5; rw [h3] at k6; cases k6
theorem nsSlots {h h' : Heap} {C : Addr} {m : Str → Option Value} (n : h.Ns C m) (k : h.UpToSlots h') : h'.Ns C m := by
  obtain ⟨o, es, ep, e, d, r⟩ := n
  obtain ⟨sl, q⟩ := k C o e fun vs z => by rw [d] at z; cases z
  exact ⟨_, es, ep, q, d, r⟩
theorem noteAs (e : Value) {c1 c2 : Env} (h : c1.frame = c2.frame) : PySem.noteFrame e c1 = PySem.noteFrame e c2 := by
  unfold PySem.noteFrame PySem.frameOf
  rw [h]
theorem ffBut {h h' base : Heap} {C : Addr} (sb : ∀ b, b ≠ C → h'.get? b = h.get? b) : ∀ {l : List Env}, h.FunFrames base l → C ∉ frs l → h'.FunFrames base l
  | [], _, _ => trivial
  | ev :: l, ⟨k, ⟨L, o, f, n, e, z⟩, r⟩, y => ⟨k, ⟨L, o, f, n, (sb L fun q => y (List.mem_filterMap.mpr ⟨ev, List.mem_cons_self, by rw [f, q]⟩)).trans e, z⟩, ffBut sb r fun q => y (by
    obtain ⟨e2, m, f2⟩ := List.mem_filterMap.mp q
    exact List.mem_filterMap.mpr ⟨e2, List.mem_cons_of_mem _ m, f2⟩)⟩
/-- it leaves the comprehension -/
theorem fly_out {scope : Scope} {ce : Env} {fp : List Addr} (tk : Takes X fun cls d _ H => E cls d H) (hst : X.stack = X.env :: X.outer) (hfr : X.env.frame = some X.env.locals) (I3 : Inv X pins σ H3 s3) (f3 : ∀ b ∈ fp, FpOk X pins H3 b)
    (cL : ce.locals = s3.heap.objs.size) (cF : ce.frame = X.env.frame) (xx : XFly (X.blk s3 H3 scope ce fp) E u s') : notedBy (model X.prog X.w) X.A ce (CompFails (model X.prog X.w) X.A X.xe ce) u s' := by
  obtain ⟨a, G, t, pn, τ, H1, cls, d, rfl, J, nb, up, fl, na, os, ag, q⟩ := xx
  show wpAny (model X.prog X.w) X.A (PySem.noteFrame (.ref a) ce) _ _ s'
  rw [noteAs _ cF]
  have fl : HandSPX.FlyingZ G X.stack a (Zc cls d) s'.heap := fl
  rw [hst] at fl
  have af : X.A.frames = some (X.env :: X.outer) := by rw [I3.ok.frames, hst]
  refine HandSPX.looks_onZ Zc.steady af hfr fl fun h1 hh1 up1 => ?_
  obtain ⟨m, hn, _⟩ := J.loc
  have hn : t.heap.Ns ce.locals m := hn
  have hn1 : h1.Ns ce.locals m := nsSlots hn (up.trans up1)
  refine ⟨m, hn1, fun h2 m2 hn2 sb => ?_⟩
  have J7 : Inv X pins σ H1 t := I3.call' (ch := fp) J.os J.base J.hok J.bare fun b hb => ⟨(f3 b hb).2.2.2.1, (f3 b hb).2.1, (f3 b hb).2.2.2.2.1, (f3 b hb).2.2.2.2.2⟩
  have nC : H1 ce.locals = none := J.free
  have fC : FpOk X pins H1 ce.locals := I3.fpOk (Nat.le_of_eq cL.symm) nC
  have nst : ce.locals ∉ frs X.stack := fun z => by
    rw [hst] at z
    rcases List.mem_filterMap.mp z with ⟨ev, hm, e⟩
    rcases List.mem_cons.mp hm with r | hm
    · rw [r, hfr] at e; exact fC.2.1 (Option.some.inj e).symm
    · exact fC.2.2.1 (List.mem_filterMap.mpr ⟨ev, hm, e⟩)
  obtain ⟨g1, g2, g3, oe, vs, T, oT, ts, he, hz, hd, hv, hT0, hTe, hT, hdT, h3⟩ := hh1
  obtain ⟨oC, es, ep, eC, dC, _⟩ := hn1
  have naC : a ≠ ce.locals := fun z => by rw [z, eC] at he; cases he; rw [dC] at hd; cases hd
  have nTC : T ≠ ce.locals := fun z => by rw [z, eC] at hT; cases hT; rw [dC] at hdT; cases hdT
  have hh2 : HandSPX.HeldZ (PySem.W.hideAll G [ce.locals]) (X.env :: X.outer) a (Zc cls d) X.env.locals h2 := by
    refine ⟨fun b o e => ?_, ?_, ?_, oe, vs, T, oT, ts, (sb.2 a naC).trans he, hz, hd, hv, ?_, hTe, (sb.2 T nTC).trans hT, hdT, h3⟩
    · have e1 := PySem.W.of_hideAll _ e
      have e2 : b ≠ ce.locals := fun z => by rw [z, PySem.W.hideAll_none [ce.locals] (by simp)] at e; cases e
      exact (sb.2 b e2).trans (g1 b o e1)
    · cases e : (PySem.W.hideAll G [ce.locals]).get? a with
      | none => rfl
      | some o => rw [PySem.W.of_hideAll _ e] at g2; cases g2
    · have gg : h2.FunFrames G (X.env :: X.outer) := ffBut sb.2 g3 fun z => nst (by rw [hst]; exact z)
      exact funFrames_none gg fun b hb => by
        cases e : (PySem.W.hideAll G [ce.locals]).get? b with
        | none => rfl
        | some o =>
          obtain ⟨z, _⟩ := gg.mem hb
          rw [PySem.W.of_hideAll _ e] at z; cases z
    · cases e : (PySem.W.hideAll G [ce.locals]).get? T with
      | none => rfl
      | some o => rw [PySem.W.of_hideAll _ e] at hT0; cases hT0
  obtain ⟨_, _, _, oe2, vs2, T2, _, _, he2, _, hd2, hv2, _⟩ := id hh2
  unfold PySem.passOn
  refine wpAny_bind (wpAny_field he2 hd2 hv2 ?_)
  rw [if_neg (show ¬ ((Value.ref T2 == Value.none) = true) from by simp)]
  rw [cF, hfr]
  refine wpAny_bind (HandSPX.setFlight_onZ hh2 fun h4 hh4 up4 => wpAny_throw ?_)
  have J8 := J7.turned (t' := t.toks) (h' := PySem.W.hideAll t.heap [ce.locals]) (fun b o hb e => PySem.W.hideAll_get _ e (by simpa using hb)) nC fC.2.1 fC.2.2.2.1 fC.2.2.2.2.1 fC.2.2.2.2.2
  refine tk _ _ ⟨a, PySem.W.hideAll G [ce.locals], _, pins, σ, H1, cls, d, rfl, J8, fun b o e hb => ?_, fun b o e z => ?_, .inr (.inr ?_), na, os, ag, q⟩
  · have e1 := PySem.W.of_hideAll _ e
    have e2 : b ≠ ce.locals := fun z => by rw [z, PySem.W.hideAll_none [ce.locals] (by simp)] at e; cases e
    exact PySem.W.hideAll_get _ (nb b o e1 hb) (by simpa using e2)
  · have e1 := PySem.W.of_hideAll _ e
    have e2 : b ≠ ce.locals := fun z => by rw [z, PySem.W.hideAll_none [ce.locals] (by simp)] at e; cases e
    obtain ⟨sl, k1⟩ := (up.trans up1) b o e1 z
    have k2 : h2.get? b = some { o with slots := sl } := (sb.2 b e2).trans k1
    obtain ⟨sl4, k4⟩ := up4 b { o with slots := sl } k2 z
    exact ⟨sl4, k4⟩
  · rw [hst]; exact hh4
/-- a comprehension's block -/
abbrev BX (X : Cx) (s : Shared) (H : Hp) (scope : Scope) (C : Addr) (cl : List (Str × Addr)) (fp : List Addr) : Cx := X.blk s H scope (compEnvC scope cl C X.env) fp
/-- the block's element may let an exception out -/
def ElX (X : Cx) (E : XK) (scope : Scope) (elt : Expr) (te : TE) : Prop := ∀ (s : Shared) (H : Hp) (C : Addr) (cl : List (Str × Addr)) (fp : List Addr) (xe : Value → Shared → Prop),
  Passes (L2.CX X.prog X.w) { BX X s H scope C cl fp with xe := xe } E → PE { BX X s H scope C cl fp with xe := xe } elt te
theorem lcX_core {σ : L2.St} {Q : VK} {elt tg it : Expr} {ifs : List Expr} {scope : Scope} {own : List (Str × Nat)} {p p' : Pos} {wi : TI} {g : TG} {tt : TT} {te : TE} {use : Option (Value → Sem Unit)} {Qf : Value → Shared → Prop}
    (tk : Takes X fun cls d _ H => E cls d H) (hst : X.stack = X.env :: X.outer) (hfr : X.env.frame = some X.env.locals) (calm : X.calm = true) (nd : X.N.Nodup) (I : Inv X pins σ H s) (hi : PI X tg it wi) (bk : BlkOk X.N X.env.scope scope own)
    (hg : ∀ s H C cl fp, PG (BX X s H scope C cl fp) tg g) (ht : ∀ s H C cl fp, PTs (BX X s H scope C cl fp) ifs tt) (he : ElX X E scope elt te) (hs : ∀ x, foldedSetIterable it X.env x = pure x) (h : tLc wi g tt te (own.map (·.2)) σ H Q)
    (fin : ∀ D C s' m H', Inv X pins σ H' s' → Q (.ref D) H' → s'.heap.Ns C m → FpOk X pins H' C → ∀ ce : Env, ce.locals = C → compEnds (model X.prog X.w) X.A X.xe use Qf (.ref D) ce (.ok .next) s') :
    wpAny (model X.prog X.w) X.A (comprehension (.ListComp elt [⟨tg, it, ifs, 0⟩] scope p) scope X.env p' (newList []) false (eval it X.env) use) Qf X.xe s := by
  have fr : ∀ y ∈ scope.names, y.2 = .free → ∃ c, X.env.cells.lookup y.1 = some c := fun y m e => I.ok.has _ (bk.free y m e)
  refine comprehension_at (use := use) rfl hs (closure_ok fr) bk.kind (fun y m e => (bk.uniq y m).trans (congrArg some e)) (thn (hi.run pins s σ H _ I h) fun xv s1 hx => thn hx fun iv s2 h2 => ?_)
  obtain ⟨ia, fp, tn, J, H2, rfl, I2, T, st2, f2, q⟩ := h2
  refine wpAny_newObj_type (newEnv_comp ?_) (by show 0 ≤ sizeLine; decide)
  generalize eD : s2.heap.objs.size = D
  have D2 : H2 D = none := I2.hok.fresh (Nat.le_of_eq eD)
  obtain ⟨W, ⟨n0, w0⟩, turn⟩ := q D D2
  generalize e3 : ({ s2 with heap := s2.heap.push { cls := .type "list", data := .seq ([] : List Value).toArray } } : Shared) = s3
  have I3 : Inv X pins σ (upd H2 D (.lst [])) s3 := by
    subst e3
    exact I2.laid (t' := s2.toks) (fun b u => Heap.get?_push_of_some _) (Nat.le_of_eq eD) ⟨Nat.zero_le _, [], 0, .nil, eD ▸ Heap.get?_push_size _ rfl⟩
  have x3 : s3.heap = s2.heap.push { cls := .type "list", data := .seq ([] : List Value).toArray } := e3 ▸ rfl
  have f3 : ∀ b ∈ fp, FpOk X pins (upd H2 D (.lst [])) b ∧ b < s3.heap.objs.size := fun b m => by
    obtain ⟨u, e, _⟩ := T.obj _ _ st2 b m
    have lt := Heap.lt_size e
    refine ⟨⟨(upd_ne (eD ▸ Nat.ne_of_lt lt)).trans (f2 b m).1, (f2 b m).2⟩, ?_⟩
    rw [x3, Heap.size_push]
    exact Nat.lt_succ_of_lt lt
  have st3 : tn 0 s3.heap := T.keep _ _ _ st2 fun b _ u e => x3 ▸ Heap.get?_push_of_some _ e
  have I4 := block_start I3 bk nd f3
  generalize eH : upd H2 D (.lst []) = H3 at I3 I4 w0 f3
  generalize eC : s3.heap.objs.size = C at I4
  generalize ecl : cellsFrom (C + 1) scope.names (cloFrom X.env.cells scope.names []) = cl at I4
  have pg := hg s3 H3 C cl fp
  have pt := ht s3 H3 C cl fp
  have pe := he s3 H3 C cl fp (XFly (BX X s3 H3 scope C cl fp) E) fun pn τ Hq sq u s' Iq c => fly_of_call (invXe' Iq) c
  unfold BX at pg pt pe
  show codeAny _ _ (.compStart (.ListComp elt [⟨tg, it, ifs, 0⟩] scope p) 0 (.ref ia) (.ref D) (compEnvC scope cl C X.env)) (compEnds (model X.prog X.w) X.A X.xe use Qf (.ref D) (compEnvC scope cl C X.env)) _
  have cL : (compEnvC scope cl C X.env).locals = C := rfl
  have cF : (compEnvC scope cl C X.env).frame = X.env.frame := rfl
  generalize ece : compEnvC scope cl C X.env = ce at I4 pg pt pe cL cF ⊢
  generalize e4 : ({ s3 with heap := pushCells (s3.heap.push { cls := .type "dict", data := .dict #[] }) scope.names } : Shared) = s4 at I4 ⊢
  have st4 : tn 0 s4.heap := T.keep _ _ _ st3 fun b _ u e => e4 ▸ pushCells_keeps _ _ _ _ (Heap.get?_push_of_some _ e)
  have stat : ∀ {τ : L2.St} {H' : Hp} {s' : Shared}, Inv (X.blk s3 H3 scope ce fp) [] τ H' s' → (∀ b ∈ fp, H' b = none) → ∀ b ∈ fp, FpOk (X.blk s3 H3 scope ce fp) [] H' b := fun I' z b m =>
    ⟨z b m, (I'.ok.exf b m).1, I'.ok.exfs b m, .inl m, (I'.ok.exf b m).2, fun pr y => nomatch (show pr ∈ ([] : List (Addr × Obj)) from y)⟩
  have I4c := I4
  have loop : codeAny (model X.prog X.w) X.A (.compLoop (.ListComp elt [⟨tg, it, ifs, 0⟩] scope p) 0 (.ref ia) (.ref D) ce) (compEnds (model X.prog X.w) X.A X.xe use Qf (.ref D) ce) s4 := by
    refine compLoop_any (fun n s' => ∃ i H', Inv (X.blk s3 H3 scope ce fp) [] (wipe σ (own.map (·.2))) H' s' ∧ tn i s'.heap ∧ (∀ b ∈ fp, H' b = none) ∧ W i n H') ?_ n0 ⟨0, H3, I4, st4, fun b m => (f3 b m).1.1, w0⟩
    rintro n s5 ⟨i, H5, I5, st5, z5, w5⟩
    rcases turn i n H5 w5 with ⟨stop, qq⟩ | ⟨go, Nx, onw, step⟩
    · refine thnF (T.done (X.blk s3 H3 scope ce fp) rfl rfl rfl calm i [] s5 _ H5 (fun _ _ => False) I5 (stat I5 z5) st5 stop) fun r s6 ⟨er, I6⟩ => ?_
      subst er
      have nC : H5 ce.locals = none := I6.free
      obtain ⟨m, hn, _⟩ := I6.loc
      exact fin D ce.locals s6 m H5 (I3.call' (ch := fp) I6.os I6.base I6.hok I6.bare fun b m => ⟨(f3 b m).1.2.2.2.1, (f3 b m).1.2.1, (f3 b m).1.2.2.2.2.1, (f3 b m).1.2.2.2.2.2⟩) qq hn (I3.fpOk (Nat.le_of_eq (eC.trans cL.symm)) nC) ce rfl
    · refine thnF (T.item (X.blk s3 H3 scope ce fp) rfl rfl rfl calm i [] s5 _ H5 (fun _ _ => False) I5 (stat I5 z5) st5 go) fun r s6 ⟨u, er, h6⟩ => ?_
      subst er
      refine thnF h6 fun _ s7 ⟨x, H7, I7, r7, y7, st7, z7⟩ => ?_
      refine thnF (pg.run _ s7 _ H7 x u _ (I7.pinned (stat I7 z7) (T.obj _ _ st7)) r7 (step x H7 y7)) fun _ s8 ⟨σ8, H8, I8, w8, q8⟩ => ?_
      refine thnF (pt.run _ s8 σ8 H8 _ I8 q8) fun b s9 ⟨H9, I9, q9⟩ => ?_
      have turned : ∀ {s' : Shared} {H' : Hp}, Inv (X.blk s3 H3 scope ce fp) ([] ++ pinsAt fp s7.heap) σ8 H' s' → Nx H' → ∃ m, m < n ∧ ∃ i H', Inv (X.blk s3 H3 scope ce fp) [] (wipe σ (own.map (·.2))) H' s' ∧ tn i s'.heap ∧ (∀ b ∈ fp, H' b = none) ∧ W i m H' := fun {s' H'} I' nx => by
        obtain ⟨k, lt, w'⟩ := onw H' nx
        have kept : ∀ b ∈ fp, ∀ u, s7.heap.get? b = some u → s'.heap.get? b = some u ∧ H' b = none := fun b m u e => by
          have z := I'.pin (b, u) (List.mem_append_right _ (List.mem_append_right _ (mem_pinsAt m e)))
          exact ⟨z.1, z.2.1⟩
        refine ⟨k, lt, i + 1, H', (I'.unpinned (pins := [])).weak (by rw [← w8, wipe_length]) (fun j v e => (wipe_some (vs := own.map (·.2)) (by rw [w8]; exact e)).1), T.keep _ _ _ st7 fun b m u e => (kept b m u e).1, fun b m => ?_, w'⟩
        obtain ⟨u, e, _⟩ := T.obj _ _ st7 b m
        exact (kept b m u e).2
      cases b with
      | false => exact turned I9 q9
      | true =>
        refine wpAny_mono (pe.run _ s9 σ8 H9 _ (invXe I9 _) q9) (fun z s10 ⟨yv, H10, I10, r10, acc, d10, l10, nx⟩ => app_ok (X := X.blk s3 H3 scope ce fp) (invXe' I10) d10 l10 r10 fun s11 I11 => turned I11 nx) fun u s' xx => ?_
        subst ece
        exact fly_out tk hst hfr I3 (fun b m => (f3 b m).1) eC.symm rfl xx
  exact codeAny_compStart_list loop (T.self X.A 0 _ _ _ st4 loop)
/-- x = [..], a local, the element may raise -/
theorem ps_setLcX {i : Nat} {y : Str} {py : Pos} {elt tg it : Expr} {ifs : List Expr} {scope : Scope} {own : List (Str × Nat)} {p q : Pos} {wi : TI} {g : TG} {tt : TT} {te : TE} (tk : Takes X fun cls d _ H => E cls d H) (hst : X.stack = X.env :: X.outer) (hfr : X.env.frame = some X.env.locals)
    (calm : X.calm = true) (nd : X.N.Nodup) (iy : X.N[i]? = some y) (yl : X.env.scope.names.lookup y = some .local) (sw : swapsWith (.ListComp elt [⟨tg, it, ifs, 0⟩] scope p) (some (.Name y py)) q.line X.env = pure true) (hi : PI X tg it wi)
    (bk : BlkOk X.N X.env.scope scope own) (hg : ∀ s H C cl fp, PG (BX X s H scope C cl fp) tg g) (ht : ∀ s H C cl fp, PTs (BX X s H scope C cl fp) ifs tt) (he : ElX X E scope elt te) (hs : ∀ x, foldedSetIterable it X.env x = pure x := by intro _; rfl) :
    PS X (.Assign [.Name y py] (.ListComp elt [⟨tg, it, ifs, 0⟩] scope p) q) (tAsg (tLc wi g tt te (own.map (·.2))) (gName i)) := ⟨fun pins s σ H D I h => by
  rw [exec_Assign_Name_used _ _ _ _ sw]
  refine wpAny_bind (wpAny_standAt (wpAny_bind ?_))
  show wpAny _ X.A (do
    let _ ← comprehension (.ListComp elt [⟨tg, it, ifs, 0⟩] scope p) scope X.env (firstIterPos [⟨tg, it, ifs, 0⟩] p) (newList []) false (eval it X.env) (some (assign (.Name y py) X.env))) _ _ s
  refine wpAny_bind (thn (lcX_core (E := E) (Qf := fun _ s' => SP X pins D .next s') (Q := fun x H1 => gName i x σ H1 D.nx) tk hst hfr calm nd I hi bk hg ht he hs h fun L C s' m H' I' z hn f ce ec => ?_) fun _ s' z => wpAny_pure (wpAny_pure z))
  subst ec
  show wpAny _ _ (assign (.Name y py) X.env (.ref L)) _ _ _
  refine wpAny_assign_Name (store_ok2 (v := V.ref L) I' nd iy (.inl yl) rfl (fun s2 I2 ⟨a, sb, ea⟩ => ?_) (.inr yl))
  obtain ⟨k0, k1, _, k3, k4, k5⟩ := f
  have ne : ce.locals ≠ a := by
    rcases ea with rfl | z
    · exact k1
    · exact fun e => k4 y a z e.symm
  exact ⟨m, hn.sameBut sb ne, fun h3 sb3 => ⟨_, H', I2.turned (t' := s2.toks) (fun b u nb e => (sb3.2 b nb).trans e) k0 k1 k3 k4 k5, z⟩⟩⟩
/-- a call in such an element -/
theorem ok_callF {e : Expr} {es : List Expr} {t : TA} {pos : Pos} {k : Nat} {x : Str} {ps : List Str} {sp : Sp} {p : Pos} (hp : Passes (L2.CX X.prog X.w) X E) (G : Ok X.prog X.w X.K X.mg X.base (L2.CX X.prog X.w) k x ps sp) (hr : Room k X.A) (hg : Gl X x) (ha : PA X (e :: es) t) (nd : (x == ("__debug__" : Str)) = false := by decide)
    (he : starEach (e :: es) X.env = (false, eval e X.env) :: starEach es X.env := by rfl) (hpl : (backTo pos (starEach es X.env)).any (·.1) = false := by rfl) : PE X (.Call (.Name x p) (e :: es) [] pos) (tCall sp [] E t) := by
  obtain ⟨f, fd, F, hm, hk, hb⟩ := G.ex
  exact pe_call F hr hg hm hk hb .nil hp ha nd he hpl
end
end Lay
namespace Lay
open PySem L2 PySem.Spec PyProof.Rows
def top (i : Nat) : Stmt := PySem.Challenge.pw_onewaytown_k10_towns_written.main.body.getD i (.Pass ⟨0, 0, 0, 0⟩)
/-! short tactics: ev goes through a reading's parts as far as it can; bd binds a target -/
local macro_rules | `(tactic| walk_at "ev1") => `(tactic| first
  | with_reducible exact ev_int
  | with_reducible exact ev_bl
  | with_reducible exact ev_str
  | with_reducible exact ev_non
  | with_reducible refine' ev_var (by with_unfolding_all rfl)
  | with_reducible refine' evh_var (by with_unfolding_all rfl) (by first | exact rd_sn | exact rd_sa | exact rd_ml | exact rd_tab | exact rd_moD)
  | with_reducible refine' EvH.nw (evh_var (by with_unfolding_all rfl) (by first | exact rd_sn | exact rd_sa | exact rd_ml | exact rd_tab | exact rd_moD)) (by with_unfolding_all rfl)
  | with_reducible refine' evh_md (by with_unfolding_all rfl)
  | with_reducible refine' ev_ii ?_ ?_ (by rfl)
  | with_reducible refine' ev_ib ?_ ?_ (by rfl)
  | with_reducible refine' ev_ci ?_ ?_ ?_ (by rfl)
  | with_reducible refine' ev_call (α := Int × Int × Int × Int) (_, _, _, _) ?_ ?_
  | with_reducible refine' ev_call (α := Int × Int × Int) (_, _, _) ?_ ?_
  | with_reducible refine' ev_call (α := Int × Int) (_, _) ?_ ?_
  | with_reducible refine' ev_call (α := Int) _ ?_ ?_
  | with_reducible refine' ev_call (α := List Int) _ ?_ ?_
  | with_reducible refine' ev_min2 ?_ ?_
  | with_reducible refine' ev_max2 ?_ ?_
  | with_reducible refine' ev_lenL ?_
  | with_reducible refine' ev_eqI ?_ ?_
  | with_reducible refine' ev_neI ?_ ?_
  | with_reducible refine' ev_notV ?_
  | with_reducible refine' ev_neNil ?_ ?_
  | with_reducible refine' ev_eqNil ?_ ?_
  | with_reducible exact ok60_ints
  | with_reducible exact ok60_pairs
  | with_reducible exact ok60_rows
  | with_reducible exact ok60_intss
  | with_reducible refine' ev_tup ?_ (by simp)
  | with_reducible exact eas_nil
  | with_reducible refine' eas_cons ?_ ?_
  | with_reducible exact ea_nil
  | with_reducible refine' ea_cons st_dat ?_ ?_
  | with_reducible refine' et_B (K := by assumption) ?_
  | with_reducible refine' et_test (K := by assumption) ?_
  | with_reducible refine' et_not ?_
  | with_reducible refine' evj_enumX ?_
  | with_reducible refine' EvM.nw ?_
  | with_reducible refine' evm_lst ?_ (by simp)
  | with_reducible refine' Ev.hd ?_)
local macro_rules | `(tactic| walk_at "ev") => `(tactic| repeat' walk_at "ev1")
local macro_rules | `(tactic| walk_at "bd1") => `(tactic| first
  | with_reducible exact bind_name st_nwd
  | with_reducible exact bind_name st_dat
  | with_reducible exact bindl_nil
  | with_reducible refine' bindl_cons ?_ ?_
  | with_reducible refine' bind_tup ?_ (by with_unfolding_all rfl))
local macro_rules | `(tactic| walk_at "bd") => `(tactic| repeat' walk_at "bd1")
/-- side goals of numbers -/
local macro_rules | `(tactic| walk_at "num") => `(tactic| first | (show (0 : Int) < _; decide) | (show (0 : Int) < _; omega) | (unfold CMul; (try dsimp only); omega) | (unfold CDiv; (try dsimp only); omega) | (dsimp only; omega) | omega | trivial)
/-- the reading's start -/
local macro_rules | `(tactic| walk_at "go") => `(tactic| try dsimp only [cxOf, Cx.nox, Cx.wish])

abbrev s_w_mixed : Stmt := top 21
theorem sc_w_mixed : FnScope ["_law_cell", "_law_k"] ["_law_cell", "_law_k"] (defScope s_w_mixed) := ⟨rfl, rfl, rfl, by decide +kernel, rfl, by decide +kernel, by decide +kernel⟩
def mixedF (c k : Int) : Int := (c * (48271 + 2 * k * k) + 69621 * k + 11) % 2147483647 * 69621 % 2147483629
abbrev spMixed (K : PySem.W.Frag) : Sp := Fp K (fun x : Int × Int => 0 ≤ x.2 ∧ x.2 ≤ 100000) (fun x => [dat K (.int x.1), dat K (.int x.2)]) (fun x => .int (mixedF x.1 x.2))
theorem sq_small {k : Int} (h1 : 0 ≤ k) (h2 : k ≤ 100000) : 0 ≤ 2 * k * k ∧ 2 * k * k ≤ 20000000000 := by
  have e : 2 * k * k = 2 * (k * k) := Int.mul_assoc 2 k k
  have a : 0 ≤ k * k := Int.mul_nonneg h1 h1
  have b : k * k ≤ 100000 * 100000 := Int.mul_le_mul h2 h2 h1 (by decide)
  omega
theorem mixedF_pos (c k : Int) : 0 ≤ mixedF c k := Int.emod_nonneg _ (by decide)
theorem mixedF_lt (c k : Int) : mixedF c k < 2147483629 := Int.emod_lt_of_pos _ (by decide)
section
variable {P : Program} {w : World} {K : PySem.W.Frag} {mg : Str → Option Value} {base : Heap}
theorem ok_mixed (D : Dfn K mg "_law_mixed" "_law_mixed" s_w_mixed ["_law_cell", "_law_k"]) : Ok P w K mg base CX0 1 "_law_mixed" ["_law_cell", "_law_k"] (spMixed K) := by
  refine fp_ok D sc_w_mixed (by decide) (fun _ => rfl) (fun _ => stabC st_dat (stab1 st_dat)) (fun f cdv A outer s H E hr => ⟨_, (pss_one (ps_ret (pe_op op_mod (pe_op op_mul (pe_op op_mod (pe_op op_add (pe_op op_add (pe_op op_mul (pv 0) (pe_op op_add pe_int (pe_op op_mul (pe_op op_mul pe_int (pv 1)) (pv 1)))) (pe_op op_mul pe_int (pv 1))) pe_int) pe_int) pe_int) pe_int))), ?_⟩)
  rintro ⟨c, k⟩ ⟨h1, h2⟩ Q q
  dsimp only at h1 h2
  have hk := sq_small h1 h2
  refine' at_ret (d := .int (mixedF c k)) (ev_is (d := _) ?h ?e) q
  case h => walk_at "ev" <;> first | (show (0 : Int) < _; decide) | (unfold CMul; dsimp only; omega)
  case e => rfl
end

abbrev s_w_seed : Stmt := top 22
theorem sc_w_seed : FnScope ["_law_script", "_law_found", "_law_k", "_law_cell"] ["_law_script"] (defScope s_w_seed) := ⟨rfl, rfl, rfl, by decide +kernel, rfl, by decide +kernel, by decide +kernel⟩
def seedStep (a : Int) (p : Int × Nat) : Int := (a * 999983 + mixedF p.1 ((p.2 : Int) % 60)) % 2147483629
def seedF (ns : List Int) : Int := ns.zipIdx.foldl seedStep 7
abbrev spSeed (K : PySem.W.Frag) : Sp := Fp K (fun _ : List Int => True) (fun ns => [dat K (.list (ns.map .int))]) (fun ns => .int (seedF ns))
section
variable {P : Program} {w : World} {K : PySem.W.Frag} {mg : Str → Option Value} {base : Heap}
theorem ok_seed (Z : Zs mg) (G_w_mixed : Ok P w K mg base CX0 1 "_law_mixed" ["_law_cell", "_law_k"] (spMixed K)) (D : Dfn K mg "_law_seed" "_law_seed" s_w_seed ["_law_script"]) : Ok P w K mg base CX0 2 "_law_seed" ["_law_script"] (spSeed K) := by
  refine fp_ok D sc_w_seed (by decide) (fun _ => rfl) (fun _ => stab1 st_dat) (fun f cdv A outer s H E hr => ⟨_, (pss_cons (ps_set (i := 1) sc_w_seed.nd rfl (Or.inl rfl) pe_int)
    (pss_cons (ps_for PassesOwn.never rfl (pi_enum rfl Z.enumerate (pa_cons (pv 0) pa_nil)) (kpg_tup K 2 rfl (pgs_cons (pg_name (i := 2) sc_w_seed.nd rfl (Or.inl rfl)) (pgs_cons (pg_name (i := 3) sc_w_seed.nd rfl (Or.inl rfl)) pgs_nil)))
      (pss_one (ps_set (i := 1) sc_w_seed.nd rfl (Or.inl rfl) (pe_op op_mod (pe_op op_add (pe_op op_mul (pv 1) pe_int) (ok_call G_w_mixed (by exact hr.mono (by decide)) rfl (pa_cons (pv 3) (pa_cons (pe_op op_mod (pv 2) pe_int) pa_nil)))) pe_int))))
    (pss_one (ps_ret (pv 1))))), ?_⟩)
  rintro ns - Q q
  walk_at "go"
  refine' q_set K ?h0 (q_for (xs := ns.zipIdx) (e := fun p => .tuple [.int (p.2 : Int), .int p.1]) (EvJ.i (evj_enumXF ?h1 fun _ => rfl)) (fun pre ρ' => ∃ s1 s2, ρ' = [sa K (.list (ns.map .int)), sn K H (.int (pre.foldl seedStep 7)), s1, s2]) ?h2 ?h3 ?h4)
  case h0 => walk_at "ev"
  case h1 => walk_at "ev"
  case h2 => exact ⟨_, _, rfl⟩
  case h3 =>
    rintro F1 pre ⟨c, k⟩ post ρ' - ⟨s1, s2, rfl⟩
    refine' ⟨_, _, (by walk_at "bd"), ?_⟩
    refine' at_set (K := K) (ev_is (d := _) ?g1 ?g2) (at_lpD ?g3)
    case g1 => walk_at "ev" <;> walk_at "num"
    case g2 => exact (rfl : _ = PyData.int (seedStep (pre.foldl seedStep 7) (c, k)))
    case g3 => exact ⟨_, _, by rw [List.foldl_append] <;> rfl⟩
  case h4 =>
    rintro ρ' ⟨s1, s2, rfl⟩
    refine' at_ret (d := .int (seedF ns)) ?_ q
    walk_at "ev"
end

abbrev s_w_many : Stmt := top 25
theorem sc_w_many : FnScope ["_law_seed_here", "_law_most"] ["_law_seed_here", "_law_most"] (defScope s_w_many) := ⟨rfl, rfl, rfl, by decide +kernel, rfl, by decide +kernel, by decide +kernel⟩
def manyL : List Int := [1, 2, 3, 4, 5, 6, 7, 9, 12, 16]
def manyF (s most : Int) : Int := min most (manyL.getD (mixedF s 60 % 10).toNat 1)
theorem manyL_at {i : Int} (h1 : 0 ≤ i) (h2 : i < 10) : atI manyL i = some (manyL.getD i.toNat 1) := by
  refine atI_nn h1 ?_
  have h3 : i.toNat < manyL.length := by show i.toNat < 10; omega
  rw [List.getElem?_eq_getElem h3, List.getD_eq_getElem?_getD, List.getElem?_eq_getElem h3]
  rfl
theorem manyL_rng {n : Nat} : 1 ≤ manyL.getD n 1 ∧ manyL.getD n 1 ≤ 16 := by
  by_cases h : n < 10
  · have : ∀ m : Fin 10, 1 ≤ manyL.getD m.1 1 ∧ manyL.getD m.1 1 ≤ 16 := by decide
    exact this ⟨n, h⟩
  · have : manyL.getD n 1 = 1 := by
      rw [List.getD_eq_getElem?_getD, List.getElem?_eq_none (by show 10 ≤ n; omega)]
      rfl
    omega
abbrev spMany (K : PySem.W.Frag) : Sp := Fp K (fun _ : Int × Int => True) (fun x => [dat K (.int x.1), dat K (.int x.2)]) (fun x => .int (manyF x.1 x.2))
section
variable {P : Program} {w : World} {K : PySem.W.Frag} {mg : Str → Option Value} {base : Heap}
theorem ok_many (Z : Zs mg) (G_w_mixed : Ok P w K mg base CX0 1 "_law_mixed" ["_law_cell", "_law_k"] (spMixed K)) (D : Dfn K mg "_law_many" "_law_many" s_w_many ["_law_seed_here", "_law_most"]) : Ok P w K mg base CX0 2 "_law_many" ["_law_seed_here", "_law_most"] (spMany K) := by
  refine fp_ok D sc_w_many (by decide) (fun _ => rfl) (fun _ => stabC st_dat (stab1 st_dat)) (fun f cdv A outer s H E hr => ⟨_, (pss_one (ps_ret (pe_callB (call_min2 rfl) (by rfl) Z.min (by decide +kernel) (pa_cons (pv 1) (pa_cons (pe_ix (kix_list K) (pe_lst (pa_cons pe_int (pa_cons pe_int (pa_cons pe_int (pa_cons pe_int (pa_cons pe_int (pa_cons pe_int (pa_cons pe_int (pa_cons pe_int (pa_cons pe_int (pa_cons pe_int pa_nil))))))))))) (pe_op op_mod (ok_call G_w_mixed (by exact hr.mono (by decide)) rfl (pa_cons (pv 0) (pa_cons pe_int pa_nil))) pe_int) (fun _ _ => rfl)) pa_nil))))), ?_⟩)
  rintro ⟨sd, most⟩ - Q q
  walk_at "go"
  refine' at_ret (d := .int (manyF sd most)) ?_ q
  have e : atI (manyL.map PyData.int) (mixedF sd 60 % 10) = some (.int (manyL.getD (mixedF sd 60 % 10).toNat 1)) := atI_map _ (manyL_at (Int.emod_nonneg _ (by decide)) (Int.emod_lt_of_pos _ (by decide)))
  refine' ev_min2 (a := most) (b := manyL.getD (mixedF sd 60 % 10).toNat 1) ?_ (Ev.hd (ev_pick (ds := [.int 1, .int 2, .int 3, .int 4, .int 5, .int 6, .int 7, .int 9, .int 12, .int 16]) ?_ (by decide) ?_ e))
  all_goals walk_at "ev"
  all_goals walk_at "num"
end

abbrev s_w_ends : Stmt := top 23
theorem sc_w_ends : FnScope ["_law_many_here", "_law_way", "_law_k", "_law_number_here", "_law_one", "_law_other", "_law_same", "_law_place"] ["_law_many_here", "_law_way", "_law_k", "_law_number_here"] (defScope s_w_ends) := ⟨rfl, rfl, rfl, by decide +kernel, rfl, by decide +kernel, by decide +kernel⟩
def rangeI (n : Int) : List Int := (List.range n.toNat).map fun i : Nat => 0 + (i : Int)
theorem rangeD_eq (n : Int) : rangeD 0 n.toNat = (rangeI n).map PyData.int := by
  unfold rangeD rangeI
  rw [List.map_map]
  rfl
theorem mem_rangeI {n x : Int} : x ∈ rangeI n ↔ 0 ≤ x ∧ x < n := by
  unfold rangeI
  rw [List.mem_map]
  constructor
  · rintro ⟨i, hi, rfl⟩
    rw [List.mem_range] at hi
    omega
  · intro h
    exact ⟨x.toNat, List.mem_range.mpr (by omega), by omega⟩
theorem rangeI_len (n : Int) : (rangeI n).length = n.toNat := by simp [rangeI]
def sameF (n one : Int) : List Int := (rangeI n).filter fun p => decide (p % 2 = one % 2) && !decide (p = one)
def endsF (n way k m : Int) : Int × Int :=
  if way = 1 ∧ k + 1 < n then (k + 1, m % (k + 1))
  else if way = 2 then (if (sameF n (m % n)).isEmpty then (m % n, (m % n + 1 + m / 20 % (n - 1)) % n) else (m % n, (sameF n (m % n)).getD (m / 20 % ((sameF n (m % n)).length : Int)).toNat 0))
  else if way = 3 then (m % n, (m % n + 1 + m / 20 % 2 * (n - 2)) % n)
  else (m % n, (m % n + 1 + m / 20 % (n - 1)) % n)
abbrev spEnds (K : PySem.W.Frag) : Sp := Fp K (fun x : Int × Int × Int × Int => 2 ≤ x.1 ∧ x.1 ≤ 16 ∧ 0 ≤ x.2.2.1 ∧ x.2.2.1 ≤ 100000) (fun x => [dat K (.int x.1), dat K (.int x.2.1), dat K (.int x.2.2.1), dat K (.int x.2.2.2)]) (fun x => pairD (endsF x.1 x.2.1 x.2.2.1 x.2.2.2))
section
variable {P : Program} {w : World} {K : PySem.W.Frag} {mg : Str → Option Value} {base : Heap}
theorem ok_ends (Z : Zs mg) (D : Dfn K mg "_law_ends" "_law_ends" s_w_ends ["_law_many_here", "_law_way", "_law_k", "_law_number_here"]) : Ok P w K mg base CX0 1 "_law_ends" ["_law_many_here", "_law_way", "_law_k", "_law_number_here"] (spEnds K) := by
  refine fp_ok D sc_w_ends (by decide) (fun _ => rfl) (fun _ => stabC st_dat (stabC st_dat (stabC st_dat (stab1 st_dat)))) (fun f cdv A outer s H E hr => ⟨_, (pss_cons (ps_set (i := 4) sc_w_ends.nd rfl (Or.inr rfl) (pe_op op_mod (pv 3) (pv 0)))
    (pss_cons (ps_set (i := 5) sc_w_ends.nd rfl (Or.inl rfl) (pe_op op_mod (pe_op op_add (pe_op op_add (pv 4) pe_int) (pe_op op_mod (pe_op op_fdiv (pv 3) pe_int) (pe_op op_sub (pv 0) pe_int))) (pv 0)))
    (pss_cons (ps_if (PW.pt (pw_and (pt_cmpR op_eq (pv 1) pe_int (nomark _)) (pw_and1 (pt_cmpR op_lt (pe_op op_add (pv 2) pe_int) (pv 0) (nomark _))))) (pss_one (ps_ret (pe_tup (pa_cons (pe_op op_add (pv 2) pe_int) (pa_cons (pe_op op_mod (pv 3) (pe_op op_add (pv 2) pe_int)) pa_nil))))) pss_nil)
    (pss_cons (ps_if (pt_cmpR op_eq (pv 1) pe_int (nomark _)) (pss_cons (ps_setLc (i := 6) (own := [("_law_place", 7)]) rfl sc_w_ends.nd rfl rfl (sw_true rfl rfl rfl (by decide +kernel)) (pi_range1 rfl Z.range (pa_cons (pv 0) pa_nil)) (blkOk_by (by dsimp only [cxOf, Cx.nox, Cx.wish, Cx.blk, compEnvC, envOfC]; (try (rw [relabel_eq]; dsimp only)); decide +kernel)) (fun _ _ _ _ _ => (pg_name (i := 7) sc_w_ends.nd rfl (Or.inl rfl))) (fun _ _ _ _ _ => (pts_one (PW.pt (pw_and (pt_cmpR op_eq (pe_op op_mod (pv 7) pe_int) (pe_op op_mod (pv 4) pe_int) (nomark _)) (pw_and1 (pt_cmpR op_ne (pv 7) (pv 4) (nomark _))))))) (fun _ _ _ _ _ => (pv 7)))
    (pss_one (ps_ret (pe_ifExp (pt_cmpR (kop_neD K (by exact hr.units)) (pv 6) (pe_lst pa_nil) (nomark _)) (pe_tup (pa_cons (pv 4) (pa_cons (pe_ix (kix_list K) (pv 6) (pe_op op_mod (pe_op op_fdiv (pv 3) pe_int) (pe_callB (kcall_len_seq K) (by rfl) Z.len PySem.boot_len (pa_cons (pv 6) pa_nil))) (fun _ _ => rfl)) pa_nil))) (pe_tup (pa_cons (pv 4) (pa_cons (pv 5) pa_nil))))))) pss_nil)
    (pss_cons (ps_if (pt_cmpR op_eq (pv 1) pe_int (nomark _)) (pss_one (ps_ret (pe_tup (pa_cons (pv 4) (pa_cons (pe_op op_mod (pe_op op_add (pe_op op_add (pv 4) pe_int) (pe_op op_mul (pe_op op_mod (pe_op op_fdiv (pv 3) pe_int) pe_int) (pe_op op_sub (pv 0) pe_int))) (pv 0)) pa_nil))))) pss_nil)
    (pss_one (ps_ret (pe_tup (pa_cons (pv 4) (pa_cons (pv 5) pa_nil)))))))))), ?_⟩)
  rintro ⟨n, way, k, m⟩ ⟨h1, h2, h3, h4⟩ Q q
  dsimp only at h1 h2 h3 h4
  walk_at "go"
  refine' q_set K ?a1 (q_set K ?a2 ?a3)
  case a1 => walk_at "ev" <;> walk_at "num"
  case a2 => walk_at "ev" <;> walk_at "num"
  refine q_when (c := decide (way = 1) && decide (k + 1 < n)) (et_and ?b1 fun _ => ?b2) (fun c1 => ?b3) (fun c1 => ?b4)
  case b1 => walk_at "ev"
  case b2 => walk_at "ev"
  case b3 =>
    have c2 : way = 1 ∧ k + 1 < n := by simpa using c1
    have e : endsF n way k m = (k + 1, m % (k + 1)) := by unfold endsF; rw [if_pos c2]
    rw [e] at q
    refine' at_ret (d := pairD (k + 1, m % (k + 1))) ?_ q
    walk_at "ev" <;> walk_at "num"
  case b4 =>
  have c2 : ¬ (way = 1 ∧ k + 1 < n) := by simpa using c1
  refine q_when (c := decide (way = 2)) ?d1 (fun c3 => ?d2) (fun c3 => ?d3)
  case d1 => walk_at "ev"
  case d2 =>
    have c4 : way = 2 := by simpa using c3
    refine' q_setM K (evm_lc (xs := rangeI n) (e := PyData.int) (q := nwd K H) (fun p => decide (p % 2 = m % n % 2) && !decide (p = m % n)) PyData.int ?r1 ?r2 ?r3) ?r4
    case r1 =>
      rw [← rangeD_eq]
      refine evj_range1 ?_ (by omega)
      walk_at "ev"
    case r2 =>
      intro F1 x hx
      refine' ⟨_, _, (by walk_at "bd"), (by decide), et_and ?t1 fun _ => ?t2, fun _ => ?t3⟩
      case t1 => walk_at "ev" <;> walk_at "num"
      case t2 => walk_at "ev"
      case t3 => walk_at "ev"
    case r3 => rw [rangeI_len]; omega
    have es : ((rangeI n).filter fun p => decide (p % 2 = m % n % 2) && !decide (p = m % n)) = sameF n (m % n) := rfl
    rw [es]
    have hl : (sameF n (m % n)).length ≤ 16 := by
      have h := List.length_filter_le (fun p => decide (p % 2 = m % n % 2) && !decide (p = m % n)) (rangeI n)
      rw [rangeI_len, es] at h
      omega
    refine' at_ret (d := pairD (endsF n way k m)) (ev_if (c := !(sameF n (m % n)).isEmpty) ?u0 (fun c5 => ?u1) (fun c5 => ?u2)) q
    case u0 =>
      have e : (!(sameF n (m % n)).isEmpty) = (!((sameF n (m % n)).map PyData.int).isEmpty) := by simp
      rw [e]
      walk_at "ev"
    case u1 =>
      have c6 : ¬ (sameF n (m % n)).isEmpty = true := by simpa using c5
      have hp : 0 < (sameF n (m % n)).length := by
        cases hz : sameF n (m % n) with
        | nil => rw [hz] at c6; exact absurd rfl c6
        | cons a r => simp
      have e : endsF n way k m = (m % n, (sameF n (m % n)).getD (m / 20 % ((sameF n (m % n)).length : Int)).toNat 0) := by
        unfold endsF
        rw [if_neg c2, if_pos c4, if_neg c6]
      rw [e]
      have e2 : atI ((sameF n (m % n)).map PyData.int) (m / 20 % (((sameF n (m % n)).map PyData.int).length : Int)) = some (.int ((sameF n (m % n)).getD (m / 20 % ((sameF n (m % n)).length : Int)).toNat 0)) := by
        rw [List.length_map]
        have g1 : 0 ≤ m / 20 % ((sameF n (m % n)).length : Int) := Int.emod_nonneg _ (by omega)
        have g2 : m / 20 % ((sameF n (m % n)).length : Int) < ((sameF n (m % n)).length : Int) := Int.emod_lt_of_pos _ (by omega)
        refine atI_map _ (atI_nn g1 ?_)
        rw [List.getD_eq_getElem?_getD, List.getElem?_eq_getElem (by omega)]
        rfl
      refine' ev_tup (eas_cons ?w1 (eas_cons (ev_ixF ?w2 ?w3 e2 rfl) eas_nil)) (by simp)
      case w1 => walk_at "ev"
      case w2 => walk_at "ev"
      case w3 => walk_at "ev" <;> first | (show (0 : Int) < _; rw [List.length_map]; omega) | walk_at "num"
    case u2 =>
      have c6 : (sameF n (m % n)).isEmpty = true := by simpa using c5
      have e : endsF n way k m = (m % n, (m % n + 1 + m / 20 % (n - 1)) % n) := by
        unfold endsF
        rw [if_neg c2, if_pos c4, if_pos c6]
      rw [e]
      walk_at "ev"
  case d3 =>
    have c4 : ¬ way = 2 := by simpa using c3
    refine q_when (c := decide (way = 3)) ?f1 (fun c5 => ?f2) (fun c5 => ?f3)
    case f1 => walk_at "ev"
    case f2 =>
      have c6 : way = 3 := by simpa using c5
      have e : endsF n way k m = (m % n, (m % n + 1 + m / 20 % 2 * (n - 2)) % n) := by
        unfold endsF
        rw [if_neg c2, if_neg c4, if_pos c6]
      rw [e] at q
      refine' at_ret ?_ q
      walk_at "ev" <;> walk_at "num"
    case f3 =>
      have c6 : ¬ way = 3 := by simpa using c5
      have e : endsF n way k m = (m % n, (m % n + 1 + m / 20 % (n - 1)) % n) := by
        unfold endsF
        rw [if_neg c2, if_neg c4, if_neg c6]
      rw [e] at q
      refine' at_ret ?_ q
      walk_at "ev"
end

abbrev s_w_pairs : Stmt := top 24
theorem sc_w_pairs : FnScope ["_law_script", "_law_seed_here", "_law_many_here", "_law_most", "_law_way", "_law_far", "_law_found", "_law_k", "_law_cell"] ["_law_script", "_law_seed_here", "_law_many_here", "_law_most"] (defScope s_w_pairs) := ⟨rfl, rfl, rfl, by decide +kernel, rfl, by decide +kernel, by decide +kernel⟩
def farF (sd n most : Int) : Int := [n, n + 3, most, 2 * n].getD (mixedF sd 2 % 4).toNat 0
def pairsF (script : List Int) (sd n most : Int) : List (Int × Int) :=
  if n = 1 then [] else (script.take (min (farF sd n most) most).toNat).zipIdx.map fun p => endsF n (mixedF sd 1 % 5) (p.2 : Int) (mixedF p.1 (3 + (p.2 : Int) % 50))
abbrev spPairs (K : PySem.W.Frag) : Sp := Fp K (fun x : List Int × Int × Int × Int => x.1.length ≤ 63 ∧ 1 ≤ x.2.2.1 ∧ x.2.2.1 ≤ 16 ∧ 0 ≤ x.2.2.2 ∧ x.2.2.2 ≤ 60) (fun x => [dat K (intsD x.1), dat K (.int x.2.1), dat K (.int x.2.2.1), dat K (.int x.2.2.2)]) (fun x => .list ((pairsF x.1 x.2.1 x.2.2.1 x.2.2.2).map pairD))
section
variable {P : Program} {w : World} {K : PySem.W.Frag} {mg : Str → Option Value} {base : Heap}
theorem ok_pairs (Z : Zs mg) (G_w_mixed : Ok P w K mg base CX0 1 "_law_mixed" ["_law_cell", "_law_k"] (spMixed K)) (G_w_ends : Ok P w K mg base CX0 1 "_law_ends" ["_law_many_here", "_law_way", "_law_k", "_law_number_here"] (spEnds K)) (D : Dfn K mg "_law_pairs" "_law_pairs" s_w_pairs ["_law_script", "_law_seed_here", "_law_many_here", "_law_most"]) : Ok P w K mg base CX0 2 "_law_pairs" ["_law_script", "_law_seed_here", "_law_many_here", "_law_most"] (spPairs K) := by
  refine fp_ok D sc_w_pairs (by decide) (fun _ => rfl) (fun _ => stabC st_dat (stabC st_dat (stabC st_dat (stab1 st_dat)))) (fun f cdv A outer s H E hr => ⟨_, (pss_cons (ps_if (pt_cmpR op_eq (pv 2) pe_int (nomark _)) (pss_one (ps_ret (pe_lst pa_nil))) pss_nil)
    (pss_cons (ps_set (i := 4) sc_w_pairs.nd rfl (Or.inl rfl) (pe_op op_mod (ok_call G_w_mixed (by exact hr.mono (by decide)) rfl (pa_cons (pv 1) (pa_cons pe_int pa_nil))) pe_int))
    (pss_cons (ps_set (i := 5) sc_w_pairs.nd rfl (Or.inl rfl) (pe_ix (kix_list K) (pe_lst (pa_cons (pv 2) (pa_cons (pe_op op_add (pv 2) pe_int) (pa_cons (pv 3) (pa_cons (pe_op op_mul pe_int (pv 2)) pa_nil))))) (pe_op op_mod (ok_call G_w_mixed (by exact hr.mono (by decide)) rfl (pa_cons (pv 1) (pa_cons pe_int pa_nil))) pe_int) (fun _ _ => rfl)))
    (pss_cons (ps_set (i := 6) sc_w_pairs.nd rfl (Or.inl rfl) (pe_lst pa_nil))
    (pss_cons (ps_for PassesOwn.never rfl (pi_enum rfl Z.enumerate (pa_cons (pe_slice (ksl_list K) (pv 0) po_none (po_some (pe_callB (call_min2 rfl) (by rfl) Z.min (by decide +kernel) (pa_cons (pv 5) (pa_cons (pv 3) pa_nil))))) pa_nil)) (kpg_tup K 2 rfl (pgs_cons (pg_name (i := 7) sc_w_pairs.nd rfl (Or.inl rfl)) (pgs_cons (pg_name (i := 8) sc_w_pairs.nd rfl (Or.inl rfl)) pgs_nil)))
      (pss_one (ps_expr (pe_bm PySem.F.plainAttrs_list PySem.F.slot_list_append PySem.F.type_list_append mt_append (pv 6) (pa_cons (ok_call G_w_ends (by exact hr.mono (by decide)) rfl (pa_cons (pv 2) (pa_cons (pv 4) (pa_cons (pv 7) (pa_cons (ok_call G_w_mixed (by exact hr.mono (by decide)) rfl (pa_cons (pv 8) (pa_cons (pe_op op_add pe_int (pe_op op_mod (pv 7) pe_int)) pa_nil))) pa_nil))))) pa_nil)))))
    (pss_one (ps_ret (pv 6)))))))), ?_⟩)
  rintro ⟨script, sd, n, most⟩ ⟨h0, h1, h2, h3, h4⟩ Q q
  dsimp only at h0 h1 h2 h3 h4
  walk_at "go"
  refine q_when (c := decide (n = 1)) ?a1 (fun c1 => ?a2) (fun c1 => ?a3)
  case a1 => walk_at "ev"
  case a2 =>
    have c2 : n = 1 := by simpa using c1
    have e : pairsF script sd n most = [] := by unfold pairsF; rw [if_pos c2]
    rw [e] at q
    refine' at_ret (d := .list []) ?_ q
    walk_at "ev"
  case a3 =>
  have c2 : ¬ n = 1 := by simpa using c1
  have m0 := Int.emod_nonneg (mixedF sd 2) (show (4 : Int) ≠ 0 by decide)
  have m1 := Int.emod_lt_of_pos (mixedF sd 2) (show (0 : Int) < 4 by decide)
  have ef : atI (List.map PyData.int [n, n + 3, most, 2 * n]) (mixedF sd 2 % 4) = some (.int (farF sd n most)) := by
    refine atI_map _ (atI_nn m0 ?_)
    unfold farF
    rw [List.getD_eq_getElem?_getD, List.getElem?_eq_getElem (by show (mixedF sd 2 % 4).toNat < 4; omega)]
    rfl
  have bf : 0 ≤ farF sd n most ∧ farF sd n most ≤ 100 := by
    have : ∀ k : Nat, k < 4 → 0 ≤ [n, n + 3, most, 2 * n].getD k 0 ∧ [n, n + 3, most, 2 * n].getD k 0 ≤ 100 := fun k hk =>
      match k, hk with
      | 0, _ => by show 0 ≤ n ∧ n ≤ 100; omega
      | 1, _ => by show 0 ≤ n + 3 ∧ n + 3 ≤ 100; omega
      | 2, _ => by show 0 ≤ most ∧ most ≤ 100; omega
      | 3, _ => by show 0 ≤ 2 * n ∧ 2 * n ≤ 100; omega
    exact this _ (by omega)
  refine' q_set K ?b1 (q_set K (d := .int (farF sd n most)) ?b2 (q_setM K (ds := []) ?b3 (q_for (xs := (script.take (min (farF sd n most) most).toNat).zipIdx) (e := fun p => .tuple [.int (p.2 : Int), .int p.1]) (EvJ.i (evj_enumX (K := K) ?b4))
    (fun pre ρ' => ∃ s1 s2, ρ' = [sa K (intsD script), sa K (.int sd), sa K (.int n), sa K (.int most), sn K H (.int (mixedF sd 1 % 5)), sn K H (.int (farF sd n most)), ml K H ((pre.map fun p => endsF n (mixedF sd 1 % 5) (p.2 : Int) (mixedF p.1 (3 + (p.2 : Int) % 50))).map pairD), s1, s2]) ?b5 ?b6 ?b7)))
  case b1 =>
    walk_at "ev"
    · dsimp only; omega
    · decide
  case b2 =>
    refine' ev_pick (ds := [.int n, .int (n + 3), .int most, .int (2 * n)]) ?_ (by simp) ?_ ef
    all_goals walk_at "ev"
    all_goals walk_at "num"
  case b3 => exact evm_lst eas_nil (by simp)
  case b4 =>
    rw [← cut_take PyData.int script (by omega : 0 ≤ min (farF sd n most) most)]
    refine' EvM.nw (evm_slice ?_ (flatDs_map (fun _ => rfl) _) eo_none (eo_some ?_))
    all_goals walk_at "ev"
  case b5 => exact ⟨_, _, rfl⟩
  case b6 =>
    rintro F1 pre ⟨c, k⟩ post ρ' hx ⟨s1, s2, rfl⟩
    obtain ⟨k1, k2, _⟩ := zip_at hx
    rw [List.length_take] at k2
    refine' ⟨_, _, (by walk_at "bd"), ?_⟩
    refine' at_drop (evx_append (by with_unfolding_all rfl) (d := pairD (endsF n (mixedF sd 1 % 5) (k : Int) (mixedF c (3 + (k : Int) % 50)))) ?g1 ?g2) (at_lpD ?g3)
    case g1 =>
      refine' ev_call (α := Int × Int × Int × Int) (n, mixedF sd 1 % 5, (k : Int), mixedF c (3 + (k : Int) % 50)) ?_ ?_
      · exact ⟨by dsimp only; omega, h2, by dsimp only; omega, by dsimp only; omega⟩
      · walk_at "ev"
        · dsimp only; omega
        · decide
    case g2 => simp only [List.length_map]; omega
    case g3 => exact ⟨_, _, by rw [List.map_append, List.map_append] <;> rfl⟩
  case b7 =>
    rintro ρ' ⟨s1, s2, rfl⟩
    have e : pairsF script sd n most = (script.take (min (farF sd n most) most).toNat).zipIdx.map fun p => endsF n (mixedF sd 1 % 5) (p.2 : Int) (mixedF p.1 (3 + (p.2 : Int) % 50)) := by unfold pairsF; rw [if_neg c2]
    rw [e] at q
    exact at_retL (by with_unfolding_all rfl) q
end

/-! where ways lead: the list that is found, the list that waits -/
def ledStep (here : Int) (s : List Int × List Int) (r : Int × Int × Int) : List Int × List Int := if r.2.1 = here ∧ r.2.2 ∉ s.1 then (s.1 ++ [r.2.2], s.2 ++ [r.2.2]) else s
def ledRun (ways : List (Int × Int × Int)) : Nat → List Int × List Int → List Int
  | 0, s => s.1
  | k + 1, s => match s.2.getLast? with
    | none => s.1
    | some h => ledRun ways k (ways.foldl (ledStep h) (s.1, s.2.dropLast))
def ledF (ways : List (Int × Int × Int)) (place : Int) : List Int := ledRun ways (ways.length + 1) ([place], [place])
def ledCnt (ways : List (Int × Int × Int)) (f : List Int) : Nat := ways.countP fun r => decide (r.2.2 ∉ f)
theorem ledCnt_le {f : List Int} {x : Int} : ∀ {ways : List (Int × Int × Int)}, ledCnt ways (f ++ [x]) ≤ ledCnt ways f
  | [] => Nat.le_refl _
  | r :: ways => by
    have ih := ledCnt_le (f := f) (x := x) (ways := ways)
    unfold ledCnt at ih ⊢
    rw [List.countP_cons, List.countP_cons]
    by_cases h : r.2.2 ∈ f
    · simp [h]; simpa using ih
    · by_cases h2 : r.2.2 = x
      · simp [h, h2] at ih ⊢; omega
      · simp [h, h2] at ih ⊢; omega
theorem ledCnt_lt {f : List Int} {x : Int} (hx : x ∉ f) : ∀ {ways : List (Int × Int × Int)}, (∃ r ∈ ways, r.2.2 = x) → ledCnt ways (f ++ [x]) + 1 ≤ ledCnt ways f
  | [], h => by obtain ⟨r, hr, _⟩ := h; exact (List.not_mem_nil hr).elim
  | r :: ways, h => by
    by_cases e : r.2.2 = x
    · have ih := ledCnt_le (f := f) (x := x) (ways := ways)
      unfold ledCnt at ih ⊢
      rw [List.countP_cons, List.countP_cons]
      have hr : r.2.2 ∉ f := by rw [e]; exact hx
      simp [hr, e] at ih ⊢
      simp [hx]
      omega
    · have ih := ledCnt_lt hx (ways := ways) (by
        obtain ⟨q, hq, hqe⟩ := h
        rcases List.mem_cons.mp hq with rfl | hq
        · exact (e hqe).elim
        · exact ⟨q, hq, hqe⟩)
      unfold ledCnt at ih ⊢
      rw [List.countP_cons, List.countP_cons]
      by_cases h3 : r.2.2 ∈ f
      · simp [h3] at ih ⊢; omega
      · simp [h3, e] at ih ⊢; omega
structure LedI (ways : List (Int × Int × Int)) (m : Nat) (s : List Int × List Int) : Prop where
  a : s.1.length + ledCnt ways s.1 ≤ ways.length + 1
  b : ledCnt ways s.1 + s.2.length ≤ m
theorem ledI_step {ways : List (Int × Int × Int)} {m : Nat} {s : List Int × List Int} {h : Int} {r : Int × Int × Int} (hr : r ∈ ways) (I : LedI ways m s) : LedI ways m (ledStep h s r) := by
  unfold ledStep
  split
  next c =>
    have k := ledCnt_lt c.2 ⟨r, hr, rfl⟩
    have a := I.a
    have b := I.b
    exact ⟨by show (s.1 ++ [r.2.2]).length + ledCnt ways (s.1 ++ [r.2.2]) ≤ _; rw [List.length_append]; simp; omega, by show ledCnt ways (s.1 ++ [r.2.2]) + (s.2 ++ [r.2.2]).length ≤ m; rw [List.length_append]; simp; omega⟩
  · exact I
theorem ledI_fold {ways : List (Int × Int × Int)} {m : Nat} {h : Int} : ∀ {pre : List (Int × Int × Int)} {s : List Int × List Int}, (∀ r ∈ pre, r ∈ ways) → LedI ways m s → LedI ways m (pre.foldl (ledStep h) s)
  | [], _, _, I => I
  | r :: pre, s, hp, I => ledI_fold (pre := pre) (s := ledStep h s r) (fun q hq => hp q (List.mem_cons_of_mem _ hq)) (ledI_step (hp r (List.mem_cons_self ..)) I)
theorem ledI_pop {ways : List (Int × Int × Int)} {m : Nat} {f w : List Int} (I : LedI ways (m + 1) (f, w)) (hw : w ≠ []) : LedI ways m (f, w.dropLast) := by
  have a := I.a
  have b := I.b
  have : w.length ≠ 0 := fun z => hw (List.eq_nil_of_length_eq_zero z)
  exact ⟨a, by show ledCnt ways f + w.dropLast.length ≤ m; rw [List.length_dropLast]; have : ledCnt ways f + w.length ≤ m + 1 := b; omega⟩
theorem ledI_start {ways : List (Int × Int × Int)} {p : Int} : LedI ways (ways.length + 1) ([p], [p]) := by
  have : ledCnt ways [p] ≤ ways.length := List.countP_le_length
  exact ⟨by show 1 + ledCnt ways [p] ≤ _; omega, by show ledCnt ways [p] + 1 ≤ _; omega⟩
theorem ledRun_nil {ways : List (Int × Int × Int)} {f : List Int} : ∀ m, ledRun ways m (f, []) = f
  | 0 => rfl
  | _ + 1 => rfl
theorem ledRun_pop {ways : List (Int × Int × Int)} {m : Nat} {f w : List Int} {h : Int} (e : w.getLast? = some h) : ledRun ways (m + 1) (f, w) = ledRun ways m (ways.foldl (ledStep h) (f, w.dropLast)) := by
  show (match w.getLast? with | none => f | some h => _) = _
  rw [e]
theorem last_get {α : Type} {e : α → PyData} {w : List α} {h : α} (k : w.getLast? = some h) : (w.map e)[(w.map e).length - 1]? = some (e h) := by
  rw [List.length_map, List.getElem?_map, ← List.getLast?_eq_getElem?, k]
  rfl
theorem getLast_some {α : Type} {w : List α} (h : w ≠ []) : ∃ x, w.getLast? = some x := ⟨_, List.getLast?_eq_some_getLast h⟩
theorem map_dropLast {α : Type} (e : α → PyData) (w : List α) : (w.map e).dropLast = w.dropLast.map e := by rw [List.dropLast_eq_take, List.dropLast_eq_take, List.length_map, List.map_take]
section
variable {K : PySem.W.Frag} {B F0 : Hp} {ρ : List Sl} {ta : TE}
def sortI (ns : List Int) : List Int := ns.mergeSort fun a b => decide (a ≤ b)
theorem sortI_perm (ns : List Int) : (sortI ns).Perm ns := List.mergeSort_perm _ _
theorem sortI_pw (ns : List Int) : (sortI ns).Pairwise (· ≤ ·) := by
  have h := List.pairwise_mergeSort (le := fun a b : Int => decide (a ≤ b)) (fun a b c h1 h2 => by simp at h1 h2 ⊢; omega) (fun a b => by simp; omega) ns
  exact h.imp fun h => by simpa using h
theorem evm_sortedI {ns : List Int} (ha : EvH B F0 ρ ta (dat K (.list (ns.map .int)))) (hl : ns.length < 64) : EvM K B F0 ρ (tCB (rSorted K) (tCons ta tNil)) ((sortI ns).map .int) := fun F H σ c Q q =>
  ha F H σ c _ fun v F1 H1 g1 p1 => by
    cases p1 with
    | lst h1 h2 =>
      rw [dpAll_ints h2] at h1
      refine ⟨_, ns, rfl, h1, hl, fun ns' p hp1 hp2 hp => ?_⟩
      have e : ns' = sortI ns := List.Perm.eq_of_pairwise (le := (· ≤ ·)) (fun a b _ _ h1 h2 => Int.le_antisymm h1 h2) hp2 (sortI_pw ns) (hp1.trans (sortI_perm ns).symm)
      subst e
      exact q p _ F1 _ (g1.trans (Gr.new g1.i hp)) (g1.i.free hp) (g1.fresh hp) upd_same (nwAll_ints _)
end
theorem sortI_len (ns : List Int) : (sortI ns).length = ns.length := (sortI_perm ns).length_eq
def foundD (f : List Int) : List (Int × PyData) := f.map fun x => (x, .bool true)
theorem look_found {x : Int} : ∀ {f : List Int}, (lookI (foundD f) x).isSome = decide (x ∈ f)
  | [] => rfl
  | y :: f => by
    have ih := look_found (x := x) (f := f)
    unfold lookI foundD at ih ⊢
    rw [List.map_cons, List.find?_cons]
    by_cases e : y = x
    · subst e; simp
    · rw [show ((y, PyData.bool true).1 == x) = false from beq_eq_false_iff_ne.mpr e]
      have e' : ¬ x = y := fun z => e z.symm
      simp only [List.mem_cons, e', false_or]
      exact ih
theorem put_found {x : Int} {f : List Int} (h : x ∉ f) : putI (foundD f) x (.bool true) = foundD (f ++ [x]) := by
  unfold putI
  have e : ((foundD f).any fun p => p.1 == x) = false := by
    rw [List.any_eq_false]
    intro p hp
    obtain ⟨y, hy, rfl⟩ := List.mem_map.mp hp
    intro z
    exact h (by rw [← eq_of_beq z]; exact hy)
  rw [e]
  unfold foundD
  rw [List.map_append]
  rfl

/-! ### is_among, the class Town -/
structure XCls (K : PySem.W.Frag) (mg : Str → Option Value) (x : Str) (C : Addr) : Prop where
  g : mg x = some (.ref C)
  x : PySem.W.excIn K C [.type "ValueError", .type "Exception", .type "BaseException", .type "object"] "ValueError.__new__" = true
  k : PySem.W.keepIn K (.ref C) = true
  b : PySem.W.subIn K (.ref C) (.type "BaseException") = some true
  t : PySem.W.typeIn K (.ref C) = some (.type "type")
structure TownTxt (K : PySem.W.Frag) (mg : Str → Option Value) (C : Addr) : Prop where
  cl : Cls K C
  nM : NoAttr K C "many"
  nB : NoAttr K C "built"
  nH : NoAttr K C "held"
  g : mg "Town" = some (.ref C)
  c_MOST_PLACES : ∃ t, mg "MOST_PLACES" = some (.int 16 t)
  c_MOST_STREETS : ∃ t, mg "MOST_STREETS" = some (.int 60 t)
def amongB (lo hi : Int) : V → Bool
  | .int i => decide (lo ≤ i) && decide (i ≤ hi)
  | _ => false
abbrev s_is_among : Stmt := top 12
theorem sc_is_among : FnScope ["thing", "least", "most"] ["thing", "least", "most"] (defScope s_is_among) := ⟨rfl, rfl, rfl, by decide +kernel, rfl, by decide +kernel, by decide +kernel⟩
abbrev s_Town_places : Stmt := inClass (top 13) 1
theorem sc_Town_places : FnScope ["self"] ["self"] (defScope s_Town_places) := ⟨rfl, rfl, rfl, by decide +kernel, rfl, by decide +kernel, by decide +kernel⟩
abbrev s_Town_streets : Stmt := inClass (top 13) 5
theorem sc_Town_streets : FnScope ["self", "street"] ["self"] (defScope s_Town_streets) := ⟨rfl, rfl, rfl, by decide +kernel, rfl, by decide +kernel, by decide +kernel⟩
abbrev s_Town_need_place : Stmt := inClass (top 13) 2
theorem sc_Town_need_place : FnScope ["self", "thing"] ["self", "thing"] (defScope s_Town_need_place) := ⟨rfl, rfl, rfl, by decide +kernel, rfl, by decide +kernel, by decide +kernel⟩
abbrev spAmong (K : PySem.W.Frag) : Sp := Fp K (fun _ : V × Int × Int => True) (fun x => [kdP K x.1, dat K (.int x.2.1), dat K (.int x.2.2)]) (fun x => .bool (amongB x.2.1 x.2.2 x.1))
abbrev spPlaces (K : PySem.W.Frag) (C : Addr) : Sp := Fp K (fun _ : TSt => True) (fun st => [isTown K C st]) (fun st => .int st.many)
abbrev spStreets (K : PySem.W.Frag) (C : Addr) : Sp := Fp K (fun st : TSt => TOk st) (fun st => [isTown K C st]) (fun st => .list (st.held.map rowD))
def spNeed (K : PySem.W.Frag) (C CP : Addr) : Sp := fun vs H Q E => ∃ (st : TSt) (v0 : V), AOk [isTown K C st, kdP K v0] H vs ∧ (amongB 0 (st.many - 1) v0 = true → ∀ H', Same H H' → Q .non H') ∧ (amongB 0 (st.many - 1) v0 = false → ∀ H', Same H H' → E (.ref CP) none H')
theorem look_held {s one other : Int} : ∀ {h : List (Int × Int × Int)}, h.Pairwise (fun p q => p.1 < q.1) → (s, one, other) ∈ h → lookI (heldD h) s = some (pairD (one, other))
  | [], _, m => by simp at m
  | (a, b, c) :: r, pw, m => by
    obtain ⟨p1, p2⟩ := List.pairwise_cons.mp pw
    by_cases e : a = s
    · subst e
      rcases List.mem_cons.mp m with m | m
      · cases m
        simp [lookI, heldD]
      · exact absurd (p1 _ m) (Int.lt_irrefl _)
    · have m' : (s, one, other) ∈ r := by
        rcases List.mem_cons.mp m with m | m
        · cases m; exact absurd rfl e
        · exact m
      have ih := look_held p2 m'
      unfold lookI heldD at ih ⊢
      rw [List.map_cons, List.find?_cons, show ((a, pairD (b, c)).1 == s) = false from beq_eq_false_iff_ne.mpr e]
      exact ih
section
variable {K : PySem.W.Frag} {B F0 : Hp} {ρ : List Sl} {ta tb : TE} {ds es : List PyData} {d : PyData}
theorem ev_catT (ha : Ev B F0 ρ ta (nwd K B (.tuple ds))) (hb : Ev B F0 ρ tb (nwd K B (.tuple es))) (h1 : ds ≠ []) (h2 : es ≠ []) (hl : ds.length + es.length ≤ 100000) : Ev B F0 ρ (tOp (rCatA K) ta tb) (nwd K B (.tuple (ds ++ es))) := fun F H σ c Q q =>
  ha F H σ c _ fun x F1 H1 g1 p1 => hb F1 H1 σ (c.go g1) _ fun y F2 H2 g2 p2 => by
    cases p1 with
    | @tup a xs _ a1 a2 =>
      cases p2 with
      | @tup b ys _ b1 b2 =>
        have l1 := nwAll_len a2
        have l2 := nwAll_len b2
        have n1 : xs ≠ [] := fun z => h1 (List.length_eq_zero_iff.mp (by rw [← l1, z]; rfl))
        have n2 : ys ≠ [] := fun z => h2 (List.length_eq_zero_iff.mp (by rw [← l2, z]; rfl))
        refine ⟨a, b, xs, ys, rfl, rfl, sqt_mono g2.i (sqt_mono g2.f a1), sqt_mono g2.i b1, sz_of (by rw [l1, l2]; exact hl), fun z => absurd z n1, fun _ z => absurd z n2, fun _ _ p hp => ?_⟩
        have g3 : Gr F H F2 (upd H2 p (.tup (xs ++ ys))) := (g1.trans g2).trans (Gr.new g2.i hp)
        obtain ⟨F3, g4, s, e⟩ := g3.putT (o := .tup (xs ++ ys)) rfl upd_same
        exact q _ F3 _ g4 (.tup (.inl (.inl e)) (nwAll_app (nwAll_mono (Same.refl _) (g2.f.trans s) a2) (nwAll_mono (Same.refl _) s b2)))
/-- sorted(d), d's keys rising -/
theorem evm_sortedD {kvs : List (Int × PyData)} (ha : EvH B F0 ρ ta (isDict K kvs)) (hl : kvs.length < 64) (hp : (kvs.map (·.1)).Pairwise (· < ·)) :
    EvM K B F0 ρ (tCB (fun xs H Q => ∃ (a : Addr) (kvs : List (Key × V)) (ks : List Int), xs = [.ref a] ∧ Rd H a (.dK kvs) ∧ kvs.map (·.1) = ks.map Sum.inl ∧ ks.length < 64 ∧ ∀ (ys : List Int) (p : Addr), ys.Perm ks → ys.Pairwise (· ≤ ·) → H p = none → Q (.ref p) (upd H p (.lst (ys.map V.int)))) (tCons ta tNil)) ((kvs.map (·.1)).map PyData.int) := fun F H σ c Q q =>
  ha F H σ c _ fun x F1 H1 g1 ⟨l, kv, e, r, B', a⟩ => by
    subst e
    refine ⟨l, kv, kvs.map (·.1), rfl, r, kv_keys a, by rw [List.length_map]; exact hl, fun ys p h1 h2 h3 => ?_⟩
    rw [pw_perm h1 h2 hp]
    exact q p _ F1 _ (g1.trans (Gr.new g1.i h3)) (g1.i.free h3) (g1.fresh h3) upd_same (nwAll_ints _)
end
section
variable {P : Program} {w : World} {K : PySem.W.Frag} {mg : Str → Option Value} {base : Heap} {C : Addr}
theorem ok_among (Z : Zs mg) (D : Dfn K mg "is_among" "is_among" s_is_among ["thing", "least", "most"]) : Ok P w K mg base CX0 1 "is_among" ["thing", "least", "most"] (spAmong K) := by
  refine fp_ok D sc_is_among (by decide) (fun _ => rfl) (fun _ => stabC st_kdP (stabC st_dat (stab1 st_dat))) (fun f cdv A outer s H E hr => ⟨_, (pss_one (ps_ret (pe_and (pe_callB (kcall_isi K) (by rfl) Z.isinstance (by decide +kernel) (pa_cons (pv 0) (pa_cons (pe_bltn (v := .ty "int") (by rfl) Z.int (by decide +kernel) rfl) pa_nil))) (pe_and (pe_not (pe_callB (kcall_isi K) (by rfl) Z.isinstance (by decide +kernel) (pa_cons (pv 0) (pa_cons (pe_bltn (v := .ty "bool") (by rfl) Z.bool (by decide +kernel) rfl) pa_nil)))) (pe_one (pe_chain op_le op_le (pv 1) (pv 0) (pv 2))))))), ?_⟩)
  rintro ⟨v, lo, hi⟩ - Q q
  walk_at "go"
  have e : amongB lo hi v = (isI v && ((!isB v) && amongB lo hi v)) := by cases v <;> simp [amongB, isI, isB]
  refine at_ret (d := .bool (amongB lo hi v)) ?_ q
  rw [e]
  refine ev_andV (Ev.hd (ev_isi (kd_var rfl) fun H k => isi_int k)) fun c1 => ev_andV (Ev.hd (ev_notV (Ev.hd (ev_isi (kd_var rfl) fun H k => isi_bool k)))) fun c2 => ?_
  cases v with
  | int i =>
    refine' ev_chain ?_ ?_ ?_
    · walk_at "ev"
    · exact fun F H σ c Q q => (kd_var (K := K) (v := .int i) rfl) F H σ c Q fun v F' H' g p => q v F' H' g (by rw [p.1]; exact .int i)
    · walk_at "ev"
  | _ => simp [isI, isB] at c1 c2
theorem ok_places (T : TownTxt K mg C) (D : Mfn K C "places" "Town.places" s_Town_places ["self"]) : OkM P w K mg base CX0 1 C "places" ["self"] (spPlaces K C) := by
  refine fpm_ok D T.cl sc_Town_places (by decide) (fun _ => rfl) (fun _ => stab1 st_isTown) (fun f cdv A outer s H E hr => ⟨_, (pss_one (ps_ret (kpe_fld K (pv 0) rfl))), ?_⟩)
  rintro st - Q q
  walk_at "go"
  exact at_ret (ev_many T.cl T.nM (evh_town rfl)) q
theorem ok_streets (Z : Zs mg) (T : TownTxt K mg C) (D : Mfn K C "streets" "Town.streets" s_Town_streets ["self"]) : OkM P w K mg base CX0 1 C "streets" ["self"] (spStreets K C) := by
  refine fpm_ok D T.cl sc_Town_streets (by decide) (fun _ => rfl) (fun _ => stab1 st_isTown) (fun f cdv A outer s H E hr => ⟨_, (pss_one (ps_ret (pe_lc (own := [("street", 1)]) (tt := tYes) rfl sc_Town_streets.nd (kpi_list K (pe_callB (call_sortedDI rfl) (by rfl) Z.sorted (by decide +kernel) (pa_cons (kpe_fld K (pv 0) rfl) pa_nil))) (blkOk_by (by dsimp only [cxOf, Cx.nox, Cx.wish, Cx.blk, compEnvC, envOfC]; (try (rw [relabel_eq]; dsimp only)); decide +kernel)) (fun _ _ _ _ _ => (pg_name (i := 1) sc_Town_streets.nd rfl (Or.inl rfl))) (fun _ _ _ _ _ => pts_nil) (fun _ _ _ _ _ => (pe_op (kop_catA K) (pe_tup (pa_cons (pv 1) pa_nil)) (pe_dget (by exact hu_of hr) (kpe_fld K (pv 0) rfl) (pv 1) (fun _ _ => rfl))))))), ?_⟩)
  rintro st ok Q q
  walk_at "go"
  have ek : (heldD st.held).map (·.1) = st.held.map (·.1) := by
    unfold heldD
    rw [List.map_map]
    rfl
  refine at_ret (d := .list (st.held.map rowD)) (EvM.nw ?_) q
  refine evm_lc1 (xs := st.held) (e := fun p => .int p.1) rowD (evj_list (EvM.nw ?_)) (fun F1 x hx => ?_) (by have := ok.few; omega)
  · have h := evm_sortedD (K := K) (B := H) (F0 := H) (evh_held (ρ := enterR [Str.ofString "self", Str.ofString "street"].length [isTown K C st]) T.cl T.nH (evh_town (C := C) (st := st) (i := 0) rfl)) (by unfold heldD; rw [List.length_map]; have := ok.few; omega) (by rw [ek]; exact List.pairwise_map.mpr ok.keys)
    rw [ek, List.map_map] at h
    exact h
  · obtain ⟨s, one, other⟩ := x
    refine ⟨_, _, bind_name st_nwd, by decide, ?_⟩
    refine ev_catT (ds := [.int s]) (es := [.int one, .int other]) ?_ ?_ (by simp) (by simp) (by simp)
    · walk_at "ev"
    · exact (evh_dget (evh_held T.cl T.nH (evh_town (C := C) (st := st) rfl)) (evh_var rfl rd_sn) (look_held ok.keys hx)).nw rfl
end
theorem xcls_mk {K : PySem.W.Frag} {h : Heap} {mg : Str → Option Value} {xn : Str} {C : Addr} (X : K.In h) (g : mg xn = some (.ref C)) (x : PySem.W.excIn K C [.type "ValueError", .type "Exception", .type "BaseException", .type "object"] "ValueError.__new__" = true) (k : PySem.W.keepIn K (.ref C) = true)
    (b : PySem.W.subIn K (.ref C) (.type "BaseException") = some true) (t : PySem.W.typeIn K (.ref C) = some (.type "type")) : XCls K mg xn C := ⟨g, x, k, b, t⟩
section
variable {K : PySem.W.Frag} {B F0 : Hp} {ρ : List Sl} {ta : TE} {f : Pd} {C : Addr}
theorem ev_places {st : TSt} (ha : EvH B F0 ρ ta (isTown K C st)) : Ev B F0 ρ (tMeth C "places" (spPlaces K C) [] E0 ta tNil) (nwd K B (.int st.many)) := ev_meth st trivial ha st_isTown (town_in (by decide +kernel) (by decide +kernel) (by decide +kernel)) ea_nil rfl
theorem ev_streets {st : TSt} (ok : TOk st) (ha : EvH B F0 ρ ta (isTown K C st)) : Ev B F0 ρ (tMeth C "streets" (spStreets K C) [] E0 ta tNil) (nwd K B (.list (st.held.map rowD))) := ev_meth st ok ha st_isTown (town_in (by decide +kernel) (by decide +kernel) (by decide +kernel)) ea_nil rfl
end

abbrev s_Town_build : Stmt := inClass (top 13) 3
theorem sc_Town_build : FnScope ["self", "one", "other"] ["self", "one", "other"] (defScope s_Town_build) := ⟨rfl, rfl, rfl, by decide +kernel, rfl, by decide +kernel, by decide +kernel⟩
abbrev s_Town_dig : Stmt := inClass (top 13) 4
theorem sc_Town_dig : FnScope ["self", "street"] ["self", "street"] (defScope s_Town_dig) := ⟨rfl, rfl, rfl, by decide +kernel, rfl, by decide +kernel, by decide +kernel⟩
abbrev s_Town___init : Stmt := inClass (top 13) 0
theorem sc_Town___init : FnScope ["self", "many"] ["self", "many"] (defScope s_Town___init) := ⟨rfl, rfl, rfl, by decide +kernel, rfl, by decide +kernel, by decide +kernel⟩
section
variable {P : Program} {w : World} {K : PySem.W.Frag} {mg : Str → Option Value} {base : Heap} {C CP CM CB CS : Addr}
theorem ok_need (T : TownTxt K mg C) (X_BadPlace : XCls K mg "BadPlace" CP) (G_is_among : Ok P w K mg base CX0 1 "is_among" ["thing", "least", "most"] (spAmong K)) (D : Mfn K C "need_place" "Town.need_place" s_Town_need_place ["self", "thing"]) :
    OkM P w K mg base (L2.CX P w) 2 C "need_place" ["self", "thing"] (spNeed K C CP) := by
  obtain ⟨f, fd, F, hm, hb⟩ := D.ex
  refine ⟨f, fd, F.okX sc_Town_need_place (fun vs H Q E h => ?_) (fun cdv A outer s H vs Q E hr h => ?_), hm, T.cl, hb⟩
  · obtain ⟨st, v0, h, _⟩ := h
    rw [aok_len h]; rfl
  · obtain ⟨st, v0, h, k1, k2⟩ := h
    refine ⟨_, (pss_one (ps_if (pt_not (pt_val (ok_call G_is_among (by exact hr.mono (by decide)) rfl (pa_cons (pv 1) (pa_cons pe_int (pa_cons (pe_op op_sub (kpe_fld K (pv 0) rfl) pe_int) pa_nil)))))) (pss_one (ps_raise rfl (takes_of rfl rfl rfl rfl) (pmk_own PySem.F.excBase_ValueError X_BadPlace.x X_BadPlace.g X_BadPlace.k (raises_own X_BadPlace.b X_BadPlace.t) rfl))) pss_nil)), ?_⟩
    refine at_enter h (stabC st_isTown (stab1 st_kdP)) (by simp) ?_
    walk_at "go"
    refine at_when (c := !amongB 0 (st.many - 1) v0) (et_not (et_B (K := K) (Ev.hd (ev_call (α := V × Int × Int) (v0, 0, st.many - 1) trivial (ea_cons st_kdP (kd_var rfl) (ea_cons st_dat ?a1 (ea_cons st_dat ?a2 ea_nil))))))) (fun c1 => ?_) (fun c1 => ?_)
    case a1 => walk_at "ev"
    case a2 =>
      refine' Ev.hd (ev_ii (Ev.hd (ev_many T.cl T.nM (evh_town rfl))) ?_ rfl)
      walk_at "ev"
    · exact fun F H1 σ c => k2 (by simpa using c1) H1 c.gr.h
    · exact fun F H1 σ c => k1 (by simpa using c1) H1 c.gr.h
end
/-! the owned town, its place known -/
def mtQ (K : PySem.W.Frag) (C : Addr) (st : TSt) (t d : Addr) : Hp → Hp → V → List Addr → Prop := fun F H v as => v = .ref t ∧ as = [t, d] ∧ ∃ dx kv, H t = some (.ins C dx (tf st.many st.built d)) ∧ H d = some (.dK kv) ∧ KvAll K e0 F kv (heldD st.held)
theorem st_mtQ {K : PySem.W.Frag} {C : Addr} {st : TSt} {t d : Addr} : MStab (mtQ K C st t d) := fun F F' H H' v as s e ⟨h1, h2, dx, kv, h3, h4, h5⟩ => by
  subst h2
  exact ⟨h1, rfl, dx, kv, by rw [e t (by simp)]; exact h3, by rw [e d (by simp)]; exact h4, kvAll_mono s h5⟩
def hid (t d : Addr) (H : Hp) : Hp := fun a => if a = t ∨ a = d then none else H a
theorem hid_same {t d : Addr} {H : Hp} : Same (hid t d H) H := fun a o h => by
  unfold hid at h
  split at h
  · cases h
  · exact h
theorem hid_at {t d a : Addr} {H : Hp} {o : HO} (h : H a = some o) (h1 : a ≠ t) (h2 : a ≠ d) : hid t d H a = some o := by
  unfold hid
  rw [if_neg (by rintro (z | z); exact h1 z; exact h2 z)]
  exact h
/-- what is known elsewhere is no owned thing's -/
theorem hid_sub {t d : Addr} {F H : Hp} (s : Same F H) (h1 : F t = none) (h2 : F d = none) : Same F (hid t d H) := fun a o h => hid_at (s a o h) (ne_of_none h h1) (ne_of_none h h2)
theorem sqt_hid {K : PySem.W.Frag} {t d a : Addr} {H : Hp} {xs : List V} (h1 : H t ≠ none → ∀ o, H t = some o → isTup o = false) (h2 : ∀ o, H d = some o → isTup o = false) (h : SqT K H a xs) : SqT K (hid t d H) a xs := by
  have g : ∀ o, isTup o = true → H a = some o → hid t d H a = some o := fun o ho e => hid_at e (fun z => by
    subst z
    have := h1 (by rw [e]; simp) o e
    rw [ho] at this; cases this) (fun z => by
    subst z
    have := h2 o e
    rw [ho] at this; cases this)
  rcases h with (h | ⟨o, h⟩) | h
  · exact .inl (.inl (g _ rfl h))
  · exact .inl (.inr ⟨o, g _ rfl h⟩)
  · exact .inr h
theorem kv_pairs {K : PySem.W.Frag} {H F : Hp} (k : ∀ a xs, SqT K H a xs → SqT K F a xs) : ∀ {h : List (Int × Int × Int)} {kv : List (Key × V)}, KvAll K e0 H kv (heldD h) → KvAll K e0 F kv (heldD h)
  | [], _, .nil => .nil
  | p :: r, _, .cons (d := _) hn a => by
    refine .cons ?_ (kv_pairs k a)
    cases hn with
    | tup h1 h2 =>
      cases h2 with
      | cons x1 x2 =>
        cases x1
        cases x2 with
        | cons x3 x4 =>
          cases x3
          cases x4
          exact .tup (k _ _ h1) (.cons (.int _) (.cons (.int _) .nil))
theorem cfg_town {K : PySem.W.Frag} {C t d dx : Addr} {st : TSt} {kv : List (Key × V)} {N : List Str} {fs : List Pd} {H : Hp} {vs : List V} (ht : H t = some (.ins C dx (tf st.many st.built d))) (hd : H d = some (.dK kv)) (hk : KvAll K e0 H kv (heldD st.held))
    (ha : AOk fs (hid t d H) vs) (sb : ∀ f ∈ fs, Stab f) (hl : fs.length + 1 ≤ N.length) :
    Cfg (hid t d H) (hid t d H) (hid t d H) H (L2.start N (.ref t :: vs)) (.mo (mtQ K C st t d) :: enterR (N.length - 1) fs) := by
  have el := aok_len ha
  have nt : hid t d H t = none := by unfold hid; rw [if_pos (.inl rfl)]
  have nd : hid t d H d = none := by unfold hid; rw [if_pos (.inr rfl)]
  refine ⟨⟨Same.refl _, hid_same, hid_same, fun a o h t z => z, fun _ _ e _ => e⟩, by simp [L2.start, enterR, el]; omega, fun j => if j = 0 then [t, d] else [], fun i j a h1 h2 => ?_, fun i a h1 => ?_, fun i s hs => ?_⟩
  · split at h1 <;> split at h2 <;> first | omega | exact (List.not_mem_nil h1).elim | exact (List.not_mem_nil h2).elim
  · split at h1
    · rcases List.mem_cons.mp h1 with rfl | h1
      · exact ⟨nt, nt, _, ht, rfl⟩
      · rw [List.mem_singleton.mp h1]
        exact ⟨nd, nd, _, hd, rfl⟩
    · cases h1
  · cases i with
    | zero =>
      cases hs
      refine ⟨st_mtQ, .ref t, rfl, rfl, rfl, dx, kv, ht, hd, kv_pairs (fun a xs h => sqt_hid (fun _ o e => by rw [ht] at e; cases e; rfl) (fun o e => by rw [hd] at e; cases e; rfl) h) hk⟩
    | succ i =>
      rw [if_neg (Nat.succ_ne_zero i)]
      have hs : (enterR (N.length - 1) fs)[i]? = some s := hs
      have c0 := cfg_start (N := List.replicate (N.length - 1) ("x" : Str)) ha sb (by simp; omega)
      obtain ⟨w, o⟩ := c0.own
      have q := o.sl i s (by simpa using hs)
      have e2 : (L2.start N (.ref t :: vs))[i + 1]? = (L2.start (List.replicate (N.length - 1) ("x" : Str)) vs)[i]? := by
        unfold L2.start
        rw [List.map_cons, List.cons_append, List.getElem?_cons_succ, List.length_cons, List.length_replicate]
        congr 3
        omega
      rw [e2]
      cases s with
      | no => trivial
      | fz f => exact q
      | mo m =>
        obtain ⟨_, v, _, h1⟩ := q
        exact absurd hs (by
          unfold enterR
          intro z
          have := List.mem_of_getElem? z
          rcases List.mem_append.mp this with h | h
          · obtain ⟨f, _, e⟩ := List.mem_map.mp h; cases e
          · have := List.eq_of_mem_replicate h; cases this)
section
variable {K : PySem.W.Frag} {B F0 : Hp} {ρ : List Sl} {te ta tb tc : TE} {d0 e : PyData} {D : Ends} {u : TS} {C t d : Addr} {st : TSt}
theorem evh_mtQ {i : Nat} (h : ρ[i]? = some (.mo (mtQ K C st t d))) : EvH B F0 ρ (tVar i) (isTown K C st) := fun F H σ c Q q => by
  obtain ⟨w, o⟩ := c.own
  obtain ⟨_, v, h1, rfl, _, dx, kv, h4, h5, h6⟩ := o.sl i _ h
  exact ⟨_, h1, q _ F H (Gr.refl c.i) ⟨t, dx, d, kv, rfl, h4, h5, kvAll_mono c.i h6⟩⟩
theorem ev_town {i : Nat} (h : ρ[i]? = some (.mo (mtQ K C st t d))) : ∀ F H σ, Cfg B F0 F H σ ρ → σ[i]? = some (some (.ref t)) ∧ F t = none ∧ F d = none ∧ ∃ dx kv, H t = some (.ins C dx (tf st.many st.built d)) ∧ H d = some (.dK kv) ∧ KvAll K e0 F kv (heldD st.held) := fun F H σ c => by
  obtain ⟨w, o⟩ := c.own
  obtain ⟨_, v, h1, rfl, ea, dx, kv, h4, h5, h6⟩ := o.sl i _ h
  exact ⟨h1, (o.at_ i t (by rw [ea]; simp)).1, (o.at_ i d (by rw [ea]; simp)).1, dx, kv, h4, h5, h6⟩
theorem put_held {h : List (Int × Int × Int)} {b x y : Int} (hb : ∀ p ∈ h, p.1 < b) : putI (heldD h) b (pairD (x, y)) = heldD (h ++ [(b, x, y)]) := by
  unfold putI
  have : ((heldD h).any fun p => p.1 == b) = false := by
    rw [List.any_eq_false]
    intro p hp
    obtain ⟨q, hq, rfl⟩ := List.mem_map.mp hp
    have := hb q hq
    simp
    omega
  rw [if_neg (by rw [this]; simp)]
  unfold heldD
  rw [List.map_append]
  rfl
/-- self.held[self.built] = (x, y) -/
theorem q_put_held (cl : Cls K C) (nH : NoAttr K C "held") {i : Nat} {b x y : Int} (h : ρ[i]? = some (.mo (mtQ K C st t d))) (hv : Ev B F0 ρ te (nwd K B (pairD (x, y)))) (hk : EvH B F0 ρ tb (dat K (.int b))) (hb : ∀ p ∈ st.held, p.1 < b) (hz : st.held.length < 100000)
    (n : At B F0 (u D) (ρ.set i (.mo (mtQ K C { st with held := st.held ++ [(b, x, y)] } t d)))) : At B F0 (tSeq (sDPut (tFld K (tVar i) "held") tb te) u D) ρ := fun F H σ c => by
  refine hv F H σ c _ fun v F1 H1 g1 p1 => ?_
  have c1 := c.go g1
  obtain ⟨es, ft, fd, dx, kv, h4, h5, h6⟩ := ev_town h F1 H1 σ c1
  refine ⟨_, es, t, C, dx, _, _, rfl, h4, cl, nH, tf_held, hk F1 H1 σ c1 _ fun z F2 H2 g2 p2 => ?_⟩
  cases p2
  have c2 := c1.go g2
  obtain ⟨_, ft2, fd2, dx2, kv2, h42, h52, h62⟩ := ev_town h F2 H2 σ c2
  refine ⟨d, _, rfl, .inl ⟨kv2, Sum.inl b, h52, rfl, sz_lt (by rw [kv_len h62]; unfold heldD; rw [List.length_map]; exact hz), rfl⟩, ?_⟩
  have ntd : t ≠ d := ne_of h42 h52 (by intro z; cases z)
  refine n F2 _ σ (c2.chF h st_mtQ fun v' as ev m => ?_)
  obtain ⟨rfl, rfl, dx', kv', m1, m2, m3⟩ := m
  rw [h42] at m1; cases m1
  rw [h52] at m2; cases m2
  refine ⟨⟨rfl, rfl, dx2, _, by rw [upd_ne ntd]; exact h42, upd_same, ?_⟩, ⟨Same.refl _, fun a o e => ?_, fun a o e1 e2 => ?_, fun a o _ _ z => z, fun _ _ e _ => e⟩, fun a ha => ?_⟩
  · show KvAll K e0 F2 _ (heldD (st.held ++ [(b, x, y)]))
    rw [← put_held hb]
    exact kv_put (nw_mono (B' := e0) (fun _ _ z => nomatch z) g2.f p1) h62
  · rw [upd_ne (ne_of_none e fd2)]; exact c2.i a o e
  · rw [upd_ne (fun z => e1 (by rw [z]; simp))]; exact e2
  · rcases List.mem_cons.mp ha with rfl | ha
    · exact ⟨_, by rw [upd_ne ntd]; exact h42, rfl⟩
    · rw [List.mem_singleton.mp ha]; exact ⟨_, upd_same, rfl⟩
/-- self.built += k -/
theorem q_built (cl : Cls K C) (nB : NoAttr K C "built") {i : Nat} {k : Int} (h : ρ[i]? = some (.mo (mtQ K C st t d))) (hv : EvH B F0 ρ te (dat K (.int k)))
    (n : At B F0 (u D) (ρ.set i (.mo (mtQ K C { st with built := st.built + k } t d)))) : At B F0 (tSeq (sFldAug K (tVar i) te rAdd "built") u D) ρ := fun F H σ c => by
  obtain ⟨es, ft, fd, dx, kv, h4, h5, h6⟩ := ev_town h F H σ c
  refine ⟨_, es, t, C, dx, _, _, rfl, h4, cl, nB, tf_built, hv F H σ c _ fun z F2 H2 g2 p2 => ?_⟩
  cases p2
  have c2 := c.go g2
  obtain ⟨_, ft2, fd2, dx2, kv2, h42, h52, h62⟩ := ev_town h F2 H2 σ c2
  refine ⟨_, _, rfl, rfl, dx2, _, h42, (by show 3 < 1000; decide), ?_⟩
  have ntd : t ≠ d := ne_of h42 h52 (by intro z; cases z)
  refine n F2 _ σ (c2.chF h st_mtQ fun v' as ev m => ?_)
  obtain ⟨rfl, rfl, dx', kv', m1, m2, m3⟩ := m
  rw [h42] at m1; cases m1
  rw [h52] at m2; cases m2
  refine ⟨⟨rfl, rfl, dx2, kv2, ?_, by rw [upd_ne ntd.symm]; exact h52, h62⟩, ⟨Same.refl _, fun a o e => ?_, fun a o e1 e2 => ?_, fun a o _ _ z => z, fun _ _ e _ => e⟩, fun a ha => ?_⟩
  · rw [upd_same, tf_put]
  · rw [upd_ne (ne_of_none e ft2)]; exact c2.i a o e
  · rw [upd_ne (fun z => e1 (by rw [z]; simp))]; exact e2
  · rcases List.mem_cons.mp ha with rfl | ha
    · exact ⟨_, upd_same, rfl⟩
    · rw [List.mem_singleton.mp ha]; exact ⟨_, by rw [upd_ne ntd.symm]; exact h52, rfl⟩
end
/-- the methods that change a town -/
structure TChg (K : PySem.W.Frag) (C : Addr) (st' : TSt) (t d : Addr) (H H' : Hp) : Prop where
  h : ∀ a o, a ≠ t → a ≠ d → H a = some o → H' a = some o
  t : ∃ dx kv, H' t = some (.ins C dx (tf st'.many st'.built d)) ∧ H' d = some (.dK kv) ∧ KvAll K e0 H' kv (heldD st'.held)
/-- what a changing method is handed -/
def TArg (K : PySem.W.Frag) (C : Addr) (st : TSt) (t d : Addr) (fs : List Pd) (H : Hp) (vs : List V) : Prop := ∃ ws, vs = .ref t :: ws ∧ (∃ dx kv, H t = some (.ins C dx (tf st.many st.built d)) ∧ H d = some (.dK kv) ∧ KvAll K e0 H kv (heldD st.held)) ∧ AOk fs (hid t d H) ws
def spBuild (K : PySem.W.Frag) (C CP CM : Addr) : Sp := fun vs H Q E => ∃ (st : TSt) (t d : Addr) (v1 v2 : V), TArg K C st t d [kdP K v1, kdP K v2] H vs ∧ TOk st ∧
  (∀ a b, v1 = .int a → v2 = .int b → 0 ≤ a → a < st.many → 0 ≤ b → b < st.many → a ≠ b → st.held.length < 60 → ∀ H', TChg K C { many := st.many, built := st.built + 1, held := st.held ++ [(st.built, a, b)] } t d H H' → Q (.int st.built) H') ∧
  ((amongB 0 (st.many - 1) v1 = false ∨ amongB 0 (st.many - 1) v2 = false ∨ v1 = v2) → ∀ H', TChg K C st t d H H' → E (.ref CP) none H') ∧
  (amongB 0 (st.many - 1) v1 = true → amongB 0 (st.many - 1) v2 = true → v1 ≠ v2 → st.held.length = 60 → ∀ H', TChg K C st t d H H' → E (.ref CM) none H')
def spDig (K : PySem.W.Frag) (C CS : Addr) : Sp := fun vs H Q E => ∃ (st : TSt) (t d : Addr) (v1 : V), TArg K C st t d [kdP K v1] H vs ∧ TOk st ∧
  (∀ s, v1 = .int s → s ∈ st.held.map (·.1) → ∀ H', TChg K C { st with held := st.held.filter fun p => decide (p.1 ≠ s) } t d H H' → Q .non H') ∧
  ((∀ s, v1 = .int s → s ∉ st.held.map (·.1)) → ∀ H', TChg K C st t d H H' → E (.ref CS) none H')
def spInit (K : PySem.W.Frag) (C CB : Addr) : Sp := fun vs H Q E => ∃ (x dx : Addr) (v : V), vs = [.ref x, v] ∧ H x = some (.ins C dx []) ∧ Kd K H v ∧
  (∀ n, v = .int n → 1 ≤ n → n ≤ 16 → ∀ d H', H d = none → (∀ a o, a ≠ x → H a = some o → H' a = some o) → H' x = some (.ins C dx (tf n 0 d)) → H' d = some (.dK []) → Q .non H') ∧ (amongB 1 16 v = false → ∀ H', Same H H' → E (.ref CB) none H')
section
variable {K : PySem.W.Frag} {B F0 : Hp} {ρ : List Sl} {te ta tb tc : TE} {d0 e : PyData} {D : Ends} {u : TS} {C t d : Addr} {st st' : TSt}
/-- the end of a changing method: what stands at the slots is told of the heap -/
theorem chg_of {H0 F H : Hp} {σ : L2.St} {i : Nat} (h : ρ[i]? = some (.mo (mtQ K C st t d))) (c : Cfg (hid t d H0) (hid t d H0) F H σ ρ) : TChg K C st t d H0 H := by
  obtain ⟨_, _, _, dx, kv, h1, h2, h3⟩ := ev_town h F H σ c
  exact ⟨fun a o n1 n2 e => c.gr.h a o (hid_at e n1 n2), dx, kv, h1, h2, kvAll_mono c.i h3⟩
theorem ev_isKd {i : Nat} {v : V} (h : ρ[i]? = some (.fz (kdP K v))) : Ev B F0 ρ (tVar i) (kdP K v) := ev_var h
/-- an int that came as a thing of any kind -/
theorem ev_kdInt {i : Nat} {n : Int} (h : ρ[i]? = some (.fz (kdP K (.int n)))) : Ev B F0 ρ (tVar i) (nwd K B (.int n)) := (ev_var h).imp fun F v p => by rw [p.1]; exact .int n
/-- need_place on the town's own -/
theorem q_need {CP : Addr} {E : XK} {i j : Nat} {v : V} (h : ρ[i]? = some (.mo (mtQ K C st t d))) (hj : ρ[j]? = some (.fz (kdP K v)))
    (k1 : amongB 0 (st.many - 1) v = true → At B F0 (u D) ρ) (k2 : amongB 0 (st.many - 1) v = false → ∀ F H σ, Cfg B F0 F H σ ρ → E (.ref CP) none H) :
    At B F0 (tSeq (tDrop (tMeth C "need_place" (spNeed K C CP) [] E (tVar i) (tCons (tVar j) tNil))) u D) ρ := fun F H σ c => by
  obtain ⟨es, ft, fd, dx, kv, h4, h5, h6⟩ := ev_town h F H σ c
  obtain ⟨w, o⟩ := c.own
  obtain ⟨_, v', e1, e2, e3⟩ := o.sl j _ hj
  refine ⟨_, es, t, dx, _, rfl, h4, tf_no (by decide +kernel) (by decide +kernel) (by decide +kernel), v', e1, st, v, ?_, fun q H' s => ?_, fun q H' s => ?_⟩
  · exact ⟨_, _, rfl, ⟨t, dx, d, kv, rfl, h4, h5, kvAll_mono c.i h6⟩, _, _, rfl, st_kdP _ _ _ c.i ⟨e2, e3⟩, rfl⟩
  · exact k1 q F H' σ (c.go (gr_call c.i s))
  · exact k2 q F H' σ (c.go (gr_call c.i s))
/-- len(self.held) -/
theorem ev_lenHeld (cl : Cls K C) (nH : NoAttr K C "held") (ha : EvH B F0 ρ ta (isTown K C st)) : Ev B F0 ρ (tCB (fun xs H Q => ∃ a kvs, xs = [V.ref a] ∧ H a = some (.dK kvs) ∧ Q (.int kvs.length) H) (tCons (tFld K ta "held") tNil)) (nwd K B (.int st.held.length)) := fun F H σ c Q q =>
  ha F H σ c _ fun v F' H' g ⟨t, dx, d, kv, e, h, h2, h3⟩ => ⟨t, C, dx, _, _, e, h, cl, nH, tf_held, d, kv, rfl, h2, by
    rw [kv_len h3, show (heldD st.held).length = st.held.length by simp [heldD]]
    exact q _ F' H' g (.int _)⟩
end
section
variable {P : Program} {w : World} {K : PySem.W.Frag} {mg : Str → Option Value} {base : Heap} {C CP CM CB CS : Addr}
theorem among_int {lo hi : Int} {v : V} (h : amongB lo hi v = true) : ∃ i, v = .int i ∧ lo ≤ i ∧ i ≤ hi := by
  cases v with
  | int i => exact ⟨i, rfl, by simpa [amongB] using h⟩
  | _ => simp [amongB] at h
theorem ok_build (Z : Zs mg) (T : TownTxt K mg C) (X_BadPlace : XCls K mg "BadPlace" CP) (X_TooMany : XCls K mg "TooMany" CM) (M_need_place : OkM P w K mg base (L2.CX P w) 2 C "need_place" ["self", "thing"] (spNeed K C CP))
    (D : Mfn K C "build" "Town.build" s_Town_build ["self", "one", "other"]) : OkM P w K mg base (L2.CX P w) 3 C "build" ["self", "one", "other"] (spBuild K C CP CM) := by
  obtain ⟨f, fd, F, hm, hb⟩ := D.ex
  refine ⟨f, fd, F.okX sc_Town_build (fun vs H Q E h => ?_) (fun cdv A outer s H vs Q E hr h => ?_), hm, T.cl, hb⟩
  · obtain ⟨st, t, d, v1, v2, ⟨ws, rfl, _, h⟩, _⟩ := h
    rw [List.length_cons, aok_len h]; rfl
  · obtain ⟨st, t, d, v1, v2, ⟨ws, rfl, ⟨dx, kv, h1, h2, h3⟩, h4⟩, ok, k1, k2, k3⟩ := h
    obtain ⟨tM, gM⟩ := T.c_MOST_STREETS
    refine ⟨_, (pss_cons (ps_expr (ok_methP (takes_of rfl rfl rfl rfl) M_need_place (by exact hr.mono (by decide)) (pv 0) (pa_cons (pv 1) pa_nil)))
    (pss_cons (ps_expr (ok_methP (takes_of rfl rfl rfl rfl) M_need_place (by exact hr.mono (by decide)) (pv 0) (pa_cons (pv 2) pa_nil)))
    (pss_cons (ps_if (pt_cmpR op_eq (pv 1) (pv 2) (nomark _)) (pss_one (ps_raise rfl (takes_of rfl rfl rfl rfl) (pmk_own PySem.F.excBase_ValueError X_BadPlace.x X_BadPlace.g X_BadPlace.k (raises_own X_BadPlace.b X_BadPlace.t) rfl))) pss_nil)
    (pss_cons (ps_if (pt_cmpR op_eq (pe_callB call_lenD (by rfl) Z.len PySem.boot_len (pa_cons (kpe_fld K (pv 0) rfl) pa_nil)) (glob_int rfl T.c_MOST_STREETS) (nomark _)) (pss_one (ps_raise rfl (takes_of rfl rfl rfl rfl) (pmk_own PySem.F.excBase_ValueError X_TooMany.x X_TooMany.g X_TooMany.k (raises_own X_TooMany.b X_TooMany.t) rfl))) pss_nil)
    (pss_cons (ps_dput (by exact hu_of hr) (kpe_fld K (pv 0) rfl) (kpe_fld K (pv 0) rfl) (pe_tup (pa_cons (pv 1) (pa_cons (pv 2) pa_nil))) rfl)
    (pss_cons (ps_fldaug (pv 0) pe_int in_add)
    (pss_one (ps_ret (pe_op op_sub (kpe_fld K (pv 0) rfl) pe_int))))))))), ?_⟩
    refine (?_ : At (hid t d H) (hid t d H) _ _) _ _ _ (cfg_town (st := st) h1 h2 h3 h4 (stabC st_kdP (stab1 st_kdP)) (by simp))
    walk_at "go"
    refine q_need rfl rfl (fun c1 => ?_) (fun c1 F H1 σ c => k2 (.inl c1) H1 (chg_of (i := 0) rfl c))
    refine q_need rfl rfl (fun c2 => ?_) (fun c2 F H1 σ c => k2 (.inr (.inl c2)) H1 (chg_of (i := 0) rfl c))
    obtain ⟨a, rfl, a1, a2⟩ := among_int c1
    obtain ⟨b, rfl, b1, b2⟩ := among_int c2
    refine q_when (c := decide (a = b)) (et_test (K := K) (Ev.hd (ev_eqI (Ev.hd (ev_kdInt rfl)) (Ev.hd (ev_kdInt rfl))))) (fun c3 => ?_) (fun c3 => ?_)
    · have c4 : a = b := by simpa using c3
      exact fun F H1 σ c => k2 (.inr (.inr (by rw [c4]))) H1 (chg_of (i := 0) rfl c)
    have c4 : a ≠ b := by simpa using c3
    refine q_when (c := decide ((st.held.length : Int) = 60)) (et_test (K := K) (Ev.hd (ev_eqI (Ev.hd (ev_lenHeld T.cl T.nH (evh_mtQ rfl))) (Ev.hd ev_int)))) (fun c5 => ?_) (fun c5 => ?_)
    · have c6 : (st.held.length : Int) = 60 := by simpa using c5
      exact fun F H1 σ c => k3 c1 c2 (fun z => c4 (V.int.inj z)) (by omega) H1 (chg_of (i := 0) rfl c)
    have c6 : ¬ (st.held.length : Int) = 60 := by simpa using c5
    have few := ok.few
    refine q_put_held T.cl T.nH (i := 0) (b := st.built) (x := a) (y := b) rfl (ev_tup (eas_cons (ev_kdInt rfl) (eas_cons (ev_kdInt rfl) eas_nil)) (by simp)) (Ev.hd (ev_built T.cl T.nB (evh_mtQ rfl))) (fun p hp => (ok.rng p hp).2.1) (by omega) ?_
    refine q_built T.cl T.nB (i := 0) (k := 1) rfl (Ev.hd ev_int) ?_
    refine fun F H1 σ c => ?_
    refine (ev_ii (K := K) (a := st.built + 1) (b := 1) (Ev.hd (ev_built (st := { many := st.many, built := st.built + 1, held := st.held ++ [(st.built, a, b)] }) T.cl T.nB (evh_mtQ (t := t) (d := d) rfl))) (Ev.hd ev_int) rfl) F H1 σ c _ fun v F2 H2 g p => ?_
    cases p
    have e : st.built + 1 - 1 = st.built := by omega
    rw [e]
    exact k1 a b rfl rfl a1 (by omega) b1 (by omega) c4 (by omega) H2 (chg_of (i := 0) rfl (c.go g))
end
section
variable {K : PySem.W.Frag} {B F0 : Hp} {ρ : List Sl} {te ta tb tc : TE} {d0 e : PyData} {D : Ends} {u : TS} {C t d : Addr} {st st' : TSt}
theorem drop_held {s : Int} : ∀ {h : List (Int × Int × Int)} {F : Hp} {kv : List (Key × V)}, KvAll K e0 F kv (heldD h) → KvAll K e0 F (dropK kv (Sum.inl s : Key)) (heldD (h.filter fun p => decide (p.1 ≠ s)))
  | [], _, _, .nil => .nil
  | p :: r, _, _, .cons hn a => by
    have ih := drop_held (s := s) a
    by_cases e : p.1 = s
    · rw [dropK_pos (by show (Sum.inl p.1 : Key) = Sum.inl s; rw [e]), List.filter_cons, if_neg (by simp [e])]
      exact ih
    · rw [dropK_neg (by exact fun q => e (Sum.inl.inj q)), List.filter_cons, if_pos (by simp [e])]
      exact .cons hn ih
theorem look_mem {s : Int} : ∀ {h : List (Int × Int × Int)}, (lookI (heldD h) s).isSome = decide (s ∈ h.map (·.1))
  | [] => by simp [lookI, heldD]
  | p :: r => by
    have ih := look_mem (s := s) (h := r)
    unfold lookI heldD at ih ⊢
    rw [List.map_cons, List.find?_cons]
    by_cases e : p.1 = s
    · rw [show ((p.1, pairD p.2).1 == s) = true from by simp [e]]
      simp [e]
    · rw [show ((p.1, pairD p.2).1 == s) = false from beq_eq_false_iff_ne.mpr e]
      have e' : ¬ s = p.1 := fun z => e z.symm
      simp only [List.map_cons, List.mem_cons, e', false_or]
      exact ih
/-- self.held.pop(s) -/
theorem at_pop_held (cl : Cls K C) (nH : NoAttr K C "held") {i : Nat} {s : Int} (h : ρ[i]? = some (.mo (mtQ K C st t d))) (hk : EvH B F0 ρ tb (dat K (.int s))) (hm : s ∈ st.held.map (·.1))
    (n : At B F0 D.nx (ρ.set i (.mo (mtQ K C { st with held := st.held.filter fun p => decide (p.1 ≠ s) } t d)))) : At B F0 (tDrop (tDPop1 (tFld K (tVar i) "held") tb) D) ρ := fun F H σ c => by
  obtain ⟨es, ft, fd, dx, kv, h4, h5, h6⟩ := ev_town h F H σ c
  refine ⟨_, es, t, C, dx, _, _, rfl, h4, cl, nH, tf_held, d, rfl, .inl ⟨kv, .inl h5⟩, hk F H σ c _ fun z F2 H2 g p => ?_⟩
  cases p
  have c2 := c.go g
  obtain ⟨_, ft2, fd2, dx2, kv2, h42, h52, h62⟩ := ev_town h F2 H2 σ c2
  have hs : (lookI (heldD st.held) s).isSome = true := by rw [look_mem]; exact decide_eq_true hm
  rcases kv_look (k := s) h62 with ⟨q1, _⟩ | ⟨v, dd, q1, q2, _⟩
  · rw [q1] at hs; cases hs
  · refine ⟨kv2, Sum.inl s, v, h52, rfl, q2, ?_⟩
    have ntd : t ≠ d := ne_of h42 h52 (by intro z; cases z)
    refine n F2 _ σ (c2.chF h st_mtQ fun v' as ev m => ?_)
    obtain ⟨rfl, rfl, dx', kv', m1, m2, m3⟩ := m
    rw [h42] at m1; cases m1
    rw [h52] at m2; cases m2
    refine ⟨⟨rfl, rfl, dx2, _, by rw [upd_ne ntd]; exact h42, upd_same, drop_held h62⟩, ⟨Same.refl _, fun a o e => ?_, fun a o e1 e2 => ?_, fun a o _ _ z => z, fun _ _ e _ => e⟩, fun a ha => ?_⟩
    · rw [upd_ne (ne_of_none e fd2)]; exact c2.i a o e
    · rw [upd_ne (fun z => e1 (by rw [z]; simp))]; exact e2
    · rcases List.mem_cons.mp ha with rfl | ha
      · exact ⟨_, by rw [upd_ne ntd]; exact h42, rfl⟩
      · rw [List.mem_singleton.mp ha]; exact ⟨_, upd_same, rfl⟩
end
section
variable {P : Program} {w : World} {K : PySem.W.Frag} {mg : Str → Option Value} {base : Heap} {C CP CM CB CS : Addr}
theorem ok_dig (Z : Zs mg) (T : TownTxt K mg C) (X_BadStreet : XCls K mg "BadStreet" CS) (G_is_among : Ok P w K mg base CX0 1 "is_among" ["thing", "least", "most"] (spAmong K))
    (D : Mfn K C "dig" "Town.dig" s_Town_dig ["self", "street"]) : OkM P w K mg base (L2.CX P w) 2 C "dig" ["self", "street"] (spDig K C CS) := by
  obtain ⟨f, fd, F, hm, hb⟩ := D.ex
  refine ⟨f, fd, F.okX sc_Town_dig (fun vs H Q E h => ?_) (fun cdv A outer s H vs Q E hr h => ?_), hm, T.cl, hb⟩
  · obtain ⟨st, t, d, v1, ⟨ws, rfl, _, h⟩, _⟩ := h
    rw [List.length_cons, aok_len h]; rfl
  · obtain ⟨st, t, d, v1, ⟨ws, rfl, ⟨dx, kv, h1, h2, h3⟩, h4⟩, ok, k1, k2⟩ := h
    refine ⟨_, (pss_cons (ps_if (PW.pt (pw_or (pt_not (pt_val (ok_call G_is_among (by exact hr.mono (by decide)) rfl (pa_cons (pv 1) (pa_cons pe_int (pa_cons (pe_op op_sub (kpe_fld K (pv 0) rfl) pe_int) pa_nil)))))) (pw_or1 (pt_cmp (pc_dnotin (by exact hu_of hr) (pv 1) (kpe_fld K (pv 0) rfl)))))) (pss_one (ps_raise rfl (takes_of rfl rfl rfl rfl) (pmk_own PySem.F.excBase_ValueError X_BadStreet.x X_BadStreet.g X_BadStreet.k (raises_own X_BadStreet.b X_BadStreet.t) rfl))) pss_nil)
    (pss_one (ps_expr (pe_dpop1 (kpe_fld K (pv 0) rfl) (pv 1) ⟨rfl, by rfl, rfl, rfl⟩)))), ?_⟩
    refine (?_ : At (hid t d H) (hid t d H) _ _) _ _ _ (cfg_town (st := st) h1 h2 h3 h4 (stab1 st_kdP) (by simp))
    walk_at "go"
    have among : EvT (hid t d H) (hid t d H) (Sl.mo (mtQ K C st t d) :: enterR 1 [kdP K v1]) (tNot (tB (tCall (spAmong K) [] E0 (tCons (tVar 1) (tCons (tC (.int 0)) (tCons (tOp (rI0 fun i j => .int (i - j)) (tFld K (tVar 0) "built") (tC (.int 1))) tNil)))))) (!amongB 0 (st.built - 1) v1) :=
      et_not (et_B (K := K) (Ev.hd (ev_call (α := V × Int × Int) (v1, 0, st.built - 1) trivial (ea_cons st_kdP (kd_var rfl) (ea_cons st_dat (Ev.hd ev_int) (ea_cons st_dat (Ev.hd (ev_ii (Ev.hd (ev_built T.cl T.nB (evh_mtQ rfl))) (Ev.hd ev_int) rfl)) ea_nil))))))
    cases am : amongB 0 (st.built - 1) v1 with
    | false =>
      refine q_when (c := true) (et_is (et_or (c := true) among fun z => ?_) (by rw [am]; rfl)) (fun _ => ?_) (fun z => by cases z)
      · rw [am] at z; cases z
      · refine fun F H1 σ c => k2 (fun s e m => ?_) H1 (chg_of (i := 0) rfl c)
        subst e
        obtain ⟨p, hp, rfl⟩ := List.mem_map.mp m
        have r := ok.rng p hp
        have : amongB 0 (st.built - 1) (.int p.1) = true := by simp [amongB]; omega
        rw [this] at am; cases am
    | true =>
      obtain ⟨n, rfl, n1, n2⟩ := among_int am
      refine q_when (c := !decide (n ∈ st.held.map (·.1))) (et_is (et_or (c := !decide (n ∈ st.held.map (·.1))) among fun _ => ?_) (by rw [am]; rfl)) (fun c1 => ?_) (fun c1 => ?_)
      · have h := ev_dnotin (K := K) (B := hid t d H) (F0 := hid t d H) (ρ := Sl.mo (mtQ K C st t d) :: enterR 1 [kdP K (.int n)]) (Ev.hd (ev_kdInt (i := 1) rfl)) (evh_held T.cl T.nH (evh_mtQ (i := 0) rfl))
        rw [look_mem] at h
        exact et_B (K := K) (Ev.hd h)
      · have c2 : n ∉ st.held.map (·.1) := by simpa using c1
        exact fun F H1 σ c => k2 (fun s e => by cases e; exact c2) H1 (chg_of (i := 0) rfl c)
      · have c2 : n ∈ st.held.map (·.1) := by simpa using c1
        refine at_pop_held T.cl T.nH (i := 0) rfl (Ev.hd (ev_kdInt rfl)) c2 ?_
        exact fun F H1 σ c => k1 n rfl c2 H1 (chg_of (i := 0) rfl c)
end

theorem putB {n b : Int} : putF "built" (.int b) (putF "many" (.int n) []) = ([("many", V.int n), ("built", V.int b)] : List (Str × V)) := by
  show (if ("many" : Str) = "built" then _ else (("many" : Str), V.int n) :: [(("built" : Str), V.int b)]) = _
  rw [if_neg ks1]
theorem putH {n b : Int} {d : Addr} : putF "held" (.ref d) ([("many", V.int n), ("built", V.int b)] : List (Str × V)) = tf n b d := by
  show (if ("many" : Str) = "held" then _ else (("many" : Str), V.int n) :: (if ("built" : Str) = "held" then _ else (("built" : Str), V.int b) :: [(("held" : Str), V.ref d)])) = _
  rw [if_neg ks2, if_neg ks3]
  rfl
section
variable {P : Program} {w : World} {K : PySem.W.Frag} {mg : Str → Option Value} {base : Heap} {C CP CM CB CS : Addr}
theorem ok_init (T : TownTxt K mg C) (X_BadCount : XCls K mg "BadCount" CB) (G_is_among : Ok P w K mg base CX0 1 "is_among" ["thing", "least", "most"] (spAmong K)) {f : Addr} {fd : FuncData} (F : Fun K "__init__" "Town.__init__" s_Town___init f fd) :
    FnOk P w K mg base (L2.CX P w) 2 f fd ["self", "many"] (spInit K C CB) := by
  refine F.okX sc_Town___init (fun vs H Q E h => ?_) (fun cdv A outer s H vs Q E hr h => ?_)
  · obtain ⟨x, dx, v, rfl, _⟩ := h
    rfl
  · obtain ⟨x, dx, v, rfl, hx, kd, k1, k2⟩ := h
    refine ⟨_, (pss_cons (ps_if (pt_not (pt_val (ok_call G_is_among (by exact hr.mono (by decide)) rfl (pa_cons (pv 1) (pa_cons pe_int (pa_cons (glob_int rfl T.c_MOST_PLACES) pa_nil)))))) (pss_one (ps_raise rfl (takes_of rfl rfl rfl rfl) (pmk_own PySem.F.excBase_ValueError X_BadCount.x X_BadCount.g X_BadCount.k (raises_own X_BadCount.b X_BadCount.t) rfl))) pss_nil)
    (pss_cons (ps_fld (pv 0) (pv 1) rfl)
    (pss_cons (ps_fld (pv 0) pe_int rfl)
    (pss_one (ps_fld (pv 0) pe_dnewK rfl))))), ?_⟩
    walk_at "go"
    refine ⟨_, rfl, (v, 1, 16), trivial, ⟨_, _, rfl, ⟨rfl, kd⟩, _, _, rfl, .int 1, _, _, rfl, .int 16, rfl⟩, fun r H1 s1 n => ?_⟩
    cases n
    refine ⟨_, rfl, ?_⟩
    cases am : amongB 1 16 v with
    | false => exact iteT (k2 am H1 s1)
    | true =>
      refine iteF ?_
      obtain ⟨n, rfl, n1, n2⟩ := among_int am
      refine ⟨_, rfl, _, rfl, x, C, dx, _, rfl, s1 _ _ hx, T.cl, T.nM, (by decide), ?_⟩
      refine ⟨_, rfl, x, C, dx, _, rfl, upd_same, T.cl, T.nB, (by show 1 < 1000; decide), ?_⟩
      intro d hd
      have nxd : x ≠ d := fun z => by rw [z, upd_same] at hd; cases hd
      refine ⟨_, rfl, x, C, dx, _, rfl, (by rw [upd_ne nxd]; exact upd_same), T.cl, T.nH, (by rw [putB]; show 2 < 1000; decide), ?_⟩
      have hd1 : H1 d = none := by
        rw [upd_ne nxd.symm, upd_ne nxd.symm] at hd
        exact hd
      refine k1 n rfl n1 n2 d _ (s1.free hd1) (fun a o hne e => ?_) ?_ ?_
      · rw [upd_ne hne, upd_ne (ne_of_none (s1 _ _ e) hd1), upd_ne hne, upd_ne hne]
        exact s1 _ _ e
      · rw [upd_same]
        rw [putB, putH]
      · rw [upd_ne nxd.symm, upd_same]
end
section
variable {K : PySem.W.Frag} {B F0 : Hp} {ρ : List Sl} {te ta tb tc : TE} {d0 e : PyData} {D : Ends} {u : TS} {C CB CP CM CS : Addr} {st st' : TSt} {E : XK}
/-! the town as an owned thing of a def's: made, built at, dug at -/
theorem q_make {i : Nat} {n : Int} (ha : EvH B F0 ρ ta (dat K (.int n))) (h1 : 1 ≤ n) (h2 : n ≤ 16) (k : At B F0 (u D) (ρ.set i (mt K C { many := n, built := 0, held := [] }))) :
    At B F0 (tSeq (tAsg (tMake C (spInit K C CB) [] E (tCons ta tNil)) (gName i)) u D) ρ := fun F H σ c => ha F H σ c _ fun v F1 H1 g1 p => by
  cases p
  intro x dx nx ndx nex
  have c1 := c.go g1
  refine ⟨x, dx, .int n, rfl, upd_same, kd_dp (K := K) (.int n), fun m em _ _ d H2 hd hs hx hk => ⟨rfl, ?_⟩, fun z => absurd z (by simp [amongB]; omega)⟩
  cases em
  have nd : H1 d = none := by
    have n1 : d ≠ x := fun z => by rw [z, upd_same] at hd; cases hd
    rw [upd_ne n1] at hd
    have n2 : d ≠ dx := fun z => by rw [z, upd_same] at hd; cases hd
    rw [upd_ne n2] at hd
    exact hd
  have s2 : Same H1 H2 := fun a o e => hs a o (ne_of_none e nx) (by rw [upd_ne (ne_of_none e nx), upd_ne (ne_of_none e ndx)]; exact e)
  have g2 : Gr F1 H1 F1 H2 := gr_call g1.i s2
  refine k F1 H2 _ (c1.setN (as := [x, d]) st_mt g2 ⟨x, dx, d, [], rfl, rfl, hx, hk, .nil⟩ fun a ha => ?_)
  rcases List.mem_cons.mp ha with rfl | ha
  · exact ⟨g1.i.free nx, nx, _, hx, rfl⟩
  · rw [List.mem_singleton.mp ha]
    exact ⟨g1.i.free nd, nd, _, hk, rfl⟩
theorem chg_ch {F H H2 : Hp} {t d : Addr} (i : Same F H) (ft : F t = none) (fd : F d = none) (h : TChg K C st' t d H H2) : ∃ F2, Ch [t, d] F H F2 H2 ∧ ∃ dx kv, H2 t = some (.ins C dx (tf st'.many st'.built d)) ∧ H2 d = some (.dK kv) ∧ KvAll K e0 F2 kv (heldD st'.held) := by
  obtain ⟨hh, dx, kv, h1, h2, h3⟩ := h
  have iF : Same F H2 := fun a o e => hh a o (ne_of_none e ft) (ne_of_none e fd) (i a o e)
  -- the pairs of the town are taken as standing still
  have key : ∀ {hl : List (Int × PyData)} {kv : List (Key × V)}, KvAll K e0 H2 kv hl → (∀ p ∈ hl, flatD p.2 = true) → ∀ F1, Gr F H2 F1 H2 → ∃ F2, Gr F H2 F2 H2 ∧ Same F1 F2 ∧ KvAll K e0 F2 kv hl := by
    intro hl kv a
    induction a with
    | nil => exact fun _ F1 g => ⟨F1, g, Same.refl _, .nil⟩
    | @cons k v dd kv kvs hn _ ih =>
      intro fl F1 g
      obtain ⟨F2, g2, s2, n2⟩ := dp_prom (B := e0) (nw_dp hn) (fl (k, dd) (List.mem_cons.mpr (.inl rfl))) F1 g
      obtain ⟨F3, g3, s3, n3⟩ := ih (fun p hp => fl p (List.mem_cons.mpr (.inr hp))) F2 g2
      exact ⟨F3, g3, s2.trans s3, .cons (nw_mono (Same.refl _) s3 n2) n3⟩
  obtain ⟨F2, g2, _, n2⟩ := key h3 (fun p hp => by
    obtain ⟨q, _, rfl⟩ := List.mem_map.mp hp
    rfl) F (Gr.refl iF)
  refine ⟨F2, ⟨g2.f, g2.i, fun a o hn e => hh a o (fun z => hn (by rw [z]; simp)) (fun z => hn (by rw [z]; simp)) e, fun a o e ht z => ?_, g2.t⟩, dx, kv, h1, h2, n2⟩
  by_cases ea : a = t
  · subst ea
    exact g2.n _ _ h1 rfl z
  · by_cases ed : a = d
    · subst ed
      exact g2.n _ _ h2 rfl z
    · exact g2.n a o (hh a o ea ed e) ht z
/-- an owned town's slot, opened -/
theorem mt_open {i : Nat} (h : ρ[i]? = some (mt K C st)) : ∀ F H σ, Cfg B F0 F H σ ρ → ∃ t d dx kv, σ[i]? = some (some (.ref t)) ∧ F t = none ∧ F d = none ∧ H t = some (.ins C dx (tf st.many st.built d)) ∧ H d = some (.dK kv) ∧ KvAll K e0 F kv (heldD st.held) := fun F H σ c => by
  obtain ⟨w, o⟩ := c.own
  obtain ⟨_, v, h1, t, dx, d, kv, rfl, ea, h4, h5, h6⟩ := o.sl i _ h
  exact ⟨t, d, dx, kv, h1, (o.at_ i t (by rw [ea]; simp)).1, (o.at_ i d (by rw [ea]; simp)).1, h4, h5, h6⟩
theorem cfg_chg {F H H2 : Hp} {σ : L2.St} {i : Nat} {t d : Addr} (h : ρ[i]? = some (mt K C st)) (c : Cfg B F0 F H σ ρ) (es : σ[i]? = some (some (.ref t))) (ft : F t = none) (fd : F d = none) {dx : Addr} (ht : H t = some (.ins C dx (tf st.many st.built d))) (hc : TChg K C st' t d H H2) :
    ∃ F2, Same F F2 ∧ Cfg B F0 F2 H2 σ (ρ.set i (mt K C st')) := by
  obtain ⟨F2, ch, dx2, kv2, q1, q2, q3⟩ := chg_ch c.i ft fd hc
  refine ⟨F2, ch.f, c.chF h st_mt fun v as ev m => ?_⟩
  obtain ⟨t', dx', d', kv', rfl, rfl, m1, m2, m3⟩ := m
  rw [es] at ev
  cases ev
  rw [ht] at m1
  have ed : d = d' := by
    have := congrArg (fun o => match o with | some (HO.ins _ _ fs) => fs.lookup ("held" : Str) | _ => none) m1
    simp only [tf_held] at this
    cases this
    rfl
  subst ed
  refine ⟨⟨t, dx2, d, kv2, rfl, rfl, q1, q2, q3⟩, ch, fun a ha => ?_⟩
  rcases List.mem_cons.mp ha with rfl | ha
  · exact ⟨_, q1, rfl⟩
  · rw [List.mem_singleton.mp ha]; exact ⟨_, q2, rfl⟩
theorem evx_build {i : Nat} {a b : Int} (h : ρ[i]? = some (mt K C st)) (ha : EvH B F0 ρ ta (dat K (.int a))) (hb : EvH B F0 ρ tb (dat K (.int b))) (ok : TOk st) (a1 : 0 ≤ a) (a2 : a < st.many) (b1 : 0 ≤ b) (b2 : b < st.many) (hne : a ≠ b) (few : st.held.length < 60) :
    EvX B F0 ρ (tMeth C "build" (spBuild K C CP CM) [] E (tVar i) (tCons ta (tCons tb tNil))) (ρ.set i (mt K C { many := st.many, built := st.built + 1, held := st.held ++ [(st.built, a, b)] })) (nwd K B (.int st.built)) := fun F H σ c Q q => by
  obtain ⟨t, d, dx, kv, es, ft, fd, h4, h5, h6⟩ := mt_open h F H σ c
  refine ⟨_, es, t, dx, _, rfl, h4, tf_no (by decide +kernel) (by decide +kernel) (by decide +kernel), ha F H σ c _ fun v1 F1 H1 g1 p1 => hb F1 H1 σ (c.go g1) _ fun v2 F2 H2 g2 p2 => ?_⟩
  cases p1; cases p2
  have c2 := (c.go g1).go g2
  have g := g1.trans g2
  have ft2 := g.n t _ h4 rfl ft
  have fd2 := g.n d _ h5 rfl fd
  have ht2 := g.h _ _ h4
  refine ⟨st, t, d, .int a, .int b, ⟨[.int a, .int b], rfl, ⟨dx, kv, ht2, g.h _ _ h5, kvAll_mono (g.f.trans g.i) h6⟩, ⟨_, _, rfl, ⟨rfl, kd_dp (K := K) (.int a)⟩, _, _, rfl, ⟨rfl, kd_dp (K := K) (.int b)⟩, rfl⟩⟩, ok, fun a' b' ea eb _ _ _ _ _ _ H3 hc => ?_, fun z => ?_, fun _ _ _ z => by omega⟩
  · cases ea; cases eb
    obtain ⟨F3, _, c3⟩ := cfg_chg h c2 es ft2 fd2 ht2 hc
    exact q _ F3 H3 c3 (.int _)
  · rcases z with z | z | z
    · simp [amongB] at z; omega
    · simp [amongB] at z; omega
    · exact absurd (V.int.inj z) hne
theorem evx_dig {i : Nat} {s : Int} {ρ1 : List Sl} {st1 : TSt} (hx : EvX B F0 ρ ta ρ1 (nwd K B (.int s))) (h : ρ1[i]? = some (mt K C st1)) (ok : TOk st1) (hm : s ∈ st1.held.map (·.1))
    (ho : ∀ F H σ, Cfg B F0 F H σ ρ → ∃ t dx fs, σ[i]? = some (some (.ref t)) ∧ H t = some (.ins C dx fs) ∧ fs.lookup ("dig" : Str) = none) :
    EvX B F0 ρ (tMeth C "dig" (spDig K C CS) [] E (tVar i) (tCons ta tNil)) (ρ1.set i (mt K C { st1 with held := st1.held.filter fun p => decide (p.1 ≠ s) })) (nwd K B .none) := fun F H σ c Q q => by
  obtain ⟨t0, dx0, fs0, e0', e1, e2⟩ := ho F H σ c
  refine ⟨_, e0', t0, dx0, fs0, rfl, e1, e2, hx F H σ c _ fun v1 F1 H1 c1 p1 => ?_⟩
  cases p1
  obtain ⟨t, d, dx, kv, es, ft, fd, h4, h5, h6⟩ := mt_open h F1 H1 σ c1
  rw [e0'] at es
  cases es
  refine ⟨st1, t0, d, .int s, ⟨[.int s], rfl, ⟨dx, kv, h4, h5, kvAll_mono c1.i h6⟩, ⟨_, _, rfl, ⟨rfl, kd_dp (K := K) (.int s)⟩, rfl⟩⟩, ok, fun s' es _ H3 hc => ?_, fun z => absurd hm (z s rfl)⟩
  cases es
  obtain ⟨F3, _, c3⟩ := cfg_chg h c1 e0' ft fd h4 hc
  exact q _ F3 H3 c3 .non
end
section
variable {P : Program} {w : World} {K : PySem.W.Frag} {mg : Str → Option Value} {base : Heap} {C CB : Addr}
theorem ok_mkTown (T : TownTxt K mg C) (X_BadCount : XCls K mg "BadCount" CB) (G_is_among : Ok P w K mg base CX0 1 "is_among" ["thing", "least", "most"] (spAmong K)) (I : Ifn K C "Town.__init__" s_Town___init ["self", "many"]) : OkMk P w K mg base (L2.CX P w) 2 "Town" C ["self", "many"] (spInit K C CB) := by
  obtain ⟨f, fd, F, M, hb⟩ := I.ex
  exact ⟨f, fd, ok_init T X_BadCount G_is_among F, M, T.g, hb⟩
end

section
variable {K : PySem.W.Frag} {B F0 : Hp} {ρ ρ1 : List Sl} {te ta tb tc : TE} {d e : PyData} {ds es : List PyData} {D : Ends} {u : TS} {C CB CP CM CS : Addr} {st st' : TSt}
theorem evx_appendX {i : Nat} (hx : EvX B F0 ρ te ρ1 (nwd K B d)) (hi : ρ[i]? = some (ml K B ds)) (h1 : ρ1[i]? = some (ml K B ds)) (hz : ds.length < 100000) :
    EvX B F0 ρ (tBM K "list" rAppend (tVar i) (tCons te tNil)) (ρ1.set i (ml K B (ds ++ [d]))) (nwd K B .none) := fun F H σ c Q q => by
  obtain ⟨w, o⟩ := c.own
  obtain ⟨_, v, e1, l, xs, rfl, e3, e4, e5⟩ := o.sl i _ hi
  refine ⟨_, e1, .inl ⟨rfl, _, SqL.of e4⟩, hx F H σ c _ fun y F2 H2 c2 p => ?_⟩
  obtain ⟨w2, o2⟩ := c2.own
  obtain ⟨_, v2, f1, l2, xs2, rfl, f3, f4, f5⟩ := o2.sl i _ h1
  rw [e1] at f1
  cases f1
  refine ⟨l, xs2, y, rfl, rfl, f4, sz_lt (by rw [nwAll_len f5]; exact hz), ?_⟩
  refine q _ F2 _ (c2.chg h1 st_ml fun v' as e m n => ?_) .non
  obtain ⟨l', xs', rfl, rfl, m4, m5⟩ := m
  rw [e1] at e
  cases e
  rw [f4] at m4
  cases m4
  refine ⟨⟨l, xs2 ++ [y], rfl, rfl, upd_same, nwAll_app m5 (.cons p .nil)⟩, fun a ha => upd_ne fun z => ha (by rw [z]; exact List.mem_singleton.mpr rfl), fun a ha => ?_⟩
  rw [List.mem_singleton.mp ha]
  exact ⟨_, upd_same, rfl⟩
theorem evx_tup1 {tr : TA} (hx : EvX B F0 ρ te ρ1 (nwd K B d)) (h : EvAs K B F0 ρ1 tr ds) (hl : ds.length < 100000) : EvX B F0 ρ (tTup (tCons te tr)) ρ1 (nwd K B (.tuple (d :: ds))) := fun F H σ c Q q =>
  hx F H σ c _ fun v F1 H1 c1 p1 => h F1 H1 σ c1 _ fun vs F2 H2 g2 p2 => ⟨sz_of (by rw [List.length_cons, nwAll_len p2]; omega), fun a ha => by
    have g3 : Gr F1 H1 F2 (upd H2 a (.tup (v :: vs))) := g2.trans (Gr.new g2.i ha)
    obtain ⟨F3, g4, s, e⟩ := g3.putT (o := .tup (v :: vs)) rfl upd_same
    exact q _ F3 _ (c1.go g4) (.tup (.inl (.inl e)) (.cons (nw_mono (Same.refl _) (g2.f.trans s) p1) (nwAll_mono (Same.refl _) s p2)))⟩
theorem ho_mt {i : Nat} (h : ρ[i]? = some (mt K C st)) : ∀ F H σ, Cfg B F0 F H σ ρ → ∃ t dx fs, σ[i]? = some (some (.ref t)) ∧ H t = some (.ins C dx fs) ∧ fs.lookup ("dig" : Str) = none := fun F H σ c => by
  obtain ⟨t, d, dx, kv, es, _, _, h4, _⟩ := mt_open h F H σ c
  exact ⟨t, dx, _, es, h4, tf_no (by decide +kernel) (by decide +kernel) (by decide +kernel)⟩
end
abbrev s_w_made : Stmt := top 26
theorem sc_w_made : FnScope ["_law_many_here", "_law_pairs_here", "_law_seed_here", "_law_town", "_law_rows", "_law_k", "_law_one", "_law_other"] ["_law_many_here", "_law_pairs_here", "_law_seed_here"] (defScope s_w_made) := ⟨rfl, rfl, rfl, by decide +kernel, rfl, by decide +kernel, by decide +kernel⟩
def madeN (sd b : Int) (k : Nat) : Int := if mixedF sd (61 + (k : Int) % 30) % 4 = 1 then b + 1 else b
def madeStep (sd : Int) (s : TSt) (p : (Int × Int) × Nat) : TSt := { many := s.many, built := madeN sd s.built p.2 + 1, held := s.held ++ [(madeN sd s.built p.2, p.1.1, p.1.2)] }
def madeF (n : Int) (pairs : List (Int × Int)) (sd : Int) : TSt := pairs.zipIdx.foldl (madeStep sd) ⟨n, 0, []⟩
/-- good pairs of a town of n places -/
def pairsOk (n : Int) (pairs : List (Int × Int)) : Prop := pairs.length ≤ 60 ∧ ∀ p ∈ pairs, 0 ≤ p.1 ∧ p.1 < n ∧ 0 ≤ p.2 ∧ p.2 < n ∧ p.1 ≠ p.2
structure MadeI (n : Int) (pre : List ((Int × Int) × Nat)) (st : TSt) : Prop where
  ok : TOk st
  many : st.many = n
  bt : st.built ≤ 2 * (pre.length : Int)
  held : st.held.map (·.2) = pre.map (·.1)
theorem pw_snoc {h : List (Int × Int × Int)} {b : Int} {x : Int × Int} (k : h.Pairwise fun p q => p.1 < q.1) (l : ∀ p ∈ h, p.1 < b) : (h ++ [(b, x)]).Pairwise fun p q => p.1 < q.1 := by
  rw [List.pairwise_append]
  refine ⟨k, List.pairwise_singleton _ _, fun p hp q hq => ?_⟩
  rw [List.mem_singleton.mp hq]
  exact l p hp
theorem tok_build {st : TSt} (ok : TOk st) {b a c : Int} (hb : st.built ≤ b) (hb2 : b < 100000) (a1 : 0 ≤ a) (a2 : a < st.many) (c1 : 0 ≤ c) (c2 : c < st.many) (hne : a ≠ c) (few : st.held.length < 60) : TOk { many := st.many, built := b + 1, held := st.held ++ [(b, a, c)] } where
  lo := ok.lo
  hi := ok.hi
  b0 := by have := ok.b0; show 0 ≤ b + 1; omega
  b1 := by show b + 1 ≤ 100000; omega
  keys := pw_snoc ok.keys fun p hp => by have := (ok.rng p hp).2.1; omega
  rng := fun p hp => by
    rcases List.mem_append.mp hp with hp | hp
    · obtain ⟨q1, q2, q3⟩ := ok.rng p hp
      exact ⟨q1, by show p.1 < b + 1; omega, q3⟩
    · rw [List.mem_singleton.mp hp]
      have := ok.b0
      exact ⟨by show 0 ≤ b; omega, by show b < b + 1; omega, a1, a2, c1, c2, hne⟩
  few := by
    show (st.held ++ [(b, a, c)]).length ≤ 60
    rw [List.length_append]; simp; omega
theorem filt_new {h : List (Int × Int × Int)} {b : Int} {x : Int × Int} (l : ∀ p ∈ h, p.1 < b) : (h ++ [(b, x)]).filter (fun p => decide (p.1 ≠ b)) = h := by
  rw [List.filter_append, List.filter_eq_self.mpr fun p hp => by have := l p hp; simp; omega]
  simp
theorem made_nil {n : Int} (h1 : 1 ≤ n) (h2 : n ≤ 16) : MadeI n [] ⟨n, 0, []⟩ :=
  ⟨⟨h1, h2, Int.le_refl _, (by show (0 : Int) ≤ 100000; decide), List.Pairwise.nil, fun p hp => (List.not_mem_nil hp).elim, Nat.zero_le _⟩, rfl, Int.le_refl _, rfl⟩
theorem made_step {n sd : Int} {pre : List ((Int × Int) × Nat)} {st : TSt} {a c : Int} {k : Nat} (I : MadeI n pre st) (hl : pre.length < 60) (a1 : 0 ≤ a) (a2 : a < n) (c1 : 0 ≤ c) (c2 : c < n) (hne : a ≠ c) : MadeI n (pre ++ [((a, c), k)]) (madeStep sd st ((a, c), k)) := by
  have hm := I.many
  have hlen : st.held.length = pre.length := by
    have := congrArg List.length I.held
    rw [List.length_map, List.length_map] at this
    exact this
  have hb : madeN sd st.built k = st.built ∨ madeN sd st.built k = st.built + 1 := by
    unfold madeN
    split
    · exact .inr rfl
    · exact .inl rfl
  have bt := I.bt
  refine ⟨tok_build (st := st) (b := madeN sd st.built k) (a := a) (c := c) I.ok (by omega) (by omega) a1 (by omega) c1 (by omega) hne (by omega), hm, ?_, ?_⟩
  · show madeN sd st.built k + 1 ≤ 2 * ((pre ++ [((a, c), k)]).length : Int)
    rw [List.length_append]
    simp
    omega
  · show (st.held ++ [(madeN sd st.built k, a, c)]).map (·.2) = (pre ++ [((a, c), k)]).map (·.1)
    rw [List.map_append, List.map_append, I.held]
    rfl
/-- rows.append((town.build(one, other), one, other)) -/
theorem made_tail {K : PySem.W.Frag} {B F0 : Hp} {ρ : List Sl} {C CP CM : Addr} {D : Ends} {st : TSt} {x0 x1 x2 x3 : Sl} {a b : Int} (hρ : ρ = [x0, x1, x2, mt K C st, ml K B (st.held.map rowD), x3, sn K B (.int a), sn K B (.int b)]) (ok : TOk st)
    (a1 : 0 ≤ a) (a2 : a < st.many) (b1 : 0 ≤ b) (b2 : b < st.many) (hne : a ≠ b) (few : st.held.length < 60)
    (k : At B F0 D.nx [x0, x1, x2, mt K C { many := st.many, built := st.built + 1, held := st.held ++ [(st.built, a, b)] }, ml K B ((st.held ++ [(st.built, a, b)]).map rowD), x3, sn K B (.int a), sn K B (.int b)]) :
    At B F0 (tDrop (tBM K "list" rAppend (tVar 4) (tCons (tTup (tCons (tMeth C "build" (spBuild K C CP CM) [] E0 (tVar 3) (tCons (tVar 6) (tCons (tVar 7) tNil))) (tCons (tVar 6) (tCons (tVar 7) tNil)))) tNil)) D) ρ := by
  subst hρ
  refine at_drop (evx_appendX (evx_tup1 (evx_build (i := 3) (a := a) (b := b) rfl (evh_var rfl rd_sn) (evh_var rfl rd_sn) ok a1 a2 b1 b2 hne few) (eas_cons (ev_var rfl) (eas_cons (ev_var rfl) eas_nil)) (by simp)) rfl rfl (by rw [List.length_map]; omega)) ?_
  rw [List.map_append] at k
  exact k
def spMade (K : PySem.W.Frag) (C : Addr) : Sp := fun vs H Q _ => ∃ (n sd : Int) (pairs : List (Int × Int)), AOk [dat K (.int n), dat K (.list (pairs.map pairD)), dat K (.int sd)] H vs ∧ 1 ≤ n ∧ n ≤ 16 ∧ pairsOk n pairs ∧
  ∀ (p t d dx l : Addr) (kv : List (Key × V)) (xs : List V) (H' : Hp), Same H H' → H t = none → H d = none → H l = none → H' p = some (.tup [.ref t, .ref l]) → H' t = some (.ins C dx (tf n (madeF n pairs sd).built d)) → H' d = some (.dK kv) → KvAll K e0 H' kv (heldD (madeF n pairs sd).held) →
    H' l = some (.lst xs) → NwAll K H H' xs ((madeF n pairs sd).held.map rowD) → Q (.ref p) H'
theorem made_held {n sd : Int} {pairs : List (Int × Int)} (h1 : 1 ≤ n) (h2 : n ≤ 16) (h : pairsOk n pairs) : MadeI n pairs.zipIdx (madeF n pairs sd) := by
  have key : ∀ (post pre : List ((Int × Int) × Nat)) (st : TSt), pre ++ post = pairs.zipIdx → MadeI n pre st → MadeI n pairs.zipIdx (post.foldl (madeStep sd) st) := by
    intro post
    induction post with
    | nil =>
      intro pre st e I
      rw [List.append_nil] at e
      rw [← e]; exact I
    | cons x r ih =>
      intro pre st e I
      obtain ⟨⟨a, c⟩, k⟩ := x
      obtain ⟨k1, k2, k3⟩ := zip_at e.symm
      obtain ⟨q1, q2, q3, q4, q5⟩ := h.2 (a, c) (List.mem_of_getElem? k3)
      have := h.1
      exact ih (pre ++ [((a, c), k)]) _ (by rw [← e]; simp) (made_step I (by omega) q1 q2 q3 q4 q5)
  exact key pairs.zipIdx [] ⟨n, 0, []⟩ rfl (made_nil h1 h2)
section
variable {P : Program} {w : World} {K : PySem.W.Frag} {mg : Str → Option Value} {base : Heap} {C CP CM CB CS : Addr}
theorem ok_made (Z : Zs mg) (G_w_mixed : Ok P w K mg base CX0 1 "_law_mixed" ["_law_cell", "_law_k"] (spMixed K)) (MK_Town : OkMk P w K mg base (L2.CX P w) 2 "Town" C ["self", "many"] (spInit K C CB)) (M_build : OkM P w K mg base (L2.CX P w) 3 C "build" ["self", "one", "other"] (spBuild K C CP CM))
    (M_dig : OkM P w K mg base (L2.CX P w) 2 C "dig" ["self", "street"] (spDig K C CS)) (D : Dfn K mg "_law_made" "_law_made" s_w_made ["_law_many_here", "_law_pairs_here", "_law_seed_here"]) : Ok P w K mg base CX0 4 "_law_made" ["_law_many_here", "_law_pairs_here", "_law_seed_here"] (spMade K C) := by
  obtain ⟨f, fd, F, hg, hb⟩ := D.ex
  refine ⟨f, fd, F.ok sc_w_made (fun vs H Q E h => ?_) (fun cdv A outer s H vs Q E hr h => ?_), hg, F.kp, hb⟩
  · obtain ⟨n, sd, pairs, h, _⟩ := h
    rw [aok_len h]; rfl
  obtain ⟨n, sd, pairs, h, n1, n2, pk, q⟩ := h
  refine ⟨_, (pss_cons (ps_set (i := 3) sc_w_made.nd rfl (Or.inl rfl) (ok_make MK_Town (by exact hr.mono (by decide)) rfl (pa_cons (pv 0) pa_nil)))
    (pss_cons (ps_set (i := 4) sc_w_made.nd rfl (Or.inl rfl) (pe_lst pa_nil))
    (pss_cons (ps_for PassesOwn.never rfl (pi_enum rfl Z.enumerate (pa_cons (pv 1) pa_nil)) (kpg_tup K 2 rfl (pgs_cons (pg_name (i := 5) sc_w_made.nd rfl (Or.inl rfl)) (pgs_cons (kpg_tup K 2 rfl (pgs_cons (pg_name (i := 6) sc_w_made.nd rfl (Or.inl rfl)) (pgs_cons (pg_name (i := 7) sc_w_made.nd rfl (Or.inl rfl)) pgs_nil))) pgs_nil)))
      (pss_cons (ps_if (pt_cmpR op_eq (pe_op op_mod (ok_call G_w_mixed (by exact hr.mono (by decide)) rfl (pa_cons (pv 2) (pa_cons (pe_op op_add pe_int (pe_op op_mod (pv 5) pe_int)) pa_nil))) pe_int) pe_int (nomark _)) (pss_one (ps_expr (ok_methX M_dig (by exact hr.mono (by decide)) (pv 3) (pa_cons (ok_methX M_build (by exact hr.mono (by decide)) (pv 3) (pa_cons (pv 7) (pa_cons (pv 6) pa_nil))) pa_nil)))) pss_nil)
    (pss_one (ps_expr (pe_bm PySem.F.plainAttrs_list PySem.F.slot_list_append PySem.F.type_list_append mt_append (pv 4) (pa_cons (pe_tup (pa_cons (ok_methX M_build (by exact hr.mono (by decide)) (pv 3) (pa_cons (pv 6) (pa_cons (pv 7) pa_nil))) (pa_cons (pv 6) (pa_cons (pv 7) pa_nil)))) pa_nil))))))
    (pss_one (ps_ret (pe_tup (pa_cons (pv 3) (pa_cons (pv 4) pa_nil)))))))), ?_⟩
  refine at_enter h (stabC st_dat (stabC st_dat (stab1 st_dat))) (by simp) ?_
  walk_at "go"
  refine' q_make (n := n) ?a1 n1 n2 (q_setM K (ds := []) ?a2 (q_for (xs := pairs.zipIdx) (e := fun p => .tuple [.int (p.2 : Int), pairD p.1]) (EvJ.i (evj_enumXF (K := K) ?a3 fun _ => rfl))
    (fun pre ρ' => ∃ s1 s2 s3, MadeI n pre (pre.foldl (madeStep sd) ⟨n, 0, []⟩) ∧ ρ' = [sa K (.int n), sa K (.list (pairs.map pairD)), sa K (.int sd), mt K C (pre.foldl (madeStep sd) ⟨n, 0, []⟩), ml K H ((pre.foldl (madeStep sd) ⟨n, 0, []⟩).held.map rowD), s1, s2, s3]) ?a4 ?a5 ?a6))
  case a1 => walk_at "ev"
  case a2 => exact evm_lst eas_nil (by simp)
  case a3 => walk_at "ev"
  case a4 => exact ⟨_, _, _, made_nil n1 n2, rfl⟩
  case a5 =>
    rintro F1 pre ⟨⟨a, c⟩, k⟩ post ρ' hx ⟨s1, s2, s3, I, rfl⟩
    obtain ⟨k1, k2, k3⟩ := zip_at hx
    obtain ⟨q1, q2, q3, q4, q5⟩ := pk.2 (a, c) (List.mem_of_getElem? k3)
    have hl := pk.1
    dsimp only at q1 q2 q3 q4 q5
    generalize hst : pre.foldl (madeStep sd) ⟨n, 0, []⟩ = st at I
    have I2 := made_step (sd := sd) (k := k) I (by omega) q1 q2 q3 q4 q5
    have many := I.many
    have hlen : st.held.length = pre.length := by
      have := congrArg List.length I.held
      rw [List.length_map, List.length_map] at this
      exact this
    have bt := I.bt
    have b0 := I.ok.b0
    refine' ⟨_, _, (by walk_at "bd"), ?_⟩
    have e1 : (pre ++ [((a, c), k)]).foldl (madeStep sd) ⟨n, 0, []⟩ = madeStep sd st ((a, c), k) := by rw [List.foldl_append, hst]; rfl
    refine' q_when (c := decide (mixedF sd (61 + (k : Int) % 30) % 4 = 1)) ?b1 (fun c1 => ?b2) (fun c1 => ?b3)
    case b1 => walk_at "ev" <;> walk_at "num"
    case b2 =>
      have c2 : mixedF sd (61 + (k : Int) % 30) % 4 = 1 := by simpa using c1
      have eb : madeN sd st.built k = st.built + 1 := by unfold madeN; rw [if_pos c2]
      refine' at_drop (evx_dig (st1 := { many := st.many, built := st.built + 1, held := st.held ++ [(st.built, c, a)] }) (s := st.built) (evx_build (i := 3) (a := c) (b := a) rfl ?g1 ?g2 I.ok q3 (by omega) q1 (by omega) (fun z => q5 z.symm) (by omega)) (i := 3) rfl (tok_build I.ok (Int.le_refl _) (by omega) q3 (by omega) q1 (by omega) (fun z => q5 z.symm) (by omega)) (by simp) (ho_mt (i := 3) (st := st) rfl)) (at_go ?g3)
      case g1 => walk_at "ev"
      case g2 => walk_at "ev"
      case g3 =>
        have ef : (st.held ++ [(st.built, c, a)]).filter (fun p => decide (p.1 ≠ st.built)) = st.held := filt_new fun p hp => (I.ok.rng p hp).2.1
        dsimp only
        rw [ef]
        refine made_tail (st := { many := st.many, built := st.built + 1, held := st.held }) (x3 := sn K H (.int (k : Int))) (a := a) (b := c) rfl ⟨I.ok.lo, I.ok.hi, by show 0 ≤ st.built + 1; omega, by show st.built + 1 ≤ 100000; omega, I.ok.keys, fun p hp => by have := I.ok.rng p hp; exact ⟨this.1, by show p.1 < st.built + 1; omega, this.2.2⟩, I.ok.few⟩ q1 (by show a < st.many; omega) q3 (by show c < st.many; omega) q5 (by show st.held.length < 60; omega) (at_lpD ?_)
        refine ⟨sn K H (.int (k : Int)), sn K H (.int a), sn K H (.int c), ?_, ?_⟩
        · rw [e1]; exact I2
        · rw [e1]
          unfold madeStep
          dsimp only
          rw [eb]
    case b3 =>
      have c2 : ¬ mixedF sd (61 + (k : Int) % 30) % 4 = 1 := by simpa using c1
      have eb : madeN sd st.built k = st.built := by unfold madeN; rw [if_neg c2]
      refine made_tail (st := st) (x3 := sn K H (.int (k : Int))) (a := a) (b := c) rfl I.ok q1 (by omega) q3 (by omega) q5 (by omega) (at_lpD ?_)
      refine ⟨sn K H (.int (k : Int)), sn K H (.int a), sn K H (.int c), ?_, ?_⟩
      · rw [e1]; exact I2
      · rw [e1]
        unfold madeStep
        dsimp only
        rw [eb]
  case a6 =>
    rintro ρ' ⟨s1, s2, s3, I, rfl⟩
    refine fun F1 H1 σ c => ?_
    obtain ⟨t, d, dx, kv, es, ft, fd, h4, h5, h6⟩ := mt_open (i := 3) rfl F1 H1 σ c
    obtain ⟨w, o⟩ := c.own
    obtain ⟨_, v, e1, l, xs, rfl, ea, e4, e5⟩ := o.sl 4 _ rfl
    have wt : t ∈ w 3 := by
      obtain ⟨_, v, z1, t', dx', d', kv', rfl, z2, _⟩ := o.sl 3 _ rfl
      rw [es] at z1
      cases z1
      rw [z2]; simp
    have hl := o.at_ 4 l (by rw [ea]; simp)
    refine ⟨_, es, _, e1, (by show 2 ≤ sizeLine; decide), fun p hp => ?_⟩
    have nt : t ≠ p := fun z => by rw [z, hp] at h4; cases h4
    have nd : d ≠ p := fun z => by rw [z, hp] at h5; cases h5
    have nl : l ≠ p := fun z => by rw [z, hp] at e4; cases e4
    have s : Same H1 (upd H1 p (.tup [.ref t, .ref l])) := fun a u e => by rw [upd_ne (ne_of_none e hp)]; exact e
    have many : (madeF n pairs sd).many = n := I.many
    refine q p t d dx l kv xs _ (c.gr.h.trans s) ?_ ?_ hl.2.1 upd_same ?_ (s _ _ h5) (kvAll_mono (c.i.trans s) h6) (s _ _ e4) (nwAll_mono (Same.refl _) (c.i.trans s) e5)
    · exact (o.at_ 3 t wt).2.1
    · obtain ⟨_, v, z1, t', dx', d', kv', rfl, z2, z3, _⟩ := o.sl 3 _ rfl
      rw [es] at z1
      cases z1
      rw [h4] at z3
      have ed : d = d' := by
        have := congrArg (fun o => match o with | some (HO.ins _ _ fs) => fs.lookup ("held" : Str) | _ => none) z3
        simp only [tf_held] at this
        cases this
        rfl
      subst ed
      exact (o.at_ 3 d (by rw [z2]; simp)).2.1
    · have h4 : H1 t = some (.ins C dx (tf (madeF n pairs sd).many (madeF n pairs sd).built d)) := h4
      rw [many] at h4
      exact s _ _ h4
end

theorem kv_fix {K : PySem.W.Frag} {F H2 : Hp} {hl : List (Int × PyData)} {kv : List (Key × V)} (a : KvAll K e0 H2 kv hl) : (∀ p ∈ hl, flatD p.2 = true) → ∀ F1, Gr F H2 F1 H2 → ∃ F2, Gr F H2 F2 H2 ∧ Same F1 F2 ∧ KvAll K e0 F2 kv hl := by
  induction a with
  | nil => exact fun _ F1 g => ⟨F1, g, Same.refl _, .nil⟩
  | @cons k v dd kv kvs hn _ ih =>
    intro fl F1 g
    obtain ⟨F2, g2, s2, n2⟩ := dp_prom (B := e0) (nw_dp hn) (fl (k, dd) (List.mem_cons.mpr (.inl rfl))) F1 g
    obtain ⟨F3, g3, s3, n3⟩ := ih (fun p hp => fl p (List.mem_cons.mpr (.inr hp))) F2 g2
    exact ⟨F3, g3, s2.trans s3, .cons (nw_mono (Same.refl _) s3 n2) n3⟩
theorem q_made {K : PySem.W.Frag} {B F0 : Hp} {ρ : List Sl} {tr : TA} {D : Ends} {u : TS} {C : Addr} {i j : Nat} {n sd : Int} {pairs : List (Int × Int)} (hij : i ≠ j) (h : EvA B F0 ρ tr [dat K (.int n), dat K (.list (pairs.map pairD)), dat K (.int sd)]) (h1 : 1 ≤ n) (h2 : n ≤ 16) (pk : pairsOk n pairs)
    (k : At B F0 (u D) ((ρ.set i (mt K C (madeF n pairs sd))).set j (ml K B ((madeF n pairs sd).held.map rowD)))) :
    At B F0 (tSeq (tAsg (tCall (spMade K C) [] E0 tr) (gTup K 2 (gCons (gName i) (gCons (gName j) gNil)))) u D) ρ := fun F H σ c =>
  h F H σ c _ fun vs F1 H1 g1 p1 => ⟨n, sd, pairs, by rw [List.append_nil]; exact p1, h1, h2, pk, fun p t d dx l kv xs H2 s nt nd nl ep et ed ek el ex => by
    refine ⟨p, [.ref t, .ref l], rfl, .inl (.inl ep), rfl, _, _, rfl, _, _, rfl, rfl, ?_⟩
    have many : (madeF n pairs sd).many = n := (made_held (sd := sd) h1 h2 pk).many
    have c1 := c.go g1
    have g2 : Gr F1 H1 F1 H2 := gr_call c1.i s
    obtain ⟨F3, g3, s3, n3⟩ := kv_fix ek (fun q hq => by
      obtain ⟨r, _, rfl⟩ := List.mem_map.mp hq
      rfl) F1 (Gr.refl g2.i)
    obtain ⟨F4, g4, s4, n4⟩ := dpAll_prom (B := B) (nwAll_dp ex) (flatDs_map (fun _ => rfl) _) F3 g3
    have ft := g4.n t _ et rfl (c1.i.free nt)
    have fd := g4.n d _ ed rfl (c1.i.free nd)
    have fl := g4.n l _ el rfl (c1.i.free nl)
    refine k F4 H2 _ (c1.setN2 (i := i) (j := j) (as := [t, d]) (as' := [l]) hij st_mt st_ml (g2.trans g4) ⟨t, dx, d, kv, rfl, rfl, by rw [many]; exact et, ed, kvAll_mono s4 n3⟩ ⟨l, xs, rfl, rfl, el, n4⟩ (fun a ha => ?_) (fun a ha => ?_) (fun a ha hb => ?_))
    · rcases List.mem_cons.mp ha with rfl | ha
      · exact ⟨ft, nt, _, et, rfl⟩
      · rw [List.mem_singleton.mp ha]
        exact ⟨fd, nd, _, ed, rfl⟩
    · rw [List.mem_singleton.mp ha]
      exact ⟨fl, nl, _, el, rfl⟩
    · rw [List.mem_singleton.mp hb] at ha
      rcases List.mem_cons.mp ha with rfl | ha
      · rw [et] at el; cases el
      · rw [List.mem_singleton.mp ha] at el
        rw [ed] at el; cases el⟩
theorem made_pre {sd : Int} : ∀ (l : List ((Int × Int) × Nat)) (st : TSt) (s : Int × Int × Int) (r : List (Int × Int × Int)), st.held = s :: r → ∃ r', (l.foldl (madeStep sd) st).held = s :: r'
  | [], st, s, r, e => ⟨r, e⟩
  | x :: l, st, s, r, e => made_pre l (madeStep sd st x) s (r ++ [(madeN sd st.built x.2, x.1.1, x.1.2)]) (by show st.held ++ _ = _; rw [e]; rfl)
/-- the first street's number -/
theorem made_head {n sd : Int} {pairs : List (Int × Int)} {s : Int × Int × Int} {r : List (Int × Int × Int)} (h : (madeF n pairs sd).held = s :: r) : s.1 = 0 ∨ s.1 = 1 := by
  cases pairs with
  | nil => cases h
  | cons p ps =>
    unfold madeF at h
    rw [List.zipIdx_cons, List.foldl_cons] at h
    obtain ⟨r', e⟩ := made_pre (sd := sd) (ps.zipIdx (0 + 1)) (madeStep sd ⟨n, 0, []⟩ (p, 0)) (madeN sd 0 0, p.1, p.2) [] rfl
    rw [e] at h
    cases h
    show madeN sd 0 0 = 0 ∨ madeN sd 0 0 = 1
    unfold madeN
    split
    · exact .inr rfl
    · exact .inl rfl
theorem made_num {n sd : Int} {pairs : List (Int × Int)} (h1 : 1 ≤ n) (h2 : n ≤ 16) (h : pairsOk n pairs) : ∀ p ∈ (madeF n pairs sd).held, 0 ≤ p.1 ∧ p.1 < 120 ∧ 0 ≤ p.2.1 ∧ p.2.1 < n ∧ 0 ≤ p.2.2 ∧ p.2.2 < n ∧ p.2.1 ≠ p.2.2 := fun p hp => by
  have I := made_held (sd := sd) h1 h2 h
  obtain ⟨q1, q2, q3⟩ := I.ok.rng p hp
  have b := I.bt
  have l := h.1
  rw [List.length_zipIdx] at b
  have m := I.many
  unfold madeF at hp q2 q3 m b
  rw [m] at q3
  exact ⟨q1, by omega, q3⟩

theorem off_ok {n one o : Int} (h0 : 0 ≤ one) (h1 : one < n) (o1 : 1 ≤ o) (o2 : o ≤ n - 1) : 0 ≤ (one + o) % n ∧ (one + o) % n < n ∧ one ≠ (one + o) % n := by
  have a := Int.emod_nonneg (one + o) (show n ≠ 0 by omega)
  have b := Int.emod_lt_of_pos (one + o) (show 0 < n by omega)
  refine ⟨a, b, ?_⟩
  by_cases h : one + o < n
  · rw [Int.emod_eq_of_lt (by omega) h]; omega
  · have e : one + o = (one + o - n) + n := by omega
    rw [e, Int.add_emod_right, Int.emod_eq_of_lt (by omega) (by omega)]
    omega
theorem ends_ok {n way k m : Int} (h1 : 2 ≤ n) (hk : 0 ≤ k) : 0 ≤ (endsF n way k m).1 ∧ (endsF n way k m).1 < n ∧ 0 ≤ (endsF n way k m).2 ∧ (endsF n way k m).2 < n ∧ (endsF n way k m).1 ≠ (endsF n way k m).2 := by
  have a := Int.emod_nonneg m (show n ≠ 0 by omega)
  have b := Int.emod_lt_of_pos m (show 0 < n by omega)
  have c := Int.emod_nonneg (m / 20) (show n - 1 ≠ 0 by omega)
  have d := Int.emod_lt_of_pos (m / 20) (show 0 < n - 1 by omega)
  have plain : 0 ≤ (m % n + 1 + m / 20 % (n - 1)) % n ∧ (m % n + 1 + m / 20 % (n - 1)) % n < n ∧ m % n ≠ (m % n + 1 + m / 20 % (n - 1)) % n := by
    rw [Int.add_assoc]
    exact off_ok a b (by omega) (by omega)
  unfold endsF
  split
  next h =>
    have e := Int.emod_nonneg m (show k + 1 ≠ 0 by omega)
    have f := Int.emod_lt_of_pos m (show 0 < k + 1 by omega)
    dsimp only
    omega
  next =>
    split
    next =>
      split
      next => exact ⟨a, b, plain⟩
      next he =>
        dsimp only
        have hl : 0 < (sameF n (m % n)).length := by
          cases hs : sameF n (m % n) with
          | nil => rw [hs] at he; simp at he
          | cons x r => simp
        have i0 := Int.emod_nonneg (m / 20) (show ((sameF n (m % n)).length : Int) ≠ 0 by omega)
        have i1 := Int.emod_lt_of_pos (m / 20) (show (0 : Int) < ((sameF n (m % n)).length : Int) by omega)
        have il : (m / 20 % ((sameF n (m % n)).length : Int)).toNat < (sameF n (m % n)).length := by omega
        have e : (sameF n (m % n)).getD (m / 20 % ((sameF n (m % n)).length : Int)).toNat 0 = (sameF n (m % n))[(m / 20 % ((sameF n (m % n)).length : Int)).toNat] := by
          rw [List.getD_eq_getElem?_getD, List.getElem?_eq_getElem il]; rfl
        rw [e]
        have hm := List.getElem_mem il
        generalize (sameF n (m % n))[(m / 20 % ((sameF n (m % n)).length : Int)).toNat] = x at hm
        unfold sameF at hm
        rw [List.mem_filter, mem_rangeI] at hm
        obtain ⟨⟨x0, x1⟩, hx⟩ := hm
        have hx2 : x ≠ m % n := by
          have := (Bool.and_eq_true_iff.mp hx).2
          simpa using this
        exact ⟨a, b, x0, x1, fun z => hx2 z.symm⟩
    next =>
      split
      next =>
        dsimp only
        have t0 := Int.emod_nonneg (m / 20) (show (2 : Int) ≠ 0 by decide)
        have t1 := Int.emod_lt_of_pos (m / 20) (show (0 : Int) < 2 by decide)
        have o : m / 20 % 2 = 0 ∨ m / 20 % 2 = 1 := by omega
        refine ⟨a, b, ?_⟩
        rcases o with o | o
        · rw [o, Int.zero_mul, Int.add_zero]; exact off_ok a b (by omega) (by omega)
        · rw [o, Int.one_mul, Int.add_assoc]; exact off_ok a b (by omega) (by omega)
      next => exact ⟨a, b, plain⟩
theorem pairs_ok {script : List Int} {sd n : Int} {most : Int} (h1 : 1 ≤ n) (h3 : 0 ≤ most) (h4 : most ≤ 60) : pairsOk n (pairsF script sd n most) := by
  unfold pairsF
  split
  · exact ⟨Nat.zero_le _, fun p hp => (List.not_mem_nil hp).elim⟩
  · refine ⟨?_, fun p hp => ?_⟩
    · rw [List.length_map, List.length_zipIdx, List.length_take]; omega
    · obtain ⟨⟨c, k⟩, _, rfl⟩ := List.mem_map.mp hp
      exact ends_ok (by omega) (by dsimp only; omega)

/-! towns and tables at once -/
def ltO : HO → Bool
  | .lst _ => true
  | .tup _ => true
  | .frz _ _ => true
  | _ => false
section
variable {K : PySem.W.Frag} {C t d dx : Addr} {st : TSt} {kv : List (Key × V)} {H : Hp}
/-- without the town, as far as lists and tuples go -/
theorem seq_hid2 (ht : H t = some (.ins C dx (tf st.many st.built d))) (hd : H d = some (.dK kv)) {a : Addr} {o : HO} (e : H a = some o) (k : ltO o = true) : hid t d H a = some o :=
  hid_at e (fun z => by rw [z, ht] at e; cases e; cases k) (fun z => by rw [z, hd] at e; cases e; cases k)
/-- an argument's predicates without the town -/
def HidP (f : Pd) : Prop := ∀ (H G : Hp) v, (∀ a o, H a = some o → ltO o = true → G a = some o) → f H v → f G v
end
section
variable {K : PySem.W.Frag} {C t d dx : Addr} {st : TSt} {kv : List (Key × V)} {H : Hp}
mutual
theorem nw_pres2 {B G : Hp} (p : ∀ a o, H a = some o → ltO o = true → G a = some o) : ∀ {v : V} {d : PyData}, Nw K B H v d → Nw K B G v d
  | _, _, .non => .non
  | _, _, .bl b => .bl b
  | _, _, .int i => .int i
  | _, _, .str x => .str x
  | _, _, .lst n h a => .lst n (p _ _ h rfl) (nwAll_pres2 p a)
  | _, _, .tup h a => .tup (by
      rcases h with (h | ⟨o, h⟩) | h
      · exact .inl (.inl (p _ _ h rfl))
      · exact .inl (.inr ⟨o, p _ _ h rfl⟩)
      · exact .inr h) (nwAll_pres2 p a)
theorem nwAll_pres2 {B G : Hp} (p : ∀ a o, H a = some o → ltO o = true → G a = some o) : ∀ {xs : List V} {ds : List PyData}, NwAll K B H xs ds → NwAll K B G xs ds
  | _, _, .nil => .nil
  | _, _, .cons h a => .cons (nw_pres2 p h) (nwAll_pres2 p a)
end
theorem hp_nwd {B : Hp} {e : PyData} : HidP (nwd K B e) := fun H G v p h => nw_pres2 p h
theorem hp_int {n : Int} : HidP (dat K (.int n)) := fun H G v p h => by cases h; exact .int _
theorem aok_hid : ∀ {fs : List Pd} {H G : Hp} {vs : List V}, (∀ f ∈ fs, HidP f) → (∀ a o, H a = some o → ltO o = true → G a = some o) → AOk fs H vs → AOk fs G vs
  | [], _, _, _, _, _, h => h
  | f :: fs, H, G, vs, st, s, ⟨v, ws, e, p, h⟩ => ⟨v, ws, e, st f (List.mem_cons_self ..) _ _ _ s p, aok_hid (fun g hg => st g (List.mem_cons_of_mem _ hg)) s h⟩
theorem hpC {f : Pd} {fs : List Pd} (h : HidP f) (hs : ∀ g ∈ fs, HidP g) : ∀ g ∈ f :: fs, HidP g := fun g hg => by
  rcases List.mem_cons.mp hg with rfl | hg
  · exact h
  · exact hs g hg
theorem hp0 : ∀ g ∈ ([] : List Pd), HidP g := fun g hg => (List.not_mem_nil hg).elim
/-- the part that stands still at such a def's entry -/
abbrev hidT (t d : Addr) (H : Hp) : Hp := noT (hid t d H)
theorem hidT_hid (ht : H t = some (.ins C dx (tf st.many st.built d))) (hd : H d = some (.dK kv)) : ∀ a o, H a = some o → ltO o = true → hidT t d H a = some o := fun a o e k =>
  noT_at (seq_hid2 ht hd e k) (by cases o <;> first | rfl | cases k)
theorem hidT_same {t d : Addr} {H : Hp} : Same (hidT t d H) H := (noT_same _).trans hid_same
theorem hidT_noTbl {t d : Addr} {H : Hp} : noTbl (hidT t d H) := fun a o e => noT_tbl e
theorem cfg_townT {T : List (Addr × Str)} {N : List Str} {f : Pd} {fs : List Pd} {vs : List V} (ht : H t = some (.ins C dx (tf st.many st.built d))) (hd : H d = some (.dK kv)) (hk : KvAll K e0 H kv (heldD st.held)) (hT : LamX.Tabs T H)
    (ha : AOk (f :: fs) (hidT t d H) vs) (sb : ∀ g ∈ f :: fs, Stab g) (hl : fs.length + 2 ≤ N.length) :
    Cfg (hidT t d H) (hidT t d H) (hidT t d H) H (L2.start N (.ref t :: vs)) (.mo (mtQ K C st t d) :: .mo (tabP T f) :: (fs.map Sl.fz ++ List.replicate (N.length - (fs.length + 2)) Sl.no)) := by
  have el := aok_len ha
  rw [List.length_cons] at el
  have nt : hidT t d H t = none := by unfold hidT noT hid; simp
  have nd : hidT t d H d = none := by unfold hidT noT hid; simp
  have tT : ∀ p ∈ T, p.1 ≠ t ∧ p.1 ≠ d ∧ hidT t d H p.1 = none := fun p hp => by
    obtain ⟨ps, e1, _⟩ := hT p hp
    refine ⟨fun z => (by rw [z, ht] at e1; cases e1), fun z => (by rw [z, hd] at e1; cases e1), ?_⟩
    unfold hidT noT
    cases q : hid t d H p.1 with
    | none => rfl
    | some o =>
      have := hid_same _ _ q
      rw [e1] at this
      cases this
      rfl
  refine ⟨⟨Same.refl _, hidT_same, hidT_same, fun a o h t z => z, fun _ _ e _ => e⟩, by simp [L2.start, el]; omega, fun j => if j = 0 then [t, d] else if j = 1 then T.map (·.1) else [], fun i j a h1 h2 => ?_, fun i a h1 => ?_, fun i s hs => ?_⟩
  · (try dsimp only at h1 h2)
    have q : ∀ b, b ∈ [t, d] → b ∉ T.map (·.1) := fun b hb hz => by
      obtain ⟨p, hp, rfl⟩ := List.mem_map.mp hz
      obtain ⟨q1, q2, _⟩ := tT p hp
      rcases List.mem_cons.mp hb with e | e
      · exact q1 e
      · exact q2 (List.mem_singleton.mp e)
    split at h1 <;> split at h2
    · omega
    · split at h2
      · exact absurd h2 (q a h1)
      · cases h2
    · split at h1
      · exact absurd h1 (q a h2)
      · cases h1
    · split at h1 <;> split at h2 <;> first | omega | exact (List.not_mem_nil h1).elim | exact (List.not_mem_nil h2).elim
  · (try dsimp only at h1)
    split at h1
    · rcases List.mem_cons.mp h1 with rfl | h1
      · exact ⟨nt, nt, _, ht, rfl⟩
      · rw [List.mem_singleton.mp h1]
        exact ⟨nd, nd, _, hd, rfl⟩
    · split at h1
      · obtain ⟨p, hp, rfl⟩ := List.mem_map.mp h1
        obtain ⟨_, _, q⟩ := tT p hp
        obtain ⟨ps, e1, _⟩ := hT p hp
        exact ⟨q, q, _, e1, rfl⟩
      · cases h1
  · have sv : ∀ (j : Nat) (v : V), vs[j]? = some v → (L2.start N (.ref t :: vs))[j + 1]? = some (some v) := fun j v e => by
      unfold L2.start
      have hj : j < vs.length := (List.getElem?_eq_some_iff.mp e).1
      rw [List.getElem?_append_left (by simpa using hj), List.map_cons, List.getElem?_cons_succ, List.getElem?_map, e]
      rfl
    match i, hs with
    | 0, hs =>
      cases hs
      exact ⟨st_mtQ, .ref t, rfl, rfl, rfl, dx, kv, ht, hd, kv_pairs (fun a xs h => by
        rcases h with (h | ⟨o, h⟩) | h
        · exact .inl (.inl (hidT_hid ht hd _ _ h rfl))
        · exact .inl (.inr ⟨o, hidT_hid ht hd _ _ h rfl⟩)
        · exact .inr h) hk⟩
    | 1, hs =>
      cases hs
      obtain ⟨v, r, e, p, _⟩ := ha
      refine ⟨st_tab (sb f (List.mem_cons_self ..)), v, sv 0 v (by rw [e]; rfl), p, by simp, fun q hq => ?_⟩
      obtain ⟨ps, h1, h2, h3⟩ := hT q hq
      refine ⟨ps, h1, h2, fun pos cv hc => ?_⟩
      obtain ⟨c, e1, e2⟩ := h3 pos cv hc
      refine ⟨c, e1, noT_at (hid_at e2 (fun z => ?_) (fun z => ?_)) rfl⟩
      · rw [z, ht] at e2
        unfold LamX.CodeO at e2
        cases e2
      · rw [z, hd] at e2
        unfold LamX.CodeO at e2
        cases e2
    | i + 2, hs =>
      rw [List.getElem?_cons_succ, List.getElem?_cons_succ] at hs
      by_cases hi : i < fs.length
      · rw [List.getElem?_append_left (by simpa using hi), List.getElem?_map, List.getElem?_eq_getElem hi] at hs
        cases hs
        obtain ⟨v, e1, e2⟩ := aok_get ha (i := i + 1) (f := fs[i]) (by rw [List.getElem?_cons_succ, List.getElem?_eq_getElem hi])
        exact ⟨sb _ (List.mem_cons_of_mem _ (List.getElem_mem hi)), v, sv _ v e1, e2⟩
      · rw [List.getElem?_append_right (by simpa using Nat.le_of_not_lt hi), List.getElem?_replicate] at hs
        split at hs
        · cases hs; trivial
        · cases hs
end
section
variable {K : PySem.W.Frag} {B F0 : Hp} {ρ ρ1 ρ2 : List Sl} {te ta tb tc : TE} {f g : Pd} {d e : PyData} {D : Ends} {u : TS}
/-- a walk, told that no table stands still -/
theorem at_forT {α : Type} {xs : List α} {e : α → PyData} {q : PyData → Pd} {wi : TI} {g : TG} {tb : TS} (nF0 : noTbl F0) (hw : EvI B F0 ρ wi ρ1 q (xs.map e)) (Inv : List α → List Sl → Prop) (h0 : Inv [] ρ1)
    (hs : ∀ F1 pre x post ρ', noTbl F1 → xs = pre ++ x :: post → Inv pre ρ' → ∃ is ρ2, Bind B F1 g is (q (e x)) ρ' ρ2 ∧ At B F1 (tb { D with nx := Lp B F1 Inv (pre ++ [x]), ct := Lp B F1 Inv (pre ++ [x]), bk := D.nx }) ρ2)
    (hd : ∀ ρ', Inv xs ρ' → At B F0 D.nx ρ') : At B F0 (tFor wi g tb D) ρ := fun F H σ c => by
  refine hw F H σ c _ fun J F1 H1 c1 g1 w => ?_
  have nF1 : noTbl F1 := fun a o e => by
    cases t : isTbl o with
    | false => rfl
    | true =>
      have := nF0 a o (c1.gr.t a o e t)
      rw [this] at t; cases t
  have up0 : ∀ a o, B a = some o → isTup o = false → F0 a = none → F1 a = none := c1.gr.n
  have upc : ∀ {F H : Hp} {σ : L2.St} {ρ : List Sl}, Cfg B F1 F H σ ρ → Cfg B F0 F H σ ρ := fun {F H σ ρ} c =>
    ⟨⟨c1.gr.f.trans c.gr.f, c.gr.h, c.gr.i, fun a o h t e => c.gr.n a o h t (up0 a o h t e), fun a o e t => c1.gr.t a o (c.gr.t a o e t) t⟩, c.len, c.own⟩
  refine ⟨fun i m σ H => m = xs.length - i ∧ i ≤ xs.length ∧ Lp B F1 Inv (xs.take i) σ H, ⟨xs.length, by simp, Nat.zero_le _, F1, ρ1, ?_, by simpa using h0⟩, ?_⟩
  · exact ⟨⟨Same.refl _, c1.gr.h, c1.gr.i, fun a o h t e => e, fun _ _ e _ => e⟩, c1.len, c1.own⟩
  · rintro i m σ' H' ⟨rfl, hi, F', ρ', c', inv⟩
    have sF : Same F1 H' := c'.gr.f.trans c'.gr.i
    by_cases hlt : i < xs.length
    · have hl : i < (xs.map e).length := by simpa using hlt
      refine .inr ⟨w.goes i H' hl sF, Lp B F1 Inv (xs.take (i + 1)), fun σ2 H2 l2 => ⟨xs.length - (i + 1), by omega, rfl, hlt, l2⟩, fun x H2 y => ?_⟩
      obtain ⟨F2, d, g2, hd2, p2⟩ := w.yields i F' H' x H2 hl c'.gr.f c'.i y
      have ex : xs = xs.take i ++ xs[i] :: xs.drop (i + 1) := by
        rw [List.getElem_cons_drop, List.take_append_drop]
      have ed : d = e xs[i] := by
        rw [List.getElem?_map, List.getElem?_eq_getElem hlt] at hd2
        exact (Option.some.inj hd2).symm
      subst ed
      obtain ⟨is, ρ2, b2, k2⟩ := hs F1 (xs.take i) xs[i] (xs.drop (i + 1)) ρ' nF1 ex inv
      have et : xs.take (i + 1) = xs.take i ++ [xs[i]] := by
        rw [List.take_succ, List.getElem?_eq_getElem hlt]; rfl
      rw [et]
      exact b2 F2 H2 σ' x (c'.go g2) p2 _ fun σ3 c3 _ => k2 F2 H2 σ3 c3
    · have ei : i = xs.length := by omega
      subst ei
      rw [List.take_length] at inv
      exact .inl ⟨by have := w.stops H' sF; simpa using this, hd ρ' inv F' H' σ' (upc c')⟩
theorem q_forT {α : Type} {xs : List α} {e : α → PyData} {q : PyData → Pd} {wi : TI} {g : TG} {tb : TS} (nF0 : noTbl F0) (hw : EvI B F0 ρ wi ρ1 q (xs.map e)) (Inv : List α → List Sl → Prop) (h0 : Inv [] ρ1)
    (hs : ∀ F1 pre x post ρ', noTbl F1 → xs = pre ++ x :: post → Inv pre ρ' → ∃ is ρ2, Bind B F1 g is (q (e x)) ρ' ρ2 ∧ At B F1 (tb { D with nx := Lp B F1 Inv (pre ++ [x]), ct := Lp B F1 Inv (pre ++ [x]), bk := u D }) ρ2)
    (hd : ∀ ρ', Inv xs ρ' → At B F0 (u D) ρ') : At B F0 (tSeq (tFor wi g tb) u D) ρ := at_forT (D := { D with nx := u D }) nF0 hw Inv h0 hs hd
theorem set_same {i : Nat} {s : Sl} (h : ρ[i]? = some s) : ρ.set i s = ρ := by
  apply List.ext_getElem?
  intro k
  by_cases ki : k = i
  · subst ki
    rw [List.getElem?_set_self (List.getElem?_eq_some_iff.mp h).1, h]
  · rw [List.getElem?_set_ne (fun e => ki e.symm)]
end
section
variable {K : PySem.W.Frag} {B F0 : Hp} {ρ ρ1 ρ2 : List Sl} {te ta tb tc : TE} {C CB CP CM CS : Addr} {st st' : TSt}
/-- a slot that owns a town, wherever it stands -/
def TownSl (K : PySem.W.Frag) (C : Addr) (st : TSt) (s : Sl) : Prop := ∀ B F0 F H σ ρ (i : Nat), Cfg B F0 F H σ ρ → ρ[i]? = some s → ∃ t d dx kv, σ[i]? = some (some (.ref t)) ∧ F t = none ∧ F d = none ∧ H t = some (.ins C dx (tf st.many st.built d)) ∧ H d = some (.dK kv) ∧ KvAll K e0 F kv (heldD st.held) ∧
  ∀ H2, TChg K C st t d H H2 → ∃ F2, Same F F2 ∧ Cfg B F0 F2 H2 σ ρ
theorem ts_mt : TownSl K C st (mt K C st) := fun B F0 F H σ ρ i c h => by
  obtain ⟨t, d, dx, kv, h1, h2, h3, h4, h5, h6⟩ := mt_open h F H σ c
  refine ⟨t, d, dx, kv, h1, h2, h3, h4, h5, h6, fun H2 hc => ?_⟩
  obtain ⟨F2, s2, c2⟩ := cfg_chg h c h1 h2 h3 h4 hc
  rw [set_same h] at c2
  exact ⟨F2, s2, c2⟩
theorem ts_mtQ {t d : Addr} : TownSl K C st (.mo (mtQ K C st t d)) := fun B F0 F H σ ρ i c h => by
  obtain ⟨w, o⟩ := c.own
  obtain ⟨_, v, h1, rfl, ea, dx, kv, h4, h5, h6⟩ := o.sl i _ h
  have ft := (o.at_ i t (by rw [ea]; simp)).1
  have fd := (o.at_ i d (by rw [ea]; simp)).1
  refine ⟨t, d, dx, kv, h1, ft, fd, h4, h5, h6, fun H2 hc => ?_⟩
  obtain ⟨F2, ch, dx2, kv2, q1, q2, q3⟩ := chg_ch c.i ft fd hc
  refine ⟨F2, ch.f, ?_⟩
  have c2 := c.chF h (st_mtQ (K := K) (C := C) (st := st) (t := t) (d := d)) fun v as ev m => by
    obtain ⟨m1, m2, _⟩ := m
    subst m2
    refine ⟨⟨m1, rfl, dx2, kv2, q1, q2, q3⟩, ch, fun a ha => ?_⟩
    rcases List.mem_cons.mp ha with rfl | ha
    · exact ⟨_, q1, rfl⟩
    · rw [List.mem_singleton.mp ha]; exact ⟨_, q2, rfl⟩
  rw [set_same h] at c2
  exact c2
/-- a thing of a known kind, of which P is known -/
def kdq (K : PySem.W.Frag) (P : V → Prop) : Pd := fun F v => Kd K F v ∧ P v
theorem st_kdq {P : V → Prop} : Stab (kdq K P) := fun F F' v s ⟨h1, h2⟩ => ⟨((st_kdP (K := K) (v0 := v)) F F' v s ⟨rfl, h1⟩).2, h2⟩
theorem Ev.kdq {P : V → Prop} {d : PyData} (h : Ev B F0 ρ te (nwd K B d)) (k : ∀ F v, Dp K F v d → P v) : Ev B F0 ρ te (Lay.kdq K P) := h.imp fun F v p => ⟨kd_dp (nw_dp p), k F v (nw_dp p)⟩
theorem kd_hid {F H : Hp} {t d : Addr} {v : V} (s : Same F H) (h1 : F t = none) (h2 : F d = none) (k : Kd K F v) : Kd K (hid t d H) v := ((st_kdP (K := K) (v0 := v)) F _ v (hid_sub s h1 h2) ⟨rfl, k⟩).2
theorem evr_build {i : Nat} {s : Sl} {P1 P2 : V → Prop} (S : TownSl K C st s) (h : ρ[i]? = some s) (ok : TOk st) (ha : Ev B F0 ρ ta (kdq K P1)) (hb : Ev B F0 ρ tb (kdq K P2)) (hp : ∀ v1 v2, P1 v1 → P2 v2 → amongB 0 (st.many - 1) v1 = false ∨ amongB 0 (st.many - 1) v2 = false ∨ v1 = v2) :
    EvR B F0 ρ (fun E => tMeth C "build" (spBuild K C CP CM) [] E (tVar i) (tCons ta (tCons tb tNil))) CP := fun F H σ c E Q q => by
  obtain ⟨t, d, dx, kv, es, ft, fd, h4, h5, h6, _⟩ := S B F0 F H σ ρ i c h
  refine ⟨_, es, t, dx, _, rfl, h4, tf_no (by decide +kernel) (by decide +kernel) (by decide +kernel), ha F H σ c _ fun v1 F1 H1 g1 p1 => hb F1 H1 σ (c.go g1) _ fun v2 F2 H2 g2 p2 => ?_⟩
  have c2 := (c.go g1).go g2
  obtain ⟨t', d', dx', kv', es', ft', fd', h4', h5', h6', back⟩ := S B F0 F2 H2 σ ρ i c2 h
  rw [es] at es'
  cases es'
  refine ⟨st, t, d', v1, v2, ⟨[v1, v2], rfl, ⟨dx', kv', h4', h5', kvAll_mono c2.i h6'⟩, ⟨_, _, rfl, ⟨rfl, kd_hid c2.i ft' fd' ((st_kdP (K := K) (v0 := v1)) F1 F2 v1 g2.f ⟨rfl, p1.1⟩).2⟩, _, _, rfl, ⟨rfl, kd_hid c2.i ft' fd' p2.1⟩, rfl⟩⟩, ok, fun a b ea eb a1 a2 b1 b2 hne _ => ?_, fun _ H3 hc => ?_, fun z1 z2 z3 _ => ?_⟩
  · subst ea eb
    rcases hp _ _ p1.2 p2.2 with z | z | z
    · simp [amongB] at z; omega
    · simp [amongB] at z; omega
    · exact absurd (V.int.inj z) hne
  · obtain ⟨F3, _, c3⟩ := back H3 hc
    exact q F3 H3 c3
  · rcases hp _ _ p1.2 p2.2 with z | z | z
    · rw [z1] at z; cases z
    · rw [z2] at z; cases z
    · exact absurd z z3
theorem evr_many {i : Nat} {s : Sl} {a b : Int} (S : TownSl K C st s) (h : ρ[i]? = some s) (ok : TOk st) (ha : EvH B F0 ρ ta (dat K (.int a))) (hb : EvH B F0 ρ tb (dat K (.int b))) (a1 : 0 ≤ a) (a2 : a < st.many) (b1 : 0 ≤ b) (b2 : b < st.many) (hne : a ≠ b) (full : st.held.length = 60) :
    EvR B F0 ρ (fun E => tMeth C "build" (spBuild K C CP CM) [] E (tVar i) (tCons ta (tCons tb tNil))) CM := fun F H σ c E Q q => by
  obtain ⟨t, d, dx, kv, es, ft, fd, h4, h5, h6, _⟩ := S B F0 F H σ ρ i c h
  refine ⟨_, es, t, dx, _, rfl, h4, tf_no (by decide +kernel) (by decide +kernel) (by decide +kernel), ha F H σ c _ fun v1 F1 H1 g1 p1 => hb F1 H1 σ (c.go g1) _ fun v2 F2 H2 g2 p2 => ?_⟩
  cases p1; cases p2
  have c2 := (c.go g1).go g2
  obtain ⟨t', d', dx', kv', es', ft', fd', h4', h5', h6', back⟩ := S B F0 F2 H2 σ ρ i c2 h
  rw [es] at es'
  cases es'
  refine ⟨st, t, d', .int a, .int b, ⟨[.int a, .int b], rfl, ⟨dx', kv', h4', h5', kvAll_mono c2.i h6'⟩, ⟨_, _, rfl, ⟨rfl, kd_dp (K := K) (.int a)⟩, _, _, rfl, ⟨rfl, kd_dp (K := K) (.int b)⟩, rfl⟩⟩, ok, fun a' b' ea eb _ _ _ _ _ z => ?_, fun z H3 hc => ?_, fun z1 z2 z3 _ H3 hc => ?_⟩
  · omega
  · rcases z with z | z | z
    · simp [amongB] at z; omega
    · simp [amongB] at z; omega
    · exact absurd (V.int.inj z) hne
  · obtain ⟨F3, _, c3⟩ := back H3 hc
    exact q F3 H3 c3
theorem evr_dig {i : Nat} {s : Sl} {P : V → Prop} (S : TownSl K C st s) (h : ρ[i]? = some s) (ok : TOk st) (ha : Ev B F0 ρ ta (kdq K P)) (hp : ∀ v, P v → ∀ n, v = .int n → n ∉ st.held.map (·.1)) :
    EvR B F0 ρ (fun E => tMeth C "dig" (spDig K C CS) [] E (tVar i) (tCons ta tNil)) CS := fun F H σ c E Q q => by
  obtain ⟨t, d, dx, kv, es, ft, fd, h4, h5, h6, _⟩ := S B F0 F H σ ρ i c h
  refine ⟨_, es, t, dx, _, rfl, h4, tf_no (by decide +kernel) (by decide +kernel) (by decide +kernel), ha F H σ c _ fun v1 F1 H1 g1 p1 => ?_⟩
  have c2 := c.go g1
  obtain ⟨t', d', dx', kv', es', ft', fd', h4', h5', h6', back⟩ := S B F0 F1 H1 σ ρ i c2 h
  rw [es] at es'
  cases es'
  refine ⟨st, t, d', v1, ⟨[v1], rfl, ⟨dx', kv', h4', h5', kvAll_mono c2.i h6'⟩, ⟨_, _, rfl, ⟨rfl, kd_hid c2.i ft' fd' p1.1⟩, rfl⟩⟩, ok, fun n en hn => absurd hn (hp _ p1.2 n en), fun _ H3 hc => ?_⟩
  obtain ⟨F3, _, c3⟩ := back H3 hc
  exact q F3 H3 c3
/-- Town(x) of what is no count -/
theorem evr_make {P : V → Prop} (ha : Ev B F0 ρ ta (kdq K P)) (hp : ∀ v, P v → amongB 1 16 v = false) : EvR B F0 ρ (fun E => tMake C (spInit K C CB) [] E (tCons ta tNil)) CB := fun F H σ c E Q q =>
  ha F H σ c _ fun v F1 H1 g1 p => by
    intro x dx nx ndx nex
    have c1 := c.go g1
    have k2 : Kd K (upd (upd H1 dx (.own x)) x (.ins C dx [])) v := ((st_kdP (K := K) (v0 := v)) F1 _ v (fun a o e => by rw [upd_ne (ne_of_none (c1.i a o e) nx), upd_ne (ne_of_none (c1.i a o e) ndx)]; exact c1.i a o e) ⟨rfl, p.1⟩).2
    refine ⟨x, dx, v, rfl, upd_same, k2, fun n en n1 n2 => ?_, fun _ H' s => ?_⟩
    · subst en
      have := hp _ p.2
      simp [amongB] at this
      omega
    · have s1 : Same H1 H' := fun a o e => s a o (by rw [upd_ne (ne_of_none e nx), upd_ne (ne_of_none e ndx)]; exact e)
      exact q F1 H' (c1.go (gr_call c1.i s1))
end

open TL
/-! the plain law of texts -/
abbrev nlS : Str := "\n"
abbrev spS : Str := " "
abbrev figS : Str := "0123456789"
def numOk (w : Str) : Bool := (decide (1 ≤ w.length) && decide (w.length ≤ 2)) && ((tl w).all (fun c => decide (c ∈ tl figS)) && !(decide ((tl w)[0]? = some 48) && !decide (w = "0")))
def numF (w : Str) : Option Int := if numOk w = true then PySem.intText? w else none
theorem one_ok : ((tl figS).all fun c => match PySem.intText? ⟨#[c]⟩ with | some k => decide (0 ≤ k) && decide (k ≤ 99) | none => false) = true := by decide +kernel
theorem two_ok : ((tl figS).all fun c => (tl figS).all fun e => match PySem.intText? ⟨#[c, e]⟩ with | some k => decide (0 ≤ k) && decide (k ≤ 99) | none => false) = true := by decide +kernel
theorem num_some {w : Str} (h : numOk w = true) : ∃ k, PySem.intText? w = some k ∧ 0 ≤ k ∧ k ≤ 99 := by
  unfold numOk at h
  simp only [Bool.and_eq_true, decide_eq_true_eq] at h
  obtain ⟨⟨h1, h2⟩, h3, _⟩ := h
  rw [List.all_eq_true] at h3
  obtain ⟨⟨l⟩⟩ := w
  have hl : (⟨⟨l⟩⟩ : Str).length = l.length := rfl
  rw [hl] at h1 h2
  match l, h1, h2, h3 with
  | [c], _, _, h3 =>
    have hc : c ∈ tl figS := by simpa using h3 c (by simp [tl])
    have := List.all_eq_true.mp one_ok c hc
    cases e : PySem.intText? ⟨#[c]⟩ with
    | none => rw [e] at this; cases this
    | some k => rw [e] at this; simp at this; exact ⟨k, rfl, this.1, this.2⟩
  | [c, d], _, _, h3 =>
    have hc : c ∈ tl figS := by simpa using h3 c (by simp [tl])
    have hd : d ∈ tl figS := by simpa using h3 d (by simp [tl])
    have := List.all_eq_true.mp (List.all_eq_true.mp two_ok c hc) d hd
    cases e : PySem.intText? ⟨#[c, d]⟩ with
    | none => rw [e] at this; cases this
    | some k => rw [e] at this; simp at this; exact ⟨k, rfl, this.1, this.2⟩
  | [], h1, _, _ => simp at h1
  | _ :: _ :: _ :: _, _, h2, _ => simp at h2
theorem numF_some {w : Str} {k : Int} (h : numF w = some k) : numOk w = true ∧ PySem.intText? w = some k ∧ 0 ≤ k ∧ k ≤ 99 := by
  unfold numF at h
  split at h
  next ok =>
    obtain ⟨k', e, h1, h2⟩ := num_some ok
    rw [h] at e
    cases e
    exact ⟨ok, h, h1, h2⟩
  next => cases h
theorem numF_none {w : Str} (h : numF w = none) : numOk w = false := by
  unfold numF at h
  split at h
  next ok =>
    obtain ⟨k', e, _⟩ := num_some ok
    rw [h] at e; cases e
  next no => simpa using no
theorem numF_of {w : Str} (h : numOk w = true) : ∃ k, numF w = some k := by
  obtain ⟨k, e, _⟩ := num_some h
  exact ⟨k, by unfold numF; rw [if_pos h, e]⟩
def rowF (r : Str) : Option (Int × Int) := match Txt.split r spS with
  | [a, b] => match numF a, numF b with
    | some x, some y => some (x, y)
    | _, _ => none
  | _ => none
def rowsF : List Str → Option (List (Int × Int))
  | [] => some []
  | r :: rs => match rowF r, rowsF rs with
    | some p, some ps => some (p :: ps)
    | _, _ => none
/-- what a text writes -/
def readF (t : Str) : Option (Int × List (Int × Int)) := match Txt.split t nlS with
  | [] => none
  | r0 :: rs => match Txt.split r0 spS with
    | [a, b] => if a = "places" then (match numF b, rowsF rs with
      | some n, some ps => if (decide (1 ≤ n) && decide (n ≤ 16)) && (decide (ps.length ≤ 60) && ps.all fun p => !decide (p.1 = p.2) && (decide (p.1 < n) && decide (p.2 < n))) then some (n, ps) else none
      | _, _ => none) else none
    | _ => none
theorem rowsF_some : ∀ {rs : List Str} {ps : List (Int × Int)}, rowsF rs = some ps → rs.length = ps.length ∧ ∀ (i : Nat) r, rs[i]? = some r → ∃ p, ps[i]? = some p ∧ rowF r = some p
  | [], ps, h => by
    cases h
    exact ⟨rfl, fun i r z => by simp at z⟩
  | r :: rs, ps, h => by
    unfold rowsF at h
    cases e1 : rowF r with
    | none => rw [e1] at h; cases h
    | some p =>
      rw [e1] at h
      cases e2 : rowsF rs with
      | none => rw [e2] at h; cases h
      | some qs =>
        rw [e2] at h
        cases h
        obtain ⟨l, k⟩ := rowsF_some e2
        refine ⟨by rw [List.length_cons, List.length_cons, l], fun i r' z => ?_⟩
        cases i with
        | zero => simp at z; subst z; exact ⟨p, rfl, e1⟩
        | succ i => obtain ⟨q, q1, q2⟩ := k i r' (by simpa using z); exact ⟨q, by simpa using q1, q2⟩
theorem rowsF_none : ∀ {rs : List Str}, rowsF rs = none → ∃ pre r post, rs = pre ++ r :: post ∧ rowF r = none ∧ ∀ x ∈ pre, ∃ p, rowF x = some p
  | [], h => by cases h
  | r :: rs, h => by
    cases e1 : rowF r with
    | none => exact ⟨[], r, rs, rfl, e1, fun x hx => by cases hx⟩
    | some p =>
      unfold rowsF at h
      rw [e1] at h
      cases e2 : rowsF rs with
      | some qs => rw [e2] at h; cases h
      | none =>
        obtain ⟨pre, r', post, h1, h2, h3⟩ := rowsF_none e2
        refine ⟨r :: pre, r', post, by rw [h1]; rfl, h2, fun x hx => ?_⟩
        rcases List.mem_cons.mp hx with rfl | hx
        · exact ⟨p, e1⟩
        · exact h3 x hx
theorem rowF_some {r : Str} {p : Int × Int} (h : rowF r = some p) : ∃ a b, Txt.split r spS = [a, b] ∧ numF a = some p.1 ∧ numF b = some p.2 := by
  unfold rowF at h
  split at h
  next a b e =>
    split at h
    next x y e1 e2 => cases h; exact ⟨a, b, e, e1, e2⟩
    next => cases h
  next => cases h
theorem spl_ne (S : List Nat) : ∀ (l : List Nat) (k : Nat) (acc : List Nat), spl S k acc l ≠ []
  | [], 0, acc => by unfold spl; simp
  | [], k + 1, acc => by unfold spl; simp
  | c :: r, 0, acc => by
    unfold spl
    split
    · simp
    · exact spl_ne S r 0 _
  | c :: r, k + 1, acc => by unfold spl; exact spl_ne S r k acc
theorem spl_len (S : List Nat) : ∀ (l : List Nat) (k : Nat) (acc : List Nat), (spl S k acc l).length ≤ l.length + 1
  | [], 0, acc => by unfold spl; simp
  | [], k + 1, acc => by unfold spl; simp
  | c :: r, 0, acc => by
    unfold spl
    split
    · have := spl_len S r (S.length - 1) []
      rw [List.length_cons, List.length_cons]; omega
    · have := spl_len S r 0 (acc ++ [c])
      rw [List.length_cons]; omega
  | c :: r, k + 1, acc => by
    unfold spl
    have := spl_len S r k acc
    rw [List.length_cons]; omega
theorem spl_mem (S : List Nat) : ∀ (l : List Nat) (k : Nat) (acc : List Nat), ∀ p ∈ spl S k acc l, ∀ c ∈ p, c ∈ acc ∨ c ∈ l
  | [], 0, acc, p, hp, c, hc => by unfold spl at hp; rw [List.mem_singleton.mp hp] at hc; exact .inl hc
  | [], k + 1, acc, p, hp, c, hc => by unfold spl at hp; rw [List.mem_singleton.mp hp] at hc; exact .inl hc
  | d :: r, 0, acc, p, hp, c, hc => by
    unfold spl at hp
    split at hp
    · rcases List.mem_cons.mp hp with rfl | hp
      · exact .inl hc
      · rcases spl_mem S r _ _ p hp c hc with z | z
        · cases z
        · exact .inr (List.mem_cons_of_mem _ z)
    · rcases spl_mem S r _ _ p hp c hc with z | z
      · rcases List.mem_append.mp z with z | z
        · exact .inl z
        · rw [List.mem_singleton.mp z]; exact .inr (List.mem_cons_self ..)
      · exact .inr (List.mem_cons_of_mem _ z)
  | d :: r, k + 1, acc, p, hp, c, hc => by
    unfold spl at hp
    rcases spl_mem S r _ _ p hp c hc with z | z
    · exact .inl z
    · exact .inr (List.mem_cons_of_mem _ z)
theorem spl_plen (S : List Nat) : ∀ (l : List Nat) (k : Nat) (acc : List Nat), ∀ p ∈ spl S k acc l, p.length ≤ acc.length + l.length
  | [], 0, acc, p, hp => by unfold spl at hp; rw [List.mem_singleton.mp hp]; simp
  | [], k + 1, acc, p, hp => by unfold spl at hp; rw [List.mem_singleton.mp hp]; simp
  | d :: r, 0, acc, p, hp => by
    rw [List.length_cons]
    unfold spl at hp
    split at hp
    · rcases List.mem_cons.mp hp with rfl | hp
      · omega
      · have := spl_plen S r _ _ p hp
        simp at this
        omega
    · have := spl_plen S r _ _ p hp
      rw [List.length_append, List.length_singleton] at this
      omega
  | d :: r, k + 1, acc, p, hp => by
    rw [List.length_cons]
    unfold spl at hp
    have := spl_plen S r _ _ p hp
    omega
/-- what a cut text's parts are -/
structure SplI (t y : Str) : Prop where
  ne : Txt.split t y ≠ []
  len : (Txt.split t y).length ≤ t.length + 1
  plen : ∀ p ∈ Txt.split t y, p.length ≤ t.length
  mem : ∀ p ∈ Txt.split t y, ∀ c ∈ tl p, c ∈ tl t
theorem spl_i {t y : Str} (hy : tl y ≠ []) (hk : y.cps.all (· < 256) = true) : SplI t y := by
  have e := split_spl t y hy (kind_ok hk)
  have m : ∀ p ∈ Txt.split t y, tl p ∈ spl (tl y) 0 [] (tl t) := fun p hp => by rw [← e]; exact List.mem_map.mpr ⟨p, hp, rfl⟩
  refine ⟨fun z => ?_, ?_, fun p hp => ?_, fun p hp c hc => ?_⟩
  · rw [z] at e
    exact spl_ne _ _ _ _ e.symm
  · have := spl_len (tl y) (tl t) 0 []
    rw [← e, List.length_map] at this
    rw [len_tl]
    exact this
  · have := spl_plen (tl y) (tl t) 0 [] _ (m p hp)
    rw [len_tl, len_tl]
    simpa using this
  · rcases spl_mem (tl y) (tl t) 0 [] _ (m p hp) c hc with z | z
    · cases z
    · exact z
theorem nl_i {t : Str} : SplI t nlS := spl_i (by decide +kernel) (by decide +kernel)
theorem sp_i {t : Str} : SplI t spS := spl_i (by decide +kernel) (by decide +kernel)
/-- signs that may be written -/
def asc (t : Str) : Prop := ∀ c ∈ tl t, c < 128
theorem asc_ok {t : Str} (h : asc t) : PyData.strOk t = true := by
  unfold PyData.strOk
  rw [← Array.all_toList, List.all_eq_true]
  intro c hc
  have := h c hc
  simp
  omega
theorem asc_part {t y p : Str} (I : SplI t y) (h : asc t) (hp : p ∈ Txt.split t y) : asc p := fun c hc => h c (I.mem p hp c hc)
/-! the writing of a town -/
def lineF (p : Int × Int) : Str := toString p.1 ++ spS ++ toString p.2
def textF (n : Int) (ps : List (Int × Int)) : Str := Txt.join nlS ((("places " : Str) ++ toString n) :: ps.map lineF)
theorem small_ok : (List.range 16).all (fun k => (numF (toString (k : Int)) == some (k : Int)) && ((tl (toString (k : Int) : Str)).all fun c => decide (c < 128) && !decide (c = 32) && !decide (c = 10)) && decide ((toString (k : Int) : Str).length ≤ 2)) = true := by decide +kernel
theorem sixteen_ok : ((numF (toString (16 : Int)) == some 16) && ((tl (toString (16 : Int) : Str)).all fun c => decide (c < 128) && !decide (c = 32) && !decide (c = 10)) && decide ((toString (16 : Int) : Str).length ≤ 2)) = true := by decide +kernel
theorem str_small {k : Int} (h0 : 0 ≤ k) (h1 : k ≤ 16) : numF (toString k) = some k ∧ (∀ c ∈ tl (toString k : Str), c < 128 ∧ c ≠ 32 ∧ c ≠ 10) ∧ (toString k : Str).length ≤ 2 := by
  have key : ((numF (toString k) == some k) && ((tl (toString k : Str)).all fun c => decide (c < 128) && !decide (c = 32) && !decide (c = 10)) && decide ((toString k : Str).length ≤ 2)) = true := by
    by_cases h : k = 16
    · subst h; exact sixteen_ok
    · have hm : k.toNat ∈ List.range 16 := List.mem_range.mpr (by omega)
      have := List.all_eq_true.mp small_ok _ hm
      have e : ((k.toNat : Nat) : Int) = k := by omega
      rw [e] at this
      exact this
  simp only [Bool.and_eq_true] at key
  obtain ⟨⟨k1, k2⟩, k3⟩ := key
  refine ⟨by simpa using k1, fun c hc => ?_, by simpa using k3⟩
  have := List.all_eq_true.mp k2 c hc
  simp at this
  omega
theorem split_two {a b : Str} (ha : 32 ∉ tl a) (hb : 32 ∉ tl b) : Txt.split (a ++ spS ++ b) spS = [a, b] := by
  have e : a ++ spS ++ b = Txt.join spS [a, b] := by
    refine ext_tl ?_
    rw [TL.join_eq, TL.tl_join, tl_append, tl_append]
    simp [joinL]
  rw [e]
  exact split_join (s := 32) (S := []) (by decide +kernel) (by decide +kernel) (by simp) fun p hp => by
    rcases List.mem_cons.mp hp with rfl | hp
    · exact ha
    · rw [List.mem_singleton.mp hp]; exact hb
theorem row_line {p : Int × Int} (h0 : 0 ≤ p.1) (h1 : p.1 ≤ 16) (h2 : 0 ≤ p.2) (h3 : p.2 ≤ 16) : rowF (lineF p) = some p := by
  obtain ⟨a1, a2, _⟩ := str_small h0 h1
  obtain ⟨b1, b2, _⟩ := str_small h2 h3
  unfold rowF lineF
  rw [split_two (fun z => (a2 _ z).2.1 rfl) (fun z => (b2 _ z).2.1 rfl)]
  dsimp only
  rw [a1, b1]
theorem rows_lines : ∀ {ps : List (Int × Int)}, (∀ p ∈ ps, 0 ≤ p.1 ∧ p.1 ≤ 16 ∧ 0 ≤ p.2 ∧ p.2 ≤ 16) → rowsF (ps.map lineF) = some ps
  | [], _ => rfl
  | p :: ps, h => by
    obtain ⟨h0, h1, h2, h3⟩ := h p (List.mem_cons_self ..)
    rw [List.map_cons]
    unfold rowsF
    rw [row_line h0 h1 h2 h3, rows_lines fun q hq => h q (List.mem_cons_of_mem _ hq)]
theorem places_tl : (∀ c ∈ tl ("places" : Str), c < 128 ∧ c ≠ 32 ∧ c ≠ 10) ∧ (∀ c ∈ tl ("places " : Str), c < 128 ∧ c ≠ 10) ∧ ("places" : Str) ++ spS = "places " := by
  refine ⟨?_, ?_, ?_⟩ <;> decide +kernel
/-- the text of a town is read back -/
theorem read_text {n : Int} {ps : List (Int × Int)} (h1 : 1 ≤ n) (h2 : n ≤ 16) (pk : pairsOk n ps) : readF (textF n ps) = some (n, ps) := by
  obtain ⟨n1, n2, _⟩ := str_small (k := n) (by omega) h2
  obtain ⟨p1, p2, p3⟩ := places_tl
  have rng : ∀ p ∈ ps, 0 ≤ p.1 ∧ p.1 ≤ 16 ∧ 0 ≤ p.2 ∧ p.2 ≤ 16 := fun p hp => by have := pk.2 p hp; omega
  have e1 : Txt.split (textF n ps) nlS = (("places " : Str) ++ toString n) :: ps.map lineF := by
    unfold textF
    refine split_join (s := 10) (S := []) (by decide +kernel) (by decide +kernel) (by simp) fun p hp => ?_
    rcases List.mem_cons.mp hp with rfl | hp
    · rw [tl_append]
      intro z
      rcases List.mem_append.mp z with z | z
      · exact (p2 _ z).2 rfl
      · exact (n2 _ z).2.2 rfl
    · obtain ⟨q, hq, rfl⟩ := List.mem_map.mp hp
      obtain ⟨q0, q1, q2, q3⟩ := rng q hq
      obtain ⟨_, a2, _⟩ := str_small q0 q1
      obtain ⟨_, b2, _⟩ := str_small q2 q3
      unfold lineF
      rw [tl_append, tl_append]
      intro z
      rcases List.mem_append.mp z with z | z
      · rcases List.mem_append.mp z with z | z
        · exact (a2 _ z).2.2 rfl
        · exact absurd z (by decide +kernel)
      · exact (b2 _ z).2.2 rfl
  have e2 : Txt.split (("places " : Str) ++ toString n) spS = [("places" : Str), Str.ofString (toString n)] := by
    rw [← p3]
    exact split_two (fun z => (p1 _ z).2.1 rfl) (fun z => (n2 _ z).2.1 rfl)
  unfold readF
  rw [e1]
  dsimp only
  rw [e2]
  dsimp only
  rw [if_pos rfl, n1, rows_lines rng]
  dsimp only
  rw [if_pos]
  simp only [Bool.and_eq_true, decide_eq_true_eq, List.all_eq_true]
  refine ⟨⟨h1, h2⟩, pk.1, fun p hp => ?_⟩
  have := pk.2 p hp
  simp
  omega
theorem joinL_mem (S : List Nat) : ∀ {L : List (List Nat)} {c : Nat}, c ∈ joinL S L → c ∈ S ∨ ∃ l ∈ L, c ∈ l
  | [], c, h => by cases h
  | [p], c, h => .inr ⟨p, List.mem_singleton.mpr rfl, h⟩
  | p :: q :: r, c, h => by
    unfold joinL at h
    rcases List.mem_append.mp h with h | h
    · exact .inr ⟨p, List.mem_cons_self .., h⟩
    · rcases List.mem_append.mp h with h | h
      · exact .inl h
      · rcases joinL_mem S h with z | ⟨l, hl, z⟩
        · exact .inl z
        · exact .inr ⟨l, List.mem_cons_of_mem _ hl, z⟩
theorem joinL_len (S : List Nat) {m : Nat} : ∀ {L : List (List Nat)}, (∀ l ∈ L, l.length ≤ m) → (joinL S L).length ≤ L.length * (m + S.length)
  | [], _ => by unfold joinL; simp
  | [p], h => by
    have := h p (List.mem_singleton.mpr rfl)
    unfold joinL
    simp
    omega
  | p :: q :: r, h => by
    have h1 := h p (List.mem_cons_self ..)
    have h2 := joinL_len S (L := q :: r) fun l hl => h l (List.mem_cons_of_mem _ hl)
    unfold joinL
    rw [List.length_append, List.length_append, List.length_cons, Nat.succ_mul]
    omega
theorem line_i {p : Int × Int} (h0 : 0 ≤ p.1) (h1 : p.1 ≤ 16) (h2 : 0 ≤ p.2) (h3 : p.2 ≤ 16) : asc (lineF p) ∧ (lineF p).length ≤ 5 := by
  obtain ⟨_, a2, a3⟩ := str_small h0 h1
  obtain ⟨_, b2, b3⟩ := str_small h2 h3
  refine ⟨fun c hc => ?_, ?_⟩
  · unfold lineF at hc
    rw [tl_append, tl_append] at hc
    rcases List.mem_append.mp hc with z | z
    · rcases List.mem_append.mp z with z | z
      · exact (a2 _ z).1
      · have : ∀ c ∈ tl spS, c < 128 := by decide +kernel
        exact this c z
    · exact (b2 _ z).1
  · unfold lineF
    have hs : (tl spS).length = 1 := by decide +kernel
    rw [len_tl] at a3 b3
    rw [len_tl, tl_append, tl_append, List.length_append, List.length_append, hs]
    omega
theorem head_i {n : Int} (h1 : 1 ≤ n) (h2 : n ≤ 16) : asc (("places " : Str) ++ toString n) ∧ (("places " : Str) ++ toString n).length ≤ 9 := by
  obtain ⟨_, a2, a3⟩ := str_small (k := n) (by omega) h2
  obtain ⟨_, p2, _⟩ := places_tl
  refine ⟨fun c hc => ?_, ?_⟩
  · rw [tl_append] at hc
    rcases List.mem_append.mp hc with z | z
    · exact (p2 _ z).1
    · exact (a2 _ z).1
  · have hs : (tl ("places " : Str)).length = 7 := by decide +kernel
    rw [len_tl] at a3
    rw [len_tl, tl_append, List.length_append, hs]
    omega
theorem text_i {n : Int} {ps : List (Int × Int)} (h1 : 1 ≤ n) (h2 : n ≤ 16) (hl : ps.length ≤ 61) (rng : ∀ p ∈ ps, 0 ≤ p.1 ∧ p.1 ≤ 16 ∧ 0 ≤ p.2 ∧ p.2 ≤ 16) : asc (textF n ps) ∧ (textF n ps).length ≤ 620 := by
  have e : tl (textF n ps) = joinL (tl nlS) (((("places " : Str) ++ toString n) :: ps.map lineF).map tl) := by
    unfold textF
    rw [TL.join_eq, TL.tl_join]
  have parts : ∀ l ∈ ((("places " : Str) ++ toString n) :: ps.map lineF).map tl, (∀ c ∈ l, c < 128) ∧ l.length ≤ 9 := fun l hl => by
    obtain ⟨s, hs, rfl⟩ := List.mem_map.mp hl
    rcases List.mem_cons.mp hs with rfl | hs
    · obtain ⟨k1, k2⟩ := head_i h1 h2
      exact ⟨k1, by rw [len_tl] at k2; exact k2⟩
    · obtain ⟨p, hp, rfl⟩ := List.mem_map.mp hs
      obtain ⟨q0, q1, q2, q3⟩ := rng p hp
      obtain ⟨k1, k2⟩ := line_i q0 q1 q2 q3
      exact ⟨k1, by rw [len_tl] at k2; omega⟩
  refine ⟨fun c hc => ?_, ?_⟩
  · rw [e] at hc
    rcases joinL_mem _ hc with z | ⟨l, hl, z⟩
    · have : ∀ c ∈ tl nlS, c < 128 := by decide +kernel
      exact this c z
    · exact (parts l hl).1 c z
  · rw [len_tl, e]
    have := joinL_len (tl nlS) (m := 9) fun l hl => (parts l hl).2
    have hs : (tl nlS).length = 1 := by decide +kernel
    rw [hs, List.length_map, List.length_cons, List.length_map] at this
    omega
/-- the lines of a text, all at once -/
theorem lines_sum {n : Int} {ps : List (Int × Int)} (h1 : 1 ≤ n) (h2 : n ≤ 16) (hl : ps.length ≤ 61) (rng : ∀ p ∈ ps, 0 ≤ p.1 ∧ p.1 ≤ 16 ∧ 0 ≤ p.2 ∧ p.2 ≤ 16) : (((("places " : Str) ++ toString n) :: ps.map lineF).map (·.length)).sum + ((("places " : Str) ++ toString n) :: ps.map lineF).length * nlS.length ≤ 16777216 := by
  have key : ∀ (L : List Str), (∀ l ∈ L, l.length ≤ 9) → (L.map (·.length)).sum ≤ L.length * 9 := by
    intro L
    induction L with
    | nil => intro _; simp
    | cons x r ih =>
      intro h
      have a := h x (List.mem_cons_self ..)
      have b := ih fun l hl => h l (List.mem_cons_of_mem _ hl)
      rw [List.map_cons, List.sum_cons, List.length_cons, Nat.succ_mul]
      omega
  have k := key ((("places " : Str) ++ toString n) :: ps.map lineF) fun l hl => by
    rcases List.mem_cons.mp hl with rfl | hl
    · exact (head_i h1 h2).2
    · obtain ⟨p, hp, rfl⟩ := List.mem_map.mp hl
      obtain ⟨q0, q1, q2, q3⟩ := rng p hp
      have := (line_i q0 q1 q2 q3).2
      omega
  have hs : nlS.length = 1 := by decide +kernel
  rw [hs]
  rw [List.length_cons, List.length_map] at k ⊢
  omega

open TL
abbrev s_written : Stmt := top 16
theorem sc_written : FnScope ["town", "rows", "street", "one", "other"] ["town"] (defScope s_written) := ⟨rfl, rfl, rfl, by decide +kernel, rfl, by decide +kernel, by decide +kernel⟩
abbrev s_w_text : Stmt := top 28
theorem sc_w_text : FnScope ["_law_many_here", "_law_pairs_here", "_law_one", "_law_other"] ["_law_many_here", "_law_pairs_here"] (defScope s_w_text) := ⟨rfl, rfl, rfl, by decide +kernel, rfl, by decide +kernel, by decide +kernel⟩
abbrev s_number_in : Stmt := top 17
theorem sc_number_in : FnScope ["word", "sign"] ["word"] (defScope s_number_in) := ⟨rfl, rfl, rfl, by decide +kernel, rfl, by decide +kernel, by decide +kernel⟩
abbrev s_w_number : Stmt := top 29
theorem sc_w_number : FnScope ["_law_word_here", "_law_sign"] ["_law_word_here"] (defScope s_w_number) := ⟨rfl, rfl, rfl, by decide +kernel, rfl, by decide +kernel, by decide +kernel⟩
abbrev s_pair_in : Stmt := top 18
theorem sc_pair_in : FnScope ["row", "words"] ["row"] (defScope s_pair_in) := ⟨rfl, rfl, rfl, by decide +kernel, rfl, by decide +kernel, by decide +kernel⟩
abbrev s_w_bent : Stmt := top 31
theorem sc_w_bent : FnScope ["_law_text_here", "_law_number_here", "_law_sign", "_law_at"] ["_law_text_here", "_law_number_here"] (defScope s_w_bent) := ⟨rfl, rfl, rfl, by decide +kernel, rfl, by decide +kernel, by decide +kernel⟩
/-! defs that tell data or raise one class -/
def FpE (K : PySem.W.Frag) (CX : Addr) {α : Type} (pre : α → Prop) (args : α → List Pd) (res : α → Option PyData) : Sp := fun vs H Q E => ∃ x, pre x ∧ AOk (args x) H vs ∧ (∀ d, res x = some d → ∀ v H', Same H H' → Nw K H H' v d → Q v H') ∧ (res x = none → ∀ H', Same H H' → E (.ref CX) none H')
section
variable {K : PySem.W.Frag} {B F0 : Hp} {ρ : List Sl} {te ta tb tk : TE} {tr : TA} {D : Ends} {u : TS} {CX : Addr} {d : PyData} {E : XK}
theorem ev_callE {α : Type} {pre : α → Prop} {args : α → List Pd} {res : α → Option PyData} (x : α) (hp : pre x) (h : EvA B F0 ρ tr (args x)) (hr : res x = some d) : Ev B F0 ρ (tCall (FpE K CX pre args res) [] E tr) (nwd K B d) := fun F H σ k Q q =>
  h F H σ k _ fun vs F1 H1 g1 p => ⟨x, hp, by rw [List.append_nil]; exact p, fun d' e v H2 s n => by
    rw [hr] at e
    cases e
    obtain ⟨F2, g2, _, n2⟩ := nw_fix (B := B) (k.go g1).gr.h n F1 (gr_call g1.i s)
    exact q v F2 H2 (g1.trans g2) n2, fun e => by rw [hr] at e; cases e⟩
theorem evb_callE {α : Type} {pre : α → Prop} {args : α → List Pd} {res : α → Option PyData} (hE : ∀ H', Same B H' → E (.ref CX) none H') (x : α) (hp : pre x) (h : EvA B F0 ρ tr (args x)) (hr : res x = none) : EvB B F0 ρ (tCall (FpE K CX pre args res) [] E tr) := fun F H σ k Q =>
  h F H σ k _ fun vs F1 H1 g1 p => ⟨x, hp, by rw [List.append_nil]; exact p, fun d' e => (by rw [hr] at e; cases e), fun _ H' s => hE H' ((k.go g1).gr.h.trans s)⟩
theorem at_raise {N : L2.St → Hp → Prop} (hE : ∀ H', Same B H' → E (.ref CX) none H') (hN : ∀ σ H, E (.ref CX) none H → N σ H) : At B F0 N ρ := fun F H σ c => hN σ H (hE H c.gr.h)
theorem log16 {i : Int} (h1 : 0 ≤ i) (h2 : i < 1000) : i.natAbs.log2 < 1920 := by
  have : i.natAbs < 2 ^ 1920 := Nat.lt_of_lt_of_le (show i.natAbs < 1000 by omega) (by decide +kernel)
  by_cases h : i.natAbs = 0
  · rw [h]; decide
  · exact (Nat.log2_lt h).mpr this
end
section
variable {P : Program} {w : World} {K : PySem.W.Frag} {mg : Str → Option Value} {base : Heap} {C C_BadText : Addr}
theorem fpE_ok {x qual : Str} {st : Stmt} {N ps : List Str} {k : Nat} {α : Type} {pre : α → Prop} {args : α → List Pd} {res : α → Option PyData} {CX : Addr} (D : Dfn K mg x qual st ps) (S : FnScope N ps (defScope st)) (hN : ps.length ≤ N.length)
    (hlen : ∀ x, (args x).length = ps.length) (stab : ∀ x, ∀ f ∈ args x, Stab f)
    (body : ∀ (f : Addr) (cdv : Value) (A : Around) (outer : List Env) (s : Shared) (H : Hp) (E : XK), Room k (A.deeper (envOfC qual (defScope st) s.heap.objs.size f cdv)) →
      ∃ t, PSs (cxOf (L2.CX P w) P w K mg base N qual (defScope st) f cdv A outer s H E) (defBody st) t ∧
        ∀ x, pre x → ∀ Q : VK, (∀ d, res x = some d → ∀ v H', Same H H' → Nw K H H' v d → Q v H') → (res x = none → ∀ H', Same H H' → E (.ref CX) none H') → At H H (t { nx := fun _ H' => Q .non H', rt := Q }) (enterR N.length (args x))) : Ok P w K mg base (L2.CX P w) (k + 1) x ps (FpE K CX pre args res) := by
  obtain ⟨f, fd, F, hg, hb⟩ := D.ex
  refine ⟨f, fd, F.okX S (fun vs H Q E h => ?_) (fun cdv A outer s H vs Q E hr h => ?_), hg, F.kp, hb⟩
  · obtain ⟨z, _, h2, _⟩ := h
    rw [aok_len h2, hlen]
  · obtain ⟨z, h1, h2, h3, h4⟩ := h
    obtain ⟨t, q1, q2⟩ := body f cdv A outer s H E hr
    exact ⟨t, q1, q2 z h1 Q h3 h4 H H _ (cfg_start h2 (stab z) (by rw [hlen]; exact hN))⟩
abbrev spWritten (K : PySem.W.Frag) (C : Addr) : Sp := Fp K (fun st : TSt => TOk st) (fun st => [isTown K C st]) (fun st => .str (textF st.many (st.held.map (·.2))))
abbrev spText (K : PySem.W.Frag) : Sp := Fp K (fun x : Int × List (Int × Int) => 1 ≤ x.1 ∧ x.1 ≤ 16 ∧ x.2.length ≤ 61 ∧ ∀ p ∈ x.2, 0 ≤ p.1 ∧ p.1 ≤ 16 ∧ 0 ≤ p.2 ∧ p.2 ≤ 16) (fun x => [dat K (.int x.1), dat K (.list (x.2.map pairD))]) (fun x => .str (textF x.1 x.2))
abbrev spNumIn (K : PySem.W.Frag) (CX : Addr) : Sp := FpE K CX (fun w : Str => w.length ≤ 1000) (fun w => [dat K (.str w)]) (fun w => (numF w).map .int)
def numD : Option Int → PyData
  | some n => .int n
  | none => .none
abbrev spWNum (K : PySem.W.Frag) : Sp := Fp K (fun w : Str => w.length ≤ 1000 ∧ asc w) (fun w => [dat K (.str w)]) (fun w => numD (numF w))
abbrev spPairIn (K : PySem.W.Frag) (CX : Addr) : Sp := FpE K CX (fun w : Str => w.length ≤ 1000) (fun w => [dat K (.str w)]) (fun w => (rowF w).map pairD)
theorem ev_line {B F0 : Hp} {ρ : List Sl} {ta tb : TE} {p : Int × Int} (h0 : 0 ≤ p.1) (h1 : p.1 ≤ 16) (h2 : 0 ≤ p.2) (h3 : p.2 ≤ 16) (ha : EvH B F0 ρ ta (dat K (.int p.1))) (hb : EvH B F0 ρ tb (dat K (.int p.2))) :
    Ev B F0 ρ (tOp (fun x y H Q => ∃ i j, x = .str i ∧ y = .str j ∧ i.length + j.length ≤ sizeLine ∧ Q (.str (i ++ j)) H) (tOp (fun x y H Q => ∃ i j, x = .str i ∧ y = .str j ∧ i.length + j.length ≤ sizeLine ∧ Q (.str (i ++ j)) H) (tCB (fun xs H Q => ∃ i, xs = [.int i] ∧ i.natAbs.log2 < 1920 ∧ Q (.str (toString i)) H) (tCons ta tNil)) (tC (.str " "))) (tCB (fun xs H Q => ∃ i, xs = [.int i] ∧ i.natAbs.log2 < 1920 ∧ Q (.str (toString i)) H) (tCons tb tNil))) (nwd K B (.str (lineF p))) := by
  obtain ⟨_, _, a3⟩ := str_small h0 h1
  obtain ⟨_, _, b3⟩ := str_small h2 h3
  have hs : spS.length = 1 := by decide +kernel
  have hl : (Str.ofString (toString p.1) ++ spS).length = (Str.ofString (toString p.1)).length + spS.length := by rw [len_tl, tl_append, List.length_append, ← len_tl, ← len_tl]
  exact ev_addS (Ev.hd (ev_addS (Ev.hd (ev_strI ha (log16 h0 (by omega)))) (Ev.hd ev_str) (by omega))) (Ev.hd (ev_strI hb (log16 h2 (by omega)))) (by omega)
theorem ok_written (Z : Zs mg) (T : TownTxt K mg C) (M_places : OkM P w K mg base CX0 1 C "places" ["self"] (spPlaces K C)) (M_streets : OkM P w K mg base CX0 1 C "streets" ["self"] (spStreets K C)) (D : Dfn K mg "written" "written" s_written ["town"]) : Ok P w K mg base CX0 2 "written" ["town"] (spWritten K C) := by
  refine fp_ok D sc_written (by decide) (fun _ => rfl) (fun _ => stab1 st_isTown) (fun f cdv A outer s H E hr => ⟨_, (pss_cons (ps_set (i := 1) sc_written.nd rfl (Or.inl rfl) (pe_lst (pa_cons (pe_op op_add_str pe_str (pe_callTy call_str_int (by rfl) Z.str (by decide +kernel) (pa_cons (ok_meth0 M_places (by exact hr.mono (by decide)) (pv 0)) pa_nil))) pa_nil)))
    (pss_cons (ps_expr (pe_bm PySem.F.plainAttrs_list PySem.F.slot_list_extend PySem.F.type_list_extend mt_extend (pv 1) (pa_cons (pe_lc (own := [("street", 2), ("one", 3), ("other", 4)]) (tt := tYes) rfl sc_written.nd (kpi_list K (ok_meth0 M_streets (by exact hr.mono (by decide)) (pv 0))) (blkOk_by (by dsimp only [cxOf, Cx.nox, Cx.wish, Cx.blk, compEnvC, envOfC]; (try (rw [relabel_eq]; dsimp only)); decide +kernel)) (fun _ _ _ _ _ => (kpg_tup K 3 rfl (pgs_cons (pg_name (i := 2) sc_written.nd rfl (Or.inl rfl)) (pgs_cons (pg_name (i := 3) sc_written.nd rfl (Or.inl rfl)) (pgs_cons (pg_name (i := 4) sc_written.nd rfl (Or.inl rfl)) pgs_nil))))) (fun _ _ _ _ _ => pts_nil) (fun _ _ _ _ _ => (pe_op op_add_str (pe_op op_add_str (pe_callTy call_str_int (by rfl) Z.str (by decide +kernel) (pa_cons (pv 3) pa_nil)) pe_str) (pe_callTy call_str_int (by rfl) Z.str (by decide +kernel) (pa_cons (pv 4) pa_nil))))) pa_nil)))
    (pss_one (ps_ret (pe_join pe_str (pv 1)))))), ?_⟩)
  rintro st ok Q q
  have lo := ok.lo
  have hi := ok.hi
  have few := ok.few
  have rng : ∀ p ∈ st.held.map (·.2), 0 ≤ p.1 ∧ p.1 ≤ 16 ∧ 0 ≤ p.2 ∧ p.2 ≤ 16 := fun p hp => by
    obtain ⟨r, hr, rfl⟩ := List.mem_map.mp hp
    have := ok.rng r hr
    omega
  have hl : (("places " : Str)).length = 7 := by decide +kernel
  obtain ⟨_, _, n3⟩ := str_small (k := st.many) (by omega) hi
  walk_at "go"
  refine' q_setM K (ds := [.str (("places " : Str) ++ toString st.many)]) ?a1 (q_drop (evx_extend (i := 1) (es := st.held.map fun r => .str (lineF r.2)) rfl ?a2 ?a3) ?a4)
  case a1 => exact evm_lst (eas_cons (ev_addS (Ev.hd ev_str) (Ev.hd (ev_strI (Ev.hd (ev_places (evh_town rfl))) (log16 (by omega) (by omega)))) (by omega)) eas_nil) (by simp)
  case a2 =>
    have ef : (st.held.map fun r => PyData.str (lineF r.2)) = (st.held.filter fun _ => true).map fun r => PyData.str (lineF r.2) := by rw [List.filter_eq_self.mpr fun _ _ => rfl]
    rw [ef]
    refine EvM.nw ?_
    refine evm_lc (xs := st.held) (e := rowD) (q := nwd K H) (fun _ => true) (fun r => PyData.str (lineF r.2)) ?b1 (fun F1 r hr => ?b2) (by omega)
    case b1 => exact evj_list (ev_streets ok (evh_town rfl))
    case b2 =>
    have hb := rng r.2 (List.mem_map.mpr ⟨r, hr, rfl⟩)
    exact ⟨_, _, bind_tup (bindl_cons (bind_name st_nwd) (bindl_cons (bind_name st_nwd) (bindl_cons (bind_name st_nwd) bindl_nil))) rfl, by decide, fun F H σ c Q q => q F H (Gr.refl c.i), fun _ => ev_line hb.1 hb.2.1 hb.2.2.1 hb.2.2.2 (evh_var rfl rd_sn) (evh_var rfl rd_sn)⟩
  case a3 => rw [List.length_map]; simp; omega
  case a4 =>
    have e : [PyData.str (("places " : Str) ++ toString st.many)] ++ (st.held.map fun r => PyData.str (lineF r.2)) = ((("places " : Str) ++ toString st.many) :: (st.held.map (·.2)).map lineF).map PyData.str := by
      rw [List.map_cons, List.map_map, List.map_map]
      rfl
    rw [e]
    exact at_ret (K := K) (d := .str (textF st.many (st.held.map (·.2)))) (ev_join (a := nlS) (ws := (("places " : Str) ++ toString st.many) :: (st.held.map (·.2)).map lineF) (Ev.hd ev_str) (evh_var rfl rd_ml) (lines_sum lo hi (by rw [List.length_map]; omega) rng)) q
theorem ok_wtext (Z : Zs mg) (D : Dfn K mg "_law_text" "_law_text" s_w_text ["_law_many_here", "_law_pairs_here"]) : Ok P w K mg base CX0 1 "_law_text" ["_law_many_here", "_law_pairs_here"] (spText K) := by
  refine fp_ok D sc_w_text (by decide) (fun _ => rfl) (fun _ => stabC st_dat (stab1 st_dat)) (fun f cdv A outer s H E hr => ⟨_, (pss_one (ps_ret (pe_join pe_str (pe_op op_cat (pe_lst (pa_cons (pe_op op_add_str pe_str (pe_callTy call_str_int (by rfl) Z.str (by decide +kernel) (pa_cons (pv 0) pa_nil))) pa_nil)) (pe_lc (own := [("_law_one", 2), ("_law_other", 3)]) (tt := tYes) rfl sc_w_text.nd (kpi_list K (pv 1)) (blkOk_by (by dsimp only [cxOf, Cx.nox, Cx.wish, Cx.blk, compEnvC, envOfC]; (try (rw [relabel_eq]; dsimp only)); decide +kernel)) (fun _ _ _ _ _ => (kpg_tup K 2 rfl (pgs_cons (pg_name (i := 2) sc_w_text.nd rfl (Or.inl rfl)) (pgs_cons (pg_name (i := 3) sc_w_text.nd rfl (Or.inl rfl)) pgs_nil)))) (fun _ _ _ _ _ => pts_nil) (fun _ _ _ _ _ => (pe_op op_add_str (pe_op op_add_str (pe_callTy call_str_int (by rfl) Z.str (by decide +kernel) (pa_cons (pv 2) pa_nil)) pe_str) (pe_callTy call_str_int (by rfl) Z.str (by decide +kernel) (pa_cons (pv 3) pa_nil))))))))), ?_⟩)
  rintro ⟨n, ps⟩ ⟨lo, hi, few, rng⟩ Q q
  dsimp only at lo hi few rng q
  have hl : (("places " : Str)).length = 7 := by decide +kernel
  obtain ⟨_, _, n3⟩ := str_small (k := n) (by omega) hi
  walk_at "go"
  refine at_ret (K := K) (d := .str (textF n ps)) (ev_join (a := nlS) (ws := (("places " : Str) ++ toString n) :: ps.map lineF) (Ev.hd ev_str) (Ev.hd (ev_is (d := .list ([.str (("places " : Str) ++ toString n)] ++ (ps.filter fun _ => true).map fun r => .str (lineF r))) (EvM.nw (evm_catN (EvM.n (evm_lst (eas_cons (ev_addS (Ev.hd ev_str) (Ev.hd (ev_strI (evh_var rfl rd_sa) (log16 (by omega) (by omega)))) (by omega)) eas_nil) (by simp))) (EvM.n ?a2) ?a3)) ?a4)) (lines_sum lo hi few rng)) q
  case a2 =>
    refine evm_lc (xs := ps) (e := pairD) (q := nwd K H) (fun _ => true) (fun r => .str (lineF r)) (evj_listF (ev_var rfl) (flatDs_map (fun _ => rfl) _)) (fun F1 r hr => ?_) (by omega)
    have hb := rng r hr
    exact ⟨_, _, bind_tup (bindl_cons (bind_name st_nwd) (bindl_cons (bind_name st_nwd) bindl_nil)) rfl, by decide, fun F H σ c Q q => q F H (Gr.refl c.i), fun _ => ev_line hb.1 hb.2.1 hb.2.2.1 hb.2.2.2 (evh_var rfl rd_sn) (evh_var rfl rd_sn)⟩
  case a3 => rw [List.length_map, List.filter_eq_self.mpr fun _ _ => rfl]; simp; omega
  case a4 =>
    rw [List.filter_eq_self.mpr fun _ _ => rfl, List.map_cons, List.map_map]
    rfl
/-- the law's and the program's look at a word -/
theorem num_head {w : Str} (h : 1 ≤ w.length) : ∃ c, (tl w)[0]? = some c ∧ atI w.cps.toList 0 = some c := by
  rw [len_tl] at h
  refine ⟨(tl w)[0], List.getElem?_eq_getElem h, atI_nn (i := 0) (Int.le_refl 0) ?_⟩
  exact List.getElem?_eq_getElem h
theorem sgn0 {c : Nat} : decide ((⟨#[c]⟩ : Str) = "0") = decide (c = 48) := by
  have e : ("0" : Str) = ⟨#[48]⟩ := by decide +kernel
  rw [e]
  by_cases h : c = 48
  · subst h; simp
  · rw [decide_eq_false h, decide_eq_false fun z => h (by injection z with z; simpa using z)]
theorem ok_numin (Z : Zs mg) (cFIG : ∃ t, mg "FIGURES" = some (.str "0123456789" t)) (X_BadText : XCls K mg "BadText" C_BadText) (D : Dfn K mg "number_in" "number_in" s_number_in ["word"]) : Ok P w K mg base (L2.CX P w) 1 "number_in" ["word"] (spNumIn K C_BadText) := by
  refine fpE_ok D sc_number_in (by decide) (fun _ => rfl) (fun _ => stab1 st_dat) (fun f cdv A outer s H E hr => ⟨_, (pss_cons (ps_if (PW.pt (pw_or (pt_not (pt_chain op_le op_le pe_int (pe_callB call_len_str (by rfl) Z.len PySem.boot_len (pa_cons (pv 0) pa_nil)) pe_int)) (pw_or (pt_not (pt_val (pe_callB (kcr_all K rfl) (by rfl) Z.all (by decide +kernel) (pa_cons (pe_lc (own := [("sign", 1)]) (tt := tYes) rfl sc_number_in.nd (pi_str (pv 0)) (blkOk_by (by dsimp only [cxOf, Cx.nox, Cx.wish, Cx.blk, compEnvC, envOfC]; (try (rw [relabel_eq]; dsimp only)); decide +kernel)) (fun _ _ _ _ _ => (pg_name (i := 1) sc_number_in.nd rfl (Or.inl rfl))) (fun _ _ _ _ _ => pts_nil) (fun _ _ _ _ _ => (pe_cmpR op_in_sign (pv 1) (glob_str rfl cFIG) rfl))) pa_nil)))) (pw_or1 (PW.pt (pw_and (pt_cmpR op_eq (pe_ix ix_str (pv 0) pe_int (fun _ _ => rfl)) pe_str (nomark _)) (pw_and1 (pt_cmpR op_ne (pv 0) pe_str (nomark _))))))))) (pss_one (ps_raise rfl (takes_of rfl rfl rfl rfl) (pmk_own PySem.F.excBase_ValueError X_BadText.x X_BadText.g X_BadText.k (raises_own X_BadText.b X_BadText.t) rfl))) pss_nil)
    (pss_one (ps_ret (pe_callTy call_int_str (by rfl) Z.int (by decide +kernel) (pa_cons (pv 0) pa_nil))))), ?_⟩)
  rintro w hw Q q1 q2
  walk_at "go"
  have hn : (w.length : Int) = ((w.length : Nat) : Int) := rfl
  refine q_when (c := !numOk w) ?a1 (fun z => ?a2) fun z => ?a3
  case a1 =>
    refine et_is (et_or (a := !(decide ((1 : Int) ≤ (w.length : Int)) && decide ((w.length : Int) ≤ 2))) (c := !((tl w).all (fun c => decide (c ∈ tl figS)) && !(decide ((tl w)[0]? = some 48) && !decide (w = "0")))) (et_not (et_test (K := K) (Ev.hd (ev_chain (Ev.hd ev_int) (Ev.hd (ev_lenS (evh_var rfl rd_sa) (by omega))) (Ev.hd ev_int))))) fun hlen => ?b1) ?b2
    case b1 =>
      have h1 : 1 ≤ w.length ∧ w.length ≤ 2 := by
        simp at hlen
        omega
      obtain ⟨c0, hc0, hc1⟩ := num_head h1.1
      refine et_is (et_or (a := !((tl w).all fun c => decide (c ∈ tl figS))) (c := decide (c0 = 48) && !decide (w = "0")) (et_not (et_B (K := K) (Ev.hd ?c1))) fun _ => et_is (et_and (a := decide ((⟨#[c0]⟩ : Str) = "0")) (c := !decide (w = "0")) (et_test (K := K) (Ev.hd (ev_eqS (Ev.hd (ev_ixS (i := 0) (evh_var rfl rd_sa) (Ev.hd ev_int) (by omega) hc1)) (Ev.hd ev_str)))) fun _ => et_test (K := K) (Ev.hd (ev_neS (evh_var rfl rd_sa) (Ev.hd ev_str)))) (by rw [sgn0])) ?c2
      case c1 =>
        have e : (((tl w).filter fun _ => true).map fun c => PyData.bool (decide (c ∈ tl figS))) = ((tl w).map fun c => decide (c ∈ tl figS)).map PyData.bool := by
          rw [List.filter_eq_self.mpr fun _ _ => rfl, List.map_map]
          rfl
        have e2 : (((tl w).map fun c => decide (c ∈ tl figS)).all id) = (tl w).all fun c => decide (c ∈ tl figS) := by
          rw [List.all_map]
          rfl
        rw [← e2]
        refine ev_all (Ev.hd (ev_is (EvM.nw (evm_lc (xs := tl w) (e := sgnD) (q := nwd K H) (fun _ => true) (fun c => .bool (decide (c ∈ tl figS))) (evj_str (evh_var rfl rd_sa)) (fun F1 c hc => ⟨_, _, bind_name st_nwd, by decide, fun F H σ c Q q => q F H (Gr.refl c.i), fun _ => ev_inS (evh_var rfl rd_sn) (Ev.hd ev_str)⟩) (by rw [← len_tl]; omega))) (by rw [e])))
      case c2 =>
        have e3 : decide ((tl w)[0]? = some 48) = decide (c0 = 48) := by rw [hc0]; simp
        rw [e3]
        cases (tl w).all fun c => decide (c ∈ tl figS) <;> simp
    case b2 =>
      unfold numOk
      have e1 : decide ((1 : Int) ≤ (w.length : Int)) = decide (1 ≤ w.length) := by by_cases h : 1 ≤ w.length <;> simp [h] <;> omega
      have e2 : decide ((w.length : Int) ≤ 2) = decide (w.length ≤ 2) := by by_cases h : w.length ≤ 2 <;> simp [h] <;> omega
      rw [e1, e2]
      cases (decide (1 ≤ w.length) && decide (w.length ≤ 2)) <;> simp
  case a2 =>
    have no : numF w = none := by
      unfold numF
      rw [if_neg]
      simpa using z
    exact fun F H' σ c => q2 (by rw [no]; rfl) H' c.gr.h
  case a3 =>
    have yes : numOk w = true := by simpa using z
    obtain ⟨k, hk⟩ := numF_of yes
    obtain ⟨_, hk2, k0, k1⟩ := numF_some hk
    exact at_ret (K := K) (d := .int k) (ev_intS (evh_var rfl rd_sa) hk2 (by unfold numOk at yes; simp at yes; omega)) fun v H' s n => q1 (.int k) (by rw [hk]; rfl) v H' s n
theorem filt_all {p : Nat → Bool} {l : List Nat} : ((l.filter fun c => !p c).map sgnD).isEmpty = l.all p := by
  induction l with
  | nil => rfl
  | cons c r ih =>
    rw [List.filter_cons, List.all_cons]
    cases h : p c
    · simp
    · simpa using ih
theorem ok_wnum (Z : Zs mg) (D : Dfn K mg "_law_number" "_law_number" s_w_number ["_law_word_here"]) : Ok P w K mg base CX0 1 "_law_number" ["_law_word_here"] (spWNum K) := by
  refine fp_ok D sc_w_number (by decide) (fun _ => rfl) (fun _ => stab1 st_dat) (fun f cdv A outer s H E hr => ⟨_, (pss_cons (ps_if (PW.pt (pw_or (pt_not (pt_chain op_le op_le pe_int (pe_callB call_len_str (by rfl) Z.len PySem.boot_len (pa_cons (pv 0) pa_nil)) pe_int)) (pw_or1 (pt_cmpR (kop_neD K (by exact hr.units)) (pe_lc (own := [("_law_sign", 1)]) rfl sc_w_number.nd (pi_str (pv 0)) (blkOk_by (by dsimp only [cxOf, Cx.nox, Cx.wish, Cx.blk, compEnvC, envOfC]; (try (rw [relabel_eq]; dsimp only)); decide +kernel)) (fun _ _ _ _ _ => (pg_name (i := 1) sc_w_number.nd rfl (Or.inl rfl))) (fun _ _ _ _ _ => (pts_one (pt_cmpR op_notIn_sign (pv 1) pe_str rfl))) (fun _ _ _ _ _ => (pv 1))) (pe_lst pa_nil) (nomark _))))) (pss_one (ps_ret pe_non)) pss_nil)
    (pss_one (ps_ret (pe_ifExp (PW.pt (pw_and (pt_cmpR op_eq (pe_ix ix_str (pv 0) pe_int (fun _ _ => rfl)) pe_str (nomark _)) (pw_and1 (pt_cmpR op_ne (pv 0) pe_str (nomark _))))) pe_non (pe_callTy call_int_str (by rfl) Z.int (by decide +kernel) (pa_cons (pv 0) pa_nil)))))), ?_⟩)
  rintro w ⟨hw, ha⟩ Q q
  walk_at "go"
  refine q_when (c := !((decide (1 ≤ w.length) && decide (w.length ≤ 2)) && (tl w).all (fun c => decide (c ∈ tl figS)))) ?a1 (fun z => ?a2) fun z => ?a3
  case a1 =>
    refine et_is (et_or (a := !(decide ((1 : Int) ≤ (w.length : Int)) && decide ((w.length : Int) ≤ 2))) (c := !((tl w).all (fun c => decide (c ∈ tl figS)))) (et_not (et_test (K := K) (Ev.hd (ev_chain (Ev.hd ev_int) (Ev.hd (ev_lenS (evh_var rfl rd_sa) (by omega))) (Ev.hd ev_int))))) fun hlen => ?b1) ?b2
    case b1 =>
      have hs : okS 60 (.list (((tl w).filter fun c => !decide (c ∈ tl figS)).map sgnD)) := (okS_list (n := 0) fun d hd => by
        obtain ⟨c, hc, rfl⟩ := List.mem_map.mp hd
        have hc2 := ha c (List.mem_filter.mp hc).1
        exact ⟨by rw [PyData.canLay0]; exact asc_ok fun x hx => (by rw [List.mem_singleton.mp hx]; exact hc2), by rw [PyData.depth]; exact Nat.le_refl _⟩).mono (by decide)
      refine et_is (et_test (K := K) (Ev.hd (ev_neNil (ds := ((tl w).filter fun c => !decide (c ∈ tl figS)).map sgnD) (Ev.hd (EvM.nw (evm_lc (xs := tl w) (e := sgnD) (q := nwd K H) (fun c => !decide (c ∈ tl figS)) sgnD (evj_str (evh_var rfl rd_sa)) (fun F1 c hc => ⟨_, _, bind_name st_nwd, by decide, et_test (K := K) (Ev.hd (ev_notInS (evh_var rfl rd_sn) (Ev.hd ev_str))), fun _ => ev_var rfl⟩) (by rw [← len_tl]; omega)))) hs))) ?_
      rw [filt_all]
    case b2 =>
      have e1 : decide ((1 : Int) ≤ (w.length : Int)) = decide (1 ≤ w.length) := by by_cases h : 1 ≤ w.length <;> simp [h] <;> omega
      have e2 : decide ((w.length : Int) ≤ 2) = decide (w.length ≤ 2) := by by_cases h : w.length ≤ 2 <;> simp [h] <;> omega
      rw [e1, e2]
      cases (decide (1 ≤ w.length) && decide (w.length ≤ 2)) <;> simp
  case a2 =>
    have no : numF w = none := by
      unfold numF numOk
      rw [if_neg]
      intro y
      simp only [Bool.and_eq_true] at y
      rw [Bool.and_eq_true_iff.mpr y.1, y.2.1] at z
      cases z
    exact at_ret (K := K) (d := .none) ev_non fun v H' s n => q v H' s (by rw [no]; exact n)
  case a3 =>
    have z2 : ((decide (1 ≤ w.length) && decide (w.length ≤ 2)) && (tl w).all (fun c => decide (c ∈ tl figS))) = true := by
      cases h : ((decide (1 ≤ w.length) && decide (w.length ≤ 2)) && (tl w).all (fun c => decide (c ∈ tl figS)))
      · rw [h] at z; cases z
      · rfl
    have h1 : 1 ≤ w.length ∧ w.length ≤ 2 := by
      simp only [Bool.and_eq_true, decide_eq_true_eq] at z2
      exact z2.1
    obtain ⟨c0, hc0, hc1⟩ := num_head h1.1
    have e3 : decide ((tl w)[0]? = some 48) = decide (c0 = 48) := by rw [hc0]; simp
    have en : numOk w = !(decide (c0 = 48) && !decide (w = "0")) := by
      unfold numOk
      rw [e3]
      simp only [Bool.and_eq_true] at z2
      rw [Bool.and_eq_true_iff.mpr z2.1, z2.2]
      simp
    refine at_ret (K := K) (d := numD (numF w)) (ev_if (c := decide (c0 = 48) && !decide (w = "0")) (et_is (et_and (a := decide ((⟨#[c0]⟩ : Str) = "0")) (c := !decide (w = "0")) (et_test (K := K) (Ev.hd (ev_eqS (Ev.hd (ev_ixS (i := 0) (evh_var rfl rd_sa) (Ev.hd ev_int) (by omega) hc1)) (Ev.hd ev_str)))) fun _ => et_test (K := K) (Ev.hd (ev_neS (evh_var rfl rd_sa) (Ev.hd ev_str)))) (by rw [sgn0])) (fun y => ?c1) (fun y => ?c2)) q
    case c1 =>
      have no : numF w = none := by unfold numF; rw [if_neg]; rw [en, y]; simp
      rw [no]
      exact ev_non
    case c2 =>
      have yes : numOk w = true := by rw [en, y]; rfl
      obtain ⟨k, hk⟩ := numF_of yes
      obtain ⟨_, hk2, _⟩ := numF_some hk
      rw [hk]
      exact ev_intS (evh_var rfl rd_sa) hk2 (by omega)
theorem ok_pairin (Z : Zs mg) (X_BadText : XCls K mg "BadText" C_BadText) (G_number_in : Ok P w K mg base (L2.CX P w) 1 "number_in" ["word"] (spNumIn K C_BadText)) (D : Dfn K mg "pair_in" "pair_in" s_pair_in ["row"]) : Ok P w K mg base (L2.CX P w) 2 "pair_in" ["row"] (spPairIn K C_BadText) := by
  refine fpE_ok D sc_pair_in (by decide) (fun _ => rfl) (fun _ => stab1 st_dat) (fun f cdv A outer s H E hr => ⟨_, (pss_cons (ps_set (i := 1) sc_pair_in.nd rfl (Or.inl rfl) (pe_split (pv 0) pe_str))
    (pss_cons (ps_if (pt_cmpR op_ne (pe_callB (kcall_len_seq K) (by rfl) Z.len PySem.boot_len (pa_cons (pv 1) pa_nil)) pe_int (nomark _)) (pss_one (ps_raise rfl (takes_of rfl rfl rfl rfl) (pmk_own PySem.F.excBase_ValueError X_BadText.x X_BadText.g X_BadText.k (raises_own X_BadText.b X_BadText.t) rfl))) pss_nil)
    (pss_one (ps_ret (pe_tup (pa_cons (ok_callP (takes_of rfl rfl rfl rfl) G_number_in (by exact hr.mono (by decide)) rfl (pa_cons (pe_ix (kix_list K) (pv 1) pe_int (fun _ _ => rfl)) pa_nil)) (pa_cons (ok_callP (takes_of rfl rfl rfl rfl) G_number_in (by exact hr.mono (by decide)) rfl (pa_cons (pe_ix (kix_list K) (pv 1) pe_int (fun _ _ => rfl)) pa_nil)) pa_nil))))))), ?_⟩)
  rintro r hw Q q1 q2
  have I := sp_i (t := r)
  walk_at "go"
  have hws : ∀ p ∈ Txt.split r spS, p.length ≤ 1000 := fun p hp => Nat.le_trans (I.plen p hp) hw
  refine q_setM K (ds := (Txt.split r spS).map .str) (evm_split (evh_var rfl rd_sa) (Ev.hd ev_str) (by decide +kernel) (by omega)) (at_fix (K := K) 1 rfl ?_)
  generalize hsp : Txt.split r spS = ws at hws
  have hl := ev_lenL (K := K) (B := H) (F0 := H) (ρ := [sa K (.str r), sn K H (.list (ws.map .str))]) (te := tVar 1) (ds := ws.map .str) (evh_var rfl rd_sn)
  rw [List.length_map] at hl
  refine q_when (c := !decide ((ws.length : Int) = 2)) (et_test (K := K) (Ev.hd (ev_neI (Ev.hd hl) (Ev.hd ev_int)))) (fun z => ?a2) fun z => ?a3
  case a2 =>
    have no : rowF r = none := by
      unfold rowF
      rw [hsp]
      match ws, z with
      | [], _ => rfl
      | [_], _ => rfl
      | [_, _], z => simp at z
      | _ :: _ :: _ :: _, _ => rfl
    exact fun F H' σ c => q2 (by rw [no]; rfl) H' c.gr.h
  case a3 =>
    match ws, z, hws, hsp with
    | [a, b], _, hws, hsp =>
      have ha := hws a (by simp)
      have hb := hws b (by simp)
      have er : rowF r = match numF a, numF b with | some x, some y => some (x, y) | _, _ => none := by unfold rowF; rw [hsp] <;> rfl
      have ia : ∀ {F0 : Hp}, EvA H F0 [sa K (.str r), sn K H (.list [.str a, .str b])] (tCons (tOp (rIxL K) (tVar 1) (tC (.int 0))) tNil) [dat K (.str a)] := ea_cons st_dat (evh_ixL (i := 0) (evh_var (d := .list [.str a, .str b]) rfl rd_sn) (Ev.hd ev_int) rfl) ea_nil
      have ib : ∀ {F0 : Hp}, EvA H F0 [sa K (.str r), sn K H (.list [.str a, .str b])] (tCons (tOp (rIxL K) (tVar 1) (tC (.int 1))) tNil) [dat K (.str b)] := ea_cons st_dat (evh_ixL (i := 1) (evh_var (d := .list [.str a, .str b]) rfl rd_sn) (Ev.hd ev_int) rfl) ea_nil
      cases e1 : numF a with
      | none => exact at_bad (evb_tup1 (evb_callE (CX := C_BadText) (q2 (by rw [er, e1]; rfl)) a ha ia (by rw [e1]; rfl)))
      | some x =>
        cases e2 : numF b with
        | none => exact at_bad (evb_tup2 (ev_callE a ha ia (by rw [e1]; rfl)) (evb_callE (CX := C_BadText) (q2 (by rw [er, e1, e2]; rfl)) b hb ib (by rw [e2]; rfl)))
        | some y => exact at_ret (K := K) (d := pairD (x, y)) (ev_tup (eas_cons (ev_callE a ha ia (by rw [e1]; rfl)) (eas_cons (ev_callE b hb ib (by rw [e2]; rfl)) eas_nil)) (by simp)) fun v H' s n => q1 (pairD (x, y)) (by rw [er, e1, e2]; rfl) v H' s n
    | [], z, _, _ => simp at z
    | [_], z, _, _ => simp at z
    | _ :: _ :: _ :: _, z, _, _ => simp at z; omega
end

abbrev s_w_read : Stmt := top 30
theorem sc_w_read : FnScope ["_law_text_here", "_law_rows", "_law_row", "_law_many_here", "_law_pairs_here", "_law_one", "_law_other"] ["_law_text_here"] (defScope s_w_read) := ⟨rfl, rfl, rfl, by decide +kernel, rfl, by decide +kernel, by decide +kernel⟩
section
variable {K : PySem.W.Frag} {B F0 : Hp} {ρ : List Sl} {te ta tb : TE} {ds : List PyData}
/-- a part of a list whose items may be lists -/
theorem evm_sliceN {tl th : TO} {lo hi : Option Int} (h : EvN K B F0 ρ te ds) (h1 : EvO K B F0 ρ tl lo) (h2 : EvO K B F0 ρ th hi) : EvM K B F0 ρ (tSl (rSlL K) te tl th) (cutD ds lo hi) := fun F H σ c Q q =>
  h F H σ c _ fun a xs F1 H1 g1 q1 q2 => h1 F1 H1 σ (c.go g1) _ fun F2 H2 g2 => h2 F2 H2 σ ((c.go g1).go g2) _ fun F3 H3 g3 => by
    have g := g1.trans (g2.trans g3)
    refine ⟨a, xs, rfl, SqL.of (g3.h _ _ (g2.h _ _ q1)), fun p hp => ?_⟩
    refine q p _ F3 _ (g.trans (Gr.new g.i hp)) (g.i.free hp) (g.fresh hp) upd_same ?_
    have e : xs.length = ds.length := nwAll_len q2
    unfold cutV cutD
    rw [e]
    exact nwAll_take _ (nwAll_drop _ (nwAll_mono (Same.refl _) (g2.f.trans g3.f) q2))
end
/-! bent texts -/
abbrev sgnS : Str := "0123456789 \n-+xp"
def bentC (num : Int) : Nat := (tl sgnS).getD (num / 3 % 16).toNat 0
def bentF (t : Str) (num : Int) : Str :=
  if num % 3 = 0 then cutS t none (some (num / 48 % ((t.length : Int) + 1))) ++ ⟨#[bentC num]⟩ ++ cutS t (some (num / 48 % ((t.length : Int) + 1))) none
  else cutS t none (some (num / 48 % ((t.length : Int) + 1))) ++ (if decide (num % 3 = 1) then ⟨#[bentC num]⟩ else Str.empty) ++ cutS t (some (num / 48 % ((t.length : Int) + 1) + 1)) none
theorem sgn_len : (tl sgnS).length = 16 ∧ ∀ c ∈ tl sgnS, c < 128 := by constructor <;> decide +kernel
theorem cut_lo {t : Str} {i : Int} (h : 0 ≤ i) : tl (cutS t none (some i)) = (tl t).take i.toNat := by
  have h1 : HT.sIx t.length 0 none = 0 := rfl
  have h2 : HT.sIx t.length t.length (some i) = min i.toNat t.length := by
    unfold HT.sIx
    first | omega | (split <;> omega) | (simp; omega)
  unfold cutS
  show ((((tl t).drop _).take _).toArray).toList = _
  rw [h1, h2, List.drop_zero, Nat.sub_zero]
  have e : (((tl t).take (min i.toNat t.length)).toArray).toList = (tl t).take (min i.toNat t.length) := rfl
  rw [e, len_tl]
  by_cases h3 : i.toNat ≤ (tl t).length
  · rw [Nat.min_eq_left h3]
  · rw [Nat.min_eq_right (by omega), List.take_length, List.take_of_length_le (by omega)]
theorem cut_hi {t : Str} {i : Int} (h : 0 ≤ i) : tl (cutS t (some i) none) = (tl t).drop i.toNat := by
  have h1 : HT.sIx t.length 0 (some i) = min i.toNat t.length := by
    unfold HT.sIx
    first | omega | (split <;> omega) | (simp; omega)
  have h2 : HT.sIx t.length t.length none = t.length := rfl
  unfold cutS
  show ((((tl t).drop _).take _).toArray).toList = _
  rw [h1, h2]
  have e : ∀ l : List Nat, l.toArray.toList = l := fun l => rfl
  rw [e, len_tl]
  by_cases h3 : i.toNat ≤ (tl t).length
  · rw [Nat.min_eq_left h3, List.take_of_length_le (by rw [List.length_drop]; omega)]
  · rw [Nat.min_eq_right (by omega), List.drop_of_length_le (Nat.le_refl _), List.drop_of_length_le (by omega), List.take_nil]
theorem bentC_lt (num : Int) : bentC num < 128 := by
  obtain ⟨h1, h2⟩ := sgn_len
  have a := Int.emod_nonneg (num / 3) (show (16 : Int) ≠ 0 by decide)
  have b := Int.emod_lt_of_pos (num / 3) (show (0 : Int) < 16 by decide)
  unfold bentC
  have hl : (num / 3 % 16).toNat < (tl sgnS).length := by omega
  rw [List.getD_eq_getElem?_getD, List.getElem?_eq_getElem hl]
  exact h2 _ (List.getElem_mem hl)
theorem bent_i {t : Str} {num : Int} (ha : asc t) : asc (bentF t num) ∧ (bentF t num).length ≤ t.length + 1 := by
  have a := Int.emod_nonneg (num / 48) (show (t.length : Int) + 1 ≠ 0 by omega)
  have hc := bentC_lt num
  generalize hi : num / 48 % ((t.length : Int) + 1) = i at a
  have e1 : ∀ c : Nat, tl (⟨#[c]⟩ : Str) = [c] := fun c => rfl
  have e2 : tl Str.empty = [] := by decide +kernel
  unfold bentF
  rw [hi]
  split
  · refine ⟨fun c hcm => ?_, ?_⟩
    · rw [tl_append, tl_append, cut_lo a, cut_hi a, e1] at hcm
      rcases List.mem_append.mp hcm with z | z
      · rcases List.mem_append.mp z with z | z
        · exact ha c (List.mem_of_mem_take z)
        · rw [List.mem_singleton.mp z]; exact hc
      · exact ha c (List.mem_of_mem_drop z)
    · rw [len_tl, tl_append, tl_append, cut_lo a, cut_hi a, e1, List.length_append, List.length_append, List.length_take, List.length_drop, List.length_singleton, len_tl]
      omega
  · refine ⟨fun c hcm => ?_, ?_⟩
    · rw [tl_append, tl_append, cut_lo a, cut_hi (by omega)] at hcm
      rcases List.mem_append.mp hcm with z | z
      · rcases List.mem_append.mp z with z | z
        · exact ha c (List.mem_of_mem_take z)
        · split at z
          · rw [e1] at z; rw [List.mem_singleton.mp z]; exact hc
          · rw [e2] at z; cases z
      · exact ha c (List.mem_of_mem_drop z)
    · rw [len_tl, tl_append, tl_append, cut_lo a, cut_hi (by omega), List.length_append, List.length_append, List.length_take, List.length_drop, len_tl]
      split
      · rw [e1, List.length_singleton]; omega
      · rw [e2, List.length_nil]; omega
section
variable {P : Program} {w : World} {K : PySem.W.Frag} {mg : Str → Option Value} {base : Heap} {C C_BadText : Addr}
abbrev spBent (K : PySem.W.Frag) : Sp := Fp K (fun x : Str × Int => x.1.length ≤ 1000 ∧ 0 ≤ x.2) (fun x => [dat K (.str x.1), dat K (.int x.2)]) (fun x => .str (bentF x.1 x.2))
theorem len_app (a b : Str) : (a ++ b).length = a.length + b.length := by rw [len_tl, tl_append, List.length_append, ← len_tl, ← len_tl]
theorem ok_bent (Z : Zs mg) (D : Dfn K mg "_law_bent" "_law_bent" s_w_bent ["_law_text_here", "_law_number_here"]) : Ok P w K mg base CX0 1 "_law_bent" ["_law_text_here", "_law_number_here"] (spBent K) := by
  refine fp_ok D sc_w_bent (by decide) (fun _ => rfl) (fun _ => stabC st_dat (stab1 st_dat)) (fun f cdv A outer s H E hr => ⟨_, (pss_cons (ps_set (i := 2) sc_w_bent.nd rfl (Or.inl rfl) (pe_ix ix_str pe_str (pe_op op_mod (pe_op op_fdiv (pv 1) pe_int) pe_int) (fun _ _ => rfl)))
    (pss_cons (ps_set (i := 3) sc_w_bent.nd rfl (Or.inl rfl) (pe_op op_mod (pe_op op_fdiv (pv 1) pe_int) (pe_op op_add (pe_callB call_len_str (by rfl) Z.len PySem.boot_len (pa_cons (pv 0) pa_nil)) pe_int)))
    (pss_cons (ps_if (pt_cmpR op_eq (pe_op op_mod (pv 1) pe_int) pe_int (nomark _)) (pss_one (ps_ret (pe_op op_add_str (pe_op op_add_str (pe_slice sl_str (pv 0) po_none (po_some (pv 3))) (pv 2)) (pe_slice sl_str (pv 0) (po_some (pv 3)) po_none)))) pss_nil)
    (pss_one (ps_ret (pe_op op_add_str (pe_op op_add_str (pe_slice sl_str (pv 0) po_none (po_some (pv 3))) (pe_op op_mulS (pv 2) (pe_callTy call_int1 (by rfl) Z.int (by decide +kernel) (pa_cons (pe_cmpR op_eq (pe_op op_mod (pv 1) pe_int) pe_int (nomark _)) pa_nil)))) (pe_slice sl_str (pv 0) (po_some (pe_op op_add (pv 3) pe_int)) po_none))))))), ?_⟩)
  rintro ⟨t, num⟩ ⟨hw, h0⟩ Q q
  dsimp only at hw h0 q
  walk_at "go"
  have k0 := Int.emod_nonneg (num / 3) (show (16 : Int) ≠ 0 by decide)
  have k1 := Int.emod_lt_of_pos (num / 3) (show (0 : Int) < 16 by decide)
  have a := Int.emod_nonneg (num / 48) (show (t.length : Int) + 1 ≠ 0 by omega)
  have a2 := Int.emod_lt_of_pos (num / 48) (show (0 : Int) < (t.length : Int) + 1 by omega)
  have hl : (num / 3 % 16).toNat < (tl sgnS).length := by rw [sgn_len.1]; omega
  have hs1 : (⟨#[bentC num]⟩ : Str).length = 1 := rfl
  have hs0 : Str.empty.length = 0 := by decide +kernel
  have hc1 := fun lo hi => cutS_length t lo hi
  refine' q_set K (d := .str ⟨#[bentC num]⟩) ?a1 (q_set K (d := .int (num / 48 % ((t.length : Int) + 1))) ?a2 (q_when (c := decide (num % 3 = 0)) ?a3 (fun z => ?a4) fun z => ?a5))
  case a1 => exact ev_ixS (i := num / 3 % 16) (Ev.hd ev_str) (Ev.hd (ev_ci (Ev.hd (ev_ci (evh_var rfl rd_sa) (Ev.hd ev_int) (by walk_at "num") rfl)) (Ev.hd ev_int) (by walk_at "num") rfl)) (by rw [len_tl, sgn_len.1]; decide) (atI_nn k0 (by
      unfold bentC
      rw [List.getD_eq_getElem?_getD, List.getElem?_eq_getElem hl]
      rfl))
  case a2 => exact ev_ci (Ev.hd (ev_ci (evh_var rfl rd_sa) (Ev.hd ev_int) (by walk_at "num") rfl)) (Ev.hd (ev_ii (Ev.hd (ev_lenS (evh_var rfl rd_sa) (by omega))) (Ev.hd ev_int) rfl)) (by first | omega | (show (0 : Int) < (t.length : Int) + 1; omega)) (by first | rfl | (rw [Int.fmod_eq_emod_of_nonneg _ (by omega)]))
  case a3 => exact et_test (K := K) (Ev.hd (ev_eqI (Ev.hd (ev_ci (evh_var rfl rd_sa) (Ev.hd ev_int) (by walk_at "num") rfl)) (Ev.hd ev_int)))
  case a4 =>
    have e : bentF t num = cutS t none (some (num / 48 % ((t.length : Int) + 1))) ++ ⟨#[bentC num]⟩ ++ cutS t (some (num / 48 % ((t.length : Int) + 1))) none := by unfold bentF; rw [if_pos (of_decide_eq_true z)]
    refine at_ret (K := K) (d := .str (bentF t num)) (by
      rw [e]
      refine ev_addS (Ev.hd (ev_addS (Ev.hd (ev_slS (evh_var rfl rd_sa) (by omega) eo_none (eo_some (evh_var rfl rd_sn)))) (evh_var rfl rd_sn) ?_)) (Ev.hd (ev_slS (evh_var rfl rd_sa) (by omega) (eo_some (evh_var rfl rd_sn)) eo_none)) ?_
      · have := hc1 none (some (num / 48 % ((t.length : Int) + 1))); rw [hs1]; omega
      · have h1 := hc1 none (some (num / 48 % ((t.length : Int) + 1))); have h2 := hc1 (some (num / 48 % ((t.length : Int) + 1))) none; rw [len_app, hs1]; omega) q
  case a5 =>
    have e : bentF t num = cutS t none (some (num / 48 % ((t.length : Int) + 1))) ++ (if decide (num % 3 = 1) then ⟨#[bentC num]⟩ else Str.empty) ++ cutS t (some (num / 48 % ((t.length : Int) + 1) + 1)) none := by unfold bentF; rw [if_neg (of_decide_eq_false z)]
    have hs2 : (if decide (num % 3 = 1) then (⟨#[bentC num]⟩ : Str) else Str.empty).length ≤ 1 := by
      split
      · rw [hs1]; exact Nat.le_refl _
      · rw [hs0]; exact Nat.zero_le _
    refine at_ret (K := K) (d := .str (bentF t num)) (by
      rw [e]
      refine ev_addS (Ev.hd (ev_addS (Ev.hd (ev_slS (evh_var rfl rd_sa) (by omega) eo_none (eo_some (evh_var rfl rd_sn)))) (Ev.hd (ev_mulS (b := decide (num % 3 = 1)) (evh_var rfl rd_sn) (Ev.hd (ev_intB (Ev.hd (ev_eqI (Ev.hd (ev_ci (evh_var rfl rd_sa) (Ev.hd ev_int) (by walk_at "num") rfl)) (Ev.hd ev_int))))))) ?_)) (Ev.hd (ev_slS (evh_var rfl rd_sa) (by omega) (eo_some (Ev.hd (ev_ii (evh_var rfl rd_sn) (Ev.hd ev_int) rfl))) eo_none)) ?_
      · have := hc1 none (some (num / 48 % ((t.length : Int) + 1))); omega
      · have h1 := hc1 none (some (num / 48 % ((t.length : Int) + 1))); have h2 := hc1 (some (num / 48 % ((t.length : Int) + 1) + 1)) none; rw [len_app]; omega) q
end

theorem not_f {b : Bool} (h : (!b) = true) : b = false := by cases b <;> first | rfl | cases h
theorem not_t {b : Bool} (h : (!b) = false) : b = true := by cases b <;> first | rfl | cases h
def readD : Option (Int × List (Int × Int)) → PyData
  | some p => .tuple [.int p.1, .list (p.2.map pairD)]
  | none => .none
/-- the two numbers of a row, as the law takes them -/
def twoF (r : Str) : Option Int × Option Int := match Txt.split r spS with
  | [a, b] => (numF a, numF b)
  | _ => (none, none)
def goodP (n : Int) (p : Option Int × Option Int) : Bool := match p.1, p.2 with
  | some x, some y => !decide (x = y) && (decide (x < n) && decide (y < n))
  | _, _ => false
def twoB (r : Str) : Bool := decide ((Txt.split r spS).length = 2)
theorem two_of {r : Str} (h : twoB r = true) : ∃ a b, Txt.split r spS = [a, b] := by
  unfold twoB at h
  have h := of_decide_eq_true h
  match hs : Txt.split r spS, h with
  | [a, b], _ => exact ⟨a, b, rfl⟩
  | [], h => simp at h
  | [_], h => simp at h
  | _ :: _ :: _ :: _, h => simp at h
theorem rowF_two {r : Str} (h : twoB r = false) : rowF r = none := by
  unfold rowF
  unfold twoB at h
  have h := of_decide_eq_false h
  split
  next a b e => rw [e] at h; exact absurd rfl h
  next => rfl
theorem rowsF_two : ∀ {rs : List Str}, (∃ r ∈ rs, twoB r = false) → rowsF rs = none
  | [], h => by obtain ⟨r, hr, _⟩ := h; cases hr
  | r :: rs, h => by
    unfold rowsF
    obtain ⟨x, hx, e⟩ := h
    rcases List.mem_cons.mp hx with rfl | hx
    · rw [rowF_two e]
    · rw [rowsF_two ⟨x, hx, e⟩]
      cases rowF r <;> rfl
theorem rowsF_len {rs : List Str} {ps : List (Int × Int)} (h : rowsF rs = some ps) : ps.length = rs.length := (rowsF_some h).1.symm
/-- the pairs of good rows -/
theorem rowsF_good : ∀ {rs : List Str} {n : Int}, (∀ r ∈ rs, twoB r = true) → (∀ r ∈ rs, goodP n (twoF r) = true) → ∃ ps, rowsF rs = some ps ∧ (rs.map fun r => (PyData.tuple [numD (twoF r).1, numD (twoF r).2])) = ps.map pairD ∧ (ps.all fun p => !decide (p.1 = p.2) && (decide (p.1 < n) && decide (p.2 < n))) = true
  | [], n, _, _ => ⟨[], rfl, rfl, rfl⟩
  | r :: rs, n, h2, hg => by
    obtain ⟨ps, e1, e2, e3⟩ := rowsF_good (n := n) (fun x hx => h2 x (List.mem_cons_of_mem _ hx)) fun x hx => hg x (List.mem_cons_of_mem _ hx)
    obtain ⟨a, b, hs⟩ := two_of (h2 r (List.mem_cons_self ..))
    have g := hg r (List.mem_cons_self ..)
    have et : twoF r = (numF a, numF b) := by unfold twoF; rw [hs]
    rw [et] at g
    unfold goodP at g
    cases ea : numF a with
    | none => rw [ea] at g; cases g
    | some x =>
      cases eb : numF b with
      | none => rw [ea, eb] at g; cases g
      | some y =>
        rw [ea, eb] at g
        have er : rowF r = some (x, y) := by unfold rowF; rw [hs]; dsimp only; rw [ea, eb]
        refine ⟨(x, y) :: ps, by unfold rowsF; rw [er, e1], ?_, ?_⟩
        · rw [List.map_cons, List.map_cons, e2, et, ea, eb]
          rfl
        · rw [List.all_cons, e3]
          simpa using g
theorem rowsF_bad : ∀ {rs : List Str} {n : Int}, (∀ r ∈ rs, twoB r = true) → (∃ r ∈ rs, goodP n (twoF r) = false) → ∀ ps, rowsF rs = some ps → (ps.all fun p => !decide (p.1 = p.2) && (decide (p.1 < n) && decide (p.2 < n))) = false
  | [], n, _, h => by obtain ⟨r, hr, _⟩ := h; cases hr
  | r :: rs, n, h2, h => fun ps hp => by
    obtain ⟨a, b, hs⟩ := two_of (h2 r (List.mem_cons_self ..))
    have et : twoF r = (numF a, numF b) := by unfold twoF; rw [hs]
    unfold rowsF at hp
    cases e1 : rowF r with
    | none => rw [e1] at hp; cases hp
    | some p =>
      rw [e1] at hp
      cases e2 : rowsF rs with
      | none => rw [e2] at hp; cases hp
      | some qs =>
        rw [e2] at hp
        cases hp
        rw [List.all_cons]
        obtain ⟨a', b', hs', ha, hb⟩ := rowF_some e1
        rw [hs] at hs'
        cases hs'
        obtain ⟨x, hx, hf⟩ := h
        rcases List.mem_cons.mp hx with rfl | hx
        · rw [et, ha, hb] at hf
          have hf : (!decide (p.1 = p.2) && (decide (p.1 < n) && decide (p.2 < n))) = false := hf
          rw [hf]
          rfl
        · rw [rowsF_bad (fun y hy => h2 y (List.mem_cons_of_mem _ hy)) ⟨x, hx, hf⟩ qs e2, Bool.and_false]
section
variable {P : Program} {w : World} {K : PySem.W.Frag} {mg : Str → Option Value} {base : Heap} {C C_BadText : Addr}
abbrev wordsL (r : Str) : PyData := .list ((Txt.split r spS).map .str)
abbrev spWRead (K : PySem.W.Frag) : Sp := Fp K (fun t : Str => t.length ≤ 1000 ∧ asc t) (fun t => [dat K (.str t)]) (fun t => readD (readF t))
theorem ev_optN {B F0 : Hp} {ρ : List Sl} {ta tb : TE} {o : Option Int} (ha : EvH B F0 ρ ta (dat K (numD o))) (hb : EvH B F0 ρ tb (dat K .none)) : Ev B F0 ρ (tOp (fun x y H Q => y = .non ∧ Q (.bl (decide (x = .non))) H) ta tb) (nwd K B (.bool o.isNone)) := by
  cases o with
  | none => exact ev_isN (d := .none) ha hb fun F v p => by cases p; rfl
  | some k => exact ev_isN (d := .int k) ha hb fun F v p => by cases p; rfl
theorem ok_wread (Z : Zs mg) (G_w_number : Ok P w K mg base CX0 1 "_law_number" ["_law_word_here"] (spWNum K)) (D : Dfn K mg "_law_read" "_law_read" s_w_read ["_law_text_here"]) : Ok P w K mg base CX0 2 "_law_read" ["_law_text_here"] (spWRead K) := by
  refine fp_ok D sc_w_read (by decide) (fun _ => rfl) (fun _ => stab1 st_dat) (fun f cdv A outer s H E hr => ⟨_, (pss_cons (ps_setLc (i := 1) (own := [("_law_row", 2)]) (tt := tYes) rfl sc_w_read.nd rfl rfl (sw_true rfl rfl rfl (by decide +kernel)) (kpi_list K (pe_split (pv 0) pe_str)) (blkOk_by (by dsimp only [cxOf, Cx.nox, Cx.wish, Cx.blk, compEnvC, envOfC]; (try (rw [relabel_eq]; dsimp only)); decide +kernel)) (fun _ _ _ _ _ => (pg_name (i := 2) sc_w_read.nd rfl (Or.inl rfl))) (fun _ _ _ _ _ => pts_nil) (fun _ _ _ _ _ => (pe_split (pv 2) pe_str)))
    (pss_cons (ps_if (PW.pt (pw_or (pt_cmpR op_ne (pe_ix (kix_list K) (pe_ix (kix_list K) (pv 1) pe_int (fun _ _ => rfl)) pe_int (fun _ _ => rfl)) pe_str (nomark _)) (pw_or (pt_cmpR (kop_neD K (by exact hr.units)) (pe_lc (own := [("_law_row", 2)]) rfl sc_w_read.nd (kpi_list K (pv 1)) (blkOk_by (by dsimp only [cxOf, Cx.nox, Cx.wish, Cx.blk, compEnvC, envOfC]; (try (rw [relabel_eq]; dsimp only)); decide +kernel)) (fun _ _ _ _ _ => (pg_name (i := 2) sc_w_read.nd rfl (Or.inl rfl))) (fun _ _ _ _ _ => (pts_one (pt_cmpR op_ne (pe_callB (kcall_len_seq K) (by rfl) Z.len PySem.boot_len (pa_cons (pv 2) pa_nil)) pe_int (nomark _)))) (fun _ _ _ _ _ => (pv 2))) (pe_lst pa_nil) (nomark _)) (pw_or1 (pt_cmpR op_gt (pe_callB (kcall_len_seq K) (by rfl) Z.len PySem.boot_len (pa_cons (pv 1) pa_nil)) pe_int (nomark _)))))) (pss_one (ps_ret pe_non)) pss_nil)
    (pss_cons (ps_set (i := 3) sc_w_read.nd rfl (Or.inl rfl) (ok_call G_w_number (by exact hr.mono (by decide)) rfl (pa_cons (pe_ix (kix_list K) (pe_ix (kix_list K) (pv 1) pe_int (fun _ _ => rfl)) pe_int (fun _ _ => rfl)) pa_nil)))
    (pss_cons (ps_if (PW.pt (pw_or (pt_cmpR op_isN (pv 3) pe_non (nomark _)) (pw_or1 (pt_not (pt_chain op_le op_le pe_int (pv 3) pe_int))))) (pss_one (ps_ret pe_non)) pss_nil)
    (pss_cons (ps_setLc (i := 4) (own := [("_law_row", 2)]) (tt := tYes) rfl sc_w_read.nd rfl rfl (sw_true rfl rfl rfl (by decide +kernel)) (kpi_list K (pe_slice (ksl_list K) (pv 1) (po_some pe_int) po_none)) (blkOk_by (by dsimp only [cxOf, Cx.nox, Cx.wish, Cx.blk, compEnvC, envOfC]; (try (rw [relabel_eq]; dsimp only)); decide +kernel)) (fun _ _ _ _ _ => (pg_name (i := 2) sc_w_read.nd rfl (Or.inl rfl))) (fun _ _ _ _ _ => pts_nil) (fun _ _ _ _ _ => (pe_tup (pa_cons (ok_call G_w_number (by exact hr.mono (by decide)) rfl (pa_cons (pe_ix (kix_list K) (pv 2) pe_int (fun _ _ => rfl)) pa_nil)) (pa_cons (ok_call G_w_number (by exact hr.mono (by decide)) rfl (pa_cons (pe_ix (kix_list K) (pv 2) pe_int (fun _ _ => rfl)) pa_nil)) pa_nil)))))
    (pss_cons (ps_for PassesOwn.never rfl (kpi_list K (pv 4)) (kpg_tup K 2 rfl (pgs_cons (pg_name (i := 5) sc_w_read.nd rfl (Or.inl rfl)) (pgs_cons (pg_name (i := 6) sc_w_read.nd rfl (Or.inl rfl)) pgs_nil)))
      (pss_one (ps_if (PW.pt (pw_or (pt_cmpR op_isN (pv 5) pe_non (nomark _)) (pw_or (pt_cmpR op_isN (pv 6) pe_non (nomark _)) (pw_or (pt_cmpR op_eq (pv 5) (pv 6) (nomark _)) (pw_or1 (pt_cmpR op_ge (pe_callB (call_max2 rfl) (by rfl) Z.max (by decide +kernel) (pa_cons (pv 5) (pa_cons (pv 6) pa_nil))) (pv 3) (nomark _))))))) (pss_one (ps_ret pe_non)) pss_nil)))
    (pss_one (ps_ret (pe_tup (pa_cons (pv 3) (pa_cons (pv 4) pa_nil))))))))))), ?_⟩)
  rintro t ⟨hw, ha⟩ Q q
  have I := nl_i (t := t)
  walk_at "go"
  have hpl : ∀ p ∈ Txt.split t nlS, p.length ≤ 1000 ∧ asc p := fun p hp => ⟨Nat.le_trans (I.plen p hp) hw, asc_part I ha hp⟩
  have hll := I.len
  have hne := I.ne
  generalize hrows : Txt.split t nlS = rows at hpl hll hne
  have hwl : ∀ r ∈ rows, (Txt.split r spS).length ≤ 1001 ∧ ∀ x ∈ Txt.split r spS, x.length ≤ 1000 ∧ asc x := fun r hr => by
    have J := sp_i (t := r)
    obtain ⟨l1, l2⟩ := hpl r hr
    exact ⟨Nat.le_trans J.len (by omega), fun x hx => ⟨Nat.le_trans (J.plen x hx) l1, asc_part J l2 hx⟩⟩
  have oks : ∀ r ∈ rows, okS 1 (wordsL r) := fun r hr => okS_list (n := 0) fun d hd => by
    obtain ⟨x, hx, rfl⟩ := List.mem_map.mp hd
    exact ⟨by rw [PyData.canLay0]; exact asc_ok ((hwl r hr).2 x hx).2, by rw [PyData.depth]; exact Nat.le_refl _⟩
  refine q_set K (d := .list (rows.map wordsL)) ?a1 ?a2
  case a1 =>
    refine ev_is (d := .list ((rows.filter fun _ => true).map wordsL)) (EvM.nw (evm_lc (xs := rows) (e := PyData.str) (q := nwd K H) (fun _ => true) wordsL ?b1 (fun F1 r hr => ?b2) (by omega))) (by rw [List.filter_eq_self.mpr fun _ _ => rfl])
    case b1 => rw [← hrows]; exact evj_list (EvM.nw (evm_split (evh_var rfl rd_sa) (Ev.hd ev_str) (by decide +kernel) (by omega)))
    case b2 =>
      have := (hpl r hr).1
      exact ⟨_, _, bind_name st_nwd, by decide, fun F H σ c Q q => q F H (Gr.refl c.i), fun _ => EvM.nw (evm_split (evh_var rfl rd_sn) (Ev.hd ev_str) (by decide +kernel) (by omega))⟩
  case a2 =>
  match rows, hne, hrows, hpl, hwl, oks, hll with
  | r0 :: rs, _, hrows, hpl, hwl, oks, hll =>
  have J := sp_i (t := r0)
  match h0 : Txt.split r0 spS, J.ne with
  | a :: more, _ =>
  have e00 : atI ((r0 :: rs).map wordsL) 0 = some (wordsL r0) := atI_map wordsL (atI_nn (i := 0) (Int.le_refl 0) rfl)
  have ew0 : wordsL r0 = .list ((a :: more).map .str) := by unfold wordsL; rw [h0]
  have hl1 := ev_lenL (K := K) (B := H) (F0 := H) (ρ := [sa K (.str t), sn K H (.list ((r0 :: rs).map wordsL)), Sl.no, Sl.no, Sl.no, Sl.no, Sl.no]) (te := tVar 1) (ds := (r0 :: rs).map wordsL) (evh_var rfl rd_sn)
  rw [List.length_map] at hl1
  refine q_when (c := !decide (a = "places") || (!((r0 :: rs).all twoB) || decide ((61 : Int) < ((r0 :: rs).length : Int)))) ?b1 (fun z => ?b2) fun z => ?b3
  case b1 =>
    refine et_or (et_test (K := K) (Ev.hd (ev_neS (evh_ixL (i := 0) (ds := (a :: more).map .str) (d := .str a) (evh_ixL (i := 0) (evh_var rfl rd_sn) (Ev.hd ev_int) (by rw [← ew0]; exact e00)) (Ev.hd ev_int) (atI_map PyData.str (atI_nn (i := 0) (Int.le_refl 0) rfl))) (Ev.hd ev_str)))) fun _ => et_or (et_is (et_test (K := K) (Ev.hd (ev_neNil (ds := ((r0 :: rs).filter fun r => !twoB r).map wordsL) (Ev.hd (EvM.nw (evm_lc (xs := r0 :: rs) (e := wordsL) (q := nwd K H) (fun r => !twoB r) wordsL (evj_list (ev_var rfl)) (fun F1 r hr => ⟨_, _, bind_name st_nwd, by decide, ?c1, fun _ => ev_var rfl⟩) (by omega)))) ?c2))) ?c3) fun _ => et_test (K := K) (Ev.hd (ev_ib (Ev.hd hl1) (Ev.hd ev_int) rfl))
    case c1 =>
      have h := ev_lenL (K := K) (B := H) (F0 := F1) (ρ := (wipeR [sa K (.str t), sn K H (.list ((r0 :: rs).map wordsL)), Sl.no, Sl.no, Sl.no, Sl.no, Sl.no] [2]).set 2 (sn K H (wordsL r))) (te := tVar 2) (ds := (Txt.split r spS).map .str) (evh_var rfl rd_sn)
      rw [List.length_map] at h
      refine et_is (et_test (K := K) (Ev.hd (ev_neI (Ev.hd h) (Ev.hd ev_int)))) ?_
      unfold twoB
      congr 1
      by_cases h : (Txt.split r spS).length = 2
      · rw [decide_eq_true h, decide_eq_true (by omega)]
      · rw [decide_eq_false h, decide_eq_false (by omega)]
    case c2 =>
      refine (okS_list (n := 1) fun d hd => ?_).mono (by decide)
      obtain ⟨r, hr, rfl⟩ := List.mem_map.mp hd
      exact oks r (List.mem_filter.mp hr).1
    case c3 =>
      have key : ∀ {l : List Str}, ((l.filter fun r => !twoB r).map wordsL).isEmpty = l.all twoB := by
        intro l
        induction l with
        | nil => rfl
        | cons c r ih =>
          rw [List.filter_cons, List.all_cons]
          cases h : twoB c
          · simp
          · simpa using ih
      rw [key]
  case b2 =>
    have no : readF t = none := by
      unfold readF
      rw [hrows]
      dsimp only
      rw [h0]
      rcases Bool.or_eq_true_iff.mp z with z | z
      · have z : a ≠ "places" := by simpa using z
        match more with
        | [b] => dsimp only; rw [if_neg z]
        | [] => rfl
        | _ :: _ :: _ => rfl
      · rcases Bool.or_eq_true_iff.mp z with z | z
        · have z := not_f z
          rw [List.all_cons] at z
          by_cases hz : twoB r0 = true
          rotate_left
          · have z : twoB r0 = false := by simpa using hz
            unfold twoB at z
            rw [h0] at z
            match more, z with
            | [b], z => simp at z
            | [], _ => rfl
            | _ :: _ :: _, _ => rfl
          · rw [hz, Bool.true_and] at z
            have ⟨x, hx, hf⟩ : ∃ x ∈ rs, twoB x = false := by simpa [List.all_eq_false] using z
            match more with
            | [b] =>
              dsimp only
              rw [rowsF_two ⟨x, hx, hf⟩]
              split
              · cases numF b <;> rfl
              · rfl
            | [] => rfl
            | _ :: _ :: _ => rfl
        · have z := of_decide_eq_true z
          match more with
          | [b] =>
            dsimp only
            split
            · cases numF b with
              | none => rfl
              | some n =>
                cases hp : rowsF rs with
                | none => rfl
                | some ps =>
                  dsimp only
                  have := rowsF_len hp
                  rw [List.length_cons] at z
                  rw [if_neg]
                  simp
                  intros
                  omega
            · rfl
          | [] => rfl
          | _ :: _ :: _ => rfl
    exact at_ret (K := K) (d := .none) ev_non fun v H' s n => q v H' s (by rw [no]; exact n)
  case b3 =>
  have z1 : a = "places" := by
    have := (Bool.or_eq_false_iff.mp z).1
    simpa using this
  have z2 : (r0 :: rs).all twoB = true := by
    have := (Bool.or_eq_false_iff.mp (Bool.or_eq_false_iff.mp z).2).1
    simpa using this
  have z3 : rs.length ≤ 60 := by
    have := of_decide_eq_false (Bool.or_eq_false_iff.mp (Bool.or_eq_false_iff.mp z).2).2
    rw [List.length_cons] at this
    omega
  have two0 : twoB r0 = true := List.all_eq_true.mp z2 r0 (List.mem_cons_self ..)
  have twos : ∀ r ∈ rs, twoB r = true := fun r hr => List.all_eq_true.mp z2 r (List.mem_cons_of_mem _ hr)
  obtain ⟨a', b, hab⟩ := two_of two0
  rw [h0] at hab
  cases hab
  have hbw := (hwl r0 (List.mem_cons_self ..)).2 b (by rw [h0]; simp)
  have er : readF t = match numF b, rowsF rs with | some n, some ps => if (decide (1 ≤ n) && decide (n ≤ 16)) && (decide (ps.length ≤ 60) && ps.all fun p => !decide (p.1 = p.2) && (decide (p.1 < n) && decide (p.2 < n))) then some (n, ps) else none | _, _ => none := by
    unfold readF
    rw [hrows]
    dsimp only
    rw [h0]
    dsimp only
    rw [if_pos z1]
    all_goals rfl
  refine q_set K (d := numD (numF b)) (ev_call (α := Str) b ⟨hbw.1, hbw.2⟩ (ea_cons st_dat (evh_ixL (i := 1) (ds := [.str a, .str b]) (d := .str b) (evh_ixL (i := 0) (evh_var rfl rd_sn) (Ev.hd ev_int) (by rw [e00, ew0]; rfl)) (Ev.hd ev_int) rfl) ea_nil)) ?_
  cases hn : numF b with
  | none =>
    rw [hn] at er
    exact q_when (c := true) (et_is (et_or (a := true) (c := true) (et_test (K := K) (Ev.hd (ev_optN (o := none) (evh_var rfl rd_sn) (Ev.hd ev_non)))) fun y => by cases y) rfl) (fun _ => at_ret (K := K) (d := .none) ev_non fun v H' s n => q v H' s (by rw [er]; exact n)) fun y => by cases y
  | some n =>
  rw [hn] at er
  refine q_when (c := !(decide (1 ≤ n) && decide (n ≤ 16))) (et_is (et_or (a := false) (c := !(decide (1 ≤ n) && decide (n ≤ 16))) (et_test (K := K) (Ev.hd (ev_optN (o := some n) (evh_var rfl rd_sn) (Ev.hd ev_non)))) fun _ => et_not (et_test (K := K) (Ev.hd (ev_chain (Ev.hd ev_int) (evh_var (d := .int n) rfl rd_sn) (Ev.hd ev_int))))) rfl) (fun y => ?c1) fun y => ?c2
  case c1 =>
    have y := not_f y
    have no : readF t = none := by
      rw [er]
      cases rowsF rs with
      | none => rfl
      | some ps => dsimp only; rw [y]; rfl
    exact at_ret (K := K) (d := .none) ev_non fun v H' s n => q v H' s (by rw [no]; exact n)
  case c2 =>
  have y := not_t y
  refine q_set K (d := .list (rs.map fun r => .tuple [numD (twoF r).1, numD (twoF r).2])) ?d1 ?d2
  case d1 =>
    refine ev_is (d := .list ((rs.filter fun _ => true).map fun r => PyData.tuple [numD (twoF r).1, numD (twoF r).2])) (EvM.nw (evm_lc (xs := rs) (e := wordsL) (q := nwd K H) (fun _ => true) (fun r => PyData.tuple [numD (twoF r).1, numD (twoF r).2]) ?e1 (fun F1 r hr => ?e2) (by omega))) (by rw [List.filter_eq_self.mpr fun _ _ => rfl])
    case e1 =>
      have h := evm_sliceN (K := K) (B := H) (F0 := H) (ρ := ([sa K (.str t), sn K H (.list ((r0 :: rs).map wordsL)), Sl.no, Sl.no, Sl.no, Sl.no, Sl.no] : List Sl).set 3 (sn K H (.int n))) (te := tVar 1) (ds := (r0 :: rs).map wordsL) (lo := some 1) (hi := none) (Ev.n (ev_var rfl)) (eo_some (Ev.hd ev_int)) eo_none
      rw [cut_drop wordsL (r0 :: rs) (i := 1) (by decide)] at h
      exact evj_list (EvM.nw h)
    case e2 =>
      obtain ⟨x, y, hxy⟩ := two_of (twos r hr)
      have hh := (hwl r (List.mem_cons_of_mem _ hr)).2
      have hx := hh x (by rw [hxy]; simp)
      have hy := hh y (by rw [hxy]; simp)
      have et : twoF r = (numF x, numF y) := by unfold twoF; rw [hxy]
      have ew : wordsL r = .list [.str x, .str y] := by unfold wordsL; rw [hxy]; rfl
      rw [et, ew]
      exact ⟨_, _, bind_name st_nwd, by decide, fun F H σ c Q q => q F H (Gr.refl c.i), fun _ => ev_tup (eas_cons (ev_call (α := Str) x hx (ea_cons st_dat (evh_ixL (i := 0) (ds := [.str x, .str y]) (d := .str x) (evh_var rfl rd_sn) (Ev.hd ev_int) rfl) ea_nil)) (eas_cons (ev_call (α := Str) y hy (ea_cons st_dat (evh_ixL (i := 1) (ds := [.str x, .str y]) (d := .str y) (evh_var rfl rd_sn) (Ev.hd ev_int) rfl) ea_nil)) eas_nil)) (by simp)⟩
  case d2 =>
  have bad : (∃ r ∈ rs, goodP n (twoF r) = false) → readF t = none := fun h => by
    rw [er]
    cases hp : rowsF rs with
    | none => rfl
    | some ps =>
      dsimp only
      rw [rowsF_bad twos h ps hp, Bool.and_false, Bool.and_false]
      rfl
  refine q_for (xs := rs) (e := fun r => .tuple [numD (twoF r).1, numD (twoF r).2]) (q := nwd K H) (EvJ.i (evj_list (ev_var rfl)))
    (fun pre ρ' => ∃ s5 s6, (∀ r ∈ pre, goodP n (twoF r) = true) ∧ ρ' = [sa K (.str t), sn K H (.list ((r0 :: rs).map wordsL)), Sl.no, sn K H (.int n), sn K H (.list (rs.map fun r => .tuple [numD (twoF r).1, numD (twoF r).2])), s5, s6]) ⟨_, _, fun r hr => (by cases hr), rfl⟩ ?f1 ?f2
  case f1 =>
    rintro F1 pre r post ρ' hx ⟨s5, s6, hg, rfl⟩
    have hr : r ∈ rs := by rw [hx]; simp
    refine ⟨_, _, bind_tup (bindl_cons (bind_name st_nwd) (bindl_cons (bind_name st_nwd) bindl_nil)) rfl, ?_⟩
    refine at_when (c := !goodP n (twoF r)) ?g1 (fun z => at_ret (K := K) (d := .none) ev_non fun v H' s n' => q v H' s (by rw [bad ⟨r, hr, by simpa using z⟩]; exact n')) (fun z => at_nxt (at_lp ⟨_, _, fun x hx => ?g2, rfl⟩))
    case g2 =>
      rcases List.mem_append.mp hx with hx | hx
      · exact hg x hx
      · rw [List.mem_singleton.mp hx]; simpa using z
    case g1 =>
      generalize twoF r = p
      obtain ⟨p1, p2⟩ := p
      cases p1 with
      | none => exact et_is (et_or (a := true) (c := true) (et_test (K := K) (Ev.hd (ev_optN (o := none) (evh_var rfl rd_sn) (Ev.hd ev_non)))) fun y => by cases y) rfl
      | some x =>
        cases p2 with
        | none => exact et_is (et_or (a := false) (c := true) (et_test (K := K) (Ev.hd (ev_optN (o := some x) (evh_var rfl rd_sn) (Ev.hd ev_non)))) fun _ => et_is (et_or (a := true) (c := true) (et_test (K := K) (Ev.hd (ev_optN (o := none) (evh_var rfl rd_sn) (Ev.hd ev_non)))) fun y => by cases y) rfl) rfl
        | some y =>
          refine et_is (et_or (a := false) (c := decide (x = y) || decide (n ≤ max x y)) (et_test (K := K) (Ev.hd (ev_optN (o := some x) (evh_var rfl rd_sn) (Ev.hd ev_non)))) fun _ => et_is (et_or (a := false) (c := decide (x = y) || decide (n ≤ max x y)) (et_test (K := K) (Ev.hd (ev_optN (o := some y) (evh_var rfl rd_sn) (Ev.hd ev_non)))) fun _ => et_or (et_test (K := K) (Ev.hd (ev_eqI (evh_var (d := .int x) rfl rd_sn) (evh_var (d := .int y) rfl rd_sn)))) fun _ => et_test (K := K) (Ev.hd (ev_ib (Ev.hd (ev_max2 (evh_var (d := .int x) rfl rd_sn) (evh_var (d := .int y) rfl rd_sn))) (evh_var (d := .int n) rfl rd_sn) rfl))) rfl) ?_
          show (false || (decide (x = y) || decide (n ≤ max x y))) = !(!decide (x = y) && (decide (x < n) && decide (y < n)))
          have hm : n ≤ max x y ↔ ¬ (x < n ∧ y < n) := by rw [Int.max_def]; split <;> omega
          by_cases h1 : x = y
          · simp [h1]
          · by_cases h2 : x < n ∧ y < n
            · have h3 : ¬ n ≤ max x y := fun z => (hm.mp z) h2
              simp [h1, h2.1, h2.2, h3]
            · have h3 : n ≤ max x y := hm.mpr h2
              rw [decide_eq_false h1, decide_eq_true h3]
              by_cases h4 : x < n
              · have h5 : ¬ y < n := fun z => h2 ⟨h4, z⟩
                simp [h5]
              · simp [h4]
  case f2 =>
    rintro ρ' ⟨s5, s6, hg, rfl⟩
    obtain ⟨ps, e1, e2, e3⟩ := rowsF_good twos hg
    have yes : readF t = some (n, ps) := by
      rw [er, e1]
      dsimp only
      rw [y, e3, decide_eq_true (by rw [rowsF_len e1]; exact z3)]
      rfl
    rw [e2]
    exact at_ret (K := K) (d := .tuple [.int n, .list (ps.map pairD)]) (ev_tup (eas_cons (ev_var rfl) (eas_cons (ev_var rfl) eas_nil)) (by simp)) fun v H' s n' => q v H' s (by rw [yes]; exact n')
end

abbrev s_read : Stmt := top 19
theorem sc_read : FnScope ["text", "rows", "words", "many", "pairs", "row", "wrong", "found", "one", "other", "error"] ["text"] (defScope s_read) := ⟨rfl, rfl, rfl, by decide +kernel, rfl, by decide +kernel, by decide +kernel⟩
/-- what is wanted of an exception within try, whatever the slots hold -/
def EW (W : WX) : XK := fun cls d H => ∀ σ : L2.St, W cls d σ H
theorem takes_ew {X : Cx} {W : WX} (tk : Takes X W) : Takes X (fun cls d _ H => EW W cls d H) := tk.imp fun _ _ σ _ h => h σ
/-- the town at t, its dict at d -/
def TAt (K : PySem.W.Frag) (C : Addr) (st : TSt) (t d : Addr) (H : Hp) : Prop := ∃ dx kv, H t = some (.ins C dx (tf st.many st.built d)) ∧ H d = some (.dK kv) ∧ KvAll K e0 H kv (heldD st.held)
def townOf (n : Int) (ps : List (Int × Int)) : TSt := ⟨n, ps.length, ps.zipIdx.map fun p => ((p.2 : Int), p.1)⟩
def spRead (K : PySem.W.Frag) (C CX : Addr) : Sp := fun vs H Q E => ∃ v0, AOk [kdP K v0] H vs ∧ (∀ t, v0 = .str t → t.length ≤ 1000) ∧
  (∀ t n ps, v0 = .str t → readF t = some (n, ps) → ∀ tt d H', Same H H' → H tt = none → H d = none → TAt K C (townOf n ps) tt d H' → Q (.ref tt) H') ∧ ((∀ t p, v0 = .str t → readF t ≠ some p) → ∀ H', Same H H' → E (.ref CX) none H')
def isS : V → Bool
  | .str _ => true
  | _ => false
theorem isi_str {K : PySem.W.Frag} {v : V} {H : Hp} (k : Kd K H v) : ∃ t, TyX K H v t ∧ PySem.W.kitOne K t (.type "str") = some (isS v) := by
  rcases kd_ty k with ⟨rfl, t⟩ | ⟨b, rfl, t⟩ | ⟨i, rfl, t⟩ | ⟨x, rfl, t⟩ | ⟨a, rfl, ⟨_, t⟩ | ⟨_, t⟩ | t⟩
  all_goals exact ⟨_, t, kb (by dsimp only [isS]; decide +kernel)⟩
theorem townOf_ok {n : Int} {ps : List (Int × Int)} (h1 : 1 ≤ n) (h2 : n ≤ 16) (hl : ps.length ≤ 60) (hp : ∀ p ∈ ps, 0 ≤ p.1 ∧ p.1 < n ∧ 0 ≤ p.2 ∧ p.2 < n ∧ p.1 ≠ p.2) : TOk (townOf n ps) := by
  have rng : ∀ r ∈ (townOf n ps).held, ∃ (k : Nat) (p : Int × Int), r = ((k : Int), p) ∧ k < ps.length ∧ p ∈ ps := fun r hr => by
    obtain ⟨⟨p, k⟩, hq, rfl⟩ := List.mem_map.mp hr
    obtain ⟨i, hi, e⟩ := List.mem_iff_getElem.mp hq
    have hi2 : i < ps.length := by simpa using hi
    rw [List.getElem_zipIdx] at e
    cases e
    exact ⟨_, _, rfl, by omega, List.getElem_mem hi2⟩
  refine ⟨h1, h2, by unfold townOf; simp, by unfold townOf; simp; omega, ?_, fun r hr => ?_, by unfold townOf; rw [List.length_map, List.length_zipIdx]; exact hl⟩
  · show (ps.zipIdx.map fun p => ((p.2 : Int), p.1)).Pairwise fun p q => p.1 < q.1
    rw [List.pairwise_iff_getElem]
    intro i j hi hj hij
    simp
    omega
  · obtain ⟨k, p, rfl, hk, hm⟩ := rng r hr
    have := hp p hm
    refine ⟨by show 0 ≤ (k : Int); omega, ?_, this.1, this.2.1, this.2.2.1, this.2.2.2.1, this.2.2.2.2⟩
    show (k : Int) < (ps.length : Int)
    omega
theorem townOf_snoc {n : Int} {ps : List (Int × Int)} {p : Int × Int} : townOf n (ps ++ [p]) = { many := (townOf n ps).many, built := (townOf n ps).built + 1, held := (townOf n ps).held ++ [((townOf n ps).built, p.1, p.2)] } := by
  unfold townOf
  rw [List.zipIdx_append, List.map_append, List.length_append]
  simp
section
variable {K : PySem.W.Frag} {B F0 : Hp} {ρ : List Sl} {te ta tb : TE} {D : Ends} {u : TS} {C : Addr} {st : TSt}
theorem evh_kdS {i : Nat} {t : Str} (h : ρ[i]? = some (.fz (kdP K (.str t)))) : EvH B F0 ρ (tVar i) (dat K (.str t)) := fun F H σ c Q q => by
  obtain ⟨w, o⟩ := c.own
  obtain ⟨_, v, h1, h2, _⟩ := o.sl i _ h
  subst h2
  exact ⟨_, h1, q _ F H (Gr.refl c.i) (.str t)⟩
theorem at_retTown {i : Nat} (h : ρ[i]? = some (mt K C st)) (k : ∀ tt d H', Same B H' → B tt = none → B d = none → TAt K C st tt d H' → D.rt (.ref tt) H') : At B F0 (tRet (tVar i) D) ρ := fun F H σ c => by
  obtain ⟨w, o⟩ := c.own
  obtain ⟨_, v, h1, t, dx, d, kv, rfl, ea, h4, h5, h6⟩ := o.sl i _ h
  exact ⟨_, h1, k t d H c.gr.h (o.at_ i t (by rw [ea]; simp)).2.1 (o.at_ i d (by rw [ea]; simp)).2.1 ⟨dx, kv, h4, h5, kvAll_mono c.i h6⟩⟩
theorem at_evr {t : XK → TE} {cls : Addr} {E : XK} (h : EvR B F0 ρ t cls) (hE : ∀ H', Same B H' → E (.ref cls) none H') : EvB B F0 ρ (t E) := fun F H σ c Q => h F H σ c E Q fun F' H' c' => hE H' c'.gr.h
end
theorem rowsF_map : ∀ {rs : List Str} {ps : List (Int × Int)}, rowsF rs = some ps → (rs.map fun r => pairD ((rowF r).getD (0, 0))) = ps.map pairD
  | [], ps, h => by cases h; rfl
  | r :: rs, ps, h => by
    unfold rowsF at h
    cases e1 : rowF r with
    | none => rw [e1] at h; cases h
    | some p =>
      rw [e1] at h
      cases e2 : rowsF rs with
      | none => rw [e2] at h; cases h
      | some qs =>
        rw [e2] at h
        cases h
        rw [List.map_cons, List.map_cons, rowsF_map e2, e1]
        rfl
theorem rowsF_pos : ∀ {rs : List Str} {ps : List (Int × Int)}, rowsF rs = some ps → ∀ p ∈ ps, 0 ≤ p.1 ∧ 0 ≤ p.2
  | [], ps, h => by cases h; intro p hp; cases hp
  | r :: rs, ps, h => by
    unfold rowsF at h
    cases e1 : rowF r with
    | none => rw [e1] at h; cases h
    | some p =>
      rw [e1] at h
      cases e2 : rowsF rs with
      | none => rw [e2] at h; cases h
      | some qs =>
        rw [e2] at h
        cases h
        intro q hq
        rcases List.mem_cons.mp hq with rfl | hq
        · obtain ⟨a, b, _, ha, hb⟩ := rowF_some e1
          obtain ⟨_, _, k1, _⟩ := numF_some ha
          obtain ⟨_, _, k2, _⟩ := numF_some hb
          exact ⟨k1, k2⟩
        · exact rowsF_pos e2 q hq
section
variable {P : Program} {w : World} {K : PySem.W.Frag} {mg : Str → Option Value} {base : Heap} {C C_BadText C_BadCount C_BadPlace C_TooMany C_TownError : Addr}
theorem ok_read (Z : Zs mg) (T : TownTxt K mg C) (X_BadText : XCls K mg "BadText" C_BadText) (gTE : mg "TownError" = some (.ref C_TownError)) (xC : PySem.W.exmOne K (.ref C_BadCount) (.ref C_TownError) = some true) (xP : PySem.W.exmOne K (.ref C_BadPlace) (.ref C_TownError) = some true) (xM : PySem.W.exmOne K (.ref C_TooMany) (.ref C_TownError) = some true)
    (G_number_in : Ok P w K mg base (L2.CX P w) 1 "number_in" ["word"] (spNumIn K C_BadText)) (G_pair_in : Ok P w K mg base (L2.CX P w) 2 "pair_in" ["row"] (spPairIn K C_BadText)) (MK_Town : OkMk P w K mg base (L2.CX P w) 2 "Town" C ["self", "many"] (spInit K C C_BadCount)) (M_build : OkM P w K mg base (L2.CX P w) 3 C "build" ["self", "one", "other"] (spBuild K C C_BadPlace C_TooMany))
    (D : Dfn K mg "read" "read" s_read ["text"]) : Ok P w K mg base (L2.CX P w) 4 "read" ["text"] (spRead K C C_BadText) := by
  obtain ⟨f, fd, F, hg, hb⟩ := D.ex
  refine ⟨f, fd, F.okX sc_read (fun vs H Q E h => ?_) (fun cdv A outer s H vs Q E hr h => ?_), hg, F.kp, hb⟩
  · obtain ⟨v0, h, _⟩ := h
    rw [aok_len h]; rfl
  obtain ⟨v0, ha, hw, q1, q2⟩ := h
  refine ⟨_, (pss_cons (ps_if (pt_not (pt_val (pe_callB (kcall_isi K) (by rfl) Z.isinstance (by decide +kernel) (pa_cons (pv 0) (pa_cons (pe_bltn (v := .ty "str") (by rfl) Z.str (by decide +kernel) rfl) pa_nil))))) (pss_one (ps_raise rfl (takes_of rfl rfl rfl rfl) (pmk_own PySem.F.excBase_ValueError X_BadText.x X_BadText.g X_BadText.k (raises_own X_BadText.b X_BadText.t) rfl))) pss_nil)
    (pss_cons (ps_set (i := 1) sc_read.nd rfl (Or.inl rfl) (pe_split (pv 0) pe_str))
    (pss_cons (ps_set (i := 2) sc_read.nd rfl (Or.inl rfl) (pe_split (pe_ix (kix_list K) (pv 1) pe_int (fun _ _ => rfl)) pe_str))
    (pss_cons (ps_if (PW.pt (pw_or (pt_cmpR op_ne (pe_callB (kcall_len_seq K) (by rfl) Z.len PySem.boot_len (pa_cons (pv 2) pa_nil)) pe_int (nomark _)) (pw_or1 (pt_cmpR op_ne (pe_ix (kix_list K) (pv 2) pe_int (fun _ _ => rfl)) pe_str (nomark _))))) (pss_one (ps_raise rfl (takes_of rfl rfl rfl rfl) (pmk_own PySem.F.excBase_ValueError X_BadText.x X_BadText.g X_BadText.k (raises_own X_BadText.b X_BadText.t) rfl))) pss_nil)
    (pss_cons (ps_set (i := 3) sc_read.nd rfl (Or.inl rfl) (ok_callP (takes_of rfl rfl rfl rfl) G_number_in (by exact hr.mono (by decide)) rfl (pa_cons (pe_ix (kix_list K) (pv 2) pe_int (fun _ _ => rfl)) pa_nil)))
    (pss_cons (ps_setLcX (i := 4) (takes_of rfl rfl rfl rfl) rfl rfl (own := [("row", 5)]) (tt := tYes) rfl sc_read.nd rfl rfl (sw_true rfl rfl rfl (by decide +kernel)) (kpi_list K (pe_slice (ksl_list K) (pv 1) (po_some pe_int) po_none)) (blkOk_by (by dsimp only [cxOf, Cx.nox, Cx.wish, Cx.blk, compEnvC, envOfC]; (try (rw [relabel_eq]; dsimp only)); decide +kernel)) (fun _ _ _ _ _ => (pg_name (i := 5) sc_read.nd rfl (Or.inl rfl))) (fun _ _ _ _ _ => pts_nil) (fun _ _ _ _ _ _ hp => (ok_callF hp G_pair_in (by exact hr.mono (by decide)) rfl (pa_cons (pv 5) pa_nil))))
    (pss_cons (ps_set (i := 6) sc_read.nd rfl (Or.inl rfl) pe_non)
    (pss_cons (ps_set (i := 7) sc_read.nd rfl (Or.inl rfl) pe_non)
    (pss_try_keep (i := 10) (c := .ref C_TownError) rfl rfl sc_read.nd rfl rfl ⟨rfl, by decide, .inl gTE⟩ (fun W pn xe tk po => (pss_cons (ps_set (i := 7) sc_read.nd rfl (Or.inl rfl) (ok_makeP (takes_ew tk) MK_Town (by exact hr.mono (by decide)) rfl (pa_cons (pv 3) pa_nil)))
    (pss_one (ps_for po rfl (kpi_list K (pv 4)) (kpg_tup K 2 rfl (pgs_cons (pg_name (i := 8) sc_read.nd rfl (Or.inl rfl)) (pgs_cons (pg_name (i := 9) sc_read.nd rfl (Or.inl rfl)) pgs_nil)))
      (pss_one (ps_expr (ok_methP (takes_ew tk) M_build (by exact hr.mono (by decide)) (pv 7) (pa_cons (pv 8) (pa_cons (pv 9) pa_nil))))))))) (fun a ob cls d pn hz hf => (pss_one (ps_set (i := 6) sc_read.nd rfl (Or.inl rfl) (pv 10)))) (pss_cons (ps_if (pt_cmpR op_notN (pv 6) pe_non (nomark _)) (pss_one (ps_raise rfl (takes_of rfl rfl rfl rfl) (pmk_own PySem.F.excBase_ValueError X_BadText.x X_BadText.g X_BadText.k (raises_own X_BadText.b X_BadText.t) rfl))) pss_nil)
    (pss_one (ps_ret (pv 7)))) (fun a ob cls d pn hz hf => (pss_cons (ps_if (pt_cmpR op_notN (pv 6) pe_non (nomark _)) (pss_one (ps_raise rfl (takes_of rfl rfl rfl rfl) (pmk_own PySem.F.excBase_ValueError X_BadText.x X_BadText.g X_BadText.k (raises_own X_BadText.b X_BadText.t) rfl))) pss_nil)
    (pss_one (ps_ret (pv 7)))))))))))))), ?_⟩
  refine at_enter ha (stab1 st_kdP) (by simp) ?_
  walk_at "go"
  refine q_when (c := !isS v0) (et_not (et_B (K := K) (Ev.hd (ev_isi (v := v0) (n := "str") (evh_fz st_kdP rfl) fun H k => isi_str k)))) (fun z => ?a1) fun z => ?a2
  case a1 => exact fun F H' σ c => q2 (fun t p e => by rw [e] at z; cases z) H' c.gr.h
  case a2 =>
  have z := not_t z
  match v0, z, ha, hw, q1, q2 with
  | .str t, _, ha, hw, q1, q2 =>
  have hw := hw t rfl
  have q1 := fun n ps => q1 t n ps rfl
  have q2 : readF t = none → ∀ H', Same H H' → E (.ref C_BadText) none H' := fun e => q2 fun t' p e' => by cases e'; rw [e]; intro y; cases y
  have I := nl_i (t := t)
  have hpl : ∀ p ∈ Txt.split t nlS, p.length ≤ 1000 := fun p hp => Nat.le_trans (I.plen p hp) hw
  have hll := I.len
  have hne := I.ne
  refine q_setM K (ds := (Txt.split t nlS).map .str) (evm_split (evh_kdS rfl) (Ev.hd ev_str) (by decide +kernel) (by omega)) (at_fix (K := K) 1 rfl ?_)
  generalize hrows : Txt.split t nlS = rows at hpl hll hne
  match rows, hne, hrows, hpl, hll with
  | r0 :: rs, _, hrows, hpl, hll =>
  have J := sp_i (t := r0)
  have hr0 := hpl r0 (List.mem_cons_self ..)
  have hwl : ∀ x ∈ Txt.split r0 spS, x.length ≤ 1000 := fun x hx => Nat.le_trans (J.plen x hx) hr0
  refine q_setM K (ds := (Txt.split r0 spS).map .str) (evm_split (evh_ixL (i := 0) (ds := (r0 :: rs).map .str) (d := .str r0) (evh_var rfl rd_sn) (Ev.hd ev_int) (atI_map PyData.str (atI_nn (i := 0) (Int.le_refl 0) rfl))) (Ev.hd ev_str) (by decide +kernel) (by omega)) (at_fix (K := K) 2 rfl ?_)
  have hjn := J.ne
  generalize hws : Txt.split r0 spS = ws at hwl hjn
  match ws, hjn, hws, hwl with
  | a :: more, _, hws, hwl =>
  have hl1 := ev_lenL (K := K) (B := H) (F0 := H) (ρ := ((enterR 11 [kdP K (.str t)]).set 1 (sn K H (.list ((r0 :: rs).map .str)))).set 2 (sn K H (.list ((a :: more).map .str)))) (te := tVar 2) (ds := (a :: more).map .str) (evh_var rfl rd_sn)
  rw [List.length_map] at hl1
  refine q_when (c := !decide (((a :: more).length : Int) = 2) || !decide (a = "places")) (et_or (et_test (K := K) (Ev.hd (ev_neI (Ev.hd hl1) (Ev.hd ev_int)))) fun _ => et_test (K := K) (Ev.hd (ev_neS (evh_ixL (i := 0) (ds := (a :: more).map .str) (d := .str a) (evh_var rfl rd_sn) (Ev.hd ev_int) (atI_map PyData.str (atI_nn (i := 0) (Int.le_refl 0) rfl))) (Ev.hd ev_str)))) (fun z => ?b1) fun z => ?b2
  case b1 =>
    have no : readF t = none := by
      unfold readF
      rw [hrows]
      dsimp only
      rw [hws]
      match more, z with
      | [b], z =>
        have z : a ≠ "places" := by simpa using z
        dsimp only
        rw [if_neg z]
      | [], _ => rfl
      | _ :: _ :: _, _ => rfl
    exact fun F H' σ c => q2 no H' c.gr.h
  case b2 =>
  have zz := Bool.or_eq_false_iff.mp z
  have z2 : a = "places" := of_decide_eq_true (not_t zz.2)
  have z1 : ((a :: more).length : Int) = 2 := of_decide_eq_true (not_t zz.1)
  match more, z1, hws, hwl with
  | [b], _, hws, hwl =>
  have er : readF t = match numF b, rowsF rs with | some n, some ps => if (decide (1 ≤ n) && decide (n ≤ 16)) && (decide (ps.length ≤ 60) && ps.all fun p => !decide (p.1 = p.2) && (decide (p.1 < n) && decide (p.2 < n))) then some (n, ps) else none | _, _ => none := by
    unfold readF
    rw [hrows]
    dsimp only
    rw [hws]
    dsimp only
    rw [if_pos z2]
    all_goals rfl
  have hbl := hwl b (by simp)
  have ib : EvA H H (((enterR 11 [kdP K (.str t)]).set 1 (sn K H (.list ((r0 :: rs).map .str)))).set 2 (sn K H (.list [.str a, .str b]))) (tCons (tOp (rIxL K) (tVar 2) (tC (.int 1))) tNil) [dat K (.str b)] := ea_cons st_dat (evh_ixL (i := 1) (ds := [.str a, .str b]) (d := .str b) (evh_var rfl rd_sn) (Ev.hd ev_int) rfl) ea_nil
  cases hn : numF b with
  | none =>
    rw [hn] at er
    exact q_bad (evb_callE (CX := C_BadText) (q2 er) b hbl ib (by rw [hn]; rfl))
  | some n =>
  rw [hn] at er
  obtain ⟨_, _, hn0, _⟩ := numF_some hn
  refine q_set K (d := .int n) (ev_callE b hbl ib (by rw [hn]; rfl)) ?_
  have hsl : ∀ {F0 : Hp} {ρ : List Sl}, ρ[1]? = some (sn K H (.list ((r0 :: rs).map .str))) → EvJ H F0 ρ (iList K (tSl (rSlL K) (tVar 1) (tPart (tC (.int 1))) tNoPart)) (nwd K H) (rs.map .str) := fun {F0 ρ} h => by
    have h := evm_sliceN (K := K) (B := H) (F0 := F0) (ρ := ρ) (te := tVar 1) (ds := (r0 :: rs).map .str) (lo := some 1) (hi := none) (Ev.n (ev_var h)) (eo_some (Ev.hd ev_int)) eo_none
    rw [cut_drop PyData.str (r0 :: rs) (i := 1) (by decide)] at h
    exact evj_list (EvM.nw h)
  have hrl : ∀ r ∈ rs, r.length ≤ 1000 := fun r hr => hpl r (List.mem_cons_of_mem _ hr)
  have lrs : rs.length ≤ 1001 := by rw [List.length_cons] at hll; omega
  cases hp : rowsF rs with
  | none =>
    rw [hp] at er
    obtain ⟨pre, x0, post, h1, h2, h3⟩ := rowsF_none hp
    refine q_bad (evb_lc (K := K) (xs := rs) (pre := pre) (x0 := x0) (post := post) (e := PyData.str) (q := nwd K H) (fun r => pairD ((rowF r).getD (0, 0))) h1 (hsl rfl) (fun F1 x hx => ⟨_, _, bind_name st_nwd, by decide, ?c1⟩) (fun F1 => ⟨_, _, bind_name st_nwd, by decide, ?c2⟩) (by omega))
    case c1 =>
      obtain ⟨p, hpx⟩ := h3 x hx
      refine ev_callE x (hrl x (by rw [h1]; exact List.mem_append_left _ hx)) (ea_cons st_dat (evh_var rfl rd_sn) ea_nil) ?_
      rw [hpx]
      rfl
    case c2 => exact evb_callE (CX := C_BadText) (q2 er) x0 (hrl x0 (by rw [h1]; simp)) (ea_cons st_dat (evh_var rfl rd_sn) ea_nil) (by rw [h2]; rfl)
  | some ps =>
  rw [hp] at er
  have er : readF t = if (decide (1 ≤ n) && decide (n ≤ 16)) && (decide (ps.length ≤ 60) && ps.all fun p => !decide (p.1 = p.2) && (decide (p.1 < n) && decide (p.2 < n))) then some (n, ps) else none := er
  have hps := rowsF_pos hp
  have hpl2 : ps.length ≤ 1001 := by rw [rowsF_len hp]; exact lrs
  refine q_set K (d := .list (ps.map pairD)) ?d1 (q_set K (d := .none) ev_non (q_set K (d := .none) ev_non ?d2))
  case d1 =>
    rw [← rowsF_map hp]
    refine ev_is (d := .list ((rs.filter fun _ => true).map fun r => pairD ((rowF r).getD (0, 0)))) (EvM.nw (evm_lc (xs := rs) (e := PyData.str) (q := nwd K H) (fun _ => true) (fun r => pairD ((rowF r).getD (0, 0))) (hsl rfl) (fun F1 r hr => ?e1) (by omega))) (by rw [List.filter_eq_self.mpr fun _ _ => rfl])
    case e1 =>
      obtain ⟨i, hi, rfl⟩ := List.mem_iff_getElem.mp hr
      obtain ⟨p, _, hpx⟩ := (rowsF_some hp).2 i rs[i] (List.getElem?_eq_getElem hi)
      refine ⟨_, _, bind_name st_nwd, by decide, fun F H σ c Q q => q F H (Gr.refl c.i), fun _ => ?_⟩
      refine ev_callE rs[i] (hrl _ hr) (ea_cons st_dat (evh_var rfl rd_sn) ea_nil) ?_
      rw [hpx]
      rfl
  case d2 =>
  generalize hE : EW _ = E1
  have hW : readF t = none → ∀ cl, PySem.W.exmOne K (.ref cl) (.ref C_TownError) = some true → ∀ H', Same H H' → E1 (.ref cl) none H' := fun no cl hc H' s => by
    rw [← hE]
    intro σ' hl
    refine ⟨true, hc, rfl, fun a' na => ?_⟩
    match σ', hl with
    | [v0, v1, v2, v3, v4, v5, v6, v7, v8, v9, v10], _ =>
    refine ⟨_, rfl, ?_⟩
    dsimp only [gName]
    exact ⟨_, rfl, rfl, true, rfl, iteT (q2 no H' s)⟩
  by_cases hn2 : 1 ≤ n ∧ n ≤ 16
  case neg =>
    have no : readF t = none := by
      rw [er, if_neg]
      simp only [Bool.and_eq_true, decide_eq_true_eq]
      exact fun z => hn2 z.1
    exact q_bad (at_evr (E := E1) (evr_make (K := K) (C := C) (CB := C_BadCount) (P := fun v => v = .int n) ((ev_var rfl).kdq fun F v p => by cases p; rfl) fun v e => by subst e; unfold amongB; simp; omega) fun H' s => hW no _ xC H' s)
  case pos =>
  obtain ⟨h1, h2⟩ := hn2
  have bad : (∃ p ∈ ps, ¬ (p.1 ≠ p.2 ∧ p.1 < n ∧ p.2 < n)) ∨ 60 < ps.length → readF t = none := fun z => by
    rw [er, if_neg]
    simp only [Bool.and_eq_true, decide_eq_true_eq, List.all_eq_true, Bool.not_eq_true', decide_eq_false_iff_not]
    rintro ⟨_, z2, z3⟩
    rcases z with ⟨p, hp, z⟩ | z
    · exact z (z3 p hp)
    · omega
  refine q_make (i := 7) (n := n) (evh_var rfl rd_sn) h1 h2 (at_for (xs := ps) (e := pairD) (EvJ.i (evj_list (ev_var rfl)))
    (fun pre ρ' => ∃ s5 s8 s9 s10, (∀ p ∈ pre, p.1 ≠ p.2 ∧ p.1 < n ∧ p.2 < n) ∧ pre.length ≤ 60 ∧ ρ' = [.fz (kdP K (.str t)), sn K H (.list ((r0 :: rs).map .str)), sn K H (.list ([a, b].map .str)), sn K H (.int n), sn K H (.list (ps.map pairD)), s5, sn K H .none, mt K C (townOf n pre), s8, s9, s10]) ?f1 ?f2 ?f3)
  case f1 => exact ⟨_, _, _, _, fun p hp => (nomatch hp), Nat.zero_le _, rfl⟩
  case f2 =>
    rintro F1 pre ⟨x, y⟩ post ρ' hx ⟨s5, s8, s9, s10, gd, ln, rfl⟩
    have hm : (x, y) ∈ ps := by rw [hx]; simp
    obtain ⟨x0, y0⟩ := hps _ hm
    dsimp only at x0 y0
    have sub : ∀ p ∈ pre, p ∈ ps := fun p hp => by rw [hx]; exact List.mem_append_left _ hp
    have ok : TOk (townOf n pre) := townOf_ok h1 h2 ln fun p hp => ⟨(hps p (sub p hp)).1, (gd p hp).2.1, (hps p (sub p hp)).2, (gd p hp).2.2, (gd p hp).1⟩
    have hl : (townOf n pre).held.length = pre.length := by unfold townOf; simp
    refine ⟨_, _, (by walk_at "bd"), ?_⟩
    by_cases g : x ≠ y ∧ x < n ∧ y < n
    case neg =>
      refine at_badD (at_evr (E := E1) (evr_build (i := 7) (P1 := fun v => v = .int x) (P2 := fun v => v = .int y) ts_mt rfl ok ((ev_var rfl).kdq fun F v p => by cases p; rfl) ((ev_var rfl).kdq fun F v p => by cases p; rfl) fun v1 v2 e1 e2 => ?_) fun H' s => hW (bad (.inl ⟨_, hm, g⟩)) _ xP H' s)
      subst e1; subst e2
      show amongB 0 (n - 1) _ = false ∨ amongB 0 (n - 1) _ = false ∨ _
      unfold amongB
      by_cases e : x = y
      · exact .inr (.inr (by rw [e]))
      · by_cases e2 : x < n
        · refine .inr (.inl ?_)
          have : ¬ y < n := fun z => g ⟨e, e2, z⟩
          simp
          omega
        · refine .inl ?_
          simp
          omega
    case pos =>
      by_cases few : pre.length < 60
      · refine at_drop (evx_build (i := 7) (a := x) (b := y) rfl (evh_var rfl rd_sn) (evh_var rfl rd_sn) ok x0 g.2.1 y0 g.2.2 g.1 (by rw [hl]; exact few)) (at_lpD ?_)
        refine ⟨s5, sn K H (.int x), sn K H (.int y), s10, fun p hp => ?_, by rw [List.length_append]; exact few, ?_⟩
        · rcases List.mem_append.mp hp with hp | hp
          · exact gd p hp
          · rw [List.mem_singleton.mp hp]; exact g
        · rw [townOf_snoc]; rfl
      · exact at_badD (at_evr (E := E1) (evr_many (i := 7) (a := x) (b := y) ts_mt rfl ok (evh_var rfl rd_sn) (evh_var rfl rd_sn) x0 g.2.1 y0 g.2.2 g.1 (by rw [hl]; omega)) fun H' s => hW (bad (.inr (by rw [hx, List.length_append, List.length_cons]; omega))) _ xM H' s)
  case f3 =>
    rintro ρ' ⟨s5, s8, s9, s10, gd, ln, rfl⟩
    have er : readF t = some (n, ps) := by
      rw [er, if_pos]
      simp only [Bool.and_eq_true, decide_eq_true_eq, List.all_eq_true, Bool.not_eq_true', decide_eq_false_iff_not]
      exact ⟨⟨h1, h2⟩, ln, gd⟩
    refine at_go ?_
    refine q_when (c := false) (et_test (K := K) (Ev.hd (ev_notN (c := true) (d := .none) (evh_var (i := 6) rfl rd_sn) (Ev.hd ev_non) fun F v p => by cases p; rfl))) (fun z => nomatch z) fun _ => ?_
    exact at_retTown (i := 7) rfl fun tt d H' s n1 n2 w => q1 n ps er tt d H' s n1 n2 w
end

abbrev s_w_word : Stmt := top 27
theorem sc_w_word : FnScope ["_law_deed", "_law_caught", "e", "_law_some", "_law_word_here", "_law_is_so"] ["_law_deed"] (defScope s_w_word) := ⟨rfl, rfl, rfl, by decide +kernel, rfl, by decide +kernel, by decide +kernel⟩
/-- what a caught thing of the class D is called -/
structure WordC (K : PySem.W.Frag) (CT D : Addr) (b : Bool × Bool × Bool × Bool × Bool × Bool × Bool) (c : Addr × Addr × Addr × Addr × Addr × Addr × Addr) : Prop where
  e : ExcC K D
  m : PySem.W.exmOne K (.ref D) (.ref CT) = some true
  v : PySem.W.kitOne K (.ref D) (.type "ValueError") = some true
  k1 : PySem.W.kitOne K (.ref D) (.ref c.1) = some b.1
  k2 : PySem.W.kitOne K (.ref D) (.ref c.2.1) = some b.2.1
  k3 : PySem.W.kitOne K (.ref D) (.ref c.2.2.1) = some b.2.2.1
  k4 : PySem.W.kitOne K (.ref D) (.ref c.2.2.2.1) = some b.2.2.2.1
  k5 : PySem.W.kitOne K (.ref D) (.ref c.2.2.2.2.1) = some b.2.2.2.2.1
  k6 : PySem.W.kitOne K (.ref D) (.ref c.2.2.2.2.2.1) = some b.2.2.2.2.2.1
  k7 : PySem.W.kitOne K (.ref D) (.ref c.2.2.2.2.2.2) = some b.2.2.2.2.2.2
def wordP (b : Bool × Bool × Bool × Bool × Bool × Bool × Bool) : List (Str × Bool) := [("count", b.1), ("place", b.2.1), ("street", b.2.2.1), ("many", b.2.2.2.1), ("parted", b.2.2.2.2.1), ("ways", b.2.2.2.2.2.1), ("text", b.2.2.2.2.2.2)]
def wordD (p : Str × Bool) : PyData := .tuple [.str p.1, .bool p.2]
def wordsD (b : Bool × Bool × Bool × Bool × Bool × Bool × Bool) : PyData := .list (((wordP b).filter (·.2)).map fun p => .str p.1)
/-- what _law_word makes of a deed that raises -/
def TWord (K : PySem.W.Frag) (CT : Addr) (c : Addr × Addr × Addr × Addr × Addr × Addr × Addr) : (XK → Hp → VK → Prop) → Hp → VK → Prop := fun tl H Q =>
  tl (fun cls d H' => ∃ D b, cls = .ref D ∧ d = none ∧ WordC K CT D b c ∧ ∀ v H2, Same H' H2 → Nw K H' H2 v (wordsD b) → Q v H2) H fun _ _ => False
section
variable {K : PySem.W.Frag} {B F0 : Hp} {ρ : List Sl}
theorem ev_isK {D a C : Addr} {b : Bool} {i : Nat} (h : ρ[i]? = some (.fz fun _ v => v = .ref a)) (e : ExcC K D) (k : PySem.W.kitOne K (.ref D) (.ref C) = some b) : Ev B F0 ρ (tCB (rIsK K (.ref D) none a) (tCons (tVar i) (tCons (tC (.ref C)) tNil))) (nwd K B (.bool b)) := fun F H σ c Q q => by
  obtain ⟨w, o⟩ := c.own
  obtain ⟨_, v, e1, rfl⟩ := o.sl i _ h
  exact ⟨_, e1, D, .ref C, .ref C, b, rfl, rfl, e, rfl, fun u hu => hu, k, q _ F H (Gr.refl c.i) (.bl b)⟩
theorem ev_isKt {D a : Addr} {n : String} {b : Bool} {i : Nat} (h : ρ[i]? = some (.fz fun _ v => v = .ref a)) (e : ExcC K D) (k : PySem.W.kitOne K (.ref D) (.type n) = some b) : Ev B F0 ρ (tCB (rIsK K (.ref D) none a) (tCons (tVar i) (tCons (tC (.ty n)) tNil))) (nwd K B (.bool b)) := fun F H σ c Q q => by
  obtain ⟨w, o⟩ := c.own
  obtain ⟨_, v, e1, rfl⟩ := o.sl i _ h
  exact ⟨_, e1, D, .ty n, .type n, b, rfl, rfl, e, rfl, fun u hu => hu, k, q _ F H (Gr.refl c.i) (.bl b)⟩
theorem ev_notNk {a : Addr} {i : Nat} (h : ρ[i]? = some (.fz fun _ v => v = .ref a)) : Ev B F0 ρ (tOp (fun x y H Q => y = .non ∧ Q (.bl (!decide (x = .non))) H) (tVar i) (tC .non)) (nwd K B (.bool true)) := fun F H σ c Q q => by
  obtain ⟨w, o⟩ := c.own
  obtain ⟨_, v, e1, rfl⟩ := o.sl i _ h
  exact ⟨_, e1, rfl, q _ F H (Gr.refl c.i) (.bl true)⟩
end
abbrev wordX (X : Cx) (g : Addr) (cdg : Value) (s : Shared) (H : Hp) : Cx := (cxOf C8.CX0 X.prog X.w X.K X.mg X.base ["_law_deed", "_law_caught", "e", "_law_some", "_law_word_here", "_law_is_so"] "_law_word" (defScope s_w_word) g cdg X.A X.stack s H C8.E0).nox
section
variable {X : Cx} {C_BadCount C_BadPlace C_BadStreet C_TooMany C_Parted C_BadWays C_BadText C_TownError : Addr}
theorem word_gives (Z : Zs X.mg) (gT : X.mg "TownError" = some (.ref C_TownError)) (X_BadCount : XCls X.K X.mg "BadCount" C_BadCount) (X_BadPlace : XCls X.K X.mg "BadPlace" C_BadPlace) (X_BadStreet : XCls X.K X.mg "BadStreet" C_BadStreet) (X_TooMany : XCls X.K X.mg "TooMany" C_TooMany) (gP : X.mg "Parted" = some (.ref C_Parted)) (gW : X.mg "BadWays" = some (.ref C_BadWays)) (gX : X.mg "BadText" = some (.ref C_BadText)) (zV : X.mg "ValueError" = none)
    {g : Addr} {cdg : Value} {q : Str} : LamX.GivesTo X ["_law_deed", "_law_caught", "e", "_law_some", "_law_word_here", "_law_is_so"] "_law_word" (defScope s_w_word) g cdg (defBody s_w_word) "_law_deed" q (TWord X.K C_TownError (C_BadCount, C_BadPlace, C_BadStreet, C_TooMany, C_Parted, C_BadWays, C_BadText)) := by
  intro f c' s H Q tl act hc h
  refine ⟨_, pss_cons (ps_set (i := 1) sc_w_word.nd rfl (Or.inl rfl) pe_non) (pss_try_keep (X := wordX X g cdg s H) (i := 2) (c := .ref C_TownError)
      (tb := fun W D σ H => ∃ Ech : XK, (∀ cls d σ' H', Ech cls d H' → W cls d σ' H') ∧ σ[0]? = some (some (.ref f)) ∧ H c' = some (LamX.CodeO c' q) ∧ tl Ech H fun _ H1 => D.nx σ H1) (t0 := fun _ _ _ => False)
      rfl rfl sc_w_word.nd rfl rfl ⟨rfl, by decide, .inl gT⟩ (fun W pn xe tk _ => ?hbd) (fun a ob cls d pn hz hf => pss_one (ps_set (i := 1) sc_w_word.nd rfl (Or.inl rfl) (pv 2))) ⟨fun _ _ _ _ _ _ z => z.elim⟩ (fun a ob cls d pn hz hf => (pss_cons (ps_set (i := 3) sc_w_word.nd rfl (Or.inl rfl) (pe_lst (pa_cons (pe_tup (pa_cons pe_str (pa_cons (pe_callB (call_isK (X := wordX X g cdg s H) hz hf) (by rfl) Z.isinstance (by decide +kernel) (pa_cons (pv 1) (pa_cons (pe_glob (v := .ref C_BadCount) rfl X_BadCount.g rfl) pa_nil))) pa_nil))) (pa_cons (pe_tup (pa_cons pe_str (pa_cons (pe_callB (call_isK (X := wordX X g cdg s H) hz hf) (by rfl) Z.isinstance (by decide +kernel) (pa_cons (pv 1) (pa_cons (pe_glob (v := .ref C_BadPlace) rfl X_BadPlace.g rfl) pa_nil))) pa_nil))) pa_nil))))
    (pss_cons (ps_set (i := 3) sc_w_word.nd rfl (Or.inl rfl) (pe_op op_cat (pv 3) (pe_lst (pa_cons (pe_tup (pa_cons pe_str (pa_cons (pe_callB (call_isK (X := wordX X g cdg s H) hz hf) (by rfl) Z.isinstance (by decide +kernel) (pa_cons (pv 1) (pa_cons (pe_glob (v := .ref C_BadStreet) rfl X_BadStreet.g rfl) pa_nil))) pa_nil))) (pa_cons (pe_tup (pa_cons pe_str (pa_cons (pe_callB (call_isK (X := wordX X g cdg s H) hz hf) (by rfl) Z.isinstance (by decide +kernel) (pa_cons (pv 1) (pa_cons (pe_glob (v := .ref C_TooMany) rfl X_TooMany.g rfl) pa_nil))) pa_nil))) pa_nil)))))
    (pss_cons (ps_set (i := 3) sc_w_word.nd rfl (Or.inl rfl) (pe_op op_cat (pv 3) (pe_lst (pa_cons (pe_tup (pa_cons pe_str (pa_cons (pe_callB (call_isK (X := wordX X g cdg s H) hz hf) (by rfl) Z.isinstance (by decide +kernel) (pa_cons (pv 1) (pa_cons (pe_glob (v := .ref C_Parted) rfl gP rfl) pa_nil))) pa_nil))) (pa_cons (pe_tup (pa_cons pe_str (pa_cons (pe_callB (call_isK (X := wordX X g cdg s H) hz hf) (by rfl) Z.isinstance (by decide +kernel) (pa_cons (pv 1) (pa_cons (pe_glob (v := .ref C_BadWays) rfl gW rfl) pa_nil))) pa_nil))) pa_nil)))))
    (pss_cons (ps_expr (kpe_bmOf X.K (pe_bm PySem.F.plainAttrs_list PySem.F.slot_list_append PySem.F.type_list_append mt_append (pv 3) (pa_cons (pe_tup (pa_cons pe_str (pa_cons (pe_callB (call_isK (X := wordX X g cdg s H) hz hf) (by rfl) Z.isinstance (by decide +kernel) (pa_cons (pv 1) (pa_cons (pe_glob (v := .ref C_BadText) rfl gX rfl) pa_nil))) pa_nil))) pa_nil))))
    (pss_cons (ps_if (PW.pt (pw_and (pt_cmpR op_notN (pv 1) pe_non (nomark _)) (pw_and1 (pt_not (pt_val (pe_callB (call_isK (X := wordX X g cdg s H) hz hf) (by rfl) Z.isinstance (by decide +kernel) (pa_cons (pv 1) (pa_cons (pe_bltn (v := .ty "ValueError") (by rfl) zV (by decide +kernel) rfl) pa_nil)))))))) (pss_one (ps_expr (kpe_bmOf X.K (pe_bm PySem.F.plainAttrs_list PySem.F.slot_list_append PySem.F.type_list_append mt_append (pv 3) (pa_cons (pe_tup (pa_cons pe_str (pa_cons pe_bl pa_nil))) pa_nil))))) pss_nil)
    (pss_one (ps_ret (pe_lc (own := [("_law_word_here", 4), ("_law_is_so", 5)]) rfl sc_w_word.nd (kpi_list X.K (pv 3)) (blkOk_by (by dsimp only [cxOf, Cx.nox, Cx.wish, Cx.blk, compEnvC, envOfC]; (try (rw [relabel_eq]; dsimp only)); decide +kernel)) (fun _ _ _ _ _ => (kpg_tup X.K 2 rfl (pgs_cons (pg_name (i := 4) sc_w_word.nd rfl (Or.inl rfl)) (pgs_cons (pg_name (i := 5) sc_w_word.nd rfl (Or.inl rfl)) pgs_nil)))) (fun _ _ _ _ _ => (pts_one (pt_val (pv 5)))) (fun _ _ _ _ _ => (pv 4)))))))))))), ?rd⟩
  case hbd =>
    refine ⟨fun pins s' σ H' D I h' => ?_⟩
    obtain ⟨Ech, hW, h1, h2, h3⟩ := h'
    exact (pss_one (ps_expr (act W pn xe Ech _ _ tk hW))).run pins s' σ H' D I ⟨h1, h2, h3⟩
  case rd =>
    refine ⟨_, fun cls d σ' H' hE hl => ?_, rfl, hc, h⟩
    obtain ⟨D, b, rfl, rfl, wc, hQ⟩ := hE
    refine ⟨true, wc.m, rfl, fun a na => ?_⟩
    have st0 : Stab fun _ v => v = V.ref a := fun _ _ _ _ z => z
    match σ', hl with
    | [v0, v1, v2, v3, v4, v5], _ =>
    refine ⟨_, rfl, ?_⟩
    dsimp only [gName]
    refine (?_ : At H' H' _ [Sl.no, .fz fun _ v => v = V.ref a, Sl.no, Sl.no, Sl.no, Sl.no]) H' H' _ ⟨Gr.refl (Same.refl _), rfl, fun _ => [], fun i j x hx => (List.not_mem_nil hx).elim, fun i x hx => (List.not_mem_nil hx).elim, fun i s hs => ?_⟩
    · have one : ∀ {F1 : Hp} {ρ : List Sl} {C : Addr} {x : Str} {b : Bool}, ρ[1]? = some (.fz fun _ v => v = V.ref a) → PySem.W.kitOne X.K (.ref D) (.ref C) = some b → Ev H' F1 ρ (tTup (tCons (tC (.str x)) (tCons (tCB (rIsK X.K (.ref D) none a) (tCons (tVar 1) (tCons (tC (.ref C)) tNil))) tNil))) (nwd X.K H' (wordD (x, b))) := fun h k => ev_tup (eas_cons ev_str (eas_cons (ev_isK h wc.e k) eas_nil)) (by simp)
      refine' q_setM X.K (ds := (wordP b).take 2 |>.map wordD) ?a1 (q_setM X.K (ds := (wordP b).take 4 |>.map wordD) ?a2 (q_setM X.K (ds := (wordP b).take 6 |>.map wordD) ?a3 (q_drop (evx_append (K := X.K) (i := 3) (ds := (wordP b).take 6 |>.map wordD) (d := wordD ("text", b.2.2.2.2.2.2)) ?a8 ?a4 ?a5) (q_when (c := false) ?a6 (fun z => by cases z) fun _ => ?a7))))
      case a1 => exact evm_lst (eas_cons (one rfl wc.k1) (eas_cons (one rfl wc.k2) eas_nil)) (by simp [wordP])
      case a2 =>
        rw [show ((wordP b).take 4).map wordD = ((wordP b).take 2).map wordD ++ [wordD ("street", b.2.2.1), wordD ("many", b.2.2.2.1)] from rfl]
        exact evm_catN (evn_ml rfl) (EvM.n (evm_lst (eas_cons (one rfl wc.k3) (eas_cons (one rfl wc.k4) eas_nil)) (by simp))) (by simp [wordP])
      case a3 =>
        rw [show ((wordP b).take 6).map wordD = ((wordP b).take 4).map wordD ++ [wordD ("parted", b.2.2.2.2.1), wordD ("ways", b.2.2.2.2.2.1)] from rfl]
        exact evm_catN (evn_ml rfl) (EvM.n (evm_lst (eas_cons (one rfl wc.k5) (eas_cons (one rfl wc.k6) eas_nil)) (by simp))) (by simp [wordP])
      case a4 => exact one rfl wc.k7
      case a5 => simp [wordP]
      case a6 => exact et_is (et_and (a := true) (c := false) (et_test (K := X.K) (Ev.hd (ev_notNk rfl))) fun _ => et_is (et_not (et_B (K := X.K) (Ev.hd (ev_isKt rfl wc.e wc.v)))) rfl) rfl
      case a7 =>
        refine at_fix (K := X.K) (ds := (wordP b).map wordD) 3 rfl ?_
        refine at_ret (K := X.K) (EvM.nw (K := X.K) (evm_lc (xs := wordP b) (e := wordD) (q := nwd X.K H') (fun p => p.2) (fun p => .str p.1) (evj_list (ev_var rfl)) (fun F1 p hp => ?_) (by simp [wordP]))) hQ
        refine ⟨_, _, bind_tup (bindl_cons (bind_name st_nwd) (bindl_cons (bind_name st_nwd) bindl_nil)) rfl, by decide, et_B (K := X.K) (evh_var rfl rd_sn), fun _ => ev_var rfl⟩
      case a8 => rfl
    · match i, hs with
      | 0, hs => cases hs; trivial
      | 1, hs => cases hs; exact ⟨st0, _, rfl, rfl⟩
      | 2, hs => cases hs; trivial
      | 3, hs => cases hs; trivial
      | 4, hs => cases hs; trivial
      | 5, hs => cases hs; trivial
end

section
variable {X : Cx} {C_BadCount C_BadPlace C_BadStreet C_TooMany C_Parted C_BadWays C_BadText C_TownError : Addr}
/-- _law_word(lambda: body) -/
theorem pe_word (Z : Zs X.mg) (gT : X.mg "TownError" = some (.ref C_TownError)) (X_BadCount : XCls X.K X.mg "BadCount" C_BadCount) (X_BadPlace : XCls X.K X.mg "BadPlace" C_BadPlace) (X_BadStreet : XCls X.K X.mg "BadStreet" C_BadStreet) (X_TooMany : XCls X.K X.mg "TooMany" C_TooMany) (gP : X.mg "Parted" = some (.ref C_Parted)) (gW : X.mg "BadWays" = some (.ref C_BadWays)) (gX : X.mg "BadText" = some (.ref C_BadText)) (zV : X.mg "ValueError" = none)
    (D : Dfn X.K X.mg "_law_word" "_law_word" s_w_word ["_law_deed"]) {c P : Addr} {k : Nat} {params : Arguments} {body : Expr} {scope : Scope} {t : XK → TE} {p lpos pos : Pos} (hg : Gl X "_law_word") (TB : LamX.TabB X.base X.mg c P) (hcode : X.env.code = .ref c) (hr : Room (k + 2) X.A) (L : LamX.LamS X.env.scope scope) (hdef : defaultsOf params X.env = ([], []))
    (hbind : ∀ (q : Str) (cl : List (Str × Addr)) (pm cv ctv : Value), bindArgs (PySem.W.kla_fn "<lambda>" q params body scope cl pm cv ctv) ⟨[], []⟩ = pure [])
    (hbody : ∀ (A : Around) (outer : List Env) (s : Shared) (H : Hp) (E : XK) (f c' : Addr), Room k (A.deeper (LamX.lamEnv X scope s.heap.objs.size f c')) → PE (LamX.lamCx X A outer s H E scope f c') body (t E)) :
    PE X (.Call (.Name "_law_word" p) [.Lambda params body scope lpos] [] pos) (LamX.tLam [(P, X.env.qual ++ "<lambda>")] (TWord X.K C_TownError (C_BadCount, C_BadPlace, C_BadStreet, C_TooMany, C_Parted, C_BadWays, C_BadText)) t) := by
  obtain ⟨f, fd, F, hm, hb⟩ := D.ex
  have kp := F.kp
  obtain ⟨oc, od, kV, doc, pm, an, cdv, ct, osl, rfl, lk, hcd⟩ := F.ex
  exact LamX.pe_lamcall hg hm kp lk hcd hb sc_w_word rfl (Or.inl rfl) (word_gives Z gT X_BadCount X_BadPlace X_BadStreet X_TooMany gP gW gX zV) TB hcode (List.mem_singleton.mpr rfl) (fun p hp _ => by rw [List.mem_singleton.mp hp]) hr L hdef hbind hbody
/-- .. where other defs have lambdas too -/
theorem pe_wordT (Z : Zs X.mg) (gT : X.mg "TownError" = some (.ref C_TownError)) (X_BadCount : XCls X.K X.mg "BadCount" C_BadCount) (X_BadPlace : XCls X.K X.mg "BadPlace" C_BadPlace) (X_BadStreet : XCls X.K X.mg "BadStreet" C_BadStreet) (X_TooMany : XCls X.K X.mg "TooMany" C_TooMany) (gP : X.mg "Parted" = some (.ref C_Parted)) (gW : X.mg "BadWays" = some (.ref C_BadWays)) (gX : X.mg "BadText" = some (.ref C_BadText)) (zV : X.mg "ValueError" = none)
    (D : Dfn X.K X.mg "_law_word" "_law_word" s_w_word ["_law_deed"]) {c P : Addr} {T : List (Addr × Str)} {k : Nat} {params : Arguments} {body : Expr} {scope : Scope} {t : XK → TE} {p lpos pos : Pos} (hg : Gl X "_law_word") (TB : LamX.TabB X.base X.mg c P) (hmT : (P, X.env.qual ++ "<lambda>") ∈ T) (hu : ∀ p ∈ T, p.1 = P → p.2 = X.env.qual ++ "<lambda>") (hcode : X.env.code = .ref c) (hr : Room (k + 2) X.A) (L : LamX.LamS X.env.scope scope) (hdef : defaultsOf params X.env = ([], []))
    (hbind : ∀ (q : Str) (cl : List (Str × Addr)) (pm cv ctv : Value), bindArgs (PySem.W.kla_fn "<lambda>" q params body scope cl pm cv ctv) ⟨[], []⟩ = pure [])
    (hbody : ∀ (A : Around) (outer : List Env) (s : Shared) (H : Hp) (E : XK) (f c' : Addr), Room k (A.deeper (LamX.lamEnv X scope s.heap.objs.size f c')) → PE (LamX.lamCx X A outer s H E scope f c') body (t E)) :
    PE X (.Call (.Name "_law_word" p) [.Lambda params body scope lpos] [] pos) (LamX.tLam T (TWord X.K C_TownError (C_BadCount, C_BadPlace, C_BadStreet, C_TooMany, C_Parted, C_BadWays, C_BadText)) t) := by
  obtain ⟨f, fd, F, hm, hb⟩ := D.ex
  have kp := F.kp
  obtain ⟨oc, od, kV, doc, pm, an, cdv, ct, osl, rfl, lk, hcd⟩ := F.ex
  exact LamX.pe_lamcall hg hm kp lk hcd hb sc_w_word rfl (Or.inl rfl) (word_gives Z gT X_BadCount X_BadPlace X_BadStreet X_TooMany gP gW gX zV) TB hcode hmT hu hr L hdef hbind hbody
end
section
variable {K : PySem.W.Frag} {B F0 : Hp} {ρ : List Sl}
/-- .. of what raises a thing of the class D: the words of D -/
theorem evx_word {CT D : Addr} {b : Bool × Bool × Bool × Bool × Bool × Bool × Bool} {cc : Addr × Addr × Addr × Addr × Addr × Addr × Addr} {T : List (Addr × Str)} {fp : Pd} {t : XK → TE} {i : Nat} (W : WordC K CT D b cc) (hi : ρ[i]? = some (.mo (tabP T fp))) (nB : noTbl B) (nF0 : noTbl F0) (hm : NtAll i ρ)
    (h : EvR B F0 ρ t D) : EvX B F0 ρ (LamX.tLam T (TWord K CT cc) t) ρ (nwd K B (wordsD b)) :=
  evx_lam hi nB nF0 hm fun F H σ c Q q => h F H σ c _ _ fun F1 H1 c1 => ⟨D, b, rfl, rfl, W, fun v H2 s n => by
    obtain ⟨F2, g2, _, n2⟩ := nw_fix (B := B) c1.gr.h n F1 (gr_call c1.i s)
    exact q v F2 H2 (c1.go g2) n2⟩
end
theorem wordC_mk {K : PySem.W.Frag} {h : Heap} {mg : Str → Option Value} {nm : Str} {CT D c1 c2 c3 c4 c5 c6 c7 : Addr} {b1 b2 b3 b4 b5 b6 b7 : Bool} (X : K.In h) (gT : mg "TownError" = some (.ref CT)) (gD : mg nm = some (.ref D)) (g1 : mg "BadCount" = some (.ref c1)) (g2 : mg "BadPlace" = some (.ref c2)) (g3 : mg "BadStreet" = some (.ref c3)) (g4 : mg "TooMany" = some (.ref c4)) (g5 : mg "Parted" = some (.ref c5)) (g6 : mg "BadWays" = some (.ref c6)) (g7 : mg "BadText" = some (.ref c7))
    (e1 : PySem.W.findIn K (.ref D) "__getattribute__" = some (some (.builtin "BaseException.__getattribute__"))) (e2 : PySem.W.findIn K (.ref D) "__getattr__" = some none) (e3 : PySem.W.subIn K (.ref D) (.type "BaseException") = some true) (e4 : PySem.W.hasDictIn K D = true) (e5 : PySem.W.findIn K (.ref D) "__class__" = some (some (.builtin "object.__class__")))
    (e6 : PySem.W.specialIn K (.builtin "object.__class__") "__get__" = some (some (.builtin "getset_descriptor.__get__"))) (e7 : PySem.W.takesIn K (.builtin "object.__class__") = some true) (e8 : PySem.W.mroIn K D (.type "object") = some true) (m : PySem.W.exmOne K (.ref D) (.ref CT) = some true) (v : PySem.W.kitOne K (.ref D) (.type "ValueError") = some true)
    (k1 : PySem.W.kitOne K (.ref D) (.ref c1) = some b1) (k2 : PySem.W.kitOne K (.ref D) (.ref c2) = some b2) (k3 : PySem.W.kitOne K (.ref D) (.ref c3) = some b3) (k4 : PySem.W.kitOne K (.ref D) (.ref c4) = some b4) (k5 : PySem.W.kitOne K (.ref D) (.ref c5) = some b5) (k6 : PySem.W.kitOne K (.ref D) (.ref c6) = some b6) (k7 : PySem.W.kitOne K (.ref D) (.ref c7) = some b7) :
    WordC K CT D (b1, b2, b3, b4, b5, b6, b7) (c1, c2, c3, c4, c5, c6, c7) := ⟨⟨e1, e2, e3, e4, e5, e6, e7, e8⟩, m, v, k1, k2, k3, k4, k5, k6, k7⟩

section
variable {K : PySem.W.Frag} {B F0 : Hp} {ρ ρ1 : List Sl} {te : TE}
theorem evx_is {e e' : PyData} (h : EvX B F0 ρ te ρ1 (nwd K B e)) (q : e = e') : EvX B F0 ρ te ρ1 (nwd K B e') := q ▸ h
theorem okW {x : Str} (h : PyData.strOk x = true) : okS 1 (.list [.str x]) := okS_list (n := 0) (okS_cons (show okS 0 (.str x) from ⟨by rw [PyData.canLay0]; exact h, by rw [PyData.depth]; exact Nat.le_refl _⟩) okS_nil)
/-- the name of a def's lambdas -/
def lamN (q : Str) (st : Stmt) : Str := (envOfC q (defScope st) 0 0 .none).qual ++ "<lambda>"
variable {t : XK → TE} {cc : Addr × Addr × Addr × Addr × Addr × Addr × Addr} {CT D : Addr} {b : Bool × Bool × Bool × Bool × Bool × Bool × Bool} {fp : Pd} {T : List (Addr × Str)}
/-- _law_word(lambda: ..) == [x] -/
theorem evx_wordEq {i : Nat} {x : Str} (W : WordC K CT D b cc) (hx : wordsD b = .list [.str x]) (hs : PyData.strOk x = true) (hi : ρ[i]? = some (.mo (tabP T fp))) (nB : noTbl B) (nF0 : noTbl F0) (hm : NtAll i ρ) (h : EvR B F0 ρ t D) :
    EvX B F0 ρ (tOp (rEqD K) (LamX.tLam T (TWord K CT cc) t) (tLst (tCons (tC (.str x)) tNil))) ρ (nwd K B (.bool true)) :=
  evx_is (evx_eqD (d := .list [.str x]) (e := .list [.str x]) (hx ▸ evx_word W hi nB nF0 hm h) (Ev.hd (EvM.nw (evm_lst (eas_cons ev_str eas_nil) (by simp)))) ((okW hs).shaped (by decide)) ((okW hs).shaped (by decide))) (by rw [eqv_same (okW hs)])
end
section
variable {X : Cx} {C_BadCount C_BadPlace C_BadStreet C_TooMany C_Parted C_BadWays C_BadText C_TownError : Addr}
/-- .. where the context has something caught -/
theorem pe_wordK (K : PySem.W.Frag) (Z : Zs X.mg) (gT : X.mg "TownError" = some (.ref C_TownError)) (X_BadCount : XCls X.K X.mg "BadCount" C_BadCount) (X_BadPlace : XCls X.K X.mg "BadPlace" C_BadPlace) (X_BadStreet : XCls X.K X.mg "BadStreet" C_BadStreet) (X_TooMany : XCls X.K X.mg "TooMany" C_TooMany) (gP : X.mg "Parted" = some (.ref C_Parted)) (gW : X.mg "BadWays" = some (.ref C_BadWays)) (gX : X.mg "BadText" = some (.ref C_BadText)) (zV : X.mg "ValueError" = none)
    (D : Dfn X.K X.mg "_law_word" "_law_word" s_w_word ["_law_deed"]) {c P : Addr} {T : List (Addr × Str)} {k : Nat} {params : Arguments} {body : Expr} {scope : Scope} {t : XK → TE} {p lpos pos : Pos} (hg : Gl X "_law_word") (TB : LamX.TabB X.base X.mg c P) (hmT : (P, X.env.qual ++ "<lambda>") ∈ T) (hu : ∀ p ∈ T, p.1 = P → p.2 = X.env.qual ++ "<lambda>") (hcode : X.env.code = .ref c) (hr : Room (k + 2) X.A) (L : LamX.LamS X.env.scope scope) (hdef : defaultsOf params X.env = ([], []))
    (hbind : ∀ (q : Str) (cl : List (Str × Addr)) (pm cv ctv : Value), bindArgs (PySem.W.kla_fn "<lambda>" q params body scope cl pm cv ctv) ⟨[], []⟩ = pure [])
    (hbody : ∀ (A : Around) (outer : List Env) (s : Shared) (H : Hp) (E : XK) (f c' : Addr), Room k (A.deeper (LamX.lamEnv X scope s.heap.objs.size f c')) → PE (LamX.lamCx X A outer s H E scope f c') body (t E))
    (hK : X.K = K := by rfl) :
    PE X (.Call (.Name "_law_word" p) [.Lambda params body scope lpos] [] pos) (LamX.tLam T (TWord K C_TownError (C_BadCount, C_BadPlace, C_BadStreet, C_TooMany, C_Parted, C_BadWays, C_BadText)) t) :=
  hK ▸ pe_wordT Z gT X_BadCount X_BadPlace X_BadStreet X_TooMany gP gW gX zV D hg TB hmT hu hcode hr L hdef hbind hbody
end

abbrev s_w_told : Stmt := top 32
theorem sc_w_told : FnScope ["_law_text_here", "_law_caught", "_law_found", "e", "_law_row"] ["_law_text_here"] (defScope s_w_told) := ⟨rfl, rfl, rfl, by decide +kernel, rfl, by decide +kernel, by decide +kernel⟩
theorem readF_ok {t : Str} {n : Int} {ps : List (Int × Int)} (h : readF t = some (n, ps)) : 1 ≤ n ∧ n ≤ 16 ∧ ps.length ≤ 60 ∧ ∀ p ∈ ps, 0 ≤ p.1 ∧ p.1 < n ∧ 0 ≤ p.2 ∧ p.2 < n ∧ p.1 ≠ p.2 := by
  unfold readF at h
  repeat' split at h
  all_goals try (cases h; done)
  rename_i hq hc
  cases h
  simp only [Bool.and_eq_true, decide_eq_true_eq, List.all_eq_true, Bool.not_eq_true', decide_eq_false_iff_not] at hc
  refine ⟨hc.1.1, hc.1.2, hc.2.1, fun p hp => ?_⟩
  have := hc.2.2 p hp
  have z := rowsF_pos hq p hp
  exact ⟨z.1, this.2.1, z.2, this.2.2, this.1⟩
theorem held_pairs {n : Int} {ps : List (Int × Int)} : ((townOf n ps).held.filter fun _ => true).map (fun r => pairD r.2) = ps.map pairD := by
  rw [List.filter_eq_self.mpr fun _ _ => rfl]
  show (ps.zipIdx.map fun p => ((p.2 : Int), p.1)).map _ = _
  rw [List.map_map]
  conv => rhs; rw [← List.zipIdx_map_fst 0 ps, List.map_map]
  rfl
theorem held_nums {n : Int} {ps : List (Int × Int)} : ((townOf n ps).held.filter fun _ => true).map (fun r => PyData.int r.1) = (List.range ps.length).map fun i : Nat => PyData.int (i : Int) := by
  rw [List.filter_eq_self.mpr fun _ _ => rfl]
  show (ps.zipIdx.map fun p => ((p.2 : Int), p.1)).map _ = _
  rw [List.map_map, show List.range ps.length = ps.zipIdx.map Prod.snd by rw [List.zipIdx_map_snd, List.range_eq_range'], List.map_map]
  rfl
section
variable {K : PySem.W.Frag} {B F0 : Hp} {ρ ρ1 ρ2 : List Sl} {ta tb : TE} {t : L2.TT} {f : Pd} {N : L2.St → Hp → Prop}
theorem evx_ifT (h : EvXT B F0 ρ t ρ1 true) (ha : EvX B F0 ρ1 ta ρ2 f) : EvX B F0 ρ (tIf t ta tb) ρ2 f := fun F H σ c Q q => h F H σ c _ fun F1 H1 c1 => iteT (ha F1 H1 σ c1 Q q)
/-- a slot is forgotten -/
theorem at_unset {i : Nat} {Z : L2.St → Hp → Prop} (k : At B F0 Z (ρ.set i .no)) : At B F0 (fun σ H => Z (σ.set i none) H) ρ := fun F H σ c => k F H _ (c.less (by rw [List.length_set, List.length_set]; exact c.len) fun j s hs => by
  by_cases z : i = j
  · subst z
    by_cases hl : i < ρ.length
    · rw [List.getElem?_set_self hl] at hs
      cases hs
      exact .inl rfl
    · rw [List.getElem?_eq_none (by rw [List.length_set]; omega)] at hs
      cases hs
  · rw [List.getElem?_set_ne z] at hs
    exact .inr ⟨hs, List.getElem?_set_ne z⟩)
/-- read refuses -/
theorem evr_read {C CX : Addr} {t : Str} {tr : TA} (h : EvA B F0 ρ tr [kdP K (.str t)]) (hl : t.length ≤ 1000) (no : readF t = none) : EvR B F0 ρ (fun E => tCall (spRead K C CX) [] E tr) CX := fun F H σ c E Q q => h F H σ c _ fun vs F1 H1 g1 p =>
  ⟨.str t, by rw [List.append_nil]; exact p, fun t' e => by cases e; exact hl, fun t' n ps e er => (by cases e; rw [no] at er; cases er), fun _ H' s => q F1 H' ((c.go g1).go (gr_call (c.go g1).i s))⟩
theorem evh_kdT {i : Nat} {t : Str} {T : List (Addr × Str)} (h : ρ[i]? = some (.mo (tabP T (dat K (.str t))))) : EvH B F0 ρ (tVar i) (kdP K (.str t)) := fun F H σ c Q q => evh_var (d := .str t) h rd_tab F H σ c _ fun v F' H' g p => by
  have k := kd_dp p
  cases p
  exact q _ F' H' g ⟨rfl, k⟩
theorem at_asgS {sp : Sp} {E : L2.St → XK} {tr : TA} {g : TG} {fs : List Pd} {D : Ends} (h : EvA B F0 ρ tr fs) (k : ∀ F H σ, Cfg B F0 F H σ ρ → ∀ vs F1 H1, Gr F H F1 H1 → AOk fs H1 vs → sp vs H1 (fun v H' => g v σ H' D.nx) (E σ)) : At B F0 (tAsg (tCallS sp [] E tr) g D) ρ := fun F H σ c =>
  h F H σ c _ fun vs F1 H1 g1 p => by
    have z := k F H σ c vs F1 H1 g1 p
    rw [← List.append_nil vs] at z
    exact z
/-- what is caught goes to slot j -/
theorem keep_asg {F H : Hp} {σ : L2.St} {m i j : Nat} {cv : Value} {cl : Addr} {u : Addr → Value → Option Addr → TS} {D : Ends} (c : Cfg B F0 F H σ ρ) (hi : i < ρ.length) (hm : PySem.W.exmOne K (.ref cl) cv = some true)
    (k : ∀ a : Addr, At B F0 (u a (.ref cl) none D) (((ρ.set i (.fz fun _ v => v = V.ref a)).set j (.fz fun _ v => v = V.ref a)).set i .no)) : wKeep K m cv i (fun _ _ _ => tAsg (tVar i) (gName j)) u D (.ref cl) none σ H := fun _ => ⟨true, hm, rfl, fun a na => by
  have st : Stab fun _ v => v = V.ref a := fun _ _ _ _ z => z
  have q := at_setF (D := ⟨fun σ' H' => u a (.ref cl) none D (σ'.set i none) H', fun _ _ => False, fun _ _ => False, fun _ _ => False⟩) (i := j) (te := tVar i) (f := fun _ v => v = V.ref a) st (ev_var (List.getElem?_set_self hi)) (at_unset (Z := u a (.ref cl) none D) (i := i) (k a))
  exact q F H _ (c.setF st rfl)⟩
theorem townOf_flat {n : Int} {ps : List (Int × Int)} : ∀ p ∈ heldD (townOf n ps).held, flatD p.2 = true := fun p hp => by
  obtain ⟨r, _, rfl⟩ := List.mem_map.mp hp
  rfl
end
section
variable {P : Program} {w : World} {K : PySem.W.Frag} {mg : Str → Option Value} {base : Heap} {C TP fc C_BadCount C_BadPlace C_BadStreet C_TooMany C_Parted C_BadWays C_BadText C_TownError : Addr} {T : List (Addr × Str)}
def toldD (t : Str) : PyData := match readF t with
  | none => .none
  | some (n, ps) => .tuple [.int n, .list (ps.map pairD), .list ((List.range ps.length).map fun i : Nat => .int (i : Int))]
theorem ok_told (Z : Zs mg) (TT : TownTxt K mg C) (G_read : Ok P w K mg base (L2.CX P w) 4 "read" ["text"] (spRead K C C_BadText)) (M_places : OkM P w K mg base CX0 1 C "places" ["self"] (spPlaces K C)) (M_streets : OkM P w K mg base CX0 1 C "streets" ["self"] (spStreets K C))
    (gTE : mg "TownError" = some (.ref C_TownError)) (X_BadCount : XCls K mg "BadCount" C_BadCount) (X_BadPlace : XCls K mg "BadPlace" C_BadPlace) (X_BadStreet : XCls K mg "BadStreet" C_BadStreet) (X_TooMany : XCls K mg "TooMany" C_TooMany) (gPT : mg "Parted" = some (.ref C_Parted)) (gBW : mg "BadWays" = some (.ref C_BadWays)) (gBX : mg "BadText" = some (.ref C_BadText)) (zVE : mg "ValueError" = none)
    (D_w_word : Dfn K mg "_law_word" "_law_word" s_w_word ["_law_deed"]) (WX : WordC K C_TownError C_BadText (false, false, false, false, false, false, true) (C_BadCount, C_BadPlace, C_BadStreet, C_TooMany, C_Parted, C_BadWays, C_BadText))
    (TB : LamX.TabB base mg fc TP) (hmT : (TP, lamN "_law_told" s_w_told) ∈ T) (hu : ∀ p ∈ T, p.1 = TP → p.2 = lamN "_law_told" s_w_told) (D : DfnC K mg "_law_told" "_law_told" fc s_w_told ["_law_text_here"]) :
    Ok P w K mg base CX0 7 "_law_told" ["_law_text_here"] (FpT K T (fun t : Str => t.length ≤ 1000) (fun t => [dat K (.str t)]) toldD) := by
  refine fpT_ok D sc_w_told (by decide) (fun _ => rfl) (fun _ => stab1 st_dat) (fun _ => np1 np_dat) (by decide) fun f A outer s H E hr => ⟨_, (pss_cons (ps_set (i := 1) sc_w_told.nd rfl (Or.inl rfl) pe_non)
    (pss_cons (ps_set (i := 2) sc_w_told.nd rfl (Or.inl rfl) pe_non)
    (pss_try_keep (i := 3) (c := .ref C_TownError) rfl rfl sc_w_told.nd rfl rfl ⟨rfl, by decide, .inl gTE⟩ (fun W pn xe tk po => (pss_one (ps_set (i := 2) sc_w_told.nd rfl (Or.inl rfl) (ok_callS tk G_read (by exact hr.mono (by decide)) rfl (pa_cons (pv 0) pa_nil))))) (fun a ob cls d pn hz hf => (pss_one (ps_set (i := 1) sc_w_told.nd rfl (Or.inl rfl) (pv 3)))) (pss_cons (ps_if (pt_cmpR op_notN (pv 1) pe_non (nomark _)) (pss_one (ps_ret (pe_ifExp (pt_cmpR (kop_eqD K (by exact hr.units)) (pe_wordK K Z gTE X_BadCount X_BadPlace X_BadStreet X_TooMany gPT gBW gBX zVE D_w_word (k := 4) rfl TB hmT hu rfl (by exact hr.mono (by decide)) (LamX.lamS_by (sc := defScope s_w_told) (by decide +kernel)) rfl (fun _ _ _ _ _ => rfl) (fun A1 outer1 s1 H1 E1 f1 c1 hr => (ok_callP (takes_of rfl rfl rfl rfl) G_read (by exact hr.mono (by decide)) rfl (pa_cons (pv 0) pa_nil)))) (pe_lst (pa_cons pe_str pa_nil)) (nomark _)) pe_non pe_str))) pss_nil)
    (pss_one (ps_ret (pe_tup (pa_cons (ok_meth0 M_places (by exact hr.mono (by decide)) (pv 2)) (pa_cons (pe_lc (own := [("_law_row", 4)]) (tt := tYes) rfl sc_w_told.nd (kpi_list K (ok_meth0 M_streets (by exact hr.mono (by decide)) (pv 2))) (blkOk_by (by dsimp only [cxOf, Cx.nox, Cx.wish, Cx.blk, compEnvC, envOfC]; (try (rw [relabel_eq]; dsimp only)); decide +kernel)) (fun _ _ _ _ _ => (pg_name (i := 4) sc_w_told.nd rfl (Or.inl rfl))) (fun _ _ _ _ _ => pts_nil) (fun _ _ _ _ _ => (pe_slice (ksl_tup K) (pv 4) (po_some pe_int) po_none))) (pa_cons (pe_lc (own := [("_law_row", 4)]) (tt := tYes) rfl sc_w_told.nd (kpi_list K (ok_meth0 M_streets (by exact hr.mono (by decide)) (pv 2))) (blkOk_by (by dsimp only [cxOf, Cx.nox, Cx.wish, Cx.blk, compEnvC, envOfC]; (try (rw [relabel_eq]; dsimp only)); decide +kernel)) (fun _ _ _ _ _ => (pg_name (i := 4) sc_w_told.nd rfl (Or.inl rfl))) (fun _ _ _ _ _ => pts_nil) (fun _ _ _ _ _ => (pe_ix (kix_tup K) (pv 4) pe_int (fun _ _ => rfl)))) pa_nil))))))) (fun a ob cls d pn hz hf => (pss_cons (ps_if (pt_cmpR op_notN (pv 1) pe_non (nomark _)) (pss_one (ps_ret (pe_ifExp (pt_cmpR (kop_eqD K (by exact hr.units)) (pe_wordK K Z gTE X_BadCount X_BadPlace X_BadStreet X_TooMany gPT gBW gBX zVE D_w_word (k := 4) rfl TB hmT hu rfl (by exact hr.mono (by decide)) (LamX.lamS_by (sc := defScope s_w_told) (by decide +kernel)) rfl (fun _ _ _ _ _ => rfl) (fun A1 outer1 s1 H1 E1 f1 c1 hr => (ok_callP (takes_of rfl rfl rfl rfl) G_read (by exact hr.mono (by decide)) rfl (pa_cons (pv 0) pa_nil)))) (pe_lst (pa_cons pe_str pa_nil)) (nomark _)) pe_non pe_str))) pss_nil)
    (pss_one (ps_ret (pe_tup (pa_cons (ok_meth0 M_places (by exact hr.mono (by decide)) (pv 2)) (pa_cons (pe_lc (own := [("_law_row", 4)]) (tt := tYes) rfl sc_w_told.nd (kpi_list K (ok_meth0 M_streets (by exact hr.mono (by decide)) (pv 2))) (blkOk_by (by dsimp only [cxOf, Cx.nox, Cx.wish, Cx.blk, compEnvC, envOfC]; (try (rw [relabel_eq]; dsimp only)); decide +kernel)) (fun _ _ _ _ _ => (pg_name (i := 4) sc_w_told.nd rfl (Or.inl rfl))) (fun _ _ _ _ _ => pts_nil) (fun _ _ _ _ _ => (pe_slice (ksl_tup K) (pv 4) (po_some pe_int) po_none))) (pa_cons (pe_lc (own := [("_law_row", 4)]) (tt := tYes) rfl sc_w_told.nd (kpi_list K (ok_meth0 M_streets (by exact hr.mono (by decide)) (pv 2))) (blkOk_by (by dsimp only [cxOf, Cx.nox, Cx.wish, Cx.blk, compEnvC, envOfC]; (try (rw [relabel_eq]; dsimp only)); decide +kernel)) (fun _ _ _ _ _ => (pg_name (i := 4) sc_w_told.nd rfl (Or.inl rfl))) (fun _ _ _ _ _ => pts_nil) (fun _ _ _ _ _ => (pe_ix (kix_tup K) (pv 4) pe_int (fun _ _ => rfl)))) pa_nil))))))))))), ?_⟩
  intro t ht B Q nB q
  walk_at "go"
  have st0 : ∀ a : Addr, Stab fun _ v => v = V.ref a := fun a _ _ _ _ z => z
  refine q_set K (d := .none) ev_non (q_set K (d := .none) ev_non ?_)
  have ia : EvA B B (((enterT T 5 [dat K (.str t)]).set 1 (sn K B .none)).set 2 (sn K B .none)) (tCons (tVar 0) tNil) [kdP K (.str t)] := ea_cons st_kdP (evh_kdT rfl) ea_nil
  refine at_asgS ia fun F H σ c vs F1 H1 g1 p1 => ⟨.str t, p1, fun t' e => by cases e; exact ht, fun t' n ps e er tt d H' s n1 n2 tat => ?succ, fun no H' s => ?fail⟩
  case fail =>
    have c1 := (c.go g1).go (gr_call (c.go g1).i s)
    have no : readF t = none := by
      cases e : readF t with
      | none => rfl
      | some p => exact absurd e (no t p rfl)
    refine keep_asg c1 (by show 3 < 5; omega) WX.m fun a => ?_
    refine q_when (c := true) (et_test (K := K) (Ev.hd (ev_notNk rfl))) (fun _ => ?_) (fun z => nomatch z)
    refine at_retT (K := K) (i := 0) (T := T) (f := dat K (.str t)) rfl (evx_ifT (ext_test (evx_wordEq WX rfl (by decide +kernel) (i := 0) rfl nB nB (nt_head (n0_F (n0_F (n0_N (n0_N n0_nil))))) (evr_read (ea_cons st_kdP (evh_kdT rfl) ea_nil) ht no))) ev_non.x) fun v H' s2 T2 dd => ?_
    refine q v H' s2 T2 ?_
    unfold toldD
    rw [no]
    exact dd
  case succ =>
    cases e
    obtain ⟨dx, kv, et, ed, ek⟩ := tat
    have c1 := c.go g1
    have g2 : Gr F1 H1 F1 H' := gr_call c1.i s
    obtain ⟨F3, g3, s3, n3⟩ := kv_fix ek townOf_flat F1 (Gr.refl g2.i)
    have ft := g3.n tt _ et rfl (c1.i.free n1)
    have fd := g3.n d _ ed rfl (c1.i.free n2)
    obtain ⟨r1, r2, r3, r4⟩ := readF_ok er
    have ok := townOf_ok r1 r2 r3 r4
    dsimp only [gName]
    refine (?_ : At B B _ (((((enterT T 5 [dat K (.str t)]).set 1 (sn K B .none)).set 2 (sn K B .none))).set 2 (mt K C (townOf n ps)))) F3 H' _ (c1.setN (as := [tt, d]) st_mt (g2.trans g3) ⟨tt, dx, d, kv, rfl, rfl, et, ed, n3⟩ fun a ha => ?_)
    case refine_2 =>
      rcases List.mem_cons.mp ha with rfl | ha
      · exact ⟨ft, n1, _, et, rfl⟩
      · rw [List.mem_singleton.mp ha]
        exact ⟨fd, n2, _, ed, rfl⟩
    refine q_when (c := false) (et_test (K := K) (Ev.hd (ev_notN (c := true) (d := .none) (evh_var (i := 1) rfl rd_sn) (Ev.hd ev_non) fun F v p => by cases p; rfl))) (fun z => nomatch z) fun _ => ?_
    have mtv : ∀ {B F0 : Hp} {ρ : List Sl}, ρ[2]? = some (mt K C (townOf n ps)) → EvH B F0 ρ (tVar 2) (isTown K C (townOf n ps)) := fun h => evh_mt h
    refine at_retT (K := K) (i := 0) (T := T) (f := dat K (.str t)) (d := .tuple [.int n, .list (ps.map pairD), .list ((List.range ps.length).map fun i : Nat => .int (i : Int))]) rfl (Ev.x (ev_tup (eas_cons (ev_places (st := townOf n ps) (mtv rfl)) (eas_cons ?p1 (eas_cons ?p2 eas_nil))) (by simp))) fun v H' s2 T2 dd => ?p3
    case p1 =>
      rw [← held_pairs (n := n)]
      refine EvM.nw (evm_lc (xs := (townOf n ps).held) (e := rowD) (q := nwd K B) (fun _ => true) (fun r => pairD r.2) (evj_list (ev_streets ok (mtv rfl))) (fun F1 r hr => ⟨_, _, bind_name st_nwd, by decide, fun F H σ c Q q => q F H (Gr.refl c.i), fun _ => ?_⟩) (by have := ok.few; omega))
      exact ev_sliceT (lo := some 1) (hi := none) (ds := [.int r.1, .int r.2.1, .int r.2.2]) (evh_var rfl rd_sn) rfl (eo_some (Ev.hd ev_int)) eo_none (show ¬ (HT.sIx 3 0 (some 1) = 0 ∧ HT.sIx 3 3 none = 3) by decide)
    case p2 =>
      rw [← held_nums (n := n)]
      refine EvM.nw (evm_lc (xs := (townOf n ps).held) (e := rowD) (q := nwd K B) (fun _ => true) (fun r => .int r.1) (evj_list (ev_streets ok (mtv rfl))) (fun F1 r hr => ⟨_, _, bind_name st_nwd, by decide, fun F H σ c Q q => q F H (Gr.refl c.i), fun _ => ?_⟩) (by have := ok.few; omega))
      exact ev_ixT (ds := [.int r.1, .int r.2.1, .int r.2.2]) (i := 0) (ev_var rfl) (Ev.hd ev_int) rfl
    case p3 =>
      refine q v H' s2 T2 ?_
      unfold toldD
      rw [er]
      exact dd
end

abbrev s_w_right : Stmt := top 33
theorem sc_w_right : FnScope ["_law_text_here", "_law_due"] ["_law_text_here"] (defScope s_w_right) := ⟨rfl, rfl, rfl, by decide +kernel, rfl, by decide +kernel, by decide +kernel⟩
section
variable {P : Program} {w : World} {K : PySem.W.Frag} {mg : Str → Option Value} {base : Heap}
/-- a def without lambdas that calls such with them -/
theorem fpT_okD {T : List (Addr × Str)} {x qual : Str} {st : Stmt} {N ps : List Str} {k : Nat} {α : Type} {pre : α → Prop} {args : α → List Pd} {res : α → PyData} (D : Dfn K mg x qual st ps) (S : FnScope N ps (defScope st)) (hN : ps.length ≤ N.length)
    (hlen : ∀ x, (args x).length = ps.length) (stab : ∀ x, ∀ f ∈ args x, Stab f) (np : ∀ x, ∀ f ∈ args x, NoTP f) (pos : 0 < ps.length)
    (body : ∀ (f : Addr) (cdv : Value) (A : Around) (outer : List Env) (s : Shared) (H : Hp) (E : XK), Room k (A.deeper (envOfC qual (defScope st) s.heap.objs.size f cdv)) →
      ∃ t, PSs (cxOf CX0 P w K mg base N qual (defScope st) f cdv A outer s H E).nox (defBody st) t ∧
        ∀ x, pre x → ∀ (B : Hp) (Q : VK), noTbl B → (∀ v H', Same B H' → LamX.Tabs T H' → Dp K H' v (res x) → Q v H') → At B B (t { nx := fun _ H' => Q .non H', rt := Q }) (enterT T N.length (args x))) : Ok P w K mg base CX0 (k + 1) x ps (FpT K T pre args res) := by
  obtain ⟨f, fd, F, hg, hb⟩ := D.ex
  refine ⟨f, fd, F.ok S (fun vs H Q E h => ?_) (fun cdv A outer s H vs Q E hr h => ?_), hg, F.kp, hb⟩
  · obtain ⟨z, _, h2, _⟩ := h
    rw [aok_len h2, hlen]
  · obtain ⟨z, h1, h2, hT, h3⟩ := h
    obtain ⟨t, q1, q2⟩ := body f cdv A outer s H E hr
    refine ⟨t, q1, q2 z h1 (noT H) Q (fun a o e => noT_tbl e) (fun v H' s e dd => h3 v H' (fun b o hb nt => s b o (noT_at hb (by cases o <;> first | rfl | exact absurd rfl (nt _)))) e dd) (noT H) H _ ?_⟩
    have hl := hlen z
    have st := stab z
    have hn := np z
    cases e : args z with
    | nil => rw [e] at hl; simp at hl; omega
    | cons g gs =>
      rw [e] at h2 hl st hn
      rw [List.length_cons] at hl
      exact cfg_enterTs (aok_noT hn h2) st hT (by omega)
end
section
variable {K : PySem.W.Frag} {B F0 : Hp} {ρ ρ1 : List Sl} {ta tb : TE} {d e : PyData} {ds es : List PyData}
theorem evx_eqDd (ha : EvXd K B F0 ρ ta ρ1 d) (hb : EvH B F0 ρ1 tb (dat K e)) (hd : SeqAt.shaped d = true) (he : SeqAt.shaped e = true) : EvX B F0 ρ (tOp (rEqD K) ta tb) ρ1 (nwd K B (.bool (PyData.eqv d e))) := fun F H σ c Q q =>
  ha F H σ c _ fun x F1 H1 c1 p1 => hb F1 H1 σ c1 _ fun y F2 H2 g2 p2 => ⟨d, e, dp_mono g2.h p1, p2, hd, he, q _ F2 H2 (c1.go g2) (.bl _)⟩
end
theorem range0 {m : Nat} : rangeD 0 m = (List.range m).map fun i : Nat => PyData.int (i : Int) := by
  unfold rangeD
  exact List.map_congr_left fun i _ => by rw [Int.zero_add]
theorem told_ok {t : Str} : okS 3 (toldD t) := by
  have up : ∀ {n m : Nat} {d : PyData}, okS n d → n ≤ m → okS m d := fun h l => ⟨h.1, Nat.le_trans h.2 l⟩
  unfold toldD
  split
  · exact up okS_none (by decide)
  · exact okS_tup (okS_cons (up okS_int (by decide)) (okS_cons (okS_list (okS_map fun _ => okS_pair)) (okS_cons (up (okS_list (n := 0) (okS_map fun _ => okS_int)) (by decide)) okS_nil)))
section
variable {P : Program} {w : World} {K : PySem.W.Frag} {mg : Str → Option Value} {base : Heap} {T : List (Addr × Str)}
theorem ok_right (Z : Zs mg) (G_w_read : Ok P w K mg base CX0 2 "_law_read" ["_law_text_here"] (spWRead K)) (G_w_told : Ok P w K mg base CX0 7 "_law_told" ["_law_text_here"] (FpT K T (fun t : Str => t.length ≤ 1000) (fun t => [dat K (.str t)]) toldD))
    (D : Dfn K mg "_law_right" "_law_right" s_w_right ["_law_text_here"]) : Ok P w K mg base CX0 8 "_law_right" ["_law_text_here"] (FpT K T (fun t : Str => t.length ≤ 1000 ∧ asc t) (fun t => [dat K (.str t)]) (fun _ => .bool true)) := by
  refine fpT_okD D sc_w_right (by decide) (fun _ => rfl) (fun _ => stab1 st_dat) (fun _ => np1 np_dat) (by decide) fun f cdv A outer s H E hr => ⟨_, (pss_cons (ps_set (i := 1) sc_w_right.nd rfl (Or.inl rfl) (ok_call G_w_read (by exact hr.mono (by decide)) rfl (pa_cons (pv 0) pa_nil)))
    (pss_cons (ps_if (pt_cmpR op_notN (pv 1) pe_non (nomark _)) (pss_one (ps_set (i := 1) sc_w_right.nd rfl (Or.inl rfl) (pe_op (kop_catA K) (pv 1) (pe_tup (pa_cons (pe_listRg rfl rfl Z.list (prg_1 rfl Z.range (pe_callB (kcall_len_seq K) (by rfl) Z.len PySem.boot_len (pa_cons (pe_ix (kix_tup K) (pv 1) pe_int (fun _ _ => rfl)) pa_nil)))) pa_nil))))) pss_nil)
    (pss_one (ps_ret (pe_cmpR (kop_eqD K (by exact hr.units)) (ok_call G_w_told (by exact hr.mono (by decide)) rfl (pa_cons (pv 0) pa_nil)) (pv 1) (nomark _)))))), ?_⟩
  intro t ht B Q nB q
  walk_at "go"
  have fin : ∀ {ρ : List Sl}, ρ = [.mo (tabP T (dat K (.str t))), sn K B (toldD t)] → At B B (tRet (tOp (rEqD K) (tCall (FpT K T (fun t : Str => t.length ≤ 1000) (fun t => [dat K (.str t)]) toldD) [] E0 (tCons (tVar 0) tNil)) (tVar 1)) { nx := fun x H' => Q V.non H', rt := Q }) ρ := fun e => by
    subst e
    refine at_retT (K := K) (i := 0) (T := T) (f := dat K (.str t)) (d := .bool true) rfl (evx_is (evx_eqDd (d := toldD t) (e := toldD t) (evx_callT (α := Str) (i := 0) t ht.1 rfl nB nB (nt_head (n0_F n0_nil)) (ea_cons st_dat (evh_var rfl rd_tab) ea_nil)) (evh_var rfl rd_sn) (told_ok.shaped (by decide)) (told_ok.shaped (by decide))) (by rw [eqv_same told_ok])) fun v H' s T2 dd => q v H' s T2 dd
  refine q_set K (d := readD (readF t)) (ev_call (α := Str) t ht (ea_cons st_dat (evh_var rfl rd_tab) ea_nil)) ?_
  cases er : readF t with
  | none =>
    refine q_when (c := false) (et_test (K := K) (Ev.hd (ev_notN (c := true) (d := .none) (evh_var (i := 1) rfl rd_sn) (Ev.hd ev_non) fun F v p => by cases p; rfl))) (fun z => nomatch z) fun _ => fin ?_
    unfold toldD
    rw [er]
    rfl
  | some p =>
    obtain ⟨n, ps⟩ := p
    obtain ⟨r1, r2, r3, r4⟩ := readF_ok er
    refine q_when (c := true) (et_test (K := K) (Ev.hd (ev_notN (c := false) (d := .tuple [.int n, .list (ps.map pairD)]) (evh_var (i := 1) rfl rd_sn) (Ev.hd ev_non) fun F v p => by cases p; rfl))) (fun _ => ?_) (fun z => nomatch z)
    refine at_set (K := K) (d := .tuple [.int n, .list (ps.map pairD), .list ((List.range ps.length).map fun i : Nat => .int (i : Int))]) ?a1 (at_go (fin ?a2))
    case a1 =>
      have e0 : rangeD 0 ((ps.map pairD).length : Int).toNat = (List.range ps.length).map fun i : Nat => PyData.int (i : Int) := by rw [List.length_map, Int.toNat_natCast, range0]
      refine ev_catT (ds := [.int n, .list (ps.map pairD)]) (es := [.list ((List.range ps.length).map fun i : Nat => .int (i : Int))]) (ev_var rfl) (ev_tup (eas_cons (e0 ▸ EvM.nw (evm_listRg (Ev.hd (ev_lenL (evh_ixT (i := 1) (evh_var rfl rd_sn) (Ev.hd ev_int) rfl))) (by omega) (by rw [List.length_map]; omega))) eas_nil) (by simp)) (by simp) (by simp) (by simp)
    case a2 =>
      unfold toldD
      rw [er]
      rfl
end

abbrev s_law : Stmt := top 34
theorem sc_law : FnScope ["_law_script", "_law_seed_here", "_law_many_here", "_law_pairs_here", "_law_town", "_law_rows", "_law_text_here", "_law_bent_here", "_law_k", "_law_more", "_law_odd", "_law_own"] ["_law_script"] (defScope s_law) := ⟨rfl, rfl, rfl, by decide +kernel, rfl, by decide +kernel, by decide +kernel⟩
def spLawTs (K : PySem.W.Frag) (T : List (Addr × Str)) : Sp := fun vs H Q _ => ∃ (a : Addr) (ns : List Int), vs = [.ref a] ∧ SqL K H a (ns.map V.int) ∧ ns.length ≤ 63 ∧ (∀ p ∈ T, H p.1 = some (.tbl #[])) ∧ ∀ H', Q (.bl true) H'
section
variable {K : PySem.W.Frag} {B F0 : Hp} {ρ ρ1 ρ2 : List Sl} {te ta tb : TE} {tr : TA} {tt : L2.TT} {ts u : TS} {D : Ends} {C CX : Addr} {d e : PyData} {fs : List Pd} {f : Pd}
theorem ext_not {a : Bool} (h : EvXT B F0 ρ tt ρ1 a) : EvXT B F0 ρ (tNot tt) ρ1 (!a) := fun F H σ k Q q => h F H σ k _ fun F1 H1 k1 => q F1 H1 k1
theorem q_whenJ {c : Bool} (J : List Sl → Prop) (h : EvT B F0 ρ tt c) (h1 : c = true → ∀ N : L2.St → Hp → Prop, (∀ ρ', J ρ' → At B F0 N ρ') → At B F0 (ts { D with nx := N }) ρ) (h2 : c = false → J ρ) (k : ∀ ρ', J ρ' → At B F0 (u D) ρ') : At B F0 (tSeq (tIfS tt ts tNext) u D) ρ :=
  q_when h (fun z => h1 z _ k) fun z => k ρ (h2 z)
theorem evx_andV {c : Bool} (h1 : EvX B F0 ρ ta ρ1 (nwd K B (.bool true))) (h2 : EvX B F0 ρ1 tb ρ2 (nwd K B (.bool c))) : EvX B F0 ρ (tAndV ta tb) ρ2 (nwd K B (.bool c)) := fun F H σ k Q q => h1 F H σ k _ fun v F1 H1 k1 p => by
  cases p
  exact ⟨true, rfl, iteT (h2 F1 H1 σ k1 Q q)⟩
/-- a list of things that are known one by one -/
def lsF (fs : List Pd) : Pd := fun F v => ∃ l xs, v = .ref l ∧ F l = some (.lst xs) ∧ AOk fs F xs
theorem aok_mono : ∀ {fs : List Pd} {F F' : Hp} {vs : List V}, (∀ g ∈ fs, Stab g) → Same F F' → AOk fs F vs → AOk fs F' vs
  | [], _, _, _, _, _, h => h
  | g :: gs, F, F', vs, st, s, ⟨v, ws, e, p, h⟩ => ⟨v, ws, e, st g (List.mem_cons_self ..) _ _ _ s p, aok_mono (fun x hx => st x (List.mem_cons_of_mem _ hx)) s h⟩
theorem st_lsF (st : ∀ g ∈ fs, Stab g) : Stab (lsF fs) := fun F F' v s ⟨l, xs, e, h, a⟩ => ⟨l, xs, e, s _ _ h, aok_mono st s a⟩
theorem ev_lsF (h : EvFs B F0 ρ tr fs) (st : ∀ g ∈ fs, Stab g) (hl : fs.length ≤ 100000) : Ev B F0 ρ (tLst tr) (lsF fs) := fun F H σ c Q q =>
  h F H σ c _ fun vs F1 H1 g1 p1 => ⟨sz_of (by rw [aok_len p1]; exact hl), fun a ha => by
    have g2 : Gr F H F1 (upd H1 a (.lst vs)) := g1.trans (Gr.new g1.i ha)
    refine q _ (upd F1 a (.lst vs)) _ (g2.put (.inl (g1.fresh ha)) rfl (g1.i.free ha) upd_same) ⟨a, vs, rfl, upd_same, aok_mono st (fun b o e => ?_) p1⟩
    rw [upd_ne (ne_of_none e (g1.i.free ha))]
    exact e⟩
theorem ev_ixLs {i : Int} (ha : Ev B F0 ρ ta (lsF fs)) (st : ∀ g ∈ fs, Stab g) (hb : EvH B F0 ρ tb (dat K (.int i))) (h0 : 0 ≤ i) (e : fs[i.toNat]? = some f) : Ev B F0 ρ (tOp (rIxL K) ta tb) f := fun F H σ c Q q =>
  ha F H σ c _ fun x F1 H1 g1 p1 => hb F1 H1 σ (c.go g1) _ fun y F2 H2 g2 p2 => by
    obtain ⟨l, xs, rfl, hl, a⟩ := p1
    cases p2
    obtain ⟨v, e1, e2⟩ := aok_get a e
    exact ⟨l, xs, i, v, rfl, rfl, SqL.of (g2.i _ _ (g2.f _ _ hl)), atI_nn h0 e1, q _ F2 H2 (g1.trans g2) (st f (List.mem_of_getElem? e) _ _ _ g2.f e2)⟩
theorem evr_readQ {P : V → Prop} (h : Ev B F0 ρ ta (kdq K P)) (hp : ∀ v, P v → ∀ t, v = .str t → t.length ≤ 1000 ∧ readF t = none) : EvR B F0 ρ (fun E => tCall (spRead K C CX) [] E (tCons ta tNil)) CX := fun F H σ c E Q q =>
  h F H σ c _ fun v F1 H1 g1 p => ⟨v, ⟨v, [], rfl, (st_kdP (K := K) (v0 := v)) F1 H1 v (c.go g1).i ⟨rfl, p.1⟩, rfl⟩, fun t e => (hp v p.2 t e).1, fun t n ps e er => (by rw [(hp v p.2 t e).2] at er; cases er), fun _ H' s => q F1 H' ((c.go g1).go (gr_call (c.go g1).i s))⟩
/-- x = read(..), a text -/
theorem q_readTown {i : Nat} {t : Str} {n : Int} {ps : List (Int × Int)} (h : EvA B F0 ρ tr [kdP K (.str t)]) (hl : t.length ≤ 1000) (er : readF t = some (n, ps)) (k : At B F0 (u D) (ρ.set i (mt K C (townOf n ps)))) : At B F0 (tSeq (tAsg (tCall (spRead K C CX) [] E0 tr) (gName i)) u D) ρ := fun F H σ c =>
  h F H σ c _ fun vs F1 H1 g1 p1 => ⟨.str t, by rw [List.append_nil]; exact p1, fun t' e => (by cases e; exact hl), fun t' n' ps' e er' tt d H' s n1 n2 tat => (by
    cases e
    rw [er] at er'
    cases er'
    obtain ⟨dx, kv, et, ed, ek⟩ := tat
    have c1 := c.go g1
    have g2 : Gr F1 H1 F1 H' := gr_call c1.i s
    obtain ⟨F3, g3, s3, n3⟩ := kv_fix ek townOf_flat F1 (Gr.refl g2.i)
    have ft := g3.n tt _ et rfl (c1.i.free n1)
    have fd := g3.n d _ ed rfl (c1.i.free n2)
    refine k F3 H' _ (c1.setN (as := [tt, d]) st_mt (g2.trans g3) ⟨tt, dx, d, kv, rfl, rfl, et, ed, n3⟩ fun a ha => ?_)
    rcases List.mem_cons.mp ha with rfl | ha
    · exact ⟨ft, n1, _, et, rfl⟩
    · rw [List.mem_singleton.mp ha]
      exact ⟨fd, n2, _, ed, rfl⟩), fun no => absurd er (no t _ rfl)⟩
theorem evh_kdN {i : Nat} {t : Str} (h : ρ[i]? = some (sn K B (.str t))) : EvH B F0 ρ (tVar i) (kdP K (.str t)) := fun F H σ c Q q => evh_var (d := .str t) h rd_sn F H σ c _ fun v F' H' g p => by
  have k := kd_dp p
  cases p
  exact q _ F' H' g ⟨rfl, k⟩
theorem kd_str {t : Str} {H : Hp} : Kd K H (.str t) := .inr (.inr (.inr (.inl ⟨t, rfl⟩)))
end
abbrev R10 (K : PySem.W.Frag) (B : Hp) (C : Addr) (T : List (Addr × Str)) (ns : List Int) (sd n : Int) (pairs : List (Int × Int)) (st : TSt) (t : Str) (s7 s8 s9 s10 s11 : Sl) : List Sl :=
  [.mo (tabP T (dat K (intsD ns))), sn K B (.int sd), sn K B (.int n), sn K B (.list (pairs.map pairD)), mt K C st, ml K B (st.held.map rowD), sn K B (.str t), s7, s8, s9, s10, s11]
section
variable {K : PySem.W.Frag} {B F0 : Hp} {C : Addr} {T : List (Addr × Str)} {ns : List Int} {sd n : Int} {pairs : List (Int × Int)} {st : TSt} {t : Str} {s7 s8 s9 s10 s11 : Sl} {ta : TE}
theorem nt10 (h7 : NtS s7) (h8 : NtS s8) (h9 : NtS s9) (h10 : NtS s10) (h11 : NtS s11) : NtAll 0 (R10 K B C T ns sd n pairs st t s7 s8 s9 s10 s11) :=
  nt_head (n0_F (n0_F (n0_F (n0_M nt_mt (n0_M nt_ml (n0_F (n0_S h7 (n0_S h8 (n0_S h9 (n0_S h10 (n0_S h11 n0_nil)))))))))))
theorem ext_right {x : Str} (h7 : NtS s7) (h8 : NtS s8) (h9 : NtS s9) (h10 : NtS s10) (h11 : NtS s11) (nB : noTbl B) (nF0 : noTbl F0) (hx : x.length ≤ 1000 ∧ asc x) (h : EvA B F0 (R10 K B C T ns sd n pairs st t s7 s8 s9 s10 s11) (tCons ta tNil) [dat K (.str x)]) :
    EvXT B F0 (R10 K B C T ns sd n pairs st t s7 s8 s9 s10 s11) (tNot (tB (tCall (FpT K T (fun t : Str => t.length ≤ 1000 ∧ asc t) (fun t => [dat K (.str t)]) (fun _ => .bool true)) [] E0 (tCons ta tNil)))) (R10 K B C T ns sd n pairs st t s7 s8 s9 s10 s11) false :=
  ext_not (a := true) (ext_B (K := K) (EvXd.flat (d := .bool true) (evx_callT (α := Str) (i := 0) x hx rfl nB nF0 (nt10 h7 h8 h9 h10 h11) h) rfl))
def oddOk (v : V) : Prop := ∀ t, v = .str t → t.length ≤ 1000 ∧ readF t = none
theorem odd_str {t : Str} (h : t.length ≤ 1000 ∧ readF t = none) : oddOk (.str t) := fun x e => by cases e; exact h
theorem odd_no {v : V} (h : isS v = false) : oddOk v := fun x e => by rw [e] at h; cases h
end
section
variable {P : Program} {w : World} {K : PySem.W.Frag} {mg : Str → Option Value} {base : Heap} {C TP fc C_BadCount C_BadPlace C_BadStreet C_TooMany C_Parted C_BadWays C_BadText C_TownError : Addr} {T : List (Addr × Str)}
theorem ok_law (Z : Zs mg) (TT : TownTxt K mg C) (G_w_mixed : Ok P w K mg base CX0 1 "_law_mixed" ["_law_cell", "_law_k"] (spMixed K)) (G_w_seed : Ok P w K mg base CX0 2 "_law_seed" ["_law_script"] (spSeed K)) (G_w_many : Ok P w K mg base CX0 2 "_law_many" ["_law_seed_here", "_law_most"] (spMany K)) (G_w_pairs : Ok P w K mg base CX0 2 "_law_pairs" ["_law_script", "_law_seed_here", "_law_many_here", "_law_most"] (spPairs K)) (G_w_made : Ok P w K mg base CX0 4 "_law_made" ["_law_many_here", "_law_pairs_here", "_law_seed_here"] (spMade K C))
    (M_streets : OkM P w K mg base CX0 1 C "streets" ["self"] (spStreets K C)) (M_places : OkM P w K mg base CX0 1 C "places" ["self"] (spPlaces K C)) (M_build : OkM P w K mg base (L2.CX P w) 3 C "build" ["self", "one", "other"] (spBuild K C C_BadPlace C_TooMany))
    (G_written : Ok P w K mg base CX0 2 "written" ["town"] (spWritten K C)) (G_w_text : Ok P w K mg base CX0 1 "_law_text" ["_law_many_here", "_law_pairs_here"] (spText K)) (G_w_bent : Ok P w K mg base CX0 1 "_law_bent" ["_law_text_here", "_law_number_here"] (spBent K)) (G_read : Ok P w K mg base (L2.CX P w) 4 "read" ["text"] (spRead K C C_BadText))
    (G_w_right : Ok P w K mg base CX0 8 "_law_right" ["_law_text_here"] (FpT K T (fun t : Str => t.length ≤ 1000 ∧ asc t) (fun t => [dat K (.str t)]) (fun _ => .bool true)))
    (gTE : mg "TownError" = some (.ref C_TownError)) (X_BadCount : XCls K mg "BadCount" C_BadCount) (X_BadPlace : XCls K mg "BadPlace" C_BadPlace) (X_BadStreet : XCls K mg "BadStreet" C_BadStreet) (X_TooMany : XCls K mg "TooMany" C_TooMany) (gPT : mg "Parted" = some (.ref C_Parted)) (gBW : mg "BadWays" = some (.ref C_BadWays)) (gBX : mg "BadText" = some (.ref C_BadText)) (zVE : mg "ValueError" = none)
    (D_w_word : Dfn K mg "_law_word" "_law_word" s_w_word ["_law_deed"]) (WX : WordC K C_TownError C_BadText (false, false, false, false, false, false, true) (C_BadCount, C_BadPlace, C_BadStreet, C_TooMany, C_Parted, C_BadWays, C_BadText))
    (TB : LamX.TabB base mg fc TP) (hmT : (TP, lamN "law" s_law) ∈ T) (hu : ∀ p ∈ T, p.1 = TP → p.2 = lamN "law" s_law) {f : Addr} {fd : FuncData} (F : LawC K f fc TP s_law fd) : FnOk P w K mg base CX0 12 f fd ["_law_script"] (spLawTs K T) := by
  refine F.ok sc_law (fun vs H Q E h => ?_) (fun A outer s H vs Q E hr h => ?_)
  · obtain ⟨a, ns, rfl, _⟩ := h
    rfl
  obtain ⟨a0, ns, rfl, hsq, hns, htp, q⟩ := h
  refine ⟨_, (pss_cons (ps_set (i := 1) sc_law.nd rfl (Or.inl rfl) (ok_call G_w_seed (by exact hr.mono (by decide)) rfl (pa_cons (pv 0) pa_nil)))
    (pss_cons (ps_set (i := 2) sc_law.nd rfl (Or.inl rfl) (ok_call G_w_many (by exact hr.mono (by decide)) rfl (pa_cons (pv 1) (pa_cons pe_int pa_nil))))
    (pss_cons (ps_set (i := 3) sc_law.nd rfl (Or.inl rfl) (ok_call G_w_pairs (by exact hr.mono (by decide)) rfl (pa_cons (pv 0) (pa_cons (pv 1) (pa_cons (pv 2) (pa_cons pe_int pa_nil))))))
    (pss_cons (ps_asg (ok_call G_w_made (by exact hr.mono (by decide)) rfl (pa_cons (pv 2) (pa_cons (pv 3) (pa_cons (pv 1) pa_nil)))) (kpg_tup K 2 rfl (pgs_cons (pg_name (i := 4) sc_law.nd rfl (Or.inl rfl)) (pgs_cons (pg_name (i := 5) sc_law.nd rfl (Or.inl rfl)) pgs_nil))))
    (pss_cons (ps_set (i := 6) sc_law.nd rfl (Or.inl rfl) (ok_call G_w_text (by exact hr.mono (by decide)) rfl (pa_cons (pv 2) (pa_cons (pv 3) pa_nil))))
    (pss_cons (ps_if (PW.pt (pw_or (pt_cmpR op_ne (ok_call G_written (by exact hr.mono (by decide)) rfl (pa_cons (pv 4) pa_nil)) (pv 6) (nomark _)) (pw_or (pt_not (pt_val (pe_callB (kcall_isi K) (by rfl) Z.isinstance (by decide +kernel) (pa_cons (ok_call G_written (by exact hr.mono (by decide)) rfl (pa_cons (pv 4) pa_nil)) (pa_cons (pe_bltn (v := .ty "str") (by rfl) Z.str (by decide +kernel) rfl) pa_nil))))) (pw_or1 (pt_not (pt_val (ok_call G_w_right (by exact hr.mono (by decide)) rfl (pa_cons (pv 6) pa_nil)))))))) (pss_one (ps_ret pe_bl)) pss_nil)
    (pss_cons (ps_set (i := 7) sc_law.nd rfl (Or.inl rfl) (pv 6))
    (pss_cons (ps_for PassesOwn.never rfl (pi_range1 rfl Z.range (pa_cons pe_int pa_nil)) (pg_name (i := 8) sc_law.nd rfl (Or.inl rfl))
      (pss_cons (ps_set (i := 7) sc_law.nd rfl (Or.inl rfl) (ok_call G_w_bent (by exact hr.mono (by decide)) rfl (pa_cons (pe_ix (kix_list K) (pe_lst (pa_cons (pv 6) (pa_cons (pv 7) pa_nil))) (pe_op op_mod (ok_call G_w_mixed (by exact hr.mono (by decide)) rfl (pa_cons (pv 1) (pa_cons (pe_op op_add pe_int (pv 8)) pa_nil))) pe_int) (fun _ _ => rfl)) (pa_cons (ok_call G_w_mixed (by exact hr.mono (by decide)) rfl (pa_cons (pv 1) (pa_cons (pe_op op_add pe_int (pv 8)) pa_nil))) pa_nil))))
    (pss_one (ps_if (pt_not (pt_val (ok_call G_w_right (by exact hr.mono (by decide)) rfl (pa_cons (pv 7) pa_nil)))) (pss_one (ps_ret pe_bl)) pss_nil))))
    (pss_cons (ps_for PassesOwn.never rfl (pi_range1 rfl Z.range (pa_cons pe_int pa_nil)) (pg_name (i := 9) sc_law.nd rfl (Or.inl rfl))
      (pss_one (ps_if (pt_not (pt_val (ok_call G_w_right (by exact hr.mono (by decide)) rfl (pa_cons (ok_call G_w_text (by exact hr.mono (by decide)) rfl (pa_cons pe_int (pa_cons (pe_lc (own := [("_law_k", 8)]) (tt := tYes) rfl sc_law.nd (pi_range1 rfl Z.range (pa_cons (pe_op op_add pe_int (pv 9)) pa_nil)) (blkOk_by (by dsimp only [cxOf, Cx.nox, Cx.wish, Cx.blk, compEnvC, envOfC]; (try (rw [relabel_eq]; dsimp only)); decide +kernel)) (fun _ _ _ _ _ => (pg_name (i := 8) sc_law.nd rfl (Or.inl rfl))) (fun _ _ _ _ _ => pts_nil) (fun _ _ _ _ _ => (pe_tup (pa_cons (pe_op op_mod (pv 8) pe_int) (pa_cons (pe_op op_mod (pe_op op_add (pv 8) pe_int) pe_int) pa_nil))))) pa_nil))) pa_nil)))) (pss_one (ps_ret pe_bl)) pss_nil)))
    (pss_cons (ps_set (i := 10) sc_law.nd rfl (Or.inr rfl) (pe_lst (pa_cons pe_non (pa_cons pe_int (pa_cons pe_bl (pa_cons (pe_lst (pa_cons (pv 6) pa_nil)) (pa_cons (pe_tup (pa_cons (pv 6) pa_nil)) (pa_cons pe_dnewK (pa_cons pe_str (pa_cons pe_str (pa_cons pe_str (pa_cons pe_str (pa_cons pe_str (pa_cons pe_str pa_nil))))))))))))))
    (pss_cons (ps_set (i := 10) sc_law.nd rfl (Or.inr rfl) (pe_ix (kix_list K) (pv 10) (pe_op op_mod (ok_call G_w_mixed (by exact hr.mono (by decide)) rfl (pa_cons (pv 1) (pa_cons pe_int pa_nil))) pe_int) (fun _ _ => rfl)))
    (pss_cons (ps_set (i := 11) sc_law.nd rfl (Or.inl rfl) (ok_callX G_read (by exact hr.mono (by decide)) rfl (pa_cons (pv 6) pa_nil)))
    (pss_cons (ps_if (PW.pt (pw_and (pt_cmpR op_gt (ok_meth0 M_places (by exact hr.mono (by decide)) (pv 11)) pe_int (nomark _)) (pw_and1 (pt_cmpR op_lt (pe_callB (kcall_len_seq K) (by rfl) Z.len PySem.boot_len (pa_cons (pv 3) pa_nil)) pe_int (nomark _))))) (pss_one (ps_expr (ok_methX M_build (by exact hr.mono (by decide)) (pv 11) (pa_cons pe_int (pa_cons pe_int pa_nil))))) pss_nil)
    (pss_one (ps_ret (pe_and (pe_cmpR (kop_eqD K (by exact hr.units)) (pe_wordT Z gTE X_BadCount X_BadPlace X_BadStreet X_TooMany gPT gBW gBX zVE D_w_word (k := 4) rfl TB hmT hu rfl (by exact hr.mono (by decide)) (LamX.lamS_by (sc := defScope s_law) (by decide +kernel)) rfl (fun _ _ _ _ _ => rfl) (fun A1 outer1 s1 H1 E1 f1 c1 hr => (ok_callP (takes_of rfl rfl rfl rfl) G_read (by exact hr.mono (by decide)) rfl (pa_cons (pv 10) pa_nil)))) (pe_lst (pa_cons pe_str pa_nil)) (nomark _)) (pe_and (pe_cmpR (kop_eqD K (by exact hr.units)) (ok_meth0 M_streets (by exact hr.mono (by decide)) (pv 4)) (pv 5) (nomark _)) (pe_one (pe_cmpR op_eq (ok_call G_written (by exact hr.mono (by decide)) rfl (pa_cons (pv 4) pa_nil)) (pv 6) (nomark _)))))))))))))))))))), ?_⟩
  refine at_enterT (T := T) (f := dat K (intsD ns)) st_dat (.lst (seq_noT hsq) (nwAll_dp (nwAll_ints (B := e0) ns))) htp (by decide) ?_
  walk_at "go"
  generalize hB : noT H = B
  have nB : noTbl B := by rw [← hB]; exact noT_noTbl
  clear hB
  generalize hsd : seedF ns = sd
  have hn1 : 1 ≤ manyF sd 16 ∧ manyF sd 16 ≤ 16 := by
    unfold manyF
    have := manyL_rng (n := (mixedF sd 60 % 10).toNat)
    omega
  generalize hnn : manyF sd 16 = n at hn1
  have pk := pairs_ok (script := ns) (sd := sd) (n := n) (most := 60) hn1.1 (by decide) (by decide)
  generalize hpp : pairsF ns sd n 60 = pairs at pk
  have I := made_held (sd := sd) hn1.1 hn1.2 pk
  have ok : TOk (madeF n pairs sd) := I.ok
  have many : (madeF n pairs sd).many = n := I.many
  have hps : (madeF n pairs sd).held.map (·.2) = pairs := by
    have := I.held
    rw [List.zipIdx_map_fst] at this
    exact this
  have rng16 : ∀ p ∈ pairs, 0 ≤ p.1 ∧ p.1 ≤ 16 ∧ 0 ≤ p.2 ∧ p.2 ≤ 16 := fun p hp => by
    have := pk.2 p hp
    omega
  have lp := pk.1
  obtain ⟨ta, tl⟩ := text_i (n := n) (ps := pairs) hn1.1 hn1.2 (by omega) rng16
  have er := read_text (n := n) hn1.1 hn1.2 pk
  generalize htx : textF n pairs = tx at ta tl er
  generalize hst : madeF n pairs sd = st at I ok many hps
  have wr : ∀ {F0 : Hp} {s7 s8 s9 s10 s11 : Sl}, Ev B F0 (R10 K B C T ns sd n pairs st tx s7 s8 s9 s10 s11) (tCall (spWritten K C) [] E0 (tCons (tVar 4) tNil)) (nwd K B (.str tx)) := fun {F0 s7 s8 s9 s10 s11} => by
    have h := ev_call (K := K) (B := B) (F0 := F0) (ρ := R10 K B C T ns sd n pairs st tx s7 s8 s9 s10 s11) (E := E0) (pre := fun st : TSt => TOk st) (args := fun st => [isTown K C st]) (res := fun st => PyData.str (textF st.many (st.held.map (·.2)))) (α := TSt) st ok (ea_cons st_isTown (evh_mt (i := 4) rfl) ea_nil)
    rw [many, hps, htx] at h
    exact h
  refine' q_set K (d := .int sd) ?a1 (q_set K (d := .int n) ?a2 (q_set K (d := .list (pairs.map pairD)) ?a3 (q_made (sd := sd) (n := n) (pairs := pairs) (i := 4) (j := 5) (by decide) ?a4 hn1.1 hn1.2 pk (q_set K (d := .str tx) ?a5 (q_whenX (ρ1 := R10 K B C T ns sd n pairs st tx .no .no .no .no .no) (c := false) ?a6 (fun z => nomatch z) fun _ => q_set K (d := .str tx) (ev_var rfl) ?a7)))))
  case a1 => rw [← hsd]; walk_at "ev"; trivial
  case a2 => rw [← hnn]; walk_at "ev"; trivial
  case a3 =>
    rw [← hpp]
    refine ev_call (α := List Int × Int × Int × Int) (ns, sd, n, 60) ⟨hns, hn1.1, hn1.2, (by decide : (0 : Int) ≤ 60), (by decide : (60 : Int) ≤ 60)⟩ ?_
    walk_at "ev"
  case a4 => walk_at "ev"
  case a5 =>
    rw [← htx]
    refine ev_call (α := Int × List (Int × Int)) (n, pairs) ⟨hn1.1, hn1.2, by dsimp only; omega, rng16⟩ ?_
    walk_at "ev"
  case a6 =>
    rw [hst]
    refine ext_is (ext_or (a := false) (c := false) (EvT.x (et_is (et_test (K := K) (Ev.hd (ev_neS (Ev.hd wr) (evh_var rfl rd_sn)))) (by simp))) (fun _ => ext_or (a := false) (c := false) (EvT.x (et_is (et_not (et_B (K := K) (Ev.hd (ev_isiD (d := .str tx) (n := "str") (r := true) (Ev.hd wr) fun H v p => by cases p; exact isi_str kd_str)))) rfl)) (fun _ => ?_) (fun _ => rfl)) (fun _ => rfl)) rfl
    exact ext_right nts_no nts_no nts_no nts_no nts_no nB nB ⟨by omega, ta⟩ (ea_cons st_dat (evh_var rfl rd_sn) ea_nil)
  case a7 =>
  refine' q_forT nB (xs := rangeI 8) (e := PyData.int) (q := nwd K B) (EvJ.i ?b1) (fun pre ρ' => ∃ (b : Str) (s8 : Sl), asc b ∧ b.length ≤ 620 + pre.length ∧ NtS s8 ∧ ρ' = R10 K B C T ns sd n pairs st tx (sn K B (.str b)) s8 .no .no .no) ?b2 ?b3 ?b4
  case b1 =>
    rw [← rangeD_eq]
    exact evj_range1 (ea_cons st_dat (Ev.hd ev_int) ea_nil) (by decide)
  case b2 => exact ⟨tx, .no, ta, by simpa using tl, nts_no, rfl⟩
  case b3 =>
    rintro F1 pre k post ρ' nF1 hx ⟨b, s8, ab, lb, n8, rfl⟩
    have hpre : pre.length ≤ 7 := by
      have := congrArg List.length hx
      rw [List.length_append, List.length_cons] at this
      have e8 : (rangeI 8).length = 8 := by decide
      omega
    have hk : 0 ≤ k ∧ k < 8 := mem_rangeI.mp (by rw [hx]; simp)
    have pick : ∃ y : Str, atI [PyData.str tx, PyData.str b] (mixedF sd (300 + k) % 2) = some (.str y) ∧ asc y ∧ y.length ≤ 620 + pre.length := by
      have m0 := Int.emod_nonneg (mixedF sd (300 + k)) (show (2 : Int) ≠ 0 by decide)
      have m1 := Int.emod_lt_of_pos (mixedF sd (300 + k)) (show (0 : Int) < 2 by decide)
      generalize mixedF sd (300 + k) % 2 = j at m0 m1
      have : j = 0 ∨ j = 1 := by omega
      rcases this with rfl | rfl
      · exact ⟨tx, rfl, ta, by omega⟩
      · exact ⟨b, rfl, ab, lb⟩
    obtain ⟨y, hy, ay, ly⟩ := pick
    have bi := bent_i (t := y) (num := mixedF sd (200 + k)) ay
    refine' ⟨_, _, (by walk_at "bd"), q_set K (d := .str (bentF y (mixedF sd (200 + k)))) ?c1 (at_whenX (ρ1 := R10 K B C T ns sd n pairs st tx (sn K B (.str (bentF y (mixedF sd (200 + k))))) (sn K B (.int k)) .no .no .no) (c := false) ?c2 (fun z => nomatch z) fun _ => at_nxt (at_lp ?c3))⟩
    case c1 =>
      refine' ev_call (α := Str × Int) (y, mixedF sd (200 + k)) ⟨by dsimp only; omega, mixedF_pos _ _⟩ (ea_cons st_dat (evh_ixL (i := mixedF sd (300 + k) % 2) (ds := [.str tx, .str b]) (d := .str y) (Ev.hd (EvM.nw (evm_lst (eas_cons (ev_var rfl) (eas_cons (ev_var rfl) eas_nil)) (by simp)))) (Ev.hd ?d1) hy) (ea_cons st_dat (Ev.hd ?d2) ea_nil))
      case d1 => walk_at "ev" <;> walk_at "num"
      case d2 => walk_at "ev" <;> walk_at "num"
    case c2 => exact ext_right nts_fz nts_fz nts_no nts_no nts_no nB nF1 ⟨by omega, bi.1⟩ (ea_cons st_dat (evh_var rfl rd_sn) ea_nil)
    case c3 => exact ⟨_, _, bi.1, by rw [List.length_append, List.length_singleton]; omega, nts_fz, rfl⟩
  case b4 =>
  rintro ρ' ⟨b, s8, ab, lb, n8, rfl⟩
  clear ab lb
  have n7 : NtS (sn K B (.str b)) := nts_fz
  generalize sn K B (.str b) = s7 at n7
  refine' q_forT nB (xs := rangeI 2) (e := PyData.int) (q := nwd K B) (EvJ.i ?b1) (fun pre ρ' => ∃ s9 : Sl, NtS s9 ∧ ρ' = R10 K B C T ns sd n pairs st tx s7 s8 s9 .no .no) ?b2 ?b3 ?b4
  case b1 =>
    rw [← rangeD_eq]
    exact evj_range1 (ea_cons st_dat (Ev.hd ev_int) ea_nil) (by decide)
  case b2 => exact ⟨.no, nts_no, rfl⟩
  case b3 =>
    rintro F1 pre k post ρ' nF1 hx ⟨s9, n9, rfl⟩
    have hk : 0 ≤ k ∧ k < 2 := mem_rangeI.mp (by rw [hx]; simp)
    have r16 : ∀ p ∈ (rangeI (60 + k)).map (fun j => (j % 16, (j + 5) % 16)), 0 ≤ p.1 ∧ p.1 ≤ 16 ∧ 0 ≤ p.2 ∧ p.2 ≤ 16 := fun p hp => by
      obtain ⟨j, _, rfl⟩ := List.mem_map.mp hp
      dsimp only
      omega
    have l61 : ((rangeI (60 + k)).map fun j => (j % 16, (j + 5) % 16)).length ≤ 61 := by
      unfold rangeI
      rw [List.length_map, List.length_map, List.length_range]
      omega
    obtain ⟨ta2, tl2⟩ := text_i (n := 16) (by decide) (by decide) l61 r16
    refine' ⟨_, R10 K B C T ns sd n pairs st tx s7 s8 (sn K B (.int k)) .no .no, bind_name (i := 9) st_nwd, at_whenX (ρ1 := R10 K B C T ns sd n pairs st tx s7 s8 (sn K B (.int k)) .no .no) (c := false) (ext_right n7 n8 nts_fz nts_no nts_no nB nF1 ⟨?c1, ta2⟩ (ea_cons st_dat (Ev.hd ?c2) ea_nil)) (fun z => nomatch z) fun _ => at_nxt (at_lp ⟨_, nts_fz, rfl⟩)⟩
    case c1 => omega
    case c2 =>
      refine' ev_call (α := Int × List (Int × Int)) (16, (rangeI (60 + k)).map fun j => (j % 16, (j + 5) % 16)) ⟨by dsimp only; omega, by dsimp only; omega, l61, r16⟩ (ea_cons st_dat (Ev.hd ev_int) (ea_cons st_dat (Ev.hd ?d1) ea_nil))
      refine ev_is (d := .list (((rangeI (60 + k)).filter fun _ => true).map fun j => pairD (j % 16, (j + 5) % 16))) (EvM.nw (evm_lc (xs := rangeI (60 + k)) (e := PyData.int) (q := nwd K B) (fun _ => true) (fun j => pairD (j % 16, (j + 5) % 16)) ?e1 (fun F2 j hj => ⟨_, _, bind_name st_nwd, by decide, fun F H σ c Q q => q F H (Gr.refl c.i), fun _ => ?e2⟩) ?e3)) ?e4
      case e1 =>
        rw [← rangeD_eq]
        exact evj_range1 (ea_cons st_dat (Ev.hd (ev_ii (Ev.hd ev_int) (evh_var rfl rd_sn) rfl)) ea_nil) (by omega)
      case e2 => exact ev_tup (eas_cons (ev_ci (evh_var rfl rd_sn) (Ev.hd ev_int) (by walk_at "num") rfl) (eas_cons (ev_ci (Ev.hd (ev_ii (evh_var rfl rd_sn) (Ev.hd ev_int) rfl)) (Ev.hd ev_int) (by walk_at "num") rfl) eas_nil)) (by simp)
      case e3 =>
        rw [List.length_map] at l61
        omega
      case e4 =>
        rw [List.filter_eq_self.mpr fun _ _ => rfl]
        dsimp only
        rw [List.map_map]
        rfl
  case b4 =>
  rintro ρ' ⟨s9, n9, rfl⟩
  have stQ : ∀ g ∈ List.replicate 12 (kdq K oddOk), Stab g := fun g hg => by rw [List.eq_of_mem_replicate hg]; exact st_kdq
  have o0 := Int.emod_nonneg (mixedF sd 3) (show (12 : Int) ≠ 0 by decide)
  have o1 := Int.emod_lt_of_pos (mixedF sd 3) (show (0 : Int) < 12 by decide)
  refine' q_setF (f := lsF (List.replicate 12 (kdq K oddOk))) (st_lsF stQ) ?b1 (q_setF (f := kdq K oddOk) st_kdq (ev_ixLs (K := K) (i := mixedF sd 3 % 12) (fs := List.replicate 12 (kdq K oddOk)) (ev_var rfl) stQ ?b2 o0 ?b3) (q_readTown (i := 11) (ea_cons st_kdP (evh_kdN (i := 6) rfl) ea_nil) (by omega) er ?b4))
  case b1 => exact ev_lsF (efs_cons st_kdq (Ev.kdq ev_non fun F v p => by cases p; exact odd_no rfl) (efs_cons st_kdq (Ev.kdq ev_int fun F v p => by cases p; exact odd_no rfl) (efs_cons st_kdq (Ev.kdq ev_bl fun F v p => by cases p; exact odd_no rfl) (efs_cons st_kdq (Ev.kdq (EvM.nw (evm_lst (eas_cons (ev_var rfl) eas_nil) (by simp))) fun F v p => by cases p; exact odd_no rfl) (efs_cons st_kdq (Ev.kdq (ev_tup (eas_cons (ev_var rfl) eas_nil) (by simp)) fun F v p => by cases p; exact odd_no rfl) (efs_cons st_kdq ((ev_dnew (K := K)).imp fun F v ⟨l, kv, e, hl, _⟩ => ⟨e ▸ .inr (.inr (.inr (.inr ⟨l, rfl, .inr (.inr ⟨kv, .inl hl⟩)⟩))), e ▸ odd_no rfl⟩) (efs_cons st_kdq (Ev.kdq ev_str fun F v p => by cases p; exact odd_str (by decide +kernel)) (efs_cons st_kdq (Ev.kdq ev_str fun F v p => by cases p; exact odd_str (by decide +kernel)) (efs_cons st_kdq (Ev.kdq ev_str fun F v p => by cases p; exact odd_str (by decide +kernel)) (efs_cons st_kdq (Ev.kdq ev_str fun F v p => by cases p; exact odd_str (by decide +kernel)) (efs_cons st_kdq (Ev.kdq ev_str fun F v p => by cases p; exact odd_str (by decide +kernel)) (efs_cons st_kdq (Ev.kdq ev_str fun F v p => by cases p; exact odd_str (by decide +kernel)) (efs_nil))))))))))))) stQ (by simp)
  case b2 => walk_at "ev" <;> walk_at "num"
  case b3 => rw [List.getElem?_replicate, if_pos (by omega)]
  case b4 =>
  obtain ⟨_, _, r3, r4⟩ := readF_ok er
  have okT := townOf_ok hn1.1 hn1.2 r3 r4
  have hlT : (townOf n pairs).held.length = pairs.length := by unfold townOf; simp
  have nq : NtS (.fz (kdq K oddOk)) := nts_fz
  refine' q_whenJ (fun ρ' => ∃ s : TSt, ρ' = R10 K B C T ns sd n pairs st tx s7 s8 s9 (.fz (kdq K oddOk)) (mt K C s)) (c := decide (1 < n) && decide (pairs.length < 60)) ?c1 (fun hc N hN => ?c2) (fun _ => ⟨townOf n pairs, rfl⟩) ?c3
  case c1 =>
    refine et_and (et_test (K := K) (Ev.hd (ev_ib (Ev.hd (ev_places (st := townOf n pairs) (evh_mt rfl))) (Ev.hd ev_int) rfl))) fun _ => ?_
    have h := ev_lenL (K := K) (B := B) (F0 := B) (ρ := R10 K B C T ns sd n pairs st tx s7 s8 s9 (.fz (kdq K oddOk)) (mt K C (townOf n pairs))) (te := tVar 3) (ds := pairs.map pairD) (evh_var rfl rd_sn)
    rw [List.length_map] at h
    exact et_test (K := K) (Ev.hd (ev_is (ev_ib (c := decide ((pairs.length : Int) < 60)) (Ev.hd h) (Ev.hd ev_int) rfl) (congrArg PyData.bool (decide_eq_decide.mpr (by omega)))))
  case c2 =>
    have hc := Bool.and_eq_true_iff.mp hc
    have h1 := of_decide_eq_true hc.1
    have h2 := of_decide_eq_true hc.2
    exact at_drop (evx_build (i := 11) (a := 1) (b := 0) rfl (Ev.hd ev_int) (Ev.hd ev_int) okT (by decide) h1 (by decide) (by show 0 < n; omega) (by decide) (by rw [hlT]; exact h2)) (hN _ ⟨_, rfl⟩)
  case c3 =>
    rintro ρ' ⟨s, rfl⟩
    refine at_retX (K := K) (d := .bool true) (evx_andV (evx_wordEq WX rfl (by decide +kernel) (i := 0) rfl nB nB (nt10 n7 n8 n9 nq (nts_mo nt_mt)) (evr_readQ (ev_var (i := 10) (f := kdq K oddOk) rfl) fun v p t e => p t e)) (Ev.x (ev_is (ev_andV (a := true) (c := true) (Ev.hd (ev_is (ev_eqD (d := .list (st.held.map rowD)) (e := .list (st.held.map rowD)) (Ev.hd (ev_streets ok (evh_mt rfl))) (evh_var rfl rd_ml) (ok60_rows.shaped (by decide)) (ok60_rows.shaped (by decide))) (by rw [eqv_same ok60_rows]))) fun _ => ev_is (ev_eqS (Ev.hd wr) (evh_var rfl rd_sn)) (by simp)) rfl))) fun v H' _ p => by cases p; exact q H'
end

/-- a code object's fields: its table is P -/
def codeV (vs : Array Value) (P : Addr) : Bool := (match (vs[11]? : Option Value) with | some (.ref q) => q == P | _ => false) && (match vs.getD 18 .none with | .str _ _ => true | _ => false) && (match vs.getD 7 .none with | .int _ _ => true | _ => false) &&
  (match vs.getD 9 .none with | .bool _ => true | _ => false) && (match vs.getD 10 .none with | .int _ _ => true | _ => false)
theorem codeV_hd {h : Heap} {K : PySem.W.Frag} {c P : Addr} {vs : Array Value} {dd : Option Addr} {sl : Array (Option Value)} (X : K.In h) (hk : K.lookup c = some ⟨.type "code", dd, .fields vs, sl⟩) (e : codeV vs P = true) (hne : c ≠ P) : PySem.W.CodeHd h c P ∧ vs[11]? = some (.ref P) := by
  unfold codeV at e
  simp only [Bool.and_eq_true] at e
  obtain ⟨⟨⟨⟨e1, e2⟩, e3⟩, e4⟩, e5⟩ := e
  have h11 : vs[11]? = some (.ref P) := by
    split at e1
    · rename_i q h11
      rw [h11, beq_iff_eq.mp e1]
    · cases e1
  split at e2
  · rename_i f tf h18
    split at e3
    · rename_i fl tg h7
      split at e4
      · rename_i b h9
        split at e5
        · rename_i m tt h10
          exact ⟨⟨_, vs, f, tf, fl, tg, b, m, tt, X _ _ hk, rfl, rfl, h11, by rw [Array.getD_eq_getD_getElem?, h11]; rfl, h18, h7, h9, h10, hne⟩, h11⟩
        · cases e5
      · cases e4
    · cases e3
  · cases e2
/-- a code object, its table empty -/
structure CodeT (K : PySem.W.Frag) (h : Heap) (c P : Addr) : Prop where
  hd : PySem.W.CodeHd h c P
  no : K.lookup P = none
  at_ : h.get? P = some { cls := .none, data := .fields #[] }
theorem codeT_mk {K : PySem.W.Frag} {h : Heap} {c P : Addr} {ts : List Addr} {vs : Array Value} {dd : Option Addr} {sl : Array (Option Value)} (X : K.In h) (hT : ∀ P ∈ ts, h.get? P = some (PySem.W.tabObj #[])) (hk : K.lookup c = some ⟨.type "code", dd, .fields vs, sl⟩) (_h11 : vs[11]? = some (.ref P)) (hv : codeV vs P = true) (nP : K.lookup P = none) (m : P ∈ ts) : CodeT K h c P :=
  ⟨(codeV_hd X hk hv (fun z => by rw [← z, hk] at nP; cases nP)).1, nP, hT P m⟩
theorem dfnc_mk {K : PySem.W.Frag} {h : Heap} {mg : Str → Option Value} {x qual : Str} {st : Stmt} {ps : List Str} {f c : Addr} {oc kV dc pm ct : Value} {od an : Option Addr} {sl : Array (Option Value)} (X : K.In h) (G : h.Ns mainGlobals mg) (a : PySem.W.nsIn K mainGlobals x = some (some (.ref f)))
    (l : K.lookup f = some ⟨oc, od, .func (PySem.W.fnOf x qual (defArgs st) (defBody st) (defScope st) .none kV dc pm an (.ref c) ct), sl⟩) (cd : PySem.W.codeIn K (.ref c) qual = true) (k : PySem.W.keepIn K (.ref f) = true)
    (b : ∀ (kV doc pm : Value) (an : Option Addr) (cdv ct : Value) (us : List Value), us.length = ps.length → bindArgs (PySem.W.fnOf x qual (defArgs st) (defBody st) (defScope st) .none kV doc pm an cdv ct) ⟨us, []⟩ = pure (ps.zip us)) : DfnC K mg x qual c st ps :=
  have F := fun_mk (st := st) l cd k
  ⟨f, _, ⟨⟨oc, od, kV, dc, pm, an, ct, sl, rfl, l, cd⟩, k⟩, PySem.W.mg_of X G a, F.binds b⟩
theorem law_endTs {l : PySem.W.OpenLaw} {K : PySem.W.Frag} {w : World} {mg : Str → Option Value} {fa c TP : Addr} {h : Heap} {st : Stmt} {cs : List (Addr × Addr)} {T : List (Addr × Str)} (hmg : mg "law" = some (.ref fa)) (D : DfnC K mg "law" "law" c st ["_law_script"]) (hc : ∀ p ∈ cs, CodeT K h p.1 p.2) (hTT : ∀ p ∈ T, ∃ q ∈ cs, q.2 = p.1)
    (hb : ∀ (kV doc pm : Value) (an : Option Addr) (cdv ct : Value) (s : Shared) (u : Value), BindsTo s (PySem.W.fnOf "law" "law" (defArgs st) (defBody st) (defScope st) .none kV doc pm an cdv ct) ⟨[u], []⟩ [("_law_script", u)])
    (ok : ∀ (base : Heap) (f : Addr) (fd : FuncData), (∀ p ∈ cs, LamX.TabB base mg p.1 p.2) → LawC K f c TP st fd → FnOk l.prog w K mg base CX0 12 f fd ["_law_script"] (spLawTs K T)) : LamX.LawAtS l w K CX0 12 63 "_law_script" mg fa h := by
  obtain ⟨f, fd, F, hg, _⟩ := D.ex
  rw [hmg] at hg
  cases hg
  refine ⟨fd, cs, spLawTs K T, fun p hp => (hc p hp).at_, fun p hp => (hc p hp).no, fun p hp => (hc p hp).hd, fun s u => ?_, fun H a ns hl _ hT hS => ⟨a, ns, rfl, hS, hl, fun p hp => ?_, fun _ => rfl⟩, fun base _ _ tb => ok base fa fd tb ⟨F.ex⟩⟩
  · obtain ⟨oc, od, kV, doc, pm, an, ct, osl, rfl, _, _⟩ := F.ex
    exact hb _ _ _ _ _ _ s u
  · obtain ⟨q, hq, e⟩ := hTT p hp
    rw [← e]
    exact hT q hq
theorem walkTs {l : PySem.W.OpenLaw} {q : Program} {loose : List Str} {XP : (Str → Option Value) → Heap → Prop} {YP : World → Heap → Prop} {d : DefRec} {K : Params → PySem.W.Frag} (hn : l.most = some 63) (hdf : d.params.defaults = [])
    (hY : ∀ (w : World) (h : Heap), YP w h → (K w.params).In h)
    (F : ∀ (w : World) (mg : Str → Option Value) (fa : Addr) (h : Heap), YP w h → (K w.params).In h → h.Ns mainGlobals mg → mg d.name = some (.ref fa) → LamX.LawAtS l w (K w.params) CX0 12 63 "_law_script" mg fa h) :
    PySem.W.WalkO q loose XP YP l.row.toRowW d [] (fun f vs => PySem.call f vs) :=
  LamX.walk_ofTs (n := 63) (k := 12) (x := "_law_script") (CX := fun _ => CX0) hn (by decide) hdf ⟨rfl, by decide, by decide⟩ hY F fun _ _ _ _ _ z => z
/-- the code object of such a def -/
abbrev cOf {K : PySem.W.Frag} {mg : Str → Option Value} {x qual : Str} {c : Addr} {st : Stmt} {ps : List Str} (_ : DfnC K mg x qual c st ps) : Addr := c
abbrev tOf {K : PySem.W.Frag} {h : Heap} {c P : Addr} (_ : CodeT K h c P) : Addr := P
theorem all1 {α : Type} {p : α → Prop} {a : α} (h : p a) : ∀ x ∈ [a], p x := fun x hx => by rw [List.mem_singleton.mp hx]; exact h
theorem allC {α : Type} {p : α → Prop} {a : α} {l : List α} (h : p a) (r : ∀ x ∈ l, p x) : ∀ x ∈ a :: l, p x := fun x hx => by
  rcases List.mem_cons.mp hx with rfl | hx
  · exact h
  · exact r x hx

end Lay
open PySem PySem.W PyProof.Rows
set_option maxRecDepth 100000 in
set_option maxHeartbeats 0 in
theorem PySem.Challenge.cw_onewaytown_k10_towns_written_holds : PySem.Challenge.rw_onewaytown_k10_towns_written.Holds := by
  w_on; o_law; k_head; (case hw => w_witness2)
  k_fill
  refine Lay.walkTs (l := PySem.Challenge.rw_onewaytown_k10_towns_written) rfl rfl (fun w h Y => PySem.W.km_in_of Y) ?F
  case F =>
    intro w mg fa h Y KX G hmg
    refine' Lay.with_cls (x := "Town") KX G ?aCTown ?rTown
    (case aCTown => k_is)
    intro gTown
    refine' Lay.with_cls (x := "BadCount") KX G ?aCBadCount ?rBadCount
    (case aCBadCount => k_is)
    intro gBadCount
    refine' Lay.with_cls (x := "BadPlace") KX G ?aCBadPlace ?rBadPlace
    (case aCBadPlace => k_is)
    intro gBadPlace
    refine' Lay.with_cls (x := "BadStreet") KX G ?aCBadStreet ?rBadStreet
    (case aCBadStreet => k_is)
    intro gBadStreet
    refine' Lay.with_cls (x := "TooMany") KX G ?aCTooMany ?rTooMany
    (case aCTooMany => k_is)
    intro gTooMany
    refine' Lay.with_cls (x := "Parted") KX G ?aCParted ?rParted
    (case aCParted => k_is)
    intro gParted
    refine' Lay.with_cls (x := "BadWays") KX G ?aCBadWays ?rBadWays
    (case aCBadWays => k_is)
    intro gBadWays
    refine' Lay.with_cls (x := "BadText") KX G ?aCBadText ?rBadText
    (case aCBadText => k_is)
    intro gBadText
    refine' Lay.with_cls (x := "TownError") KX G ?aCTownError ?rTownError
    (case aCTownError => k_is)
    intro gTownError
    refine' Lay.cps (⟨Lay.none_mk KX G ?z0_Z, Lay.none_mk KX G ?z1_Z, Lay.none_mk KX G ?z2_Z, Lay.none_mk KX G ?z3_Z, Lay.none_mk KX G ?z4_Z, Lay.none_mk KX G ?z5_Z, Lay.none_mk KX G ?z6_Z, Lay.none_mk KX G ?z7_Z, Lay.none_mk KX G ?z8_Z, Lay.none_mk KX G ?z9_Z, Lay.none_mk KX G ?z10_Z, Lay.none_mk KX G ?z11_Z, Lay.none_mk KX G ?z12_Z, Lay.none_mk KX G ?z13_Z, Lay.none_mk KX G ?z14_Z, Lay.none_mk KX G ?z15_Z, Lay.none_mk KX G ?z16_Z⟩ : Lay.Zs mg) ?r_Z
    (case z0_Z => k_is); (case z1_Z => k_is); (case z2_Z => k_is); (case z3_Z => k_is); (case z4_Z => k_is); (case z5_Z => k_is); (case z6_Z => k_is); (case z7_Z => k_is); (case z8_Z => k_is); (case z9_Z => k_is); (case z10_Z => k_is); (case z11_Z => k_is); (case z12_Z => k_is); (case z13_Z => k_is); (case z14_Z => k_is); (case z15_Z => k_is); (case z16_Z => k_is)
    intro Z
    refine' Lay.cps (Lay.cls_mk KX gTown ?pg_T ?hd_T ?po_T ?sa_T) ?r_T
    (case pg_T => k_is); (case hd_T => k_is); (case po_T => k_is); (case sa_T => k_is)
    intro Tcl
    refine' Lay.cps (Lay.noattr_mk (m := "many") KX gTown ?aM_T) ?rM_T
    (case aM_T => k_is)
    intro TnM
    refine' Lay.cps (Lay.noattr_mk (m := "built") KX gTown ?aB_T) ?rB_T
    (case aB_T => k_is)
    intro TnB
    refine' Lay.cps (Lay.noattr_mk (m := "held") KX gTown ?aH_T) ?rH_T
    (case aH_T => k_is)
    intro TnH
    refine' Lay.cps (Lay.int_mk (x := "MOST_PLACES") (n := 16) KX G ?aP_T) ?rP_T
    (case aP_T => k_is)
    intro TcP
    refine' Lay.cps (Lay.int_mk (x := "MOST_STREETS") (n := 60) KX G ?aS_T) ?rS_T
    (case aS_T => k_is)
    intro TcS
    refine' Lay.cps (Lay.TownTxt.mk Tcl TnM TnB TnH gTown TcP TcS) ?rT_T
    intro T
    refine' Lay.cps (Lay.xcls_mk KX gBadCount ?x_XBadCount ?k_XBadCount ?b_XBadCount ?t_XBadCount) ?r_XBadCount
    (case x_XBadCount => k_exc); (case k_XBadCount => k_is); (case b_XBadCount => k_is); (case t_XBadCount => k_is)
    intro X_BadCount
    refine' Lay.cps (Lay.xcls_mk KX gBadPlace ?x_XBadPlace ?k_XBadPlace ?b_XBadPlace ?t_XBadPlace) ?r_XBadPlace
    (case x_XBadPlace => k_exc); (case k_XBadPlace => k_is); (case b_XBadPlace => k_is); (case t_XBadPlace => k_is)
    intro X_BadPlace
    refine' Lay.cps (Lay.xcls_mk KX gBadStreet ?x_XBadStreet ?k_XBadStreet ?b_XBadStreet ?t_XBadStreet) ?r_XBadStreet
    (case x_XBadStreet => k_exc); (case k_XBadStreet => k_is); (case b_XBadStreet => k_is); (case t_XBadStreet => k_is)
    intro X_BadStreet
    refine' Lay.cps (Lay.xcls_mk KX gTooMany ?x_XTooMany ?k_XTooMany ?b_XTooMany ?t_XTooMany) ?r_XTooMany
    (case x_XTooMany => k_exc); (case k_XTooMany => k_is); (case b_XTooMany => k_is); (case t_XTooMany => k_is)
    intro X_TooMany
    refine' Lay.cps (Lay.xcls_mk KX gBadText ?x_XBadText ?k_XBadText ?b_XBadText ?t_XBadText) ?r_XBadText
    (case x_XBadText => k_exc); (case k_XBadText => k_is); (case b_XBadText => k_is); (case t_XBadText => k_is)
    intro X_BadText
    refine' Lay.cps (Lay.none_mk (x := "ValueError") KX G ?zV) ?rV
    (case zV => k_is)
    intro zVE
    refine' Lay.cps (Lay.wordC_mk (nm := "BadText") (b1 := false) (b2 := false) (b3 := false) (b4 := false) (b5 := false) (b6 := false) (b7 := true) KX gTownError gBadText gBadCount gBadPlace gBadStreet gTooMany gParted gBadWays gBadText ?e1_WBadText ?e2_WBadText ?e3_WBadText ?e4_WBadText ?e5_WBadText ?e6_WBadText ?e7_WBadText ?e8_WBadText ?m_WBadText ?v_WBadText ?k1_WBadText ?k2_WBadText ?k3_WBadText ?k4_WBadText ?k5_WBadText ?k6_WBadText ?k7_WBadText) ?r_WBadText
    (case e1_WBadText => k_is); (case e2_WBadText => k_is); (case e3_WBadText => k_is); (case e4_WBadText => k_is); (case e5_WBadText => k_is); (case e6_WBadText => k_is); (case e7_WBadText => k_is); (case e8_WBadText => k_is); (case m_WBadText => kts_exm); (case v_WBadText => kit_is); (case k1_WBadText => kit_is); (case k2_WBadText => kit_is); (case k3_WBadText => kit_is); (case k4_WBadText => kit_is); (case k5_WBadText => kit_is); (case k6_WBadText => kit_is); (case k7_WBadText => kit_is)
    intro WC_BadText
    refine' Lay.cps (Lay.wordC_mk (nm := "BadCount") (b1 := true) (b2 := false) (b3 := false) (b4 := false) (b5 := false) (b6 := false) (b7 := false) KX gTownError gBadCount gBadCount gBadPlace gBadStreet gTooMany gParted gBadWays gBadText ?e1_WBadCount ?e2_WBadCount ?e3_WBadCount ?e4_WBadCount ?e5_WBadCount ?e6_WBadCount ?e7_WBadCount ?e8_WBadCount ?m_WBadCount ?v_WBadCount ?k1_WBadCount ?k2_WBadCount ?k3_WBadCount ?k4_WBadCount ?k5_WBadCount ?k6_WBadCount ?k7_WBadCount) ?r_WBadCount
    (case e1_WBadCount => k_is); (case e2_WBadCount => k_is); (case e3_WBadCount => k_is); (case e4_WBadCount => k_is); (case e5_WBadCount => k_is); (case e6_WBadCount => k_is); (case e7_WBadCount => k_is); (case e8_WBadCount => k_is); (case m_WBadCount => kts_exm); (case v_WBadCount => kit_is); (case k1_WBadCount => kit_is); (case k2_WBadCount => kit_is); (case k3_WBadCount => kit_is); (case k4_WBadCount => kit_is); (case k5_WBadCount => kit_is); (case k6_WBadCount => kit_is); (case k7_WBadCount => kit_is)
    intro WC_BadCount
    refine' Lay.cps (Lay.wordC_mk (nm := "BadPlace") (b1 := false) (b2 := true) (b3 := false) (b4 := false) (b5 := false) (b6 := false) (b7 := false) KX gTownError gBadPlace gBadCount gBadPlace gBadStreet gTooMany gParted gBadWays gBadText ?e1_WBadPlace ?e2_WBadPlace ?e3_WBadPlace ?e4_WBadPlace ?e5_WBadPlace ?e6_WBadPlace ?e7_WBadPlace ?e8_WBadPlace ?m_WBadPlace ?v_WBadPlace ?k1_WBadPlace ?k2_WBadPlace ?k3_WBadPlace ?k4_WBadPlace ?k5_WBadPlace ?k6_WBadPlace ?k7_WBadPlace) ?r_WBadPlace
    (case e1_WBadPlace => k_is); (case e2_WBadPlace => k_is); (case e3_WBadPlace => k_is); (case e4_WBadPlace => k_is); (case e5_WBadPlace => k_is); (case e6_WBadPlace => k_is); (case e7_WBadPlace => k_is); (case e8_WBadPlace => k_is); (case m_WBadPlace => kts_exm); (case v_WBadPlace => kit_is); (case k1_WBadPlace => kit_is); (case k2_WBadPlace => kit_is); (case k3_WBadPlace => kit_is); (case k4_WBadPlace => kit_is); (case k5_WBadPlace => kit_is); (case k6_WBadPlace => kit_is); (case k7_WBadPlace => kit_is)
    intro WC_BadPlace
    refine' Lay.cps (Lay.wordC_mk (nm := "TooMany") (b1 := false) (b2 := false) (b3 := false) (b4 := true) (b5 := false) (b6 := false) (b7 := false) KX gTownError gTooMany gBadCount gBadPlace gBadStreet gTooMany gParted gBadWays gBadText ?e1_WTooMany ?e2_WTooMany ?e3_WTooMany ?e4_WTooMany ?e5_WTooMany ?e6_WTooMany ?e7_WTooMany ?e8_WTooMany ?m_WTooMany ?v_WTooMany ?k1_WTooMany ?k2_WTooMany ?k3_WTooMany ?k4_WTooMany ?k5_WTooMany ?k6_WTooMany ?k7_WTooMany) ?r_WTooMany
    (case e1_WTooMany => k_is); (case e2_WTooMany => k_is); (case e3_WTooMany => k_is); (case e4_WTooMany => k_is); (case e5_WTooMany => k_is); (case e6_WTooMany => k_is); (case e7_WTooMany => k_is); (case e8_WTooMany => k_is); (case m_WTooMany => kts_exm); (case v_WTooMany => kit_is); (case k1_WTooMany => kit_is); (case k2_WTooMany => kit_is); (case k3_WTooMany => kit_is); (case k4_WTooMany => kit_is); (case k5_WTooMany => kit_is); (case k6_WTooMany => kit_is); (case k7_WTooMany => kit_is)
    intro WC_TooMany
    refine' Lay.cps (Lay.str_mk (x := "FIGURES") (n := "0123456789") KX G ?aSFIGURES) ?rSFIGURES
    (case aSFIGURES => k_is)
    intro cFIGURES
    refine' Lay.cps (Lay.dfnc_mk (x := "law") (qual := "law") (st := Lay.s_law) (ps := ["_law_script"]) KX G ?a_Claw ?l_Claw ?c_Claw ?k_Claw (fun _ _ _ _ _ _ us hl => match us, hl with | [_], _ => rfl)) ?r_Claw
    (case a_Claw => k_is); (case l_Claw => k_is); (case c_Claw => k_is); (case k_Claw => k_is)
    intro D_law
    refine' Lay.cps (Lay.codeT_mk (c := Lay.cOf D_law) KX (PySem.W.km_tabs_of Y) ?hk_Claw ?h11_Claw ?hv_Claw ?nP_Claw ?mm_Claw) ?r2_Claw
    (case hk_Claw => k_is); (case h11_Claw => rfl); (case hv_Claw => rfl); (case nP_Claw => kernel_rfl); (case mm_Claw => decide)
    intro CT_law
    refine' Lay.cps (Lay.dfnc_mk (x := "_law_told") (qual := "_law_told") (st := Lay.s_w_told) (ps := ["_law_text_here"]) KX G ?a_C_law_told ?l_C_law_told ?c_C_law_told ?k_C_law_told (fun _ _ _ _ _ _ us hl => match us, hl with | [_], _ => rfl)) ?r_C_law_told
    (case a_C_law_told => k_is); (case l_C_law_told => k_is); (case c_C_law_told => k_is); (case k_C_law_told => k_is)
    intro D_w_told
    refine' Lay.cps (Lay.codeT_mk (c := Lay.cOf D_w_told) KX (PySem.W.km_tabs_of Y) ?hk_C_law_told ?h11_C_law_told ?hv_C_law_told ?nP_C_law_told ?mm_C_law_told) ?r2_C_law_told
    (case hk_C_law_told => k_is); (case h11_C_law_told => rfl); (case hv_C_law_told => rfl); (case nP_C_law_told => kernel_rfl); (case mm_C_law_told => decide)
    intro CT_w_told
    refine' Lay.cps (Lay.dfn_mk (x := "_law_mixed") (qual := "_law_mixed") (st := Lay.s_w_mixed) (ps := ["_law_cell", "_law_k"]) KX G ?a_D_law_mixed ?l_D_law_mixed ?c_D_law_mixed ?k_D_law_mixed (fun _ _ _ _ _ _ us hl => match us, hl with | [_, _], _ => rfl)) ?r_D_law_mixed
    (case a_D_law_mixed => k_is); (case l_D_law_mixed => k_is); (case c_D_law_mixed => k_is); (case k_D_law_mixed => k_is)
    intro D_w_mixed
    refine' Lay.cps (Lay.dfn_mk (x := "_law_seed") (qual := "_law_seed") (st := Lay.s_w_seed) (ps := ["_law_script"]) KX G ?a_D_law_seed ?l_D_law_seed ?c_D_law_seed ?k_D_law_seed (fun _ _ _ _ _ _ us hl => match us, hl with | [_], _ => rfl)) ?r_D_law_seed
    (case a_D_law_seed => k_is); (case l_D_law_seed => k_is); (case c_D_law_seed => k_is); (case k_D_law_seed => k_is)
    intro D_w_seed
    refine' Lay.cps (Lay.dfn_mk (x := "_law_many") (qual := "_law_many") (st := Lay.s_w_many) (ps := ["_law_seed_here", "_law_most"]) KX G ?a_D_law_many ?l_D_law_many ?c_D_law_many ?k_D_law_many (fun _ _ _ _ _ _ us hl => match us, hl with | [_, _], _ => rfl)) ?r_D_law_many
    (case a_D_law_many => k_is); (case l_D_law_many => k_is); (case c_D_law_many => k_is); (case k_D_law_many => k_is)
    intro D_w_many
    refine' Lay.cps (Lay.dfn_mk (x := "_law_ends") (qual := "_law_ends") (st := Lay.s_w_ends) (ps := ["_law_many_here", "_law_way", "_law_k", "_law_number_here"]) KX G ?a_D_law_ends ?l_D_law_ends ?c_D_law_ends ?k_D_law_ends (fun _ _ _ _ _ _ us hl => match us, hl with | [_, _, _, _], _ => rfl)) ?r_D_law_ends
    (case a_D_law_ends => k_is); (case l_D_law_ends => k_is); (case c_D_law_ends => k_is); (case k_D_law_ends => k_is)
    intro D_w_ends
    refine' Lay.cps (Lay.dfn_mk (x := "_law_pairs") (qual := "_law_pairs") (st := Lay.s_w_pairs) (ps := ["_law_script", "_law_seed_here", "_law_many_here", "_law_most"]) KX G ?a_D_law_pairs ?l_D_law_pairs ?c_D_law_pairs ?k_D_law_pairs (fun _ _ _ _ _ _ us hl => match us, hl with | [_, _, _, _], _ => rfl)) ?r_D_law_pairs
    (case a_D_law_pairs => k_is); (case l_D_law_pairs => k_is); (case c_D_law_pairs => k_is); (case k_D_law_pairs => k_is)
    intro D_w_pairs
    refine' Lay.cps (Lay.dfn_mk (x := "_law_made") (qual := "_law_made") (st := Lay.s_w_made) (ps := ["_law_many_here", "_law_pairs_here", "_law_seed_here"]) KX G ?a_D_law_made ?l_D_law_made ?c_D_law_made ?k_D_law_made (fun _ _ _ _ _ _ us hl => match us, hl with | [_, _, _], _ => rfl)) ?r_D_law_made
    (case a_D_law_made => k_is); (case l_D_law_made => k_is); (case c_D_law_made => k_is); (case k_D_law_made => k_is)
    intro D_w_made
    refine' Lay.cps (Lay.dfn_mk (x := "is_among") (qual := "is_among") (st := Lay.s_is_among) (ps := ["thing", "least", "most"]) KX G ?a_Dis_among ?l_Dis_among ?c_Dis_among ?k_Dis_among (fun _ _ _ _ _ _ us hl => match us, hl with | [_, _, _], _ => rfl)) ?r_Dis_among
    (case a_Dis_among => k_is); (case l_Dis_among => k_is); (case c_Dis_among => k_is); (case k_Dis_among => k_is)
    intro D_is_among
    refine' Lay.cps (Lay.mfn_mk (m := "places") (qual := "Town.places") (st := Lay.s_Town_places) (ps := ["self"]) KX gTown ?a_DTown_places ?i_DTown_places ?l_DTown_places ?c_DTown_places ?k_DTown_places (fun _ _ _ _ _ _ us hl => match us, hl with | [_], _ => rfl)) ?r_DTown_places
    (case a_DTown_places => k_is); (case i_DTown_places => k_is); (case l_DTown_places => k_is); (case c_DTown_places => k_is); (case k_DTown_places => k_is)
    intro D_Town_places
    refine' Lay.cps (Lay.mfn_mk (m := "streets") (qual := "Town.streets") (st := Lay.s_Town_streets) (ps := ["self"]) KX gTown ?a_DTown_streets ?i_DTown_streets ?l_DTown_streets ?c_DTown_streets ?k_DTown_streets (fun _ _ _ _ _ _ us hl => match us, hl with | [_], _ => rfl)) ?r_DTown_streets
    (case a_DTown_streets => k_is); (case i_DTown_streets => k_is); (case l_DTown_streets => k_is); (case c_DTown_streets => k_is); (case k_DTown_streets => k_is)
    intro D_Town_streets
    refine' Lay.cps (Lay.mfn_mk (m := "need_place") (qual := "Town.need_place") (st := Lay.s_Town_need_place) (ps := ["self", "thing"]) KX gTown ?a_DTown_need_place ?i_DTown_need_place ?l_DTown_need_place ?c_DTown_need_place ?k_DTown_need_place (fun _ _ _ _ _ _ us hl => match us, hl with | [_, _], _ => rfl)) ?r_DTown_need_place
    (case a_DTown_need_place => k_is); (case i_DTown_need_place => k_is); (case l_DTown_need_place => k_is); (case c_DTown_need_place => k_is); (case k_DTown_need_place => k_is)
    intro D_Town_need_place
    refine' Lay.cps (Lay.mfn_mk (m := "build") (qual := "Town.build") (st := Lay.s_Town_build) (ps := ["self", "one", "other"]) KX gTown ?a_DTown_build ?i_DTown_build ?l_DTown_build ?c_DTown_build ?k_DTown_build (fun _ _ _ _ _ _ us hl => match us, hl with | [_, _, _], _ => rfl)) ?r_DTown_build
    (case a_DTown_build => k_is); (case i_DTown_build => k_is); (case l_DTown_build => k_is); (case c_DTown_build => k_is); (case k_DTown_build => k_is)
    intro D_Town_build
    refine' Lay.cps (Lay.mfn_mk (m := "dig") (qual := "Town.dig") (st := Lay.s_Town_dig) (ps := ["self", "street"]) KX gTown ?a_DTown_dig ?i_DTown_dig ?l_DTown_dig ?c_DTown_dig ?k_DTown_dig (fun _ _ _ _ _ _ us hl => match us, hl with | [_, _], _ => rfl)) ?r_DTown_dig
    (case a_DTown_dig => k_is); (case i_DTown_dig => k_is); (case l_DTown_dig => k_is); (case c_DTown_dig => k_is); (case k_DTown_dig => k_is)
    intro D_Town_dig
    refine' Lay.cps (Lay.ifn_mk (qual := "Town.__init__") (st := Lay.s_Town___init) (ps := ["self", "many"]) KX gTown ?mk_DTown___init__ ?kc_DTown___init__ ?a_DTown___init__ ?i_DTown___init__ ?l_DTown___init__ ?c_DTown___init__ ?k_DTown___init__ (fun _ _ _ _ _ _ us hl => match us, hl with | [_, _], _ => rfl)) ?r_DTown___init__
    (case mk_DTown___init__ => k_is); (case kc_DTown___init__ => k_is); (case a_DTown___init__ => k_is); (case i_DTown___init__ => k_is); (case l_DTown___init__ => k_is); (case c_DTown___init__ => k_is); (case k_DTown___init__ => k_is)
    intro I_Town___init
    refine' Lay.cps (Lay.dfn_mk (x := "_law_word") (qual := "_law_word") (st := Lay.s_w_word) (ps := ["_law_deed"]) KX G ?a_D_law_word ?l_D_law_word ?c_D_law_word ?k_D_law_word (fun _ _ _ _ _ _ us hl => match us, hl with | [_], _ => rfl)) ?r_D_law_word
    (case a_D_law_word => k_is); (case l_D_law_word => k_is); (case c_D_law_word => k_is); (case k_D_law_word => k_is)
    intro D_w_word
    refine' Lay.cps (Lay.dfn_mk (x := "_law_text") (qual := "_law_text") (st := Lay.s_w_text) (ps := ["_law_many_here", "_law_pairs_here"]) KX G ?a_D_law_text ?l_D_law_text ?c_D_law_text ?k_D_law_text (fun _ _ _ _ _ _ us hl => match us, hl with | [_, _], _ => rfl)) ?r_D_law_text
    (case a_D_law_text => k_is); (case l_D_law_text => k_is); (case c_D_law_text => k_is); (case k_D_law_text => k_is)
    intro D_w_text
    refine' Lay.cps (Lay.dfn_mk (x := "_law_number") (qual := "_law_number") (st := Lay.s_w_number) (ps := ["_law_word_here"]) KX G ?a_D_law_number ?l_D_law_number ?c_D_law_number ?k_D_law_number (fun _ _ _ _ _ _ us hl => match us, hl with | [_], _ => rfl)) ?r_D_law_number
    (case a_D_law_number => k_is); (case l_D_law_number => k_is); (case c_D_law_number => k_is); (case k_D_law_number => k_is)
    intro D_w_number
    refine' Lay.cps (Lay.dfn_mk (x := "_law_read") (qual := "_law_read") (st := Lay.s_w_read) (ps := ["_law_text_here"]) KX G ?a_D_law_read ?l_D_law_read ?c_D_law_read ?k_D_law_read (fun _ _ _ _ _ _ us hl => match us, hl with | [_], _ => rfl)) ?r_D_law_read
    (case a_D_law_read => k_is); (case l_D_law_read => k_is); (case c_D_law_read => k_is); (case k_D_law_read => k_is)
    intro D_w_read
    refine' Lay.cps (Lay.dfn_mk (x := "_law_bent") (qual := "_law_bent") (st := Lay.s_w_bent) (ps := ["_law_text_here", "_law_number_here"]) KX G ?a_D_law_bent ?l_D_law_bent ?c_D_law_bent ?k_D_law_bent (fun _ _ _ _ _ _ us hl => match us, hl with | [_, _], _ => rfl)) ?r_D_law_bent
    (case a_D_law_bent => k_is); (case l_D_law_bent => k_is); (case c_D_law_bent => k_is); (case k_D_law_bent => k_is)
    intro D_w_bent
    refine' Lay.cps (Lay.dfn_mk (x := "_law_right") (qual := "_law_right") (st := Lay.s_w_right) (ps := ["_law_text_here"]) KX G ?a_D_law_right ?l_D_law_right ?c_D_law_right ?k_D_law_right (fun _ _ _ _ _ _ us hl => match us, hl with | [_], _ => rfl)) ?r_D_law_right
    (case a_D_law_right => k_is); (case l_D_law_right => k_is); (case c_D_law_right => k_is); (case k_D_law_right => k_is)
    intro D_w_right
    refine' Lay.cps (Lay.dfn_mk (x := "written") (qual := "written") (st := Lay.s_written) (ps := ["town"]) KX G ?a_Dwritten ?l_Dwritten ?c_Dwritten ?k_Dwritten (fun _ _ _ _ _ _ us hl => match us, hl with | [_], _ => rfl)) ?r_Dwritten
    (case a_Dwritten => k_is); (case l_Dwritten => k_is); (case c_Dwritten => k_is); (case k_Dwritten => k_is)
    intro D_written
    refine' Lay.cps (Lay.dfn_mk (x := "number_in") (qual := "number_in") (st := Lay.s_number_in) (ps := ["word"]) KX G ?a_Dnumber_in ?l_Dnumber_in ?c_Dnumber_in ?k_Dnumber_in (fun _ _ _ _ _ _ us hl => match us, hl with | [_], _ => rfl)) ?r_Dnumber_in
    (case a_Dnumber_in => k_is); (case l_Dnumber_in => k_is); (case c_Dnumber_in => k_is); (case k_Dnumber_in => k_is)
    intro D_number_in
    refine' Lay.cps (Lay.dfn_mk (x := "pair_in") (qual := "pair_in") (st := Lay.s_pair_in) (ps := ["row"]) KX G ?a_Dpair_in ?l_Dpair_in ?c_Dpair_in ?k_Dpair_in (fun _ _ _ _ _ _ us hl => match us, hl with | [_], _ => rfl)) ?r_Dpair_in
    (case a_Dpair_in => k_is); (case l_Dpair_in => k_is); (case c_Dpair_in => k_is); (case k_Dpair_in => k_is)
    intro D_pair_in
    refine' Lay.cps (Lay.dfn_mk (x := "read") (qual := "read") (st := Lay.s_read) (ps := ["text"]) KX G ?a_Dread ?l_Dread ?c_Dread ?k_Dread (fun _ _ _ _ _ _ us hl => match us, hl with | [_], _ => rfl)) ?r_Dread
    (case a_Dread => k_is); (case l_Dread => k_is); (case c_Dread => k_is); (case k_Dread => k_is)
    intro D_read
    refine' Lay.law_endTs (cs := [(Lay.cOf D_law, Lay.tOf CT_law), (Lay.cOf D_w_told, Lay.tOf CT_w_told)]) (T := [(Lay.tOf CT_law, Lay.lamN "law" Lay.s_law), (Lay.tOf CT_w_told, Lay.lamN "_law_told" Lay.s_w_told)]) (TP := Lay.tOf CT_law) hmg D_law (Lay.allC CT_law (Lay.all1 CT_w_told)) ?tL ?bL ?okL
    (case tL => exact Lay.allC (⟨_, List.mem_cons_self .., rfl⟩) (Lay.all1 (⟨_, List.mem_cons_of_mem _ (List.mem_cons_self ..), rfl⟩)))
    (case bL => exact fun _ _ _ _ _ _ _ _ => .of_eq rfl)
    case okL =>
    intro base f fd TBs F
    have TB1 : LamX.TabB base mg (Lay.cOf D_law) (Lay.tOf CT_law) := TBs (Lay.cOf D_law, Lay.tOf CT_law) (List.mem_cons_self ..)
    have hm1 : (Lay.tOf CT_law, Lay.lamN "law" Lay.s_law) ∈ ([(Lay.tOf CT_law, Lay.lamN "law" Lay.s_law), (Lay.tOf CT_w_told, Lay.lamN "_law_told" Lay.s_w_told)] : List (Addr × Str)) := List.mem_cons_self ..
    have hu1 : ∀ p ∈ ([(Lay.tOf CT_law, Lay.lamN "law" Lay.s_law), (Lay.tOf CT_w_told, Lay.lamN "_law_told" Lay.s_w_told)] : List (Addr × Str)), p.1 = Lay.tOf CT_law → p.2 = Lay.lamN "law" Lay.s_law := Lay.allC (fun _ => rfl) (Lay.all1 (fun e => absurd e (Nat.ne_of_beq_eq_false rfl)))
    have TB2 : LamX.TabB base mg (Lay.cOf D_w_told) (Lay.tOf CT_w_told) := TBs (Lay.cOf D_w_told, Lay.tOf CT_w_told) (List.mem_cons_of_mem _ (List.mem_cons_self ..))
    have hm2 : (Lay.tOf CT_w_told, Lay.lamN "_law_told" Lay.s_w_told) ∈ ([(Lay.tOf CT_law, Lay.lamN "law" Lay.s_law), (Lay.tOf CT_w_told, Lay.lamN "_law_told" Lay.s_w_told)] : List (Addr × Str)) := List.mem_cons_of_mem _ (List.mem_cons_self ..)
    have hu2 : ∀ p ∈ ([(Lay.tOf CT_law, Lay.lamN "law" Lay.s_law), (Lay.tOf CT_w_told, Lay.lamN "_law_told" Lay.s_w_told)] : List (Addr × Str)), p.1 = Lay.tOf CT_w_told → p.2 = Lay.lamN "_law_told" Lay.s_w_told := Lay.allC (fun e => absurd e (Nat.ne_of_beq_eq_false rfl)) (Lay.all1 (fun _ => rfl))
    have G_w_mixed := Lay.ok_mixed (P := (PySem.Challenge.rw_onewaytown_k10_towns_written).prog) (w := w) (base := base) D_w_mixed
    have G_w_seed := Lay.ok_seed (P := (PySem.Challenge.rw_onewaytown_k10_towns_written).prog) (w := w) (base := base) Z G_w_mixed D_w_seed
    have G_w_many := Lay.ok_many (P := (PySem.Challenge.rw_onewaytown_k10_towns_written).prog) (w := w) (base := base) Z G_w_mixed D_w_many
    have G_w_ends := Lay.ok_ends (P := (PySem.Challenge.rw_onewaytown_k10_towns_written).prog) (w := w) (base := base) Z D_w_ends
    have G_w_pairs := Lay.ok_pairs (P := (PySem.Challenge.rw_onewaytown_k10_towns_written).prog) (w := w) (base := base) Z G_w_mixed G_w_ends D_w_pairs
    have G_is_among := Lay.ok_among (P := (PySem.Challenge.rw_onewaytown_k10_towns_written).prog) (w := w) (base := base) Z D_is_among
    have M_places := Lay.ok_places (P := (PySem.Challenge.rw_onewaytown_k10_towns_written).prog) (w := w) (base := base) T D_Town_places
    have M_streets := Lay.ok_streets (P := (PySem.Challenge.rw_onewaytown_k10_towns_written).prog) (w := w) (base := base) Z T D_Town_streets
    have M_need_place := Lay.ok_need (P := (PySem.Challenge.rw_onewaytown_k10_towns_written).prog) (w := w) (base := base) T X_BadPlace G_is_among D_Town_need_place
    have M_build := Lay.ok_build (P := (PySem.Challenge.rw_onewaytown_k10_towns_written).prog) (w := w) (base := base) Z T X_BadPlace X_TooMany M_need_place D_Town_build
    have M_dig := Lay.ok_dig (P := (PySem.Challenge.rw_onewaytown_k10_towns_written).prog) (w := w) (base := base) Z T X_BadStreet G_is_among D_Town_dig
    have MK_Town := Lay.ok_mkTown (P := (PySem.Challenge.rw_onewaytown_k10_towns_written).prog) (w := w) (base := base) T X_BadCount G_is_among I_Town___init
    have G_w_made := Lay.ok_made (P := (PySem.Challenge.rw_onewaytown_k10_towns_written).prog) (w := w) (base := base) Z G_w_mixed MK_Town M_build M_dig D_w_made
    have G_written := Lay.ok_written (P := (PySem.Challenge.rw_onewaytown_k10_towns_written).prog) (w := w) (base := base) Z T M_places M_streets D_written
    have G_w_text := Lay.ok_wtext (P := (PySem.Challenge.rw_onewaytown_k10_towns_written).prog) (w := w) (base := base) Z D_w_text
    have G_number_in := Lay.ok_numin (P := (PySem.Challenge.rw_onewaytown_k10_towns_written).prog) (w := w) (base := base) Z cFIGURES X_BadText D_number_in
    have G_w_number := Lay.ok_wnum (P := (PySem.Challenge.rw_onewaytown_k10_towns_written).prog) (w := w) (base := base) Z D_w_number
    have G_pair_in := Lay.ok_pairin (P := (PySem.Challenge.rw_onewaytown_k10_towns_written).prog) (w := w) (base := base) Z X_BadText G_number_in D_pair_in
    have G_w_bent := Lay.ok_bent (P := (PySem.Challenge.rw_onewaytown_k10_towns_written).prog) (w := w) (base := base) Z D_w_bent
    have G_w_read := Lay.ok_wread (P := (PySem.Challenge.rw_onewaytown_k10_towns_written).prog) (w := w) (base := base) Z G_w_number D_w_read
    have G_read := Lay.ok_read (P := (PySem.Challenge.rw_onewaytown_k10_towns_written).prog) (w := w) (base := base) Z T X_BadText gTownError WC_BadCount.m WC_BadPlace.m WC_TooMany.m G_number_in G_pair_in MK_Town M_build D_read
    have G_w_told := Lay.ok_told (P := (PySem.Challenge.rw_onewaytown_k10_towns_written).prog) (w := w) (base := base) (T := [(Lay.tOf CT_law, Lay.lamN "law" Lay.s_law), (Lay.tOf CT_w_told, Lay.lamN "_law_told" Lay.s_w_told)]) Z T G_read M_places M_streets gTownError X_BadCount X_BadPlace X_BadStreet X_TooMany gParted gBadWays gBadText zVE D_w_word WC_BadText TB2 hm2 hu2 D_w_told
    have G_w_right := Lay.ok_right (P := (PySem.Challenge.rw_onewaytown_k10_towns_written).prog) (w := w) (base := base) (T := [(Lay.tOf CT_law, Lay.lamN "law" Lay.s_law), (Lay.tOf CT_w_told, Lay.lamN "_law_told" Lay.s_w_told)]) Z G_w_read G_w_told D_w_right
    exact Lay.ok_law Z T G_w_mixed G_w_seed G_w_many G_w_pairs G_w_made M_streets M_places M_build G_written G_w_text G_w_bent G_read G_w_right gTownError X_BadCount X_BadPlace X_BadStreet X_TooMany gParted gBadWays gBadText zVE D_w_word WC_BadText TB1 hm1 hu1 F
