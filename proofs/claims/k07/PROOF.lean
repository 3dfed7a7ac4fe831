import PyProof.Rows.All
import Wide.All
import OpenK.AllK
import Wide.FinOn
import HandS.ForMost
import HandS.Walk
import HandS.More
import HandS.TupAny
import HandS.ForExc
import HandS.IsInst
import HandS.Deep
import HandS.Style
import HandS.Conv
import HandS.Exc
import HandS.ExcIs
import HandS.Lambda
import HandS.EndTab
import HandS.EndOwn
import HandS.ExcInit
import HandS.ExcField
import HandS.Text
import HandS.Iter
import PyProof.StrOps2
import PyProof.StrLawsTight
import HandS.Comp
import KE.GoesComp
import HandS.Dict
import HandS.TupSets
import KE.KExcIs
import HandS.SetFor
import HandS.Strs
import PySem.Challenge.RW_onewaytown_k07_whole_rounds
set_option Elab.async false
set_option linter.all false
set_option maxRecDepth 100000
set_option maxHeartbeats 4000000
/-! The layer: readings over pure slots. F is the part of the heap that stands still from now on, H the heap, B the heap at the entry. -/
namespace Lay
open PySem L2

/-- what is said of a value over the part that stands still -/
abbrev Pd := Hp → V → Prop
def Stab (f : Pd) : Prop := ∀ F F' v, Same F F' → f F v → f F' v
def isTup : HO → Bool
  | .tup _ => true
  | .frz _ _ => true
  | .ext _ => true
  | _ => false
def isTbl : HO → Bool
  | .tbl _ => true
  | _ => false
/-- what a slot is known to hold -/
inductive Sl where
  | no
  | fz (f : Pd)
  | mo (m : Hp → Hp → V → List Addr → Prop)
/-- what is said of an owned thing leans on its own objects and on what stands still alone -/
def MStab (m : Hp → Hp → V → List Addr → Prop) : Prop := ∀ F F' H H' v as, Same F F' → (∀ a ∈ as, H' a = H a) → m F H v as → m F' H' v as

structure Gr (F H F' H' : Hp) : Prop where
  f : Same F F'
  h : Same H H'
  i : Same F' H'
  n : ∀ a o, H a = some o → isTup o = false → F a = none → F' a = none
  t : ∀ a o, F' a = some o → isTbl o = true → F a = some o
theorem Gr.refl {F H : Hp} (i : Same F H) : Gr F H F H := ⟨Same.refl _, Same.refl _, i, fun _ _ _ _ e => e, fun _ _ e _ => e⟩
theorem Gr.trans {F H F1 H1 F2 H2 : Hp} (a : Gr F H F1 H1) (b : Gr F1 H1 F2 H2) : Gr F H F2 H2 :=
  ⟨a.f.trans b.f, a.h.trans b.h, b.i, fun x o h t e => b.n x o (a.h x o h) t (a.n x o h t e), fun x o e t => a.t x o (b.t x o e t) t⟩
/-- a new object that may be changed later -/
theorem Gr.new {F H : Hp} (i : Same F H) {p : Addr} {o : HO} (hp : H p = none) : Gr F H F (upd H p o) :=
  ⟨Same.refl _, fun b u e => by rw [upd_ne (ne_of_none e hp)]; exact e, fun b u e => by rw [upd_ne (ne_of_none (i b u e) hp)]; exact i b u e, fun _ _ _ _ e => e, fun _ _ e _ => e⟩
/-- an object that stands from now on -/
theorem Gr.put {F H F' H' : Hp} (g : Gr F H F' H') {p : Addr} {o : HO} (hp : H p = none ∨ isTup o = true) (nt : isTbl o = false) (hf : F' p = none) (hq : H' p = some o) : Gr F H (upd F' p o) H' := by
  refine ⟨fun b u e => ?_, g.h, fun b u e => ?_, fun a u e t z => ?_, fun a u e t => ?_⟩
  · have e1 := g.f b u e
    rw [upd_ne (ne_of_none e1 hf)]
    exact e1
  · by_cases hb : b = p
    · rw [hb, upd_same] at e
      cases e
      rw [hb]; exact hq
    · rw [upd_ne hb] at e
      exact g.i b u e
  · by_cases hb : a = p
    · subst hb
      rcases hp with hp | hp
      · rw [hp] at e; cases e
      · have := g.h a u e
        rw [hq] at this
        cases this
        rw [hp] at t; cases t
    · rw [upd_ne hb]
      exact g.n a u e t z
  · by_cases hb : a = p
    · rw [hb, upd_same] at e
      cases e
      rw [nt] at t; cases t
    · rw [upd_ne hb] at e
      exact g.t a u e t
/-- .. a tuple (or a known thing) that may stand there already -/
theorem Gr.putT {F H F' H' : Hp} (g : Gr F H F' H') {p : Addr} {o : HO} (ho : isTup o = true) (hq : H' p = some o) : ∃ F'', Gr F H F'' H' ∧ Same F' F'' ∧ F'' p = some o := by
  cases e : F' p with
  | none => exact ⟨upd F' p o, g.put (.inr ho) (by cases o <;> first | rfl | cases ho) e hq, fun b u z => by rw [upd_ne (ne_of_none z e)]; exact z, upd_same⟩
  | some u =>
    have q := g.i p u e
    rw [hq] at q
    cases q
    exact ⟨F', g, Same.refl _, e⟩
/-- .. a new list that may stand there already -/
theorem Gr.putN {F H F' H' : Hp} (g : Gr F H F' H') {p : Addr} {o : HO} (ho : H p = none) (hq : H' p = some o) (nt : isTbl o = false := by rfl) : ∃ F'', Gr F H F'' H' ∧ Same F' F'' ∧ F'' p = some o := by
  cases e : F' p with
  | none => exact ⟨upd F' p o, g.put (.inl ho) nt e hq, fun b u z => by rw [upd_ne (ne_of_none z e)]; exact z, upd_same⟩
  | some u =>
    have q := g.i p u e
    rw [hq] at q
    cases q
    exact ⟨F', g, Same.refl _, e⟩
theorem Gr.fresh {F H F' H' : Hp} (g : Gr F H F' H') {p : Addr} (h : H' p = none) : H p = none := g.h.free h

/-! ### the slots -/
def SlOk (F H : Hp) (ov : Option (Option V)) (as : List Addr) : Sl → Prop
  | .no => True
  | .fz f => Stab f ∧ ∃ v, ov = some (some v) ∧ f F v
  | .mo m => MStab m ∧ ∃ v, ov = some (some v) ∧ m F H v as
structure Own (B : Hp) (F H : Hp) (σ : St) (ρ : List Sl) (w : Nat → List Addr) : Prop where
  dj : ∀ i j a, a ∈ w i → a ∈ w j → i = j
  at_ : ∀ i a, a ∈ w i → F a = none ∧ B a = none ∧ ∃ o, H a = some o ∧ isTup o = false
  sl : ∀ i s, ρ[i]? = some s → SlOk F H σ[i]? (w i) s
/-- B: the heap at the def's entry; F0: what stands still at least -/
structure Cfg (B F0 F H : Hp) (σ : St) (ρ : List Sl) : Prop where
  gr : Gr F0 B F H
  len : σ.length = ρ.length
  own : ∃ w, Own B F H σ ρ w
section
variable {B F0 F H F' H' : Hp} {σ : St} {ρ : List Sl}
theorem Cfg.i (c : Cfg B F0 F H σ ρ) : Same F H := c.gr.i
theorem Cfg.go (c : Cfg B F0 F H σ ρ) (g : Gr F H F' H') : Cfg B F0 F' H' σ ρ := by
  refine ⟨c.gr.trans g, c.len, ?_⟩
  obtain ⟨w, o⟩ := c.own
  refine ⟨w, o.dj, fun i a ha => ?_, fun i s hs => ?_⟩
  · obtain ⟨h1, h2, u, h3, h4⟩ := o.at_ i a ha
    exact ⟨g.n a u h3 h4 h1, h2, u, g.h a u h3, h4⟩
  · have q := o.sl i s hs
    cases s with
    | no => trivial
    | fz f => obtain ⟨st, v, e, p⟩ := q; exact ⟨st, v, e, st _ _ v g.f p⟩
    | mo m =>
      obtain ⟨st, v, e, p⟩ := q
      refine ⟨st, v, e, st _ _ _ _ _ _ g.f (fun a ha => ?_) p⟩
      obtain ⟨_, _, u, h3, _⟩ := o.at_ i a ha
      rw [h3, g.h a u h3]
/-- a slot is known anew: it stands still -/
theorem Cfg.setF (c : Cfg B F0 F H σ ρ) {i : Nat} {v : V} {f : Pd} (st : Stab f) (h : f F v) : Cfg B F0 F H (σ.set i (some v)) (ρ.set i (.fz f)) := by
  refine ⟨c.gr, by simp [c.len], ?_⟩
  obtain ⟨w, o⟩ := c.own
  refine ⟨fun j => if j = i then [] else w j, fun j k a h1 h2 => ?_, fun j a h1 => ?_, fun j s hs => ?_⟩
  · split at h1
    · cases h1
    · split at h2
      · cases h2
      · exact o.dj j k a h1 h2
  · split at h1
    · cases h1
    · exact o.at_ j a h1
  · by_cases hj : j = i
    · subst hj
      have hl : j < ρ.length := by
        have := (List.getElem?_eq_some_iff.mp hs).1
        simpa using this
      rw [List.getElem?_set_self hl] at hs
      cases hs
      rw [List.getElem?_set_self (by rw [c.len]; exact hl), if_pos rfl]
      exact ⟨st, v, rfl, h⟩
    · rw [if_neg hj, List.getElem?_set_ne (fun e => hj e.symm)]
      rw [List.getElem?_set_ne (fun e => hj e.symm)] at hs
      exact o.sl j s hs
/-- .. it holds an owned thing: whose objects no other slot owns -/
theorem Cfg.setM (c : Cfg B F0 F H σ ρ) {i : Nat} {v : V} {m : Hp → Hp → V → List Addr → Prop} {as : List Addr} (st : MStab m) (h : m F H v as)
    (hn : ∀ a ∈ as, F a = none ∧ B a = none ∧ ∃ o, H a = some o ∧ isTup o = false)
    (hd : ∀ w, Own B F H σ ρ w → ∀ j a, j ≠ i → a ∈ w j → a ∉ as) : Cfg B F0 F H (σ.set i (some v)) (ρ.set i (.mo m)) := by
  refine ⟨c.gr, by simp [c.len], ?_⟩
  obtain ⟨w, o⟩ := c.own
  have hd := hd w o
  refine ⟨fun j => if j = i then as else w j, fun j k a h1 h2 => ?_, fun j a h1 => ?_, fun j s hs => ?_⟩
  · split at h1 <;> split at h2
    · omega
    · rename_i e1 e2; exact absurd h1 (hd k a e2 h2)
    · rename_i e1 e2; exact absurd h2 (hd j a e1 h1)
    · exact o.dj j k a h1 h2
  · split at h1
    · exact hn a h1
    · exact o.at_ j a h1
  · by_cases hj : j = i
    · subst hj
      have hl : j < ρ.length := by
        have := (List.getElem?_eq_some_iff.mp hs).1
        simpa using this
      rw [List.getElem?_set_self hl] at hs
      cases hs
      rw [List.getElem?_set_self (by rw [c.len]; exact hl), if_pos rfl]
      exact ⟨st, v, rfl, h⟩
    · rw [if_neg hj, List.getElem?_set_ne (fun e => hj e.symm)]
      rw [List.getElem?_set_ne (fun e => hj e.symm)] at hs
      exact o.sl j s hs
/-- a new object goes into a slot -/
theorem Cfg.setN (c : Cfg B F0 F H σ ρ) {i : Nat} {v : V} {m : Hp → Hp → V → List Addr → Prop} {as : List Addr} (st : MStab m) (g : Gr F H F' H') (h : m F' H' v as)
    (hn : ∀ a ∈ as, F' a = none ∧ H a = none ∧ ∃ o, H' a = some o ∧ isTup o = false) : Cfg B F0 F' H' (σ.set i (some v)) (ρ.set i (.mo m)) := by
  obtain ⟨w0, o0⟩ := c.own
  refine ⟨(c.go g).gr, by simp [c.len], ?_⟩
  obtain ⟨w, o, oH⟩ : ∃ w, Own B F' H' σ ρ w ∧ ∀ i a, a ∈ w i → ∃ u, H a = some u := by
    refine ⟨w0, ⟨o0.dj, fun i a ha => ?_, fun i s hs => ?_⟩, fun i a ha => ?_⟩
    · obtain ⟨h1, h2, u, h3, h4⟩ := o0.at_ i a ha
      exact ⟨g.n a u h3 h4 h1, h2, u, g.h a u h3, h4⟩
    · have q := o0.sl i s hs
      cases s with
      | no => trivial
      | fz f => obtain ⟨st, v, e, p⟩ := q; exact ⟨st, v, e, st _ _ v g.f p⟩
        | mo m =>
        obtain ⟨st, v, e, p⟩ := q
        refine ⟨st, v, e, st _ _ _ _ _ _ g.f (fun a ha => ?_) p⟩
        obtain ⟨_, _, u, h3, _⟩ := o0.at_ i a ha
        rw [h3, g.h a u h3]
    · obtain ⟨_, _, u, h3, _⟩ := o0.at_ i a ha
      exact ⟨u, h3⟩
  have hd : ∀ j a, j ≠ i → a ∈ w j → a ∉ as := fun j a _ ha hb => by
    obtain ⟨u, hu⟩ := oH j a ha
    obtain ⟨_, hz, _⟩ := hn a hb
    rw [hu] at hz; cases hz
  refine ⟨fun j => if j = i then as else w j, fun j k a h1 h2 => ?_, fun j a h1 => ?_, fun j s hs => ?_⟩
  · split at h1 <;> split at h2
    · omega
    · rename_i e1 e2; exact absurd h1 (hd k a e2 h2)
    · rename_i e1 e2; exact absurd h2 (hd j a e1 h1)
    · exact o.dj j k a h1 h2
  · split at h1
    · obtain ⟨q1, q2, q3⟩ := hn a h1
      exact ⟨q1, c.gr.fresh q2, q3⟩
    · exact o.at_ j a h1
  · by_cases hj : j = i
    · subst hj
      have hl : j < ρ.length := by
        have := (List.getElem?_eq_some_iff.mp hs).1
        simpa using this
      rw [List.getElem?_set_self hl] at hs
      cases hs
      rw [List.getElem?_set_self (by rw [c.len]; exact hl), if_pos rfl]
      exact ⟨st, v, rfl, h⟩
    · rw [if_neg hj, List.getElem?_set_ne (fun e => hj e.symm)]
      rw [List.getElem?_set_ne (fun e => hj e.symm)] at hs
      exact o.sl j s hs
/-- an owned thing is changed where it stands: its slot keeps its value, its objects are the same or new ones -/
theorem Cfg.chg (c : Cfg B F0 F H σ ρ) {i : Nat} {m m' : Hp → Hp → V → List Addr → Prop} (hi : ρ[i]? = some (.mo m)) (st' : MStab m')
    (k : ∀ v as, σ[i]? = some (some v) → m F H v as → (∀ a ∈ as, F a = none ∧ B a = none ∧ ∃ o, H a = some o ∧ isTup o = false) →
      m' F H' v as ∧ (∀ a, a ∉ as → H' a = H a) ∧ (∀ a ∈ as, ∃ o, H' a = some o ∧ isTup o = false)) : Cfg B F0 F H' σ (ρ.set i (.mo m')) := by
  obtain ⟨w, o⟩ := c.own
  obtain ⟨st, v, ev, hm⟩ := o.sl i _ hi
  obtain ⟨q1, q2, q3⟩ := k v (w i) ev hm (o.at_ i)
  have hl : i < ρ.length := (List.getElem?_eq_some_iff.mp hi).1
  have gB : ∀ a u, B a = some u → H' a = some u := fun a u e => by
    rw [q2 a fun z => by have := (o.at_ i a z).2.1; rw [e] at this; cases this]
    exact c.gr.h a u e
  have gF : ∀ a u, F a = some u → H' a = some u := fun a u e => by
    rw [q2 a fun z => by have := (o.at_ i a z).1; rw [e] at this; cases this]
    exact c.gr.i a u e
  refine ⟨⟨c.gr.f, gB, gF, c.gr.n, c.gr.t⟩, by simp [c.len], w, o.dj, fun j a ha => ?_, fun j s hs => ?_⟩
  · obtain ⟨h1, h2, u, h3, h4⟩ := o.at_ j a ha
    refine ⟨h1, h2, ?_⟩
    by_cases hj : a ∈ w i
    · exact q3 a hj
    · rw [q2 a hj]; exact ⟨u, h3, h4⟩
  · by_cases hj : j = i
    · subst hj
      rw [List.getElem?_set_self hl] at hs
      cases hs
      exact ⟨st', v, ev, q1⟩
    · rw [List.getElem?_set_ne (fun e => hj e.symm)] at hs
      have q := o.sl j s hs
      cases s with
      | no => trivial
      | fz f => exact q
        | mo m2 =>
        obtain ⟨st2, v2, e2, p2⟩ := q
        exact ⟨st2, v2, e2, st2 _ _ _ _ _ _ (Same.refl _) (fun a ha => q2 a fun z => hj (o.dj j i a ha z)) p2⟩
/-- less is known of the slots -/
theorem Cfg.less (c : Cfg B F0 F H σ ρ) {ρ' : List Sl} {σ' : St} (hl : σ'.length = ρ'.length) (h : ∀ (i : Nat) (s : Sl), ρ'[i]? = some s → s = Sl.no ∨ (ρ[i]? = some s ∧ σ'[i]? = σ[i]?)) : Cfg B F0 F H σ' ρ' := by
  obtain ⟨w, o⟩ := c.own
  refine ⟨c.gr, hl, w, o.dj, o.at_, fun i s hs => ?_⟩
  rcases h i s hs with rfl | ⟨h1, h2⟩
  · trivial
  · rw [h2]; exact o.sl i s h1
end
end Lay
namespace Lay
open PySem L2

/-! ### data in the heap -/
theorem rd_mono {F F' : Hp} (s : Same F F') {a : Addr} {u : HO} (h : Rd F a u) : Rd F' a u := by
  rcases h with h | ⟨o, h⟩
  · exact Or.inl (s a _ h)
  · exact Or.inr ⟨o, s a _ h⟩
theorem sqt_mono {K : PySem.W.Frag} {F F' : Hp} (s : Same F F') {a : Addr} {xs : List V} (h : SqT K F a xs) : SqT K F' a xs := by
  rcases h with h | h
  · exact Or.inl (rd_mono s h)
  · exact Or.inr h
mutual
theorem dp_mono {K : PySem.W.Frag} {F F' : Hp} (s : Same F F') : ∀ {v : V} {d : PyData}, Dp K F v d → Dp K F' v d
  | _, _, .non => .non
  | _, _, .bl b => .bl b
  | _, _, .int i => .int i
  | _, _, .str x => .str x
  | _, _, .lst h a => .lst (s.seq h) (dpAll_mono s a)
  | _, _, .tup h a => .tup (sqt_mono s h) (dpAll_mono s a)
theorem dpAll_mono {K : PySem.W.Frag} {F F' : Hp} (s : Same F F') : ∀ {xs : List V} {ds : List PyData}, DpAll K F xs ds → DpAll K F' xs ds
  | _, _, .nil => .nil
  | _, _, .cons h a => .cons (dp_mono s h) (dpAll_mono s a)
end
mutual
/-- data whose lists are all newer than B -/
inductive Nw (K : PySem.W.Frag) (B F : Hp) : V → PyData → Prop
  | non : Nw K B F .non .none
  | bl (b : Bool) : Nw K B F (.bl b) (.bool b)
  | int (i : Int) : Nw K B F (.int i) (.int i)
  | str (x : Str) : Nw K B F (.str x) (.str x)
  | lst {a : Addr} {xs : List V} {ds : List PyData} : B a = none → F a = some (.lst xs) → NwAll K B F xs ds → Nw K B F (.ref a) (.list ds)
  | tup {a : Addr} {xs : List V} {ds : List PyData} : SqT K F a xs → NwAll K B F xs ds → Nw K B F (.ref a) (.tuple ds)
inductive NwAll (K : PySem.W.Frag) (B F : Hp) : List V → List PyData → Prop
  | nil : NwAll K B F [] []
  | cons {v : V} {vs : List V} {d : PyData} {ds : List PyData} : Nw K B F v d → NwAll K B F vs ds → NwAll K B F (v :: vs) (d :: ds)
end
mutual
theorem nw_mono {K : PySem.W.Frag} {B B' F F' : Hp} (q : Same B' B) (s : Same F F') : ∀ {v : V} {d : PyData}, Nw K B F v d → Nw K B' F' v d
  | _, _, .non => .non
  | _, _, .bl b => .bl b
  | _, _, .int i => .int i
  | _, _, .str x => .str x
  | _, _, .lst n h a => .lst (q.free n) (s _ _ h) (nwAll_mono q s a)
  | _, _, .tup h a => .tup (sqt_mono s h) (nwAll_mono q s a)
theorem nwAll_mono {K : PySem.W.Frag} {B B' F F' : Hp} (q : Same B' B) (s : Same F F') : ∀ {xs : List V} {ds : List PyData}, NwAll K B F xs ds → NwAll K B' F' xs ds
  | _, _, .nil => .nil
  | _, _, .cons h a => .cons (nw_mono q s h) (nwAll_mono q s a)
end
mutual
theorem nw_dp {K : PySem.W.Frag} {B F : Hp} : ∀ {v : V} {d : PyData}, Nw K B F v d → Dp K F v d
  | _, _, .non => .non
  | _, _, .bl b => .bl b
  | _, _, .int i => .int i
  | _, _, .str x => .str x
  | _, _, .lst n h a => .lst (.inl (.inl h)) (nwAll_dp a)
  | _, _, .tup h a => .tup h (nwAll_dp a)
theorem nwAll_dp {K : PySem.W.Frag} {B F : Hp} : ∀ {xs : List V} {ds : List PyData}, NwAll K B F xs ds → DpAll K F xs ds
  | _, _, .nil => .nil
  | _, _, .cons h a => .cons (nw_dp h) (nwAll_dp a)
end
mutual
/-- no lists within -/
def flatD : PyData → Bool
  | .none => true
  | .bool _ => true
  | .int _ => true
  | .str _ => true
  | .tuple ds => flatDs ds
  | .list _ => false
  | .dict _ => false
def flatDs : List PyData → Bool
  | [] => true
  | d :: ds => flatD d && flatDs ds
end
theorem flatDs_map {α : Type} {e : α → PyData} (h : ∀ x, flatD (e x) = true) : ∀ xs : List α, flatDs (xs.map e) = true
  | [] => rfl
  | x :: r => by
    show (flatD (e x) && flatDs (r.map e)) = true
    rw [h x, flatDs_map h r]
    rfl
mutual
theorem dp_nw {K : PySem.W.Frag} {B F : Hp} : ∀ {v : V} {d : PyData}, Dp K F v d → flatD d = true → Nw K B F v d
  | _, _, .non, _ => .non
  | _, _, .bl b, _ => .bl b
  | _, _, .int i, _ => .int i
  | _, _, .str x, _ => .str x
  | _, _, .lst h a, z => Bool.noConfusion (show false = true from z)
  | _, _, .tup (ds := ds) h a, z => .tup h (dpAll_nw a (show flatDs ds = true from z))
theorem dpAll_nw {K : PySem.W.Frag} {B F : Hp} : ∀ {xs : List V} {ds : List PyData}, DpAll K F xs ds → flatDs ds = true → NwAll K B F xs ds
  | _, _, .nil, _ => .nil
  | _, _, .cons (d := d) (ds := ds) h a, z => by
    have z : (flatD d && flatDs ds) = true := z
    rw [Bool.and_eq_true] at z
    exact .cons (dp_nw h z.1) (dpAll_nw a z.2)
end
theorem sqt_put {K : PySem.W.Frag} {F H F1 H' : Hp} (g : Gr F H F1 H') {a : Addr} {xs : List V} (h : SqT K H' a xs) : ∃ F2, Gr F H F2 H' ∧ Same F1 F2 ∧ SqT K F2 a xs := by
  rcases h with (h | ⟨o, h⟩) | h
  · obtain ⟨F2, g2, s, e⟩ := g.putT rfl h
    exact ⟨F2, g2, s, .inl (.inl e)⟩
  · obtain ⟨F2, g2, s, e⟩ := g.putT rfl h
    exact ⟨F2, g2, s, .inl (.inr ⟨o, e⟩)⟩
  · exact ⟨F1, g, Same.refl _, .inr h⟩
mutual
/-- what holds no lists may stand still at any time -/
theorem dp_prom {K : PySem.W.Frag} {B F H H' : Hp} : ∀ {v : V} {d : PyData}, Dp K H' v d → flatD d = true → ∀ F1, Gr F H F1 H' → ∃ F2, Gr F H F2 H' ∧ Same F1 F2 ∧ Nw K B F2 v d
  | _, _, .non, _, F1, g => ⟨F1, g, Same.refl _, .non⟩
  | _, _, .bl b, _, F1, g => ⟨F1, g, Same.refl _, .bl b⟩
  | _, _, .int i, _, F1, g => ⟨F1, g, Same.refl _, .int i⟩
  | _, _, .str x, _, F1, g => ⟨F1, g, Same.refl _, .str x⟩
  | _, _, .lst h a, z, _, _ => Bool.noConfusion (show false = true from z)
  | _, _, .tup (ds := ds) h a, z, F1, g => by
    obtain ⟨F2, g2, s2, q2⟩ := sqt_put g h
    obtain ⟨F3, g3, s3, q3⟩ := dpAll_prom (B := B) a (show flatDs ds = true from z) F2 g2
    exact ⟨F3, g3, s2.trans s3, .tup (sqt_mono s3 q2) q3⟩
theorem dpAll_prom {K : PySem.W.Frag} {B F H H' : Hp} : ∀ {xs : List V} {ds : List PyData}, DpAll K H' xs ds → flatDs ds = true → ∀ F1, Gr F H F1 H' → ∃ F2, Gr F H F2 H' ∧ Same F1 F2 ∧ NwAll K B F2 xs ds
  | _, _, .nil, _, F1, g => ⟨F1, g, Same.refl _, .nil⟩
  | _, _, .cons (d := d) (ds := ds) h a, z, F1, g => by
    have z : (flatD d && flatDs ds) = true := z
    rw [Bool.and_eq_true] at z
    obtain ⟨F2, g2, s2, q2⟩ := dp_prom (B := B) h z.1 F1 g
    obtain ⟨F3, g3, s3, q3⟩ := dpAll_prom (B := B) a z.2 F2 g2
    exact ⟨F3, g3, s2.trans s3, .cons (nw_mono (Same.refl _) s3 q2) q3⟩
end
mutual
/-- what is new behind a call may stand still from then on -/
theorem nw_fix {K : PySem.W.Frag} {B F H H' : Hp} (sB : Same B H) : ∀ {v : V} {d : PyData}, Nw K H H' v d → ∀ F1, Gr F H F1 H' → ∃ F2, Gr F H F2 H' ∧ Same F1 F2 ∧ Nw K B F2 v d
  | _, _, .non, F1, g => ⟨F1, g, Same.refl _, .non⟩
  | _, _, .bl b, F1, g => ⟨F1, g, Same.refl _, .bl b⟩
  | _, _, .int i, F1, g => ⟨F1, g, Same.refl _, .int i⟩
  | _, _, .str x, F1, g => ⟨F1, g, Same.refl _, .str x⟩
  | _, _, .lst n h a, F1, g => by
    obtain ⟨F2, g2, s2, q2⟩ := g.putN n h
    obtain ⟨F3, g3, s3, q3⟩ := nwAll_fix sB a F2 g2
    exact ⟨F3, g3, s2.trans s3, .lst (sB.free n) (s3 _ _ q2) q3⟩
  | _, _, .tup h a, F1, g => by
    obtain ⟨F2, g2, s2, q2⟩ := sqt_put g h
    obtain ⟨F3, g3, s3, q3⟩ := nwAll_fix sB a F2 g2
    exact ⟨F3, g3, s2.trans s3, .tup (sqt_mono s3 q2) q3⟩
theorem nwAll_fix {K : PySem.W.Frag} {B F H H' : Hp} (sB : Same B H) : ∀ {xs : List V} {ds : List PyData}, NwAll K H H' xs ds → ∀ F1, Gr F H F1 H' → ∃ F2, Gr F H F2 H' ∧ Same F1 F2 ∧ NwAll K B F2 xs ds
  | _, _, .nil, F1, g => ⟨F1, g, Same.refl _, .nil⟩
  | _, _, .cons h a, F1, g => by
    obtain ⟨F2, g2, s2, q2⟩ := nw_fix sB h F1 g
    obtain ⟨F3, g3, s3, q3⟩ := nwAll_fix sB a F2 g2
    exact ⟨F3, g3, s2.trans s3, .cons (nw_mono (Same.refl _) s3 q2) q3⟩
end
theorem nwAll_len {K : PySem.W.Frag} {B F : Hp} : ∀ {xs : List V} {ds : List PyData}, NwAll K B F xs ds → xs.length = ds.length
  | _, _, .nil => rfl
  | _, _, .cons _ a => congrArg (· + 1) (nwAll_len a)
theorem dpAll_len {K : PySem.W.Frag} {F : Hp} : ∀ {xs : List V} {ds : List PyData}, DpAll K F xs ds → xs.length = ds.length
  | _, _, .nil => rfl
  | _, _, .cons _ a => congrArg (· + 1) (dpAll_len a)
theorem nwAll_get {K : PySem.W.Frag} {B F : Hp} : ∀ {xs : List V} {ds : List PyData}, NwAll K B F xs ds → ∀ {i : Nat} {d : PyData}, ds[i]? = some d → ∃ v, xs[i]? = some v ∧ Nw K B F v d
  | _, _, .nil, i, d, e => by simp at e
  | _, _, .cons h _, 0, d, e => by simp at e; subst e; exact ⟨_, rfl, h⟩
  | _, _, .cons _ a, i + 1, d, e => by
    obtain ⟨v, h1, h2⟩ := nwAll_get a (i := i) (d := d) (by simpa using e)
    exact ⟨v, by simpa using h1, h2⟩
theorem dpAll_get {K : PySem.W.Frag} {F : Hp} : ∀ {xs : List V} {ds : List PyData}, DpAll K F xs ds → ∀ {i : Nat} {d : PyData}, ds[i]? = some d → ∃ v, xs[i]? = some v ∧ Dp K F v d
  | _, _, .nil, i, d, e => by simp at e
  | _, _, .cons h _, 0, d, e => by simp at e; subst e; exact ⟨_, rfl, h⟩
  | _, _, .cons _ a, i + 1, d, e => by
    obtain ⟨v, h1, h2⟩ := dpAll_get a (i := i) (d := d) (by simpa using e)
    exact ⟨v, by simpa using h1, h2⟩
theorem nwAll_getV {K : PySem.W.Frag} {B F : Hp} {xs : List V} {ds : List PyData} (h : NwAll K B F xs ds) {i : Nat} {v : V} (e : xs[i]? = some v) : ∃ d, ds[i]? = some d ∧ Nw K B F v d := by
  obtain ⟨hi, _⟩ := List.getElem?_eq_some_iff.mp e
  have hi' : i < ds.length := by rw [← nwAll_len h]; exact hi
  obtain ⟨w, h1, h2⟩ := nwAll_get h (List.getElem?_eq_getElem hi')
  rw [e] at h1
  cases h1
  exact ⟨_, List.getElem?_eq_getElem hi', h2⟩
theorem dpAll_getV {K : PySem.W.Frag} {F : Hp} {xs : List V} {ds : List PyData} (h : DpAll K F xs ds) {i : Nat} {v : V} (e : xs[i]? = some v) : ∃ d, ds[i]? = some d ∧ Dp K F v d := by
  obtain ⟨hi, _⟩ := List.getElem?_eq_some_iff.mp e
  have hi' : i < ds.length := by rw [← dpAll_len h]; exact hi
  obtain ⟨w, h1, h2⟩ := dpAll_get h (List.getElem?_eq_getElem hi')
  rw [e] at h1
  cases h1
  exact ⟨_, List.getElem?_eq_getElem hi', h2⟩
theorem nwAll_app {K : PySem.W.Frag} {B F : Hp} : ∀ {xs ys : List V} {ds es : List PyData}, NwAll K B F xs ds → NwAll K B F ys es → NwAll K B F (xs ++ ys) (ds ++ es)
  | _, _, _, _, .nil, b => b
  | _, _, _, _, .cons h a, b => .cons h (nwAll_app a b)
theorem nwAll_take {K : PySem.W.Frag} {B F : Hp} : ∀ {xs : List V} {ds : List PyData} (n : Nat), NwAll K B F xs ds → NwAll K B F (xs.take n) (ds.take n)
  | _, _, 0, _ => .nil
  | _, _, n + 1, .nil => .nil
  | _, _, n + 1, .cons h a => .cons h (nwAll_take n a)
theorem nwAll_drop {K : PySem.W.Frag} {B F : Hp} : ∀ {xs : List V} {ds : List PyData} (n : Nat), NwAll K B F xs ds → NwAll K B F (xs.drop n) (ds.drop n)
  | _, _, 0, h => h
  | _, _, n + 1, .nil => .nil
  | _, _, n + 1, .cons h a => nwAll_drop n a
theorem dpAll_take {K : PySem.W.Frag} {F : Hp} : ∀ {xs : List V} {ds : List PyData} (n : Nat), DpAll K F xs ds → DpAll K F (xs.take n) (ds.take n)
  | _, _, 0, _ => .nil
  | _, _, n + 1, .nil => .nil
  | _, _, n + 1, .cons h a => .cons h (dpAll_take n a)
theorem dpAll_drop {K : PySem.W.Frag} {F : Hp} : ∀ {xs : List V} {ds : List PyData} (n : Nat), DpAll K F xs ds → DpAll K F (xs.drop n) (ds.drop n)
  | _, _, 0, h => h
  | _, _, n + 1, .nil => .nil
  | _, _, n + 1, .cons h a => dpAll_drop n a
theorem dpAll_app {K : PySem.W.Frag} {F : Hp} : ∀ {xs ys : List V} {ds es : List PyData}, DpAll K F xs ds → DpAll K F ys es → DpAll K F (xs ++ ys) (ds ++ es)
  | _, _, _, _, .nil, b => b
  | _, _, _, _, .cons h a, b => .cons h (dpAll_app a b)
theorem nwAll_rev {K : PySem.W.Frag} {B F : Hp} : ∀ {xs : List V} {ds : List PyData}, NwAll K B F xs ds → NwAll K B F xs.reverse ds.reverse
  | _, _, .nil => .nil
  | _, _, .cons h a => by
    rw [List.reverse_cons, List.reverse_cons]
    exact nwAll_app (nwAll_rev a) (.cons h .nil)
theorem dpAll_ints {K : PySem.W.Frag} {F : Hp} : ∀ {xs : List V} {ns : List Int}, DpAll K F xs (ns.map PyData.int) → xs = ns.map V.int
  | _, [], .nil => rfl
  | _, n :: r, .cons (.int _) a => by rw [dpAll_ints a]; rfl
theorem nwAll_ints {K : PySem.W.Frag} {B F : Hp} (ns : List Int) : NwAll K B F (ns.map V.int) (ns.map PyData.int) := by
  induction ns with
  | nil => exact .nil
  | cons n r ih => exact .cons (.int n) ih
theorem dpAll_bls {K : PySem.W.Frag} {F : Hp} : ∀ {xs : List V} {ns : List Bool}, DpAll K F xs (ns.map PyData.bool) → xs = ns.map V.bl
  | _, [], .nil => rfl
  | _, n :: r, .cons (.bl _) a => by rw [dpAll_bls a]; rfl
end Lay
namespace Lay
open PySem L2

abbrev dat (K : PySem.W.Frag) (d : PyData) : Pd := fun F v => Dp K F v d
abbrev nwd (K : PySem.W.Frag) (B : Hp) (d : PyData) : Pd := fun F v => Nw K B F v d
theorem st_dat {K : PySem.W.Frag} {d : PyData} : Stab (dat K d) := fun _ _ _ s h => dp_mono s h
theorem st_nwd {K : PySem.W.Frag} {B : Hp} {d : PyData} : Stab (nwd K B d) := fun _ _ _ s h => nw_mono (Same.refl _) s h
/-- an owned list, an owned dict (keys ints) -/
inductive KvAll (K : PySem.W.Frag) (B F : Hp) : List (Key × V) → List (Int × PyData) → Prop
  | nil : KvAll K B F [] []
  | cons {k : Int} {v : V} {d : PyData} {kv : List (Key × V)} {kvs : List (Int × PyData)} : Nw K B F v d → KvAll K B F kv kvs → KvAll K B F ((Sum.inl k, v) :: kv) ((k, d) :: kvs)
def mlP (K : PySem.W.Frag) (B : Hp) (ds : List PyData) : Hp → Hp → V → List Addr → Prop := fun F H v as => ∃ l xs, v = .ref l ∧ as = [l] ∧ H l = some (.lst xs) ∧ NwAll K B F xs ds
def mdP (K : PySem.W.Frag) (B : Hp) (kvs : List (Int × PyData)) : Hp → Hp → V → List Addr → Prop := fun F H v as => ∃ l kv, v = .ref l ∧ as = [l] ∧ H l = some (.dK kv) ∧ KvAll K B F kv kvs
theorem kvAll_mono {K : PySem.W.Frag} {B F F' : Hp} (s : Same F F') : ∀ {kv : List (Key × V)} {kvs : List (Int × PyData)}, KvAll K B F kv kvs → KvAll K B F' kv kvs
  | _, _, .nil => .nil
  | _, _, .cons h a => .cons (nw_mono (Same.refl _) s h) (kvAll_mono s a)
theorem st_ml {K : PySem.W.Frag} {B : Hp} {ds : List PyData} : MStab (mlP K B ds) := fun F F' H H' v as s e ⟨l, xs, h1, h2, h3, h4⟩ =>
  ⟨l, xs, h1, h2, by rw [e l (by rw [h2]; exact List.mem_singleton.mpr rfl)]; exact h3, nwAll_mono (Same.refl _) s h4⟩
theorem st_md {K : PySem.W.Frag} {B : Hp} {kvs : List (Int × PyData)} : MStab (mdP K B kvs) := fun F F' H H' v as s e ⟨l, kv, h1, h2, h3, h4⟩ =>
  ⟨l, kv, h1, h2, by rw [e l (by rw [h2]; exact List.mem_singleton.mpr rfl)]; exact h3, kvAll_mono s h4⟩
abbrev sn (K : PySem.W.Frag) (B : Hp) (d : PyData) : Sl := .fz (nwd K B d)
abbrev sa (K : PySem.W.Frag) (d : PyData) : Sl := .fz (dat K d)
abbrev ml (K : PySem.W.Frag) (B : Hp) (ds : List PyData) : Sl := .mo (mlP K B ds)
abbrev md (K : PySem.W.Frag) (B : Hp) (kvs : List (Int × PyData)) : Sl := .mo (mdP K B kvs)
/-- a dict read: tracked, keys ints -/
def isDict (K : PySem.W.Frag) (kvs : List (Int × PyData)) : Pd := fun H v => ∃ l kv, v = .ref l ∧ Rd H l (.dK kv) ∧ ∃ B, KvAll K B H kv kvs
theorem st_isDict {K : PySem.W.Frag} {kvs : List (Int × PyData)} : Stab (isDict K kvs) := fun _ _ _ s ⟨l, kv, h1, h2, B, h3⟩ => ⟨l, kv, h1, rd_mono s h2, B, kvAll_mono s h3⟩

/-! ### what evaluates to what -/
def Ev (B F0 : Hp) (ρ : List Sl) (te : TE) (f : Pd) : Prop := ∀ F H σ, Cfg B F0 F H σ ρ → ∀ Q : VK, (∀ v F' H', Gr F H F' H' → f F' v → Q v H') → te σ H Q
def EvH (B F0 : Hp) (ρ : List Sl) (te : TE) (f : Pd) : Prop := ∀ F H σ, Cfg B F0 F H σ ρ → ∀ Q : VK, (∀ v F' H', Gr F H F' H' → f H' v → Q v H') → te σ H Q
def EvM (K : PySem.W.Frag) (B F0 : Hp) (ρ : List Sl) (te : TE) (ds : List PyData) : Prop := ∀ F H σ, Cfg B F0 F H σ ρ → ∀ Q : VK,
  (∀ l xs F' H', Gr F H F' H' → F' l = none → H l = none → H' l = some (.lst xs) → NwAll K B F' xs ds → Q (.ref l) H') → te σ H Q
def EvT (B F0 : Hp) (ρ : List Sl) (tt : TT) (c : Bool) : Prop := ∀ F H σ, Cfg B F0 F H σ ρ → ∀ Q : Bool → Hp → Prop, (∀ F' H', Gr F H F' H' → Q c H') → tt σ H Q
/-- a slot that is read as data -/
def RdS (K : PySem.W.Frag) (s : Sl) (d : PyData) : Prop := ∀ B F0 F H σ ρ (i : Nat), Cfg B F0 F H σ ρ → ρ[i]? = some s → ∃ v, σ[i]? = some (some v) ∧ Dp K H v d
section
variable {K : PySem.W.Frag} {B F0 : Hp} {ρ : List Sl} {te ta tb tc : TE} {f g : Pd} {d e : PyData} {ds es : List PyData}
theorem rd_sa : RdS K (sa K d) d := fun B F0 F H σ ρ i c e => by
  obtain ⟨w, o⟩ := c.own
  obtain ⟨_, v, h1, h2⟩ := o.sl i _ e
  exact ⟨v, h1, dp_mono c.i h2⟩
theorem rd_sn {B' : Hp} : RdS K (sn K B' d) d := fun B F0 F H σ ρ i c e => by
  obtain ⟨w, o⟩ := c.own
  obtain ⟨_, v, h1, h2⟩ := o.sl i _ e
  exact ⟨v, h1, dp_mono c.i (nw_dp h2)⟩
theorem rd_ml {B' : Hp} : RdS K (ml K B' ds) (.list ds) := fun B F0 F H σ ρ i c e => by
  obtain ⟨w, o⟩ := c.own
  obtain ⟨_, v, h1, l, xs, rfl, _, h4, h5⟩ := o.sl i _ e
  exact ⟨_, h1, .lst (.inl (.inl h4)) (dpAll_mono c.i (nwAll_dp h5))⟩
theorem ev_var {i : Nat} (h : ρ[i]? = some (.fz f)) : Ev B F0 ρ (tVar i) f := fun F H σ c Q q => by
  obtain ⟨w, o⟩ := c.own
  obtain ⟨_, v, h1, h2⟩ := o.sl i _ h
  exact ⟨v, h1, q v F H (Gr.refl c.i) h2⟩
theorem evh_var {i : Nat} {s : Sl} (h : ρ[i]? = some s) (r : RdS K s d) : EvH B F0 ρ (tVar i) (dat K d) := fun F H σ c Q q => by
  obtain ⟨v, h1, h2⟩ := r B F0 F H σ ρ i c h
  exact ⟨v, h1, q v F H (Gr.refl c.i) h2⟩
theorem evh_fz {i : Nat} (st : Stab f) (h : ρ[i]? = some (.fz f)) : EvH B F0 ρ (tVar i) f := fun F H σ c Q q => by
  obtain ⟨w, o⟩ := c.own
  obtain ⟨_, v, h1, h2⟩ := o.sl i _ h
  exact ⟨v, h1, q v F H (Gr.refl c.i) (st _ _ _ c.i h2)⟩
theorem evh_md {B' : Hp} {kvs : List (Int × PyData)} {i : Nat} (h : ρ[i]? = some (md K B' kvs)) : EvH B F0 ρ (tVar i) (isDict K kvs) := fun F H σ c Q q => by
  obtain ⟨w, o⟩ := c.own
  obtain ⟨_, v, h1, l, kv, rfl, _, h4, h5⟩ := o.sl i _ h
  exact ⟨_, h1, q _ F H (Gr.refl c.i) ⟨l, kv, rfl, .inl h4, _, kvAll_mono c.i h5⟩⟩
theorem Ev.h (st : Stab f) (h : Ev B F0 ρ te f) : EvH B F0 ρ te f := fun F H σ c Q q => h F H σ c Q fun v F' H' g p => q v F' H' g (st _ _ _ g.i p)
theorem Ev.dat (h : Ev B F0 ρ te (nwd K B d)) : Ev B F0 ρ te (dat K d) := fun F H σ c Q q => h F H σ c Q fun v F' H' g p => q v F' H' g (nw_dp p)
theorem Ev.hd (h : Ev B F0 ρ te (nwd K B d)) : EvH B F0 ρ te (Lay.dat K d) := h.dat.h st_dat
theorem Ev.imp (h : Ev B F0 ρ te f) (k : ∀ F v, f F v → g F v) : Ev B F0 ρ te g := fun F H σ c Q q => h F H σ c Q fun v F' H' gr p => q v F' H' gr (k _ _ p)
/-- what holds no lists may be taken as standing still -/
theorem EvH.nw (h : EvH B F0 ρ te (dat K d)) (fl : flatD d = true) : Ev B F0 ρ te (nwd K B d) := fun F H σ c Q q => h F H σ c Q fun v F' H' g p => by
  obtain ⟨F2, g2, _, p2⟩ := dp_prom (B := B) p fl F' g
  exact q v F2 H' g2 p2
theorem Ev.nwf (h : Ev B F0 ρ te (Lay.dat K d)) (fl : flatD d = true) : Ev B F0 ρ te (nwd K B d) := fun F H σ c Q q => h F H σ c Q fun v F' H' g p => q v F' H' g (dp_nw p fl)
/-- a list read now, its items (no lists) taken as standing still -/
theorem EvH.nwl (h : EvH B F0 ρ te (Lay.dat K (.list ds))) (fl : flatDs ds = true) : ∀ F H σ, Cfg B F0 F H σ ρ → ∀ Q : VK, (∀ v F' H', Gr F H F' H' → (∃ a xs, v = .ref a ∧ SqL K H' a xs ∧ NwAll K B F' xs ds) → Q v H') → te σ H Q := fun F H σ c Q q => h F H σ c Q fun v F' H' g p => by
  cases p with
  | @lst a xs _ h1 h2 =>
    obtain ⟨F2, g2, _, p2⟩ := dpAll_prom (B := B) h2 fl F' g
    exact q _ F2 H' g2 ⟨a, xs, rfl, h1, p2⟩
theorem EvM.nw (h : EvM K B F0 ρ te ds) : Ev B F0 ρ te (nwd K B (.list ds)) := fun F H σ c Q q => h F H σ c Q fun l xs F' H' g hf hn hl a => by
  refine q _ (upd F' l (.lst xs)) H' (g.put (.inl hn) rfl hf hl) (.lst (c.gr.fresh hn) upd_same (nwAll_mono (Same.refl _) (fun b u e => ?_) a))
  rw [upd_ne (ne_of_none e hf)]
  exact e
theorem ev_int {n : Int} : Ev B F0 ρ (tC (.int n)) (nwd K B (.int n)) := fun F H σ c Q q => q _ F H (Gr.refl c.i) (.int n)
theorem ev_bl {n : Bool} : Ev B F0 ρ (tC (.bl n)) (nwd K B (.bool n)) := fun F H σ c Q q => q _ F H (Gr.refl c.i) (.bl n)
theorem ev_non : Ev B F0 ρ (tC .non) (nwd K B .none) := fun F H σ c Q q => q _ F H (Gr.refl c.i) .non
theorem ev_str {x : Str} : Ev B F0 ρ (tC (.str x)) (nwd K B (.str x)) := fun F H σ c Q q => q _ F H (Gr.refl c.i) (.str x)

/-! ### operators on values -/
theorem evo {r : R2} {fa fb : Pd} {z : V} (sa : Stab fa) (ha : EvH B F0 ρ ta fa) (hb : EvH B F0 ρ tb fb) (nz : ∀ F, f F z) (hr : ∀ H x y, fa H x → fb H y → ∀ Q : VK, Q z H → r x y H Q) : Ev B F0 ρ (tOp r ta tb) f := fun F H σ c Q q =>
  ha F H σ c _ fun x F1 H1 g1 p1 => hb F1 H1 σ (c.go g1) _ fun y F2 H2 g2 p2 => hr H2 x y (sa _ _ _ g2.h p1) p2 Q (q z F2 H2 (g1.trans g2) (nz F2))
theorem ev_ii {g : Int → Int → V} {a b c : Int} (ha : EvH B F0 ρ ta (dat K (.int a))) (hb : EvH B F0 ρ tb (dat K (.int b))) (e : g a b = .int c) : Ev B F0 ρ (tOp (rI0 g) ta tb) (nwd K B (.int c)) :=
  evo st_dat ha hb (fun F => .int c) fun H x y hx hy Q q => by
    cases hx; cases hy
    exact ⟨a, b, rfl, rfl, by rw [e]; exact q⟩
theorem ev_ib {g : Int → Int → V} {a b : Int} {c : Bool} (ha : EvH B F0 ρ ta (dat K (.int a))) (hb : EvH B F0 ρ tb (dat K (.int b))) (e : g a b = .bl c) : Ev B F0 ρ (tOp (rI0 g) ta tb) (nwd K B (.bool c)) :=
  evo st_dat ha hb (fun F => .bl c) fun H x y hx hy Q q => by
    cases hx; cases hy
    exact ⟨a, b, rfl, rfl, by rw [e]; exact q⟩
theorem ev_ci {C : Int → Int → Prop} {g : Int → Int → V} {a b c : Int} (ha : EvH B F0 ρ ta (dat K (.int a))) (hb : EvH B F0 ρ tb (dat K (.int b))) (hc : C a b) (e : g a b = .int c) : Ev B F0 ρ (tOp (rI C g) ta tb) (nwd K B (.int c)) :=
  evo st_dat ha hb (fun F => .int c) fun H x y hx hy Q q => by
    cases hx; cases hy
    exact ⟨a, b, rfl, rfl, hc, by rw [e]; exact q⟩
theorem ev_eqI {a b : Int} (ha : EvH B F0 ρ ta (dat K (.int a))) (hb : EvH B F0 ρ tb (dat K (.int b))) : Ev B F0 ρ (tOp rEq ta tb) (nwd K B (.bool (decide (a = b)))) :=
  evo st_dat ha hb (fun F => .bl _) fun H x y hx hy Q q => by
    cases hx; cases hy
    refine ⟨rfl, ?_⟩
    have e : decide (V.int a = V.int b) = decide (a = b) := by
      by_cases h : a = b
      · rw [decide_eq_true h, decide_eq_true (congrArg V.int h)]
      · rw [decide_eq_false h, decide_eq_false fun z => h (V.int.inj z)]
    rw [e]; exact q
theorem ev_neI {a b : Int} (ha : EvH B F0 ρ ta (dat K (.int a))) (hb : EvH B F0 ρ tb (dat K (.int b))) : Ev B F0 ρ (tOp rNe ta tb) (nwd K B (.bool (!decide (a = b)))) :=
  evo st_dat ha hb (fun F => .bl _) fun H x y hx hy Q q => by
    cases hx; cases hy
    refine ⟨rfl, ?_⟩
    have e : decide (V.int a = V.int b) = decide (a = b) := by
      by_cases h : a = b
      · rw [decide_eq_true h, decide_eq_true (congrArg V.int h)]
      · rw [decide_eq_false h, decide_eq_false fun z => h (V.int.inj z)]
    rw [e]; exact q
theorem ev_eqS {a b : Str} (ha : EvH B F0 ρ ta (dat K (.str a))) (hb : EvH B F0 ρ tb (dat K (.str b))) : Ev B F0 ρ (tOp rEq ta tb) (nwd K B (.bool (decide (a = b)))) :=
  evo st_dat ha hb (fun F => .bl _) fun H x y hx hy Q q => by
    cases hx; cases hy
    refine ⟨rfl, ?_⟩
    have e : decide (V.str a = V.str b) = decide (a = b) := by
      by_cases h : a = b
      · rw [decide_eq_true h, decide_eq_true (congrArg V.str h)]
      · rw [decide_eq_false h, decide_eq_false fun z => h (V.str.inj z)]
    rw [e]; exact q
theorem ev_neS {a b : Str} (ha : EvH B F0 ρ ta (dat K (.str a))) (hb : EvH B F0 ρ tb (dat K (.str b))) : Ev B F0 ρ (tOp rNe ta tb) (nwd K B (.bool (!decide (a = b)))) :=
  evo st_dat ha hb (fun F => .bl _) fun H x y hx hy Q q => by
    cases hx; cases hy
    refine ⟨rfl, ?_⟩
    have e : decide (V.str a = V.str b) = decide (a = b) := by
      by_cases h : a = b
      · rw [decide_eq_true h, decide_eq_true (congrArg V.str h)]
      · rw [decide_eq_false h, decide_eq_false fun z => h (V.str.inj z)]
    rw [e]; exact q
theorem ev_eqD (ha : EvH B F0 ρ ta (dat K d)) (hb : EvH B F0 ρ tb (dat K e)) (hd : SeqAt.shaped d = true) (he : SeqAt.shaped e = true) : Ev B F0 ρ (tOp (rEqD K) ta tb) (nwd K B (.bool (PyData.eqv d e))) :=
  evo st_dat ha hb (fun F => .bl _) fun H x y hx hy Q q => ⟨d, e, hx, hy, hd, he, q⟩
theorem ev_neD (ha : EvH B F0 ρ ta (dat K d)) (hb : EvH B F0 ρ tb (dat K e)) (hd : SeqAt.shaped d = true) (he : SeqAt.shaped e = true) : Ev B F0 ρ (tOp (rNeD K) ta tb) (nwd K B (.bool (!PyData.eqv d e))) :=
  evo st_dat ha hb (fun F => .bl _) fun H x y hx hy Q q => ⟨d, e, hx, hy, hd, he, q⟩
theorem inV_ints {a : Int} : ∀ {ns : List Int}, inV (.int a) (ns.map V.int) = decide (a ∈ ns)
  | [] => by simp [inV]
  | n :: r => by
    have ih := inV_ints (a := a) (ns := r)
    unfold inV at ih ⊢
    rw [List.map_cons, List.any_cons, ih]
    show (n == a || decide (a ∈ r)) = decide (a ∈ n :: r)
    by_cases h : n = a
    · subst h; simp
    · have h' : ¬ a = n := fun z => h z.symm
      simp [h, h']
theorem all_flat_ints : ∀ ns : List Int, (ns.map V.int).all flatV = true
  | [] => rfl
  | n :: r => by rw [List.map_cons, List.all_cons, all_flat_ints r]; rfl
theorem ev_inI {neg : Bool} {a : Int} {ns : List Int} (ha : EvH B F0 ρ ta (dat K (.int a))) (hb : EvH B F0 ρ tb (dat K (.list (ns.map .int)))) : Ev B F0 ρ (tOp (rIn K neg) ta tb) (nwd K B (.bool (if neg then !decide (a ∈ ns) else decide (a ∈ ns)))) :=
  evo st_dat ha hb (fun F => .bl _) fun H x y hx hy Q q => by
    cases hx
    cases hy with
    | lst h1 h2 =>
      rw [dpAll_ints h2] at h1
      refine ⟨_, _, rfl, .inl h1, rfl, all_flat_ints ns, ?_⟩
      rw [inV_ints]; exact q
theorem ev_inT {neg : Bool} {a : Int} {ns : List Int} (ha : EvH B F0 ρ ta (dat K (.int a))) (hb : EvH B F0 ρ tb (dat K (.tuple (ns.map .int)))) : Ev B F0 ρ (tOp (rIn K neg) ta tb) (nwd K B (.bool (if neg then !decide (a ∈ ns) else decide (a ∈ ns)))) :=
  evo st_dat ha hb (fun F => .bl _) fun H x y hx hy Q q => by
    cases hx
    cases hy with
    | tup h1 h2 =>
      rw [dpAll_ints h2] at h1
      refine ⟨_, _, rfl, .inr h1, rfl, all_flat_ints ns, ?_⟩
      rw [inV_ints]; exact q
/-- is None, is not None -/
theorem ev_isN {c : Bool} (ha : EvH B F0 ρ ta (dat K d)) (hb : EvH B F0 ρ tb (dat K .none)) (hc : ∀ F v, Dp K F v d → decide (v = .non) = c) : Ev B F0 ρ (tOp (fun x y H Q => y = .non ∧ Q (.bl (decide (x = .non))) H) ta tb) (nwd K B (.bool c)) :=
  evo st_dat ha hb (fun F => .bl _) fun H x y hx hy Q q => by
    cases hy
    exact ⟨rfl, by rw [hc _ _ hx]; exact q⟩
theorem ev_notN {c : Bool} (ha : EvH B F0 ρ ta (dat K d)) (hb : EvH B F0 ρ tb (dat K .none)) (hc : ∀ F v, Dp K F v d → decide (v = .non) = c) : Ev B F0 ρ (tOp (fun x y H Q => y = .non ∧ Q (.bl (!decide (x = .non))) H) ta tb) (nwd K B (.bool (!c))) :=
  evo st_dat ha hb (fun F => .bl _) fun H x y hx hy Q q => by
    cases hy
    exact ⟨rfl, by rw [hc _ _ hx]; exact q⟩
/-! ### items -/
theorem dpAll_atI {F : Hp} {xs : List V} {i : Int} (h : DpAll K F xs ds) (e : atI ds i = some d) : ∃ v, atI xs i = some v ∧ Dp K F v d := by
  unfold atI at e ⊢
  rw [dpAll_len h]
  cases z : ixN ds.length i with
  | none => rw [z] at e; cases e
  | some j =>
    rw [z] at e
    exact dpAll_get h e
theorem nwAll_atI {B F : Hp} {xs : List V} {i : Int} (h : NwAll K B F xs ds) (e : atI ds i = some d) : ∃ v, atI xs i = some v ∧ Nw K B F v d := by
  unfold atI at e ⊢
  rw [nwAll_len h]
  cases z : ixN ds.length i with
  | none => rw [z] at e; cases e
  | some j =>
    rw [z] at e
    exact nwAll_get h e
theorem evh_ixL {i : Int} (ha : EvH B F0 ρ ta (dat K (.list ds))) (hb : EvH B F0 ρ tb (dat K (.int i))) (e : atI ds i = some d) : EvH B F0 ρ (tOp (rIxL K) ta tb) (dat K d) := fun F H σ c Q q =>
  ha F H σ c _ fun x F1 H1 g1 p1 => hb F1 H1 σ (c.go g1) _ fun y F2 H2 g2 p2 => by
    cases p2
    cases p1 with
    | lst h1 h2 =>
      obtain ⟨v, h3, h4⟩ := dpAll_atI h2 e
      exact ⟨_, _, i, v, rfl, rfl, g2.h.seq h1, h3, q v F2 H2 (g1.trans g2) (dp_mono g2.h h4)⟩
theorem ev_ixL {i : Int} (ha : Ev B F0 ρ ta (dat K (.list ds))) (hb : EvH B F0 ρ tb (dat K (.int i))) (e : atI ds i = some d) : Ev B F0 ρ (tOp (rIxL K) ta tb) (dat K d) := fun F H σ c Q q =>
  ha F H σ c _ fun x F1 H1 g1 p1 => hb F1 H1 σ (c.go g1) _ fun y F2 H2 g2 p2 => by
    cases p2
    cases p1 with
    | lst h1 h2 =>
      obtain ⟨v, h3, h4⟩ := dpAll_atI h2 e
      exact ⟨_, _, i, v, rfl, rfl, g2.i.seq (g2.f.seq h1), h3, q v F2 H2 (g1.trans g2) (dp_mono g2.f h4)⟩
theorem ev_ixN {i : Int} (ha : Ev B F0 ρ ta (nwd K B (.list ds))) (hb : EvH B F0 ρ tb (dat K (.int i))) (e : atI ds i = some d) : Ev B F0 ρ (tOp (rIxL K) ta tb) (nwd K B d) := fun F H σ c Q q =>
  ha F H σ c _ fun x F1 H1 g1 p1 => hb F1 H1 σ (c.go g1) _ fun y F2 H2 g2 p2 => by
    cases p2
    cases p1 with
    | lst h0 h1 h2 =>
      obtain ⟨v, h3, h4⟩ := nwAll_atI h2 e
      exact ⟨_, _, i, v, rfl, rfl, .inl (.inl (g2.i _ _ (g2.f _ _ h1))), h3, q v F2 H2 (g1.trans g2) (nw_mono (Same.refl _) g2.f h4)⟩
theorem evh_ixT {i : Int} (ha : EvH B F0 ρ ta (dat K (.tuple ds))) (hb : EvH B F0 ρ tb (dat K (.int i))) (e : atI ds i = some d) : EvH B F0 ρ (tOp (rIxT K) ta tb) (dat K d) := fun F H σ c Q q =>
  ha F H σ c _ fun x F1 H1 g1 p1 => hb F1 H1 σ (c.go g1) _ fun y F2 H2 g2 p2 => by
    cases p2
    cases p1 with
    | tup h1 h2 =>
      obtain ⟨v, h3, h4⟩ := dpAll_atI h2 e
      exact ⟨_, _, i, v, rfl, rfl, sqt_mono g2.h h1, h3, q v F2 H2 (g1.trans g2) (dp_mono g2.h h4)⟩
theorem ev_ixT {i : Int} (ha : Ev B F0 ρ ta (nwd K B (.tuple ds))) (hb : EvH B F0 ρ tb (dat K (.int i))) (e : atI ds i = some d) : Ev B F0 ρ (tOp (rIxT K) ta tb) (nwd K B d) := fun F H σ c Q q =>
  ha F H σ c _ fun x F1 H1 g1 p1 => hb F1 H1 σ (c.go g1) _ fun y F2 H2 g2 p2 => by
    cases p2
    cases p1 with
    | tup h1 h2 =>
      obtain ⟨v, h3, h4⟩ := nwAll_atI h2 e
      exact ⟨_, _, i, v, rfl, rfl, sqt_mono g2.i (sqt_mono g2.f h1), h3, q v F2 H2 (g1.trans g2) (nw_mono (Same.refl _) g2.f h4)⟩
end
end Lay
namespace Lay
open PySem L2

section
variable {K : PySem.W.Frag} {B F0 : Hp} {ρ ρ1 ρ2 : List Sl} {te ta tb tc : TE} {t u : TT} {f g : Pd} {d e : PyData} {ds es : List PyData}
/-! ### tests, truths -/
theorem et_B {c : Bool} (h : EvH B F0 ρ te (dat K (.bool c))) : EvT B F0 ρ (tB te) c := fun F H σ k Q q => h F H σ k _ fun v F' H' g p => by
  cases p
  exact ⟨c, rfl, q F' H' g⟩
theorem et_test {c : Bool} (h : EvH B F0 ρ te (dat K (.bool c))) : EvT B F0 ρ (tTest te) c := fun F H σ k Q q => h F H σ k _ fun v F' H' g p => by
  cases p
  exact ⟨c, rfl, q F' H' g⟩
theorem et_and {a c : Bool} (h1 : EvT B F0 ρ t a) (h2 : a = true → EvT B F0 ρ u c) : EvT B F0 ρ (tAnd t u) (a && c) := fun F H σ k Q q => h1 F H σ k _ fun F1 H1 g1 => by
  cases a with
  | true => exact iteT (h2 rfl F1 H1 σ (k.go g1) _ fun F2 H2 g2 => q F2 H2 (g1.trans g2))
  | false => exact iteF (q F1 H1 g1)
theorem et_or {a c : Bool} (h1 : EvT B F0 ρ t a) (h2 : a = false → EvT B F0 ρ u c) : EvT B F0 ρ (tOr t u) (a || c) := fun F H σ k Q q => h1 F H σ k _ fun F1 H1 g1 => by
  cases a with
  | true => exact iteT (q F1 H1 g1)
  | false => exact iteF (h2 rfl F1 H1 σ (k.go g1) _ fun F2 H2 g2 => q F2 H2 (g1.trans g2))
theorem et_not {a : Bool} (h1 : EvT B F0 ρ t a) : EvT B F0 ρ (tNot t) (!a) := fun F H σ k Q q => h1 F H σ k _ fun F1 H1 g1 => q F1 H1 g1
theorem et_is {a c : Bool} (h : EvT B F0 ρ t a) (e : a = c) : EvT B F0 ρ t c := e ▸ h
theorem ev_is {d' : PyData} (h : Ev B F0 ρ te (nwd K B d)) (e : d = d') : Ev B F0 ρ te (nwd K B d') := e ▸ h
theorem ev_andV {a c : Bool} (h1 : EvH B F0 ρ ta (dat K (.bool a))) (h2 : a = true → Ev B F0 ρ tb (nwd K B (.bool c))) : Ev B F0 ρ (tAndV ta tb) (nwd K B (.bool (a && c))) := fun F H σ k Q q => h1 F H σ k _ fun v F1 H1 g1 p => by
  cases p
  refine ⟨a, rfl, ?_⟩
  cases a with
  | true => exact iteT (h2 rfl F1 H1 σ (k.go g1) _ fun v F2 H2 g2 p2 => q v F2 H2 (g1.trans g2) p2)
  | false => exact iteF (q _ F1 H1 g1 (.bl false))
theorem ev_orV {a c : Bool} (h1 : EvH B F0 ρ ta (dat K (.bool a))) (h2 : a = false → Ev B F0 ρ tb (nwd K B (.bool c))) : Ev B F0 ρ (tOrV ta tb) (nwd K B (.bool (a || c))) := fun F H σ k Q q => h1 F H σ k _ fun v F1 H1 g1 p => by
  cases p
  refine ⟨a, rfl, ?_⟩
  cases a with
  | true => exact iteT (q _ F1 H1 g1 (.bl true))
  | false => exact iteF (h2 rfl F1 H1 σ (k.go g1) _ fun v F2 H2 g2 p2 => q v F2 H2 (g1.trans g2) p2)
theorem ev_notV {a : Bool} (h1 : EvH B F0 ρ ta (dat K (.bool a))) : Ev B F0 ρ (tNotV ta) (nwd K B (.bool (!a))) := fun F H σ k Q q => h1 F H σ k _ fun v F1 H1 g1 p => by
  cases p
  exact ⟨a, rfl, q _ F1 H1 g1 (.bl _)⟩
theorem ev_if {c : Bool} (h : EvT B F0 ρ t c) (h1 : c = true → Ev B F0 ρ ta f) (h2 : c = false → Ev B F0 ρ tb f) : Ev B F0 ρ (tIf t ta tb) f := fun F H σ k Q q => h F H σ k _ fun F1 H1 g1 => by
  cases c with
  | true => exact iteT (h1 rfl F1 H1 σ (k.go g1) _ fun v F2 H2 g2 p2 => q v F2 H2 (g1.trans g2) p2)
  | false => exact iteF (h2 rfl F1 H1 σ (k.go g1) _ fun v F2 H2 g2 p2 => q v F2 H2 (g1.trans g2) p2)

/-! ### arguments, displays -/
def AOk : List Pd → Hp → List V → Prop
  | [], _, vs => vs = []
  | f :: r, H, vs => ∃ v t, vs = v :: t ∧ f H v ∧ AOk r H t
def EvA (B F0 : Hp) (ρ : List Sl) (ta : TA) (fs : List Pd) : Prop := ∀ F H σ, Cfg B F0 F H σ ρ → ∀ Q : List V → Hp → Prop, (∀ vs F' H', Gr F H F' H' → AOk fs H' vs → Q vs H') → ta σ H Q
def EvAs (K : PySem.W.Frag) (B F0 : Hp) (ρ : List Sl) (ta : TA) (ds : List PyData) : Prop := ∀ F H σ, Cfg B F0 F H σ ρ → ∀ Q : List V → Hp → Prop, (∀ vs F' H', Gr F H F' H' → NwAll K B F' vs ds → Q vs H') → ta σ H Q
def EvAd (K : PySem.W.Frag) (B F0 : Hp) (ρ : List Sl) (ta : TA) (ds : List PyData) : Prop := ∀ F H σ, Cfg B F0 F H σ ρ → ∀ Q : List V → Hp → Prop, (∀ vs F' H', Gr F H F' H' → DpAll K F' vs ds → Q vs H') → ta σ H Q
theorem ea_nil : EvA B F0 ρ tNil [] := fun F H σ k Q q => q [] F H (Gr.refl k.i) rfl
theorem ea_cons {tr : TA} {fs : List Pd} (st : Stab f) (h : EvH B F0 ρ te f) (hr : EvA B F0 ρ tr fs) : EvA B F0 ρ (tCons te tr) (f :: fs) := fun F H σ k Q q =>
  h F H σ k _ fun v F1 H1 g1 p => hr F1 H1 σ (k.go g1) _ fun vs F2 H2 g2 p2 => q (v :: vs) F2 H2 (g1.trans g2) ⟨v, vs, rfl, st _ _ _ g2.h p, p2⟩
theorem eas_nil : EvAs K B F0 ρ tNil [] := fun F H σ k Q q => q [] F H (Gr.refl k.i) .nil
theorem eas_cons {tr : TA} (h : Ev B F0 ρ te (nwd K B d)) (hr : EvAs K B F0 ρ tr ds) : EvAs K B F0 ρ (tCons te tr) (d :: ds) := fun F H σ k Q q =>
  h F H σ k _ fun v F1 H1 g1 p => hr F1 H1 σ (k.go g1) _ fun vs F2 H2 g2 p2 => q (v :: vs) F2 H2 (g1.trans g2) (.cons (nw_mono (Same.refl _) g2.f p) p2)
theorem ead_nil : EvAd K B F0 ρ tNil [] := fun F H σ k Q q => q [] F H (Gr.refl k.i) .nil
theorem ead_cons {tr : TA} (h : Ev B F0 ρ te (dat K d)) (hr : EvAd K B F0 ρ tr ds) : EvAd K B F0 ρ (tCons te tr) (d :: ds) := fun F H σ k Q q =>
  h F H σ k _ fun v F1 H1 g1 p => hr F1 H1 σ (k.go g1) _ fun vs F2 H2 g2 p2 => q (v :: vs) F2 H2 (g1.trans g2) (.cons (dp_mono g2.f p) p2)
theorem sz_of {n : Nat} (h : n ≤ 100000) : n ≤ sizeLine := Nat.le_trans h (by decide)
theorem sz_lt {n : Nat} (h : n < 100000) : n < sizeLine := Nat.lt_of_lt_of_le h (by decide)
theorem ev_tup {tr : TA} (h : EvAs K B F0 ρ tr ds) (hl : ds.length ≤ 100000) : Ev B F0 ρ (tTup tr) (nwd K B (.tuple ds)) := fun F H σ k Q q =>
  h F H σ k _ fun vs F1 H1 g1 p => ⟨sz_of (by rw [nwAll_len p]; exact hl), fun a ha => by
    have g2 : Gr F H F1 (upd H1 a (.tup vs)) := g1.trans (Gr.new g1.i ha)
    obtain ⟨F2, g3, s, e⟩ := g2.putT (o := .tup vs) rfl upd_same
    exact q _ F2 _ g3 (.tup (.inl (.inl e)) (nwAll_mono (Same.refl _) s p))⟩
theorem evm_lst {tr : TA} (h : EvAs K B F0 ρ tr ds) (hl : ds.length ≤ 100000) : EvM K B F0 ρ (tLst tr) ds := fun F H σ k Q q =>
  h F H σ k _ fun vs F1 H1 g1 p => ⟨sz_of (by rw [nwAll_len p]; exact hl), fun a ha => by
    have g2 : Gr F H F1 (upd H1 a (.lst vs)) := g1.trans (Gr.new g1.i ha)
    exact q a vs F1 _ g2 (g1.i.free ha) (g1.fresh ha) upd_same p⟩
theorem ev_lstD {tr : TA} (h : EvAd K B F0 ρ tr ds) (hl : ds.length ≤ 100000) : Ev B F0 ρ (tLst tr) (dat K (.list ds)) := fun F H σ k Q q =>
  h F H σ k _ fun vs F1 H1 g1 p => ⟨sz_of (by rw [dpAll_len p]; exact hl), fun a ha => by
    have g2 : Gr F H F1 (upd H1 a (.lst vs)) := g1.trans (Gr.new g1.i ha)
    obtain ⟨F2, g3, s, e⟩ := g2.putN (p := a) (o := .lst vs) (g1.fresh ha) upd_same
    exact q _ F2 _ g3 (.lst (.inl (.inl e)) (dpAll_mono s p))⟩
/-! ### calls of defs that change nothing -/
def Fp (K : PySem.W.Frag) {α : Type} (pre : α → Prop) (args : α → List Pd) (res : α → PyData) : Sp := fun vs H Q _ => ∃ x, pre x ∧ AOk (args x) H vs ∧ ∀ v H', Same H H' → Nw K H H' v (res x) → Q v H'
theorem gr_call {F H H' : Hp} (i : Same F H) (s : Same H H') : Gr F H F H' := ⟨Same.refl _, s, i.trans s, fun _ _ _ _ e => e, fun _ _ e _ => e⟩
theorem ev_call {α : Type} {pre : α → Prop} {args : α → List Pd} {res : α → PyData} {tr : TA} {E : XK} (x : α) (hp : pre x) (h : EvA B F0 ρ tr (args x)) : Ev B F0 ρ (tCall (Fp K pre args res) [] E tr) (nwd K B (res x)) := fun F H σ k Q q =>
  h F H σ k _ fun vs F1 H1 g1 p => ⟨x, hp, by rw [List.append_nil]; exact p, fun v H2 s n => by
    obtain ⟨F2, g2, _, n2⟩ := nw_fix (B := B) (k.go g1).gr.h n F1 (gr_call g1.i s)
    exact q v F2 H2 (g1.trans g2) n2⟩
theorem evm_call {α : Type} {pre : α → Prop} {args : α → List Pd} {res : α → PyData} {tr : TA} {E : XK} (x : α) (hp : pre x) (h : EvA B F0 ρ tr (args x)) (e : res x = .list ds) (fl : flatDs ds = true) : EvM K B F0 ρ (tCall (Fp K pre args res) [] E tr) ds := fun F H σ k Q q =>
  h F H σ k _ fun vs F1 H1 g1 p => ⟨x, hp, by rw [List.append_nil]; exact p, fun v H2 s n => by
    rw [e] at n
    cases n with
    | @lst l xs _ h1 h2 h3 =>
      have g0 := gr_call g1.i s
      have n1 : F1 l = none := g1.i.free h1
      obtain ⟨F2, g2, _, n2⟩ := dpAll_prom (B := B) (nwAll_dp h3) fl F1 (Gr.refl g0.i)
      exact q l xs F2 H2 (g1.trans (g0.trans g2)) (g2.n l _ h2 rfl n1) (g1.fresh h1) h2 n2⟩
theorem ev_meth {α : Type} {C : Addr} {m : Str} {pre : α → Prop} {args : α → List Pd} {res : α → PyData} {tr : TA} {fs : List Pd} {E : XK} (x : α) (hp : pre x) (ha : EvH B F0 ρ ta f) (st : Stab f)
    (hi : ∀ H v, f H v → ∃ a dx fl, v = .ref a ∧ H a = some (.ins C dx fl) ∧ fl.lookup m = none) (h : EvA B F0 ρ tr fs) (e : args x = f :: fs) : Ev B F0 ρ (tMeth C m (Fp K pre args res) [] E ta tr) (nwd K B (res x)) := fun F H σ k Q q =>
  ha F H σ k _ fun v F1 H1 g1 p => by
    obtain ⟨a, dx, fl, rfl, h1, h2⟩ := hi _ _ p
    refine ⟨a, dx, fl, rfl, h1, h2, h F1 H1 σ (k.go g1) _ fun vs F2 H2 g2 p2 => ?_⟩
    refine ⟨x, hp, ?_, fun v H3 s n => ?_⟩
    · rw [e, List.append_nil]
      exact ⟨_, _, rfl, st _ _ _ g2.h p, p2⟩
    · have g := g1.trans g2
      obtain ⟨F3, g3, _, n3⟩ := nw_fix (B := B) (k.go g).gr.h n F2 (gr_call g2.i s)
      exact q v F3 H3 (g.trans g3) n3
/-! ### built-in calls -/
theorem ev_cb {r : List V → Hp → VK → Prop} {tr : TA} {fs : List Pd} {z : V} (h : EvA B F0 ρ tr fs) (nz : ∀ F, f F z) (hr : ∀ H vs, AOk fs H vs → ∀ Q : VK, Q z H → r vs H Q) : Ev B F0 ρ (tCB r tr) f := fun F H σ k Q q =>
  h F H σ k _ fun vs F1 H1 g1 p => hr H1 vs p Q (q z F1 H1 g1 (nz F1))
/-- .. that make a new list -/
theorem evm_cb {r : List V → Hp → VK → Prop} {tr : TA} {fs : List Pd} {R : List V → Prop} (h : EvA B F0 ρ tr fs) (hR : ∀ F xs, R xs → NwAll K B F xs ds)
    (hr : ∀ H vs, AOk fs H vs → ∀ Q : VK, (∀ p xs, H p = none → R xs → Q (.ref p) (upd H p (.lst xs))) → r vs H Q) : EvM K B F0 ρ (tCB r tr) ds := fun F H σ k Q q =>
  h F H σ k _ fun vs F1 H1 g1 p => hr H1 vs p Q fun a xs ha hx => q a xs F1 _ (g1.trans (Gr.new g1.i ha)) (g1.i.free ha) (g1.fresh ha) upd_same (hR F1 xs hx)

/-! ### what changes an owned thing on the way -/
def EvX (B F0 : Hp) (ρ : List Sl) (te : TE) (ρ' : List Sl) (f : Pd) : Prop := ∀ F H σ, Cfg B F0 F H σ ρ → ∀ Q : VK, (∀ v F' H', Cfg B F0 F' H' σ ρ' → f F' v → Q v H') → te σ H Q
theorem Ev.x (h : Ev B F0 ρ te f) : EvX B F0 ρ te ρ f := fun F H σ k Q q => h F H σ k Q fun v F' H' g p => q v F' H' (k.go g) p

/-! ### statements -/
def At (B F0 : Hp) (N : St → Hp → Prop) (ρ : List Sl) : Prop := ∀ F H σ, Cfg B F0 F H σ ρ → N σ H
def Only (is : List Nat) (σ σ' : St) : Prop := σ'.length = σ.length ∧ ∀ j, j ∉ is → σ'[j]? = σ[j]?
def Bind (B F0 : Hp) (g : TG) (is : List Nat) (f : Pd) (ρ ρ' : List Sl) : Prop := ∀ F H σ x, Cfg B F0 F H σ ρ → f F x → ∀ Q : St → Hp → Prop, (∀ σ', Cfg B F0 F H σ' ρ' → Only is σ σ' → Q σ' H) → g x σ H Q
def BindL (K : PySem.W.Frag) (B F0 : Hp) (g : TGs) (is : List Nat) (ds : List PyData) (ρ ρ' : List Sl) : Prop := ∀ F H σ xs, Cfg B F0 F H σ ρ → NwAll K B F xs ds → ∀ Q : St → Hp → Prop, (∀ σ', Cfg B F0 F H σ' ρ' → Only is σ σ' → Q σ' H) → g xs σ H Q
theorem bind_name {i : Nat} (st : Stab f) : Bind B F0 (gName i) [i] f ρ (ρ.set i (.fz f)) := fun F H σ x k p Q q =>
  q _ (k.setF st p) ⟨by simp, fun j hj => by rw [List.getElem?_set_ne (fun e => hj (by rw [e]; exact List.mem_singleton.mpr rfl))]⟩
theorem bindl_nil : BindL K B F0 gNil [] [] ρ ρ := fun F H σ xs k p Q q => by
  cases p
  exact ⟨rfl, q σ k ⟨rfl, fun _ _ => rfl⟩⟩
theorem bindl_cons {g : TG} {gs : TGs} {is js : List Nat} (h1 : Bind B F0 g is (nwd K B d) ρ ρ1) (h2 : BindL K B F0 gs js ds ρ1 ρ2) : BindL K B F0 (gCons g gs) (is ++ js) (d :: ds) ρ ρ2 := fun F H σ xs k p Q q => by
  cases p with
  | @cons v vs _ _ p1 p2 =>
    refine ⟨v, vs, rfl, h1 F H σ v k p1 _ fun σ1 k1 o1 => h2 F H σ1 vs k1 p2 _ fun σ2 k2 o2 => q σ2 k2 ⟨o2.1.trans o1.1, fun j hj => ?_⟩⟩
    rw [o2.2 j fun z => hj (List.mem_append.mpr (.inr z)), o1.2 j fun z => hj (List.mem_append.mpr (.inl z))]
theorem bind_tup {gs : TGs} {is : List Nat} {n : Nat} (h : BindL K B F0 gs is ds ρ ρ1) (hl : ds.length = n) : Bind B F0 (gTup K n gs) is (nwd K B (.tuple ds)) ρ ρ1 := fun F H σ x k p Q q => by
  cases p with
  | @tup a xs _ h1 h2 => exact ⟨a, xs, rfl, sqt_mono k.i h1, by rw [nwAll_len h2]; exact hl, h F H σ xs k h2 Q q⟩
variable {D : Ends} {N : St → Hp → Prop}
theorem at_asg {g : TG} {is : List Nat} (h : EvX B F0 ρ te ρ1 f) (b : Bind B F0 g is f ρ1 ρ2) (k : At B F0 D.nx ρ2) : At B F0 (tAsg te g D) ρ := fun F H σ c =>
  h F H σ c _ fun v F' H' c' p => b F' H' σ v c' p _ fun σ' c2 _ => k F' H' σ' c2
theorem at_set {i : Nat} (h : Ev B F0 ρ te (nwd K B d)) (k : At B F0 D.nx (ρ.set i (sn K B d))) : At B F0 (tAsg te (gName i) D) ρ := at_asg h.x (bind_name st_nwd) k
theorem at_setD {i : Nat} (h : Ev B F0 ρ te (dat K d)) (k : At B F0 D.nx (ρ.set i (sa K d))) : At B F0 (tAsg te (gName i) D) ρ := at_asg h.x (bind_name st_dat) k
theorem at_setF {i : Nat} (st : Stab f) (h : Ev B F0 ρ te f) (k : At B F0 D.nx (ρ.set i (.fz f))) : At B F0 (tAsg te (gName i) D) ρ := at_asg h.x (bind_name st) k
theorem at_setM {i : Nat} (h : EvM K B F0 ρ te ds) (k : At B F0 D.nx (ρ.set i (ml K B ds))) : At B F0 (tAsg te (gName i) D) ρ := fun F H σ c =>
  h F H σ c _ fun l xs F' H' g hf hn hl a => k F' H' _ (c.setN (as := [l]) st_ml g ⟨l, xs, rfl, rfl, hl, a⟩ fun b hb => by
    rw [List.mem_singleton.mp hb]
    exact ⟨hf, hn, _, hl, rfl⟩)
theorem at_setK {i : Nat} (k : At B F0 D.nx (ρ.set i (md K B []))) : At B F0 (tAsg tDNewK (gName i) D) ρ := fun F H σ c p hp =>
  k F _ _ (c.setN (as := [p]) (m := mdP K B []) st_md (Gr.new c.i hp) ⟨p, [], rfl, rfl, upd_same, .nil⟩ fun b hb => by
    rw [List.mem_singleton.mp hb]
    exact ⟨c.i.free hp, hp, _, upd_same, rfl⟩)
theorem at_drop (h : EvX B F0 ρ te ρ1 f) (k : At B F0 D.nx ρ1) : At B F0 (tDrop te D) ρ := fun F H σ c => h F H σ c _ fun v F' H' c' _ => k F' H' σ c'
theorem at_if {c : Bool} {ts us : TS} (h : EvT B F0 ρ t c) (h1 : c = true → At B F0 (ts D) ρ) (h2 : c = false → At B F0 (us D) ρ) : At B F0 (tIfS t ts us D) ρ := fun F H σ k => h F H σ k _ fun F' H' g => by
  cases c with
  | true => exact iteT (h1 rfl F' H' σ (k.go g))
  | false => exact iteF (h2 rfl F' H' σ (k.go g))
theorem at_seq {ts us : TS} (h : At B F0 (ts { D with nx := us D }) ρ) : At B F0 (tSeq ts us D) ρ := h
theorem at_nx (h : At B F0 D.nx ρ) : At B F0 (tNext D) ρ := h
theorem at_ret (h : Ev B F0 ρ te (nwd K B d)) (k : ∀ v H', Same B H' → Nw K B H' v d → D.rt v H') : At B F0 (tRet te D) ρ := fun F H σ c =>
  h F H σ c _ fun v F' H' g p => k v H' (c.go g).gr.h (nw_mono (Same.refl _) g.i p)
/-- an owned list is handed back -/
theorem at_retL {i : Nat} (h : ρ[i]? = some (ml K B ds)) (k : ∀ v H', Same B H' → Nw K B H' v (.list ds) → D.rt v H') : At B F0 (tRet (tVar i) D) ρ := fun F H σ c => by
  obtain ⟨w, o⟩ := c.own
  obtain ⟨_, v, h1, l, xs, rfl, h3, h4, h5⟩ := o.sl i _ h
  obtain ⟨_, hb, _⟩ := o.at_ i l (by rw [h3]; exact List.mem_singleton.mpr rfl)
  exact ⟨_, h1, k _ H c.gr.h (.lst hb h4 (nwAll_mono (Same.refl _) c.i h5))⟩
/-! ### loops -/
structure Wk (J : It) (q : PyData → Pd) (F1 : Hp) (ds : List PyData) : Prop where
  goes : ∀ i H, i < ds.length → Same F1 H → J.go i H
  stops : ∀ H, Same F1 H → J.stop ds.length H
  yields : ∀ i F H x H', i < ds.length → Same F1 F → Same F H → J.yld i H x H' → ∃ F' d, Gr F H F' H' ∧ ds[i]? = some d ∧ q d F' x
def EvI (B F0 : Hp) (ρ : List Sl) (wi : TI) (ρ' : List Sl) (q : PyData → Pd) (ds : List PyData) : Prop := ∀ F H σ, Cfg B F0 F H σ ρ → ∀ R : It → Hp → Prop, (∀ J F' H', Cfg B F0 F' H' σ ρ' → Gr F0 B F' H' → Wk J q F' ds → R J H') → wi σ H R
/-- .. where nothing is changed on the way -/
def EvJ (B F0 : Hp) (ρ : List Sl) (wi : TI) (q : PyData → Pd) (ds : List PyData) : Prop := ∀ F H σ, Cfg B F0 F H σ ρ → ∀ R : It → Hp → Prop, (∀ J F' H', Gr F H F' H' → Wk J q F' ds → R J H') → wi σ H R
theorem EvJ.i {wi : TI} {q : PyData → Pd} (h : EvJ B F0 ρ wi q ds) : EvI B F0 ρ wi ρ q ds := fun F H σ c R r => h F H σ c R fun J F' H' g w => r J F' H' (c.go g) (c.go g).gr w
theorem wk_list {a : Addr} {xs : List V} {F1 : Hp} (h : SqL K F1 a xs) (hd : DpAll K F1 xs ds) : Wk (Itl K a) (dat K) F1 ds where
  goes := fun i H hi s => ⟨xs, xs[i]'(by rw [dpAll_len hd]; exact hi), s.seq h, by simp [dpAll_len hd, hi]⟩
  stops := fun H s => ⟨xs, s.seq h, by rw [dpAll_len hd]; exact Nat.le_refl _⟩
  yields := fun i F H x H' hi s1 s2 y => by
    obtain ⟨rfl, y⟩ := y
    obtain ⟨d, h1, h2⟩ := dpAll_getV hd (y xs ((s1.trans s2).seq h))
    exact ⟨F, d, Gr.refl s2, h1, dp_mono s1 h2⟩
theorem wk_listN {a : Addr} {xs : List V} {F1 : Hp} (h : SqL K F1 a xs) (hd : NwAll K B F1 xs ds) : Wk (Itl K a) (nwd K B) F1 ds where
  goes := fun i H hi s => ⟨xs, xs[i]'(by rw [nwAll_len hd]; exact hi), s.seq h, by simp [nwAll_len hd, hi]⟩
  stops := fun H s => ⟨xs, s.seq h, by rw [nwAll_len hd]; exact Nat.le_refl _⟩
  yields := fun i F H x H' hi s1 s2 y => by
    obtain ⟨rfl, y⟩ := y
    obtain ⟨d, h1, h2⟩ := nwAll_getV hd (y xs ((s1.trans s2).seq h))
    exact ⟨F, d, Gr.refl s2, h1, nw_mono (Same.refl _) s1 h2⟩
theorem evi_listD (h : EvX B F0 ρ te ρ1 (dat K (.list ds))) : EvI B F0 ρ (iList K te) ρ1 (dat K) ds := fun F H σ c R r => h F H σ c _ fun v F' H' c' p => by
  cases p with
  | @lst a xs _ h1 h2 => exact ⟨a, rfl, ⟨xs, c'.i.seq h1⟩, r _ F' H' c' c'.gr (wk_list h1 h2)⟩
theorem evi_list (h : EvX B F0 ρ te ρ1 (nwd K B (.list ds))) : EvI B F0 ρ (iList K te) ρ1 (nwd K B) ds := fun F H σ c R r => h F H σ c _ fun v F' H' c' p => by
  cases p with
  | @lst a xs _ _ h1 h2 => exact ⟨a, rfl, ⟨xs, .inl (.inl (c'.i _ _ h1))⟩, r _ F' H' c' c'.gr (wk_listN (.inl (.inl h1)) h2)⟩
theorem evj_listD (h : Ev B F0 ρ te (dat K (.list ds))) : EvJ B F0 ρ (iList K te) (dat K) ds := fun F H σ c R r => h F H σ c _ fun v F' H' g p => by
  cases p with
  | @lst a xs _ h1 h2 => exact ⟨a, rfl, ⟨xs, g.i.seq h1⟩, r _ F' H' g (wk_list h1 h2)⟩
theorem evj_list (h : Ev B F0 ρ te (nwd K B (.list ds))) : EvJ B F0 ρ (iList K te) (nwd K B) ds := fun F H σ c R r => h F H σ c _ fun v F' H' g p => by
  cases p with
  | @lst a xs _ _ h1 h2 => exact ⟨a, rfl, ⟨xs, .inl (.inl (g.i _ _ h1))⟩, r _ F' H' g (wk_listN (.inl (.inl h1)) h2)⟩
/-- .. an argument's list without lists within -/
theorem evj_listF (h : Ev B F0 ρ te (dat K (.list ds))) (fl : flatDs ds = true) : EvJ B F0 ρ (iList K te) (nwd K B) ds := fun F H σ c R r => h F H σ c _ fun v F' H' g p => by
  cases p with
  | @lst a xs _ h1 h2 => exact ⟨a, rfl, ⟨xs, g.i.seq h1⟩, r _ F' H' g (wk_listN h1 (dpAll_nw h2 fl))⟩
def rangeD (lo : Int) (n : Nat) : List PyData := (List.range n).map fun i : Nat => .int (lo + (i : Int))
theorem rangeD_get {lo : Int} {n i : Nat} (h : i < n) : (rangeD lo n)[i]? = some (.int (lo + (i : Int))) := by
  unfold rangeD
  rw [List.getElem?_map, List.getElem?_range h]
  rfl
theorem wk_range {lo : Int} {n : Nat} {F1 : Hp} : Wk (Itr lo n) (nwd K B) F1 (rangeD lo n) where
  goes := fun i H hi s => by
    have h2 : i < n := by simpa [rangeD] using hi
    exact h2
  stops := fun H s => by simp [rangeD, Itr]
  yields := fun i F H x H' hi s1 s2 y => by
    obtain ⟨rfl, rfl⟩ := y
    exact ⟨F, _, Gr.refl s2, rangeD_get (by simpa [rangeD] using hi), .int _⟩
theorem evj_range1 {tr : TA} {n : Int} (h : EvA B F0 ρ tr [dat K (.int n)]) (h1 : -1000000 ≤ n ∧ n ≤ 1000000) : EvJ B F0 ρ (iRng1 tr) (nwd K B) (rangeD 0 n.toNat) := fun F H σ c R r => h F H σ c _ fun vs F' H' g p => by
  obtain ⟨v, t, rfl, p1, rfl⟩ := p
  cases p1
  exact ⟨n, rfl, by omega, by omega, r _ F' H' g wk_range⟩
theorem evj_range2 {tr : TA} {lo n : Int} (h : EvA B F0 ρ tr [dat K (.int lo), dat K (.int n)]) (h1 : -1000000 ≤ lo ∧ lo ≤ 1000000 ∧ -1000000 ≤ n ∧ n ≤ 1000000) : EvJ B F0 ρ (iRng2 tr) (nwd K B) (rangeD lo (n - lo).toNat) := fun F H σ c R r => h F H σ c _ fun vs F' H' g p => by
  obtain ⟨v, t, rfl, p1, v2, t2, rfl, p2, rfl⟩ := p
  cases p1; cases p2
  exact ⟨lo, n, rfl, ⟨by omega, by omega, by omega, by omega⟩, r _ F' H' g wk_range⟩
/-- enumerate(list): new pairs -/
def enumD (ds : List PyData) : List PyData := ds.zipIdx.map fun p => .tuple [.int (p.2 : Int), p.1]
theorem enumD_get {i : Nat} {d : PyData} (h : ds[i]? = some d) : (enumD ds)[i]? = some (.tuple [.int (i : Int), d]) := by
  unfold enumD
  rw [List.getElem?_map, List.getElem?_zipIdx, h]
  simp
theorem enumD_len : (enumD ds).length = ds.length := by simp [enumD]
theorem wk_enum {a : Addr} {xs : List V} {F1 : Hp} (h : SqL K F1 a xs) (hd : NwAll K B F1 xs ds) : Wk (Ite K a) (nwd K B) F1 (enumD ds) where
  goes := fun i H hi s => by
    rw [enumD_len] at hi
    exact ⟨xs, xs[i]'(by rw [nwAll_len hd]; exact hi), s.seq h, by simp [nwAll_len hd, hi]⟩
  stops := fun H s => ⟨xs, s.seq h, by rw [nwAll_len hd, enumD_len]; exact Nat.le_refl _⟩
  yields := fun i F H x H' hi s1 s2 y => by
    obtain ⟨T, z, rfl, h1, rfl, y⟩ := y
    obtain ⟨d, h3, h4⟩ := nwAll_getV hd (y xs ((s1.trans s2).seq h))
    obtain ⟨F2, g2, s, e⟩ := (Gr.new (o := .tup [.int (i : Nat), z]) s2 h1).putT rfl upd_same
    exact ⟨F2, _, g2, enumD_get h3, .tup (.inl (.inl e)) (.cons (.int _) (.cons (nw_mono (Same.refl _) (s1.trans s) h4) .nil))⟩
theorem evj_enum {tr : TA} (h : ∀ F H σ, Cfg B F0 F H σ ρ → ∀ Q : List V → Hp → Prop, (∀ v F' H', Gr F H F' H' → Nw K B F' v (.list ds) → Q [v] H') → tr σ H Q) : EvJ B F0 ρ (iEnum K tr) (nwd K B) (enumD ds) := fun F H σ c R r => h F H σ c _ fun v F' H' g p => by
  cases p with
  | @lst a xs _ _ h1 h2 => exact ⟨a, xs, rfl, .inl (.inl (g.i _ _ h1)), r _ F' H' g (wk_enum (.inl (.inl h1)) h2)⟩
theorem evj_enumF {tr : TA} (h : ∀ F H σ, Cfg B F0 F H σ ρ → ∀ Q : List V → Hp → Prop, (∀ v F' H', Gr F H F' H' → Dp K F' v (.list ds) → Q [v] H') → tr σ H Q) (fl : flatDs ds = true) : EvJ B F0 ρ (iEnum K tr) (nwd K B) (enumD ds) := fun F H σ c R r => h F H σ c _ fun v F' H' g p => by
  cases p with
  | @lst a xs _ h1 h2 => exact ⟨a, xs, rfl, g.i.seq h1, r _ F' H' g (wk_enum h1 (dpAll_nw h2 fl))⟩
theorem ea_one (h : Ev B F0 ρ te f) : ∀ F H σ, Cfg B F0 F H σ ρ → ∀ Q : List V → Hp → Prop, (∀ v F' H', Gr F H F' H' → f F' v → Q [v] H') → (tCons te tNil) σ H Q := fun F H σ c Q q => h F H σ c _ fun v F' H' g p => q v F' H' g p
/-! the rules for loops -/
def Lp (B F1 : Hp) {α : Type} (Inv : List α → List Sl → Prop) (pre : List α) (σ : St) (H : Hp) : Prop := ∃ F ρ', Cfg B F1 F H σ ρ' ∧ Inv pre ρ'
theorem at_lp {α : Type} {Inv : List α → List Sl → Prop} {pre : List α} (h : Inv pre ρ) : At B F0 (Lp B F0 Inv pre) ρ := fun F H σ c => ⟨F, ρ, c, h⟩
theorem Cfg.up {F1 F H : Hp} {σ : St} (g : Gr F0 B F1 H) (c : Cfg B F1 F H σ ρ) : Cfg B F0 F H σ ρ := ⟨⟨g.f.trans c.gr.f, c.gr.h, c.gr.i, fun a o h t e => c.gr.n a o h t (g.n a o h t e), fun a o e t => g.t a o (c.gr.t a o e t) t⟩, c.len, c.own⟩
theorem at_for {α : Type} {xs : List α} {e : α → PyData} {q : PyData → Pd} {wi : TI} {g : TG} {tb : TS} (hw : EvI B F0 ρ wi ρ1 q (xs.map e)) (Inv : List α → List Sl → Prop) (h0 : Inv [] ρ1)
    (hs : ∀ F1 pre x post ρ', xs = pre ++ x :: post → Inv pre ρ' → ∃ is ρ2, Bind B F1 g is (q (e x)) ρ' ρ2 ∧ At B F1 (tb { D with nx := Lp B F1 Inv (pre ++ [x]), ct := Lp B F1 Inv (pre ++ [x]), bk := D.nx }) ρ2)
    (hd : ∀ ρ', Inv xs ρ' → At B F0 D.nx ρ') : At B F0 (tFor wi g tb D) ρ := fun F H σ c => by
  refine hw F H σ c _ fun J F1 H1 c1 g1 w => ?_
  have up0 : ∀ a o, B a = some o → isTup o = false → F0 a = none → F1 a = none := c1.gr.n
  have upc : ∀ {F H : Hp} {σ : St} {ρ : List Sl}, Cfg B F1 F H σ ρ → Cfg B F0 F H σ ρ := fun {F H σ ρ} c =>
    ⟨⟨c1.gr.f.trans c.gr.f, c.gr.h, c.gr.i, fun a o h t e => c.gr.n a o h t (up0 a o h t e), fun a o e t => c1.gr.t a o (c.gr.t a o e t) t⟩, c.len, c.own⟩
  refine ⟨fun i m σ H => m = xs.length - i ∧ i ≤ xs.length ∧ Lp B F1 Inv (xs.take i) σ H, ⟨xs.length, by simp, Nat.zero_le _, F1, ρ1, ?_, by simpa using h0⟩, ?_⟩
  · exact ⟨⟨Same.refl _, c1.gr.h, c1.gr.i, fun a o h t e => e, fun _ _ e _ => e⟩, c1.len, c1.own⟩
  · rintro i m σ' H' ⟨rfl, hi, F', ρ', c', inv⟩
    have sF : Same F1 H' := c'.gr.f.trans c'.gr.i
    by_cases hlt : i < xs.length
    · have hl : i < (xs.map e).length := by simpa using hlt
      refine .inr ⟨w.goes i H' hl sF, Lp B F1 Inv (xs.take (i + 1)), fun σ2 H2 l2 => ⟨xs.length - (i + 1), by omega, rfl, hlt, l2⟩, fun x H2 y => ?_⟩
      obtain ⟨F2, d, g2, hd2, p2⟩ := w.yields i F' H' x H2 hl c'.gr.f c'.i y
      have ex : xs = xs.take i ++ xs[i] :: xs.drop (i + 1) := by
        rw [List.getElem_cons_drop, List.take_append_drop]
      have ed : d = e xs[i] := by
        rw [List.getElem?_map, List.getElem?_eq_getElem hlt] at hd2
        exact (Option.some.inj hd2).symm
      subst ed
      obtain ⟨is, ρ2, b2, k2⟩ := hs F1 (xs.take i) xs[i] (xs.drop (i + 1)) ρ' ex inv
      have et : xs.take (i + 1) = xs.take i ++ [xs[i]] := by
        rw [List.take_succ, List.getElem?_eq_getElem hlt]; rfl
      rw [et]
      exact b2 F2 H2 σ' x (c'.go g2) p2 _ fun σ3 c3 _ => k2 F2 H2 σ3 c3
    · have ei : i = xs.length := by omega
      subst ei
      rw [List.take_length] at inv
      exact .inl ⟨by have := w.stops H' sF; simpa using this, hd ρ' inv F' H' σ' (upc c')⟩
def Lw (B F0 : Hp) (Inv : Nat → List Sl → Prop) (m : Nat) (σ : St) (H : Hp) : Prop := ∃ m', m' < m ∧ ∃ F ρ', Cfg B F0 F H σ ρ' ∧ Inv m' ρ'
theorem at_lw {Inv : Nat → List Sl → Prop} {m m' : Nat} (h : Inv m' ρ) (hm : m' < m) : At B F0 (Lw B F0 Inv m) ρ := fun F H σ c => ⟨m', hm, F, ρ, c, h⟩
theorem at_while {tb : TS} (Inv : Nat → List Sl → Prop) (m0 : Nat) (h0 : Inv m0 ρ)
    (hs : ∀ m ρ', Inv m ρ' → ∃ c, EvT B F0 ρ' t c ∧ (c = true → At B F0 (tb { D with nx := Lw B F0 Inv m, ct := Lw B F0 Inv m, bk := D.nx }) ρ') ∧ (c = false → At B F0 D.nx ρ')) : At B F0 (tWhile t tb D) ρ := fun F H σ c => by
  refine ⟨fun m σ H => ∃ F ρ', Cfg B F0 F H σ ρ' ∧ Inv m ρ', ⟨m0, F, ρ, c, h0⟩, ?_⟩
  rintro m σ' H' ⟨F', ρ', c', inv⟩
  obtain ⟨k, e1, e2, e3⟩ := hs m ρ' inv
  refine e1 F' H' σ' c' _ fun F2 H2 g2 => ?_
  cases k with
  | true => exact iteT ⟨Lw B F0 Inv m, fun σ3 H3 l => l, e2 rfl F2 H2 σ' (c'.go g2)⟩
  | false => exact iteF (e3 rfl F2 H2 σ' (c'.go g2))
end
end Lay
namespace Lay
open PySem L2

/-! ### comprehensions -/
def wipeR (ρ : List Sl) : List Nat → List Sl
  | [] => ρ
  | v :: vs => (wipeR ρ vs).set v .no
theorem wipe_get (σ : St) (i : Nat) : ∀ vs : List Nat, (wipe σ vs)[i]? = if i ∈ vs then (if i < σ.length then some none else none) else σ[i]?
  | [] => by simp [wipe]
  | v :: vs => by
    have ih := wipe_get σ i vs
    show ((wipe σ vs).set v none)[i]? = _
    by_cases h : v = i
    · subst h
      by_cases hl : v < σ.length
      · rw [List.getElem?_set_self (by rw [wipe_length]; exact hl)]
        simp [hl]
      · rw [List.getElem?_eq_none (by rw [List.length_set, wipe_length]; omega)]
        simp [hl]
    · rw [List.getElem?_set_ne h, ih]
      have h' : ¬ i = v := fun z => h z.symm
      simp [h']
theorem wipeR_len (ρ : List Sl) : ∀ vs : List Nat, (wipeR ρ vs).length = ρ.length
  | [] => rfl
  | v :: vs => by
    show ((wipeR ρ vs).set v .no).length = _
    rw [List.length_set, wipeR_len]
theorem wipeR_get (ρ : List Sl) (i : Nat) (s : Sl) : ∀ vs : List Nat, (wipeR ρ vs)[i]? = some s → s = Sl.no ∨ (i ∉ vs ∧ ρ[i]? = some s)
  | [], h => .inr ⟨by simp, h⟩
  | v :: vs, h => by
    have h : ((wipeR ρ vs).set v .no)[i]? = some s := h
    by_cases e : v = i
    · subst e
      by_cases hl : v < (wipeR ρ vs).length
      · rw [List.getElem?_set_self hl] at h
        exact .inl (Option.some.inj h).symm
      · rw [List.getElem?_eq_none (by rw [List.length_set]; omega)] at h
        cases h
    · rw [List.getElem?_set_ne e] at h
      rcases wipeR_get ρ i s vs h with z | ⟨z1, z2⟩
      · exact .inl z
      · exact .inr ⟨by simp only [List.mem_cons, not_or]; exact ⟨fun q => e q.symm, z1⟩, z2⟩
theorem Cfg.wipe {B F0 F H : Hp} {σ : St} {ρ : List Sl} (c : Cfg B F0 F H σ ρ) (vs : List Nat) : Cfg B F0 F H (wipe σ vs) (wipeR ρ vs) :=
  c.less (by rw [wipe_length, wipeR_len, c.len]) fun i s h => by
    rcases wipeR_get ρ i s vs h with z | ⟨z1, z2⟩
    · exact .inl z
    · exact .inr ⟨z2, by rw [wipe_get, if_neg z1]⟩
theorem wipe_only {σ σ' : St} {is vs : List Nat} (o : Only is (wipe σ vs) σ') (h : ∀ j ∈ is, j ∈ vs) : wipe σ' vs = wipe σ vs := by
  apply List.ext_getElem?
  intro i
  have l : σ'.length = σ.length := by rw [o.1, wipe_length]
  rw [wipe_get, wipe_get, l]
  by_cases hi : i ∈ vs
  · rw [if_pos hi, if_pos hi]
  · rw [if_neg hi, if_neg hi, o.2 i fun z => hi (h i z), wipe_get, if_neg hi]

section
variable {K : PySem.W.Frag} {B F0 : Hp} {ρ ρ1 ρ2 : List Sl} {te ta tb tc : TE} {t u : TT} {f g : Pd} {d e : PyData} {ds es : List PyData}
theorem evm_lc {α : Type} {xs : List α} {e : α → PyData} {q : PyData → Pd} {wi : TI} {g : TG} {tt : TT} {vs : List Nat} (p : α → Bool) (f : α → PyData) (hw : EvJ B F0 ρ wi q (xs.map e))
    (hb : ∀ F1 x, x ∈ xs → ∃ is ρ2, Bind B F1 g is (q (e x)) (wipeR ρ vs) ρ2 ∧ (∀ j ∈ is, j ∈ vs) ∧ EvT B F1 ρ2 tt (p x) ∧ (p x = true → Ev B F1 ρ2 te (nwd K B (f x)))) (hz : xs.length ≤ 100000) :
    EvM K B F0 ρ (tLc wi g tt te vs) ((xs.filter p).map f) := fun F H σ c Q k => by
  refine hw F H σ c _ fun J F1 H1 g1 w D hD => ?_
  have c1 := c.go g1
  -- at turn i: what stands still is F', the new list at D holds what is made so far
  refine ⟨fun i m H' => m = xs.length - i ∧ i ≤ xs.length ∧ ∃ F' acc, Gr F1 H1 F' H' ∧ F' D = none ∧ H' D = some (.lst acc) ∧ NwAll K B F' acc (((xs.take i).filter p).map f),
    ⟨xs.length, by simp, Nat.zero_le _, F1, [], Gr.new g1.i hD, g1.i.free hD, upd_same, by simpa using NwAll.nil⟩, ?_⟩
  rintro i m H' ⟨rfl, hi, F', acc, g', fD, hD', na⟩
  have sF : Same F1 H' := g'.f.trans g'.i
  by_cases hlt : i < xs.length
  · have hl : i < (xs.map e).length := by simpa using hlt
    have et : xs.take (i + 1) = xs.take i ++ [xs[i]] := by
      rw [List.take_succ, List.getElem?_eq_getElem hlt]; rfl
    refine .inr ⟨w.goes i H' hl sF, fun H2 => ∃ F' acc, Gr F1 H1 F' H2 ∧ F' D = none ∧ H2 D = some (.lst acc) ∧ NwAll K B F' acc (((xs.take (i + 1)).filter p).map f), fun H2 l2 => ⟨xs.length - (i + 1), by omega, rfl, hlt, l2⟩, fun x H2 y => ?_⟩
    obtain ⟨F2, d, g2, hd2, p2⟩ := w.yields i F' H' x H2 hl g'.f g'.i y
    have ed : d = e xs[i] := by
      rw [List.getElem?_map, List.getElem?_eq_getElem hlt] at hd2
      exact (Option.some.inj hd2).symm
    subst ed
    obtain ⟨is, ρ2, b2, hj, t2, e2⟩ := hb F1 xs[i] (List.getElem_mem hlt)
    have cw : Cfg B F1 F2 H2 (wipe σ vs) (wipeR ρ vs) := by
      have c2 := (c.go (g1.trans (g'.trans g2))).wipe vs
      exact ⟨⟨g'.f.trans g2.f, c2.gr.h, c2.gr.i, fun a o h t z => (g'.trans g2).n a o (c1.gr.h a o h) t z, (g'.trans g2).t⟩, c2.len, c2.own⟩
    refine b2 F2 H2 (wipe σ vs) x cw p2 _ fun σ3 c3 o3 => ⟨wipe_only o3 hj, t2 F2 H2 σ3 c3 _ fun F3 H3 g3 => ?_⟩
    have hD3 : H3 D = some (.lst acc) := g3.h _ _ (g2.h _ _ hD')
    have fD3 : F3 D = none := g3.n D _ (g2.h _ _ hD') rfl (g2.n D _ hD' rfl fD)
    have gg : Gr F1 H1 F3 H3 := g'.trans (g2.trans g3)
    cases hp : p xs[i] with
    | false =>
      refine iteF ⟨F3, acc, gg, fD3, hD3, ?_⟩
      rw [et, List.filter_append, List.map_append]
      have : ([xs[i]].filter p).map f = [] := by simp [hp]
      rw [this, List.append_nil]
      exact nwAll_mono (Same.refl _) (g2.f.trans g3.f) na
    | true =>
      refine iteT (e2 hp F3 H3 σ3 (c3.go g3) _ fun v F4 H4 g4 p4 => ⟨acc, g4.h _ _ hD3, ?_, F4, acc ++ [v], ?_, g4.n D _ hD3 rfl fD3, upd_same, ?_⟩)
      · refine sz_lt ?_
        rw [nwAll_len na, List.length_map]
        have h1 : ((xs.take i).filter p).length ≤ (xs.take i).length := List.length_filter_le _ _
        rw [List.length_take] at h1
        omega
      · have g5 : Gr F1 H1 F4 H4 := gg.trans g4
        refine ⟨g5.f, fun a o h => ?_, fun a o h => ?_, g5.n, g5.t⟩
        · rw [upd_ne (ne_of_none h hD)]; exact g5.h a o h
        · have : a ≠ D := ne_of_none h (g4.n D _ hD3 rfl fD3)
          rw [upd_ne this]; exact g5.i a o h
      · rw [et, List.filter_append, List.map_append]
        have : ([xs[i]].filter p).map f = [f xs[i]] := by simp [hp]
        rw [this]
        exact nwAll_app (nwAll_mono (Same.refl _) ((g2.f.trans g3.f).trans g4.f) na) (.cons p4 .nil)
  · have ei : i = xs.length := by omega
    subst ei
    rw [List.take_length] at na
    refine .inl ⟨by have := w.stops H' sF; simpa using this, k D acc F' H' (g1.trans g') fD (g1.fresh hD) hD' na⟩
/-- without a test -/
theorem evm_lc1 {α : Type} {xs : List α} {e : α → PyData} {q : PyData → Pd} {wi : TI} {g : TG} {vs : List Nat} (f : α → PyData) (hw : EvJ B F0 ρ wi q (xs.map e))
    (hb : ∀ F1 x, x ∈ xs → ∃ is ρ2, Bind B F1 g is (q (e x)) (wipeR ρ vs) ρ2 ∧ (∀ j ∈ is, j ∈ vs) ∧ Ev B F1 ρ2 te (nwd K B (f x))) (hz : xs.length ≤ 100000) :
    EvM K B F0 ρ (tLc wi g tYes te vs) (xs.map f) := by
  have h := evm_lc (K := K) (B := B) (F0 := F0) (ρ := ρ) (te := te) (wi := wi) (g := g) (tt := tYes) (vs := vs) (fun _ : α => true) f hw (fun F1 x hx => by
    obtain ⟨is, ρ2, h1, h2, h3⟩ := hb F1 x hx
    exact ⟨is, ρ2, h1, h2, fun F H σ c Q q => q F H (Gr.refl c.i), fun _ => h3⟩) hz
  have e2 : xs.filter (fun _ => true) = xs := List.filter_eq_self.mpr fun _ _ => rfl
  rw [e2] at h
  exact h

/-! ### owned lists and dicts changed -/
theorem evx_append {i : Nat} (hi : ρ[i]? = some (ml K B ds)) (h : Ev B F0 ρ te (nwd K B d)) (hz : ds.length < 100000) :
    EvX B F0 ρ (tBM K "list" rAppend (tVar i) (tCons te tNil)) (ρ.set i (ml K B (ds ++ [d]))) (nwd K B .none) := fun F H σ c Q q => by
  obtain ⟨w, o⟩ := c.own
  obtain ⟨_, v, h1, l, xs, rfl, h3, h4, h5⟩ := o.sl i _ hi
  refine ⟨_, h1, .inl ⟨rfl, _, SqL.of h4⟩, h F H σ c _ fun y F2 H2 g p => ⟨l, xs, y, rfl, rfl, g.h _ _ h4, sz_lt (by rw [nwAll_len h5]; exact hz), ?_⟩⟩
  refine q _ F2 _ ((c.go g).chg hi st_ml fun v' as e m n => ?_) .non
  obtain ⟨l', xs', rfl, rfl, e4, e5⟩ := m
  rw [h1] at e
  cases e
  rw [g.h _ _ h4] at e4
  cases e4
  refine ⟨⟨l, xs ++ [y], rfl, rfl, upd_same, nwAll_app e5 (.cons p .nil)⟩, fun a ha => upd_ne fun z => ha (by rw [z]; exact List.mem_singleton.mpr rfl), fun a ha => ?_⟩
  rw [List.mem_singleton.mp ha]
  exact ⟨_, upd_same, rfl⟩
theorem evx_extend {i : Nat} (hi : ρ[i]? = some (ml K B ds)) (h : Ev B F0 ρ te (nwd K B (.list es))) (hz : ds.length + es.length ≤ 100000) :
    EvX B F0 ρ (tBM K "list" rExtend (tVar i) (tCons te tNil)) (ρ.set i (ml K B (ds ++ es))) (nwd K B .none) := fun F H σ c Q q => by
  obtain ⟨w, o⟩ := c.own
  obtain ⟨_, v, h1, l, xs, rfl, h3, h4, h5⟩ := o.sl i _ hi
  refine ⟨_, h1, .inl ⟨rfl, _, SqL.of h4⟩, h F H σ c _ fun y F2 H2 g p => ?_⟩
  cases p with
  | @lst b zs _ _ p1 p2 =>
    refine ⟨l, b, xs, zs, rfl, rfl, g.h _ _ h4, g.i _ _ p1, sz_of (by rw [nwAll_len h5, nwAll_len p2]; exact hz), ?_⟩
    refine q _ F2 _ ((c.go g).chg hi st_ml fun v' as e m n => ?_) .non
    obtain ⟨l', xs', rfl, rfl, e4, e5⟩ := m
    rw [h1] at e
    cases e
    rw [g.h _ _ h4] at e4
    cases e4
    refine ⟨⟨l, xs ++ zs, rfl, rfl, upd_same, nwAll_app e5 p2⟩, fun a ha => upd_ne fun z => ha (by rw [z]; exact List.mem_singleton.mpr rfl), fun a ha => ?_⟩
    rw [List.mem_singleton.mp ha]
    exact ⟨_, upd_same, rfl⟩
theorem nwAll_dropLast {F : Hp} : ∀ {xs : List V} {ds : List PyData}, NwAll K B F xs ds → NwAll K B F xs.dropLast ds.dropLast := fun {xs ds} h => by
  rw [List.dropLast_eq_take, List.dropLast_eq_take, nwAll_len h]
  exact nwAll_take _ h
theorem evx_pop {i : Nat} (hi : ρ[i]? = some (ml K B ds)) (hd : ds[ds.length - 1]? = some d) :
    EvX B F0 ρ (tBM0 K "list" rPop (tVar i)) (ρ.set i (ml K B ds.dropLast)) (nwd K B d) := fun F H σ c Q q => by
  obtain ⟨w, o⟩ := c.own
  obtain ⟨_, v, h1, l, xs, rfl, h3, h4, h5⟩ := o.sl i _ hi
  obtain ⟨y, e1, e2⟩ := nwAll_get h5 hd
  refine ⟨_, h1, .inl ⟨rfl, _, SqL.of h4⟩, l, xs, y, rfl, rfl, h4, by rw [nwAll_len h5]; exact e1, ?_⟩
  refine q y F _ (c.chg hi st_ml fun v' as e m n => ?_) e2
  obtain ⟨l', xs', rfl, rfl, e4, e5⟩ := m
  rw [h1] at e
  cases e
  rw [h4] at e4
  cases e4
  refine ⟨⟨l, xs.dropLast, rfl, rfl, upd_same, nwAll_dropLast e5⟩, fun a ha => upd_ne fun z => ha (by rw [z]; exact List.mem_singleton.mpr rfl), fun a ha => ?_⟩
  rw [List.mem_singleton.mp ha]
  exact ⟨_, upd_same, rfl⟩
theorem evx_clear {i : Nat} (hi : ρ[i]? = some (ml K B ds)) :
    EvX B F0 ρ (tBM0 K "list" rClear (tVar i)) (ρ.set i (ml K B [])) (nwd K B .none) := fun F H σ c Q q => by
  obtain ⟨w, o⟩ := c.own
  obtain ⟨_, v, h1, l, xs, rfl, h3, h4, h5⟩ := o.sl i _ hi
  refine ⟨_, h1, .inl ⟨rfl, _, SqL.of h4⟩, l, xs, rfl, rfl, h4, ?_⟩
  refine q _ F _ (c.chg hi st_ml fun v' as e m n => ?_) .non
  obtain ⟨l', xs', rfl, rfl, e4, e5⟩ := m
  rw [h1] at e
  cases e
  refine ⟨⟨l, [], rfl, rfl, upd_same, .nil⟩, fun a ha => upd_ne fun z => ha (by rw [z]; exact List.mem_singleton.mpr rfl), fun a ha => ?_⟩
  rw [List.mem_singleton.mp ha]
  exact ⟨_, upd_same, rfl⟩
/-- xs[pop()] : the index's own change comes first to none of the parts -/
theorem evx_ixL {i : Int} (ha : Ev B F0 ρ ta (dat K (.list ds))) (hb : EvX B F0 ρ tb ρ1 (nwd K B (.int i))) (e : atI ds i = some d)
    (hk : ∀ F H σ, Cfg B F0 F H σ ρ → ∀ Q : VK, (∀ v F' H', Cfg B F0 F' H' σ ρ1 → Same F F' → Nw K B F' v (.int i) → Q v H') → tb σ H Q) : EvX B F0 ρ (tOp (rIxL K) ta tb) ρ1 (dat K d) := fun F H σ c Q q =>
  ha F H σ c _ fun x F1 H1 g1 p1 => hk F1 H1 σ (c.go g1) _ fun y F2 H2 c2 s2 p2 => by
    cases p2
    cases p1 with
    | lst h1 h2 =>
      obtain ⟨v, h3, h4⟩ := dpAll_atI h2 e
      exact ⟨_, _, i, v, rfl, rfl, c2.i.seq (s2.seq h1), h3, q v F2 H2 c2 (dp_mono s2 h4)⟩
/-! dicts -/
def lookI (kvs : List (Int × PyData)) (k : Int) : Option PyData := (kvs.find? fun p => p.1 == k).map (·.2)
def putI (kvs : List (Int × PyData)) (k : Int) (d : PyData) : List (Int × PyData) := if (kvs.any fun p => p.1 == k) = true then kvs.map (fun p => if p.1 = k then (p.1, d) else p) else kvs ++ [(k, d)]
theorem kv_len {F : Hp} : ∀ {kv : List (Key × V)} {kvs : List (Int × PyData)}, KvAll K B F kv kvs → kv.length = kvs.length
  | _, _, .nil => rfl
  | _, _, .cons _ a => congrArg (· + 1) (kv_len a)
theorem inl_dec (a k : Int) : decide ((Sum.inl a : Key) = Sum.inl k) = (a == k) := by
  by_cases e : a = k
  · subst e; simp
  · have h : ¬ (Sum.inl a : Key) = Sum.inl k := fun q => e (Sum.inl.inj q)
    rw [decide_eq_false h]
    exact (beq_eq_false_iff_ne.mpr e).symm
theorem kv_look {F : Hp} {k : Int} : ∀ {kv : List (Key × V)} {kvs : List (Int × PyData)}, KvAll K B F kv kvs → (lookI kvs k = none ∧ valV kv (Sum.inl k : Key) = none) ∨ ∃ v d, lookI kvs k = some d ∧ valV kv (Sum.inl k : Key) = some v ∧ Nw K B F v d
  | _, _, .nil => .inl ⟨rfl, rfl⟩
  | _, _, .cons (k := k0) (v := v) (d := d) (kv := kv) (kvs := kvs) h a => by
    by_cases e : k0 = k
    · subst e
      exact .inr ⟨v, d, by simp [lookI], valV_pos rfl, h⟩
    · have e1 : lookI ((k0, d) :: kvs) k = lookI kvs k := by
        have : ((k0, d).1 == k) = false := beq_eq_false_iff_ne.mpr e
        unfold lookI
        rw [List.find?_cons, this]
      have e2 : valV ((Sum.inl k0, v) :: kv) (Sum.inl k : Key) = valV kv (Sum.inl k : Key) := valV_neg fun q => e (Sum.inl.inj q)
      rw [e1, e2]
      exact kv_look a
theorem kv_any {F : Hp} {k : Int} : ∀ {kv : List (Key × V)} {kvs : List (Int × PyData)}, KvAll K B F kv kvs → (kv.any fun p => decide (p.1 = (Sum.inl k : Key))) = (kvs.any fun p => p.1 == k)
  | _, _, .nil => rfl
  | _, _, .cons (k := k0) h a => by
    rw [List.any_cons, List.any_cons, kv_any a, inl_dec]
theorem kv_map {F : Hp} {k : Int} {v : V} (h : Nw K B F v d) : ∀ {kv : List (Key × V)} {kvs : List (Int × PyData)}, KvAll K B F kv kvs → KvAll K B F (kv.map fun p => if p.1 = (Sum.inl k : Key) then (p.1, v) else p) (kvs.map fun p => if p.1 = k then (p.1, d) else p)
  | _, _, .nil => .nil
  | _, _, .cons (k := k0) h0 a => by
    rw [List.map_cons, List.map_cons]
    by_cases e : k0 = k
    · rw [if_pos (by rw [e]), if_pos e]
      exact .cons h (kv_map h a)
    · rw [if_neg (fun q => e (Sum.inl.inj q)), if_neg e]
      exact .cons h0 (kv_map h a)
theorem kv_app {F : Hp} : ∀ {kv kv' : List (Key × V)} {kvs kvs' : List (Int × PyData)}, KvAll K B F kv kvs → KvAll K B F kv' kvs' → KvAll K B F (kv ++ kv') (kvs ++ kvs')
  | _, _, _, _, .nil, b => b
  | _, _, _, _, .cons h a, b => .cons h (kv_app a b)
theorem kv_put {F : Hp} {k : Int} {v : V} {kv : List (Key × V)} {kvs : List (Int × PyData)} (h : Nw K B F v d) (a : KvAll K B F kv kvs) : KvAll K B F (putK kv (Sum.inl k : Key) v) (putI kvs k d) := by
  unfold putK putI
  rw [kv_any a]
  by_cases e : (kvs.any fun p => p.1 == k) = true
  · rw [if_pos e, if_pos e]; exact kv_map h a
  · rw [if_neg e, if_neg e]; exact kv_app a (.cons h .nil)
theorem kv_keys {F : Hp} : ∀ {kv : List (Key × V)} {kvs : List (Int × PyData)}, KvAll K B F kv kvs → kv.map (·.1) = (kvs.map (·.1)).map Sum.inl
  | _, _, .nil => rfl
  | _, _, .cons _ a => by
    rw [List.map_cons, List.map_cons, List.map_cons, kv_keys a]
theorem ev_din {k : Int} {kvs : List (Int × PyData)} (ha : EvH B F0 ρ ta (dat K (.int k))) (hb : EvH B F0 ρ tb (isDict K kvs)) : Ev B F0 ρ (tDIn ta tb) (nwd K B (.bool (lookI kvs k).isSome)) := fun F H σ c Q q =>
  ha F H σ c _ fun x F1 H1 g1 p1 => hb F1 H1 σ (c.go g1) _ fun y F2 H2 g2 ⟨l, kv, e, r, B', a⟩ => by
    cases p1
    refine ⟨l, valV kv (Sum.inl k : Key), e, .inl ⟨kv, Sum.inl k, r, rfl, rfl⟩, q _ F2 H2 (g1.trans g2) ?_⟩
    rcases kv_look (k := k) a with ⟨h1, h2⟩ | ⟨v, d, h1, h2, _⟩
    · rw [h1, h2]; exact .bl _
    · rw [h1, h2]; exact .bl _
theorem ev_dnotin {k : Int} {kvs : List (Int × PyData)} (ha : EvH B F0 ρ ta (dat K (.int k))) (hb : EvH B F0 ρ tb (isDict K kvs)) : Ev B F0 ρ (tDNotIn ta tb) (nwd K B (.bool (!(lookI kvs k).isSome))) := fun F H σ c Q q =>
  ha F H σ c _ fun x F1 H1 g1 p1 => hb F1 H1 σ (c.go g1) _ fun y F2 H2 g2 ⟨l, kv, e, r, B', a⟩ => by
    cases p1
    refine ⟨l, valV kv (Sum.inl k : Key), e, .inl ⟨kv, Sum.inl k, r, rfl, rfl⟩, q _ F2 H2 (g1.trans g2) ?_⟩
    rcases kv_look (k := k) a with ⟨h1, h2⟩ | ⟨v, d, h1, h2, _⟩
    · rw [h1, h2]; exact .bl _
    · rw [h1, h2]; exact .bl _
/-- d[k], what is held holds no lists -/
theorem evh_dget {k : Int} {kvs : List (Int × PyData)} (ha : EvH B F0 ρ ta (isDict K kvs)) (hb : EvH B F0 ρ tb (dat K (.int k))) (hk : lookI kvs k = some d) : EvH B F0 ρ (tDGet ta tb) (dat K d) := fun F H σ c Q q =>
  ha F H σ c _ fun y F1 H1 g1 ⟨l, kv, e, r, B', a⟩ => hb F1 H1 σ (c.go g1) _ fun x F2 H2 g2 p2 => by
    cases p2
    rcases kv_look (k := k) a with ⟨h1, _⟩ | ⟨v, d', h1, h2, h3⟩
    · rw [hk] at h1; cases h1
    · rw [hk] at h1; cases h1
      exact ⟨l, v, e, .inl ⟨kv, Sum.inl k, rd_mono g2.h r, rfl, h2.symm⟩, q v F2 H2 (g1.trans g2) (dp_mono g2.h (nw_dp h3))⟩
variable {D : Ends}
theorem at_dput {i : Nat} {k : Int} {kvs : List (Int × PyData)} (hi : ρ[i]? = some (md K B kvs)) (hv : Ev B F0 ρ te (nwd K B d)) (hk : EvH B F0 ρ tb (dat K (.int k))) (hz : kvs.length < 100000)
    (n : At B F0 D.nx (ρ.set i (md K B (putI kvs k d)))) : At B F0 (sDPut (tVar i) tb te D) ρ := fun F H σ c => by
  refine hv F H σ c _ fun v F1 H1 g1 p1 => ?_
  have c1 := c.go g1
  obtain ⟨w, o⟩ := c1.own
  obtain ⟨_, v', h1, l, kv, rfl, h3, h4, h5⟩ := o.sl i _ hi
  refine ⟨_, h1, hk F1 H1 σ c1 _ fun x F2 H2 g2 p2 => ?_⟩
  cases p2
  refine ⟨l, _, rfl, .inl ⟨kv, Sum.inl k, g2.h _ _ h4, rfl, sz_lt (by rw [kv_len h5]; exact hz), rfl⟩, n F2 _ σ ((c1.go g2).chg hi st_md fun v' as e m n => ?_)⟩
  obtain ⟨l', kv', rfl, rfl, e4, e5⟩ := m
  rw [h1] at e
  cases e
  rw [g2.h _ _ h4] at e4
  cases e4
  refine ⟨⟨l, _, rfl, rfl, upd_same, kv_put (nw_mono (Same.refl _) g2.f p1) e5⟩, fun a ha => upd_ne fun z => ha (by rw [z]; exact List.mem_singleton.mpr rfl), fun a ha => ?_⟩
  rw [List.mem_singleton.mp ha]
  exact ⟨_, upd_same, rfl⟩
end
end Lay
namespace Lay
open PySem L2 PySem.Spec PyProof.Rows

/-! ### a def of the text, its promise -/
structure Dfn (K : PySem.W.Frag) (mg : Str → Option Value) (x qual : Str) (st : Stmt) (ps : List Str) : Prop where
  ex : ∃ f fd, Fun K x qual st f fd ∧ mg x = some (.ref f) ∧ Binds K fd ps []
structure Mfn (K : PySem.W.Frag) (C : Addr) (m qual : Str) (st : Stmt) (ps : List Str) : Prop where
  ex : ∃ f fd, Fun K m qual st f fd ∧ Meth K C m f ∧ Binds K fd ps []
structure Ok (P : Program) (w : World) (K : PySem.W.Frag) (mg : Str → Option Value) (base : Heap) (C : CXT) (k : Nat) (x : Str) (ps : List Str) (sp : Sp) : Prop where
  ex : ∃ f fd, FnOk P w K mg base C k f fd ps sp ∧ mg x = some (.ref f) ∧ PySem.W.keepIn K (.ref f) = true ∧ Binds K fd ps []
structure OkM (P : Program) (w : World) (K : PySem.W.Frag) (mg : Str → Option Value) (base : Heap) (C : CXT) (k : Nat) (A : Addr) (m : Str) (ps : List Str) (sp : Sp) : Prop where
  ex : ∃ f fd, FnOk P w K mg base C k f fd ps sp ∧ Meth K A m f ∧ Cls K A ∧ Binds K fd ps []
section
variable {X : Cx} {k : Nat} {x m : Str} {ps : List Str} {sp : Sp} {p pos apos : Pos} {e o : Expr} {es : List Expr} {t : TA} {ta : TE} {C : Addr}
theorem ok_call (G : Ok X.prog X.w X.K X.mg X.base CX0 k x ps sp) (hr : Room k X.A) (hg : Gl X x) (ha : PA X (e :: es) t) (hdb : (x == ("__debug__" : Str)) = false := by decide)
    (he : starEach (e :: es) X.env = (false, eval e X.env) :: starEach es X.env := by rfl) (hpl : (backTo pos (starEach es X.env)).any (·.1) = false := by rfl) : PE X (.Call (.Name x p) (e :: es) [] pos) (tCall sp [] E0 t) := by
  obtain ⟨f, fd, F, hm, hk, hb⟩ := G.ex
  exact pe_call F hr hg hm hk hb .nil pass0 ha hdb he hpl
theorem ok_callX (G : Ok X.prog X.w X.K X.mg X.base (L2.CX X.prog X.w) k x ps sp) (hr : Room k X.A) (hg : Gl X x) (ha : PA X (e :: es) t) (hdb : (x == ("__debug__" : Str)) = false := by decide)
    (he : starEach (e :: es) X.env = (false, eval e X.env) :: starEach es X.env := by rfl) (hpl : (backTo pos (starEach es X.env)).any (·.1) = false := by rfl) : PE X (.Call (.Name x p) (e :: es) [] pos) (tCall sp [] E0 t) := by
  obtain ⟨f, fd, F, hm, hk, hb⟩ := G.ex
  exact pe_call F hr hg hm hk hb .nil passL ha hdb he hpl
theorem ok_meth0 {pl : Sem Bool} (G : OkM X.prog X.w X.K X.mg X.base CX0 k C m ps sp) (hr : Room k X.A) (he : PE X o ta)
    (ht : eval (.Call (.Attribute o m apos) [] [] pos) X.env = (do
      let ov ← eval o X.env
      standAt apos.atName
      let (f, first) ← holding [ov] (getMethod ov m pl)
      callWith pos f first (backTo pos (starEach [] X.env)) (backToKw pos (keywordEach [] X.env))) := by rfl) : PE X (.Call (.Attribute o m apos) [] [] pos) (tMeth C m sp [] E0 ta tNil) := by
  obtain ⟨f, fd, F, hm, hc, hb⟩ := G.ex
  exact pe_meth0 he hc hm F hr hb .nil pass0 ht
theorem ok_methX {pl : Sem Bool} (G : OkM X.prog X.w X.K X.mg X.base (L2.CX X.prog X.w) k C m ps sp) (hr : Room k X.A) (he : PE X o ta) (ha : PA X (e :: es) t)
    (hst : starEach (e :: es) X.env = (false, eval e X.env) :: starEach es X.env := by rfl) (hpl : (backTo pos (starEach es X.env)).any (·.1) = false := by rfl)
    (ht : eval (.Call (.Attribute o m apos) (e :: es) [] pos) X.env = (do
      let ov ← eval o X.env
      standAt apos.atName
      let (f, first) ← holding [ov] (getMethod ov m pl)
      callWith pos f first (backTo pos (starEach (e :: es) X.env)) (backToKw pos (keywordEach [] X.env))) := by rfl) : PE X (.Call (.Attribute o m apos) (e :: es) [] pos) (tMeth C m sp [] E0 ta t) := by
  obtain ⟨f, fd, F, hm, hc, hb⟩ := G.ex
  exact pe_meth he hc hm F hr hb .nil passL ha hst hpl ht
theorem Room.units65 {A : Around} (r : Room k A) : A.units + 65 < cLine := by have := r.un; omega
end
section
variable {P : Program} {w : World} {K : PySem.W.Frag} {mg : Str → Option Value} {base : Heap}
theorem aok_len : ∀ {fs : List Pd} {H : Hp} {vs : List V}, AOk fs H vs → vs.length = fs.length
  | [], _, _, h => by rw [show _ = [] from h]; rfl
  | f :: r, H, _, h => by
    obtain ⟨v, t, rfl, _, h2⟩ := h
    rw [List.length_cons, List.length_cons, aok_len h2]
theorem aok_get : ∀ {fs : List Pd} {H : Hp} {vs : List V}, AOk fs H vs → ∀ {i : Nat} {f : Pd}, fs[i]? = some f → ∃ v, vs[i]? = some v ∧ f H v
  | [], _, _, _, i, f, e => by simp at e
  | g :: r, H, _, h, 0, f, e => by
    obtain ⟨v, t, rfl, h1, h2⟩ := h
    simp at e; subst e
    exact ⟨v, rfl, h1⟩
  | g :: r, H, _, h, i + 1, f, e => by
    obtain ⟨v, t, rfl, h1, h2⟩ := h
    obtain ⟨u, q1, q2⟩ := aok_get h2 (i := i) (f := f) (by simpa using e)
    exact ⟨u, by simpa using q1, q2⟩
/-- the slots at a def's entry -/
def enterR (N : Nat) (fs : List Pd) : List Sl := fs.map Sl.fz ++ List.replicate (N - fs.length) Sl.no
theorem cfg_start {N : List Str} {fs : List Pd} {H : Hp} {vs : List V} (h : AOk fs H vs) (st : ∀ f ∈ fs, Stab f) (hl : fs.length ≤ N.length) : Cfg H H H H (L2.start N vs) (enterR N.length fs) := by
  have el := aok_len h
  refine ⟨Gr.refl (Same.refl _), by simp [L2.start, enterR, el], fun _ => [], fun i j a h1 => (List.not_mem_nil h1).elim, fun i a h1 => (List.not_mem_nil h1).elim, fun i s hs => ?_⟩
  unfold enterR at hs
  by_cases hi : i < fs.length
  · rw [List.getElem?_append_left (by simpa using hi), List.getElem?_map, List.getElem?_eq_getElem hi] at hs
    cases hs
    obtain ⟨v, e1, e2⟩ := aok_get h (List.getElem?_eq_getElem hi)
    refine ⟨st _ (List.getElem_mem hi), v, ?_, e2⟩
    unfold L2.start
    rw [List.getElem?_append_left (by simpa [el] using hi), List.getElem?_map, e1]
    rfl
  · rw [List.getElem?_append_right (by simpa using Nat.le_of_not_lt hi), List.getElem?_replicate] at hs
    split at hs
    · cases hs; trivial
    · cases hs
/-- THE RULE for a def that changes nothing and raises nothing -/
theorem fp_ok {x qual : Str} {st : Stmt} {N ps : List Str} {k : Nat} {α : Type} {pre : α → Prop} {args : α → List Pd} {res : α → PyData} (D : Dfn K mg x qual st ps) (S : FnScope N ps (defScope st)) (hN : ps.length ≤ N.length)
    (hlen : ∀ x, (args x).length = ps.length) (stab : ∀ x, ∀ f ∈ args x, Stab f)
    (body : ∀ (f : Addr) (cdv : Value) (A : Around) (outer : List Env) (s : Shared) (H : Hp) (E : XK), Room k (A.deeper (envOfC qual (defScope st) s.heap.objs.size f cdv)) →
      ∃ t, PSs (cxOf CX0 P w K mg base N qual (defScope st) f cdv A outer s H E).nox (defBody st) t ∧
        ∀ x, pre x → ∀ Q : VK, (∀ v H', Same H H' → Nw K H H' v (res x) → Q v H') → At H H (t { nx := fun _ H' => Q .non H', rt := Q }) (enterR N.length (args x))) : Ok P w K mg base CX0 (k + 1) x ps (Fp K pre args res) := by
  obtain ⟨f, fd, F, hg, hb⟩ := D.ex
  refine ⟨f, fd, F.ok S (fun vs H Q E h => ?_) (fun cdv A outer s H vs Q E hr h => ?_), hg, F.kp, hb⟩
  · obtain ⟨z, _, h2, _⟩ := h
    rw [aok_len h2, hlen]
  · obtain ⟨z, h1, h2, h3⟩ := h
    obtain ⟨t, q1, q2⟩ := body f cdv A outer s H E hr
    exact ⟨t, q1, q2 z h1 Q h3 H H _ (cfg_start h2 (stab z) (by rw [hlen]; exact hN))⟩
/-- .. for a method -/
theorem fpm_ok {m qual : Str} {st : Stmt} {N ps : List Str} {k : Nat} {C : Addr} {α : Type} {pre : α → Prop} {args : α → List Pd} {res : α → PyData} (D : Mfn K C m qual st ps) (cl : Cls K C) (S : FnScope N ps (defScope st)) (hN : ps.length ≤ N.length)
    (hlen : ∀ x, (args x).length = ps.length) (stab : ∀ x, ∀ f ∈ args x, Stab f)
    (body : ∀ (f : Addr) (cdv : Value) (A : Around) (outer : List Env) (s : Shared) (H : Hp) (E : XK), Room k (A.deeper (envOfC qual (defScope st) s.heap.objs.size f cdv)) →
      ∃ t, PSs (cxOf CX0 P w K mg base N qual (defScope st) f cdv A outer s H E).nox (defBody st) t ∧
        ∀ x, pre x → ∀ Q : VK, (∀ v H', Same H H' → Nw K H H' v (res x) → Q v H') → At H H (t { nx := fun _ H' => Q .non H', rt := Q }) (enterR N.length (args x))) : OkM P w K mg base CX0 (k + 1) C m ps (Fp K pre args res) := by
  obtain ⟨f, fd, F, hg, hb⟩ := D.ex
  refine ⟨f, fd, F.ok S (fun vs H Q E h => ?_) (fun cdv A outer s H vs Q E hr h => ?_), hg, cl, hb⟩
  · obtain ⟨z, _, h2, _⟩ := h
    rw [aok_len h2, hlen]
  · obtain ⟨z, h1, h2, h3⟩ := h
    obtain ⟨t, q1, q2⟩ := body f cdv A outer s H E hr
    exact ⟨t, q1, q2 z h1 Q h3 H H _ (cfg_start h2 (stab z) (by rw [hlen]; exact hN))⟩
end
/-- the built-in names that the module leaves alone -/
structure Zs (mg : Str → Option Value) : Prop where
  range : mg "range" = none
  len : mg "len" = none
  enumerate : mg "enumerate" = none
  zip : mg "zip" = none
  min : mg "min" = none
  max : mg "max" = none
  sorted : mg "sorted" = none
  sum : mg "sum" = none
  all : mg "all" = none
  list : mg "list" = none
  str : mg "str" = none
  int : mg "int" = none
  bool : mg "bool" = none
  isinstance : mg "isinstance" = none
  set : mg "set" = none
  dict : mg "dict" = none
  tuple : mg "tuple" = none
section
variable {K : PySem.W.Frag} {B F0 : Hp} {ρ : List Sl} {te ta tb : TE} {d e : PyData} {ds es : List PyData}
theorem stab1 {f : Pd} (h : Stab f) : ∀ g ∈ [f], Stab g := fun g hg => by
  rw [List.mem_singleton.mp hg]; exact h
theorem stab0 : ∀ g ∈ ([] : List Pd), Stab g := fun g hg => (List.not_mem_nil hg).elim
theorem stabC {f : Pd} {fs : List Pd} (h : Stab f) (hs : ∀ g ∈ fs, Stab g) : ∀ g ∈ f :: fs, Stab g := fun g hg => by
  rcases List.mem_cons.mp hg with rfl | hg
  · exact h
  · exact hs g hg
/-- an int that comes as an argument -/
theorem rd_arg {d : PyData} : RdS K (.fz (dat K d)) d := rd_sa
/-! len, min, max -/
theorem ev_lenL (h : EvH B F0 ρ te (dat K (.list ds))) : Ev B F0 ρ (tCB (fun xs H Q => ∃ p ys, xs = [.ref p] ∧ (SqL K H p ys ∨ SqT K H p ys) ∧ Q (.int ys.length) H) (tCons te tNil)) (nwd K B (.int ds.length)) :=
  ev_cb (f := nwd K B (.int ds.length)) (z := .int ds.length) (ea_cons st_dat h ea_nil) (fun F => .int _) fun H vs a Q q => by
    obtain ⟨v, t, rfl, p, rfl⟩ := a
    cases p with
    | lst h1 h2 => exact ⟨_, _, rfl, .inl h1, by rw [dpAll_len h2]; exact q⟩
theorem ev_lenT (h : EvH B F0 ρ te (dat K (.tuple ds))) : Ev B F0 ρ (tCB (fun xs H Q => ∃ p ys, xs = [.ref p] ∧ (SqL K H p ys ∨ SqT K H p ys) ∧ Q (.int ys.length) H) (tCons te tNil)) (nwd K B (.int ds.length)) :=
  ev_cb (f := nwd K B (.int ds.length)) (z := .int ds.length) (ea_cons st_dat h ea_nil) (fun F => .int _) fun H vs a Q q => by
    obtain ⟨v, t, rfl, p, rfl⟩ := a
    cases p with
    | tup h1 h2 => exact ⟨_, _, rfl, .inr h1, by rw [dpAll_len h2]; exact q⟩
theorem ev_min2 {a b : Int} (ha : EvH B F0 ρ ta (dat K (.int a))) (hb : EvH B F0 ρ tb (dat K (.int b))) : Ev B F0 ρ (tCB (fun xs H Q => ∃ i j, xs = [.int i, .int j] ∧ Q (.int (if j < i then j else i)) H) (tCons ta (tCons tb tNil))) (nwd K B (.int (min a b))) :=
  ev_cb (f := nwd K B (.int (min a b))) (z := .int (min a b)) (ea_cons st_dat ha (ea_cons st_dat hb ea_nil)) (fun F => .int _) fun H vs a' Q q => by
    obtain ⟨v, t, rfl, p, v2, t2, rfl, p2, rfl⟩ := a'
    cases p; cases p2
    have e : (if b < a then b else a) = min a b := by rw [Int.min_def]; split <;> split <;> omega
    exact ⟨a, b, rfl, by rw [e]; exact q⟩
theorem ev_max2 {a b : Int} (ha : EvH B F0 ρ ta (dat K (.int a))) (hb : EvH B F0 ρ tb (dat K (.int b))) : Ev B F0 ρ (tCB (fun xs H Q => ∃ i j, xs = [.int i, .int j] ∧ Q (.int (if j > i then j else i)) H) (tCons ta (tCons tb tNil))) (nwd K B (.int (max a b))) :=
  ev_cb (f := nwd K B (.int (max a b))) (z := .int (max a b)) (ea_cons st_dat ha (ea_cons st_dat hb ea_nil)) (fun F => .int _) fun H vs a' Q q => by
    obtain ⟨v, t, rfl, p, v2, t2, rfl, p2, rfl⟩ := a'
    cases p; cases p2
    have e : (if b > a then b else a) = max a b := by rw [Int.max_def]; split <;> split <;> omega
    exact ⟨a, b, rfl, by rw [e]; exact q⟩
/-! slices of lists -/
def cutD (ds : List PyData) (lo hi : Option Int) : List PyData := (ds.drop (HT.sIx ds.length 0 lo)).take (HT.sIx ds.length ds.length hi - HT.sIx ds.length 0 lo)
def EvO (K : PySem.W.Frag) (B F0 : Hp) (ρ : List Sl) (to : TO) (o : Option Int) : Prop := ∀ F H σ, Cfg B F0 F H σ ρ → ∀ Q : Option Int → Hp → Prop, (∀ F' H', Gr F H F' H' → Q o H') → to σ H Q
theorem eo_none : EvO K B F0 ρ tNoPart none := fun F H σ c Q q => q F H (Gr.refl c.i)
theorem eo_some {i : Int} (h : EvH B F0 ρ te (dat K (.int i))) : EvO K B F0 ρ (tPart te) (some i) := fun F H σ c Q q => h F H σ c _ fun v F' H' g p => by
  cases p
  exact ⟨i, rfl, q F' H' g⟩
theorem evm_slice {tl th : TO} {lo hi : Option Int} (h : EvH B F0 ρ te (dat K (.list ds))) (fl : flatDs ds = true) (h1 : EvO K B F0 ρ tl lo) (h2 : EvO K B F0 ρ th hi) : EvM K B F0 ρ (tSl (rSlL K) te tl th) (cutD ds lo hi) := fun F H σ c Q q =>
  (h.nwl fl) F H σ c _ fun v F1 H1 g1 p1 => h1 F1 H1 σ (c.go g1) _ fun F2 H2 g2 => h2 F2 H2 σ ((c.go g1).go g2) _ fun F3 H3 g3 => by
    obtain ⟨a, xs, rfl, q1, q2⟩ := p1
    have g := g1.trans (g2.trans g3)
    refine ⟨a, xs, rfl, (g2.h.trans g3.h).seq q1, fun p hp => ?_⟩
    refine q p _ F3 _ (g.trans (Gr.new g.i hp)) (g.i.free hp) (g.fresh hp) upd_same ?_
    have e : xs.length = ds.length := nwAll_len q2
    unfold cutV cutD
    rw [e]
    exact nwAll_take _ (nwAll_drop _ (nwAll_mono (Same.refl _) (g2.f.trans g3.f) q2))
end
end Lay
namespace Lay
open PySem L2
theorem enumD_map {α : Type} (g : α → PyData) (xs : List α) : enumD (xs.map g) = xs.zipIdx.map fun p => .tuple [.int (p.2 : Int), g p.1] := by
  unfold enumD
  rw [List.zipIdx_map, List.map_map]
  rfl
section
variable {K : PySem.W.Frag} {B F0 : Hp} {ρ : List Sl} {te ta tb : TE} {d e : PyData} {ds es : List PyData}
theorem evj_enumX {α : Type} {g : α → PyData} {xs : List α} (h : Ev B F0 ρ te (nwd K B (.list (xs.map g)))) : EvJ B F0 ρ (iEnum K (tCons te tNil)) (nwd K B) (xs.zipIdx.map fun p => .tuple [.int (p.2 : Int), g p.1]) := by
  rw [← enumD_map]
  exact evj_enum (ea_one h)
theorem evj_enumXF {α : Type} {g : α → PyData} {xs : List α} (h : Ev B F0 ρ te (dat K (.list (xs.map g)))) (fl : ∀ x, flatD (g x) = true) : EvJ B F0 ρ (iEnum K (tCons te tNil)) (nwd K B) (xs.zipIdx.map fun p => .tuple [.int (p.2 : Int), g p.1]) := by
  rw [← enumD_map]
  exact evj_enumF (ea_one h) (flatDs_map fl xs)
/-- an item of a list written on the spot -/
theorem ev_pick {tr : TA} {i : Int} (h : EvAs K B F0 ρ tr ds) (hl : ds.length ≤ 100000) (hb : EvH B F0 ρ tb (dat K (.int i))) (e : atI ds i = some d) : Ev B F0 ρ (tOp (rIxL K) (tLst tr) tb) (nwd K B d) := ev_ixN (evm_lst h hl).nw hb e
theorem atI_nn {α : Type} {xs : List α} {i : Int} {x : α} (h : 0 ≤ i) (e : xs[i.toNat]? = some x) : atI xs i = some x := by
  have h2 : i.toNat < xs.length := (List.getElem?_eq_some_iff.mp e).1
  unfold atI ixN
  rw [if_pos h, if_pos (by omega)]
  exact e
theorem atI_map {α β : Type} {xs : List α} {i : Int} {x : α} (g : α → β) (e : atI xs i = some x) : atI (xs.map g) i = some (g x) := by
  unfold atI at e ⊢
  rw [List.length_map]
  cases z : ixN xs.length i with
  | none => rw [z] at e; cases e
  | some j =>
    rw [z] at e
    have e : xs[j]? = some x := e
    show (xs.map g)[j]? = some (g x)
    rw [List.getElem?_map, e]; rfl
end
end Lay
namespace Lay
open PySem L2
/-! the rules of statements with what follows them -/
section
variable {K : PySem.W.Frag} {B F0 : Hp} {ρ ρ1 ρ2 : List Sl} {te ta tb tc : TE} {t : TT} {f g : Pd} {d e : PyData} {ds es : List PyData} {D : Ends} {u ts us : TS}
theorem q_asg {g : TG} {is : List Nat} (h : EvX B F0 ρ te ρ1 f) (b : Bind B F0 g is f ρ1 ρ2) (k : At B F0 (u D) ρ2) : At B F0 (tSeq (tAsg te g) u D) ρ := at_asg (D := { D with nx := u D }) h b k
theorem q_set (K : PySem.W.Frag) {i : Nat} (h : Ev B F0 ρ te (nwd K B d)) (k : At B F0 (u D) (ρ.set i (sn K B d))) : At B F0 (tSeq (tAsg te (gName i)) u D) ρ := at_set (D := { D with nx := u D }) h k
theorem q_setD (K : PySem.W.Frag) {i : Nat} (h : Ev B F0 ρ te (dat K d)) (k : At B F0 (u D) (ρ.set i (sa K d))) : At B F0 (tSeq (tAsg te (gName i)) u D) ρ := at_setD (D := { D with nx := u D }) h k
theorem q_setF {i : Nat} (st : Stab f) (h : Ev B F0 ρ te f) (k : At B F0 (u D) (ρ.set i (.fz f))) : At B F0 (tSeq (tAsg te (gName i)) u D) ρ := at_setF (D := { D with nx := u D }) st h k
theorem q_setM (K : PySem.W.Frag) {i : Nat} (h : EvM K B F0 ρ te ds) (k : At B F0 (u D) (ρ.set i (ml K B ds))) : At B F0 (tSeq (tAsg te (gName i)) u D) ρ := at_setM (D := { D with nx := u D }) h k
theorem q_setK {i : Nat} (K : PySem.W.Frag) (k : At B F0 (u D) (ρ.set i (md K B []))) : At B F0 (tSeq (tAsg tDNewK (gName i)) u D) ρ := at_setK (D := { D with nx := u D }) k
theorem q_drop (h : EvX B F0 ρ te ρ1 f) (k : At B F0 (u D) ρ1) : At B F0 (tSeq (tDrop te) u D) ρ := at_drop (D := { D with nx := u D }) h k
theorem q_if {c : Bool} (h : EvT B F0 ρ t c) (h1 : c = true → At B F0 (ts { D with nx := u D }) ρ) (h2 : c = false → At B F0 (us { D with nx := u D }) ρ) : At B F0 (tSeq (tIfS t ts us) u D) ρ := at_if (D := { D with nx := u D }) h h1 h2
theorem q_when {c : Bool} (h : EvT B F0 ρ t c) (h1 : c = true → At B F0 (ts { D with nx := u D }) ρ) (h2 : c = false → At B F0 (u D) ρ) : At B F0 (tSeq (tIfS t ts tNext) u D) ρ := at_if (D := { D with nx := u D }) h h1 h2
theorem at_when {c : Bool} (h : EvT B F0 ρ t c) (h1 : c = true → At B F0 (ts D) ρ) (h2 : c = false → At B F0 D.nx ρ) : At B F0 (tIfS t ts tNext D) ρ := at_if h h1 h2
theorem q_for {α : Type} {xs : List α} {e : α → PyData} {q : PyData → Pd} {wi : TI} {g : TG} {tb : TS} (hw : EvI B F0 ρ wi ρ1 q (xs.map e)) (Inv : List α → List Sl → Prop) (h0 : Inv [] ρ1)
    (hs : ∀ F1 pre x post ρ', xs = pre ++ x :: post → Inv pre ρ' → ∃ is ρ2, Bind B F1 g is (q (e x)) ρ' ρ2 ∧ At B F1 (tb { D with nx := Lp B F1 Inv (pre ++ [x]), ct := Lp B F1 Inv (pre ++ [x]), bk := u D }) ρ2)
    (hd : ∀ ρ', Inv xs ρ' → At B F0 (u D) ρ') : At B F0 (tSeq (tFor wi g tb) u D) ρ := at_for (D := { D with nx := u D }) hw Inv h0 hs hd
theorem q_while {tb : TS} (Inv : Nat → List Sl → Prop) (m0 : Nat) (h0 : Inv m0 ρ)
    (hs : ∀ m ρ', Inv m ρ' → ∃ c, EvT B F0 ρ' t c ∧ (c = true → At B F0 (tb { D with nx := Lw B F0 Inv m, ct := Lw B F0 Inv m, bk := u D }) ρ') ∧ (c = false → At B F0 (u D) ρ')) : At B F0 (tSeq (tWhile t tb) u D) ρ := at_while (D := { D with nx := u D }) Inv m0 h0 hs
theorem q_dput {i : Nat} {k : Int} {kvs : List (Int × PyData)} (hi : ρ[i]? = some (md K B kvs)) (hv : Ev B F0 ρ te (nwd K B d)) (hk : EvH B F0 ρ tb (dat K (.int k))) (hz : kvs.length < 100000)
    (n : At B F0 (u D) (ρ.set i (md K B (putI kvs k d)))) : At B F0 (tSeq (sDPut (tVar i) tb te) u D) ρ := at_dput (D := { D with nx := u D }) hi hv hk hz n
theorem at_lpD {α : Type} {Inv : List α → List Sl → Prop} {pre : List α} {r : VK} {bk ct : L2.St → Hp → Prop} (h : Inv pre ρ) : At B F0 (Ends.nx ⟨Lp B F0 Inv pre, r, bk, ct⟩) ρ := at_lp h
theorem at_lwD {Inv : Nat → List Sl → Prop} {m m' : Nat} {r : VK} {bk ct : L2.St → Hp → Prop} (h : Inv m' ρ) (hm : m' < m) : At B F0 (Ends.nx ⟨Lw B F0 Inv m, r, bk, ct⟩) ρ := at_lw h hm
theorem at_go {N : L2.St → Hp → Prop} {r : VK} {bk ct : L2.St → Hp → Prop} (h : At B F0 N ρ) : At B F0 (Ends.nx ⟨N, r, bk, ct⟩) ρ := h
theorem at_nxt {N : L2.St → Hp → Prop} {r : VK} {bk ct : L2.St → Hp → Prop} (h : At B F0 N ρ) : At B F0 (tNext ⟨N, r, bk, ct⟩) ρ := h
end
end Lay
namespace Lay
open PySem L2
/-! ### shapes and equality of data -/
def okS (n : Nat) (d : PyData) : Prop := d.canLay0 = true ∧ d.depth ≤ n
theorem okS.mono {n m : Nat} {d : PyData} (h : okS n d) (k : n ≤ m) : okS m d := ⟨h.1, Nat.le_trans h.2 k⟩
theorem okS.shaped {n : Nat} {d : PyData} (h : okS n d) (k : n ≤ 64 := by decide) : SeqAt.shaped d = true := by
  unfold SeqAt.shaped
  rw [h.1, decide_eq_true (Nat.le_trans h.2 k)]
  rfl
theorem okS_int {i : Int} : okS 0 (.int i) := ⟨by rw [PyData.canLay0], by rw [PyData.depth]; exact Nat.le_refl _⟩
theorem okS_bool {i : Bool} : okS 0 (.bool i) := ⟨by rw [PyData.canLay0], by rw [PyData.depth]; exact Nat.le_refl _⟩
theorem okS_none : okS 0 .none := ⟨by rw [PyData.canLay0], by rw [PyData.depth]; exact Nat.le_refl _⟩
theorem okS_all {n : Nat} : ∀ {ds : List PyData}, (∀ d ∈ ds, okS n d) → PyData.canLayAll0 ds = true ∧ PyData.depthAll ds ≤ n
  | [], _ => ⟨by rw [PyData.canLayAll0], by rw [PyData.depthAll]; exact Nat.zero_le _⟩
  | d :: ds, h => by
    have h1 := h d (List.mem_cons.mpr (.inl rfl))
    have h2 := okS_all (n := n) (ds := ds) fun e he => h e (List.mem_cons.mpr (.inr he))
    refine ⟨by rw [PyData.canLayAll0, h1.1, h2.1]; rfl, ?_⟩
    rw [PyData.depthAll]
    have := h1.2
    have := h2.2
    omega
theorem okS_list {n : Nat} {ds : List PyData} (h : ∀ d ∈ ds, okS n d) : okS (n + 1) (.list ds) := by
  have q := okS_all h
  exact ⟨by rw [PyData.canLay0]; exact q.1, by rw [PyData.depth]; have := q.2; omega⟩
theorem okS_tup {n : Nat} {ds : List PyData} (h : ∀ d ∈ ds, okS n d) : okS (n + 1) (.tuple ds) := by
  have q := okS_all h
  exact ⟨by rw [PyData.canLay0]; exact q.1, by rw [PyData.depth]; have := q.2; omega⟩
theorem okS_map {α : Type} {n : Nat} {e : α → PyData} {xs : List α} (h : ∀ x, okS n (e x)) : ∀ d ∈ xs.map e, okS n d := fun d hd => by
  obtain ⟨x, _, rfl⟩ := List.mem_map.mp hd
  exact h x
theorem okS_nil {n : Nat} : ∀ d ∈ ([] : List PyData), okS n d := fun d hd => (List.not_mem_nil hd).elim
theorem okS_cons {n : Nat} {d : PyData} {ds : List PyData} (h : okS n d) (hs : ∀ d ∈ ds, okS n d) : ∀ e ∈ d :: ds, okS n e := fun e he => by
  rcases List.mem_cons.mp he with rfl | he
  · exact h
  · exact hs e he
theorem okS_ints {ns : List Int} : okS 1 (.list (ns.map .int)) := okS_list (okS_map fun _ => okS_int)
abbrev pairD (p : Int × Int) : PyData := .tuple [.int p.1, .int p.2]
abbrev rowD (p : Int × Int × Int) : PyData := .tuple [.int p.1, .int p.2.1, .int p.2.2]
abbrev intsD (ns : List Int) : PyData := .list (ns.map .int)
theorem okS_pair {p : Int × Int} : okS 1 (pairD p) := okS_tup (okS_cons okS_int (okS_cons okS_int okS_nil))
theorem okS_row {p : Int × Int × Int} : okS 1 (rowD p) := okS_tup (okS_cons okS_int (okS_cons okS_int (okS_cons okS_int okS_nil)))
theorem okS_rows {α : Type} {n : Nat} {e : α → PyData} {xs : List α} (h : ∀ x, okS n (e x)) : okS (n + 1) (.list (xs.map e)) := okS_list (okS_map h)
theorem ok60_ints {ns : List Int} : okS 60 (.list (ns.map .int)) := okS_ints.mono (by decide)
theorem ok60_pairs {ns : List (Int × Int)} : okS 60 (.list (ns.map pairD)) := (okS_rows fun _ => okS_pair).mono (by decide)
theorem ok60_rows {ns : List (Int × Int × Int)} : okS 60 (.list (ns.map rowD)) := (okS_rows fun _ => okS_row).mono (by decide)
theorem ok60_intss {ns : List (List Int)} : okS 60 (.list (ns.map intsD)) := (okS_rows fun _ => okS_ints).mono (by decide)
theorem ok60_rowss {ns : List (List (Int × Int × Int))} : okS 60 (.list (ns.map fun r => .list (r.map rowD))) := (okS_rows fun _ => okS_rows fun _ => okS_row).mono (by decide)
theorem ok60_pairss {ns : List (List (Int × Int))} : okS 60 (.list (ns.map fun r => .list (r.map pairD))) := (okS_rows fun _ => okS_rows fun _ => okS_pair).mono (by decide)
theorem eqv_nil {ds : List PyData} : PyData.eqv (.list ds) (.list []) = ds.isEmpty := by
  cases ds with
  | nil => rw [PyData.eqv]; rfl
  | cons d r => rw [PyData.eqv]; rfl
theorem eqv_int {a b : Int} : PyData.eqv (.int a) (.int b) = (a == b) := by rw [PyData.eqv]
/-- equal data are equal values, for data that tell their values -/
theorem eqvAll_map {α : Type} {e : α → PyData} (h : ∀ x y, PyData.eqv (e x) (e y) = true ↔ x = y) : ∀ xs ys : List α, PyData.eqvAll (xs.map e) (ys.map e) = true ↔ xs = ys
  | [], [] => by simp [PyData.eqvAll]
  | [], _ :: _ => by simp [PyData.eqvAll]
  | _ :: _, [] => by simp [PyData.eqvAll]
  | x :: xs, y :: ys => by
    rw [List.map_cons, List.map_cons, PyData.eqvAll, Bool.and_eq_true, h x y, eqvAll_map h xs ys]
    simp
theorem eqv_list {α : Type} {e : α → PyData} (h : ∀ x y, PyData.eqv (e x) (e y) = true ↔ x = y) (xs ys : List α) : PyData.eqv (.list (xs.map e)) (.list (ys.map e)) = true ↔ xs = ys := by
  rw [PyData.eqv]
  exact eqvAll_map h xs ys
theorem eqv_ints (xs ys : List Int) : PyData.eqv (intsD xs) (intsD ys) = true ↔ xs = ys := eqv_list (fun x y => by rw [PyData.eqv]; simp) xs ys
theorem eqv_pair (p q : Int × Int) : PyData.eqv (pairD p) (pairD q) = true ↔ p = q := by
  obtain ⟨a, b⟩ := p
  obtain ⟨c, d⟩ := q
  rw [PyData.eqv, PyData.eqvAll, PyData.eqvAll, PyData.eqvAll, PyData.eqv, PyData.eqv]
  simp
theorem eqv_row (p q : Int × Int × Int) : PyData.eqv (rowD p) (rowD q) = true ↔ p = q := by
  obtain ⟨a, b, c⟩ := p
  obtain ⟨a', b', c'⟩ := q
  rw [PyData.eqv, PyData.eqvAll, PyData.eqvAll, PyData.eqvAll, PyData.eqvAll, PyData.eqv, PyData.eqv, PyData.eqv]
  simp
theorem eqv_same {n : Nat} {d : PyData} (h : okS n d) : PyData.eqv d d = true := SeqAt.eqv_refl d h.1
section
variable {K : PySem.W.Frag} {B F0 : Hp} {ρ : List Sl} {te ta tb : TE} {d e : PyData} {ds es : List PyData}
/-- xs != [], xs == [] -/
theorem ev_neNil (ha : EvH B F0 ρ ta (dat K (.list ds))) (hs : okS 60 (.list ds)) : Ev B F0 ρ (tOp (rNeD K) ta (tLst tNil)) (nwd K B (.bool (!ds.isEmpty))) := by
  have h := ev_neD (K := K) (B := B) (F0 := F0) (ρ := ρ) ha (evm_lst (ds := []) eas_nil (by simp)).nw.hd hs.shaped (okS_list (n := 0) okS_nil).shaped
  rw [eqv_nil] at h
  exact h
theorem ev_eqNil (ha : EvH B F0 ρ ta (dat K (.list ds))) (hs : okS 60 (.list ds)) : Ev B F0 ρ (tOp (rEqD K) ta (tLst tNil)) (nwd K B (.bool ds.isEmpty)) := by
  have h := ev_eqD (K := K) (B := B) (F0 := F0) (ρ := ρ) ha (evm_lst (ds := []) eas_nil (by simp)).nw.hd hs.shaped (okS_list (n := 0) okS_nil).shaped
  rw [eqv_nil] at h
  exact h
/-- an item of an own list without lists within, a list owned or handed in -/
theorem ev_ixF {i : Int} (ha : EvH B F0 ρ ta (dat K (.list ds))) (hb : EvH B F0 ρ tb (dat K (.int i))) (e : atI ds i = some d) (fl : flatD d = true) : Ev B F0 ρ (tOp (rIxL K) ta tb) (nwd K B d) := (evh_ixL ha hb e).nw fl
end
theorem zip_at {α : Type} {xs : List α} {pre post : List (α × Nat)} {c : α} {k : Nat} (h : xs.zipIdx = pre ++ (c, k) :: post) : k = pre.length ∧ k < xs.length ∧ xs[k]? = some c := by
  have h1 : xs.zipIdx[pre.length]? = some (c, k) := by rw [h, List.getElem?_append_right (Nat.le_refl _), Nat.sub_self]; rfl
  rw [List.getElem?_zipIdx] at h1
  cases e : xs[pre.length]? with
  | none => rw [e] at h1; cases h1
  | some x =>
    rw [e] at h1
    have h2 := Option.some.inj h1
    have h3 : x = c := congrArg Prod.fst h2
    have h4 : 0 + pre.length = k := congrArg Prod.snd h2
    have h5 : k = pre.length := by omega
    refine ⟨h5, ?_, ?_⟩
    · rw [h5]; exact (List.getElem?_eq_some_iff.mp e).1
    · rw [h5, e, h3]
end Lay
namespace Lay
open PySem L2

/-! ### things of any kind, isinstance against built-in classes -/
def Kd (K : PySem.W.Frag) (H : Hp) (v : V) : Prop := v = .non ∨ (∃ b, v = .bl b) ∨ (∃ i, v = .int i) ∨ (∃ x, v = .str x) ∨
  ∃ a, v = .ref a ∧ ((∃ xs, SqL K H a xs) ∨ (∃ xs, SqT K H a xs) ∨ ∃ kv, Rd H a (.dK kv))
def kdP (K : PySem.W.Frag) (v0 : V) : Pd := fun H v => v = v0 ∧ Kd K H v0
theorem st_kdP {K : PySem.W.Frag} {v0 : V} : Stab (kdP K v0) := fun F F' v s ⟨e, k⟩ => ⟨e, by
  rcases k with k | k | k | k | ⟨a, e, k⟩
  · exact .inl k
  · exact .inr (.inl k)
  · exact .inr (.inr (.inl k))
  · exact .inr (.inr (.inr (.inl k)))
  · refine .inr (.inr (.inr (.inr ⟨a, e, ?_⟩)))
    rcases k with ⟨xs, k⟩ | ⟨xs, k⟩ | ⟨kv, k⟩
    · exact .inl ⟨xs, s.seq k⟩
    · exact .inr (.inl ⟨xs, sqt_mono s k⟩)
    · exact .inr (.inr ⟨kv, rd_mono s k⟩)⟩
theorem kd_dp {K : PySem.W.Frag} {H : Hp} {v : V} {d : PyData} (h : Dp K H v d) : Kd K H v := by
  cases h with
  | non => exact .inl rfl
  | bl b => exact .inr (.inl ⟨b, rfl⟩)
  | int i => exact .inr (.inr (.inl ⟨i, rfl⟩))
  | str x => exact .inr (.inr (.inr (.inl ⟨x, rfl⟩)))
  | lst h1 _ => exact .inr (.inr (.inr (.inr ⟨_, rfl, .inl ⟨_, h1⟩⟩)))
  | tup h1 _ => exact .inr (.inr (.inr (.inr ⟨_, rfl, .inr (.inl ⟨_, h1⟩)⟩)))
/-- the name of its class -/
theorem kd_ty {K : PySem.W.Frag} {H : Hp} {v : V} (k : Kd K H v) : (v = .non ∧ TyX K H v (.type "NoneType")) ∨ (∃ b, v = .bl b ∧ TyX K H v (.type "bool")) ∨ (∃ i, v = .int i ∧ TyX K H v (.type "int")) ∨ (∃ x, v = .str x ∧ TyX K H v (.type "str")) ∨
    ∃ a, v = .ref a ∧ (((∃ xs, SqL K H a xs) ∧ TyX K H v (.type "list")) ∨ ((∃ xs, SqT K H a xs) ∧ TyX K H v (.type "tuple")) ∨ TyX K H v (.type "dict")) := by
  rcases k with rfl | ⟨b, rfl⟩ | ⟨i, rfl⟩ | ⟨x, rfl⟩ | ⟨a, rfl, k⟩
  · exact .inl ⟨rfl, .base .non⟩
  · exact .inr (.inl ⟨b, rfl, .base (.bl b)⟩)
  · exact .inr (.inr (.inl ⟨i, rfl, .base (.int i)⟩))
  · exact .inr (.inr (.inr (.inl ⟨x, rfl, .base (.str x)⟩)))
  · refine .inr (.inr (.inr (.inr ⟨a, rfl, ?_⟩)))
    rcases k with ⟨xs, k⟩ | ⟨xs, k⟩ | ⟨kv, k | ⟨o, k⟩⟩
    · refine .inl ⟨⟨xs, k⟩, ?_⟩
      rcases k with (k | ⟨o, k⟩) | ⟨o, its, n, k, c, _⟩
      · exact .base (.lst k)
      · exact .base (.frz k)
      · exact .kList k c
    · refine .inr (.inl ⟨⟨xs, k⟩, ?_⟩)
      rcases k with (k | ⟨o, k⟩) | ⟨o, its, n, k, c, _⟩
      · exact .base (.tup k)
      · exact .fTuple k
      · exact .kTuple k c
    · exact .inr (.inr (.base (.dK k)))
    · exact .inr (.inr (.fDict k))
def isI : V → Bool
  | .int _ => true
  | .bl _ => true
  | _ => false
def isB : V → Bool
  | .bl _ => true
  | _ => false
section
variable {K : PySem.W.Frag} {B F0 : Hp} {ρ : List Sl} {te ta tb tc : TE} {d e : PyData} {ds es : List PyData} {f : Pd}
theorem kb {a b : String} {r : Bool} (h : kitB a b = some r) : PySem.W.kitOne K (.type a) (.type b) = some r := kit_ty h
theorem isi_run {H : Hp} {v : V} {n : String} {r : Bool} (t : Value) (ty : TyX K H v t) (h : PySem.W.kitOne K t (.type n) = some r) {Q : VK} (q : Q (.bl r) H) : rIsi K [v, .ty n] H Q :=
  ⟨v, .ty n, t, .type n, r, rfl, .ty n, ty, h, q⟩
theorem ev_isi {v : V} {n : String} {r : Bool} (ha : EvH B F0 ρ ta (kdP K v)) (hk : ∀ H, Kd K H v → ∃ t, TyX K H v t ∧ PySem.W.kitOne K t (.type n) = some r) : Ev B F0 ρ (tCB (rIsi K) (tCons ta (tCons (tC (.ty n)) tNil))) (nwd K B (.bool r)) := fun F H σ c Q q =>
  ha F H σ c _ fun x F1 H1 g1 ⟨e, k⟩ => by
    subst e
    obtain ⟨t, ty, h⟩ := hk H1 k
    exact isi_run t ty h (q _ F1 H1 g1 (.bl r))
theorem isi_int {v : V} {H : Hp} (k : Kd K H v) : ∃ t, TyX K H v t ∧ PySem.W.kitOne K t (.type "int") = some (isI v) := by
  rcases kd_ty k with ⟨rfl, t⟩ | ⟨b, rfl, t⟩ | ⟨i, rfl, t⟩ | ⟨x, rfl, t⟩ | ⟨a, rfl, ⟨_, t⟩ | ⟨_, t⟩ | t⟩
  all_goals exact ⟨_, t, kb (by dsimp only [isI]; decide +kernel)⟩
theorem isi_bool {v : V} {H : Hp} (k : Kd K H v) : ∃ t, TyX K H v t ∧ PySem.W.kitOne K t (.type "bool") = some (isB v) := by
  rcases kd_ty k with ⟨rfl, t⟩ | ⟨b, rfl, t⟩ | ⟨i, rfl, t⟩ | ⟨x, rfl, t⟩ | ⟨a, rfl, ⟨_, t⟩ | ⟨_, t⟩ | t⟩
  all_goals exact ⟨_, t, kb (by dsimp only [isB]; decide +kernel)⟩
theorem kd_var {i : Nat} {v : V} (h : ρ[i]? = some (.fz (kdP K v))) : EvH B F0 ρ (tVar i) (kdP K v) := evh_fz st_kdP h
/-- lo <= x <= hi -/
theorem ev_chain {lo x hi : Int} (ha : EvH B F0 ρ ta (dat K (.int lo))) (hb : EvH B F0 ρ tb (dat K (.int x))) (hc : EvH B F0 ρ tc (dat K (.int hi))) :
    Ev B F0 ρ (tChain (rI0 fun i j => .bl (decide (i ≤ j))) (rI0 fun i j => .bl (decide (i ≤ j))) ta tb tc) (nwd K B (.bool (decide (lo ≤ x) && decide (x ≤ hi)))) := fun F H σ c Q q =>
  ha F H σ c _ fun v1 F1 H1 g1 p1 => hb F1 H1 σ (c.go g1) _ fun v2 F2 H2 g2 p2 => by
    cases p1; cases p2
    refine ⟨lo, x, rfl, rfl, _, rfl, ?_⟩
    cases e : decide (lo ≤ x) with
    | true =>
      refine iteT (hc F2 H2 σ ((c.go g1).go g2) _ fun v3 F3 H3 g3 p3 => ?_)
      cases p3
      refine ⟨x, hi, rfl, rfl, q _ F3 H3 (g1.trans (g2.trans g3)) ?_⟩
      rw [e]
      exact .bl _
    | false =>
      refine iteF (q _ F2 H2 (g1.trans g2) ?_)
      rw [e]
      exact .bl _
end

/-! ### owned things changed, with new things beside -/
/-- what stood stands, but at as -/
structure Ch (as : List Addr) (F H F' H' : Hp) : Prop where
  f : Same F F'
  i : Same F' H'
  h : ∀ a o, a ∉ as → H a = some o → H' a = some o
  n : ∀ a o, H a = some o → isTup o = false → F a = none → F' a = none
  t : ∀ a o, F' a = some o → isTbl o = true → F a = some o
theorem Cfg.chF {B F0 F H F' H' : Hp} {σ : St} {ρ : List Sl} (c : Cfg B F0 F H σ ρ) {i : Nat} {m m' : Hp → Hp → V → List Addr → Prop} (hi : ρ[i]? = some (.mo m)) (st' : MStab m')
    (k : ∀ v as, σ[i]? = some (some v) → m F H v as → m' F' H' v as ∧ Ch as F H F' H' ∧ (∀ a ∈ as, ∃ o, H' a = some o ∧ isTup o = false)) : Cfg B F0 F' H' σ (ρ.set i (.mo m')) := by
  obtain ⟨w, o⟩ := c.own
  obtain ⟨st, v, ev, hm⟩ := o.sl i _ hi
  obtain ⟨q1, q2, q3⟩ := k v (w i) ev hm
  have hl : i < ρ.length := (List.getElem?_eq_some_iff.mp hi).1
  have nf : ∀ a ∈ w i, F' a = none := fun a ha => by
    obtain ⟨h1, _, u, h3, h4⟩ := o.at_ i a ha
    exact q2.n a u h3 h4 h1
  have gB : ∀ a u, B a = some u → H' a = some u := fun a u e =>
    q2.h a u (fun z => by have := (o.at_ i a z).2.1; rw [e] at this; cases this) (c.gr.h a u e)
  refine ⟨⟨c.gr.f.trans q2.f, gB, q2.i, fun a u h t z => q2.n a u (c.gr.h a u h) t (c.gr.n a u h t z), fun a u e t => c.gr.t a u (q2.t a u e t) t⟩, by simp [c.len], w, o.dj, fun j a ha => ?_, fun j s hs => ?_⟩
  · obtain ⟨h1, h2, u, h3, h4⟩ := o.at_ j a ha
    refine ⟨q2.n a u h3 h4 h1, h2, ?_⟩
    by_cases hj : a ∈ w i
    · exact q3 a hj
    · exact ⟨u, q2.h a u hj h3, h4⟩
  · by_cases hj : j = i
    · subst hj
      rw [List.getElem?_set_self hl] at hs
      cases hs
      exact ⟨st', v, ev, q1⟩
    · rw [List.getElem?_set_ne (fun e => hj e.symm)] at hs
      have q := o.sl j s hs
      cases s with
      | no => trivial
      | fz f => obtain ⟨st1, v1, e1, p1⟩ := q; exact ⟨st1, v1, e1, st1 _ _ _ q2.f p1⟩
      | mo m2 =>
        obtain ⟨st2, v2, e2, p2⟩ := q
        refine ⟨st2, v2, e2, st2 _ _ _ _ _ _ q2.f (fun a ha => ?_) p2⟩
        obtain ⟨_, _, u, h3, _⟩ := o.at_ j a ha
        rw [h3, q2.h a u (fun z => hj (o.dj j i a ha z)) h3]

/-! ### towns -/
structure TSt where
  many : Int
  built : Int
  held : List (Int × Int × Int)
/-- the attributes, in the order in which __init__ stores them -/
def tf (n b : Int) (d : Addr) : List (Str × V) := [("many", .int n), ("built", .int b), ("held", .ref d)]
def heldD (h : List (Int × Int × Int)) : List (Int × PyData) := h.map fun p => (p.1, pairD p.2)
def e0 : Hp := fun _ => none
def isTown (K : PySem.W.Frag) (C : Addr) (st : TSt) : Pd := fun H v => ∃ t dx d kv, v = .ref t ∧ H t = some (.ins C dx (tf st.many st.built d)) ∧ H d = some (.dK kv) ∧ KvAll K e0 H kv (heldD st.held)
theorem st_isTown {K : PySem.W.Frag} {C : Addr} {st : TSt} : Stab (isTown K C st) := fun F F' v s ⟨t, dx, d, kv, h1, h2, h3, h4⟩ => ⟨t, dx, d, kv, h1, s _ _ h2, s _ _ h3, kvAll_mono s h4⟩
/-- an owned town -/
def mtP (K : PySem.W.Frag) (C : Addr) (st : TSt) : Hp → Hp → V → List Addr → Prop := fun F H v as => ∃ t dx d kv, v = .ref t ∧ as = [t, d] ∧ H t = some (.ins C dx (tf st.many st.built d)) ∧ H d = some (.dK kv) ∧ KvAll K e0 F kv (heldD st.held)
theorem st_mt {K : PySem.W.Frag} {C : Addr} {st : TSt} : MStab (mtP K C st) := fun F F' H H' v as s e ⟨t, dx, d, kv, h1, h2, h3, h4, h5⟩ => by
  subst h2
  exact ⟨t, dx, d, kv, h1, rfl, by rw [e t (by simp)]; exact h3, by rw [e d (by simp)]; exact h4, kvAll_mono s h5⟩
abbrev mt (K : PySem.W.Frag) (C : Addr) (st : TSt) : Sl := .mo (mtP K C st)
/-- a town as it should be: what the methods keep -/
structure TOk (st : TSt) : Prop where
  lo : 1 ≤ st.many
  hi : st.many ≤ 16
  b0 : 0 ≤ st.built
  b1 : st.built ≤ 100000
  keys : st.held.Pairwise fun p q => p.1 < q.1
  rng : ∀ p ∈ st.held, 0 ≤ p.1 ∧ p.1 < st.built ∧ 0 ≤ p.2.1 ∧ p.2.1 < st.many ∧ 0 ≤ p.2.2 ∧ p.2.2 < st.many ∧ p.2.1 ≠ p.2.2
  few : st.held.length ≤ 60
theorem ks1 : ¬ (("many" : Str) = "built") := by decide +kernel
theorem ks2 : ¬ (("many" : Str) = "held") := by decide +kernel
theorem ks3 : ¬ (("built" : Str) = "held") := by decide +kernel
theorem tf_many {n b : Int} {d : Addr} : (tf n b d).lookup ("many" : Str) = some (.int n) := by
  simp only [tf, List.lookup_cons, show (("many" : Str) == "many") = true from by decide +kernel]
theorem tf_built {n b : Int} {d : Addr} : (tf n b d).lookup ("built" : Str) = some (.int b) := by
  simp only [tf, List.lookup_cons, show (("built" : Str) == "many") = false from by decide +kernel, show (("built" : Str) == "built") = true from by decide +kernel]
theorem tf_held {n b : Int} {d : Addr} : (tf n b d).lookup ("held" : Str) = some (.ref d) := by
  simp only [tf, List.lookup_cons, show (("held" : Str) == "many") = false from by decide +kernel, show (("held" : Str) == "built") = false from by decide +kernel, show (("held" : Str) == "held") = true from by decide +kernel]
theorem tf_no {n b : Int} {d : Addr} {m : Str} (h1 : (m == ("many" : Str)) = false) (h2 : (m == ("built" : Str)) = false) (h3 : (m == ("held" : Str)) = false) : (tf n b d).lookup m = none := by
  simp only [tf, List.lookup_cons, h1, h2, h3]
  rfl
theorem tf_put {n b c : Int} {d : Addr} : putF "built" (.int c) (tf n b d) = tf n c d := by
  show (if ("many" : Str) = "built" then _ else (("many" : Str), V.int n) :: (if ("built" : Str) = "built" then (("built" : Str), V.int c) :: [(("held" : Str), V.ref d)] else _)) = _
  rw [if_neg ks1, if_pos rfl]
  rfl
section
variable {K : PySem.W.Frag} {B F0 : Hp} {ρ : List Sl} {te ta tb tc : TE} {d e : PyData} {ds es : List PyData} {f : Pd} {C : Addr} {st : TSt}
theorem town_in {m : Str} (h1 : (m == ("many" : Str)) = false) (h2 : (m == ("built" : Str)) = false) (h3 : (m == ("held" : Str)) = false) : ∀ H v, isTown K C st H v → ∃ a dx fl, v = .ref a ∧ H a = some (.ins C dx fl) ∧ fl.lookup m = none := fun H v ⟨t, dx, d, kv, e, h, _⟩ =>
  ⟨t, dx, _, e, h, tf_no h1 h2 h3⟩
theorem evh_town {i : Nat} (h : ρ[i]? = some (.fz (isTown K C st))) : EvH B F0 ρ (tVar i) (isTown K C st) := evh_fz st_isTown h
theorem evh_mt {i : Nat} (h : ρ[i]? = some (mt K C st)) : EvH B F0 ρ (tVar i) (isTown K C st) := fun F H σ c Q q => by
  obtain ⟨w, o⟩ := c.own
  obtain ⟨_, v, h1, t, dx, d, kv, rfl, _, h4, h5, h6⟩ := o.sl i _ h
  exact ⟨_, h1, q _ F H (Gr.refl c.i) ⟨t, dx, d, kv, rfl, h4, h5, kvAll_mono c.i h6⟩⟩
/-- the town's own fields -/
theorem ev_many (cl : Cls K C) (na : NoAttr K C "many") (ha : EvH B F0 ρ ta (isTown K C st)) : Ev B F0 ρ (tFld K ta "many") (nwd K B (.int st.many)) := fun F H σ c Q q =>
  ha F H σ c _ fun v F' H' g ⟨t, dx, d, kv, e, h, _⟩ => ⟨t, C, dx, _, _, e, h, cl, na, tf_many, q _ F' H' g (.int _)⟩
theorem ev_built (cl : Cls K C) (na : NoAttr K C "built") (ha : EvH B F0 ρ ta (isTown K C st)) : Ev B F0 ρ (tFld K ta "built") (nwd K B (.int st.built)) := fun F H σ c Q q =>
  ha F H σ c _ fun v F' H' g ⟨t, dx, d, kv, e, h, _⟩ => ⟨t, C, dx, _, _, e, h, cl, na, tf_built, q _ F' H' g (.int _)⟩
theorem evh_held (cl : Cls K C) (na : NoAttr K C "held") (ha : EvH B F0 ρ ta (isTown K C st)) : EvH B F0 ρ (tFld K ta "held") (isDict K (heldD st.held)) := fun F H σ c Q q =>
  ha F H σ c _ fun v F' H' g ⟨t, dx, d, kv, e, h, h2, h3⟩ => ⟨t, C, dx, _, _, e, h, cl, na, tf_held, q _ F' H' g ⟨d, kv, rfl, .inl h2, e0, h3⟩⟩
/-- sorted(a dict), its keys already rising -/
theorem pw_perm {ns ms : List Int} (p : ms.Perm ns) (h1 : ms.Pairwise (· ≤ ·)) (h2 : ns.Pairwise (· < ·)) : ms = ns :=
  List.Perm.eq_of_pairwise (le := (· ≤ ·)) (fun a b _ _ h1 h2 => Int.le_antisymm h1 h2) h1 (h2.imp fun h => Int.le_of_lt h) p
end
end Lay
namespace Lay
open PySem L2 PySem.Spec PyProof.Rows
/-! the layer's rules with the written part named (within a comprehension's block it is the def's) -/
section
variable {X : Cx} (K : PySem.W.Frag) {te ta tb : TE} {e o a b : Expr} {es : List Expr} {f : Str} {pos apos : Pos} {t : TA}
theorem kop_catA (hK : X.K = K := by rfl) : OpR X (binaryOp .Add) (rCatA K) := hK ▸ op_catA
theorem kop_in_seq (hK : X.K = K := by rfl) : OpR X (compareOp .In) (rIn K false) := hK ▸ op_in_seq
theorem kop_notIn_seq (hK : X.K = K := by rfl) : OpR X (compareOp .NotIn) (rIn K true) := hK ▸ op_notIn_seq
theorem kop_eqD (hu : X.A.units + 64 < cLine) (hK : X.K = K := by rfl) : OpR X (compareOp .Eq) (rEqD K) := hK ▸ op_eqD hu
theorem kop_neD (hu : X.A.units + 64 < cLine) (hK : X.K = K := by rfl) : OpR X (compareOp .NotEq) (rNeD K) := hK ▸ op_neD hu
theorem kop_inD (hu : X.A.units + 65 < cLine) (hK : X.K = K := by rfl) : OpR X (compareOp .In) (rInD K) := hK ▸ op_inD hu
theorem kop_notInD (hu : X.A.units + 65 < cLine) (hK : X.K = K := by rfl) : OpR X (compareOp .NotIn) (rNotInD K) := hK ▸ op_notInD hu
theorem kix_list (hK : X.K = K := by rfl) : IxR X (rIxL K) := hK ▸ ix_list
theorem kix_tup (hK : X.K = K := by rfl) : IxR X (rIxT K) := hK ▸ ix_tup
theorem ksl_list (hK : X.K = K := by rfl) : SlR X (rSlL K) := hK ▸ sl_list
theorem ksl_tup (hK : X.K = K := by rfl) : SlR X (rSlT K) := hK ▸ sl_tup
theorem kcall_len_seq (hK : X.K = K := by rfl) : CallR X (.builtin "len") (fun xs H Q => ∃ p ys, xs = [.ref p] ∧ (SqL K H p ys ∨ SqT K H p ys) ∧ Q (.int ys.length) H) := hK ▸ call_len_seq
theorem kcall_list_of (hK : X.K = K := by rfl) : CallR X (.type "list") (fun xs H Q => ∃ p ys, xs = [.ref p] ∧ (SqL K H p ys ∨ SqT K H p ys) ∧ ∀ l, H l = none → Q (.ref l) (upd H l (.lst ys))) := hK ▸ call_list_of
theorem kcr_sorted (hK : X.K = K := by rfl) : CallR X (.builtin "sorted") (rSorted K) := hK ▸ cr_sorted
theorem kcall_isi (hK : X.K = K := by rfl) : CallR X (.builtin "isinstance") (rIsi K) := hK ▸ call_isi
theorem kpe_fld (he : PE X e ta) (hb : attributeBase e f X.env (eval e X.env) = eval e X.env) (hK : X.K = K := by rfl) : PE X (.Attribute e f pos) (tFld K ta f) := hK ▸ pe_fld he hb
theorem kpi_list {tg l : Expr} {tl : TE} (hl : PE X l tl) (hK : X.K = K := by rfl) : PI X tg l (iList K tl) := hK ▸ pi_list hl
theorem kpi_tup {tg l : Expr} {tl : TE} (hl : PE X l tl) (hK : X.K = K := by rfl) : PI X tg l (iTup K tl) := hK ▸ pi_tup hl
theorem kpg_tup {es : List Expr} {k : Nat} {t : TGs} (n : Nat) (hc : X.calm = true) (h : PGs X es t) (hn : (assignEach es X.env).length = n := by rfl) (hst : (assignEach es X.env).findIdx? (·.1) = none := by rfl) (hK : X.K = K := by rfl) : PG X (.Tuple es k pos) (gTup K n t) :=
  hK ▸ pg_tup hc h hn hst
theorem glob_int {n : Int} {x : Str} (hg : Gl X x) (h : ∃ t, X.mg x = some (.int n t)) (hd : (x == ("__debug__" : Str)) = false := by decide) : PE X (.Name x pos) (tC (.int n)) := by
  obtain ⟨t, h⟩ := h
  exact pe_glob hg h ⟨t, rfl⟩ hd
theorem glob_str {n : Str} {x : Str} (hg : Gl X x) (h : ∃ t, X.mg x = some (.str n t)) (hd : (x == ("__debug__" : Str)) = false := by decide) : PE X (.Name x pos) (tC (.str n)) := by
  obtain ⟨t, h⟩ := h
  exact pe_glob hg h ⟨t, rfl⟩ hd
/-- calls whose exceptions go on to the def's own wish -/
theorem ok_callP {k : Nat} {x : Str} {ps : List Str} {sp : Sp} {E : XK} {p : Pos} (tk : Takes X (fun cls d _ H => E cls d H)) (G : Ok X.prog X.w X.K X.mg X.base (L2.CX X.prog X.w) k x ps sp) (hr : Room k X.A) (hg : Gl X x) (ha : PA X (e :: es) t) (hdb : (x == ("__debug__" : Str)) = false := by decide)
    (he : starEach (e :: es) X.env = (false, eval e X.env) :: starEach es X.env := by rfl) (hpl : (backTo pos (starEach es X.env)).any (·.1) = false := by rfl) : PE X (.Call (.Name x p) (e :: es) [] pos) (tCall sp [] E t) := by
  obtain ⟨f, fd, F, hm, hk, hb⟩ := G.ex
  exact pe_call F hr hg hm hk hb .nil (passes_call tk fun _ _ _ _ h => h) ha hdb he hpl
theorem ok_methP {pl : Sem Bool} {k : Nat} {C : Addr} {m : Str} {ps : List Str} {sp : Sp} {E : XK} (tk : Takes X (fun cls d _ H => E cls d H)) (G : OkM X.prog X.w X.K X.mg X.base (L2.CX X.prog X.w) k C m ps sp) (hr : Room k X.A) (he : PE X o ta) (ha : PA X (e :: es) t)
    (hst : starEach (e :: es) X.env = (false, eval e X.env) :: starEach es X.env := by rfl) (hpl : (backTo pos (starEach es X.env)).any (·.1) = false := by rfl)
    (ht : eval (.Call (.Attribute o m apos) (e :: es) [] pos) X.env = (do
      let ov ← eval o X.env
      standAt apos.atName
      let (f, first) ← holding [ov] (getMethod ov m pl)
      callWith pos f first (backTo pos (starEach (e :: es) X.env)) (backToKw pos (keywordEach [] X.env))) := by rfl) : PE X (.Call (.Attribute o m apos) (e :: es) [] pos) (tMeth C m sp [] E ta t) := by
  obtain ⟨f, fd, F, hm, hc, hb⟩ := G.ex
  exact pe_meth he hc hm F hr hb .nil (passes_call tk fun _ _ _ _ h => h) ha hst hpl ht
/-- a class made by an __init__ that may raise -/
structure OkMk (P : Program) (w : World) (K : PySem.W.Frag) (mg : Str → Option Value) (base : Heap) (C : CXT) (k : Nat) (x : Str) (A : Addr) (ps : List Str) (sp : Sp) : Prop where
  ex : ∃ f fd, FnOk P w K mg base C k f fd ps sp ∧ Mk K A f ∧ mg x = some (.ref A) ∧ Binds K fd ps []
theorem ok_make {k : Nat} {x : Str} {C : Addr} {ps : List Str} {sp : Sp} {p : Pos} (G : OkMk X.prog X.w X.K X.mg X.base (L2.CX X.prog X.w) k x C ps sp) (hr : Room (k + 1) X.A) (hg : Gl X x) (ha : PA X (e :: es) t) (hdb : (x == ("__debug__" : Str)) = false := by decide)
    (he : starEach (e :: es) X.env = (false, eval e X.env) :: starEach es X.env := by rfl) (hpl : (backTo pos (starEach es X.env)).any (·.1) = false := by rfl) : PE X (.Call (.Name x p) (e :: es) [] pos) (tMake C sp [] E0 t) := by
  obtain ⟨f, fd, F, M, hm, hb⟩ := G.ex
  exact pe_make M F hr hg hm hb .nil passL ha hdb he hpl
theorem ok_makeP {k : Nat} {x : Str} {C : Addr} {ps : List Str} {sp : Sp} {p : Pos} {E : XK} (tk : Takes X (fun cls d _ H => E cls d H)) (G : OkMk X.prog X.w X.K X.mg X.base (L2.CX X.prog X.w) k x C ps sp) (hr : Room (k + 1) X.A) (hg : Gl X x) (ha : PA X (e :: es) t) (hdb : (x == ("__debug__" : Str)) = false := by decide)
    (he : starEach (e :: es) X.env = (false, eval e X.env) :: starEach es X.env := by rfl) (hpl : (backTo pos (starEach es X.env)).any (·.1) = false := by rfl) : PE X (.Call (.Name x p) (e :: es) [] pos) (tMake C sp [] E t) := by
  obtain ⟨f, fd, F, M, hm, hb⟩ := G.ex
  exact pe_make M F hr hg hm hb .nil (passes_call tk fun _ _ _ _ h => h) ha hdb he hpl
end
end Lay
namespace Lay
open PySem L2 PySem.Spec PyProof.Rows
section
variable {X : Cx} (K : PySem.W.Frag) {te : TE} {e a b : Expr} {pos p : Pos} {ta : TA}
theorem kpe_revL {k : Nat} {p1 p2 p3 : Pos} (he : PE X e te) (hK : X.K = K := by rfl) : PE X (.Subscript e (.Slice none none (some (.UnaryOp .USub (.Constant (.int 1) k p1) p2)) p3) pos) (tRevL K te) := hK ▸ pe_revL he
theorem kcr_all (hc : X.calm = true) (hK : X.K = K := by rfl) : CallR X (.builtin "all") (rAll K) := hK ▸ cr_all hc
theorem kcr_sum (hc : X.calm = true) (hK : X.K = K := by rfl) : CallR X (.builtin "sum") (rSum K) := hK ▸ cr_sum hc
theorem kcall_tuple_of (hK : X.K = K := by rfl) : CallR X (.type "tuple") (fun xs H Q => ∃ p ys, xs = [.ref p] ∧ ((SqL K H p ys ∧ ∀ l, H l = none → Q (.ref l) (upd H l (.tup ys))) ∨ (SqT K H p ys ∧ Q (.ref p) H))) := hK ▸ call_tuple_of
end
section
variable {K : PySem.W.Frag} {B F0 : Hp} {ρ ρ1 : List Sl} {te ta tb tc : TE} {d e : PyData} {ds es : List PyData} {f : Pd}
/-! any data, told as it may be read -/
theorem dpAll_app2 {F : Hp} {xs ys : List V} (h1 : DpAll K F xs ds) (h2 : DpAll K F ys es) : DpAll K F (xs ++ ys) (ds ++ es) := dpAll_app h1 h2
/-- xs + ys of new lists (both tracked) -/
theorem evm_cat (ha : Ev B F0 ρ ta (nwd K B (.list ds))) (hb : Ev B F0 ρ tb (nwd K B (.list es))) (hz : ds.length + es.length ≤ 100000) : EvM K B F0 ρ (tOp rCat ta tb) (ds ++ es) := fun F H σ c Q q =>
  ha F H σ c _ fun x F1 H1 g1 p1 => hb F1 H1 σ (c.go g1) _ fun y F2 H2 g2 p2 => by
    cases p1 with
    | @lst a xs _ _ a1 a2 =>
      cases p2 with
      | @lst b ys _ _ b1 b2 =>
        refine ⟨a, b, xs, ys, rfl, rfl, g2.i _ _ (g2.f _ _ a1), g2.i _ _ b1, sz_of (by rw [nwAll_len a2, nwAll_len b2]; exact hz), fun p hp => ?_⟩
        have g := g1.trans g2
        exact q p _ F2 _ (g.trans (Gr.new g.i hp)) (g.i.free hp) (g.fresh hp) upd_same (nwAll_app (nwAll_mono (Same.refl _) g2.f a2) b2)
/-- a list read now (tracked), its items said of what stands still -/
def EvN (K : PySem.W.Frag) (B F0 : Hp) (ρ : List Sl) (te : TE) (ds : List PyData) : Prop := ∀ F H σ, Cfg B F0 F H σ ρ → ∀ Q : VK, (∀ a xs F' H', Gr F H F' H' → H' a = some (.lst xs) → NwAll K B F' xs ds → Q (.ref a) H') → te σ H Q
theorem evn_ml {i : Nat} (h : ρ[i]? = some (ml K B ds)) : EvN K B F0 ρ (tVar i) ds := fun F H σ c Q q => by
  obtain ⟨w, o⟩ := c.own
  obtain ⟨_, v, h1, l, xs, rfl, _, h4, h5⟩ := o.sl i _ h
  exact ⟨_, h1, q l xs F H (Gr.refl c.i) h4 h5⟩
theorem Ev.n (h : Ev B F0 ρ te (nwd K B (.list ds))) : EvN K B F0 ρ te ds := fun F H σ c Q q => h F H σ c _ fun v F' H' g p => by
  cases p with
  | @lst a xs _ _ a1 a2 => exact q a xs F' H' g (g.i _ _ a1) a2
theorem EvM.n (h : EvM K B F0 ρ te ds) : EvN K B F0 ρ te ds := h.nw.n
theorem evm_catN (ha : EvN K B F0 ρ ta ds) (hb : EvN K B F0 ρ tb es) (hz : ds.length + es.length ≤ 100000) : EvM K B F0 ρ (tOp rCat ta tb) (ds ++ es) := fun F H σ c Q q =>
  ha F H σ c _ fun a xs F1 H1 g1 a1 a2 => hb F1 H1 σ (c.go g1) _ fun b ys F2 H2 g2 b1 b2 => by
    refine ⟨a, b, xs, ys, rfl, rfl, g2.h _ _ a1, b1, sz_of (by rw [nwAll_len a2, nwAll_len b2]; exact hz), fun p hp => ?_⟩
    have g := g1.trans g2
    exact q p _ F2 _ (g.trans (Gr.new g.i hp)) (g.i.free hp) (g.fresh hp) upd_same (nwAll_app (nwAll_mono (Same.refl _) g2.f a2) b2)
/-- list(xs), list(t): items without lists -/
theorem evm_listL (ha : EvH B F0 ρ ta (dat K (.list ds))) (fl : flatDs ds = true) : EvM K B F0 ρ (tCB (fun xs H Q => ∃ p ys, xs = [.ref p] ∧ (SqL K H p ys ∨ SqT K H p ys) ∧ ∀ l, H l = none → Q (.ref l) (upd H l (.lst ys))) (tCons ta tNil)) ds := fun F H σ c Q q =>
  (ha.nwl fl) F H σ c _ fun v F1 H1 g1 p1 => by
    obtain ⟨a, xs, rfl, q1, q2⟩ := p1
    exact ⟨a, xs, rfl, .inl q1, fun p hp => q p _ F1 _ (g1.trans (Gr.new g1.i hp)) (g1.i.free hp) (g1.fresh hp) upd_same q2⟩
theorem evm_listT (ha : EvH B F0 ρ ta (dat K (.tuple ds))) (fl : flatDs ds = true) : EvM K B F0 ρ (tCB (fun xs H Q => ∃ p ys, xs = [.ref p] ∧ (SqL K H p ys ∨ SqT K H p ys) ∧ ∀ l, H l = none → Q (.ref l) (upd H l (.lst ys))) (tCons ta tNil)) ds := fun F H σ c Q q =>
  (ha.nw (B := B) (show flatD (.tuple ds) = true from fl)) F H σ c _ fun v F1 H1 g1 p1 => by
    cases p1 with
    | @tup a xs _ q1 q2 => exact ⟨a, xs, rfl, .inr (sqt_mono g1.i q1), fun p hp => q p _ F1 _ (g1.trans (Gr.new g1.i hp)) (g1.i.free hp) (g1.fresh hp) upd_same q2⟩
/-- tuple(xs) of a list -/
theorem ev_tupleL (ha : Ev B F0 ρ ta (nwd K B (.list ds))) : Ev B F0 ρ (tCB (fun xs H Q => ∃ p ys, xs = [.ref p] ∧ ((SqL K H p ys ∧ ∀ l, H l = none → Q (.ref l) (upd H l (.tup ys))) ∨ (SqT K H p ys ∧ Q (.ref p) H))) (tCons ta tNil)) (nwd K B (.tuple ds)) := fun F H σ c Q q =>
  ha F H σ c _ fun v F1 H1 g1 p1 => by
    cases p1 with
    | @lst a xs _ _ a1 a2 =>
      refine ⟨a, xs, rfl, .inl ⟨.inl (.inl (g1.i _ _ a1)), fun p hp => ?_⟩⟩
      have g2 : Gr F H F1 (upd H1 p (.tup xs)) := g1.trans (Gr.new g1.i hp)
      obtain ⟨F3, g3, s, e⟩ := g2.putT (o := .tup xs) rfl upd_same
      exact q _ F3 _ g3 (.tup (.inl (.inl e)) (nwAll_mono (Same.refl _) s a2))
theorem ev_tupleN (ha : EvN K B F0 ρ ta ds) : Ev B F0 ρ (tCB (fun xs H Q => ∃ p ys, xs = [.ref p] ∧ ((SqL K H p ys ∧ ∀ l, H l = none → Q (.ref l) (upd H l (.tup ys))) ∨ (SqT K H p ys ∧ Q (.ref p) H))) (tCons ta tNil)) (nwd K B (.tuple ds)) := fun F H σ c Q q =>
  ha F H σ c _ fun a xs F1 H1 g1 a1 a2 => by
    refine ⟨a, xs, rfl, .inl ⟨.inl (.inl a1), fun p hp => ?_⟩⟩
    have g2 : Gr F H F1 (upd H1 p (.tup xs)) := g1.trans (Gr.new g1.i hp)
    obtain ⟨F3, g3, s, e⟩ := g2.putT (o := .tup xs) rfl upd_same
    exact q _ F3 _ g3 (.tup (.inl (.inl e)) (nwAll_mono (Same.refl _) s a2))
/-- xs[::-1] -/
theorem evm_rev (ha : EvH B F0 ρ ta (dat K (.list ds))) (fl : flatDs ds = true) : EvM K B F0 ρ (tRevL K ta) ds.reverse := fun F H σ c Q q =>
  (ha.nwl fl) F H σ c _ fun v F1 H1 g1 p1 => by
    obtain ⟨a, xs, rfl, q1, q2⟩ := p1
    exact ⟨a, xs, rfl, q1, fun p hp => q p _ F1 _ (g1.trans (Gr.new g1.i hp)) (g1.i.free hp) (g1.fresh hp) upd_same (nwAll_rev q2)⟩
/-- t[lo:hi], not the whole -/
theorem ev_sliceT {tl th : TO} {lo hi : Option Int} (h : EvH B F0 ρ te (dat K (.tuple ds))) (fl : flatDs ds = true) (h1 : EvO K B F0 ρ tl lo) (h2 : EvO K B F0 ρ th hi) (hw : ¬ (HT.sIx ds.length 0 lo = 0 ∧ HT.sIx ds.length ds.length hi = ds.length)) :
    Ev B F0 ρ (tSl (rSlT K) te tl th) (nwd K B (.tuple (cutD ds lo hi))) := fun F H σ c Q q =>
  (h.nw (B := B) (show flatD (.tuple ds) = true from fl)) F H σ c _ fun v F1 H1 g1 p1 => h1 F1 H1 σ (c.go g1) _ fun F2 H2 g2 => h2 F2 H2 σ ((c.go g1).go g2) _ fun F3 H3 g3 => by
    cases p1 with
    | @tup a xs _ q1 q2 =>
      have e : xs.length = ds.length := nwAll_len q2
      have g := g1.trans (g2.trans g3)
      refine ⟨a, xs, rfl, sqt_mono (g2.h.trans g3.h) (sqt_mono g1.i q1), by rw [e]; exact hw, fun p hp => ?_⟩
      have g4 : Gr F H F3 (upd H3 p (.tup (cutV xs lo hi))) := g.trans (Gr.new g.i hp)
      obtain ⟨F5, g5, s, e5⟩ := g4.putT (o := .tup (cutV xs lo hi)) rfl upd_same
      refine q _ F5 _ g5 (.tup (.inl (.inl e5)) ?_)
      unfold cutV cutD
      rw [e]
      exact nwAll_take _ (nwAll_drop _ (nwAll_mono (Same.refl _) ((g2.f.trans g3.f).trans s) q2))
/-- all of truths -/
theorem ev_all {bs : List Bool} (ha : EvH B F0 ρ ta (dat K (.list (bs.map .bool)))) : Ev B F0 ρ (tCB (rAll K) (tCons ta tNil)) (nwd K B (.bool (bs.all id))) := fun F H σ c Q q =>
  ha F H σ c _ fun v F1 H1 g1 p1 => by
    cases p1 with
    | lst h1 h2 =>
      rw [dpAll_bls h2] at h1
      exact ⟨_, bs, rfl, h1, q _ F1 H1 g1 (.bl _)⟩
/-- sum of ints -/
theorem ev_sum {ns : List Int} (ha : EvH B F0 ρ ta (dat K (intsD ns))) : Ev B F0 ρ (tCB (rSum K) (tCons ta tNil)) (nwd K B (.int ns.sum)) := fun F H σ c Q q =>
  ha F H σ c _ fun v F1 H1 g1 p1 => by
    cases p1 with
    | lst h1 h2 =>
      rw [dpAll_ints h2] at h1
      exact ⟨_, ns, rfl, h1, q _ F1 H1 g1 (.int _)⟩
/-- truths compared by is -/
theorem ev_isB {a c : Bool} (ha : EvH B F0 ρ ta (dat K (.bool a))) (hb : EvH B F0 ρ tb (dat K (.bool c))) : Ev B F0 ρ (tOp rIsB ta tb) (nwd K B (.bool (decide (a = c)))) :=
  evo st_dat ha hb (fun F => .bl _) fun H x y hx hy Q q => by
    cases hx; cases hy
    exact ⟨a, c, rfl, rfl, q⟩
theorem ev_notB {a c : Bool} (ha : EvH B F0 ρ ta (dat K (.bool a))) (hb : EvH B F0 ρ tb (dat K (.bool c))) : Ev B F0 ρ (tOp rNotB ta tb) (nwd K B (.bool (!decide (a = c)))) :=
  evo st_dat ha hb (fun F => .bl _) fun H x y hx hy Q q => by
    cases hx; cases hy
    exact ⟨a, c, rfl, rfl, q⟩
theorem ev_eqB {a b : Bool} (ha : EvH B F0 ρ ta (dat K (.bool a))) (hb : EvH B F0 ρ tb (dat K (.bool b))) : Ev B F0 ρ (tOp rEq ta tb) (nwd K B (.bool (decide (a = b)))) :=
  evo st_dat ha hb (fun F => .bl _) fun H x y hx hy Q q => by
    cases hx; cases hy
    refine ⟨rfl, ?_⟩
    have e : decide (V.bl a = V.bl b) = decide (a = b) := by cases a <;> cases b <;> rfl
    rw [e]; exact q
theorem ev_neB {a b : Bool} (ha : EvH B F0 ρ ta (dat K (.bool a))) (hb : EvH B F0 ρ tb (dat K (.bool b))) : Ev B F0 ρ (tOp rNe ta tb) (nwd K B (.bool (!decide (a = b)))) :=
  evo st_dat ha hb (fun F => .bl _) fun H x y hx hy Q q => by
    cases hx; cases hy
    refine ⟨rfl, ?_⟩
    have e : decide (V.bl a = V.bl b) = decide (a = b) := by cases a <;> cases b <;> rfl
    rw [e]; exact q
/-- isinstance of data -/
theorem ev_isiD {n : String} {r : Bool} (ha : EvH B F0 ρ ta (dat K d)) (hk : ∀ H v, Dp K H v d → ∃ t, TyX K H v t ∧ PySem.W.kitOne K t (.type n) = some r) : Ev B F0 ρ (tCB (rIsi K) (tCons ta (tCons (tC (.ty n)) tNil))) (nwd K B (.bool r)) := fun F H σ c Q q =>
  ha F H σ c _ fun x F1 H1 g1 p => by
    obtain ⟨t, ty, h⟩ := hk H1 x p
    exact isi_run t ty h (q _ F1 H1 g1 (.bl r))
/-- the name of a datum's class -/
def tyD : PyData → String
  | .none => "NoneType"
  | .bool _ => "bool"
  | .int _ => "int"
  | .str _ => "str"
  | .list _ => "list"
  | .tuple _ => "tuple"
  | .dict _ => "dict"
theorem tyx_sql {H : Hp} {a : Addr} {xs : List V} (k : SqL K H a xs) : TyX K H (.ref a) (.type "list") := by
  rcases k with (k | ⟨o, k⟩) | ⟨o, its, n, k, c, _⟩
  · exact .base (.lst k)
  · exact .base (.frz k)
  · exact .kList k c
theorem tyx_sqt {H : Hp} {a : Addr} {xs : List V} (k : SqT K H a xs) : TyX K H (.ref a) (.type "tuple") := by
  rcases k with (k | ⟨o, k⟩) | ⟨o, its, n, k, c, _⟩
  · exact .base (.tup k)
  · exact .fTuple k
  · exact .kTuple k c
theorem tyx_dp {H : Hp} {v : V} (h : Dp K H v d) : TyX K H v (.type (tyD d)) := by
  cases h with
  | non => exact .base .non
  | bl b => exact .base (.bl b)
  | int i => exact .base (.int i)
  | str x => exact .base (.str x)
  | lst h1 _ => exact tyx_sql h1
  | tup h1 _ => exact tyx_sqt h1
/-- a tuple of classes of their own names: int and bool apart -/
def isaB (n : String) (d : PyData) : Bool := tyD d == n || (n == "int" && tyD d == "bool")
theorem kit_isa (n : String) (hn : n = "int" ∨ n = "bool" ∨ n = "list" ∨ n = "tuple" ∨ n = "str") : kitB (tyD d) n = some (isaB n d) := by
  have key : ∀ m ∈ ["NoneType", "bool", "int", "str", "list", "tuple", "dict"], ∀ n ∈ ["int", "bool", "list", "tuple", "str"], kitB m n = some (m == n || (n == "int" && m == "bool")) := by decide +kernel
  have hm : tyD d ∈ ["NoneType", "bool", "int", "str", "list", "tuple", "dict"] := by cases d <;> simp [tyD]
  have hn2 : n ∈ ["int", "bool", "list", "tuple", "str"] := by
    rcases hn with h | h | h | h | h <;> rw [h] <;> simp
  exact key _ hm n hn2
theorem ev_isa {n : String} (ha : EvH B F0 ρ ta (dat K d)) (hn : n = "int" ∨ n = "bool" ∨ n = "list" ∨ n = "tuple" ∨ n = "str") : Ev B F0 ρ (tCB (rIsi K) (tCons ta (tCons (tC (.ty n)) tNil))) (nwd K B (.bool (isaB n d))) :=
  ev_isiD ha fun H v p => ⟨_, tyx_dp p, kb (kit_isa n hn)⟩
/-! walks over a tuple, over two lists at once -/
theorem evj_tupD (h : Ev B F0 ρ te (dat K (.tuple ds))) : EvJ B F0 ρ (iTup K te) (dat K) ds := fun F H σ c R r => h F H σ c _ fun v F' H' g p => by
  cases p with
  | @tup a xs _ h1 h2 =>
    refine ⟨a, rfl, ⟨xs, sqt_mono g.i h1⟩, r _ F' H' g ⟨fun i H2 hi s => ⟨xs, xs[i]'(by rw [dpAll_len h2]; exact hi), sqt_mono s h1, by simp [dpAll_len h2, hi]⟩, fun H2 s => ⟨xs, sqt_mono s h1, by rw [dpAll_len h2]; exact Nat.le_refl _⟩, fun i F2 H2 x H3 hi s1 s2 y => ?_⟩⟩
    obtain ⟨rfl, y⟩ := y
    obtain ⟨d, e1, e2⟩ := dpAll_getV h2 (y xs (sqt_mono (s1.trans s2) h1))
    exact ⟨F2, d, Gr.refl s2, e1, dp_mono s1 e2⟩
theorem evj_tupN (h : Ev B F0 ρ te (nwd K B (.tuple ds))) : EvJ B F0 ρ (iTup K te) (nwd K B) ds := fun F H σ c R r => h F H σ c _ fun v F' H' g p => by
  cases p with
  | @tup a xs _ h1 h2 =>
    refine ⟨a, rfl, ⟨xs, sqt_mono g.i h1⟩, r _ F' H' g ⟨fun i H2 hi s => ⟨xs, xs[i]'(by rw [nwAll_len h2]; exact hi), sqt_mono s h1, by simp [nwAll_len h2, hi]⟩, fun H2 s => ⟨xs, sqt_mono s h1, by rw [nwAll_len h2]; exact Nat.le_refl _⟩, fun i F2 H2 x H3 hi s1 s2 y => ?_⟩⟩
    obtain ⟨rfl, y⟩ := y
    obtain ⟨d, e1, e2⟩ := nwAll_getV h2 (y xs (sqt_mono (s1.trans s2) h1))
    exact ⟨F2, d, Gr.refl s2, e1, nw_mono (Same.refl _) s1 e2⟩
theorem evj_zip {α : Type} {e1 e2 : α → PyData} {ps : List α} (h1 : Ev B F0 ρ ta (dat K (.list (ps.map e1)))) (h2 : Ev B F0 ρ tb (dat K (.list (ps.map e2)))) : EvJ B F0 ρ (iZip K (tCons ta (tCons tb tNil))) (dat K) (ps.map fun p => .tuple [e1 p, e2 p]) := fun F H σ c R r =>
  h1 F H σ c _ fun v1 F1 H1 g1 p1 => h2 F1 H1 σ (c.go g1) _ fun v2 F2 H2 g2 p2 => by
    cases p1 with
    | @lst a xs _ a1 a2 =>
      cases p2 with
      | @lst b ys _ b1 b2 =>
        have g := g1.trans g2
        have lx : xs.length = ps.length := by rw [dpAll_len a2, List.length_map]
        have ly : ys.length = ps.length := by rw [dpAll_len b2, List.length_map]
        have sa2 : SqL K F2 a xs := g2.f.seq a1
        have w := walk_zip (K := K) (a := a) (b := b) (xs := xs) (ys := ys) (n := ps.length) (by rw [lx, ly]; simp)
        refine ⟨a, b, xs, ys, rfl, g.i.seq sa2, g.i.seq b1, r _ F2 H2 g ⟨fun i H3 hi s => w.goes i H3 (by simpa using hi) ⟨s.seq sa2, s.seq b1⟩, fun H3 s => by
          have := w.stops H3 ⟨s.seq sa2, s.seq b1⟩
          simpa using this, fun i F3 H3 x H4 hi s1 s2 y => ?_⟩⟩
        obtain ⟨T, x1, x2, rfl, hT, rfl, y1, y2⟩ := w.yields i H3 x H4 (by simpa using hi) ⟨(s1.trans s2).seq sa2, (s1.trans s2).seq b1⟩ y
        obtain ⟨d1, m1, m2⟩ := dpAll_getV a2 y1
        obtain ⟨d2, m3, m4⟩ := dpAll_getV b2 y2
        rw [List.getElem?_map] at m1 m3
        cases ep : ps[i]? with
        | none => rw [ep] at m1; cases m1
        | some p =>
          rw [ep] at m1 m3
          cases m1; cases m3
          obtain ⟨F5, g5, s, e⟩ := (Gr.new (o := .tup [x1, x2]) s2 hT).putT rfl upd_same
          refine ⟨F5, _, g5, by rw [List.getElem?_map, ep]; rfl, .tup (.inl (.inl e)) (.cons (dp_mono ((g2.f.trans s1).trans s) m2) (.cons (dp_mono (s1.trans s) m4) .nil))⟩
/-- targets of a tuple of any data -/
def BindLD (K : PySem.W.Frag) (B F0 : Hp) (g : TGs) (is : List Nat) (ds : List PyData) (ρ ρ' : List Sl) : Prop := ∀ F H σ xs, Cfg B F0 F H σ ρ → DpAll K F xs ds → ∀ Q : L2.St → Hp → Prop, (∀ σ', Cfg B F0 F H σ' ρ' → Only is σ σ' → Q σ' H) → g xs σ H Q
theorem bindld_nil : BindLD K B F0 gNil [] [] ρ ρ := fun F H σ xs k p Q q => by
  cases p
  exact ⟨rfl, q σ k ⟨rfl, fun _ _ => rfl⟩⟩
theorem bindld_cons {g : TG} {gs : TGs} {is js : List Nat} {ρ2 : List Sl} (h1 : Bind B F0 g is (dat K d) ρ ρ1) (h2 : BindLD K B F0 gs js ds ρ1 ρ2) : BindLD K B F0 (gCons g gs) (is ++ js) (d :: ds) ρ ρ2 := fun F H σ xs k p Q q => by
  cases p with
  | @cons v vs _ _ p1 p2 =>
    refine ⟨v, vs, rfl, h1 F H σ v k p1 _ fun σ1 k1 o1 => h2 F H σ1 vs k1 p2 _ fun σ2 k2 o2 => q σ2 k2 ⟨o2.1.trans o1.1, fun j hj => ?_⟩⟩
    rw [o2.2 j fun z => hj (List.mem_append.mpr (.inr z)), o1.2 j fun z => hj (List.mem_append.mpr (.inl z))]
theorem bind_tupD {gs : TGs} {is : List Nat} {n : Nat} (h : BindLD K B F0 gs is ds ρ ρ1) (hl : ds.length = n) : Bind B F0 (gTup K n gs) is (dat K (.tuple ds)) ρ ρ1 := fun F H σ x k p Q q => by
  cases p with
  | @tup a xs _ h1 h2 => exact ⟨a, xs, rfl, sqt_mono k.i h1, by rw [dpAll_len h2]; exact hl, h F H σ xs k h2 Q q⟩
/-- a dict handed back: new, tracked -/
def isDictT (K : PySem.W.Frag) (kvs : List (Int × PyData)) : Pd := fun H v => ∃ l kv, v = .ref l ∧ H l = some (.dK kv) ∧ KvAll K e0 H kv kvs
theorem st_isDictT {kvs : List (Int × PyData)} : Stab (isDictT K kvs) := fun _ _ _ s ⟨l, kv, h1, h2, h3⟩ => ⟨l, kv, h1, s _ _ h2, kvAll_mono s h3⟩
theorem ev_lenD {kvs : List (Int × PyData)} (ha : EvH B F0 ρ ta (isDictT K kvs)) : Ev B F0 ρ (tCB (fun xs H Q => ∃ a kvs, xs = [V.ref a] ∧ H a = some (.dK kvs) ∧ Q (.int kvs.length) H) (tCons ta tNil)) (nwd K B (.int kvs.length)) := fun F H σ c Q q =>
  ha F H σ c _ fun v F' H' g ⟨l, kv, e, h, a⟩ => ⟨l, kv, by rw [e], h, by rw [kv_len a]; exact q _ F' H' g (.int _)⟩
theorem kvAll_e0 {F : Hp} : ∀ {kv : List (Key × V)} {kvs : List (Int × PyData)}, KvAll K B F kv kvs → KvAll K e0 F kv kvs
  | _, _, .nil => .nil
  | _, _, .cons h a => .cons (nw_mono (B' := e0) (fun _ _ z => nomatch z) (Same.refl _) h) (kvAll_e0 a)
theorem evh_mdT {i : Nat} {kvs : List (Int × PyData)} (h : ρ[i]? = some (md K B kvs)) : EvH B F0 ρ (tVar i) (isDictT K kvs) := fun F H σ c Q q => by
  obtain ⟨w, o⟩ := c.own
  obtain ⟨_, v, h1, l, kv, rfl, _, h4, h5⟩ := o.sl i _ h
  exact ⟨_, h1, q _ F H (Gr.refl c.i) ⟨l, kv, rfl, h4, kvAll_mono c.i (kvAll_e0 h5)⟩⟩
theorem isDictT_d {kvs : List (Int × PyData)} {H : Hp} {v : V} (h : isDictT K kvs H v) : isDict K kvs H v := by
  obtain ⟨l, kv, e, h1, h2⟩ := h
  exact ⟨l, kv, e, .inl h1, e0, h2⟩
/-- {k: v}, one pair -/
theorem q_disp1 {D : Ends} {u : TS} {i : Nat} {k : Int} (hk : Ev B F0 ρ ta (nwd K B (.int k))) (hv : Ev B F0 ρ tb (nwd K B d)) (n : At B F0 (u D) (ρ.set i (md K B [(k, d)]))) : At B F0 (tSeq (tAsg (tDisp [(ta, tb)]) (gName i)) u D) ρ := fun F H σ c p hp => by
  have g0 : Gr F H F (upd H p (.dK [])) := Gr.new c.i hp
  refine hk F _ σ (c.go g0) _ fun x F1 H1 g1 p1 => hv F1 H1 σ ((c.go g0).go g1) _ fun y F2 H2 g2 p2 => ?_
  cases p1
  have hD := g2.h _ _ (g1.h _ _ upd_same)
  refine ⟨hD, [(Sum.inl k, y)], rfl, by simp, ?_⟩
  have g : Gr F H F2 H2 := g0.trans (g1.trans g2)
  have fD : F2 p = none := g2.n p _ (g1.h _ _ upd_same) rfl (g1.n p _ upd_same rfl (c.i.free hp))
  have em : mergeK [] [((Sum.inl k : Key), y)] = [((Sum.inl k : Key), y)] := rfl
  rw [em]
  have g3 : Gr F H F2 (upd H2 p (.dK [(Sum.inl k, y)])) := ⟨g.f, fun a o e => by rw [upd_ne (ne_of_none e hp)]; exact g.h a o e, fun a o e => by rw [upd_ne (ne_of_none e fD)]; exact g.i a o e, g.n, g.t⟩
  refine n F2 _ _ (c.setN (as := [p]) (m := mdP K B [(k, d)]) st_md g3 ⟨p, _, rfl, rfl, upd_same, .cons p2 .nil⟩ fun a ha => ?_)
  rw [List.mem_singleton.mp ha]
  exact ⟨fD, hp, _, upd_same, rfl⟩
end
end Lay
namespace Lay
open PySem L2 PySem.Spec PyProof.Rows
/-! the end: what the top has written -/
abbrev aOf {mg : Str → Option Value} {x : Str} {C : Addr} (_ : mg x = some (.ref C)) : Addr := C
abbrev kOf {K : PySem.W.Frag} {h : Heap} (_ : K.In h) : PySem.W.Frag := K
section
variable {K : PySem.W.Frag} {h : Heap} {mg : Str → Option Value} {x qual m : Str} {st : Stmt} {ps : List Str} {f C : Addr} {oc kV dc pm cd ct : Value} {od an : Option Addr} {sl : Array (Option Value)}
theorem dfn_mk (X : K.In h) (G : h.Ns mainGlobals mg) (a : PySem.W.nsIn K mainGlobals x = some (some (.ref f))) (l : K.lookup f = some ⟨oc, od, .func (PySem.W.fnOf x qual (defArgs st) (defBody st) (defScope st) .none kV dc pm an cd ct), sl⟩)
    (c : PySem.W.codeIn K cd qual = true) (k : PySem.W.keepIn K (.ref f) = true)
    (b : ∀ (kV doc pm : Value) (an : Option Addr) (cdv ct : Value) (us : List Value), us.length = ps.length → bindArgs (PySem.W.fnOf x qual (defArgs st) (defBody st) (defScope st) .none kV doc pm an cdv ct) ⟨us, []⟩ = pure (ps.zip us)) : Dfn K mg x qual st ps :=
  have F := fun_mk (st := st) l c k
  ⟨f, _, F, PySem.W.mg_of X G a, F.binds b⟩
theorem mfn_mk {cx : Str} (X : K.In h) (g : mg cx = some (.ref C)) (a : PySem.W.findIn K (.ref C) m = some (some (.ref f))) (i : PySem.W.isFn K (.ref f) = true) (l : K.lookup f = some ⟨oc, od, .func (PySem.W.fnOf m qual (defArgs st) (defBody st) (defScope st) .none kV dc pm an cd ct), sl⟩)
    (c : PySem.W.codeIn K cd qual = true) (k : PySem.W.keepIn K (.ref f) = true)
    (b : ∀ (kV doc pm : Value) (an : Option Addr) (cdv ct : Value) (us : List Value), us.length = ps.length → bindArgs (PySem.W.fnOf m qual (defArgs st) (defBody st) (defScope st) .none kV doc pm an cdv ct) ⟨us, []⟩ = pure (ps.zip us)) : Mfn K C m qual st ps :=
  have F := fun_mk (st := st) l c k
  ⟨f, _, F, ⟨a, i, k⟩, F.binds b⟩
/-- an __init__ that is found at the class -/
structure Ifn (K : PySem.W.Frag) (C : Addr) (qual : Str) (st : Stmt) (ps : List Str) : Prop where
  ex : ∃ f fd, Fun K "__init__" qual st f fd ∧ Mk K C f ∧ Binds K fd ps []
theorem ifn_mk {cx : Str} (X : K.In h) (g : mg cx = some (.ref C)) (mk : PySem.W.makesIn K C = true) (kc : PySem.W.keepIn K (.ref C) = true) (a : PySem.W.findIn K (.ref C) "__init__" = some (some (.ref f))) (i : PySem.W.isFn K (.ref f) = true) (l : K.lookup f = some ⟨oc, od, .func (PySem.W.fnOf "__init__" qual (defArgs st) (defBody st) (defScope st) .none kV dc pm an cd ct), sl⟩)
    (c : PySem.W.codeIn K cd qual = true) (k : PySem.W.keepIn K (.ref f) = true)
    (b : ∀ (kV doc pm : Value) (an : Option Addr) (cdv ct : Value) (us : List Value), us.length = ps.length → bindArgs (PySem.W.fnOf "__init__" qual (defArgs st) (defBody st) (defScope st) .none kV doc pm an cdv ct) ⟨us, []⟩ = pure (ps.zip us)) : Ifn K C qual st ps :=
  have F := fun_mk (st := st) l c k
  ⟨f, _, F, ⟨mk, a, i, kc⟩, F.binds b⟩
theorem with_cls {Gl : Prop} (X : K.In h) (G : h.Ns mainGlobals mg) (a : PySem.W.nsIn K mainGlobals x = some (some (.ref C))) (k : mg x = some (.ref C) → Gl) : Gl := k (PySem.W.mg_of X G a)
theorem cls_mk {cx : Str} (X : K.In h) (g : mg cx = some (.ref C)) (pg : PySem.W.plainGet K C Str.empty = true) (hd : PySem.W.hasDictIn K C = true) (po : PySem.W.plainOver K C = true) (sa : PySem.W.findIn K (.ref C) "__setattr__" = some (some (.builtin "object.__setattr__"))) : Cls K C := ⟨pg, hd, po, sa⟩
theorem noattr_mk {cx : Str} (X : K.In h) (g : mg cx = some (.ref C)) (a : PySem.W.findIn K (.ref C) m = some none) : NoAttr K C m := a
theorem none_mk (X : K.In h) (G : h.Ns mainGlobals mg) (a : PySem.W.nsIn K mainGlobals x = some none) : mg x = none := PySem.W.mg_none_of X G a
theorem mg_mk {v : Value} (X : K.In h) (G : h.Ns mainGlobals mg) (a : PySem.W.nsIn K mainGlobals x = some (some v)) : mg x = some v := PySem.W.mg_of X G a
theorem int_mk {n : Int} {t : Tok} (X : K.In h) (G : h.Ns mainGlobals mg) (a : PySem.W.nsIn K mainGlobals x = some (some (.int n t))) : ∃ t, mg x = some (.int n t) := ⟨t, PySem.W.mg_of X G a⟩
theorem str_mk {n : Str} {t : Tok} (X : K.In h) (G : h.Ns mainGlobals mg) (a : PySem.W.nsIn K mainGlobals x = some (some (.str n t))) : ∃ t, mg x = some (.str n t) := ⟨t, PySem.W.mg_of X G a⟩
theorem at_enter {N : List Str} {fs : List Pd} {H : Hp} {vs : List V} {M : L2.St → Hp → Prop} (ha : AOk fs H vs) (st : ∀ f ∈ fs, Stab f) (hl : fs.length ≤ N.length) (h : At H H M (enterR N.length fs)) : M (L2.start N vs) H := h H H _ (cfg_start ha st hl)
theorem cps {p q : Prop} (x : p) (k : p → q) : q := k x
end
theorem Cfg.setN2 {B F0 F H F' H' : Hp} {σ : L2.St} {ρ : List Sl} (c : Cfg B F0 F H σ ρ) {i j : Nat} (hij : i ≠ j) {v v' : V} {m m' : Hp → Hp → V → List Addr → Prop} {as as' : List Addr} (st : MStab m) (st' : MStab m') (g : Gr F H F' H') (h : m F' H' v as) (h' : m' F' H' v' as')
    (hn : ∀ a ∈ as, F' a = none ∧ H a = none ∧ ∃ o, H' a = some o ∧ isTup o = false) (hn' : ∀ a ∈ as', F' a = none ∧ H a = none ∧ ∃ o, H' a = some o ∧ isTup o = false) (hd : ∀ a ∈ as, a ∉ as') :
    Cfg B F0 F' H' ((σ.set i (some v)).set j (some v')) ((ρ.set i (.mo m)).set j (.mo m')) := by
  have c1 := c.setN (i := i) (v := v) st g h hn
  obtain ⟨w0, o0⟩ := c.own
  -- what stood in the slots: objects of H alone
  have oH : ∀ k a, a ∈ w0 k → ∃ u, H a = some u := fun k a ha => by
    obtain ⟨_, _, u, h3, _⟩ := o0.at_ k a ha
    exact ⟨u, h3⟩
  have old : ∀ k a, a ∈ w0 k → a ∉ as ∧ a ∉ as' := fun k a ha => by
    obtain ⟨u, hu⟩ := oH k a ha
    refine ⟨fun z => ?_, fun z => ?_⟩
    · have := (hn a z).2.1; rw [hu] at this; cases this
    · have := (hn' a z).2.1; rw [hu] at this; cases this
  refine ⟨(c.go g).gr, by simp [c.len], fun k => if k = j then as' else if k = i then as else w0 k, fun k l a h1 h2 => ?_, fun k a h1 => ?_, fun k s hs => ?_⟩
  · (try dsimp only at h1 h2)
    by_cases kj : k = j
    · by_cases lj : l = j
      · omega
      · rw [if_pos kj] at h1
        rw [if_neg lj] at h2
        split at h2
        · exact absurd h1 (hd a h2)
        · exact absurd h1 (old l a h2).2
    · rw [if_neg kj] at h1
      by_cases lj : l = j
      · rw [if_pos lj] at h2
        split at h1
        · exact absurd h2 (hd a h1)
        · exact absurd h2 (old k a h1).2
      · rw [if_neg lj] at h2
        split at h1 <;> split at h2
        · omega
        · exact absurd h1 (old l a h2).1
        · exact absurd h2 (old k a h1).1
        · exact o0.dj k l a h1 h2
  · (try dsimp only at h1)
    split at h1
    · obtain ⟨q1, q2, q3⟩ := hn' a h1
      exact ⟨q1, c.gr.fresh q2, q3⟩
    · split at h1
      · obtain ⟨q1, q2, q3⟩ := hn a h1
        exact ⟨q1, c.gr.fresh q2, q3⟩
      · obtain ⟨h1, h2, u, h3, h4⟩ := o0.at_ k a h1
        exact ⟨g.n a u h3 h4 h1, h2, u, g.h a u h3, h4⟩
  · (try dsimp only)
    by_cases kj : k = j
    · subst kj
      have hl : k < (ρ.set i (.mo m)).length := by
        have := (List.getElem?_eq_some_iff.mp hs).1
        simpa using this
      rw [List.getElem?_set_self hl] at hs
      cases hs
      rw [List.getElem?_set_self (by rw [List.length_set, c.len]; simpa using hl), if_pos rfl]
      exact ⟨st', v', rfl, h'⟩
    · rw [if_neg kj, List.getElem?_set_ne (fun e => kj e.symm)]
      rw [List.getElem?_set_ne (fun e => kj e.symm)] at hs
      by_cases ki : k = i
      · subst ki
        have hl : k < ρ.length := by
          have := (List.getElem?_eq_some_iff.mp hs).1
          simpa using this
        rw [List.getElem?_set_self hl] at hs
        cases hs
        rw [List.getElem?_set_self (by rw [c.len]; exact hl), if_pos rfl]
        exact ⟨st, v, rfl, h⟩
      · rw [if_neg ki, List.getElem?_set_ne (fun e => ki e.symm)]
        rw [List.getElem?_set_ne (fun e => ki e.symm)] at hs
        have q := o0.sl k s hs
        cases s with
        | no => trivial
        | fz f => obtain ⟨st, v, e, p⟩ := q; exact ⟨st, v, e, st _ _ v g.f p⟩
        | mo m =>
          obtain ⟨st, v, e, p⟩ := q
          refine ⟨st, v, e, st _ _ _ _ _ _ g.f (fun a ha => ?_) p⟩
          obtain ⟨_, _, u, h3, _⟩ := o0.at_ k a ha
          rw [h3, g.h a u h3]
/-- an owned list is let stand still from now on -/
theorem Cfg.fix {K : PySem.W.Frag} {B F0 F H : Hp} {σ : L2.St} {ρ : List Sl} {ds : List PyData} (c : Cfg B F0 F H σ ρ) {i : Nat} (hi : ρ[i]? = some (ml K B ds)) : ∃ F', Cfg B F0 F' H σ (ρ.set i (sn K B (.list ds))) := by
  obtain ⟨w, o⟩ := c.own
  obtain ⟨_, v, e1, l, xs, rfl, ew, h4, h5⟩ := o.sl i _ hi
  have hl : i < ρ.length := (List.getElem?_eq_some_iff.mp hi).1
  obtain ⟨fl, bl, _, _, _⟩ := o.at_ i l (by rw [ew]; simp)
  have sF : Same F (upd F l (.lst xs)) := fun a u e => by rw [upd_ne (ne_of_none e fl)]; exact e
  refine ⟨upd F l (.lst xs), ⟨⟨c.gr.f.trans sF, c.gr.h, fun a u e => ?_, fun a u e t z => ?_, fun a u e t => ?_⟩, by simp [c.len], fun k => if k = i then [] else w k, fun k j a h1 h2 => ?_, fun k a h1 => ?_, fun k s hs => ?_⟩⟩
  · by_cases ha : a = l
    · subst ha
      rw [upd_same] at e
      cases e
      exact h4
    · rw [upd_ne ha] at e
      exact c.i a u e
  · have ha : a ≠ l := fun q => by rw [q, bl] at e; cases e
    rw [upd_ne ha]
    exact c.gr.n a u e t z
  · by_cases ha : a = l
    · rw [ha, upd_same] at e
      cases e
      cases t
    · rw [upd_ne ha] at e
      exact c.gr.t a u e t
  · (try dsimp only at h1 h2)
    split at h1
    · cases h1
    · split at h2
      · cases h2
      · exact o.dj k j a h1 h2
  · (try dsimp only at h1)
    split at h1
    · cases h1
    · rename_i ki
      obtain ⟨q1, q2, q3⟩ := o.at_ k a h1
      have ha : a ≠ l := fun q => ki (o.dj k i a h1 (by rw [ew, q]; simp))
      exact ⟨by rw [upd_ne ha]; exact q1, q2, q3⟩
  · (try dsimp only)
    by_cases ki : k = i
    · subst ki
      rw [List.getElem?_set_self hl] at hs
      cases hs
      exact ⟨st_nwd, _, e1, .lst bl upd_same (nwAll_mono (Same.refl _) sF h5)⟩
    · rw [if_neg ki]
      rw [List.getElem?_set_ne (fun e => ki e.symm)] at hs
      have q := o.sl k s hs
      cases s with
      | no => trivial
      | fz f => obtain ⟨st, v, e, p⟩ := q; exact ⟨st, v, e, st _ _ v sF p⟩
      | mo m =>
        obtain ⟨st, v, e, p⟩ := q
        exact ⟨st, v, e, st _ _ _ _ _ _ sF (fun a ha => rfl) p⟩
theorem at_fix {K : PySem.W.Frag} {B F0 : Hp} {ρ : List Sl} {ds : List PyData} {N : L2.St → Hp → Prop} (i : Nat) (hi : ρ[i]? = some (ml K B ds)) (k : At B F0 N (ρ.set i (sn K B (.list ds)))) : At B F0 N ρ := fun F H σ c => by
  obtain ⟨F', c'⟩ := c.fix hi
  exact k F' H σ c'
/-- a list that is tracked, whoever made it -/
theorem evn_e0 {K : PySem.W.Frag} {B F0 : Hp} {ρ : List Sl} {ds : List PyData} {i : Nat} (h : ρ[i]? = some (sn K e0 (.list ds))) (fl : flatDs ds = true) : EvN K B F0 ρ (tVar i) ds := fun F H σ c Q q => by
  obtain ⟨w, o⟩ := c.own
  obtain ⟨_, v, h1, p⟩ := o.sl i _ h
  cases p with
  | @lst a xs _ _ a1 a2 => exact ⟨_, h1, q a xs F H (Gr.refl c.i) (c.i _ _ a1) (dpAll_nw (nwAll_dp a2) fl)⟩
theorem evh_e0 {K : PySem.W.Frag} {B B' F0 : Hp} {ρ : List Sl} {d : PyData} {i : Nat} (h : ρ[i]? = some (sn K B' d)) : EvH B F0 ρ (tVar i) (nwd K e0 d) := fun F H σ c Q q => by
  obtain ⟨w, o⟩ := c.own
  obtain ⟨_, v, h1, p⟩ := o.sl i _ h
  exact ⟨_, h1, q _ F H (Gr.refl c.i) (nw_mono (B' := e0) (fun _ _ z => nomatch z) c.i p)⟩
theorem evh_mlE {K : PySem.W.Frag} {B B' F0 : Hp} {ρ : List Sl} {ds : List PyData} {i : Nat} (h : ρ[i]? = some (ml K B' ds)) : EvH B F0 ρ (tVar i) (nwd K e0 (.list ds)) := fun F H σ c Q q => by
  obtain ⟨w, o⟩ := c.own
  obtain ⟨_, v, h1, l, xs, rfl, _, h4, h5⟩ := o.sl i _ h
  exact ⟨_, h1, q _ F H (Gr.refl c.i) (.lst rfl h4 (nwAll_mono (B' := e0) (fun _ _ z => nomatch z) c.i h5))⟩
theorem cut_take {α : Type} (e : α → PyData) (xs : List α) {i : Int} (h : 0 ≤ i) : cutD (xs.map e) none (some i) = (xs.take i.toNat).map e := by
  have h1 : HT.sIx (xs.map e).length 0 none = 0 := rfl
  have h2 : HT.sIx (xs.map e).length (xs.map e).length (some i) = min i.toNat xs.length := by
    unfold HT.sIx
    simp only [List.length_map]
    first | omega | (split <;> omega) | (simp; omega)
  unfold cutD
  rw [h1, h2, List.drop_zero, Nat.sub_zero, ← List.map_take]
  congr 1
  by_cases h3 : i.toNat ≤ xs.length
  · rw [Nat.min_eq_left h3]
  · rw [Nat.min_eq_right (by omega), List.take_length, List.take_of_length_le (by omega)]
end Lay
namespace Lay
open PySem L2 PySem.Spec PyProof.Rows
/-! an owned list of owned lists -/
def mllP (K : PySem.W.Frag) (B : Hp) (dss : List (List PyData)) : Hp → Hp → V → List Addr → Prop := fun F H v as => ∃ (l : Addr) (inner : List Addr), v = .ref l ∧ as = l :: inner ∧ H l = some (.lst (inner.map .ref)) ∧ inner.Nodup ∧ l ∉ inner ∧ inner.length = dss.length ∧
  ∀ (i : Nat) ds, dss[i]? = some ds → ∃ a xs, inner[i]? = some a ∧ H a = some (.lst xs) ∧ NwAll K B F xs ds
abbrev mll (K : PySem.W.Frag) (B : Hp) (dss : List (List PyData)) : Sl := .mo (mllP K B dss)
section
variable {K : PySem.W.Frag} {B F0 : Hp} {ρ ρ1 : List Sl} {te ta tb : TE} {d : PyData} {ds : List PyData} {dss : List (List PyData)} {D : Ends} {u : TS}
theorem st_mll : MStab (mllP K B dss) := fun F F' H H' v as s e ⟨l, inner, h1, h2, h3, h4, h5, h6, h7⟩ => by
  subst h2
  refine ⟨l, inner, h1, rfl, by rw [e l (List.mem_cons_self ..)]; exact h3, h4, h5, h6, fun i ds k => ?_⟩
  obtain ⟨a, xs, k1, k2, k3⟩ := h7 i ds k
  exact ⟨a, xs, k1, by rw [e a (List.mem_cons_of_mem _ (List.mem_of_getElem? k1))]; exact k2, nwAll_mono (Same.refl _) s k3⟩
theorem refs_inj : ∀ {xs ys : List Addr}, xs.map V.ref = ys.map V.ref → xs = ys
  | [], [], _ => rfl
  | [], _ :: _, h => by cases h
  | _ :: _, [], h => by cases h
  | x :: xs, y :: ys, h => by
    rw [List.map_cons, List.map_cons] at h
    obtain ⟨h1, h2⟩ := List.cons.inj h
    cases h1
    rw [refs_inj h2]
theorem q_setLL (K : PySem.W.Frag) {α : Type} {xs : List α} {e : α → PyData} {q : PyData → Pd} {wi : TI} {g : TG} {vs : List Nat} {i : Nat} (hw : EvJ B F0 ρ wi q (xs.map e))
    (hb : ∀ F1 x, x ∈ xs → ∃ is ρ2, Bind B F1 g is (q (e x)) (wipeR ρ vs) ρ2 ∧ ∀ j ∈ is, j ∈ vs) (hz : xs.length ≤ 100000) (k : At B F0 (u D) (ρ.set i (mll K B (List.replicate xs.length [])))) :
    At B F0 (tSeq (tAsg (tLc wi g tYes (tLst tNil) vs) (gName i)) u D) ρ := fun F H σ c => by
  refine hw F H σ c _ fun J F1 H1 g1 w D hD => ?_
  have c1 := c.go g1
  refine ⟨fun i m H' => m = xs.length - i ∧ i ≤ xs.length ∧ ∃ (F' : Hp) (inner : List Addr), Gr F1 H1 F' H' ∧ F' D = none ∧ H' D = some (.lst (inner.map .ref)) ∧ inner.length = i ∧ inner.Nodup ∧ D ∉ inner ∧ ∀ a ∈ inner, F' a = none ∧ H1 a = none ∧ H' a = some (.lst []),
    ⟨xs.length, by simp, Nat.zero_le _, F1, [], Gr.new g1.i hD, g1.i.free hD, upd_same, rfl, List.nodup_nil, List.not_mem_nil, fun a ha => (List.not_mem_nil ha).elim⟩, ?_⟩
  rintro i' m H' ⟨rfl, hi, F', inner, g', fD, hD', hl', hn, hdn, hin⟩
  have sF : Same F1 H' := g'.f.trans g'.i
  by_cases hlt : i' < xs.length
  · have hl : i' < (xs.map e).length := by simpa using hlt
    refine .inr ⟨w.goes i' H' hl sF, fun H2 => ∃ (F' : Hp) (inner : List Addr), Gr F1 H1 F' H2 ∧ F' D = none ∧ H2 D = some (.lst (inner.map .ref)) ∧ inner.length = i' + 1 ∧ inner.Nodup ∧ D ∉ inner ∧ ∀ a ∈ inner, F' a = none ∧ H1 a = none ∧ H2 a = some (.lst []), fun H2 l2 => ⟨xs.length - (i' + 1), by omega, rfl, hlt, l2⟩, fun x H2 y => ?_⟩
    obtain ⟨F2, d, g2, hd2, p2⟩ := w.yields i' F' H' x H2 hl g'.f g'.i y
    have ed : d = e xs[i'] := by
      rw [List.getElem?_map, List.getElem?_eq_getElem hlt] at hd2
      exact (Option.some.inj hd2).symm
    subst ed
    obtain ⟨is, ρ2, b2, hj⟩ := hb F1 xs[i'] (List.getElem_mem hlt)
    have cw : Cfg B F1 F2 H2 (wipe σ vs) (wipeR ρ vs) := by
      have c2 := (c.go (g1.trans (g'.trans g2))).wipe vs
      exact ⟨⟨g'.f.trans g2.f, c2.gr.h, c2.gr.i, fun a o h t z => (g'.trans g2).n a o (c1.gr.h a o h) t z, (g'.trans g2).t⟩, c2.len, c2.own⟩
    refine b2 F2 H2 (wipe σ vs) x cw p2 _ fun σ3 c3 o3 => ⟨wipe_only o3 hj, ?_⟩
    unfold tYes
    dsimp only
    rw [if_pos rfl]
    refine ⟨(by show 0 ≤ sizeLine; exact Nat.zero_le _), fun a ha => ?_⟩
    have hD3 : H2 D = some (.lst (inner.map .ref)) := g2.h _ _ hD'
    have aD : D ≠ a := ne_of_none hD3 ha
    have gg : Gr F1 H1 F2 H2 := g'.trans g2
    refine ⟨inner.map .ref, by rw [upd_ne aD]; exact hD3, ?_, F2, inner ++ [a], ?_, g2.n D _ hD' rfl fD, ?_, by rw [List.length_append, List.length_singleton, hl'], ?_, ?_, fun b hb => ?_⟩
    · exact sz_lt (by rw [List.length_map]; omega)
    · refine ⟨gg.f, fun b o h => ?_, fun b o h => ?_, gg.n, gg.t⟩
      · rw [upd_ne (ne_of_none h hD), upd_ne (ne_of_none (gg.h b o h) ha)]; exact gg.h b o h
      · have : b ≠ D := ne_of_none h (g2.n D _ hD' rfl fD)
        rw [upd_ne this, upd_ne (ne_of_none (gg.i b o h) ha)]; exact gg.i b o h
    · rw [List.map_append, upd_same]; rfl
    · rw [List.nodup_append]
      refine ⟨hn, List.nodup_cons.mpr ⟨List.not_mem_nil, List.nodup_nil⟩, fun b hb a' ha' z => ?_⟩
      rw [List.mem_singleton.mp ha'] at z
      have := g2.h _ _ (hin b hb).2.2
      rw [z, ha] at this
      cases this
    · intro z
      rcases List.mem_append.mp z with z | z
      · exact hdn z
      · exact aD (List.mem_singleton.mp z)
    · rcases List.mem_append.mp hb with hb | hb
      · obtain ⟨q1, q2, q3⟩ := hin b hb
        have q4 := g2.h _ _ q3
        refine ⟨g2.n b _ q3 rfl q1, q2, ?_⟩
        rw [upd_ne (fun z => hdn (by rw [← z]; exact hb)), upd_ne (ne_of_none q4 ha)]
        exact q4
      · rw [List.mem_singleton.mp hb]
        refine ⟨gg.i.free ha, gg.fresh ha, ?_⟩
        rw [upd_ne aD.symm, upd_same]
  · have ei : i' = xs.length := by omega
    subst ei
    refine .inl ⟨by have := w.stops H' sF; simpa using this, ?_⟩
    refine k F' H' _ (c.setN (as := D :: inner) st_mll (g1.trans g') ⟨D, inner, rfl, rfl, hD', hn, hdn, by rw [List.length_replicate]; exact hl', fun j ds hj => ?_⟩ fun a ha => ?_)
    · rw [List.getElem?_replicate] at hj
      split at hj
      next h =>
        cases hj
        have hj2 : j < inner.length := by omega
        exact ⟨inner[j], [], List.getElem?_eq_getElem hj2, (hin _ (List.getElem_mem hj2)).2.2, .nil⟩
      next => cases hj
    · rcases List.mem_cons.mp ha with rfl | ha
      · exact ⟨fD, g1.fresh hD, _, hD', rfl⟩
      · obtain ⟨q1, q2, q3⟩ := hin a ha
        exact ⟨q1, g1.fresh q2, _, q3, rfl⟩
theorem evx_appendAt {i : Nat} {j : Int} (hi : ρ[i]? = some (mll K B dss)) (hj : EvH B F0 ρ tb (dat K (.int j))) (j0 : 0 ≤ j) (hds : dss[j.toNat]? = some ds) (h : Ev B F0 ρ te (nwd K B d)) (hz : ds.length < 100000) :
    EvX B F0 ρ (tBM K "list" rAppend (tOp (rIxL K) (tVar i) tb) (tCons te tNil)) (ρ.set i (mll K B (dss.set j.toNat (ds ++ [d])))) (nwd K B .none) := fun F H σ c Q q => by
  obtain ⟨w, o⟩ := c.own
  obtain ⟨_, v, h1, l, inner, rfl, h3, h4, h5, h6, h7, h8⟩ := o.sl i _ hi
  obtain ⟨a, xs, k1, k2, k3⟩ := h8 _ _ hds
  refine ⟨_, h1, hj F H σ c _ fun y F1 H1 g1 p1 => ?_⟩
  cases p1
  refine ⟨l, inner.map .ref, j, .ref a, rfl, rfl, SqL.of (g1.h _ _ h4), atI_nn j0 (by rw [List.getElem?_map, k1]; rfl), .inl ⟨rfl, _, SqL.of (g1.h _ _ k2)⟩, ?_⟩
  refine h F1 H1 σ (c.go g1) _ fun y F2 H2 g2 p2 => ⟨a, xs, y, rfl, rfl, g2.h _ _ (g1.h _ _ k2), sz_lt (by rw [nwAll_len k3]; exact hz), ?_⟩
  have g := g1.trans g2
  have la : l ≠ a := fun z => h6 (by rw [z]; exact List.mem_of_getElem? k1)
  refine q _ F2 _ ((c.go g).chg hi st_mll fun v' as e m n => ?_) .non
  obtain ⟨l', inner', rfl, rfl, m4, m5, m6, m7, m8⟩ := m
  rw [h1] at e
  cases e
  have m4' := m4
  rw [g.h _ _ h4] at m4
  have ei : inner.map V.ref = inner'.map V.ref := by
    have := Option.some.inj m4
    injection this
  have ei := refs_inj ei
  subst ei
  refine ⟨⟨l, inner, rfl, rfl, by rw [upd_ne la]; exact m4', m5, m6, by rw [List.length_set]; exact m7, fun t dt ht => ?_⟩, fun b hb => upd_ne fun z => hb (by rw [z]; exact List.mem_cons_of_mem _ (List.mem_of_getElem? k1)), fun b hb => ?_⟩
  · by_cases et : t = j.toNat
    · subst et
      rw [List.getElem?_set_self (List.getElem?_eq_some_iff.mp hds).1] at ht
      cases ht
      refine ⟨a, xs ++ [y], k1, upd_same, nwAll_app (nwAll_mono (Same.refl _) g.f k3) (.cons p2 .nil)⟩
    · rw [List.getElem?_set_ne (fun z => et z.symm)] at ht
      obtain ⟨b, zs, q1, q2, q3⟩ := m8 t dt ht
      have ne : b ≠ a := fun z => et ((List.getElem?_inj (List.getElem?_eq_some_iff.mp q1).1 m5).mp (by rw [q1, k1, z]))
      exact ⟨b, zs, q1, by rw [upd_ne ne]; exact q2, q3⟩
  · rcases List.mem_cons.mp hb with rfl | hb
    · exact ⟨_, by rw [upd_ne la]; exact m4', rfl⟩
    · by_cases ba : b = a
      · subst ba; exact ⟨_, upd_same, rfl⟩
      · obtain ⟨_, _, u, h3, h4⟩ := n b (List.mem_cons_of_mem _ hb)
        exact ⟨u, by rw [upd_ne ba]; exact h3, h4⟩
theorem nwAll_of_get {F : Hp} : ∀ {xs : List V} {ds : List PyData}, xs.length = ds.length → (∀ (i : Nat) (d : PyData), ds[i]? = some d → ∃ v, xs[i]? = some v ∧ Nw K B F v d) → NwAll K B F xs ds
  | [], [], _, _ => .nil
  | [], _ :: _, h, _ => by cases h
  | _ :: _, [], h, _ => by cases h
  | x :: xs, d :: ds, h, k => by
    obtain ⟨v, e, p⟩ := k 0 d rfl
    cases e
    exact .cons p (nwAll_of_get (by simpa using h) fun i d' hd => k (i + 1) d' hd)
theorem at_retLL {i : Nat} (h : ρ[i]? = some (mll K B dss)) (k : ∀ v H', Same B H' → Nw K B H' v (.list (dss.map .list)) → D.rt v H') : At B F0 (tRet (tVar i) D) ρ := fun F H σ c => by
  obtain ⟨w, o⟩ := c.own
  obtain ⟨_, v, h1, l, inner, rfl, ew, h4, h5, h6, h7, h8⟩ := o.sl i _ h
  have nb : ∀ a ∈ l :: inner, B a = none := fun a ha => (o.at_ i a (by rw [ew]; exact ha)).2.1
  refine ⟨_, h1, k _ H c.gr.h (.lst (nb l (List.mem_cons_self ..)) h4 (nwAll_of_get (by rw [List.length_map, List.length_map]; exact h7) fun j d hd => ?_))⟩
  rw [List.getElem?_map] at hd
  cases e : dss[j]? with
  | none => rw [e] at hd; cases hd
  | some ds =>
    rw [e] at hd
    cases hd
    obtain ⟨a, xs, q1, q2, q3⟩ := h8 j ds e
    exact ⟨.ref a, by rw [List.getElem?_map, q1]; rfl, .lst (nb a (List.mem_cons_of_mem _ (List.mem_of_getElem? q1))) q2 (nwAll_mono (Same.refl _) c.i q3)⟩
end
/-- sorted(a dict), its keys in any order -/
theorem evm_sortedK {K : PySem.W.Frag} {B F0 : Hp} {ρ : List Sl} {ta : TE} {kvs : List (Int × PyData)} {srt : List Int} (ha : EvH B F0 ρ ta (isDict K kvs)) (hl : kvs.length < 64) (hs : srt.Pairwise (· ≤ ·)) (hp : srt.Perm (kvs.map (·.1))) :
    EvM K B F0 ρ (tCB (fun xs H Q => ∃ (a : Addr) (kvs : List (Key × V)) (ks : List Int), xs = [.ref a] ∧ Rd H a (.dK kvs) ∧ kvs.map (·.1) = ks.map Sum.inl ∧ ks.length < 64 ∧ ∀ (ys : List Int) (p : Addr), ys.Perm ks → ys.Pairwise (· ≤ ·) → H p = none → Q (.ref p) (upd H p (.lst (ys.map V.int)))) (tCons ta tNil)) (srt.map .int) := fun F H σ c Q q =>
  ha F H σ c _ fun x F1 H1 g1 ⟨l, kv, e, r, B', a⟩ => by
    subst e
    refine ⟨l, kv, kvs.map (·.1), rfl, r, kv_keys a, by rw [List.length_map]; exact hl, fun ys p h1 h2 h3 => ?_⟩
    have e : ys = srt := List.Perm.eq_of_pairwise (le := (· ≤ ·)) (fun a b _ _ h1 h2 => Int.le_antisymm h1 h2) h2 hs (h1.trans hp.symm)
    subst e
    exact q p _ F1 _ (g1.trans (Gr.new g1.i h3)) (g1.i.free h3) (g1.fresh h3) upd_same (nwAll_ints _)
end Lay
namespace Lay
open PySem L2 PySem.Spec PyProof.Rows
section
variable {K : PySem.W.Frag} {B F0 : Hp} {ρ : List Sl} {te ta tb : TE} {tr : TA} {d e : PyData} {D : Ends} {u : TS}
/-- list(range(n)) -/
theorem evm_listRg {n : Int} (ha : EvH B F0 ρ ta (dat K (.int n))) (h0 : 0 ≤ n) (h1 : n ≤ 1000) : EvM K B F0 ρ (tLstRg (tRg1 ta)) (rangeD 0 n.toNat) := fun F H σ c Q q =>
  ha F H σ c _ fun v F1 H1 g1 p => by
    cases p
    refine ⟨n, rfl, RgOk.of_le (Int.le_refl 0) (by omega) (by decide) h0, fun p hp => ?_⟩
    have e : rgV 0 n = ((List.range n.toNat).map fun i : Nat => (0 : Int) + (i : Int)).map V.int := by
      unfold rgV
      rw [List.map_map, Int.sub_zero]
      rfl
    have e2 : rangeD 0 n.toNat = ((List.range n.toNat).map fun i : Nat => (0 : Int) + (i : Int)).map PyData.int := by
      unfold rangeD
      rw [List.map_map]
      rfl
    rw [e]
    refine q p _ F1 _ (g1.trans (Gr.new g1.i hp)) (g1.i.free hp) (g1.fresh hp) upd_same ?_
    rw [e2]
    exact nwAll_ints _
/-- x, y = a, b -/
theorem q_par (K : PySem.W.Frag) {i j : Nat} (h : EvAs K B F0 ρ tr [d, e]) (k : At B F0 (u D) ((ρ.set i (sn K B d)).set j (sn K B e))) : At B F0 (tSeq (tPar i j tr) u D) ρ := fun F H σ c =>
  h F H σ c _ fun vs F1 H1 g1 p => by
    cases p with
    | @cons v vs _ _ p1 p2 =>
      cases p2 with
      | @cons w ws _ _ p3 p4 =>
        cases p4
        exact ⟨v, w, rfl, k F1 H1 _ (((c.go g1).setF st_nwd p1).setF st_nwd p3)⟩
end
def relabelS (scope sc : Scope) : Scope := { scope with names := scope.names.map fun (n, k) => if (k == .free && sc.kind == .function && sc.names.lookup n == some .cell) then (n, .cell) else (n, k) }
theorem relabel_eq (scope : Scope) (env : Env) : relabel scope env = relabelS scope env.scope := rfl
theorem cut_drop {α : Type} (e : α → PyData) (xs : List α) {i : Int} (h : 0 ≤ i) : cutD (xs.map e) (some i) none = (xs.drop i.toNat).map e := by
  have h1 : HT.sIx (xs.map e).length 0 (some i) = min i.toNat xs.length := by
    unfold HT.sIx
    simp only [List.length_map]
    first | omega | (split <;> omega) | (simp; omega)
  have h2 : HT.sIx (xs.map e).length (xs.map e).length none = (xs.map e).length := rfl
  unfold cutD
  rw [h1, h2, ← List.map_drop]
  by_cases h3 : i.toNat ≤ xs.length
  · rw [Nat.min_eq_left h3, List.take_of_length_le (by rw [List.length_map, List.length_map, List.length_drop]; omega)]
  · rw [Nat.min_eq_right (by omega), List.drop_of_length_le (Nat.le_refl _), List.drop_of_length_le (by omega), List.map_nil, List.take_nil]
end Lay
namespace Lay
open PySem L2 PySem.Spec PyProof.Rows
/-! try: .. except x as n: .. , what is caught stays known behind it -/
/-- the wish of the clause: u is what follows behind the suite, told of the caught thing -/
def wKeep (K : PySem.W.Frag) (m : Nat) (c : Value) (i : Nat) (ts : Addr → Value → Option Addr → TS) (u : Addr → Value → Option Addr → TS) (D : Ends) : WX := fun cls d σ H => σ.length = m →
  ∃ b, PySem.W.exmOne K cls c = some b ∧ b = true ∧ ∀ a, H a = none → ts a cls d { nx := fun σ' H' => u a cls d D (σ'.set i none) H', rt := fun _ _ => False, bk := fun _ _ => False, ct := fun _ _ => False } (σ.set i (some (.ref a))) H
section
variable {X : Cx} {pins : List (Addr × Obj)} {σ : L2.St} {H : Hp} {s : Shared}
theorem to_pin (ok : X.Ok) {a : Addr} {q : Addr × Obj} {pn' : List (Addr × Obj)} (I : Inv (X.suite a (q :: (X.pn ++ pins))) pn' σ H s) : Inv (X.tr (q :: (X.pn ++ pins)) X.xe) [] σ H s :=
  ⟨ok.toTry _ _, I.os, I.bare, I.base, I.loc, I.cell, I.free, I.freeC, fun p hp => I.pin p (List.mem_append_left _ (by rw [List.append_nil] at hp; exact hp)), I.hok, I.len⟩
theorem of_pin (ok : X.Ok) {q : Addr × Obj} {pn' : List (Addr × Obj)} (I : Inv (X.tr (q :: (X.pn ++ pins)) X.xe) pn' σ H s) : Inv X pins σ H s :=
  ⟨ok, I.os, I.bare, I.base, I.loc, I.cell, I.free, I.freeC, fun p hp => I.pin p (List.mem_append_left _ (List.mem_cons_of_mem _ hp)), I.hok, I.len⟩
end
section
variable {X : Cx} {x n : Str} {c : Value} {i : Nat} {body suite rest : List Stmt} {b0 : Stmt} {np pos pos' : Pos} {tb : WX → TS} {ts t1 : Addr → Value → Option Addr → TS} {t0 : TS}
theorem sp_of {X : Cx} {pins : List (Addr × Obj)} {q : Addr × Obj} {D : Ends} {f : Flow} {s' : Shared} (ok : X.Ok) (h : SP (X.tr (q :: (X.pn ++ pins)) X.xe) [] D f s') : SP X pins D f s' := by
  cases f with
  | next => obtain ⟨σ', H', I, k⟩ := h; exact ⟨σ', H', of_pin ok I, k⟩
  | brk => obtain ⟨σ', H', I, k⟩ := h; exact ⟨σ', H', of_pin ok I, k⟩
  | cont => obtain ⟨σ', H', I, k⟩ := h; exact ⟨σ', H', of_pin ok I, k⟩
  | ret u => obtain ⟨v, σ', H', I, r, k⟩ := h; exact ⟨v, σ', H', of_pin ok I, r, k⟩
theorem pss_try_keep (hst : X.stack = X.env :: X.outer) (hfr : X.env.frame = some X.env.locals) (hN : X.N.Nodup) (hi : X.N[i]? = some n) (hln : X.env.kindOf n = some .local) (hnm : Names X x c)
    (hbd : ∀ (W : WX) (pn : List (Addr × Obj)) (xe : Value → Shared → Prop), Takes (X.tr pn xe) W → PassesOwn (model X.prog X.w) X.A X.env xe → PSs (X.tr pn xe) body (tb W))
    (hsu : ∀ (a : Addr) (ob : Obj) (cls : Value) (d : Option Addr) (pn : List (Addr × Obj)), Zc cls d ob → (∃ vs, ob.data = .fields vs) → PSs (X.suite a ((a, ob) :: pn)) (b0 :: suite) (ts a cls d))
    (hr0 : PSs X rest t0) (hr1 : ∀ (a : Addr) (ob : Obj) (cls : Value) (d : Option Addr) (pn : List (Addr × Obj)), Zc cls d ob → (∃ vs, ob.data = .fields vs) → PSs (X.tr ((a, ob) :: pn) X.xe) rest (t1 a cls d)) :
    PSs X (.Try body [.ExceptHandler (some (.Name x np)) (some n) (b0 :: suite) pos'] [] [] pos :: rest) (fun D σ H => tb (wKeep X.K X.N.length c i ts t1 D) { D with nx := t0 D } σ H) := by
  refine ⟨fun pins s0 σ0 H0 D I0 h0 => ?_⟩
  have okX := I0.ok
  have frm : X.A.frames = some (X.env :: X.outer) := by rw [okX.frames, hst]
  refine wpAny_execs_cons (wpAny_Try_except ?_)
  refine wpAny_mono ((hbd (wKeep X.K X.N.length c i ts t1 D) (X.pn ++ pins) _ (fun u sx got => ?caughtG) PassesOwn.looking).run [] s0 σ0 H0 { D with nx := t0 D } (I0.toTry _) h0) (fun fl s1 done => ?thru) (fun e s1 he => he)
  case thru =>
    cases fl with
    | next =>
      obtain ⟨σ1, H1, I1, k⟩ := done
      exact wpAny_execs_nil (hr0.run pins s1 σ1 H1 D (I1.ofTry okX) k)
    | brk =>
      obtain ⟨σ1, H1, I1, k⟩ := done
      exact ⟨σ1, H1, I1.ofTry okX, k⟩
    | cont =>
      obtain ⟨σ1, H1, I1, k⟩ := done
      exact ⟨σ1, H1, I1.ofTry okX, k⟩
    | ret u =>
      obtain ⟨v, σ1, H1, I1, r, k⟩ := done
      exact ⟨v, σ1, H1, I1.ofTry okX, r, k⟩
  case caughtG =>
    obtain ⟨a, B, sI, pn1, σ1, H1, cls, d, rfl, J1, nb, upI, sky, na, osE, agE, wish⟩ := got
    have J := J1.ofTry okX
    obtain ⟨b, hx, rfl, hyes⟩ := wish J.len
    have sky2 : Sky B (X.env :: X.outer) a (Zc cls d) X.env.locals sx.heap := by rw [← hst]; exact sky
    show wpAny (model X.prog X.w) X.A (noteFrame (.ref a) X.env) _ _ _
    refine Sky.land Zc.steady frm hfr sky2 fun hA flA upA => ?_
    have JA : Inv X pins σ1 H1 { sx with heap := hA } := J.landed nb flA.1 (upI.trans upA) osE agE
    obtain ⟨obA, vsA, heA, hzA, hdA⟩ := flA.there
    have off : ∀ {h : Heap} {o : Obj} {vs : Array Value}, h.FunFrames B (X.env :: X.outer) → h.get? a = some o → o.data = .fields vs → a ∉ frs (X.env :: X.outer) := fun {h o vs} ff e dd hm => by
      obtain ⟨_, o', e', hnf⟩ := ff.mem hm
      rw [e] at e'
      cases e'
      exact hnf _ dd
    have offA := off flA.2.2.1 heA hdA
    have neL : a ≠ X.env.locals := fun z => offA (List.mem_filterMap.mpr ⟨X.env, List.mem_cons_self, by rw [hfr, z]⟩)
    have neF : a ∉ X.fs := fun hm => by
      obtain ⟨e, he, k⟩ := List.mem_filterMap.mp hm
      exact offA (List.mem_filterMap.mpr ⟨e, List.mem_cons_of_mem _ he, k⟩)
    have SA := JA.suite heA hdA na neL neF
    refine wpAny_handleBy_cons (codeAny_handlers_test ?_) (by intro z; cases z)
    have looks : PySem.W.Looks (model X.prog X.w) hA (typeOf (.ref a)) cls := fun A' Q' E' s' k q => wpAny_typeOf_ref (k _ _ heA) (by rw [hzA.1]; exact q)
    have asks := PySem.W.exm_one (M := model X.prog X.w) (JA.kIn) looks hx
    have named : ∀ {Q' : Value → Shared → Prop} {E' : Value → Shared → Prop}, Q' c { sx with heap := hA } → wpAny (model X.prog X.w) (X.A.mark (some (.ref a))) (eval (.Name x np) X.env) Q' E' { sx with heap := hA } := fun {Q' E'} q => by
      obtain ⟨hg, hdb, hm | ⟨hm, hv, hnn⟩⟩ := hnm
      · exact ld_glob (X := X.suite a ((a, obA) :: (X.pn ++ pins))) SA hg hm q hdb
      · exact ld_blt (X := X.suite a ((a, obA) :: (X.pn ++ pins))) SA hg hm hv q hnn hdb
    refine named (asks.here ?_)
    refine codeAny_handlers_suite_as ?_
    refine HandSPX.lands_againZ flA fun hB flB upB => ?_
    have JB : Inv X pins σ1 H1 { sx with heap := hB } := J.landed nb flB.1 ((upI.trans upA).trans upB) osE agE
    obtain ⟨obB, vsB, heB, hzB, hdB⟩ := flB.there
    have SB := JB.suite heB hdB na neL neF
    refine store_ok (X := X.suite a ((a, obB) :: (X.pn ++ pins))) (v := .ref a) SB hN hi (.inl hln) rfl (fun sC SC => ?_) (.inr hln)
    refine wpAny_mono ((hsu a obB cls d (X.pn ++ pins) hzB ⟨_, hdB⟩).run [] sC _ H1 _ SC (hyes a na)) (fun fl sD done => ?_) (fun _ _ z => False.elim z)
    cases fl with
    | next =>
      obtain ⟨σD, HD, ID, k⟩ := done
      refine gone_ok (X := X.tr ((a, obB) :: (X.pn ++ pins)) X.xe) (to_pin okX ID) hN hi hln fun sE IE => ?_
      exact wpAny_mono ((hr1 a obB cls d (X.pn ++ pins) hzB ⟨_, hdB⟩).run [] sE _ HD D IE k) (fun _ _ z => sp_of okX z) fun _ _ z => z
    | brk =>
      obtain ⟨_, _, _, k⟩ := done
      exact k.elim
    | cont =>
      obtain ⟨_, _, _, k⟩ := done
      exact k.elim
    | ret u =>
      obtain ⟨_, _, _, _, _, k⟩ := done
      exact k.elim
end
/-- isinstance(e, c), e the thing that was caught -/
def rIsK (K : PySem.W.Frag) (cls : Value) (d : Option Addr) (a : Addr) : List V → Hp → VK → Prop := fun xs H Q => ∃ (D : Addr) (c : V) (cv : Value) (b : Bool), cls = .ref D ∧ d = none ∧ ExcC K D ∧ xs = [.ref a, c] ∧ (∀ u, RelV c u → u = cv) ∧ PySem.W.kitOne K (.ref D) cv = some b ∧ Q (.bl b) H
theorem call_isK {X : Cx} {a : Addr} {cls : Value} {d : Option Addr} {ob : Obj} {pn : List (Addr × Obj)} {xe : Value → Shared → Prop} (hz : Zc cls d ob) (hf : ∃ vs, ob.data = .fields vs) : CallR (X.tr ((a, ob) :: pn) xe) (.builtin "isinstance") (rIsK X.K cls d a) := by
  intro pins s σ H xs us Q I r h
  obtain ⟨D, c, cv, b, rfl, rfl, ec, rfl, hcv, e, q⟩ := h
  cases r with
  | cons r1 r2 =>
    cases r2 with
    | cons r3 r4 =>
      cases r4
      cases r1
      have eu := hcv _ r3
      subst eu
      obtain ⟨here, _⟩ := I.pin (a, ob) (List.mem_append.mpr (.inl List.mem_cons_self))
      obtain ⟨vs, hv⟩ := hf
      have at_ : PySem.W.InstAt s.heap a ob D none := by
        obtain ⟨c1, c2, c3, c4⟩ := ob
        obtain ⟨z1, z2⟩ := hz
        dsimp only at z1 z2 hv
        subst z1 z2 hv
        exact ⟨here, rfl, rfl, trivial⟩
      exact PySem.W.kia_one (PySem.W.handS_kitx_exc ec.hg ec.hk ec.hs ec.hd ec.ha ec.hn ec.ht ec.hm) I.kIn at_ e (fun z => nomatch z) fun tk => ⟨.bl b, H, I.kept (t' := tk) fun _ _ z => z, rfl, q⟩
theorem kpe_bmOf {Y : Cx} (K : PySem.W.Frag) {e : Expr} {T : String} {r : V → List V → Hp → VK → Prop} {to : TE} {t : TA} (h : PE Y e (tBM Y.K T r to t)) (hK : Y.K = K := by rfl) : PE Y e (tBM K T r to t) := hK ▸ h
end Lay
namespace Lay
open PySem L2 PySem.Spec PyProof.Rows
/-! a def with lambdas: its tables of code objects stand in the first slot -/
def noT (H : Hp) : Hp := fun a => match H a with
  | some (.tbl _) => none
  | x => x
theorem noT_same (H : Hp) : Same (noT H) H := fun a o e => by
  unfold noT at e
  split at e
  · cases e
  · exact e
theorem noT_tbl {H : Hp} {a : Addr} {o : HO} (e : noT H a = some o) : isTbl o = false := by
  unfold noT at e
  split at e
  · cases e
  · cases o with
    | tbl ps => rename_i h; exact absurd e (h ps)
    | _ => rfl
theorem noT_at {H : Hp} {a : Addr} {o : HO} (e : H a = some o) (t : isTbl o = false) : noT H a = some o := by
  unfold noT
  rw [e]
  cases o with
  | tbl ps => cases t
  | _ => rfl
/-- the table at P tells code objects of the name q, all of them standing -/
def TabF (F H : Hp) (p : Addr × Str) : Prop := ∃ ps : Array Value, H p.1 = some (.tbl ps) ∧ TriplesOk ps.toList ∧ ∀ (pos : Pos) (cv : Value), codeAmong pos ps.toList = some cv → ∃ c, cv = .ref c ∧ F c = some (LamX.CodeO c p.2)
def tabP (T : List (Addr × Str)) (f : Pd) : Hp → Hp → V → List Addr → Prop := fun F H v as => f F v ∧ as = T.map (·.1) ∧ ∀ p ∈ T, TabF F H p
theorem st_tab {T : List (Addr × Str)} {f : Pd} (st : Stab f) : MStab (tabP T f) := fun F F' H H' v as s e ⟨h1, h2, h3⟩ => by
  subst h2
  refine ⟨st _ _ _ s h1, rfl, fun p hp => ?_⟩
  obtain ⟨ps, k1, k2, k3⟩ := h3 p hp
  refine ⟨ps, by rw [e p.1 (List.mem_map.mpr ⟨p, hp, rfl⟩)]; exact k1, k2, fun pos cv hc => ?_⟩
  obtain ⟨c, e1, e2⟩ := k3 pos cv hc
  exact ⟨c, e1, s _ _ e2⟩
theorem rd_tab {K : PySem.W.Frag} {T : List (Addr × Str)} {d : PyData} : RdS K (.mo (tabP T (dat K d))) d := fun B F0 F H σ ρ i c e => by
  obtain ⟨w, o⟩ := c.own
  obtain ⟨_, v, h1, h2, _⟩ := o.sl i _ e
  exact ⟨v, h1, dp_mono c.i h2⟩
/-- an owned thing that has no tables -/
def NoTb (m : Hp → Hp → V → List Addr → Prop) : Prop := ∀ F H v as, m F H v as → ∀ a ∈ as, ∀ ps, H a ≠ some (.tbl ps)
def noTbl (F : Hp) : Prop := ∀ a o, F a = some o → isTbl o = false
/-- what stands still behind the making of a lambda -/
def extF (F H1 : Hp) : Hp := fun a => match F a with
  | some o => some o
  | none => match H1 a with
    | some (.ext φ) => some (.ext φ)
    | _ => none
theorem extF_old {F H1 : Hp} {a : Addr} {o : HO} (e : F a = some o) : extF F H1 a = some o := by unfold extF; rw [e]
theorem extF_cases {F H1 : Hp} {a : Addr} {o : HO} (e : extF F H1 a = some o) : F a = some o ∨ (F a = none ∧ H1 a = some o ∧ ∃ φ, o = .ext φ) := by
  unfold extF at e
  split at e
  next h => rw [h]; exact .inl e
  next h =>
    split at e
    next φ h2 =>
      cases e
      exact .inr ⟨h, h2, φ, rfl⟩
    next => cases e
theorem extF_new {F H1 : Hp} {a : Addr} {φ : Heap → Prop} (h : H1 a = some (.ext φ)) (i : ∀ o, F a = some o → H1 a = some o) : extF F H1 a = some (.ext φ) := by
  cases e : F a with
  | none => unfold extF; rw [e, h]
  | some o => rw [extF_old e]; exact (i o e).symm.trans h
theorem cfg_lam {T : List (Addr × Str)} {f : Pd} {B F0 F H : Hp} {σ : L2.St} {ρ : List Sl} (c : Cfg B F0 F H σ ρ) {i : Nat} (hi : ρ[i]? = some (.mo (tabP T f))) (nB : noTbl B) (nF0 : noTbl F0) (hm : ∀ (j : Nat) m, j ≠ i → ρ[j]? = some (.mo m) → NoTb m) :
    LamX.Tabs T H ∧ ∀ H1, LamX.ExtN H H1 → LamX.Tabs T H1 → ∃ F1, Cfg B F0 F1 H1 σ ρ := by
  obtain ⟨w, o⟩ := c.own
  obtain ⟨sti, vi, ei, hf, ew, hT⟩ := o.sl i _ hi
  have nF : noTbl F := fun a u e => by
    cases t : isTbl u with
    | false => rfl
    | true =>
      have := nF0 a u (c.gr.t a u e t)
      rw [this] at t; cases t
  refine ⟨fun p hp => ?_, fun H1 x T1 => ?_⟩
  · obtain ⟨ps, k1, k2, k3⟩ := hT p hp
    refine ⟨ps, k1, k2, fun pos cv hc => ?_⟩
    obtain ⟨cc, e1, e2⟩ := k3 pos cv hc
    exact ⟨cc, e1, c.i _ _ e2⟩
  · have keep : ∀ a u, H a = some u → isTbl u = false → H1 a = some u := fun a u e t => x a u e fun ps z => by rw [z] at t; cases t
    have iF : ∀ a u, F a = some u → H1 a = some u := fun a u e => keep a u (c.i a u e) (nF a u e)
    have sF : Same F (extF F H1) := fun a u e => extF_old e
    have iF1 : Same (extF F H1) H1 := fun a u e => by
      rcases extF_cases e with k | ⟨_, k, _⟩
      · exact iF a u k
      · exact k
    refine ⟨extF F H1, ⟨c.gr.f.trans sF, fun a u e => keep a u (c.gr.h a u e) (nB a u e), iF1, fun a u e t z => ?_, fun a u e t => ?_⟩, c.len, fun j => match ρ[j]? with | some (.mo _) => w j | _ => [], fun j k a h1 h2 => ?_, fun j a h1 => ?_, fun j s hs => ?_⟩
    · have z1 := c.gr.n a u e t z
      cases q : extF F H1 a with
      | none => rfl
      | some u' =>
        rcases extF_cases q with k | ⟨_, k, φ, rfl⟩
        · rw [z1] at k; cases k
        · have := keep a u (c.gr.h a u e) (nB a u e)
          rw [k] at this
          cases this
          cases t
    · rcases extF_cases e with k | ⟨_, _, φ, rfl⟩
      · exact c.gr.t a u k t
      · cases t
    · (try dsimp only at h1 h2)
      split at h1
      · split at h2
        · exact o.dj j k a h1 h2
        · cases h2
      · cases h1
    · (try dsimp only at h1)
      split at h1
      next m hj =>
        obtain ⟨q1, q2, u, q3, q4⟩ := o.at_ j a h1
        have nx : ∀ u', H1 a = some u' → isTup u' = false → extF F H1 a = none := fun u' e t => by
          cases q : extF F H1 a with
          | none => rfl
          | some u2 =>
            rcases extF_cases q with k | ⟨_, k, φ, rfl⟩
            · rw [q1] at k; cases k
            · rw [e] at k
              cases k
              cases t
        by_cases ji : j = i
        · subst ji
          rw [ew] at h1
          obtain ⟨p, hp, rfl⟩ := List.mem_map.mp h1
          obtain ⟨ps, k1, _⟩ := T1 p hp
          exact ⟨nx _ k1 rfl, q2, _, k1, rfl⟩
        · obtain ⟨_, vj, ej, mj⟩ := o.sl j _ hj
          have nt : isTbl u = false := by
            cases u with
            | tbl ps => exact absurd q3 (hm j m ji hj _ _ _ _ mj a h1 ps)
            | _ => rfl
          have k1 := keep a u q3 nt
          exact ⟨nx _ k1 q4, q2, u, k1, q4⟩
      · cases h1
    · have q := o.sl j s hs
      cases s with
      | no => trivial
      | fz g => obtain ⟨st, v, e, p⟩ := q; exact ⟨st, v, e, st _ _ v sF p⟩
      | mo m =>
        obtain ⟨st, v, e, p⟩ := q
        refine ⟨st, v, e, ?_⟩
        rw [hs]
        dsimp only
        by_cases ji : j = i
        · subst ji
          rw [hi] at hs
          cases hs
          obtain ⟨p1, p2, p3⟩ := p
          have stf : f (extF F H1) v := by
            have := st F (extF F H1) H H v (w j) sF (fun _ _ => rfl) ⟨p1, p2, p3⟩
            exact this.1
          refine ⟨stf, p2, fun t ht => ?_⟩
          obtain ⟨ps, k1, k2, k3⟩ := T1 t ht
          refine ⟨ps, k1, k2, fun pos cv hc => ?_⟩
          obtain ⟨cc, e1, e2⟩ := k3 pos cv hc
          exact ⟨cc, e1, extF_new e2 fun u hu => iF _ _ hu⟩
        · refine st _ _ _ _ _ _ sF (fun a ha => ?_) p
          obtain ⟨_, _, u, q3, _⟩ := o.at_ j a ha
          have nt : isTbl u = false := by
            cases u with
            | tbl ps => exact absurd q3 (hm j m ji hs _ _ _ _ p a ha ps)
            | _ => rfl
          rw [q3, keep a u q3 nt]
end Lay
namespace Lay
open PySem L2 PySem.Spec PyProof.Rows
/-! tests that change what stands still, or an owned thing -/
def EvXT (B F0 : Hp) (ρ : List Sl) (tt : TT) (ρ' : List Sl) (c : Bool) : Prop := ∀ F H σ, Cfg B F0 F H σ ρ → ∀ Q : Bool → Hp → Prop, (∀ F' H', Cfg B F0 F' H' σ ρ' → Q c H') → tt σ H Q
section
variable {K : PySem.W.Frag} {B F0 : Hp} {ρ ρ1 ρ2 : List Sl} {te ta tb : TE} {t u : TT} {f g : Pd} {d e : PyData} {ds es : List PyData} {D : Ends} {us ts vs : TS} {N : L2.St → Hp → Prop}
theorem EvT.x {c : Bool} (h : EvT B F0 ρ t c) : EvXT B F0 ρ t ρ c := fun F H σ k Q q => h F H σ k Q fun F' H' g => q F' H' (k.go g)
theorem ext_test {c : Bool} (h : EvX B F0 ρ te ρ1 (nwd K B (.bool c))) : EvXT B F0 ρ (tTest te) ρ1 c := fun F H σ k Q q => h F H σ k _ fun v F' H' k' p => by
  cases p
  exact ⟨c, rfl, q F' H' k'⟩
theorem ext_B {c : Bool} (h : EvX B F0 ρ te ρ1 (nwd K B (.bool c))) : EvXT B F0 ρ (tB te) ρ1 c := fun F H σ k Q q => h F H σ k _ fun v F' H' k' p => by
  cases p
  exact ⟨c, rfl, q F' H' k'⟩
theorem ext_or {a c : Bool} (h1 : EvXT B F0 ρ t ρ1 a) (h2 : a = false → EvXT B F0 ρ1 u ρ2 c) (h3 : a = true → ρ1 = ρ2) : EvXT B F0 ρ (tOr t u) ρ2 (a || c) := fun F H σ k Q q => h1 F H σ k _ fun F1 H1 k1 => by
  cases a with
  | true => exact iteT (q F1 H1 (h3 rfl ▸ k1))
  | false => exact iteF (h2 rfl F1 H1 σ k1 _ fun F2 H2 k2 => q F2 H2 k2)
theorem ext_and {a c : Bool} (h1 : EvXT B F0 ρ t ρ1 a) (h2 : a = true → EvXT B F0 ρ1 u ρ2 c) (h3 : a = false → ρ1 = ρ2) : EvXT B F0 ρ (tAnd t u) ρ2 (a && c) := fun F H σ k Q q => h1 F H σ k _ fun F1 H1 k1 => by
  cases a with
  | true => exact iteT (h2 rfl F1 H1 σ k1 _ fun F2 H2 k2 => q F2 H2 k2)
  | false => exact iteF (q F1 H1 (h3 rfl ▸ k1))
theorem ext_is {a c : Bool} (h : EvXT B F0 ρ t ρ1 a) (e : a = c) : EvXT B F0 ρ t ρ1 c := e ▸ h
theorem evx_neD (ha : EvX B F0 ρ ta ρ1 (nwd K B d)) (hb : EvH B F0 ρ1 tb (dat K e)) (hd : SeqAt.shaped d = true) (he : SeqAt.shaped e = true) : EvX B F0 ρ (tOp (rNeD K) ta tb) ρ1 (nwd K B (.bool (!PyData.eqv d e))) := fun F H σ c Q q =>
  ha F H σ c _ fun x F1 H1 c1 p1 => hb F1 H1 σ c1 _ fun y F2 H2 g2 p2 => ⟨d, e, nw_dp (nw_mono (Same.refl _) g2.i (nw_mono (Same.refl _) g2.f p1)), p2, hd, he, q _ F2 H2 (c1.go g2) (.bl _)⟩
theorem evx_eqD (ha : EvX B F0 ρ ta ρ1 (nwd K B d)) (hb : EvH B F0 ρ1 tb (dat K e)) (hd : SeqAt.shaped d = true) (he : SeqAt.shaped e = true) : EvX B F0 ρ (tOp (rEqD K) ta tb) ρ1 (nwd K B (.bool (PyData.eqv d e))) := fun F H σ c Q q =>
  ha F H σ c _ fun x F1 H1 c1 p1 => hb F1 H1 σ c1 _ fun y F2 H2 g2 p2 => ⟨d, e, nw_dp (nw_mono (Same.refl _) g2.i (nw_mono (Same.refl _) g2.f p1)), p2, hd, he, q _ F2 H2 (c1.go g2) (.bl _)⟩
theorem q_whenX {c : Bool} (h : EvXT B F0 ρ t ρ1 c) (h1 : c = true → At B F0 (ts { D with nx := us D }) ρ1) (h2 : c = false → At B F0 (us D) ρ1) : At B F0 (tSeq (tIfS t ts tNext) us D) ρ := fun F H σ k => h F H σ k _ fun F' H' k' => by
  cases c with
  | true => exact iteT (h1 rfl F' H' σ k')
  | false => exact iteF (h2 rfl F' H' σ k')
theorem at_whenX {c : Bool} (h : EvXT B F0 ρ t ρ1 c) (h1 : c = true → At B F0 (ts D) ρ1) (h2 : c = false → At B F0 D.nx ρ1) : At B F0 (tIfS t ts tNext D) ρ := fun F H σ k => h F H σ k _ fun F' H' k' => by
  cases c with
  | true => exact iteT (h1 rfl F' H' σ k')
  | false => exact iteF (h2 rfl F' H' σ k')
theorem at_retX (h : EvX B F0 ρ te ρ1 (nwd K B d)) (k : ∀ v H', Same B H' → Nw K B H' v d → D.rt v H') : At B F0 (tRet te D) ρ := fun F H σ c =>
  h F H σ c _ fun v F' H' c' p => k v H' c'.gr.h (nw_mono (Same.refl _) c'.gr.i p)
/-- what raises: a thing of the class cls, nothing changed that was known -/
def EvR (B F0 : Hp) (ρ : List Sl) (t : XK → TE) (cls : Addr) : Prop := ∀ F H σ, Cfg B F0 F H σ ρ → ∀ (E : XK) (Q : VK), (∀ F' H', Cfg B F0 F' H' σ ρ → E (.ref cls) none H') → t E σ H Q
/-! ### owned things hold no tables -/
theorem nt_ml {B : Hp} : NoTb (mlP K B ds) := fun F H v as ⟨l, xs, _, ea, hl, _⟩ a ha ps e => by
  subst ea
  rw [List.mem_singleton.mp ha, hl] at e
  cases e
theorem nt_md {B : Hp} {kvs : List (Int × PyData)} : NoTb (mdP K B kvs) := fun F H v as ⟨l, xs, _, ea, hl, _⟩ a ha ps e => by
  subst ea
  rw [List.mem_singleton.mp ha, hl] at e
  cases e
theorem nt_mt {C : Addr} {st : TSt} : NoTb (mtP K C st) := fun F H v as ⟨t, dx, d, kv, _, ea, h1, h2, _⟩ a ha ps e => by
  subst ea
  rcases List.mem_cons.mp ha with rfl | ha
  · rw [h1] at e; cases e
  · rw [List.mem_singleton.mp ha, h2] at e; cases e
/-- all slots but the i-th hold no tables -/
def NtAll (i : Nat) (ρ : List Sl) : Prop := ∀ (j : Nat) m, j ≠ i → ρ[j]? = some (.mo m) → NoTb m
theorem nt_nil (i : Nat) : NtAll i [] := fun j m _ h => by cases h
theorem nt_consF {f : Pd} (h : NtAll i ρ) : NtAll (i + 1) (.fz f :: ρ) := fun j m hj e => by
  cases j with
  | zero => cases e
  | succ j => exact h j m (by omega) (by simpa using e)
theorem nt_consN (h : NtAll i ρ) : NtAll (i + 1) (.no :: ρ) := fun j m hj e => by
  cases j with
  | zero => cases e
  | succ j => exact h j m (by omega) (by simpa using e)
theorem nt_consM {m : Hp → Hp → V → List Addr → Prop} (hm : NoTb m) (h : NtAll i ρ) : NtAll (i + 1) (.mo m :: ρ) := fun j m hj e => by
  cases j with
  | zero => cases e; exact hm
  | succ j => exact h j m (by omega) (by simpa using e)
/-- .. of a list of slots without tables anywhere -/
def Nt0 (ρ : List Sl) : Prop := ∀ (j : Nat) m, ρ[j]? = some (.mo m) → NoTb m
theorem n0_nil : Nt0 [] := fun j m h => by cases h
theorem n0_F {f : Pd} (h : Nt0 ρ) : Nt0 (.fz f :: ρ) := fun j m e => by
  cases j with
  | zero => cases e
  | succ j => exact h j m (by simpa using e)
theorem n0_N (h : Nt0 ρ) : Nt0 (.no :: ρ) := fun j m e => by
  cases j with
  | zero => cases e
  | succ j => exact h j m (by simpa using e)
theorem n0_M {m : Hp → Hp → V → List Addr → Prop} (hm : NoTb m) (h : Nt0 ρ) : Nt0 (.mo m :: ρ) := fun j m e => by
  cases j with
  | zero => cases e; exact hm
  | succ j => exact h j m (by simpa using e)
theorem nt_head {s : Sl} (h : Nt0 ρ) : NtAll 0 (s :: ρ) := fun j m hj e => by
  cases j with
  | zero => exact absurd rfl hj
  | succ j => exact h j m (by simpa using e)
/-- a lambda handed to a def: what that def makes of it -/
theorem evx_lam {T : List (Addr × Str)} {fp : Pd} {TT : (XK → Hp → VK → Prop) → Hp → VK → Prop} {t : XK → TE} {i : Nat} (hi : ρ[i]? = some (.mo (tabP T fp))) (nB : noTbl B) (nF0 : noTbl F0) (hm : NtAll i ρ)
    (h : ∀ F H σ, Cfg B F0 F H σ ρ → ∀ Q : VK, (∀ v F' H', Cfg B F0 F' H' σ ρ → f F' v → Q v H') → TT (fun E H' Q' => t E σ H' Q') H Q) : EvX B F0 ρ (LamX.tLam T TT t) ρ f := fun F H σ c Q q => by
  obtain ⟨h1, h2⟩ := cfg_lam c hi nB nF0 hm
  refine ⟨h1, fun H1 x T1 => ?_⟩
  obtain ⟨F1, c1⟩ := h2 H1 x T1
  exact h F1 H1 σ c1 Q q
/-- the entry of a def with lambdas: its tables are in no part that stands still -/
theorem cfg_enterT {T : List (Addr × Str)} {f : Pd} {N : List Str} {H : Hp} {v : V} (st : Stab f) (hv : f (noT H) v) (hT : ∀ p ∈ T, H p.1 = some (.tbl #[])) (hN : 1 ≤ N.length) :
    Cfg (noT H) (noT H) (noT H) H (L2.start N [v]) (.mo (tabP T f) :: List.replicate (N.length - 1) Sl.no) := by
  refine ⟨⟨Same.refl _, noT_same H, noT_same H, fun _ _ _ _ e => e, fun _ _ e _ => e⟩, by simp [L2.start], fun i => if i = 0 then T.map (·.1) else [], fun i j a h1 h2 => ?_, fun i a h1 => ?_, fun i s hs => ?_⟩
  · (try dsimp only at h1 h2)
    split at h1
    · split at h2
      · omega
      · cases h2
    · cases h1
  · (try dsimp only at h1)
    split at h1
    · obtain ⟨p, hp, rfl⟩ := List.mem_map.mp h1
      have e : noT H p.1 = none := by unfold noT; rw [hT p hp]
      exact ⟨e, e, _, hT p hp, rfl⟩
    · cases h1
  · cases i with
    | zero =>
      cases hs
      refine ⟨st_tab st, v, rfl, hv, by simp, fun p hp => ?_⟩
      refine ⟨#[], hT p hp, True.intro, fun pos cv hc => ?_⟩
      have z : codeAmong pos [] = some cv := hc
      simp [codeAmong] at z
    | succ i =>
      have hs : (List.replicate (N.length - 1) Sl.no)[i]? = some s := by simpa using hs
      rw [List.getElem?_replicate] at hs
      split at hs
      · cases hs; trivial
      · cases hs
theorem at_enterT {T : List (Addr × Str)} {f : Pd} {N : List Str} {H : Hp} {v : V} {M : L2.St → Hp → Prop} (st : Stab f) (hv : f (noT H) v) (hT : ∀ p ∈ T, H p.1 = some (.tbl #[])) (hN : 1 ≤ N.length)
    (h : At (noT H) (noT H) M (.mo (tabP T f) :: List.replicate (N.length - 1) Sl.no)) : M (L2.start N [v]) H := h _ _ _ (cfg_enterT st hv hT hN)
theorem noT_noTbl {H : Hp} : noTbl (noT H) := fun a o e => noT_tbl e
theorem seq_noT {H : Hp} {a : Addr} {xs : List V} (h : SqL K H a xs) : SqL K (noT H) a xs := by
  rcases h with (h | ⟨o, h⟩) | h
  · exact .inl (.inl (noT_at h rfl))
  · exact .inl (.inr ⟨o, noT_at h rfl⟩)
  · exact .inr h
end
/-! ### the law's own def, its code object known -/
structure LawC (K : PySem.W.Frag) (f c P : Addr) (st : Stmt) (fd : FuncData) : Prop where
  ex : ∃ (oc : Value) (od : Option Addr) (kV doc pm : Value) (an : Option Addr) (ct : Value) (osl : Array (Option Value)),
    fd = PySem.W.fnOf "law" "law" (defArgs st) (defBody st) (defScope st) .none kV doc pm an (.ref c) ct ∧ K.lookup f = some ⟨oc, od, .func fd, osl⟩ ∧ PySem.W.codeIn K (.ref c) "law" = true
section
variable {P : Program} {w : World} {K : PySem.W.Frag} {mg : Str → Option Value} {base : Heap}
theorem LawC.ok {st : Stmt} {f c TP : Addr} {fd : FuncData} {N ps : List Str} {k : Nat} {sp : Sp} (F : LawC K f c TP st fd) (S : FnScope N ps (defScope st)) (len : ∀ vs H Q E, sp vs H Q E → vs.length = ps.length)
    (hbody : ∀ (A : Around) (outer : List Env) (s : Shared) (H : Hp) (vs : List V) (Q : VK) (E : XK), Room k (A.deeper (envOfC "law" (defScope st) s.heap.objs.size f (.ref c))) → sp vs H Q E →
      ∃ t, PSs (cxOf CX0 P w K mg base N "law" (defScope st) f (.ref c) A outer s H E).nox (defBody st) t ∧ t { nx := fun _ H' => Q .non H', rt := Q } (start N vs) H) : FnOk P w K mg base CX0 (k + 1) f fd ps sp := by
  obtain ⟨oc, od, kV, doc, pm, an, ct, osl, rfl, lk, hcd⟩ := F.ex
  refine fn_of lk hcd S len fun A outer s H vs Q E hr hsp => ?_
  obtain ⟨t, h, q⟩ := hbody A outer s H vs Q E hr hsp
  exact ⟨t, h.nox, q⟩
end
end Lay
namespace Lay
open PySem L2 PySem.Spec PyProof.Rows
/-! owned data: lists in lists, all of them the slot's own; changed afterwards -/
mutual
def pureD : PyData → Bool
  | .none => true
  | .bool _ => true
  | .int _ => true
  | .str _ => true
  | .list ds => pureDs ds
  | .tuple _ => false
  | .dict _ => false
def pureDs : List PyData → Bool
  | [] => true
  | d :: ds => pureD d && pureDs ds
end
mutual
/-- no list within is longer than m -/
def capD (m : Nat) : PyData → Bool
  | .none => true
  | .bool _ => true
  | .int _ => true
  | .str _ => true
  | .list ds => decide (ds.length ≤ m) && capDs m ds
  | .tuple ds => capDs m ds
  | .dict _ => true
def capDs (m : Nat) : List PyData → Bool
  | [] => true
  | d :: ds => capD m d && capDs m ds
end
theorem capDs_all {m : Nat} : ∀ {ds : List PyData}, (∀ d ∈ ds, capD m d = true) → capDs m ds = true
  | [], _ => by rw [capDs]
  | d :: ds, h => by rw [capDs, h d (List.mem_cons_self ..), capDs_all fun e he => h e (List.mem_cons_of_mem _ he)]; rfl
theorem cap_ints {m : Nat} {ns : List Int} (h : ns.length ≤ m) : capD m (intsD ns) = true := by
  rw [capD, capDs_all fun d hd => by
    obtain ⟨n, _, rfl⟩ := List.mem_map.mp hd
    rw [capD]]
  simpa using h
theorem pureDs_all : ∀ {ds : List PyData}, (∀ d ∈ ds, pureD d = true) → pureDs ds = true
  | [], _ => by rw [pureDs]
  | d :: ds, h => by rw [pureDs, h d (List.mem_cons_self ..), pureDs_all fun e he => h e (List.mem_cons_of_mem _ he)]; rfl
theorem pure_ints {ns : List Int} : pureD (intsD ns) = true := by
  rw [pureD]
  exact pureDs_all fun d hd => by
    obtain ⟨n, _, rfl⟩ := List.mem_map.mp hd
    rw [pureD]
theorem pure_list {α : Type} {e : α → PyData} {xs : List α} (h : ∀ x, pureD (e x) = true) : pureD (.list (xs.map e)) = true := by
  rw [pureD]
  exact pureDs_all fun d hd => by
    obtain ⟨n, _, rfl⟩ := List.mem_map.mp hd
    exact h n
section
variable {K : PySem.W.Frag}
mutual
theorem nw_fun {B B' G : Hp} : ∀ {v : V} {d : PyData}, Nw K B G v d → ∀ {d' : PyData}, Nw K B' G v d' → pureD d = true → pureD d' = true → d = d'
  | _, _, .non, _, h2, _, _ => by cases h2; rfl
  | _, _, .bl b, _, h2, _, _ => by cases h2; rfl
  | _, _, .int i, _, h2, _, _ => by cases h2; rfl
  | _, _, .str x, _, h2, _, _ => by cases h2; rfl
  | _, _, .lst n h a, _, h2, p1, p2 => by
    cases h2 with
    | lst n2 h' a' =>
      rw [h] at h'
      cases h'
      rw [pureD] at p1 p2
      rw [nwAll_fun a a' p1 p2]
    | tup h' a' => rw [pureD] at p2; cases p2
  | _, _, .tup h a, _, h2, p1, p2 => by rw [pureD] at p1; cases p1
theorem nwAll_fun {B B' G : Hp} : ∀ {xs : List V} {ds : List PyData}, NwAll K B G xs ds → ∀ {ds' : List PyData}, NwAll K B' G xs ds' → pureDs ds = true → pureDs ds' = true → ds = ds'
  | _, _, .nil, _, h2, _, _ => by cases h2; rfl
  | _, _, .cons h a, _, h2, p1, p2 => by
    cases h2 with
    | cons h' a' =>
      rw [pureDs, Bool.and_eq_true] at p1 p2
      rw [nw_fun h h' p1.1 p2.1, nwAll_fun a a' p1.2 p2.2]
end
/-- a list of own addresses: each stands for a list of data, what is directly within it is there too -/
structure OwnA (K : PySem.W.Frag) (B G : Hp) (as : List Addr) (P : Bool) (n : Nat) (C : Nat → Bool) (a : Addr) (xs : List V) (es : List PyData) : Prop where
  b : B a = none
  g : G a = some (.lst xs)
  nw : Nw K B G (.ref a) (.list es)
  len : xs.length = es.length
  pu : P = true → pureD (.list es) = true
  dp : (PyData.list es).depth ≤ n
  cap : ∀ m, C m = true → capD m (.list es) = true
  sub : ∀ (k : Nat) (fs : List PyData), es[k]? = some (.list fs) → ∃ b, xs[k]? = some (.ref b) ∧ b ∈ as
theorem OwnA.up {B G : Hp} {as as' : List Addr} {P P' : Bool} {n n' : Nat} {C C' : Nat → Bool} {a : Addr} {xs : List V} {es : List PyData} (h : OwnA K B G as P n C a xs es) (s : ∀ x ∈ as, x ∈ as') (p : P' = true → P = true) (hn : n ≤ n') (c : ∀ m, C' m = true → C m = true) : OwnA K B G as' P' n' C' a xs es :=
  ⟨h.b, h.g, h.nw, h.len, fun q => h.pu (p q), Nat.le_trans h.dp hn, fun m q => h.cap m (c m q), fun k fs q => by obtain ⟨b, h1, h2⟩ := h.sub k fs q; exact ⟨b, h1, s b h2⟩⟩
mutual
theorem nw_own {B G : Hp} : ∀ {v : V} {d : PyData}, Nw K B G v d → ∃ as : List Addr, (∀ a ∈ as, ∃ xs es, OwnA K B G as (pureD d) d.depth (fun m => capD m d) a xs es) ∧
    (∀ es, d = .list es → ∃ a, v = .ref a ∧ a ∈ as) ∧ ∀ G' : Hp, (∀ a ∈ as, G' a = G a) → (∀ a o, G a = some o → isTup o = true → G' a = some o) → Nw K B G' v d
  | _, _, .non => ⟨[], fun a h => (by cases h), fun es z => (by cases z), fun G' _ _ => .non⟩
  | _, _, .bl b => ⟨[], fun a h => (by cases h), fun es z => (by cases z), fun G' _ _ => .bl b⟩
  | _, _, .int i => ⟨[], fun a h => (by cases h), fun es z => (by cases z), fun G' _ _ => .int i⟩
  | _, _, .str x => ⟨[], fun a h => (by cases h), fun es z => (by cases z), fun G' _ _ => .str x⟩
  | _, _, .lst (a := l) (xs := xs) (ds := ds) n h al => by
    obtain ⟨as, k1, k2, k3⟩ := nwAll_own al
    refine ⟨l :: as, fun a ha => ?_, fun es z => ⟨l, rfl, List.mem_cons_self ..⟩, fun G' e t => .lst n (by rw [e l (List.mem_cons_self ..)]; exact h) (k3 G' (fun a ha => e a (List.mem_cons_of_mem _ ha)) t)⟩
    rcases List.mem_cons.mp ha with rfl | ha
    · exact ⟨xs, ds, n, h, .lst n h al, nwAll_len al, fun p => p, Nat.le_refl _, fun m p => p, fun k fs q => by obtain ⟨b, h1, h2⟩ := k2 k fs q; exact ⟨b, h1, List.mem_cons_of_mem _ h2⟩⟩
    · obtain ⟨ys, es, q⟩ := k1 a ha
      refine ⟨ys, es, q.up (fun x hx => List.mem_cons_of_mem _ hx) (fun p => (by rw [pureD] at p; exact p)) ?_ fun m p => ?_⟩
      · rw [PyData.depth.eq_def (.list ds)]
        (try dsimp only)
        omega
      · (try dsimp only at p)
        rw [capD, Bool.and_eq_true] at p
        exact p.2
  | _, _, .tup (a := l) (xs := xs) (ds := ds) h al => by
    obtain ⟨as, k1, k2, k3⟩ := nwAll_own al
    refine ⟨as, fun a ha => ?_, fun es z => (by cases z), fun G' e t => .tup ?_ (k3 G' e t)⟩
    · obtain ⟨ys, es, q⟩ := k1 a ha
      refine ⟨ys, es, q.up (fun x hx => hx) (fun p => (by rw [pureD] at p; cases p)) ?_ fun m p => ?_⟩
      · rw [PyData.depth.eq_def (.tuple ds)]
        (try dsimp only)
        omega
      · (try dsimp only at p)
        rw [capD] at p
        exact p
    · rcases h with (h | ⟨o, h⟩) | h
      · exact .inl (.inl (t _ _ h rfl))
      · exact .inl (.inr ⟨o, t _ _ h rfl⟩)
      · exact .inr h
theorem nwAll_own {B G : Hp} : ∀ {xs : List V} {ds : List PyData}, NwAll K B G xs ds → ∃ as : List Addr, (∀ a ∈ as, ∃ xs es, OwnA K B G as (pureDs ds) (PyData.depthAll ds) (fun m => capDs m ds) a xs es) ∧
    (∀ (k : Nat) (fs : List PyData), ds[k]? = some (.list fs) → ∃ b, xs[k]? = some (.ref b) ∧ b ∈ as) ∧
    ∀ G' : Hp, (∀ a ∈ as, G' a = G a) → (∀ a o, G a = some o → isTup o = true → G' a = some o) → NwAll K B G' xs ds
  | _, _, .nil => ⟨[], fun a h => (by cases h), fun k fs z => (by simp at z), fun G' _ _ => .nil⟩
  | _, _, .cons (d := d) (ds := ds) h al => by
    obtain ⟨as, k1, k2, k3⟩ := nw_own h
    obtain ⟨bs, j1, j2, j3⟩ := nwAll_own al
    refine ⟨as ++ bs, fun a ha => ?_, fun k fs z => ?_, fun G' e t => .cons (k3 G' (fun a ha => e a (List.mem_append_left _ ha)) t) (j3 G' (fun a ha => e a (List.mem_append_right _ ha)) t)⟩
    · rcases List.mem_append.mp ha with ha | ha
      · obtain ⟨ys, es, q⟩ := k1 a ha
        refine ⟨ys, es, q.up (fun x hx => List.mem_append_left _ hx) (fun p => (by rw [pureDs, Bool.and_eq_true] at p; exact p.1)) ?_ fun m p => ?_⟩
        · rw [PyData.depthAll.eq_def (d :: ds)]
          (try dsimp only)
          omega
        · (try dsimp only at p)
          rw [capDs, Bool.and_eq_true] at p
          exact p.1
      · obtain ⟨ys, es, q⟩ := j1 a ha
        refine ⟨ys, es, q.up (fun x hx => List.mem_append_right _ hx) (fun p => (by rw [pureDs, Bool.and_eq_true] at p; exact p.2)) ?_ fun m p => ?_⟩
        · rw [PyData.depthAll.eq_def (d :: ds)]
          (try dsimp only)
          omega
        · (try dsimp only at p)
          rw [capDs, Bool.and_eq_true] at p
          exact p.2
    · cases k with
      | zero =>
        simp at z
        obtain ⟨a, h1, h2⟩ := k2 fs z
        exact ⟨a, by rw [h1]; rfl, List.mem_append_left _ h2⟩
      | succ k =>
        obtain ⟨b, h1, h2⟩ := j2 k fs (by simpa using z)
        exact ⟨b, by simpa using h1, List.mem_append_right _ h2⟩
end
/-- an owned thing's part of the heap: its own lists, tuples that stand still -/
def ovH (as : List Addr) (F H : Hp) : Hp := fun a => if a ∈ as then H a else match F a with
  | some o => if isTup o = true then some o else none
  | none => none
theorem ovH_in {as : List Addr} {F H : Hp} {a : Addr} (h : a ∈ as) : ovH as F H a = H a := if_pos h
theorem ovH_tup {as : List Addr} {F H : Hp} {a : Addr} {o : HO} (h : a ∉ as) (e : F a = some o) (t : isTup o = true) : ovH as F H a = some o := by
  unfold ovH
  rw [if_neg h, e]
  exact if_pos t
theorem ovH_cases {as : List Addr} {F H : Hp} {a : Addr} {o : HO} (e : ovH as F H a = some o) : (a ∈ as ∧ H a = some o) ∨ (a ∉ as ∧ F a = some o ∧ isTup o = true) := by
  unfold ovH at e
  split at e
  next h => exact .inl ⟨h, e⟩
  next h =>
    split at e
    next o' h2 =>
      split at e
      next t => cases e; exact .inr ⟨h, h2, t⟩
      next => cases e
    next => cases e
def moP (K : PySem.W.Frag) (B : Hp) (d : PyData) : Hp → Hp → V → List Addr → Prop := fun F H v as => Nw K B (ovH as F H) v d ∧ ∀ a ∈ as, ∃ xs, H a = some (.lst xs)
abbrev moD (K : PySem.W.Frag) (B : Hp) (d : PyData) : Sl := .mo (moP K B d)
variable {B F0 : Hp} {ρ ρ1 : List Sl} {te ta tb : TE} {d e : PyData} {ds : List PyData} {D : Ends} {u : TS} {N : L2.St → Hp → Prop}
theorem st_moD : MStab (moP K B d) := fun F F' H H' v as s e ⟨h1, h2⟩ => by
  refine ⟨nw_mono (Same.refl _) (fun a o h => ?_) h1, fun a ha => by rw [e a ha]; exact h2 a ha⟩
  rcases ovH_cases h with ⟨h3, h4⟩ | ⟨h3, h4, h5⟩
  · rw [ovH_in h3, e a h3]; exact h4
  · exact ovH_tup h3 (s _ _ h4) h5
theorem nt_moD : NoTb (moP K B d) := fun F H v as ⟨_, h⟩ a ha ps e => by
  obtain ⟨xs, h⟩ := h a ha
  rw [h] at e; cases e
theorem rd_moD {B' : Hp} : RdS K (moD K B' d) d := fun B F0 F H σ ρ i c e => by
  obtain ⟨w, o⟩ := c.own
  obtain ⟨_, v, h1, h2, h3⟩ := o.sl i _ e
  refine ⟨v, h1, nw_dp (nw_mono (Same.refl _) (fun a o h => ?_) h2)⟩
  rcases ovH_cases h with ⟨_, h4⟩ | ⟨_, h4, _⟩
  · exact h4
  · exact c.i _ _ h4
/-- what a call makes anew -/
def EvO2 (K : PySem.W.Frag) (B F0 : Hp) (ρ : List Sl) (te : TE) (d : PyData) : Prop := ∀ F H σ, Cfg B F0 F H σ ρ → ∀ Q : VK, (∀ v F1 H1 H2, Gr F H F1 H1 → Same H1 H2 → Nw K H1 H2 v d → Q v H2) → te σ H Q
theorem eo_call {α : Type} {pre : α → Prop} {args : α → List Pd} {res : α → PyData} {tr : TA} {E : XK} (x : α) (hp : pre x) (h : EvA B F0 ρ tr (args x)) : EvO2 K B F0 ρ (tCall (Fp K pre args res) [] E tr) (res x) := fun F H σ k Q q =>
  h F H σ k _ fun vs F1 H1 g1 p => ⟨x, hp, by rw [List.append_nil]; exact p, fun v H2 s n => q v F1 H1 H2 g1 s n⟩
theorem q_setO (K : PySem.W.Frag) {i : Nat} (h : EvO2 K B F0 ρ te d) (k : At B F0 (u D) (ρ.set i (moD K B d))) : At B F0 (tSeq (tAsg te (gName i)) u D) ρ := fun F H σ c =>
  h F H σ c _ fun v F1 H1 H2 g1 s n => by
    have c1 := c.go g1
    obtain ⟨F2, g2, s2, n2⟩ := nw_fix (B := H1) (Same.refl _) n F1 (gr_call g1.i s)
    obtain ⟨as, a1, _, a3⟩ := nw_own n2
    have hn : ∀ a ∈ as, F1 a = none := fun a ha => by obtain ⟨_, _, q⟩ := a1 a ha; exact g1.i.free q.b
    let F3 : Hp := fun a => if a ∈ as then none else F2 a
    have e3 : ∀ a, a ∉ as → F3 a = F2 a := fun a ha => if_neg ha
    have i3 : Same F3 F2 := fun a o e => by
      by_cases ha : a ∈ as
      · have : F3 a = none := if_pos ha
        rw [this] at e; cases e
      · rw [← e3 a ha]; exact e
    have g3 : Gr F1 H1 F3 H2 := ⟨fun a o e => by rw [e3 a fun z => by rw [hn a z] at e; cases e]; exact s2 a o e, g2.h, fun a o e => g2.i a o (i3 a o e), fun a o h t z => by
      by_cases ha : a ∈ as
      · exact if_pos ha
      · rw [e3 a ha]; exact g2.n a o h t z, fun a o e t => g2.t a o (i3 a o e) t⟩
    refine k F3 H2 _ (c.setN (as := as) st_moD (g1.trans g3) ⟨?_, fun a ha => ?_⟩ fun a ha => ?_)
    · refine nw_mono c1.gr.h (Same.refl _) (a3 _ (fun a ha => ?_) fun a o e t => ?_)
      · obtain ⟨xs, _, q⟩ := a1 a ha
        have q := q.g
        rw [ovH_in ha, q]
        exact g2.i _ _ q
      · by_cases ha : a ∈ as
        · rw [ovH_in ha]; exact g2.i _ _ e
        · exact ovH_tup ha (by rw [e3 a ha]; exact e) t
    · obtain ⟨xs, _, q⟩ := a1 a ha
      exact ⟨xs, g2.i _ _ q.g⟩
    · obtain ⟨xs, _, q⟩ := a1 a ha
      exact ⟨if_pos ha, g1.fresh q.b, _, g2.i _ _ q.g, rfl⟩
/-! .. opened: the outer list stands still, the lists within may be changed -/
/-- the owned lists, their items as G tells -/
def mgP (G : Hp) (l : Addr) (X : List V) (S : List Addr) : Hp → Hp → V → List Addr → Prop := fun F H v as => v = .ref l ∧ F l = some (.lst X) ∧ as = S ∧ ∀ a ∈ S, H a = G a ∧ ∃ xs, G a = some (.lst xs)
/-- .. whatever they hold -/
def msP (l : Addr) (X : List V) (S : List Addr) (m : Nat) : Hp → Hp → V → List Addr → Prop := fun F H v as => v = .ref l ∧ F l = some (.lst X) ∧ as = S ∧ ∀ a ∈ S, ∃ xs, H a = some (.lst xs) ∧ xs.length ≤ m
theorem st_mg {G : Hp} {l : Addr} {X : List V} {S : List Addr} : MStab (mgP G l X S) := fun F F' H H' v as s e ⟨h1, h2, h3, h4⟩ => by
  subst h3
  exact ⟨h1, s _ _ h2, rfl, fun a ha => by rw [e a ha]; exact h4 a ha⟩
theorem st_ms {l : Addr} {X : List V} {S : List Addr} {m : Nat} : MStab (msP l X S m) := fun F F' H H' v as s e ⟨h1, h2, h3, h4⟩ => by
  subst h3
  exact ⟨h1, s _ _ h2, rfl, fun a ha => by rw [e a ha]; exact h4 a ha⟩
theorem nt_ms {l : Addr} {X : List V} {S : List Addr} {m : Nat} : NoTb (msP l X S m) := fun F H v as ⟨_, _, e, h⟩ a ha ps z => by
  subst e
  obtain ⟨xs, h, _⟩ := h a ha
  rw [h] at z; cases z
/-- what is known of the opened lists -/
structure Mess (K : PySem.W.Frag) (G : Hp) (l : Addr) (X : List V) (S : List Addr) (ds : List PyData) : Prop where
  len : X.length = ds.length
  cap : ∀ m, capDs m ds = true → ∀ a ∈ S, ∀ xs, G a = some (.lst xs) → xs.length ≤ m
  sub : ∀ (j : Nat) (es : List PyData), ds[j]? = some (.list es) → ∃ a xs, X[j]? = some (.ref a) ∧ a ∈ S ∧ G a = some (.lst xs) ∧ xs.length = es.length ∧
    ∀ (k : Nat) (fs : List PyData), es[k]? = some (.list fs) → ∃ b, xs[k]? = some (.ref b) ∧ b ∈ S
theorem at_open (i : Nat) (hi : ρ[i]? = some (moD K B (.list ds))) (pu : pureDs ds = true) (k : ∀ G l X S, Mess K G l X S ds → At B F0 N (ρ.set i (.mo (mgP G l X S)))) : At B F0 N ρ := fun F H σ c => by
  obtain ⟨w, o⟩ := c.own
  obtain ⟨_, v, e1, hn, hl⟩ := o.sl i _ hi
  have hlt : i < ρ.length := (List.getElem?_eq_some_iff.mp hi).1
  have Gi : Same (ovH (w i) F H) H := fun a u h => by
    rcases ovH_cases h with ⟨_, h4⟩ | ⟨_, h4, _⟩
    · exact h4
    · exact c.i _ _ h4
  have inS : ∀ {a : Addr} {xs : List V}, ovH (w i) F H a = some (.lst xs) → a ∈ w i := fun {a xs} h => by
    rcases ovH_cases h with ⟨h4, _⟩ | ⟨_, _, h5⟩
    · exact h4
    · cases h5
  have hn' := hn
  cases hn with
  | @lst l X _ hB hX al =>
    have lw : l ∈ w i := inS hX
    obtain ⟨fl, bl, _, _, _⟩ := o.at_ i l lw
    obtain ⟨S, s1, s2, _⟩ := nwAll_own al
    have sl : ∀ a ∈ S, a ≠ l := fun a ha z => by
      obtain ⟨xs, es, q⟩ := s1 a ha
      have n := q.nw
      rw [z] at n
      have := nw_fun n hn' (q.pu pu) (by rw [pureD]; exact pu)
      have dd := q.dp
      rw [this, PyData.depth.eq_def (.list ds)] at dd
      (try dsimp only at dd)
      omega
    have sw : ∀ a ∈ S, a ∈ w i := fun a ha => by obtain ⟨_, _, q⟩ := s1 a ha; exact inS q.g
    have M : Mess K (ovH (w i) F H) l X S ds := by
      refine ⟨nwAll_len al, fun m hm a ha xs hx => ?_, fun j es hj => ?_⟩
      · obtain ⟨ys, es, q⟩ := s1 a ha
        have := q.g
        rw [hx] at this
        cases this
        have hc := q.cap m hm
        rw [capD, Bool.and_eq_true] at hc
        rw [q.len]
        simpa using hc.1
      · obtain ⟨a, h1, h2⟩ := s2 j es hj
        obtain ⟨x, x1, x2⟩ := nwAll_get al hj
        rw [h1] at x1
        cases x1
        obtain ⟨ys, es', q⟩ := s1 a h2
        have pes : pureD (.list es) = true := by
          have : ∀ {ds : List PyData} {j : Nat} {d : PyData}, pureDs ds = true → ds[j]? = some d → pureD d = true := by
            intro ds
            induction ds with
            | nil => intro j d _ h; simp at h
            | cons d0 r ih =>
              intro j d p h
              rw [pureDs, Bool.and_eq_true] at p
              cases j with
              | zero => simp at h; rw [← h]; exact p.1
              | succ j => exact ih p.2 (by simpa using h)
          exact this pu hj
        have ee := nw_fun q.nw x2 (q.pu pu) pes
        cases ee
        exact ⟨a, ys, h1, h2, q.g, q.len, q.sub⟩
    have sF : Same F (upd F l (.lst X)) := fun a u e => by rw [upd_ne (ne_of_none e fl)]; exact e
    refine k (ovH (w i) F H) l X S M (upd F l (.lst X)) H σ ⟨⟨c.gr.f.trans sF, c.gr.h, fun a u e => ?_, fun a u e t z => ?_, fun a u e t => ?_⟩, by simp [c.len], fun k => if k = i then S else w k, fun k j a h1 h2 => ?_, fun k a h1 => ?_, fun k s hs => ?_⟩
    · by_cases ha : a = l
      · subst ha
        rw [upd_same] at e
        cases e
        exact Gi _ _ hX
      · rw [upd_ne ha] at e
        exact c.i a u e
    · have ha : a ≠ l := fun q => by rw [q, bl] at e; cases e
      rw [upd_ne ha]
      exact c.gr.n a u e t z
    · by_cases ha : a = l
      · rw [ha, upd_same] at e
        cases e
        cases t
      · rw [upd_ne ha] at e
        exact c.gr.t a u e t
    · (try dsimp only at h1 h2)
      have q1 : a ∈ w k := by
        split at h1
        next e => rw [e]; exact sw a h1
        next => exact h1
      have q2 : a ∈ w j := by
        split at h2
        next e => rw [e]; exact sw a h2
        next => exact h2
      exact o.dj k j a q1 q2
    · (try dsimp only at h1)
      have ha : a ≠ l := by
        split at h1
        next => exact sl a h1
        next ki => exact fun q => ki (o.dj k i a h1 (by rw [q]; exact lw))
      have q1 : a ∈ w k := by
        split at h1
        next e => rw [e]; exact sw a h1
        next => exact h1
      obtain ⟨r1, r2, r3⟩ := o.at_ k a q1
      exact ⟨by rw [upd_ne ha]; exact r1, r2, r3⟩
    · (try dsimp only)
      by_cases ki : k = i
      · subst ki
        rw [List.getElem?_set_self hlt] at hs
        cases hs
        refine ⟨st_mg, _, e1, rfl, upd_same, if_pos rfl, fun a ha => ?_⟩
        have ha2 := sw a ha
        obtain ⟨xs, q⟩ := hl a ha2
        exact ⟨(ovH_in ha2).symm, xs, by rw [ovH_in ha2]; exact q⟩
      · rw [if_neg ki]
        rw [List.getElem?_set_ne (fun e => ki e.symm)] at hs
        have q := o.sl k s hs
        cases s with
        | no => trivial
        | fz f => obtain ⟨st, v, e, p⟩ := q; exact ⟨st, v, e, st _ _ v sF p⟩
        | mo m =>
          obtain ⟨st, v, e, p⟩ := q
          exact ⟨st, v, e, st _ _ _ _ _ _ sF (fun a ha => rfl) p⟩
variable {G : Hp} {l : Addr} {X : List V} {S : List Addr} {m : Nat}
/-- what they hold is forgotten -/
theorem at_mess (i : Nat) (m : Nat) (hi : ρ[i]? = some (.mo (mgP G l X S))) (M : Mess K G l X S ds) (cp : capDs m ds = true) (k : At B F0 N (ρ.set i (.mo (msP l X S m)))) : At B F0 N ρ := fun F H σ c =>
  k F H σ (c.chg hi st_ms fun v as e mm n => by
    obtain ⟨h1, h2, rfl, h4⟩ := mm
    exact ⟨⟨h1, h2, rfl, fun a ha => by obtain ⟨q1, xs, q2⟩ := h4 a ha; exact ⟨xs, by rw [q1]; exact q2, M.cap m cp a ha xs q2⟩⟩, fun _ _ => rfl, fun a ha => by obtain ⟨_, _, q⟩ := n a ha; exact q⟩)
/-- one of the owned lists, whichever -/
def inS (S : List Addr) : PyData → Pd := fun _ _ v => ∃ b ∈ S, v = .ref b
theorem st_inS {d : PyData} : Stab (inS S d) := fun _ _ _ _ h => h
theorem wk_refs {a : Addr} {xs : List V} {F1 : Hp} {n : Nat} (h : SqL K F1 a xs) (hl : xs.length = n) (hx : ∀ x ∈ xs, ∃ b ∈ S, x = .ref b) : Wk (Itl K a) (inS S) F1 (List.replicate n .none) where
  goes := fun i H hi s => by
    have hi : i < xs.length := by rw [hl]; simpa using hi
    exact ⟨xs, xs[i], s.seq h, by simp [hi]⟩
  stops := fun H s => ⟨xs, s.seq h, by rw [List.length_replicate, hl]; exact Nat.le_refl _⟩
  yields := fun i F H x H' hi s1 s2 y => by
    obtain ⟨rfl, y⟩ := y
    have hi2 : i < xs.length := by rw [hl]; simpa using hi
    have e := y xs ((s1.trans s2).seq h)
    refine ⟨F, .none, Gr.refl s2, by rw [List.getElem?_replicate, if_pos (by simpa using hi)], hx x (List.mem_of_getElem? e)⟩
/-- the two inner lists of lists, one behind the other -/
theorem evj_cat2 {i : Nat} {a b : Int} {es fs : List PyData} (hi : ρ[i]? = some (.mo (mgP G l X S))) (M : Mess K G l X S ds) (a0 : 0 ≤ a) (b0 : 0 ≤ b) (ha : ds[a.toNat]? = some (.list es)) (hb : ds[b.toNat]? = some (.list fs)) (pa : ∀ e ∈ es, ∃ q, e = .list q) (pb : ∀ e ∈ fs, ∃ q, e = .list q)
    (hz : es.length + fs.length ≤ 100000) : EvJ B F0 ρ (iList K (tOp rCat (tOp (rIxL K) (tVar i) (tC (.int a))) (tOp (rIxL K) (tVar i) (tC (.int b))))) (inS S) (List.replicate (es.length + fs.length) .none) := fun F H σ c R r => by
  obtain ⟨w, o⟩ := c.own
  obtain ⟨_, v, e1, rfl, hX, ew, hS⟩ := o.sl i _ hi
  obtain ⟨a1, xs, x1, x2, x3, x4, x5⟩ := M.sub a.toNat es ha
  obtain ⟨b1, ys, y1, y2, y3, y4, y5⟩ := M.sub b.toNat fs hb
  have hX2 := SqL.of (K := K) (c.i _ _ hX)
  refine ⟨_, e1, l, X, a, .ref a1, rfl, rfl, hX2, atI_nn a0 x1, ?_⟩
  refine ⟨_, e1, l, X, b, .ref b1, rfl, rfl, hX2, atI_nn b0 y1, ?_⟩
  refine ⟨a1, b1, xs, ys, rfl, rfl, by rw [(hS a1 x2).1]; exact x3, by rw [(hS b1 y2).1]; exact y3, sz_of (by rw [x4, y4]; exact hz), fun p hp => ?_⟩
  have g : Gr F H F (upd H p (.lst (xs ++ ys))) := Gr.new c.i hp
  obtain ⟨F2, g2, s2, e2⟩ := g.putN hp upd_same
  refine ⟨p, rfl, ⟨_, SqL.of upd_same⟩, r _ F2 _ g2 (wk_refs (SqL.of e2) (by rw [List.length_append, x4, y4]) fun x hx => ?_)⟩
  have one : ∀ {zs : List V} {gs : List PyData}, zs.length = gs.length → (∀ e ∈ gs, ∃ q, e = PyData.list q) → (∀ (k : Nat) (fs : List PyData), gs[k]? = some (.list fs) → ∃ b, zs[k]? = some (.ref b) ∧ b ∈ S) → ∀ x ∈ zs, ∃ b ∈ S, x = V.ref b := fun {zs gs} hl hg hk x hx => by
    obtain ⟨k, hk1, rfl⟩ := List.mem_iff_getElem.mp hx
    have hk2 : k < gs.length := by omega
    obtain ⟨q, eq⟩ := hg _ (List.getElem_mem hk2)
    obtain ⟨b, q1, q2⟩ := hk k q (by rw [List.getElem?_eq_getElem hk2, eq])
    rw [List.getElem?_eq_getElem hk1] at q1
    exact ⟨b, q2, Option.some.inj q1⟩
  rcases List.mem_append.mp hx with hx | hx
  · exact one x4 pa x5 x hx
  · exact one y4 pb y5 x hx
/-- the outer list itself -/
theorem evj_outer {i : Nat} (hi : ρ[i]? = some (.mo (msP l X S m))) (M : Mess K G l X S ds) (pa : ∀ e ∈ ds, ∃ q, e = .list q) : EvJ B F0 ρ (iList K (tVar i)) (inS S) (List.replicate ds.length .none) := fun F H σ c R r => by
  obtain ⟨w, o⟩ := c.own
  obtain ⟨_, v, e1, rfl, hX, ew, hS⟩ := o.sl i _ hi
  refine ⟨_, e1, l, rfl, ⟨X, SqL.of (c.i _ _ hX)⟩, r _ F H (Gr.refl c.i) (wk_refs (SqL.of hX) M.len fun x hx => ?_)⟩
  obtain ⟨k, hk1, rfl⟩ := List.mem_iff_getElem.mp hx
  have hk2 : k < ds.length := by rw [← M.len]; exact hk1
  obtain ⟨q, eq⟩ := pa _ (List.getElem_mem hk2)
  obtain ⟨b, xs, q1, q2, _⟩ := M.sub k q (by rw [List.getElem?_eq_getElem hk2, eq])
  rw [List.getElem?_eq_getElem hk1] at q1
  exact ⟨b, q2, Option.some.inj q1⟩
/-- some.append(x), some.clear(), some one of the owned lists -/
theorem evx_messApp {i j : Nat} {f : Pd} (hi : ρ[i]? = some (.mo (msP l X S m))) (hj : ρ[j]? = some (.fz (inS S d))) (ha : Ev B F0 ρ ta f) (hz : m < 100000) :
    EvX B F0 ρ (tBM K "list" rAppend (tVar j) (tCons ta tNil)) (ρ.set i (.mo (msP l X S (m + 1)))) (nwd K B .none) := fun F H σ c Q q => by
  obtain ⟨w, o⟩ := c.own
  obtain ⟨_, v, e1, rfl, hX, ew, hS⟩ := o.sl i _ hi
  obtain ⟨_, v2, e2, b, hb, rfl⟩ := o.sl j _ hj
  obtain ⟨xs, hbx, hbl⟩ := hS b hb
  refine ⟨_, e2, .inl ⟨rfl, _, SqL.of hbx⟩, ha F H σ c _ fun y F2 H2 g p => ⟨b, xs, y, rfl, rfl, g.h _ _ hbx, sz_lt (by omega), ?_⟩⟩
  have c2 := (c.go g).chg (H' := upd H2 b (.lst (xs ++ [y]))) hi (st_ms (l := l) (X := X) (S := S) (m := m + 1)) fun v' as ev mm n => by
    obtain ⟨m1, m2, em, m4⟩ := mm
    subst em
    refine ⟨⟨m1, m2, rfl, fun a ha => ?_⟩, fun a ha => upd_ne fun z => ha (by rw [z]; exact hb), fun a ha => ?_⟩
    · by_cases ab : a = b
      · rw [ab]; exact ⟨_, upd_same, by rw [List.length_append, List.length_singleton]; omega⟩
      · rw [upd_ne ab]; obtain ⟨zs, z1, z2⟩ := m4 a ha; exact ⟨zs, z1, by omega⟩
    · by_cases ab : a = b
      · rw [ab]; exact ⟨_, upd_same, rfl⟩
      · rw [upd_ne ab]; obtain ⟨_, _, q⟩ := n a ha; exact q
  exact q _ F2 _ c2 .non
theorem evx_messClr {i j : Nat} (hi : ρ[i]? = some (.mo (msP l X S m))) (hj : ρ[j]? = some (.fz (inS S d))) : EvX B F0 ρ (tBM0 K "list" rClear (tVar j)) (ρ.set i (.mo (msP l X S m))) (nwd K B .none) := fun F H σ c Q q => by
  obtain ⟨w, o⟩ := c.own
  obtain ⟨_, v, e1, rfl, hX, ew, hS⟩ := o.sl i _ hi
  obtain ⟨_, v2, e2, b, hb, rfl⟩ := o.sl j _ hj
  obtain ⟨xs, hbx, hbl⟩ := hS b hb
  refine ⟨_, e2, .inl ⟨rfl, _, SqL.of hbx⟩, b, xs, rfl, rfl, hbx, ?_⟩
  have c2 := c.chg (H' := upd H b (.lst [])) hi (st_ms (l := l) (X := X) (S := S) (m := m)) fun v' as ev mm n => by
    obtain ⟨m1, m2, em, m4⟩ := mm
    subst em
    refine ⟨⟨m1, m2, rfl, fun a ha => ?_⟩, fun a ha => upd_ne fun z => ha (by rw [z]; exact hb), fun a ha => ?_⟩
    · by_cases ab : a = b
      · rw [ab]; exact ⟨_, upd_same, Nat.zero_le _⟩
      · rw [upd_ne ab]; exact m4 a ha
    · by_cases ab : a = b
      · rw [ab]; exact ⟨_, upd_same, rfl⟩
      · rw [upd_ne ab]; obtain ⟨_, _, q⟩ := n a ha; exact q
  exact q _ F _ c2 .non
end
end Lay
namespace Lay
open PySem L2 PySem.Spec PyProof.Rows
/-! what changes nothing may look at the owned things as if they stood still -/
def Stl (s s' : Sl) : Prop := s' = .no ∨ ∃ f, s' = .fz f ∧ Stab f ∧ ∀ B F0 F H σ ρ (i : Nat), Cfg B F0 F H σ ρ → ρ[i]? = some s → ∃ v, σ[i]? = some (some v) ∧ f H v
inductive Stls : List Sl → List Sl → Prop
  | nil : Stls [] []
  | cons {s s' : Sl} {r r' : List Sl} : Stl s s' → Stls r r' → Stls (s :: r) (s' :: r')
section
variable {K : PySem.W.Frag} {B F0 : Hp} {ρ ρ1 ρz : List Sl} {te ta tb : TE} {f : Pd} {d e : PyData} {ds : List PyData} {D : Ends} {u : TS} {N : L2.St → Hp → Prop}
theorem stl_no {s : Sl} : Stl s .no := .inl rfl
theorem stl_fz (st : Stab f) : Stl (.fz f) (.fz f) := .inr ⟨f, rfl, st, fun B F0 F H σ ρ i c e => by
  obtain ⟨w, o⟩ := c.own
  obtain ⟨_, v, h1, h2⟩ := o.sl i _ e
  exact ⟨v, h1, st _ _ _ c.i h2⟩⟩
theorem stl_rd {s : Sl} (r : RdS K s d) : Stl s (sa K d) := .inr ⟨_, rfl, st_dat, fun B F0 F H σ ρ i c e => r B F0 F H σ ρ i c e⟩
theorem stl_mt {C : Addr} {st : TSt} : Stl (mt K C st) (.fz (isTown K C st)) := .inr ⟨_, rfl, st_isTown, fun B F0 F H σ ρ i c e => by
  obtain ⟨w, o⟩ := c.own
  obtain ⟨_, v, h1, t, dx, d, kv, rfl, _, h4, h5, h6⟩ := o.sl i _ e
  exact ⟨_, h1, t, dx, d, kv, rfl, h4, h5, kvAll_mono c.i h6⟩⟩
theorem stls_at : ∀ {ρ ρz : List Sl}, Stls ρ ρz → ∀ (i : Nat) s', ρz[i]? = some s' → ∃ s, ρ[i]? = some s ∧ Stl s s'
  | _, _, .nil, i, s', h => by simp at h
  | _, _, .cons h r, 0, s', e => by
    simp at e
    subst e
    exact ⟨_, rfl, h⟩
  | _, _, .cons h r, i + 1, s', e => by
    obtain ⟨s, e1, e2⟩ := stls_at r i s' (by simpa using e)
    exact ⟨s, by simpa using e1, e2⟩
theorem stls_len : ∀ {ρ ρz : List Sl}, Stls ρ ρz → ρ.length = ρz.length
  | _, _, .nil => rfl
  | _, _, .cons _ r => by rw [List.length_cons, List.length_cons, stls_len r]
theorem cfg_still {F H : Hp} {σ : L2.St} (h : Stls ρ ρz) (c : Cfg B F0 F H σ ρ) : Cfg H H H H σ ρz := by
  refine ⟨Gr.refl (Same.refl _), by rw [c.len, stls_len h], fun _ => [], fun i j a h1 => (List.not_mem_nil h1).elim, fun i a h1 => (List.not_mem_nil h1).elim, fun i s hs => ?_⟩
  obtain ⟨s0, e1, rfl | ⟨f, rfl, st, k⟩⟩ := stls_at h i s hs
  · trivial
  · obtain ⟨v, e2, p⟩ := k B F0 F H σ ρ i c e1
    exact ⟨st, v, e2, p⟩
theorem ev_still (h : Stls ρ ρz) (k : ∀ B', Ev B' B' ρz te (nwd K B' d)) : Ev B F0 ρ te (nwd K B d) := fun F H σ c Q q =>
  k H H H σ (cfg_still h c) _ fun v F' H' g p => by
    obtain ⟨F2, g2, _, n2⟩ := nw_fix (B := B) c.gr.h (nw_mono (Same.refl _) g.i p) F (gr_call c.i g.h)
    exact q v F2 H' g2 n2
/-- .. and makes a new list of flat things -/
theorem evm_still (h : Stls ρ ρz) (k : ∀ B', Ev B' B' ρz te (nwd K B' (.list ds))) (fl : flatDs ds = true) : EvM K B F0 ρ te ds := fun F H σ c Q q =>
  k H H H σ (cfg_still h c) _ fun v F' H' g p => by
    cases p with
    | @lst l xs _ h1 h2 h3 =>
      have g0 := gr_call c.i g.h
      obtain ⟨F2, g2, _, n2⟩ := dpAll_prom (B := B) (nwAll_dp (nwAll_mono (Same.refl _) g.i h3)) fl F (Gr.refl g0.i)
      have n1 : F l = none := c.i.free h1
      exact q l xs F2 H' (g0.trans g2) (g2.n l _ (g.i _ _ h2) rfl n1) h1 (g.i _ _ h2) n2
theorem eo2_still (h : Stls ρ ρz) (k : ∀ B', Ev B' B' ρz te (nwd K B' d)) : EvO2 K B F0 ρ te d := fun F H σ c Q q =>
  k H H H σ (cfg_still h c) _ fun v F' H' g p => q v F H H' (Gr.refl c.i) g.h (nw_mono (Same.refl _) g.i p)
theorem et_still {t : TT} {b : Bool} (h : Stls ρ ρz) (k : ∀ B', EvT B' B' ρz t b) : EvT B F0 ρ t b := fun F H σ c Q q =>
  k H H H σ (cfg_still h c) _ fun F' H' g => q F H' (gr_call c.i g.h)
/-- a walk over owned lists whose items are changed on the way: what they hold is forgotten at its start -/
theorem EvJ.mess {wi : TI} {q : PyData → Pd} {G : Hp} {l : Addr} {X : List V} {S : List Addr} {es : List PyData} (i m : Nat) (h : EvJ B F0 ρ wi q ds) (hi : ρ[i]? = some (.mo (mgP G l X S))) (M : Mess K G l X S es) (cp : capDs m es = true) : EvI B F0 ρ wi (ρ.set i (.mo (msP l X S m))) q ds := fun F H σ c R r => h F H σ c _ fun J F' H' g w => by
  have c2 := (c.go g).chg (H' := H') hi (st_ms (l := l) (X := X) (S := S) (m := m)) fun v as e mm n => by
    obtain ⟨h1, h2, rfl, h4⟩ := mm
    exact ⟨⟨h1, h2, rfl, fun a ha => by obtain ⟨q1, xs, q2⟩ := h4 a ha; exact ⟨xs, by rw [q1]; exact q2, M.cap m cp a ha xs q2⟩⟩, fun _ _ => rfl, fun a ha => by obtain ⟨_, _, q⟩ := n a ha; exact q⟩
  exact r J F' H' c2 c2.gr w
/-- a thing of a known kind -/
theorem EvH.kd {i : Int} (h : EvH B F0 ρ te (dat K (.int i))) : EvH B F0 ρ te (kdP K (.int i)) := fun F H σ c Q q => h F H σ c _ fun v F' H' g p => by
  have k := kd_dp p
  cases p
  exact q _ F' H' g ⟨rfl, k⟩
end
section
variable {K : PySem.W.Frag} {B F0 : Hp} {ρ : List Sl} {te ta tb : TE} {tr : TA} {f : Pd} {fs : List Pd} {ds ds' : List PyData}
theorem ev_neg {a : Int} (ha : EvH B F0 ρ ta (dat K (.int a))) : Ev B F0 ρ (tUn (rU fun i => .int (-i)) ta) (nwd K B (.int (-a))) := fun F H σ c Q q =>
  ha F H σ c _ fun v F' H' g p => by
    cases p
    exact ⟨a, rfl, q _ F' H' g (.int _)⟩
theorem evm_is (h : EvM K B F0 ρ te ds) (e : ds = ds') : EvM K B F0 ρ te ds' := e ▸ h
/-! things of several kinds at once -/
def EvFs (B F0 : Hp) (ρ : List Sl) (ta : TA) (fs : List Pd) : Prop := ∀ F H σ, Cfg B F0 F H σ ρ → ∀ Q : List V → Hp → Prop, (∀ vs F' H', Gr F H F' H' → AOk fs F' vs → Q vs H') → ta σ H Q
theorem efs_nil : EvFs B F0 ρ tNil [] := fun F H σ c Q q => q [] F H (Gr.refl c.i) rfl
theorem efs_cons (st : Stab f) (h : Ev B F0 ρ te f) (hr : EvFs B F0 ρ tr fs) : EvFs B F0 ρ (tCons te tr) (f :: fs) := fun F H σ c Q q =>
  h F H σ c _ fun v F1 H1 g1 p1 => hr F1 H1 σ (c.go g1) _ fun vs F2 H2 g2 p2 => q _ F2 H2 (g1.trans g2) ⟨v, vs, rfl, st _ _ _ g2.f p1, p2⟩
theorem ev_pickF {i : Int} (h : EvFs B F0 ρ tr fs) (hs : ∀ g ∈ fs, Stab g) (hl : fs.length ≤ 100000) (hb : EvH B F0 ρ tb (dat K (.int i))) (h0 : 0 ≤ i) (e : fs[i.toNat]? = some f) : Ev B F0 ρ (tOp (rIxL K) (tLst tr) tb) f := fun F H σ c Q q =>
  h F H σ c _ fun vs F1 H1 g1 p1 => ⟨sz_of (by rw [aok_len p1]; exact hl), fun a ha => by
    have g2 : Gr F H F1 (upd H1 a (.lst vs)) := g1.trans (Gr.new g1.i ha)
    refine hb F1 _ σ (c.go g2) _ fun v F3 H3 g3 p3 => ?_
    cases p3
    obtain ⟨v, e1, e2⟩ := aok_get p1 e
    exact ⟨a, vs, i, v, rfl, rfl, SqL.of (g3.h _ _ upd_same), atI_nn h0 e1, q _ F3 H3 (g2.trans g3) (hs f (List.mem_of_getElem? e) _ _ _ g3.f e2)⟩⟩
theorem ev_dnew : Ev B F0 ρ tDNewK (isDictT K []) := fun F H σ c Q q p hp => by
  obtain ⟨F2, g2, s2, e2⟩ := (Gr.new (o := .dK []) c.i hp).putN (o := .dK []) hp upd_same
  exact q _ F2 _ g2 ⟨p, [], rfl, e2, .nil⟩
/-- a slot that holds no table -/
def NtS (s : Sl) : Prop := ∀ m, s = .mo m → NoTb m
theorem nts_fz {f : Pd} : NtS (.fz f) := fun m e => by cases e
theorem nts_no : NtS .no := fun m e => by cases e
theorem nts_mo {m : Hp → Hp → V → List Addr → Prop} (h : NoTb m) : NtS (.mo m) := fun m' e => by cases e; exact h
theorem n0_S {s : Sl} (h : NtS s) (r : Nt0 ρ) : Nt0 (s :: ρ) := fun j m e => by
  cases j with
  | zero => simp at e; exact h m e
  | succ j => exact r j m (by simpa using e)
end
end Lay
namespace Lay
open PySem L2 PySem.Spec PyProof.Rows
/-! defs with lambdas that are called by others: they keep all tables -/
section
variable {K : PySem.W.Frag}
theorem sqt_noT {H : Hp} {a : Addr} {xs : List V} (h : SqT K H a xs) : SqT K (noT H) a xs := by
  rcases h with (h | ⟨o, h⟩) | h
  · exact .inl (.inl (noT_at h rfl))
  · exact .inl (.inr ⟨o, noT_at h rfl⟩)
  · exact .inr h
mutual
theorem dp_noT {H : Hp} : ∀ {v : V} {d : PyData}, Dp K H v d → Dp K (noT H) v d
  | _, _, .non => .non
  | _, _, .bl b => .bl b
  | _, _, .int i => .int i
  | _, _, .str x => .str x
  | _, _, .lst h a => .lst (seq_noT h) (dpAll_noT a)
  | _, _, .tup h a => .tup (sqt_noT h) (dpAll_noT a)
theorem dpAll_noT {H : Hp} : ∀ {xs : List V} {ds : List PyData}, DpAll K H xs ds → DpAll K (noT H) xs ds
  | _, _, .nil => .nil
  | _, _, .cons h a => .cons (dp_noT h) (dpAll_noT a)
end
mutual
theorem nw_noT {B H : Hp} : ∀ {v : V} {d : PyData}, Nw K B H v d → Nw K B (noT H) v d
  | _, _, .non => .non
  | _, _, .bl b => .bl b
  | _, _, .int i => .int i
  | _, _, .str x => .str x
  | _, _, .lst n h a => .lst n (noT_at h rfl) (nwAll_noT a)
  | _, _, .tup h a => .tup (sqt_noT h) (nwAll_noT a)
theorem nwAll_noT {B H : Hp} : ∀ {xs : List V} {ds : List PyData}, NwAll K B H xs ds → NwAll K B (noT H) xs ds
  | _, _, .nil => .nil
  | _, _, .cons h a => .cons (nw_noT h) (nwAll_noT a)
end
theorem kv_noT {B H : Hp} : ∀ {kv : List (Key × V)} {kvs : List (Int × PyData)}, KvAll K B H kv kvs → KvAll K B (noT H) kv kvs
  | _, _, .nil => .nil
  | _, _, .cons h a => .cons (nw_noT h) (kv_noT a)
/-- what holds without the tables too -/
def NoTP (f : Pd) : Prop := ∀ H v, f H v → f (noT H) v
theorem np_dat {d : PyData} : NoTP (dat K d) := fun H v h => dp_noT h
theorem np_nwd {B : Hp} {d : PyData} : NoTP (nwd K B d) := fun H v h => nw_noT h
theorem np_town {C : Addr} {st : TSt} : NoTP (isTown K C st) := fun H v ⟨t, dx, d, kv, h1, h2, h3, h4⟩ => ⟨t, dx, d, kv, h1, noT_at h2 rfl, noT_at h3 rfl, kv_noT h4⟩
theorem np_kd {v : V} : NoTP (kdP K v) := fun H u ⟨e, k⟩ => ⟨e, by
  rcases k with k | k | k | k | ⟨a, e, k⟩
  · exact .inl k
  · exact .inr (.inl k)
  · exact .inr (.inr (.inl k))
  · exact .inr (.inr (.inr (.inl k)))
  · refine .inr (.inr (.inr (.inr ⟨a, e, ?_⟩)))
    rcases k with ⟨xs, k⟩ | ⟨xs, k⟩ | ⟨kv, k | ⟨o, k⟩⟩
    · exact .inl ⟨xs, seq_noT k⟩
    · exact .inr (.inl ⟨xs, sqt_noT k⟩)
    · exact .inr (.inr ⟨kv, .inl (noT_at k rfl)⟩)
    · exact .inr (.inr ⟨kv, .inr ⟨o, noT_at k rfl⟩⟩)⟩
theorem aok_noT : ∀ {fs : List Pd} {H : Hp} {vs : List V}, (∀ f ∈ fs, NoTP f) → AOk fs H vs → AOk fs (noT H) vs
  | [], _, _, _, h => h
  | f :: fs, H, vs, st, ⟨v, ws, e, p, h⟩ => ⟨v, ws, e, st f (List.mem_cons_self ..) _ _ p, aok_noT (fun g hg => st g (List.mem_cons_of_mem _ hg)) h⟩
theorem np1 {f : Pd} (h : NoTP f) : ∀ g ∈ [f], NoTP g := fun g hg => by rw [List.mem_singleton.mp hg]; exact h
theorem npC {f : Pd} {fs : List Pd} (h : NoTP f) (hs : ∀ g ∈ fs, NoTP g) : ∀ g ∈ f :: fs, NoTP g := fun g hg => by
  rcases List.mem_cons.mp hg with rfl | hg
  · exact h
  · exact hs g hg
/-- the slots at the entry of a def that has the tables T -/
def enterT (T : List (Addr × Str)) (N : Nat) : List Pd → List Sl
  | [] => List.replicate N Sl.no
  | f :: fs => .mo (tabP T f) :: (fs.map Sl.fz ++ List.replicate (N - (fs.length + 1)) Sl.no)
theorem tabS_F {T : List (Addr × Str)} {H : Hp} (h : LamX.Tabs T H) : ∀ p ∈ T, TabF (noT H) H p := fun p hp => by
  obtain ⟨ps, h1, h2, h3⟩ := h p hp
  refine ⟨ps, h1, h2, fun pos cv hc => ?_⟩
  obtain ⟨c, e1, e2⟩ := h3 pos cv hc
  exact ⟨c, e1, noT_at e2 rfl⟩
theorem cfg_enterTs {T : List (Addr × Str)} {f : Pd} {fs : List Pd} {N : List Str} {H : Hp} {vs : List V} (h : AOk (f :: fs) (noT H) vs) (st : ∀ g ∈ f :: fs, Stab g) (hT : LamX.Tabs T H) (hl : fs.length + 1 ≤ N.length) :
    Cfg (noT H) (noT H) (noT H) H (L2.start N vs) (enterT T N.length (f :: fs)) := by
  have el := aok_len h
  rw [List.length_cons] at el
  refine ⟨⟨Same.refl _, noT_same H, noT_same H, fun _ _ _ _ e => e, fun _ _ e _ => e⟩, by simp [L2.start, enterT, el]; omega, fun i => if i = 0 then T.map (·.1) else [], fun i j a h1 h2 => ?_, fun i a h1 => ?_, fun i s hs => ?_⟩
  · (try dsimp only at h1 h2)
    split at h1
    · split at h2
      · omega
      · cases h2
    · cases h1
  · (try dsimp only at h1)
    split at h1
    · obtain ⟨p, hp, rfl⟩ := List.mem_map.mp h1
      obtain ⟨ps, e1, _⟩ := hT p hp
      have e : noT H p.1 = none := by unfold noT; rw [e1]
      exact ⟨e, e, _, e1, rfl⟩
    · cases h1
  · have sv : ∀ (j : Nat) (v : V), vs[j]? = some v → (L2.start N vs)[j]? = some (some v) := fun j v e => by
      unfold L2.start
      have hj : j < vs.length := (List.getElem?_eq_some_iff.mp e).1
      rw [List.getElem?_append_left (by simpa using hj), List.getElem?_map, e]
      rfl
    cases i with
    | zero =>
      simp [enterT] at hs
      subst hs
      obtain ⟨v, t, e, p, _⟩ := h
      refine ⟨st_tab (st f (List.mem_cons_self ..)), v, sv 0 v (by rw [e]; rfl), p, by simp, tabS_F hT⟩
    | succ i =>
      unfold enterT at hs
      rw [List.getElem?_cons_succ] at hs
      by_cases hi : i < fs.length
      · rw [List.getElem?_append_left (by simpa using hi), List.getElem?_map, List.getElem?_eq_getElem hi] at hs
        cases hs
        obtain ⟨v, e1, e2⟩ := aok_get h (i := i + 1) (f := fs[i]) (by rw [List.getElem?_cons_succ, List.getElem?_eq_getElem hi])
        exact ⟨st _ (List.mem_cons_of_mem _ (List.getElem_mem hi)), v, sv _ v e1, e2⟩
      · rw [List.getElem?_append_right (by simpa using Nat.le_of_not_lt hi), List.getElem?_replicate] at hs
        split at hs
        · cases hs; trivial
        · cases hs
/-- the promise of such a def -/
def FpT (K : PySem.W.Frag) (T : List (Addr × Str)) {α : Type} (pre : α → Prop) (args : α → List Pd) (res : α → PyData) : Sp := fun vs H Q _ => ∃ x, pre x ∧ AOk (args x) H vs ∧ LamX.Tabs T H ∧ ∀ v H', LamX.ExtN H H' → LamX.Tabs T H' → Dp K H' v (res x) → Q v H'
/-- .. read where it stands now -/
def EvXd (K : PySem.W.Frag) (B F0 : Hp) (ρ : List Sl) (te : TE) (ρ' : List Sl) (d : PyData) : Prop := ∀ F H σ, Cfg B F0 F H σ ρ → ∀ Q : VK, (∀ v F' H', Cfg B F0 F' H' σ ρ' → Dp K H' v d → Q v H') → te σ H Q
variable {B F0 : Hp} {ρ ρ1 : List Sl} {te ta tb : TE} {tr : TA} {d e : PyData} {D : Ends} {u : TS} {T : List (Addr × Str)} {f : Pd}
theorem EvXd.flat (h : EvXd K B F0 ρ te ρ1 d) (fl : flatD d = true) : EvX B F0 ρ te ρ1 (nwd K B d) := fun F H σ c Q q => h F H σ c _ fun v F' H' c' p => by
  obtain ⟨F2, g2, _, p2⟩ := dp_prom (B := B) p fl F' (Gr.refl c'.i)
  exact q v F2 H' (c'.go g2) p2
theorem evx_callT {α : Type} {pre : α → Prop} {args : α → List Pd} {res : α → PyData} {E : XK} {i : Nat} (x : α) (hp : pre x) (hi : ρ[i]? = some (.mo (tabP T f))) (nB : noTbl B) (nF0 : noTbl F0) (hm : NtAll i ρ) (h : EvA B F0 ρ tr (args x)) : EvXd K B F0 ρ (tCall (FpT K T pre args res) [] E tr) ρ (res x) := fun F H σ c Q q =>
  h F H σ c _ fun vs F1 H1 g1 p => by
    obtain ⟨h1, h2⟩ := cfg_lam (c.go g1) hi nB nF0 hm
    refine ⟨x, hp, by rw [List.append_nil]; exact p, h1, fun v H2 e T2 dd => ?_⟩
    obtain ⟨F2, c2⟩ := h2 H2 e T2
    exact q v F2 H2 c2 dd
/-- the way out of such a def -/
theorem at_retT {i : Nat} (hi : ρ1[i]? = some (.mo (tabP T f))) (h : EvX B F0 ρ te ρ1 (nwd K B d)) (k : ∀ v H', Same B H' → LamX.Tabs T H' → Dp K H' v d → D.rt v H') : At B F0 (tRet te D) ρ := fun F H σ c =>
  h F H σ c _ fun v F' H' c' p => by
    obtain ⟨w, o⟩ := c'.own
    obtain ⟨_, vi, _, _, _, hT⟩ := o.sl i _ hi
    refine k v H' c'.gr.h (fun q hq => ?_) (nw_dp (nw_mono (Same.refl _) c'.gr.i p))
    obtain ⟨ps, h1, h2, h3⟩ := hT q hq
    exact ⟨ps, h1, h2, fun pos cv hc => by obtain ⟨c0, e1, e2⟩ := h3 pos cv hc; exact ⟨c0, e1, c'.i _ _ e2⟩⟩
end
/-- a def whose code object is known -/
structure FunC (K : PySem.W.Frag) (x qual : Str) (c : Addr) (st : Stmt) (f : Addr) (fd : FuncData) : Prop where
  ex : ∃ (oc : Value) (od : Option Addr) (kV doc pm : Value) (an : Option Addr) (ct : Value) (osl : Array (Option Value)),
    fd = PySem.W.fnOf x qual (defArgs st) (defBody st) (defScope st) .none kV doc pm an (.ref c) ct ∧ K.lookup f = some ⟨oc, od, .func fd, osl⟩ ∧ PySem.W.codeIn K (.ref c) qual = true
  kp : PySem.W.keepIn K (.ref f) = true
structure DfnC (K : PySem.W.Frag) (mg : Str → Option Value) (x qual : Str) (c : Addr) (st : Stmt) (ps : List Str) : Prop where
  ex : ∃ f fd, FunC K x qual c st f fd ∧ mg x = some (.ref f) ∧ Binds K fd ps []
section
variable {P : Program} {w : World} {K : PySem.W.Frag} {mg : Str → Option Value} {base : Heap}
theorem FunC.ok {x qual : Str} {st : Stmt} {f c : Addr} {fd : FuncData} {N ps : List Str} {k : Nat} {sp : Sp} (F : FunC K x qual c st f fd) (S : FnScope N ps (defScope st)) (len : ∀ vs H Q E, sp vs H Q E → vs.length = ps.length)
    (hbody : ∀ (A : Around) (outer : List Env) (s : Shared) (H : Hp) (vs : List V) (Q : VK) (E : XK), Room k (A.deeper (envOfC qual (defScope st) s.heap.objs.size f (.ref c))) → sp vs H Q E →
      ∃ t, PSs (cxOf CX0 P w K mg base N qual (defScope st) f (.ref c) A outer s H E).nox (defBody st) t ∧ t { nx := fun _ H' => Q .non H', rt := Q } (start N vs) H) : FnOk P w K mg base CX0 (k + 1) f fd ps sp := by
  obtain ⟨oc, od, kV, doc, pm, an, ct, osl, rfl, lk, hcd⟩ := F.ex
  refine fn_of lk hcd S len fun A outer s H vs Q E hr hsp => ?_
  obtain ⟨t, h, q⟩ := hbody A outer s H vs Q E hr hsp
  exact ⟨t, h.nox, q⟩
/-- THE RULE for a def with lambdas -/
theorem fpT_ok {T : List (Addr × Str)} {x qual : Str} {c : Addr} {st : Stmt} {N ps : List Str} {k : Nat} {α : Type} {pre : α → Prop} {args : α → List Pd} {res : α → PyData} (D : DfnC K mg x qual c st ps) (S : FnScope N ps (defScope st)) (hN : ps.length ≤ N.length)
    (hlen : ∀ x, (args x).length = ps.length) (stab : ∀ x, ∀ f ∈ args x, Stab f) (np : ∀ x, ∀ f ∈ args x, NoTP f) (pos : 0 < ps.length)
    (body : ∀ (f : Addr) (A : Around) (outer : List Env) (s : Shared) (H : Hp) (E : XK), Room k (A.deeper (envOfC qual (defScope st) s.heap.objs.size f (.ref c))) →
      ∃ t, PSs (cxOf CX0 P w K mg base N qual (defScope st) f (.ref c) A outer s H E).nox (defBody st) t ∧
        ∀ x, pre x → ∀ (B : Hp) (Q : VK), noTbl B → (∀ v H', Same B H' → LamX.Tabs T H' → Dp K H' v (res x) → Q v H') → At B B (t { nx := fun _ H' => Q .non H', rt := Q }) (enterT T N.length (args x))) : Ok P w K mg base CX0 (k + 1) x ps (FpT K T pre args res) := by
  obtain ⟨f, fd, F, hg, hb⟩ := D.ex
  refine ⟨f, fd, F.ok S (fun vs H Q E h => ?_) (fun A outer s H vs Q E hr h => ?_), hg, F.kp, hb⟩
  · obtain ⟨z, _, h2, _⟩ := h
    rw [aok_len h2, hlen]
  · obtain ⟨z, h1, h2, hT, h3⟩ := h
    obtain ⟨t, q1, q2⟩ := body f A outer s H E hr
    refine ⟨t, q1, q2 z h1 (noT H) Q (fun a o e => noT_tbl e) (fun v H' s e dd => h3 v H' (fun b o hb nt => s b o (noT_at hb (by cases o <;> first | rfl | exact absurd rfl (nt _)))) e dd) (noT H) H _ ?_⟩
    have hl := hlen z
    have st := stab z
    have hn := np z
    cases e : args z with
    | nil => rw [e] at hl; simp at hl; omega
    | cons g gs =>
      rw [e] at h2 hl st hn
      rw [List.length_cons] at hl
      exact cfg_enterTs (aok_noT hn h2) st hT (by omega)
end
end Lay
namespace Lay
open PySem L2 PySem.Spec PyProof.Rows
/-! lists that are read only, one behind the other -/
def rCatS (K : PySem.W.Frag) : R2 := fun x y H Q => ∃ l b xs zs, x = .ref l ∧ y = .ref b ∧ SqL K H l xs ∧ SqL K H b zs ∧ xs.length + zs.length ≤ sizeLine ∧ ∀ p, H p = none → Q (.ref p) (upd H p (.lst (xs ++ zs)))
theorem kop_catS {X : Cx} (K : PySem.W.Frag) (hK : X.K = K := by rfl) : OpR X (binaryOp .Add) (rCatS K) := by
  subst hK
  intro pins s σ H x y v u Q I rx ry h
  obtain ⟨l, b, xs, zs, rfl, rfl, hH, hB, hz, q⟩ := h
  cases rx
  cases ry
  obtain ⟨its, r, pl, z1⟩ := I.list hH
  obtain ⟨its2, r2, pl2, z2⟩ := I.list hB
  have l1 := r.length
  have l2 := r2.length
  obtain ⟨⟨cls, dd, data, sl⟩, ho, hc, n, hd⟩ := pl.isList
  obtain ⟨⟨cls2, dd2, data2, sl2⟩, ho2, hc2, n2, hd2⟩ := pl2.isList
  simp only at hc hd hc2 hd2
  subst hc hd hc2 hd2
  have ea : its.toArray ++ its2.toArray = (its ++ its2).toArray := by simp
  refine concat_meets ⟨_, ho, rfl⟩ ⟨_, ho2, rfl⟩ noFill_list_add seq_list_add PySem.F.slot_list_add PySem.F.entry_list_add (PySem.F.args_list_add_2 _ _) (list_addW l b its.toArray its2.toArray n n2 dd dd2 sl sl2 (by rw [List.size_toArray, List.size_toArray]; omega)) ⟨ho, ho2, ?_⟩
  rw [ea]
  exact ⟨.ref _, _, I.lnew (t' := s.toks) (r.append r2) (by rw [List.length_append]; omega), rfl, q _ I.fresh⟩
/-! an own exception class with fields, made as a value -/
def tMkV (C : Addr) (sp : Sp) (ta : TA) : TE := fun σ H Q => ta σ H fun vs H1 => vs.length ≤ 1000 ∧ ∀ a, H1 a = none → sp (.ref a :: vs) (upd H1 a (exo a C none)) (fun v H2 => v = .non ∧ Q (.ref a) H2) (fun _ _ _ => False)
section
variable {X : Cx} {e : Expr} {es : List Expr} {ta : TA} {p p1 p2 pos : Pos}
theorem pe_oexV {CX : CXT} {x : Str} {C fI : Addr} {k : Nat} {fd : FuncData} {ps : List Str} {sp : Sp} (T : OexC X.K C) (iC : PySem.W.findIn X.K (.ref C) "__init__" = some (some (.ref fI))) (tI : PySem.W.typeIn X.K (.ref fI) = some (.type "function"))
    (F1 : FnOk X.prog X.w X.K X.mg X.base CX k fI fd ps sp) (hr : Room (k + 1) X.A) (hb : Binds X.K fd ps []) (hx : Passes CX X (fun _ _ _ => False)) (hg : Gl X x) (hm : X.mg x = some (.ref C)) (ha : PA X (e :: es) ta)
    (hdb : (x == ("__debug__" : Str)) = false := by decide) (he : starEach (e :: es) X.env = (false, eval e X.env) :: starEach es X.env := by rfl) (hpl : (backTo pos (starEach es X.env)).any (·.1) = false := by rfl) :
    PE X (.Call (.Name x p) (e :: es) [] pos) (tMkV C sp ta) := by
  refine ⟨fun pins s σ H Q I h => ?_⟩
  obtain ⟨nm, q, N, bs, bm, sn, sub, ab, col, dd, k0, k1, k2, k3, k5, hC, hbm⟩ := T.cls
  refine wpAny_Call_Name_kw (ld_glob I hg hm ?_ hdb)
  refine PySem.W.callWith_K (h₀ := X.base) I.ok.mod.kin T.kC (thn (ha.run pos pins s σ H _ I h) fun us s1 ⟨vs, H1, I1, r1, hz, q1⟩ => ⟨I1.kIn, ?_⟩) he hpl
  show wpAny _ _ (call (.ref C) us) _ _ _
  obtain ⟨hp, g, dr, tk, os⟩ := s1
  have hn : H1 (hp.objs.size + 1) = none := I1.hok.fresh (Nat.le_succ _)
  have hq := q1 (hp.objs.size + 1) hn
  have I2 : Inv X pins σ (upd H1 (hp.objs.size + 1) (exo (hp.objs.size + 1) C none)) ⟨(hp.push (PySem.W.kdv_tup us)).push (PySem.HandSPX.excO C hp.objs.size), g, dr, tk, os⟩ :=
    I1.laid (t' := tk) (a := hp.objs.size + 1) (o := exo (hp.objs.size + 1) C none) (h' := (hp.push (PySem.W.kdv_tup us)).push (PySem.HandSPX.excO C hp.objs.size)) (fun b o e => Heap.get?_push_of_some _ (Heap.get?_push_of_some _ e)) (Nat.le_succ _)
      (exo_ok (show ((hp.push (PySem.W.kdv_tup us)).push (PySem.HandSPX.excO C hp.objs.size)).get? (hp.objs.size + 1) = some (PySem.HandSPX.excO C hp.objs.size) by heap_get))
  have r2 : Vals (V.ref (hp.objs.size + 1) :: vs) (Value.ref (hp.objs.size + 1) :: us) := .cons rfl r1
  have hl : (Value.ref (hp.objs.size + 1) :: us).length = ps.length := by
    have z := r2.length
    rw [F1.len _ _ _ _ hq] at z
    exact z.symm
  have hus : us.length ≤ sizeLine := by
    have z := Paired.length r1
    rw [sizeLine_eq]
    omega
  have hb2 := hb ⟨(hp.push (PySem.W.kdv_tup us)).push (PySem.HandSPX.excO C hp.objs.size), g, dr, tk, os⟩ (Value.ref (hp.objs.size + 1) :: us) I2.kIn (by rw [List.append_nil]; exact hl)
  rw [List.append_nil] at hb2
  refine wpAny_call (PySem.HandSPX.call_own F.excBase_ValueError (fun Y => PySem.HandSPX.refsVE_contains Y bm hbm) (I1.kIn _ _ hC) (PySem.W.looks_findIn I1.kIn iC) (fun self => PySem.W.bind_fn I1.kIn self tI) hus
    (codeAny_mono (F1.run _ X.stack _ _ ⟨Value.ref (hp.objs.size + 1) :: us, []⟩ (Value.ref (hp.objs.size + 1) :: us) _ _ (fun _ _ _ => False) (hr.make C us []) (I2.env0.make C us []) hb2 r2 hq) fun r s' hq' => ?_))
  cases r with
  | error er => exact hx pins σ _ _ er s' I2 hq'
  | ok fl =>
    cases fl with
    | ret u =>
      obtain ⟨v, H2, I3, rv, ev, q2⟩ := I2.after hq'
      subst ev
      exact ⟨rv, .ref _, H2, I3, rfl, q2⟩
    | next => exact False.elim hq'
    | brk => exact False.elim hq'
    | cont => exact False.elim hq'
/-- Base.__init__(self, ..), Base an own class that has no __init__ of its own -/
theorem pe_binit {pl : Sem Bool} {b : Str} {Bc : Addr} {mc : Value} (hg : Gl X b) (hm : X.mg b = some (.ref Bc)) (sg : PySem.W.specialIn X.K (.ref Bc) "__getattribute__" = some (some (.builtin "type.__getattribute__"))) (tB : PySem.W.typeIn X.K (.ref Bc) = some mc) (rB : PySem.W.readsIn X.K Bc mc = true)
    (vB : PySem.W.findCls X.K (.ref Bc) mc "__init__" = some (.val (.builtin "ValueError.__init__"))) (ha : PA X (e :: es) ta)
    (hc : eval (.Call (.Attribute (.Name b p1) "__init__" p2) (e :: es) [] pos) X.env = (do
      let ov ← eval (.Name b p1) X.env
      standAt p2.atName
      let (f, first) ← holding [ov] (getMethod ov "__init__" pl)
      callWith pos f first (backTo pos (starEach (e :: es) X.env)) (backToKw pos (keywordEach [] X.env))) := by rfl)
    (hdb : (b == ("__debug__" : Str)) = false := by decide) (he : starEach (e :: es) X.env = (false, eval e X.env) :: starEach es X.env := by rfl) (hpl : (backTo pos (starEach es X.env)).any (·.1) = false := by rfl) :
    PE X (.Call (.Attribute (.Name b p1) "__init__" p2) (e :: es) [] pos) (tVeI X.K ta) := by
  refine ⟨fun pins s σ H Q I h => ?_⟩
  refine PySem.W.methodCall_KW (ld_glob I hg hm ?_ hdb) hc
  obtain ⟨m, fr⟩ := I.fr
  refine PySem.W.method_of_cls fr I.ok.mod.kin sg (PySem.W.cls_val fr I.ok.mod.kin tB rB vB (by decide +kernel) ?_)
  show wpAny _ _ (callWith pos (Value.builtin "ValueError.__init__") [] (backTo pos (starEach (e :: es) X.env)) []) _ _ _
  refine PyProof.Rows.callWith_method1 (thn (ha.run pos pins _ σ H _ (I.tok _) h) fun us s1 ⟨vs, H1, I1, r1, a, C, ws, ev, hl, T, ea, q⟩ => ?_) he hpl
  subst ev
  cases r1 with
  | @cons _ u0 _ ur ra rw' =>
    obtain rfl : u0 = Value.ref a := ra
    have hlen : ur.length ≤ sizeLine := by
      have z := Paired.length rw'
      rw [sizeLine_eq]
      omega
    exact oinit_ok T I1 ea hlen fun s' J => ⟨.non, H1, J, rfl, q⟩
/-- e.f, e such a value -/
def tOxf (C : Addr) (f : Str) (te : TE) : TE := fun σ H Q => te σ H fun x H1 => ∃ (a dd : Addr) (fs : List (Str × V)) (v : V), x = .ref a ∧ H1 a = some (exo a C (some dd)) ∧ H1 dd = some (exd dd fs) ∧ fs.lookup f = some v ∧ Q v H1
theorem pe_oxf {C : Addr} {te : TE} {n : Str} (T : XfC X.K C) (hno : PySem.W.findIn X.K (.ref C) n = some none) (he : PE X e te) (hb : attributeBase e n X.env (eval e X.env) = eval e X.env := by rfl) : PE X (.Attribute e n pos) (tOxf C n te) := by
  refine ⟨fun pins s σ H Q I h => ?_⟩
  refine attr_of hb (thn (he.run pins s σ H _ I h) fun u s1 hh => ?_)
  obtain ⟨x, H1, I1, rx, a, dd, fs, v, ex, ea, ed, l, q⟩ := hh
  subst ex
  obtain rfl : u = Value.ref a := rx
  obtain ⟨t1, ho⟩ := exo_at I1.hok ea
  obtain ⟨mA, hns, hr⟩ := exd_at I1.hok ed
  obtain ⟨od, hod, hl⟩ := lookIn_ns hns
  obtain ⟨u, hu, ru⟩ := RelO.some_of (v := v) (o := mA n) (by rw [← l]; exact hr n)
  have J : PySem.W.InstAt s1.heap a { cls := .ref C, dict := some dd, data := .fields #[.ref t1, .none, .none, .none, .bool false, .none] } C (some od) := ⟨ho, rfl, rfl, hod⟩
  exact HandSPX.exc_get I1.kIn J T.ga T.gg T.exC (PySem.W.findObj_own T.hdC hno rfl (by rw [hl, hu])) (handed_of ru) ⟨v, H1, I1.tok _, ru, q⟩
end
end Lay
namespace Lay
open PySem L2 PySem.Spec PyProof.Rows
/-! texts -/
section
variable {K : PySem.W.Frag} {B F0 : Hp} {ρ ρ1 : List Sl} {te ta tb : TE} {tr : TA} {d e : PyData} {ds : List PyData} {f : Pd} {D : Ends} {u ts us : TS} {g : TG}
theorem Ev.sof {a : Str} {F : Hp} {v : V} (p : nwd K B (.str a) F v) : v = .str a := by cases p; rfl
theorem ev_addS {a b : Str} (ha : EvH B F0 ρ ta (dat K (.str a))) (hb : EvH B F0 ρ tb (dat K (.str b))) (hz : a.length + b.length ≤ 100000) : Ev B F0 ρ (tOp (fun x y H Q => ∃ i j, x = .str i ∧ y = .str j ∧ i.length + j.length ≤ sizeLine ∧ Q (.str (i ++ j)) H) ta tb) (nwd K B (.str (a ++ b))) :=
  evo st_dat ha hb (fun F => .str _) fun H x y hx hy Q q => by
    cases hx; cases hy
    exact ⟨a, b, rfl, rfl, sz_of hz, q⟩
theorem ev_strI {i : Int} (ha : EvH B F0 ρ ta (dat K (.int i))) (h : i.natAbs.log2 < 1920) : Ev B F0 ρ (tCB (fun xs H Q => ∃ i, xs = [.int i] ∧ i.natAbs.log2 < 1920 ∧ Q (.str (toString i)) H) (tCons ta tNil)) (nwd K B (.str (toString i))) := fun F H σ c Q q =>
  ha F H σ c _ fun v F' H' g p => by
    cases p
    exact ⟨i, rfl, h, q _ F' H' g (.str _)⟩
theorem ev_intS {a : Str} {n : Int} (ha : EvH B F0 ρ ta (dat K (.str a))) (h : PySem.intText? a = some n) (hl : a.length ≤ 640) : Ev B F0 ρ (tCB (fun xs H Q => ∃ a n, xs = [.str a] ∧ PySem.intText? a = some n ∧ a.length ≤ 640 ∧ Q (.int n) H) (tCons ta tNil)) (nwd K B (.int n)) := fun F H σ c Q q =>
  ha F H σ c _ fun v F' H' g p => by
    cases p
    exact ⟨a, n, rfl, h, hl, q _ F' H' g (.int _)⟩
theorem ev_intB {b : Bool} (ha : EvH B F0 ρ ta (dat K (.bool b))) : Ev B F0 ρ (tCB (fun xs H Q => (∃ i, xs = [.int i] ∧ Q (.int i) H) ∨ ∃ k, xs = [.bl k] ∧ Q (.int (if k then 1 else 0)) H) (tCons ta tNil)) (nwd K B (.int (if b then 1 else 0))) := fun F H σ c Q q =>
  ha F H σ c _ fun v F' H' g p => by
    cases p
    exact .inr ⟨b, rfl, q _ F' H' g (.int _)⟩
theorem ev_lenS {a : Str} (ha : EvH B F0 ρ ta (dat K (.str a))) (hl : a.length ≤ 100000) : Ev B F0 ρ (tCB (fun xs H Q => ∃ z, xs = [.str z] ∧ z.length ≤ sizeLine ∧ Q (.int z.length) H) (tCons ta tNil)) (nwd K B (.int a.length)) := fun F H σ c Q q =>
  ha F H σ c _ fun v F' H' g p => by
    cases p
    exact ⟨a, rfl, sz_of hl, q _ F' H' g (.int _)⟩
theorem ev_ixS {a : Str} {i : Int} {c : Nat} (ha : EvH B F0 ρ ta (dat K (.str a))) (hb : EvH B F0 ρ tb (dat K (.int i))) (hl : a.length ≤ 100000) (h : atI a.cps.toList i = some c) : Ev B F0 ρ (tOp rIxS ta tb) (nwd K B (.str ⟨#[c]⟩)) :=
  evo st_dat ha hb (fun F => .str _) fun H x y hx hy Q q => by
    cases hx; cases hy
    exact ⟨a, i, c, rfl, rfl, sz_of hl, h, q⟩
theorem ev_slS {a : Str} {tl th : TO} {lo hi : Option Int} (ha : EvH B F0 ρ te (dat K (.str a))) (hl : a.length ≤ 100000) (h1 : EvO K B F0 ρ tl lo) (h2 : EvO K B F0 ρ th hi) : Ev B F0 ρ (tSl rSlS te tl th) (nwd K B (.str (cutS a lo hi))) := fun F H σ c Q q =>
  ha F H σ c _ fun v F1 H1 g1 p1 => h1 F1 H1 σ (c.go g1) _ fun F2 H2 g2 => h2 F2 H2 σ ((c.go g1).go g2) _ fun F3 H3 g3 => by
    cases p1
    exact ⟨a, rfl, sz_of hl, q _ F3 H3 (g1.trans (g2.trans g3)) (.str _)⟩
theorem nwAll_strs {F : Hp} : ∀ ws : List Str, NwAll K B F (ws.map V.str) (ws.map PyData.str)
  | [] => .nil
  | w :: ws => .cons (.str w) (nwAll_strs ws)
theorem dpAll_strs {H : Hp} : ∀ {xs : List V} {ws : List Str}, DpAll K H xs (ws.map .str) → xs = ws.map V.str
  | [], [], _ => rfl
  | x :: xs, w :: ws, .cons h a => by
    cases h
    rw [List.map_cons, dpAll_strs a]
theorem evm_split {a b : Str} (ha : EvH B F0 ρ ta (dat K (.str a))) (hb : EvH B F0 ρ tb (dat K (.str b))) (h0 : (b.length == 0) = false) (hl : a.length + 2 ≤ 100000) :
    EvM K B F0 ρ (tM1 (fun x xs H Q => ∃ a b, x = .str a ∧ xs = [.str b] ∧ (b.length == 0) = false ∧ a.length + 2 ≤ sizeLine ∧ rNewStrs (Txt.split a b) H Q) ta tb) ((Txt.split a b).map .str) := fun F H σ c Q q =>
  ha F H σ c _ fun v F1 H1 g1 p1 => by
    cases p1
    refine ⟨⟨a, rfl⟩, hb F1 H1 σ (c.go g1) _ fun v2 F2 H2 g2 p2 => ?_⟩
    cases p2
    refine ⟨a, b, rfl, rfl, h0, sz_of hl, fun p hp => ?_⟩
    have g := g1.trans g2
    exact q p _ F2 _ (g.trans (Gr.new g.i hp)) (g.i.free hp) (g.fresh hp) upd_same (nwAll_strs _)
theorem ev_join {a : Str} {ws : List Str} (ha : EvH B F0 ρ ta (dat K (.str a))) (hb : EvH B F0 ρ tb (dat K (.list (ws.map .str)))) (hz : (ws.map (·.length)).sum + ws.length * a.length ≤ 16777216) :
    Ev B F0 ρ (tM1 (fun x xs H Q => ∃ a p, ∃ ys : List Str, x = .str a ∧ xs = [.ref p] ∧ (SqL K H p (ys.map V.str) ∨ SqT K H p (ys.map V.str)) ∧ (ys.map (·.length)).sum + ys.length * a.length ≤ 16777216 ∧ Q (.str (Txt.join a ys)) H) ta tb) (nwd K B (.str (Txt.join a ws))) := fun F H σ c Q q =>
  ha F H σ c _ fun v F1 H1 g1 p1 => by
    cases p1
    refine ⟨⟨a, rfl⟩, hb F1 H1 σ (c.go g1) _ fun v2 F2 H2 g2 p2 => ?_⟩
    cases p2 with
    | @lst p xs _ h1 h2 =>
      rw [dpAll_strs h2] at h1
      exact ⟨a, p, ws, rfl, rfl, .inl h1, hz, q _ F2 H2 (g1.trans g2) (.str _)⟩
theorem ev_inS {z : Str} {c : Nat} (ha : EvH B F0 ρ ta (dat K (.str ⟨#[c]⟩))) (hb : EvH B F0 ρ tb (dat K (.str z))) : Ev B F0 ρ (tOp (fun x y H Q => ∃ (c : Nat) (z : Str), x = .str ⟨#[c]⟩ ∧ y = .str z ∧ Q (.bl (decide (c ∈ z.cps.toList))) H) ta tb) (nwd K B (.bool (decide (c ∈ z.cps.toList)))) :=
  evo st_dat ha hb (fun F => .bl _) fun H x y hx hy Q q => by
    cases hx; cases hy
    exact ⟨c, z, rfl, rfl, q⟩
theorem ev_notInS {z : Str} {c : Nat} (ha : EvH B F0 ρ ta (dat K (.str ⟨#[c]⟩))) (hb : EvH B F0 ρ tb (dat K (.str z))) : Ev B F0 ρ (tOp (fun x y H Q => ∃ (c : Nat) (z : Str), x = .str ⟨#[c]⟩ ∧ y = .str z ∧ Q (.bl (!decide (c ∈ z.cps.toList))) H) ta tb) (nwd K B (.bool (!decide (c ∈ z.cps.toList)))) :=
  evo st_dat ha hb (fun F => .bl _) fun H x y hx hy Q q => by
    cases hx; cases hy
    exact ⟨c, z, rfl, rfl, q⟩
abbrev sgnD (c : Nat) : PyData := .str ⟨#[c]⟩
theorem evj_str {z : Str} (h : EvH B F0 ρ te (dat K (.str z))) : EvJ B F0 ρ (iStr te) (nwd K B) (z.cps.toList.map sgnD) := fun F H σ c R r => h F H σ c _ fun v F' H' g p => by
  cases p
  have w := walk_str (z := z)
  refine ⟨z, rfl, r _ F' H' g ⟨fun i H2 hi s => w.goes i H2 (by simpa using hi) trivial, fun H2 s => by
    have := w.stops H2 trivial
    simpa using this, fun i F2 H2 x H3 hi s1 s2 y => ?_⟩⟩
  obtain ⟨rfl, cc, hc, rfl⟩ := w.yields i H2 x H3 (by simpa using hi) trivial y
  exact ⟨F2, _, Gr.refl s2, by rw [List.getElem?_map, Array.getElem?_toList, hc]; rfl, .str _⟩
/-- a sign or none -/
def rMulS : R2 := fun x y H Q => ∃ (z : Str) (b : Bool), x = .str z ∧ y = .int (if b then 1 else 0) ∧ Q (.str (if b then z else Str.empty)) H
theorem op_mulS {X : Cx} : OpR X (binaryOp .Mult) rMulS := by
  intro pins s σ H x y v u Q I rx ry h
  obtain ⟨z, b, rfl, rfl, q⟩ := h
  obtain ⟨t, rfl⟩ := rx
  obtain ⟨t', rfl⟩ := ry
  cases b with
  | true =>
    refine PySem.P.mul_str (by decide) (fun _ h => by simp at h) (fun _ h => by simp at h) ?_
    rw [if_neg (by decide), if_pos (by simp)]
    exact ⟨.str z, H, I, ⟨_, rfl⟩, q⟩
  | false => exact PySem.P.mul_str_none (by decide) (by decide) ⟨.str Str.empty, H, I.tok _, ⟨_, rfl⟩, q⟩
theorem ev_mulS {z : Str} {b : Bool} (ha : EvH B F0 ρ ta (dat K (.str z))) (hb : EvH B F0 ρ tb (dat K (.int (if b then 1 else 0)))) : Ev B F0 ρ (tOp rMulS ta tb) (nwd K B (.str (if b then z else Str.empty))) :=
  evo st_dat ha hb (fun F => .str _) fun H x y hx hy Q q => by
    cases hx; cases hy
    exact ⟨z, b, rfl, rfl, q⟩
/-! what raises, whatever was wanted -/
def EvB (B F0 : Hp) (ρ : List Sl) (te : TE) : Prop := ∀ F H σ, Cfg B F0 F H σ ρ → ∀ Q : VK, te σ H Q
theorem q_bad (h : EvB B F0 ρ te) : At B F0 (tSeq (tAsg te g) u D) ρ := fun F H σ c => h F H σ c _
theorem at_bad (h : EvB B F0 ρ te) : At B F0 (tRet te D) ρ := fun F H σ c => h F H σ c _
theorem q_badD (h : EvB B F0 ρ te) : At B F0 (tSeq (tDrop te) u D) ρ := fun F H σ c => h F H σ c _
theorem at_badD (h : EvB B F0 ρ te) : At B F0 (tDrop te D) ρ := fun F H σ c => h F H σ c _
theorem evb_tup1 (h : EvB B F0 ρ te) : EvB B F0 ρ (tTup (tCons te tr)) := fun F H σ c Q => h F H σ c _
theorem evb_tup2 (h0 : Ev B F0 ρ ta f) (h : EvB B F0 ρ te) : EvB B F0 ρ (tTup (tCons ta (tCons te tr))) := fun F H σ c Q => h0 F H σ c _ fun v F' H' g p => h F' H' σ (c.go g) _
/-- a comprehension one of whose items raises -/
theorem evb_lc {α : Type} {xs pre post : List α} {x0 : α} {e : α → PyData} {q : PyData → Pd} {wi : TI} {g : TG} {vs : List Nat} (f : α → PyData) (hx : xs = pre ++ x0 :: post) (hw : EvJ B F0 ρ wi q (xs.map e))
    (hb : ∀ F1 x, x ∈ pre → ∃ is ρ2, Bind B F1 g is (q (e x)) (wipeR ρ vs) ρ2 ∧ (∀ j ∈ is, j ∈ vs) ∧ Ev B F1 ρ2 te (nwd K B (f x))) (h0 : ∀ F1, ∃ is ρ2, Bind B F1 g is (q (e x0)) (wipeR ρ vs) ρ2 ∧ (∀ j ∈ is, j ∈ vs) ∧ EvB B F1 ρ2 te) (hz : xs.length ≤ 100000) :
    EvB B F0 ρ (tLc wi g tYes te vs) := fun F H σ c Q => by
  refine hw F H σ c _ fun J F1 H1 g1 w D hD => ?_
  have c1 := c.go g1
  have lpre : pre.length < xs.length := by rw [hx, List.length_append, List.length_cons]; omega
  refine ⟨fun i m H' => m = xs.length - i ∧ i ≤ pre.length ∧ ∃ F' acc, Gr F1 H1 F' H' ∧ F' D = none ∧ H' D = some (.lst acc) ∧ acc.length = i,
    ⟨xs.length, by simp, Nat.zero_le _, F1, [], Gr.new g1.i hD, g1.i.free hD, upd_same, rfl⟩, ?_⟩
  rintro i' m H' ⟨rfl, hi, F', acc, g', fD, hD', hl'⟩
  have sF : Same F1 H' := g'.f.trans g'.i
  have hlt : i' < xs.length := by omega
  have hl : i' < (xs.map e).length := by simpa using hlt
  refine .inr ⟨w.goes i' H' hl sF, fun H2 => i' < pre.length ∧ ∃ F' acc, Gr F1 H1 F' H2 ∧ F' D = none ∧ H2 D = some (.lst acc) ∧ acc.length = i' + 1, fun H2 ⟨l1, l2⟩ => ⟨xs.length - (i' + 1), by omega, rfl, by omega, l2⟩, fun x H2 y => ?_⟩
  obtain ⟨F2, d, g2, hd2, p2⟩ := w.yields i' F' H' x H2 hl g'.f g'.i y
  have ed : d = e xs[i'] := by
    rw [List.getElem?_map, List.getElem?_eq_getElem hlt] at hd2
    exact (Option.some.inj hd2).symm
  subst ed
  have cw : Cfg B F1 F2 H2 (wipe σ vs) (wipeR ρ vs) := by
    have c2 := (c.go (g1.trans (g'.trans g2))).wipe vs
    exact ⟨⟨g'.f.trans g2.f, c2.gr.h, c2.gr.i, fun a o h t z => (g'.trans g2).n a o (c1.gr.h a o h) t z, (g'.trans g2).t⟩, c2.len, c2.own⟩
  by_cases hp : i' < pre.length
  · have ex : xs[i'] = pre[i'] := by
      have h1 : xs[i']? = pre[i']? := by rw [hx, List.getElem?_append_left hp]
      rw [List.getElem?_eq_getElem hlt, List.getElem?_eq_getElem hp] at h1
      exact Option.some.inj h1
    rw [ex] at p2
    obtain ⟨is, ρ2, b2, hj, ev⟩ := hb F1 pre[i'] (List.getElem_mem hp)
    refine b2 F2 H2 (wipe σ vs) x cw p2 _ fun σ3 c3 o3 => ⟨wipe_only o3 hj, ?_⟩
    unfold tYes
    dsimp only
    rw [if_pos rfl]
    refine ev F2 H2 σ3 c3 _ fun v F3 H3 g3 p3 => ?_
    have gg : Gr F1 H1 F3 H3 := g'.trans (g2.trans g3)
    have hD3 : H3 D = some (.lst acc) := g3.h _ _ (g2.h _ _ hD')
    have fD3 : F3 D = none := g3.n D _ (g2.h _ _ hD') rfl (g2.n D _ hD' rfl fD)
    refine ⟨acc, hD3, sz_lt (by omega), hp, F3, acc ++ [v], ?_, fD3, upd_same, by rw [List.length_append, List.length_singleton, hl']⟩
    refine ⟨gg.f, fun b o h => ?_, fun b o h => ?_, gg.n, gg.t⟩
    · rw [upd_ne (ne_of_none h hD)]; exact gg.h b o h
    · rw [upd_ne (ne_of_none h fD3)]; exact gg.i b o h
  · have ei : i' = pre.length := by omega
    subst ei
    have ex : xs[pre.length] = x0 := by
      have h1 : xs[pre.length]? = some x0 := by rw [hx, List.getElem?_append_right (Nat.le_refl _), Nat.sub_self]; rfl
      rw [List.getElem?_eq_getElem hlt] at h1
      exact Option.some.inj h1
    rw [ex] at p2
    obtain ⟨is, ρ2, b2, hj, ev⟩ := h0 F1
    refine b2 F2 H2 (wipe σ vs) x cw p2 _ fun σ3 c3 o3 => ⟨wipe_only o3 hj, ?_⟩
    unfold tYes
    dsimp only
    rw [if_pos rfl]
    exact ev F2 H2 σ3 c3 _
end
/-! a call within try: what is wanted of its exception leans on the slots -/
def tCallS (sp : Sp) (dvs : List V) (E : L2.St → XK) (t : TA) : TE := fun σ H Q => t σ H fun vs H1 => sp (vs ++ dvs) H1 Q (E σ)
section
variable {X : Cx} {k : Nat} {x : Str} {ps : List Str} {sp : Sp} {p pos : Pos} {e : Expr} {es : List Expr} {t : TA} {W : WX}
theorem ok_callS (tk : Takes X W) (G : Ok X.prog X.w X.K X.mg X.base (L2.CX X.prog X.w) k x ps sp) (hr : Room k X.A) (hg : Gl X x) (ha : PA X (e :: es) t) (hdb : (x == ("__debug__" : Str)) = false := by decide)
    (he : starEach (e :: es) X.env = (false, eval e X.env) :: starEach es X.env := by rfl) (hpl : (backTo pos (starEach es X.env)).any (·.1) = false := by rfl) : PE X (.Call (.Name x p) (e :: es) [] pos) (tCallS sp [] (fun σ cls d H => W cls d σ H) t) := by
  obtain ⟨f, fd, F, hm, hk, hb⟩ := G.ex
  refine ⟨fun pins s σ H Q I h => ?_⟩
  refine wpAny_Call_Name_kw (ld_glob I hg hm ?_ hdb)
  refine PySem.W.callWith_K (h₀ := X.base) I.ok.mod.kin hk (thn (ha.run pos pins s σ H _ I h) fun us s1 ⟨vs, H1, I1, r, q⟩ => ⟨I1.kIn, ?_⟩) he hpl
  have q : sp (vs ++ []) H1 Q (fun cls d H => W cls d σ H) := q
  rw [List.append_nil] at q
  have hl : us.length = ps.length := by rw [← r.length]; exact F.len _ _ _ _ q
  have hb2 := hb s1 us I1.kIn (by rw [List.append_nil]; exact hl)
  rw [List.append_nil] at hb2
  refine wpAny_call (codeAny_mono (F.run X.A X.stack s1 H1 ⟨us, []⟩ us vs Q _ hr I1.env0 hb2 r q) fun r2 s' hq => ?_)
  cases r2 with
  | error er => exact tk er s' (XE.of_call I1 (fun cls d H' h => h) hq)
  | ok fl =>
    cases fl with
    | ret u => exact I1.after hq
    | next => exact False.elim hq
    | brk => exact False.elim hq
    | cont => exact False.elim hq
end
end Lay
namespace Lay
open PySem L2 PySem.Spec PyProof.Rows
/-! a call within a list comprehension whose exception leaves it -/
section
variable {X : Cx} {pins : List (Addr × Obj)} {σ : L2.St} {H H3 : Hp} {s s3 s' : Shared} {E : XK} {u : Value}
theorem okXe (k : X.Ok) (xe : Value → Shared → Prop) : ({ X with xe := xe } : Cx).Ok := ⟨k.mod, k.kind, k.glob, k.blt, k.above, k.inj, k.has, k.cab, k.hd, k.frames, k.stk, k.exf, k.bs, k.bsz, k.noex, k.exfs, k.funs, k.frf⟩
theorem okXe' {xe : Value → Shared → Prop} (k : ({ X with xe := xe } : Cx).Ok) : X.Ok := ⟨k.mod, k.kind, k.glob, k.blt, k.above, k.inj, k.has, k.cab, k.hd, k.frames, k.stk, k.exf, k.bs, k.bsz, k.noex, k.exfs, k.funs, k.frf⟩
theorem invXe (I : Inv X pins σ H s) (xe : Value → Shared → Prop) : Inv { X with xe := xe } pins σ H s := ⟨okXe I.ok xe, I.os, I.bare, I.base, I.loc, I.cell, I.free, I.freeC, I.pin, I.hok, I.len⟩
theorem invXe' {xe : Value → Shared → Prop} (I : Inv { X with xe := xe } pins σ H s) : Inv X pins σ H s := ⟨okXe' I.ok, I.os, I.bare, I.base, I.loc, I.cell, I.free, I.freeC, I.pin, I.hok, I.len⟩

/-- an exception that came out of a call and flies -/
def XFly (X : Cx) (E : XK) (u : Value) (s' : Shared) : Prop :=
  ∃ (a : Addr) (G : Heap) (t : Shared) (pn : List (Addr × Obj)) (τ : L2.St) (H1 : Hp) (cls : Value) (d : Option Addr), u = .ref a ∧ Inv X pn τ H1 t ∧ (∀ b o, t.heap.get? b = some o → b ∉ frs X.stack → G.get? b = some o) ∧
    t.heap.UpToSlots s'.heap ∧ HandSPX.FlyingZ G X.stack a (Zc cls d) s'.heap ∧ H1 a = none ∧ s'.os = t.os ∧ AllBare s'.gens ∧ E cls d H1
theorem fly_of_call (I : Inv X pins σ H s) (c : L2.CX X.prog X.w X.stack H s E u s') : XFly X E u s' := by
  obtain ⟨a, G, t, pn, τ, H1, cls, d, e, J, nb, up, sky, r⟩ := XE.of_call (W := fun cls d _ H => E cls d H) I (fun _ _ _ h => h) c
  obtain ⟨a0, G0, H0, cls0, d0, e0, fl, _⟩ := c
  rw [e0] at e
  cases e
  refine ⟨_, G, t, pn, τ, H1, cls, d, e0, J, nb, up, ?_, r⟩
  obtain ⟨_, _, _, oe, vs, T, oT, ts, he, _, hd, h1, _, _, hT, hdT, h3⟩ := fl
  rcases sky with ⟨_, _, _, o2, v2, k1, _, k2, k3⟩ | y | ⟨_, _, _, o2, v2, T2, oT2, t2, k1, _, k2, k3, _, _, k4, k5, k6⟩
  · rw [he] at k1; cases k1; rw [hd] at k2; cases k2; rw [h1] at k3; cases k3
  · exact y
  · rw [he] at k1; cases k1; rw [hd] at k2; cases k2; rw [h1] at k3; cases k3
    rw [hT] at k4; cases k4; rw [hdT] at k5; cases k5; rw [h3] at k6; cases k6
theorem nsSlots {h h' : Heap} {C : Addr} {m : Str → Option Value} (n : h.Ns C m) (k : h.UpToSlots h') : h'.Ns C m := by
  obtain ⟨o, es, ep, e, d, r⟩ := n
  obtain ⟨sl, q⟩ := k C o e fun vs z => by rw [d] at z; cases z
  exact ⟨_, es, ep, q, d, r⟩
theorem noteAs (e : Value) {c1 c2 : Env} (h : c1.frame = c2.frame) : PySem.noteFrame e c1 = PySem.noteFrame e c2 := by
  unfold PySem.noteFrame PySem.frameOf
  rw [h]
theorem ffBut {h h' base : Heap} {C : Addr} (sb : ∀ b, b ≠ C → h'.get? b = h.get? b) : ∀ {l : List Env}, h.FunFrames base l → C ∉ frs l → h'.FunFrames base l
  | [], _, _ => trivial
  | ev :: l, ⟨k, ⟨L, o, f, n, e, z⟩, r⟩, y => ⟨k, ⟨L, o, f, n, (sb L fun q => y (List.mem_filterMap.mpr ⟨ev, List.mem_cons_self, by rw [f, q]⟩)).trans e, z⟩, ffBut sb r fun q => y (by
    obtain ⟨e2, m, f2⟩ := List.mem_filterMap.mp q
    exact List.mem_filterMap.mpr ⟨e2, List.mem_cons_of_mem _ m, f2⟩)⟩
/-- it leaves the comprehension -/
theorem fly_out {scope : Scope} {ce : Env} {fp : List Addr} (tk : Takes X fun cls d _ H => E cls d H) (hst : X.stack = X.env :: X.outer) (hfr : X.env.frame = some X.env.locals) (I3 : Inv X pins σ H3 s3) (f3 : ∀ b ∈ fp, FpOk X pins H3 b)
    (cL : ce.locals = s3.heap.objs.size) (cF : ce.frame = X.env.frame) (xx : XFly (X.blk s3 H3 scope ce fp) E u s') : notedBy (model X.prog X.w) X.A ce (CompFails (model X.prog X.w) X.A X.xe ce) u s' := by
  obtain ⟨a, G, t, pn, τ, H1, cls, d, rfl, J, nb, up, fl, na, os, ag, q⟩ := xx
  show wpAny (model X.prog X.w) X.A (PySem.noteFrame (.ref a) ce) _ _ s'
  rw [noteAs _ cF]
  have fl : HandSPX.FlyingZ G X.stack a (Zc cls d) s'.heap := fl
  rw [hst] at fl
  have af : X.A.frames = some (X.env :: X.outer) := by rw [I3.ok.frames, hst]
  refine HandSPX.looks_onZ Zc.steady af hfr fl fun h1 hh1 up1 => ?_
  obtain ⟨m, hn, _⟩ := J.loc
  have hn : t.heap.Ns ce.locals m := hn
  have hn1 : h1.Ns ce.locals m := nsSlots hn (up.trans up1)
  refine ⟨m, hn1, fun h2 m2 hn2 sb => ?_⟩
  have J7 : Inv X pins σ H1 t := I3.call' (ch := fp) J.os J.base J.hok J.bare fun b hb => ⟨(f3 b hb).2.2.2.1, (f3 b hb).2.1, (f3 b hb).2.2.2.2.1, (f3 b hb).2.2.2.2.2⟩
  have nC : H1 ce.locals = none := J.free
  have fC : FpOk X pins H1 ce.locals := I3.fpOk (Nat.le_of_eq cL.symm) nC
  have nst : ce.locals ∉ frs X.stack := fun z => by
    rw [hst] at z
    rcases List.mem_filterMap.mp z with ⟨ev, hm, e⟩
    rcases List.mem_cons.mp hm with r | hm
    · rw [r, hfr] at e; exact fC.2.1 (Option.some.inj e).symm
    · exact fC.2.2.1 (List.mem_filterMap.mpr ⟨ev, hm, e⟩)
  obtain ⟨g1, g2, g3, oe, vs, T, oT, ts, he, hz, hd, hv, hT0, hTe, hT, hdT, h3⟩ := hh1
  obtain ⟨oC, es, ep, eC, dC, _⟩ := hn1
  have naC : a ≠ ce.locals := fun z => by rw [z, eC] at he; cases he; rw [dC] at hd; cases hd
  have nTC : T ≠ ce.locals := fun z => by rw [z, eC] at hT; cases hT; rw [dC] at hdT; cases hdT
  have hh2 : HandSPX.HeldZ (PySem.W.hideAll G [ce.locals]) (X.env :: X.outer) a (Zc cls d) X.env.locals h2 := by
    refine ⟨fun b o e => ?_, ?_, ?_, oe, vs, T, oT, ts, (sb.2 a naC).trans he, hz, hd, hv, ?_, hTe, (sb.2 T nTC).trans hT, hdT, h3⟩
    · have e1 := PySem.W.of_hideAll _ e
      have e2 : b ≠ ce.locals := fun z => by rw [z, PySem.W.hideAll_none [ce.locals] (by simp)] at e; cases e
      exact (sb.2 b e2).trans (g1 b o e1)
    · cases e : (PySem.W.hideAll G [ce.locals]).get? a with
      | none => rfl
      | some o => rw [PySem.W.of_hideAll _ e] at g2; cases g2
    · have gg : h2.FunFrames G (X.env :: X.outer) := ffBut sb.2 g3 fun z => nst (by rw [hst]; exact z)
      exact funFrames_none gg fun b hb => by
        cases e : (PySem.W.hideAll G [ce.locals]).get? b with
        | none => rfl
        | some o =>
          obtain ⟨z, _⟩ := gg.mem hb
          rw [PySem.W.of_hideAll _ e] at z; cases z
    · cases e : (PySem.W.hideAll G [ce.locals]).get? T with
      | none => rfl
      | some o => rw [PySem.W.of_hideAll _ e] at hT0; cases hT0
  obtain ⟨_, _, _, oe2, vs2, T2, _, _, he2, _, hd2, hv2, _⟩ := id hh2
  unfold PySem.passOn
  refine wpAny_bind (wpAny_field he2 hd2 hv2 ?_)
  rw [if_neg (show ¬ ((Value.ref T2 == Value.none) = true) from by simp)]
  rw [cF, hfr]
  refine wpAny_bind (HandSPX.setFlight_onZ hh2 fun h4 hh4 up4 => wpAny_throw ?_)
  have J8 := J7.turned (t' := t.toks) (h' := PySem.W.hideAll t.heap [ce.locals]) (fun b o hb e => PySem.W.hideAll_get _ e (by simpa using hb)) nC fC.2.1 fC.2.2.2.1 fC.2.2.2.2.1 fC.2.2.2.2.2
  refine tk _ _ ⟨a, PySem.W.hideAll G [ce.locals], _, pins, σ, H1, cls, d, rfl, J8, fun b o e hb => ?_, fun b o e z => ?_, .inr (.inr ?_), na, os, ag, q⟩
  · have e1 := PySem.W.of_hideAll _ e
    have e2 : b ≠ ce.locals := fun z => by rw [z, PySem.W.hideAll_none [ce.locals] (by simp)] at e; cases e
    exact PySem.W.hideAll_get _ (nb b o e1 hb) (by simpa using e2)
  · have e1 := PySem.W.of_hideAll _ e
    have e2 : b ≠ ce.locals := fun z => by rw [z, PySem.W.hideAll_none [ce.locals] (by simp)] at e; cases e
    obtain ⟨sl, k1⟩ := (up.trans up1) b o e1 z
    have k2 : h2.get? b = some { o with slots := sl } := (sb.2 b e2).trans k1
    obtain ⟨sl4, k4⟩ := up4 b { o with slots := sl } k2 z
    exact ⟨sl4, k4⟩
  · rw [hst]; exact hh4
/-- a comprehension's block -/
abbrev BX (X : Cx) (s : Shared) (H : Hp) (scope : Scope) (C : Addr) (cl : List (Str × Addr)) (fp : List Addr) : Cx := X.blk s H scope (compEnvC scope cl C X.env) fp
/-- the block's element may let an exception out -/
def ElX (X : Cx) (E : XK) (scope : Scope) (elt : Expr) (te : TE) : Prop := ∀ (s : Shared) (H : Hp) (C : Addr) (cl : List (Str × Addr)) (fp : List Addr) (xe : Value → Shared → Prop),
  Passes (L2.CX X.prog X.w) { BX X s H scope C cl fp with xe := xe } E → PE { BX X s H scope C cl fp with xe := xe } elt te
theorem lcX_core {σ : L2.St} {Q : VK} {elt tg it : Expr} {ifs : List Expr} {scope : Scope} {own : List (Str × Nat)} {p p' : Pos} {wi : TI} {g : TG} {tt : TT} {te : TE} {use : Option (Value → Sem Unit)} {Qf : Value → Shared → Prop}
    (tk : Takes X fun cls d _ H => E cls d H) (hst : X.stack = X.env :: X.outer) (hfr : X.env.frame = some X.env.locals) (calm : X.calm = true) (nd : X.N.Nodup) (I : Inv X pins σ H s) (hi : PI X tg it wi) (bk : BlkOk X.N X.env.scope scope own)
    (hg : ∀ s H C cl fp, PG (BX X s H scope C cl fp) tg g) (ht : ∀ s H C cl fp, PTs (BX X s H scope C cl fp) ifs tt) (he : ElX X E scope elt te) (hs : ∀ x, foldedSetIterable it X.env x = pure x) (h : tLc wi g tt te (own.map (·.2)) σ H Q)
    (fin : ∀ D C s' m H', Inv X pins σ H' s' → Q (.ref D) H' → s'.heap.Ns C m → FpOk X pins H' C → ∀ ce : Env, ce.locals = C → compEnds (model X.prog X.w) X.A X.xe use Qf (.ref D) ce (.ok .next) s') :
    wpAny (model X.prog X.w) X.A (comprehension (.ListComp elt [⟨tg, it, ifs, 0⟩] scope p) scope X.env p' (newList []) false (eval it X.env) use) Qf X.xe s := by
  have fr : ∀ y ∈ scope.names, y.2 = .free → ∃ c, X.env.cells.lookup y.1 = some c := fun y m e => I.ok.has _ (bk.free y m e)
  refine comprehension_at (use := use) rfl hs (closure_ok fr) bk.kind (fun y m e => (bk.uniq y m).trans (congrArg some e)) (thn (hi.run pins s σ H _ I h) fun xv s1 hx => thn hx fun iv s2 h2 => ?_)
  obtain ⟨ia, fp, tn, J, H2, rfl, I2, T, st2, f2, q⟩ := h2
  refine wpAny_newObj_type (newEnv_comp ?_) (by show 0 ≤ sizeLine; decide)
  generalize eD : s2.heap.objs.size = D
  have D2 : H2 D = none := I2.hok.fresh (Nat.le_of_eq eD)
  obtain ⟨W, ⟨n0, w0⟩, turn⟩ := q D D2
  generalize e3 : ({ s2 with heap := s2.heap.push { cls := .type "list", data := .seq ([] : List Value).toArray } } : Shared) = s3
  have I3 : Inv X pins σ (upd H2 D (.lst [])) s3 := by
    subst e3
    exact I2.laid (t' := s2.toks) (fun b u => Heap.get?_push_of_some _) (Nat.le_of_eq eD) ⟨Nat.zero_le _, [], 0, .nil, eD ▸ Heap.get?_push_size _ rfl⟩
  have x3 : s3.heap = s2.heap.push { cls := .type "list", data := .seq ([] : List Value).toArray } := e3 ▸ rfl
  have f3 : ∀ b ∈ fp, FpOk X pins (upd H2 D (.lst [])) b ∧ b < s3.heap.objs.size := fun b m => by
    obtain ⟨u, e, _⟩ := T.obj _ _ st2 b m
    have lt := Heap.lt_size e
    refine ⟨⟨(upd_ne (eD ▸ Nat.ne_of_lt lt)).trans (f2 b m).1, (f2 b m).2⟩, ?_⟩
    rw [x3, Heap.size_push]
    exact Nat.lt_succ_of_lt lt
  have st3 : tn 0 s3.heap := T.keep _ _ _ st2 fun b _ u e => x3 ▸ Heap.get?_push_of_some _ e
  have I4 := block_start I3 bk nd f3
  generalize eH : upd H2 D (.lst []) = H3 at I3 I4 w0 f3
  generalize eC : s3.heap.objs.size = C at I4
  generalize ecl : cellsFrom (C + 1) scope.names (cloFrom X.env.cells scope.names []) = cl at I4
  have pg := hg s3 H3 C cl fp
  have pt := ht s3 H3 C cl fp
  have pe := he s3 H3 C cl fp (XFly (BX X s3 H3 scope C cl fp) E) fun pn τ Hq sq u s' Iq c => fly_of_call (invXe' Iq) c
  unfold BX at pg pt pe
  show codeAny _ _ (.compStart (.ListComp elt [⟨tg, it, ifs, 0⟩] scope p) 0 (.ref ia) (.ref D) (compEnvC scope cl C X.env)) (compEnds (model X.prog X.w) X.A X.xe use Qf (.ref D) (compEnvC scope cl C X.env)) _
  have cL : (compEnvC scope cl C X.env).locals = C := rfl
  have cF : (compEnvC scope cl C X.env).frame = X.env.frame := rfl
  generalize ece : compEnvC scope cl C X.env = ce at I4 pg pt pe cL cF ⊢
  generalize e4 : ({ s3 with heap := pushCells (s3.heap.push { cls := .type "dict", data := .dict #[] }) scope.names } : Shared) = s4 at I4 ⊢
  have st4 : tn 0 s4.heap := T.keep _ _ _ st3 fun b _ u e => e4 ▸ pushCells_keeps _ _ _ _ (Heap.get?_push_of_some _ e)
  have stat : ∀ {τ : L2.St} {H' : Hp} {s' : Shared}, Inv (X.blk s3 H3 scope ce fp) [] τ H' s' → (∀ b ∈ fp, H' b = none) → ∀ b ∈ fp, FpOk (X.blk s3 H3 scope ce fp) [] H' b := fun I' z b m =>
    ⟨z b m, (I'.ok.exf b m).1, I'.ok.exfs b m, .inl m, (I'.ok.exf b m).2, fun pr y => nomatch (show pr ∈ ([] : List (Addr × Obj)) from y)⟩
  have I4c := I4
  have loop : codeAny (model X.prog X.w) X.A (.compLoop (.ListComp elt [⟨tg, it, ifs, 0⟩] scope p) 0 (.ref ia) (.ref D) ce) (compEnds (model X.prog X.w) X.A X.xe use Qf (.ref D) ce) s4 := by
    refine compLoop_any (fun n s' => ∃ i H', Inv (X.blk s3 H3 scope ce fp) [] (wipe σ (own.map (·.2))) H' s' ∧ tn i s'.heap ∧ (∀ b ∈ fp, H' b = none) ∧ W i n H') ?_ n0 ⟨0, H3, I4, st4, fun b m => (f3 b m).1.1, w0⟩
    rintro n s5 ⟨i, H5, I5, st5, z5, w5⟩
    rcases turn i n H5 w5 with ⟨stop, qq⟩ | ⟨go, Nx, onw, step⟩
    · refine thnF (T.done (X.blk s3 H3 scope ce fp) rfl rfl rfl calm i [] s5 _ H5 (fun _ _ => False) I5 (stat I5 z5) st5 stop) fun r s6 ⟨er, I6⟩ => ?_
      subst er
      have nC : H5 ce.locals = none := I6.free
      obtain ⟨m, hn, _⟩ := I6.loc
      exact fin D ce.locals s6 m H5 (I3.call' (ch := fp) I6.os I6.base I6.hok I6.bare fun b m => ⟨(f3 b m).1.2.2.2.1, (f3 b m).1.2.1, (f3 b m).1.2.2.2.2.1, (f3 b m).1.2.2.2.2.2⟩) qq hn (I3.fpOk (Nat.le_of_eq (eC.trans cL.symm)) nC) ce rfl
    · refine thnF (T.item (X.blk s3 H3 scope ce fp) rfl rfl rfl calm i [] s5 _ H5 (fun _ _ => False) I5 (stat I5 z5) st5 go) fun r s6 ⟨u, er, h6⟩ => ?_
      subst er
      refine thnF h6 fun _ s7 ⟨x, H7, I7, r7, y7, st7, z7⟩ => ?_
      refine thnF (pg.run _ s7 _ H7 x u _ (I7.pinned (stat I7 z7) (T.obj _ _ st7)) r7 (step x H7 y7)) fun _ s8 ⟨σ8, H8, I8, w8, q8⟩ => ?_
      refine thnF (pt.run _ s8 σ8 H8 _ I8 q8) fun b s9 ⟨H9, I9, q9⟩ => ?_
      have turned : ∀ {s' : Shared} {H' : Hp}, Inv (X.blk s3 H3 scope ce fp) ([] ++ pinsAt fp s7.heap) σ8 H' s' → Nx H' → ∃ m, m < n ∧ ∃ i H', Inv (X.blk s3 H3 scope ce fp) [] (wipe σ (own.map (·.2))) H' s' ∧ tn i s'.heap ∧ (∀ b ∈ fp, H' b = none) ∧ W i m H' := fun {s' H'} I' nx => by
        obtain ⟨k, lt, w'⟩ := onw H' nx
        have kept : ∀ b ∈ fp, ∀ u, s7.heap.get? b = some u → s'.heap.get? b = some u ∧ H' b = none := fun b m u e => by
          have z := I'.pin (b, u) (List.mem_append_right _ (List.mem_append_right _ (mem_pinsAt m e)))
          exact ⟨z.1, z.2.1⟩
        refine ⟨k, lt, i + 1, H', (I'.unpinned (pins := [])).weak (by rw [← w8, wipe_length]) (fun j v e => (wipe_some (vs := own.map (·.2)) (by rw [w8]; exact e)).1), T.keep _ _ _ st7 fun b m u e => (kept b m u e).1, fun b m => ?_, w'⟩
        obtain ⟨u, e, _⟩ := T.obj _ _ st7 b m
        exact (kept b m u e).2
      cases b with
      | false => exact turned I9 q9
      | true =>
        refine wpAny_mono (pe.run _ s9 σ8 H9 _ (invXe I9 _) q9) (fun z s10 ⟨yv, H10, I10, r10, acc, d10, l10, nx⟩ => app_ok (X := X.blk s3 H3 scope ce fp) (invXe' I10) d10 l10 r10 fun s11 I11 => turned I11 nx) fun u s' xx => ?_
        subst ece
        exact fly_out tk hst hfr I3 (fun b m => (f3 b m).1) eC.symm rfl xx
  exact codeAny_compStart_list loop (T.self X.A 0 _ _ _ st4 loop)
/-- x = [..], a local, the element may raise -/
theorem ps_setLcX {i : Nat} {y : Str} {py : Pos} {elt tg it : Expr} {ifs : List Expr} {scope : Scope} {own : List (Str × Nat)} {p q : Pos} {wi : TI} {g : TG} {tt : TT} {te : TE} (tk : Takes X fun cls d _ H => E cls d H) (hst : X.stack = X.env :: X.outer) (hfr : X.env.frame = some X.env.locals)
    (calm : X.calm = true) (nd : X.N.Nodup) (iy : X.N[i]? = some y) (yl : X.env.scope.names.lookup y = some .local) (sw : swapsWith (.ListComp elt [⟨tg, it, ifs, 0⟩] scope p) (some (.Name y py)) q.line X.env = pure true) (hi : PI X tg it wi)
    (bk : BlkOk X.N X.env.scope scope own) (hg : ∀ s H C cl fp, PG (BX X s H scope C cl fp) tg g) (ht : ∀ s H C cl fp, PTs (BX X s H scope C cl fp) ifs tt) (he : ElX X E scope elt te) (hs : ∀ x, foldedSetIterable it X.env x = pure x := by intro _; rfl) :
    PS X (.Assign [.Name y py] (.ListComp elt [⟨tg, it, ifs, 0⟩] scope p) q) (tAsg (tLc wi g tt te (own.map (·.2))) (gName i)) := ⟨fun pins s σ H D I h => by
  rw [exec_Assign_Name_used _ _ _ _ sw]
  refine wpAny_bind (wpAny_standAt (wpAny_bind ?_))
  show wpAny _ X.A (do
    let _ ← comprehension (.ListComp elt [⟨tg, it, ifs, 0⟩] scope p) scope X.env (firstIterPos [⟨tg, it, ifs, 0⟩] p) (newList []) false (eval it X.env) (some (assign (.Name y py) X.env))) _ _ s
  refine wpAny_bind (thn (lcX_core (E := E) (Qf := fun _ s' => SP X pins D .next s') (Q := fun x H1 => gName i x σ H1 D.nx) tk hst hfr calm nd I hi bk hg ht he hs h fun L C s' m H' I' z hn f ce ec => ?_) fun _ s' z => wpAny_pure (wpAny_pure z))
  subst ec
  show wpAny _ _ (assign (.Name y py) X.env (.ref L)) _ _ _
  refine wpAny_assign_Name (store_ok2 (v := V.ref L) I' nd iy (.inl yl) rfl (fun s2 I2 ⟨a, sb, ea⟩ => ?_) (.inr yl))
  obtain ⟨k0, k1, _, k3, k4, k5⟩ := f
  have ne : ce.locals ≠ a := by
    rcases ea with rfl | z
    · exact k1
    · exact fun e => k4 y a z e.symm
  exact ⟨m, hn.sameBut sb ne, fun h3 sb3 => ⟨_, H', I2.turned (t' := s2.toks) (fun b u nb e => (sb3.2 b nb).trans e) k0 k1 k3 k4 k5, z⟩⟩⟩
/-- a call in such an element -/
theorem ok_callF {e : Expr} {es : List Expr} {t : TA} {pos : Pos} {k : Nat} {x : Str} {ps : List Str} {sp : Sp} {p : Pos} (hp : Passes (L2.CX X.prog X.w) X E) (G : Ok X.prog X.w X.K X.mg X.base (L2.CX X.prog X.w) k x ps sp) (hr : Room k X.A) (hg : Gl X x) (ha : PA X (e :: es) t) (nd : (x == ("__debug__" : Str)) = false := by decide)
    (he : starEach (e :: es) X.env = (false, eval e X.env) :: starEach es X.env := by rfl) (hpl : (backTo pos (starEach es X.env)).any (·.1) = false := by rfl) : PE X (.Call (.Name x p) (e :: es) [] pos) (tCall sp [] E t) := by
  obtain ⟨f, fd, F, hm, hk, hb⟩ := G.ex
  exact pe_call F hr hg hm hk hb .nil hp ha nd he hpl
end
end Lay
namespace Lay
open PySem L2 PySem.Spec PyProof.Rows
/-! dicts handed in, dict(..), sorted lists of tuples, x += 1 -/
section
variable {X : Cx} (K : PySem.W.Frag)
def rDictP (K : PySem.W.Frag) : List V → Hp → VK → Prop := fun xs H Q => ∃ (a : Addr) (ps : List Addr) (kvs : List (Key × V)), xs = [.ref a] ∧ SqL K H a (ps.map V.ref) ∧ Paired (fun p kv => SqT K H p [kV kv.1, kv.2]) ps kvs ∧ ∀ p, H p = none → Q (.ref p) (upd H p (.dK (mergeK [] kvs)))
theorem kcall_dictP (hc : X.calm = true) (hK : X.K = K := by rfl) : CallR X (.type "dict") (rDictP K) := hK ▸ call_dictP hc
theorem kcr_sortT (hK : X.K = K := by rfl) : CallR X (.builtin "sorted") (rSortU K 3 1000000) := hK ▸ cr_sortT (by decide)
end
section
variable {K : PySem.W.Frag} {B F0 : Hp} {ρ : List Sl} {te ta tb : TE} {d : PyData} {ds : List PyData} {D : Ends} {u : TS}
theorem at_augI {i : Nat} {a b : Int} {f : Int → Int → Int} (hi : ρ[i]? = some (sn K B (.int a))) (h : Ev B F0 ρ te (nwd K B (.int b))) (k : At B F0 D.nx (ρ.set i (sn K B (.int (f a b))))) : At B F0 (tAug i te (ipI f) D) ρ := fun F H σ c => by
  obtain ⟨w, o⟩ := c.own
  obtain ⟨_, v, h1, p⟩ := o.sl i _ hi
  cases p
  exact ⟨_, h1, h F H σ c _ fun y F' H' g p2 => by
    cases p2
    exact ⟨a, b, rfl, rfl, k F' H' _ ((c.go g).setF st_nwd (.int _))⟩⟩
theorem evh_fzD {i : Nat} {kvs : List (Int × PyData)} (h : ρ[i]? = some (.fz (isDictT K kvs))) : EvH B F0 ρ (tVar i) (isDict K kvs) := fun F H σ c Q q => evh_fz st_isDictT h F H σ c _ fun v F' H' g p => q v F' H' g (isDictT_d p)
theorem tup_bd {t : Addr} {H : Hp} {a b c : Int} : SqT K H t ([a, b, c].map V.int) ↔ SqT K H t [.int a, .int b, .int c] := Iff.rfl
/-- sorted(..) of rows: by their first numbers, where these differ -/
theorem code_lt {a b c a' b' c' : Int} (h1 : 0 ≤ b ∧ b < 1000000) (h2 : 0 ≤ c ∧ c < 1000000) (h3 : 0 ≤ b' ∧ b' < 1000000) (h4 : 0 ≤ c' ∧ c' < 1000000) (h : a < a') : ¬ TS.code 1000000 [a', b', c'] ≤ TS.code 1000000 [a, b, c] := by
  simp [TS.code]
  omega
end
end Lay
namespace Lay
open PySem L2 PySem.Spec PyProof.Rows
/-! a dict that a def is handed and changes -/
def hid1 (d : Addr) (H : Hp) : Hp := fun a => if a = d then none else H a
theorem hid1_same {d : Addr} {H : Hp} : Same (hid1 d H) H := fun a o h => by
  unfold hid1 at h
  split at h
  · cases h
  · exact h
theorem hid1_at {d a : Addr} {H : Hp} (h : a ≠ d) : hid1 d H a = H a := if_neg h
theorem hid1_d {d : Addr} {H : Hp} : hid1 d H d = none := if_pos rfl
def mdQ (K : PySem.W.Frag) (B : Hp) (kvs : List (Int × PyData)) (d : Addr) : Hp → Hp → V → List Addr → Prop := fun F H v as => v = .ref d ∧ as = [d] ∧ ∃ kv, H d = some (.dK kv) ∧ KvAll K B F kv kvs
mutual
theorem nw_dom {K : PySem.W.Frag} {B B' F : Hp} (h : ∀ a xs, F a = some (.lst xs) → B a = none → B' a = none) : ∀ {v : V} {d : PyData}, Nw K B F v d → Nw K B' F v d
  | _, _, .non => .non
  | _, _, .bl b => .bl b
  | _, _, .int i => .int i
  | _, _, .str x => .str x
  | _, _, .lst n e a => .lst (h _ _ e n) e (nwAll_dom h a)
  | _, _, .tup e a => .tup e (nwAll_dom h a)
theorem nwAll_dom {K : PySem.W.Frag} {B B' F : Hp} (h : ∀ a xs, F a = some (.lst xs) → B a = none → B' a = none) : ∀ {xs : List V} {ds : List PyData}, NwAll K B F xs ds → NwAll K B' F xs ds
  | _, _, .nil => .nil
  | _, _, .cons x a => .cons (nw_dom h x) (nwAll_dom h a)
end
theorem kv_pure {K : PySem.W.Frag} {B B' F F' : Hp} : ∀ {kv : List (Key × V)} {kvs : List (Int × PyData)}, KvAll K B F kv kvs → (∀ p ∈ kvs, ∃ b, p.2 = .bool b) → KvAll K B' F' kv kvs
  | _, _, .nil, _ => .nil
  | _, _, .cons (k := k) (d := d) (kvs := kvs) h a, e => by
    obtain ⟨b, eb⟩ := e (k, d) (List.mem_cons_self ..)
    dsimp only at eb
    subst eb
    cases h
    exact .cons (.bl b) (kv_pure a fun p hp => e p (List.mem_cons_of_mem _ hp))
section
variable {K : PySem.W.Frag} {B F0 : Hp} {ρ : List Sl} {te ta tb : TE} {d : Addr} {dd : PyData} {kvs : List (Int × PyData)} {D : Ends} {u : TS}
theorem st_mdQ : MStab (mdQ K B kvs d) := fun F F' H H' v as s e ⟨h1, h2, kv, h3, h4⟩ => ⟨h1, h2, kv, by rw [e d (by rw [h2]; exact List.mem_singleton.mpr rfl)]; exact h3, kvAll_mono s h4⟩
theorem evh_mdQ {i : Nat} (h : ρ[i]? = some (.mo (mdQ K B kvs d))) : EvH B F0 ρ (tVar i) (isDictT K kvs) := fun F H σ c Q q => by
  obtain ⟨w, o⟩ := c.own
  obtain ⟨_, v, h1, rfl, _, kv, h4, h5⟩ := o.sl i _ h
  exact ⟨_, h1, q _ F H (Gr.refl c.i) ⟨d, kv, rfl, h4, kvAll_mono c.i (kvAll_e0 h5)⟩⟩
theorem at_dputQ {i : Nat} {k : Int} (hi : ρ[i]? = some (.mo (mdQ K B kvs d))) (hv : Ev B F0 ρ te (nwd K B dd)) (hk : EvH B F0 ρ tb (dat K (.int k))) (hz : kvs.length < 100000) (n : At B F0 D.nx (ρ.set i (.mo (mdQ K B (putI kvs k dd) d)))) : At B F0 (sDPut (tVar i) tb te D) ρ := fun F H σ c => by
  refine hv F H σ c _ fun v F1 H1 g1 p1 => ?_
  have c1 := c.go g1
  obtain ⟨w, o⟩ := c1.own
  obtain ⟨_, v', h1, rfl, _, kv, h4, h5⟩ := o.sl i _ hi
  refine ⟨_, h1, hk F1 H1 σ c1 _ fun x F2 H2 g2 p2 => ?_⟩
  cases p2
  refine ⟨d, _, rfl, .inl ⟨kv, Sum.inl k, g2.h _ _ h4, rfl, sz_lt (by rw [kv_len h5]; exact hz), rfl⟩, n F2 _ σ ((c1.go g2).chg hi st_mdQ fun v' as e m n => ?_)⟩
  obtain ⟨rfl, rfl, kv', e4, e5⟩ := m
  rw [g2.h _ _ h4] at e4
  cases e4
  refine ⟨⟨rfl, rfl, _, upd_same, kv_put (nw_mono (Same.refl _) g2.f p1) e5⟩, fun a ha => upd_ne fun z => ha (by rw [z]; exact List.mem_singleton.mpr rfl), fun a ha => ?_⟩
  rw [List.mem_singleton.mp ha]
  exact ⟨_, upd_same, rfl⟩
theorem q_dputQ {i : Nat} {k : Int} (hi : ρ[i]? = some (.mo (mdQ K B kvs d))) (hv : Ev B F0 ρ te (nwd K B dd)) (hk : EvH B F0 ρ tb (dat K (.int k))) (hz : kvs.length < 100000) (n : At B F0 (u D) (ρ.set i (.mo (mdQ K B (putI kvs k dd) d)))) : At B F0 (tSeq (sDPut (tVar i) tb te) u D) ρ :=
  at_dputQ (D := { D with nx := u D }) hi hv hk hz n
theorem at_retDQ {i : Nat} (hi : ρ[i]? = some (.mo (mdQ K B kvs d))) (h : Ev B F0 ρ te (nwd K B dd)) (k : ∀ v H' kv', Same B H' → H' d = some (.dK kv') → KvAll K e0 H' kv' kvs → Nw K B H' v dd → D.rt v H') : At B F0 (tRet te D) ρ := fun F H σ c =>
  h F H σ c _ fun v F' H' g p => by
    have c' := c.go g
    obtain ⟨w, o⟩ := c'.own
    obtain ⟨_, _, _, _, _, kv, h4, h5⟩ := o.sl i _ hi
    exact k v H' kv c'.gr.h h4 (kvAll_e0 (kvAll_mono c'.i h5)) (nw_mono (Same.refl _) c'.i p)
theorem cfg_dict {H : Hp} {v0 v1 : V} {f1 f2 : Pd} {kv : List (Key × V)} {N : List Str} (hd : H d = some (.dK kv)) (hk : KvAll K (hid1 d H) (hid1 d H) kv kvs) (h1 : f1 (hid1 d H) v0) (h2 : f2 (hid1 d H) v1) (s1 : Stab f1) (s2 : Stab f2) (hl : 3 ≤ N.length) :
    Cfg (hid1 d H) (hid1 d H) (hid1 d H) H (L2.start N [v0, v1, .ref d]) ([.fz f1, .fz f2, .mo (mdQ K (hid1 d H) kvs d)] ++ List.replicate (N.length - 3) Sl.no) := by
  have s3 : Stab fun _ v => v = V.ref d := fun _ _ _ _ z => z
  have c0 := cfg_start (N := N) (fs := [f1, f2, fun _ v => v = V.ref d]) (H := hid1 d H) (vs := [v0, v1, .ref d]) ⟨_, _, rfl, h1, _, _, rfl, h2, _, _, rfl, rfl, rfl⟩ (fun f hf => by
    rcases List.mem_cons.mp hf with rfl | hf
    · exact s1
    · rcases List.mem_cons.mp hf with rfl | hf
      · exact s2
      · rw [List.mem_singleton.mp hf]; exact s3) (by simpa using hl)
  have c1 := c0.setN (i := 2) (v := .ref d) (as := [d]) (m := mdQ K (hid1 d H) kvs d) st_mdQ (F' := hid1 d H) (H' := H) ⟨Same.refl _, hid1_same, hid1_same, fun a o e t z => z, fun _ _ e _ => e⟩ ⟨rfl, rfl, kv, hd, hk⟩ (fun a ha => by
    rw [List.mem_singleton.mp ha]
    exact ⟨hid1_d, hid1_d, _, hd, rfl⟩)
  have e1 : (L2.start N [v0, v1, .ref d]).set 2 (some (.ref d)) = L2.start N [v0, v1, .ref d] := by simp [L2.start]
  rw [e1] at c1
  exact c1
end
/-! a caught thing's fields, known behind the suite -/
theorem pe_xfK {X : Cx} {a C : Addr} {ob : Obj} {cls : Value} {dd : Option Addr} {pn : List (Addr × Obj)} {xe : Value → Shared → Prop} {e : Expr} {te : TE} {pos : Pos} {n : Str} (T : XfC X.K C) (no : PySem.W.findIn X.K (.ref C) n = some none) (hz : Zc cls dd ob) (hf : ∃ vs, ob.data = .fields vs)
    (he : PE (X.tr ((a, ob) :: pn) xe) e te) (hb : attributeBase e n X.env (eval e X.env) = eval e X.env := by rfl) : PE (X.tr ((a, ob) :: pn) xe) (.Attribute e n pos) (tXf a cls dd C n te) := ⟨fun pins s σ H Q I h => by
  refine attr_of hb (thn (he.run pins s σ H _ I h) fun u s1 ⟨x, H1, I1, rx, ex, ec, g, fs, v, ed, ea, l, q⟩ => ?_)
  subst ex; subst ec; subst ed
  cases rx
  have pinA := (I1.pin (a, ob) (List.mem_append.mpr (.inl List.mem_cons_self))).1
  obtain ⟨vs, hd⟩ := hf
  obtain ⟨mA, ns, rel⟩ : ObjOk X.prog X.w H1 s1.heap g (.xd fs) := I1.hok g _ ea
  obtain ⟨od, ho, lk⟩ := lookIn_ns ns
  obtain ⟨y, ey, ry⟩ := RelO.some_of (v := v) (o := mA n) (l ▸ rel n)
  exact HandSPX.exc_get I1.kIn (⟨pinA, hz.1, by unfold PySem.W.notCls; rw [hd] <;> rfl, hz.2 ▸ ho⟩ : PySem.W.InstAt s1.heap a ob C (some od)) T.ga T.gg T.exC (PySem.W.findObj_own T.hdC no rfl (by rw [lk, ey])) (handed_of ry) ⟨v, H1, I1.tok _, ry, q⟩⟩
def xeP (K : PySem.W.Frag) (dd : Addr) (d1 d2 : PyData) (a : Addr) : Pd := fun F v => v = .ref a ∧ ∃ v1 v2, F dd = some (.xd [("apart", v2), ("between", v1)]) ∧ Nw K e0 F v1 d1 ∧ Nw K e0 F v2 d2
section
variable {K : PySem.W.Frag} {B F0 : Hp} {ρ : List Sl} {te : TE} {tr : TA} {d d1 d2 : PyData} {ds : List PyData} {dd a : Addr}
theorem st_xeP : Stab (xeP K dd d1 d2 a) := fun F F' v s ⟨h1, v1, v2, h2, h3, h4⟩ => ⟨h1, v1, v2, s _ _ h2, nw_mono (Same.refl _) s h3, nw_mono (Same.refl _) s h4⟩
theorem evh_xfB {i : Nat} {C : Addr} (h : ρ[i]? = some (.fz (xeP K dd d1 d2 a))) : EvH B F0 ρ (tXf a (.ref C) (some dd) C "between" (tVar i)) (dat K d1) := fun F H σ c Q q => by
  obtain ⟨w, o⟩ := c.own
  obtain ⟨_, v, e, rfl, v1, v2, h2, h3, h4⟩ := o.sl i _ h
  exact ⟨_, e, rfl, rfl, dd, _, v1, rfl, c.i _ _ h2, rfl, q _ F H (Gr.refl c.i) (nw_dp (nw_mono (Same.refl _) c.i h3))⟩
theorem evh_xfA {i : Nat} {C : Addr} (h : ρ[i]? = some (.fz (xeP K dd d1 d2 a))) : EvH B F0 ρ (tXf a (.ref C) (some dd) C "apart" (tVar i)) (dat K d2) := fun F H σ c Q q => by
  obtain ⟨w, o⟩ := c.own
  obtain ⟨_, v, e, rfl, v1, v2, h2, h3, h4⟩ := o.sl i _ h
  exact ⟨_, e, rfl, rfl, dd, _, v2, rfl, c.i _ _ h2, rfl, q _ F H (Gr.refl c.i) (nw_dp (nw_mono (Same.refl _) c.i h4))⟩
theorem ev_notNx {i : Nat} (h : ρ[i]? = some (.fz (xeP K dd d1 d2 a))) : Ev B F0 ρ (tOp (fun x y H Q => y = .non ∧ Q (.bl (!decide (x = .non))) H) (tVar i) (tC .non)) (nwd K B (.bool true)) := fun F H σ c Q q => by
  obtain ⟨w, o⟩ := c.own
  obtain ⟨_, v, e1, rfl, _⟩ := o.sl i _ h
  exact ⟨_, e1, rfl, q _ F H (Gr.refl c.i) (.bl true)⟩
theorem at_unset {i : Nat} {Z : L2.St → Hp → Prop} (k : At B F0 Z (ρ.set i .no)) : At B F0 (fun σ H => Z (σ.set i none) H) ρ := fun F H σ c => k F H _ (c.less (by rw [List.length_set, List.length_set]; exact c.len) fun j s hs => by
  by_cases z : i = j
  · subst z
    by_cases hl : i < ρ.length
    · rw [List.getElem?_set_self hl] at hs
      cases hs
      exact .inl rfl
    · rw [List.getElem?_eq_none (by rw [List.length_set]; omega)] at hs
      cases hs
  · rw [List.getElem?_set_ne z] at hs
    exact .inr ⟨hs, List.getElem?_set_ne z⟩)
/-- what is caught goes to slot j -/
theorem keep_asgF {F H : Hp} {σ : L2.St} {m i j : Nat} {cv : Value} {cl : Addr} {od : Option Addr} {f : Addr → Pd} {u : Addr → Value → Option Addr → TS} {D : Ends} (c : Cfg B F0 F H σ ρ) (hi : i < ρ.length) (hm : PySem.W.exmOne K (.ref cl) cv = some true) (st : ∀ a, Stab (f a)) (hf : ∀ a, f a F (.ref a))
    (k : ∀ a : Addr, At B F0 (u a (.ref cl) od D) (((ρ.set i (.fz (f a))).set j (.fz (f a))).set i .no)) : wKeep K m cv i (fun _ _ _ => tAsg (tVar i) (gName j)) u D (.ref cl) od σ H := fun _ => ⟨true, hm, rfl, fun a na => by
  have q := at_setF (D := ⟨fun σ' H' => u a (.ref cl) od D (σ'.set i none) H', fun _ _ => False, fun _ _ => False, fun _ _ => False⟩) (i := j) (te := tVar i) (f := f a) (st a) (ev_var (List.getElem?_set_self hi)) (at_unset (Z := u a (.ref cl) od D) (i := i) (k a))
  exact q F H _ (c.setF (st a) (hf a))⟩
theorem at_asgS {sp : Sp} {E : L2.St → XK} {g : TG} {fs : List Pd} {D : Ends} (h : EvA B F0 ρ tr fs) (k : ∀ F H σ, Cfg B F0 F H σ ρ → ∀ vs F1 H1, Gr F H F1 H1 → AOk fs H1 vs → sp vs H1 (fun v H' => g v σ H' D.nx) (E σ)) : At B F0 (tAsg (tCallS sp [] E tr) g D) ρ := fun F H σ c =>
  h F H σ c _ fun vs F1 H1 g1 p => by
    have z := k F H σ c vs F1 H1 g1 p
    rw [← List.append_nil vs] at z
    exact z
/-- new things one by one, listed -/
def EvO1 (K : PySem.W.Frag) (B F0 : Hp) (ρ : List Sl) (te : TE) (d : PyData) : Prop := ∀ F H σ, Cfg B F0 F H σ ρ → ∀ Q : VK, (∀ v H2, Same H H2 → Nw K H H2 v d → Q v H2) → te σ H Q
def EvOs (K : PySem.W.Frag) (B F0 : Hp) (ρ : List Sl) (tr : TA) (ds : List PyData) : Prop := ∀ F H σ, Cfg B F0 F H σ ρ → ∀ Q : List V → Hp → Prop, (∀ vs H2, Same H H2 → NwAll K H H2 vs ds → Q vs H2) → tr σ H Q
theorem eo1_call {α : Type} {pre : α → Prop} {args : α → List Pd} {res : α → PyData} {E : XK} (x : α) (hp : pre x) (h : EvA B F0 ρ tr (args x)) : EvO1 K B F0 ρ (tCall (Fp K pre args res) [] E tr) (res x) := fun F H σ k Q q =>
  h F H σ k _ fun vs F1 H1 g1 p => ⟨x, hp, by rw [List.append_nil]; exact p, fun v H2 s n => q v H2 (g1.h.trans s) (nw_mono g1.h (Same.refl _) n)⟩
theorem eo1_meth {ta : TE} {f : Pd} {α : Type} {C : Addr} {m : Str} {pre : α → Prop} {args : α → List Pd} {res : α → PyData} {E : XK} (x : α) (hp : pre x) (ha : EvH B F0 ρ ta f) (hi : ∀ H v, f H v → ∃ a dx fl, v = .ref a ∧ H a = some (.ins C dx fl) ∧ fl.lookup m = none) (e : args x = [f]) : EvO1 K B F0 ρ (tMeth C m (Fp K pre args res) [] E ta tNil) (res x) := fun F H σ k Q q =>
  ha F H σ k _ fun v F1 H1 g1 p => by
    obtain ⟨a, dx, fl, rfl, h1, h2⟩ := hi _ _ p
    exact ⟨a, dx, fl, rfl, h1, h2, x, hp, by rw [e]; exact ⟨_, _, rfl, p, rfl⟩, fun v H3 s n => q v H3 (g1.h.trans s) (nw_mono g1.h (Same.refl _) n)⟩
theorem eos_nil : EvOs K B F0 ρ tNil [] := fun F H σ c Q q => q [] H (Same.refl _) .nil
theorem eos_cons (h : EvO1 K B F0 ρ te d) (hr : EvOs K B F0 ρ tr ds) : EvOs K B F0 ρ (tCons te tr) (d :: ds) := fun F H σ c Q q =>
  h F H σ c _ fun v H2 s n => hr F H2 σ (c.go (gr_call c.i s)) _ fun vs H3 s3 m => q (v :: vs) H3 (s.trans s3) (.cons (nw_mono (Same.refl _) s3 n) (nwAll_mono s (Same.refl _) m))
theorem eo_lst (h : EvOs K B F0 ρ tr ds) (hl : ds.length ≤ 100000) : EvO2 K B F0 ρ (tLst tr) (.list ds) := fun F H σ c Q q =>
  h F H σ c _ fun vs H2 s n => ⟨sz_of (by rw [nwAll_len n]; exact hl), fun a ha => by
    have s2 : Same H2 (upd H2 a (.lst vs)) := fun b o e => by rw [upd_ne (ne_of_none e ha)]; exact e
    exact q _ F H _ (Gr.refl c.i) (s.trans s2) (.lst (s.free ha) upd_same (nwAll_mono (Same.refl _) s2 n))⟩
end
end Lay
namespace Lay
open PySem L2 PySem.Spec PyProof.Rows
/-! lists told by calls, listed as owned ones; read, then changed -/
section
variable {K : PySem.W.Frag} {B F0 : Hp} {ρ : List Sl} {te : TE} {tr : TA} {ds : List PyData} {dss : List (List PyData)} {D : Ends} {u : TS} {N : L2.St → Hp → Prop}
theorem evm_flatO (h : EvO1 K B F0 ρ te (.list ds)) (fl : flatDs ds = true) : EvM K B F0 ρ te ds := fun F H σ c Q q =>
  h F H σ c _ fun v H2 s n => by
    cases n with
    | @lst l xs _ h1 h2 h3 =>
      have g0 := gr_call c.i s
      obtain ⟨F2, g2, _, n2⟩ := dpAll_prom (B := B) (nwAll_dp h3) fl F (Gr.refl g0.i)
      exact q l xs F2 H2 (g0.trans g2) (g2.n l _ h2 rfl (c.i.free h1)) h1 h2 n2
theorem ints_of {B F : Hp} : ∀ {ys : List V} {ns : List Int}, NwAll K B F ys (ns.map .int) → ys = ns.map V.int
  | _, [], h => by cases h; rfl
  | _, n :: ns, h => by
    cases h with
    | cons a b => cases a; rw [ints_of b]; rfl
theorem parts_fix {H H2 F : Hp} {l : Addr} {X : List V} (hl : H2 l = some (.lst X)) (sB : Same B H) : ∀ {ps : List (List Int)} {xs : List V}, NwAll K H H2 xs (ps.map intsD) → (∀ x ∈ xs, x ∈ X) → ∀ F1, Gr F H F1 H2 → F1 l = none → ∃ F2, Gr F H F2 H2 ∧ Same F1 F2 ∧ F2 l = none ∧ NwAll K B F2 xs (ps.map intsD)
  | [], xs, h, _, F1, g, e => by cases h; exact ⟨F1, g, Same.refl _, e, .nil⟩
  | ns :: ps, xs, h, hx, F1, g, e => by
    cases h with
    | @cons x _ xs _ a b =>
      cases a with
      | @lst p ys _ n1 n2 n3 =>
        have ey := ints_of n3
        have np : p ≠ l := fun z => by
          rw [z, hl] at n2
          cases n2
          have := hx (.ref p) (List.mem_cons_self ..)
          rw [ey] at this
          obtain ⟨i, _, ei⟩ := List.mem_map.mp this
          cases ei
        have one : ∃ F2, Gr F H F2 H2 ∧ Same F1 F2 ∧ F2 l = none ∧ F2 p = some (.lst ys) := by
          cases ep : F1 p with
          | none => exact ⟨upd F1 p (.lst ys), g.put (.inl n1) rfl ep n2, fun b u z => by rw [upd_ne (ne_of_none z ep)]; exact z, by rw [upd_ne np.symm]; exact e, upd_same⟩
          | some u =>
            have q := g.i p u ep
            rw [n2] at q
            cases q
            exact ⟨F1, g, Same.refl _, e, ep⟩
        obtain ⟨F2, g2, s2, el, e2⟩ := one
        obtain ⟨F3, g3, s3, e3, m3⟩ := parts_fix hl sB b (fun x hx2 => hx x (List.mem_cons_of_mem _ hx2)) F2 g2 el
        refine ⟨F3, g3, s2.trans s3, e3, .cons (.lst (sB.free n1) (s3 _ _ e2) ?_) m3⟩
        rw [ey]
        exact nwAll_ints ns
theorem evm_partsO {ps : List (List Int)} (h : EvO1 K B F0 ρ te (.list (ps.map intsD))) : EvM K B F0 ρ te (ps.map intsD) := fun F H σ c Q q =>
  h F H σ c _ fun v H2 s n => by
    cases n with
    | @lst l xs _ h1 h2 h3 =>
      have g0 := gr_call c.i s
      obtain ⟨F2, g2, _, el, n2⟩ := parts_fix (B := B) h2 c.gr.h h3 (fun x hx => hx) F g0 (c.i.free h1)
      exact q l xs F2 H2 g2 el h1 h2 n2
/-- owned lists one by one -/
def EvMs (K : PySem.W.Frag) (B F0 : Hp) (ρ : List Sl) (tr : TA) (dss : List (List PyData)) : Prop := ∀ F H σ, Cfg B F0 F H σ ρ → ∀ Q : List V → Hp → Prop,
  (∀ (inner : List Addr) F' H', Gr F H F' H' → inner.Nodup → (∀ a ∈ inner, F' a = none ∧ H a = none) → inner.length = dss.length → (∀ (i : Nat) ds, dss[i]? = some ds → ∃ a xs, inner[i]? = some a ∧ H' a = some (.lst xs) ∧ NwAll K B F' xs ds) → Q (inner.map .ref) H') → tr σ H Q
theorem ems_nil : EvMs K B F0 ρ tNil [] := fun F H σ c Q q => q [] F H (Gr.refl c.i) List.nodup_nil (fun a ha => (List.not_mem_nil ha).elim) rfl fun i ds e => by simp at e
theorem ems_cons (h : EvM K B F0 ρ te ds) (hr : EvMs K B F0 ρ tr dss) : EvMs K B F0 ρ (tCons te tr) (ds :: dss) := fun F H σ c Q q =>
  h F H σ c _ fun l xs F1 H1 g1 fl hl hx a => hr F1 H1 σ (c.go g1) _ fun inner F2 H2 g2 nd fr le ih => by
    have nl : l ∉ inner := fun z => by
      have := (fr l z).2
      rw [hx] at this; cases this
    refine q (l :: inner) F2 H2 (g1.trans g2) (List.nodup_cons.mpr ⟨nl, nd⟩) (fun b hb => ?_) (by simp [le]) fun i ds' e => ?_
    · rcases List.mem_cons.mp hb with rfl | hb
      · exact ⟨g2.n _ _ hx rfl fl, hl⟩
      · exact ⟨(fr b hb).1, g1.fresh (fr b hb).2⟩
    · cases i with
      | zero =>
        simp at e
        subst e
        exact ⟨l, xs, rfl, g2.h _ _ hx, nwAll_mono (Same.refl _) g2.f a⟩
      | succ i =>
        obtain ⟨b, ys, k1, k2, k3⟩ := ih i ds' (by simpa using e)
        exact ⟨b, ys, by simpa using k1, k2, k3⟩
theorem q_setLs (K : PySem.W.Frag) {i : Nat} (h : EvMs K B F0 ρ tr dss) (hl : dss.length ≤ 100000) (k : At B F0 (u D) (ρ.set i (mll K B dss))) : At B F0 (tSeq (tAsg (tLst tr) (gName i)) u D) ρ := fun F H σ c =>
  h F H σ c _ fun inner F1 H1 g1 nd fr le ih => ⟨sz_of (by rw [List.length_map, le]; exact hl), fun p hp => by
    have g2 : Gr F H F1 (upd H1 p (.lst (inner.map .ref))) := g1.trans (Gr.new g1.i hp)
    have pn : p ∉ inner := fun z => by
      obtain ⟨j, hj⟩ := List.mem_iff_getElem?.mp z
      have lj := (List.getElem?_eq_some_iff.mp hj).1
      obtain ⟨b, ys, k1, k2, _⟩ := ih j _ (List.getElem?_eq_getElem (by omega : j < dss.length))
      rw [hj] at k1
      cases k1
      rw [hp] at k2; cases k2
    refine k F1 _ _ (c.setN (as := p :: inner) (m := mllP K B dss) st_mll g2 ⟨p, inner, rfl, rfl, upd_same, nd, pn, le, fun j ds e => ?_⟩ fun b hb => ?_)
    · obtain ⟨b, ys, k1, k2, k3⟩ := ih j ds e
      exact ⟨b, ys, k1, by rw [upd_ne (ne_of_none k2 hp)]; exact k2, k3⟩
    · rcases List.mem_cons.mp hb with rfl | hb
      · exact ⟨g1.i.free hp, g1.fresh hp, _, upd_same, rfl⟩
      · obtain ⟨j, hj⟩ := List.mem_iff_getElem?.mp hb
        have lj := (List.getElem?_eq_some_iff.mp hj).1
        obtain ⟨b', ys, k1, k2, _⟩ := ih j _ (List.getElem?_eq_getElem (by omega : j < dss.length))
        rw [hj] at k1
        cases k1
        exact ⟨(fr b hb).1, (fr b hb).2, _, (by rw [upd_ne (ne_of_none k2 hp)]; exact k2), rfl⟩⟩
theorem rd_mll {B' : Hp} : RdS K (mll K B' dss) (.list (dss.map .list)) := fun B F0 F H σ ρ i c e => by
  obtain ⟨w, o⟩ := c.own
  obtain ⟨_, v, h1, l, inner, rfl, ew, h4, h5, h6, h7, h8⟩ := o.sl i _ e
  refine ⟨_, h1, .lst (.inl (.inl h4)) ?_⟩
  have key : ∀ {inner : List Addr} {dss : List (List PyData)}, inner.length = dss.length → (∀ (i : Nat) ds, dss[i]? = some ds → ∃ a xs, inner[i]? = some a ∧ H a = some (.lst xs) ∧ NwAll K B' F xs ds) → DpAll K H (inner.map .ref) (dss.map .list) := by
    intro inner
    induction inner with
    | nil =>
      intro dss hl _
      cases dss with
      | nil => exact .nil
      | cons _ _ => cases hl
    | cons a inner ih =>
      intro dss hl hk
      cases dss with
      | nil => cases hl
      | cons ds dss =>
        obtain ⟨b, xs, k1, k2, k3⟩ := hk 0 ds rfl
        simp at k1
        subst k1
        exact .cons (.lst (.inl (.inl k2)) (dpAll_mono c.i (nwAll_dp k3))) (ih (by simpa using hl) fun i ds e => by
          obtain ⟨b, ys, j1, j2, j3⟩ := hk (i + 1) ds (by simpa using e)
          exact ⟨b, ys, by simpa using j1, j2, j3⟩)
  exact key h7 h8
/-- what they hold is forgotten -/
theorem at_messLL (i m : Nat) (hi : ρ[i]? = some (mll K B dss)) (cp : ∀ ds ∈ dss, ds.length ≤ m) (k : ∀ l X S, X.length = dss.length → (∀ x ∈ X, ∃ b ∈ S, x = V.ref b) → At B F0 N (ρ.set i (.mo (msP l X S m)))) : At B F0 N ρ := fun F H σ c => by
  obtain ⟨w, o⟩ := c.own
  obtain ⟨_, v, e1, l, inner, rfl, ew, h4, h5, h6, h7, h8⟩ := o.sl i _ hi
  have hlt : i < ρ.length := (List.getElem?_eq_some_iff.mp hi).1
  have lw : l ∈ w i := by rw [ew]; simp
  have sw : ∀ a ∈ inner, a ∈ w i := fun a ha => by rw [ew]; exact List.mem_cons_of_mem _ ha
  obtain ⟨fl, bl, _⟩ := o.at_ i l lw
  have sF : Same F (upd F l (.lst (inner.map V.ref))) := fun a u e => by rw [upd_ne (ne_of_none e fl)]; exact e
  refine k l (inner.map V.ref) inner (by rw [List.length_map]; exact h7) (fun x hx => by
    obtain ⟨b, hb, rfl⟩ := List.mem_map.mp hx
    exact ⟨b, hb, rfl⟩) (upd F l (.lst (inner.map V.ref))) H σ ⟨⟨c.gr.f.trans sF, c.gr.h, fun a u e => ?_, fun a u e t z => ?_, fun a u e t => ?_⟩, by simp [c.len], fun j => if j = i then inner else w j, fun j j2 a h1 h2 => ?_, fun j a h1 => ?_, fun j s hs => ?_⟩
  · by_cases ha : a = l
    · subst ha; rw [upd_same] at e; cases e; exact h4
    · rw [upd_ne ha] at e; exact c.i a u e
  · rw [upd_ne fun q => by rw [q, bl] at e; cases e]
    exact c.gr.n a u e t z
  · by_cases ha : a = l
    · rw [ha, upd_same] at e; cases e; cases t
    · rw [upd_ne ha] at e; exact c.gr.t a u e t
  · try dsimp only at h1 h2
    have q1 : a ∈ w j := by
      split at h1
      next e => rw [e]; exact sw a h1
      next => exact h1
    have q2 : a ∈ w j2 := by
      split at h2
      next e => rw [e]; exact sw a h2
      next => exact h2
    exact o.dj j j2 a q1 q2
  · try dsimp only at h1
    have ha : a ≠ l := by
      split at h1
      next => exact fun z => h6 (z ▸ h1)
      next ki => exact fun q => ki (o.dj j i a h1 (by rw [q]; exact lw))
    have q1 : a ∈ w j := by
      split at h1
      next e => rw [e]; exact sw a h1
      next => exact h1
    obtain ⟨r1, r2, r3⟩ := o.at_ j a q1
    exact ⟨by rw [upd_ne ha]; exact r1, r2, r3⟩
  · try dsimp only
    by_cases ki : j = i
    · subst ki
      rw [List.getElem?_set_self hlt] at hs
      cases hs
      refine ⟨st_ms, _, e1, rfl, upd_same, if_pos rfl, fun a ha => ?_⟩
      obtain ⟨n, hn⟩ := List.mem_iff_getElem?.mp ha
      have ln := (List.getElem?_eq_some_iff.mp hn).1
      have ld : n < dss.length := by omega
      obtain ⟨b, xs, k1, k2, k3⟩ := h8 n _ (List.getElem?_eq_getElem ld)
      rw [hn] at k1
      cases k1
      exact ⟨xs, k2, by rw [nwAll_len k3]; exact cp _ (List.getElem_mem ld)⟩
    · rw [if_neg ki]
      rw [List.getElem?_set_ne fun e => ki e.symm] at hs
      have q := o.sl j s hs
      cases s with
      | no => trivial
      | fz f => obtain ⟨st, v, e, p⟩ := q; exact ⟨st, v, e, st _ _ v sF p⟩
      | mo m =>
        obtain ⟨st, v, e, p⟩ := q
        exact ⟨st, v, e, st _ _ _ _ _ _ sF (fun a ha => rfl) p⟩
theorem evj_outerX {i m : Nat} {l : Addr} {X : List V} {S : List Addr} (hi : ρ[i]? = some (.mo (msP l X S m))) (hX : ∀ x ∈ X, ∃ b ∈ S, x = V.ref b) : EvJ B F0 ρ (iList K (tVar i)) (inS S) (List.replicate X.length .none) := fun F H σ c R r => by
  obtain ⟨w, o⟩ := c.own
  obtain ⟨_, v, e1, rfl, hx, ew, hS⟩ := o.sl i _ hi
  exact ⟨_, e1, l, rfl, ⟨X, SqL.of (c.i _ _ hx)⟩, r _ F H (Gr.refl c.i) (wk_refs (SqL.of hx) rfl hX)⟩
theorem evh_lstD (h : EvAd K B F0 ρ tr ds) (hl : ds.length ≤ 100000) : EvH B F0 ρ (tLst tr) (dat K (.list ds)) := fun F H σ c Q q =>
  h F H σ c _ fun vs F1 H1 g1 p => ⟨sz_of (by rw [dpAll_len p]; exact hl), fun a ha => by
    have g2 : Gr F H F1 (upd H1 a (.lst vs)) := g1.trans (Gr.new g1.i ha)
    exact q _ F1 _ g2 (.lst (.inl (.inl upd_same)) (dpAll_mono g2.i p))⟩
end
end Lay
namespace Lay
open PySem L2 PySem.Spec PyProof.Rows
/-! isinstance of a caught thing that has fields; its lists owned, changed afterwards -/
def dictAt (d : Option Addr) (H : Hp) : Prop := d = none ∨ ∃ dd fs, d = some dd ∧ H dd = some (.xd fs)
theorem dictAt.mono {d : Option Addr} {H H' : Hp} (h : dictAt d H) (s : Same H H') : dictAt d H' := by
  rcases h with h | ⟨dd, fs, h1, h2⟩
  · exact .inl h
  · exact .inr ⟨dd, fs, h1, s _ _ h2⟩
def rIsX (K : PySem.W.Frag) (cls : Value) (d : Option Addr) (a : Addr) : List V → Hp → VK → Prop := fun xs H Q => ∃ (D : Addr) (c : V) (cv : Value) (b : Bool), cls = .ref D ∧ dictAt d H ∧ ExcC K D ∧ xs = [.ref a, c] ∧ (∀ u, RelV c u → u = cv) ∧ PySem.W.kitOne K (.ref D) cv = some b ∧ Q (.bl b) H
theorem call_isX {X : Cx} {a : Addr} {cls : Value} {d : Option Addr} {ob : Obj} {pn : List (Addr × Obj)} {xe : Value → Shared → Prop} (hz : Zc cls d ob) (hf : ∃ vs, ob.data = .fields vs) : CallR (X.tr ((a, ob) :: pn) xe) (.builtin "isinstance") (rIsX X.K cls d a) := by
  intro pins s σ H xs us Q I r h
  obtain ⟨D, c, cv, b, rfl, hd, ec, rfl, hcv, e, q⟩ := h
  match us, r with
  | [u1, u2], .cons r1 (.cons r3 .nil) =>
  have eu := hcv _ r3
  subst eu
  cases r1
  obtain ⟨here, _⟩ := I.pin (a, ob) (List.mem_append.mpr (.inl List.mem_cons_self))
  have hcl : (PySem.W.clsIn X.K D).isSome = true := by
    obtain ⟨cd, hc, _⟩ := PySem.W.any_some ec.hd
    rw [hc]; rfl
  suffices hh : ∃ o : Option Obj, PySem.W.InstAt s.heap a ob D o by
    obtain ⟨o, at_⟩ := hh
    exact PySem.W.kia_one (PySem.W.kitx_exc hcl ec.hg ec.hk ec.hs ec.ha ec.hn ec.ht ec.hm) I.kIn at_ e (fun z => nomatch z) fun tk => ⟨.bl b, H, I.kept (t' := tk) fun _ _ z => z, rfl, q⟩
  obtain ⟨vs, hv⟩ := hf
  have hnc : PySem.W.notCls ob = true := by unfold PySem.W.notCls; rw [hv] <;> rfl
  rcases hd with rfl | ⟨dd, fs, rfl, ea⟩
  · exact ⟨none, here, hz.1, hnc, by rw [hz.2]; trivial⟩
  · obtain ⟨mA, ns, _⟩ : ObjOk X.prog X.w H s.heap dd (.xd fs) := I.hok dd _ ea
    obtain ⟨od, ho, _⟩ := lookIn_ns ns
    exact ⟨some od, here, hz.1, hnc, by rw [hz.2]; exact ho⟩
/-- a caught thing, its class known by its slot -/
def xsP (a : Addr) (d : Option Addr) : Pd := fun F v => v = .ref a ∧ dictAt d F
theorem st_xsP {a : Addr} {d : Option Addr} : Stab (xsP a d) := fun _ _ _ s ⟨h1, h2⟩ => ⟨h1, h2.mono s⟩
section
variable {K : PySem.W.Frag} {B F0 : Hp} {ρ ρ1 : List Sl} {te : TE} {tr : TA} {d : PyData} {D : Ends} {u : TS} {N : L2.St → Hp → Prop}
/-- what raises a thing of the class cls that has fields -/
def EvRd (B F0 : Hp) (ρ : List Sl) (t : XK → TE) (cls : Addr) : Prop := ∀ F H σ, Cfg B F0 F H σ ρ → ∀ (E : XK) (Q : VK), (∀ F' H' dd fs, Cfg B F0 F' H' σ ρ → H' dd = some (.xd fs) → E (.ref cls) (some dd) H') → t E σ H Q
abbrev xfs (l1 l2 : Addr) : List (Str × V) := [("apart", .ref l2), ("between", .ref l1)]
def xoP (K : PySem.W.Frag) (dd : Addr) (ns : List Int) (ps : List (List Int)) (a : Addr) : Hp → Hp → V → List Addr → Prop := fun F H v as => v = .ref a ∧ ∃ (l1 l2 : Addr) (inner : List Addr), F dd = some (.xd (xfs l1 l2)) ∧ as = l2 :: l1 :: inner ∧ H l1 = some (.lst (ns.map .int)) ∧ H l2 = some (.lst (inner.map .ref)) ∧ inner.length = ps.length ∧
  ∀ (i : Nat) p, ps[i]? = some p → ∃ b, inner[i]? = some b ∧ H b = some (.lst (p.map .int))
theorem st_xoP {dd a : Addr} {ns : List Int} {ps : List (List Int)} : MStab (xoP K dd ns ps a) := fun F F' H H' v as s e ⟨h1, l1, l2, inner, h2, h3, h4, h5, h6, h7⟩ => by
  subst h3
  refine ⟨h1, l1, l2, inner, s _ _ h2, rfl, by rw [e l1 (by simp)]; exact h4, by rw [e l2 (by simp)]; exact h5, h6, fun i p hp => ?_⟩
  obtain ⟨b, k1, k2⟩ := h7 i p hp
  exact ⟨b, k1, by rw [e b (by simp [List.mem_of_getElem? k1])]; exact k2⟩
theorem nt_xoP {dd a : Addr} {ns : List Int} {ps : List (List Int)} : NoTb (xoP K dd ns ps a) := fun F H v as ⟨h1, l1, l2, inner, h2, h3, h4, h5, h6, h7⟩ x hx tb e => by
  subst h3
  rcases List.mem_cons.mp hx with rfl | hx
  · rw [h5] at e; cases e
  · rcases List.mem_cons.mp hx with rfl | hx
    · rw [h4] at e; cases e
    · obtain ⟨n, hn⟩ := List.mem_iff_getElem?.mp hx
      have ln := (List.getElem?_eq_some_iff.mp hn).1
      obtain ⟨b, k1, k2⟩ := h7 n _ (List.getElem?_eq_getElem (by omega : n < ps.length))
      rw [hn] at k1
      cases k1
      rw [k2] at e; cases e
theorem dpAll_intv {F : Hp} : ∀ ns : List Int, DpAll K F (ns.map V.int) (ns.map PyData.int)
  | [] => .nil
  | n :: ns => .cons (.int n) (dpAll_intv ns)
theorem dpAll_refs {H : Hp} : ∀ {inner : List Addr} {ps : List (List Int)}, inner.length = ps.length → (∀ (i : Nat) p, ps[i]? = some p → ∃ b, inner[i]? = some b ∧ H b = some (.lst (p.map .int))) → DpAll K H (inner.map .ref) (ps.map intsD)
  | [], [], _, _ => .nil
  | [], _ :: _, h, _ => nomatch h
  | _ :: _, [], h, _ => nomatch h
  | b :: inner, p :: ps, h, k => by
    obtain ⟨b', k1, k2⟩ := k 0 p rfl
    simp at k1
    subst k1
    exact .cons (.lst (.inl (.inl k2)) (dpAll_intv p)) (dpAll_refs (by simpa using h) fun i q hq => by
      obtain ⟨c, j1, j2⟩ := k (i + 1) q (by simpa using hq)
      exact ⟨c, by simpa using j1, j2⟩)
section
variable {i : Nat} {dd a C : Addr} {ns : List Int} {ps : List (List Int)}
theorem evh_xoB (h : ρ[i]? = some (.mo (xoP K dd ns ps a))) : EvH B F0 ρ (tXf a (.ref C) (some dd) C "between" (tVar i)) (dat K (intsD ns)) := fun F H σ c Q q => by
  obtain ⟨w, o⟩ := c.own
  obtain ⟨_, v, e, rfl, l1, l2, inner, h2, h3, h4, h5, h6, h7⟩ := o.sl i _ h
  exact ⟨_, e, rfl, rfl, dd, _, .ref l1, rfl, c.i _ _ h2, rfl, q _ F H (Gr.refl c.i) (.lst (.inl (.inl h4)) (dpAll_intv ns))⟩
theorem evh_xoA (h : ρ[i]? = some (.mo (xoP K dd ns ps a))) : EvH B F0 ρ (tXf a (.ref C) (some dd) C "apart" (tVar i)) (dat K (.list (ps.map intsD))) := fun F H σ c Q q => by
  obtain ⟨w, o⟩ := c.own
  obtain ⟨_, v, e, rfl, l1, l2, inner, h2, h3, h4, h5, h6, h7⟩ := o.sl i _ h
  exact ⟨_, e, rfl, rfl, dd, _, .ref l2, rfl, c.i _ _ h2, rfl, q _ F H (Gr.refl c.i) (.lst (.inl (.inl h5)) (dpAll_refs h6 h7))⟩
theorem ev_isNo {c : Bool} (h : ρ[i]? = some (.mo (xoP K dd ns ps a))) : Ev B F0 ρ (tOp (fun x y H Q => y = .non ∧ Q (.bl (decide (x = .non))) H) (tVar i) (tC .non)) (nwd K B (.bool false)) := fun F H σ c Q q => by
  obtain ⟨w, o⟩ := c.own
  obtain ⟨_, v, e1, rfl, _⟩ := o.sl i _ h
  exact ⟨_, e1, rfl, q _ F H (Gr.refl c.i) (.bl false)⟩
/-- .. what its lists hold is forgotten -/
def xmP (dd l1 l2 b0 : Addr) (S : List Addr) (m : Nat) (a : Addr) : Hp → Hp → V → List Addr → Prop := fun F H v as => v = .ref a ∧ F dd = some (.xd (xfs l1 l2)) ∧ as = l2 :: S ∧ (∃ r, H l2 = some (.lst (.ref b0 :: r)) ∧ r.length ≤ m) ∧ l2 ∉ S ∧ l1 ∈ S ∧ b0 ∈ S ∧ ∀ b ∈ S, ∃ xs, H b = some (.lst xs) ∧ xs.length ≤ m
variable {l1 l2 b0 : Addr} {S : List Addr} {m : Nat}
theorem st_xmP : MStab (xmP dd l1 l2 b0 S m a) := fun F F' H H' v as s e ⟨h1, h2, h3, ⟨r, h4, h5⟩, h6, h7, h8, h9⟩ => by
  subst h3
  refine ⟨h1, s _ _ h2, rfl, ⟨r, by rw [e l2 (by simp)]; exact h4, h5⟩, h6, h7, h8, fun b hb => ?_⟩
  obtain ⟨xs, k1, k2⟩ := h9 b hb
  exact ⟨xs, by rw [e b (by simp [hb])]; exact k1, k2⟩
theorem nt_xmP : NoTb (xmP dd l1 l2 b0 S m a) := fun F H v as ⟨h1, h2, h3, ⟨r, h4, h5⟩, h6, h7, h8, h9⟩ x hx tb e => by
  subst h3
  rcases List.mem_cons.mp hx with rfl | hx
  · rw [h4] at e; cases e
  · obtain ⟨xs, k1, _⟩ := h9 x hx
    rw [k1] at e; cases e
theorem at_openX (i m : Nat) (h : ρ[i]? = some (.mo (xoP K dd ns ps a))) (ne : ps ≠ []) (n1 : ns.length ≤ m) (n2 : ps.length ≤ m) (n3 : ∀ p ∈ ps, p.length ≤ m) (k : ∀ l1 l2 b0 S, At B F0 N (ρ.set i (.mo (xmP dd l1 l2 b0 S m a)))) : At B F0 N ρ := fun F H σ c => by
  obtain ⟨w, o⟩ := c.own
  obtain ⟨_, v, e, rfl, l1, l2, inner, h2, h3, h4, h5, h6, h7⟩ := o.sl i _ h
  obtain ⟨p0, ps', rfl⟩ := List.exists_cons_of_ne_nil ne
  obtain ⟨b0, in', rfl⟩ : ∃ b0 in', inner = b0 :: in' := by
    cases inner with
    | nil => cases h6
    | cons b r => exact ⟨b, r, rfl⟩
  have ib : ∀ b ∈ b0 :: in', ∃ p ∈ p0 :: ps', H b = some (.lst (p.map .int)) := fun b hb => by
    obtain ⟨n, hn⟩ := List.mem_iff_getElem?.mp hb
    have ln := (List.getElem?_eq_some_iff.mp hn).1
    have lp : n < (p0 :: ps').length := by rw [← h6]; exact ln
    obtain ⟨b', k1, k2⟩ := h7 n _ (List.getElem?_eq_getElem lp)
    rw [hn] at k1
    cases k1
    exact ⟨_, List.getElem_mem lp, k2⟩
  have no : ∀ q : List Int, (q.map V.int) ≠ ((b0 :: in').map V.ref) := fun q z => by
    cases q with
    | nil => cases z
    | cons _ _ => cases z
  refine k l1 l2 b0 (l1 :: b0 :: in') F H σ (c.chg h st_xmP fun v' as' e' mm nn => ⟨⟨?_, h2, ?_, ⟨in'.map .ref, h5, ?_⟩, ?_, by simp, by simp, ?_⟩, fun _ _ => rfl, fun x hx => (nn x hx).2.2⟩)
  · rw [e] at e'; cases e'; rfl
  · obtain ⟨_, l1', l2', inner', g2, g3, g4, g5, _⟩ := mm
    rw [h2] at g2
    simp only [Option.some.injEq, HO.xd.injEq, xfs, List.cons.injEq, Prod.mk.injEq, V.ref.injEq, true_and, and_true] at g2
    obtain ⟨rfl, rfl⟩ := g2
    rw [h5] at g5
    have := HO.lst.inj (Option.some.inj g5)
    have inj : inner' = b0 :: in' := by
      apply List.ext_getElem?
      intro n
      have := congrArg (fun l => l[n]?) this
      simp only [List.getElem?_map] at this
      cases e1 : (b0 :: in')[n]? <;> cases e2 : inner'[n]? <;> simp [e1, e2] at this <;> simp_all
    rw [g3, inj]
  · rw [List.length_map]; have : in'.length + 1 = ps'.length + 1 := h6; simp at n2; omega
  · intro hm
    rcases List.mem_cons.mp hm with rfl | hm
    · rw [h4] at h5; exact no _ (HO.lst.inj (Option.some.inj h5))
    · obtain ⟨p, _, k2⟩ := ib _ hm
      rw [k2] at h5; exact no _ (HO.lst.inj (Option.some.inj h5))
  · intro b hb
    rcases List.mem_cons.mp hb with rfl | hb
    · exact ⟨_, h4, by rw [List.length_map]; exact n1⟩
    · obtain ⟨p, hp, k2⟩ := ib _ hb
      exact ⟨_, k2, by rw [List.length_map]; exact n3 p hp⟩
/-- a list of S grows by one -/
theorem xm_grow {F H : Hp} {v : V} {as : List Addr} {b : Addr} {xs : List V} {y : V} (h : xmP dd l1 l2 b0 S m a F H v as) (hb : b ∈ S) (hx : H b = some (.lst xs)) (hl : xs.length ≤ m) : xmP dd l1 l2 b0 S (m + 1) a F (upd H b (.lst (xs ++ [y]))) v as := by
  obtain ⟨h1, h2, h3, ⟨r, h4, h5⟩, h6, h7, h8, h9⟩ := h
  refine ⟨h1, h2, h3, ⟨r, by rw [upd_ne fun z => h6 (by rw [z]; exact hb)]; exact h4, by omega⟩, h6, h7, h8, fun b' hb' => ?_⟩
  by_cases e : b' = b
  · subst e
    exact ⟨_, upd_same, by rw [List.length_append, List.length_singleton]; omega⟩
  · obtain ⟨ys, k1, k2⟩ := h9 b' hb'
    exact ⟨ys, by rw [upd_ne e]; exact k1, by omega⟩
theorem evx_xmB (hi : ρ[i]? = some (.mo (xmP dd l1 l2 b0 S m a))) (h : Ev B F0 ρ te (nwd K B d)) (hz : m < 99999) : EvX B F0 ρ (tBM K "list" rAppend (tXf a (.ref C) (some dd) C "between" (tVar i)) (tCons te tNil)) (ρ.set i (.mo (xmP dd l1 l2 b0 S (m + 1) a))) (nwd K B .none) := fun F H σ c Q q => by
  obtain ⟨w, o⟩ := c.own
  obtain ⟨_, v, e1, rfl, h2, h3, ⟨r, h4, h5⟩, h6, h7, h8, h9⟩ := o.sl i _ hi
  obtain ⟨xs, k1, k2⟩ := h9 l1 h7
  refine ⟨_, e1, rfl, rfl, dd, _, .ref l1, rfl, c.i _ _ h2, rfl, .inl ⟨rfl, _, SqL.of k1⟩, h F H σ c _ fun y F2 H2 g p => ⟨l1, xs, y, rfl, rfl, g.h _ _ k1, sz_lt (by omega), ?_⟩⟩
  refine q _ F2 _ ((c.go g).chg hi st_xmP fun v' as e mm nn => ⟨xm_grow mm h7 (g.h _ _ k1) k2, fun x hx => upd_ne fun z => hx (by rw [z, mm.2.2.1]; exact List.mem_cons_of_mem _ h7), fun x hx => ?_⟩) .non
  by_cases z : x = l1
  · subst z; exact ⟨_, upd_same, rfl⟩
  · rw [upd_ne z]; exact (nn x hx).2.2
theorem evx_xmI (hi : ρ[i]? = some (.mo (xmP dd l1 l2 b0 S m a))) (h : Ev B F0 ρ te (nwd K B d)) (hz : m < 99999) : EvX B F0 ρ (tBM K "list" rAppend (tOp (rIxL K) (tXf a (.ref C) (some dd) C "apart" (tVar i)) (tC (.int 0))) (tCons te tNil)) (ρ.set i (.mo (xmP dd l1 l2 b0 S (m + 1) a))) (nwd K B .none) := fun F H σ c Q q => by
  obtain ⟨w, o⟩ := c.own
  obtain ⟨_, v, e1, rfl, h2, h3, ⟨r, h4, h5⟩, h6, h7, h8, h9⟩ := o.sl i _ hi
  obtain ⟨xs, k1, k2⟩ := h9 b0 h8
  refine ⟨_, e1, rfl, rfl, dd, _, .ref l2, rfl, c.i _ _ h2, rfl, l2, .ref b0 :: r, 0, .ref b0, rfl, rfl, SqL.of h4, atI_nn (Int.le_refl 0) rfl, .inl ⟨rfl, _, SqL.of k1⟩, h F H σ c _ fun y F2 H2 g p => ⟨b0, xs, y, rfl, rfl, g.h _ _ k1, sz_lt (by omega), ?_⟩⟩
  refine q _ F2 _ ((c.go g).chg hi st_xmP fun v' as e mm nn => ⟨xm_grow mm h8 (g.h _ _ k1) k2, fun x hx => upd_ne fun z => hx (by rw [z, mm.2.2.1]; exact List.mem_cons_of_mem _ h8), fun x hx => ?_⟩) .non
  by_cases z : x = b0
  · subst z; exact ⟨_, upd_same, rfl⟩
  · rw [upd_ne z]; exact (nn x hx).2.2
theorem evx_xmA (hi : ρ[i]? = some (.mo (xmP dd l1 l2 b0 S m a))) (h : Ev B F0 ρ te (nwd K B d)) (hz : m < 99998) : EvX B F0 ρ (tBM K "list" rAppend (tXf a (.ref C) (some dd) C "apart" (tVar i)) (tCons te tNil)) (ρ.set i (.mo (xmP dd l1 l2 b0 S (m + 1) a))) (nwd K B .none) := fun F H σ c Q q => by
  obtain ⟨w, o⟩ := c.own
  obtain ⟨_, v, e1, rfl, h2, h3, ⟨r, h4, h5⟩, h6, h7, h8, h9⟩ := o.sl i _ hi
  refine ⟨_, e1, rfl, rfl, dd, _, .ref l2, rfl, c.i _ _ h2, rfl, .inl ⟨rfl, _, SqL.of h4⟩, h F H σ c _ fun y F2 H2 g p => ⟨l2, .ref b0 :: r, y, rfl, rfl, g.h _ _ h4, sz_lt (by rw [List.length_cons]; omega), ?_⟩⟩
  refine q _ F2 _ ((c.go g).chg hi st_xmP fun v' as e mm nn => ⟨?_, fun x hx => upd_ne fun z => hx (by rw [z, mm.2.2.1]; exact List.mem_cons_self ..), fun x hx => ?_⟩) .non
  · obtain ⟨g1, g2, g3, _, g6, g7, g8, g9⟩ := mm
    refine ⟨g1, g2, g3, ⟨r ++ [y], upd_same, by rw [List.length_append, List.length_singleton]; omega⟩, g6, g7, g8, fun b hb => ?_⟩
    obtain ⟨ys, k1, k2⟩ := g9 b hb
    exact ⟨ys, by rw [upd_ne fun z => g6 (by rw [← z]; exact hb)]; exact k1, by omega⟩
  · by_cases z : x = l2
    · subst z; exact ⟨_, upd_same, rfl⟩
    · rw [upd_ne z]; exact (nn x hx).2.2
end
/-- what is caught goes to slot j, which owns its lists -/
theorem keep_asgM {F H F' H' : Hp} {σ : L2.St} {m i j : Nat} {cv : Value} {cl : Addr} {od : Option Addr} {f : Addr → Hp → Hp → V → List Addr → Prop} {as : List Addr} {w : Addr → Value → Option Addr → TS} (c : Cfg B F0 F H σ ρ) (g : Gr F H F' H') (hi : i < ρ.length) (hij : i ≠ j) (hm : PySem.W.exmOne K (.ref cl) cv = some true) (st : ∀ a, MStab (f a)) (hf : ∀ a, f a F' H' (.ref a) as)
    (hn : ∀ x ∈ as, F' x = none ∧ H x = none ∧ ∃ o, H' x = some o ∧ isTup o = false) (k : ∀ a : Addr, At B F0 (w a (.ref cl) od D) ((ρ.set j (.mo (f a))).set i .no)) : wKeep K m cv i (fun _ _ _ => tAsg (tVar i) (gName j)) w D (.ref cl) od σ H' := fun _ => ⟨true, hm, rfl, fun a na => by
  have hl : i < σ.length := by rw [c.len]; exact hi
  refine ⟨.ref a, List.getElem?_set_self hl, ?_⟩
  have e : ((σ.set i (some (V.ref a))).set j (some (V.ref a))).set i none = (σ.set j (some (V.ref a))).set i none := by
    rw [List.set_comm _ _ hij, List.set_set]
  show w a (.ref cl) od D (((σ.set i (some (V.ref a))).set j (some (V.ref a))).set i none) H'
  rw [e]
  exact at_unset (Z := w a (.ref cl) od D) (i := i) (k a) F' H' _ (c.setN (st a) g (hf a) hn)⟩
/-- new things one by one, standing still from then on -/
theorem EvO1.nw (h : EvO1 K B F0 ρ te d) : Ev B F0 ρ te (nwd K B d) := fun F H σ c Q q =>
  h F H σ c _ fun v H2 s n => by
    obtain ⟨F2, g2, _, n2⟩ := nw_fix (B := B) c.gr.h n F (gr_call c.i s)
    exact q v F2 H2 g2 n2
theorem evh_tabP {T : List (Addr × Str)} {f : Pd} {i : Nat} (st : Stab f) (h : ρ[i]? = some (.mo (tabP T f))) : EvH B F0 ρ (tVar i) f := fun F H σ c Q q => by
  obtain ⟨w, o⟩ := c.own
  obtain ⟨_, v, e1, p, _⟩ := o.sl i _ h
  exact ⟨v, e1, q v F H (Gr.refl c.i) (st _ _ _ c.i p)⟩
end
end Lay
namespace Lay
open PySem L2 PySem.Spec PyProof.Rows
/-! things in tuples of things, d.get(k, x), len(set(..)), dicts of pairs -/
def rNotInT (K : PySem.W.Frag) : R2 := fun x y H Q => ∃ d ds, Dp K H x d ∧ Dp K H y (.tuple ds) ∧ SeqAt.shaped d = true ∧ SeqAt.shaped (.tuple ds) = true ∧ Q (.bl (!ds.any fun z => PyData.eqv z d)) H
section
variable {X : Cx} (K : PySem.W.Frag)
theorem op_notInT (hu : X.A.units + 65 < cLine) : OpR X (compareOp .NotIn) (rNotInT X.K) := by
  intro pins s σ H x y v u Q I rx ry h
  obtain ⟨d, ds, hd, he, sd, se, q⟩ := h
  obtain ⟨as, r1⟩ := Dp.reads I d x v hd rx
  obtain ⟨bs, r2⟩ := Dp.reads I (.tuple ds) y u he ry
  refine SeqAt.notIn_tuple_reads r2 r1 (SeqAt.canLay_of_shaped se) (SeqAt.canLay_of_shaped sd) (room_in_shaped sd hu) ⟨.bl _, H, I, rfl, ?_⟩
  exact q
theorem kop_notInT (hu : X.A.units + 65 < cLine) (hK : X.K = K := by rfl) : OpR X (compareOp .NotIn) (rNotInT K) := hK ▸ op_notInT hu
theorem kpe_lenSetI {a : Expr} {ta : TE} {p p2 q pos : Pos} (hc : X.calm = true) (hg : Gl X "len") (hm : X.mg "len" = none) (hg2 : Gl X "set") (hm2 : X.mg "set" = none) (ha : PE X a ta)
    (na : starEach [a] X.env = (false, eval a X.env) :: starEach [] X.env := by rfl) (hK : X.K = K := by rfl) : PE X (.Call (.Name "len" p) [.Call (.Name "set" p2) [a] [] q] [] pos) (L2.tLenSetI K ta) := hK ▸ L2.pe_lenSetI hc hg hm hg2 hm2 ha na
end
section
variable {K : PySem.W.Frag} {B F0 : Hp} {ρ ρ1 : List Sl} {te ta tb tc : TE} {d e : PyData} {ds es : List PyData} {kvs : List (Int × PyData)} {D : Ends} {u : TS}
theorem ev_notInT (ha : EvH B F0 ρ ta (dat K d)) (hb : EvH B F0 ρ tb (dat K (.tuple ds))) (hd : SeqAt.shaped d = true) (he : SeqAt.shaped (.tuple ds) = true) : Ev B F0 ρ (tOp (rNotInT K) ta tb) (nwd K B (.bool (!ds.any fun z => PyData.eqv z d))) :=
  evo st_dat ha hb (fun F => .bl _) fun H x y hx hy Q q => ⟨d, ds, hx, hy, hd, he, q⟩
theorem ev_lenSet {ns : List Int} (ha : EvH B F0 ρ ta (dat K (.list (ns.map .int)))) (nd : ns.Nodup) (hl : ns.length < 64) : Ev B F0 ρ (L2.tLenSetI K ta) (nwd K B (.int ns.length)) := fun F H σ c Q q =>
  ha F H σ c _ fun v F1 H1 g1 p => by
    cases p with
    | lst h1 h2 =>
      rw [dpAll_ints h2] at h1
      exact ⟨_, ns, rfl, h1, hl, nd, q _ F1 H1 g1 (.int _)⟩
theorem evh_dget2 {k : Int} (ha : EvH B F0 ρ ta (isDict K kvs)) (hb : EvH B F0 ρ tb (dat K (.int k))) (hc : EvH B F0 ρ tc (dat K e)) (hk : lookI kvs k = some d) : EvH B F0 ρ (tDGet2 ta tb tc) (dat K d) := fun F H σ c Q q =>
  ha F H σ c _ fun y F1 H1 g1 ⟨l, kv, ey, r, B', a⟩ => ⟨l, ey, .inl ⟨kv, r⟩, hb F1 H1 σ (c.go g1) _ fun x F2 H2 g2 p2 => hc F2 H2 σ ((c.go g1).go g2) _ fun z F3 H3 g3 _ => by
    cases p2
    rcases kv_look (k := k) a with ⟨h1, _⟩ | ⟨v, d', h1, h2, h3⟩
    · rw [hk] at h1; cases h1
    · rw [hk] at h1; cases h1
      refine ⟨some v, .inl ⟨kv, Sum.inl k, rd_mono (g2.h.trans g3.h) r, rfl, h2.symm⟩, ?_⟩
      exact q v F3 H3 (g1.trans (g2.trans g3)) (dp_mono (g2.h.trans g3.h) (nw_dp h3))⟩
theorem paired_kv {F H : Hp} (s : Same F H) : ∀ {xs : List V} {kvs : List (Int × PyData)}, NwAll K B F xs (kvs.map fun p => .tuple [.int p.1, p.2]) → ∃ (ps : List Addr) (kv : List (Key × V)), xs = ps.map V.ref ∧ Paired (fun p kv => SqT K H p [kV kv.1, kv.2]) ps kv ∧ KvAll K B F kv kvs
  | _, [], h => by cases h; exact ⟨[], [], rfl, .nil, .nil⟩
  | _, k :: ks, h => by
    cases h with
    | cons x r =>
      obtain ⟨ps, kv, e, q, a⟩ := paired_kv s r
      cases x with
      | @tup t ys _ h1 h2 =>
        cases h2 with
        | cons y1 y2 =>
          cases y1
          cases y2 with
          | @cons v _ _ _ y3 y4 =>
            cases y4
            exact ⟨t :: ps, (Sum.inl k.1, v) :: kv, by rw [e]; rfl, .cons (sqt_mono s h1) q, .cons y3 a⟩
def putAll (acc kvs : List (Int × PyData)) : List (Int × PyData) := kvs.foldl (fun a p => putI a p.1 p.2) acc
theorem putAll_app : ∀ {kvs acc : List (Int × PyData)}, ((acc ++ kvs).map (·.1)).Nodup → putAll acc kvs = acc ++ kvs
  | [], acc, _ => by simp [putAll]
  | p :: kvs, acc, nd => by
    have e : putI acc p.1 p.2 = acc ++ [p] := by
      unfold putI
      rw [if_neg]
      intro z
      obtain ⟨x, hx, ex⟩ := List.any_eq_true.mp z
      rw [List.map_append, List.nodup_append] at nd
      exact nd.2.2 x.1 (List.mem_map.mpr ⟨x, hx, rfl⟩) p.1 (by simp) (eq_of_beq ex)
    show putAll (putI acc p.1 p.2) kvs = _
    rw [e, putAll_app (by simpa using nd)]
    simp
theorem kv_mergeG {F : Hp} : ∀ {kv : List (Key × V)} {kvs : List (Int × PyData)} {acc : List (Key × V)} {f : List (Int × PyData)}, KvAll K B F kv kvs → KvAll K B F acc f → KvAll K B F (mergeK acc kv) (putAll f kvs)
  | _, _, _, _, .nil, h => h
  | _, _, acc, f, .cons (k := k) (v := v) (d := d) (kv := kv) (kvs := kvs) x r, h => show KvAll K B F (mergeK (putK acc (Sum.inl k) v) kv) (putAll (putI f k d) kvs) from kv_mergeG r (kv_put x h)
/-- dict([(k, v), ..]), the keys unlike -/
theorem q_setDictK {i : Nat} (h : EvN K B F0 ρ te (kvs.map fun p => .tuple [.int p.1, p.2])) (nd : (kvs.map (·.1)).Nodup) (k : At B F0 (u D) (ρ.set i (md K B kvs))) : At B F0 (tSeq (tAsg (tCB (rDictP K) (tCons te tNil)) (gName i)) u D) ρ := fun F H σ c =>
  h F H σ c _ fun a xs F1 H1 g1 hl hx => by
    obtain ⟨ps, kv, e, pr, al⟩ := paired_kv (H := H1) g1.i hx
    refine ⟨a, ps, _, rfl, .inl (.inl (by rw [← e]; exact hl)), pr, fun p hp => ?_⟩
    have g2 : Gr F H F1 (upd H1 p (.dK (mergeK [] kv))) := g1.trans (Gr.new g1.i hp)
    have m := kv_mergeG al (acc := []) (f := []) .nil
    rw [putAll_app (acc := []) (by simpa using nd)] at m
    refine k F1 _ _ (c.setN (as := [p]) (m := mdP K B kvs) st_md g2 ⟨p, _, rfl, rfl, upd_same, m⟩ fun b hb => ?_)
    rw [List.mem_singleton.mp hb]
    exact ⟨g1.i.free hp, g1.fresh hp, _, upd_same, rfl⟩
theorem lookI_find {rows : List (Int × Int × Int)} (pw : rows.Pairwise fun p q => p.1 < q.1) {r : Int × Int × Int} (hr : r ∈ rows) {g : Int × Int × Int → PyData} : lookI (rows.map fun r => (r.1, g r)) r.1 = some (g r) := by
  unfold lookI
  induction rows with
  | nil => cases hr
  | cons x rows ih =>
    obtain ⟨p1, p2⟩ := List.pairwise_cons.mp pw
    rw [List.map_cons, List.find?_cons]
    rcases List.mem_cons.mp hr with rfl | hr
    · simp
    · have : (x.1 == r.1) = false := beq_eq_false_iff_ne.mpr (Int.ne_of_lt (p1 r hr))
      rw [this]
      exact ih p2 hr
theorem cut_last {α : Type} (e : α → PyData) (xs : List α) : cutD (xs.map e) none (some (-1)) = xs.dropLast.map e := by
  have h1 : HT.sIx (xs.map e).length 0 none = 0 := rfl
  have h2 : HT.sIx (xs.map e).length (xs.map e).length (some (-1)) = xs.length - 1 := by
    rw [List.length_map]
    show (if (-1 : Int) < 0 then ((-1 : Int) + (xs.length : Int)).toNat else min (-1 : Int).toNat xs.length) = _
    rw [if_pos (by decide)]
    omega
  unfold cutD
  rw [h1, h2, List.drop_zero, Nat.sub_zero, List.dropLast_eq_take, List.map_take]
theorem atI_neg1 {α : Type} {xs : List α} {x : α} (h : xs.getLast? = some x) : atI xs (-1) = some x := by
  have hl : 0 < xs.length := by
    cases xs with
    | nil => cases h
    | cons _ _ => simp
  have e1 : ixN xs.length (-1) = some (xs.length - 1) := by
    unfold ixN
    first | (rw [if_neg (by omega), if_pos (by omega)]; congr 1; omega) | (split <;> first | omega | (split <;> first | omega | (congr 1; omega)))
  unfold atI
  rw [e1]
  show xs[xs.length - 1]? = some x
  rw [← List.getLast?_eq_getElem?]
  exact h
end
/-! the heap without some things -/
def hidS (S : List Addr) (H : Hp) : Hp := fun a => if a ∈ S then none else H a
theorem hidS_same {S : List Addr} {H : Hp} : Same (hidS S H) H := fun a o h => by
  unfold hidS at h
  split at h
  · cases h
  · exact h
theorem hidS_at {S : List Addr} {H : Hp} {a : Addr} (h : a ∉ S) : hidS S H a = H a := if_neg h
theorem hidS_in {S : List Addr} {H : Hp} {a : Addr} (h : a ∈ S) : hidS S H a = none := if_pos h
/-- the things of S are lists -/
def ListsAt (S : List Addr) (H : Hp) : Prop := ∀ a ∈ S, ∃ xs, H a = some (.lst xs)
section
variable {K : PySem.W.Frag} {S : List Addr} {H : Hp}
theorem hidS_o (hS : ListsAt S H) {a : Addr} {o : HO} (e : H a = some o) (h : ∀ xs, o ≠ .lst xs) : hidS S H a = some o := by
  rw [hidS_at]
  · exact e
  · intro z
    obtain ⟨xs, k⟩ := hS a z
    rw [e] at k
    exact h xs (Option.some.inj k)
theorem sqt_hidS (hS : ListsAt S H) {a : Addr} {xs : List V} (h : SqT K H a xs) : SqT K (hidS S H) a xs := by
  rcases h with (h | ⟨o, h⟩) | h
  · exact .inl (.inl (hidS_o hS h fun _ z => nomatch z))
  · exact .inl (.inr ⟨o, hidS_o hS h fun _ z => nomatch z⟩)
  · exact .inr h
mutual
/-- what is newer than G stays, where S was there in G -/
theorem nw_hidS {G : Hp} (hS : ListsAt S H) (sG : ∀ a ∈ S, G a ≠ none) : ∀ {v : V} {d : PyData}, Nw K G H v d → Nw K G (hidS S H) v d
  | _, _, .non => .non
  | _, _, .bl b => .bl b
  | _, _, .int i => .int i
  | _, _, .str x => .str x
  | _, _, .lst n e a => .lst n (by rw [hidS_at fun z => sG _ z n]; exact e) (nwAll_hidS hS sG a)
  | _, _, .tup e a => .tup (sqt_hidS hS e) (nwAll_hidS hS sG a)
theorem nwAll_hidS {G : Hp} (hS : ListsAt S H) (sG : ∀ a ∈ S, G a ≠ none) : ∀ {xs : List V} {ds : List PyData}, NwAll K G H xs ds → NwAll K G (hidS S H) xs ds
  | _, _, .nil => .nil
  | _, _, .cons x a => .cons (nw_hidS hS sG x) (nwAll_hidS hS sG a)
end
mutual
theorem dp_hidF (hS : ListsAt S H) : ∀ {v : V} {d : PyData}, Dp K H v d → flatD d = true → Dp K (hidS S H) v d
  | _, _, .non, _ => .non
  | _, _, .bl b, _ => .bl b
  | _, _, .int i, _ => .int i
  | _, _, .str x, _ => .str x
  | _, _, .lst h a, z => Bool.noConfusion (show false = true from z)
  | _, _, .tup (ds := ds) h a, z => .tup (sqt_hidS hS h) (dpAll_hidF hS a (show flatDs ds = true from z))
theorem dpAll_hidF (hS : ListsAt S H) : ∀ {xs : List V} {ds : List PyData}, DpAll K H xs ds → flatDs ds = true → DpAll K (hidS S H) xs ds
  | _, _, .nil, _ => .nil
  | _, _, .cons (d := d) (ds := ds) h a, z => by
    have z : (flatD d && flatDs ds) = true := z
    rw [Bool.and_eq_true] at z
    exact .cons (dp_hidF hS h z.1) (dpAll_hidF hS a z.2)
end
theorem kv_hidS (hS : ListsAt S H) : ∀ {kv : List (Key × V)} {kvs : List (Int × PyData)}, KvAll K e0 H kv kvs → (∀ p ∈ kvs, flatD p.2 = true) → KvAll K e0 (hidS S H) kv kvs
  | _, _, .nil, _ => .nil
  | _, _, .cons (k := k) (d := d) h a, fl => .cons (dp_nw (dp_hidF hS (nw_dp h) (fl (k, d) (List.mem_cons_self ..))) (fl (k, d) (List.mem_cons_self ..))) (kv_hidS hS a fun p hp => fl p (List.mem_cons_of_mem _ hp))
theorem town_hidS {C : Addr} {st : TSt} {v : V} (hS : ListsAt S H) (h : isTown K C st H v) : isTown K C st (hidS S H) v := by
  obtain ⟨t, dx, d, kv, e, h1, h2, h3⟩ := h
  refine ⟨t, dx, d, kv, e, hidS_o hS h1 (fun _ z => nomatch z), hidS_o hS h2 (fun _ z => nomatch z), kv_hidS hS h3 fun p hp => ?_⟩
  obtain ⟨r, _, rfl⟩ := List.mem_map.mp hp
  rfl
/-- a new start: slot i owns the things of S, all else stands still -/
theorem cfg_hidS {σ : L2.St} {ρ : List Sl} {i : Nat} {m : Hp → Hp → V → List Addr → Prop} (hS : ∀ a ∈ S, ∃ o, H a = some o ∧ isTup o = false) (hl : σ.length = ρ.length) (st : MStab m) (hi : ρ[i]? = some (.mo m)) (hv : ∃ v, σ[i]? = some (some v) ∧ m (hidS S H) H v S)
    (oth : ∀ (j : Nat) s, j ≠ i → ρ[j]? = some s → s = .no ∨ ∃ f v, s = .fz f ∧ Stab f ∧ σ[j]? = some (some v) ∧ f (hidS S H) v) : Cfg (hidS S H) (hidS S H) (hidS S H) H σ ρ := by
  refine ⟨⟨Same.refl _, hidS_same, hidS_same, fun a o e t z => z, fun _ _ e _ => e⟩, hl, fun j => if j = i then S else [], fun j k a h1 h2 => ?_, fun j a h1 => ?_, fun j s hs => ?_⟩
  · (try dsimp only at h1 h2)
    split at h1
    · split at h2
      · omega
      · cases h2
    · cases h1
  · (try dsimp only at h1)
    split at h1
    · obtain ⟨o, h2, h3⟩ := hS a h1
      exact ⟨hidS_in h1, hidS_in h1, o, h2, h3⟩
    · cases h1
  · by_cases ji : j = i
    · subst ji
      rw [hi] at hs
      cases hs
      obtain ⟨v, e, p⟩ := hv
      exact ⟨st, v, e, by simpa using p⟩
    · rcases oth j s ji hs with rfl | ⟨f, v, rfl, st', e, p⟩
      · trivial
      · exact ⟨st', v, e, p⟩
end
end Lay
namespace Lay
open PySem L2 PySem.Spec PyProof.Rows
/-! set(xs), xs a list of ints; sorted(set(xs)) -/
abbrev nSet (w : World) : Obj := { cls := .type "set", dict := none, data := .set #[] 0 (.fresh 0 0 (!w.params.followText "set-order")) }
section
variable {P : Program} {w : World} {A : Around} {E : Value → Shared → Prop} {s : Shared}
/-- the loop that fills a new set from a list -/
theorem set_fill {l : Addr} {vs : Array Value} (ns : List Int) (hh : A.handled = none) (hl : s.heap.IsList l vs) (hit : IntsAre vs.toList ns) (hb : ns.length + 1 < scanBound) :
    codeAny (model P w) A (.builtin "set.update.loop" ⟨[.ref s.heap.objs.size, .ref (s.heap.push (nSet w)).objs.size], []⟩)
      (wants (fun r s₂ => r = .none ∧ ∃ h' tk c, s₂ = { s with heap := h', toks := tk } ∧ SetR w h' s.heap.objs.size (fun j => decide (j ∈ ns)) c ∧ c ≤ ns.length ∧ ∀ b o, s.heap.get? b = some o → h'.get? b = some o) E)
      { s with heap := (s.heap.push (nSet w)).push { cls := .type "list_iterator", data := .fields #[.ref l, .int 0 0] } } := by
  have sz : vs.size = ns.length := by rw [← Array.length_toList]; exact IntsAre.length hit
  obtain ⟨ol, hol, _⟩ := id hl
  have lt := Heap.lt_size hol
  have top := Heap.size_push s.heap (nSet w)
  have at0 : (s.heap.push (nSet w)).get? s.heap.objs.size = some (nSet w) := Heap.get?_push_size _ rfl
  have il : (s.heap.push (nSet w)).IsList l vs := hl.push _
  have neI : l ≠ (s.heap.push (nSet w)).objs.size := by rw [top]; exact Nat.ne_of_lt (Nat.lt_succ_of_lt lt)
  have item : ∀ (i : Nat) (v : Value), vs[i]? = some v → ∃ k t, ns[i]? = some k ∧ v = .int k t := fun i v hv => by
    have hi : i < ns.length := by rw [← sz]; exact (Array.getElem?_eq_some_iff.mp hv).1
    obtain ⟨t, e⟩ := IntsAre.int_at hit i v (by rw [Array.getElem?_toList]; exact hv)
    exact ⟨ns[i], t, List.getElem?_eq_getElem hi, by rw [e, List.getD_eq_getElem?_getD, List.getElem?_eq_getElem hi] <;> rfl⟩
  have h3 : A.in1.handled = none := by simp [hh]
  refine set_update_ints ((Walks.list h3 _ l neI vs).toS) s.heap.objs.size (by
    rw [top]
    intro z
    rcases List.mem_cons.mp z with z | z
    · exact absurd z (Nat.ne_of_lt (Nat.lt_succ_self _))
    · rcases List.mem_cons.mp z with z | z
      · exact absurd z (Nat.ne_of_gt lt)
      · cases z) ns sz hb item (vs.size - 0) 0 _ (by omega) (Nat.zero_le _) ⟨⟨_, Heap.get?_push_size _ rfl, rfl, rfl⟩, il.push _⟩ ⟨0, Nat.le_refl 0, setR_new_at (Heap.get?_push_of_some _ at0)⟩ fun s' c' mv hc hS => ?_
  obtain ⟨h', g2, d', tk', os'⟩ := s'
  obtain rfl : g2 = s.gens := mv.gens
  obtain rfl : d' = s.drawn := mv.drawn
  obtain rfl : os' = s.os := mv.os
  refine ⟨rfl, h', tk', c', rfl, hS, by omega, fun b o e => ?_⟩
  have lb := Heap.lt_size e
  exact mv.heap b o (by
    rw [top]
    intro z
    rcases List.mem_cons.mp z with z | z
    · exact absurd z (Nat.ne_of_lt lb)
    · rcases List.mem_cons.mp z with z | z
      · exact absurd z (Nat.ne_of_lt (Nat.lt_succ_of_lt lb))
      · cases z) (Heap.get?_push_of_some _ (Heap.get?_push_of_some _ e))
/-- set(xs), xs a list of ints: the set's objects are known with their order -/
theorem set_ofList {l : Addr} {vs : Array Value} (ns : List Int) {Q : Value → Shared → Prop} (hh : A.handled = none) (hl : s.heap.IsList l vs) (hit : IntsAre vs.toList ns) (hb : ns.length + 1 < scanBound)
    (h : ∀ h' tk c, SetR w h' s.heap.objs.size (fun j => decide (j ∈ ns)) c → c ≤ ns.length → (∀ b o, s.heap.get? b = some o → h'.get? b = some o) → Q (.ref s.heap.objs.size) { s with heap := h', toks := tk }) : wpAny (model P w) A (call (.type "set") [.ref l]) Q E s := by
  have a1 := F.called_set.made
  have a2 := F.called_set.sub
  have a3 := F.called_set.notType
  have a4 := F.called_set.canCreate
  have a5 := F.typeCall_set_1 (.ref l)
  have ⟨c0, tl, a6⟩ := F.called_set.mro
  refine wpAny_call (codeAny_of_tree (show wpAny _ _ (callAny (.type "set") _) _ _ _ from wpAny_pure ⟨Code.quiet_builtin _ (by decide +kernel), codeAny_builtin F.entry_type_call ?_⟩))
  rw [Around.under_plain (weight_type_call_type "set" [.ref l] []) rfl]
  repeat (any_goals (first | assumption | wp_step))
  refine codeAny_mono (code_set_led1 (.ref l) (E := E) (Q₁ := fun v t => v = .ref s.heap.objs.size ∧ t = { s with heap := s.heap.push (nSet w) }) (.intro rfl rfl)) fun | .error _, _, k => k | .ok (.ret v), t, k => ?_
  obtain ⟨rfl, rfl⟩ := k
  have at0 : (s.heap.push (nSet w)).get? s.heap.objs.size = some (nSet w) := Heap.get?_push_size _ rfl
  have ty : Shared.TypeIs { s with heap := s.heap.push (nSet w) } (.ref s.heap.objs.size) "set" := ⟨nSet w, at0, rfl⟩
  have b1 := F.called_set.init.bind (.ref s.heap.objs.size)
  have b2 := F.called_set.init.lookup
  repeat (any_goals (first | assumption | wp_step))
  refine codeAny_mono (codeAny_call_builtin (R := wants (fun r t => r = .none ∧ ∃ h' tk c, t = { s with heap := h', toks := tk } ∧ SetR w h' s.heap.objs.size (fun j => decide (j ∈ ns)) c ∧ c ≤ ns.length ∧ ∀ b o, s.heap.get? b = some o → h'.get? b = some o) E) F.called_set.init.plain F.entry_set_init (check_set_init_1 ty ?_)) fun | .error _, _, k => k | .ok (.ret v), t, k => ?_
  · obtain ⟨⟨lc, ld, lda, ls⟩, lo, l1, ln, l2⟩ := id hl
    dsimp only at l1 l2
    subst l1 l2
    have c1 : (s.heap.push (nSet w)).get? l = some { cls := .type "list", dict := ld, data := .seq vs ln, slots := ls } := Heap.get?_push_of_some _ lo
    have c2 := F.sub_list_frozenset
    have c3 := F.sub_list_set
    have c4 : (Value.type "list" == Value.type "dict") = false := by decide
    have c5 : (s.heap.push (nSet w)).IsList l vs := ⟨_, c1, rfl, ln, rfl⟩
    unfold Builtin.«set.__init__» noKeywords Builtin.Frozenset.updateFrom
    generalize PIe : pyIter = PI
    wp_walk
    subst PIe
    refine wpAny_pyIter_list c5 (wpAny_bind (wpAny_runValue ?_))
    refine codeAny_mono (set_fill (E := E) ns (by simp [hh]) hl hit hb) fun | .error _, _, k => k | .ok (.ret v), t, k => ?_
    obtain ⟨rfl, k⟩ := k
    show wpAny _ _ _ _ _ _
    refine wpAny_pure ?_
    show wpAny _ _ (ret Value.none) _ _ _
    exact wpAny_pure ⟨rfl, k⟩
  · obtain ⟨rfl, h', tk, c, rfl, k1, k2, k3⟩ := k
    repeat (any_goals (first | assumption | wp_step))
    exact h h' tk c k1 k2 k3
end
end Lay
namespace Lay
open PySem L2 PySem.Spec PyProof.Rows
/-! sorted(set(xs)) in the layer; a loop over an owned list whose things it changes -/
def rSetI (K : PySem.W.Frag) (w : World) : List V → Hp → VK → Prop := fun xs H Q => ∃ (l : Addr) (ns : List Int), xs = [.ref l] ∧ SqL K H l (ns.map V.int) ∧ ns.length < 64 ∧ ∀ p c, H p = none → c ≤ ns.length → Q (.ref p) (upd H p (SetO w p (fun j => decide (j ∈ ns)) c))
section
variable {X : Cx} (K : PySem.W.Frag)
theorem cr_setI (hc : X.calm = true) : CallR X (.type "set") (rSetI X.K X.w) := by
  intro pins s σ H xs us Q I r h
  obtain ⟨l, ns, rfl, hq, h64, q⟩ := h
  rcases r with _ | ⟨⟨⟩, ⟨⟩⟩
  obtain ⟨its, rv, pl, hz⟩ := I.list hq
  have hi : IntsAre its.toArray.toList ns := ints_of_vals rv
  refine set_ofList ns (I.ok.hd hc) pl.isList hi (by unfold scanBound; omega) fun h' tk c R hcn k => ?_
  exact ⟨.ref s.heap.objs.size, upd H s.heap.objs.size (SetO X.w s.heap.objs.size (fun j => decide (j ∈ ns)) c), I.laid (t' := tk) k (Nat.le_refl _) (setO_new R), rfl, q _ c (I.hok.fresh (Nat.le_refl _)) hcn⟩
theorem kcr_setI (hc : X.calm = true) (hK : X.K = K := by rfl) : CallR X (.type "set") (rSetI K X.w) := hK ▸ cr_setI hc
end
section
variable {K : PySem.W.Frag} {B F0 : Hp} {ρ : List Sl} {ta : TE}
/-- sorted(set(xs)) -/
theorem evm_sortedSet {w : World} {ns srt : List Int} (ha : EvH B F0 ρ ta (dat K (.list (ns.map .int)))) (hl : ns.length < 64) (hs : srt.Pairwise (· < ·)) (hm : ∀ k, k ∈ srt ↔ k ∈ ns) :
    EvM K B F0 ρ (tCB (rSortedSet w) (tCons (tCB (rSetI K w) (tCons ta tNil)) tNil)) (srt.map .int) := fun F H σ c Q q =>
  ha F H σ c _ fun v F1 H1 g1 p => by
    cases p with
    | @lst l xs ds h1 h2 =>
      rw [dpAll_ints h2] at h1
      refine ⟨l, ns, rfl, h1, hl, fun p c hp hc => ⟨p, _, c, rfl, upd_same, by omega, fun ys t k1 k2 k3 h3 => ?_⟩⟩
      have g2 := g1.trans (Gr.new (o := SetO w p (fun j => decide (j ∈ ns)) c) g1.i hp)
      have e : ys = srt := by
        have m : ∀ k, k ∈ ys ↔ k ∈ srt := fun k => by rw [k2 k, hm k, decide_eq_true_eq]
        have n1 : ys.Nodup := k1.imp fun h => Int.ne_of_lt h
        have n2 : srt.Nodup := hs.imp fun h => Int.ne_of_lt h
        refine List.Perm.eq_of_pairwise (le := (· ≤ ·)) (fun a b _ _ h1 h2 => Int.le_antisymm h1 h2) (k1.imp Int.le_of_lt) (hs.imp Int.le_of_lt) ?_
        exact (List.perm_ext_iff_of_nodup n1 n2).mpr m
      subst e
      exact q t _ F1 _ (g2.trans (Gr.new g2.i h3)) (g2.i.free h3) (g2.fresh h3) upd_same (nwAll_ints _)
end
/-! an owned list whose address is known; a loop over it while other owned things are changed -/
def mlLP (K : PySem.W.Frag) (B : Hp) (l : Addr) (ds : List PyData) : Hp → Hp → V → List Addr → Prop := fun F H v as => v = .ref l ∧ mlP K B ds F H v as
/-- a new list of new lists of ints -/
structure NewLL (H H' : Hp) (l : Addr) (inner : List Addr) (dss : List (List Int)) : Prop where
  out : H' l = some (.lst (inner.map .ref))
  nd : inner.Nodup
  off : l ∉ inner
  new : ∀ a ∈ l :: inner, H a = none
  len : inner.length = dss.length
  at_ : ∀ (i : Nat) (ds : List Int), dss[i]? = some ds → ∃ a, inner[i]? = some a ∧ H' a = some (.lst (ds.map .int))
def spLL {α : Type} (pre : α → Prop) (args : α → List Pd) (res : α → List (List Int)) : Sp := fun vs H Q _ => ∃ x, pre x ∧ AOk (args x) H vs ∧ ∀ l inner H', Same H H' → NewLL H H' l inner (res x) → Q (.ref l) H'
section
variable {K : PySem.W.Frag} {B F0 : Hp} {ρ ρ1 : List Sl} {te ta tb : TE} {d : PyData} {ds es : List PyData} {D : Ends} {u : TS}
theorem st_mlL {l : Addr} : MStab (mlLP K B l ds) := fun F F' H H' v as s e ⟨h1, h2⟩ => ⟨h1, st_ml F F' H H' v as s e h2⟩
theorem rd_mlL {l : Addr} : RdS K (.mo (mlLP K B l ds)) (.list ds) := fun B F0 F H σ ρ i c e => by
  obtain ⟨w, o⟩ := c.own
  obtain ⟨_, v, h1, rfl, l2, xs, h2, h3, h4, h5⟩ := o.sl i _ e
  cases h2
  exact ⟨_, h1, .lst (.inl (.inl h4)) (dpAll_mono c.i (nwAll_dp h5))⟩
theorem at_forM {α : Type} {xs : List α} {e : α → PyData} {i : Nat} {g : TG} {tb : TS} (hi : ρ[i]? = some (ml K B (xs.map e))) (Inv : Addr → List α → List Sl → Prop) (h0 : ∀ l, Inv l [] (ρ.set i (.mo (mlLP K B l (xs.map e)))))
    (hI : ∀ l pre ρ', Inv l pre ρ' → ρ'[i]? = some (.mo (mlLP K B l (xs.map e))))
    (hs : ∀ l F1 pre x post ρ', xs = pre ++ x :: post → Inv l pre ρ' → ∃ is ρ2, Bind B F1 g is (nwd K B (e x)) ρ' ρ2 ∧ At B F1 (tb { D with nx := Lp B F1 (Inv l) (pre ++ [x]), ct := Lp B F1 (Inv l) (pre ++ [x]), bk := D.nx }) ρ2)
    (hd : ∀ l ρ', Inv l xs ρ' → At B F0 D.nx ρ') : At B F0 (tFor (iList K (tVar i)) g tb D) ρ := fun F H σ c => by
  obtain ⟨w, o⟩ := c.own
  obtain ⟨_, v, e1, l, zs, rfl, ew, h4, h5⟩ := o.sl i _ hi
  have hlen := nwAll_len h5
  rw [List.length_map] at hlen
  have upc : ∀ {F' H' : Hp} {σ : L2.St} {ρ : List Sl}, Cfg B F F' H' σ ρ → Cfg B F0 F' H' σ ρ := fun {F' H' σ ρ} c' =>
    ⟨⟨c.gr.f.trans c'.gr.f, c'.gr.h, c'.gr.i, fun a o h t e => c'.gr.n a o h t (c.gr.n a o h t e), fun a o e t => c.gr.t a o (c'.gr.t a o e t) t⟩, c'.len, c'.own⟩
  refine ⟨_, e1, l, rfl, ⟨zs, SqL.of h4⟩, fun k m σ H => m = xs.length - k ∧ k ≤ xs.length ∧ Lp B F (Inv l) (xs.take k) σ H, ⟨xs.length, by simp, Nat.zero_le _, F, ρ.set i (.mo (mlLP K B l (xs.map e))), ?_, by simpa using h0 l⟩, ?_⟩
  · have cc : Cfg B F F H σ ρ := ⟨⟨Same.refl _, c.gr.h, c.gr.i, fun _ _ _ _ e => e, fun _ _ e _ => e⟩, c.len, c.own⟩
    refine cc.chg hi (st_mlL (l := l)) fun v' as ev mm n => ?_
    rw [e1] at ev
    cases ev
    exact ⟨⟨rfl, mm⟩, fun a ha => rfl, fun a ha => by
      obtain ⟨_, _, u, h3, h4⟩ := n a ha
      exact ⟨u, h3, h4⟩⟩
  · rintro k m σ' H' ⟨rfl, hk, F', ρ', c', inv⟩
    obtain ⟨w', o'⟩ := c'.own
    obtain ⟨_, v', e1', rfl, l2, ys, h2, _, k4, k5⟩ := o'.sl i _ (hI l _ _ inv)
    cases h2
    have hlen' := nwAll_len k5
    rw [List.length_map] at hlen'
    by_cases hlt : k < xs.length
    · refine .inr ⟨⟨ys, ys[k]'(by omega), SqL.of k4, List.getElem?_eq_getElem (by omega)⟩, Lp B F (Inv l) (xs.take (k + 1)), fun σ2 H2 l2 => ⟨xs.length - (k + 1), by omega, rfl, hlt, l2⟩, fun x H2 y => ?_⟩
      obtain ⟨rfl, y⟩ := y
      obtain ⟨d, hd2, p2⟩ := nwAll_getV k5 (y ys (SqL.of k4))
      have ex : xs = xs.take k ++ xs[k] :: xs.drop (k + 1) := by
        rw [List.getElem_cons_drop, List.take_append_drop]
      have ed : d = e xs[k] := by
        rw [List.getElem?_map, List.getElem?_eq_getElem hlt] at hd2
        exact (Option.some.inj hd2).symm
      subst ed
      obtain ⟨is, ρ2, b2, k2⟩ := hs l F (xs.take k) xs[k] (xs.drop (k + 1)) ρ' ex inv
      have et : xs.take (k + 1) = xs.take k ++ [xs[k]] := by
        rw [List.take_succ, List.getElem?_eq_getElem hlt]; rfl
      rw [et]
      exact b2 F' _ σ' x c' p2 _ fun σ3 c3 _ => k2 F' _ σ3 c3
    · have ek : k = xs.length := by omega
      subst ek
      rw [List.take_length] at inv
      exact .inl ⟨⟨ys, SqL.of k4, by omega⟩, hd l ρ' inv F' H' σ' (upc c')⟩
theorem q_forM {α : Type} {xs : List α} {e : α → PyData} {i : Nat} {g : TG} {tb : TS} (hi : ρ[i]? = some (ml K B (xs.map e))) (Inv : Addr → List α → List Sl → Prop) (h0 : ∀ l, Inv l [] (ρ.set i (.mo (mlLP K B l (xs.map e)))))
    (hI : ∀ l pre ρ', Inv l pre ρ' → ρ'[i]? = some (.mo (mlLP K B l (xs.map e))))
    (hs : ∀ l F1 pre x post ρ', xs = pre ++ x :: post → Inv l pre ρ' → ∃ is ρ2, Bind B F1 g is (nwd K B (e x)) ρ' ρ2 ∧ At B F1 (tb { D with nx := Lp B F1 (Inv l) (pre ++ [x]), ct := Lp B F1 (Inv l) (pre ++ [x]), bk := u D }) ρ2)
    (hd : ∀ l ρ', Inv l xs ρ' → At B F0 (u D) ρ') : At B F0 (tSeq (tFor (iList K (tVar i)) g tb) u D) ρ := at_forM (D := { D with nx := u D }) hi Inv h0 hI hs hd
/-- .. as any owned list again -/
theorem at_mlL {i : Nat} {l : Addr} {N : L2.St → Hp → Prop} (hi : ρ[i]? = some (.mo (mlLP K B l ds))) (k : At B F0 N (ρ.set i (ml K B ds))) : At B F0 N ρ := fun F H σ c => by
  obtain ⟨w, o⟩ := c.own
  obtain ⟨_, v, e1, _⟩ := o.sl i _ hi
  refine k F H σ (c.chg hi st_ml fun v' as ev mm n => ⟨mm.2, fun a ha => rfl, fun a ha => ?_⟩)
  obtain ⟨_, _, u, h3, h4⟩ := n a ha
  exact ⟨u, h3, h4⟩
theorem q_setLLt {α : Type} {pre : α → Prop} {args : α → List Pd} {res : α → List (List Int)} {tr : TA} {E : XK} {i : Nat} (x : α) (hp : pre x) (h : EvA B F0 ρ tr (args x)) (k : At B F0 (u D) (ρ.set i (mll K B ((res x).map fun l => l.map .int)))) :
    At B F0 (tSeq (tAsg (tCall (spLL pre args res) [] E tr) (gName i)) u D) ρ := fun F H σ c =>
  h F H σ c _ fun vs F1 H1 g1 p => ⟨x, hp, by rw [List.append_nil]; exact p, fun l inner H2 s n => by
    have g2 : Gr F H F1 H2 := g1.trans (gr_call g1.i s)
    refine k F1 H2 _ (c.setN (as := l :: inner) st_mll g2 ⟨l, inner, rfl, rfl, n.out, n.nd, n.off, by rw [List.length_map]; exact n.len, fun j ds hj => ?_⟩ fun a ha => ?_)
    · rw [List.getElem?_map] at hj
      cases e : (res x)[j]? with
      | none => rw [e] at hj; cases hj
      | some ns =>
        rw [e] at hj
        cases hj
        obtain ⟨a, k1, k2⟩ := n.at_ j ns e
        exact ⟨a, _, k1, k2, nwAll_ints _⟩
    · refine ⟨g1.i.free (n.new a ha), g1.fresh (n.new a ha), ?_⟩
      rcases List.mem_cons.mp ha with rfl | ha
      · exact ⟨_, n.out, rfl⟩
      · obtain ⟨j, hj⟩ := List.mem_iff_getElem?.mp ha
        have lj := (List.getElem?_eq_some_iff.mp hj).1
        obtain ⟨b, k1, k2⟩ := n.at_ j _ (List.getElem?_eq_getElem (by rw [← n.len]; exact lj))
        rw [hj] at k1
        cases k1
        exact ⟨_, k2, rfl⟩⟩
theorem at_retLLn {i : Nat} {dss : List (List Int)} (h : ρ[i]? = some (mll K B (dss.map fun l => l.map .int))) (k : ∀ l inner H', Same B H' → NewLL B H' l inner dss → D.rt (.ref l) H') : At B F0 (tRet (tVar i) D) ρ := fun F H σ c => by
  obtain ⟨w, o⟩ := c.own
  obtain ⟨_, v, h1, l, inner, rfl, ew, h4, h5, h6, h7, h8⟩ := o.sl i _ h
  refine ⟨_, h1, k l inner H c.gr.h ⟨h4, h5, h6, fun a ha => (o.at_ i a (by rw [ew]; exact ha)).2.1, by rw [h7, List.length_map], fun j ds hj => ?_⟩⟩
  obtain ⟨a, xs, q1, q2, q3⟩ := h8 j (ds.map .int) (by rw [List.getElem?_map, hj]; rfl)
  rw [dpAll_ints (nwAll_dp q3)] at q2
  exact ⟨a, q1, q2⟩
/-- [x] * k -/
theorem evm_rep {x k : Int} (ha : EvM K B F0 ρ ta [.int x]) (hb : EvH B F0 ρ tb (dat K (.int k))) (k0 : 0 ≤ k) (k1 : k < 100000) : EvM K B F0 ρ (tOp rRep ta tb) ((List.replicate k.toNat x).map .int) := fun F H σ c Q q =>
  ha F H σ c _ fun a xs F1 H1 g1 f1 n1 h1 al => hb F1 H1 σ (c.go g1) _ fun y F2 H2 g2 p2 => by
    cases p2
    have ex := dpAll_ints (ns := [x]) (nwAll_dp al)
    subst ex
    refine ⟨a, k, _, rfl, rfl, g2.h _ _ h1, by omega, by omega, sz_of (by simp; omega), fun p hp => ?_⟩
    have g := g1.trans g2
    have e : (List.replicate k.toNat ([x].map V.int)).flatten = (List.replicate k.toNat x).map V.int := by
      generalize k.toNat = n
      induction n with
      | zero => rfl
      | succ n ih => rw [List.replicate_succ, List.replicate_succ, List.flatten_cons, ih]; rfl
    rw [e]
    exact q p _ F2 _ (g.trans (Gr.new g.i hp)) (g.i.free hp) (g.fresh hp) upd_same (nwAll_ints _)
end
end Lay
namespace Lay
open PySem L2 PySem.Spec PyProof.Rows
/-! an owned list of pairs (list of ints, int): the lists within, the list itself changed afterwards -/
abbrev endD (p : List Int × Int) : PyData := .tuple [intsD p.1, .int p.2]
def esP (K : PySem.W.Frag) (l : Addr) (ts S : List Addr) (m : Nat) : Hp → Hp → V → List Addr → Prop := fun F H v as => v = .ref l ∧ l ∈ as ∧ (∀ b ∈ S, b ∈ as) ∧ l ∉ S ∧ H l = some (.lst (ts.map .ref)) ∧ (∀ b ∈ S, ∃ xs, H b = some (.lst xs) ∧ xs.length ≤ m) ∧
  ∀ t ∈ ts, ∃ b k, b ∈ S ∧ SqT K F t [.ref b, .int k]
def pairS (K : PySem.W.Frag) (S : List Addr) : Pd := fun F v => ∃ t b k, v = .ref t ∧ SqT K F t [.ref b, .int k] ∧ b ∈ S
def anyI : Pd := fun _ v => ∃ k, v = .int k
/-- an owned thing of which nothing is known any more -/
def ownP : Hp → Hp → V → List Addr → Prop := fun _ _ _ _ => True
section
variable {K : PySem.W.Frag} {B F0 : Hp} {ρ ρ1 : List Sl} {te ta tb : TE} {d : PyData} {D : Ends} {u : TS} {N : L2.St → Hp → Prop} {l : Addr} {ts S : List Addr} {m : Nat}
theorem st_es : MStab (esP K l ts S m) := fun F F' H H' v as s e ⟨h1, h2, h3, h4, h5, h6, h7⟩ =>
  ⟨h1, h2, h3, h4, by rw [e l h2]; exact h5, fun b hb => by rw [e b (h3 b hb)]; exact h6 b hb, fun t ht => by obtain ⟨b, k, k1, k2⟩ := h7 t ht; exact ⟨b, k, k1, sqt_mono s k2⟩⟩
theorem st_ownP : MStab ownP := fun _ _ _ _ _ _ _ _ _ => trivial
theorem st_pairS : Stab (pairS K S) := fun F F' v s ⟨t, b, k, h1, h2, h3⟩ => ⟨t, b, k, h1, sqt_mono s h2, h3⟩
theorem st_anyI : Stab anyI := fun _ _ _ _ h => h
theorem ends_open {as : List Addr} {F H : Hp} (ha : ∀ a ∈ as, ∃ xs, H a = some (.lst xs)) : ∀ {xs : List V} {ps : List (List Int × Int)}, NwAll K B (ovH as F H) xs (ps.map endD) → (∀ p ∈ ps, p.1 ≠ [] ∧ p.1.length ≤ m) → ∃ ts S : List Addr, xs = ts.map .ref ∧ ts.length = ps.length ∧ (∀ b ∈ S, b ∈ as ∧ ∃ n ns, H b = some (.lst (V.int n :: ns)) ∧ ns.length + 1 ≤ m) ∧ ∀ t ∈ ts, ∃ b k, b ∈ S ∧ SqT K F t [.ref b, .int k]
  | _, [], h, _ => by cases h; exact ⟨[], [], rfl, rfl, fun b hb => (by cases hb), fun t ht => (by cases ht)⟩
  | _, p :: ps, h, hp => by
    cases h with
    | cons x r =>
      obtain ⟨ts, S, e, hl, k1, k2⟩ := ends_open ha r fun q hq => hp q (List.mem_cons_of_mem _ hq)
      obtain ⟨q1, q2⟩ := hp p (List.mem_cons_self ..)
      cases x with
      | @tup t ys _ h1 h2 =>
        cases h2 with
        | cons y1 y2 =>
          cases y2 with
          | cons y3 y4 =>
            cases y3
            cases y4
            cases y1 with
            | @lst b zs _ nb hb hz =>
              have ez := dpAll_ints (nwAll_dp hz)
              subst ez
              have hb2 : b ∈ as ∧ H b = some (.lst (p.1.map .int)) := by
                rcases ovH_cases hb with z | ⟨_, _, z⟩
                · exact z
                · cases z
              have st : SqT K F t [.ref b, .int p.2] := by
                rcases h1 with (h1 | ⟨o, h1⟩) | h1
                · rcases ovH_cases h1 with ⟨z1, z2⟩ | ⟨_, z, _⟩
                  · obtain ⟨xs, z3⟩ := ha t z1
                    rw [z2] at z3; cases z3
                  · exact .inl (.inl z)
                · rcases ovH_cases h1 with ⟨z1, z2⟩ | ⟨_, z, _⟩
                  · obtain ⟨xs, z3⟩ := ha t z1
                    rw [z2] at z3; cases z3
                  · exact .inl (.inr ⟨o, z⟩)
                · exact .inr h1
              refine ⟨t :: ts, b :: S, by rw [e]; rfl, by simp [hl], fun c hc => ?_, fun c hc => ?_⟩
              · rcases List.mem_cons.mp hc with rfl | hc
                · refine ⟨hb2.1, ?_⟩
                  cases z : p.1 with
                  | nil => exact absurd z q1
                  | cons n ns =>
                    rw [z] at hb2 q2
                    exact ⟨n, ns.map .int, hb2.2, by rw [List.length_map]; simpa using q2⟩
                · exact k1 c hc
              · rcases List.mem_cons.mp hc with rfl | hc
                · exact ⟨b, p.2, List.mem_cons_self .., st⟩
                · obtain ⟨b', k, j1, j2⟩ := k2 c hc
                  exact ⟨b', k, List.mem_cons_of_mem _ j1, j2⟩
theorem at_openE {ps : List (List Int × Int)} (i m : Nat) (hi : ρ[i]? = some (moD K B (.list (ps.map endD)))) (hp : ∀ p ∈ ps, p.1 ≠ [] ∧ p.1.length ≤ m) (k : ∀ l ts S, ts.length = ps.length → At B F0 N (ρ.set i (.mo (esP K l ts S m)))) : At B F0 N ρ := fun F H σ c => by
  obtain ⟨w, o⟩ := c.own
  obtain ⟨_, v, e1, hn, hl⟩ := o.sl i _ hi
  cases hn with
  | @lst l xs _ nb hx hal =>
    obtain ⟨ts, S, ex, tl, k1, k2⟩ := ends_open hl hal hp
    subst ex
    have hl2 : l ∈ w i ∧ H l = some (.lst (ts.map .ref)) := by
      rcases ovH_cases hx with z | ⟨_, _, z⟩
      · exact z
      · cases z
    have hlt : i < ρ.length := (List.getElem?_eq_some_iff.mp hi).1
    have off : l ∉ S := fun z => by
      obtain ⟨_, n, ns, k3, _⟩ := k1 l z
      rw [hl2.2] at k3
      cases ts with
      | nil => cases k3
      | cons t ts => cases k3
    refine k l ts S tl F H σ ⟨c.gr, by simp [c.len], w, o.dj, o.at_, fun j s hs => ?_⟩
    by_cases hj : j = i
    · subst hj
      rw [List.getElem?_set_self hlt] at hs
      cases hs
      exact ⟨st_es, _, e1, rfl, hl2.1, fun b hb => (k1 b hb).1, off, hl2.2, fun b hb => by obtain ⟨_, n, ns, k3, k4⟩ := k1 b hb; exact ⟨_, k3, by simpa using k4⟩, k2⟩
    · rw [List.getElem?_set_ne (fun e => hj e.symm)] at hs
      exact o.sl j s hs
theorem at_forE {i : Nat} {g : TG} {tb : TS} (Inv : List Addr → List Sl → Prop) (h0 : Inv [] ρ) (hI : ∀ pre ρ', Inv pre ρ' → ∃ m, ρ'[i]? = some (.mo (esP K l ts S m)))
    (hs : ∀ F1 pre t post ρ', ts = pre ++ t :: post → Inv pre ρ' → ∃ is ρ2, Bind B F1 g is (pairS K S) ρ' ρ2 ∧ At B F1 (tb { D with nx := Lp B F1 Inv (pre ++ [t]), ct := Lp B F1 Inv (pre ++ [t]), bk := D.nx }) ρ2)
    (hd : ∀ ρ', Inv ts ρ' → At B F0 D.nx ρ') : At B F0 (tFor (iList K (tVar i)) g tb D) ρ := fun F H σ c => by
  have upc : ∀ {F' H' : Hp} {σ : L2.St} {ρ : List Sl}, Cfg B F F' H' σ ρ → Cfg B F0 F' H' σ ρ := fun {F' H' σ ρ} c' =>
    ⟨⟨c.gr.f.trans c'.gr.f, c'.gr.h, c'.gr.i, fun a o h t e => c'.gr.n a o h t (c.gr.n a o h t e), fun a o e t => c.gr.t a o (c'.gr.t a o e t) t⟩, c'.len, c'.own⟩
  have cc : Cfg B F F H σ ρ := ⟨⟨Same.refl _, c.gr.h, c.gr.i, fun _ _ _ _ e => e, fun _ _ e _ => e⟩, c.len, c.own⟩
  obtain ⟨m, hm⟩ := hI _ _ h0
  obtain ⟨w, o⟩ := c.own
  obtain ⟨_, v, e1, rfl, _, _, _, h5, _⟩ := o.sl i _ hm
  refine ⟨_, e1, l, rfl, ⟨_, SqL.of h5⟩, fun k n σ H => n = ts.length - k ∧ k ≤ ts.length ∧ Lp B F Inv (ts.take k) σ H, ⟨ts.length, by simp, Nat.zero_le _, F, ρ, cc, h0⟩, ?_⟩
  rintro k n σ' H' ⟨rfl, hk, F', ρ', c', inv⟩
  obtain ⟨m', hm'⟩ := hI _ _ inv
  obtain ⟨w', o'⟩ := c'.own
  obtain ⟨_, v', e1', rfl, _, _, _, k5, _, k7⟩ := o'.sl i _ hm'
  by_cases hlt : k < ts.length
  · refine .inr ⟨⟨_, .ref ts[k], SqL.of k5, by rw [List.getElem?_map, List.getElem?_eq_getElem hlt]; rfl⟩, Lp B F Inv (ts.take (k + 1)), fun σ2 H2 l2 => ⟨ts.length - (k + 1), by omega, rfl, hlt, l2⟩, fun x H2 y => ?_⟩
    obtain ⟨rfl, y⟩ := y
    have hx := y _ (SqL.of k5)
    rw [List.getElem?_map, List.getElem?_eq_getElem hlt] at hx
    cases hx
    have ex : ts = ts.take k ++ ts[k] :: ts.drop (k + 1) := by
      rw [List.getElem_cons_drop, List.take_append_drop]
    obtain ⟨is, ρ2, b2, k2⟩ := hs F (ts.take k) ts[k] (ts.drop (k + 1)) ρ' ex inv
    have et : ts.take (k + 1) = ts.take k ++ [ts[k]] := by
      rw [List.take_succ, List.getElem?_eq_getElem hlt]; rfl
    rw [et]
    obtain ⟨b, kk, q1, q2⟩ := k7 _ (List.getElem_mem hlt)
    exact b2 F' _ σ' _ c' ⟨_, b, kk, rfl, q2, q1⟩ _ fun σ3 c3 _ => k2 F' _ σ3 c3
  · have ek : k = ts.length := by omega
    subst ek
    rw [List.take_length] at inv
    exact .inl ⟨⟨_, SqL.of k5, by rw [List.length_map]; exact Nat.le_refl _⟩, hd ρ' inv F' H' σ' (upc c')⟩
theorem q_forE {i : Nat} {g : TG} {tb : TS} (Inv : List Addr → List Sl → Prop) (h0 : Inv [] ρ) (hI : ∀ pre ρ', Inv pre ρ' → ∃ m, ρ'[i]? = some (.mo (esP K l ts S m)))
    (hs : ∀ F1 pre t post ρ', ts = pre ++ t :: post → Inv pre ρ' → ∃ is ρ2, Bind B F1 g is (pairS K S) ρ' ρ2 ∧ At B F1 (tb { D with nx := Lp B F1 Inv (pre ++ [t]), ct := Lp B F1 Inv (pre ++ [t]), bk := u D }) ρ2)
    (hd : ∀ ρ', Inv ts ρ' → At B F0 (u D) ρ') : At B F0 (tSeq (tFor (iList K (tVar i)) g tb) u D) ρ := at_forE (D := { D with nx := u D }) Inv h0 hI hs hd
theorem bind_pairS {a b : Nat} : Bind B F0 (gTup K 2 (gCons (gName a) (gCons (gName b) gNil))) [a, b] (pairS K S) ρ ((ρ.set a (.fz (inS S .none))).set b (.fz anyI)) := fun F H σ x c p Q q => by
  obtain ⟨t, z, k, rfl, h2, h3⟩ := p
  refine ⟨t, _, rfl, sqt_mono c.i h2, rfl, .ref z, [.int k], rfl, ?_⟩
  refine bind_name (st_inS (d := .none)) F H σ _ c ⟨z, h3, rfl⟩ _ fun σ1 c1 o1 => ⟨.int k, [], rfl, bind_name st_anyI F H σ1 _ c1 ⟨k, rfl⟩ _ fun σ2 c2 o2 => ⟨rfl, q σ2 c2 ⟨o2.1.trans o1.1, fun j hj => ?_⟩⟩⟩
  rw [o2.2 j fun z => hj (by simp at z; simp [z]), o1.2 j fun z => hj (by simp at z; simp [z])]
theorem evx_esApp {i j : Nat} {f : Pd} (hi : ρ[i]? = some (.mo (esP K l ts S m))) (hj : ρ[j]? = some (.fz (inS S d))) (ha : Ev B F0 ρ ta f) (hz : m < 100000) :
    EvX B F0 ρ (tBM K "list" rAppend (tVar j) (tCons ta tNil)) (ρ.set i (.mo (esP K l ts S (m + 1)))) (nwd K B .none) := fun F H σ c Q q => by
  obtain ⟨w, o⟩ := c.own
  obtain ⟨_, v, e1, rfl, _, _, h4, _, h6, _⟩ := o.sl i _ hi
  obtain ⟨_, v2, e2, b, hb, rfl⟩ := o.sl j _ hj
  obtain ⟨xs, hbx, hbl⟩ := h6 b hb
  refine ⟨_, e2, .inl ⟨rfl, _, SqL.of hbx⟩, ha F H σ c _ fun y F2 H2 g p => ⟨b, xs, y, rfl, rfl, g.h _ _ hbx, sz_lt (by omega), ?_⟩⟩
  have c2 := (c.go g).chg (H' := upd H2 b (.lst (xs ++ [y]))) hi (st_es (l := l) (ts := ts) (S := S) (m := m + 1)) fun v' as ev mm n => by
    obtain ⟨m1, m2, m3, m4, m5, m6, m7⟩ := mm
    refine ⟨⟨m1, m2, m3, m4, by rw [upd_ne (fun z => m4 (by rw [z]; exact hb))]; exact m5, fun a ha => ?_, m7⟩, fun a ha => upd_ne fun z => ha (by rw [z]; exact m3 b hb), fun a ha => ?_⟩
    · by_cases ab : a = b
      · rw [ab]; exact ⟨_, upd_same, by rw [List.length_append, List.length_singleton]; omega⟩
      · rw [upd_ne ab]; obtain ⟨zs, z1, z2⟩ := m6 a ha; exact ⟨zs, z1, by omega⟩
    · by_cases ab : a = b
      · rw [ab]; exact ⟨_, upd_same, rfl⟩
      · rw [upd_ne ab]; obtain ⟨_, _, q⟩ := n a ha; exact q
  exact q _ F2 _ c2 .non
theorem evx_esOut {i : Nat} {f : Pd} (hi : ρ[i]? = some (.mo (esP K l ts S m))) (ha : Ev B F0 ρ ta f) (hz : ts.length < 100000) :
    EvX B F0 ρ (tBM K "list" rAppend (tVar i) (tCons ta tNil)) (ρ.set i (.mo ownP)) (nwd K B .none) := fun F H σ c Q q => by
  obtain ⟨w, o⟩ := c.own
  obtain ⟨_, v, e1, rfl, _, _, _, h5, _⟩ := o.sl i _ hi
  refine ⟨_, e1, .inl ⟨rfl, _, SqL.of h5⟩, ha F H σ c _ fun y F2 H2 g p => ⟨l, _, y, rfl, rfl, g.h _ _ h5, sz_lt (by rw [List.length_map]; omega), ?_⟩⟩
  have c2 := (c.go g).chg (H' := upd H2 l (.lst (ts.map .ref ++ [y]))) hi st_ownP fun v' as ev mm n => by
    obtain ⟨m1, m2, _⟩ := mm
    refine ⟨trivial, fun a ha => upd_ne fun z => ha (by rw [z]; exact m2), fun a ha => ?_⟩
    by_cases ab : a = l
    · rw [ab]; exact ⟨_, upd_same, rfl⟩
    · rw [upd_ne ab]; obtain ⟨_, _, q⟩ := n a ha; exact q
  exact q _ F2 _ c2 .non
end
end Lay
namespace Lay
open PySem L2 PySem.Spec PyProof.Rows
def top (i : Nat) : Stmt := PySem.Challenge.pw_onewaytown_k07_whole_rounds.main.body.getD i (.Pass ⟨0, 0, 0, 0⟩)
/-! short tactics: ev goes through a reading's parts as far as it can; bd binds a target -/
local macro_rules | `(tactic| walk_at "ev1") => `(tactic| first
  | with_reducible exact ev_int
  | with_reducible exact ev_bl
  | with_reducible exact ev_str
  | with_reducible exact ev_non
  | with_reducible refine' ev_var (by with_unfolding_all rfl)
  | with_reducible refine' evh_var (by with_unfolding_all rfl) (by first | exact rd_sn | exact rd_sa | exact rd_ml | exact rd_tab | exact rd_moD)
  | with_reducible refine' EvH.nw (evh_var (by with_unfolding_all rfl) (by first | exact rd_sn | exact rd_sa | exact rd_ml | exact rd_tab | exact rd_moD)) (by with_unfolding_all rfl)
  | with_reducible refine' evh_md (by with_unfolding_all rfl)
  | with_reducible refine' ev_ii ?_ ?_ (by rfl)
  | with_reducible refine' ev_ib ?_ ?_ (by rfl)
  | with_reducible refine' ev_ci ?_ ?_ ?_ (by rfl)
  | with_reducible refine' ev_call (α := Int × Int × Int × Int) (_, _, _, _) ?_ ?_
  | with_reducible refine' ev_call (α := Int × Int × Int) (_, _, _) ?_ ?_
  | with_reducible refine' ev_call (α := Int × Int) (_, _) ?_ ?_
  | with_reducible refine' ev_call (α := Int) _ ?_ ?_
  | with_reducible refine' ev_call (α := List Int) _ ?_ ?_
  | with_reducible refine' ev_min2 ?_ ?_
  | with_reducible refine' ev_max2 ?_ ?_
  | with_reducible refine' ev_lenL ?_
  | with_reducible refine' ev_eqI ?_ ?_
  | with_reducible refine' ev_neI ?_ ?_
  | with_reducible refine' ev_notV ?_
  | with_reducible refine' ev_neNil ?_ ?_
  | with_reducible refine' ev_eqNil ?_ ?_
  | with_reducible exact ok60_ints
  | with_reducible exact ok60_pairs
  | with_reducible exact ok60_rows
  | with_reducible exact ok60_intss
  | with_reducible refine' ev_tup ?_ (by simp)
  | with_reducible exact eas_nil
  | with_reducible refine' eas_cons ?_ ?_
  | with_reducible exact ea_nil
  | with_reducible refine' ea_cons st_dat ?_ ?_
  | with_reducible refine' et_B (K := by assumption) ?_
  | with_reducible refine' et_test (K := by assumption) ?_
  | with_reducible refine' et_not ?_
  | with_reducible refine' evj_enumX ?_
  | with_reducible refine' EvM.nw ?_
  | with_reducible refine' evm_lst ?_ (by simp)
  | with_reducible refine' Ev.hd ?_)
local macro_rules | `(tactic| walk_at "ev") => `(tactic| repeat' walk_at "ev1")
local macro_rules | `(tactic| walk_at "bd1") => `(tactic| first
  | with_reducible exact bind_name st_nwd
  | with_reducible exact bind_name st_dat
  | with_reducible exact bindl_nil
  | with_reducible refine' bindl_cons ?_ ?_
  | with_reducible refine' bind_tup ?_ (by with_unfolding_all rfl))
local macro_rules | `(tactic| walk_at "bd") => `(tactic| repeat' walk_at "bd1")
/-- side goals of numbers -/
local macro_rules | `(tactic| walk_at "num") => `(tactic| first | (show (0 : Int) < _; decide) | (show (0 : Int) < _; omega) | (unfold CMul; (try dsimp only); omega) | (unfold CDiv; (try dsimp only); omega) | (dsimp only; omega) | omega | trivial)
/-- the reading's start -/
local macro_rules | `(tactic| walk_at "go") => `(tactic| try dsimp only [cxOf, Cx.nox, Cx.wish])

abbrev s_w_mixed : Stmt := top 42
theorem sc_w_mixed : FnScope ["_law_cell", "_law_k"] ["_law_cell", "_law_k"] (defScope s_w_mixed) := ⟨rfl, rfl, rfl, by decide +kernel, rfl, by decide +kernel, by decide +kernel⟩
def mixedF (c k : Int) : Int := (c * (48271 + 2 * k * k) + 69621 * k + 11) % 2147483647 * 69621 % 2147483629
abbrev spMixed (K : PySem.W.Frag) : Sp := Fp K (fun x : Int × Int => 0 ≤ x.2 ∧ x.2 ≤ 100000) (fun x => [dat K (.int x.1), dat K (.int x.2)]) (fun x => .int (mixedF x.1 x.2))
theorem sq_small {k : Int} (h1 : 0 ≤ k) (h2 : k ≤ 100000) : 0 ≤ 2 * k * k ∧ 2 * k * k ≤ 20000000000 := by
  have e : 2 * k * k = 2 * (k * k) := Int.mul_assoc 2 k k
  have a : 0 ≤ k * k := Int.mul_nonneg h1 h1
  have b : k * k ≤ 100000 * 100000 := Int.mul_le_mul h2 h2 h1 (by decide)
  omega
theorem mixedF_pos (c k : Int) : 0 ≤ mixedF c k := Int.emod_nonneg _ (by decide)
theorem mixedF_lt (c k : Int) : mixedF c k < 2147483629 := Int.emod_lt_of_pos _ (by decide)
section
variable {P : Program} {w : World} {K : PySem.W.Frag} {mg : Str → Option Value} {base : Heap}
theorem ok_mixed (D : Dfn K mg "_law_mixed" "_law_mixed" s_w_mixed ["_law_cell", "_law_k"]) : Ok P w K mg base CX0 1 "_law_mixed" ["_law_cell", "_law_k"] (spMixed K) := by
  refine fp_ok D sc_w_mixed (by decide) (fun _ => rfl) (fun _ => stabC st_dat (stab1 st_dat)) (fun f cdv A outer s H E hr => ⟨_, (pss_one (ps_ret (pe_op op_mod (pe_op op_mul (pe_op op_mod (pe_op op_add (pe_op op_add (pe_op op_mul (pv 0) (pe_op op_add pe_int (pe_op op_mul (pe_op op_mul pe_int (pv 1)) (pv 1)))) (pe_op op_mul pe_int (pv 1))) pe_int) pe_int) pe_int) pe_int))), ?_⟩)
  rintro ⟨c, k⟩ ⟨h1, h2⟩ Q q
  dsimp only at h1 h2
  have hk := sq_small h1 h2
  refine' at_ret (d := .int (mixedF c k)) (ev_is (d := _) ?h ?e) q
  case h => walk_at "ev" <;> first | (show (0 : Int) < _; decide) | (unfold CMul; dsimp only; omega)
  case e => rfl
end

abbrev s_w_seed : Stmt := top 43
theorem sc_w_seed : FnScope ["_law_script", "_law_found", "_law_k", "_law_cell"] ["_law_script"] (defScope s_w_seed) := ⟨rfl, rfl, rfl, by decide +kernel, rfl, by decide +kernel, by decide +kernel⟩
def seedStep (a : Int) (p : Int × Nat) : Int := (a * 999983 + mixedF p.1 ((p.2 : Int) % 60)) % 2147483629
def seedF (ns : List Int) : Int := ns.zipIdx.foldl seedStep 7
abbrev spSeed (K : PySem.W.Frag) : Sp := Fp K (fun _ : List Int => True) (fun ns => [dat K (.list (ns.map .int))]) (fun ns => .int (seedF ns))
section
variable {P : Program} {w : World} {K : PySem.W.Frag} {mg : Str → Option Value} {base : Heap}
theorem ok_seed (Z : Zs mg) (G_w_mixed : Ok P w K mg base CX0 1 "_law_mixed" ["_law_cell", "_law_k"] (spMixed K)) (D : Dfn K mg "_law_seed" "_law_seed" s_w_seed ["_law_script"]) : Ok P w K mg base CX0 2 "_law_seed" ["_law_script"] (spSeed K) := by
  refine fp_ok D sc_w_seed (by decide) (fun _ => rfl) (fun _ => stab1 st_dat) (fun f cdv A outer s H E hr => ⟨_, (pss_cons (ps_set (i := 1) sc_w_seed.nd rfl (Or.inl rfl) pe_int)
    (pss_cons (ps_for PassesOwn.never rfl (pi_enum rfl Z.enumerate (pa_cons (pv 0) pa_nil)) (kpg_tup K 2 rfl (pgs_cons (pg_name (i := 2) sc_w_seed.nd rfl (Or.inl rfl)) (pgs_cons (pg_name (i := 3) sc_w_seed.nd rfl (Or.inl rfl)) pgs_nil)))
      (pss_one (ps_set (i := 1) sc_w_seed.nd rfl (Or.inl rfl) (pe_op op_mod (pe_op op_add (pe_op op_mul (pv 1) pe_int) (ok_call G_w_mixed (by exact hr.mono (by decide)) rfl (pa_cons (pv 3) (pa_cons (pe_op op_mod (pv 2) pe_int) pa_nil)))) pe_int))))
    (pss_one (ps_ret (pv 1))))), ?_⟩)
  rintro ns - Q q
  walk_at "go"
  refine' q_set K ?h0 (q_for (xs := ns.zipIdx) (e := fun p => .tuple [.int (p.2 : Int), .int p.1]) (EvJ.i (evj_enumXF ?h1 fun _ => rfl)) (fun pre ρ' => ∃ s1 s2, ρ' = [sa K (.list (ns.map .int)), sn K H (.int (pre.foldl seedStep 7)), s1, s2]) ?h2 ?h3 ?h4)
  case h0 => walk_at "ev"
  case h1 => walk_at "ev"
  case h2 => exact ⟨_, _, rfl⟩
  case h3 =>
    rintro F1 pre ⟨c, k⟩ post ρ' - ⟨s1, s2, rfl⟩
    refine' ⟨_, _, (by walk_at "bd"), ?_⟩
    refine' at_set (K := K) (ev_is (d := _) ?g1 ?g2) (at_lpD ?g3)
    case g1 => walk_at "ev" <;> walk_at "num"
    case g2 => exact (rfl : _ = PyData.int (seedStep (pre.foldl seedStep 7) (c, k)))
    case g3 => exact ⟨_, _, by rw [List.foldl_append] <;> rfl⟩
  case h4 =>
    rintro ρ' ⟨s1, s2, rfl⟩
    refine' at_ret (d := .int (seedF ns)) ?_ q
    walk_at "ev"
end

abbrev s_w_many : Stmt := top 46
theorem sc_w_many : FnScope ["_law_seed_here", "_law_most"] ["_law_seed_here", "_law_most"] (defScope s_w_many) := ⟨rfl, rfl, rfl, by decide +kernel, rfl, by decide +kernel, by decide +kernel⟩
def manyL : List Int := [1, 2, 3, 4, 5, 6, 7, 9, 12, 16]
def manyF (s most : Int) : Int := min most (manyL.getD (mixedF s 60 % 10).toNat 1)
theorem manyL_at {i : Int} (h1 : 0 ≤ i) (h2 : i < 10) : atI manyL i = some (manyL.getD i.toNat 1) := by
  refine atI_nn h1 ?_
  have h3 : i.toNat < manyL.length := by show i.toNat < 10; omega
  rw [List.getElem?_eq_getElem h3, List.getD_eq_getElem?_getD, List.getElem?_eq_getElem h3]
  rfl
theorem manyL_rng {n : Nat} : 1 ≤ manyL.getD n 1 ∧ manyL.getD n 1 ≤ 16 := by
  by_cases h : n < 10
  · have : ∀ m : Fin 10, 1 ≤ manyL.getD m.1 1 ∧ manyL.getD m.1 1 ≤ 16 := by decide
    exact this ⟨n, h⟩
  · have : manyL.getD n 1 = 1 := by
      rw [List.getD_eq_getElem?_getD, List.getElem?_eq_none (by show 10 ≤ n; omega)]
      rfl
    omega
abbrev spMany (K : PySem.W.Frag) : Sp := Fp K (fun _ : Int × Int => True) (fun x => [dat K (.int x.1), dat K (.int x.2)]) (fun x => .int (manyF x.1 x.2))
section
variable {P : Program} {w : World} {K : PySem.W.Frag} {mg : Str → Option Value} {base : Heap}
theorem ok_many (Z : Zs mg) (G_w_mixed : Ok P w K mg base CX0 1 "_law_mixed" ["_law_cell", "_law_k"] (spMixed K)) (D : Dfn K mg "_law_many" "_law_many" s_w_many ["_law_seed_here", "_law_most"]) : Ok P w K mg base CX0 2 "_law_many" ["_law_seed_here", "_law_most"] (spMany K) := by
  refine fp_ok D sc_w_many (by decide) (fun _ => rfl) (fun _ => stabC st_dat (stab1 st_dat)) (fun f cdv A outer s H E hr => ⟨_, (pss_one (ps_ret (pe_callB (call_min2 rfl) (by rfl) Z.min (by decide +kernel) (pa_cons (pv 1) (pa_cons (pe_ix (kix_list K) (pe_lst (pa_cons pe_int (pa_cons pe_int (pa_cons pe_int (pa_cons pe_int (pa_cons pe_int (pa_cons pe_int (pa_cons pe_int (pa_cons pe_int (pa_cons pe_int (pa_cons pe_int pa_nil))))))))))) (pe_op op_mod (ok_call G_w_mixed (by exact hr.mono (by decide)) rfl (pa_cons (pv 0) (pa_cons pe_int pa_nil))) pe_int) (fun _ _ => rfl)) pa_nil))))), ?_⟩)
  rintro ⟨sd, most⟩ - Q q
  walk_at "go"
  refine' at_ret (d := .int (manyF sd most)) ?_ q
  have e : atI (manyL.map PyData.int) (mixedF sd 60 % 10) = some (.int (manyL.getD (mixedF sd 60 % 10).toNat 1)) := atI_map _ (manyL_at (Int.emod_nonneg _ (by decide)) (Int.emod_lt_of_pos _ (by decide)))
  refine' ev_min2 (a := most) (b := manyL.getD (mixedF sd 60 % 10).toNat 1) ?_ (Ev.hd (ev_pick (ds := [.int 1, .int 2, .int 3, .int 4, .int 5, .int 6, .int 7, .int 9, .int 12, .int 16]) ?_ (by decide) ?_ e))
  all_goals walk_at "ev"
  all_goals walk_at "num"
end

abbrev s_w_ends : Stmt := top 44
theorem sc_w_ends : FnScope ["_law_many_here", "_law_way", "_law_k", "_law_number", "_law_one", "_law_other", "_law_same", "_law_place"] ["_law_many_here", "_law_way", "_law_k", "_law_number"] (defScope s_w_ends) := ⟨rfl, rfl, rfl, by decide +kernel, rfl, by decide +kernel, by decide +kernel⟩
def rangeI (n : Int) : List Int := (List.range n.toNat).map fun i : Nat => 0 + (i : Int)
theorem rangeD_eq (n : Int) : rangeD 0 n.toNat = (rangeI n).map PyData.int := by
  unfold rangeD rangeI
  rw [List.map_map]
  rfl
theorem mem_rangeI {n x : Int} : x ∈ rangeI n ↔ 0 ≤ x ∧ x < n := by
  unfold rangeI
  rw [List.mem_map]
  constructor
  · rintro ⟨i, hi, rfl⟩
    rw [List.mem_range] at hi
    omega
  · intro h
    exact ⟨x.toNat, List.mem_range.mpr (by omega), by omega⟩
theorem rangeI_len (n : Int) : (rangeI n).length = n.toNat := by simp [rangeI]
def sameF (n one : Int) : List Int := (rangeI n).filter fun p => decide (p % 2 = one % 2) && !decide (p = one)
def endsF (n way k m : Int) : Int × Int :=
  if way = 1 ∧ k + 1 < n then (k + 1, m % (k + 1))
  else if way = 2 then (if (sameF n (m % n)).isEmpty then (m % n, (m % n + 1 + m / 20 % (n - 1)) % n) else (m % n, (sameF n (m % n)).getD (m / 20 % ((sameF n (m % n)).length : Int)).toNat 0))
  else if way = 3 then (m % n, (m % n + 1 + m / 20 % 2 * (n - 2)) % n)
  else (m % n, (m % n + 1 + m / 20 % (n - 1)) % n)
abbrev spEnds (K : PySem.W.Frag) : Sp := Fp K (fun x : Int × Int × Int × Int => 2 ≤ x.1 ∧ x.1 ≤ 16 ∧ 0 ≤ x.2.2.1 ∧ x.2.2.1 ≤ 100000) (fun x => [dat K (.int x.1), dat K (.int x.2.1), dat K (.int x.2.2.1), dat K (.int x.2.2.2)]) (fun x => pairD (endsF x.1 x.2.1 x.2.2.1 x.2.2.2))
section
variable {P : Program} {w : World} {K : PySem.W.Frag} {mg : Str → Option Value} {base : Heap}
theorem ok_ends (Z : Zs mg) (D : Dfn K mg "_law_ends" "_law_ends" s_w_ends ["_law_many_here", "_law_way", "_law_k", "_law_number"]) : Ok P w K mg base CX0 1 "_law_ends" ["_law_many_here", "_law_way", "_law_k", "_law_number"] (spEnds K) := by
  refine fp_ok D sc_w_ends (by decide) (fun _ => rfl) (fun _ => stabC st_dat (stabC st_dat (stabC st_dat (stab1 st_dat)))) (fun f cdv A outer s H E hr => ⟨_, (pss_cons (ps_set (i := 4) sc_w_ends.nd rfl (Or.inr rfl) (pe_op op_mod (pv 3) (pv 0)))
    (pss_cons (ps_set (i := 5) sc_w_ends.nd rfl (Or.inl rfl) (pe_op op_mod (pe_op op_add (pe_op op_add (pv 4) pe_int) (pe_op op_mod (pe_op op_fdiv (pv 3) pe_int) (pe_op op_sub (pv 0) pe_int))) (pv 0)))
    (pss_cons (ps_if (PW.pt (pw_and (pt_cmpR op_eq (pv 1) pe_int (nomark _)) (pw_and1 (pt_cmpR op_lt (pe_op op_add (pv 2) pe_int) (pv 0) (nomark _))))) (pss_one (ps_ret (pe_tup (pa_cons (pe_op op_add (pv 2) pe_int) (pa_cons (pe_op op_mod (pv 3) (pe_op op_add (pv 2) pe_int)) pa_nil))))) pss_nil)
    (pss_cons (ps_if (pt_cmpR op_eq (pv 1) pe_int (nomark _)) (pss_cons (ps_setLc (i := 6) (own := [("_law_place", 7)]) rfl sc_w_ends.nd rfl rfl (sw_true rfl rfl rfl (by decide +kernel)) (pi_range1 rfl Z.range (pa_cons (pv 0) pa_nil)) (blkOk_by (by dsimp only [cxOf, Cx.nox, Cx.wish, Cx.blk, compEnvC, envOfC]; (try (rw [relabel_eq]; dsimp only)); decide +kernel)) (fun _ _ _ _ _ => (pg_name (i := 7) sc_w_ends.nd rfl (Or.inl rfl))) (fun _ _ _ _ _ => (pts_one (PW.pt (pw_and (pt_cmpR op_eq (pe_op op_mod (pv 7) pe_int) (pe_op op_mod (pv 4) pe_int) (nomark _)) (pw_and1 (pt_cmpR op_ne (pv 7) (pv 4) (nomark _))))))) (fun _ _ _ _ _ => (pv 7)))
    (pss_one (ps_ret (pe_ifExp (pt_cmpR (kop_neD K (by exact hr.units)) (pv 6) (pe_lst pa_nil) (nomark _)) (pe_tup (pa_cons (pv 4) (pa_cons (pe_ix (kix_list K) (pv 6) (pe_op op_mod (pe_op op_fdiv (pv 3) pe_int) (pe_callB (kcall_len_seq K) (by rfl) Z.len PySem.boot_len (pa_cons (pv 6) pa_nil))) (fun _ _ => rfl)) pa_nil))) (pe_tup (pa_cons (pv 4) (pa_cons (pv 5) pa_nil))))))) pss_nil)
    (pss_cons (ps_if (pt_cmpR op_eq (pv 1) pe_int (nomark _)) (pss_one (ps_ret (pe_tup (pa_cons (pv 4) (pa_cons (pe_op op_mod (pe_op op_add (pe_op op_add (pv 4) pe_int) (pe_op op_mul (pe_op op_mod (pe_op op_fdiv (pv 3) pe_int) pe_int) (pe_op op_sub (pv 0) pe_int))) (pv 0)) pa_nil))))) pss_nil)
    (pss_one (ps_ret (pe_tup (pa_cons (pv 4) (pa_cons (pv 5) pa_nil)))))))))), ?_⟩)
  rintro ⟨n, way, k, m⟩ ⟨h1, h2, h3, h4⟩ Q q
  dsimp only at h1 h2 h3 h4
  walk_at "go"
  refine' q_set K ?a1 (q_set K ?a2 ?a3)
  case a1 => walk_at "ev" <;> walk_at "num"
  case a2 => walk_at "ev" <;> walk_at "num"
  refine q_when (c := decide (way = 1) && decide (k + 1 < n)) (et_and ?b1 fun _ => ?b2) (fun c1 => ?b3) (fun c1 => ?b4)
  case b1 => walk_at "ev"
  case b2 => walk_at "ev"
  case b3 =>
    have c2 : way = 1 ∧ k + 1 < n := by simpa using c1
    have e : endsF n way k m = (k + 1, m % (k + 1)) := by unfold endsF; rw [if_pos c2]
    rw [e] at q
    refine' at_ret (d := pairD (k + 1, m % (k + 1))) ?_ q
    walk_at "ev" <;> walk_at "num"
  case b4 =>
  have c2 : ¬ (way = 1 ∧ k + 1 < n) := by simpa using c1
  refine q_when (c := decide (way = 2)) ?d1 (fun c3 => ?d2) (fun c3 => ?d3)
  case d1 => walk_at "ev"
  case d2 =>
    have c4 : way = 2 := by simpa using c3
    refine' q_setM K (evm_lc (xs := rangeI n) (e := PyData.int) (q := nwd K H) (fun p => decide (p % 2 = m % n % 2) && !decide (p = m % n)) PyData.int ?r1 ?r2 ?r3) ?r4
    case r1 =>
      rw [← rangeD_eq]
      refine evj_range1 ?_ (by omega)
      walk_at "ev"
    case r2 =>
      intro F1 x hx
      refine' ⟨_, _, (by walk_at "bd"), (by decide), et_and ?t1 fun _ => ?t2, fun _ => ?t3⟩
      case t1 => walk_at "ev" <;> walk_at "num"
      case t2 => walk_at "ev"
      case t3 => walk_at "ev"
    case r3 => rw [rangeI_len]; omega
    have es : ((rangeI n).filter fun p => decide (p % 2 = m % n % 2) && !decide (p = m % n)) = sameF n (m % n) := rfl
    rw [es]
    have hl : (sameF n (m % n)).length ≤ 16 := by
      have h := List.length_filter_le (fun p => decide (p % 2 = m % n % 2) && !decide (p = m % n)) (rangeI n)
      rw [rangeI_len, es] at h
      omega
    refine' at_ret (d := pairD (endsF n way k m)) (ev_if (c := !(sameF n (m % n)).isEmpty) ?u0 (fun c5 => ?u1) (fun c5 => ?u2)) q
    case u0 =>
      have e : (!(sameF n (m % n)).isEmpty) = (!((sameF n (m % n)).map PyData.int).isEmpty) := by simp
      rw [e]
      walk_at "ev"
    case u1 =>
      have c6 : ¬ (sameF n (m % n)).isEmpty = true := by simpa using c5
      have hp : 0 < (sameF n (m % n)).length := by
        cases hz : sameF n (m % n) with
        | nil => rw [hz] at c6; exact absurd rfl c6
        | cons a r => simp
      have e : endsF n way k m = (m % n, (sameF n (m % n)).getD (m / 20 % ((sameF n (m % n)).length : Int)).toNat 0) := by
        unfold endsF
        rw [if_neg c2, if_pos c4, if_neg c6]
      rw [e]
      have e2 : atI ((sameF n (m % n)).map PyData.int) (m / 20 % (((sameF n (m % n)).map PyData.int).length : Int)) = some (.int ((sameF n (m % n)).getD (m / 20 % ((sameF n (m % n)).length : Int)).toNat 0)) := by
        rw [List.length_map]
        have g1 : 0 ≤ m / 20 % ((sameF n (m % n)).length : Int) := Int.emod_nonneg _ (by omega)
        have g2 : m / 20 % ((sameF n (m % n)).length : Int) < ((sameF n (m % n)).length : Int) := Int.emod_lt_of_pos _ (by omega)
        refine atI_map _ (atI_nn g1 ?_)
        rw [List.getD_eq_getElem?_getD, List.getElem?_eq_getElem (by omega)]
        rfl
      refine' ev_tup (eas_cons ?w1 (eas_cons (ev_ixF ?w2 ?w3 e2 rfl) eas_nil)) (by simp)
      case w1 => walk_at "ev"
      case w2 => walk_at "ev"
      case w3 => walk_at "ev" <;> first | (show (0 : Int) < _; rw [List.length_map]; omega) | walk_at "num"
    case u2 =>
      have c6 : (sameF n (m % n)).isEmpty = true := by simpa using c5
      have e : endsF n way k m = (m % n, (m % n + 1 + m / 20 % (n - 1)) % n) := by
        unfold endsF
        rw [if_neg c2, if_pos c4, if_pos c6]
      rw [e]
      walk_at "ev"
  case d3 =>
    have c4 : ¬ way = 2 := by simpa using c3
    refine q_when (c := decide (way = 3)) ?f1 (fun c5 => ?f2) (fun c5 => ?f3)
    case f1 => walk_at "ev"
    case f2 =>
      have c6 : way = 3 := by simpa using c5
      have e : endsF n way k m = (m % n, (m % n + 1 + m / 20 % 2 * (n - 2)) % n) := by
        unfold endsF
        rw [if_neg c2, if_neg c4, if_pos c6]
      rw [e] at q
      refine' at_ret ?_ q
      walk_at "ev" <;> walk_at "num"
    case f3 =>
      have c6 : ¬ way = 3 := by simpa using c5
      have e : endsF n way k m = (m % n, (m % n + 1 + m / 20 % (n - 1)) % n) := by
        unfold endsF
        rw [if_neg c2, if_neg c4, if_neg c6]
      rw [e] at q
      refine' at_ret ?_ q
      walk_at "ev"
end

abbrev s_w_pairs : Stmt := top 45
theorem sc_w_pairs : FnScope ["_law_script", "_law_seed_here", "_law_many_here", "_law_most", "_law_way", "_law_far", "_law_found", "_law_k", "_law_cell"] ["_law_script", "_law_seed_here", "_law_many_here", "_law_most"] (defScope s_w_pairs) := ⟨rfl, rfl, rfl, by decide +kernel, rfl, by decide +kernel, by decide +kernel⟩
def farF (sd n most : Int) : Int := [n, n + 3, most, 2 * n].getD (mixedF sd 2 % 4).toNat 0
def pairsF (script : List Int) (sd n most : Int) : List (Int × Int) :=
  if n = 1 then [] else (script.take (min (farF sd n most) most).toNat).zipIdx.map fun p => endsF n (mixedF sd 1 % 5) (p.2 : Int) (mixedF p.1 (3 + (p.2 : Int) % 50))
abbrev spPairs (K : PySem.W.Frag) : Sp := Fp K (fun x : List Int × Int × Int × Int => x.1.length ≤ 63 ∧ 1 ≤ x.2.2.1 ∧ x.2.2.1 ≤ 16 ∧ 0 ≤ x.2.2.2 ∧ x.2.2.2 ≤ 60) (fun x => [dat K (intsD x.1), dat K (.int x.2.1), dat K (.int x.2.2.1), dat K (.int x.2.2.2)]) (fun x => .list ((pairsF x.1 x.2.1 x.2.2.1 x.2.2.2).map pairD))
section
variable {P : Program} {w : World} {K : PySem.W.Frag} {mg : Str → Option Value} {base : Heap}
theorem ok_pairs (Z : Zs mg) (G_w_mixed : Ok P w K mg base CX0 1 "_law_mixed" ["_law_cell", "_law_k"] (spMixed K)) (G_w_ends : Ok P w K mg base CX0 1 "_law_ends" ["_law_many_here", "_law_way", "_law_k", "_law_number"] (spEnds K)) (D : Dfn K mg "_law_pairs" "_law_pairs" s_w_pairs ["_law_script", "_law_seed_here", "_law_many_here", "_law_most"]) : Ok P w K mg base CX0 2 "_law_pairs" ["_law_script", "_law_seed_here", "_law_many_here", "_law_most"] (spPairs K) := by
  refine fp_ok D sc_w_pairs (by decide) (fun _ => rfl) (fun _ => stabC st_dat (stabC st_dat (stabC st_dat (stab1 st_dat)))) (fun f cdv A outer s H E hr => ⟨_, (pss_cons (ps_if (pt_cmpR op_eq (pv 2) pe_int (nomark _)) (pss_one (ps_ret (pe_lst pa_nil))) pss_nil)
    (pss_cons (ps_set (i := 4) sc_w_pairs.nd rfl (Or.inl rfl) (pe_op op_mod (ok_call G_w_mixed (by exact hr.mono (by decide)) rfl (pa_cons (pv 1) (pa_cons pe_int pa_nil))) pe_int))
    (pss_cons (ps_set (i := 5) sc_w_pairs.nd rfl (Or.inl rfl) (pe_ix (kix_list K) (pe_lst (pa_cons (pv 2) (pa_cons (pe_op op_add (pv 2) pe_int) (pa_cons (pv 3) (pa_cons (pe_op op_mul pe_int (pv 2)) pa_nil))))) (pe_op op_mod (ok_call G_w_mixed (by exact hr.mono (by decide)) rfl (pa_cons (pv 1) (pa_cons pe_int pa_nil))) pe_int) (fun _ _ => rfl)))
    (pss_cons (ps_set (i := 6) sc_w_pairs.nd rfl (Or.inl rfl) (pe_lst pa_nil))
    (pss_cons (ps_for PassesOwn.never rfl (pi_enum rfl Z.enumerate (pa_cons (pe_slice (ksl_list K) (pv 0) po_none (po_some (pe_callB (call_min2 rfl) (by rfl) Z.min (by decide +kernel) (pa_cons (pv 5) (pa_cons (pv 3) pa_nil))))) pa_nil)) (kpg_tup K 2 rfl (pgs_cons (pg_name (i := 7) sc_w_pairs.nd rfl (Or.inl rfl)) (pgs_cons (pg_name (i := 8) sc_w_pairs.nd rfl (Or.inl rfl)) pgs_nil)))
      (pss_one (ps_expr (pe_bm PySem.F.plainAttrs_list PySem.F.slot_list_append PySem.F.type_list_append mt_append (pv 6) (pa_cons (ok_call G_w_ends (by exact hr.mono (by decide)) rfl (pa_cons (pv 2) (pa_cons (pv 4) (pa_cons (pv 7) (pa_cons (ok_call G_w_mixed (by exact hr.mono (by decide)) rfl (pa_cons (pv 8) (pa_cons (pe_op op_add pe_int (pe_op op_mod (pv 7) pe_int)) pa_nil))) pa_nil))))) pa_nil)))))
    (pss_one (ps_ret (pv 6)))))))), ?_⟩)
  rintro ⟨script, sd, n, most⟩ ⟨h0, h1, h2, h3, h4⟩ Q q
  dsimp only at h0 h1 h2 h3 h4
  walk_at "go"
  refine q_when (c := decide (n = 1)) ?a1 (fun c1 => ?a2) (fun c1 => ?a3)
  case a1 => walk_at "ev"
  case a2 =>
    have c2 : n = 1 := by simpa using c1
    have e : pairsF script sd n most = [] := by unfold pairsF; rw [if_pos c2]
    rw [e] at q
    refine' at_ret (d := .list []) ?_ q
    walk_at "ev"
  case a3 =>
  have c2 : ¬ n = 1 := by simpa using c1
  have m0 := Int.emod_nonneg (mixedF sd 2) (show (4 : Int) ≠ 0 by decide)
  have m1 := Int.emod_lt_of_pos (mixedF sd 2) (show (0 : Int) < 4 by decide)
  have ef : atI (List.map PyData.int [n, n + 3, most, 2 * n]) (mixedF sd 2 % 4) = some (.int (farF sd n most)) := by
    refine atI_map _ (atI_nn m0 ?_)
    unfold farF
    rw [List.getD_eq_getElem?_getD, List.getElem?_eq_getElem (by show (mixedF sd 2 % 4).toNat < 4; omega)]
    rfl
  have bf : 0 ≤ farF sd n most ∧ farF sd n most ≤ 100 := by
    have : ∀ k : Nat, k < 4 → 0 ≤ [n, n + 3, most, 2 * n].getD k 0 ∧ [n, n + 3, most, 2 * n].getD k 0 ≤ 100 := fun k hk =>
      match k, hk with
      | 0, _ => by show 0 ≤ n ∧ n ≤ 100; omega
      | 1, _ => by show 0 ≤ n + 3 ∧ n + 3 ≤ 100; omega
      | 2, _ => by show 0 ≤ most ∧ most ≤ 100; omega
      | 3, _ => by show 0 ≤ 2 * n ∧ 2 * n ≤ 100; omega
    exact this _ (by omega)
  refine' q_set K ?b1 (q_set K (d := .int (farF sd n most)) ?b2 (q_setM K (ds := []) ?b3 (q_for (xs := (script.take (min (farF sd n most) most).toNat).zipIdx) (e := fun p => .tuple [.int (p.2 : Int), .int p.1]) (EvJ.i (evj_enumX (K := K) ?b4))
    (fun pre ρ' => ∃ s1 s2, ρ' = [sa K (intsD script), sa K (.int sd), sa K (.int n), sa K (.int most), sn K H (.int (mixedF sd 1 % 5)), sn K H (.int (farF sd n most)), ml K H ((pre.map fun p => endsF n (mixedF sd 1 % 5) (p.2 : Int) (mixedF p.1 (3 + (p.2 : Int) % 50))).map pairD), s1, s2]) ?b5 ?b6 ?b7)))
  case b1 =>
    walk_at "ev"
    · dsimp only; omega
    · decide
  case b2 =>
    refine' ev_pick (ds := [.int n, .int (n + 3), .int most, .int (2 * n)]) ?_ (by simp) ?_ ef
    all_goals walk_at "ev"
    all_goals walk_at "num"
  case b3 => exact evm_lst eas_nil (by simp)
  case b4 =>
    rw [← cut_take PyData.int script (by omega : 0 ≤ min (farF sd n most) most)]
    refine' EvM.nw (evm_slice ?_ (flatDs_map (fun _ => rfl) _) eo_none (eo_some ?_))
    all_goals walk_at "ev"
  case b5 => exact ⟨_, _, rfl⟩
  case b6 =>
    rintro F1 pre ⟨c, k⟩ post ρ' hx ⟨s1, s2, rfl⟩
    obtain ⟨k1, k2, _⟩ := zip_at hx
    rw [List.length_take] at k2
    refine' ⟨_, _, (by walk_at "bd"), ?_⟩
    refine' at_drop (evx_append (by with_unfolding_all rfl) (d := pairD (endsF n (mixedF sd 1 % 5) (k : Int) (mixedF c (3 + (k : Int) % 50)))) ?g1 ?g2) (at_lpD ?g3)
    case g1 =>
      refine' ev_call (α := Int × Int × Int × Int) (n, mixedF sd 1 % 5, (k : Int), mixedF c (3 + (k : Int) % 50)) ?_ ?_
      · exact ⟨by dsimp only; omega, h2, by dsimp only; omega, by dsimp only; omega⟩
      · walk_at "ev"
        · dsimp only; omega
        · decide
    case g2 => simp only [List.length_map]; omega
    case g3 => exact ⟨_, _, by rw [List.map_append, List.map_append] <;> rfl⟩
  case b7 =>
    rintro ρ' ⟨s1, s2, rfl⟩
    have e : pairsF script sd n most = (script.take (min (farF sd n most) most).toNat).zipIdx.map fun p => endsF n (mixedF sd 1 % 5) (p.2 : Int) (mixedF p.1 (3 + (p.2 : Int) % 50)) := by unfold pairsF; rw [if_neg c2]
    rw [e] at q
    exact at_retL (by with_unfolding_all rfl) q
end

/-! where ways lead: the list that is found, the list that waits -/
def ledStep (here : Int) (s : List Int × List Int) (r : Int × Int × Int) : List Int × List Int := if r.2.1 = here ∧ r.2.2 ∉ s.1 then (s.1 ++ [r.2.2], s.2 ++ [r.2.2]) else s
def ledRun (ways : List (Int × Int × Int)) : Nat → List Int × List Int → List Int
  | 0, s => s.1
  | k + 1, s => match s.2.getLast? with
    | none => s.1
    | some h => ledRun ways k (ways.foldl (ledStep h) (s.1, s.2.dropLast))
def ledF (ways : List (Int × Int × Int)) (place : Int) : List Int := ledRun ways (ways.length + 1) ([place], [place])
def ledCnt (ways : List (Int × Int × Int)) (f : List Int) : Nat := ways.countP fun r => decide (r.2.2 ∉ f)
theorem ledCnt_le {f : List Int} {x : Int} : ∀ {ways : List (Int × Int × Int)}, ledCnt ways (f ++ [x]) ≤ ledCnt ways f
  | [] => Nat.le_refl _
  | r :: ways => by
    have ih := ledCnt_le (f := f) (x := x) (ways := ways)
    unfold ledCnt at ih ⊢
    rw [List.countP_cons, List.countP_cons]
    by_cases h : r.2.2 ∈ f
    · simp [h]; simpa using ih
    · by_cases h2 : r.2.2 = x
      · simp [h, h2] at ih ⊢; omega
      · simp [h, h2] at ih ⊢; omega
theorem ledCnt_lt {f : List Int} {x : Int} (hx : x ∉ f) : ∀ {ways : List (Int × Int × Int)}, (∃ r ∈ ways, r.2.2 = x) → ledCnt ways (f ++ [x]) + 1 ≤ ledCnt ways f
  | [], h => by obtain ⟨r, hr, _⟩ := h; exact (List.not_mem_nil hr).elim
  | r :: ways, h => by
    by_cases e : r.2.2 = x
    · have ih := ledCnt_le (f := f) (x := x) (ways := ways)
      unfold ledCnt at ih ⊢
      rw [List.countP_cons, List.countP_cons]
      have hr : r.2.2 ∉ f := by rw [e]; exact hx
      simp [hr, e] at ih ⊢
      simp [hx]
      omega
    · have ih := ledCnt_lt hx (ways := ways) (by
        obtain ⟨q, hq, hqe⟩ := h
        rcases List.mem_cons.mp hq with rfl | hq
        · exact (e hqe).elim
        · exact ⟨q, hq, hqe⟩)
      unfold ledCnt at ih ⊢
      rw [List.countP_cons, List.countP_cons]
      by_cases h3 : r.2.2 ∈ f
      · simp [h3] at ih ⊢; omega
      · simp [h3, e] at ih ⊢; omega
structure LedI (ways : List (Int × Int × Int)) (m : Nat) (s : List Int × List Int) : Prop where
  a : s.1.length + ledCnt ways s.1 ≤ ways.length + 1
  b : ledCnt ways s.1 + s.2.length ≤ m
theorem ledI_step {ways : List (Int × Int × Int)} {m : Nat} {s : List Int × List Int} {h : Int} {r : Int × Int × Int} (hr : r ∈ ways) (I : LedI ways m s) : LedI ways m (ledStep h s r) := by
  unfold ledStep
  split
  next c =>
    have k := ledCnt_lt c.2 ⟨r, hr, rfl⟩
    have a := I.a
    have b := I.b
    exact ⟨by show (s.1 ++ [r.2.2]).length + ledCnt ways (s.1 ++ [r.2.2]) ≤ _; rw [List.length_append]; simp; omega, by show ledCnt ways (s.1 ++ [r.2.2]) + (s.2 ++ [r.2.2]).length ≤ m; rw [List.length_append]; simp; omega⟩
  · exact I
theorem ledI_fold {ways : List (Int × Int × Int)} {m : Nat} {h : Int} : ∀ {pre : List (Int × Int × Int)} {s : List Int × List Int}, (∀ r ∈ pre, r ∈ ways) → LedI ways m s → LedI ways m (pre.foldl (ledStep h) s)
  | [], _, _, I => I
  | r :: pre, s, hp, I => ledI_fold (pre := pre) (s := ledStep h s r) (fun q hq => hp q (List.mem_cons_of_mem _ hq)) (ledI_step (hp r (List.mem_cons_self ..)) I)
theorem ledI_pop {ways : List (Int × Int × Int)} {m : Nat} {f w : List Int} (I : LedI ways (m + 1) (f, w)) (hw : w ≠ []) : LedI ways m (f, w.dropLast) := by
  have a := I.a
  have b := I.b
  have : w.length ≠ 0 := fun z => hw (List.eq_nil_of_length_eq_zero z)
  exact ⟨a, by show ledCnt ways f + w.dropLast.length ≤ m; rw [List.length_dropLast]; have : ledCnt ways f + w.length ≤ m + 1 := b; omega⟩
theorem ledI_start {ways : List (Int × Int × Int)} {p : Int} : LedI ways (ways.length + 1) ([p], [p]) := by
  have : ledCnt ways [p] ≤ ways.length := List.countP_le_length
  exact ⟨by show 1 + ledCnt ways [p] ≤ _; omega, by show ledCnt ways [p] + 1 ≤ _; omega⟩
theorem ledRun_nil {ways : List (Int × Int × Int)} {f : List Int} : ∀ m, ledRun ways m (f, []) = f
  | 0 => rfl
  | _ + 1 => rfl
theorem ledRun_pop {ways : List (Int × Int × Int)} {m : Nat} {f w : List Int} {h : Int} (e : w.getLast? = some h) : ledRun ways (m + 1) (f, w) = ledRun ways m (ways.foldl (ledStep h) (f, w.dropLast)) := by
  show (match w.getLast? with | none => f | some h => _) = _
  rw [e]
theorem last_get {α : Type} {e : α → PyData} {w : List α} {h : α} (k : w.getLast? = some h) : (w.map e)[(w.map e).length - 1]? = some (e h) := by
  rw [List.length_map, List.getElem?_map, ← List.getLast?_eq_getElem?, k]
  rfl
theorem getLast_some {α : Type} {w : List α} (h : w ≠ []) : ∃ x, w.getLast? = some x := ⟨_, List.getLast?_eq_some_getLast h⟩
theorem map_dropLast {α : Type} (e : α → PyData) (w : List α) : (w.map e).dropLast = w.dropLast.map e := by rw [List.dropLast_eq_take, List.dropLast_eq_take, List.length_map, List.map_take]
section
variable {K : PySem.W.Frag} {B F0 : Hp} {ρ : List Sl} {ta : TE}
def sortI (ns : List Int) : List Int := ns.mergeSort fun a b => decide (a ≤ b)
theorem sortI_perm (ns : List Int) : (sortI ns).Perm ns := List.mergeSort_perm _ _
theorem sortI_pw (ns : List Int) : (sortI ns).Pairwise (· ≤ ·) := by
  have h := List.pairwise_mergeSort (le := fun a b : Int => decide (a ≤ b)) (fun a b c h1 h2 => by simp at h1 h2 ⊢; omega) (fun a b => by simp; omega) ns
  exact h.imp fun h => by simpa using h
theorem evm_sortedI {ns : List Int} (ha : EvH B F0 ρ ta (dat K (.list (ns.map .int)))) (hl : ns.length < 64) : EvM K B F0 ρ (tCB (rSorted K) (tCons ta tNil)) ((sortI ns).map .int) := fun F H σ c Q q =>
  ha F H σ c _ fun v F1 H1 g1 p1 => by
    cases p1 with
    | lst h1 h2 =>
      rw [dpAll_ints h2] at h1
      refine ⟨_, ns, rfl, h1, hl, fun ns' p hp1 hp2 hp => ?_⟩
      have e : ns' = sortI ns := List.Perm.eq_of_pairwise (le := (· ≤ ·)) (fun a b _ _ h1 h2 => Int.le_antisymm h1 h2) hp2 (sortI_pw ns) (hp1.trans (sortI_perm ns).symm)
      subst e
      exact q p _ F1 _ (g1.trans (Gr.new g1.i hp)) (g1.i.free hp) (g1.fresh hp) upd_same (nwAll_ints _)
end
theorem sortI_len (ns : List Int) : (sortI ns).length = ns.length := (sortI_perm ns).length_eq
def foundD (f : List Int) : List (Int × PyData) := f.map fun x => (x, .bool true)
theorem look_found {x : Int} : ∀ {f : List Int}, (lookI (foundD f) x).isSome = decide (x ∈ f)
  | [] => rfl
  | y :: f => by
    have ih := look_found (x := x) (f := f)
    unfold lookI foundD at ih ⊢
    rw [List.map_cons, List.find?_cons]
    by_cases e : y = x
    · subst e; simp
    · rw [show ((y, PyData.bool true).1 == x) = false from beq_eq_false_iff_ne.mpr e]
      have e' : ¬ x = y := fun z => e z.symm
      simp only [List.mem_cons, e', false_or]
      exact ih
theorem put_found {x : Int} {f : List Int} (h : x ∉ f) : putI (foundD f) x (.bool true) = foundD (f ++ [x]) := by
  unfold putI
  have e : ((foundD f).any fun p => p.1 == x) = false := by
    rw [List.any_eq_false]
    intro p hp
    obtain ⟨y, hy, rfl⟩ := List.mem_map.mp hp
    intro z
    exact h (by rw [← eq_of_beq z]; exact hy)
  rw [e]
  unfold foundD
  rw [List.map_append]
  rfl

abbrev s_led_to : Stmt := top 25
theorem sc_led_to : FnScope ["ways", "place", "found", "waiting", "here", "street", "one", "other"] ["ways", "place"] (defScope s_led_to) := ⟨rfl, rfl, rfl, by decide +kernel, rfl, by decide +kernel, by decide +kernel⟩
/-- a new dict of what is found -/
def spLedTo (K : PySem.W.Frag) : Sp := fun vs H Q _ => ∃ (ways : List (Int × Int × Int)) (place : Int), ways.length ≤ 62 ∧ AOk [dat K (.list (ways.map rowD)), dat K (.int place)] H vs ∧
  ∀ l kv H', Same H H' → H l = none → H' l = some (.dK kv) → KvAll K e0 H' kv (foundD (ledF ways place)) → Q (.ref l) H'
/-- an owned dict is handed back -/
theorem at_retK {K : PySem.W.Frag} {B F0 : Hp} {ρ : List Sl} {D : Ends} {i : Nat} {kvs : List (Int × PyData)} (h : ρ[i]? = some (md K B kvs)) (k : ∀ l kv H', Same B H' → B l = none → H' l = some (.dK kv) → KvAll K e0 H' kv kvs → D.rt (.ref l) H') : At B F0 (tRet (tVar i) D) ρ := fun F H σ c => by
  obtain ⟨w, o⟩ := c.own
  obtain ⟨_, v, e1, l, kv, rfl, ew, h4, h5⟩ := o.sl i _ h
  exact ⟨_, e1, k l kv H c.gr.h (o.at_ i l (by rw [ew]; simp)).2.1 h4 (kvAll_mono c.i (kvAll_e0 h5))⟩
/-- the size of what led_to tells -/
theorem ev_lenLed {K : PySem.W.Frag} {B F0 : Hp} {ρ : List Sl} {tr : TA} (ways : List (Int × Int × Int)) (place : Int) (hl : ways.length ≤ 62) (h : EvA B F0 ρ tr [dat K (.list (ways.map rowD)), dat K (.int place)]) :
    Ev B F0 ρ (tCB (fun xs H Q => ∃ a kvs, xs = [V.ref a] ∧ H a = some (.dK kvs) ∧ Q (.int kvs.length) H) (tCons (tCall (spLedTo K) [] E0 tr) tNil)) (nwd K B (.int ((ledF ways place).length))) := fun F H σ c Q q =>
  h F H σ c _ fun vs F1 H1 g1 p1 => ⟨ways, place, hl, by rw [List.append_nil]; exact p1, fun l kv H2 s n e k => ⟨l, kv, rfl, e, by
    have e2 : kv.length = (ledF ways place).length := by rw [kv_len k, foundD, List.length_map]
    rw [e2]
    exact q _ F1 H2 (g1.trans (gr_call g1.i s)) (.int _)⟩⟩
section
variable {P : Program} {w : World} {K : PySem.W.Frag} {mg : Str → Option Value} {base : Heap}
theorem ok_ledto (Z : Zs mg) (D : Dfn K mg "led_to" "led_to" s_led_to ["ways", "place"]) : Ok P w K mg base CX0 1 "led_to" ["ways", "place"] (spLedTo K) := by
  obtain ⟨f, fd, F, hg, hb⟩ := D.ex
  refine ⟨f, fd, F.ok sc_led_to (fun vs H Q E h => ?_) (fun cdv A outer s H vs Q E hr h => ?_), hg, F.kp, hb⟩
  · obtain ⟨ways, place, _, h, _⟩ := h
    rw [aok_len h]; rfl
  obtain ⟨ways, place, hl, h, q⟩ := h
  refine ⟨_, (pss_cons (ps_set (i := 2) sc_led_to.nd rfl (Or.inl rfl) (pe_disp (pps_cons (pv 1) pe_bl pps_nil) (by rfl) (by rfl) (fun z => by cases z) (by decide)))
    (pss_cons (ps_set (i := 3) sc_led_to.nd rfl (Or.inl rfl) (pe_lst (pa_cons (pv 1) pa_nil)))
    (pss_cons (ps_while PassesOwn.never (pt_cmpR (kop_neD K (by exact hr.units)) (pv 3) (pe_lst pa_nil) (nomark _)) (pss_cons (ps_set (i := 4) sc_led_to.nd rfl (Or.inl rfl) (pe_bm0 PySem.F.plainAttrs_list PySem.F.slot_list_pop PySem.F.type_list_pop mt_pop (pv 3)))
    (pss_one (ps_for PassesOwn.never rfl (kpi_list K (pv 0)) (kpg_tup K 3 rfl (pgs_cons (pg_name (i := 5) sc_led_to.nd rfl (Or.inl rfl)) (pgs_cons (pg_name (i := 6) sc_led_to.nd rfl (Or.inl rfl)) (pgs_cons (pg_name (i := 7) sc_led_to.nd rfl (Or.inl rfl)) pgs_nil))))
      (pss_one (ps_if (PW.pt (pw_and (pt_cmpR op_eq (pv 6) (pv 4) (nomark _)) (pw_and1 (pt_cmp (pc_dnotin (by exact hu_of hr) (pv 7) (pv 2)))))) (pss_cons (ps_dput (by exact hu_of hr) (pv 2) (pv 7) pe_bl rfl)
    (pss_one (ps_expr (pe_bm PySem.F.plainAttrs_list PySem.F.slot_list_append PySem.F.type_list_append mt_append (pv 3) (pa_cons (pv 7) pa_nil))))) pss_nil))))))
    (pss_one (ps_ret (pv 2)))))), ?_⟩
  refine at_enter h (stabC st_dat (stab1 st_dat)) (by simp) ?_
  walk_at "go"
  refine' q_disp1 (K := K) (k := place) (d := .bool true) ?a0 ?a1 (q_setM K (ds := [.int place]) ?a2 (q_while (fun m ρ' => ∃ f w s4 s5 s6 s7, ρ' = [sa K (.list (ways.map rowD)), sa K (.int place), md K H (foundD f), ml K H (w.map .int), s4, s5, s6, s7] ∧ ledRun ways m (f, w) = ledF ways place ∧ LedI ways m (f, w) ∧ m ≤ 63) (ways.length + 1) ?a3 ?a4))
  case a0 => walk_at "ev"
  case a1 => walk_at "ev"
  case a2 => exact evm_lst (by walk_at "ev") (by simp)
  case a3 => exact ⟨[place], [place], _, _, _, _, rfl, rfl, ledI_start, by omega⟩
  case a4 =>
    rintro m ρ' ⟨f, w, s4, s5, s6, s7, rfl, er, I, hm63⟩
    refine ⟨!w.isEmpty, ?b1, fun hc => ?b2, fun hc => ?b3⟩
    case b1 =>
      have e : (w.map PyData.int).isEmpty = w.isEmpty := by cases w <;> rfl
      rw [← e]
      walk_at "ev"
    case b2 =>
      have hw : w ≠ [] := by intro z; rw [z] at hc; simp at hc
      obtain ⟨h, eh⟩ := getLast_some hw
      cases m with
      | zero =>
        have := I.b
        have : w.length ≠ 0 := fun z => hw (List.eq_nil_of_length_eq_zero z)
        dsimp only at *
        omega
      | succ m =>
      rw [ledRun_pop eh] at er
      have I2 := ledI_pop I hw
      refine' q_asg (evx_pop (i := 3) rfl (last_get eh)) (bind_name (i := 4) st_nwd) (at_for (xs := ways) (e := rowD) (EvJ.i (evj_listF ?c1 (flatDs_map (fun _ => rfl) _)))
        (fun pre ρ' => ∃ s5 s6 s7, ρ' = [sa K (.list (ways.map rowD)), sa K (.int place), md K H (foundD (pre.foldl (ledStep h) (f, w.dropLast)).1), ml K H ((pre.foldl (ledStep h) (f, w.dropLast)).2.map .int), sn K H (.int h), s5, s6, s7]) ?c2 ?c3 ?c4)
      case c1 => exact ev_var rfl
      case c2 =>
        rw [map_dropLast]
        exact ⟨_, _, _, rfl⟩
      case c3 =>
        rintro F1 pre ⟨street, one, other⟩ post ρ' hx ⟨s5, s6, s7, rfl⟩
        have hm : ∀ r ∈ pre, r ∈ ways := fun r hr => by rw [hx]; exact List.mem_append.mpr (.inl hr)
        have I3 := ledI_fold (h := h) hm I2
        have ef : (pre ++ [(street, one, other)]).foldl (ledStep h) (f, w.dropLast) = ledStep h (pre.foldl (ledStep h) (f, w.dropLast)) (street, one, other) := by rw [List.foldl_append]; rfl
        generalize pre.foldl (ledStep h) (f, w.dropLast) = s at I3 ef
        obtain ⟨f1, w1⟩ := s
        have i1 := I3.a
        have i2 := I3.b
        dsimp only at i1 i2
        refine' ⟨_, _, (by walk_at "bd"), ?_⟩
        refine' at_when (c := decide (one = h) && !decide (other ∈ f1)) (et_and ?d1 fun _ => ?d2) (fun hd => ?d3) (fun hd => ?d4)
        case d1 => walk_at "ev"
        case d2 =>
          rw [← look_found]
          refine et_test (K := K) (Ev.hd (ev_dnotin (Ev.hd (ev_var rfl)) (evh_md rfl)))
        case d3 =>
          have hd2 : one = h ∧ other ∉ f1 := by simpa using hd
          have es : ledStep h (f1, w1) (street, one, other) = (f1 ++ [other], w1 ++ [other]) := by unfold ledStep; rw [if_pos hd2]
          refine' q_dput (i := 2) (k := other) (d := .bool true) rfl ?e1 ?e2 ?e6 (at_drop (evx_append (i := 3) (d := .int other) rfl ?e3 ?e4) (at_lpD ?e5))
          case e1 => walk_at "ev"
          case e2 => walk_at "ev"
          case e6 => rw [foundD, List.length_map]; dsimp only; omega
          case e3 => walk_at "ev"
          case e4 => rw [List.length_map]; dsimp only; omega
          case e5 =>
            refine ⟨sn K H (.int street), sn K H (.int one), sn K H (.int other), ?_⟩
            rw [ef, es, put_found hd2.2, List.map_append]
            rfl
        case d4 =>
          have hd2 : ¬ (one = h ∧ other ∉ f1) := by simpa using hd
          have es : ledStep h (f1, w1) (street, one, other) = (f1, w1) := by unfold ledStep; rw [if_neg hd2]
          refine at_nxt (at_lp ?_)
          refine ⟨sn K H (.int street), sn K H (.int one), sn K H (.int other), ?_⟩
          rw [ef, es]
          rfl
      case c4 =>
        rintro ρ' ⟨s5, s6, s7, rfl⟩
        refine at_lwD (m' := m) (?_ : ∃ f w s4 s5 s6 s7, _ ∧ _ ∧ _ ∧ _) (Nat.lt_succ_self m)
        exact ⟨_, _, _, _, _, _, rfl, er, ledI_fold (fun r hr => hr) I2, by omega⟩
    case b3 =>
      have hw : w = [] := by cases w with | nil => rfl | cons a b => simp at hc
      subst hw
      rw [ledRun_nil] at er
      subst er
      exact at_retK rfl q
end

/-! ### is_among, the class Town -/
structure XCls (K : PySem.W.Frag) (mg : Str → Option Value) (x : Str) (C : Addr) : Prop where
  g : mg x = some (.ref C)
  x : PySem.W.excIn K C [.type "ValueError", .type "Exception", .type "BaseException", .type "object"] "ValueError.__new__" = true
  k : PySem.W.keepIn K (.ref C) = true
  b : PySem.W.subIn K (.ref C) (.type "BaseException") = some true
  t : PySem.W.typeIn K (.ref C) = some (.type "type")
structure TownTxt (K : PySem.W.Frag) (mg : Str → Option Value) (C : Addr) : Prop where
  cl : Cls K C
  nM : NoAttr K C "many"
  nB : NoAttr K C "built"
  nH : NoAttr K C "held"
  g : mg "Town" = some (.ref C)
  c_MOST_PLACES : ∃ t, mg "MOST_PLACES" = some (.int 16 t)
  c_MOST_STREETS : ∃ t, mg "MOST_STREETS" = some (.int 60 t)
def amongB (lo hi : Int) : V → Bool
  | .int i => decide (lo ≤ i) && decide (i ≤ hi)
  | _ => false
abbrev s_is_among : Stmt := top 39
theorem sc_is_among : FnScope ["thing", "least", "most"] ["thing", "least", "most"] (defScope s_is_among) := ⟨rfl, rfl, rfl, by decide +kernel, rfl, by decide +kernel, by decide +kernel⟩
abbrev s_Town_places : Stmt := inClass (top 40) 1
theorem sc_Town_places : FnScope ["self"] ["self"] (defScope s_Town_places) := ⟨rfl, rfl, rfl, by decide +kernel, rfl, by decide +kernel, by decide +kernel⟩
abbrev s_Town_streets : Stmt := inClass (top 40) 5
theorem sc_Town_streets : FnScope ["self", "street"] ["self"] (defScope s_Town_streets) := ⟨rfl, rfl, rfl, by decide +kernel, rfl, by decide +kernel, by decide +kernel⟩
abbrev s_Town_need_place : Stmt := inClass (top 40) 2
theorem sc_Town_need_place : FnScope ["self", "thing"] ["self", "thing"] (defScope s_Town_need_place) := ⟨rfl, rfl, rfl, by decide +kernel, rfl, by decide +kernel, by decide +kernel⟩
abbrev spAmong (K : PySem.W.Frag) : Sp := Fp K (fun _ : V × Int × Int => True) (fun x => [kdP K x.1, dat K (.int x.2.1), dat K (.int x.2.2)]) (fun x => .bool (amongB x.2.1 x.2.2 x.1))
abbrev spPlaces (K : PySem.W.Frag) (C : Addr) : Sp := Fp K (fun _ : TSt => True) (fun st => [isTown K C st]) (fun st => .int st.many)
abbrev spStreets (K : PySem.W.Frag) (C : Addr) : Sp := Fp K (fun st : TSt => TOk st) (fun st => [isTown K C st]) (fun st => .list (st.held.map rowD))
def spNeed (K : PySem.W.Frag) (C CP : Addr) : Sp := fun vs H Q E => ∃ (st : TSt) (v0 : V), AOk [isTown K C st, kdP K v0] H vs ∧ (amongB 0 (st.many - 1) v0 = true → ∀ H', Same H H' → Q .non H') ∧ (amongB 0 (st.many - 1) v0 = false → ∀ H', Same H H' → E (.ref CP) none H')
theorem look_held {s one other : Int} : ∀ {h : List (Int × Int × Int)}, h.Pairwise (fun p q => p.1 < q.1) → (s, one, other) ∈ h → lookI (heldD h) s = some (pairD (one, other))
  | [], _, m => by simp at m
  | (a, b, c) :: r, pw, m => by
    obtain ⟨p1, p2⟩ := List.pairwise_cons.mp pw
    by_cases e : a = s
    · subst e
      rcases List.mem_cons.mp m with m | m
      · cases m
        simp [lookI, heldD]
      · exact absurd (p1 _ m) (Int.lt_irrefl _)
    · have m' : (s, one, other) ∈ r := by
        rcases List.mem_cons.mp m with m | m
        · cases m; exact absurd rfl e
        · exact m
      have ih := look_held p2 m'
      unfold lookI heldD at ih ⊢
      rw [List.map_cons, List.find?_cons, show ((a, pairD (b, c)).1 == s) = false from beq_eq_false_iff_ne.mpr e]
      exact ih
section
variable {K : PySem.W.Frag} {B F0 : Hp} {ρ : List Sl} {ta tb : TE} {ds es : List PyData} {d : PyData}
theorem ev_catT (ha : Ev B F0 ρ ta (nwd K B (.tuple ds))) (hb : Ev B F0 ρ tb (nwd K B (.tuple es))) (h1 : ds ≠ []) (h2 : es ≠ []) (hl : ds.length + es.length ≤ 100000) : Ev B F0 ρ (tOp (rCatA K) ta tb) (nwd K B (.tuple (ds ++ es))) := fun F H σ c Q q =>
  ha F H σ c _ fun x F1 H1 g1 p1 => hb F1 H1 σ (c.go g1) _ fun y F2 H2 g2 p2 => by
    cases p1 with
    | @tup a xs _ a1 a2 =>
      cases p2 with
      | @tup b ys _ b1 b2 =>
        have l1 := nwAll_len a2
        have l2 := nwAll_len b2
        have n1 : xs ≠ [] := fun z => h1 (List.length_eq_zero_iff.mp (by rw [← l1, z]; rfl))
        have n2 : ys ≠ [] := fun z => h2 (List.length_eq_zero_iff.mp (by rw [← l2, z]; rfl))
        refine ⟨a, b, xs, ys, rfl, rfl, sqt_mono g2.i (sqt_mono g2.f a1), sqt_mono g2.i b1, sz_of (by rw [l1, l2]; exact hl), fun z => absurd z n1, fun _ z => absurd z n2, fun _ _ p hp => ?_⟩
        have g3 : Gr F H F2 (upd H2 p (.tup (xs ++ ys))) := (g1.trans g2).trans (Gr.new g2.i hp)
        obtain ⟨F3, g4, s, e⟩ := g3.putT (o := .tup (xs ++ ys)) rfl upd_same
        exact q _ F3 _ g4 (.tup (.inl (.inl e)) (nwAll_app (nwAll_mono (Same.refl _) (g2.f.trans s) a2) (nwAll_mono (Same.refl _) s b2)))
/-- sorted(d), d's keys rising -/
theorem evm_sortedD {kvs : List (Int × PyData)} (ha : EvH B F0 ρ ta (isDict K kvs)) (hl : kvs.length < 64) (hp : (kvs.map (·.1)).Pairwise (· < ·)) :
    EvM K B F0 ρ (tCB (fun xs H Q => ∃ (a : Addr) (kvs : List (Key × V)) (ks : List Int), xs = [.ref a] ∧ Rd H a (.dK kvs) ∧ kvs.map (·.1) = ks.map Sum.inl ∧ ks.length < 64 ∧ ∀ (ys : List Int) (p : Addr), ys.Perm ks → ys.Pairwise (· ≤ ·) → H p = none → Q (.ref p) (upd H p (.lst (ys.map V.int)))) (tCons ta tNil)) ((kvs.map (·.1)).map PyData.int) := fun F H σ c Q q =>
  ha F H σ c _ fun x F1 H1 g1 ⟨l, kv, e, r, B', a⟩ => by
    subst e
    refine ⟨l, kv, kvs.map (·.1), rfl, r, kv_keys a, by rw [List.length_map]; exact hl, fun ys p h1 h2 h3 => ?_⟩
    rw [pw_perm h1 h2 hp]
    exact q p _ F1 _ (g1.trans (Gr.new g1.i h3)) (g1.i.free h3) (g1.fresh h3) upd_same (nwAll_ints _)
end
section
variable {P : Program} {w : World} {K : PySem.W.Frag} {mg : Str → Option Value} {base : Heap} {C : Addr}
theorem ok_among (Z : Zs mg) (D : Dfn K mg "is_among" "is_among" s_is_among ["thing", "least", "most"]) : Ok P w K mg base CX0 1 "is_among" ["thing", "least", "most"] (spAmong K) := by
  refine fp_ok D sc_is_among (by decide) (fun _ => rfl) (fun _ => stabC st_kdP (stabC st_dat (stab1 st_dat))) (fun f cdv A outer s H E hr => ⟨_, (pss_one (ps_ret (pe_and (pe_callB (kcall_isi K) (by rfl) Z.isinstance (by decide +kernel) (pa_cons (pv 0) (pa_cons (pe_bltn (v := .ty "int") (by rfl) Z.int (by decide +kernel) rfl) pa_nil))) (pe_and (pe_not (pe_callB (kcall_isi K) (by rfl) Z.isinstance (by decide +kernel) (pa_cons (pv 0) (pa_cons (pe_bltn (v := .ty "bool") (by rfl) Z.bool (by decide +kernel) rfl) pa_nil)))) (pe_one (pe_chain op_le op_le (pv 1) (pv 0) (pv 2))))))), ?_⟩)
  rintro ⟨v, lo, hi⟩ - Q q
  walk_at "go"
  have e : amongB lo hi v = (isI v && ((!isB v) && amongB lo hi v)) := by cases v <;> simp [amongB, isI, isB]
  refine at_ret (d := .bool (amongB lo hi v)) ?_ q
  rw [e]
  refine ev_andV (Ev.hd (ev_isi (kd_var rfl) fun H k => isi_int k)) fun c1 => ev_andV (Ev.hd (ev_notV (Ev.hd (ev_isi (kd_var rfl) fun H k => isi_bool k)))) fun c2 => ?_
  cases v with
  | int i =>
    refine' ev_chain ?_ ?_ ?_
    · walk_at "ev"
    · exact fun F H σ c Q q => (kd_var (K := K) (v := .int i) rfl) F H σ c Q fun v F' H' g p => q v F' H' g (by rw [p.1]; exact .int i)
    · walk_at "ev"
  | _ => simp [isI, isB] at c1 c2
theorem ok_places (T : TownTxt K mg C) (D : Mfn K C "places" "Town.places" s_Town_places ["self"]) : OkM P w K mg base CX0 1 C "places" ["self"] (spPlaces K C) := by
  refine fpm_ok D T.cl sc_Town_places (by decide) (fun _ => rfl) (fun _ => stab1 st_isTown) (fun f cdv A outer s H E hr => ⟨_, (pss_one (ps_ret (kpe_fld K (pv 0) rfl))), ?_⟩)
  rintro st - Q q
  walk_at "go"
  exact at_ret (ev_many T.cl T.nM (evh_town rfl)) q
theorem ok_streets (Z : Zs mg) (T : TownTxt K mg C) (D : Mfn K C "streets" "Town.streets" s_Town_streets ["self"]) : OkM P w K mg base CX0 1 C "streets" ["self"] (spStreets K C) := by
  refine fpm_ok D T.cl sc_Town_streets (by decide) (fun _ => rfl) (fun _ => stab1 st_isTown) (fun f cdv A outer s H E hr => ⟨_, (pss_one (ps_ret (pe_lc (own := [("street", 1)]) (tt := tYes) rfl sc_Town_streets.nd (kpi_list K (pe_callB (call_sortedDI rfl) (by rfl) Z.sorted (by decide +kernel) (pa_cons (kpe_fld K (pv 0) rfl) pa_nil))) (blkOk_by (by dsimp only [cxOf, Cx.nox, Cx.wish, Cx.blk, compEnvC, envOfC]; (try (rw [relabel_eq]; dsimp only)); decide +kernel)) (fun _ _ _ _ _ => (pg_name (i := 1) sc_Town_streets.nd rfl (Or.inl rfl))) (fun _ _ _ _ _ => pts_nil) (fun _ _ _ _ _ => (pe_op (kop_catA K) (pe_tup (pa_cons (pv 1) pa_nil)) (pe_dget (by exact hu_of hr) (kpe_fld K (pv 0) rfl) (pv 1) (fun _ _ => rfl))))))), ?_⟩)
  rintro st ok Q q
  walk_at "go"
  have ek : (heldD st.held).map (·.1) = st.held.map (·.1) := by
    unfold heldD
    rw [List.map_map]
    rfl
  refine at_ret (d := .list (st.held.map rowD)) (EvM.nw ?_) q
  refine evm_lc1 (xs := st.held) (e := fun p => .int p.1) rowD (evj_list (EvM.nw ?_)) (fun F1 x hx => ?_) (by have := ok.few; omega)
  · have h := evm_sortedD (K := K) (B := H) (F0 := H) (evh_held (ρ := enterR [Str.ofString "self", Str.ofString "street"].length [isTown K C st]) T.cl T.nH (evh_town (C := C) (st := st) (i := 0) rfl)) (by unfold heldD; rw [List.length_map]; have := ok.few; omega) (by rw [ek]; exact List.pairwise_map.mpr ok.keys)
    rw [ek, List.map_map] at h
    exact h
  · obtain ⟨s, one, other⟩ := x
    refine ⟨_, _, bind_name st_nwd, by decide, ?_⟩
    refine ev_catT (ds := [.int s]) (es := [.int one, .int other]) ?_ ?_ (by simp) (by simp) (by simp)
    · walk_at "ev"
    · exact (evh_dget (evh_held T.cl T.nH (evh_town (C := C) (st := st) rfl)) (evh_var rfl rd_sn) (look_held ok.keys hx)).nw rfl
end
theorem xcls_mk {K : PySem.W.Frag} {h : Heap} {mg : Str → Option Value} {xn : Str} {C : Addr} (X : K.In h) (g : mg xn = some (.ref C)) (x : PySem.W.excIn K C [.type "ValueError", .type "Exception", .type "BaseException", .type "object"] "ValueError.__new__" = true) (k : PySem.W.keepIn K (.ref C) = true)
    (b : PySem.W.subIn K (.ref C) (.type "BaseException") = some true) (t : PySem.W.typeIn K (.ref C) = some (.type "type")) : XCls K mg xn C := ⟨g, x, k, b, t⟩
section
variable {K : PySem.W.Frag} {B F0 : Hp} {ρ : List Sl} {ta : TE} {f : Pd} {C : Addr}
theorem ev_places {st : TSt} (ha : EvH B F0 ρ ta (isTown K C st)) : Ev B F0 ρ (tMeth C "places" (spPlaces K C) [] E0 ta tNil) (nwd K B (.int st.many)) := ev_meth st trivial ha st_isTown (town_in (by decide +kernel) (by decide +kernel) (by decide +kernel)) ea_nil rfl
theorem ev_streets {st : TSt} (ok : TOk st) (ha : EvH B F0 ρ ta (isTown K C st)) : Ev B F0 ρ (tMeth C "streets" (spStreets K C) [] E0 ta tNil) (nwd K B (.list (st.held.map rowD))) := ev_meth st ok ha st_isTown (town_in (by decide +kernel) (by decide +kernel) (by decide +kernel)) ea_nil rfl
end

abbrev s_Town_build : Stmt := inClass (top 40) 3
theorem sc_Town_build : FnScope ["self", "one", "other"] ["self", "one", "other"] (defScope s_Town_build) := ⟨rfl, rfl, rfl, by decide +kernel, rfl, by decide +kernel, by decide +kernel⟩
abbrev s_Town_dig : Stmt := inClass (top 40) 4
theorem sc_Town_dig : FnScope ["self", "street"] ["self", "street"] (defScope s_Town_dig) := ⟨rfl, rfl, rfl, by decide +kernel, rfl, by decide +kernel, by decide +kernel⟩
abbrev s_Town___init : Stmt := inClass (top 40) 0
theorem sc_Town___init : FnScope ["self", "many"] ["self", "many"] (defScope s_Town___init) := ⟨rfl, rfl, rfl, by decide +kernel, rfl, by decide +kernel, by decide +kernel⟩
section
variable {P : Program} {w : World} {K : PySem.W.Frag} {mg : Str → Option Value} {base : Heap} {C CP CM CB CS : Addr}
theorem ok_need (T : TownTxt K mg C) (X_BadPlace : XCls K mg "BadPlace" CP) (G_is_among : Ok P w K mg base CX0 1 "is_among" ["thing", "least", "most"] (spAmong K)) (D : Mfn K C "need_place" "Town.need_place" s_Town_need_place ["self", "thing"]) :
    OkM P w K mg base (L2.CX P w) 2 C "need_place" ["self", "thing"] (spNeed K C CP) := by
  obtain ⟨f, fd, F, hm, hb⟩ := D.ex
  refine ⟨f, fd, F.okX sc_Town_need_place (fun vs H Q E h => ?_) (fun cdv A outer s H vs Q E hr h => ?_), hm, T.cl, hb⟩
  · obtain ⟨st, v0, h, _⟩ := h
    rw [aok_len h]; rfl
  · obtain ⟨st, v0, h, k1, k2⟩ := h
    refine ⟨_, (pss_one (ps_if (pt_not (pt_val (ok_call G_is_among (by exact hr.mono (by decide)) rfl (pa_cons (pv 1) (pa_cons pe_int (pa_cons (pe_op op_sub (kpe_fld K (pv 0) rfl) pe_int) pa_nil)))))) (pss_one (ps_raise rfl (takes_of rfl rfl rfl rfl) (pmk_own PySem.F.excBase_ValueError X_BadPlace.x X_BadPlace.g X_BadPlace.k (raises_own X_BadPlace.b X_BadPlace.t) rfl))) pss_nil)), ?_⟩
    refine at_enter h (stabC st_isTown (stab1 st_kdP)) (by simp) ?_
    walk_at "go"
    refine at_when (c := !amongB 0 (st.many - 1) v0) (et_not (et_B (K := K) (Ev.hd (ev_call (α := V × Int × Int) (v0, 0, st.many - 1) trivial (ea_cons st_kdP (kd_var rfl) (ea_cons st_dat ?a1 (ea_cons st_dat ?a2 ea_nil))))))) (fun c1 => ?_) (fun c1 => ?_)
    case a1 => walk_at "ev"
    case a2 =>
      refine' Ev.hd (ev_ii (Ev.hd (ev_many T.cl T.nM (evh_town rfl))) ?_ rfl)
      walk_at "ev"
    · exact fun F H1 σ c => k2 (by simpa using c1) H1 c.gr.h
    · exact fun F H1 σ c => k1 (by simpa using c1) H1 c.gr.h
end
/-! the owned town, its place known -/
def mtQ (K : PySem.W.Frag) (C : Addr) (st : TSt) (t d : Addr) : Hp → Hp → V → List Addr → Prop := fun F H v as => v = .ref t ∧ as = [t, d] ∧ ∃ dx kv, H t = some (.ins C dx (tf st.many st.built d)) ∧ H d = some (.dK kv) ∧ KvAll K e0 F kv (heldD st.held)
theorem st_mtQ {K : PySem.W.Frag} {C : Addr} {st : TSt} {t d : Addr} : MStab (mtQ K C st t d) := fun F F' H H' v as s e ⟨h1, h2, dx, kv, h3, h4, h5⟩ => by
  subst h2
  exact ⟨h1, rfl, dx, kv, by rw [e t (by simp)]; exact h3, by rw [e d (by simp)]; exact h4, kvAll_mono s h5⟩
def hid (t d : Addr) (H : Hp) : Hp := fun a => if a = t ∨ a = d then none else H a
theorem hid_same {t d : Addr} {H : Hp} : Same (hid t d H) H := fun a o h => by
  unfold hid at h
  split at h
  · cases h
  · exact h
theorem hid_at {t d a : Addr} {H : Hp} {o : HO} (h : H a = some o) (h1 : a ≠ t) (h2 : a ≠ d) : hid t d H a = some o := by
  unfold hid
  rw [if_neg (by rintro (z | z); exact h1 z; exact h2 z)]
  exact h
/-- what is known elsewhere is no owned thing's -/
theorem hid_sub {t d : Addr} {F H : Hp} (s : Same F H) (h1 : F t = none) (h2 : F d = none) : Same F (hid t d H) := fun a o h => hid_at (s a o h) (ne_of_none h h1) (ne_of_none h h2)
theorem sqt_hid {K : PySem.W.Frag} {t d a : Addr} {H : Hp} {xs : List V} (h1 : H t ≠ none → ∀ o, H t = some o → isTup o = false) (h2 : ∀ o, H d = some o → isTup o = false) (h : SqT K H a xs) : SqT K (hid t d H) a xs := by
  have g : ∀ o, isTup o = true → H a = some o → hid t d H a = some o := fun o ho e => hid_at e (fun z => by
    subst z
    have := h1 (by rw [e]; simp) o e
    rw [ho] at this; cases this) (fun z => by
    subst z
    have := h2 o e
    rw [ho] at this; cases this)
  rcases h with (h | ⟨o, h⟩) | h
  · exact .inl (.inl (g _ rfl h))
  · exact .inl (.inr ⟨o, g _ rfl h⟩)
  · exact .inr h
theorem kv_pairs {K : PySem.W.Frag} {H F : Hp} (k : ∀ a xs, SqT K H a xs → SqT K F a xs) : ∀ {h : List (Int × Int × Int)} {kv : List (Key × V)}, KvAll K e0 H kv (heldD h) → KvAll K e0 F kv (heldD h)
  | [], _, .nil => .nil
  | p :: r, _, .cons (d := _) hn a => by
    refine .cons ?_ (kv_pairs k a)
    cases hn with
    | tup h1 h2 =>
      cases h2 with
      | cons x1 x2 =>
        cases x1
        cases x2 with
        | cons x3 x4 =>
          cases x3
          cases x4
          exact .tup (k _ _ h1) (.cons (.int _) (.cons (.int _) .nil))
theorem cfg_town {K : PySem.W.Frag} {C t d dx : Addr} {st : TSt} {kv : List (Key × V)} {N : List Str} {fs : List Pd} {H : Hp} {vs : List V} (ht : H t = some (.ins C dx (tf st.many st.built d))) (hd : H d = some (.dK kv)) (hk : KvAll K e0 H kv (heldD st.held))
    (ha : AOk fs (hid t d H) vs) (sb : ∀ f ∈ fs, Stab f) (hl : fs.length + 1 ≤ N.length) :
    Cfg (hid t d H) (hid t d H) (hid t d H) H (L2.start N (.ref t :: vs)) (.mo (mtQ K C st t d) :: enterR (N.length - 1) fs) := by
  have el := aok_len ha
  have nt : hid t d H t = none := by unfold hid; rw [if_pos (.inl rfl)]
  have nd : hid t d H d = none := by unfold hid; rw [if_pos (.inr rfl)]
  refine ⟨⟨Same.refl _, hid_same, hid_same, fun a o h t z => z, fun _ _ e _ => e⟩, by simp [L2.start, enterR, el]; omega, fun j => if j = 0 then [t, d] else [], fun i j a h1 h2 => ?_, fun i a h1 => ?_, fun i s hs => ?_⟩
  · split at h1 <;> split at h2 <;> first | omega | exact (List.not_mem_nil h1).elim | exact (List.not_mem_nil h2).elim
  · split at h1
    · rcases List.mem_cons.mp h1 with rfl | h1
      · exact ⟨nt, nt, _, ht, rfl⟩
      · rw [List.mem_singleton.mp h1]
        exact ⟨nd, nd, _, hd, rfl⟩
    · cases h1
  · cases i with
    | zero =>
      cases hs
      refine ⟨st_mtQ, .ref t, rfl, rfl, rfl, dx, kv, ht, hd, kv_pairs (fun a xs h => sqt_hid (fun _ o e => by rw [ht] at e; cases e; rfl) (fun o e => by rw [hd] at e; cases e; rfl) h) hk⟩
    | succ i =>
      rw [if_neg (Nat.succ_ne_zero i)]
      have hs : (enterR (N.length - 1) fs)[i]? = some s := hs
      have c0 := cfg_start (N := List.replicate (N.length - 1) ("x" : Str)) ha sb (by simp; omega)
      obtain ⟨w, o⟩ := c0.own
      have q := o.sl i s (by simpa using hs)
      have e2 : (L2.start N (.ref t :: vs))[i + 1]? = (L2.start (List.replicate (N.length - 1) ("x" : Str)) vs)[i]? := by
        unfold L2.start
        rw [List.map_cons, List.cons_append, List.getElem?_cons_succ, List.length_cons, List.length_replicate]
        congr 3
        omega
      rw [e2]
      cases s with
      | no => trivial
      | fz f => exact q
      | mo m =>
        obtain ⟨_, v, _, h1⟩ := q
        exact absurd hs (by
          unfold enterR
          intro z
          have := List.mem_of_getElem? z
          rcases List.mem_append.mp this with h | h
          · obtain ⟨f, _, e⟩ := List.mem_map.mp h; cases e
          · have := List.eq_of_mem_replicate h; cases this)
section
variable {K : PySem.W.Frag} {B F0 : Hp} {ρ : List Sl} {te ta tb tc : TE} {d0 e : PyData} {D : Ends} {u : TS} {C t d : Addr} {st : TSt}
theorem evh_mtQ {i : Nat} (h : ρ[i]? = some (.mo (mtQ K C st t d))) : EvH B F0 ρ (tVar i) (isTown K C st) := fun F H σ c Q q => by
  obtain ⟨w, o⟩ := c.own
  obtain ⟨_, v, h1, rfl, _, dx, kv, h4, h5, h6⟩ := o.sl i _ h
  exact ⟨_, h1, q _ F H (Gr.refl c.i) ⟨t, dx, d, kv, rfl, h4, h5, kvAll_mono c.i h6⟩⟩
theorem ev_town {i : Nat} (h : ρ[i]? = some (.mo (mtQ K C st t d))) : ∀ F H σ, Cfg B F0 F H σ ρ → σ[i]? = some (some (.ref t)) ∧ F t = none ∧ F d = none ∧ ∃ dx kv, H t = some (.ins C dx (tf st.many st.built d)) ∧ H d = some (.dK kv) ∧ KvAll K e0 F kv (heldD st.held) := fun F H σ c => by
  obtain ⟨w, o⟩ := c.own
  obtain ⟨_, v, h1, rfl, ea, dx, kv, h4, h5, h6⟩ := o.sl i _ h
  exact ⟨h1, (o.at_ i t (by rw [ea]; simp)).1, (o.at_ i d (by rw [ea]; simp)).1, dx, kv, h4, h5, h6⟩
theorem put_held {h : List (Int × Int × Int)} {b x y : Int} (hb : ∀ p ∈ h, p.1 < b) : putI (heldD h) b (pairD (x, y)) = heldD (h ++ [(b, x, y)]) := by
  unfold putI
  have : ((heldD h).any fun p => p.1 == b) = false := by
    rw [List.any_eq_false]
    intro p hp
    obtain ⟨q, hq, rfl⟩ := List.mem_map.mp hp
    have := hb q hq
    simp
    omega
  rw [if_neg (by rw [this]; simp)]
  unfold heldD
  rw [List.map_append]
  rfl
/-- self.held[self.built] = (x, y) -/
theorem q_put_held (cl : Cls K C) (nH : NoAttr K C "held") {i : Nat} {b x y : Int} (h : ρ[i]? = some (.mo (mtQ K C st t d))) (hv : Ev B F0 ρ te (nwd K B (pairD (x, y)))) (hk : EvH B F0 ρ tb (dat K (.int b))) (hb : ∀ p ∈ st.held, p.1 < b) (hz : st.held.length < 100000)
    (n : At B F0 (u D) (ρ.set i (.mo (mtQ K C { st with held := st.held ++ [(b, x, y)] } t d)))) : At B F0 (tSeq (sDPut (tFld K (tVar i) "held") tb te) u D) ρ := fun F H σ c => by
  refine hv F H σ c _ fun v F1 H1 g1 p1 => ?_
  have c1 := c.go g1
  obtain ⟨es, ft, fd, dx, kv, h4, h5, h6⟩ := ev_town h F1 H1 σ c1
  refine ⟨_, es, t, C, dx, _, _, rfl, h4, cl, nH, tf_held, hk F1 H1 σ c1 _ fun z F2 H2 g2 p2 => ?_⟩
  cases p2
  have c2 := c1.go g2
  obtain ⟨_, ft2, fd2, dx2, kv2, h42, h52, h62⟩ := ev_town h F2 H2 σ c2
  refine ⟨d, _, rfl, .inl ⟨kv2, Sum.inl b, h52, rfl, sz_lt (by rw [kv_len h62]; unfold heldD; rw [List.length_map]; exact hz), rfl⟩, ?_⟩
  have ntd : t ≠ d := ne_of h42 h52 (by intro z; cases z)
  refine n F2 _ σ (c2.chF h st_mtQ fun v' as ev m => ?_)
  obtain ⟨rfl, rfl, dx', kv', m1, m2, m3⟩ := m
  rw [h42] at m1; cases m1
  rw [h52] at m2; cases m2
  refine ⟨⟨rfl, rfl, dx2, _, by rw [upd_ne ntd]; exact h42, upd_same, ?_⟩, ⟨Same.refl _, fun a o e => ?_, fun a o e1 e2 => ?_, fun a o _ _ z => z, fun _ _ e _ => e⟩, fun a ha => ?_⟩
  · show KvAll K e0 F2 _ (heldD (st.held ++ [(b, x, y)]))
    rw [← put_held hb]
    exact kv_put (nw_mono (B' := e0) (fun _ _ z => nomatch z) g2.f p1) h62
  · rw [upd_ne (ne_of_none e fd2)]; exact c2.i a o e
  · rw [upd_ne (fun z => e1 (by rw [z]; simp))]; exact e2
  · rcases List.mem_cons.mp ha with rfl | ha
    · exact ⟨_, by rw [upd_ne ntd]; exact h42, rfl⟩
    · rw [List.mem_singleton.mp ha]; exact ⟨_, upd_same, rfl⟩
/-- self.built += k -/
theorem q_built (cl : Cls K C) (nB : NoAttr K C "built") {i : Nat} {k : Int} (h : ρ[i]? = some (.mo (mtQ K C st t d))) (hv : EvH B F0 ρ te (dat K (.int k)))
    (n : At B F0 (u D) (ρ.set i (.mo (mtQ K C { st with built := st.built + k } t d)))) : At B F0 (tSeq (sFldAug K (tVar i) te rAdd "built") u D) ρ := fun F H σ c => by
  obtain ⟨es, ft, fd, dx, kv, h4, h5, h6⟩ := ev_town h F H σ c
  refine ⟨_, es, t, C, dx, _, _, rfl, h4, cl, nB, tf_built, hv F H σ c _ fun z F2 H2 g2 p2 => ?_⟩
  cases p2
  have c2 := c.go g2
  obtain ⟨_, ft2, fd2, dx2, kv2, h42, h52, h62⟩ := ev_town h F2 H2 σ c2
  refine ⟨_, _, rfl, rfl, dx2, _, h42, (by show 3 < 1000; decide), ?_⟩
  have ntd : t ≠ d := ne_of h42 h52 (by intro z; cases z)
  refine n F2 _ σ (c2.chF h st_mtQ fun v' as ev m => ?_)
  obtain ⟨rfl, rfl, dx', kv', m1, m2, m3⟩ := m
  rw [h42] at m1; cases m1
  rw [h52] at m2; cases m2
  refine ⟨⟨rfl, rfl, dx2, kv2, ?_, by rw [upd_ne ntd.symm]; exact h52, h62⟩, ⟨Same.refl _, fun a o e => ?_, fun a o e1 e2 => ?_, fun a o _ _ z => z, fun _ _ e _ => e⟩, fun a ha => ?_⟩
  · rw [upd_same, tf_put]
  · rw [upd_ne (ne_of_none e ft2)]; exact c2.i a o e
  · rw [upd_ne (fun z => e1 (by rw [z]; simp))]; exact e2
  · rcases List.mem_cons.mp ha with rfl | ha
    · exact ⟨_, upd_same, rfl⟩
    · rw [List.mem_singleton.mp ha]; exact ⟨_, by rw [upd_ne ntd.symm]; exact h52, rfl⟩
end
/-- the methods that change a town -/
structure TChg (K : PySem.W.Frag) (C : Addr) (st' : TSt) (t d : Addr) (H H' : Hp) : Prop where
  h : ∀ a o, a ≠ t → a ≠ d → H a = some o → H' a = some o
  t : ∃ dx kv, H' t = some (.ins C dx (tf st'.many st'.built d)) ∧ H' d = some (.dK kv) ∧ KvAll K e0 H' kv (heldD st'.held)
/-- what a changing method is handed -/
def TArg (K : PySem.W.Frag) (C : Addr) (st : TSt) (t d : Addr) (fs : List Pd) (H : Hp) (vs : List V) : Prop := ∃ ws, vs = .ref t :: ws ∧ (∃ dx kv, H t = some (.ins C dx (tf st.many st.built d)) ∧ H d = some (.dK kv) ∧ KvAll K e0 H kv (heldD st.held)) ∧ AOk fs (hid t d H) ws
def spBuild (K : PySem.W.Frag) (C CP CM : Addr) : Sp := fun vs H Q E => ∃ (st : TSt) (t d : Addr) (v1 v2 : V), TArg K C st t d [kdP K v1, kdP K v2] H vs ∧ TOk st ∧
  (∀ a b, v1 = .int a → v2 = .int b → 0 ≤ a → a < st.many → 0 ≤ b → b < st.many → a ≠ b → st.held.length < 60 → ∀ H', TChg K C { many := st.many, built := st.built + 1, held := st.held ++ [(st.built, a, b)] } t d H H' → Q (.int st.built) H') ∧
  ((amongB 0 (st.many - 1) v1 = false ∨ amongB 0 (st.many - 1) v2 = false ∨ v1 = v2) → ∀ H', TChg K C st t d H H' → E (.ref CP) none H') ∧
  (amongB 0 (st.many - 1) v1 = true → amongB 0 (st.many - 1) v2 = true → v1 ≠ v2 → st.held.length = 60 → ∀ H', TChg K C st t d H H' → E (.ref CM) none H')
def spDig (K : PySem.W.Frag) (C CS : Addr) : Sp := fun vs H Q E => ∃ (st : TSt) (t d : Addr) (v1 : V), TArg K C st t d [kdP K v1] H vs ∧ TOk st ∧
  (∀ s, v1 = .int s → s ∈ st.held.map (·.1) → ∀ H', TChg K C { st with held := st.held.filter fun p => decide (p.1 ≠ s) } t d H H' → Q .non H') ∧
  ((∀ s, v1 = .int s → s ∉ st.held.map (·.1)) → ∀ H', TChg K C st t d H H' → E (.ref CS) none H')
def spInit (K : PySem.W.Frag) (C CB : Addr) : Sp := fun vs H Q E => ∃ (x dx : Addr) (v : V), vs = [.ref x, v] ∧ H x = some (.ins C dx []) ∧ Kd K H v ∧
  (∀ n, v = .int n → 1 ≤ n → n ≤ 16 → ∀ d H', H d = none → (∀ a o, a ≠ x → H a = some o → H' a = some o) → H' x = some (.ins C dx (tf n 0 d)) → H' d = some (.dK []) → Q .non H') ∧ (amongB 1 16 v = false → ∀ H', Same H H' → E (.ref CB) none H')
section
variable {K : PySem.W.Frag} {B F0 : Hp} {ρ : List Sl} {te ta tb tc : TE} {d0 e : PyData} {D : Ends} {u : TS} {C t d : Addr} {st st' : TSt}
/-- the end of a changing method: what stands at the slots is told of the heap -/
theorem chg_of {H0 F H : Hp} {σ : L2.St} {i : Nat} (h : ρ[i]? = some (.mo (mtQ K C st t d))) (c : Cfg (hid t d H0) (hid t d H0) F H σ ρ) : TChg K C st t d H0 H := by
  obtain ⟨_, _, _, dx, kv, h1, h2, h3⟩ := ev_town h F H σ c
  exact ⟨fun a o n1 n2 e => c.gr.h a o (hid_at e n1 n2), dx, kv, h1, h2, kvAll_mono c.i h3⟩
theorem ev_isKd {i : Nat} {v : V} (h : ρ[i]? = some (.fz (kdP K v))) : Ev B F0 ρ (tVar i) (kdP K v) := ev_var h
/-- an int that came as a thing of any kind -/
theorem ev_kdInt {i : Nat} {n : Int} (h : ρ[i]? = some (.fz (kdP K (.int n)))) : Ev B F0 ρ (tVar i) (nwd K B (.int n)) := (ev_var h).imp fun F v p => by rw [p.1]; exact .int n
/-- need_place on the town's own -/
theorem q_need {CP : Addr} {E : XK} {i j : Nat} {v : V} (h : ρ[i]? = some (.mo (mtQ K C st t d))) (hj : ρ[j]? = some (.fz (kdP K v)))
    (k1 : amongB 0 (st.many - 1) v = true → At B F0 (u D) ρ) (k2 : amongB 0 (st.many - 1) v = false → ∀ F H σ, Cfg B F0 F H σ ρ → E (.ref CP) none H) :
    At B F0 (tSeq (tDrop (tMeth C "need_place" (spNeed K C CP) [] E (tVar i) (tCons (tVar j) tNil))) u D) ρ := fun F H σ c => by
  obtain ⟨es, ft, fd, dx, kv, h4, h5, h6⟩ := ev_town h F H σ c
  obtain ⟨w, o⟩ := c.own
  obtain ⟨_, v', e1, e2, e3⟩ := o.sl j _ hj
  refine ⟨_, es, t, dx, _, rfl, h4, tf_no (by decide +kernel) (by decide +kernel) (by decide +kernel), v', e1, st, v, ?_, fun q H' s => ?_, fun q H' s => ?_⟩
  · exact ⟨_, _, rfl, ⟨t, dx, d, kv, rfl, h4, h5, kvAll_mono c.i h6⟩, _, _, rfl, st_kdP _ _ _ c.i ⟨e2, e3⟩, rfl⟩
  · exact k1 q F H' σ (c.go (gr_call c.i s))
  · exact k2 q F H' σ (c.go (gr_call c.i s))
/-- len(self.held) -/
theorem ev_lenHeld (cl : Cls K C) (nH : NoAttr K C "held") (ha : EvH B F0 ρ ta (isTown K C st)) : Ev B F0 ρ (tCB (fun xs H Q => ∃ a kvs, xs = [V.ref a] ∧ H a = some (.dK kvs) ∧ Q (.int kvs.length) H) (tCons (tFld K ta "held") tNil)) (nwd K B (.int st.held.length)) := fun F H σ c Q q =>
  ha F H σ c _ fun v F' H' g ⟨t, dx, d, kv, e, h, h2, h3⟩ => ⟨t, C, dx, _, _, e, h, cl, nH, tf_held, d, kv, rfl, h2, by
    rw [kv_len h3, show (heldD st.held).length = st.held.length by simp [heldD]]
    exact q _ F' H' g (.int _)⟩
end
section
variable {P : Program} {w : World} {K : PySem.W.Frag} {mg : Str → Option Value} {base : Heap} {C CP CM CB CS : Addr}
theorem among_int {lo hi : Int} {v : V} (h : amongB lo hi v = true) : ∃ i, v = .int i ∧ lo ≤ i ∧ i ≤ hi := by
  cases v with
  | int i => exact ⟨i, rfl, by simpa [amongB] using h⟩
  | _ => simp [amongB] at h
theorem ok_build (Z : Zs mg) (T : TownTxt K mg C) (X_BadPlace : XCls K mg "BadPlace" CP) (X_TooMany : XCls K mg "TooMany" CM) (M_need_place : OkM P w K mg base (L2.CX P w) 2 C "need_place" ["self", "thing"] (spNeed K C CP))
    (D : Mfn K C "build" "Town.build" s_Town_build ["self", "one", "other"]) : OkM P w K mg base (L2.CX P w) 3 C "build" ["self", "one", "other"] (spBuild K C CP CM) := by
  obtain ⟨f, fd, F, hm, hb⟩ := D.ex
  refine ⟨f, fd, F.okX sc_Town_build (fun vs H Q E h => ?_) (fun cdv A outer s H vs Q E hr h => ?_), hm, T.cl, hb⟩
  · obtain ⟨st, t, d, v1, v2, ⟨ws, rfl, _, h⟩, _⟩ := h
    rw [List.length_cons, aok_len h]; rfl
  · obtain ⟨st, t, d, v1, v2, ⟨ws, rfl, ⟨dx, kv, h1, h2, h3⟩, h4⟩, ok, k1, k2, k3⟩ := h
    obtain ⟨tM, gM⟩ := T.c_MOST_STREETS
    refine ⟨_, (pss_cons (ps_expr (ok_methP (takes_of rfl rfl rfl rfl) M_need_place (by exact hr.mono (by decide)) (pv 0) (pa_cons (pv 1) pa_nil)))
    (pss_cons (ps_expr (ok_methP (takes_of rfl rfl rfl rfl) M_need_place (by exact hr.mono (by decide)) (pv 0) (pa_cons (pv 2) pa_nil)))
    (pss_cons (ps_if (pt_cmpR op_eq (pv 1) (pv 2) (nomark _)) (pss_one (ps_raise rfl (takes_of rfl rfl rfl rfl) (pmk_own PySem.F.excBase_ValueError X_BadPlace.x X_BadPlace.g X_BadPlace.k (raises_own X_BadPlace.b X_BadPlace.t) rfl))) pss_nil)
    (pss_cons (ps_if (pt_cmpR op_eq (pe_callB call_lenD (by rfl) Z.len PySem.boot_len (pa_cons (kpe_fld K (pv 0) rfl) pa_nil)) (glob_int rfl T.c_MOST_STREETS) (nomark _)) (pss_one (ps_raise rfl (takes_of rfl rfl rfl rfl) (pmk_own PySem.F.excBase_ValueError X_TooMany.x X_TooMany.g X_TooMany.k (raises_own X_TooMany.b X_TooMany.t) rfl))) pss_nil)
    (pss_cons (ps_dput (by exact hu_of hr) (kpe_fld K (pv 0) rfl) (kpe_fld K (pv 0) rfl) (pe_tup (pa_cons (pv 1) (pa_cons (pv 2) pa_nil))) rfl)
    (pss_cons (ps_fldaug (pv 0) pe_int in_add)
    (pss_one (ps_ret (pe_op op_sub (kpe_fld K (pv 0) rfl) pe_int))))))))), ?_⟩
    refine (?_ : At (hid t d H) (hid t d H) _ _) _ _ _ (cfg_town (st := st) h1 h2 h3 h4 (stabC st_kdP (stab1 st_kdP)) (by simp))
    walk_at "go"
    refine q_need rfl rfl (fun c1 => ?_) (fun c1 F H1 σ c => k2 (.inl c1) H1 (chg_of (i := 0) rfl c))
    refine q_need rfl rfl (fun c2 => ?_) (fun c2 F H1 σ c => k2 (.inr (.inl c2)) H1 (chg_of (i := 0) rfl c))
    obtain ⟨a, rfl, a1, a2⟩ := among_int c1
    obtain ⟨b, rfl, b1, b2⟩ := among_int c2
    refine q_when (c := decide (a = b)) (et_test (K := K) (Ev.hd (ev_eqI (Ev.hd (ev_kdInt rfl)) (Ev.hd (ev_kdInt rfl))))) (fun c3 => ?_) (fun c3 => ?_)
    · have c4 : a = b := by simpa using c3
      exact fun F H1 σ c => k2 (.inr (.inr (by rw [c4]))) H1 (chg_of (i := 0) rfl c)
    have c4 : a ≠ b := by simpa using c3
    refine q_when (c := decide ((st.held.length : Int) = 60)) (et_test (K := K) (Ev.hd (ev_eqI (Ev.hd (ev_lenHeld T.cl T.nH (evh_mtQ rfl))) (Ev.hd ev_int)))) (fun c5 => ?_) (fun c5 => ?_)
    · have c6 : (st.held.length : Int) = 60 := by simpa using c5
      exact fun F H1 σ c => k3 c1 c2 (fun z => c4 (V.int.inj z)) (by omega) H1 (chg_of (i := 0) rfl c)
    have c6 : ¬ (st.held.length : Int) = 60 := by simpa using c5
    have few := ok.few
    refine q_put_held T.cl T.nH (i := 0) (b := st.built) (x := a) (y := b) rfl (ev_tup (eas_cons (ev_kdInt rfl) (eas_cons (ev_kdInt rfl) eas_nil)) (by simp)) (Ev.hd (ev_built T.cl T.nB (evh_mtQ rfl))) (fun p hp => (ok.rng p hp).2.1) (by omega) ?_
    refine q_built T.cl T.nB (i := 0) (k := 1) rfl (Ev.hd ev_int) ?_
    refine fun F H1 σ c => ?_
    refine (ev_ii (K := K) (a := st.built + 1) (b := 1) (Ev.hd (ev_built (st := { many := st.many, built := st.built + 1, held := st.held ++ [(st.built, a, b)] }) T.cl T.nB (evh_mtQ (t := t) (d := d) rfl))) (Ev.hd ev_int) rfl) F H1 σ c _ fun v F2 H2 g p => ?_
    cases p
    have e : st.built + 1 - 1 = st.built := by omega
    rw [e]
    exact k1 a b rfl rfl a1 (by omega) b1 (by omega) c4 (by omega) H2 (chg_of (i := 0) rfl (c.go g))
end
section
variable {K : PySem.W.Frag} {B F0 : Hp} {ρ : List Sl} {te ta tb tc : TE} {d0 e : PyData} {D : Ends} {u : TS} {C t d : Addr} {st st' : TSt}
theorem drop_held {s : Int} : ∀ {h : List (Int × Int × Int)} {F : Hp} {kv : List (Key × V)}, KvAll K e0 F kv (heldD h) → KvAll K e0 F (dropK kv (Sum.inl s : Key)) (heldD (h.filter fun p => decide (p.1 ≠ s)))
  | [], _, _, .nil => .nil
  | p :: r, _, _, .cons hn a => by
    have ih := drop_held (s := s) a
    by_cases e : p.1 = s
    · rw [dropK_pos (by show (Sum.inl p.1 : Key) = Sum.inl s; rw [e]), List.filter_cons, if_neg (by simp [e])]
      exact ih
    · rw [dropK_neg (by exact fun q => e (Sum.inl.inj q)), List.filter_cons, if_pos (by simp [e])]
      exact .cons hn ih
theorem look_mem {s : Int} : ∀ {h : List (Int × Int × Int)}, (lookI (heldD h) s).isSome = decide (s ∈ h.map (·.1))
  | [] => by simp [lookI, heldD]
  | p :: r => by
    have ih := look_mem (s := s) (h := r)
    unfold lookI heldD at ih ⊢
    rw [List.map_cons, List.find?_cons]
    by_cases e : p.1 = s
    · rw [show ((p.1, pairD p.2).1 == s) = true from by simp [e]]
      simp [e]
    · rw [show ((p.1, pairD p.2).1 == s) = false from beq_eq_false_iff_ne.mpr e]
      have e' : ¬ s = p.1 := fun z => e z.symm
      simp only [List.map_cons, List.mem_cons, e', false_or]
      exact ih
/-- self.held.pop(s) -/
theorem at_pop_held (cl : Cls K C) (nH : NoAttr K C "held") {i : Nat} {s : Int} (h : ρ[i]? = some (.mo (mtQ K C st t d))) (hk : EvH B F0 ρ tb (dat K (.int s))) (hm : s ∈ st.held.map (·.1))
    (n : At B F0 D.nx (ρ.set i (.mo (mtQ K C { st with held := st.held.filter fun p => decide (p.1 ≠ s) } t d)))) : At B F0 (tDrop (tDPop1 (tFld K (tVar i) "held") tb) D) ρ := fun F H σ c => by
  obtain ⟨es, ft, fd, dx, kv, h4, h5, h6⟩ := ev_town h F H σ c
  refine ⟨_, es, t, C, dx, _, _, rfl, h4, cl, nH, tf_held, d, rfl, .inl ⟨kv, .inl h5⟩, hk F H σ c _ fun z F2 H2 g p => ?_⟩
  cases p
  have c2 := c.go g
  obtain ⟨_, ft2, fd2, dx2, kv2, h42, h52, h62⟩ := ev_town h F2 H2 σ c2
  have hs : (lookI (heldD st.held) s).isSome = true := by rw [look_mem]; exact decide_eq_true hm
  rcases kv_look (k := s) h62 with ⟨q1, _⟩ | ⟨v, dd, q1, q2, _⟩
  · rw [q1] at hs; cases hs
  · refine ⟨kv2, Sum.inl s, v, h52, rfl, q2, ?_⟩
    have ntd : t ≠ d := ne_of h42 h52 (by intro z; cases z)
    refine n F2 _ σ (c2.chF h st_mtQ fun v' as ev m => ?_)
    obtain ⟨rfl, rfl, dx', kv', m1, m2, m3⟩ := m
    rw [h42] at m1; cases m1
    rw [h52] at m2; cases m2
    refine ⟨⟨rfl, rfl, dx2, _, by rw [upd_ne ntd]; exact h42, upd_same, drop_held h62⟩, ⟨Same.refl _, fun a o e => ?_, fun a o e1 e2 => ?_, fun a o _ _ z => z, fun _ _ e _ => e⟩, fun a ha => ?_⟩
    · rw [upd_ne (ne_of_none e fd2)]; exact c2.i a o e
    · rw [upd_ne (fun z => e1 (by rw [z]; simp))]; exact e2
    · rcases List.mem_cons.mp ha with rfl | ha
      · exact ⟨_, by rw [upd_ne ntd]; exact h42, rfl⟩
      · rw [List.mem_singleton.mp ha]; exact ⟨_, upd_same, rfl⟩
end
section
variable {P : Program} {w : World} {K : PySem.W.Frag} {mg : Str → Option Value} {base : Heap} {C CP CM CB CS : Addr}
theorem ok_dig (Z : Zs mg) (T : TownTxt K mg C) (X_BadStreet : XCls K mg "BadStreet" CS) (G_is_among : Ok P w K mg base CX0 1 "is_among" ["thing", "least", "most"] (spAmong K))
    (D : Mfn K C "dig" "Town.dig" s_Town_dig ["self", "street"]) : OkM P w K mg base (L2.CX P w) 2 C "dig" ["self", "street"] (spDig K C CS) := by
  obtain ⟨f, fd, F, hm, hb⟩ := D.ex
  refine ⟨f, fd, F.okX sc_Town_dig (fun vs H Q E h => ?_) (fun cdv A outer s H vs Q E hr h => ?_), hm, T.cl, hb⟩
  · obtain ⟨st, t, d, v1, ⟨ws, rfl, _, h⟩, _⟩ := h
    rw [List.length_cons, aok_len h]; rfl
  · obtain ⟨st, t, d, v1, ⟨ws, rfl, ⟨dx, kv, h1, h2, h3⟩, h4⟩, ok, k1, k2⟩ := h
    refine ⟨_, (pss_cons (ps_if (PW.pt (pw_or (pt_not (pt_val (ok_call G_is_among (by exact hr.mono (by decide)) rfl (pa_cons (pv 1) (pa_cons pe_int (pa_cons (pe_op op_sub (kpe_fld K (pv 0) rfl) pe_int) pa_nil)))))) (pw_or1 (pt_cmp (pc_dnotin (by exact hu_of hr) (pv 1) (kpe_fld K (pv 0) rfl)))))) (pss_one (ps_raise rfl (takes_of rfl rfl rfl rfl) (pmk_own PySem.F.excBase_ValueError X_BadStreet.x X_BadStreet.g X_BadStreet.k (raises_own X_BadStreet.b X_BadStreet.t) rfl))) pss_nil)
    (pss_one (ps_expr (pe_dpop1 (kpe_fld K (pv 0) rfl) (pv 1) ⟨rfl, by rfl, rfl, rfl⟩)))), ?_⟩
    refine (?_ : At (hid t d H) (hid t d H) _ _) _ _ _ (cfg_town (st := st) h1 h2 h3 h4 (stab1 st_kdP) (by simp))
    walk_at "go"
    have among : EvT (hid t d H) (hid t d H) (Sl.mo (mtQ K C st t d) :: enterR 1 [kdP K v1]) (tNot (tB (tCall (spAmong K) [] E0 (tCons (tVar 1) (tCons (tC (.int 0)) (tCons (tOp (rI0 fun i j => .int (i - j)) (tFld K (tVar 0) "built") (tC (.int 1))) tNil)))))) (!amongB 0 (st.built - 1) v1) :=
      et_not (et_B (K := K) (Ev.hd (ev_call (α := V × Int × Int) (v1, 0, st.built - 1) trivial (ea_cons st_kdP (kd_var rfl) (ea_cons st_dat (Ev.hd ev_int) (ea_cons st_dat (Ev.hd (ev_ii (Ev.hd (ev_built T.cl T.nB (evh_mtQ rfl))) (Ev.hd ev_int) rfl)) ea_nil))))))
    cases am : amongB 0 (st.built - 1) v1 with
    | false =>
      refine q_when (c := true) (et_is (et_or (c := true) among fun z => ?_) (by rw [am]; rfl)) (fun _ => ?_) (fun z => by cases z)
      · rw [am] at z; cases z
      · refine fun F H1 σ c => k2 (fun s e m => ?_) H1 (chg_of (i := 0) rfl c)
        subst e
        obtain ⟨p, hp, rfl⟩ := List.mem_map.mp m
        have r := ok.rng p hp
        have : amongB 0 (st.built - 1) (.int p.1) = true := by simp [amongB]; omega
        rw [this] at am; cases am
    | true =>
      obtain ⟨n, rfl, n1, n2⟩ := among_int am
      refine q_when (c := !decide (n ∈ st.held.map (·.1))) (et_is (et_or (c := !decide (n ∈ st.held.map (·.1))) among fun _ => ?_) (by rw [am]; rfl)) (fun c1 => ?_) (fun c1 => ?_)
      · have h := ev_dnotin (K := K) (B := hid t d H) (F0 := hid t d H) (ρ := Sl.mo (mtQ K C st t d) :: enterR 1 [kdP K (.int n)]) (Ev.hd (ev_kdInt (i := 1) rfl)) (evh_held T.cl T.nH (evh_mtQ (i := 0) rfl))
        rw [look_mem] at h
        exact et_B (K := K) (Ev.hd h)
      · have c2 : n ∉ st.held.map (·.1) := by simpa using c1
        exact fun F H1 σ c => k2 (fun s e => by cases e; exact c2) H1 (chg_of (i := 0) rfl c)
      · have c2 : n ∈ st.held.map (·.1) := by simpa using c1
        refine at_pop_held T.cl T.nH (i := 0) rfl (Ev.hd (ev_kdInt rfl)) c2 ?_
        exact fun F H1 σ c => k1 n rfl c2 H1 (chg_of (i := 0) rfl c)
end

theorem putB {n b : Int} : putF "built" (.int b) (putF "many" (.int n) []) = ([("many", V.int n), ("built", V.int b)] : List (Str × V)) := by
  show (if ("many" : Str) = "built" then _ else (("many" : Str), V.int n) :: [(("built" : Str), V.int b)]) = _
  rw [if_neg ks1]
theorem putH {n b : Int} {d : Addr} : putF "held" (.ref d) ([("many", V.int n), ("built", V.int b)] : List (Str × V)) = tf n b d := by
  show (if ("many" : Str) = "held" then _ else (("many" : Str), V.int n) :: (if ("built" : Str) = "held" then _ else (("built" : Str), V.int b) :: [(("held" : Str), V.ref d)])) = _
  rw [if_neg ks2, if_neg ks3]
  rfl
section
variable {P : Program} {w : World} {K : PySem.W.Frag} {mg : Str → Option Value} {base : Heap} {C CP CM CB CS : Addr}
theorem ok_init (T : TownTxt K mg C) (X_BadCount : XCls K mg "BadCount" CB) (G_is_among : Ok P w K mg base CX0 1 "is_among" ["thing", "least", "most"] (spAmong K)) {f : Addr} {fd : FuncData} (F : Fun K "__init__" "Town.__init__" s_Town___init f fd) :
    FnOk P w K mg base (L2.CX P w) 2 f fd ["self", "many"] (spInit K C CB) := by
  refine F.okX sc_Town___init (fun vs H Q E h => ?_) (fun cdv A outer s H vs Q E hr h => ?_)
  · obtain ⟨x, dx, v, rfl, _⟩ := h
    rfl
  · obtain ⟨x, dx, v, rfl, hx, kd, k1, k2⟩ := h
    refine ⟨_, (pss_cons (ps_if (pt_not (pt_val (ok_call G_is_among (by exact hr.mono (by decide)) rfl (pa_cons (pv 1) (pa_cons pe_int (pa_cons (glob_int rfl T.c_MOST_PLACES) pa_nil)))))) (pss_one (ps_raise rfl (takes_of rfl rfl rfl rfl) (pmk_own PySem.F.excBase_ValueError X_BadCount.x X_BadCount.g X_BadCount.k (raises_own X_BadCount.b X_BadCount.t) rfl))) pss_nil)
    (pss_cons (ps_fld (pv 0) (pv 1) rfl)
    (pss_cons (ps_fld (pv 0) pe_int rfl)
    (pss_one (ps_fld (pv 0) pe_dnewK rfl))))), ?_⟩
    walk_at "go"
    refine ⟨_, rfl, (v, 1, 16), trivial, ⟨_, _, rfl, ⟨rfl, kd⟩, _, _, rfl, .int 1, _, _, rfl, .int 16, rfl⟩, fun r H1 s1 n => ?_⟩
    cases n
    refine ⟨_, rfl, ?_⟩
    cases am : amongB 1 16 v with
    | false => exact iteT (k2 am H1 s1)
    | true =>
      refine iteF ?_
      obtain ⟨n, rfl, n1, n2⟩ := among_int am
      refine ⟨_, rfl, _, rfl, x, C, dx, _, rfl, s1 _ _ hx, T.cl, T.nM, (by decide), ?_⟩
      refine ⟨_, rfl, x, C, dx, _, rfl, upd_same, T.cl, T.nB, (by show 1 < 1000; decide), ?_⟩
      intro d hd
      have nxd : x ≠ d := fun z => by rw [z, upd_same] at hd; cases hd
      refine ⟨_, rfl, x, C, dx, _, rfl, (by rw [upd_ne nxd]; exact upd_same), T.cl, T.nH, (by rw [putB]; show 2 < 1000; decide), ?_⟩
      have hd1 : H1 d = none := by
        rw [upd_ne nxd.symm, upd_ne nxd.symm] at hd
        exact hd
      refine k1 n rfl n1 n2 d _ (s1.free hd1) (fun a o hne e => ?_) ?_ ?_
      · rw [upd_ne hne, upd_ne (ne_of_none (s1 _ _ e) hd1), upd_ne hne, upd_ne hne]
        exact s1 _ _ e
      · rw [upd_same]
        rw [putB, putH]
      · rw [upd_ne nxd.symm, upd_same]
end
section
variable {K : PySem.W.Frag} {B F0 : Hp} {ρ : List Sl} {te ta tb tc : TE} {d0 e : PyData} {D : Ends} {u : TS} {C CB CP CM CS : Addr} {st st' : TSt} {E : XK}
/-! the town as an owned thing of a def's: made, built at, dug at -/
theorem q_make {i : Nat} {n : Int} (ha : EvH B F0 ρ ta (dat K (.int n))) (h1 : 1 ≤ n) (h2 : n ≤ 16) (k : At B F0 (u D) (ρ.set i (mt K C { many := n, built := 0, held := [] }))) :
    At B F0 (tSeq (tAsg (tMake C (spInit K C CB) [] E (tCons ta tNil)) (gName i)) u D) ρ := fun F H σ c => ha F H σ c _ fun v F1 H1 g1 p => by
  cases p
  intro x dx nx ndx nex
  have c1 := c.go g1
  refine ⟨x, dx, .int n, rfl, upd_same, kd_dp (K := K) (.int n), fun m em _ _ d H2 hd hs hx hk => ⟨rfl, ?_⟩, fun z => absurd z (by simp [amongB]; omega)⟩
  cases em
  have nd : H1 d = none := by
    have n1 : d ≠ x := fun z => by rw [z, upd_same] at hd; cases hd
    rw [upd_ne n1] at hd
    have n2 : d ≠ dx := fun z => by rw [z, upd_same] at hd; cases hd
    rw [upd_ne n2] at hd
    exact hd
  have s2 : Same H1 H2 := fun a o e => hs a o (ne_of_none e nx) (by rw [upd_ne (ne_of_none e nx), upd_ne (ne_of_none e ndx)]; exact e)
  have g2 : Gr F1 H1 F1 H2 := gr_call g1.i s2
  refine k F1 H2 _ (c1.setN (as := [x, d]) st_mt g2 ⟨x, dx, d, [], rfl, rfl, hx, hk, .nil⟩ fun a ha => ?_)
  rcases List.mem_cons.mp ha with rfl | ha
  · exact ⟨g1.i.free nx, nx, _, hx, rfl⟩
  · rw [List.mem_singleton.mp ha]
    exact ⟨g1.i.free nd, nd, _, hk, rfl⟩
theorem chg_ch {F H H2 : Hp} {t d : Addr} (i : Same F H) (ft : F t = none) (fd : F d = none) (h : TChg K C st' t d H H2) : ∃ F2, Ch [t, d] F H F2 H2 ∧ ∃ dx kv, H2 t = some (.ins C dx (tf st'.many st'.built d)) ∧ H2 d = some (.dK kv) ∧ KvAll K e0 F2 kv (heldD st'.held) := by
  obtain ⟨hh, dx, kv, h1, h2, h3⟩ := h
  have iF : Same F H2 := fun a o e => hh a o (ne_of_none e ft) (ne_of_none e fd) (i a o e)
  -- the pairs of the town are taken as standing still
  have key : ∀ {hl : List (Int × PyData)} {kv : List (Key × V)}, KvAll K e0 H2 kv hl → (∀ p ∈ hl, flatD p.2 = true) → ∀ F1, Gr F H2 F1 H2 → ∃ F2, Gr F H2 F2 H2 ∧ Same F1 F2 ∧ KvAll K e0 F2 kv hl := by
    intro hl kv a
    induction a with
    | nil => exact fun _ F1 g => ⟨F1, g, Same.refl _, .nil⟩
    | @cons k v dd kv kvs hn _ ih =>
      intro fl F1 g
      obtain ⟨F2, g2, s2, n2⟩ := dp_prom (B := e0) (nw_dp hn) (fl (k, dd) (List.mem_cons.mpr (.inl rfl))) F1 g
      obtain ⟨F3, g3, s3, n3⟩ := ih (fun p hp => fl p (List.mem_cons.mpr (.inr hp))) F2 g2
      exact ⟨F3, g3, s2.trans s3, .cons (nw_mono (Same.refl _) s3 n2) n3⟩
  obtain ⟨F2, g2, _, n2⟩ := key h3 (fun p hp => by
    obtain ⟨q, _, rfl⟩ := List.mem_map.mp hp
    rfl) F (Gr.refl iF)
  refine ⟨F2, ⟨g2.f, g2.i, fun a o hn e => hh a o (fun z => hn (by rw [z]; simp)) (fun z => hn (by rw [z]; simp)) e, fun a o e ht z => ?_, g2.t⟩, dx, kv, h1, h2, n2⟩
  by_cases ea : a = t
  · subst ea
    exact g2.n _ _ h1 rfl z
  · by_cases ed : a = d
    · subst ed
      exact g2.n _ _ h2 rfl z
    · exact g2.n a o (hh a o ea ed e) ht z
/-- an owned town's slot, opened -/
theorem mt_open {i : Nat} (h : ρ[i]? = some (mt K C st)) : ∀ F H σ, Cfg B F0 F H σ ρ → ∃ t d dx kv, σ[i]? = some (some (.ref t)) ∧ F t = none ∧ F d = none ∧ H t = some (.ins C dx (tf st.many st.built d)) ∧ H d = some (.dK kv) ∧ KvAll K e0 F kv (heldD st.held) := fun F H σ c => by
  obtain ⟨w, o⟩ := c.own
  obtain ⟨_, v, h1, t, dx, d, kv, rfl, ea, h4, h5, h6⟩ := o.sl i _ h
  exact ⟨t, d, dx, kv, h1, (o.at_ i t (by rw [ea]; simp)).1, (o.at_ i d (by rw [ea]; simp)).1, h4, h5, h6⟩
theorem cfg_chg {F H H2 : Hp} {σ : L2.St} {i : Nat} {t d : Addr} (h : ρ[i]? = some (mt K C st)) (c : Cfg B F0 F H σ ρ) (es : σ[i]? = some (some (.ref t))) (ft : F t = none) (fd : F d = none) {dx : Addr} (ht : H t = some (.ins C dx (tf st.many st.built d))) (hc : TChg K C st' t d H H2) :
    ∃ F2, Same F F2 ∧ Cfg B F0 F2 H2 σ (ρ.set i (mt K C st')) := by
  obtain ⟨F2, ch, dx2, kv2, q1, q2, q3⟩ := chg_ch c.i ft fd hc
  refine ⟨F2, ch.f, c.chF h st_mt fun v as ev m => ?_⟩
  obtain ⟨t', dx', d', kv', rfl, rfl, m1, m2, m3⟩ := m
  rw [es] at ev
  cases ev
  rw [ht] at m1
  have ed : d = d' := by
    have := congrArg (fun o => match o with | some (HO.ins _ _ fs) => fs.lookup ("held" : Str) | _ => none) m1
    simp only [tf_held] at this
    cases this
    rfl
  subst ed
  refine ⟨⟨t, dx2, d, kv2, rfl, rfl, q1, q2, q3⟩, ch, fun a ha => ?_⟩
  rcases List.mem_cons.mp ha with rfl | ha
  · exact ⟨_, q1, rfl⟩
  · rw [List.mem_singleton.mp ha]; exact ⟨_, q2, rfl⟩
theorem evx_build {i : Nat} {a b : Int} (h : ρ[i]? = some (mt K C st)) (ha : EvH B F0 ρ ta (dat K (.int a))) (hb : EvH B F0 ρ tb (dat K (.int b))) (ok : TOk st) (a1 : 0 ≤ a) (a2 : a < st.many) (b1 : 0 ≤ b) (b2 : b < st.many) (hne : a ≠ b) (few : st.held.length < 60) :
    EvX B F0 ρ (tMeth C "build" (spBuild K C CP CM) [] E (tVar i) (tCons ta (tCons tb tNil))) (ρ.set i (mt K C { many := st.many, built := st.built + 1, held := st.held ++ [(st.built, a, b)] })) (nwd K B (.int st.built)) := fun F H σ c Q q => by
  obtain ⟨t, d, dx, kv, es, ft, fd, h4, h5, h6⟩ := mt_open h F H σ c
  refine ⟨_, es, t, dx, _, rfl, h4, tf_no (by decide +kernel) (by decide +kernel) (by decide +kernel), ha F H σ c _ fun v1 F1 H1 g1 p1 => hb F1 H1 σ (c.go g1) _ fun v2 F2 H2 g2 p2 => ?_⟩
  cases p1; cases p2
  have c2 := (c.go g1).go g2
  have g := g1.trans g2
  have ft2 := g.n t _ h4 rfl ft
  have fd2 := g.n d _ h5 rfl fd
  have ht2 := g.h _ _ h4
  refine ⟨st, t, d, .int a, .int b, ⟨[.int a, .int b], rfl, ⟨dx, kv, ht2, g.h _ _ h5, kvAll_mono (g.f.trans g.i) h6⟩, ⟨_, _, rfl, ⟨rfl, kd_dp (K := K) (.int a)⟩, _, _, rfl, ⟨rfl, kd_dp (K := K) (.int b)⟩, rfl⟩⟩, ok, fun a' b' ea eb _ _ _ _ _ _ H3 hc => ?_, fun z => ?_, fun _ _ _ z => by omega⟩
  · cases ea; cases eb
    obtain ⟨F3, _, c3⟩ := cfg_chg h c2 es ft2 fd2 ht2 hc
    exact q _ F3 H3 c3 (.int _)
  · rcases z with z | z | z
    · simp [amongB] at z; omega
    · simp [amongB] at z; omega
    · exact absurd (V.int.inj z) hne
theorem evx_dig {i : Nat} {s : Int} {ρ1 : List Sl} {st1 : TSt} (hx : EvX B F0 ρ ta ρ1 (nwd K B (.int s))) (h : ρ1[i]? = some (mt K C st1)) (ok : TOk st1) (hm : s ∈ st1.held.map (·.1))
    (ho : ∀ F H σ, Cfg B F0 F H σ ρ → ∃ t dx fs, σ[i]? = some (some (.ref t)) ∧ H t = some (.ins C dx fs) ∧ fs.lookup ("dig" : Str) = none) :
    EvX B F0 ρ (tMeth C "dig" (spDig K C CS) [] E (tVar i) (tCons ta tNil)) (ρ1.set i (mt K C { st1 with held := st1.held.filter fun p => decide (p.1 ≠ s) })) (nwd K B .none) := fun F H σ c Q q => by
  obtain ⟨t0, dx0, fs0, e0', e1, e2⟩ := ho F H σ c
  refine ⟨_, e0', t0, dx0, fs0, rfl, e1, e2, hx F H σ c _ fun v1 F1 H1 c1 p1 => ?_⟩
  cases p1
  obtain ⟨t, d, dx, kv, es, ft, fd, h4, h5, h6⟩ := mt_open h F1 H1 σ c1
  rw [e0'] at es
  cases es
  refine ⟨st1, t0, d, .int s, ⟨[.int s], rfl, ⟨dx, kv, h4, h5, kvAll_mono c1.i h6⟩, ⟨_, _, rfl, ⟨rfl, kd_dp (K := K) (.int s)⟩, rfl⟩⟩, ok, fun s' es _ H3 hc => ?_, fun z => absurd hm (z s rfl)⟩
  cases es
  obtain ⟨F3, _, c3⟩ := cfg_chg h c1 e0' ft fd h4 hc
  exact q _ F3 H3 c3 .non
end
section
variable {P : Program} {w : World} {K : PySem.W.Frag} {mg : Str → Option Value} {base : Heap} {C CB : Addr}
theorem ok_mkTown (T : TownTxt K mg C) (X_BadCount : XCls K mg "BadCount" CB) (G_is_among : Ok P w K mg base CX0 1 "is_among" ["thing", "least", "most"] (spAmong K)) (I : Ifn K C "Town.__init__" s_Town___init ["self", "many"]) : OkMk P w K mg base (L2.CX P w) 2 "Town" C ["self", "many"] (spInit K C CB) := by
  obtain ⟨f, fd, F, M, hb⟩ := I.ex
  exact ⟨f, fd, ok_init T X_BadCount G_is_among F, M, T.g, hb⟩
end

section
variable {K : PySem.W.Frag} {B F0 : Hp} {ρ ρ1 : List Sl} {te ta tb tc : TE} {d e : PyData} {ds es : List PyData} {D : Ends} {u : TS} {C CB CP CM CS : Addr} {st st' : TSt}
theorem evx_appendX {i : Nat} (hx : EvX B F0 ρ te ρ1 (nwd K B d)) (hi : ρ[i]? = some (ml K B ds)) (h1 : ρ1[i]? = some (ml K B ds)) (hz : ds.length < 100000) :
    EvX B F0 ρ (tBM K "list" rAppend (tVar i) (tCons te tNil)) (ρ1.set i (ml K B (ds ++ [d]))) (nwd K B .none) := fun F H σ c Q q => by
  obtain ⟨w, o⟩ := c.own
  obtain ⟨_, v, e1, l, xs, rfl, e3, e4, e5⟩ := o.sl i _ hi
  refine ⟨_, e1, .inl ⟨rfl, _, SqL.of e4⟩, hx F H σ c _ fun y F2 H2 c2 p => ?_⟩
  obtain ⟨w2, o2⟩ := c2.own
  obtain ⟨_, v2, f1, l2, xs2, rfl, f3, f4, f5⟩ := o2.sl i _ h1
  rw [e1] at f1
  cases f1
  refine ⟨l, xs2, y, rfl, rfl, f4, sz_lt (by rw [nwAll_len f5]; exact hz), ?_⟩
  refine q _ F2 _ (c2.chg h1 st_ml fun v' as e m n => ?_) .non
  obtain ⟨l', xs', rfl, rfl, m4, m5⟩ := m
  rw [e1] at e
  cases e
  rw [f4] at m4
  cases m4
  refine ⟨⟨l, xs2 ++ [y], rfl, rfl, upd_same, nwAll_app m5 (.cons p .nil)⟩, fun a ha => upd_ne fun z => ha (by rw [z]; exact List.mem_singleton.mpr rfl), fun a ha => ?_⟩
  rw [List.mem_singleton.mp ha]
  exact ⟨_, upd_same, rfl⟩
theorem evx_tup1 {tr : TA} (hx : EvX B F0 ρ te ρ1 (nwd K B d)) (h : EvAs K B F0 ρ1 tr ds) (hl : ds.length < 100000) : EvX B F0 ρ (tTup (tCons te tr)) ρ1 (nwd K B (.tuple (d :: ds))) := fun F H σ c Q q =>
  hx F H σ c _ fun v F1 H1 c1 p1 => h F1 H1 σ c1 _ fun vs F2 H2 g2 p2 => ⟨sz_of (by rw [List.length_cons, nwAll_len p2]; omega), fun a ha => by
    have g3 : Gr F1 H1 F2 (upd H2 a (.tup (v :: vs))) := g2.trans (Gr.new g2.i ha)
    obtain ⟨F3, g4, s, e⟩ := g3.putT (o := .tup (v :: vs)) rfl upd_same
    exact q _ F3 _ (c1.go g4) (.tup (.inl (.inl e)) (.cons (nw_mono (Same.refl _) (g2.f.trans s) p1) (nwAll_mono (Same.refl _) s p2)))⟩
theorem ho_mt {i : Nat} (h : ρ[i]? = some (mt K C st)) : ∀ F H σ, Cfg B F0 F H σ ρ → ∃ t dx fs, σ[i]? = some (some (.ref t)) ∧ H t = some (.ins C dx fs) ∧ fs.lookup ("dig" : Str) = none := fun F H σ c => by
  obtain ⟨t, d, dx, kv, es, _, _, h4, _⟩ := mt_open h F H σ c
  exact ⟨t, dx, _, es, h4, tf_no (by decide +kernel) (by decide +kernel) (by decide +kernel)⟩
end
abbrev s_w_made : Stmt := top 47
theorem sc_w_made : FnScope ["_law_many_here", "_law_pairs_here", "_law_seed_here", "_law_town", "_law_rows", "_law_k", "_law_one", "_law_other"] ["_law_many_here", "_law_pairs_here", "_law_seed_here"] (defScope s_w_made) := ⟨rfl, rfl, rfl, by decide +kernel, rfl, by decide +kernel, by decide +kernel⟩
def madeN (sd b : Int) (k : Nat) : Int := if mixedF sd (61 + (k : Int) % 30) % 4 = 1 then b + 1 else b
def madeStep (sd : Int) (s : TSt) (p : (Int × Int) × Nat) : TSt := { many := s.many, built := madeN sd s.built p.2 + 1, held := s.held ++ [(madeN sd s.built p.2, p.1.1, p.1.2)] }
def madeF (n : Int) (pairs : List (Int × Int)) (sd : Int) : TSt := pairs.zipIdx.foldl (madeStep sd) ⟨n, 0, []⟩
/-- good pairs of a town of n places -/
def pairsOk (n : Int) (pairs : List (Int × Int)) : Prop := pairs.length ≤ 60 ∧ ∀ p ∈ pairs, 0 ≤ p.1 ∧ p.1 < n ∧ 0 ≤ p.2 ∧ p.2 < n ∧ p.1 ≠ p.2
structure MadeI (n : Int) (pre : List ((Int × Int) × Nat)) (st : TSt) : Prop where
  ok : TOk st
  many : st.many = n
  bt : st.built ≤ 2 * (pre.length : Int)
  held : st.held.map (·.2) = pre.map (·.1)
theorem pw_snoc {h : List (Int × Int × Int)} {b : Int} {x : Int × Int} (k : h.Pairwise fun p q => p.1 < q.1) (l : ∀ p ∈ h, p.1 < b) : (h ++ [(b, x)]).Pairwise fun p q => p.1 < q.1 := by
  rw [List.pairwise_append]
  refine ⟨k, List.pairwise_singleton _ _, fun p hp q hq => ?_⟩
  rw [List.mem_singleton.mp hq]
  exact l p hp
theorem tok_build {st : TSt} (ok : TOk st) {b a c : Int} (hb : st.built ≤ b) (hb2 : b < 100000) (a1 : 0 ≤ a) (a2 : a < st.many) (c1 : 0 ≤ c) (c2 : c < st.many) (hne : a ≠ c) (few : st.held.length < 60) : TOk { many := st.many, built := b + 1, held := st.held ++ [(b, a, c)] } where
  lo := ok.lo
  hi := ok.hi
  b0 := by have := ok.b0; show 0 ≤ b + 1; omega
  b1 := by show b + 1 ≤ 100000; omega
  keys := pw_snoc ok.keys fun p hp => by have := (ok.rng p hp).2.1; omega
  rng := fun p hp => by
    rcases List.mem_append.mp hp with hp | hp
    · obtain ⟨q1, q2, q3⟩ := ok.rng p hp
      exact ⟨q1, by show p.1 < b + 1; omega, q3⟩
    · rw [List.mem_singleton.mp hp]
      have := ok.b0
      exact ⟨by show 0 ≤ b; omega, by show b < b + 1; omega, a1, a2, c1, c2, hne⟩
  few := by
    show (st.held ++ [(b, a, c)]).length ≤ 60
    rw [List.length_append]; simp; omega
theorem filt_new {h : List (Int × Int × Int)} {b : Int} {x : Int × Int} (l : ∀ p ∈ h, p.1 < b) : (h ++ [(b, x)]).filter (fun p => decide (p.1 ≠ b)) = h := by
  rw [List.filter_append, List.filter_eq_self.mpr fun p hp => by have := l p hp; simp; omega]
  simp
theorem made_nil {n : Int} (h1 : 1 ≤ n) (h2 : n ≤ 16) : MadeI n [] ⟨n, 0, []⟩ :=
  ⟨⟨h1, h2, Int.le_refl _, (by show (0 : Int) ≤ 100000; decide), List.Pairwise.nil, fun p hp => (List.not_mem_nil hp).elim, Nat.zero_le _⟩, rfl, Int.le_refl _, rfl⟩
theorem made_step {n sd : Int} {pre : List ((Int × Int) × Nat)} {st : TSt} {a c : Int} {k : Nat} (I : MadeI n pre st) (hl : pre.length < 60) (a1 : 0 ≤ a) (a2 : a < n) (c1 : 0 ≤ c) (c2 : c < n) (hne : a ≠ c) : MadeI n (pre ++ [((a, c), k)]) (madeStep sd st ((a, c), k)) := by
  have hm := I.many
  have hlen : st.held.length = pre.length := by
    have := congrArg List.length I.held
    rw [List.length_map, List.length_map] at this
    exact this
  have hb : madeN sd st.built k = st.built ∨ madeN sd st.built k = st.built + 1 := by
    unfold madeN
    split
    · exact .inr rfl
    · exact .inl rfl
  have bt := I.bt
  refine ⟨tok_build (st := st) (b := madeN sd st.built k) (a := a) (c := c) I.ok (by omega) (by omega) a1 (by omega) c1 (by omega) hne (by omega), hm, ?_, ?_⟩
  · show madeN sd st.built k + 1 ≤ 2 * ((pre ++ [((a, c), k)]).length : Int)
    rw [List.length_append]
    simp
    omega
  · show (st.held ++ [(madeN sd st.built k, a, c)]).map (·.2) = (pre ++ [((a, c), k)]).map (·.1)
    rw [List.map_append, List.map_append, I.held]
    rfl
/-- rows.append((town.build(one, other), one, other)) -/
theorem made_tail {K : PySem.W.Frag} {B F0 : Hp} {ρ : List Sl} {C CP CM : Addr} {D : Ends} {st : TSt} {x0 x1 x2 x3 : Sl} {a b : Int} (hρ : ρ = [x0, x1, x2, mt K C st, ml K B (st.held.map rowD), x3, sn K B (.int a), sn K B (.int b)]) (ok : TOk st)
    (a1 : 0 ≤ a) (a2 : a < st.many) (b1 : 0 ≤ b) (b2 : b < st.many) (hne : a ≠ b) (few : st.held.length < 60)
    (k : At B F0 D.nx [x0, x1, x2, mt K C { many := st.many, built := st.built + 1, held := st.held ++ [(st.built, a, b)] }, ml K B ((st.held ++ [(st.built, a, b)]).map rowD), x3, sn K B (.int a), sn K B (.int b)]) :
    At B F0 (tDrop (tBM K "list" rAppend (tVar 4) (tCons (tTup (tCons (tMeth C "build" (spBuild K C CP CM) [] E0 (tVar 3) (tCons (tVar 6) (tCons (tVar 7) tNil))) (tCons (tVar 6) (tCons (tVar 7) tNil)))) tNil)) D) ρ := by
  subst hρ
  refine at_drop (evx_appendX (evx_tup1 (evx_build (i := 3) (a := a) (b := b) rfl (evh_var rfl rd_sn) (evh_var rfl rd_sn) ok a1 a2 b1 b2 hne few) (eas_cons (ev_var rfl) (eas_cons (ev_var rfl) eas_nil)) (by simp)) rfl rfl (by rw [List.length_map]; omega)) ?_
  rw [List.map_append] at k
  exact k
def spMade (K : PySem.W.Frag) (C : Addr) : Sp := fun vs H Q _ => ∃ (n sd : Int) (pairs : List (Int × Int)), AOk [dat K (.int n), dat K (.list (pairs.map pairD)), dat K (.int sd)] H vs ∧ 1 ≤ n ∧ n ≤ 16 ∧ pairsOk n pairs ∧
  ∀ (p t d dx l : Addr) (kv : List (Key × V)) (xs : List V) (H' : Hp), Same H H' → H t = none → H d = none → H l = none → H' p = some (.tup [.ref t, .ref l]) → H' t = some (.ins C dx (tf n (madeF n pairs sd).built d)) → H' d = some (.dK kv) → KvAll K e0 H' kv (heldD (madeF n pairs sd).held) →
    H' l = some (.lst xs) → NwAll K H H' xs ((madeF n pairs sd).held.map rowD) → Q (.ref p) H'
theorem made_held {n sd : Int} {pairs : List (Int × Int)} (h1 : 1 ≤ n) (h2 : n ≤ 16) (h : pairsOk n pairs) : MadeI n pairs.zipIdx (madeF n pairs sd) := by
  have key : ∀ (post pre : List ((Int × Int) × Nat)) (st : TSt), pre ++ post = pairs.zipIdx → MadeI n pre st → MadeI n pairs.zipIdx (post.foldl (madeStep sd) st) := by
    intro post
    induction post with
    | nil =>
      intro pre st e I
      rw [List.append_nil] at e
      rw [← e]; exact I
    | cons x r ih =>
      intro pre st e I
      obtain ⟨⟨a, c⟩, k⟩ := x
      obtain ⟨k1, k2, k3⟩ := zip_at e.symm
      obtain ⟨q1, q2, q3, q4, q5⟩ := h.2 (a, c) (List.mem_of_getElem? k3)
      have := h.1
      exact ih (pre ++ [((a, c), k)]) _ (by rw [← e]; simp) (made_step I (by omega) q1 q2 q3 q4 q5)
  exact key pairs.zipIdx [] ⟨n, 0, []⟩ rfl (made_nil h1 h2)
section
variable {P : Program} {w : World} {K : PySem.W.Frag} {mg : Str → Option Value} {base : Heap} {C CP CM CB CS : Addr}
theorem ok_made (Z : Zs mg) (G_w_mixed : Ok P w K mg base CX0 1 "_law_mixed" ["_law_cell", "_law_k"] (spMixed K)) (MK_Town : OkMk P w K mg base (L2.CX P w) 2 "Town" C ["self", "many"] (spInit K C CB)) (M_build : OkM P w K mg base (L2.CX P w) 3 C "build" ["self", "one", "other"] (spBuild K C CP CM))
    (M_dig : OkM P w K mg base (L2.CX P w) 2 C "dig" ["self", "street"] (spDig K C CS)) (D : Dfn K mg "_law_made" "_law_made" s_w_made ["_law_many_here", "_law_pairs_here", "_law_seed_here"]) : Ok P w K mg base CX0 4 "_law_made" ["_law_many_here", "_law_pairs_here", "_law_seed_here"] (spMade K C) := by
  obtain ⟨f, fd, F, hg, hb⟩ := D.ex
  refine ⟨f, fd, F.ok sc_w_made (fun vs H Q E h => ?_) (fun cdv A outer s H vs Q E hr h => ?_), hg, F.kp, hb⟩
  · obtain ⟨n, sd, pairs, h, _⟩ := h
    rw [aok_len h]; rfl
  obtain ⟨n, sd, pairs, h, n1, n2, pk, q⟩ := h
  refine ⟨_, (pss_cons (ps_set (i := 3) sc_w_made.nd rfl (Or.inl rfl) (ok_make MK_Town (by exact hr.mono (by decide)) rfl (pa_cons (pv 0) pa_nil)))
    (pss_cons (ps_set (i := 4) sc_w_made.nd rfl (Or.inl rfl) (pe_lst pa_nil))
    (pss_cons (ps_for PassesOwn.never rfl (pi_enum rfl Z.enumerate (pa_cons (pv 1) pa_nil)) (kpg_tup K 2 rfl (pgs_cons (pg_name (i := 5) sc_w_made.nd rfl (Or.inl rfl)) (pgs_cons (kpg_tup K 2 rfl (pgs_cons (pg_name (i := 6) sc_w_made.nd rfl (Or.inl rfl)) (pgs_cons (pg_name (i := 7) sc_w_made.nd rfl (Or.inl rfl)) pgs_nil))) pgs_nil)))
      (pss_cons (ps_if (pt_cmpR op_eq (pe_op op_mod (ok_call G_w_mixed (by exact hr.mono (by decide)) rfl (pa_cons (pv 2) (pa_cons (pe_op op_add pe_int (pe_op op_mod (pv 5) pe_int)) pa_nil))) pe_int) pe_int (nomark _)) (pss_one (ps_expr (ok_methX M_dig (by exact hr.mono (by decide)) (pv 3) (pa_cons (ok_methX M_build (by exact hr.mono (by decide)) (pv 3) (pa_cons (pv 7) (pa_cons (pv 6) pa_nil))) pa_nil)))) pss_nil)
    (pss_one (ps_expr (pe_bm PySem.F.plainAttrs_list PySem.F.slot_list_append PySem.F.type_list_append mt_append (pv 4) (pa_cons (pe_tup (pa_cons (ok_methX M_build (by exact hr.mono (by decide)) (pv 3) (pa_cons (pv 6) (pa_cons (pv 7) pa_nil))) (pa_cons (pv 6) (pa_cons (pv 7) pa_nil)))) pa_nil))))))
    (pss_one (ps_ret (pe_tup (pa_cons (pv 3) (pa_cons (pv 4) pa_nil)))))))), ?_⟩
  refine at_enter h (stabC st_dat (stabC st_dat (stab1 st_dat))) (by simp) ?_
  walk_at "go"
  refine' q_make (n := n) ?a1 n1 n2 (q_setM K (ds := []) ?a2 (q_for (xs := pairs.zipIdx) (e := fun p => .tuple [.int (p.2 : Int), pairD p.1]) (EvJ.i (evj_enumXF (K := K) ?a3 fun _ => rfl))
    (fun pre ρ' => ∃ s1 s2 s3, MadeI n pre (pre.foldl (madeStep sd) ⟨n, 0, []⟩) ∧ ρ' = [sa K (.int n), sa K (.list (pairs.map pairD)), sa K (.int sd), mt K C (pre.foldl (madeStep sd) ⟨n, 0, []⟩), ml K H ((pre.foldl (madeStep sd) ⟨n, 0, []⟩).held.map rowD), s1, s2, s3]) ?a4 ?a5 ?a6))
  case a1 => walk_at "ev"
  case a2 => exact evm_lst eas_nil (by simp)
  case a3 => walk_at "ev"
  case a4 => exact ⟨_, _, _, made_nil n1 n2, rfl⟩
  case a5 =>
    rintro F1 pre ⟨⟨a, c⟩, k⟩ post ρ' hx ⟨s1, s2, s3, I, rfl⟩
    obtain ⟨k1, k2, k3⟩ := zip_at hx
    obtain ⟨q1, q2, q3, q4, q5⟩ := pk.2 (a, c) (List.mem_of_getElem? k3)
    have hl := pk.1
    dsimp only at q1 q2 q3 q4 q5
    generalize hst : pre.foldl (madeStep sd) ⟨n, 0, []⟩ = st at I
    have I2 := made_step (sd := sd) (k := k) I (by omega) q1 q2 q3 q4 q5
    have many := I.many
    have hlen : st.held.length = pre.length := by
      have := congrArg List.length I.held
      rw [List.length_map, List.length_map] at this
      exact this
    have bt := I.bt
    have b0 := I.ok.b0
    refine' ⟨_, _, (by walk_at "bd"), ?_⟩
    have e1 : (pre ++ [((a, c), k)]).foldl (madeStep sd) ⟨n, 0, []⟩ = madeStep sd st ((a, c), k) := by rw [List.foldl_append, hst]; rfl
    refine' q_when (c := decide (mixedF sd (61 + (k : Int) % 30) % 4 = 1)) ?b1 (fun c1 => ?b2) (fun c1 => ?b3)
    case b1 => walk_at "ev" <;> walk_at "num"
    case b2 =>
      have c2 : mixedF sd (61 + (k : Int) % 30) % 4 = 1 := by simpa using c1
      have eb : madeN sd st.built k = st.built + 1 := by unfold madeN; rw [if_pos c2]
      refine' at_drop (evx_dig (st1 := { many := st.many, built := st.built + 1, held := st.held ++ [(st.built, c, a)] }) (s := st.built) (evx_build (i := 3) (a := c) (b := a) rfl ?g1 ?g2 I.ok q3 (by omega) q1 (by omega) (fun z => q5 z.symm) (by omega)) (i := 3) rfl (tok_build I.ok (Int.le_refl _) (by omega) q3 (by omega) q1 (by omega) (fun z => q5 z.symm) (by omega)) (by simp) (ho_mt (i := 3) (st := st) rfl)) (at_go ?g3)
      case g1 => walk_at "ev"
      case g2 => walk_at "ev"
      case g3 =>
        have ef : (st.held ++ [(st.built, c, a)]).filter (fun p => decide (p.1 ≠ st.built)) = st.held := filt_new fun p hp => (I.ok.rng p hp).2.1
        dsimp only
        rw [ef]
        refine made_tail (st := { many := st.many, built := st.built + 1, held := st.held }) (x3 := sn K H (.int (k : Int))) (a := a) (b := c) rfl ⟨I.ok.lo, I.ok.hi, by show 0 ≤ st.built + 1; omega, by show st.built + 1 ≤ 100000; omega, I.ok.keys, fun p hp => by have := I.ok.rng p hp; exact ⟨this.1, by show p.1 < st.built + 1; omega, this.2.2⟩, I.ok.few⟩ q1 (by show a < st.many; omega) q3 (by show c < st.many; omega) q5 (by show st.held.length < 60; omega) (at_lpD ?_)
        refine ⟨sn K H (.int (k : Int)), sn K H (.int a), sn K H (.int c), ?_, ?_⟩
        · rw [e1]; exact I2
        · rw [e1]
          unfold madeStep
          dsimp only
          rw [eb]
    case b3 =>
      have c2 : ¬ mixedF sd (61 + (k : Int) % 30) % 4 = 1 := by simpa using c1
      have eb : madeN sd st.built k = st.built := by unfold madeN; rw [if_neg c2]
      refine made_tail (st := st) (x3 := sn K H (.int (k : Int))) (a := a) (b := c) rfl I.ok q1 (by omega) q3 (by omega) q5 (by omega) (at_lpD ?_)
      refine ⟨sn K H (.int (k : Int)), sn K H (.int a), sn K H (.int c), ?_, ?_⟩
      · rw [e1]; exact I2
      · rw [e1]
        unfold madeStep
        dsimp only
        rw [eb]
  case a6 =>
    rintro ρ' ⟨s1, s2, s3, I, rfl⟩
    refine fun F1 H1 σ c => ?_
    obtain ⟨t, d, dx, kv, es, ft, fd, h4, h5, h6⟩ := mt_open (i := 3) rfl F1 H1 σ c
    obtain ⟨w, o⟩ := c.own
    obtain ⟨_, v, e1, l, xs, rfl, ea, e4, e5⟩ := o.sl 4 _ rfl
    have wt : t ∈ w 3 := by
      obtain ⟨_, v, z1, t', dx', d', kv', rfl, z2, _⟩ := o.sl 3 _ rfl
      rw [es] at z1
      cases z1
      rw [z2]; simp
    have hl := o.at_ 4 l (by rw [ea]; simp)
    refine ⟨_, es, _, e1, (by show 2 ≤ sizeLine; decide), fun p hp => ?_⟩
    have nt : t ≠ p := fun z => by rw [z, hp] at h4; cases h4
    have nd : d ≠ p := fun z => by rw [z, hp] at h5; cases h5
    have nl : l ≠ p := fun z => by rw [z, hp] at e4; cases e4
    have s : Same H1 (upd H1 p (.tup [.ref t, .ref l])) := fun a u e => by rw [upd_ne (ne_of_none e hp)]; exact e
    have many : (madeF n pairs sd).many = n := I.many
    refine q p t d dx l kv xs _ (c.gr.h.trans s) ?_ ?_ hl.2.1 upd_same ?_ (s _ _ h5) (kvAll_mono (c.i.trans s) h6) (s _ _ e4) (nwAll_mono (Same.refl _) (c.i.trans s) e5)
    · exact (o.at_ 3 t wt).2.1
    · obtain ⟨_, v, z1, t', dx', d', kv', rfl, z2, z3, _⟩ := o.sl 3 _ rfl
      rw [es] at z1
      cases z1
      rw [h4] at z3
      have ed : d = d' := by
        have := congrArg (fun o => match o with | some (HO.ins _ _ fs) => fs.lookup ("held" : Str) | _ => none) z3
        simp only [tf_held] at this
        cases this
        rfl
      subst ed
      exact (o.at_ 3 d (by rw [z2]; simp)).2.1
    · have h4 : H1 t = some (.ins C dx (tf (madeF n pairs sd).many (madeF n pairs sd).built d)) := h4
      rw [many] at h4
      exact s _ _ h4
end

theorem kv_fix {K : PySem.W.Frag} {F H2 : Hp} {hl : List (Int × PyData)} {kv : List (Key × V)} (a : KvAll K e0 H2 kv hl) : (∀ p ∈ hl, flatD p.2 = true) → ∀ F1, Gr F H2 F1 H2 → ∃ F2, Gr F H2 F2 H2 ∧ Same F1 F2 ∧ KvAll K e0 F2 kv hl := by
  induction a with
  | nil => exact fun _ F1 g => ⟨F1, g, Same.refl _, .nil⟩
  | @cons k v dd kv kvs hn _ ih =>
    intro fl F1 g
    obtain ⟨F2, g2, s2, n2⟩ := dp_prom (B := e0) (nw_dp hn) (fl (k, dd) (List.mem_cons.mpr (.inl rfl))) F1 g
    obtain ⟨F3, g3, s3, n3⟩ := ih (fun p hp => fl p (List.mem_cons.mpr (.inr hp))) F2 g2
    exact ⟨F3, g3, s2.trans s3, .cons (nw_mono (Same.refl _) s3 n2) n3⟩
theorem q_made {K : PySem.W.Frag} {B F0 : Hp} {ρ : List Sl} {tr : TA} {D : Ends} {u : TS} {C : Addr} {i j : Nat} {n sd : Int} {pairs : List (Int × Int)} (hij : i ≠ j) (h : EvA B F0 ρ tr [dat K (.int n), dat K (.list (pairs.map pairD)), dat K (.int sd)]) (h1 : 1 ≤ n) (h2 : n ≤ 16) (pk : pairsOk n pairs)
    (k : At B F0 (u D) ((ρ.set i (mt K C (madeF n pairs sd))).set j (ml K B ((madeF n pairs sd).held.map rowD)))) :
    At B F0 (tSeq (tAsg (tCall (spMade K C) [] E0 tr) (gTup K 2 (gCons (gName i) (gCons (gName j) gNil)))) u D) ρ := fun F H σ c =>
  h F H σ c _ fun vs F1 H1 g1 p1 => ⟨n, sd, pairs, by rw [List.append_nil]; exact p1, h1, h2, pk, fun p t d dx l kv xs H2 s nt nd nl ep et ed ek el ex => by
    refine ⟨p, [.ref t, .ref l], rfl, .inl (.inl ep), rfl, _, _, rfl, _, _, rfl, rfl, ?_⟩
    have many : (madeF n pairs sd).many = n := (made_held (sd := sd) h1 h2 pk).many
    have c1 := c.go g1
    have g2 : Gr F1 H1 F1 H2 := gr_call c1.i s
    obtain ⟨F3, g3, s3, n3⟩ := kv_fix ek (fun q hq => by
      obtain ⟨r, _, rfl⟩ := List.mem_map.mp hq
      rfl) F1 (Gr.refl g2.i)
    obtain ⟨F4, g4, s4, n4⟩ := dpAll_prom (B := B) (nwAll_dp ex) (flatDs_map (fun _ => rfl) _) F3 g3
    have ft := g4.n t _ et rfl (c1.i.free nt)
    have fd := g4.n d _ ed rfl (c1.i.free nd)
    have fl := g4.n l _ el rfl (c1.i.free nl)
    refine k F4 H2 _ (c1.setN2 (i := i) (j := j) (as := [t, d]) (as' := [l]) hij st_mt st_ml (g2.trans g4) ⟨t, dx, d, kv, rfl, rfl, by rw [many]; exact et, ed, kvAll_mono s4 n3⟩ ⟨l, xs, rfl, rfl, el, n4⟩ (fun a ha => ?_) (fun a ha => ?_) (fun a ha hb => ?_))
    · rcases List.mem_cons.mp ha with rfl | ha
      · exact ⟨ft, nt, _, et, rfl⟩
      · rw [List.mem_singleton.mp ha]
        exact ⟨fd, nd, _, ed, rfl⟩
    · rw [List.mem_singleton.mp ha]
      exact ⟨fl, nl, _, el, rfl⟩
    · rw [List.mem_singleton.mp hb] at ha
      rcases List.mem_cons.mp ha with rfl | ha
      · rw [et] at el; cases el
      · rw [List.mem_singleton.mp ha] at el
        rw [ed] at el; cases el⟩
theorem made_pre {sd : Int} : ∀ (l : List ((Int × Int) × Nat)) (st : TSt) (s : Int × Int × Int) (r : List (Int × Int × Int)), st.held = s :: r → ∃ r', (l.foldl (madeStep sd) st).held = s :: r'
  | [], st, s, r, e => ⟨r, e⟩
  | x :: l, st, s, r, e => made_pre l (madeStep sd st x) s (r ++ [(madeN sd st.built x.2, x.1.1, x.1.2)]) (by show st.held ++ _ = _; rw [e]; rfl)
/-- the first street's number -/
theorem made_head {n sd : Int} {pairs : List (Int × Int)} {s : Int × Int × Int} {r : List (Int × Int × Int)} (h : (madeF n pairs sd).held = s :: r) : s.1 = 0 ∨ s.1 = 1 := by
  cases pairs with
  | nil => cases h
  | cons p ps =>
    unfold madeF at h
    rw [List.zipIdx_cons, List.foldl_cons] at h
    obtain ⟨r', e⟩ := made_pre (sd := sd) (ps.zipIdx (0 + 1)) (madeStep sd ⟨n, 0, []⟩ (p, 0)) (madeN sd 0 0, p.1, p.2) [] rfl
    rw [e] at h
    cases h
    show madeN sd 0 0 = 0 ∨ madeN sd 0 0 = 1
    unfold madeN
    split
    · exact .inr rfl
    · exact .inl rfl
theorem made_num {n sd : Int} {pairs : List (Int × Int)} (h1 : 1 ≤ n) (h2 : n ≤ 16) (h : pairsOk n pairs) : ∀ p ∈ (madeF n pairs sd).held, 0 ≤ p.1 ∧ p.1 < 120 ∧ 0 ≤ p.2.1 ∧ p.2.1 < n ∧ 0 ≤ p.2.2 ∧ p.2.2 < n ∧ p.2.1 ≠ p.2.2 := fun p hp => by
  have I := made_held (sd := sd) h1 h2 h
  obtain ⟨q1, q2, q3⟩ := I.ok.rng p hp
  have b := I.bt
  have l := h.1
  rw [List.length_zipIdx] at b
  have m := I.many
  unfold madeF at hp q2 q3 m b
  rw [m] at q3
  exact ⟨q1, by omega, q3⟩

theorem off_ok {n one o : Int} (h0 : 0 ≤ one) (h1 : one < n) (o1 : 1 ≤ o) (o2 : o ≤ n - 1) : 0 ≤ (one + o) % n ∧ (one + o) % n < n ∧ one ≠ (one + o) % n := by
  have a := Int.emod_nonneg (one + o) (show n ≠ 0 by omega)
  have b := Int.emod_lt_of_pos (one + o) (show 0 < n by omega)
  refine ⟨a, b, ?_⟩
  by_cases h : one + o < n
  · rw [Int.emod_eq_of_lt (by omega) h]; omega
  · have e : one + o = (one + o - n) + n := by omega
    rw [e, Int.add_emod_right, Int.emod_eq_of_lt (by omega) (by omega)]
    omega
theorem ends_ok {n way k m : Int} (h1 : 2 ≤ n) (hk : 0 ≤ k) : 0 ≤ (endsF n way k m).1 ∧ (endsF n way k m).1 < n ∧ 0 ≤ (endsF n way k m).2 ∧ (endsF n way k m).2 < n ∧ (endsF n way k m).1 ≠ (endsF n way k m).2 := by
  have a := Int.emod_nonneg m (show n ≠ 0 by omega)
  have b := Int.emod_lt_of_pos m (show 0 < n by omega)
  have c := Int.emod_nonneg (m / 20) (show n - 1 ≠ 0 by omega)
  have d := Int.emod_lt_of_pos (m / 20) (show 0 < n - 1 by omega)
  have plain : 0 ≤ (m % n + 1 + m / 20 % (n - 1)) % n ∧ (m % n + 1 + m / 20 % (n - 1)) % n < n ∧ m % n ≠ (m % n + 1 + m / 20 % (n - 1)) % n := by
    rw [Int.add_assoc]
    exact off_ok a b (by omega) (by omega)
  unfold endsF
  split
  next h =>
    have e := Int.emod_nonneg m (show k + 1 ≠ 0 by omega)
    have f := Int.emod_lt_of_pos m (show 0 < k + 1 by omega)
    dsimp only
    omega
  next =>
    split
    next =>
      split
      next => exact ⟨a, b, plain⟩
      next he =>
        dsimp only
        have hl : 0 < (sameF n (m % n)).length := by
          cases hs : sameF n (m % n) with
          | nil => rw [hs] at he; simp at he
          | cons x r => simp
        have i0 := Int.emod_nonneg (m / 20) (show ((sameF n (m % n)).length : Int) ≠ 0 by omega)
        have i1 := Int.emod_lt_of_pos (m / 20) (show (0 : Int) < ((sameF n (m % n)).length : Int) by omega)
        have il : (m / 20 % ((sameF n (m % n)).length : Int)).toNat < (sameF n (m % n)).length := by omega
        have e : (sameF n (m % n)).getD (m / 20 % ((sameF n (m % n)).length : Int)).toNat 0 = (sameF n (m % n))[(m / 20 % ((sameF n (m % n)).length : Int)).toNat] := by
          rw [List.getD_eq_getElem?_getD, List.getElem?_eq_getElem il]; rfl
        rw [e]
        have hm := List.getElem_mem il
        generalize (sameF n (m % n))[(m / 20 % ((sameF n (m % n)).length : Int)).toNat] = x at hm
        unfold sameF at hm
        rw [List.mem_filter, mem_rangeI] at hm
        obtain ⟨⟨x0, x1⟩, hx⟩ := hm
        have hx2 : x ≠ m % n := by
          have := (Bool.and_eq_true_iff.mp hx).2
          simpa using this
        exact ⟨a, b, x0, x1, fun z => hx2 z.symm⟩
    next =>
      split
      next =>
        dsimp only
        have t0 := Int.emod_nonneg (m / 20) (show (2 : Int) ≠ 0 by decide)
        have t1 := Int.emod_lt_of_pos (m / 20) (show (0 : Int) < 2 by decide)
        have o : m / 20 % 2 = 0 ∨ m / 20 % 2 = 1 := by omega
        refine ⟨a, b, ?_⟩
        rcases o with o | o
        · rw [o, Int.zero_mul, Int.add_zero]; exact off_ok a b (by omega) (by omega)
        · rw [o, Int.one_mul, Int.add_assoc]; exact off_ok a b (by omega) (by omega)
      next => exact ⟨a, b, plain⟩
theorem pairs_ok {script : List Int} {sd n : Int} {most : Int} (h1 : 1 ≤ n) (h3 : 0 ≤ most) (h4 : most ≤ 60) : pairsOk n (pairsF script sd n most) := by
  unfold pairsF
  split
  · exact ⟨Nat.zero_le _, fun p hp => (List.not_mem_nil hp).elim⟩
  · refine ⟨?_, fun p hp => ?_⟩
    · rw [List.length_map, List.length_zipIdx, List.length_take]; omega
    · obtain ⟨⟨c, k⟩, _, rfl⟩ := List.mem_map.mp hp
      exact ends_ok (by omega) (by dsimp only; omega)

/-! places joined pair by pair; the law's labels -/
inductive Conn (E : List (Int × Int)) : Int → Int → Prop
  | refl (a : Int) : Conn E a a
  | step {a b c : Int} : Conn E a b → ((b, c) ∈ E ∨ (c, b) ∈ E) → Conn E a c
theorem Conn.trans {E : List (Int × Int)} {a b c : Int} (h1 : Conn E a b) (h2 : Conn E b c) : Conn E a c := by
  induction h2 with
  | refl => exact h1
  | step _ e ih => exact .step ih e
theorem Conn.one {E : List (Int × Int)} {a b : Int} (h : (a, b) ∈ E ∨ (b, a) ∈ E) : Conn E a b := .step (.refl a) h
theorem Conn.symm {E : List (Int × Int)} {a b : Int} (h : Conn E a b) : Conn E b a := by
  induction h with
  | refl => exact .refl _
  | step _ e ih => exact (Conn.one e.symm).trans ih
theorem Conn.mono {E E' : List (Int × Int)} {a b : Int} (s : ∀ p ∈ E, p ∈ E') (h : Conn E a b) : Conn E' a b := by
  induction h with
  | refl => exact .refl _
  | step _ e ih => exact .step ih (e.imp (s _) (s _))
theorem conn_nil {a b : Int} (h : Conn [] a b) : a = b := by
  induction h with
  | refl => rfl
  | step _ e _ => rcases e with e | e <;> exact (List.not_mem_nil e).elim
theorem conn_snoc {E : List (Int × Int)} {a b p q : Int} : Conn (E ++ [(a, b)]) p q ↔ Conn E p q ∨ (Conn E p a ∧ Conn E b q) ∨ (Conn E p b ∧ Conn E a q) := by
  have up : ∀ {x y : Int}, Conn E x y → Conn (E ++ [(a, b)]) x y := fun h => h.mono fun _ m => List.mem_append.mpr (.inl m)
  have ab : Conn (E ++ [(a, b)]) a b := Conn.one (.inl (List.mem_append.mpr (.inr (List.mem_singleton.mpr rfl))))
  constructor
  · intro h
    induction h with
    | refl => exact .inl (.refl _)
    | @step x y _ e ih =>
      have e2 : ((x, y) ∈ E ∨ (y, x) ∈ E) ∨ (x = a ∧ y = b) ∨ (x = b ∧ y = a) := by
        rcases e with e | e
        · rcases List.mem_append.mp e with e | e
          · exact .inl (.inl e)
          · have := List.mem_singleton.mp e; cases this; exact .inr (.inl ⟨rfl, rfl⟩)
        · rcases List.mem_append.mp e with e | e
          · exact .inl (.inr e)
          · have := List.mem_singleton.mp e; cases this; exact .inr (.inr ⟨rfl, rfl⟩)
      rcases e2 with e2 | ⟨rfl, rfl⟩ | ⟨rfl, rfl⟩
      · rcases ih with h | ⟨h1, h2⟩ | ⟨h1, h2⟩
        · exact .inl (h.step e2)
        · exact .inr (.inl ⟨h1, h2.step e2⟩)
        · exact .inr (.inr ⟨h1, h2.step e2⟩)
      · rcases ih with h | ⟨h1, h2⟩ | ⟨h1, h2⟩
        · exact .inr (.inl ⟨h, .refl _⟩)
        · exact .inl (h1.trans h2.symm)
        · exact .inl h1
      · rcases ih with h | ⟨h1, h2⟩ | ⟨h1, h2⟩
        · exact .inr (.inr ⟨h, .refl _⟩)
        · exact .inl h1
        · exact .inl (h1.trans h2.symm)
  · rintro (h | ⟨h1, h2⟩ | ⟨h1, h2⟩)
    · exact up h
    · exact (up h1).trans (ab.trans (up h2))
    · exact (up h1).trans (ab.symm.trans (up h2))

/-! the law's labels -/
def labAt (L : List Int) (p : Int) : Int := L.getD p.toNat 0
def mergeS (L : List Int) (e : Int × Int) : List Int := L.map fun m => if m = max (labAt L e.1) (labAt L e.2) then min (labAt L e.1) (labAt L e.2) else m
def labelF (n : Int) (E : List (Int × Int)) : List Int := E.foldl mergeS (rangeI n)
def compF (n : Int) (L : List Int) (m : Int) : List Int := (rangeI n).filter fun p => decide (labAt L p = m)
def partsOf (n : Int) (E : List (Int × Int)) : List (List Int) := ((rangeI n).filter fun m => decide (m ∈ labelF n E)).map (compF n (labelF n E))
def edgesIn (n : Int) (E : List (Int × Int)) : Prop := ∀ e ∈ E, (0 ≤ e.1 ∧ e.1 < n) ∧ (0 ≤ e.2 ∧ e.2 < n)
structure LabI (n : Int) (E : List (Int × Int)) (L : List Int) : Prop where
  len : L.length = n.toNat
  lo : ∀ p, 0 ≤ p → p < n → 0 ≤ labAt L p ∧ labAt L p ≤ p
  idem : ∀ p, 0 ≤ p → p < n → labAt L (labAt L p) = labAt L p
  conn : ∀ p q, 0 ≤ p → p < n → 0 ≤ q → q < n → (Conn E p q ↔ labAt L p = labAt L q)
theorem labAt_map {L : List Int} {g : Int → Int} {p : Int} (h : p.toNat < L.length) : labAt (L.map g) p = g (labAt L p) := by
  unfold labAt
  rw [List.getD_eq_getElem?_getD, List.getD_eq_getElem?_getD, List.getElem?_map, List.getElem?_eq_getElem h]
  rfl
theorem labAt_range {n p : Int} (h0 : 0 ≤ p) (h1 : p < n) : labAt (rangeI n) p = p := by
  unfold labAt rangeI
  rw [List.getD_eq_getElem?_getD, List.getElem?_map, List.getElem?_range (by omega)]
  show 0 + (p.toNat : Int) = p
  omega
theorem lab_nil {n : Int} : LabI n [] (rangeI n) where
  len := rangeI_len n
  lo := fun p h0 h1 => by rw [labAt_range h0 h1]; omega
  idem := fun p h0 h1 => by rw [labAt_range h0 h1, labAt_range h0 h1]
  conn := fun p q h0 h1 h2 h3 => by
    rw [labAt_range h0 h1, labAt_range h2 h3]
    exact ⟨conn_nil, fun e => e ▸ .refl _⟩
theorem lab_step {n : Int} {E : List (Int × Int)} {L : List Int} {a b : Int} (I : LabI n E L) (a0 : 0 ≤ a) (a1 : a < n) (b0 : 0 ≤ b) (b1 : b < n) : LabI n (E ++ [(a, b)]) (mergeS L (a, b)) := by
  have at_ : ∀ p, 0 ≤ p → p < n → labAt (mergeS L (a, b)) p = if labAt L p = max (labAt L a) (labAt L b) then min (labAt L a) (labAt L b) else labAt L p := fun p h0 h1 => labAt_map (by rw [I.len]; omega)
  have la := I.lo a a0 a1
  have lb := I.lo b b0 b1
  refine ⟨by unfold mergeS; rw [List.length_map]; exact I.len, fun p h0 h1 => ?_, fun p h0 h1 => ?_, fun p q h0 h1 h2 h3 => ?_⟩
  · have lp := I.lo p h0 h1
    rw [at_ p h0 h1]
    split
    · omega
    · exact lp
  · have lp := I.lo p h0 h1
    have ip := I.idem p h0 h1
    have ia := I.idem a a0 a1
    have ib := I.idem b b0 b1
    rw [at_ p h0 h1]
    split
    next e =>
      have hm : labAt L (min (labAt L a) (labAt L b)) = min (labAt L a) (labAt L b) := by
        rcases Int.le_total (labAt L a) (labAt L b) with h | h
        · rw [Int.min_eq_left h]; exact ia
        · rw [Int.min_eq_right h]; exact ib
      rw [at_ _ (by omega) (by omega), hm]
      split <;> omega
    next e =>
      rw [at_ _ (by omega) (by omega), ip, if_neg e]
  · rw [conn_snoc, I.conn p q h0 h1 h2 h3, I.conn p a h0 h1 a0 a1, I.conn b q b0 b1 h2 h3, I.conn p b h0 h1 b0 b1, I.conn a q a0 a1 h2 h3, at_ p h0 h1, at_ q h2 h3]
    generalize labAt L p = x
    generalize labAt L q = y
    generalize labAt L a = u
    generalize labAt L b = v
    split <;> split <;> omega
theorem lab_all {n : Int} : ∀ {E E0 : List (Int × Int)} {L : List Int}, LabI n E0 L → edgesIn n E → LabI n (E0 ++ E) (E.foldl mergeS L)
  | [], E0, L, I, _ => by rw [List.append_nil]; exact I
  | (a, b) :: E, E0, L, I, h => by
    have h1 := h (a, b) (List.mem_cons_self ..)
    have := lab_all (E := E) (lab_step I h1.1.1 h1.1.2 h1.2.1 h1.2.2) fun e he => h e (List.mem_cons_of_mem _ he)
    rw [List.append_assoc] at this
    exact this
theorem lab_of {n : Int} {E : List (Int × Int)} (h : edgesIn n E) : LabI n E (labelF n E) := by
  have := lab_all (n := n) lab_nil h
  exact this
theorem mem_lab {n : Int} {E : List (Int × Int)} {L : List Int} (I : LabI n E L) {m : Int} (h0 : 0 ≤ m) (h1 : m < n) : m ∈ L ↔ labAt L m = m := by
  have hl := I.len
  constructor
  · intro hm
    obtain ⟨i, hi, e⟩ := List.mem_iff_getElem.mp hm
    have e2 : labAt L (i : Int) = m := by
      unfold labAt
      rw [List.getD_eq_getElem?_getD, List.getElem?_eq_getElem (by rw [Int.toNat_natCast]; exact hi)]
      simpa using e
    rw [← e2]
    exact I.idem _ (by omega) (by omega)
  · intro e
    have hi : m.toNat < L.length := by omega
    have e2 : L[m.toNat] = m := by
      unfold labAt at e
      rw [List.getD_eq_getElem?_getD, List.getElem?_eq_getElem hi] at e
      simpa using e
    rw [← e2]
    exact List.getElem_mem hi
/-- the parts, told by the least place of each -/
theorem partsOf_eq {n : Int} {E : List (Int × Int)} (h : edgesIn n E) : partsOf n E = ((rangeI n).filter fun m => decide (labAt (labelF n E) m = m)).map (compF n (labelF n E)) := by
  unfold partsOf
  congr 1
  refine List.filter_congr fun m hm => ?_
  have hm := mem_rangeI.mp hm
  rw [Bool.eq_iff_iff]
  simp only [decide_eq_true_eq]
  exact mem_lab (lab_of h) hm.1 hm.2
/-- the same joining, the same parts -/
theorem partsOf_congr {n : Int} {E E' : List (Int × Int)} (h : edgesIn n E) (h' : edgesIn n E') (hc : ∀ p q, Conn E p q ↔ Conn E' p q) : partsOf n E = partsOf n E' := by
  have I := lab_of h
  have I' := lab_of h'
  have el : ∀ p, 0 ≤ p → p < n → labAt (labelF n E) p = labAt (labelF n E') p := fun p h0 h1 => by
    have l1 := I.lo p h0 h1
    have l2 := I'.lo p h0 h1
    -- each label is the least place of the part
    have c1 : Conn E p (labAt (labelF n E) p) := (I.conn p _ h0 h1 l1.1 (by omega)).mpr (I.idem p h0 h1).symm
    have c2 : Conn E' p (labAt (labelF n E') p) := (I'.conn p _ h0 h1 l2.1 (by omega)).mpr (I'.idem p h0 h1).symm
    have d1 := (I'.conn p _ h0 h1 l1.1 (by omega)).mp ((hc _ _).mp c1)
    have d2 := (I.conn p _ h0 h1 l2.1 (by omega)).mp ((hc _ _).mpr c2)
    have e1 := (I'.lo (labAt (labelF n E) p) l1.1 (by omega)).2
    have e2 := (I.lo (labAt (labelF n E') p) l2.1 (by omega)).2
    omega
  rw [partsOf_eq h, partsOf_eq h']
  have e1 : ((rangeI n).filter fun m => decide (labAt (labelF n E) m = m)) = (rangeI n).filter fun m => decide (labAt (labelF n E') m = m) := by
    refine List.filter_congr fun m hm => ?_
    have hm := mem_rangeI.mp hm
    rw [el m hm.1 hm.2]
  rw [e1]
  refine List.map_congr_left fun m _ => ?_
  unfold compF
  refine List.filter_congr fun p hp => ?_
  have hp := mem_rangeI.mp hp
  rw [el p hp.1 hp.2]
theorem filter_len_lt {α : Type} {f g : α → Bool} (hfg : ∀ x, f x = true → g x = true) : ∀ {l : List α}, (∃ x ∈ l, g x = true ∧ f x = false) → (l.filter f).length < (l.filter g).length
  | [], h => by obtain ⟨x, hx, _⟩ := h; exact (List.not_mem_nil hx).elim
  | y :: l, h => by
    have le : ∀ l : List α, (l.filter f).length ≤ (l.filter g).length := fun l => by
      induction l with
      | nil => exact Nat.le_refl _
      | cons z l ih =>
        rw [List.filter_cons, List.filter_cons]
        by_cases hz : f z = true
        · rw [if_pos hz, if_pos (hfg z hz)]; simp; exact ih
        · rw [if_neg hz]
          split
          · simp; omega
          · exact ih
    by_cases hf : f y = true
    · have : ∃ x ∈ l, g x = true ∧ f x = false := by
        obtain ⟨x, hx, h1, h2⟩ := h
        rcases List.mem_cons.mp hx with rfl | hx
        · rw [hf] at h2; cases h2
        · exact ⟨x, hx, h1, h2⟩
      have ih := filter_len_lt hfg this
      rw [List.filter_cons, List.filter_cons, if_pos hf, if_pos (hfg y hf)]
      simp; exact ih
    · rw [List.filter_cons, List.filter_cons, if_neg hf]
      by_cases hg : g y = true
      · rw [if_pos hg]
        have := le l
        simp; omega
      · rw [if_neg hg]
        refine filter_len_lt hfg ?_
        obtain ⟨x, hx, h1, h2⟩ := h
        rcases List.mem_cons.mp hx with rfl | hx
        · exact absurd h1 hg
        · exact ⟨x, hx, h1, h2⟩
/-- a pair left out: there are more parts just where its ends are parted -/
theorem more_parts {n : Int} {E E' : List (Int × Int)} {a b : Int} (h : edgesIn n E) (h' : edgesIn n E') (a0 : 0 ≤ a ∧ a < n) (b0 : 0 ≤ b ∧ b < n) (hc : ∀ p q, Conn E p q ↔ Conn E' p q ∨ (Conn E' p a ∧ Conn E' b q) ∨ (Conn E' p b ∧ Conn E' a q)) :
    ((partsOf n E').length > (partsOf n E).length) ↔ ¬ Conn E' a b := by
  have I := lab_of h
  have I' := lab_of h'
  constructor
  · intro hl hab
    have : partsOf n E = partsOf n E' := partsOf_congr h h' fun p q => by
      rw [hc]
      constructor
      · rintro (h | ⟨h1, h2⟩ | ⟨h1, h2⟩)
        · exact h
        · exact h1.trans (hab.trans h2)
        · exact h1.trans (hab.symm.trans h2)
      · exact .inl
    rw [this] at hl
    omega
  · intro hab
    rw [partsOf_eq h, partsOf_eq h', List.length_map, List.length_map]
    have la := I'.lo a a0.1 a0.2
    have lb := I'.lo b b0.1 b0.2
    have ne : labAt (labelF n E') a ≠ labAt (labelF n E') b := fun z => hab ((I'.conn a b a0.1 a0.2 b0.1 b0.2).mpr z)
    have least : ∀ m, 0 ≤ m → m < n → (labAt (labelF n E) m = m ↔ ∀ q, Conn E m q → 0 ≤ q → q < n → m ≤ q) := fun m h0 h1 => by
      have lm := I.lo m h0 h1
      constructor
      · intro e q hq q0 q1
        have := (I.conn m q h0 h1 q0 q1).mp hq
        have lq := (I.lo q q0 q1).2
        omega
      · intro k
        have := k _ ((I.conn m _ h0 h1 lm.1 (by omega)).mpr (I.idem m h0 h1).symm) lm.1 (by omega)
        omega
    have least' : ∀ m, 0 ≤ m → m < n → (labAt (labelF n E') m = m ↔ ∀ q, Conn E' m q → 0 ≤ q → q < n → m ≤ q) := fun m h0 h1 => by
      have lm := I'.lo m h0 h1
      constructor
      · intro e q hq q0 q1
        have := (I'.conn m q h0 h1 q0 q1).mp hq
        have lq := (I'.lo q q0 q1).2
        omega
      · intro k
        have := k _ ((I'.conn m _ h0 h1 lm.1 (by omega)).mpr (I'.idem m h0 h1).symm) lm.1 (by omega)
        omega
    have cut : ∀ (f g : Int → Bool), (∀ m, 0 ≤ m → m < n → f m = true → g m = true) → (∃ m, 0 ≤ m ∧ m < n ∧ g m = true ∧ f m = false) → ((rangeI n).filter f).length < ((rangeI n).filter g).length := fun f g k1 k2 => by
      have e1 : (rangeI n).filter f = (rangeI n).filter fun m => decide (0 ≤ m ∧ m < n) && f m := List.filter_congr fun m hm => by rw [decide_eq_true (mem_rangeI.mp hm)]; rfl
      rw [e1]
      refine filter_len_lt (fun m hm => ?_) ?_
      · simp at hm; exact k1 m hm.1.1 hm.1.2 hm.2
      · obtain ⟨m, m0, m1, m2, m3⟩ := k2
        exact ⟨m, mem_rangeI.mpr ⟨m0, m1⟩, m2, by rw [m3, Bool.and_false]⟩
    refine cut _ _ (fun m h0 h1 hm => ?_) ?_
    · simp only [decide_eq_true_eq] at hm ⊢
      rw [least m h0 h1] at hm
      rw [least' m h0 h1]
      exact fun q hq => hm q ((hc m q).mpr (.inl hq))
    · -- the greater of the two least places
      have ca : Conn E' a (labAt (labelF n E') a) := (I'.conn a _ a0.1 a0.2 la.1 (by omega)).mpr (I'.idem a a0.1 a0.2).symm
      have cb : Conn E' b (labAt (labelF n E') b) := (I'.conn b _ b0.1 b0.2 lb.1 (by omega)).mpr (I'.idem b b0.1 b0.2).symm
      rcases Int.lt_or_gt_of_ne ne with lt | lt
      · refine ⟨labAt (labelF n E') b, lb.1, by omega, by simp only [decide_eq_true_eq]; exact I'.idem b b0.1 b0.2, decide_eq_false fun z => ?_⟩
        rw [least _ lb.1 (by omega)] at z
        have := z (labAt (labelF n E') a) ((hc _ _).mpr (.inr (.inr ⟨cb.symm, ca⟩))) la.1 (by omega)
        omega
      · refine ⟨labAt (labelF n E') a, la.1, by omega, by simp only [decide_eq_true_eq]; exact I'.idem a a0.1 a0.2, decide_eq_false fun z => ?_⟩
        rw [least _ la.1 (by omega)] at z
        have := z (labAt (labelF n E') b) ((hc _ _).mpr (.inr (.inl ⟨ca.symm, cb⟩))) lb.1 (by omega)
        omega

/-! going from place to place: what is found, what waits -/
def pushS (s : List Int × List Int) (g : Int) : List Int × List Int := if g ∈ s.1 then s else (s.1 ++ [g], s.2 ++ [g])
def searchRun (nb : Int → List Int) : Nat → List Int × List Int → List Int
  | 0, s => s.1
  | k + 1, s => match s.2.getLast? with
    | none => s.1
    | some h => searchRun nb k ((nb h).foldl pushS (s.1, s.2.dropLast))
inductive Rch (nb : Int → List Int) (p : Int) : Int → Prop
  | refl : Rch nb p p
  | step {x y : Int} : Rch nb p x → y ∈ nb x → Rch nb p y
theorem searchRun_nil {nb : Int → List Int} {f : List Int} : ∀ m, searchRun nb m (f, []) = f
  | 0 => rfl
  | _ + 1 => rfl
theorem searchRun_pop {nb : Int → List Int} {m : Nat} {f w : List Int} {h : Int} (e : w.getLast? = some h) : searchRun nb (m + 1) (f, w) = searchRun nb m ((nb h).foldl pushS (f, w.dropLast)) := by
  show (match w.getLast? with | none => f | some h => _) = _
  rw [e]
structure PushI (l : List Int) (s t : List Int × List Int) : Prop where
  old : ∀ x ∈ s.1, x ∈ t.1
  wait : ∀ x ∈ s.2, x ∈ t.2
  all : ∀ x ∈ l, x ∈ t.1
  new : ∀ x ∈ t.1, x ∈ s.1 ∨ (x ∈ l ∧ x ∈ t.2)
  wnew : ∀ x ∈ t.2, x ∈ s.2 ∨ x ∈ l
  nodup : s.1.Nodup → t.1.Nodup
  len : t.1.length + s.2.length = s.1.length + t.2.length
theorem push_fold : ∀ (l : List Int) (s : List Int × List Int), PushI l s (l.foldl pushS s)
  | [], s => ⟨fun _ h => h, fun _ h => h, fun _ h => (List.not_mem_nil h).elim, fun _ h => .inl h, fun _ h => .inl h, fun h => h, rfl⟩
  | g :: l, s => by
    rw [List.foldl_cons]
    have I := push_fold l (pushS s g)
    by_cases hg : g ∈ s.1
    · have e : pushS s g = s := by unfold pushS; rw [if_pos hg]
      rw [e] at I ⊢
      refine ⟨I.old, I.wait, fun x hx => ?_, fun x hx => ?_, fun x hx => ?_, I.nodup, I.len⟩
      · rcases List.mem_cons.mp hx with rfl | hx
        · exact I.old _ hg
        · exact I.all x hx
      · exact (I.new x hx).imp id fun h => ⟨List.mem_cons_of_mem _ h.1, h.2⟩
      · exact (I.wnew x hx).imp id fun h => List.mem_cons_of_mem _ h
    · have e : pushS s g = (s.1 ++ [g], s.2 ++ [g]) := by unfold pushS; rw [if_neg hg]
      rw [e] at I ⊢
      refine ⟨fun x hx => I.old x (List.mem_append.mpr (.inl hx)), fun x hx => I.wait x (List.mem_append.mpr (.inl hx)), fun x hx => ?_, fun x hx => ?_, fun x hx => ?_, fun hn => I.nodup ?_, ?_⟩
      · rcases List.mem_cons.mp hx with rfl | hx
        · exact I.old _ (List.mem_append.mpr (.inr (List.mem_singleton.mpr rfl)))
        · exact I.all x hx
      · rcases I.new x hx with h | h
        · rcases List.mem_append.mp h with h | h
          · exact .inl h
          · rw [List.mem_singleton.mp h]
            exact .inr ⟨List.mem_cons_self .., I.wait _ (List.mem_append.mpr (.inr (List.mem_singleton.mpr rfl)))⟩
        · exact .inr ⟨List.mem_cons_of_mem _ h.1, h.2⟩
      · rcases I.wnew x hx with h | h
        · rcases List.mem_append.mp h with h | h
          · exact .inl h
          · exact .inr (by rw [List.mem_singleton.mp h]; exact List.mem_cons_self ..)
        · exact .inr (List.mem_cons_of_mem _ h)
      · rw [List.nodup_append]
        refine ⟨hn, List.nodup_cons.mpr ⟨List.not_mem_nil, List.nodup_nil⟩, fun a ha b hb z => ?_⟩
        rw [List.mem_singleton.mp hb] at z
        exact hg (z ▸ ha)
      · have := I.len
        simp only [List.length_append, List.length_singleton] at this
        omega
theorem nodup_le {ys : List Int} : ∀ {xs : List Int}, xs.Nodup → (∀ x ∈ xs, x ∈ ys) → xs.length ≤ ys.length := by
  intro xs
  induction xs generalizing ys with
  | nil => intro _ _; exact Nat.zero_le _
  | cons x xs ih =>
    intro h hs
    obtain ⟨h1, h2⟩ := List.nodup_cons.mp h
    have hx := hs x (List.mem_cons_self ..)
    have := ih (ys := ys.erase x) h2 fun y hy => (List.mem_erase_of_ne (fun (z : y = x) => h1 (z ▸ hy))).mpr (hs y (List.mem_cons_of_mem _ hy))
    rw [List.length_erase_of_mem hx] at this
    have : 0 < ys.length := List.length_pos_of_mem hx
    rw [List.length_cons]
    omega
/-- the run's state -/
structure SrI (nb : Int → List Int) (n p : Int) (m : Nat) (s : List Int × List Int) : Prop where
  st : p ∈ s.1
  rch : ∀ x ∈ s.1, Rch nb p x
  rng : ∀ x ∈ s.1, 0 ≤ x ∧ x < n
  sub : ∀ x ∈ s.2, x ∈ s.1
  nodup : s.1.Nodup
  done : ∀ x ∈ s.1, x ∈ s.2 ∨ ∀ y ∈ nb x, y ∈ s.1
  fuel : n.toNat + s.2.length ≤ m + s.1.length
def nbIn (nb : Int → List Int) (n : Int) : Prop := ∀ x, 0 ≤ x → x < n → ∀ y ∈ nb x, 0 ≤ y ∧ y < n
theorem SrI.short {nb : Int → List Int} {n p : Int} {m : Nat} {s : List Int × List Int} (I : SrI nb n p m s) : s.1.length ≤ n.toNat := by
  have := nodup_le (ys := rangeI n) I.nodup fun x hx => mem_rangeI.mpr (I.rng x hx)
  rw [rangeI_len] at this
  exact this
theorem sri_start {nb : Int → List Int} {n p : Int} (h0 : 0 ≤ p) (h1 : p < n) : SrI nb n p n.toNat ([p], [p]) :=
  ⟨List.mem_singleton.mpr rfl, fun x hx => by rw [List.mem_singleton.mp hx]; exact .refl, fun x hx => by rw [List.mem_singleton.mp hx]; exact ⟨h0, h1⟩, fun x hx => hx, List.nodup_cons.mpr ⟨List.not_mem_nil, List.nodup_nil⟩, fun x hx => .inl hx, Nat.le_refl _⟩
theorem sri_pop {nb : Int → List Int} {n p : Int} {m : Nat} {f w : List Int} {h : Int} (hnb : nbIn nb n) (I : SrI nb n p (m + 1) (f, w)) (e : w.getLast? = some h) : SrI nb n p m ((nb h).foldl pushS (f, w.dropLast)) := by
  have P := push_fold (nb h) (f, w.dropLast)
  have hw : w ≠ [] := fun z => by rw [z] at e; cases e
  have ew : w = w.dropLast ++ [h] := by
    rw [List.getLast?_eq_some_getLast hw] at e
    cases e
    exact (List.dropLast_concat_getLast hw).symm
  have hm : h ∈ w := by rw [ew]; simp
  have hf : h ∈ f := I.sub h hm
  have hr := I.rng h hf
  generalize (nb h).foldl pushS (f, w.dropLast) = t at P
  have newR : ∀ x ∈ t.1, Rch nb p x ∧ 0 ≤ x ∧ x < n := fun x hx => by
    rcases P.new x hx with k | ⟨k, _⟩
    · exact ⟨I.rch x k, I.rng x k⟩
    · exact ⟨(I.rch h hf).step k, hnb h hr.1 hr.2 x k⟩
  refine ⟨P.old p I.st, fun x hx => (newR x hx).1, fun x hx => (newR x hx).2, fun x hx => ?_, P.nodup I.nodup, fun x hx => ?_, ?_⟩
  · rcases P.wnew x hx with k | k
    · exact P.old x (I.sub x ((List.dropLast_sublist w).subset k))
    · exact P.all x k
  · rcases P.new x hx with k | ⟨_, k⟩
    · rcases I.done x k with k2 | k2
      · have k2 : x ∈ w := k2
        rw [ew] at k2
        rcases List.mem_append.mp k2 with k3 | k3
        · exact .inl (P.wait x k3)
        · rw [List.mem_singleton.mp k3]
          exact .inr fun y hy => P.all y hy
      · exact .inr fun y hy => P.old y (k2 y hy)
    · exact .inl k
  · have l := P.len
    have fu := I.fuel
    dsimp only at l fu
    have : w.length = w.dropLast.length + 1 := by
      conv => lhs; rw [ew]
      rw [List.length_append, List.length_singleton]
    omega
theorem sri_end {nb : Int → List Int} {n p : Int} {m : Nat} {f : List Int} (I : SrI nb n p m (f, [])) : ∀ x, x ∈ f ↔ Rch nb p x := fun x => by
  constructor
  · exact I.rch x
  · intro h
    induction h with
    | refl => exact I.st
    | step _ e ih =>
      rcases I.done _ ih with k | k
      · exact (List.not_mem_nil k).elim
      · exact k _ e
theorem sr_run {nb : Int → List Int} {n p : Int} (hnb : nbIn nb n) : ∀ {m : Nat} {s : List Int × List Int}, SrI nb n p m s → (∀ x, x ∈ searchRun nb m s ↔ Rch nb p x) ∧ (searchRun nb m s).Nodup ∧ ∀ x ∈ searchRun nb m s, 0 ≤ x ∧ x < n
  | 0, (f, w), I => by
    have hs := I.short
    have fu := I.fuel
    dsimp only at hs fu
    have : w = [] := List.eq_nil_of_length_eq_zero (by omega)
    subst this
    exact ⟨sri_end I, I.nodup, I.rng⟩
  | m + 1, (f, w), I => by
    cases e : w.getLast? with
    | none =>
      have : w = [] := List.getLast?_eq_none_iff.mp e
      subst this
      rw [searchRun_nil]
      exact ⟨sri_end I, I.nodup, I.rng⟩
    | some h =>
      rw [searchRun_pop e]
      exact sr_run hnb (sri_pop hnb I e)
/-- rising lists of the same numbers are the same -/
theorem sorted_ext : ∀ {xs ys : List Int}, xs.Pairwise (· < ·) → ys.Pairwise (· < ·) → (∀ x, x ∈ xs ↔ x ∈ ys) → xs = ys
  | [], [], _, _, _ => rfl
  | [], y :: ys, _, _, h => absurd ((h y).mpr (List.mem_cons_self ..)) List.not_mem_nil
  | x :: xs, [], _, _, h => absurd ((h x).mp (List.mem_cons_self ..)) List.not_mem_nil
  | x :: xs, y :: ys, h1, h2, h => by
    obtain ⟨a1, a2⟩ := List.pairwise_cons.mp h1
    obtain ⟨b1, b2⟩ := List.pairwise_cons.mp h2
    have e : x = y := by
      rcases List.mem_cons.mp ((h x).mp (List.mem_cons_self ..)) with e | e
      · exact e
      · rcases List.mem_cons.mp ((h y).mpr (List.mem_cons_self ..)) with e2 | e2
        · exact e2.symm
        · have := b1 x e; have := a1 y e2; omega
    subst e
    congr 1
    refine sorted_ext a2 b2 fun z => ?_
    constructor
    · intro hz
      rcases List.mem_cons.mp ((h z).mp (List.mem_cons_of_mem _ hz)) with e | e
      · have := a1 z hz; omega
      · exact e
    · intro hz
      rcases List.mem_cons.mp ((h z).mpr (List.mem_cons_of_mem _ hz)) with e | e
      · have := b1 z hz; omega
      · exact e
theorem rangeI_pw (n : Int) : (rangeI n).Pairwise (· < ·) := by
  unfold rangeI
  rw [List.pairwise_map]
  exact List.pairwise_lt_range.imp fun h => by omega
theorem sortI_lt {ns : List Int} (h : ns.Nodup) : (sortI ns).Pairwise (· < ·) := by
  have h1 := sortI_pw ns
  have h2 : (sortI ns).Nodup := (sortI_perm ns).nodup_iff.mpr h
  have := h1.and h2
  exact this.imp fun ⟨a, b⟩ => by omega
/-! the steps of a town -/
def stepsAt (rows : List (Int × Int × Int)) (p : Int) : List (Int × Int) := rows.flatMap fun r => (if r.2.1 = p then [(r.1, r.2.2)] else []) ++ (if r.2.2 = p then [(r.1, r.2.1)] else [])
def stepsF (n : Int) (rows : List (Int × Int × Int)) : List (List (Int × Int)) := (rangeI n).map (stepsAt rows)
def nbOf (steps : List (List (Int × Int))) (gone : List Int) (h : Int) : List Int := ((steps.getD h.toNat []).filter fun p => decide (p.1 ∉ gone)).map (·.2)
def leftE (rows : List (Int × Int × Int)) (gone : List Int) : List (Int × Int) := (rows.filter fun r => decide (r.1 ∉ gone)).map (·.2)
def rowsIn (n : Int) (rows : List (Int × Int × Int)) : Prop := ∀ r ∈ rows, (0 ≤ r.2.1 ∧ r.2.1 < n) ∧ (0 ≤ r.2.2 ∧ r.2.2 < n)
theorem mem_leftE {rows : List (Int × Int × Int)} {gone : List Int} {a b : Int} : (a, b) ∈ leftE rows gone ↔ ∃ s, (s, a, b) ∈ rows ∧ s ∉ gone := by
  unfold leftE
  rw [List.mem_map]
  constructor
  · rintro ⟨⟨s, x, y⟩, h, e⟩
    cases e
    rw [List.mem_filter] at h
    exact ⟨s, h.1, by simpa using h.2⟩
  · rintro ⟨s, h1, h2⟩
    exact ⟨(s, a, b), List.mem_filter.mpr ⟨h1, by simpa using h2⟩, rfl⟩
theorem leftE_in {n : Int} {rows : List (Int × Int × Int)} {gone : List Int} (h : rowsIn n rows) : edgesIn n (leftE rows gone) := fun e he => by
  obtain ⟨a, b⟩ := e
  obtain ⟨s, h1, _⟩ := mem_leftE.mp he
  exact h _ h1
theorem steps_get {n : Int} {rows : List (Int × Int × Int)} {p : Int} (h0 : 0 ≤ p) (h1 : p < n) : (stepsF n rows).getD p.toNat [] = stepsAt rows p := by
  unfold stepsF rangeI
  rw [List.getD_eq_getElem?_getD, List.getElem?_map, List.getElem?_map, List.getElem?_range (by omega)]
  show stepsAt rows (0 + (p.toNat : Int)) = stepsAt rows p
  congr 1
  omega
theorem mem_nb {n : Int} {rows : List (Int × Int × Int)} {gone : List Int} {p y : Int} (h0 : 0 ≤ p) (h1 : p < n) : y ∈ nbOf (stepsF n rows) gone p ↔ (p, y) ∈ leftE rows gone ∨ (y, p) ∈ leftE rows gone := by
  unfold nbOf
  rw [steps_get h0 h1, List.mem_map, mem_leftE, mem_leftE]
  constructor
  · rintro ⟨⟨s, g⟩, h, e⟩
    cases e
    rw [List.mem_filter] at h
    obtain ⟨h2, h3⟩ := h
    have h3 : s ∉ gone := by simpa using h3
    unfold stepsAt at h2
    obtain ⟨⟨s', a, b⟩, hr, hm⟩ := List.mem_flatMap.mp h2
    dsimp only at hm
    rcases List.mem_append.mp hm with hm | hm
    · split at hm
      next e =>
        have := List.mem_singleton.mp hm
        cases this
        subst e
        exact .inl ⟨s, hr, h3⟩
      next => cases hm
    · split at hm
      next e =>
        have := List.mem_singleton.mp hm
        cases this
        subst e
        exact .inr ⟨s, hr, h3⟩
      next => cases hm
  · intro h
    rcases h with ⟨s, hr, hs⟩ | ⟨s, hr, hs⟩
    · refine ⟨(s, y), List.mem_filter.mpr ⟨List.mem_flatMap.mpr ⟨_, hr, ?_⟩, by simpa using hs⟩, rfl⟩
      dsimp only
      rw [if_pos rfl]
      simp
    · refine ⟨(s, y), List.mem_filter.mpr ⟨List.mem_flatMap.mpr ⟨_, hr, ?_⟩, by simpa using hs⟩, rfl⟩
      dsimp only
      rw [if_pos (rfl : p = p)]
      simp
theorem nb_in {n : Int} {rows : List (Int × Int × Int)} {gone : List Int} (h : rowsIn n rows) : nbIn (nbOf (stepsF n rows) gone) n := fun x h0 h1 y hy => by
  rcases (mem_nb h0 h1).mp hy with k | k
  · exact (leftE_in h _ k).2
  · exact (leftE_in h _ k).1
theorem rch_conn {n : Int} {rows : List (Int × Int × Int)} {gone : List Int} {p x : Int} (h : rowsIn n rows) (h0 : 0 ≤ p) (h1 : p < n) : Rch (nbOf (stepsF n rows) gone) p x ↔ Conn (leftE rows gone) p x := by
  constructor
  · intro k
    have : Conn (leftE rows gone) p x ∧ 0 ≤ x ∧ x < n := by
      induction k with
      | refl => exact ⟨.refl _, h0, h1⟩
      | step _ e ih => exact ⟨ih.1.step ((mem_nb ih.2.1 ih.2.2).mp e), nb_in h _ ih.2.1 ih.2.2 _ e⟩
    exact this.1
  · intro k
    have : Rch (nbOf (stepsF n rows) gone) p x ∧ 0 ≤ x ∧ x < n := by
      induction k with
      | refl => exact ⟨.refl, h0, h1⟩
      | step _ e ih =>
        have m := (mem_nb ih.2.1 ih.2.2).mpr e
        exact ⟨ih.1.step m, nb_in h _ ih.2.1 ih.2.2 _ m⟩
    exact this.1
def comeF (n : Int) (rows : List (Int × Int × Int)) (gone : List Int) (p : Int) : List Int := sortI (searchRun (nbOf (stepsF n rows) gone) n.toNat ([p], [p]))
/-- what come_to tells -/
theorem come_eq {n : Int} {rows : List (Int × Int × Int)} {gone : List Int} {p : Int} (h : rowsIn n rows) (h0 : 0 ≤ p) (h1 : p < n) : comeF n rows gone p = compF n (labelF n (leftE rows gone)) (labAt (labelF n (leftE rows gone)) p) := by
  have I := lab_of (leftE_in (gone := gone) h)
  obtain ⟨k1, k2, k3⟩ := sr_run (nb_in (gone := gone) h) (sri_start h0 h1)
  refine sorted_ext (sortI_lt k2) ((rangeI_pw n).filter _) fun x => ?_
  unfold comeF compF
  rw [(sortI_perm _).mem_iff]
  rw [List.mem_filter, mem_rangeI, decide_eq_true_eq]
  constructor
  · intro hx
    have r := k3 x hx
    exact ⟨r, ((I.conn x p r.1 r.2 h0 h1).mp ((rch_conn h h0 h1).mp ((k1 x).mp hx)).symm)⟩
  · rintro ⟨r, e⟩
    exact (k1 x).mpr ((rch_conn h h0 h1).mpr ((I.conn x p r.1 r.2 h0 h1).mpr e).symm)
theorem mem_come {n : Int} {rows : List (Int × Int × Int)} {gone : List Int} {p x : Int} (h : rowsIn n rows) (h0 : 0 ≤ p) (h1 : p < n) : x ∈ comeF n rows gone p ↔ Conn (leftE rows gone) p x := by
  obtain ⟨k1, k2, k3⟩ := sr_run (nb_in (gone := gone) h) (sri_start h0 h1)
  unfold comeF
  rw [(sortI_perm _).mem_iff, k1 x, rch_conn h h0 h1]

/-! the parts, as the program finds them -/
def addL (h : List Int) (x : Int) : List Int := if x ∈ h then h else h ++ [x]
theorem mem_addL {y : Int} : ∀ {l h : List Int}, y ∈ l.foldl addL h ↔ y ∈ h ∨ y ∈ l
  | [], h => by simp
  | a :: l, h => by
    rw [List.foldl_cons, mem_addL]
    unfold addL
    split
    next k =>
      rw [List.mem_cons]
      constructor
      · rintro (h | h)
        · exact .inl h
        · exact .inr (.inr h)
      · rintro (h | rfl | h)
        · exact .inl h
        · exact .inl k
        · exact .inr h
    next => rw [List.mem_append, List.mem_singleton, List.mem_cons, or_assoc]
def partStep (come : Int → List Int) (s : List (List Int) × List Int) (p : Int) : List (List Int) × List Int := if p ∈ s.2 then s else (s.1 ++ [come p], (come p).foldl addL s.2)
def partedF (n : Int) (rows : List (Int × Int × Int)) (gone : List Int) : List (List Int) := ((rangeI n).foldl (partStep (comeF n rows gone)) ([], [])).1
theorem rangeI_succ (k : Nat) : rangeI ((k + 1 : Nat) : Int) = rangeI (k : Int) ++ [(k : Int)] := by
  unfold rangeI
  rw [Int.toNat_natCast, Int.toNat_natCast, List.range_succ, List.map_append]
  simp
theorem parted_inv {n : Int} {rows : List (Int × Int × Int)} {gone : List Int} (h : rowsIn n rows) : ∀ k : Nat, (k : Int) ≤ n →
    ((rangeI k).foldl (partStep (comeF n rows gone)) ([], [])).1 = ((rangeI k).filter fun m => decide (labAt (labelF n (leftE rows gone)) m = m)).map (compF n (labelF n (leftE rows gone))) ∧
    ∀ x, x ∈ ((rangeI k).foldl (partStep (comeF n rows gone)) ([], [])).2 ↔ (0 ≤ x ∧ x < n) ∧ labAt (labelF n (leftE rows gone)) x < k
  | 0, _ => by
    have I := lab_of (leftE_in (gone := gone) h)
    refine ⟨rfl, fun x => ⟨fun hx => (List.not_mem_nil (show x ∈ ([] : List Int) from hx)).elim, fun ⟨h1, h2⟩ => ?_⟩⟩
    have := (I.lo x h1.1 h1.2).1
    omega
  | k + 1, hk => by
    have I := lab_of (leftE_in (gone := gone) h)
    obtain ⟨i1, i2⟩ := parted_inv (gone := gone) h k (by omega)
    rw [rangeI_succ, List.foldl_append, List.filter_append]
    generalize (rangeI k).foldl (partStep (comeF n rows gone)) ([], []) = s at i1 i2
    have lk := I.lo k (by omega) (by omega)
    show (partStep _ s k).1 = _ ∧ ∀ x, x ∈ (partStep _ s k).2 ↔ _
    by_cases hm : (k : Int) ∈ s.2
    · have hl := ((i2 k).mp hm).2
      have e : partStep (comeF n rows gone) s k = s := by unfold partStep; rw [if_pos hm]
      rw [e]
      refine ⟨?_, fun x => ?_⟩
      · rw [i1, List.filter_cons, if_neg (by simp; omega)]
        simp
      · rw [i2]
        constructor
        · rintro ⟨h1, h2⟩; exact ⟨h1, by omega⟩
        · rintro ⟨h1, h2⟩
          refine ⟨h1, ?_⟩
          have ix := I.idem x h1.1 h1.2
          by_cases e : labAt (labelF n (leftE rows gone)) x = k
          · rw [e] at ix; omega
          · omega
    · have hl : labAt (labelF n (leftE rows gone)) k = k := by
        by_cases e : labAt (labelF n (leftE rows gone)) k < k
        · exact absurd ((i2 k).mpr ⟨⟨by omega, by omega⟩, e⟩) hm
        · omega
      have e : partStep (comeF n rows gone) s k = (s.1 ++ [comeF n rows gone k], (comeF n rows gone k).foldl addL s.2) := by unfold partStep; rw [if_neg hm]
      rw [e]
      refine ⟨?_, fun x => ?_⟩
      · rw [i1, List.filter_cons, if_pos (by simp [hl]), List.map_append]
        show _ ++ [comeF n rows gone k] = _ ++ [compF n (labelF n (leftE rows gone)) k]
        rw [come_eq h (by omega) (by omega), hl]
      · show x ∈ (comeF n rows gone k).foldl addL s.2 ↔ _
        rw [mem_addL, i2, come_eq h (by omega) (by omega), hl]
        unfold compF
        rw [List.mem_filter, mem_rangeI, decide_eq_true_eq]
        constructor
        · rintro (⟨h1, h2⟩ | ⟨h1, h2⟩)
          · exact ⟨h1, by omega⟩
          · exact ⟨h1, by omega⟩
        · rintro ⟨h1, h2⟩
          by_cases e : labAt (labelF n (leftE rows gone)) x = k
          · exact .inr ⟨h1, e⟩
          · exact .inl ⟨h1, by omega⟩
theorem parted_eq {n : Int} {rows : List (Int × Int × Int)} {gone : List Int} (hn : 0 ≤ n) (h : rowsIn n rows) : partedF n rows gone = partsOf n (leftE rows gone) := by
  have := (parted_inv (gone := gone) h n.toNat (by omega)).1
  rw [show ((n.toNat : Nat) : Int) = n by omega] at this
  rw [partsOf_eq (leftE_in h)]
  exact this
/-! the streets that part -/
def partingF (n : Int) (rows : List (Int × Int × Int)) : List Int := (rows.filter fun r => decide (r.2.2 ∉ comeF n rows [r.1] r.2.1)).map (·.1)
def dropE {α : Type} (xs : List α) (k : Nat) : List α := xs.take k ++ xs.drop (k + 1)
def goneF (n : Int) (E : List (Int × Int)) : List Nat := (List.range E.length).filter fun k => decide ((partsOf n (dropE E k)).length > (partsOf n E).length)
def keepF (n : Int) (E : List (Int × Int)) : List (Int × Int) := ((List.range E.length).filter fun k => decide (k ∉ goneF n E)).map fun k => E.getD k (0, 0)
theorem range_map {α : Type} (d : α) (xs : List α) : (List.range xs.length).map (fun k => xs.getD k d) = xs := by
  apply List.ext_getElem?
  intro i
  rw [List.getElem?_map]
  by_cases h : i < xs.length
  · rw [List.getElem?_range h, List.getElem?_eq_getElem h]
    show some (xs.getD i d) = _
    rw [List.getD_eq_getElem?_getD, List.getElem?_eq_getElem h]
    rfl
  · rw [List.getElem?_eq_none (by simpa using h), List.getElem?_eq_none (by omega)]
    rfl
theorem filter_ix {α : Type} (d : α) (f : α → Bool) (xs : List α) : xs.filter f = ((List.range xs.length).filter fun k => f (xs.getD k d)).map fun k => xs.getD k d := by
  conv => lhs; rw [← range_map d xs]
  rw [List.filter_map]
  rfl
theorem rows_inj {rows : List (Int × Int × Int)} (pw : rows.Pairwise fun p q => p.1 < q.1) {i j : Nat} {r s : Int × Int × Int} (hi : rows[i]? = some r) (hj : rows[j]? = some s) (e : r.1 = s.1) : i = j := by
  obtain ⟨li, ei⟩ := List.getElem?_eq_some_iff.mp hi
  obtain ⟨lj, ej⟩ := List.getElem?_eq_some_iff.mp hj
  have k := List.pairwise_iff_getElem.mp pw
  rcases Nat.lt_trichotomy i j with h | h | h
  · have := k i j li lj h; rw [ei, ej] at this; omega
  · exact h
  · have := k j i lj li h; rw [ei, ej] at this; omega
theorem leftE_one {rows : List (Int × Int × Int)} (pw : rows.Pairwise fun p q => p.1 < q.1) {k : Nat} {r : Int × Int × Int} (hk : rows[k]? = some r) : leftE rows [r.1] = dropE (rows.map (·.2)) k := by
  obtain ⟨lk, ek⟩ := List.getElem?_eq_some_iff.mp hk
  have e : rows = rows.take k ++ r :: rows.drop (k + 1) := by
    rw [← ek, ← List.drop_eq_getElem_cons lk, List.take_append_drop]
  have keep : ∀ i s, rows[i]? = some s → i ≠ k → s.1 ≠ r.1 := fun i s hs hi z => hi (rows_inj pw hs hk z)
  unfold leftE dropE
  rw [← List.map_take, ← List.map_drop, ← List.map_append]
  congr 1
  conv => lhs; rw [e]
  rw [List.filter_append, List.filter_cons, if_neg (by simp)]
  congr 1
  · refine List.filter_eq_self.mpr fun s hs => ?_
    obtain ⟨i, hi⟩ := List.mem_iff_getElem?.mp hs
    rw [List.getElem?_take] at hi
    split at hi
    next h => simpa using keep i s hi (by omega)
    next => cases hi
  · refine List.filter_eq_self.mpr fun s hs => ?_
    obtain ⟨i, hi⟩ := List.mem_iff_getElem?.mp hs
    rw [List.getElem?_drop] at hi
    simpa using keep _ s hi (by omega)
theorem dropE_conn {E : List (Int × Int)} {k : Nat} {a b : Int} (hk : E[k]? = some (a, b)) (p q : Int) : Conn E p q ↔ Conn (dropE E k) p q ∨ (Conn (dropE E k) p a ∧ Conn (dropE E k) b q) ∨ (Conn (dropE E k) p b ∧ Conn (dropE E k) a q) := by
  rw [← conn_snoc]
  obtain ⟨lk, ek⟩ := List.getElem?_eq_some_iff.mp hk
  have e : E = E.take k ++ (a, b) :: E.drop (k + 1) := by
    rw [← ek, ← List.drop_eq_getElem_cons lk, List.take_append_drop]
  have m : ∀ x, x ∈ E ↔ x ∈ dropE E k ++ [(a, b)] := fun x => by
    unfold dropE
    conv => lhs; rw [e]
    simp only [List.mem_append, List.mem_cons, List.not_mem_nil, or_false]
    constructor
    · rintro (h | h | h)
      · exact .inl (.inl h)
      · exact .inr h
      · exact .inl (.inr h)
    · rintro ((h | h) | h)
      · exact .inl h
      · exact .inr (.inr h)
      · exact .inr (.inl h)
  exact ⟨fun h => h.mono fun x hx => (m x).mp hx, fun h => h.mono fun x hx => (m x).mpr hx⟩
theorem rowsIn_map {n : Int} {rows : List (Int × Int × Int)} (h : rowsIn n rows) : edgesIn n (rows.map (·.2)) := fun e he => by
  obtain ⟨r, hr, rfl⟩ := List.mem_map.mp he
  exact h r hr
theorem dropE_in {n : Int} {E : List (Int × Int)} {k : Nat} (h : edgesIn n E) : edgesIn n (dropE E k) := fun e he => by
  unfold dropE at he
  rcases List.mem_append.mp he with he | he
  · exact h e (List.mem_of_mem_take he)
  · exact h e (List.mem_of_mem_drop he)
/-- a street parts just where the law finds more parts without it -/
theorem parting_at {n : Int} {rows : List (Int × Int × Int)} (h : rowsIn n rows) (pw : rows.Pairwise fun p q => p.1 < q.1) {k : Nat} {r : Int × Int × Int} (hk : rows[k]? = some r) :
    (r.2.2 ∉ comeF n rows [r.1] r.2.1) ↔ ((partsOf n (dropE (rows.map (·.2)) k)).length > (partsOf n (rows.map (·.2))).length) := by
  have hr := h r (List.mem_of_getElem? hk)
  rw [mem_come h hr.1.1 hr.1.2, leftE_one pw hk]
  obtain ⟨s, a, b⟩ := r
  have hk2 : (rows.map (·.2))[k]? = some (a, b) := by rw [List.getElem?_map, hk]; rfl
  exact (more_parts (rowsIn_map h) (dropE_in (rowsIn_map h)) hr.1 hr.2 (dropE_conn hk2)).symm
theorem getD_some {α : Type} {xs : List α} {k : Nat} {d x : α} (h : xs[k]? = some x) : xs.getD k d = x := by rw [List.getD_eq_getElem?_getD, h]; rfl
theorem parting_eq {n : Int} {rows : List (Int × Int × Int)} (h : rowsIn n rows) (pw : rows.Pairwise fun p q => p.1 < q.1) : partingF n rows = (goneF n (rows.map (·.2))).map fun k => (rows.getD k (0, 0, 0)).1 := by
  unfold partingF goneF
  rw [filter_ix (0, 0, 0), List.map_map, List.length_map]
  congr 1
  refine List.filter_congr fun k hk => ?_
  have lk := List.mem_range.mp hk
  have e : rows[k]? = some (rows.getD k (0, 0, 0)) := by rw [List.getElem?_eq_getElem lk, getD_some (List.getElem?_eq_getElem lk)]
  rw [Bool.eq_iff_iff, decide_eq_true_eq, decide_eq_true_eq]
  exact parting_at h pw e
theorem gone_iff {n : Int} {rows : List (Int × Int × Int)} (h : rowsIn n rows) (pw : rows.Pairwise fun p q => p.1 < q.1) {k : Nat} {r : Int × Int × Int} (hk : rows[k]? = some r) : r.1 ∈ partingF n rows ↔ k ∈ goneF n (rows.map (·.2)) := by
  rw [parting_eq h pw, List.mem_map]
  constructor
  · rintro ⟨j, hj, e⟩
    have lj : j < rows.length := by
      unfold goneF at hj
      rw [List.mem_filter, List.mem_range, List.length_map] at hj
      exact hj.1
    have ej := List.getElem?_eq_getElem lj
    rw [getD_some ej] at e
    rw [← rows_inj pw ej hk e]
    exact hj
  · intro hj
    exact ⟨k, hj, by rw [getD_some hk]⟩
theorem keep_eq {n : Int} {rows : List (Int × Int × Int)} (h : rowsIn n rows) (pw : rows.Pairwise fun p q => p.1 < q.1) : leftE rows (partingF n rows) = keepF n (rows.map (·.2)) := by
  unfold leftE keepF
  rw [filter_ix (0, 0, 0), List.map_map, List.length_map]
  have e1 : ((List.range rows.length).filter fun k => decide ((rows.getD k (0, 0, 0)).1 ∉ partingF n rows)) = (List.range rows.length).filter fun k => decide (k ∉ goneF n (rows.map (·.2))) := by
    refine List.filter_congr fun k hk => ?_
    have lk := List.mem_range.mp hk
    have e : rows[k]? = some (rows.getD k (0, 0, 0)) := by rw [List.getElem?_eq_getElem lk, getD_some (List.getElem?_eq_getElem lk)]
    rw [Bool.eq_iff_iff, decide_eq_true_eq, decide_eq_true_eq, gone_iff h pw e]
  rw [e1]
  refine List.map_congr_left fun k hk => ?_
  have lk := List.mem_range.mp (List.mem_filter.mp hk).1
  show (rows.getD k (0, 0, 0)).2 = (rows.map (·.2)).getD k (0, 0)
  rw [getD_some (List.getElem?_eq_getElem lk), getD_some (by rw [List.getElem?_map, List.getElem?_eq_getElem lk]; rfl)]
theorem leftE_nil (rows : List (Int × Int × Int)) : leftE rows [] = rows.map (·.2) := by
  unfold leftE
  rw [List.filter_eq_self.mpr fun _ _ => by simp]

abbrev s_come_to : Stmt := top 11
theorem sc_come_to : FnScope ["steps", "place", "gone", "found", "waiting", "street", "goal"] ["steps", "place", "gone"] (defScope s_come_to) := ⟨rfl, rfl, rfl, by decide +kernel, rfl, by decide +kernel, by decide +kernel⟩
abbrev s_steps_of : Stmt := top 10
theorem sc_steps_of : FnScope ["town", "found", "place", "street", "one", "other"] ["town"] (defScope s_steps_of) := ⟨rfl, rfl, rfl, by decide +kernel, rfl, by decide +kernel, by decide +kernel⟩
abbrev s_parted_by : Stmt := top 12
theorem sc_parted_by : FnScope ["town", "gone", "steps", "found", "had", "place", "part", "one"] ["town", "gone"] (defScope s_parted_by) := ⟨rfl, rfl, rfl, by decide +kernel, rfl, by decide +kernel, by decide +kernel⟩
abbrev s_parts : Stmt := top 13
theorem sc_parts : FnScope ["town"] ["town"] (defScope s_parts) := ⟨rfl, rfl, rfl, by decide +kernel, rfl, by decide +kernel, by decide +kernel⟩
abbrev s_parting : Stmt := top 15
theorem sc_parting : FnScope ["town", "steps", "street", "one", "other"] ["town"] (defScope s_parting) := ⟨rfl, rfl, rfl, by decide +kernel, rfl, by decide +kernel, by decide +kernel⟩
abbrev s_pieces : Stmt := top 16
theorem sc_pieces : FnScope ["town"] ["town"] (defScope s_pieces) := ⟨rfl, rfl, rfl, by decide +kernel, rfl, by decide +kernel, by decide +kernel⟩
def comeStep (gone : List Int) (s : List Int × List Int) (p : Int × Int) : List Int × List Int := if p.1 ∉ gone ∧ p.2 ∉ s.1 then (s.1 ++ [p.2], s.2 ++ [p.2]) else s
theorem come_fold (gone : List Int) : ∀ (l : List (Int × Int)) (s : List Int × List Int), l.foldl (comeStep gone) s = ((l.filter fun p => decide (p.1 ∉ gone)).map (·.2)).foldl pushS s
  | [], _ => rfl
  | p :: l, s => by
    rw [List.foldl_cons, List.filter_cons, come_fold gone l]
    by_cases h1 : p.1 ∈ gone
    · have e : comeStep gone s p = s := by unfold comeStep; rw [if_neg (fun z => z.1 h1)]
      rw [e, if_neg (by simpa using h1)]
    · rw [if_pos (by simpa using h1), List.map_cons, List.foldl_cons]
      congr 1
      unfold comeStep pushS
      by_cases h2 : p.2 ∈ s.1
      · rw [if_neg (fun z => z.2 h2), if_pos h2]
      · rw [if_pos ⟨h1, h2⟩, if_neg h2]
theorem evx_popS {K : PySem.W.Frag} {B F0 : Hp} {ρ : List Sl} {ds : List PyData} {d : PyData} {i : Nat} (hi : ρ[i]? = some (ml K B ds)) (hd : ds[ds.length - 1]? = some d) : ∀ F H σ, Cfg B F0 F H σ ρ → ∀ Q : VK, (∀ v F' H', Cfg B F0 F' H' σ (ρ.set i (ml K B ds.dropLast)) → Same F F' → Nw K B F' v d → Q v H') → (tBM0 K "list" rPop (tVar i)) σ H Q := fun F H σ c Q q => by
  obtain ⟨w, o⟩ := c.own
  obtain ⟨_, v, h1, l, xs, rfl, h3, h4, h5⟩ := o.sl i _ hi
  obtain ⟨y, e1, e2⟩ := nwAll_get h5 hd
  refine ⟨_, h1, .inl ⟨rfl, _, SqL.of h4⟩, l, xs, y, rfl, rfl, h4, by rw [nwAll_len h5]; exact e1, ?_⟩
  refine q y F _ (c.chg hi st_ml fun v' as e m n => ?_) (Same.refl _) e2
  obtain ⟨l', xs', rfl, rfl, e4, e5⟩ := m
  rw [h1] at e
  cases e
  rw [h4] at e4
  cases e4
  refine ⟨⟨l, xs.dropLast, rfl, rfl, upd_same, nwAll_dropLast e5⟩, fun a ha => upd_ne fun z => ha (by rw [z]; exact List.mem_singleton.mpr rfl), fun a ha => ?_⟩
  rw [List.mem_singleton.mp ha]
  exact ⟨_, upd_same, rfl⟩
abbrev stepsD (steps : List (List (Int × Int))) : PyData := .list (steps.map fun l => .list (l.map pairD))
def comeG (steps : List (List (Int × Int))) (gone : List Int) (p : Int) : List Int := sortI (searchRun (nbOf steps gone) steps.length ([p], [p]))
theorem comeG_eq {n : Int} {rows : List (Int × Int × Int)} {gone : List Int} {p : Int} : comeG (stepsF n rows) gone p = comeF n rows gone p := by
  unfold comeG comeF
  have : (stepsF n rows).length = n.toNat := by unfold stepsF; rw [List.length_map, rangeI_len]
  rw [this]
structure StepsOk (steps : List (List (Int × Int))) : Prop where
  few : steps.length ≤ 16
  rng : ∀ l ∈ steps, ∀ p ∈ l, 0 ≤ p.2 ∧ p.2 < (steps.length : Int)
theorem StepsOk.nb {steps : List (List (Int × Int))} (h : StepsOk steps) {gone : List Int} : nbIn (nbOf steps gone) (steps.length : Int) := fun x h0 h1 y hy => by
  unfold nbOf at hy
  obtain ⟨q, hq, rfl⟩ := List.mem_map.mp hy
  have hl : x.toNat < steps.length := by omega
  rw [getD_some (List.getElem?_eq_getElem hl)] at hq
  exact h.rng _ (List.getElem_mem hl) q (List.mem_filter.mp hq).1
/-- the run's state between two streets -/
theorem sri_mid {nb : Int → List Int} {n p : Int} {m : Nat} {f w l : List Int} {h : Int} (hnb : nbIn nb n) (I : SrI nb n p (m + 1) (f, w)) (e : w.getLast? = some h) (hl : ∀ y ∈ l, y ∈ nb h) : (l.foldl pushS (f, w.dropLast)).1.length ≤ n.toNat ∧ (l.foldl pushS (f, w.dropLast)).2.length ≤ m + n.toNat := by
  have P := push_fold l (f, w.dropLast)
  have hw : w ≠ [] := fun z => by rw [z] at e; cases e
  have hm : h ∈ w := by
    rw [List.getLast?_eq_some_getLast hw] at e
    cases e
    exact List.getLast_mem hw
  have hr := I.rng h (I.sub h hm)
  generalize l.foldl pushS (f, w.dropLast) = t at P
  have a : t.1.length ≤ n.toNat := by
    have := nodup_le (ys := rangeI n) (P.nodup I.nodup) fun x hx => mem_rangeI.mpr (by
      rcases P.new x hx with k | ⟨k, _⟩
      · exact I.rng x k
      · exact hnb h hr.1 hr.2 x (hl x k))
    rw [rangeI_len] at this
    exact this
  refine ⟨a, ?_⟩
  have pl := P.len
  have fu := I.fuel
  dsimp only at pl fu
  rw [List.length_dropLast] at pl
  have : 0 < w.length := List.length_pos_of_mem hm
  omega
abbrev spCome (K : PySem.W.Frag) : Sp := Fp K (fun x : List (List (Int × Int)) × Int × List Int => StepsOk x.1 ∧ 0 ≤ x.2.1 ∧ x.2.1 < (x.1.length : Int)) (fun x => [dat K (stepsD x.1), dat K (.int x.2.1), dat K (intsD x.2.2)]) (fun x => intsD (comeG x.1 x.2.2 x.2.1))
section
variable {P : Program} {w : World} {K : PySem.W.Frag} {mg : Str → Option Value} {base : Heap}
theorem ok_come (Z : Zs mg) (D : Dfn K mg "come_to" "come_to" s_come_to ["steps", "place", "gone"]) : Ok P w K mg base CX0 1 "come_to" ["steps", "place", "gone"] (spCome K) := by
  refine fp_ok D sc_come_to (by decide) (fun _ => rfl) (fun _ => stabC st_dat (stabC st_dat (stab1 st_dat))) (fun f cdv A outer s H E hr => ⟨_, (pss_cons (ps_set (i := 3) sc_come_to.nd rfl (Or.inl rfl) (pe_disp (pps_cons (pv 1) pe_bl pps_nil) (by rfl) (by rfl) (fun z => by cases z) (by decide)))
    (pss_cons (ps_set (i := 4) sc_come_to.nd rfl (Or.inl rfl) (pe_lst (pa_cons (pv 1) pa_nil)))
    (pss_cons (ps_while PassesOwn.never (pt_cmpR (kop_neD K (by exact hr.units)) (pv 4) (pe_lst pa_nil) (nomark _)) (pss_one (ps_for PassesOwn.never rfl (kpi_list K (pe_ix (kix_list K) (pv 0) (pe_bm0 PySem.F.plainAttrs_list PySem.F.slot_list_pop PySem.F.type_list_pop mt_pop (pv 4)) (fun _ _ => rfl))) (kpg_tup K 2 rfl (pgs_cons (pg_name (i := 5) sc_come_to.nd rfl (Or.inl rfl)) (pgs_cons (pg_name (i := 6) sc_come_to.nd rfl (Or.inl rfl)) pgs_nil)))
      (pss_one (ps_if (PW.pt (pw_and (pt_cmpR (kop_notIn_seq K) (pv 5) (pv 2) rfl) (pw_and1 (pt_cmp (pc_dnotin (by exact hu_of hr) (pv 6) (pv 3)))))) (pss_cons (ps_dput (by exact hu_of hr) (pv 3) (pv 6) pe_bl rfl)
    (pss_one (ps_expr (pe_bm PySem.F.plainAttrs_list PySem.F.slot_list_append PySem.F.type_list_append mt_append (pv 4) (pa_cons (pv 6) pa_nil))))) pss_nil)))))
    (pss_one (ps_ret (pe_callB (call_sortedDI rfl) (by rfl) Z.sorted (by decide +kernel) (pa_cons (pv 3) pa_nil))))))), ?_⟩)
  rintro ⟨steps, place, gone⟩ ⟨so, p0, p1⟩ Q q
  dsimp only at so p0 p1 q
  have few := so.few
  have hnb := so.nb (gone := gone)
  walk_at "go"
  refine' q_disp1 (K := K) (k := place) (d := .bool true) ?a0 ?a1 (q_setM K (ds := [.int place]) ?a2 (q_while (fun m ρ' => ∃ f w s5 s6, ρ' = [sa K (stepsD steps), sa K (.int place), sa K (intsD gone), md K H (foundD f), ml K H (w.map .int), s5, s6] ∧ searchRun (nbOf steps gone) m (f, w) = searchRun (nbOf steps gone) steps.length ([place], [place]) ∧ SrI (nbOf steps gone) (steps.length : Int) place m (f, w) ∧ m ≤ 16) steps.length ?a3 ?a4))
  case a0 => walk_at "ev"
  case a1 => walk_at "ev"
  case a2 => exact evm_lst (by walk_at "ev") (by simp)
  case a3 => exact ⟨[place], [place], _, _, rfl, rfl, by have := sri_start (nb := nbOf steps gone) p0 p1; rw [Int.toNat_natCast] at this; exact this, few⟩
  case a4 =>
    rintro m ρ' ⟨f, w, s5, s6, rfl, er, I, hm16⟩
    refine ⟨!w.isEmpty, ?b1, fun hc => ?b2, fun hc => ?b3⟩
    case b1 =>
      have e : (w.map PyData.int).isEmpty = w.isEmpty := by cases w <;> rfl
      rw [← e]
      walk_at "ev"
    case b2 =>
      have hw : w ≠ [] := by intro z; rw [z] at hc; simp at hc
      obtain ⟨h, eh⟩ := getLast_some hw
      have hmem : h ∈ w := by
        have e2 := eh
        rw [List.getLast?_eq_some_getLast hw] at e2
        cases e2
        exact List.getLast_mem hw
      have hr2 := I.rng h (I.sub h hmem)
      have hlen : h.toNat < steps.length := by omega
      have eg : steps[h.toNat]? = some (steps.getD h.toNat []) := by rw [getD_some (List.getElem?_eq_getElem hlen)]; exact List.getElem?_eq_getElem hlen
      cases m with
      | zero =>
        have k1 := I.short
        have k2 := I.fuel
        have : w.length ≠ 0 := fun z => hw (List.eq_nil_of_length_eq_zero z)
        dsimp only at k1 k2
        omega
      | succ m =>
      rw [searchRun_pop eh] at er
      have I2 := sri_pop hnb I eh
      have enb : nbOf steps gone h = (((steps.getD h.toNat []).filter fun p => decide (p.1 ∉ gone)).map (·.2)) := rfl
      generalize hg : steps.getD h.toNat [] = ways at eg enb
      refine' at_for (xs := ways) (e := pairD) (q := dat K) (ρ1 := [sa K (stepsD steps), sa K (.int place), sa K (intsD gone), md K H (foundD f), ml K H (w.dropLast.map .int), s5, s6]) (evi_listD (evx_ixL (i := h) ?c0 ?c1 ?c2 ?c3))
        (fun pre ρ' => ∃ s5 s6, ρ' = [sa K (stepsD steps), sa K (.int place), sa K (intsD gone), md K H (foundD (pre.foldl (comeStep gone) (f, w.dropLast)).1), ml K H ((pre.foldl (comeStep gone) (f, w.dropLast)).2.map .int), s5, s6]) ?c4 ?c5 ?c6
      case c0 => exact ev_var (i := 0) rfl
      case c1 => rw [← map_dropLast]; exact evx_pop (i := 4) rfl (last_get eh)
      case c2 => exact atI_map (fun l : List (Int × Int) => PyData.list (l.map pairD)) (atI_nn hr2.1 eg)
      case c3 => rw [← map_dropLast]; exact evx_popS (i := 4) rfl (last_get eh)
      case c4 => exact ⟨_, _, rfl⟩
      case c5 =>
        rintro F1 pre ⟨street, goal⟩ post ρ' hx ⟨s5, s6, rfl⟩
        have ef : (pre ++ [(street, goal)]).foldl (comeStep gone) (f, w.dropLast) = comeStep gone (pre.foldl (comeStep gone) (f, w.dropLast)) (street, goal) := by rw [List.foldl_append]; rfl
        have mid := sri_mid hnb I eh (l := ((pre.filter fun p => decide (p.1 ∉ gone)).map (·.2))) fun y hy => by
          obtain ⟨r, hr, rfl⟩ := List.mem_map.mp hy
          rw [enb]
          refine List.mem_map.mpr ⟨r, List.mem_filter.mpr ⟨?_, (List.mem_filter.mp hr).2⟩, rfl⟩
          rw [hx]
          exact List.mem_append.mpr (.inl (List.mem_filter.mp hr).1)
        rw [← come_fold, Int.toNat_natCast] at mid
        generalize pre.foldl (comeStep gone) (f, w.dropLast) = s at mid ef
        obtain ⟨f1, w1⟩ := s
        dsimp only at mid
        refine' ⟨_, _, bind_tupD (bindld_cons (bind_name st_dat) (bindld_cons (bind_name st_dat) bindld_nil)) rfl, ?_⟩
        refine' at_when (c := (!decide (street ∈ gone)) && !decide (goal ∈ f1)) (et_and ?d1 fun _ => ?d2) (fun hd => ?d3) (fun hd => ?d4)
        case d1 => exact et_test (K := K) (Ev.hd (ev_inI (neg := true) (evh_var rfl rd_sa) (evh_var rfl rd_sa)))
        case d2 =>
          rw [← look_found]
          exact et_test (K := K) (Ev.hd (ev_dnotin (evh_var rfl rd_sa) (evh_md rfl)))
        case d3 =>
          have hd2 : street ∉ gone ∧ goal ∉ f1 := by simpa using hd
          have es : comeStep gone (f1, w1) (street, goal) = (f1 ++ [goal], w1 ++ [goal]) := by unfold comeStep; rw [if_pos hd2]
          refine' q_dput (i := 3) (k := goal) (d := .bool true) rfl ev_bl (evh_var rfl rd_sa) ?e6 (at_drop (evx_append (i := 4) (d := .int goal) rfl ?e3 ?e4) (at_lpD ?e5))
          case e6 => rw [foundD, List.length_map]; dsimp only; omega
          case e3 => exact (evh_var rfl rd_sa).nw rfl
          case e4 => rw [List.length_map]; dsimp only; omega
          case e5 =>
            refine ⟨sa K (.int street), sa K (.int goal), ?_⟩
            rw [ef, es, put_found hd2.2, List.map_append]
            rfl
        case d4 =>
          have hd2 : ¬ (street ∉ gone ∧ goal ∉ f1) := by simpa using hd
          have es : comeStep gone (f1, w1) (street, goal) = (f1, w1) := by unfold comeStep; rw [if_neg hd2]
          refine at_nxt (at_lp ?_)
          refine ⟨sa K (.int street), sa K (.int goal), ?_⟩
          rw [ef, es]
          rfl
      case c6 =>
        rintro ρ' ⟨s5, s6, rfl⟩
        refine at_lwD (m' := m) (?_ : ∃ f w s5 s6, _ ∧ _ ∧ _ ∧ _) (Nat.lt_succ_self m)
        rw [come_fold, ← enb]
        exact ⟨_, _, _, _, rfl, er, I2, by omega⟩
    case b3 =>
      have hw : w = [] := by cases w with | nil => rfl | cons a b => simp at hc
      subst hw
      rw [searchRun_nil] at er
      have k1 := I.short
      dsimp only at k1
      subst er
      refine at_ret (d := intsD (comeG steps gone place)) (EvM.nw (evm_sortedK (kvs := foundD (searchRun (nbOf steps gone) steps.length ([place], [place]))) (evh_md rfl) ?_ (sortI_pw _) ?_)) q
      · rw [foundD, List.length_map]; omega
      · have e : (foundD (searchRun (nbOf steps gone) steps.length ([place], [place]))).map (·.1) = searchRun (nbOf steps gone) steps.length ([place], [place]) := by
          unfold foundD
          rw [List.map_map]
          exact List.map_id' _
        rw [e]
        exact sortI_perm _
end

theorem set_map {n i : Int} {α : Type} {g : Int → α} {x : α} (h0 : 0 ≤ i) (h1 : i < n) : ((rangeI n).map g).set i.toNat x = (rangeI n).map fun p => if p = i then x else g p := by
  apply List.ext_getElem?
  intro j
  have hr : ∀ j : Nat, (rangeI n)[j]? = if j < n.toNat then some (j : Int) else none := fun j => by
    unfold rangeI
    rw [List.getElem?_map]
    by_cases h : j < n.toNat
    · rw [List.getElem?_range h, if_pos h]; simp
    · rw [List.getElem?_eq_none (by simpa using h), if_neg h]; rfl
  by_cases e : j = i.toNat
  · subst e
    rw [List.getElem?_set_self (by rw [List.length_map, rangeI_len]; omega), List.getElem?_map, hr, if_pos (by omega)]
    show some x = some (if ((i.toNat : Nat) : Int) = i then x else _)
    rw [if_pos (by omega)]
  · rw [List.getElem?_set_ne (fun z => e z.symm), List.getElem?_map, List.getElem?_map, hr]
    by_cases hj : j < n.toNat
    · rw [if_pos hj]
      show some (g j) = some (if ((j : Nat) : Int) = i then x else g j)
      rw [if_neg (by omega)]
    · rw [if_neg hj]; rfl
theorem stepsAt_snoc (rows : List (Int × Int × Int)) (r : Int × Int × Int) (p : Int) : stepsAt (rows ++ [r]) p = stepsAt rows p ++ ((if r.2.1 = p then [(r.1, r.2.2)] else []) ++ (if r.2.2 = p then [(r.1, r.2.1)] else [])) := by
  unfold stepsAt
  rw [List.flatMap_append]
  simp
theorem stepsAt_len (p : Int) : ∀ rows : List (Int × Int × Int), (stepsAt rows p).length ≤ 2 * rows.length
  | [] => Nat.zero_le _
  | r :: rows => by
    have ih := stepsAt_len p rows
    have e : stepsAt (r :: rows) p = ((if r.2.1 = p then [(r.1, r.2.2)] else []) ++ (if r.2.2 = p then [(r.1, r.2.1)] else [])) ++ stepsAt rows p := by unfold stepsAt; rw [List.flatMap_cons]
    rw [e, List.length_append, List.length_append, List.length_cons]
    have a : ∀ (c : Prop) [Decidable c] (x : Int × Int), (if c then [x] else []).length ≤ 1 := fun c _ x => by split <;> simp
    have := a (r.2.1 = p) (r.1, r.2.2)
    have := a (r.2.2 = p) (r.1, r.2.1)
    omega
abbrev spSteps (K : PySem.W.Frag) (C : Addr) : Sp := Fp K (fun st : TSt => TOk st) (fun st => [isTown K C st]) (fun st => stepsD (stepsF st.many st.held))
theorem tok_in {st : TSt} (ok : TOk st) : rowsIn st.many st.held := fun r hr => by
  obtain ⟨_, _, a, b, c, d, _⟩ := ok.rng r hr
  exact ⟨⟨a, b⟩, c, d⟩
theorem steps_len (n : Int) (rows : List (Int × Int × Int)) : (stepsF n rows).length = n.toNat := by unfold stepsF; rw [List.length_map, rangeI_len]
theorem steps_ok {st : TSt} (ok : TOk st) : StepsOk (stepsF st.many st.held) := by
  have lo := ok.lo
  have hi := ok.hi
  refine ⟨by rw [steps_len]; omega, fun l hl p hp => ?_⟩
  rw [steps_len]
  obtain ⟨x, hx, rfl⟩ := List.mem_map.mp hl
  obtain ⟨r, hr, hm⟩ := List.mem_flatMap.mp hp
  have k := tok_in ok r hr
  rcases List.mem_append.mp hm with hm | hm
  · split at hm
    · rw [List.mem_singleton.mp hm]; dsimp only; omega
    · cases hm
  · split at hm
    · rw [List.mem_singleton.mp hm]; dsimp only; omega
    · cases hm
section
variable {P : Program} {w : World} {K : PySem.W.Frag} {mg : Str → Option Value} {base : Heap} {C : Addr}
theorem ok_steps (Z : Zs mg) (T : TownTxt K mg C) (M_places : OkM P w K mg base CX0 1 C "places" ["self"] (spPlaces K C)) (M_streets : OkM P w K mg base CX0 1 C "streets" ["self"] (spStreets K C)) (D : Dfn K mg "steps_of" "steps_of" s_steps_of ["town"]) : Ok P w K mg base CX0 2 "steps_of" ["town"] (spSteps K C) := by
  refine fp_ok D sc_steps_of (by decide) (fun _ => rfl) (fun _ => stab1 st_isTown) (fun f cdv A outer s H E hr => ⟨_, (pss_cons (ps_setLc (i := 1) (own := [("place", 2)]) (tt := tYes) rfl sc_steps_of.nd rfl rfl (sw_true rfl rfl rfl (by decide +kernel)) (pi_range1 rfl Z.range (pa_cons (ok_meth0 M_places (by exact hr.mono (by decide)) (pv 0)) pa_nil)) (blkOk_by (by dsimp only [cxOf, Cx.nox, Cx.wish, Cx.blk, compEnvC, envOfC]; (try (rw [relabel_eq]; dsimp only)); decide +kernel)) (fun _ _ _ _ _ => (pg_name (i := 2) sc_steps_of.nd rfl (Or.inl rfl))) (fun _ _ _ _ _ => pts_nil) (fun _ _ _ _ _ => (pe_lst pa_nil)))
    (pss_cons (ps_for PassesOwn.never rfl (kpi_list K (ok_meth0 M_streets (by exact hr.mono (by decide)) (pv 0))) (kpg_tup K 3 rfl (pgs_cons (pg_name (i := 3) sc_steps_of.nd rfl (Or.inl rfl)) (pgs_cons (pg_name (i := 4) sc_steps_of.nd rfl (Or.inl rfl)) (pgs_cons (pg_name (i := 5) sc_steps_of.nd rfl (Or.inl rfl)) pgs_nil))))
      (pss_cons (ps_expr (pe_bm PySem.F.plainAttrs_list PySem.F.slot_list_append PySem.F.type_list_append mt_append (pe_ix (kix_list K) (pv 1) (pv 4) (fun _ _ => rfl)) (pa_cons (pe_tup (pa_cons (pv 3) (pa_cons (pv 5) pa_nil))) pa_nil)))
    (pss_one (ps_expr (pe_bm PySem.F.plainAttrs_list PySem.F.slot_list_append PySem.F.type_list_append mt_append (pe_ix (kix_list K) (pv 1) (pv 5) (fun _ _ => rfl)) (pa_cons (pe_tup (pa_cons (pv 3) (pa_cons (pv 4) pa_nil))) pa_nil))))))
    (pss_one (ps_ret (pv 1))))), ?_⟩)
  rintro st ok Q q
  have lo := ok.lo
  have hi := ok.hi
  have few := ok.few
  have hin := tok_in ok
  walk_at "go"
  refine' q_setLL K (xs := rangeI st.many) (e := PyData.int) (q := nwd K H) ?a1 ?a2 ?a3 (q_for (xs := st.held) (e := rowD) (EvJ.i (evj_list (ev_streets ok (evh_town rfl))))
    (fun pre ρ' => ∃ s3 s4 s5, ρ' = [Sl.fz (isTown K C st), mll K H ((rangeI st.many).map fun p => (stepsAt pre p).map pairD), Sl.no, s3, s4, s5]) ?a4 ?a5 ?a6)
  case a1 =>
    rw [← rangeD_eq]
    exact evj_range1 (ea_cons st_dat (Ev.hd (ev_places (evh_town rfl))) ea_nil) (by omega)
  case a2 => exact fun F1 x hx => ⟨_, _, bind_name st_nwd, by decide⟩
  case a3 => rw [rangeI_len]; omega
  case a4 =>
    refine ⟨Sl.no, Sl.no, Sl.no, ?_⟩
    have e : List.replicate (rangeI st.many).length ([] : List PyData) = (rangeI st.many).map fun p => (stepsAt [] p).map pairD := by
      rw [← List.map_const']
      rfl
    rw [e]
    rfl
  case a5 =>
    rintro F1 pre ⟨s, one, other⟩ post ρ' hx ⟨s3, s4, s5, rfl⟩
    have hr := ok.rng (s, one, other) (by rw [hx]; simp)
    dsimp only at hr
    have lp : pre.length < 100 := by have := congrArg List.length hx; rw [List.length_append, List.length_cons] at this; omega
    have gt : ∀ (g : Int → List PyData) (i : Int), 0 ≤ i → i < st.many → ((rangeI st.many).map g)[i.toNat]? = some (g i) := fun g i h0 h1 => by
      unfold rangeI
      rw [List.getElem?_map, List.getElem?_map, List.getElem?_range (by omega)]
      show some (g (0 + (i.toNat : Int))) = some (g i)
      rw [show 0 + (i.toNat : Int) = i by omega]
    refine' ⟨_, _, (by walk_at "bd"), ?_⟩
    refine' q_drop (evx_appendAt (i := 1) (j := one) (ds := (stepsAt pre one).map pairD) (d := pairD (s, other)) rfl (evh_var rfl rd_sn) (by omega) (gt _ _ (by omega) (by omega)) ?b1 ?b2) ?b3
    case b1 => walk_at "ev"
    case b2 => rw [List.length_map]; have := stepsAt_len one pre; omega
    case b3 =>
      dsimp only
      rw [set_map (by omega) (by omega)]
      refine' at_drop (evx_appendAt (i := 1) (j := other) (ds := (stepsAt pre other).map pairD) (d := pairD (s, one)) rfl (evh_var rfl rd_sn) (by omega) ?c0 ?c1 ?c2) (at_lpD ?c3)
      case c0 =>
        rw [gt _ _ (by omega) (by omega), if_neg (fun z => hr.2.2.2.2.2.2 z.symm)]
      case c1 => walk_at "ev"
      case c2 => rw [List.length_map]; have := stepsAt_len other pre; omega
      case c3 =>
        refine ⟨sn K H (.int s), sn K H (.int one), sn K H (.int other), ?_⟩
        rw [set_map (by omega) (by omega)]
        have e : (fun p => if p = other then (stepsAt pre other).map pairD ++ [pairD (s, one)] else if p = one then (stepsAt pre one).map pairD ++ [pairD (s, other)] else (stepsAt pre p).map pairD) = fun p => (stepsAt (pre ++ [(s, one, other)]) p).map pairD := by
          funext p
          rw [stepsAt_snoc]
          dsimp only
          by_cases e1 : p = other
          · subst e1
            rw [if_pos rfl, if_neg hr.2.2.2.2.2.2, if_pos rfl, List.map_append]
            rfl
          · by_cases e2 : p = one
            · subst e2
              rw [if_neg e1, if_pos rfl, if_pos rfl, if_neg (fun z => e1 z.symm), List.map_append]
              rfl
            · rw [if_neg e1, if_neg e2, if_neg (fun z => e2 z.symm), if_neg (fun z => e1 z.symm), List.append_nil, List.append_nil]
        rw [← e]
        rfl
  case a6 =>
    rintro ρ' ⟨s3, s4, s5, rfl⟩
    refine at_retLL rfl fun v H' s n => q v H' s ?_
    have e : ((rangeI st.many).map fun p => (stepsAt st.held p).map pairD).map PyData.list = (stepsF st.many st.held).map fun l => .list (l.map pairD) := by
      unfold stepsF
      rw [List.map_map, List.map_map]
      rfl
    rw [e] at n
    exact n
end
theorem addL_len : ∀ (l h : List Int), (l.foldl addL h).length ≤ h.length + l.length
  | [], h => by simp
  | x :: l, h => by
    rw [List.foldl_cons]
    have := addL_len l (addL h x)
    have e : (addL h x).length ≤ h.length + 1 := by
      unfold addL
      split
      · omega
      · rw [List.length_append]; simp
    rw [List.length_cons]
    omega
theorem put_add {f : List Int} {x : Int} : putI (foundD f) x (.bool true) = foundD (addL f x) := by
  unfold addL
  split
  next h =>
    unfold putI
    have e : ((foundD f).any fun p => p.1 == x) = true := by
      rw [List.any_eq_true]
      exact ⟨(x, .bool true), List.mem_map.mpr ⟨x, h, rfl⟩, by simp⟩
    rw [if_pos e]
    unfold foundD
    rw [List.map_map]
    refine List.map_congr_left fun y _ => ?_
    show (if y = x then (y, PyData.bool true) else (y, .bool true)) = _
    split <;> rfl
  next h => exact put_found h
theorem come_rng {n : Int} {rows : List (Int × Int × Int)} {gone : List Int} {p : Int} (h : rowsIn n rows) (h0 : 0 ≤ p) (h1 : p < n) : (comeF n rows gone p).length ≤ n.toNat := by
  obtain ⟨k1, k2, k3⟩ := sr_run (nb_in (gone := gone) h) (sri_start h0 h1)
  unfold comeF
  rw [sortI_len]
  have := nodup_le (ys := rangeI n) k2 fun x hx => mem_rangeI.mpr (k3 x hx)
  rw [rangeI_len] at this
  exact this
abbrev partsD (ps : List (List Int)) : PyData := .list (ps.map intsD)
abbrev spParted (K : PySem.W.Frag) (C : Addr) : Sp := Fp K (fun x : TSt × List Int => TOk x.1) (fun x => [isTown K C x.1, dat K (intsD x.2)]) (fun x => partsD (partsOf x.1.many (leftE x.1.held x.2)))
section
variable {P : Program} {w : World} {K : PySem.W.Frag} {mg : Str → Option Value} {base : Heap} {C : Addr}
theorem ok_parted (Z : Zs mg) (T : TownTxt K mg C) (M_places : OkM P w K mg base CX0 1 C "places" ["self"] (spPlaces K C)) (G_steps_of : Ok P w K mg base CX0 2 "steps_of" ["town"] (spSteps K C)) (G_come_to : Ok P w K mg base CX0 1 "come_to" ["steps", "place", "gone"] (spCome K))
    (D : Dfn K mg "parted_by" "parted_by" s_parted_by ["town", "gone"]) : Ok P w K mg base CX0 3 "parted_by" ["town", "gone"] (spParted K C) := by
  refine fp_ok D sc_parted_by (by decide) (fun _ => rfl) (fun _ => stabC st_isTown (stab1 st_dat)) (fun f cdv A outer s H E hr => ⟨_, (pss_cons (ps_set (i := 2) sc_parted_by.nd rfl (Or.inl rfl) (ok_call G_steps_of (by exact hr.mono (by decide)) rfl (pa_cons (pv 0) pa_nil)))
    (pss_cons (ps_set (i := 3) sc_parted_by.nd rfl (Or.inl rfl) (pe_lst pa_nil))
    (pss_cons (ps_set (i := 4) sc_parted_by.nd rfl (Or.inl rfl) pe_dnewK)
    (pss_cons (ps_for PassesOwn.never rfl (pi_range1 rfl Z.range (pa_cons (ok_meth0 M_places (by exact hr.mono (by decide)) (pv 0)) pa_nil)) (pg_name (i := 5) sc_parted_by.nd rfl (Or.inl rfl))
      (pss_one (ps_if (pt_cmp (pc_dnotin (by exact hu_of hr) (pv 5) (pv 4))) (pss_cons (ps_set (i := 6) sc_parted_by.nd rfl (Or.inl rfl) (ok_call G_come_to (by exact hr.mono (by decide)) rfl (pa_cons (pv 2) (pa_cons (pv 5) (pa_cons (pv 1) pa_nil)))))
    (pss_cons (ps_expr (pe_bm PySem.F.plainAttrs_list PySem.F.slot_list_append PySem.F.type_list_append mt_append (pv 3) (pa_cons (pv 6) pa_nil)))
    (pss_one (ps_for PassesOwn.never rfl (kpi_list K (pv 6)) (pg_name (i := 7) sc_parted_by.nd rfl (Or.inl rfl))
      (pss_one (ps_dput (by exact hu_of hr) (pv 4) (pv 7) pe_bl rfl)))))) pss_nil)))
    (pss_one (ps_ret (pv 3))))))), ?_⟩)
  rintro ⟨st, gone⟩ ok Q q
  dsimp only at ok q
  have lo := ok.lo
  have hi := ok.hi
  have hin := tok_in ok
  have so := steps_ok ok
  rw [← parted_eq (by omega) hin] at q
  walk_at "go"
  refine' q_set K (d := stepsD (stepsF st.many st.held)) ?a1 (q_setM K (ds := []) ?a2 (q_setK K (q_for (xs := rangeI st.many) (e := PyData.int) (q := nwd K H) (EvJ.i ?a3)
    (fun pre ρ' => ∃ s5 s6 s7, ρ' = [Sl.fz (isTown K C st), sa K (intsD gone), sn K H (stepsD (stepsF st.many st.held)), ml K H ((pre.foldl (partStep (comeF st.many st.held gone)) ([], [])).1.map intsD), md K H (foundD (pre.foldl (partStep (comeF st.many st.held gone)) ([], [])).2), s5, s6, s7] ∧ (pre.foldl (partStep (comeF st.many st.held gone)) ([], [])).2.length ≤ 16 * pre.length ∧ (pre.foldl (partStep (comeF st.many st.held gone)) ([], [])).1.length ≤ pre.length) ?a4 ?a5 ?a6)))
  case a1 => exact ev_call (α := TSt) st ok (ea_cons st_isTown (evh_town rfl) ea_nil)
  case a2 => exact evm_lst eas_nil (by simp)
  case a3 =>
    rw [← rangeD_eq]
    exact evj_range1 (ea_cons st_dat (Ev.hd (ev_places (evh_town rfl))) ea_nil) (by omega)
  case a4 => exact ⟨_, _, _, rfl, Nat.zero_le _, Nat.zero_le _⟩
  case a5 =>
    rintro F1 pre p post ρ' hx ⟨s5, s6, s7, rfl, l2, l1⟩
    have hp : 0 ≤ p ∧ p < st.many := mem_rangeI.mp (by rw [hx]; simp)
    have lpre : pre.length ≤ 16 := by have := congrArg List.length hx; rw [rangeI_len, List.length_append, List.length_cons] at this; omega
    have ef : (pre ++ [p]).foldl (partStep (comeF st.many st.held gone)) ([], []) = partStep (comeF st.many st.held gone) (pre.foldl (partStep (comeF st.many st.held gone)) ([], [])) p := by rw [List.foldl_append]; rfl
    have lpp : (pre ++ [p]).length = pre.length + 1 := by rw [List.length_append, List.length_singleton]
    generalize pre.foldl (partStep (comeF st.many st.held gone)) ([], []) = t at l2 l1 ef
    obtain ⟨t1, t2⟩ := t
    dsimp only at l1 l2
    have cl := come_rng (gone := gone) hin hp.1 hp.2
    refine' ⟨_, _, (by walk_at "bd"), ?_⟩
    refine' at_when (c := !decide (p ∈ t2)) ?b1 (fun hc => ?b2) (fun hc => ?b3)
    case b1 =>
      rw [← look_found]
      exact et_test (K := K) (Ev.hd (ev_dnotin (evh_var rfl rd_sn) (evh_md rfl)))
    case b2 =>
      have hm : p ∉ t2 := by simpa using hc
      have es : partStep (comeF st.many st.held gone) (t1, t2) p = (t1 ++ [comeF st.many st.held gone p], (comeF st.many st.held gone p).foldl addL t2) := by unfold partStep; rw [if_neg hm]
      have ec := (comeG_eq (n := st.many) (rows := st.held) (gone := gone) (p := p)).symm
      generalize hpart : comeF st.many st.held gone p = part at es cl ec
      refine' q_set K (d := intsD part) ?c1 (q_drop (evx_append (i := 3) (d := intsD part) rfl ?c2 ?c3) (at_for (xs := part) (e := PyData.int) (q := nwd K H) (EvJ.i (evj_list ?c4))
        (fun pre ρ' => ∃ s7, ρ' = [Sl.fz (isTown K C st), sa K (intsD gone), sn K H (stepsD (stepsF st.many st.held)), ml K H ((t1 ++ [part]).map intsD), md K H (foundD (pre.foldl addL t2)), sn K H (.int p), sn K H (intsD part), s7]) ?c5 ?c6 ?c7))
      case c1 =>
        rw [ec]
        exact ev_call (α := List (List (Int × Int)) × Int × List Int) (stepsF st.many st.held, p, gone) ⟨so, hp.1, by dsimp only; rw [steps_len]; omega⟩ (ea_cons st_dat (evh_var rfl rd_sn) (ea_cons st_dat (evh_var rfl rd_sn) (ea_cons st_dat (evh_var rfl rd_sa) ea_nil)))
      case c2 => exact ev_var rfl
      case c3 => rw [List.length_map]; dsimp only; omega
      case c4 => exact ev_var rfl
      case c5 => refine ⟨s7, ?_⟩; rw [List.map_append]; rfl
      case c6 =>
        rintro F2 pre2 x post2 ρ'' hx2 ⟨s7, rfl⟩
        have l3 := addL_len pre2 t2
        have l4 : pre2.length ≤ part.length := by rw [hx2, List.length_append]; omega
        refine' ⟨_, _, (by walk_at "bd"), ?_⟩
        refine' at_dput (i := 4) (k := x) (d := .bool true) rfl ev_bl (evh_var rfl rd_sn) ?d1 (at_lpD ?d2)
        case d1 => rw [foundD, List.length_map]; omega
        case d2 =>
          refine ⟨sn K H (.int x), ?_⟩
          rw [put_add, List.foldl_append]
          rfl
      case c7 =>
        rintro ρ'' ⟨s7, rfl⟩
        have l3 := addL_len part t2
        refine at_lpD ?_
        refine ⟨sn K H (.int p), sn K H (intsD part), s7, ?_, ?_, ?_⟩
        · rw [ef, es]
        · rw [ef, es, lpp]; dsimp only; omega
        · rw [ef, es, lpp, List.length_append]; simp; omega
    case b3 =>
      have hm : p ∈ t2 := by simpa using hc
      have es : partStep (comeF st.many st.held gone) (t1, t2) p = (t1, t2) := by unfold partStep; rw [if_pos hm]
      refine at_nxt (at_lp ?_)
      refine ⟨sn K H (.int p), s6, s7, ?_, ?_, ?_⟩
      · rw [ef, es]; rfl
      · rw [ef, es, lpp]; dsimp only; omega
      · rw [ef, es, lpp]; dsimp only; omega
  case a6 =>
    rintro ρ' ⟨s5, s6, s7, rfl, _, _⟩
    exact at_retL rfl q
end

abbrev spParts (K : PySem.W.Frag) (C : Addr) : Sp := Fp K (fun st : TSt => TOk st) (fun st => [isTown K C st]) (fun st => partsD (partsOf st.many (leftE st.held [])))
abbrev spParting (K : PySem.W.Frag) (C : Addr) : Sp := Fp K (fun st : TSt => TOk st) (fun st => [isTown K C st]) (fun st => intsD (partingF st.many st.held))
abbrev spPieces (K : PySem.W.Frag) (C : Addr) : Sp := Fp K (fun st : TSt => TOk st) (fun st => [isTown K C st]) (fun st => partsD (partsOf st.many (leftE st.held (partingF st.many st.held))))
section
variable {P : Program} {w : World} {K : PySem.W.Frag} {mg : Str → Option Value} {base : Heap} {C : Addr}
theorem ok_parts (G_parted_by : Ok P w K mg base CX0 3 "parted_by" ["town", "gone"] (spParted K C)) (D : Dfn K mg "parts" "parts" s_parts ["town"]) : Ok P w K mg base CX0 4 "parts" ["town"] (spParts K C) := by
  refine fp_ok D sc_parts (by decide) (fun _ => rfl) (fun _ => stab1 st_isTown) (fun f cdv A outer s H E hr => ⟨_, (pss_one (ps_ret (ok_call G_parted_by (by exact hr.mono (by decide)) rfl (pa_cons (pv 0) (pa_cons (pe_lst pa_nil) pa_nil))))), ?_⟩)
  rintro st ok Q q
  walk_at "go"
  exact at_ret (ev_call (α := TSt × List Int) (st, []) ok (ea_cons st_isTown (evh_town rfl) (ea_cons st_dat (Ev.hd (EvM.nw (evm_lst eas_nil (by simp)))) ea_nil))) q
theorem ok_parting (Z : Zs mg) (T : TownTxt K mg C) (M_streets : OkM P w K mg base CX0 1 C "streets" ["self"] (spStreets K C)) (G_steps_of : Ok P w K mg base CX0 2 "steps_of" ["town"] (spSteps K C)) (G_come_to : Ok P w K mg base CX0 1 "come_to" ["steps", "place", "gone"] (spCome K))
    (D : Dfn K mg "parting" "parting" s_parting ["town"]) : Ok P w K mg base CX0 3 "parting" ["town"] (spParting K C) := by
  refine fp_ok D sc_parting (by decide) (fun _ => rfl) (fun _ => stab1 st_isTown) (fun f cdv A outer s H E hr => ⟨_, (pss_cons (ps_set (i := 1) sc_parting.nd rfl (Or.inr rfl) (ok_call G_steps_of (by exact hr.mono (by decide)) rfl (pa_cons (pv 0) pa_nil)))
    (pss_one (ps_ret (pe_lc (own := [("street", 2), ("one", 3), ("other", 4)]) rfl sc_parting.nd (kpi_list K (ok_meth0 M_streets (by exact hr.mono (by decide)) (pv 0))) (blkOk_by (by dsimp only [cxOf, Cx.nox, Cx.wish, Cx.blk, compEnvC, envOfC]; (try (rw [relabel_eq]; dsimp only)); decide +kernel)) (fun _ _ _ _ _ => (kpg_tup K 3 rfl (pgs_cons (pg_name (i := 2) sc_parting.nd rfl (Or.inl rfl)) (pgs_cons (pg_name (i := 3) sc_parting.nd rfl (Or.inl rfl)) (pgs_cons (pg_name (i := 4) sc_parting.nd rfl (Or.inl rfl)) pgs_nil))))) (fun _ _ _ _ _ => (pts_one (pt_cmpR (kop_notIn_seq K) (pv 4) (ok_call G_come_to (by exact hr.mono (by decide)) rfl (pa_cons (pv 1) (pa_cons (pv 3) (pa_cons (pe_lst (pa_cons (pv 2) pa_nil)) pa_nil)))) rfl))) (fun _ _ _ _ _ => (pv 2)))))), ?_⟩)
  rintro st ok Q q
  have few := ok.few
  have hin := tok_in ok
  have so := steps_ok ok
  have lo := ok.lo
  walk_at "go"
  refine' q_set K (d := stepsD (stepsF st.many st.held)) (ev_call (α := TSt) st ok (ea_cons st_isTown (evh_town rfl) ea_nil)) (at_ret (K := K) (d := .list ((st.held.filter fun r => decide (r.2.2 ∉ comeF st.many st.held [r.1] r.2.1)).map fun r => .int r.1)) (EvM.nw (K := K) ?a1) ?a2)
  case a1 =>
    refine evm_lc (xs := st.held) (e := rowD) (fun r => decide (r.2.2 ∉ comeF st.many st.held [r.1] r.2.1)) (fun r => .int r.1) (evj_list (ev_streets ok (evh_town rfl))) (fun F1 x hx => ?_) (by omega)
    obtain ⟨s, one, other⟩ := x
    have hr := hin _ hx
    dsimp only at hr
    refine ⟨_, _, (by walk_at "bd"), by decide, ?_, fun _ => (by walk_at "ev")⟩
    have h := ev_inI (K := K) (B := H) (F0 := F1) (neg := true) (a := other) (ns := comeG (stepsF st.many st.held) [s] one) (ρ := [Sl.fz (isTown K C st), sn K H (stepsD (stepsF st.many st.held)), sn K H (.int s), sn K H (.int one), sn K H (.int other)]) (ta := tVar 4) (evh_var rfl rd_sn) (Ev.hd (ev_call (α := List (List (Int × Int)) × Int × List Int) (pre := fun x => StepsOk x.1 ∧ 0 ≤ x.2.1 ∧ x.2.1 < (x.1.length : Int)) (args := fun x => [dat K (stepsD x.1), dat K (.int x.2.1), dat K (intsD x.2.2)]) (res := fun x => intsD (comeG x.1 x.2.2 x.2.1)) (E := E0) (tr := tCons (tVar 1) (tCons (tVar 3) (tCons (tLst (tCons (tVar 2) tNil)) tNil))) (stepsF st.many st.held, one, [s]) ⟨so, hr.1.1, by dsimp only; rw [steps_len]; omega⟩ (ea_cons st_dat (evh_var rfl rd_sn) (ea_cons st_dat (evh_var rfl rd_sn) (ea_cons st_dat (Ev.hd (EvM.nw (evm_lst (ds := [.int s]) (eas_cons (ev_var rfl) eas_nil) (by simp)))) ea_nil)))))
    rw [comeG_eq] at h
    have e : (if true = true then !decide (other ∈ comeF st.many st.held [s] one) else decide (other ∈ comeF st.many st.held [s] one)) = decide (other ∉ comeF st.many st.held [s] one) := by
      rw [if_pos rfl, Bool.eq_iff_iff]; simp
    rw [e] at h
    exact et_test (K := K) (Ev.hd h)
  case a2 =>
    have e : ((st.held.filter fun r => decide (r.2.2 ∉ comeF st.many st.held [r.1] r.2.1)).map fun r => PyData.int r.1) = (partingF st.many st.held).map .int := by
      unfold partingF
      rw [List.map_map]
      rfl
    rw [e]
    exact q
theorem ok_pieces (G_parted_by : Ok P w K mg base CX0 3 "parted_by" ["town", "gone"] (spParted K C)) (G_parting : Ok P w K mg base CX0 3 "parting" ["town"] (spParting K C)) (D : Dfn K mg "pieces" "pieces" s_pieces ["town"]) : Ok P w K mg base CX0 4 "pieces" ["town"] (spPieces K C) := by
  refine fp_ok D sc_pieces (by decide) (fun _ => rfl) (fun _ => stab1 st_isTown) (fun f cdv A outer s H E hr => ⟨_, (pss_one (ps_ret (ok_call G_parted_by (by exact hr.mono (by decide)) rfl (pa_cons (pv 0) (pa_cons (ok_call G_parting (by exact hr.mono (by decide)) rfl (pa_cons (pv 0) pa_nil)) pa_nil))))), ?_⟩)
  rintro st ok Q q
  walk_at "go"
  exact at_ret (ev_call (α := TSt × List Int) (st, partingF st.many st.held) ok (ea_cons st_isTown (evh_town rfl) (ea_cons st_dat (Ev.hd (ev_call (α := TSt) st ok (ea_cons st_isTown (evh_town rfl) ea_nil))) ea_nil))) q
end

/-! a shortest walk from a place to one of those that are known -/
abbrev Row := Int × Int × Int
abbrev Nd := Int × Option (Int × Int)
def pushB (h : Int) (A : List Nd) (p : Int × Int) : List Nd := if p.2 ∈ A.map (·.1) then A else A ++ [(p.2, some (p.1, h))]
def waysOf (steps : List (List (Int × Int))) (used : List Int) (h : Int) : List (Int × Int) := (steps.getD h.toNat []).filter fun p => decide (p.1 ∉ used)
def bfsRun (nb : Int → List (Int × Int)) (kn : Int → Bool) : Nat → Nat → List Nd → List Nd × Nat
  | 0, i, A => (A, i)
  | m + 1, i, A => match A[i]? with
    | none => (A, i)
    | some x => if kn x.1 = true then (A, i) else bfsRun nb kn m (i + 1) ((nb x.1).foldl (pushB x.1) A)
def lookB (A : List Nd) (x : Int) : Option (Int × Int) := ((A.find? fun y => decide (y.1 = x)).map (·.2)).getD none
def backF (A : List Nd) : Nat → Int → List Row
  | 0, _ => []
  | m + 1, h => match lookB A h with
    | some (s, p) => backF A m p ++ [(s, p, h)]
    | none => []
theorem pushB_fold (h : Int) : ∀ (l : List (Int × Int)) (A : List Nd), ∃ N, l.foldl (pushB h) A = A ++ N ∧ (∀ q ∈ l, q.2 ∈ (A ++ N).map (·.1)) ∧ (∀ x ∈ N, ∃ q ∈ l, x = (q.2, some (q.1, h))) ∧ ((A.map (·.1)).Nodup → ((A ++ N).map (·.1)).Nodup)
  | [], A => ⟨[], by simp, by simp, by simp, by simp⟩
  | q :: l, A => by
    obtain ⟨N, e, h1, h2, h3⟩ := pushB_fold h l (pushB h A q)
    rw [List.foldl_cons, e]
    by_cases hq : q.2 ∈ A.map (·.1)
    · have ep : pushB h A q = A := by unfold pushB; rw [if_pos hq]
      rw [ep] at h1 h3 ⊢
      refine ⟨N, rfl, fun x hx => ?_, fun x hx => ?_, h3⟩
      · rcases List.mem_cons.mp hx with rfl | hx
        · rw [List.map_append]; exact List.mem_append_left _ hq
        · exact h1 x hx
      · obtain ⟨y, hy, z⟩ := h2 x hx
        exact ⟨y, List.mem_cons_of_mem _ hy, z⟩
    · have ep : pushB h A q = A ++ [(q.2, some (q.1, h))] := by unfold pushB; rw [if_neg hq]
      rw [ep] at h1 h3 ⊢
      refine ⟨(q.2, some (q.1, h)) :: N, by simp, fun x hx => ?_, fun x hx => ?_, fun nd => ?_⟩
      · rcases List.mem_cons.mp hx with rfl | hx
        · simp
        · have := h1 x hx
          simpa using this
      · rcases List.mem_cons.mp hx with rfl | hx
        · exact ⟨q, List.mem_cons_self .., rfl⟩
        · obtain ⟨y, hy, z⟩ := h2 x hx
          exact ⟨y, List.mem_cons_of_mem _ hy, z⟩
      · have : ((A ++ [(q.2, some (q.1, h))]).map (·.1)).Nodup := by
          rw [List.map_append, List.nodup_append]
          refine ⟨nd, by simp, fun a ha b hb z => ?_⟩
          simp at hb
          rw [z, hb] at ha
          exact hq ha
        have := h3 this
        simpa using this
inductive RcS (nb : Int → List (Int × Int)) (b : Int) : Int → Prop
  | refl : RcS nb b b
  | step {x : Int} {q : Int × Int} : RcS nb b x → q ∈ nb x → RcS nb b q.2
structure BfI (nb : Int → List (Int × Int)) (kn : Int → Bool) (n b : Int) (i : Nat) (A : List Nd) : Prop where
  hd : A[0]? = some (b, none)
  nodup : (A.map (·.1)).Nodup
  rng : ∀ x ∈ A, 0 ≤ x.1 ∧ x.1 < n
  par : ∀ (j : Nat) x, A[j]? = some x → j ≠ 0 → ∃ s p k y, x.2 = some (s, p) ∧ k < j ∧ k < i ∧ A[k]? = some y ∧ y.1 = p ∧ (s, x.1) ∈ nb p
  unk : ∀ (j : Nat) x, j < i → A[j]? = some x → kn x.1 = false
  done : ∀ (j : Nat) x, j < i → A[j]? = some x → ∀ q ∈ nb x.1, q.2 ∈ A.map (·.1)
section
variable {nb : Int → List (Int × Int)} {kn : Int → Bool} {n b : Int} {i : Nat} {A : List Nd}
def nbsIn (nb : Int → List (Int × Int)) (n : Int) : Prop := ∀ x, 0 ≤ x → x < n → ∀ q ∈ nb x, 0 ≤ q.2 ∧ q.2 < n
theorem BfI.len (I : BfI nb kn n b i A) : A.length ≤ n.toNat := by
  have := nodup_le (ys := rangeI n) I.nodup fun x hx => by
    obtain ⟨y, hy, rfl⟩ := List.mem_map.mp hx
    exact mem_rangeI.mpr (I.rng y hy)
  rw [rangeI_len, List.length_map] at this
  exact this
theorem BfI.more (I : BfI nb kn n b i A) (hk : ∃ y, RcS nb b y ∧ kn y = true) : i < A.length := by
  obtain ⟨y, hy, ky⟩ := hk
  apply Classical.byContradiction
  intro hi
  have cl : ∀ z, RcS nb b z → ∃ (j : Nat) (x : Nd), A[j]? = some x ∧ x.1 = z := fun z hz => by
    induction hz with
    | refl => exact ⟨0, _, I.hd, rfl⟩
    | step _ hq ih =>
      obtain ⟨j, x, hj, rfl⟩ := ih
      have lj := (List.getElem?_eq_some_iff.mp hj).1
      obtain ⟨w, hw, e⟩ := List.mem_map.mp (I.done j x (by omega) hj _ hq)
      obtain ⟨k, hk⟩ := List.mem_iff_getElem?.mp hw
      exact ⟨k, w, hk, e⟩
  obtain ⟨j, x, hj, rfl⟩ := cl y hy
  have lj := (List.getElem?_eq_some_iff.mp hj).1
  have := I.unk j x (by omega) hj
  rw [this] at ky
  cases ky
theorem bfi_start (b0 : 0 ≤ b) (b1 : b < n) : BfI nb kn n b 0 [(b, none)] where
  hd := rfl
  nodup := by simp
  rng := fun x hx => by rw [List.mem_singleton.mp hx]; exact ⟨b0, b1⟩
  par := fun j x hj z => by
    match j, z with
    | j + 1, _ => simp at hj
  unk := fun j x z => by omega
  done := fun j x z => by omega
theorem bfi_step (hnb : nbsIn nb n) (I : BfI nb kn n b i A) {x : Nd} (hx : A[i]? = some x) (hk : kn x.1 = false) : BfI nb kn n b (i + 1) ((nb x.1).foldl (pushB x.1) A) := by
  obtain ⟨N, e, h1, h2, h3⟩ := pushB_fold x.1 (nb x.1) A
  rw [e]
  have li := (List.getElem?_eq_some_iff.mp hx).1
  have rx := I.rng x (List.mem_of_getElem? hx)
  have old : ∀ {j : Nat} {y : Nd}, j < A.length → ((A ++ N)[j]? = some y ↔ A[j]? = some y) := fun {j y} lj => by rw [List.getElem?_append_left lj]
  refine ⟨?_, h3 I.nodup, fun y hy => ?_, fun j y hj hz => ?_, fun j y hj hy => ?_, fun j y hj hy q hq => ?_⟩
  · rw [List.getElem?_append_left (by omega)]; exact I.hd
  · rcases List.mem_append.mp hy with hy | hy
    · exact I.rng y hy
    · obtain ⟨q, hq, rfl⟩ := h2 y hy
      exact hnb x.1 rx.1 rx.2 q hq
  · by_cases lj : j < A.length
    · obtain ⟨s, p, k, z, e1, e2, e3, e4, e5, e6⟩ := I.par j y ((old lj).mp hj) hz
      exact ⟨s, p, k, z, e1, e2, by omega, (old (by omega)).mpr e4, e5, e6⟩
    · rw [List.getElem?_append_right (by omega)] at hj
      obtain ⟨q, hq, rfl⟩ := h2 y (List.mem_of_getElem? hj)
      exact ⟨q.1, x.1, i, x, rfl, by omega, by omega, (old li).mpr hx, rfl, hq⟩
  · have lj : j < A.length := by omega
    have hy := (old lj).mp hy
    by_cases z : j = i
    · subst z
      rw [hx] at hy
      cases hy
      exact hk
    · exact I.unk j y (by omega) hy
  · have lj : j < A.length := by omega
    have hy := (old lj).mp hy
    by_cases z : j = i
    · subst z
      rw [hx] at hy
      cases hy
      exact h1 q hq
    · rw [List.map_append]
      exact List.mem_append_left _ (I.done j y (by omega) hy q hq)
theorem bf_run (hnb : nbsIn nb n) (hk : ∃ y, RcS nb b y ∧ kn y = true) : ∀ {m i : Nat} {A : List Nd}, BfI nb kn n b i A → n.toNat ≤ m + i → ∃ A' i' x, bfsRun nb kn m i A = (A', i') ∧ A'[i']? = some x ∧ kn x.1 = true ∧ BfI nb kn n b i' A'
  | 0, i, A, I, f => by
    have := I.more hk
    have := I.len
    omega
  | m + 1, i, A, I, f => by
    have hl := I.more hk
    have hx : A[i]? = some A[i] := List.getElem?_eq_getElem hl
    cases ek : kn (A[i]).1 with
    | true =>
      refine ⟨A, i, A[i], ?_, hx, ek, I⟩
      unfold bfsRun
      rw [hx]
      dsimp only
      rw [if_pos ek]
    | false =>
      obtain ⟨A', i', x, e, r⟩ := bf_run hnb hk (m := m) (bfi_step hnb I hx ek) (by omega)
      refine ⟨A', i', x, ?_, r⟩
      unfold bfsRun
      rw [hx]
      dsimp only
      rw [if_neg (by rw [ek]; decide)]
      exact e
/-- steps one behind the other -/
def chain (a : Int) : List Row → Int → Prop
  | [], b => a = b
  | r :: W, b => r.2.1 = a ∧ chain r.2.2 W b
theorem chain_app {W V : List Row} : ∀ {a c b : Int}, chain a W c → chain c V b → chain a (W ++ V) b := by
  induction W with
  | nil => intro a c b h1 h2; cases h1; exact h2
  | cons r W ih => intro a c b h1 h2; exact ⟨h1.1, ih h1.2 h2⟩
theorem nd_at {A : List Nd} (nd : (A.map (·.1)).Nodup) {j k : Nat} {x y : Nd} (hj : A[j]? = some x) (hk : A[k]? = some y) (e : x.1 = y.1) : j = k := by
  have lj := (List.getElem?_eq_some_iff.mp hj).1
  have h1 : (A.map (·.1))[j]? = some x.1 := by rw [List.getElem?_map, hj]; rfl
  have h2 : (A.map (·.1))[k]? = some x.1 := by rw [List.getElem?_map, hk, e]; rfl
  exact (List.getElem?_inj (by rw [List.length_map]; exact lj) nd).mp (h1.trans h2.symm)
theorem look_at {A : List Nd} (nd : (A.map (·.1)).Nodup) {j : Nat} {x : Nd} (hj : A[j]? = some x) : lookB A x.1 = x.2 := by
  unfold lookB
  cases e : A.find? fun y => decide (y.1 = x.1) with
  | none =>
    have := List.find?_eq_none.mp e x (List.mem_of_getElem? hj)
    simp at this
  | some y =>
    have h1 := List.find?_some e
    have h2 := List.mem_of_find?_eq_some e
    obtain ⟨k, hk⟩ := List.mem_iff_getElem?.mp h2
    have := nd_at nd hk hj (of_decide_eq_true h1)
    subst this
    rw [hk] at hj
    cases hj
    rfl
/-- a walk: its streets' places one by one, none twice -/
structure WkI (nb : Int → List (Int × Int)) (kn : Int → Bool) (b : Int) (W : List Row) (y : Int) : Prop where
  ch : chain b W y
  nbs : ∀ r ∈ W, (r.1, r.2.2) ∈ nb r.2.1
  unk : ∀ r ∈ W, kn r.2.1 = false
  nodup : (b :: W.map (·.2.2)).Nodup
theorem back_ok (I : BfI nb kn n b i A) : ∀ (j m : Nat) (x : Nd), A[j]? = some x → j ≤ i → j < m → WkI nb kn b (backF A m x.1) x.1 ∧ ∀ v ∈ b :: (backF A m x.1).map (·.2.2), ∃ (k : Nat) (y : Nd), k ≤ j ∧ A[k]? = some y ∧ y.1 = v := by
  intro j
  induction j using Nat.strongRecOn with
  | ind j ih =>
  intro m x hj ji jm
  match m, jm with
  | m + 1, jm =>
  by_cases z : j = 0
  · subst z
    rw [I.hd] at hj
    cases hj
    have e : backF A (m + 1) b = [] := by
      unfold backF
      rw [show lookB A b = none from look_at I.nodup I.hd]
    dsimp only
    rw [e]
    refine ⟨⟨rfl, fun r h => (List.not_mem_nil h).elim, fun r h => (List.not_mem_nil h).elim, by simp⟩, fun v hv => ?_⟩
    rw [List.map_nil, List.mem_singleton] at hv
    subst hv
    exact ⟨0, _, Nat.le_refl _, I.hd, rfl⟩
  · obtain ⟨s, p, k, y, e1, e2, e3, e4, rfl, e6⟩ := I.par j x hj z
    have e : backF A (m + 1) x.1 = backF A m y.1 ++ [(s, y.1, x.1)] := by
      conv => lhs; unfold backF
      rw [look_at I.nodup hj, e1]
    obtain ⟨w, wv⟩ := ih k e2 m y e4 (by omega) (by omega)
    rw [e]
    generalize backF A m y.1 = W at w wv
    refine ⟨⟨chain_app w.ch ⟨rfl, rfl⟩, fun r hr => ?_, fun r hr => ?_, ?_⟩, fun v hv => ?_⟩
    · rcases List.mem_append.mp hr with hr | hr
      · exact w.nbs r hr
      · rw [List.mem_singleton.mp hr]; exact e6
    · rcases List.mem_append.mp hr with hr | hr
      · exact w.unk r hr
      · rw [List.mem_singleton.mp hr]; exact I.unk k y (by omega) e4
    · rw [List.map_append, ← List.cons_append, List.nodup_append]
      refine ⟨w.nodup, by simp, fun a ha c hc q => ?_⟩
      obtain ⟨l, u, l1, l2, l3⟩ := wv a ha
      simp at hc
      have := nd_at I.nodup l2 hj (by rw [l3, q, hc])
      omega
    · rw [List.map_append, ← List.cons_append] at hv
      rcases List.mem_append.mp hv with hv | hv
      · obtain ⟨l, u, l1, l2, l3⟩ := wv v hv
        exact ⟨l, u, by omega, l2, l3⟩
      · simp at hv
        exact ⟨j, x, Nat.le_refl _, hj, hv.symm⟩
end
def walkedF (steps : List (List (Int × Int))) (b : Int) (known used : List Int) : List Row :=
  let r := bfsRun (waysOf steps used) (fun x : Int => decide (x ∈ known)) steps.length 0 [(b, none)]
  backF r.1 r.1.length ((r.1[r.2]?).getD (b, none)).1
theorem walked_ok {steps : List (List (Int × Int))} {b : Int} {known used : List Int} (hs : nbsIn (waysOf steps used) (steps.length : Int)) (b0 : 0 ≤ b) (b1 : b < (steps.length : Int)) (hk : ∃ y, RcS (waysOf steps used) b y ∧ y ∈ known) :
    ∃ y, y ∈ known ∧ WkI (waysOf steps used) (fun x : Int => decide (x ∈ known)) b (walkedF steps b known used) y := by
  obtain ⟨y, h1, h2⟩ := hk
  obtain ⟨A, i, x, e, hx, kx, I⟩ := bf_run (kn := fun x : Int => decide (x ∈ known)) hs ⟨y, h1, decide_eq_true h2⟩ (m := steps.length) (bfi_start b0 b1) (by omega)
  refine ⟨x.1, of_decide_eq_true kx, ?_⟩
  have li := (List.getElem?_eq_some_iff.mp hx).1
  unfold walkedF
  rw [e]
  dsimp only
  rw [hx]
  exact (back_ok I i A.length x hx (Nat.le_refl _) li).1

/-! rings and handles -/
def nextF (rows : List Row) (known used : List Int) : Option Row := rows.findSome? fun r => if r.1 ∉ used ∧ r.2.1 ∈ known then some r else if r.1 ∉ used ∧ r.2.2 ∈ known then some (r.1, r.2.2, r.2.1) else none
def handleF (steps : List (List (Int × Int))) (known used : List Int) (st : Row) : List Row := st :: walkedF steps st.2.2 known (addL used st.1)
structure HS where
  known : List Int
  used : List Int
  found : List (List Row)
def hsStep (steps : List (List (Int × Int))) (s : HS) (st : Row) : HS :=
  { known := ((handleF steps s.known s.used st).map (·.2.2)).foldl addL s.known, used := ((handleF steps s.known s.used st).map (·.1)).foldl addL (addL s.used st.1), found := s.found ++ [handleF steps s.known s.used st] }
def hfRun (rows : List Row) (steps : List (List (Int × Int))) : Nat → HS → HS
  | 0, s => s
  | m + 1, s => match nextF rows s.known s.used with
    | none => s
    | some st => hfRun rows steps m (hsStep steps s st)
theorem next_some {rows : List Row} {known used : List Int} {st : Row} (h : nextF rows known used = some st) : st.1 ∉ used ∧ st.2.1 ∈ known ∧ (st ∈ rows ∨ (st.1, st.2.2, st.2.1) ∈ rows) := by
  obtain ⟨r, hr, e⟩ := List.exists_of_findSome?_eq_some h
  split at e
  · rename_i c
    cases e
    exact ⟨c.1, c.2, .inl hr⟩
  · split at e
    · rename_i c
      cases e
      exact ⟨c.1, c.2, .inr hr⟩
    · cases e
theorem next_none {rows : List Row} {known used : List Int} (h : nextF rows known used = none) : ∀ r ∈ rows, r.1 ∉ used → r.2.1 ∉ known ∧ r.2.2 ∉ known := fun r hr hu => by
  have e := List.findSome?_eq_none_iff.mp h r hr
  split at e
  · cases e
  · rename_i c1
    split at e
    · cases e
    · rename_i c2
      exact ⟨fun z => c1 ⟨hu, z⟩, fun z => c2 ⟨hu, z⟩⟩
theorem mem_ways {n : Int} {rows : List Row} {used : List Int} {x : Int} {q : Int × Int} (x0 : 0 ≤ x) (x1 : x < n) : q ∈ waysOf (stepsF n rows) used x ↔ ((q.1, x, q.2) ∈ rows ∨ (q.1, q.2, x) ∈ rows) ∧ q.1 ∉ used := by
  unfold waysOf
  rw [steps_get x0 x1, List.mem_filter]
  have : q ∈ stepsAt rows x ↔ ((q.1, x, q.2) ∈ rows ∨ (q.1, q.2, x) ∈ rows) := by
    unfold stepsAt
    rw [List.mem_flatMap]
    constructor
    · rintro ⟨⟨s, a, b⟩, hr, h⟩
      dsimp only at h
      rcases List.mem_append.mp h with h | h
      · split at h
        · rename_i c
          rw [List.mem_singleton.mp h]
          subst c
          exact .inl hr
        · cases h
      · split at h
        · rename_i c
          rw [List.mem_singleton.mp h]
          subst c
          exact .inr hr
        · cases h
    · rintro (h | h)
      · exact ⟨_, h, by simp⟩
      · exact ⟨_, h, by simp⟩
  rw [this]
  simp
theorem ways_in {n : Int} {rows : List Row} {used : List Int} (h : rowsIn n rows) : nbsIn (waysOf (stepsF n rows) used) n := fun x x0 x1 q hq => by
  rcases ((mem_ways x0 x1).mp hq).1 with k | k
  · exact (h _ k).2
  · exact (h _ k).1
/-- by steps -/
inductive DC (W : List Row) : Int → Int → Prop
  | refl (a : Int) : DC W a a
  | step {a b c s : Int} : DC W a b → (s, b, c) ∈ W → DC W a c
theorem DC.trans {W : List Row} {a b c : Int} (h1 : DC W a b) (h2 : DC W b c) : DC W a c := by
  induction h2 with
  | refl => exact h1
  | step _ e ih => exact .step ih e
theorem DC.mono {W V : List Row} {a b : Int} (s : ∀ r ∈ W, r ∈ V) (h : DC W a b) : DC V a b := by
  induction h with
  | refl => exact .refl _
  | step _ e ih => exact .step ih (s _ e)
theorem chain_dc {V : List Row} : ∀ {W : List Row} {a b : Int}, chain a W b → (∀ r ∈ W, r ∈ V) → DC V a b ∧ ∀ v ∈ W.map (·.2.2), DC V a v ∧ DC V v b
  | [], a, b, h, _ => by
    cases h
    exact ⟨.refl _, fun v hv => (List.not_mem_nil hv).elim⟩
  | (s, x, y) :: W, a, b, ⟨h1, h2⟩, hs => by
    dsimp only at h1 h2
    subst h1
    obtain ⟨k1, k2⟩ := chain_dc (V := V) h2 fun r hr => hs r (List.mem_cons_of_mem _ hr)
    have e : DC V x y := .step (.refl _) (hs _ (List.mem_cons_self ..))
    refine ⟨e.trans k1, fun v hv => ?_⟩
    rw [List.map_cons] at hv
    rcases List.mem_cons.mp hv with rfl | hv
    · exact ⟨e, k1⟩
    · exact ⟨e.trans (k2 v hv).1, (k2 v hv).2⟩
theorem chain_last : ∀ {W : List Row} {a b : Int}, chain a W b → W ≠ [] → b ∈ W.map (·.2.2)
  | [], _, _, _, h => absurd rfl h
  | [r], a, b, h, _ => by
    have : r.2.2 = b := h.2
    rw [← this]; simp
  | r :: r2 :: W, a, b, h, _ => by
    have := chain_last h.2 (by simp)
    rw [List.map_cons]
    exact List.mem_cons_of_mem _ this
theorem chain_src : ∀ {W : List Row} {a b : Int}, chain a W b → ∀ r ∈ W, r.2.1 ∈ a :: W.map (·.2.2)
  | [], _, _, _, r, h => (List.not_mem_nil h).elim
  | q :: W, a, b, h, r, hr => by
    rcases List.mem_cons.mp hr with rfl | hr
    · rw [h.1]; exact List.mem_cons_self ..
    · have := chain_src h.2 r hr
      rw [List.map_cons]
      exact List.mem_cons_of_mem _ this
/-- a street is met but once on a walk whose places are -/
theorem chain_streets {rows : List Row} (pw : rows.Pairwise fun p q => p.1 < q.1) : ∀ {W : List Row} {a b : Int}, chain a W b → (a :: W.map (·.2.2)).Nodup → (∀ r ∈ W, r ∈ rows ∨ (r.1, r.2.2, r.2.1) ∈ rows) → (W.map (·.1)).Nodup
  | [], _, _, _, _, _ => by simp
  | r :: W, a, b, h, nd, hs => by
    rw [List.map_cons] at nd
    obtain ⟨n1, n2⟩ := List.nodup_cons.mp nd
    rw [List.map_cons]
    refine List.nodup_cons.mpr ⟨fun hm => ?_, chain_streets pw h.2 n2 fun q hq => hs q (List.mem_cons_of_mem _ hq)⟩
    obtain ⟨q, hq, e⟩ := List.mem_map.mp hm
    have k1 := hs r (List.mem_cons_self ..)
    have k2 := hs q (List.mem_cons_of_mem _ hq)
    have qs := chain_src h.2 q hq
    have qt : q.2.2 ∈ W.map (·.2.2) := List.mem_map.mpr ⟨q, hq, rfl⟩
    have uni : ∀ {x y : Row}, x ∈ rows → y ∈ rows → x.1 = y.1 → x = y := fun {x y} hx hy exy => by
      obtain ⟨i, hi⟩ := List.mem_iff_getElem?.mp hx
      obtain ⟨j, hj⟩ := List.mem_iff_getElem?.mp hy
      have := rows_inj pw hi hj exy
      subst this
      rw [hi] at hj
      exact Option.some.inj hj
    have same : (q.2.1 = r.2.1 ∧ q.2.2 = r.2.2) ∨ (q.2.1 = r.2.2 ∧ q.2.2 = r.2.1) := by
      rcases k1 with k1 | k1 <;> rcases k2 with k2 | k2
      · exact .inl (by rw [uni k2 k1 e]; exact ⟨rfl, rfl⟩)
      · have z := uni k2 k1 e
        exact .inr (by rw [← z]; exact ⟨rfl, rfl⟩)
      · have z := uni k2 k1 e
        exact .inr (by rw [z]; exact ⟨rfl, rfl⟩)
      · have z := uni k2 k1 e
        have z1 := congrArg (fun p : Row => p.2.1) z
        have z2 := congrArg (fun p : Row => p.2.2) z
        dsimp only at z1 z2
        exact .inl ⟨z2, z1⟩
    rw [h.1] at same
    rcases same with ⟨s1, _⟩ | ⟨_, s2⟩
    · rw [s1] at qs
      exact n1 qs
    · rw [s2] at qt
      exact n1 (List.mem_cons_of_mem _ qt)
/-- what a row of steps keeps, the places that were there ahead being told by kn -/
structure HdI (rows : List Row) (kn : Int → Prop) (h : List Row) (a c : Int) : Prop where
  ch : chain a h c
  ne : h ≠ []
  src : kn a
  dst : kn c
  rows : ∀ r ∈ h, r ∈ rows ∨ (r.1, r.2.2, r.2.1) ∈ rows
  amid : ∀ v ∈ (h.dropLast).map (·.2.2), ¬ kn v
  nodup : ((h.dropLast).map (·.2.2)).Nodup
/-- all rows -/
def handOk (rows : List Row) : (Int → Prop) → List (List Row) → Prop
  | _, [] => True
  | kn, h :: t => (∃ a c, HdI rows kn h a c) ∧ handOk rows (fun v => kn v ∨ v ∈ (h.dropLast).map (·.2.2)) t

theorem amid_src : ∀ {W : List Row} {st : Row} {y : Int}, chain st.2.2 W y → ((st :: W).dropLast).map (·.2.2) = W.map (·.2.1)
  | [], _, _, _ => rfl
  | r :: W, st, y, h => by
    rw [List.dropLast_cons_of_ne_nil (by simp), List.map_cons, List.map_cons, amid_src h.2, h.1]
theorem src_drop : ∀ {W : List Row} {b y : Int}, chain b W y → b :: W.map (·.2.2) = W.map (·.2.1) ++ [y]
  | [], b, y, h => by cases h; rfl
  | r :: W, b, y, h => by
    rw [List.map_cons, List.map_cons, List.cons_append, ← src_drop h.2, h.1]
theorem HdI.congr {rows : List Row} {k k' : Int → Prop} {h : List Row} {a c : Int} (e : ∀ v, k v ↔ k' v) (x : HdI rows k h a c) : HdI rows k' h a c :=
  ⟨x.ch, x.ne, (e _).mp x.src, (e _).mp x.dst, x.rows, fun v hv z => x.amid v hv ((e _).mpr z), x.nodup⟩
def amidF (Fd : List (List Row)) : List Int := Fd.flatMap fun h => (h.dropLast).map (·.2.2)
theorem handOk_congr {rows : List Row} : ∀ {t : List (List Row)} {k k' : Int → Prop}, (∀ v, k v ↔ k' v) → handOk rows k t → handOk rows k' t
  | [], _, _, _, _ => trivial
  | h :: t, k, k', e, ⟨⟨a, c, x⟩, r⟩ => ⟨⟨a, c, x.congr e⟩, handOk_congr (fun v => or_congr_left (e v)) r⟩
theorem handOk_snoc {rows : List Row} {h : List Row} : ∀ {t : List (List Row)} {k : Int → Prop}, handOk rows k t → (∃ a c, HdI rows (fun v => k v ∨ v ∈ amidF t) h a c) → handOk rows k (t ++ [h])
  | [], k, _, ⟨a, c, x⟩ => ⟨⟨a, c, x.congr fun v => by simp [amidF]⟩, trivial⟩
  | g :: t, k, ⟨e, r⟩, ⟨a, c, x⟩ => ⟨e, handOk_snoc r ⟨a, c, x.congr fun v => by
    unfold amidF
    rw [List.flatMap_cons, List.mem_append, or_assoc]⟩⟩
structure HfI (n : Int) (rows : List Row) (U0 : List Int) (p : Int) (s : HS) : Prop where
  here : p ∈ s.known
  knd : s.known.Nodup
  con : ∀ x ∈ s.known, Conn (leftE rows U0) p x ∧ 0 ≤ x ∧ x < n
  usd : ∀ t, t ∈ s.used ↔ t ∈ U0 ∨ t ∈ s.found.flatten.map (·.1)
  und : s.used.length ≤ U0.length + s.found.flatten.length
  own : ∀ r ∈ s.found.flatten, (r ∈ rows ∨ (r.1, r.2.2, r.2.1) ∈ rows) ∧ r.1 ∉ U0
  ends : ∀ r ∈ rows, r.1 ∉ U0 → r.1 ∈ s.used → r.2.1 ∈ s.known ∧ r.2.2 ∈ s.known
  once : (s.found.flatten.map (·.1)).Nodup
  dc : ∀ x ∈ s.known, DC s.found.flatten p x ∧ DC s.found.flatten x p
  kn : ∀ x, x ∈ s.known ↔ x = p ∨ x ∈ amidF s.found
  ok : handOk rows (fun v => v = p) s.found
  cnt : s.found.flatten.length + 1 = s.found.length + s.known.length
theorem hfi_start {n p : Int} {rows : List Row} {U0 : List Int} (p0 : 0 ≤ p) (p1 : p < n) : HfI n rows U0 p ⟨[p], U0, []⟩ where
  here := List.mem_singleton.mpr rfl
  knd := by simp
  con := fun x hx => by rw [List.mem_singleton.mp hx]; exact ⟨.refl _, p0, p1⟩
  usd := fun t => by simp
  und := by simp
  own := fun r hr => by simp at hr
  ends := fun r _ h1 h2 => absurd h2 h1
  once := by simp
  dc := fun x hx => by rw [List.mem_singleton.mp hx]; exact ⟨.refl _, .refl _⟩
  kn := fun x => by simp [amidF]
  ok := trivial
  cnt := by simp
/-- each street that is left and is come to from p parts nothing -/
def noPart (rows : List Row) (U0 : List Int) (p : Int) : Prop := ∀ r ∈ rows, r.1 ∉ U0 → Conn (leftE rows U0) p r.2.1 → Conn (leftE rows (r.1 :: U0)) r.2.1 r.2.2
theorem addL_nodup : ∀ {l h : List Int}, h.Nodup → (l.foldl addL h).Nodup
  | [], h, nd => nd
  | x :: l, h, nd => by
    rw [List.foldl_cons]
    refine addL_nodup ?_
    unfold addL
    split
    · exact nd
    · rename_i hx
      rw [List.nodup_append]
      refine ⟨nd, by simp, fun a ha b hb z => ?_⟩
      simp at hb
      rw [z, hb] at ha
      exact hx ha
theorem dc_conn {rows : List Row} {U0 : List Int} {W : List Row} {a b : Int} (own : ∀ r ∈ W, (r ∈ rows ∨ (r.1, r.2.2, r.2.1) ∈ rows) ∧ r.1 ∉ U0) (h : DC W a b) : Conn (leftE rows U0) a b := by
  induction h with
  | refl => exact .refl _
  | step _ e ih =>
    obtain ⟨h1, h2⟩ := own _ e
    refine .step ih ?_
    rcases h1 with h1 | h1
    · exact .inl (mem_leftE.mpr ⟨_, h1, h2⟩)
    · exact .inr (mem_leftE.mpr ⟨_, h1, h2⟩)
theorem uniR {rows : List Row} (pw : rows.Pairwise fun p q => p.1 < q.1) {x y : Row} (hx : x ∈ rows) (hy : y ∈ rows) (e : x.1 = y.1) : x = y := by
  obtain ⟨i, hi⟩ := List.mem_iff_getElem?.mp hx
  obtain ⟨j, hj⟩ := List.mem_iff_getElem?.mp hy
  have := rows_inj pw hi hj e
  subst this
  rw [hi] at hj
  exact Option.some.inj hj
section
variable {n p : Int} {rows : List Row} {U0 : List Int} {s : HS} {st : Row}
theorem HfI.sub (I : HfI n rows U0 p s) : ∀ t ∈ U0, t ∈ s.used := fun t ht => (I.usd t).mpr (.inl ht)
/-- a known place is come to -/
theorem hf_reach (hin : rowsIn n rows) (np : noPart rows U0 p) (I : HfI n rows U0 p s) (e : nextF rows s.known s.used = some st) : (0 ≤ st.2.2 ∧ st.2.2 < n) ∧ ∃ y, RcS (waysOf (stepsF n rows) (addL s.used st.1)) st.2.2 y ∧ y ∈ s.known := by
  obtain ⟨h1, h2, h3⟩ := next_some e
  have h0 : st.1 ∉ U0 := fun z => h1 (I.sub _ z)
  have ca := (I.con _ h2).1
  have hb : 0 ≤ st.2.2 ∧ st.2.2 < n := by
    rcases h3 with h3 | h3
    · exact (hin _ h3).2
    · exact (hin _ h3).1
  have cab : Conn (leftE rows (st.1 :: U0)) st.2.2 st.2.1 := by
    rcases h3 with h3 | h3
    · exact (np _ h3 h0 ca).symm
    · exact np _ h3 h0 (ca.trans (.one (.inr (mem_leftE.mpr ⟨_, h3, h0⟩))))
  refine ⟨hb, ?_⟩
  have claim : ∀ z, Conn (leftE rows (st.1 :: U0)) st.2.2 z → (∃ y, RcS (waysOf (stepsF n rows) (addL s.used st.1)) st.2.2 y ∧ y ∈ s.known) ∨ (RcS (waysOf (stepsF n rows) (addL s.used st.1)) st.2.2 z ∧ 0 ≤ z ∧ z < n) := fun z hz => by
    induction hz with
    | refl => exact .inr ⟨.refl, hb⟩
    | @step x y _ ed ih =>
      rcases ih with ih | ⟨ih, x0, x1⟩
      · exact .inl ih
      · by_cases kx : x ∈ s.known
        · exact .inl ⟨x, ih, kx⟩
        · have : ∃ t, ((t, x, y) ∈ rows ∨ (t, y, x) ∈ rows) ∧ t ∉ st.1 :: U0 := by
            rcases ed with ed | ed
            · obtain ⟨t, k1, k2⟩ := mem_leftE.mp ed
              exact ⟨t, .inl k1, k2⟩
            · obtain ⟨t, k1, k2⟩ := mem_leftE.mp ed
              exact ⟨t, .inr k1, k2⟩
          obtain ⟨t, k1, k2⟩ := this
          have tn : t ≠ st.1 := fun z => k2 (z ▸ List.mem_cons_self ..)
          have t0 : t ∉ U0 := fun z => k2 (List.mem_cons_of_mem _ z)
          have tu : t ∉ s.used := fun z => by
            rcases k1 with k1 | k1
            · exact kx (I.ends _ k1 t0 z).1
            · exact kx (I.ends _ k1 t0 z).2
          have tu2 : t ∉ addL s.used st.1 := fun z => by
            have := (mem_addL (l := [st.1]) (h := s.used) (y := t)).mp z
            rcases this with z | z
            · exact tu z
            · exact tn (List.mem_singleton.mp z)
          have hw := (mem_ways (n := n) (rows := rows) (used := addL s.used st.1) (q := (t, y)) x0 x1).mpr ⟨k1, tu2⟩
          exact .inr ⟨.step ih hw, ways_in hin x x0 x1 _ hw⟩
  rcases claim _ cab with k | ⟨k, _⟩
  · exact k
  · exact ⟨_, k, h2⟩
theorem hf_step (hn : 0 ≤ n) (hin : rowsIn n rows) (pw : rows.Pairwise fun p q => p.1 < q.1) (np : noPart rows U0 p) (I : HfI n rows U0 p s) (e : nextF rows s.known s.used = some st) : HfI n rows U0 p (hsStep (stepsF n rows) s st) := by
  obtain ⟨hb, hk⟩ := hf_reach hin np I e
  obtain ⟨h1, h2, h3⟩ := next_some e
  have h0 : st.1 ∉ U0 := fun z => h1 (I.sub _ z)
  have ln : ((stepsF n rows).length : Int) = n := by rw [steps_len]; omega
  obtain ⟨y, ky, w⟩ := walked_ok (known := s.known) (used := addL s.used st.1) (b := st.2.2) (steps := stepsF n rows) (by rw [ln]; exact ways_in hin) hb.1 (by rw [ln]; exact hb.2) hk
  have ha : handleF (stepsF n rows) s.known s.used st = st :: walkedF (stepsF n rows) st.2.2 s.known (addL s.used st.1) := rfl
  unfold hsStep
  rw [ha]
  generalize walkedF (stepsF n rows) st.2.2 s.known (addL s.used st.1) = W at w
  have inU : ∀ t, t ∈ addL s.used st.1 ↔ t ∈ s.used ∨ t = st.1 := fun t => by
    have := mem_addL (l := [st.1]) (h := s.used) (y := t)
    rw [List.mem_singleton] at this
    exact this
  have wch := w.ch
  have vrng : ∀ v ∈ st.2.2 :: W.map (·.2.2), 0 ≤ v ∧ v < n := by
    have : ∀ {W : List Row} {b : Int}, chain b W y → (0 ≤ b ∧ b < n) → (∀ r ∈ W, (r.1, r.2.2) ∈ waysOf (stepsF n rows) (addL s.used st.1) r.2.1) → ∀ v ∈ b :: W.map (·.2.2), 0 ≤ v ∧ v < n := by
      intro W
      induction W with
      | nil => intro b _ hb _ v hv; simp at hv; rw [hv]; exact hb
      | cons r W ih =>
        intro b hc hb hw v hv
        rcases List.mem_cons.mp hv with rfl | hv
        · exact hb
        · have rn := hw r (List.mem_cons_self ..)
          rw [hc.1] at rn
          exact ih hc.2 (ways_in hin b hb.1 hb.2 (r.1, r.2.2) rn) (fun q hq => hw q (List.mem_cons_of_mem _ hq)) v hv
    exact this w.ch hb w.nbs
  have wrow : ∀ r ∈ W, (r ∈ rows ∨ (r.1, r.2.2, r.2.1) ∈ rows) ∧ r.1 ∉ addL s.used st.1 := fun r hr => by
    have sr := vrng _ (chain_src w.ch r hr)
    exact (mem_ways sr.1 sr.2).mp (w.nbs r hr)
  have hrow : ∀ r ∈ st :: W, (r ∈ rows ∨ (r.1, r.2.2, r.2.1) ∈ rows) ∧ r.1 ∉ s.used := fun r hr => by
    rcases List.mem_cons.mp hr with rfl | hr
    · exact ⟨h3, h1⟩
    · exact ⟨(wrow r hr).1, fun z => (wrow r hr).2 ((inU _).mpr (.inl z))⟩
  have hchain : chain st.2.1 (st :: W) y := ⟨rfl, w.ch⟩
  have hstr : ((st :: W).map (·.1)).Nodup := by
    rw [List.map_cons]
    refine List.nodup_cons.mpr ⟨fun hm => ?_, chain_streets pw w.ch w.nodup fun r hr => (wrow r hr).1⟩
    obtain ⟨r, hr, er⟩ := List.mem_map.mp hm
    exact (wrow r hr).2 ((inU _).mpr (.inr er))
  have amid := amid_src w.ch
  have sd := src_drop w.ch
  have anod : (W.map (·.2.1)).Nodup := by
    have := w.nodup
    rw [sd, List.nodup_append] at this
    exact this.1
  have aunk : ∀ v ∈ W.map (·.2.1), v ∉ s.known := fun v hv => by
    obtain ⟨r, hr, rfl⟩ := List.mem_map.mp hv
    exact of_decide_eq_false (w.unk r hr)
  have hk2 : ∀ v, v ∈ ((st :: W).map (·.2.2)).foldl addL s.known ↔ v ∈ s.known ∨ v ∈ W.map (·.2.1) := fun v => by
    rw [mem_addL, List.map_cons, sd, List.mem_append, List.mem_singleton]
    constructor
    · rintro (z | z | rfl)
      · exact .inl z
      · exact .inr z
      · exact .inl ky
    · rintro (z | z)
      · exact .inl z
      · exact .inr (.inl z)
  have hu2 : ∀ t, t ∈ ((st :: W).map (·.1)).foldl addL (addL s.used st.1) ↔ t ∈ s.used ∨ t ∈ (st :: W).map (·.1) := fun t => by
    rw [mem_addL, inU, List.map_cons, List.mem_cons]
    constructor
    · rintro ((z | z) | z | z)
      · exact .inl z
      · exact .inr (.inl z)
      · exact .inr (.inl z)
      · exact .inr (.inr z)
    · rintro (z | z | z)
      · exact .inl (.inl z)
      · exact .inr (.inl z)
      · exact .inr (.inr z)
  have knd2 := addL_nodup (l := (st :: W).map (·.2.2)) I.knd
  have klen : (((st :: W).map (·.2.2)).foldl addL s.known).length = s.known.length + W.length := by
    have n2 : (s.known ++ W.map (·.2.1)).Nodup := by
      rw [List.nodup_append]
      exact ⟨I.knd, anod, fun a ha b hb z => aunk b hb (z ▸ ha)⟩
    have l1 := nodup_le knd2 (ys := s.known ++ W.map (·.2.1)) fun v hv => List.mem_append.mpr ((hk2 v).mp hv)
    have l2 := nodup_le n2 (ys := ((st :: W).map (·.2.2)).foldl addL s.known) fun v hv => (hk2 v).mpr (List.mem_append.mp hv)
    rw [List.length_append, List.length_map] at l1 l2
    omega
  have flat : (s.found ++ [st :: W]).flatten = s.found.flatten ++ (st :: W) := by simp
  have own2 : ∀ r ∈ s.found.flatten ++ (st :: W), (r ∈ rows ∨ (r.1, r.2.2, r.2.1) ∈ rows) ∧ r.1 ∉ U0 := fun r hr => by
    rcases List.mem_append.mp hr with hr | hr
    · exact I.own r hr
    · exact ⟨(hrow r hr).1, fun z => (hrow r hr).2 (I.sub _ z)⟩
  have dc2 : ∀ x, x ∈ s.known ∨ x ∈ W.map (·.2.1) → DC (s.found.flatten ++ (st :: W)) p x ∧ DC (s.found.flatten ++ (st :: W)) x p := fun x hx => by
    have up : ∀ {a b : Int}, DC s.found.flatten a b → DC (s.found.flatten ++ (st :: W)) a b := fun h => h.mono fun r hr => List.mem_append_left _ hr
    rcases hx with hx | hx
    · exact ⟨up (I.dc x hx).1, up (I.dc x hx).2⟩
    · have hv : x ∈ (st :: W).map (·.2.2) := by
        rw [List.map_cons, sd]
        exact List.mem_append_left _ hx
      have := (chain_dc (V := s.found.flatten ++ (st :: W)) hchain fun r hr => List.mem_append_right _ hr).2 x hv
      exact ⟨(up (I.dc _ h2).1).trans this.1, this.2.trans (up (I.dc _ ky).2)⟩
  constructor
  · exact (hk2 p).mpr (.inl I.here)
  · exact knd2
  · intro x hx
    have hx := (hk2 x).mp hx
    refine ⟨dc_conn (W := s.found.flatten ++ (st :: W)) own2 (dc2 x hx).1, ?_⟩
    rcases hx with hx | hx
    · exact (I.con x hx).2
    · exact vrng x (by rw [sd]; exact List.mem_append_left _ hx)
  · intro t
    rw [flat, hu2, I.usd, List.map_append, List.mem_append, or_assoc]
  · have h := addL_len (W.map (·.1)) (addL s.used st.1)
    have h2 := I.und
    have h3 : (addL s.used st.1).length = s.used.length + 1 := by unfold addL; rw [if_neg h1]; simp
    have h4 : addL (addL s.used st.1) st.1 = addL s.used st.1 := if_pos ((inU _).mpr (.inr rfl))
    show (((st :: W).map (·.1)).foldl addL (addL s.used st.1)).length ≤ U0.length + (s.found ++ [st :: W]).flatten.length
    rw [flat, List.map_cons, List.foldl_cons, h4, List.length_append, List.length_cons]
    rw [List.length_map] at h
    omega
  · rw [flat]; exact own2
  · intro r hr r0 ru
    have kk : ∀ v, v ∈ s.known → v ∈ ((st :: W).map (·.2.2)).foldl addL s.known := fun v hv => (hk2 v).mpr (.inl hv)
    rcases (hu2 _).mp ru with ru | ru
    · have := I.ends r hr r0 ru
      exact ⟨kk _ this.1, kk _ this.2⟩
    · obtain ⟨q, hq, eq⟩ := List.mem_map.mp ru
      have qa : q.2.1 ∈ ((st :: W).map (·.2.2)).foldl addL s.known := by
        rcases List.mem_cons.mp (chain_src hchain q hq) with z | z
        · rw [z]; exact kk _ h2
        · exact (mem_addL).mpr (.inr z)
      have qb : q.2.2 ∈ ((st :: W).map (·.2.2)).foldl addL s.known := (mem_addL).mpr (.inr (List.mem_map.mpr ⟨q, hq, rfl⟩))
      rcases (hrow q hq).1 with k | k
      · rw [uniR pw hr k eq.symm]; exact ⟨qa, qb⟩
      · rw [uniR pw hr k eq.symm]; exact ⟨qb, qa⟩
  · rw [flat, List.map_append, List.nodup_append]
    refine ⟨I.once, hstr, fun a ha b hb z => ?_⟩
    obtain ⟨r, hr, rfl⟩ := List.mem_map.mp hb
    exact (hrow r hr).2 ((I.usd _).mpr (.inr (z ▸ ha)))
  · intro x hx
    rw [flat]
    exact dc2 x ((hk2 x).mp hx)
  · intro x
    rw [hk2, I.kn]
    unfold amidF
    rw [List.flatMap_append, List.mem_append, List.flatMap_cons, List.flatMap_nil, List.append_nil, amid, or_assoc]
  · refine handOk_snoc I.ok ⟨st.2.1, y, hchain, by simp, (I.kn _).mp h2, (I.kn _).mp ky, fun r hr => (hrow r hr).1, fun v hv z => ?_, ?_⟩
    · rw [amid] at hv
      exact aunk v hv ((I.kn v).mpr z)
    · rw [amid]; exact anod
  · rw [flat, klen, List.length_append, List.length_append, List.length_cons, List.length_singleton]
    have := I.cnt
    omega
/-- the run's end -/
theorem hf_run (hn : 0 ≤ n) (hin : rowsIn n rows) (pw : rows.Pairwise fun p q => p.1 < q.1) (np : noPart rows U0 p) : ∀ {m : Nat} {s : HS}, HfI n rows U0 p s → rows.length ≤ m + s.found.flatten.length → HfI n rows U0 p (hfRun rows (stepsF n rows) m s) ∧ nextF rows (hfRun rows (stepsF n rows) m s).known (hfRun rows (stepsF n rows) m s).used = none
  | 0, s, I, f => by
    refine ⟨I, ?_⟩
    show nextF rows s.known s.used = none
    cases e : nextF rows s.known s.used with
    | none => rfl
    | some st =>
      obtain ⟨h1, h2, h3⟩ := next_some e
      have hin1 : st.1 ∈ rows.map (·.1) := by
        rcases h3 with h3 | h3
        · exact List.mem_map.mpr ⟨_, h3, rfl⟩
        · exact List.mem_map.mpr ⟨_, h3, rfl⟩
      have nd : (st.1 :: s.found.flatten.map (·.1)).Nodup := List.nodup_cons.mpr ⟨fun z => h1 ((I.usd _).mpr (.inr z)), I.once⟩
      have := nodup_le nd (ys := rows.map (·.1)) fun x hx => by
        rcases List.mem_cons.mp hx with rfl | hx
        · exact hin1
        · obtain ⟨r, hr, rfl⟩ := List.mem_map.mp hx
          rcases (I.own r hr).1 with k | k
          · exact List.mem_map.mpr ⟨_, k, rfl⟩
          · exact List.mem_map.mpr ⟨_, k, rfl⟩
      rw [List.length_cons, List.length_map, List.length_map] at this
      omega
  | m + 1, s, I, f => by
    unfold hfRun
    cases e : nextF rows s.known s.used with
    | none => exact ⟨I, e⟩
    | some st =>
      dsimp only
      refine hf_run hn hin pw np (hf_step hn hin pw np I e) ?_
      have : (hsStep (stepsF n rows) s st).found.flatten = s.found.flatten ++ handleF (stepsF n rows) s.known s.used st := by unfold hsStep; simp
      rw [this, List.length_append]
      have : 0 < (handleF (stepsF n rows) s.known s.used st).length := by unfold handleF; simp
      omega
/-- all that is come to is known -/
theorem hf_all (I : HfI n rows U0 p s) (e : nextF rows s.known s.used = none) {x : Int} (h : Conn (leftE rows U0) p x) : x ∈ s.known := by
  induction h with
  | refl => exact I.here
  | @step x y _ ed ih =>
    have key : ∀ r ∈ rows, r.1 ∉ U0 → (r.2.1 ∈ s.known ∨ r.2.2 ∈ s.known) → r.2.1 ∈ s.known ∧ r.2.2 ∈ s.known := fun r hr r0 hk => by
      by_cases ru : r.1 ∈ s.used
      · exact I.ends r hr r0 ru
      · have := next_none e r hr ru
        rcases hk with hk | hk
        · exact absurd hk this.1
        · exact absurd hk this.2
    rcases ed with ed | ed
    · obtain ⟨t, k1, k2⟩ := mem_leftE.mp ed
      exact (key _ k1 k2 (.inl ih)).2
    · obtain ⟨t, k1, k2⟩ := mem_leftE.mp ed
      exact (key _ k1 k2 (.inr ih)).1
/-- .. and each street there is had -/
theorem hf_streets (I : HfI n rows U0 p s) (e : nextF rows s.known s.used = none) {r : Row} (hr : r ∈ rows) (r0 : r.1 ∉ U0) (h : Conn (leftE rows U0) p r.2.1) : r.1 ∈ s.found.flatten.map (·.1) := by
  have k := hf_all I e h
  by_cases ru : r.1 ∈ s.used
  · rcases (I.usd _).mp ru with z | z
    · exact absurd z r0
    · exact z
  · exact absurd k (next_none e r hr ru).1
end
def handlesFrom (n : Int) (rows : List Row) (p : Int) (U : List Int) : HS := hfRun rows (stepsF n rows) rows.length ⟨[p], U, []⟩
theorem handlesFrom_ok {n p : Int} {rows : List Row} {U : List Int} (hn : 0 ≤ n) (hin : rowsIn n rows) (pw : rows.Pairwise fun p q => p.1 < q.1) (p0 : 0 ≤ p) (p1 : p < n) (np : noPart rows U p) :
    HfI n rows U p (handlesFrom n rows p U) ∧ nextF rows (handlesFrom n rows p U).known (handlesFrom n rows p U).used = none :=
  hf_run hn hin pw np (hfi_start p0 p1) (by simp)
/-- all pieces -/
def handlesRun (n : Int) (rows : List Row) : List (List Int) → List (List Row) × List Int → List (List Row) × List Int
  | [], s => s
  | q :: qs, s => handlesRun n rows qs (s.1 ++ (handlesFrom n rows (q.getD 0 0) s.2).found, (handlesFrom n rows (q.getD 0 0) s.2).used)
def handlesF (n : Int) (rows : List Row) : List (List Row) := (handlesRun n rows (partsOf n (leftE rows (partingF n rows))) ([], partingF n rows)).1

abbrev s_walked_back : Stmt := top 18
theorem sc_walked_back : FnScope ["steps", "first", "known", "used", "ahead", "waiting", "at", "here", "street", "goal", "found", "place"] ["steps", "first", "known", "used"] (defScope s_walked_back) := ⟨rfl, rfl, rfl, by decide +kernel, rfl, by decide +kernel, by decide +kernel⟩
abbrev s_next_street : Stmt := top 19
theorem sc_next_street : FnScope ["town", "known", "used", "street", "one", "other"] ["town", "known", "used"] (defScope s_next_street) := ⟨rfl, rfl, rfl, by decide +kernel, rfl, by decide +kernel, by decide +kernel⟩
def parD : Option (Int × Int) → PyData
  | some p => .tuple [.int p.1, .int p.2]
  | none => .none
def aheadD (A : List Nd) : List (Int × PyData) := A.map fun x => (x.1, parD x.2)
def wbOk (x : List (List (Int × Int)) × Int × List Int × List Int) : Prop := StepsOk x.1 ∧ (0 ≤ x.2.1 ∧ x.2.1 < (x.1.length : Int)) ∧ ∃ y, RcS (waysOf x.1 x.2.2.2) x.2.1 y ∧ y ∈ x.2.2.1
abbrev spWalked (K : PySem.W.Frag) : Sp := Fp K wbOk (fun x => [dat K (stepsD x.1), dat K (.int x.2.1), isDictT K (foundD x.2.2.1), isDictT K (foundD x.2.2.2)]) (fun x => .list ((walkedF x.1 x.2.1 x.2.2.1 x.2.2.2).map rowD))
theorem look_aheadF {A : List Nd} {x : Int} : lookI (aheadD A) x = (A.find? fun y => decide (y.1 = x)).map fun y => parD y.2 := by
  unfold lookI aheadD
  induction A with
  | nil => rfl
  | cons y A ih =>
    rw [List.map_cons, List.find?_cons, List.find?_cons]
    by_cases e : y.1 = x
    · simp [e]
    · have e1 : (y.1 == x) = false := by simp [e]
      rw [e1, decide_eq_false e]
      exact ih
theorem look_ahead {A : List Nd} (nd : (A.map (·.1)).Nodup) {j : Nat} {x : Nd} (hj : A[j]? = some x) : lookI (aheadD A) x.1 = some (parD x.2) := by
  rw [look_aheadF]
  cases e : A.find? fun y => decide (y.1 = x.1) with
  | none =>
    have := List.find?_eq_none.mp e x (List.mem_of_getElem? hj)
    simp at this
  | some y =>
    have h1 := List.find?_some e
    obtain ⟨k, hk⟩ := List.mem_iff_getElem?.mp (List.mem_of_find?_eq_some e)
    have := nd_at nd hk hj (of_decide_eq_true h1)
    subst this
    rw [hk] at hj
    cases hj
    rfl
theorem in_ahead {A : List Nd} {x : Int} : (lookI (aheadD A) x).isSome = decide (x ∈ A.map (·.1)) := by
  rw [look_aheadF, Option.isSome_map]
  cases e : A.find? fun y => decide (y.1 = x) with
  | none =>
    rw [decide_eq_false]
    · rfl
    intro hx
    obtain ⟨y, hy, rfl⟩ := List.mem_map.mp hx
    have := List.find?_eq_none.mp e y hy
    simp at this
  | some y =>
    rw [decide_eq_true]
    · rfl
    exact List.mem_map.mpr ⟨y, List.mem_of_find?_eq_some e, of_decide_eq_true (List.find?_some (p := fun y : Nd => decide (y.1 = x)) e)⟩
theorem put_ahead {A : List Nd} {x : Nd} (h : x.1 ∉ A.map (·.1)) : putI (aheadD A) x.1 (parD x.2) = aheadD (A ++ [x]) := by
  unfold putI
  have e : ((aheadD A).any fun p => p.1 == x.1) = false := by
    rw [List.any_eq_false]
    intro p hp z
    obtain ⟨y, hy, rfl⟩ := List.mem_map.mp hp
    exact h (List.mem_map.mpr ⟨y, hy, by simpa using z⟩)
  rw [if_neg (by rw [e]; decide)]
  unfold aheadD
  rw [List.map_append]
  rfl
def bfsStep (used : List Int) (h : Int) (A : List Nd) (p : Int × Int) : List Nd := if p.1 ∉ used ∧ p.2 ∉ A.map (·.1) then A ++ [(p.2, some (p.1, h))] else A
theorem bfs_fold (used : List Int) (h : Int) : ∀ (l : List (Int × Int)) (A : List Nd), l.foldl (bfsStep used h) A = (l.filter fun p => decide (p.1 ∉ used)).foldl (pushB h) A
  | [], _ => rfl
  | p :: l, A => by
    rw [List.foldl_cons, List.filter_cons, bfs_fold used h l]
    by_cases h1 : p.1 ∈ used
    · rw [if_neg (by simpa using h1)]
      congr 1
      exact if_neg fun z => z.1 h1
    · rw [if_pos (by simpa using h1), List.foldl_cons]
      congr 1
      unfold bfsStep pushB
      by_cases h2 : p.2 ∈ A.map (·.1)
      · rw [if_neg (fun z => z.2 h2), if_pos h2]
      · rw [if_pos ⟨h1, h2⟩, if_neg h2]
theorem ways_ok {steps : List (List (Int × Int))} (h : StepsOk steps) {used : List Int} : nbsIn (waysOf steps used) (steps.length : Int) := fun x h0 h1 q hq => by
  unfold waysOf at hq
  have hl : x.toNat < steps.length := by omega
  rw [getD_some (List.getElem?_eq_getElem hl)] at hq
  exact h.rng _ (List.getElem_mem hl) q (List.mem_filter.mp hq).1
section
variable {P : Program} {w : World} {K : PySem.W.Frag} {mg : Str → Option Value} {base : Heap}
theorem ok_walked (Z : Zs mg) (D : Dfn K mg "walked_back" "walked_back" s_walked_back ["steps", "first", "known", "used"]) : Ok P w K mg base CX0 1 "walked_back" ["steps", "first", "known", "used"] (spWalked K) := by
  refine fp_ok D sc_walked_back (by decide) (fun _ => rfl) (fun _ => stabC st_dat (stabC st_dat (stabC st_isDictT (stab1 st_isDictT)))) (fun f cdv A outer s H E hr => ⟨_, (pss_cons (ps_set (i := 4) sc_walked_back.nd rfl (Or.inl rfl) (pe_disp (pps_cons (pv 1) pe_non pps_nil) (by rfl) (by rfl) (fun z => by cases z) (by decide)))
    (pss_cons (ps_set (i := 5) sc_walked_back.nd rfl (Or.inl rfl) (pe_lst (pa_cons (pv 1) pa_nil)))
    (pss_cons (ps_set (i := 6) sc_walked_back.nd rfl (Or.inl rfl) pe_int)
    (pss_cons (ps_while PassesOwn.never (pt_cmp (pc_dnotin (by exact hu_of hr) (pe_ix (kix_list K) (pv 5) (pv 6) (fun _ _ => rfl)) (pv 2))) (pss_cons (ps_set (i := 7) sc_walked_back.nd rfl (Or.inl rfl) (pe_ix (kix_list K) (pv 5) (pv 6) (fun _ _ => rfl)))
    (pss_cons (ps_for PassesOwn.never rfl (kpi_list K (pe_ix (kix_list K) (pv 0) (pv 7) (fun _ _ => rfl))) (kpg_tup K 2 rfl (pgs_cons (pg_name (i := 8) sc_walked_back.nd rfl (Or.inl rfl)) (pgs_cons (pg_name (i := 9) sc_walked_back.nd rfl (Or.inl rfl)) pgs_nil)))
      (pss_one (ps_if (PW.pt (pw_and (pt_cmp (pc_dnotin (by exact hu_of hr) (pv 8) (pv 3))) (pw_and1 (pt_cmp (pc_dnotin (by exact hu_of hr) (pv 9) (pv 4)))))) (pss_cons (ps_dput (by exact hu_of hr) (pv 4) (pv 9) (pe_tup (pa_cons (pv 8) (pa_cons (pv 7) pa_nil))) rfl)
    (pss_one (ps_expr (pe_bm PySem.F.plainAttrs_list PySem.F.slot_list_append PySem.F.type_list_append mt_append (pv 5) (pa_cons (pv 9) pa_nil))))) pss_nil)))
    (pss_one (ps_aug (i := 6) sc_walked_back.nd rfl (Or.inl rfl) pe_int ip_add)))))
    (pss_cons (ps_set (i := 10) sc_walked_back.nd rfl (Or.inl rfl) (pe_lst pa_nil))
    (pss_cons (ps_set (i := 7) sc_walked_back.nd rfl (Or.inl rfl) (pe_ix (kix_list K) (pv 5) (pv 6) (fun _ _ => rfl)))
    (pss_cons (ps_while PassesOwn.never (pt_cmpR op_notN (pe_dget (by exact hu_of hr) (pv 4) (pv 7) (fun _ _ => rfl)) pe_non (nomark _)) (pss_cons (ps_asg (pe_dget (by exact hu_of hr) (pv 4) (pv 7) (fun _ _ => rfl)) (kpg_tup K 2 rfl (pgs_cons (pg_name (i := 8) sc_walked_back.nd rfl (Or.inl rfl)) (pgs_cons (pg_name (i := 11) sc_walked_back.nd rfl (Or.inl rfl)) pgs_nil))))
    (pss_cons (ps_expr (pe_bm PySem.F.plainAttrs_list PySem.F.slot_list_append PySem.F.type_list_append mt_append (pv 10) (pa_cons (pe_tup (pa_cons (pv 8) (pa_cons (pv 11) (pa_cons (pv 7) pa_nil)))) pa_nil)))
    (pss_one (ps_set (i := 7) sc_walked_back.nd rfl (Or.inl rfl) (pv 11))))))
    (pss_one (ps_ret (kpe_revL K (pv 10))))))))))), ?_⟩)
  rintro ⟨steps, b, known, used⟩ ⟨so, ⟨b0, b1⟩, hk⟩ Q q
  dsimp only at so b0 b1 hk q
  walk_at "go"
  have few := so.few
  have hnb := ways_ok so (used := used)
  have T0 : BfI (waysOf steps used) (fun x : Int => decide (x ∈ known)) (steps.length : Int) b 0 [(b, none)] := bfi_start b0 b1
  have hk2 : ∃ y, RcS (waysOf steps used) b y ∧ (fun x : Int => decide (x ∈ known)) y = true := by
    obtain ⟨y, k1, k2⟩ := hk
    exact ⟨y, k1, decide_eq_true k2⟩
  generalize hR : bfsRun (waysOf steps used) (fun x : Int => decide (x ∈ known)) steps.length 0 [(b, none)] = R
  refine' q_disp1 (K := K) (k := b) (d := .none) ?a0 ev_non (q_setM K (ds := [.int b]) ?a2 (q_set K (d := .int 0) ev_int (q_while (fun m ρ' => ∃ (i : Nat) (A : List Nd) (s7 s8 s9 : Sl), ρ' = [sa K (stepsD steps), sa K (.int b), .fz (isDictT K (foundD known)), .fz (isDictT K (foundD used)), md K H (aheadD A), ml K H (A.map fun x => .int x.1), sn K H (.int (i : Int)), s7, s8, s9, .no, .no] ∧
    BfI (waysOf steps used) (fun x : Int => decide (x ∈ known)) (steps.length : Int) b i A ∧ bfsRun (waysOf steps used) (fun x : Int => decide (x ∈ known)) m i A = R ∧ steps.length ≤ m + i) steps.length ?a3 ?a4)))
  case a0 => walk_at "ev"
  case a2 => exact evm_lst (by walk_at "ev") (by simp)
  case a3 => exact ⟨0, [(b, none)], _, _, _, rfl, T0, hR, by omega⟩
  case a4 =>
    rintro m ρ' ⟨i, A, s7, s8, s9, rfl, I, er, fu⟩
    have il := I.more hk2
    have al := I.len
    have al : A.length ≤ steps.length := by simpa using al
    obtain ⟨x, hx⟩ : ∃ x, A[i]? = some x := ⟨_, List.getElem?_eq_getElem il⟩
    have xr := I.rng x (List.mem_of_getElem? hx)
    have wx : ∀ {F0 : Hp} {s4 s7 s8 s9 s10 s11 : Sl}, EvH H F0 [sa K (stepsD steps), sa K (.int b), .fz (isDictT K (foundD known)), .fz (isDictT K (foundD used)), s4, ml K H (A.map fun x => .int x.1), sn K H (.int (i : Int)), s7, s8, s9, s10, s11] (tOp (rIxL K) (tVar 5) (tVar 6)) (dat K (.int x.1)) := fun {F0 s4 s7 s8 s9 s10 s11} =>
      evh_ixL (i := (i : Int)) (ds := A.map fun x => .int x.1) (d := .int x.1) (evh_var rfl rd_ml) (evh_var rfl rd_sn) (atI_nn (by omega) (by rw [Int.toNat_natCast, List.getElem?_map, hx]; rfl))
    refine ⟨!decide (x.1 ∈ known), ?b1, fun hc => ?b2, fun hc => ?b3⟩
    case b1 =>
      rw [← look_found]
      exact et_B (K := K) (Ev.hd (ev_dnotin wx (evh_fzD rfl)))
    case b2 =>
      have xk : x.1 ∉ known := by simpa using hc
      have kx : (fun x : Int => decide (x ∈ known)) x.1 = false := decide_eq_false xk
      cases m with
      | zero => omega
      | succ m =>
      have I2 := bfi_step hnb I hx kx
      have er2 : bfsRun (waysOf steps used) (fun x : Int => decide (x ∈ known)) m (i + 1) ((waysOf steps used x.1).foldl (pushB x.1) A) = R := by
        rw [← er]
        conv => rhs; unfold bfsRun
        rw [hx]
        dsimp only
        rw [if_neg (by rw [decide_eq_false xk]; decide)]
      have hlen : x.1.toNat < steps.length := by omega
      have eg : steps[x.1.toNat]? = some (steps.getD x.1.toNat []) := by rw [getD_some (List.getElem?_eq_getElem hlen)]; exact List.getElem?_eq_getElem hlen
      have enb : waysOf steps used x.1 = (steps.getD x.1.toNat []).filter fun p => decide (p.1 ∉ used) := rfl
      have nbx := hnb x.1 xr.1 xr.2
      generalize steps.getD x.1.toNat [] = ways at eg enb
      refine' q_set K (d := .int x.1) (EvH.nw wx rfl) (q_for (xs := ways) (e := pairD) (q := dat K) (EvJ.i (evj_listD ?c1))
        (fun pre ρ' => ∃ s8 s9, ρ' = [sa K (stepsD steps), sa K (.int b), .fz (isDictT K (foundD known)), .fz (isDictT K (foundD used)), md K H (aheadD (pre.foldl (bfsStep used x.1) A)), ml K H ((pre.foldl (bfsStep used x.1) A).map fun x => .int x.1), sn K H (.int (i : Int)), sn K H (.int x.1), s8, s9, .no, .no]) ?c2 ?c3 ?c4)
      case c1 => exact ev_ixL (i := x.1) (ds := steps.map fun l => .list (l.map pairD)) (ev_var (i := 0) rfl) (evh_var rfl rd_sn) (atI_map (fun l : List (Int × Int) => PyData.list (l.map pairD)) (atI_nn xr.1 eg))
      case c2 => exact ⟨_, _, rfl⟩
      case c3 =>
        rintro F1 pre ⟨street, goal⟩ post ρ' hxs ⟨s8, s9, rfl⟩
        have ef : (pre ++ [(street, goal)]).foldl (bfsStep used x.1) A = bfsStep used x.1 (pre.foldl (bfsStep used x.1) A) (street, goal) := by rw [List.foldl_append]; rfl
        have mid : (pre.foldl (bfsStep used x.1) A).length ≤ 16 := by
          rw [bfs_fold]
          obtain ⟨N, e, h1, h2, h3⟩ := pushB_fold x.1 (pre.filter fun p => decide (p.1 ∉ used)) A
          rw [e]
          have := nodup_le (h3 I.nodup) (ys := rangeI (steps.length : Int)) fun v hv => by
            obtain ⟨y, hy, rfl⟩ := List.mem_map.mp hv
            rcases List.mem_append.mp hy with hy | hy
            · exact mem_rangeI.mpr (I.rng y hy)
            · obtain ⟨r, hr, rfl⟩ := h2 y hy
              refine mem_rangeI.mpr (nbx r ?_)
              rw [enb]
              have := List.mem_filter.mp hr
              exact List.mem_filter.mpr ⟨by rw [hxs]; exact List.mem_append_left _ this.1, this.2⟩
          rw [rangeI_len, List.length_map] at this
          omega
        generalize pre.foldl (bfsStep used x.1) A = A1 at mid ef
        refine' ⟨_, _, bind_tupD (bindld_cons (bind_name st_dat) (bindld_cons (bind_name st_dat) bindld_nil)) rfl, ?_⟩
        refine' at_when (c := (!decide (street ∈ used)) && !decide (goal ∈ A1.map (·.1))) (et_and ?d1 fun _ => ?d2) (fun hd => ?d3) (fun hd => ?d4)
        case d1 =>
          rw [← look_found]
          exact et_B (K := K) (Ev.hd (ev_dnotin (evh_var rfl rd_sa) (evh_fzD rfl)))
        case d2 =>
          rw [← in_ahead]
          exact et_B (K := K) (Ev.hd (ev_dnotin (evh_var rfl rd_sa) (evh_md rfl)))
        case d3 =>
          have hd2 : street ∉ used ∧ goal ∉ A1.map (·.1) := by simpa using hd
          have es : bfsStep used x.1 A1 (street, goal) = A1 ++ [(goal, some (street, x.1))] := if_pos hd2
          refine' q_dput (i := 4) (k := goal) (d := .tuple [.int street, .int x.1]) rfl ?e1 (evh_var rfl rd_sa) ?e2 (at_drop (evx_append (i := 5) (d := .int goal) rfl ?e3 ?e4) (at_lpD ?e5))
          case e1 => exact ev_tup (eas_cons (EvH.nw (evh_var rfl rd_sa) rfl) (eas_cons (ev_var rfl) eas_nil)) (by simp)
          case e2 => rw [aheadD, List.length_map]; omega
          case e3 => exact (evh_var rfl rd_sa).nw rfl
          case e4 => rw [List.length_map]; omega
          case e5 =>
            refine ⟨sa K (.int street), sa K (.int goal), ?_⟩
            rw [ef, es, ← put_ahead (x := (goal, some (street, x.1))) hd2.2, List.map_append]
            rfl
        case d4 =>
          have hd2 : ¬ (street ∉ used ∧ goal ∉ A1.map (·.1)) := by simpa using hd
          have es : bfsStep used x.1 A1 (street, goal) = A1 := if_neg hd2
          refine at_nxt (at_lp ?_)
          refine ⟨sa K (.int street), sa K (.int goal), ?_⟩
          rw [ef, es]
          rfl
      case c4 =>
        rintro ρ' ⟨s8, s9, rfl⟩
        refine at_augI (i := 6) (a := (i : Int)) (b := 1) rfl ev_int (at_lwD (m' := m) (?_ : ∃ (i : Nat) (A : List Nd) (s7 s8 s9 : Sl), _ ∧ _ ∧ _ ∧ _) (Nat.lt_succ_self m))
        rw [bfs_fold, ← enb]
        exact ⟨i + 1, _, _, _, _, rfl, I2, er2, by omega⟩
    case b3 =>
      have xk : x.1 ∈ known := by simpa using hc
      have eR : R = (A, i) := by
        rw [← er]
        cases m with
        | zero => omega
        | succ m =>
        unfold bfsRun
        rw [hx]
        dsimp only
        rw [if_pos (decide_eq_true xk)]
      have eW : walkedF steps b known used = backF A A.length x.1 := by
        unfold walkedF
        rw [hR, eR]
        dsimp only
        rw [hx]
        rfl
      rw [eW] at q
      generalize hW : backF A A.length x.1 = W at q
      refine q_setM K (ds := []) (evm_lst eas_nil (by simp)) (q_set K (d := .int x.1) (EvH.nw wx rfl) (q_while (fun m ρ' => ∃ (j : Nat) (y : Nd) (L : List Row) (s8 s11 : Sl), ρ' = [sa K (stepsD steps), sa K (.int b), .fz (isDictT K (foundD known)), .fz (isDictT K (foundD used)), md K H (aheadD A), ml K H (A.map fun x => .int x.1), sn K H (.int (i : Int)), sn K H (.int y.1), s8, s9, ml K H (L.map rowD), s11] ∧
        A[j]? = some y ∧ j ≤ i ∧ j < m ∧ backF A m y.1 ++ L.reverse = W ∧ L.length + j ≤ i) A.length ?c1 ?c2))
      case c1 => exact ⟨i, x, [], _, _, rfl, hx, Nat.le_refl _, il, by rw [hW]; simp, by simp⟩
      case c2 =>
        rintro m ρ' ⟨j, y, L, s8, s11, rfl, hj, ji, jm, eL, lL⟩
        have lk := look_ahead I.nodup hj
        have lb := look_at I.nodup hj
        cases m with
        | zero => omega
        | succ m =>
        have unf : backF A (m + 1) y.1 = match lookB A y.1 with | some (s, p) => backF A m p ++ [(s, p, y.1)] | none => [] := rfl
        rw [lb] at unf
        cases ey : y.2 with
        | none =>
          rw [ey] at lk unf
          refine ⟨false, et_test (K := K) (Ev.hd (ev_notN (c := true) (evh_dget (evh_md (i := 4) rfl) (evh_var (i := 7) rfl rd_sn) lk) (Ev.hd ev_non) fun F v p => by cases p; rfl)), (fun z => nomatch z), fun _ => ?_⟩
          dsimp only at unf
          rw [unf, List.nil_append] at eL
          refine at_ret (K := K) (d := .list (W.map rowD)) (ev_is (EvM.nw (evm_rev (evh_var (i := 10) (d := .list (L.map rowD)) rfl rd_ml) (flatDs_map (fun _ => rfl) _))) (by rw [← eL, List.map_reverse])) q
        | some sp =>
          obtain ⟨s, p⟩ := sp
          rw [ey] at lk unf
          obtain ⟨s', p', k, z, e1, e2, e3, e4, e5, e6⟩ := I.par j y hj (fun z0 => by
            subst z0
            rw [I.hd] at hj
            cases hj
            cases ey)
          rw [ey] at e1
          cases e1
          refine ⟨true, et_test (K := K) (Ev.hd (ev_notN (c := false) (evh_dget (evh_md (i := 4) rfl) (evh_var (i := 7) rfl rd_sn) lk) (Ev.hd ev_non) fun F v p => by cases p; rfl)), fun _ => ?_, (fun z => nomatch z)⟩
          dsimp only at unf
          rw [unf] at eL
          refine q_asg (f := nwd K H (.tuple [.int s, .int p])) (Ev.x (EvH.nw (evh_dget (evh_md (i := 4) rfl) (evh_var (i := 7) rfl rd_sn) lk) rfl)) (bind_tup (bindl_cons (bind_name (i := 8) st_nwd) (bindl_cons (bind_name (i := 11) st_nwd) bindl_nil)) rfl)
            (q_drop (evx_append (i := 10) (d := rowD (s, p, y.1)) rfl (ev_tup (eas_cons (ev_var rfl) (eas_cons (ev_var rfl) (eas_cons (ev_var rfl) eas_nil))) (by simp)) (by rw [List.length_map]; omega)) (at_set (K := K) (d := .int p) (ev_var rfl) (at_lwD (m' := m) (?_ : ∃ (j : Nat) (y : Nd) (L : List Row) (s8 s11 : Sl), _ ∧ _ ∧ _ ∧ _ ∧ _ ∧ _) (Nat.lt_succ_self m))))
          refine ⟨k, z, L ++ [(s, p, y.1)], sn K H (.int s), sn K H (.int p), by rw [e5, List.map_append]; rfl, e4, by omega, by omega, ?_, by rw [List.length_append, List.length_singleton]; omega⟩
          rw [e5, List.reverse_append, ← eL]
          simp
end

def optRowD : Option Row → PyData
  | some r => rowD r
  | none => .none
abbrev spNext (K : PySem.W.Frag) (C : Addr) : Sp := Fp K (fun x : TSt × List Int × List Int => TOk x.1) (fun x => [isTown K C x.1, isDictT K (foundD x.2.1), isDictT K (foundD x.2.2)]) (fun x => optRowD (nextF x.1.held x.2.1 x.2.2))
section
variable {P : Program} {w : World} {K : PySem.W.Frag} {mg : Str → Option Value} {base : Heap} {C : Addr}
def hitF (known used : List Int) (r : Row) : Option Row := if r.1 ∉ used ∧ r.2.1 ∈ known then some r else if r.1 ∉ used ∧ r.2.2 ∈ known then some (r.1, r.2.2, r.2.1) else none
theorem next_eq {rows : List Row} {known used : List Int} : nextF rows known used = rows.findSome? (hitF known used) := rfl
theorem ok_next (Z : Zs mg) (T : TownTxt K mg C) (M_streets : OkM P w K mg base CX0 1 C "streets" ["self"] (spStreets K C)) (D : Dfn K mg "next_street" "next_street" s_next_street ["town", "known", "used"]) : Ok P w K mg base CX0 2 "next_street" ["town", "known", "used"] (spNext K C) := by
  refine fp_ok D sc_next_street (by decide) (fun _ => rfl) (fun _ => stabC st_isTown (stabC st_isDictT (stab1 st_isDictT))) (fun f cdv A outer s H E hr => ⟨_, (pss_cons (ps_for PassesOwn.never rfl (kpi_list K (ok_meth0 M_streets (by exact hr.mono (by decide)) (pv 0))) (kpg_tup K 3 rfl (pgs_cons (pg_name (i := 3) sc_next_street.nd rfl (Or.inl rfl)) (pgs_cons (pg_name (i := 4) sc_next_street.nd rfl (Or.inl rfl)) (pgs_cons (pg_name (i := 5) sc_next_street.nd rfl (Or.inl rfl)) pgs_nil))))
      (pss_cons (ps_if (PW.pt (pw_and (pt_cmp (pc_dnotin (by exact hu_of hr) (pv 3) (pv 2))) (pw_and1 (pt_cmp (pc_din (by exact hu_of hr) (pv 4) (pv 1)))))) (pss_one (ps_ret (pe_tup (pa_cons (pv 3) (pa_cons (pv 4) (pa_cons (pv 5) pa_nil)))))) pss_nil)
    (pss_one (ps_if (PW.pt (pw_and (pt_cmp (pc_dnotin (by exact hu_of hr) (pv 3) (pv 2))) (pw_and1 (pt_cmp (pc_din (by exact hu_of hr) (pv 5) (pv 1)))))) (pss_one (ps_ret (pe_tup (pa_cons (pv 3) (pa_cons (pv 5) (pa_cons (pv 4) pa_nil)))))) pss_nil))))
    (pss_one (ps_ret pe_non))), ?_⟩)
  rintro ⟨st, known, used⟩ ok Q q
  dsimp only at ok q
  walk_at "go"
  refine q_for (xs := st.held) (e := rowD) (q := nwd K H) (EvJ.i (evj_list (ev_streets ok (evh_fz st_isTown rfl))))
    (fun pre ρ' => ∃ s3 s4 s5, (∀ r ∈ pre, hitF known used r = none) ∧ ρ' = [.fz (isTown K C st), .fz (isDictT K (foundD known)), .fz (isDictT K (foundD used)), s3, s4, s5]) ?a1 ?a2 ?a3
  case a1 => exact ⟨_, _, _, fun r hr => (nomatch hr), rfl⟩
  case a2 =>
    rintro F1 pre ⟨s, a, b⟩ post ρ' hx ⟨s3, s4, s5, hp, rfl⟩
    have key : ∀ {y : Row}, hitF known used (s, a, b) = some y → nextF st.held known used = some y := fun {y} h => by
      rw [next_eq, hx, List.findSome?_append, List.findSome?_cons, h, List.findSome?_eq_none_iff.mpr hp]
      rfl
    refine ⟨_, _, bind_tup (bindl_cons (bind_name st_nwd) (bindl_cons (bind_name st_nwd) (bindl_cons (bind_name st_nwd) bindl_nil))) rfl, ?_⟩
    refine q_when (c := (!decide (s ∈ used)) && decide (a ∈ known)) (et_and ?b1 fun _ => ?b2) (fun h => ?b3) (fun h => at_when (c := (!decide (s ∈ used)) && decide (b ∈ known)) (et_and ?b4 fun _ => ?b5) (fun h2 => ?b6) (fun h2 => ?b7))
    case b1 => rw [← look_found]; exact et_B (K := K) (Ev.hd (ev_dnotin (evh_var rfl rd_sn) (evh_fzD rfl)))
    case b2 => rw [← look_found]; exact et_B (K := K) (Ev.hd (ev_din (evh_var rfl rd_sn) (evh_fzD rfl)))
    case b4 => rw [← look_found]; exact et_B (K := K) (Ev.hd (ev_dnotin (evh_var rfl rd_sn) (evh_fzD rfl)))
    case b5 => rw [← look_found]; exact et_B (K := K) (Ev.hd (ev_din (evh_var rfl rd_sn) (evh_fzD rfl)))
    case b3 =>
      have h' : s ∉ used ∧ a ∈ known := by simpa using h
      refine at_ret (K := K) (d := rowD (s, a, b)) (ev_tup (eas_cons (ev_var rfl) (eas_cons (ev_var rfl) (eas_cons (ev_var rfl) eas_nil))) (by simp)) ?_
      have e := key (y := (s, a, b)) (if_pos h')
      rw [e] at q
      exact q
    case b6 =>
      have h' : ¬ (s ∉ used ∧ a ∈ known) := by simpa using h
      have h2' : s ∉ used ∧ b ∈ known := by simpa using h2
      refine at_ret (K := K) (d := rowD (s, b, a)) (ev_tup (eas_cons (ev_var rfl) (eas_cons (ev_var rfl) (eas_cons (ev_var rfl) eas_nil))) (by simp)) ?_
      have e := key (y := (s, b, a)) ((if_neg h').trans (if_pos h2'))
      rw [e] at q
      exact q
    case b7 =>
      have h' : ¬ (s ∉ used ∧ a ∈ known) := by simpa using h
      have h2' : ¬ (s ∉ used ∧ b ∈ known) := by simpa using h2
      refine at_nxt (at_lp ⟨_, _, _, fun r hr => ?_, rfl⟩)
      rcases List.mem_append.mp hr with hr | hr
      · exact hp r hr
      · rw [List.mem_singleton.mp hr]
        exact (if_neg h').trans (if_neg h2')
  case a3 =>
    rintro ρ' ⟨s3, s4, s5, hp, rfl⟩
    refine at_ret (K := K) (d := .none) ev_non ?_
    have e : nextF st.held known used = none := List.findSome?_eq_none_iff.mpr hp
    rw [e] at q
    exact q
end

abbrev s_handles_from : Stmt := top 20
theorem sc_handles_from : FnScope ["town", "place", "used", "steps", "known", "found", "step", "handle", "street", "here", "goal"] ["town", "place", "used"] (defScope s_handles_from) := ⟨rfl, rfl, rfl, by decide +kernel, rfl, by decide +kernel, by decide +kernel⟩
section
variable {P : Program} {w : World} {K : PySem.W.Frag} {mg : Str → Option Value} {base : Heap} {C : Addr}
/-- what a def makes of a dict that it is handed -/
def spHf (K : PySem.W.Frag) (C : Addr) : Sp := fun vs H Q _ => ∃ (st : TSt) (p : Int) (U : List Int) (d : Addr) (v0 v1 : V) (kv : List (Key × V)), vs = [v0, v1, .ref d] ∧ isTown K C st (hid1 d H) v0 ∧ dat K (.int p) (hid1 d H) v1 ∧ H d = some (.dK kv) ∧ KvAll K e0 H kv (foundD U) ∧
  (TOk st ∧ 0 ≤ p ∧ p < st.many ∧ noPart st.held U p ∧ U.length ≤ 200) ∧
  ∀ v H' kv', (∀ a o, a ≠ d → H a = some o → H' a = some o) → H' d = some (.dK kv') → KvAll K e0 H' kv' (foundD (handlesFrom st.many st.held p U).used) → Nw K H H' v (.list ((handlesFrom st.many st.held p U).found.map fun h => .list (h.map rowD))) → Q v H'
theorem found_pure {f : List Int} : ∀ p ∈ foundD f, ∃ b, p.2 = PyData.bool b := fun p hp => by
  obtain ⟨x, _, rfl⟩ := List.mem_map.mp hp
  exact ⟨true, rfl⟩
theorem HfI.few {n p : Int} {rows : List Row} {U0 : List Int} {s : HS} (I : HfI n rows U0 p s) : s.found.flatten.length ≤ rows.length := by
  have := nodup_le I.once (ys := rows.map (·.1)) fun x hx => by
    obtain ⟨r, hr, rfl⟩ := List.mem_map.mp hx
    rcases (I.own r hr).1 with k | k
    · exact List.mem_map.mpr ⟨_, k, rfl⟩
    · exact List.mem_map.mpr ⟨_, k, rfl⟩
  rw [List.length_map, List.length_map] at this
  exact this
theorem HfI.kfew {n p : Int} {rows : List Row} {U0 : List Int} {s : HS} (I : HfI n rows U0 p s) : s.known.length ≤ n.toNat := by
  have := nodup_le I.knd (ys := rangeI n) fun x hx => mem_rangeI.mpr (I.con x hx).2
  rw [rangeI_len] at this
  exact this
theorem hs_flat {steps : List (List (Int × Int))} {s : HS} {st : Row} : (hsStep steps s st).found.flatten = s.found.flatten ++ handleF steps s.known s.used st := by unfold hsStep; simp
theorem ok_hf (Z : Zs mg) (T : TownTxt K mg C) (G_steps_of : Ok P w K mg base CX0 2 "steps_of" ["town"] (spSteps K C)) (G_walked_back : Ok P w K mg base CX0 1 "walked_back" ["steps", "first", "known", "used"] (spWalked K)) (G_next_street : Ok P w K mg base CX0 2 "next_street" ["town", "known", "used"] (spNext K C))
    (D : Dfn K mg "handles_from" "handles_from" s_handles_from ["town", "place", "used"]) : Ok P w K mg base CX0 3 "handles_from" ["town", "place", "used"] (spHf K C) := by
  obtain ⟨f, fd, F, hg, hb⟩ := D.ex
  refine ⟨f, fd, F.ok sc_handles_from (fun vs H Q E h => ?_) (fun cdv A outer s H vs Q E hr h => ?_), hg, F.kp, hb⟩
  · obtain ⟨st, p, U, d, v0, v1, kv, rfl, _⟩ := h
    rfl
  obtain ⟨st, p, U, d, v0, v1, kv, rfl, ht, hp, hd, hk, ⟨ok, p0, p1, np, lU⟩, q⟩ := h
  refine ⟨_, (pss_cons (ps_set (i := 3) sc_handles_from.nd rfl (Or.inl rfl) (ok_call G_steps_of (by exact hr.mono (by decide)) rfl (pa_cons (pv 0) pa_nil)))
    (pss_cons (ps_set (i := 4) sc_handles_from.nd rfl (Or.inl rfl) (pe_disp (pps_cons (pv 1) pe_bl pps_nil) (by rfl) (by rfl) (fun z => by cases z) (by decide)))
    (pss_cons (ps_set (i := 5) sc_handles_from.nd rfl (Or.inl rfl) (pe_lst pa_nil))
    (pss_cons (ps_set (i := 6) sc_handles_from.nd rfl (Or.inl rfl) (ok_call G_next_street (by exact hr.mono (by decide)) rfl (pa_cons (pv 0) (pa_cons (pv 4) (pa_cons (pv 2) pa_nil)))))
    (pss_cons (ps_while PassesOwn.never (pt_cmpR op_notN (pv 6) pe_non (nomark _)) (pss_cons (ps_dput (by exact hu_of hr) (pv 2) (pe_ix (kix_tup K) (pv 6) pe_int (fun _ _ => rfl)) pe_bl rfl)
    (pss_cons (ps_set (i := 7) sc_handles_from.nd rfl (Or.inl rfl) (pe_op op_cat (pe_lst (pa_cons (pv 6) pa_nil)) (ok_call G_walked_back (by exact hr.mono (by decide)) rfl (pa_cons (pv 3) (pa_cons (pe_ix (kix_tup K) (pv 6) pe_int (fun _ _ => rfl)) (pa_cons (pv 4) (pa_cons (pv 2) pa_nil)))))))
    (pss_cons (ps_for PassesOwn.never rfl (kpi_list K (pv 7)) (kpg_tup K 3 rfl (pgs_cons (pg_name (i := 8) sc_handles_from.nd rfl (Or.inl rfl)) (pgs_cons (pg_name (i := 9) sc_handles_from.nd rfl (Or.inl rfl)) (pgs_cons (pg_name (i := 10) sc_handles_from.nd rfl (Or.inl rfl)) pgs_nil))))
      (pss_cons (ps_dput (by exact hu_of hr) (pv 2) (pv 8) pe_bl rfl)
    (pss_one (ps_dput (by exact hu_of hr) (pv 4) (pv 10) pe_bl rfl))))
    (pss_cons (ps_expr (pe_bm PySem.F.plainAttrs_list PySem.F.slot_list_append PySem.F.type_list_append mt_append (pv 5) (pa_cons (pv 7) pa_nil)))
    (pss_one (ps_set (i := 6) sc_handles_from.nd rfl (Or.inl rfl) (ok_call G_next_street (by exact hr.mono (by decide)) rfl (pa_cons (pv 0) (pa_cons (pv 4) (pa_cons (pv 2) pa_nil)))))))))))
    (pss_one (ps_ret (pv 5)))))))), ?_⟩
  refine (?_ : At (hid1 d H) (hid1 d H) _ _) _ _ _ (cfg_dict (kvs := foundD U) (f1 := isTown K C st) (f2 := dat K (.int p)) hd (kv_pure hk found_pure) ht hp st_isTown st_dat (by decide))
  walk_at "go"
  have ex : ∀ v H' kv', Same (hid1 d H) H' → H' d = some (.dK kv') → KvAll K e0 H' kv' (foundD (handlesFrom st.many st.held p U).used) → Nw K (hid1 d H) H' v (.list ((handlesFrom st.many st.held p U).found.map fun h => .list (h.map rowD))) → Q v H' := fun v H' kv' s e1 e2 e3 =>
    q v H' kv' (fun a o na e => s a o ((hid1_at na).trans e)) e1 e2 (nw_dom (fun a xs e n => by
      by_cases na : a = d
      · rw [na, e1] at e; cases e
      · rw [hid1_at na] at n; exact n) e3)
  generalize hB : hid1 d H = B at ex
  clear hB
  have hn : 0 ≤ st.many := by have := ok.lo; omega
  have n16 := ok.hi
  have hin := tok_in ok
  have pw := ok.keys
  have few := ok.few
  have I0 : HfI st.many st.held U p ⟨[p], U, []⟩ := hfi_start p0 p1
  have hso := steps_ok ok
  have lso : ((stepsF st.many st.held).length : Int) = st.many := by rw [steps_len]; omega
  generalize hR : handlesFrom st.many st.held p U = R at ex
  have nx : ∀ {F0 : Hp} {s3 s5 s6 s7 s8 s9 s10 : Sl} {kn us : List Int}, Ev B F0 [.fz (isTown K C st), .fz (dat K (.int p)), .mo (mdQ K B (foundD us) d), s3, md K B (foundD kn), s5, s6, s7, s8, s9, s10] (tCall (spNext K C) [] E0 (tCons (tVar 0) (tCons (tVar 4) (tCons (tVar 2) tNil)))) (nwd K B (optRowD (nextF st.held kn us))) := fun {F0 s3 s5 s6 s7 s8 s9 s10 kn us} =>
    ev_call (α := TSt × List Int × List Int) (st, kn, us) ok (ea_cons st_isTown (evh_fz st_isTown rfl) (ea_cons st_isDictT (evh_mdT rfl) (ea_cons st_isDictT (evh_mdQ rfl) ea_nil)))
  refine q_set K (d := stepsD (stepsF st.many st.held)) (ev_call (α := TSt) st ok (ea_cons st_isTown (evh_fz st_isTown rfl) ea_nil)) (q_disp1 (K := K) (k := p) (d := .bool true) (EvH.nw (evh_var (i := 1) (d := .int p) rfl rd_sa) rfl) ev_bl (q_setM K (ds := []) (evm_lst eas_nil (by simp)) (q_set K (d := optRowD (nextF st.held [p] U)) (nx (kn := [p]) (us := U)) (q_while
    (fun m ρ' => ∃ (s7 s8 s9 s10 : Sl) (S : HS), ρ' = [.fz (isTown K C st), .fz (dat K (.int p)), .mo (mdQ K B (foundD S.used) d), sn K B (stepsD (stepsF st.many st.held)), md K B (foundD S.known), ml K B (S.found.map fun h => .list (h.map rowD)), sn K B (optRowD (nextF st.held S.known S.used)), s7, s8, s9, s10] ∧
      HfI st.many st.held U p S ∧ hfRun st.held (stepsF st.many st.held) m S = R ∧ st.held.length ≤ m + S.found.flatten.length) st.held.length ?a1 ?a2))))
  case a1 => exact ⟨_, _, _, _, ⟨[p], U, []⟩, rfl, I0, hR, by simp⟩
  case a2 =>
    rintro m ρ' ⟨s7, s8, s9, s10, S, rfl, I, er, fu⟩
    refine ⟨!(nextF st.held S.known S.used).isNone, et_test (K := K) (Ev.hd (ev_notN (c := (nextF st.held S.known S.used).isNone) (evh_var (i := 6) rfl rd_sn) (Ev.hd ev_non) fun F v e => by
      cases h : nextF st.held S.known S.used with
      | none => rw [h] at e; cases e; rfl
      | some r => rw [h] at e; cases e; rfl)), fun hc => ?b1, fun hc => ?b2⟩
    case b2 =>
      have e : nextF st.held S.known S.used = none := by
        cases h : nextF st.held S.known S.used with
        | none => rfl
        | some r => rw [h] at hc; cases hc
      have eR : R = S := by
        rw [← er]
        cases m with
        | zero => rfl
        | succ m => unfold hfRun; rw [e]
      rw [eR] at ex
      exact at_fix (K := K) 5 rfl (at_retDQ (i := 2) (kvs := foundD S.used) rfl (ev_var rfl) ex)
    case b1 =>
      cases e : nextF st.held S.known S.used with
      | none => rw [e] at hc; cases hc
      | some r =>
      cases m with
      | zero =>
        have := (hf_run hn hin pw np (m := 0) I fu).2
        rw [show hfRun st.held (stepsF st.many st.held) 0 S = S from rfl, e] at this
        cases this
      | succ m =>
      have I2 := hf_step hn hin pw np I e
      obtain ⟨hb, hk2⟩ := hf_reach hin np I e
      have er2 : hfRun st.held (stepsF st.many st.held) m (hsStep (stepsF st.many st.held) S r) = R := by
        rw [← er]
        conv => rhs; unfold hfRun
        rw [e]
      have f2 := I2.few
      have u1 := I.und
      have kf := I.kfew
      have fl := hs_flat (steps := stepsF st.many st.held) (s := S) (st := r)
      rw [fl, List.length_append] at f2
      have hH : 0 < (handleF (stepsF st.many st.held) S.known S.used r).length := by unfold handleF; simp
      have cell : (S.found.map fun h => PyData.list (h.map rowD)).length ≤ 1000 := by
        have := I.cnt
        rw [List.length_map]
        omega
      have eh : (handleF (stepsF st.many st.held) S.known S.used r).map rowD = [rowD r] ++ (walkedF (stepsF st.many st.held) r.2.2 S.known (addL S.used r.1)).map rowD := rfl
      have eS : hsStep (stepsF st.many st.held) S r = { known := ((handleF (stepsF st.many st.held) S.known S.used r).map (·.2.2)).foldl addL S.known, used := ((handleF (stepsF st.many st.held) S.known S.used r).map (·.1)).foldl addL (addL S.used r.1), found := S.found ++ [handleF (stepsF st.many st.held) S.known S.used r] } := rfl
      refine q_dputQ (i := 2) (k := r.1) (dd := .bool true) rfl ev_bl (evh_ixT (i := 0) (d := .int r.1) (ds := [.int r.1, .int r.2.1, .int r.2.2]) (evh_var (i := 6) rfl rd_sn) (Ev.hd ev_int) rfl) (by rw [foundD, List.length_map]; omega) ?_
      rw [put_add]
      refine q_set K (d := .list ((handleF (stepsF st.many st.held) S.known S.used r).map rowD)) ?c1 ?c2
      case c1 =>
        rw [eh]
        refine EvM.nw (evm_catN (EvM.n (evm_lst (eas_cons (ev_var (i := 6) rfl) eas_nil) (by simp))) (Ev.n (ev_call (α := List (List (Int × Int)) × Int × List Int × List Int) (stepsF st.many st.held, r.2.2, S.known, addL S.used r.1) ⟨hso, ⟨hb.1, by rw [lso]; exact hb.2⟩, hk2⟩ (ea_cons st_dat (evh_var rfl rd_sn) (ea_cons st_dat (evh_ixT (i := 2) (d := .int r.2.2) (ds := [.int r.1, .int r.2.1, .int r.2.2]) (evh_var (i := 6) rfl rd_sn) (Ev.hd ev_int) rfl) (ea_cons st_isDictT (evh_mdT rfl) (ea_cons st_isDictT (evh_mdQ rfl) ea_nil)))))) ?_)
        have : (handleF (stepsF st.many st.held) S.known S.used r).length = 1 + (walkedF (stepsF st.many st.held) r.2.2 S.known (addL S.used r.1)).length := by
          have := congrArg List.length eh
          rw [List.length_map, List.length_append, List.length_map, List.length_singleton] at this
          exact this
        rw [List.length_map, List.length_singleton]
        omega
      case c2 =>
      generalize hhh : handleF (stepsF st.many st.held) S.known S.used r = hh at f2 hH eS
      have lu : (addL S.used r.1).length ≤ S.used.length + 1 := by
        have := addL_len [r.1] S.used
        simpa using this
      refine q_for (xs := hh) (e := rowD) (q := nwd K B) (EvJ.i (evj_list (ev_var rfl)))
        (fun pre ρ' => ∃ s8 s9 s10, ρ' = [.fz (isTown K C st), .fz (dat K (.int p)), .mo (mdQ K B (foundD ((pre.map (·.1)).foldl addL (addL S.used r.1))) d), sn K B (stepsD (stepsF st.many st.held)), md K B (foundD ((pre.map (·.2.2)).foldl addL S.known)), ml K B (S.found.map fun h => .list (h.map rowD)), sn K B (rowD r), sn K B (.list (hh.map rowD)), s8, s9, s10]) ?d1 ?d2 ?d3
      case d1 => exact ⟨_, _, _, rfl⟩
      case d2 =>
        rintro F1 pre ⟨a, b, c⟩ post ρ' hx ⟨s8, s9, s10, rfl⟩
        have lp : pre.length ≤ hh.length := by rw [hx]; simp
        have l1 := addL_len (pre.map (·.1)) (addL S.used r.1)
        have l2 := addL_len (pre.map (·.2.2)) S.known
        rw [List.length_map] at l1 l2
        refine ⟨_, _, bind_tup (bindl_cons (bind_name st_nwd) (bindl_cons (bind_name st_nwd) (bindl_cons (bind_name st_nwd) bindl_nil))) rfl, ?_⟩
        refine q_dputQ (i := 2) (k := a) (dd := .bool true) rfl ev_bl (evh_var rfl rd_sn) (by rw [foundD, List.length_map]; omega) ?_
        rw [put_add]
        refine at_dput (i := 4) (k := c) (d := .bool true) rfl ev_bl (evh_var rfl rd_sn) (by rw [foundD, List.length_map]; omega) ?_
        rw [put_add]
        refine at_lpD ⟨sn K B (.int a), sn K B (.int b), sn K B (.int c), ?_⟩
        rw [List.map_append, List.map_append, List.foldl_append, List.foldl_append]
        rfl
      case d3 =>
        rintro ρ' ⟨s8, s9, s10, rfl⟩
        refine q_drop (evx_append (i := 5) (d := .list (hh.map rowD)) rfl (ev_var (i := 7) rfl) (by omega)) (at_set (K := K) nx (at_lwD (m' := m) (?_ : ∃ (s7 s8 s9 s10 : Sl) (S : HS), _ ∧ _ ∧ _ ∧ _) (Nat.lt_succ_self m)))
        refine ⟨sn K B (.list (hh.map rowD)), s8, s9, s10, hsStep (stepsF st.many st.held) S r, ?_, I2, er2, ?_⟩
        · rw [eS, List.map_append]
          rfl
        · rw [fl, hhh, List.length_append]
          omega
end

abbrev s_handles : Stmt := top 21
theorem sc_handles : FnScope ["town", "used", "street", "found", "piece"] ["town"] (defScope s_handles) := ⟨rfl, rfl, rfl, by decide +kernel, rfl, by decide +kernel, by decide +kernel⟩
section
variable {K : PySem.W.Frag} {B F0 : Hp} {ρ ρ1 : List Sl} {te ta tb tc : TE} {d : PyData} {ds es : List PyData} {D : Ends} {u : TS}
theorem paired_keys {F H : Hp} (s : Same F H) : ∀ {xs : List V} {ks : List Int}, NwAll K B F xs (ks.map fun k => .tuple [.int k, .bool true]) → ∃ ps : List Addr, xs = ps.map V.ref ∧ Paired (fun p kv => SqT K H p [kV kv.1, kv.2]) ps (ks.map fun k => ((Sum.inl k : Key), V.bl true))
  | _, [], h => by cases h; exact ⟨[], rfl, .nil⟩
  | _, k :: ks, h => by
    cases h with
    | cons x r =>
      obtain ⟨ps, e, q⟩ := paired_keys s r
      cases x with
      | @tup a ys _ h1 h2 =>
        cases h2 with
        | cons y1 y2 =>
          cases y1
          cases y2 with
          | cons y3 y4 =>
            cases y3
            cases y4
            exact ⟨a :: ps, by rw [e]; rfl, .cons (sqt_mono s h1) q⟩
theorem kv_merge {F : Hp} : ∀ {ks : List Int} {acc : List (Key × V)} {f : List Int}, KvAll K B F acc (foundD f) → KvAll K B F (mergeK acc (ks.map fun k => ((Sum.inl k : Key), V.bl true))) (foundD (ks.foldl addL f))
  | [], _, _, h => h
  | k :: ks, acc, f, h => by
    have h2 := kv_put (k := k) (v := .bl true) (d := .bool true) (.bl true) h
    rw [put_add] at h2
    exact kv_merge (ks := ks) h2
theorem q_setDict {i : Nat} {ks : List Int} (h : EvN K B F0 ρ te (ks.map fun k => .tuple [.int k, .bool true])) (k : At B F0 (u D) (ρ.set i (md K B (foundD (ks.foldl addL []))))) : At B F0 (tSeq (tAsg (tCB (rDictP K) (tCons te tNil)) (gName i)) u D) ρ := fun F H σ c =>
  h F H σ c _ fun a xs F1 H1 g1 hl hx => by
    obtain ⟨ps, e, pr⟩ := paired_keys (H := H1) g1.i hx
    refine ⟨a, ps, _, rfl, .inl (.inl (by rw [← e]; exact hl)), pr, fun p hp => ?_⟩
    have g2 : Gr F H F1 (upd H1 p (.dK (mergeK [] (ks.map fun k => ((Sum.inl k : Key), V.bl true))))) := g1.trans (Gr.new g1.i hp)
    refine k F1 _ _ (c.setN (as := [p]) (m := mdP K B (foundD (ks.foldl addL []))) st_md g2 ⟨p, _, rfl, rfl, upd_same, kv_merge (f := []) .nil⟩ fun b hb => ?_)
    rw [List.mem_singleton.mp hb]
    exact ⟨g1.i.free hp, g1.fresh hp, _, upd_same, rfl⟩
theorem evx_extendX {i : Nat} (hi : ρ[i]? = some (ml K B ds)) (h : EvX B F0 ρ te ρ1 (nwd K B (.list es))) (hi1 : ρ1[i]? = some (ml K B ds)) (hz : ds.length + es.length ≤ 100000) :
    EvX B F0 ρ (tBM K "list" rExtend (tVar i) (tCons te tNil)) (ρ1.set i (ml K B (ds ++ es))) (nwd K B .none) := fun F H σ c Q q => by
  obtain ⟨w, o⟩ := c.own
  obtain ⟨_, v, h1, l, xs, rfl, h3, h4, h5⟩ := o.sl i _ hi
  refine ⟨_, h1, .inl ⟨rfl, _, SqL.of h4⟩, h F H σ c _ fun y F2 H2 c2 p => ?_⟩
  obtain ⟨w2, o2⟩ := c2.own
  obtain ⟨_, v2, k1, l2, xs2, rfl, k3, k4, k5⟩ := o2.sl i _ hi1
  rw [h1] at k1
  cases k1
  cases p with
  | @lst b zs _ _ p1 p2 =>
    refine ⟨l, b, xs2, zs, rfl, rfl, k4, c2.i _ _ p1, sz_of (by rw [nwAll_len k5, nwAll_len p2]; exact hz), ?_⟩
    refine q _ F2 _ (c2.chg hi1 st_ml fun v' as e m n => ?_) .non
    obtain ⟨l', xs', rfl, rfl, e4, e5⟩ := m
    rw [h1] at e
    cases e
    rw [k4] at e4
    cases e4
    refine ⟨⟨l, xs2 ++ zs, rfl, rfl, upd_same, nwAll_app e5 p2⟩, fun a ha => upd_ne fun z => ha (by rw [z]; exact List.mem_singleton.mpr rfl), fun a ha => ?_⟩
    rw [List.mem_singleton.mp ha]
    exact ⟨_, upd_same, rfl⟩
/-- handles_from called with an owned dict -/
theorem evx_hf {C : Addr} {E : XK} {i : Nat} {st : TSt} {p : Int} {U : List Int} (h0 : Ev B F0 ρ ta (isTown K C st)) (h1 : Ev B F0 ρ tb (dat K (.int p))) (hi : ρ[i]? = some (md K B (foundD U))) (pre : TOk st ∧ 0 ≤ p ∧ p < st.many ∧ noPart st.held U p ∧ U.length ≤ 200) :
    EvX B F0 ρ (tCall (spHf K C) [] E (tCons ta (tCons tb (tCons (tVar i) tNil)))) (ρ.set i (md K B (foundD (handlesFrom st.many st.held p U).used))) (nwd K B (.list ((handlesFrom st.many st.held p U).found.map fun h => .list (h.map rowD)))) := fun F H σ c Q q =>
  h0 F H σ c _ fun v0 F1 H1 g1 p0 => h1 F1 H1 σ (c.go g1) _ fun v1 F2 H2 g2 p1 => by
    have c2 := (c.go g1).go g2
    obtain ⟨w, o⟩ := c2.own
    obtain ⟨_, v, e1, l, kv, rfl, ea, h4, h5⟩ := o.sl i _ hi
    have fd := (o.at_ i l (by rw [ea]; simp)).1
    have sub : Same F2 (hid1 l H2) := fun a u e => by
      have na : a ≠ l := fun z => by rw [z, fd] at e; cases e
      rw [hid1_at na]
      exact c2.i a u e
    refine ⟨_, e1, st, p, U, l, v0, v1, kv, rfl, st_isTown _ _ _ (g2.f.trans sub) p0, st_dat _ _ _ sub p1, h4, kvAll_mono c2.i (kvAll_e0 h5), pre, fun v H' kv' s k1 k2 k3 => ?_⟩
    have sm : Same (fun a => if a = l then H' l else H2 a) H' := fun a u e => by
      by_cases z : a = l
      · subst z
        exact (if_pos rfl).symm.trans e
      · exact s a u z ((if_neg z).symm.trans e)
    have c3 : Cfg B F0 F2 (fun a => if a = l then H' l else H2 a) σ (ρ.set i (md K B (foundD (handlesFrom st.many st.held p U).used))) := c2.chg hi st_md fun v' as e m n => by
      obtain ⟨l', kv2, rfl, rfl, e4, e5⟩ := m
      rw [e1] at e
      cases e
      refine ⟨⟨l, kv', rfl, rfl, (if_pos rfl).trans k1, kv_pure k2 found_pure⟩, fun a ha => if_neg fun z => ha (by rw [z]; exact List.mem_singleton.mpr rfl), fun a ha => ?_⟩
      rw [List.mem_singleton.mp ha]
      exact ⟨_, (if_pos rfl).trans k1, rfl⟩
    have k4 : Nw K (fun a => if a = l then H' l else H2 a) H' v (.list ((handlesFrom st.many st.held p U).found.map fun h => .list (h.map rowD))) := nw_dom (fun a xs e n => by
      by_cases z : a = l
      · rw [z, k1] at e; cases e
      · exact (if_neg z).trans n) k3
    obtain ⟨F3, g3, _, n3⟩ := nw_fix (B := B) c3.gr.h k4 F2 (gr_call c3.i sm)
    exact q v F3 H' (c3.go g3) n3
end
/-- what each piece asks -/
def runOk (n : Int) (rows : List Row) : List (List Int) → List Int → Prop
  | [], _ => True
  | q :: qs, U => (q ≠ [] ∧ 0 ≤ q.getD 0 0 ∧ q.getD 0 0 < n ∧ noPart rows U (q.getD 0 0) ∧ U.length ≤ 200) ∧ runOk n rows qs (handlesFrom n rows (q.getD 0 0) U).used
theorem run_len {n : Int} {rows : List Row} : ∀ {qs : List (List Int)} {s : List (List Row) × List Int}, s.1.length ≤ (handlesRun n rows qs s).1.length
  | [], _ => Nat.le_refl _
  | q :: qs, s => by
    have := run_len (n := n) (rows := rows) (qs := qs) (s := (s.1 ++ (handlesFrom n rows (q.getD 0 0) s.2).found, (handlesFrom n rows (q.getD 0 0) s.2).used))
    rw [List.length_append] at this
    show s.1.length ≤ (handlesRun n rows qs _).1.length
    omega
theorem addL_snoc : ∀ {l h : List Int}, (h ++ l).Nodup → l.foldl addL h = h ++ l
  | [], h, _ => by simp
  | x :: l, h, nd => by
    have hx : x ∉ h := fun z => by
      rw [List.nodup_append] at nd
      exact nd.2.2 x z x (List.mem_cons_self ..) rfl
    rw [List.foldl_cons, show addL h x = h ++ [x] from if_neg hx, addL_snoc (by simpa using nd)]
    simp
theorem parting_nodup {n : Int} {rows : List Row} (pw : rows.Pairwise fun p q => p.1 < q.1) : (partingF n rows).Nodup := by
  unfold partingF
  rw [List.nodup_iff_pairwise_ne, List.pairwise_map]
  exact (pw.filter _).imp fun h => Int.ne_of_lt h
def handlesOk (st : TSt) : Prop := runOk st.many st.held (partsOf st.many (leftE st.held (partingF st.many st.held))) (partingF st.many st.held)
abbrev spHandles (K : PySem.W.Frag) (C : Addr) : Sp := Fp K (fun st : TSt => TOk st ∧ handlesOk st ∧ (handlesF st.many st.held).length ≤ 1000) (fun st => [isTown K C st]) (fun st => .list ((handlesF st.many st.held).map fun h => .list (h.map rowD)))
section
variable {P : Program} {w : World} {K : PySem.W.Frag} {mg : Str → Option Value} {base : Heap} {C : Addr}
theorem ok_handles (Z : Zs mg) (T : TownTxt K mg C) (G_parting : Ok P w K mg base CX0 3 "parting" ["town"] (spParting K C)) (G_pieces : Ok P w K mg base CX0 4 "pieces" ["town"] (spPieces K C)) (G_handles_from : Ok P w K mg base CX0 3 "handles_from" ["town", "place", "used"] (spHf K C))
    (D : Dfn K mg "handles" "handles" s_handles ["town"]) : Ok P w K mg base CX0 5 "handles" ["town"] (spHandles K C) := by
  refine fp_ok D sc_handles (by decide) (fun _ => rfl) (fun _ => stab1 st_isTown) (fun f cdv A outer s H E hr => ⟨_, (pss_cons (ps_set (i := 1) sc_handles.nd rfl (Or.inl rfl) (pe_callTy (kcall_dictP K rfl) (by rfl) Z.dict (by decide +kernel) (pa_cons (pe_lc (own := [("street", 2)]) (tt := tYes) rfl sc_handles.nd (kpi_list K (ok_call G_parting (by exact hr.mono (by decide)) rfl (pa_cons (pv 0) pa_nil))) (blkOk_by (by dsimp only [cxOf, Cx.nox, Cx.wish, Cx.blk, compEnvC, envOfC]; (try (rw [relabel_eq]; dsimp only)); decide +kernel)) (fun _ _ _ _ _ => (pg_name (i := 2) sc_handles.nd rfl (Or.inl rfl))) (fun _ _ _ _ _ => pts_nil) (fun _ _ _ _ _ => (pe_tup (pa_cons (pv 2) (pa_cons pe_bl pa_nil))))) pa_nil)))
    (pss_cons (ps_set (i := 3) sc_handles.nd rfl (Or.inl rfl) (pe_lst pa_nil))
    (pss_cons (ps_for PassesOwn.never rfl (kpi_list K (ok_call G_pieces (by exact hr.mono (by decide)) rfl (pa_cons (pv 0) pa_nil))) (pg_name (i := 4) sc_handles.nd rfl (Or.inl rfl))
      (pss_one (ps_expr (pe_bm PySem.F.plainAttrs_list PySem.F.slot_list_extend PySem.F.type_list_extend mt_extend (pv 3) (pa_cons (ok_call G_handles_from (by exact hr.mono (by decide)) rfl (pa_cons (pv 0) (pa_cons (pe_ix (kix_list K) (pv 4) pe_int (fun _ _ => rfl)) (pa_cons (pv 1) pa_nil)))) pa_nil)))))
    (pss_one (ps_ret (pv 3)))))), ?_⟩)
  rintro st ⟨ok, hok, hlen⟩ Q q
  walk_at "go"
  have pn := parting_nodup (n := st.many) ok.keys
  have ep : (partingF st.many st.held).foldl addL [] = partingF st.many st.held := addL_snoc (h := []) (by simpa using pn)
  have lp : (partingF st.many st.held).length ≤ 60 := by
    unfold partingF
    rw [List.length_map]
    exact Nat.le_trans (List.length_filter_le _ _) ok.few
  unfold handlesOk at hok
  unfold handlesF at hlen q
  refine q_setDict (i := 1) (ks := partingF st.many st.held) ?a1 ?a2
  case a1 =>
    have e0 : ((partingF st.many st.held).map fun k => PyData.tuple [.int k, .bool true]) = ((partingF st.many st.held).filter fun _ => true).map fun k => PyData.tuple [.int k, .bool true] := by rw [List.filter_eq_self.mpr fun _ _ => rfl]
    rw [e0]
    refine EvM.n (evm_lc (xs := partingF st.many st.held) (e := PyData.int) (q := nwd K H) (fun _ => true) (fun k => .tuple [.int k, .bool true]) (evj_list (ev_call (α := TSt) st ok (ea_cons st_isTown (evh_fz st_isTown rfl) ea_nil))) (fun F1 k hk => ⟨_, _, bind_name st_nwd, by decide, fun F H σ c Q q => q F H (Gr.refl c.i), fun _ => ev_tup (eas_cons (ev_var rfl) (eas_cons ev_bl eas_nil)) (by simp)⟩) (by omega))
  case a2 =>
  rw [ep]
  generalize hxs : partsOf st.many (leftE st.held (partingF st.many st.held)) = xs at hok hlen q
  generalize hU0 : partingF st.many st.held = U0 at hok hlen q hxs
  refine q_setM K (ds := []) (evm_lst eas_nil (by simp)) (q_for (xs := xs) (e := intsD) (q := nwd K H) (EvJ.i (evj_list (ev_is (ev_call (α := TSt) st ok (ea_cons st_isTown (evh_fz st_isTown rfl) ea_nil)) ?b0)))
    (fun pre ρ' => ∃ (Fd : List (List Row)) (U : List Int) (s3 s4 : Sl), ρ' = [.fz (isTown K C st), md K H (foundD U), s3, ml K H (Fd.map fun h => .list (h.map rowD)), s4] ∧ ∀ post, xs = pre ++ post → handlesRun st.many st.held post (Fd, U) = handlesRun st.many st.held xs ([], U0) ∧ runOk st.many st.held post U) ?b1 ?b2 ?b3)
  case b0 => rw [hU0, hxs]
  case b1 => exact ⟨[], U0, _, _, rfl, fun post e => by rw [List.nil_append] at e; rw [← e]; exact ⟨rfl, hok⟩⟩
  case b2 =>
    rintro F1 pre piece post ρ' hx ⟨Fd, U, s3, s4, rfl, hr⟩
    obtain ⟨r1, ⟨pne, p0, p1, np, lU⟩, r2⟩ := hr (piece :: post) hx
    have i0 : (piece.map PyData.int)[0]? = some (.int (piece.getD 0 0)) := by
      cases piece with
      | nil => exact absurd rfl pne
      | cons a l => rfl
    have hl := run_len (n := st.many) (rows := st.held) (qs := post) (s := (Fd ++ (handlesFrom st.many st.held (piece.getD 0 0) U).found, (handlesFrom st.many st.held (piece.getD 0 0) U).used))
    rw [show handlesRun st.many st.held post (Fd ++ (handlesFrom st.many st.held (piece.getD 0 0) U).found, (handlesFrom st.many st.held (piece.getD 0 0) U).used) = handlesRun st.many st.held (piece :: post) (Fd, U) from rfl, r1] at hl
    dsimp only at hl
    rw [List.length_append] at hl
    refine ⟨_, _, (by walk_at "bd"), at_drop (evx_extendX (i := 3) (ds := Fd.map fun h => .list (h.map rowD)) rfl (evx_hf (i := 1) (U := U) (ev_var rfl) (Ev.dat (EvH.nw (evh_ixL (i := 0) (d := .int (piece.getD 0 0)) (evh_var (d := intsD piece) rfl rd_sn) (Ev.hd ev_int) (atI_nn (Int.le_refl 0) i0)) rfl)) rfl ⟨ok, p0, p1, np, lU⟩) rfl (by rw [List.length_map, List.length_map]; omega)) (at_lpD ⟨Fd ++ (handlesFrom st.many st.held (piece.getD 0 0) U).found, (handlesFrom st.many st.held (piece.getD 0 0) U).used, s3, sn K H (intsD piece), ?c1, fun post' e => ?c2⟩)⟩
    case c1 => rw [List.map_append]; rfl
    case c2 =>
      have e2 : post' = post := by
        rw [hx, List.append_assoc, List.singleton_append] at e
        exact (List.cons.inj (List.append_cancel_left e)).2.symm
      subst e2
      exact ⟨r1, r2⟩
  case b3 =>
    rintro ρ' ⟨Fd, U, s3, s4, rfl, hr⟩
    have e := (hr [] (by simp)).1
    rw [← e] at q
    exact at_fix (K := K) 3 rfl (at_ret (K := K) (ev_var rfl) q)
end

abbrev s_one_way : Stmt := top 23
theorem sc_one_way : FnScope ["town", "gone", "some", "found", "handle"] ["town"] (defScope s_one_way) := ⟨rfl, rfl, rfl, by decide +kernel, rfl, by decide +kernel, by decide +kernel⟩
section
variable {K : PySem.W.Frag} {B F : Hp}
theorem nw_row {v : V} {r : Row} (h : Nw K B F v (rowD r)) : ∃ t, v = .ref t ∧ SqT K F t ([r.1, r.2.1, r.2.2].map V.int) := by
  cases h with
  | @tup a ys _ h1 h2 =>
    cases h2 with
    | cons y1 y2 =>
      cases y1
      cases y2 with
      | cons y3 y4 =>
        cases y3
        cases y4 with
        | cons y5 y6 =>
          cases y5
          cases y6
          exact ⟨a, rfl, h1⟩
theorem nwAll_perm {ys xs : List V} (p : ys.Perm xs) : ∀ {L : List Row}, NwAll K B F xs (L.map rowD) → ∃ L' : List Row, L'.Perm L ∧ NwAll K B F ys (L'.map rowD) := by
  induction p with
  | nil => intro L h; exact ⟨L, .refl _, h⟩
  | @cons x l1 l2 _ ih =>
    intro L h
    cases L with
    | nil => cases h
    | cons r L =>
      cases h with
      | cons a b =>
        obtain ⟨L', p1, h1⟩ := ih b
        exact ⟨r :: L', p1.cons r, .cons a h1⟩
  | swap x y l =>
    intro L h
    cases L with
    | nil => cases h
    | cons r L =>
      cases h with
      | cons a b =>
        cases L with
        | nil => cases b
        | cons s L =>
          cases b with
          | cons b c => exact ⟨s :: r :: L, .swap r s L, .cons b (.cons a c)⟩
  | trans _ _ ih1 ih2 =>
    intro L h
    obtain ⟨L1, p1, h1⟩ := ih2 h
    obtain ⟨L2, p2, h2⟩ := ih1 h1
    exact ⟨L2, p2.trans p1, h2⟩
def codeR (r : Row) : Int := TS.code 1000000 [r.1, r.2.1, r.2.2]
theorem pw_rows {H : Hp} (s : Same F H) : ∀ {ys : List V} {L : List Row}, NwAll K B F ys (L.map rowD) → ys.Pairwise (fun x y => ∀ n m, TupI K H x n → TupI K H y m → TS.code 1000000 n ≤ TS.code 1000000 m) → L.Pairwise fun r q => codeR r ≤ codeR q
  | _, [], _, _ => .nil
  | _, r :: L, h, pw => by
    cases h with
    | cons a b =>
      obtain ⟨h1, h2⟩ := List.pairwise_cons.mp pw
      refine List.pairwise_cons.mpr ⟨fun q hq => ?_, pw_rows s b h2⟩
      obtain ⟨t, rfl, ht⟩ := nw_row a
      obtain ⟨i, hi, eq⟩ := List.mem_iff_getElem.mp hq
      obtain ⟨y, e1, e2⟩ := nwAll_get b (i := i) (d := rowD q) (by rw [List.getElem?_map, List.getElem?_eq_getElem hi, eq]; rfl)
      obtain ⟨u, rfl, hu⟩ := nw_row e2
      exact h1 _ (List.mem_of_getElem? e1) _ _ ⟨t, rfl, sqt_mono s ht⟩ ⟨u, rfl, sqt_mono s hu⟩
def smallR (r : Row) : Prop := (0 ≤ r.1 ∧ r.1 < 1000000) ∧ (0 ≤ r.2.1 ∧ r.2.1 < 1000000) ∧ (0 ≤ r.2.2 ∧ r.2.2 < 1000000)
theorem sorted_is {L L' srt : List Row} (h1 : L'.Perm L) (h2 : L'.Pairwise fun r q => codeR r ≤ codeR q) (hs : ∀ r ∈ L, smallR r) (nd : (L.map (·.1)).Nodup) (p : srt.Perm L) (ps : srt.Pairwise fun r q => r.1 < q.1) : L' = srt := by
  have nd' : (L'.map (·.1)).Nodup := (h1.map (·.1)).nodup_iff.mpr nd
  have pw : L'.Pairwise fun r q => r.1 < q.1 := by
    have ne : L'.Pairwise fun r q => r.1 ≠ q.1 := by
      rw [List.nodup_iff_pairwise_ne, List.pairwise_map] at nd'
      exact nd'
    refine (h2.and ne).imp_of_mem fun {r q} hr hq ⟨c, n⟩ => ?_
    have sr := hs r (h1.mem_iff.mp hr)
    have sq := hs q (h1.mem_iff.mp hq)
    apply Classical.byContradiction
    intro z
    have : q.1 < r.1 := by omega
    exact code_lt sq.2.1 sq.2.2 sr.2.1 sr.2.2 this c
  exact List.Perm.eq_of_pairwise (le := fun r q : Row => r.1 < q.1) (fun a b _ _ x y => by omega) pw ps (h1.trans p.symm)
theorem evm_sortT {F0 : Hp} {ρ : List Sl} {ta : TE} {L srt : List Row} (h : EvN K B F0 ρ ta (L.map rowD)) (hl : L.length < 64) (hs : ∀ r ∈ L, smallR r) (nd : (L.map (·.1)).Nodup) (p : srt.Perm L) (ps : srt.Pairwise fun r q => r.1 < q.1) :
    EvM K B F0 ρ (tCB (rSortU K 3 1000000) (tCons ta tNil)) (srt.map rowD) := fun F H σ c Q q =>
  h F H σ c _ fun a xs F1 H1 g1 ha hx => by
    have lx : xs.length = L.length := by rw [nwAll_len hx, List.length_map]
    refine ⟨a, xs, rfl, .inl (.inl ha), by rw [lx]; exact hl, fun x hm => ?_, fun ys b pm pw hb => ?_⟩
    · obtain ⟨i, hi⟩ := List.mem_iff_getElem?.mp hm
      have li := (List.getElem?_eq_some_iff.mp hi).1
      have li2 : i < L.length := by omega
      obtain ⟨y, e1, e2⟩ := nwAll_get hx (i := i) (d := rowD L[i]) (by rw [List.getElem?_map, List.getElem?_eq_getElem li2]; rfl)
      rw [hi] at e1
      cases e1
      obtain ⟨t, rfl, ht⟩ := nw_row e2
      have sm := hs _ (List.getElem_mem li2)
      refine ⟨_, ⟨t, rfl, sqt_mono g1.i ht⟩, rfl, fun m hm => ?_⟩
      simp only [List.mem_cons, List.not_mem_nil, or_false] at hm
      rcases hm with rfl | rfl | rfl
      · exact sm.1
      · exact sm.2.1
      · exact sm.2.2
    · obtain ⟨L', p1, hy⟩ := nwAll_perm pm hx
      have e := sorted_is p1 (pw_rows g1.i hy pw) hs nd p ps
      subst e
      exact q b ys F1 _ (g1.trans (Gr.new g1.i hb)) (g1.i.free hb) (g1.fresh hb) upd_same hy
end

/-! a whole town that no street parts is made one-way -/
theorem whole_of {n : Int} {E : List (Int × Int)} (h : edgesIn n E) (n1 : 1 ≤ n) (hl : (partsOf n E).length ≤ 1) : (∀ x, 0 ≤ x → x < n → Conn E 0 x) ∧ ∃ q qs, partsOf n E = [0 :: qs] ∧ q = qs := by
  have I := lab_of h
  have l0 : labAt (labelF n E) 0 = 0 := by
    have := I.lo 0 (by omega) (by omega)
    omega
  have root : ∀ x, 0 ≤ x → x < n → labAt (labelF n E) x = 0 := fun x x0 x1 => by
    apply Classical.byContradiction
    intro hne
    have lx := I.lo x x0 x1
    have ix := I.idem x x0 x1
    rw [partsOf_eq h, List.length_map] at hl
    have m0 : (0 : Int) ∈ (rangeI n).filter fun m => decide (labAt (labelF n E) m = m) := List.mem_filter.mpr ⟨mem_rangeI.mpr ⟨by omega, by omega⟩, decide_eq_true l0⟩
    have mx : labAt (labelF n E) x ∈ (rangeI n).filter fun m => decide (labAt (labelF n E) m = m) := List.mem_filter.mpr ⟨mem_rangeI.mpr ⟨by omega, by omega⟩, decide_eq_true ix⟩
    have nd : ([0, labAt (labelF n E) x] : List Int).Nodup := by simp; omega
    have := nodup_le nd fun y hy => by
      simp only [List.mem_cons, List.not_mem_nil, or_false] at hy
      rcases hy with rfl | rfl
      · exact m0
      · exact mx
    simp only [List.length_cons, List.length_nil] at this
    omega
  have con : ∀ x, 0 ≤ x → x < n → Conn E 0 x := fun x x0 x1 => (I.conn 0 x (by omega) (by omega) x0 x1).mpr (by rw [l0, root x x0 x1])
  refine ⟨con, ?_⟩
  have er : rangeI n = 0 :: (rangeI n).tail := by
    have : ∃ k, n.toNat = k + 1 := ⟨n.toNat - 1, by omega⟩
    obtain ⟨k, hk⟩ := this
    unfold rangeI
    rw [hk, List.range_succ_eq_map]
    simp
  have ec : compF n (labelF n E) 0 = rangeI n := by
    unfold compF
    exact List.filter_eq_self.mpr fun p hp => by
      have := mem_rangeI.mp hp
      exact decide_eq_true (root p this.1 this.2)
  have ef : (rangeI n).filter (fun m => decide (labAt (labelF n E) m = m)) = [0] := by
    rw [er, List.filter_cons, if_pos (decide_eq_true l0)]
    congr 1
    rw [List.filter_eq_nil_iff]
    intro p hp
    have pw := rangeI_pw n
    rw [er] at pw
    have h0 := (List.pairwise_cons.mp pw).1 p hp
    have hm := mem_rangeI.mp (show p ∈ rangeI n by rw [er]; exact List.mem_cons_of_mem _ hp)
    have := root p hm.1 hm.2
    simp
    omega
  rw [partsOf_eq h, ef, List.map_singleton, ec]
  exact ⟨_, (rangeI n).tail, by rw [← er], rfl⟩
/-- no street parts it -/
theorem noPart_of {n : Int} {rows : List Row} (hin : rowsIn n rows) (hp : partingF n rows = []) (p : Int) : noPart rows [] p := fun r hr _ _ => by
  unfold partingF at hp
  have := List.map_eq_nil_iff.mp hp
  rw [List.filter_eq_nil_iff] at this
  have h := this r hr
  have h2 : r.2.2 ∈ comeF n rows [r.1] r.2.1 := by simpa using h
  exact (mem_come hin (hin r hr).1.1 (hin r hr).1.2).mp h2
/-- the steps of a row of steps turned as they are had -/
def oriF (L : List Row) (r : Row) : Row := (L.find? fun q => decide (q.1 = r.1)).getD r
def waysF (n : Int) (rows : List Row) : List Row := rows.map (oriF (handlesF n rows).flatten)
structure WholeI (n : Int) (rows : List Row) : Prop where
  hand : handlesF n rows = (handlesFrom n rows 0 []).found
  run : runOk n rows (partsOf n (leftE rows (partingF n rows))) (partingF n rows)
  len : (handlesF n rows).length ≤ rows.length
  flen : (handlesF n rows).flatten.length = rows.length
  perm : (waysF n rows).Perm (handlesF n rows).flatten
  nd : ((handlesF n rows).flatten.map (·.1)).Nodup
  ori : ∀ r ∈ rows, oriF (handlesF n rows).flatten r = r ∨ oriF (handlesF n rows).flatten r = (r.1, r.2.2, r.2.1)
  dc : ∀ x, 0 ≤ x → x < n → DC (waysF n rows) 0 x ∧ DC (waysF n rows) x 0
  many : n.toNat ≤ rows.length + 1
theorem nodup_of_map {α β : Type} {f : α → β} {l : List α} (h : (l.map f).Nodup) : l.Nodup := by
  rw [List.nodup_iff_pairwise_ne, List.pairwise_map] at h
  rw [List.nodup_iff_pairwise_ne]
  exact h.imp fun h e => h (congrArg f e)
theorem find_one {L : List Row} {q : Row} (nd : (L.map (·.1)).Nodup) (h : q ∈ L) : L.find? (fun y => decide (y.1 = q.1)) = some q := by
  induction L with
  | nil => cases h
  | cons y L ih =>
    rw [List.map_cons] at nd
    obtain ⟨n1, n2⟩ := List.nodup_cons.mp nd
    rw [List.find?_cons]
    by_cases e : y.1 = q.1
    · rw [decide_eq_true e]
      rcases List.mem_cons.mp h with rfl | h
      · rfl
      · exact absurd (List.mem_map.mpr ⟨q, h, e.symm⟩) n1
    · rw [decide_eq_false e]
      rcases List.mem_cons.mp h with rfl | h
      · exact absurd rfl e
      · exact ih n2 h
theorem whole_i {n : Int} {rows : List Row} (n1 : 1 ≤ n) (hin : rowsIn n rows) (pw : rows.Pairwise fun p q => p.1 < q.1) (hp : partingF n rows = []) (hl : (partsOf n (leftE rows [])).length ≤ 1) : WholeI n rows := by
  obtain ⟨con, q, qs, ep, _⟩ := whole_of (leftE_in hin) n1 hl
  have np := noPart_of hin hp 0
  obtain ⟨I, nx⟩ := handlesFrom_ok (n := n) (p := 0) (U := []) (by omega) hin pw (by omega) (by omega) np
  have eh : handlesF n rows = (handlesFrom n rows 0 []).found := by
    unfold handlesF
    rw [hp, ep]
    show ([] : List (List Row)) ++ (handlesFrom n rows 0 []).found = _
    simp
  have run : runOk n rows (partsOf n (leftE rows (partingF n rows))) (partingF n rows) := by
    rw [hp, ep]
    exact ⟨⟨by simp, by show (0 : Int) ≤ 0; omega, by show (0 : Int) < n; omega, np, by simp⟩, trivial⟩
  have all : ∀ r ∈ rows, r.1 ∈ (handlesF n rows).flatten.map (·.1) := fun r hr => by
    rw [eh]
    exact hf_streets I nx hr (by simp) (con _ (hin r hr).1.1 (hin r hr).1.2)
  have own : ∀ r ∈ (handlesF n rows).flatten, r ∈ rows ∨ (r.1, r.2.2, r.2.1) ∈ rows := fun r hr => by
    rw [eh] at hr
    exact (I.own r hr).1
  have nd : ((handlesF n rows).flatten.map (·.1)).Nodup := by rw [eh]; exact I.once
  have ndr : (rows.map (·.1)).Nodup := by
    rw [List.nodup_iff_pairwise_ne, List.pairwise_map]
    exact pw.imp fun h => Int.ne_of_lt h
  have flen : (handlesF n rows).flatten.length = rows.length := by
    have l1 := nodup_le nd (ys := rows.map (·.1)) fun x hx => by
      obtain ⟨r, hr, rfl⟩ := List.mem_map.mp hx
      rcases own r hr with k | k
      · exact List.mem_map.mpr ⟨_, k, rfl⟩
      · exact List.mem_map.mpr ⟨_, k, rfl⟩
    have l2 := nodup_le ndr (ys := (handlesF n rows).flatten.map (·.1)) fun x hx => by
      obtain ⟨r, hr, rfl⟩ := List.mem_map.mp hx
      exact all r hr
    rw [List.length_map, List.length_map] at l1 l2
    omega
  have fnd : ∀ r ∈ rows, ∃ q ∈ (handlesF n rows).flatten, q.1 = r.1 ∧ oriF (handlesF n rows).flatten r = q := fun r hr => by
    obtain ⟨q, hq, e⟩ := List.mem_map.mp (all r hr)
    refine ⟨q, hq, e, ?_⟩
    unfold oriF
    rw [← e, find_one nd hq]
    rfl
  have ori : ∀ r ∈ rows, oriF (handlesF n rows).flatten r = r ∨ oriF (handlesF n rows).flatten r = (r.1, r.2.2, r.2.1) := fun r hr => by
    obtain ⟨q, hq, e, eo⟩ := fnd r hr
    rw [eo]
    rcases own q hq with k | k
    · exact .inl (uniR pw k hr e)
    · have z := uniR pw k hr e
      exact .inr (by rw [← z])
  have wst : (waysF n rows).map (·.1) = rows.map (·.1) := by
    unfold waysF
    rw [List.map_map]
    refine List.map_congr_left fun r hr => ?_
    obtain ⟨q, _, e, eo⟩ := fnd r hr
    show (oriF (handlesF n rows).flatten r).1 = r.1
    rw [eo, e]
  have perm : (waysF n rows).Perm (handlesF n rows).flatten := by
    refine (List.perm_ext_iff_of_nodup ?_ ?_).mpr fun x => ⟨fun hx => ?_, fun hx => ?_⟩
    · have : ((waysF n rows).map (·.1)).Nodup := by rw [wst]; exact ndr
      exact nodup_of_map this
    · exact nodup_of_map nd
    · obtain ⟨r, hr, rfl⟩ := List.mem_map.mp hx
      obtain ⟨q, hq, _, eo⟩ := fnd r hr
      rw [eo]; exact hq
    · have : ∃ r ∈ rows, r.1 = x.1 := by
        rcases own x hx with k | k
        · exact ⟨_, k, rfl⟩
        · exact ⟨_, k, rfl⟩
      obtain ⟨r, hr, e⟩ := this
      refine List.mem_map.mpr ⟨r, hr, ?_⟩
      unfold oriF
      rw [e, find_one nd hx]
      rfl
  have kn : ∀ x, 0 ≤ x → x < n → x ∈ (handlesFrom n rows 0 []).known := fun x x0 x1 => hf_all I nx (con x x0 x1)
  have dc : ∀ x, 0 ≤ x → x < n → DC (waysF n rows) 0 x ∧ DC (waysF n rows) x 0 := fun x x0 x1 => by
    have := I.dc x (kn x x0 x1)
    rw [← eh] at this
    exact ⟨this.1.mono fun r hr => perm.mem_iff.mpr hr, this.2.mono fun r hr => perm.mem_iff.mpr hr⟩
  refine ⟨eh, run, ?_, flen, perm, nd, ori, dc, ?_⟩
  · have c := I.cnt
    rw [← eh] at c
    have k1 : 1 ≤ (handlesFrom n rows 0 []).known.length := List.length_pos_of_mem I.here
    omega
  · have c := I.cnt
    rw [← eh] at c
    have := nodup_le (rangeI_pw n |>.imp fun h => Int.ne_of_lt h) (ys := (handlesFrom n rows 0 []).known) fun x hx => by
      have := mem_rangeI.mp hx
      exact kn x this.1 this.2
    rw [rangeI_len] at this
    omega

abbrev s_is_step : Stmt := top 24
theorem sc_is_step : FnScope ["thing", "street", "one"] ["thing", "street"] (defScope s_is_step) := ⟨rfl, rfl, rfl, by decide +kernel, rfl, by decide +kernel, by decide +kernel⟩
abbrev s_is_one_way : Stmt := top 26
theorem sc_is_one_way : FnScope ["town", "thing", "some", "step", "street", "back", "one", "other"] ["town", "thing"] (defScope s_is_one_way) := ⟨rfl, rfl, rfl, by decide +kernel, rfl, by decide +kernel, by decide +kernel⟩
def stepB (s : Int × Int × Int) : PyData → Bool
  | .tuple [.int a, .int b, .int c] => decide ((a, b, c) = s) || decide ((a, b, c) = (s.1, s.2.2, s.2.1))
  | _ => false
def plainI (d : PyData) : Bool := isaB "int" d && !isaB "bool" d
theorem plainI_int {d : PyData} (h : plainI d = true) : ∃ i, d = .int i := by
  cases d with
  | int i => exact ⟨i, rfl⟩
  | _ => simp [plainI, isaB, tyD] at h
theorem stepB_int {s : Int × Int × Int} {d : PyData} (h : stepB s d = true) : ∃ r : Int × Int × Int, d = rowD r ∧ (r = s ∨ r = (s.1, s.2.2, s.2.1)) := by
  unfold stepB at h
  split at h
  · exact ⟨(_, _, _), rfl, by simpa using h⟩
  · cases h
theorem tyD_tuple {d : PyData} (h : ∀ ds, d ≠ .tuple ds) : isaB "tuple" d = false := by
  cases d with
  | tuple ds => exact absurd rfl (h ds)
  | _ => simp [isaB, tyD]
theorem tyD_list {d : PyData} (h : ∀ ds, d ≠ .list ds) : isaB "list" d = false := by
  cases d with
  | list ds => exact absurd rfl (h ds)
  | _ => simp [isaB, tyD]
theorem isaT {ds : List PyData} : isaB "tuple" (.tuple ds) = true := by simp [isaB, tyD]
theorem isaL {ds : List PyData} : isaB "list" (.list ds) = true := by simp [isaB, tyD]
theorem shaped_row {r : Int × Int × Int} : SeqAt.shaped (rowD r) = true := (okS_row (p := r)).shaped
abbrev spStep (K : PySem.W.Frag) : Sp := Fp K (fun _ : PyData × Int × Int × Int => True) (fun x => [dat K x.1, dat K (rowD x.2)]) (fun x => .bool (stepB x.2 x.1))
section
variable {P : Program} {w : World} {K : PySem.W.Frag} {mg : Str → Option Value} {base : Heap} {C : Addr}
theorem ok_step (Z : Zs mg) (D : Dfn K mg "is_step" "is_step" s_is_step ["thing", "street"]) : Ok P w K mg base CX0 1 "is_step" ["thing", "street"] (spStep K) := by
  refine fp_ok D sc_is_step (by decide) (fun _ => rfl) (fun _ => stabC st_dat (stab1 st_dat)) (fun f cdv A outer s H E hr => ⟨_, (pss_cons (ps_if (PW.pt (pw_or (pt_not (pt_val (pe_callB (kcall_isi K) (by rfl) Z.isinstance (by decide +kernel) (pa_cons (pv 0) (pa_cons (pe_bltn (v := .ty "tuple") (by rfl) Z.tuple (by decide +kernel) rfl) pa_nil))))) (pw_or1 (pt_cmpR op_ne (pe_callB (kcall_len_seq K) (by rfl) Z.len PySem.boot_len (pa_cons (pv 0) pa_nil)) pe_int (nomark _))))) (pss_one (ps_ret pe_bl)) pss_nil)
    (pss_cons (ps_if (pt_not (pt_val (pe_callB (kcr_all K rfl) (by rfl) Z.all (by decide +kernel) (pa_cons (pe_lc (own := [("one", 2)]) (tt := tYes) rfl sc_is_step.nd (kpi_tup K (pv 0)) (blkOk_by (by dsimp only [cxOf, Cx.nox, Cx.wish, Cx.blk, compEnvC, envOfC]; (try (rw [relabel_eq]; dsimp only)); decide +kernel)) (fun _ _ _ _ _ => (pg_name (i := 2) sc_is_step.nd rfl (Or.inl rfl))) (fun _ _ _ _ _ => pts_nil) (fun _ _ _ _ _ => (pe_and (pe_callB (kcall_isi K) (by rfl) Z.isinstance (by decide +kernel) (pa_cons (pv 2) (pa_cons (pe_bltn (v := .ty "int") (by rfl) Z.int (by decide +kernel) rfl) pa_nil))) (pe_one (pe_not (pe_callB (kcall_isi K) (by rfl) Z.isinstance (by decide +kernel) (pa_cons (pv 2) (pa_cons (pe_bltn (v := .ty "bool") (by rfl) Z.bool (by decide +kernel) rfl) pa_nil)))))))) pa_nil)))) (pss_one (ps_ret pe_bl)) pss_nil)
    (pss_one (ps_ret (pe_or (pe_cmpR (kop_eqD K (by exact hr.units)) (pv 0) (pv 1) (nomark _)) (pe_one (pe_cmpR (kop_eqD K (by exact hr.units)) (pv 0) (pe_tup (pa_cons (pe_ix (kix_tup K) (pv 1) pe_int (fun _ _ => rfl)) (pa_cons (pe_ix (kix_tup K) (pv 1) pe_int (fun _ _ => rfl)) (pa_cons (pe_ix (kix_tup K) (pv 1) pe_int (fun _ _ => rfl)) pa_nil)))) (nomark _)))))))), ?_⟩)
  rintro ⟨d, s0, s1, s2⟩ - Q q
  dsimp only at q
  walk_at "go"
  by_cases ht : ∃ ds, d = .tuple ds
  · obtain ⟨ds, rfl⟩ := ht
    refine' q_when (c := !decide ((ds.length : Int) = 3)) (et_is (et_or (et_not (et_B (K := K) (Ev.hd (ev_isa (n := "tuple") ?a1 (by decide))))) (c := !decide ((ds.length : Int) = 3)) fun _ => ?a2) ?a3) (fun c1 => ?a4) (fun c1 => ?a5)
    case a1 => exact evh_var rfl rd_sa
    case a2 => exact et_test (K := K) (Ev.hd (ev_neI (Ev.hd (ev_lenT (evh_var rfl rd_sa))) (Ev.hd ev_int)))
    case a3 => rw [isaT]; rfl
    case a4 =>
      have e : stepB (s0, s1, s2) (.tuple ds) = false := by
        have c2 : ¬ (ds.length : Int) = 3 := by simpa using c1
        unfold stepB
        split
        next h => cases h; simp at c2
        · rfl
      rw [e] at q
      exact at_ret ev_bl q
    have hl : ds.length = 3 := by have : (ds.length : Int) = 3 := by simpa using c1
                                  omega
    have e1 : (ds.map fun x => PyData.bool (plainI x)) = (ds.map plainI).map .bool := by rw [List.map_map]; rfl
    refine' q_when (c := !((ds.map plainI).all id)) (et_not (et_B (K := K) (Ev.hd (ev_all (bs := ds.map plainI) (Ev.hd (EvM.nw ?hall)))))) (fun c2 => ?b1) (fun c2 => ?b2)
    case hall =>
      rw [← e1]
      exact evm_lc1 (xs := ds) (e := fun x => x) (q := dat K) (fun x => .bool (plainI x)) (by rw [List.map_id']; exact evj_tupD (ev_var rfl)) (fun F1 x hx => ⟨_, _, bind_name (i := 2) st_dat, by decide, ev_andV (Ev.hd (ev_isa (n := "int") (evh_var (d := x) rfl rd_sa) (by decide))) (fun _ => ev_notV (Ev.hd (ev_isa (n := "bool") (evh_var (d := x) rfl rd_sa) (by decide))))⟩) (by omega)
    case b1 =>
      have e : stepB (s0, s1, s2) (.tuple ds) = false := by
        unfold stepB
        split
        next h => cases h; simp [plainI, isaB, tyD] at c2
        · rfl
      rw [e] at q
      exact at_ret ev_bl q
    have c3 : ∀ x ∈ ds, plainI x = true := by simpa using c2
    obtain ⟨x1, x2, x3, rfl⟩ : ∃ x1 x2 x3, ds = [x1, x2, x3] := by
      match ds, hl with
      | [x1, x2, x3], _ => exact ⟨_, _, _, rfl⟩
    obtain ⟨a, rfl⟩ := plainI_int (c3 x1 (by simp))
    obtain ⟨b, rfl⟩ := plainI_int (c3 x2 (by simp))
    obtain ⟨c, rfl⟩ := plainI_int (c3 x3 (by simp))
    have ee : ∀ r : Int × Int × Int, PyData.eqv (rowD (a, b, c)) (rowD r) = decide ((a, b, c) = r) := fun r => by
      rw [Bool.eq_iff_iff, eqv_row]; simp
    refine at_ret (d := .bool (stepB (s0, s1, s2) (rowD (a, b, c)))) ?_ q
    refine ev_orV (a := decide ((a, b, c) = (s0, s1, s2))) (c := decide ((a, b, c) = (s0, s2, s1))) ?_ (fun _ => ?_)
    · rw [← ee]; exact Ev.hd (ev_eqD (evh_var rfl rd_sa) (evh_var rfl rd_sa) shaped_row shaped_row)
    · rw [← ee]
      refine ev_eqD (evh_var rfl rd_sa) (Ev.hd (ev_tup (ds := [.int s0, .int s2, .int s1]) (eas_cons (EvH.nw (evh_ixT (evh_var rfl rd_sa) (Ev.hd ev_int) rfl) rfl) (eas_cons (EvH.nw (evh_ixT (evh_var rfl rd_sa) (Ev.hd ev_int) rfl) rfl) (eas_cons (EvH.nw (evh_ixT (evh_var rfl rd_sa) (Ev.hd ev_int) rfl) rfl) eas_nil))) (by simp))) shaped_row (shaped_row (r := (s0, s2, s1)))
  · have e : stepB (s0, s1, s2) d = false := by
      unfold stepB
      split
      · exact absurd ⟨_, rfl⟩ ht
      · rfl
    rw [e] at q
    refine' q_when (c := true) (et_is (et_or (c := true) (et_not (et_B (K := K) (Ev.hd (ev_isa (n := "tuple") (d := d) ?a1 (by decide))))) fun z => ?a2) ?a3) (fun _ => ?a4) (fun z => by cases z)
    case a1 => exact evh_var rfl rd_sa
    case a2 => rw [tyD_tuple fun ds z => ht ⟨ds, z⟩] at z; cases z
    case a3 => rw [tyD_tuple fun ds z => ht ⟨ds, z⟩]; rfl
    case a4 => exact at_ret ev_bl q
end
/-! a thing that may be a dict: none is an empty dict -/
def oD (K : PySem.W.Frag) : Option PyData → Pd
  | some d => dat K d
  | none => isDictT K []
theorem st_oD {K : PySem.W.Frag} : ∀ {o : Option PyData}, Stab (oD K o)
  | some _ => st_dat
  | none => st_isDictT
def rowOf : PyData → Int × Int × Int
  | .tuple [.int a, .int b, .int c] => (a, b, c)
  | _ => (0, 0, 0)
def turnR (r : Int × Int × Int) : Int × Int × Int := (r.1, r.2.2, r.2.1)
def goesB (n : Int) (ways : List (Int × Int × Int)) : Bool := decide (((ledF ways 0).length : Int) = n) && decide (((ledF (ways.map turnR) 0).length : Int) = n)
def oneB (st : TSt) : Option PyData → Bool
  | some (.list ds) => decide (ds.length = st.held.length) && ((ds.zip st.held).all fun p => stepB p.2 p.1) && goesB st.many (ds.map rowOf)
  | _ => false
theorem rows_of {h : List (Int × Int × Int)} : ∀ {ds : List PyData}, ds.length = h.length → ((ds.zip h).all fun p => stepB p.2 p.1) = true → ds = (ds.map rowOf).map rowD := by
  induction h with
  | nil => intro ds e _; rw [List.eq_nil_of_length_eq_zero e]; rfl
  | cons s h ih =>
    intro ds e a
    cases ds with
    | nil => cases e
    | cons d ds =>
      rw [List.zip_cons_cons, List.all_cons, Bool.and_eq_true] at a
      obtain ⟨r, rfl, _⟩ := stepB_int a.1
      have := ih (ds := ds) (by simpa using e) a.2
      rw [List.map_cons, List.map_cons, ← this]
      rfl
abbrev spOne (K : PySem.W.Frag) (C : Addr) : Sp := Fp K (fun x : TSt × Option PyData => TOk x.1) (fun x => [isTown K C x.1, oD K x.2]) (fun x => .bool (oneB x.1 x.2))
section
variable {K : PySem.W.Frag} {B F0 : Hp} {ρ : List Sl} {ta : TE} {f : Pd} {C : Addr}
theorem ev_isiX {n : String} {r : Bool} (ha : EvH B F0 ρ ta f) (hk : ∀ H v, f H v → ∃ t, TyX K H v t ∧ PySem.W.kitOne K t (.type n) = some r) : Ev B F0 ρ (tCB (rIsi K) (tCons ta (tCons (tC (.ty n)) tNil))) (nwd K B (.bool r)) := fun F H σ c Q q =>
  ha F H σ c _ fun x F1 H1 g1 p => by
    obtain ⟨t, ty, h⟩ := hk H1 x p
    exact isi_run t ty h (q _ F1 H1 g1 (.bl r))
theorem dict_no_list {kvs : List (Int × PyData)} : ∀ H v, isDictT K kvs H v → ∃ t, TyX K H v t ∧ PySem.W.kitOne K t (.type "list") = some false := fun H v ⟨l, kv, e, h, _⟩ => by
  subst e
  exact ⟨_, .base (.dK h), kb (by decide +kernel)⟩
end
section
variable {P : Program} {w : World} {K : PySem.W.Frag} {mg : Str → Option Value} {base : Heap} {C : Addr}
theorem ok_one (Z : Zs mg) (T : TownTxt K mg C) (G_is_step : Ok P w K mg base CX0 1 "is_step" ["thing", "street"] (spStep K)) (G_led_to : Ok P w K mg base CX0 1 "led_to" ["ways", "place"] (spLedTo K)) (M_places : OkM P w K mg base CX0 1 C "places" ["self"] (spPlaces K C)) (M_streets : OkM P w K mg base CX0 1 C "streets" ["self"] (spStreets K C))
    (D : Dfn K mg "is_one_way" "is_one_way" s_is_one_way ["town", "thing"]) : Ok P w K mg base CX0 2 "is_one_way" ["town", "thing"] (spOne K C) := by
  refine fp_ok D sc_is_one_way (by decide) (fun _ => rfl) (fun _ => stabC st_isTown (stab1 st_oD)) (fun f cdv A outer s H E hr => ⟨_, (pss_cons (ps_set (i := 2) sc_is_one_way.nd rfl (Or.inl rfl) (ok_meth0 M_streets (by exact hr.mono (by decide)) (pv 0)))
    (pss_cons (ps_if (PW.pt (pw_or (pt_not (pt_val (pe_callB (kcall_isi K) (by rfl) Z.isinstance (by decide +kernel) (pa_cons (pv 1) (pa_cons (pe_bltn (v := .ty "list") (by rfl) Z.list (by decide +kernel) rfl) pa_nil))))) (pw_or1 (pt_cmpR op_ne (pe_callB (kcall_len_seq K) (by rfl) Z.len PySem.boot_len (pa_cons (pv 1) pa_nil)) (pe_callB (kcall_len_seq K) (by rfl) Z.len PySem.boot_len (pa_cons (pv 2) pa_nil)) (nomark _))))) (pss_one (ps_ret pe_bl)) pss_nil)
    (pss_cons (ps_if (pt_not (pt_val (pe_callB (kcr_all K rfl) (by rfl) Z.all (by decide +kernel) (pa_cons (pe_lc (own := [("step", 3), ("street", 4)]) (tt := tYes) rfl sc_is_one_way.nd (pi_zip rfl Z.zip (pa_cons (pv 1) (pa_cons (pv 2) pa_nil))) (blkOk_by (by dsimp only [cxOf, Cx.nox, Cx.wish, Cx.blk, compEnvC, envOfC]; (try (rw [relabel_eq]; dsimp only)); decide +kernel)) (fun _ _ _ _ _ => (kpg_tup K 2 rfl (pgs_cons (pg_name (i := 3) sc_is_one_way.nd rfl (Or.inl rfl)) (pgs_cons (pg_name (i := 4) sc_is_one_way.nd rfl (Or.inl rfl)) pgs_nil)))) (fun _ _ _ _ _ => pts_nil) (fun _ _ _ _ _ => (ok_call G_is_step (by exact hr.mono (by decide)) rfl (pa_cons (pv 3) (pa_cons (pv 4) pa_nil))))) pa_nil)))) (pss_one (ps_ret pe_bl)) pss_nil)
    (pss_cons (ps_setLc (i := 5) (own := [("street", 4), ("one", 6), ("other", 7)]) (tt := tYes) rfl sc_is_one_way.nd rfl rfl (sw_true rfl rfl rfl (by decide +kernel)) (kpi_list K (pv 1)) (blkOk_by (by dsimp only [cxOf, Cx.nox, Cx.wish, Cx.blk, compEnvC, envOfC]; (try (rw [relabel_eq]; dsimp only)); decide +kernel)) (fun _ _ _ _ _ => (kpg_tup K 3 rfl (pgs_cons (pg_name (i := 4) sc_is_one_way.nd rfl (Or.inl rfl)) (pgs_cons (pg_name (i := 6) sc_is_one_way.nd rfl (Or.inl rfl)) (pgs_cons (pg_name (i := 7) sc_is_one_way.nd rfl (Or.inl rfl)) pgs_nil))))) (fun _ _ _ _ _ => pts_nil) (fun _ _ _ _ _ => (pe_tup (pa_cons (pv 4) (pa_cons (pv 7) (pa_cons (pv 6) pa_nil))))))
    (pss_one (ps_ret (pe_and (pe_cmpR op_eq (pe_callB call_lenD (by rfl) Z.len PySem.boot_len (pa_cons (ok_call G_led_to (by exact hr.mono (by decide)) rfl (pa_cons (pv 1) (pa_cons pe_int pa_nil))) pa_nil)) (ok_meth0 M_places (by exact hr.mono (by decide)) (pv 0)) (nomark _)) (pe_one (pe_cmpR op_eq (pe_callB call_lenD (by rfl) Z.len PySem.boot_len (pa_cons (ok_call G_led_to (by exact hr.mono (by decide)) rfl (pa_cons (pv 5) (pa_cons pe_int pa_nil))) pa_nil)) (ok_meth0 M_places (by exact hr.mono (by decide)) (pv 0)) (nomark _)))))))))), ?_⟩)
  rintro ⟨st, o⟩ ok Q q
  dsimp only at q ok
  walk_at "go"
  refine' q_set K (d := .list (st.held.map rowD)) (ev_streets ok (evh_town rfl)) ?_
  cases o with
  | none =>
    refine' q_when (c := true) (et_is (et_or (c := true) (et_not (et_B (K := K) (Ev.hd (ev_isiX (n := "list") (r := false) (evh_fz (f := isDictT K []) st_isDictT ?a1) dict_no_list)))) fun z => ?a2) rfl) (fun _ => ?a4) (fun z => by cases z)
    case a1 => rfl
    case a2 => cases z
    case a4 => exact at_ret ev_bl q
  | some d =>
  by_cases ht : ∃ ds, d = .list ds
  · obtain ⟨ds, rfl⟩ := ht
    refine' q_when (c := !decide ((ds.length : Int) = (st.held.length : Int))) (et_is (et_or (et_not (et_B (K := K) (Ev.hd (ev_isa (n := "list") ?a1 (by decide))))) (c := !decide ((ds.length : Int) = (st.held.length : Int))) fun _ => ?a2) ?a3) (fun c1 => ?a4) (fun c1 => ?a5)
    case a1 => exact evh_var (d := .list ds) rfl rd_sa
    case a2 =>
      have h := ev_neI (K := K) (B := H) (F0 := H) (Ev.hd (ev_lenL (evh_var (ρ := (enterR 8 [isTown K C st, oD K (some (.list ds))]).set 2 (sn K H (.list (st.held.map rowD)))) (i := 1) (d := .list ds) rfl rd_sa))) (Ev.hd (ev_lenL (evh_var (i := 2) (d := .list (st.held.map rowD)) rfl rd_sn)))
      rw [List.length_map] at h
      exact et_test (K := K) (Ev.hd h)
    case a3 => rw [isaL]; rfl
    case a4 =>
      have c2 : ds.length ≠ st.held.length := by have : ¬ (ds.length : Int) = (st.held.length : Int) := by simpa using c1
                                                 omega
      have e : oneB st (some (.list ds)) = false := by simp [oneB, c2]
      rw [e] at q
      exact at_ret ev_bl q
    have hl : ds.length = st.held.length := by
      have : (ds.length : Int) = (st.held.length : Int) := by simpa using c1
      omega
    have few := ok.few
    have ez : ((ds.zip st.held).map fun p => PyData.bool (stepB p.2 p.1)) = ((ds.zip st.held).map fun p => stepB p.2 p.1).map .bool := by rw [List.map_map]; rfl
    refine' q_when (c := !(((ds.zip st.held).map fun p => stepB p.2 p.1).all id)) (et_not (et_B (K := K) (Ev.hd (ev_all (bs := (ds.zip st.held).map fun p => stepB p.2 p.1) (Ev.hd (EvM.nw ?hall)))))) (fun c2 => ?b1) (fun c2 => ?b2)
    case hall =>
      rw [← ez]
      refine evm_lc1 (xs := ds.zip st.held) (e := fun p : PyData × Int × Int × Int => .tuple [p.1, rowD p.2]) (q := dat K) _ (evj_zip (e1 := fun p : PyData × Int × Int × Int => p.1) (e2 := fun p => rowD p.2) ?_ ?_) (fun F1 x hx => ?_) (by rw [List.length_zip]; omega)
      · rw [List.map_fst_zip (by omega)]
        exact ev_var rfl
      · have e2 : ((ds.zip st.held).map fun p => rowD p.2) = st.held.map rowD := by
          have := (List.map_map (g := rowD) (f := Prod.snd) (l := ds.zip st.held)).symm
          rw [List.map_snd_zip (by omega)] at this
          exact this
        rw [e2]
        exact Ev.dat (ev_var rfl)
      · refine ⟨_, _, bind_tupD (bindld_cons (bind_name st_dat) (bindld_cons (bind_name st_dat) bindld_nil)) rfl, by decide, ?_⟩
        exact ev_call (α := PyData × Int × Int × Int) (x.1, x.2) trivial (ea_cons st_dat (evh_var rfl rd_sa) (ea_cons st_dat (evh_var rfl rd_sa) ea_nil))
    case b1 =>
      have c3 : ((ds.zip st.held).all fun p => stepB p.2 p.1) = false := by
        rw [List.all_map] at c2
        simpa using c2
      have e : oneB st (some (.list ds)) = false := by
        show (decide (ds.length = st.held.length) && ((ds.zip st.held).all fun p => stepB p.2 p.1) && _) = false
        rw [c3, Bool.and_false, Bool.false_and]
      rw [e] at q
      exact at_ret ev_bl q
    have c3 : ((ds.zip st.held).all fun p => stepB p.2 p.1) = true := by
      rw [List.all_map] at c2
      simpa using c2
    have er := rows_of hl c3
    generalize hw : ds.map rowOf = ways at er
    subst er
    have lw : ways.length = st.held.length := by rw [← hl, List.length_map]
    have e : oneB st (some (.list (ways.map rowD))) = (decide (((ledF ways 0).length : Int) = st.many) && decide (((ledF (ways.map turnR) 0).length : Int) = st.many)) := by
      show (decide ((ways.map rowD).length = st.held.length) && (((ways.map rowD).zip st.held).all fun p => stepB p.2 p.1) && goesB st.many ((ways.map rowD).map rowOf)) = _
      rw [c3, hw, decide_eq_true hl]
      rfl
    rw [e] at q
    refine' q_setM K (ds := (ways.map turnR).map rowD) ?d1 (at_ret (ev_andV (a := decide (((ledF ways 0).length : Int) = st.many)) (c := decide (((ledF (ways.map turnR) 0).length : Int) = st.many)) ?d2 (fun _ => ?d3)) q)
    case d1 =>
      rw [List.map_map]
      refine evm_lc1 (xs := ways) (e := rowD) _ (evj_listF (ev_var rfl) (flatDs_map (fun _ => rfl) _)) (fun F1 x hx => ?_) (by omega)
      refine ⟨_, _, (by walk_at "bd"), by decide, ?_⟩
      obtain ⟨a, b, c⟩ := x
      exact ev_tup (ds := [.int a, .int c, .int b]) (by walk_at "ev") (by simp)
    case d2 => exact Ev.hd (ev_eqI (Ev.hd (ev_lenLed ways 0 (by omega) (ea_cons st_dat (evh_var (d := .list (ways.map rowD)) rfl rd_sa) (ea_cons st_dat (Ev.hd ev_int) ea_nil)))) (Ev.hd (ev_places (evh_town rfl))))
    case d3 => exact ev_eqI (Ev.hd (ev_lenLed (ways.map turnR) 0 (by rw [List.length_map]; omega) (ea_cons st_dat (evh_var rfl rd_ml) (ea_cons st_dat (Ev.hd ev_int) ea_nil)))) (Ev.hd (ev_places (evh_town rfl)))
  · have ht2 : ∀ ds, d ≠ .list ds := fun ds z => ht ⟨ds, z⟩
    have e : oneB st (some d) = false := by
      unfold oneB
      split
      next h => cases h; exact absurd ⟨_, rfl⟩ ht
      · rfl
    rw [e] at q
    refine' q_when (c := true) (et_is (et_or (c := true) (et_not (et_B (K := K) (Ev.hd (ev_isa (n := "list") (d := d) ?a1 (by decide))))) fun z => ?a2) ?a3) (fun _ => ?a4) (fun z => by cases z)
    case a1 => exact evh_var rfl rd_sa
    case a2 => rw [tyD_list ht2] at z; cases z
    case a3 => rw [tyD_list ht2]; rfl
    case a4 => exact at_ret ev_bl q
end

def normR (r : Int × Int × Int) : Int × Int × Int := (r.1, min r.2.1 r.2.2, max r.2.1 r.2.2)
def goodB (n : Int) (rows ways : List (Int × Int × Int)) : Bool := decide (ways.map normR = rows.map normR) && goesB n ways

/-! the ways are good -/
def ledNb (ways : List Row) (h : Int) : List Int := (ways.filter fun r => decide (r.2.1 = h)).map (·.2.2)
theorem led_push (h : Int) : ∀ (l : List Row) (s : List Int × List Int), l.foldl (ledStep h) s = (ledNb l h).foldl pushS s
  | [], _ => rfl
  | r :: l, s => by
    rw [List.foldl_cons, led_push h l]
    unfold ledNb
    rw [List.filter_cons]
    by_cases e : r.2.1 = h
    · rw [if_pos (decide_eq_true e), List.map_cons, List.foldl_cons]
      congr 1
      unfold ledStep pushS
      by_cases m : r.2.2 ∈ s.1
      · rw [if_neg (fun z => z.2 m), if_pos m]
      · rw [if_pos ⟨e, m⟩, if_neg m]
    · rw [if_neg (by rw [decide_eq_false e]; decide)]
      congr 1
      exact if_neg fun z => e z.1
theorem led_search {ways : List Row} : ∀ (m : Nat) (s : List Int × List Int), ledRun ways m s = searchRun (ledNb ways) m s
  | 0, _ => rfl
  | m + 1, s => by
    unfold ledRun searchRun
    cases e : s.2.getLast? with
    | none => rfl
    | some h =>
      dsimp only
      rw [led_push, led_search m]
theorem rch_dc {ways : List Row} {p x : Int} : Rch (ledNb ways) p x ↔ DC ways p x := by
  constructor
  · intro h
    induction h with
    | refl => exact .refl _
    | step _ e ih =>
      obtain ⟨⟨s, a, b⟩, hr, rfl⟩ := List.mem_map.mp e
      have := List.mem_filter.mp hr
      have e2 := of_decide_eq_true this.2
      dsimp only at e2
      subst e2
      exact .step ih this.1
  · intro h
    induction h with
    | refl => exact .refl
    | step _ e ih => exact .step ih (List.mem_map.mpr ⟨_, List.mem_filter.mpr ⟨e, decide_eq_true rfl⟩, rfl⟩)
theorem led_all {n : Int} {ways : List Row} (n1 : 1 ≤ n) (hin : ∀ r ∈ ways, 0 ≤ r.2.2 ∧ r.2.2 < n) (many : n.toNat ≤ ways.length + 1) (dc : ∀ x, 0 ≤ x → x < n → DC ways 0 x) : ((ledF ways 0).length : Int) = n := by
  have hnb : nbIn (ledNb ways) n := fun x _ _ y hy => by
    obtain ⟨r, hr, rfl⟩ := List.mem_map.mp hy
    exact hin r (List.mem_filter.mp hr).1
  have S0 : SrI (ledNb ways) n 0 (ways.length + 1) ([0], [0]) := by
    have S := sri_start (nb := ledNb ways) (n := n) (p := 0) (by omega) (by omega)
    exact ⟨S.st, S.rch, S.rng, S.sub, S.nodup, S.done, by have := S.fuel; simp only [List.length_singleton] at this ⊢; omega⟩
  obtain ⟨k1, k2, k3⟩ := sr_run hnb S0
  unfold ledF
  rw [led_search]
  have l1 := nodup_le k2 (ys := rangeI n) fun x hx => mem_rangeI.mpr (k3 x hx)
  have l2 := nodup_le (rangeI_pw n |>.imp fun h => Int.ne_of_lt h) (ys := searchRun (ledNb ways) (ways.length + 1) ([0], [0])) fun x hx => by
    have := mem_rangeI.mp hx
    exact (k1 x).mpr (rch_dc.mpr (dc x this.1 this.2))
  rw [rangeI_len] at l1 l2
  omega
theorem dc_turn {ways : List Row} {a b : Int} (h : DC ways a b) : DC (ways.map turnR) b a := by
  induction h with
  | refl => exact .refl _
  | @step b c s _ e ih => exact DC.trans (.step (.refl _) (List.mem_map.mpr ⟨_, e, rfl⟩)) ih
theorem ways_good {n : Int} {rows : List Row} (n1 : 1 ≤ n) (hin : rowsIn n rows) (W : WholeI n rows) : goodB n rows (waysF n rows) = true := by
  have rng : ∀ r ∈ waysF n rows, (0 ≤ r.2.1 ∧ r.2.1 < n) ∧ (0 ≤ r.2.2 ∧ r.2.2 < n) := fun q hq => by
    obtain ⟨r, hr, rfl⟩ := List.mem_map.mp hq
    have z := hin r hr
    rcases W.ori r hr with e | e
    · rw [e]; exact z
    · rw [e]; exact ⟨z.2, z.1⟩
  have wl : (waysF n rows).length = rows.length := by unfold waysF; rw [List.length_map]
  have norm : (waysF n rows).map normR = rows.map normR := by
    unfold waysF
    rw [List.map_map]
    refine List.map_congr_left fun r hr => ?_
    show normR (oriF (handlesF n rows).flatten r) = normR r
    rcases W.ori r hr with e | e
    · rw [e]
    · rw [e]
      unfold normR
      dsimp only
      rw [Int.min_comm, Int.max_comm]
  unfold goodB goesB
  rw [decide_eq_true norm, led_all n1 (fun r hr => (rng r hr).2) (by rw [wl]; exact W.many) fun x x0 x1 => (W.dc x x0 x1).1,
    led_all n1 (fun r hr => by
      obtain ⟨q, hq, rfl⟩ := List.mem_map.mp hr
      exact (rng q hq).1) (by rw [List.length_map, wl]; exact W.many) fun x x0 x1 => dc_turn (W.dc x x0 x1).2]
  simp

abbrev s_Parted___init : Stmt := inClass (top 6) 0
theorem sc_Parted___init : FnScope ["self", "between", "apart"] ["self", "between", "apart"] (defScope s_Parted___init) := ⟨rfl, rfl, rfl, by decide +kernel, rfl, by decide +kernel, by decide +kernel⟩
/-- Parted.__init__: two fields -/
def spPInit (K : PySem.W.Frag) (C : Addr) : Sp := fun vs H Q _ => ∃ (a : Addr) (v1 v2 : V), vs = [.ref a, v1, v2] ∧ H a = some (exo a C none) ∧
  ∀ dx H', H dx = none → dx ≠ a → (∀ b o, b ≠ a → H b = some o → H' b = some o) → H' a = some (exo a C (some dx)) → H' dx = some (exd dx [("apart", v2), ("between", v1)]) → Q .non H'
/-- what the text says of the class Parted -/
structure PtTxt (K : PySem.W.Frag) (mg : Str → Option Value) (CP CT : Addr) : Prop where
  o : OexC K CP
  xf : XfC K CP
  n1 : PySem.W.findIn K (.ref CP) "between" = some none
  n2 : PySem.W.findIn K (.ref CP) "apart" = some none
  gT : mg "TownError" = some (.ref CT)
  sg : PySem.W.specialIn K (.ref CT) "__getattribute__" = some (some (.builtin "type.__getattribute__"))
  ty : PySem.W.typeIn K (.ref CT) = some (.type "type")
  rd : PySem.W.readsIn K CT (.type "type") = true
  vb : PySem.W.findCls K (.ref CT) (.type "type") "__init__" = some (.val (.builtin "ValueError.__init__"))
/-- its __init__ -/
structure PtIni (P : Program) (w : World) (K : PySem.W.Frag) (mg : Str → Option Value) (base : Heap) (CP : Addr) : Prop where
  ex : ∃ fI fd, PySem.W.findIn K (.ref CP) "__init__" = some (some (.ref fI)) ∧ PySem.W.typeIn K (.ref fI) = some (.type "function") ∧ FnOk P w K mg base CX0 1 fI fd ["self", "between", "apart"] (spPInit K CP) ∧ Binds K fd ["self", "between", "apart"] []
section
variable {P : Program} {w : World} {K : PySem.W.Frag} {mg : Str → Option Value} {base : Heap} {CP CT : Addr}
theorem ok_pinit (PT : PtTxt K mg CP CT) {fI : Addr} {fd : FuncData} (F : Fun K "__init__" "Parted.__init__" s_Parted___init fI fd) : FnOk P w K mg base CX0 1 fI fd ["self", "between", "apart"] (spPInit K CP) := by
  have gTE := PT.gT
  have SG_TE := PT.sg
  have TY_TE := PT.ty
  have RD_TE := PT.rd
  have VB_TE := PT.vb
  refine F.ok sc_Parted___init (fun vs H Q E h => ?_) (fun cdv A outer s H vs Q E hr h => ?_)
  · obtain ⟨a, v1, v2, rfl, _⟩ := h
    rfl
  · obtain ⟨a, v1, v2, rfl, ha, q⟩ := h
    refine ⟨_, (pss_cons (ps_expr (pe_binit rfl gTE SG_TE TY_TE RD_TE VB_TE (pa_cons (pv 0) (pa_cons pe_str pa_nil))))
    (pss_cons (ps_ost (pv 0) (pv 1) rfl)
    (pss_one (ps_ost (pv 0) (pv 2) rfl)))), ?_⟩
    walk_at "go"
    refine ⟨_, rfl, a, CP, [.str "it can't be made one-way"], rfl, (by show 1 ≤ 1000; decide), PT.o, ha, ?_⟩
    refine ⟨_, rfl, _, rfl, a, CP, rfl, PT.o, PT.n1, .inl ⟨ha, fun dx hdx ne => ?_⟩⟩
    refine ⟨_, rfl, _, rfl, a, CP, rfl, PT.o, PT.n2, .inr ⟨dx, _, upd_same, by rw [upd_ne ne, upd_same], (by show 1 ≤ 900; decide), ?_⟩⟩
    refine q dx _ hdx ne (fun b o hb e => ?_) ?_ upd_same
    · rw [upd_ne (ne_of_none e hdx), upd_ne hb, upd_ne (ne_of_none e hdx)]
      exact e
    · rw [upd_ne ne.symm, upd_same]
end
theorem oexC_mk {K : PySem.W.Frag} {h : Heap} {mg : Str → Option Value} {C N : Addr} {nm q : Str} {bs bm : List Value} {sn : List Str} {sub : List Value} {ab : Bool} {col : Option Bool} {dd : Option Addr} {k0 k1 k2 k3 k5 : Option Value} (X : K.In h) (gP : mg "Parted" = some (.ref C)) (cl : K.lookup C = some (excClassObj nm q C N bs bm true sn sub ab col dd k0 k1 k2 k3 k5 "ValueError.__new__")) (rv : PySem.HandSPX.refsVE bm = true)
    (sa : PySem.W.findIn K (.ref C) "__setattr__" = some (some (.builtin "object.__setattr__"))) (ex : PySem.W.subIn K (.ref C) (.type "BaseException") = some true) (ty : PySem.W.typeIn K (.ref C) = some (.type "type")) (kp : PySem.W.keepIn K (.ref C) = true) : OexC K C := ⟨⟨_, _, _, _, _, _, _, _, _, _, _, _, _, _, _, cl, rv⟩, sa, ex, ty, kp⟩
theorem ptTxt_mk {K : PySem.W.Frag} {h : Heap} {mg : Str → Option Value} {CP CT : Addr} (X : K.In h) (gP : mg "Parted" = some (.ref CP)) (gT : mg "TownError" = some (.ref CT)) (o : OexC K CP) (ga : PySem.W.findIn K (.ref CP) "__getattribute__" = some (some (.builtin "BaseException.__getattribute__"))) (gg : PySem.W.findIn K (.ref CP) "__getattr__" = some none) (ex : PySem.W.subIn K (.ref CP) (.type "BaseException") = some true) (hdC : PySem.W.hasDictIn K CP = true)
    (n1 : PySem.W.findIn K (.ref CP) "between" = some none) (n2 : PySem.W.findIn K (.ref CP) "apart" = some none) (sg : PySem.W.specialIn K (.ref CT) "__getattribute__" = some (some (.builtin "type.__getattribute__"))) (ty : PySem.W.typeIn K (.ref CT) = some (.type "type")) (rd : PySem.W.readsIn K CT (.type "type") = true) (vb : PySem.W.findCls K (.ref CT) (.type "type") "__init__" = some (.val (.builtin "ValueError.__init__"))) : PtTxt K mg CP CT := ⟨o, ⟨ga, gg, ex, hdC⟩, n1, n2, gT, sg, ty, rd, vb⟩
/-- the __init__ that stands at the class -/
structure PFn (K : PySem.W.Frag) (CP : Addr) : Prop where
  ex : ∃ fI fd, PySem.W.findIn K (.ref CP) "__init__" = some (some (.ref fI)) ∧ PySem.W.typeIn K (.ref fI) = some (.type "function") ∧ Fun K "__init__" "Parted.__init__" s_Parted___init fI fd ∧ Binds K fd ["self", "between", "apart"] []
theorem pifn_mk {K : PySem.W.Frag} {h : Heap} {mg : Str → Option Value} {CP fI : Addr} {st : Stmt} {oc kV dc pm cd ct : Value} {od an : Option Addr} {sl : Array (Option Value)} (X : K.In h) (gP : mg "Parted" = some (.ref CP)) (a : PySem.W.findIn K (.ref CP) "__init__" = some (some (.ref fI))) (t : PySem.W.typeIn K (.ref fI) = some (.type "function"))
    (l : K.lookup fI = some ⟨oc, od, .func (PySem.W.fnOf "__init__" "Parted.__init__" (defArgs st) (defBody st) (defScope st) .none kV dc pm an cd ct), sl⟩) (c : PySem.W.codeIn K cd "Parted.__init__" = true) (k : PySem.W.keepIn K (.ref fI) = true)
    (b : ∀ (kV doc pm : Value) (an : Option Addr) (cdv ct : Value) (us : List Value), us.length = (["self", "between", "apart"] : List Str).length → bindArgs (PySem.W.fnOf "__init__" "Parted.__init__" (defArgs st) (defBody st) (defScope st) .none kV doc pm an cdv ct) ⟨us, []⟩ = pure ((["self", "between", "apart"] : List Str).zip us)) (e : st = s_Parted___init := by rfl) : PFn K CP := by
  subst e
  have F := fun_mk (st := s_Parted___init) l c k
  exact ⟨fI, _, a, t, F, F.binds b⟩
theorem pt_ini {P : Program} {w : World} {K : PySem.W.Frag} {mg : Str → Option Value} {base : Heap} {CP CT : Addr} (PT : PtTxt K mg CP CT) (PF : PFn K CP) : PtIni P w K mg base CP := by
  obtain ⟨fI, fd, a, t, F, b⟩ := PF.ex
  exact ⟨fI, fd, a, t, ok_pinit PT F, b⟩
/-- such a thing with its two fields -/
def ptP (K : PySem.W.Frag) (C : Addr) (d1 d2 : PyData) : Pd := fun F v => ∃ a dd v1 v2, v = .ref a ∧ F a = some (exo a C (some dd)) ∧ F dd = some (exd dd [("apart", v2), ("between", v1)]) ∧ Nw K e0 F v1 d1 ∧ Nw K e0 F v2 d2
section
variable {K : PySem.W.Frag} {B F0 : Hp} {ρ ρ1 : List Sl} {te ta tb : TE} {tr : TA} {C : Addr} {d1 d2 : PyData} {ds : List PyData} {D : Ends} {u : TS}
theorem st_ptP : Stab (ptP K C d1 d2) := fun F F' v s ⟨a, dd, v1, v2, h1, h2, h3, h4, h5⟩ => ⟨a, dd, v1, v2, h1, s _ _ h2, s _ _ h3, nw_mono (Same.refl _) s h4, nw_mono (Same.refl _) s h5⟩
theorem ev_parted (h : EvAs K B F0 ρ tr [d1, d2]) : Ev B F0 ρ (tMkV C (spPInit K C) tr) (ptP K C d1 d2) := fun F H σ c Q q =>
  h F H σ c _ fun vs F1 H1 g1 p => by
    cases p with
    | @cons v1 vs _ _ p1 p =>
      cases p with
      | @cons v2 vs _ _ p2 p =>
        cases p
        refine ⟨(by show 2 ≤ 1000; decide), fun a ha => ⟨a, v1, v2, rfl, upd_same, fun dx H' hdx ne keep ea ed => ⟨rfl, ?_⟩⟩⟩
        have hd1 : H1 dx = none := by rw [upd_ne ne] at hdx; exact hdx
        have s1 : Same H1 H' := fun b o e => keep b o (ne_of_none e ha) (by rw [upd_ne (ne_of_none e ha)]; exact e)
        have g0 := gr_call g1.i s1
        obtain ⟨F2, g2, s2, e2⟩ := g0.putT (p := a) (o := exo a C (some dx)) rfl ea
        obtain ⟨F3, g3, s3, e3⟩ := g2.putT (p := dx) (o := exd dx [("apart", v2), ("between", v1)]) rfl ed
        exact q _ F3 H' (g1.trans g3) ⟨a, dx, v1, v2, rfl, s3 _ _ e2, e3, nw_mono (B' := e0) (fun _ _ z => nomatch z) (s2.trans s3) p1, nw_mono (B' := e0) (fun _ _ z => nomatch z) (s2.trans s3) p2⟩
theorem lk_ap {v1 v2 : V} : ([("apart", v2), ("between", v1)] : List (Str × V)).lookup ("apart" : Str) = some v2 := by
  simp only [List.lookup_cons, show (("apart" : Str) == "apart") = true from by decide +kernel]
theorem lk_be {v1 v2 : V} : ([("apart", v2), ("between", v1)] : List (Str × V)).lookup ("between" : Str) = some v1 := by
  simp only [List.lookup_cons, show (("between" : Str) == "apart") = false from by decide +kernel, show (("between" : Str) == "between") = true from by decide +kernel]
theorem ev_between (h : Ev B F0 ρ te (ptP K C d1 d2)) : Ev B F0 ρ (tOxf C "between" te) (dat K d1) := fun F H σ c Q q =>
  h F H σ c _ fun v F' H' g ⟨a, dd, v1, v2, e, h2, h3, h4, _⟩ => ⟨a, dd, _, v1, e, g.i _ _ h2, g.i _ _ h3, lk_be, q _ F' H' g (nw_dp h4)⟩
theorem ev_apart (h : Ev B F0 ρ te (ptP K C d1 d2)) : Ev B F0 ρ (tOxf C "apart" te) (dat K d2) := fun F H σ c Q q =>
  h F H σ c _ fun v F' H' g ⟨a, dd, v1, v2, e, h2, h3, _, h5⟩ => ⟨a, dd, _, v2, e, g.i _ _ h2, g.i _ _ h3, lk_ap, q _ F' H' g (nw_dp h5)⟩
theorem ev_tupD {tr : TA} (h : EvAd K B F0 ρ tr ds) (hl : ds.length ≤ 100000) : Ev B F0 ρ (tTup tr) (dat K (.tuple ds)) := fun F H σ k Q q =>
  h F H σ k _ fun vs F1 H1 g1 p => ⟨sz_of (by rw [dpAll_len p]; exact hl), fun a ha => by
    have g2 : Gr F H F1 (upd H1 a (.tup vs)) := g1.trans (Gr.new g1.i ha)
    obtain ⟨F2, g3, s, e⟩ := g2.putT (p := a) (o := .tup vs) rfl upd_same
    exact q _ F2 _ g3 (.tup (.inl (.inl e)) (dpAll_mono s p))⟩
end

def wholeB (st : TSt) : Bool := decide (partingF st.many st.held = []) && decide ((partsOf st.many (leftE st.held [])).length ≤ 1)
def spOneW (K : PySem.W.Frag) (C CP : Addr) : Sp := fun vs H Q E => ∃ st : TSt, AOk [isTown K C st] H vs ∧ TOk st ∧
  (wholeB st = true → ∀ v H', Same H H' → Nw K H H' v (.list ((waysF st.many st.held).map rowD)) → Q v H') ∧
  (wholeB st = false → ∀ H' d v1 v2, Same H H' → H d = none → H' d = some (.xd [("apart", v2), ("between", v1)]) → Nw K H H' v1 (intsD (partingF st.many st.held)) → Nw K H H' v2 (partsD (partsOf st.many (leftE st.held []))) → E (.ref CP) (some d) H')
section
variable {P : Program} {w : World} {K : PySem.W.Frag} {mg : Str → Option Value} {base : Heap} {C CP CT : Addr}
theorem ok_oneway (Z : Zs mg) (T : TownTxt K mg C) (G_parting : Ok P w K mg base CX0 3 "parting" ["town"] (spParting K C)) (G_parts : Ok P w K mg base CX0 4 "parts" ["town"] (spParts K C)) (G_handles : Ok P w K mg base CX0 5 "handles" ["town"] (spHandles K C))
    (PT : PtTxt K mg CP CT) (gPT : mg "Parted" = some (.ref CP)) (PI : PtIni P w K mg base CP)
    (D : Dfn K mg "one_way" "one_way" s_one_way ["town"]) : Ok P w K mg base (L2.CX P w) 6 "one_way" ["town"] (spOneW K C CP) := by
  obtain ⟨fI, fdI, IC_Parted, TI_Parted, F_Parted, B_Parted⟩ := PI.ex
  have O_Parted := PT.o
  obtain ⟨f, fd, F, hg, hb⟩ := D.ex
  refine ⟨f, fd, F.okX sc_one_way (fun vs H Q E h => ?_) (fun cdv A outer s H vs Q E hr h => ?_), hg, F.kp, hb⟩
  · obtain ⟨st, h, _⟩ := h
    rw [aok_len h]; rfl
  obtain ⟨st, ha, ok, q1, q2⟩ := h
  refine ⟨_, (pss_cons (ps_set (i := 1) sc_one_way.nd rfl (Or.inl rfl) (ok_call G_parting (by exact hr.mono (by decide)) rfl (pa_cons (pv 0) pa_nil)))
    (pss_cons (ps_set (i := 2) sc_one_way.nd rfl (Or.inl rfl) (ok_call G_parts (by exact hr.mono (by decide)) rfl (pa_cons (pv 0) pa_nil)))
    (pss_cons (ps_if (PW.pt (pw_or (pt_cmpR (kop_neD K (by exact hr.units)) (pv 1) (pe_lst pa_nil) (nomark _)) (pw_or1 (pt_cmpR op_gt (pe_callB (kcall_len_seq K) (by rfl) Z.len PySem.boot_len (pa_cons (pv 2) pa_nil)) pe_int (nomark _))))) (pss_one (ps_raise rfl (takes_of rfl rfl rfl rfl) (pmk_oex O_Parted IC_Parted TI_Parted F_Parted (by exact hr.mono (by decide)) B_Parted .nil pass0 rfl gPT (pa_cons (pv 1) (pa_cons (pv 2) pa_nil))))) pss_nil)
    (pss_cons (ps_set (i := 3) sc_one_way.nd rfl (Or.inl rfl) (pe_lst pa_nil))
    (pss_cons (ps_for (passes_of rfl) rfl (kpi_list K (ok_call G_handles (by exact hr.mono (by decide)) rfl (pa_cons (pv 0) pa_nil))) (pg_name (i := 4) sc_one_way.nd rfl (Or.inl rfl))
      (pss_one (ps_expr (pe_bm PySem.F.plainAttrs_list PySem.F.slot_list_extend PySem.F.type_list_extend mt_extend (pv 3) (pa_cons (pv 4) pa_nil)))))
    (pss_one (ps_ret (pe_callB (kcr_sortT K) (by rfl) Z.sorted (by decide +kernel) (pa_cons (pv 3) pa_nil))))))))), ?_⟩
  refine at_enter ha (stab1 st_isTown) (by simp) ?_
  walk_at "go"
  have n1 := ok.lo
  have hin := tok_in ok
  have e0 : ∀ ns : List Int, (ns.map PyData.int).isEmpty = decide (ns = []) := fun ns => by cases ns <;> simp
  refine q_set K (d := intsD (partingF st.many st.held)) (ev_call (α := TSt) st ok (ea_cons st_isTown (evh_fz st_isTown rfl) ea_nil)) (q_set K (d := partsD (partsOf st.many (leftE st.held []))) (ev_call (α := TSt) st ok (ea_cons st_isTown (evh_fz st_isTown rfl) ea_nil)) (q_when (c := !wholeB st) ?a1 (fun hc => ?a2) fun hc => ?a3))
  case a1 =>
    have h2 := ev_lenL (K := K) (B := H) (F0 := H) (ρ := ((enterR 5 [isTown K C st]).set 1 (sn K H (intsD (partingF st.many st.held)))).set 2 (sn K H (partsD (partsOf st.many (leftE st.held []))))) (te := tVar 2) (ds := (partsOf st.many (leftE st.held [])).map intsD) (evh_var rfl rd_sn)
    rw [List.length_map] at h2
    refine et_is (et_or (a := !decide (partingF st.many st.held = [])) (c := decide (1 < (partsOf st.many (leftE st.held [])).length)) ?b1 fun _ => ?b2) ?b3
    case b1 =>
      rw [← e0]
      exact et_test (K := K) (Ev.hd (ev_neNil (evh_var rfl rd_sn) ok60_ints))
    case b2 => exact et_test (K := K) (Ev.hd (ev_is (ev_ib (c := decide ((1 : Int) < ((partsOf st.many (leftE st.held [])).length : Int))) (Ev.hd h2) (Ev.hd ev_int) rfl) (congrArg PyData.bool (decide_eq_decide.mpr (by omega)))))
    case b3 =>
      unfold wholeB
      by_cases h1 : partingF st.many st.held = []
      · by_cases h3 : (partsOf st.many (leftE st.held [])).length ≤ 1
        · rw [decide_eq_true h1, decide_eq_true h3, decide_eq_false (by omega)]; rfl
        · rw [decide_eq_true h1, decide_eq_false h3, decide_eq_true (by omega)]; rfl
      · rw [decide_eq_false h1]; rfl
  case a2 =>
    have hw : wholeB st = false := by simpa using hc
    refine fun F H1 σ c => ?_
    obtain ⟨w, o⟩ := c.own
    obtain ⟨_, v1, e1, m1⟩ := o.sl 1 _ rfl
    obtain ⟨_, v2, e2, m2⟩ := o.sl 2 _ rfl
    refine ⟨v1, e1, v2, e2, (by show 2 ≤ 1000; decide), fun a ha => ⟨a, v1, v2, rfl, upd_same, fun dx H' hdx ne s ea ed => ⟨rfl, dx, _, ea, ed, ?_, ?_⟩⟩⟩
    · rw [upd_ne ne] at hdx; exact hdx
    · have hd1 : H1 dx = none := by rw [upd_ne ne] at hdx; exact hdx
      have sm : Same H1 (upd (del H' a) dx (.xd [("apart", v2), ("between", v1)])) := fun b u e => by
        rw [upd_ne (ne_of_none e hd1), del_ne (ne_of_none e ha)]
        exact s b u (ne_of_none e ha) (by rw [upd_ne (ne_of_none e ha)]; exact e)
      exact q2 hw _ dx v1 v2 (c.gr.h.trans sm) (c.gr.h.free hd1) upd_same (nw_mono (Same.refl _) (c.i.trans sm) m1) (nw_mono (Same.refl _) (c.i.trans sm) m2)
  case a3 =>
    have hw : wholeB st = true := by simpa using hc
    have hw2 := hw
    unfold wholeB at hw2
    rw [Bool.and_eq_true, decide_eq_true_eq, decide_eq_true_eq] at hw2
    have W := whole_i n1 hin ok.keys hw2.1 hw2.2
    have fl := W.flen
    have few := ok.few
    have ll := W.len
    refine q_setM K (ds := []) (evm_lst eas_nil (by simp)) (q_for (xs := handlesF st.many st.held) (e := fun h => .list (h.map rowD)) (q := nwd K H) (EvJ.i (evj_list (ev_call (α := TSt) st ⟨ok, W.run, by omega⟩ (ea_cons st_isTown (evh_fz st_isTown rfl) ea_nil))))
      (fun pre ρ' => ∃ s4, ρ' = [.fz (isTown K C st), sn K H (intsD (partingF st.many st.held)), sn K H (partsD (partsOf st.many (leftE st.held []))), ml K H (pre.flatten.map rowD), s4]) ?b1 ?b2 ?b3)
    case b1 => exact ⟨_, rfl⟩
    case b2 =>
      rintro F1 pre h post ρ' hx ⟨s4, rfl⟩
      have le : pre.flatten.length + h.length ≤ 60 := by
        have := congrArg (fun x => (List.flatten x).length) hx
        simp only [List.flatten_append, List.flatten_cons, List.length_append] at this
        omega
      refine ⟨_, _, bind_name st_nwd, at_drop (evx_extend (i := 3) (es := h.map rowD) rfl (ev_var (i := 4) rfl) (by rw [List.length_map, List.length_map]; omega)) (at_lpD ⟨sn K H (.list (h.map rowD)), ?_⟩)⟩
      rw [List.flatten_append, List.map_append]
      simp
    case b3 =>
      rintro ρ' ⟨s4, rfl⟩
      refine at_ret (K := K) (d := .list ((waysF st.many st.held).map rowD)) (EvM.nw (evm_sortT (evn_ml (i := 3) rfl) (by omega) (fun r hr => ?_) W.nd W.perm ?_)) (q1 hw)
      · have hm := W.perm.mem_iff.mpr hr
        obtain ⟨q, hq, rfl⟩ := List.mem_map.mp hm
        have z := ok.rng q hq
        have hb := ok.b1
        have hi := ok.hi
        unfold smallR
        rcases W.ori q hq with e | e
        · rw [e]; omega
        · rw [e]; dsimp only; omega
      · unfold waysF
        rw [List.pairwise_map]
        refine (ok.keys).imp_of_mem fun {r q} hr hq h => ?_
        have f1 : ∀ r ∈ st.held, (oriF (handlesF st.many st.held).flatten r).1 = r.1 := fun r hr => by
          rcases W.ori r hr with e | e
          · rw [e]
          · rw [e]
        rw [f1 r hr, f1 q hq]
        exact h
end
theorem exm_mk {K : PySem.W.Frag} {hh : Heap} {mg : Str → Option Value} {C : Addr} (X : K.In hh) (gP : mg "Parted" = some (.ref C)) (h : PySem.W.exmOne K (.ref C) (.ref C) = some true) : PySem.W.exmOne K (.ref C) (.ref C) = some true := h

/-! the streets that part, the pieces -/
theorem mem_parting {n : Int} {rows : List Row} (hin : rowsIn n rows) (pw : rows.Pairwise fun p q => p.1 < q.1) {r : Row} (hr : r ∈ rows) : r.1 ∈ partingF n rows ↔ ¬ Conn (leftE rows [r.1]) r.2.1 r.2.2 := by
  have z := hin r hr
  rw [← mem_come hin z.1.1 z.1.2]
  unfold partingF
  rw [List.mem_map]
  constructor
  · rintro ⟨q, hq, e⟩
    have hm := List.mem_filter.mp hq
    have := uniR pw hm.1 hr e
    subst this
    simpa using hm.2
  · intro h
    exact ⟨r, List.mem_filter.mpr ⟨hr, by simpa using h⟩, rfl⟩
theorem parting_row {n : Int} {rows : List Row} {g : Int} (h : g ∈ partingF n rows) : ∃ q ∈ rows, q.1 = g := by
  unfold partingF at h
  obtain ⟨q, hq, e⟩ := List.mem_map.mp h
  exact ⟨q, (List.mem_filter.mp hq).1, e⟩
theorem conn_remove {E E' : List (Int × Int)} {u v x y : Int} (h : ∀ e ∈ E, e ∈ E' ∨ e = (u, v)) (c : Conn E x y) : Conn E' x y ∨ (Conn E' x u ∧ Conn E' v y) ∨ (Conn E' x v ∧ Conn E' u y) :=
  conn_snoc.mp (c.mono fun e he => by
    rcases h e he with k | rfl
    · exact List.mem_append_left _ k
    · exact List.mem_append_right _ (List.mem_singleton.mpr rfl))
theorem leftE_drop {rows : List Row} (pw : rows.Pairwise fun p q => p.1 < q.1) {q : Row} (hq : q ∈ rows) {U V : List Int} (h : ∀ t, t ∈ V → t = q.1 ∨ t ∈ U) : ∀ e ∈ leftE rows U, e ∈ leftE rows V ∨ e = (q.2.1, q.2.2) := fun e he => by
  obtain ⟨a, b⟩ := e
  obtain ⟨t, h1, h2⟩ := mem_leftE.mp he
  by_cases ht : t = q.1
  · have := uniR pw h1 hq ht
    subst this
    exact .inr rfl
  · refine .inl (mem_leftE.mpr ⟨t, h1, fun z => ?_⟩)
    rcases h t z with k | k
    · exact ht k
    · exact h2 k
theorem leftE_mono {rows : List Row} {U V : List Int} (h : ∀ t ∈ V, t ∈ U) : ∀ e ∈ leftE rows U, e ∈ leftE rows V := fun e he => by
  obtain ⟨a, b⟩ := e
  obtain ⟨t, h1, h2⟩ := mem_leftE.mp he
  exact mem_leftE.mpr ⟨t, h1, fun z => h2 (h t z)⟩
/-- a street that parts nothing parts nothing where those that part are gone -/
theorem safe_conn {n : Int} {rows : List Row} (hin : rowsIn n rows) (pw : rows.Pairwise fun p q => p.1 < q.1) {r : Row} (hr : r ∈ rows) (h0 : r.1 ∉ partingF n rows) : ∀ G : List Int, (∀ g ∈ G, g ∈ partingF n rows) → Conn (leftE rows (r.1 :: G)) r.2.1 r.2.2
  | [], _ => Classical.byContradiction fun z => h0 ((mem_parting hin pw hr).mpr z)
  | g :: G, hG => by
    have ih := safe_conn hin pw hr h0 G fun x hx => hG x (List.mem_cons_of_mem _ hx)
    have hg := hG g (List.mem_cons_self ..)
    obtain ⟨q, hq, eg⟩ := parting_row hg
    have nb := (mem_parting hin pw hq).mp (by rw [eg]; exact hg)
    have ne : r.1 ≠ g := fun z => h0 (z ▸ hg)
    have up : ∀ {x y : Int}, Conn (leftE rows (r.1 :: g :: G)) x y → Conn (leftE rows [q.1]) x y := fun c => c.mono (leftE_mono fun t ht => by
      rw [List.mem_singleton.mp ht, eg]; simp)
    have ab : Conn (leftE rows [q.1]) r.2.1 r.2.2 := .one (.inl (mem_leftE.mpr ⟨r.1, hr, by rw [eg]; simpa using ne⟩))
    rcases conn_remove (leftE_drop pw hq (U := r.1 :: G) (V := r.1 :: g :: G) fun t ht => by
      simp only [List.mem_cons] at ht ⊢
      rcases ht with rfl | rfl | ht
      · exact .inr (.inl rfl)
      · exact .inl eg.symm
      · exact .inr (.inr ht)) ih with k | ⟨k1, k2⟩ | ⟨k1, k2⟩
    · exact k
    · exact absurd ((up k1).symm.trans (ab.trans (up k2).symm)) nb
    · exact absurd ((up k2).trans (ab.symm.trans (up k1))) nb
/-- a part of a town -/
structure PieceOk (n : Int) (E : List (Int × Int)) (q : List Int) : Prop where
  lo : 0 ≤ q.getD 0 0
  hi : q.getD 0 0 < n
  mem : ∀ x, x ∈ q ↔ (0 ≤ x ∧ x < n) ∧ Conn E (q.getD 0 0) x
  pw : q.Pairwise (· < ·)
theorem PieceOk.head {n : Int} {E : List (Int × Int)} {q : List Int} (h : PieceOk n E q) : q.getD 0 0 ∈ q := (h.mem _).mpr ⟨⟨h.lo, h.hi⟩, .refl _⟩
theorem PieceOk.nd {n : Int} {E : List (Int × Int)} {q : List Int} (h : PieceOk n E q) : q.Nodup := h.pw.imp fun h => Int.ne_of_lt h
theorem comp_head {n m : Int} {E : List (Int × Int)} (h : edgesIn n E) (m0 : 0 ≤ m) (m1 : m < n) (e : labAt (labelF n E) m = m) : (compF n (labelF n E) m).getD 0 0 = m ∧ PieceOk n E (compF n (labelF n E) m) := by
  have I := lab_of h
  have mm : ∀ x, x ∈ compF n (labelF n E) m ↔ (0 ≤ x ∧ x < n) ∧ labAt (labelF n E) x = m := fun x => by
    unfold compF
    rw [List.mem_filter, mem_rangeI, decide_eq_true_eq]
  have pw : (compF n (labelF n E) m).Pairwise (· < ·) := (rangeI_pw n).filter _
  have hd : (compF n (labelF n E) m).getD 0 0 = m := by
    have hm := (mm m).mpr ⟨⟨m0, m1⟩, e⟩
    have lo : ∀ x ∈ compF n (labelF n E) m, m ≤ x := fun x hx => by
      have := (mm x).mp hx
      have := (I.lo x this.1.1 this.1.2).2
      omega
    cases hc : compF n (labelF n E) m with
    | nil => rw [hc] at hm; cases hm
    | cons y l =>
      rw [hc] at hm pw lo
      show y = m
      have := lo y (List.mem_cons_self ..)
      rcases List.mem_cons.mp hm with rfl | hm
      · rfl
      · have := (List.pairwise_cons.mp pw).1 m hm
        omega
  refine ⟨hd, by rw [hd]; exact m0, by rw [hd]; exact m1, fun x => ?_, pw⟩
  rw [hd, mm]
  constructor
  · rintro ⟨h1, h2⟩
    exact ⟨h1, (I.conn m x m0 m1 h1.1 h1.2).mpr (by rw [e, h2])⟩
  · rintro ⟨h1, h2⟩
    exact ⟨h1, by rw [← (I.conn m x m0 m1 h1.1 h1.2).mp h2, e]⟩
theorem pieces_spec {n : Int} {E : List (Int × Int)} (h : edgesIn n E) : (∀ q ∈ partsOf n E, PieceOk n E q) ∧ (partsOf n E).Pairwise (fun q q' => ¬ Conn E (q.getD 0 0) (q'.getD 0 0)) ∧ ∀ x, 0 ≤ x → x < n → ∃ q ∈ partsOf n E, x ∈ q := by
  have I := lab_of h
  rw [partsOf_eq h]
  have at_ : ∀ m ∈ (rangeI n).filter fun m => decide (labAt (labelF n E) m = m), (0 ≤ m ∧ m < n) ∧ labAt (labelF n E) m = m := fun m hm => by
    rw [List.mem_filter, mem_rangeI, decide_eq_true_eq] at hm
    exact hm
  refine ⟨fun q hq => ?_, ?_, fun x x0 x1 => ?_⟩
  · obtain ⟨m, hm, rfl⟩ := List.mem_map.mp hq
    obtain ⟨⟨m0, m1⟩, e⟩ := at_ m hm
    exact (comp_head h m0 m1 e).2
  · rw [List.pairwise_map]
    refine ((rangeI_pw n).filter _).imp_of_mem fun {m m'} hm hm' hlt c => ?_
    obtain ⟨⟨m0, m1⟩, e⟩ := at_ m hm
    obtain ⟨⟨m0', m1'⟩, e'⟩ := at_ m' hm'
    rw [(comp_head h m0 m1 e).1, (comp_head h m0' m1' e').1] at c
    have := (I.conn m m' m0 m1 m0' m1').mp c
    omega
  · have lx := I.lo x x0 x1
    have ix := I.idem x x0 x1
    refine ⟨_, List.mem_map.mpr ⟨labAt (labelF n E) x, List.mem_filter.mpr ⟨mem_rangeI.mpr ⟨by omega, by omega⟩, decide_eq_true ix⟩, rfl⟩, ?_⟩
    unfold compF
    exact List.mem_filter.mpr ⟨mem_rangeI.mpr ⟨x0, x1⟩, decide_eq_true rfl⟩

/-! trees of pieces: pairs of numbers without rings -/
abbrev Pr := Int × Int
def adjL (L : List Pr) (v : Int) : List Int := L.flatMap fun p => (if p.1 = v then [p.2] else []) ++ (if p.2 = v then [p.1] else [])
def cutL (L : List Pr) (a b : Int) : List Pr := L.filter fun e => !decide (e = (a, b)) && !decide (e = (b, a))
theorem mem_cut {L : List Pr} {a b : Int} {e : Pr} : e ∈ cutL L a b ↔ e ∈ L ∧ e ≠ (a, b) ∧ e ≠ (b, a) := by
  unfold cutL
  rw [List.mem_filter]
  simp
theorem cut_swap {L : List Pr} {a b : Int} : cutL L a b = cutL L b a := by
  unfold cutL
  congr 1
  funext e
  exact Bool.and_comm _ _
theorem mem_adj {L : List Pr} {v x : Int} : x ∈ adjL L v ↔ (v, x) ∈ L ∨ (x, v) ∈ L := by
  unfold adjL
  rw [List.mem_flatMap]
  constructor
  · rintro ⟨⟨a, b⟩, hp, hx⟩
    rw [List.mem_append] at hx
    rcases hx with hx | hx
    · split at hx
      next h => dsimp only at h; subst h; rw [List.mem_singleton.mp hx]; exact .inl hp
      next => cases hx
    · split at hx
      next h => dsimp only at h; subst h; rw [List.mem_singleton.mp hx]; exact .inr hp
      next => cases hx
  · rintro (h | h)
    · exact ⟨_, h, by simp⟩
    · exact ⟨_, h, by simp⟩
theorem adj_app {L M : List Pr} {v : Int} : adjL (L ++ M) v = adjL L v ++ adjL M v := by unfold adjL; rw [List.flatMap_append]
/-- pairs without rings, none twice -/
structure Forest (L : List Pr) : Prop where
  br : ∀ a b, (a, b) ∈ L → ¬ Conn (cutL L a b) a b
  nd : ∀ v, (adjL L v).Nodup
theorem Forest.ne {L : List Pr} (T : Forest L) {a b : Int} (h : (a, b) ∈ L) : a ≠ b := fun z => T.br a b h (by rw [z]; exact .refl _)
theorem Forest.br2 {L : List Pr} (T : Forest L) {a b : Int} (h : (a, b) ∈ L ∨ (b, a) ∈ L) : ¬ Conn (cutL L a b) a b := by
  rcases h with h | h
  · exact T.br a b h
  · intro c
    rw [cut_swap] at c
    exact T.br b a h c.symm
section
variable {L : List Pr} {m : Int}
/-- a place from which one can't come to c's side: what is come to without c -/
theorem off_conn {c g h x : Int} (hc : ¬ Conn (cutL L g c) g c) (k : Conn (cutL L g c) g x) : Conn (cutL L c h) g x := by
  induction k with
  | refl => exact .refl _
  | @step x y k0 ed ih =>
    have nx : x ≠ c := fun z => hc (z ▸ k0)
    have ny : y ≠ c := fun z => by
      have := Conn.step k0 ed
      rw [z] at this
      exact hc this
    refine .step ih ?_
    rcases ed with ed | ed
    · exact .inl (mem_cut.mpr ⟨(mem_cut.mp ed).1, fun z => nx (congrArg Prod.fst z), fun z => ny (congrArg Prod.snd z)⟩)
    · exact .inr (mem_cut.mpr ⟨(mem_cut.mp ed).1, fun z => ny (congrArg Prod.fst z), fun z => nx (congrArg Prod.snd z)⟩)
theorem adj_edge {c g h : Int} (hg : g ∈ adjL L c) (ne : g ≠ h) (nc : g ≠ c) : Conn (cutL L c h) c g := by
  refine .one ?_
  rcases mem_adj.mp hg with k | k
  · exact .inl (mem_cut.mpr ⟨k, fun z => ne (congrArg Prod.snd z), fun z => nc (congrArg Prod.snd z)⟩)
  · exact .inr (mem_cut.mpr ⟨k, fun z => nc (congrArg Prod.fst z), fun z => ne (congrArg Prod.fst z)⟩)
/-- what is come to from c but not by h: c, and what its other neighbours come to but by c -/
theorem side_iff (T : Forest L) {c h x : Int} : Conn (cutL L c h) c x ↔ x = c ∨ ∃ g ∈ adjL L c, g ≠ h ∧ Conn (cutL L g c) g x := by
  constructor
  · intro k
    induction k with
    | refl => exact .inl rfl
    | @step x y k0 ed ih =>
      by_cases hy : y = c
      · exact .inl hy
      right
      rcases ih with rfl | ⟨g, hg, ne, k1⟩
      · have : (x, y) ∈ L ∨ (y, x) ∈ L := ed.imp (fun e => (mem_cut.mp e).1) fun e => (mem_cut.mp e).1
        refine ⟨y, mem_adj.mpr this, fun z => ?_, .refl _⟩
        rcases ed with ed | ed
        · exact (mem_cut.mp ed).2.1 (by rw [z])
        · exact (mem_cut.mp ed).2.2 (by rw [z])
      · have nx : x ≠ c := fun z => T.br2 ((mem_adj.mp hg).symm) (z ▸ k1)
        refine ⟨g, hg, ne, .step k1 ?_⟩
        rcases ed with ed | ed
        · exact .inl (mem_cut.mpr ⟨(mem_cut.mp ed).1, fun z => hy (congrArg Prod.snd z), fun z => nx (congrArg Prod.fst z)⟩)
        · exact .inr (mem_cut.mpr ⟨(mem_cut.mp ed).1, fun z => nx (congrArg Prod.snd z), fun z => hy (congrArg Prod.fst z)⟩)
  · rintro (rfl | ⟨g, hg, ne, k⟩)
    · exact .refl _
    · have br := T.br2 ((mem_adj.mp hg).symm)
      have nc : g ≠ c := fun z => br (by rw [z]; exact .refl _)
      exact (adj_edge hg ne nc).trans (off_conn br k)
theorem side_disj (T : Forest L) {c g g' x : Int} (hg : g ∈ adjL L c) (hg' : g' ∈ adjL L c) (ne : g ≠ g') (k : Conn (cutL L g c) g x) (k' : Conn (cutL L g' c) g' x) : False := by
  have br := T.br2 ((mem_adj.mp hg).symm)
  have br' := T.br2 ((mem_adj.mp hg').symm)
  have nc' : g' ≠ c := fun z => br' (by rw [z]; exact .refl _)
  have k2 := off_conn (h := g) br' k'
  have e := adj_edge (h := g) hg' ne.symm nc'
  rw [cut_swap] at k2 e
  exact br (k.trans (k2.symm.trans e.symm))
/-- the places that are come to from c but not by h -/
noncomputable def sideN (L : List Pr) (m c h : Int) : List Int := (rangeI m).filter fun x => @decide (Conn (cutL L c h) c x) (Classical.propDecidable _)
theorem mem_side {c h x : Int} : x ∈ sideN L m c h ↔ (0 ≤ x ∧ x < m) ∧ Conn (cutL L c h) c x := by
  unfold sideN
  rw [List.mem_filter, mem_rangeI]
  exact and_congr Iff.rfl (@decide_eq_true_iff _ (Classical.propDecidable _))
theorem conn_in {E : List Pr} (hin : edgesIn m E) {c x : Int} (hc : 0 ≤ c ∧ c < m) (k : Conn E c x) : 0 ≤ x ∧ x < m := by
  induction k with
  | refl => exact hc
  | step _ ed _ =>
    rcases ed with ed | ed
    · exact (hin _ ed).2
    · exact (hin _ ed).1
theorem cut_in (hin : edgesIn m L) {a b : Int} : edgesIn m (cutL L a b) := fun e he => hin e (mem_cut.mp he).1
theorem side_nd {c h : Int} : (sideN L m c h).Nodup := (rangeI_pw m |>.filter _).imp fun h => Int.ne_of_lt h
theorem side_lt (T : Forest L) (hin : edgesIn m L) {c h g : Int} (hc : 0 ≤ c ∧ c < m) (hg : g ∈ adjL L c) (ne : g ≠ h) : (sideN L m g c).length < (sideN L m c h).length := by
  have br := T.br2 ((mem_adj.mp hg).symm)
  have : (c :: sideN L m g c).length ≤ (sideN L m c h).length := by
    refine nodup_le (List.nodup_cons.mpr ⟨fun z => br (mem_side.mp z).2, side_nd⟩) fun x hx => ?_
    rcases List.mem_cons.mp hx with rfl | hx
    · exact mem_side.mpr ⟨hc, .refl _⟩
    · have := mem_side.mp hx
      exact mem_side.mpr ⟨this.1, (side_iff T).mpr (.inr ⟨g, hg, ne, this.2⟩)⟩
  rw [List.length_cons] at this
  omega
theorem side_pos {c h : Int} (hc : 0 ≤ c ∧ c < m) : 0 < (sideN L m c h).length := List.length_pos_of_mem (mem_side.mpr ⟨hc, .refl _⟩)
theorem side_le {c h : Int} : (sideN L m c h).length ≤ m.toNat := by
  unfold sideN
  exact Nat.le_trans (List.length_filter_le _ _) (by rw [rangeI_len]; exact Nat.le_refl _)
/-- a walk through the tree: the neighbours are gone to from the last one on -/
def visitF (L : List Pr) : Nat → Int → Int → List Int
  | 0, _, _ => []
  | k + 1, c, h => c :: (((adjL L c).filter fun g => decide (g ≠ h)).reverse.flatMap fun g => visitF L k g c)
theorem adj_in (hin : edgesIn m L) {c g : Int} (hg : g ∈ adjL L c) : 0 ≤ g ∧ g < m := by
  rcases mem_adj.mp hg with k | k
  · exact (hin _ k).2
  · exact (hin _ k).1
theorem mem_kids {c h g : Int} : g ∈ ((adjL L c).filter fun g => decide (g ≠ h)).reverse ↔ g ∈ adjL L c ∧ g ≠ h := by
  rw [List.mem_reverse, List.mem_filter, decide_eq_true_eq]
theorem visit_ok (T : Forest L) (hin : edgesIn m L) : ∀ (k : Nat) (c h : Int), 0 ≤ c ∧ c < m → (sideN L m c h).length ≤ k → (∀ x, x ∈ visitF L k c h ↔ Conn (cutL L c h) c x) ∧ (visitF L k c h).Nodup
  | 0, c, h, hc, hk => by
    have := side_pos (L := L) (h := h) hc
    omega
  | k + 1, c, h, hc, hk => by
    have ih : ∀ g, g ∈ adjL L c → g ≠ h → (∀ x, x ∈ visitF L k g c ↔ Conn (cutL L g c) g x) ∧ (visitF L k g c).Nodup := fun g hg ne =>
      visit_ok T hin k g c (adj_in hin hg) (by have := side_lt T hin hc hg ne; omega)
    refine ⟨fun x => ?_, ?_⟩
    · rw [side_iff T]
      unfold visitF
      rw [List.mem_cons, List.mem_flatMap]
      refine or_congr Iff.rfl ⟨?_, ?_⟩
      · rintro ⟨g, hg, hx⟩
        obtain ⟨h1, h2⟩ := mem_kids.mp hg
        exact ⟨g, h1, h2, ((ih g h1 h2).1 x).mp hx⟩
      · rintro ⟨g, h1, h2, hx⟩
        exact ⟨g, mem_kids.mpr ⟨h1, h2⟩, ((ih g h1 h2).1 x).mpr hx⟩
    · unfold visitF
      refine List.nodup_cons.mpr ⟨fun z => ?_, ?_⟩
      · obtain ⟨g, hg, hx⟩ := List.mem_flatMap.mp z
        obtain ⟨h1, h2⟩ := mem_kids.mp hg
        exact T.br2 ((mem_adj.mp h1).symm) (((ih g h1 h2).1 c).mp hx)
      · have nd : ((adjL L c).filter fun g => decide (g ≠ h)).reverse.Nodup := (List.reverse_perm _).nodup_iff.mpr ((T.nd c).filter _)
        have key : ∀ l : List Int, l.Nodup → (∀ g ∈ l, g ∈ adjL L c ∧ g ≠ h) → (l.flatMap fun g => visitF L k g c).Nodup := by
          intro l
          induction l with
          | nil => intro _ _; simp
          | cons g l ihl =>
            intro nd hl
            obtain ⟨n1, n2⟩ := List.nodup_cons.mp nd
            have hg := hl g (List.mem_cons_self ..)
            rw [List.flatMap_cons, List.nodup_append]
            refine ⟨(ih g hg.1 hg.2).2, ihl n2 fun x hx => hl x (List.mem_cons_of_mem _ hx), fun x hx y hy e => ?_⟩
            subst e
            obtain ⟨g', hg', hx'⟩ := List.mem_flatMap.mp hy
            have hg2 := hl g' (List.mem_cons_of_mem _ hg')
            exact side_disj T hg.1 hg2.1 (fun z => n1 (z ▸ hg')) (((ih g hg.1 hg.2).1 x).mp hx) (((ih g' hg2.1 hg2.2).1 x).mp hx')
        exact key _ nd fun g hg => mem_kids.mp hg
/-- on each side of a pair there is a leaf -/
theorem leaf_at (T : Forest L) (hin : edgesIn m L) : ∀ (k : Nat) (c h : Int), 0 ≤ c ∧ c < m → (sideN L m c h).length ≤ k → h ∈ adjL L c → ∃ x, Conn (cutL L c h) c x ∧ (adjL L x).length = 1
  | 0, c, h, hc, hk, _ => by
    have := side_pos (L := L) (h := h) hc
    omega
  | k + 1, c, h, hc, hk, hh => by
    by_cases hg : ∃ g ∈ adjL L c, g ≠ h
    · obtain ⟨g, hg, ne⟩ := hg
      obtain ⟨x, k1, k2⟩ := leaf_at T hin k g c (adj_in hin hg) (by have := side_lt T hin hc hg ne; omega) (mem_adj.mpr (mem_adj.mp hg).symm)
      exact ⟨x, (side_iff T).mpr (.inr ⟨g, hg, ne, k1⟩), k2⟩
    · refine ⟨c, .refl _, ?_⟩
      have all : ∀ g ∈ adjL L c, g = h := fun g h1 => Classical.byContradiction fun z => hg ⟨g, h1, z⟩
      have nd := T.nd c
      match e : adjL L c with
      | [] => rw [e] at hh; cases hh
      | [_] => rfl
      | x :: y :: l =>
        rw [e] at all nd
        have := all x (by simp)
        have := all y (by simp)
        simp_all
/-- each pair's one side stands in a row in the walk -/
theorem visit_row (T : Forest L) (hin : edgesIn m L) : ∀ (k : Nat) (c h : Int), 0 ≤ c ∧ c < m → (sideN L m c h).length ≤ k → ∀ x ∈ visitF L k c h, ∀ y ∈ adjL L x, ¬ (x = c ∧ y = h) →
    ∃ A W B, visitF L k c h = A ++ W ++ B ∧ ((∀ z, z ∈ W ↔ Conn (cutL L y x) y z) ∨ (∀ z, z ∈ W ↔ Conn (cutL L x y) x z))
  | 0, c, h, hc, hk, _, _, _, _, _ => by
    have := side_pos (L := L) (h := h) hc
    omega
  | k + 1, c, h, hc, hk, x, hx, y, hy, hne => by
    have blk : ∀ g, g ∈ adjL L c → g ≠ h → ∃ A B, visitF L (k + 1) c h = A ++ visitF L k g c ++ B := fun g hg ne => by
      obtain ⟨l1, l2, e⟩ := List.append_of_mem (mem_kids.mpr ⟨hg, ne⟩)
      refine ⟨c :: l1.flatMap (fun g => visitF L k g c), l2.flatMap (fun g => visitF L k g c), ?_⟩
      show c :: _ = _
      rw [e, List.flatMap_append, List.flatMap_cons]
      simp
    have ok : ∀ g, g ∈ adjL L c → g ≠ h → (sideN L m g c).length ≤ k := fun g hg ne => by have := side_lt T hin hc hg ne; omega
    unfold visitF at hx
    rcases List.mem_cons.mp hx with rfl | hx
    · have ne : y ≠ h := fun z => hne ⟨rfl, z⟩
      obtain ⟨A, B, e⟩ := blk y hy ne
      exact ⟨A, _, B, e, .inl (visit_ok T hin k y x (adj_in hin hy) (ok y hy ne)).1⟩
    · obtain ⟨g, hg, hx⟩ := List.mem_flatMap.mp hx
      obtain ⟨h1, h2⟩ := mem_kids.mp hg
      obtain ⟨A, B, e⟩ := blk g h1 h2
      by_cases hxy : x = g ∧ y = c
      · obtain ⟨rfl, rfl⟩ := hxy
        exact ⟨A, _, B, e, .inr (visit_ok T hin k x y (adj_in hin h1) (ok x h1 h2)).1⟩
      · obtain ⟨A', W, B', e', hW⟩ := visit_row T hin k g c (adj_in hin h1) (ok g h1 h2) x hx y hy hxy
        exact ⟨A ++ A', W, B' ++ B, by rw [e, e']; simp, hW⟩
end
/-- a stretch of a row and what is not in it: some pair at half the row's length has one of each -/
theorem half_cross {α : Type} {A W B : List α} (hW : W ≠ []) (hAB : A ++ B ≠ []) : ∃ k, k < (A ++ W ++ B).length - (A ++ W ++ B).length / 2 ∧ k + (A ++ W ++ B).length / 2 < (A ++ W ++ B).length ∧
    ((A.length ≤ k ∧ k < A.length + W.length ∧ ¬ (A.length ≤ k + (A ++ W ++ B).length / 2 ∧ k + (A ++ W ++ B).length / 2 < A.length + W.length)) ∨
     (¬ (A.length ≤ k ∧ k < A.length + W.length) ∧ A.length ≤ k + (A ++ W ++ B).length / 2 ∧ k + (A ++ W ++ B).length / 2 < A.length + W.length)) := by
  have w : 0 < W.length := List.length_pos_iff.mpr hW
  have ab : 0 < A.length + B.length := by
    have := List.length_pos_iff.mpr hAB
    rwa [List.length_append] at this
  have e : (A ++ W ++ B).length = A.length + W.length + B.length := by rw [List.length_append, List.length_append]
  rw [e]
  generalize A.length = a at ab
  generalize W.length = v at w
  generalize B.length = b at ab
  apply Classical.byContradiction
  intro no
  have all : ∀ k, k < a + v + b - (a + v + b) / 2 → ((a ≤ k ∧ k < a + v) ↔ (a ≤ k + (a + v + b) / 2 ∧ k + (a + v + b) / 2 < a + v)) := fun k hk => by
    by_cases h1 : a ≤ k ∧ k < a + v
    · by_cases h2 : a ≤ k + (a + v + b) / 2 ∧ k + (a + v + b) / 2 < a + v
      · exact ⟨fun _ => h2, fun _ => h1⟩
      · exact absurd ⟨k, hk, by omega, .inl ⟨h1.1, h1.2, h2⟩⟩ no
    · by_cases h2 : a ≤ k + (a + v + b) / 2 ∧ k + (a + v + b) / 2 < a + v
      · exact absurd ⟨k, hk, by omega, .inr ⟨h1, h2⟩⟩ no
      · exact ⟨fun z => absurd z h1, fun z => absurd z h2⟩
  generalize hH : (a + v + b) / 2 = H at all
  -- some place of the stretch is in a pair: both are, and so is all between
  have h0 : 0 < a + v + b - H := by omega
  have hmid : a ≤ H ∧ H < a + v := by
    by_cases ha : a < a + v + b - H
    · have := (all a ha).mp ⟨Nat.le_refl _, by omega⟩
      omega
    · have hk : a - H < a + v + b - H := by omega
      have e1 : a - H + H = a := by omega
      have := (all (a - H) hk).mpr (by rw [e1]; omega)
      omega
  have z0 := (all 0 h0).mpr (by rw [Nat.zero_add]; exact hmid)
  have h1 : a + v + b - 1 - H < a + v + b - H := by omega
  have e2 : a + v + b - 1 - H + H = a + v + b - 1 := by omega
  by_cases hp : a + v + b - 1 - H = H ∨ a + v + b - 1 - H = H - 1
  · have z1 : a ≤ a + v + b - 1 - H ∧ a + v + b - 1 - H < a + v := by
      rcases hp with hp | hp
      · rw [hp]; exact hmid
      · rw [hp]; omega
    have := (all _ h1).mp z1
    rw [e2] at this
    omega
  · omega

/-! the fewest streets: the plain law -/
def pieceOfF (Q : List (List Int)) (x : Int) : Nat := (Q.findIdx? fun q => decide (x ∈ q)).getD 0
/-- pieces of a town: each place is in just one -/
structure PcsI (n : Int) (E0 : List Pr) (Q : List (List Int)) : Prop where
  pc : ∀ q ∈ Q, PieceOk n E0 q
  dj : Q.Pairwise fun q q' => ¬ Conn E0 (q.getD 0 0) (q'.getD 0 0)
  all : ∀ x, 0 ≤ x → x < n → ∃ q ∈ Q, x ∈ q
section
variable {n : Int} {E0 : List Pr} {Q : List (List Int)}
theorem pcs_same (I : PcsI n E0 Q) {i j : Nat} {q q' : List Int} (hi : Q[i]? = some q) (hj : Q[j]? = some q') {x y : Int} (hx : x ∈ q) (hy : y ∈ q') (c : Conn E0 x y) : i = j := by
  have c1 := ((I.pc q (List.mem_of_getElem? hi)).mem x).mp hx
  have c2 := ((I.pc q' (List.mem_of_getElem? hj)).mem y).mp hy
  have cc := c1.2.trans (c.trans c2.2.symm)
  obtain ⟨li, ei⟩ := List.getElem?_eq_some_iff.mp hi
  obtain ⟨lj, ej⟩ := List.getElem?_eq_some_iff.mp hj
  have pw := List.pairwise_iff_getElem.mp I.dj
  rcases Nat.lt_trichotomy i j with h | h | h
  · have := pw i j li lj h
    rw [ei, ej] at this
    exact absurd cc this
  · exact h
  · have := pw j i lj li h
    rw [ei, ej] at this
    exact absurd cc.symm this
theorem po_spec (I : PcsI n E0 Q) {x : Int} (x0 : 0 ≤ x) (x1 : x < n) : ∃ q, Q[pieceOfF Q x]? = some q ∧ x ∈ q := by
  obtain ⟨q, hq, hx⟩ := I.all x x0 x1
  unfold pieceOfF
  cases e : Q.findIdx? fun q => decide (x ∈ q) with
  | none =>
    have := List.findIdx?_eq_none_iff.mp e q hq
    simp at this
    exact absurd hx this
  | some i =>
    obtain ⟨h1, h2, _⟩ := List.findIdx?_eq_some_iff_getElem.mp e
    exact ⟨Q[i], List.getElem?_eq_getElem h1, by simpa using h2⟩
theorem po_lt (I : PcsI n E0 Q) {x : Int} (x0 : 0 ≤ x) (x1 : x < n) : pieceOfF Q x < Q.length := by
  obtain ⟨q, h, _⟩ := po_spec I x0 x1
  exact (List.getElem?_eq_some_iff.mp h).1
theorem po_iff (I : PcsI n E0 Q) {x y : Int} (x0 : 0 ≤ x ∧ x < n) (y0 : 0 ≤ y ∧ y < n) : pieceOfF Q x = pieceOfF Q y ↔ Conn E0 x y := by
  obtain ⟨q, h1, h2⟩ := po_spec I x0.1 x0.2
  obtain ⟨q', h1', h2'⟩ := po_spec I y0.1 y0.2
  constructor
  · intro e
    rw [e, h1'] at h1
    cases h1
    have c1 := ((I.pc _ (List.mem_of_getElem? h1')).mem x).mp h2
    have c2 := ((I.pc _ (List.mem_of_getElem? h1')).mem y).mp h2'
    exact c1.2.symm.trans c2.2
  · exact fun c => pcs_same I h1 h1' h2 h2' c
theorem po_at (I : PcsI n E0 Q) {i : Nat} {q : List Int} (hi : Q[i]? = some q) {x : Int} (hx : x ∈ q) : pieceOfF Q x = i := by
  have c1 := ((I.pc q (List.mem_of_getElem? hi)).mem x).mp hx
  obtain ⟨q', h1, h2⟩ := po_spec I c1.1.1 c1.1.2
  exact pcs_same I h1 hi h2 hx (.refl _)
abbrev poI (Q : List (List Int)) (x : Int) : Int := (pieceOfF Q x : Int)
abbrev hdI (Q : List (List Int)) (v : Int) : Int := (Q.getD v.toNat []).getD 0 0
theorem hd_spec (I : PcsI n E0 Q) {v : Int} (v0 : 0 ≤ v) (v1 : v < Q.length) : (0 ≤ hdI Q v ∧ hdI Q v < n) ∧ poI Q (hdI Q v) = v := by
  have hl : v.toNat < Q.length := by omega
  have e := List.getElem?_eq_getElem hl
  have pc := I.pc _ (List.getElem_mem hl)
  have eh : hdI Q v = Q[v.toNat].getD 0 0 := by unfold hdI; rw [getD_some e]
  rw [eh]
  refine ⟨⟨pc.lo, pc.hi⟩, ?_⟩
  have := po_at I e pc.head
  unfold poI
  omega
/-- what holds among pieces holds among places -/
theorem lift_conn (I : PcsI n E0 Q) {M G : List Pr} (h1 : ∀ x y, Conn E0 x y → Conn G x y) (h2 : ∀ u v, (u, v) ∈ M → ∃ x y, (0 ≤ x ∧ x < n) ∧ (0 ≤ y ∧ y < n) ∧ poI Q x = u ∧ poI Q y = v ∧ Conn G x y) {u v : Int} (c : Conn M u v) : ∀ x y, (0 ≤ x ∧ x < n) → (0 ≤ y ∧ y < n) → poI Q x = u → poI Q y = v → Conn G x y := by
  induction c with
  | refl =>
    intro x y hx hy e1 e2
    exact h1 _ _ ((po_iff I hx hy).mp (by unfold poI at e1 e2; omega))
  | @step v w _ ed ih =>
    intro x y hx hy e1 e2
    have same : ∀ {a b : Int}, (0 ≤ a ∧ a < n) → (0 ≤ b ∧ b < n) → poI Q a = poI Q b → Conn G a b := fun ha hb e => h1 _ _ ((po_iff I ha hb).mp (by unfold poI at e; omega))
    rcases ed with ed | ed
    · obtain ⟨a, b, ha, hb, ea, eb, c⟩ := h2 _ _ ed
      exact (ih x a hx ha e1 ea).trans (c.trans (same hb hy (by rw [eb, e2])))
    · obtain ⟨a, b, ha, hb, ea, eb, c⟩ := h2 _ _ ed
      exact (ih x b hx hb e1 eb).trans (c.symm.trans (same ha hy (by rw [ea, e2])))
end
/-! the pairs of pieces that streets that part tie -/
def tiePairs (Q : List (List Int)) (par : List Int) (rows : List Row) : List Pr := (rows.filter fun r => decide (r.1 ∈ par)).map fun r => (poI Q r.2.1, poI Q r.2.2)
theorem adj_nd {L : List Pr} (pw : L.Pairwise fun p q => p ≠ q ∧ p ≠ (q.2, q.1)) (ne : ∀ p ∈ L, p.1 ≠ p.2) (v : Int) : (adjL L v).Nodup := by
  induction L with
  | nil => simp [adjL]
  | cons p L ih =>
    obtain ⟨p1, p2⟩ := List.pairwise_cons.mp pw
    have ihL := ih p2 fun q hq => ne q (List.mem_cons_of_mem _ hq)
    have np := ne p (List.mem_cons_self ..)
    show ((if p.1 = v then [p.2] else []) ++ (if p.2 = v then [p.1] else []) ++ adjL L v).Nodup
    have off : ∀ x, ((p.1 = v ∧ x = p.2) ∨ (p.2 = v ∧ x = p.1)) → x ∉ adjL L v := fun x hx z => by
      rcases mem_adj.mp z with k | k
      · have := p1 _ k
        rcases hx with ⟨rfl, rfl⟩ | ⟨rfl, rfl⟩
        · exact this.1 rfl
        · exact this.2 rfl
      · have := p1 _ k
        rcases hx with ⟨rfl, rfl⟩ | ⟨rfl, rfl⟩
        · exact this.2 rfl
        · exact this.1 rfl
    by_cases h1 : p.1 = v
    · by_cases h2 : p.2 = v
      · exact absurd (h1.trans h2.symm) np
      · rw [if_pos h1, if_neg h2]
        simp only [List.append_nil, List.singleton_append]
        exact List.nodup_cons.mpr ⟨off _ (.inl ⟨h1, rfl⟩), ihL⟩
    · rw [if_neg h1]
      by_cases h2 : p.2 = v
      · rw [if_pos h2]
        simp only [List.nil_append, List.singleton_append]
        exact List.nodup_cons.mpr ⟨off _ (.inr ⟨h2, rfl⟩), ihL⟩
      · rw [if_neg h2]
        simpa using ihL
section
variable {n : Int} {rows : List Row} {Q : List (List Int)} {par : List Int}
theorem mem_ties {u v : Int} : (u, v) ∈ tiePairs Q par rows ↔ ∃ r ∈ rows, r.1 ∈ par ∧ poI Q r.2.1 = u ∧ poI Q r.2.2 = v := by
  unfold tiePairs
  rw [List.mem_map]
  constructor
  · rintro ⟨r, hr, e⟩
    obtain ⟨h1, h2⟩ := List.mem_filter.mp hr
    cases e
    exact ⟨r, h1, of_decide_eq_true h2, rfl, rfl⟩
  · rintro ⟨r, h1, h2, rfl, rfl⟩
    exact ⟨r, List.mem_filter.mpr ⟨h1, decide_eq_true h2⟩, rfl⟩
theorem ties_in (hin : rowsIn n rows) (I : PcsI n (leftE rows par) Q) : edgesIn (Q.length : Int) (tiePairs Q par rows) := fun e he => by
  obtain ⟨u, v⟩ := e
  obtain ⟨r, hr, _, rfl, rfl⟩ := mem_ties.mp he
  have z := hin r hr
  have l1 := po_lt I z.1.1 z.1.2
  have l2 := po_lt I z.2.1 z.2.2
  dsimp only [poI]
  omega
theorem forest0 (hin : rowsIn n rows) (pw : rows.Pairwise fun p q => p.1 < q.1) (I : PcsI n (leftE rows (partingF n rows)) Q) : Forest (tiePairs Q (partingF n rows) rows) := by
  have key : ∀ r ∈ rows, r.1 ∈ partingF n rows → ∀ {M : List Pr}, (∀ u v, (u, v) ∈ M → ∃ r' ∈ rows, r'.1 ≠ r.1 ∧ poI Q r'.2.1 = u ∧ poI Q r'.2.2 = v) → ¬ Conn M (poI Q r.2.1) (poI Q r.2.2) := fun r hr hp M hM c => by
    have nb := (mem_parting hin pw hr).mp hp
    have z := hin r hr
    refine nb (lift_conn I (G := leftE rows [r.1]) (fun x y k => k.mono (leftE_mono fun t ht => by rw [List.mem_singleton.mp ht]; exact hp)) (fun u v huv => ?_) c r.2.1 r.2.2 z.1 z.2 rfl rfl)
    obtain ⟨r', hr', ne, e1, e2⟩ := hM u v huv
    have z' := hin r' hr'
    exact ⟨r'.2.1, r'.2.2, z'.1, z'.2, e1, e2, .one (.inl (mem_leftE.mpr ⟨r'.1, hr', by simpa using ne⟩))⟩
  refine ⟨fun a b hab c => ?_, fun v => adj_nd ?_ ?_ v⟩
  · obtain ⟨r, hr, hp, rfl, rfl⟩ := mem_ties.mp hab
    refine key r hr hp (fun u v huv => ?_) c
    obtain ⟨h1, h2, _⟩ := mem_cut.mp huv
    obtain ⟨r', hr', _, e1, e2⟩ := mem_ties.mp h1
    refine ⟨r', hr', fun z => h2 ?_, e1, e2⟩
    have := uniR pw hr' hr z
    subst this
    rw [← e1, ← e2]
  · unfold tiePairs
    rw [List.pairwise_map]
    refine (pw.filter _).imp_of_mem fun {r r'} hr hr' hlt => ?_
    obtain ⟨h1, h2⟩ := List.mem_filter.mp hr
    obtain ⟨h1', _⟩ := List.mem_filter.mp hr'
    have ne : r'.1 ≠ r.1 := fun z => by omega
    refine ⟨fun e => ?_, fun e => ?_⟩
    · obtain ⟨e1, e2⟩ := Prod.mk.inj e
      refine key r h1 (of_decide_eq_true h2) (M := [(poI Q r'.2.1, poI Q r'.2.2)]) (fun u v huv => ?_) ?_
      · cases List.mem_singleton.mp huv
        exact ⟨r', h1', ne, rfl, rfl⟩
      · rw [e1, e2]
        exact .one (.inl (List.mem_singleton.mpr rfl))
    · obtain ⟨e1, e2⟩ := Prod.mk.inj e
      refine key r h1 (of_decide_eq_true h2) (M := [(poI Q r'.2.1, poI Q r'.2.2)]) (fun u v huv => ?_) ?_
      · cases List.mem_singleton.mp huv
        exact ⟨r', h1', ne, rfl, rfl⟩
      · rw [e1, e2]
        exact .one (.inr (List.mem_singleton.mpr rfl))
  · intro p hp e
    obtain ⟨u, v⟩ := p
    obtain ⟨r, hr, hpar, rfl, rfl⟩ := mem_ties.mp hp
    dsimp only at e
    exact key r hr hpar (M := []) (fun u v h => by cases h) (by rw [e]; exact .refl _)
/-- places are come to from one another just where their pieces are -/
theorem conn_ties (hin : rowsIn n rows) (I : PcsI n (leftE rows par) Q) {x y : Int} (hx : 0 ≤ x ∧ x < n) (hy : 0 ≤ y ∧ y < n) : Conn (rows.map (·.2)) x y ↔ Conn (tiePairs Q par rows) (poI Q x) (poI Q y) := by
  constructor
  · intro c
    clear hy
    induction c with
    | refl => exact .refl _
    | @step y z c0 ed ih =>
      have hy := conn_in (rowsIn_map hin) hx c0
      have hz := conn_in (rowsIn_map hin) hx (.step c0 ed)
      refine ih.trans ?_
      have key : ∀ r ∈ rows, Conn (tiePairs Q par rows) (poI Q r.2.1) (poI Q r.2.2) := fun r hr => by
        by_cases hp : r.1 ∈ par
        · exact .one (.inl (mem_ties.mpr ⟨r, hr, hp, rfl, rfl⟩))
        · have z := hin r hr
          have : pieceOfF Q r.2.1 = pieceOfF Q r.2.2 := (po_iff I z.1 z.2).mpr (.one (.inl (mem_leftE.mpr ⟨r.1, hr, hp⟩)))
          unfold poI
          rw [this]
          exact .refl _
      rcases ed with ed | ed
      · obtain ⟨r, hr, e⟩ := List.mem_map.mp ed
        have := key r hr
        rw [e] at this
        exact this
      · obtain ⟨r, hr, e⟩ := List.mem_map.mp ed
        have := (key r hr).symm
        rw [e] at this
        exact this
  · intro c
    refine lift_conn I (G := rows.map (·.2)) (fun x y k => by rw [← leftE_nil]; exact k.mono (leftE_mono fun t ht => by cases ht)) (fun u v huv => ?_) c x y hx hy rfl rfl
    obtain ⟨r, hr, _, e1, e2⟩ := mem_ties.mp huv
    exact ⟨r.2.1, r.2.2, (hin r hr).1, (hin r hr).2, e1, e2, .one (.inl (List.mem_map.mpr ⟨r, hr, rfl⟩))⟩
end
/-! what trees want, and the pairs that tie them together -/
def wantF (L : List Pr) (ns : List Int) : List Int := ns.flatMap fun v => List.replicate (2 - (adjL L v).length) v
def wantN (L : List Pr) (m : Int) : Nat := ((rangeI m).map fun v => 2 - (adjL L v).length).sum
def numbersF (m : Int) (Q : List (List Int)) (p : List Int) : List Int := (rangeI m).filter fun v => decide (v ∈ p.map (poI Q))
def tieStep (L : List Pr) (m : Int) (Q : List (List Int)) (s : List Pr × Option Int) (p : List Int) : List Pr × Option Int :=
  (match s.2 with
    | none => s.1
    | some l => s.1 ++ [(l, (wantF L (numbersF m Q p)).getD 0 0)],
   some (if 1 < (wantF L (numbersF m Q p)).length then (wantF L (numbersF m Q p)).getD 1 0 else (numbersF m Q p).getD 0 0))
def tiedF (L : List Pr) (m : Int) (Q P : List (List Int)) : List Pr := (P.foldl (tieStep L m Q) ([], none)).1
theorem sum_up {f g : Int → Nat} {a : Int} : ∀ {l : List Int}, l.Nodup → a ∈ l → (∀ v, v ≠ a → g v = f v) → g a + 1 = f a → (l.map g).sum + 1 = (l.map f).sum
  | [], _, h, _, _ => by cases h
  | x :: l, nd, h, e, ea => by
    obtain ⟨n1, n2⟩ := List.nodup_cons.mp nd
    rw [List.map_cons, List.map_cons, List.sum_cons, List.sum_cons]
    by_cases hx : x = a
    · subst hx
      have : l.map g = l.map f := List.map_congr_left fun v hv => e v fun z => n1 (z ▸ hv)
      rw [this]
      omega
    · have hm : a ∈ l := by
        rcases List.mem_cons.mp h with z | z
        · exact absurd z.symm hx
        · exact z
      have := sum_up n2 hm e ea
      rw [e x hx]
      omega
theorem adj_one {a b v : Int} : adjL [(a, b)] v = (if a = v then [b] else []) ++ (if b = v then [a] else []) := by simp [adjL]
theorem want_add {L : List Pr} {m a b : Int} (ha : 0 ≤ a ∧ a < m) (hb : 0 ≤ b ∧ b < m) (ne : a ≠ b) (da : (adjL L a).length ≤ 1) (db : (adjL L b).length ≤ 1) : wantN (L ++ [(a, b)]) m + 2 = wantN L m := by
  have d : ∀ v, (adjL (L ++ [(a, b)]) v).length = (adjL L v).length + ((if a = v then 1 else 0) + (if b = v then 1 else 0)) := fun v => by
    rw [adj_app, List.length_append, adj_one, List.length_append]
    congr 2
    · split <;> rfl
    · split <;> rfl
  have nd : (rangeI m).Nodup := (rangeI_pw m).imp fun h => Int.ne_of_lt h
  have h1 := sum_up (f := fun v => 2 - (adjL L v).length) (g := fun v => 2 - ((adjL L v).length + if a = v then 1 else 0)) (a := a) nd (mem_rangeI.mpr ha) (fun v hv => by (try dsimp only); rw [if_neg fun z => hv z.symm]; omega) (by (try dsimp only); rw [if_pos rfl]; omega)
  have h2 := sum_up (f := fun v => 2 - ((adjL L v).length + if a = v then 1 else 0)) (g := fun v => 2 - ((adjL L v).length + ((if a = v then 1 else 0) + (if b = v then 1 else 0)))) (a := b) nd (mem_rangeI.mpr hb) (fun v hv => by (try dsimp only); rw [if_neg (c := b = v) fun z => hv z.symm]; omega) (by (try dsimp only); rw [if_neg ne, if_pos rfl]; omega)
  have e : wantN (L ++ [(a, b)]) m = ((rangeI m).map fun v => 2 - ((adjL L v).length + ((if a = v then 1 else 0) + (if b = v then 1 else 0)))).sum := by
    unfold wantN
    congr 1
    exact List.map_congr_left fun v _ => by rw [d]
  rw [e]
  unfold wantN
  omega
/-- a pair between what isn't tied makes no ring -/
theorem forest_add {L : List Pr} (T : Forest L) {a b : Int} (h : ¬ Conn L a b) : Forest (L ++ [(a, b)]) := by
  have nab : (a, b) ∉ L ∧ (b, a) ∉ L := ⟨fun z => h (.one (.inl z)), fun z => h (.one (.inr z))⟩
  have nz : a ≠ b := fun z => h (z ▸ .refl _)
  refine ⟨fun c d hcd k => ?_, fun v => ?_⟩
  · rcases List.mem_append.mp hcd with hcd | hcd
    · have k2 : Conn (cutL L c d ++ [(a, b)]) c d := k.mono fun e he => by
        obtain ⟨h1, h2, h3⟩ := mem_cut.mp he
        rcases List.mem_append.mp h1 with h1 | h1
        · exact List.mem_append_left _ (mem_cut.mpr ⟨h1, h2, h3⟩)
        · exact List.mem_append_right _ h1
      have up : ∀ {x y : Int}, Conn (cutL L c d) x y → Conn L x y := fun c => c.mono fun e he => (mem_cut.mp he).1
      have cd : Conn L c d := .one (.inl hcd)
      rcases conn_snoc.mp k2 with k | ⟨k1, k2⟩ | ⟨k1, k2⟩
      · exact T.br c d hcd k
      · exact h ((up k1).symm.trans (cd.trans (up k2).symm))
      · exact h ((up k2).trans (cd.symm.trans (up k1)))
    · cases List.mem_singleton.mp hcd
      refine h (k.mono fun e he => ?_)
      obtain ⟨h1, h2, _⟩ := mem_cut.mp he
      rcases List.mem_append.mp h1 with h1 | h1
      · exact h1
      · exact absurd (List.mem_singleton.mp h1) h2
  · rw [adj_app, List.nodup_append]
    refine ⟨T.nd v, ?_, fun x hx y hy e => ?_⟩
    · rw [adj_one]
      by_cases h1 : a = v
      · rw [if_pos h1, if_neg (fun z => nz (h1.trans z.symm))]; simp
      · rw [if_neg h1]
        split <;> simp
    · subst e
      rcases mem_adj.mp hy with k | k
      · obtain ⟨rfl, rfl⟩ := Prod.mk.inj (List.mem_singleton.mp k)
        rcases mem_adj.mp hx with z | z
        · exact nab.1 z
        · exact nab.2 z
      · obtain ⟨rfl, rfl⟩ := Prod.mk.inj (List.mem_singleton.mp k)
        rcases mem_adj.mp hx with z | z
        · exact nab.2 z
        · exact nab.1 z

theorem mem_want {L : List Pr} {ns : List Int} {v : Int} : v ∈ wantF L ns ↔ v ∈ ns ∧ (adjL L v).length ≤ 1 := by
  unfold wantF
  rw [List.mem_flatMap]
  constructor
  · rintro ⟨w, hw, hv⟩
    obtain ⟨h1, h2⟩ := List.mem_replicate.mp hv
    subst h2
    exact ⟨hw, by omega⟩
  · rintro ⟨h1, h2⟩
    exact ⟨v, h1, List.mem_replicate.mpr ⟨by omega, rfl⟩⟩
theorem two_of {α : Type} {l : List α} {x y : α} (hx : x ∈ l) (hy : y ∈ l) (ne : x ≠ y) : 2 ≤ l.length := by
  match l with
  | [] => cases hx
  | [a] => exact absurd ((List.mem_singleton.mp hx).trans (List.mem_singleton.mp hy).symm) ne
  | _ :: _ :: _ => simp
theorem want_zero {L : List Pr} {ns : List Int} {v : Int} (hv : v ∈ ns) (d : (adjL L v).length = 0) : 2 ≤ (wantF L ns).length := by
  obtain ⟨l1, l2, rfl⟩ := List.append_of_mem hv
  unfold wantF
  rw [List.flatMap_append, List.flatMap_cons, List.length_append, List.length_append, List.length_replicate, d]
  omega
theorem want_eq {L : List Pr} : ∀ {ns : List Int}, ns.Nodup → 2 ≤ (wantF L ns).length → (wantF L ns).getD 0 0 = (wantF L ns).getD 1 0 → (adjL L ((wantF L ns).getD 0 0)).length = 0
  | [], _, h, _ => by simp [wantF] at h
  | x :: ns, nd, h, e => by
    obtain ⟨n1, n2⟩ := List.nodup_cons.mp nd
    have ew : wantF L (x :: ns) = List.replicate (2 - (adjL L x).length) x ++ wantF L ns := rfl
    rw [ew] at h e ⊢
    match hd : (adjL L x).length with
    | 0 => exact (show (adjL L x).length = 0 from hd)
    | 1 =>
      rw [hd] at e h
      have e2 : x = (wantF L ns).getD 0 0 := e
      cases hw : wantF L ns with
      | nil => rw [hw] at h; simp at h
      | cons y l =>
        rw [hw] at e2
        have : y ∈ wantF L ns := by rw [hw]; exact List.mem_cons_self ..
        have e3 : x = y := e2
        rw [← e3] at this
        exact absurd (mem_want.mp this).1 n1
    | k + 2 =>
      rw [hd, show 2 - (k + 2) = 0 by omega] at h
      rw [hd, show 2 - (k + 2) = 0 by omega] at e
      rw [show 2 - (k + 2) = 0 by omega]
      simp only [List.replicate_zero, List.nil_append] at h e ⊢
      exact want_eq n2 h e
section
variable {n : Int} {rows : List Row} {Q : List (List Int)} {par : List Int} {p : List Int}
theorem mem_num (m : Int) {v : Int} : v ∈ numbersF m Q p ↔ (0 ≤ v ∧ v < m) ∧ ∃ x ∈ p, poI Q x = v := by
  unfold numbersF
  rw [List.mem_filter, mem_rangeI, decide_eq_true_eq, List.mem_map]
theorem num_conn (hin : rowsIn n rows) (I : PcsI n (leftE rows par) Q) (hp : PieceOk n (rows.map (·.2)) p) {v w : Int} (hv : v ∈ numbersF Q.length Q p) (hw : 0 ≤ w ∧ w < (Q.length : Int)) : Conn (tiePairs Q par rows) v w ↔ w ∈ numbersF Q.length Q p := by
  obtain ⟨_, x, hx, rfl⟩ := (mem_num _).mp hv
  have cx := (hp.mem x).mp hx
  obtain ⟨h1, h2⟩ := hd_spec I hw.1 hw.2
  constructor
  · intro c
    rw [← h2] at c
    have := (conn_ties hin I cx.1 h1).mpr c
    exact (mem_num _).mpr ⟨hw, hdI Q w, (hp.mem _).mpr ⟨h1, cx.2.trans this⟩, h2⟩
  · intro h
    obtain ⟨_, y, hy, rfl⟩ := (mem_num _).mp h
    have cy := (hp.mem y).mp hy
    exact (conn_ties hin I cx.1 cy.1).mp (cx.2.symm.trans cy.2)
theorem num_head (I : PcsI n (leftE rows par) Q) (hp : PieceOk n (rows.map (·.2)) p) : poI Q (p.getD 0 0) ∈ numbersF Q.length Q p := by
  have := po_lt I hp.lo hp.hi
  exact (mem_num _).mpr ⟨by unfold poI; omega, _, hp.head, rfl⟩
theorem num_nd (m : Int) : (numbersF m Q p).Nodup := ((rangeI_pw m).filter _).imp fun h => Int.ne_of_lt h
theorem want_two (hin : rowsIn n rows) (pw : rows.Pairwise fun p q => p.1 < q.1) (I : PcsI n (leftE rows (partingF n rows)) Q) (hp : PieceOk n (rows.map (·.2)) p) : 2 ≤ (wantF (tiePairs Q (partingF n rows) rows) (numbersF Q.length Q p)).length := by
  have T := forest0 hin pw I
  have tin := ties_in hin I
  have hv := num_head I hp
  generalize poI Q (p.getD 0 0) = v at hv
  have hr := ((mem_num _).mp hv).1
  cases e : adjL (tiePairs Q (partingF n rows) rows) v with
  | nil => exact want_zero hv (by rw [e]; rfl)
  | cons g l =>
    have hg : g ∈ adjL (tiePairs Q (partingF n rows) rows) v := by rw [e]; exact List.mem_cons_self ..
    have hg2 : v ∈ adjL (tiePairs Q (partingF n rows) rows) g := mem_adj.mpr (mem_adj.mp hg).symm
    obtain ⟨x, kx, dx⟩ := leaf_at T tin _ v g hr (Nat.le_refl _) hg
    obtain ⟨y, ky, dy⟩ := leaf_at T tin _ g v (adj_in tin hg) (Nat.le_refl _) hg2
    have up : ∀ {a b c d : Int}, Conn (cutL (tiePairs Q (partingF n rows) rows) a b) c d → Conn (tiePairs Q (partingF n rows) rows) c d := fun c => c.mono fun e he => (mem_cut.mp he).1
    have cx := up kx
    have cy := (Conn.one (mem_adj.mp hg)).trans (up ky)
    have mx := (num_conn hin I hp hv (conn_in tin hr cx)).mp cx
    have my := (num_conn hin I hp hv (conn_in tin hr cy)).mp cy
    refine two_of (mem_want.mpr ⟨mx, by omega⟩) (mem_want.mpr ⟨my, by omega⟩) fun z => ?_
    subst z
    rw [cut_swap] at ky
    exact T.br2 (mem_adj.mp hg) (kx.trans ky.symm)
/-- what the pairs are that tie the parts of pre -/
structure TieI (L : List Pr) (m : Int) (Q : List (List Int)) (pre : List (List Int)) (s : List Pr × Option Int) : Prop where
  fo : Forest (L ++ s.1)
  rng : edgesIn m (L ++ s.1)
  len : s.1.length + 1 = pre.length
  want : wantN (L ++ s.1) m + 2 * s.1.length = wantN L m
  last : ∃ l, s.2 = some l ∧ (∃ p ∈ pre, l ∈ numbersF m Q p) ∧ (adjL (L ++ s.1) l).length ≤ 1
  ends : ∀ e ∈ s.1, (∃ p ∈ pre, e.1 ∈ numbersF m Q p) ∧ ∃ p ∈ pre, e.2 ∈ numbersF m Q p
  con : ∀ u v, (∃ p ∈ pre, u ∈ numbersF m Q p) → (∃ p ∈ pre, v ∈ numbersF m Q p) → Conn (L ++ s.1) u v
theorem getD_mem {l : List Int} {i : Nat} (h : i < l.length) : l.getD i 0 ∈ l := by
  rw [getD_some (List.getElem?_eq_getElem h)]
  exact List.getElem_mem h
theorem tie_step (hin : rowsIn n rows) (pw : rows.Pairwise fun p q => p.1 < q.1) (I : PcsI n (leftE rows (partingF n rows)) Q) {pre : List (List Int)} {s : List Pr × Option Int} (hp : PieceOk n (rows.map (·.2)) p) (hpre : ∀ q ∈ pre, PieceOk n (rows.map (·.2)) q) (dj : ∀ q ∈ pre, ¬ Conn (rows.map (·.2)) (q.getD 0 0) (p.getD 0 0))
    (hs : (pre = [] ∧ s = ([], none)) ∨ TieI (tiePairs Q (partingF n rows) rows) Q.length Q pre s) : TieI (tiePairs Q (partingF n rows) rows) Q.length Q (pre ++ [p]) (tieStep (tiePairs Q (partingF n rows) rows) Q.length Q s p) := by
  have T := forest0 hin pw I
  have tin := ties_in hin I
  have w2 := want_two hin pw I hp
  have nd := num_nd (Q := Q) (p := p) (Q.length : Int)
  have nc : ∀ u v, u ∈ numbersF Q.length Q p → v ∈ numbersF Q.length Q p → Conn (tiePairs Q (partingF n rows) rows) u v := fun u v hu hv => (num_conn hin I hp hu ((mem_num _).mp hv).1).mpr hv
  -- nodes of other parts are no nodes of p
  have off : ∀ v, (∃ q ∈ pre, v ∈ numbersF Q.length Q q) → v ∉ numbersF Q.length Q p := fun v ⟨q, hq, hv⟩ hv2 => by
    obtain ⟨_, x, hx, ex⟩ := (mem_num _).mp hv
    obtain ⟨_, y, hy, ey⟩ := (mem_num _).mp hv2
    have cx := ((hpre q hq).mem x).mp hx
    have cy := (hp.mem y).mp hy
    have : Conn (rows.map (·.2)) x y := (conn_ties hin I cx.1 cy.1).mpr (by rw [ex, ey]; exact .refl _)
    exact dj q hq (cx.2.trans (this.trans cy.2.symm))
  have back : ∀ v w, (∃ q ∈ pre, v ∈ numbersF Q.length Q q) → Conn (tiePairs Q (partingF n rows) rows) v w → ∃ q ∈ pre, w ∈ numbersF Q.length Q q := fun v w ⟨q, hq, hv⟩ c => ⟨q, hq, (num_conn hin I (hpre q hq) hv (conn_in tin ((mem_num _).mp hv).1 c)).mp c⟩
  generalize hL : tiePairs Q (partingF n rows) rows = L at *
  generalize hN : numbersF Q.length Q p = N at *
  have f0 := getD_mem (l := wantF L N) (i := 0) (by omega)
  have f1 := getD_mem (l := wantF L N) (i := 1) (by omega)
  have weq := want_eq (L := L) nd w2
  generalize hf : (wantF L N).getD 0 0 = f at *
  generalize hl' : (wantF L N).getD 1 0 = l' at *
  obtain ⟨fN, fd⟩ := mem_want.mp f0
  obtain ⟨lN, ld⟩ := mem_want.mp f1
  have pin : ∀ {v : Int}, v ∈ N → ∃ q ∈ pre ++ [p], v ∈ numbersF Q.length Q q := fun hv => ⟨p, by simp, by rw [hN]; exact hv⟩
  have rngN : ∀ {v : Int}, v ∈ N → 0 ≤ v ∧ v < (Q.length : Int) := fun hv => ((mem_num (Q := Q) (p := p) _).mp (by rw [hN]; exact hv)).1
  rcases hs with ⟨rfl, rfl⟩ | S
  · have es : tieStep L Q.length Q ([], none) p = ([], some l') := by
      unfold tieStep
      rw [hN, if_pos (by omega), hl']
    rw [es]
    refine ⟨by simpa using T, by simpa using tin, rfl, by simp, ⟨l', rfl, pin lN, by simpa using ld⟩, fun e he => (by cases he), fun u v hu hv => ?_⟩
    obtain ⟨q, hq, hu⟩ := hu
    obtain ⟨q', hq', hv⟩ := hv
    simp only [List.nil_append, List.mem_singleton] at hq hq'
    subst hq hq'
    rw [hN] at hu hv
    simpa using nc u v hu hv
  · obtain ⟨l, el, lS, dl⟩ := S.last
    have es : tieStep L Q.length Q s p = (s.1 ++ [(l, f)], some l') := by
      unfold tieStep
      rw [hN, if_pos (by omega), hl', el, hf]
    rw [es]
    -- what is tied to a node of pre is one
    have stay : ∀ v w, (∃ q ∈ pre, v ∈ numbersF Q.length Q q) → Conn (L ++ s.1) v w → ∃ q ∈ pre, w ∈ numbersF Q.length Q q := fun v w hv c => by
      induction c with
      | refl => exact hv
      | @step x y _ ed ih =>
        rcases ed with ed | ed
        · rcases List.mem_append.mp ed with ed | ed
          · exact back x y ih (.one (.inl ed))
          · exact (S.ends _ ed).2
        · rcases List.mem_append.mp ed with ed | ed
          · exact back x y ih (.one (.inr ed))
          · exact (S.ends _ ed).1
    have nlf : ¬ Conn (L ++ s.1) l f := fun c => off f (stay l f lS c) fN
    have ne : l ≠ f := fun z => nlf (z ▸ .refl _)
    have lr : 0 ≤ l ∧ l < (Q.length : Int) := by
      obtain ⟨q, _, h⟩ := lS
      exact ((mem_num _).mp h).1
    have adS : ∀ v, v ∈ N → adjL s.1 v = [] := fun v hv => by
      cases e : adjL s.1 v with
      | nil => rfl
      | cons x t =>
        have : x ∈ adjL s.1 v := by rw [e]; exact List.mem_cons_self ..
        rcases mem_adj.mp this with k | k
        · exact absurd hv (off v (S.ends _ k).1)
        · exact absurd hv (off v (S.ends _ k).2)
    have df : (adjL (L ++ s.1) f).length ≤ 1 := by rw [adj_app, adS f fN, List.append_nil]; exact fd
    have wa := want_add (m := Q.length) lr (rngN fN) ne dl df
    have ea : L ++ (s.1 ++ [(l, f)]) = (L ++ s.1) ++ [(l, f)] := by simp
    have up : ∀ {a b : Int}, Conn (L ++ s.1) a b → Conn (L ++ (s.1 ++ [(l, f)])) a b := fun c => c.mono fun e he => by rw [ea]; exact List.mem_append_left _ he
    have up0 : ∀ {a b : Int}, Conn L a b → Conn (L ++ (s.1 ++ [(l, f)])) a b := fun c => c.mono fun e he => List.mem_append_left _ he
    have lf : Conn (L ++ (s.1 ++ [(l, f)])) l f := .one (.inl (by simp))
    refine ⟨by rw [ea]; exact forest_add S.fo nlf, ?_, ?_, ?_, ⟨l', rfl, pin lN, ?_⟩, fun e he => ?_, fun u v hu hv => ?_⟩
    · intro e he
      rw [ea] at he
      rcases List.mem_append.mp he with he | he
      · exact S.rng e he
      · cases List.mem_singleton.mp he
        exact ⟨lr, rngN fN⟩
    · have := S.len
      show (s.1 ++ [(l, f)]).length + 1 = _
      rw [List.length_append, List.length_append, List.length_singleton, List.length_singleton]
      omega
    · have := S.want
      show wantN (L ++ (s.1 ++ [(l, f)])) Q.length + 2 * (s.1 ++ [(l, f)]).length = _
      rw [ea, List.length_append, List.length_singleton]
      omega
    · show (adjL (L ++ (s.1 ++ [(l, f)])) l').length ≤ 1
      have nl : l ≠ l' := fun z => off l lS (by rw [z]; exact lN)
      rw [ea, adj_app, adj_app, adS l' lN, adj_one, if_neg nl, List.append_nil, List.nil_append, List.length_append]
      by_cases h : f = l'
      · have := weq h
        rw [h] at this
        rw [if_pos h, this]
        simp
      · rw [if_neg h]
        simpa using ld
    · rcases List.mem_append.mp he with he | he
      · obtain ⟨⟨q, hq, h1⟩, q', hq', h2⟩ := S.ends e he
        exact ⟨⟨q, List.mem_append_left _ hq, h1⟩, q', List.mem_append_left _ hq', h2⟩
      · cases List.mem_singleton.mp he
        obtain ⟨q, hq, h1⟩ := lS
        exact ⟨⟨q, List.mem_append_left _ hq, h1⟩, pin fN⟩
    · have one : ∀ u, (∃ q ∈ pre ++ [p], u ∈ numbersF Q.length Q q) → Conn (L ++ (s.1 ++ [(l, f)])) l u := fun u ⟨q, hq, hu⟩ => by
        rcases List.mem_append.mp hq with hq | hq
        · exact up (S.con l u lS ⟨q, hq, hu⟩)
        · rw [List.mem_singleton.mp hq, hN] at hu
          exact lf.trans (up0 (nc f u fN hu))
      exact (one u hu).symm.trans (one v hv)
theorem tied_ok (hin : rowsIn n rows) (pw : rows.Pairwise fun p q => p.1 < q.1) (I : PcsI n (leftE rows (partingF n rows)) Q) {P : List (List Int)} (hP : PcsI n (rows.map (·.2)) P) (ne : P ≠ []) :
    ∃ s, P.foldl (tieStep (tiePairs Q (partingF n rows) rows) Q.length Q) ([], none) = s ∧ TieI (tiePairs Q (partingF n rows) rows) Q.length Q P s ∧ ∀ u v, (0 ≤ u ∧ u < (Q.length : Int)) → (0 ≤ v ∧ v < (Q.length : Int)) → Conn (tiePairs Q (partingF n rows) rows ++ s.1) u v := by
  have key : ∀ (post pre : List (List Int)) (s : List Pr × Option Int), pre ++ post = P → ((pre = [] ∧ s = ([], none)) ∨ TieI (tiePairs Q (partingF n rows) rows) Q.length Q pre s) → (P = [] ∧ post.foldl (tieStep (tiePairs Q (partingF n rows) rows) Q.length Q) s = ([], none)) ∨ TieI (tiePairs Q (partingF n rows) rows) Q.length Q P (post.foldl (tieStep (tiePairs Q (partingF n rows) rows) Q.length Q) s) := by
    intro post
    induction post with
    | nil =>
      intro pre s e h
      rw [List.append_nil] at e
      subst e
      exact h
    | cons p post ih =>
      intro pre s e h
      have dj := hP.dj
      rw [← e] at dj
      refine ih (pre ++ [p]) _ (by rw [← e]; simp) (.inr (tie_step hin pw I (hP.pc p (by rw [← e]; simp)) (fun q hq => hP.pc q (by rw [← e]; exact List.mem_append_left _ hq)) (fun q hq => (List.pairwise_append.mp dj).2.2 q hq p (List.mem_cons_self ..)) h))
  refine ⟨_, rfl, ?_⟩
  rcases key P [] ([], none) rfl (.inl ⟨rfl, rfl⟩) with ⟨h, _⟩ | S
  · exact absurd h ne
  · refine ⟨S, fun u v hu hv => S.con u v ?_ ?_⟩
    all_goals
      first
        | (obtain ⟨h1, h2⟩ := hd_spec I hu.1 hu.2
           obtain ⟨p, hp, hx⟩ := hP.all _ h1.1 h1.2
           exact ⟨p, hp, (mem_num _).mpr ⟨hu, _, hx, h2⟩⟩)
        | (obtain ⟨h1, h2⟩ := hd_spec I hv.1 hv.2
           obtain ⟨p, hp, hx⟩ := hP.all _ h1.1 h1.2
           exact ⟨p, hp, (mem_num _).mpr ⟨hv, _, hx, h2⟩⟩)
end

/-! leaves, and the pairs between them -/
def rootF (T : List Pr) (m : Int) : Int := (((rangeI m).filter fun v => decide (1 < (adjL T v).length)).head?).getD 0
def leavesF (T : List Pr) (m : Int) : List Int := (visitF T m.toNat (rootF T m) (rootF T m)).filter fun v => decide ((adjL T v).length = 1)
def halfP (LV : List Int) : List Pr := (List.range (LV.length - LV.length / 2)).map fun k => (LV.getD k 0, LV.getD (k + LV.length / 2) 0)
def nodeP (L : List Pr) (m : Int) (Q P : List (List Int)) : List Pr := tiedF L m Q P ++ halfP (leavesF (L ++ tiedF L m Q P) m)
theorem root_in {T : List Pr} {m : Int} (hm : 1 ≤ m) : 0 ≤ rootF T m ∧ rootF T m < m := by
  unfold rootF
  cases e : (rangeI m).filter fun v => decide (1 < (adjL T v).length) with
  | nil => exact ⟨Int.le_refl _, by show (0 : Int) < m; omega⟩
  | cons x l =>
    have : x ∈ (rangeI m).filter fun v => decide (1 < (adjL T v).length) := by rw [e]; exact List.mem_cons_self ..
    exact mem_rangeI.mp (List.mem_filter.mp this).1
theorem noloop {T : List Pr} (F : Forest T) {c : Int} : cutL T c c = T := by
  unfold cutL
  refine List.filter_eq_self.mpr fun e he => ?_
  have : e ≠ (c, c) := fun z => F.ne (a := e.1) (b := e.2) he (by rw [z])
  simp [this]
/-- the leaves of a tree that ties all -/
structure LeafI (T : List Pr) (m : Int) (LV : List Int) : Prop where
  nd : LV.Nodup
  mem : ∀ x, x ∈ LV ↔ (0 ≤ x ∧ x < m) ∧ (adjL T x).length = 1
  row : ∀ a b, b ∈ adjL T a → (0 ≤ a ∧ a < m) → ∃ A W B, LV = A ++ W ++ B ∧ W ≠ [] ∧ A ++ B ≠ [] ∧ ((∀ z ∈ LV, z ∈ W ↔ Conn (cutL T b a) b z) ∨ (∀ z ∈ LV, z ∈ W ↔ Conn (cutL T a b) a z))
theorem leaf_i {T : List Pr} {m : Int} (hm : 1 ≤ m) (F : Forest T) (hin : edgesIn m T) (con : ∀ u v, (0 ≤ u ∧ u < m) → (0 ≤ v ∧ v < m) → Conn T u v) : LeafI T m (leavesF T m) := by
  have hr := root_in (T := T) hm
  obtain ⟨v1, v2⟩ := visit_ok F hin m.toNat (rootF T m) (rootF T m) hr side_le
  have vr := visit_row F hin m.toNat (rootF T m) (rootF T m) hr side_le
  rw [noloop F] at v1
  have all : ∀ x, x ∈ visitF T m.toNat (rootF T m) (rootF T m) ↔ 0 ≤ x ∧ x < m := fun x => by
    rw [v1]
    exact ⟨fun c => conn_in hin hr c, fun h => con _ _ hr h⟩
  have mem : ∀ x, x ∈ leavesF T m ↔ (0 ≤ x ∧ x < m) ∧ (adjL T x).length = 1 := fun x => by
    unfold leavesF
    rw [List.mem_filter, all, decide_eq_true_eq]
  refine ⟨v2.filter _, mem, fun a b hb ha => ?_⟩
  have hb' : a ∈ adjL T b := mem_adj.mpr (mem_adj.mp hb).symm
  have hbr := adj_in hin hb
  have br := F.br2 (mem_adj.mp hb)
  have nab : ¬ (a = rootF T m ∧ b = rootF T m) := fun z => br (by rw [z.1, z.2]; exact .refl _)
  obtain ⟨A, W, B, e, hW⟩ := vr a ((all a).mpr ha) b hb nab
  obtain ⟨x, kx, dx⟩ := leaf_at F hin _ a b ha (Nat.le_refl _) hb
  obtain ⟨y, ky, dy⟩ := leaf_at F hin _ b a hbr (Nat.le_refl _) hb'
  have xr := conn_in (cut_in hin) ha kx
  have yr := conn_in (cut_in hin) hbr ky
  have ex : x ∈ A ++ W ++ B := by rw [← e]; exact (all x).mpr xr
  have ey : y ∈ A ++ W ++ B := by rw [← e]; exact (all y).mpr yr
  have nxy : ∀ z, Conn (cutL T a b) a z → Conn (cutL T b a) b z → False := fun z k1 k2 => by
    rw [cut_swap] at k2
    exact br (k1.trans k2.symm)
  have el : leavesF T m = A.filter (fun v => decide ((adjL T v).length = 1)) ++ W.filter (fun v => decide ((adjL T v).length = 1)) ++ B.filter (fun v => decide ((adjL T v).length = 1)) := by
    unfold leavesF
    rw [e, List.filter_append, List.filter_append]
  have inW : ∀ z, (adjL T z).length = 1 → (z ∈ W.filter (fun v => decide ((adjL T v).length = 1)) ↔ z ∈ W) := fun z hz => by
    rw [List.mem_filter, decide_eq_true_eq]
    exact ⟨fun h => h.1, fun h => ⟨h, hz⟩⟩
  have inAB : ∀ z, (adjL T z).length = 1 → z ∈ A ++ W ++ B → z ∉ W → A.filter (fun v => decide ((adjL T v).length = 1)) ++ B.filter (fun v => decide ((adjL T v).length = 1)) ≠ [] := fun z hz hm hw h => by
    have : z ∈ A.filter (fun v => decide ((adjL T v).length = 1)) ++ B.filter (fun v => decide ((adjL T v).length = 1)) := by
      rw [List.mem_append, List.mem_append] at hm
      rw [List.mem_append, List.mem_filter, List.mem_filter, decide_eq_true_eq]
      rcases hm with (hm | hm) | hm
      · exact .inl ⟨hm, hz⟩
      · exact absurd hm hw
      · exact .inr ⟨hm, hz⟩
    rw [h] at this
    cases this
  refine ⟨_, _, _, el, ?_, ?_, ?_⟩
  · rcases hW with hW | hW
    · exact List.ne_nil_of_mem ((inW y dy).mpr ((hW y).mpr ky))
    · exact List.ne_nil_of_mem ((inW x dx).mpr ((hW x).mpr kx))
  · rcases hW with hW | hW
    · exact inAB x dx ex fun z => nxy x kx ((hW x).mp z)
    · exact inAB y dy ey fun z => nxy y ((hW y).mp z) ky
  · rcases hW with hW | hW
    · exact .inl fun z hz => by rw [inW z ((mem z).mp hz).2]; exact hW z
    · exact .inr fun z hz => by rw [inW z ((mem z).mp hz).2]; exact hW z
/-- each pair of the tree has a pair of leaves, one on each side -/
theorem leaf_cross {T : List Pr} {m : Int} {LV : List Int} (F : Forest T) (hin : edgesIn m T) (con : ∀ u v, (0 ≤ u ∧ u < m) → (0 ≤ v ∧ v < m) → Conn T u v) (I : LeafI T m LV) {a b : Int} (hb : b ∈ adjL T a) (ha : 0 ≤ a ∧ a < m) :
    ∃ p q, (p, q) ∈ halfP LV ∧ ((Conn (cutL T a b) a p ∧ Conn (cutL T a b) b q) ∨ (Conn (cutL T a b) b p ∧ Conn (cutL T a b) a q)) := by
  obtain ⟨A, W, B, e, hW, hAB, hs⟩ := I.row a b hb ha
  have sides : ∀ z, (0 ≤ z ∧ z < m) → Conn (cutL T a b) a z ∨ Conn (cutL T a b) b z := fun z hz => by
    have c := con a z ha hz
    clear hz
    induction c with
    | refl => exact .inl (.refl _)
    | @step x y _ ed ih =>
      have step : ∀ {x y : Int}, (x, y) ∈ T ∨ (y, x) ∈ T → ((x, y) ∈ cutL T a b ∨ (y, x) ∈ cutL T a b) ∨ y = a ∨ y = b := fun {x y} ed => by
        rcases ed with ed | ed
        · by_cases h1 : (x, y) = (a, b)
          · exact .inr (.inr (congrArg Prod.snd h1))
          · by_cases h2 : (x, y) = (b, a)
            · exact .inr (.inl (congrArg Prod.snd h2))
            · exact .inl (.inl (mem_cut.mpr ⟨ed, h1, h2⟩))
        · by_cases h1 : (y, x) = (a, b)
          · exact .inr (.inl (congrArg Prod.fst h1))
          · by_cases h2 : (y, x) = (b, a)
            · exact .inr (.inr (congrArg Prod.fst h2))
            · exact .inl (.inr (mem_cut.mpr ⟨ed, h1, h2⟩))
      rcases step ed with ed | rfl | rfl
      · exact ih.imp (fun k => .step k ed) fun k => .step k ed
      · exact .inl (.refl _)
      · exact .inr (.refl _)
  obtain ⟨k, k1, k2, hk⟩ := half_cross hW hAB
  rw [← e] at k1 k2 hk
  have klt : k < LV.length := by omega
  have gp := List.getElem?_eq_getElem klt
  have gq := List.getElem?_eq_getElem k2
  have mp := List.getElem_mem klt
  have mq := List.getElem_mem k2
  have inW : ∀ (j : Nat) (hj : j < LV.length), LV[j] ∈ W ↔ A.length ≤ j ∧ j < A.length + W.length := fun j hj => by
    constructor
    · intro h
      obtain ⟨i, hi, ei⟩ := List.mem_iff_getElem.mp h
      have e2 : LV[A.length + i]? = some W[i] := by
        rw [e, List.append_assoc, List.getElem?_append_right (by omega), Nat.add_sub_cancel_left, List.getElem?_append_left hi, List.getElem?_eq_getElem hi]
      obtain ⟨l2, e3⟩ := List.getElem?_eq_some_iff.mp e2
      have pwi := List.pairwise_iff_getElem.mp (List.nodup_iff_pairwise_ne.mp I.nd)
      rcases Nat.lt_trichotomy j (A.length + i) with h | h | h
      · exact absurd (e3.trans ei).symm (pwi j _ hj l2 h)
      · omega
      · exact absurd (e3.trans ei) (pwi _ j l2 hj h)
    · rintro ⟨h1, h2⟩
      have e2 : LV[j]? = W[j - A.length]? := by
        rw [e, List.append_assoc, List.getElem?_append_right h1, List.getElem?_append_left (by omega)]
      rw [List.getElem?_eq_getElem hj] at e2
      exact List.mem_of_getElem? e2.symm
  refine ⟨LV[k], LV[k + LV.length / 2], List.mem_map.mpr ⟨k, List.mem_range.mpr k1, by rw [getD_some gp, getD_some gq]⟩, ?_⟩
  have rp := ((I.mem _).mp mp).1
  have rq := ((I.mem _).mp mq).1
  have key : ∀ x y, x ∈ LV → y ∈ LV → x ∈ W → y ∉ W → (Conn (cutL T a b) a x ∧ Conn (cutL T a b) b y) ∨ (Conn (cutL T a b) b x ∧ Conn (cutL T a b) a y) := fun x y hx hy wx wy => by
    have ry := ((I.mem y).mp hy).1
    rcases hs with hs | hs
    · have cx := (hs x hx).mp wx
      rw [cut_swap] at cx
      refine .inr ⟨cx, ?_⟩
      rcases sides y ry with k | k
      · exact k
      · rw [cut_swap] at k
        exact absurd ((hs y hy).mpr k) wy
    · refine .inl ⟨(hs x hx).mp wx, ?_⟩
      rcases sides y ry with k | k
      · exact absurd ((hs y hy).mpr k) wy
      · exact k
  rcases hk with ⟨h1, h2, h3⟩ | ⟨h1, h2⟩
  · exact key _ _ mp mq ((inW k klt).mpr ⟨h1, h2⟩) fun z => h3 ((inW _ k2).mp z)
  · rcases key _ _ mq mp ((inW _ k2).mpr h2) fun z => h1 ((inW k klt).mp z) with ⟨c1, c2⟩ | ⟨c1, c2⟩
    · exact .inr ⟨c2, c1⟩
    · exact .inl ⟨c2, c1⟩
/-- how many leaves there are -/
theorem leaf_count {T : List Pr} {m : Int} (hm : 2 ≤ m) (hin : edgesIn m T) (con : ∀ u v, (0 ≤ u ∧ u < m) → (0 ≤ v ∧ v < m) → Conn T u v) {LV : List Int} (I : LeafI T m LV) : LV.length = wantN T m := by
  have deg : ∀ v, 0 ≤ v → v < m → 1 ≤ (adjL T v).length := fun v v0 v1 => by
    have : ∃ w, (0 ≤ w ∧ w < m) ∧ w ≠ v := by
      by_cases h : v = 0
      · exact ⟨1, ⟨by omega, by omega⟩, by omega⟩
      · exact ⟨0, ⟨by omega, by omega⟩, fun z => h z.symm⟩
    obtain ⟨w, hw, ne⟩ := this
    have c := con w v hw ⟨v0, v1⟩
    cases c with
    | refl => exact absurd rfl ne
    | step _ ed => exact List.length_pos_of_mem (mem_adj.mpr (ed.symm))
  have l1 : LV.length = ((rangeI m).filter fun v => decide ((adjL T v).length = 1)).length := by
    have a := nodup_le I.nd (ys := (rangeI m).filter fun v => decide ((adjL T v).length = 1)) fun x hx => by
      have := (I.mem x).mp hx
      exact List.mem_filter.mpr ⟨mem_rangeI.mpr this.1, decide_eq_true this.2⟩
    have b := nodup_le (((rangeI_pw m).filter fun v => decide ((adjL T v).length = 1)).imp fun h => Int.ne_of_lt h) (ys := LV) fun x hx => by
      obtain ⟨h1, h2⟩ := List.mem_filter.mp hx
      exact (I.mem x).mpr ⟨mem_rangeI.mp h1, of_decide_eq_true h2⟩
    omega
  rw [l1]
  unfold wantN
  have key : ∀ l : List Int, (∀ v ∈ l, 1 ≤ (adjL T v).length) → (l.filter fun v => decide ((adjL T v).length = 1)).length = (l.map fun v => 2 - (adjL T v).length).sum := by
    intro l
    induction l with
    | nil => intro _; rfl
    | cons v l ih =>
      intro h
      have hv := h v (List.mem_cons_self ..)
      have ihl := ih fun w hw => h w (List.mem_cons_of_mem _ hw)
      rw [List.filter_cons, List.map_cons, List.sum_cons]
      by_cases e : (adjL T v).length = 1
      · rw [if_pos (decide_eq_true e), List.length_cons]
        omega
      · rw [if_neg (by simpa using e)]
        omega
  exact key _ fun v hv => deg v (mem_rangeI.mp hv).1 (mem_rangeI.mp hv).2
theorem half_len {LV : List Int} : (halfP LV).length = LV.length - LV.length / 2 := by unfold halfP; rw [List.length_map, List.length_range]
/-- no pair of leaves is one leaf twice -/
theorem half_ne {T : List Pr} {m : Int} {LV : List Int} (F : Forest T) (hin : edgesIn m T) (I : LeafI T m LV) : ∀ e ∈ halfP LV, e.1 ≠ e.2 ∧ e.1 ∈ LV ∧ e.2 ∈ LV := fun e he => by
  unfold halfP at he
  obtain ⟨k, hk, rfl⟩ := List.mem_map.mp he
  have hk := List.mem_range.mp hk
  have two : 2 ≤ LV.length := by
    cases hL : LV with
    | nil => rw [hL] at hk; simp at hk
    | cons x l =>
      have hx : x ∈ LV := by rw [hL]; exact List.mem_cons_self ..
      obtain ⟨rx, dx⟩ := (I.mem x).mp hx
      obtain ⟨g, hg⟩ : ∃ g, g ∈ adjL T x := by
        cases e : adjL T x with
        | nil => rw [e] at dx; cases dx
        | cons g _ => exact ⟨g, List.mem_cons_self ..⟩
      obtain ⟨y, ky, dy⟩ := leaf_at F hin _ g x (adj_in hin hg) (Nat.le_refl _) (mem_adj.mpr (mem_adj.mp hg).symm)
      have yr := conn_in (cut_in hin) (adj_in hin hg) ky
      rw [← hL]
      refine two_of hx ((I.mem y).mpr ⟨yr, dy⟩) fun z => ?_
      subst z
      rw [cut_swap] at ky
      exact F.br2 (mem_adj.mp hg) ky.symm
  have l1 : k < LV.length := by omega
  have l2 : k + LV.length / 2 < LV.length := by omega
  dsimp only
  rw [getD_some (List.getElem?_eq_getElem l1), getD_some (List.getElem?_eq_getElem l2)]
  exact ⟨List.pairwise_iff_getElem.mp (List.nodup_iff_pairwise_ne.mp I.nd) k _ l1 l2 (by omega), List.getElem_mem l1, List.getElem_mem l2⟩

/-! the pairs of places that are told, and what they make of the town -/
def fewestF (n : Int) (rows : List Row) : List Pr :=
  (nodeP (tiePairs (partsOf n (leftE rows (partingF n rows))) (partingF n rows) rows) ((partsOf n (leftE rows (partingF n rows))).length : Int) (partsOf n (leftE rows (partingF n rows))) (partsOf n (rows.map (·.2)))).map
    fun e => (hdI (partsOf n (leftE rows (partingF n rows))) e.1, hdI (partsOf n (leftE rows (partingF n rows))) e.2)
theorem pcs_i {n : Int} {E : List Pr} (h : edgesIn n E) : PcsI n E (partsOf n E) := by
  obtain ⟨p1, p2, p3⟩ := pieces_spec h
  exact ⟨p1, p2, p3⟩
/-- streets of a piece that part -/
def outF (par : List Int) (rows : List Row) (q : List Int) : Nat := (rows.filter fun r => decide (r.1 ∈ par) && (decide (r.2.1 ∈ q) || decide (r.2.2 ∈ q))).length
def wantsF (n : Int) (rows : List Row) : Nat := if (partsOf n (leftE rows (partingF n rows))).length = 1 then 0 else ((partsOf n (leftE rows (partingF n rows))).map fun q => 2 - outF (partingF n rows) rows q).sum
theorem drop_mem {α : Type} {X : List α} {i j : Nat} {e : α} (h : X[i]? = some e) (ne : i ≠ j) : e ∈ dropE X j := by
  unfold dropE
  rw [List.mem_append]
  rcases Nat.lt_or_gt_of_ne ne with k | k
  · left
    exact List.mem_of_getElem? (i := i) (by rw [List.getElem?_take, if_pos k]; exact h)
  · right
    refine List.mem_of_getElem? (i := i - (j + 1)) ?_
    rw [List.getElem?_drop, show j + 1 + (i - (j + 1)) = i by omega]
    exact h
theorem drop_left {α : Type} {E X : List α} {k : Nat} (h : k < E.length) : dropE (E ++ X) k = dropE E k ++ X := by
  unfold dropE
  rw [List.take_append_of_le_length (by omega), List.drop_append_of_le_length (by omega), List.append_assoc]
theorem drop_right {α : Type} {E X : List α} {j : Nat} : dropE (E ++ X) (E.length + j) = E ++ dropE X j := by
  unfold dropE
  rw [List.take_append, List.drop_append, List.take_of_length_le (by omega), List.drop_eq_nil_of_le (by omega), Nat.add_sub_cancel_left, List.nil_append, show E.length + j + 1 - E.length = j + 1 by omega, List.append_assoc]
section
variable {n : Int} {rows : List Row}
/-- how many streets a piece wants -/
theorem adj_out (hin : rowsIn n rows) (pw : rows.Pairwise fun p q => p.1 < q.1) {Q : List (List Int)} (I : PcsI n (leftE rows (partingF n rows)) Q) {i : Nat} {q : List Int} (hi : Q[i]? = some q) : (adjL (tiePairs Q (partingF n rows) rows) (i : Int)).length = outF (partingF n rows) rows q := by
  have T := forest0 hin pw I
  unfold tiePairs at T ⊢
  unfold outF
  have ne : ∀ r ∈ rows, r.1 ∈ partingF n rows → poI Q r.2.1 ≠ poI Q r.2.2 := fun r hr hp => T.ne (List.mem_map.mpr ⟨r, List.mem_filter.mpr ⟨hr, decide_eq_true hp⟩, rfl⟩)
  have at_ : ∀ x, (0 ≤ x ∧ x < n) → (poI Q x = (i : Int) ↔ x ∈ q) := fun x hx => by
    constructor
    · intro h
      obtain ⟨q', h1, h2⟩ := po_spec I hx.1 hx.2
      have : pieceOfF Q x = i := by unfold poI at h; omega
      rw [this, hi] at h1
      cases h1
      exact h2
    · intro h
      have := po_at I hi h
      unfold poI
      omega
  have key : ∀ l : List Row, (∀ r ∈ l, r ∈ rows) → (adjL ((l.filter fun r => decide (r.1 ∈ partingF n rows)).map fun r => (poI Q r.2.1, poI Q r.2.2)) (i : Int)).length = (l.filter fun r => decide (r.1 ∈ partingF n rows) && (decide (r.2.1 ∈ q) || decide (r.2.2 ∈ q))).length := by
    intro l
    induction l with
    | nil => intro _; rfl
    | cons r l ih =>
      intro hl
      have hr := hl r (List.mem_cons_self ..)
      have ihl := ih fun x hx => hl x (List.mem_cons_of_mem _ hx)
      have z := hin r hr
      rw [List.filter_cons, List.filter_cons]
      by_cases hp : r.1 ∈ partingF n rows
      · have nz := ne r hr hp
        have a1 := at_ r.2.1 z.1
        have a2 := at_ r.2.2 z.2
        rw [if_pos (decide_eq_true hp), List.map_cons]
        show ((if poI Q r.2.1 = (i : Int) then [poI Q r.2.2] else []) ++ (if poI Q r.2.2 = (i : Int) then [poI Q r.2.1] else []) ++ adjL _ (i : Int)).length = _
        rw [List.length_append, ihl, List.length_append]
        by_cases h1 : r.2.1 ∈ q
        · have h2 : r.2.2 ∉ q := fun h2 => nz ((a1.mpr h1).trans (a2.mpr h2).symm)
          rw [if_pos (a1.mpr h1), if_neg (fun k => h2 (a2.mp k)), if_pos (by simp [hp, h1])]
          simp
          omega
        · by_cases h2 : r.2.2 ∈ q
          · rw [if_neg (fun k => h1 (a1.mp k)), if_pos (a2.mpr h2), if_pos (by simp [hp, h2])]
            simp
            omega
          · rw [if_neg (fun k => h1 (a1.mp k)), if_neg (fun k => h2 (a2.mp k)), if_neg (by simp [h1, h2])]
            simp
      · rw [if_neg (by simp [hp]), if_neg (by simp [hp])]
        exact ihl
  exact key rows fun r h => h
theorem want_out (hin : rowsIn n rows) (pw : rows.Pairwise fun p q => p.1 < q.1) {Q : List (List Int)} (I : PcsI n (leftE rows (partingF n rows)) Q) : wantN (tiePairs Q (partingF n rows) rows) Q.length = (Q.map fun q => 2 - outF (partingF n rows) rows q).sum := by
  unfold wantN
  congr 1
  apply List.ext_getElem?
  intro i
  rw [List.getElem?_map, List.getElem?_map]
  by_cases hi : i < Q.length
  · have e := List.getElem?_eq_getElem hi
    have er : (rangeI (Q.length : Int))[i]? = some (i : Int) := by
      unfold rangeI
      rw [List.getElem?_map, List.getElem?_range (by omega)]
      simp
    rw [er, e]
    show some (2 - (adjL _ (i : Int)).length) = some (2 - outF _ _ Q[i])
    rw [adj_out hin pw I e]
  · rw [List.getElem?_eq_none (by rw [rangeI_len]; omega), List.getElem?_eq_none (by omega)]
    rfl
structure FewI (n : Int) (rows : List Row) (X : List Pr) : Prop where
  rng : ∀ e ∈ X, (0 ≤ e.1 ∧ e.1 < n) ∧ (0 ≤ e.2 ∧ e.2 < n) ∧ e.1 ≠ e.2
  len : X.length = (wantsF n rows + 1) / 2
  con : ∀ x y, (0 ≤ x ∧ x < n) → (0 ≤ y ∧ y < n) → Conn (rows.map (·.2) ++ X) x y
  safe : ∀ k a b, (rows.map (·.2) ++ X)[k]? = some (a, b) → Conn (dropE (rows.map (·.2) ++ X) k) a b
theorem few_i (n1 : 1 ≤ n) (hin : rowsIn n rows) (pw : rows.Pairwise fun p q => p.1 < q.1) : FewI n rows (fewestF n rows) := by
  have I := pcs_i (leftE_in (gone := partingF n rows) hin)
  have IP := pcs_i (rowsIn_map hin)
  have F0 := forest0 hin pw I
  have hW : wantsF n rows = if (partsOf n (leftE rows (partingF n rows))).length = 1 then 0 else wantN (tiePairs (partsOf n (leftE rows (partingF n rows))) (partingF n rows) rows) ((partsOf n (leftE rows (partingF n rows))).length : Int) := by
    unfold wantsF
    rw [want_out hin pw I]
  unfold fewestF
  generalize partsOf n (leftE rows (partingF n rows)) = Q at I F0 hW
  generalize hP : partsOf n (rows.map (·.2)) = P at IP
  have pne : P ≠ [] := fun z => by
    obtain ⟨q, hq, _⟩ := IP.all 0 (Int.le_refl 0) (by omega)
    rw [z] at hq; cases hq
  obtain ⟨s, es, S, con⟩ := tied_ok hin pw I IP pne
  have m1 : 1 ≤ (Q.length : Int) := by
    have := po_lt I (x := 0) (Int.le_refl 0) (by omega)
    omega
  unfold nodeP tiedF
  rw [es]
  have T := S.fo
  have LI := leaf_i m1 T S.rng con
  generalize hL : tiePairs Q (partingF n rows) rows = L at *
  obtain ⟨LV, hLV⟩ : ∃ LV, leavesF (L ++ s.1) Q.length = LV := ⟨_, rfl⟩
  rw [hLV] at LI ⊢
  have hne := half_ne T S.rng LI
  have hr : ∀ e ∈ s.1 ++ halfP LV, (0 ≤ e.1 ∧ e.1 < (Q.length : Int)) ∧ (0 ≤ e.2 ∧ e.2 < (Q.length : Int)) ∧ e.1 ≠ e.2 := fun e he => by
    rcases List.mem_append.mp he with he | he
    · have := S.rng e (List.mem_append_right _ he)
      exact ⟨this.1, this.2, T.ne (a := e.1) (b := e.2) (List.mem_append_right _ he)⟩
    · obtain ⟨h1, h2, h3⟩ := hne e he
      exact ⟨((LI.mem _).mp h2).1, ((LI.mem _).mp h3).1, h1⟩
  obtain ⟨fp, hfp⟩ : ∃ fp, s.1 ++ halfP LV = fp := ⟨_, rfl⟩
  obtain ⟨X, hX⟩ : ∃ X, (fp.map fun e => (hdI Q e.1, hdI Q e.2)) = X := ⟨_, rfl⟩
  rw [hfp] at hr ⊢
  rw [hX]
  have E0E : ∀ x y, Conn (leftE rows (partingF n rows)) x y → Conn (rows.map (·.2)) x y := fun x y k => by rw [← leftE_nil]; exact k.mono (leftE_mono fun t ht => by cases ht)
  -- a pair of nodes that is told is a pair of places
  have told : ∀ {u v : Int}, (0 ≤ u ∧ u < (Q.length : Int)) → (0 ≤ v ∧ v < (Q.length : Int)) → ∀ {G : List Pr}, (hdI Q u, hdI Q v) ∈ G → ∃ x y, (0 ≤ x ∧ x < n) ∧ (0 ≤ y ∧ y < n) ∧ poI Q x = u ∧ poI Q y = v ∧ Conn G x y := fun {u v} hu hv {G} h => by
    obtain ⟨a1, a2⟩ := hd_spec I hu.1 hu.2
    obtain ⟨b1, b2⟩ := hd_spec I hv.1 hv.2
    exact ⟨_, _, a1, b1, a2, b2, .one (.inl h)⟩
  have Xat : ∀ {j : Nat} {e : Pr}, fp[j]? = some e → X[j]? = some (hdI Q e.1, hdI Q e.2) := fun h => by rw [← hX, List.getElem?_map, h]; rfl
  have fpl : ∀ {e : Pr}, e ∈ s.1 ∨ e ∈ halfP LV → e ∈ fp := fun h => by rw [← hfp]; exact List.mem_append.mpr h
  -- all is tied, if all but the pairs of leaves is there
  have whole : ∀ {G : List Pr}, (∀ e ∈ rows.map (·.2), e ∈ G) → (∀ e ∈ s.1, (hdI Q e.1, hdI Q e.2) ∈ G) → ∀ x y, (0 ≤ x ∧ x < n) → (0 ≤ y ∧ y < n) → Conn G x y := fun {G} h1 h2 x y hx hy => by
    have l1 := po_lt I hx.1 hx.2
    have l2 := po_lt I hy.1 hy.2
    refine lift_conn I (fun a b k => (E0E a b k).mono h1) (fun u v huv => ?_) (con (poI Q x) (poI Q y) (by unfold poI; omega) (by unfold poI; omega)) x y hx hy rfl rfl
    rcases List.mem_append.mp huv with huv | huv
    · rw [← hL] at huv
      obtain ⟨r, hr', _, e1, e2⟩ := mem_ties.mp huv
      exact ⟨r.2.1, r.2.2, (hin r hr').1, (hin r hr').2, e1, e2, .one (.inl (h1 _ (List.mem_map.mpr ⟨r, hr', rfl⟩)))⟩
    · have z := hr (u, v) (fpl (.inl huv))
      exact told z.1 z.2.1 (h2 _ huv)
  refine ⟨fun e he => ?_, ?_, fun x y hx hy => whole (fun e he => List.mem_append_left _ he) (fun e he => List.mem_append_right _ ?_) x y hx hy, fun k a b hk => ?_⟩
  · rw [← hX] at he
    obtain ⟨p, hp, rfl⟩ := List.mem_map.mp he
    obtain ⟨h1, h2, h3⟩ := hr p hp
    obtain ⟨a1, a2⟩ := hd_spec I h1.1 h1.2
    obtain ⟨b1, b2⟩ := hd_spec I h2.1 h2.2
    exact ⟨a1, b1, fun z => h3 (by rw [← a2, ← b2]; exact congrArg _ z)⟩
  · rw [← hX, List.length_map, ← hfp, List.length_append, half_len]
    have w := S.want
    have l := S.len
    rw [hW]
    by_cases hq : Q.length = 1
    · rw [if_pos hq]
      have lv : LV = [] := by
        cases hc : LV with
        | nil => rfl
        | cons x t =>
          have hx := (LI.mem x).mp (by rw [hc]; exact List.mem_cons_self ..)
          obtain ⟨g, hg⟩ : ∃ g, g ∈ adjL (L ++ s.1) x := by
            cases e : adjL (L ++ s.1) x with
            | nil => rw [e] at hx; cases hx.2
            | cons g _ => exact ⟨g, List.mem_cons_self ..⟩
          have rg := adj_in S.rng hg
          have : x ≠ g := fun z => T.br2 (mem_adj.mp hg) (z ▸ .refl _)
          omega
      have p1 : P.length ≤ 1 := by
        rcases P with _ | ⟨p, _ | ⟨p', t⟩⟩
        · simp
        · simp
        · have pc := IP.pc p (by simp)
          have pc' := IP.pc p' (by simp)
          have dj := (List.pairwise_cons.mp IP.dj).1 p' (by simp)
          refine absurd (E0E _ _ ((po_iff I ⟨pc.lo, pc.hi⟩ ⟨pc'.lo, pc'.hi⟩).mp ?_)) dj
          have := po_lt I pc.lo pc.hi
          have := po_lt I pc'.lo pc'.hi
          omega
      rw [lv]
      simp only [List.length_nil]
      omega
    · rw [if_neg hq, leaf_count (by omega) S.rng con LI]
      omega
  · rw [← hX]
    exact List.mem_map.mpr ⟨e, fpl (.inl he), rfl⟩
  · by_cases hlt : k < (rows.map (·.2)).length
    · rw [drop_left hlt]
      rw [List.getElem?_append_left hlt] at hk
      have hlt' : k < rows.length := by simpa using hlt
      have er := List.getElem?_eq_getElem hlt'
      have hr' := List.getElem_mem hlt'
      generalize rows[k] = r at er hr'
      have eab : r.2 = (a, b) := by
        rw [List.getElem?_map, er] at hk
        exact Option.some.inj hk
      have ea : r.2.1 = a := congrArg Prod.fst eab
      have eb : r.2.2 = b := congrArg Prod.snd eab
      have el := leftE_one pw er
      rw [← el]
      by_cases hp : r.1 ∈ partingF n rows
      · have z := hin r hr'
        have l1 := po_lt I z.1.1 z.1.2
        have l2 := po_lt I z.2.1 z.2.2
        have hab : (poI Q r.2.1, poI Q r.2.2) ∈ L := by rw [← hL]; exact mem_ties.mpr ⟨r, hr', hp, rfl, rfl⟩
        have hadj : poI Q r.2.2 ∈ adjL (L ++ s.1) (poI Q r.2.1) := mem_adj.mpr (.inl (List.mem_append_left _ hab))
        have ra : 0 ≤ poI Q r.2.1 ∧ poI Q r.2.1 < (Q.length : Int) := by unfold poI; omega
        have rb : 0 ≤ poI Q r.2.2 ∧ poI Q r.2.2 < (Q.length : Int) := by unfold poI; omega
        obtain ⟨p, q, hpq, hc⟩ := leaf_cross T S.rng con LI hadj ra
        have zpq := hr (p, q) (fpl (.inr hpq))
        obtain ⟨p1, p2⟩ := hd_spec I zpq.1.1 zpq.1.2
        obtain ⟨q1, q2⟩ := hd_spec I zpq.2.1.1 zpq.2.1.2
        have lift : ∀ {u v : Int}, Conn (cutL (L ++ s.1) (poI Q r.2.1) (poI Q r.2.2)) u v → ∀ x y, (0 ≤ x ∧ x < n) → (0 ≤ y ∧ y < n) → poI Q x = u → poI Q y = v → Conn (leftE rows [r.1] ++ X) x y := fun c => lift_conn I (fun x y k => (k.mono (leftE_mono fun t ht => by rw [List.mem_singleton.mp ht]; exact hp)).mono fun e he => List.mem_append_left _ he) (fun u v huv => by
          obtain ⟨h1, h2, _⟩ := mem_cut.mp huv
          rcases List.mem_append.mp h1 with h1 | h1
          · rw [← hL] at h1
            obtain ⟨r', hr2, _, e1, e2⟩ := mem_ties.mp h1
            refine ⟨r'.2.1, r'.2.2, (hin r' hr2).1, (hin r' hr2).2, e1, e2, .one (.inl (List.mem_append_left _ (mem_leftE.mpr ⟨r'.1, hr2, fun z => h2 ?_⟩)))⟩
            have := uniR pw hr2 hr' (List.mem_singleton.mp z)
            subst this
            rw [← e1, ← e2]
          · have z := hr (u, v) (fpl (.inl h1))
            refine told z.1 z.2.1 (List.mem_append_right _ ?_)
            rw [← hX]
            exact List.mem_map.mpr ⟨(u, v), fpl (.inl h1), rfl⟩) c
        have bridge : Conn (leftE rows [r.1] ++ X) (hdI Q p) (hdI Q q) := .one (.inl (List.mem_append_right _ (by rw [← hX]; exact List.mem_map.mpr ⟨(p, q), fpl (.inr hpq), rfl⟩)))
        rw [← ea, ← eb]
        rcases hc with ⟨c1, c2⟩ | ⟨c1, c2⟩
        · exact (lift c1 _ _ z.1 p1 rfl p2).trans (bridge.trans (lift c2 _ _ z.2 q1 rfl q2).symm)
        · exact (lift c2 _ _ z.1 q1 rfl q2).trans (bridge.symm.trans (lift c1 _ _ z.2 p1 rfl p2).symm)
      · have nb : Conn (leftE rows [r.1]) r.2.1 r.2.2 := Classical.byContradiction fun z => hp ((mem_parting hin pw hr').mpr z)
        rw [ea, eb] at nb
        exact nb.mono fun e he => List.mem_append_left _ he
    · obtain ⟨j, rfl⟩ : ∃ j, k = (rows.map (·.2)).length + j := ⟨k - (rows.map (·.2)).length, by omega⟩
      rw [drop_right]
      rw [List.getElem?_append_right (by omega), Nat.add_sub_cancel_left] at hk
      have hj : j < fp.length := by
        have := (List.getElem?_eq_some_iff.mp hk).1
        rw [← hX, List.length_map] at this
        exact this
      have ej := List.getElem?_eq_getElem hj
      have mj := List.getElem_mem hj
      generalize hfe : fp[j] = fe at ej mj
      obtain ⟨u, v⟩ := fe
      have zuv := hr (u, v) mj
      have eX := Xat ej
      rw [hk] at eX
      obtain ⟨rfl, rfl⟩ := Prod.mk.inj (Option.some.inj eX)
      obtain ⟨p1, p2⟩ := hd_spec I zuv.1.1 zuv.1.2
      obtain ⟨q1, q2⟩ := hd_spec I zuv.2.1.1 zuv.2.1.2
      by_cases hjs : j < s.1.length
      · -- a pair that ties parts
        have ms : (u, v) ∈ s.1 := by
          rw [← hfp, List.getElem?_append_left hjs] at ej
          exact List.mem_of_getElem? ej
        have hadj : v ∈ adjL (L ++ s.1) u := mem_adj.mpr (.inl (List.mem_append_right _ ms))
        obtain ⟨p, q, hpq, hc⟩ := leaf_cross T S.rng con LI hadj zuv.1
        have zpq := hr (p, q) (fpl (.inr hpq))
        obtain ⟨a1, a2⟩ := hd_spec I zpq.1.1 zpq.1.2
        obtain ⟨b1, b2⟩ := hd_spec I zpq.2.1.1 zpq.2.1.2
        have keep : ∀ {e : Pr} {i : Nat}, fp[i]? = some e → i ≠ j → (hdI Q e.1, hdI Q e.2) ∈ rows.map (·.2) ++ dropE X j := fun h ne => List.mem_append_right _ (drop_mem (Xat h) ne)
        have lift : ∀ {u' v' : Int}, Conn (cutL (L ++ s.1) u v) u' v' → ∀ x y, (0 ≤ x ∧ x < n) → (0 ≤ y ∧ y < n) → poI Q x = u' → poI Q y = v' → Conn (rows.map (·.2) ++ dropE X j) x y := fun c => lift_conn I (fun x y k => (E0E x y k).mono fun e he => List.mem_append_left _ he) (fun u' v' huv => by
          obtain ⟨h1, h2, _⟩ := mem_cut.mp huv
          rcases List.mem_append.mp h1 with h1 | h1
          · rw [← hL] at h1
            obtain ⟨r', hr2, _, e1, e2⟩ := mem_ties.mp h1
            exact ⟨r'.2.1, r'.2.2, (hin r' hr2).1, (hin r' hr2).2, e1, e2, .one (.inl (List.mem_append_left _ (List.mem_map.mpr ⟨r', hr2, rfl⟩)))⟩
          · have z := hr (u', v') (fpl (.inl h1))
            obtain ⟨i, hi⟩ := List.mem_iff_getElem?.mp (fpl (.inl h1) : (u', v') ∈ fp)
            refine told z.1 z.2.1 (keep hi fun z => h2 ?_)
            subst z
            rw [ej] at hi
            exact (Option.some.inj hi).symm) c
        have bridge : Conn (rows.map (·.2) ++ dropE X j) (hdI Q p) (hdI Q q) := by
          obtain ⟨i, hi⟩ := List.mem_iff_getElem?.mp hpq
          have hi2 : fp[s.1.length + i]? = some (p, q) := by rw [← hfp, List.getElem?_append_right (by omega), Nat.add_sub_cancel_left]; exact hi
          exact .one (.inl (keep hi2 (by omega)))
        rcases hc with ⟨c1, c2⟩ | ⟨c1, c2⟩
        · exact (lift c1 _ _ p1 a1 p2 a2).trans (bridge.trans (lift c2 _ _ q1 b1 q2 b2).symm)
        · exact (lift c2 _ _ p1 b1 p2 b2).trans (bridge.symm.trans (lift c1 _ _ q1 a1 q2 a2).symm)
      · refine whole (fun e he => List.mem_append_left _ he) (fun e he => List.mem_append_right _ ?_) _ _ p1 q1
        obtain ⟨i, hi⟩ := List.mem_iff_getElem?.mp he
        have li := (List.getElem?_eq_some_iff.mp hi).1
        have hi2 : fp[i]? = some e := by rw [← hfp, List.getElem?_append_left li]; exact hi
        exact drop_mem (Xat hi2) (by omega)
/-- such a town is whole -/
theorem whole_E {E : List Pr} (n1 : 1 ≤ n) (hE : edgesIn n E) (con : ∀ x y, (0 ≤ x ∧ x < n) → (0 ≤ y ∧ y < n) → Conn E x y) (safe : ∀ k a b, E[k]? = some (a, b) → Conn (dropE E k) a b) : (partsOf n E).length = 1 ∧ goneF n E = [] := by
  have I := pcs_i hE
  constructor
  · obtain ⟨q, hq, _⟩ := I.all 0 (Int.le_refl 0) (by omega)
    rcases hP : partsOf n E with _ | ⟨p, _ | ⟨p', t⟩⟩
    · rw [hP] at hq; cases hq
    · rfl
    · rw [hP] at I
      have pc := I.pc p (by simp)
      have pc' := I.pc p' (by simp)
      exact absurd (con _ _ ⟨pc.lo, pc.hi⟩ ⟨pc'.lo, pc'.hi⟩) ((List.pairwise_cons.mp I.dj).1 p' (by simp))
  · unfold goneF
    rw [List.filter_eq_nil_iff]
    intro k hk z
    have hk := List.mem_range.mp hk
    have ek := List.getElem?_eq_getElem hk
    have hm := hE _ (List.getElem_mem hk)
    generalize E[k] = e at ek hm
    obtain ⟨a, b⟩ := e
    exact (more_parts hE (dropE_in hE) hm.1 hm.2 (dropE_conn ek)).mp (of_decide_eq_true z) (safe k a b ek)
theorem few_whole (n1 : 1 ≤ n) (hin : rowsIn n rows) (pw : rows.Pairwise fun p q => p.1 < q.1) : edgesIn n (rows.map (·.2) ++ fewestF n rows) ∧ (partsOf n (rows.map (·.2) ++ fewestF n rows)).length = 1 ∧ goneF n (rows.map (·.2) ++ fewestF n rows) = [] := by
  have F := few_i n1 hin pw
  have hE : edgesIn n (rows.map (·.2) ++ fewestF n rows) := fun e he => by
    rcases List.mem_append.mp he with he | he
    · exact rowsIn_map hin e he
    · have := F.rng e he
      exact ⟨this.1, this.2.1⟩
  exact ⟨hE, whole_E n1 hE F.con F.safe⟩
end

abbrev s_piece_of : Stmt := top 30
theorem sc_piece_of : FnScope ["some", "place", "number", "piece"] ["some", "place"] (defScope s_piece_of) := ⟨rfl, rfl, rfl, by decide +kernel, rfl, by decide +kernel, by decide +kernel⟩
abbrev s_wanting : Stmt := top 32
theorem sc_wanting : FnScope ["ties", "numbers", "found", "number"] ["ties", "numbers"] (defScope s_wanting) := ⟨rfl, rfl, rfl, by decide +kernel, rfl, by decide +kernel, by decide +kernel⟩
abbrev s_leaves_of : Stmt := top 34
theorem sc_leaves_of : FnScope ["ties", "roots", "number", "root", "found", "waiting", "here", "ahead", "goal"] ["ties"] (defScope s_leaves_of) := ⟨rfl, rfl, rfl, by decide +kernel, rfl, by decide +kernel, by decide +kernel⟩
section
variable {K : PySem.W.Frag} {B F0 : Hp} {ρ : List Sl} {te ta tb : TE} {ds : List PyData}
/-- enumerate(xs), xs handed in: data of any kind -/
theorem wk_enumA {a : Addr} {xs : List V} {F1 : Hp} (h : SqL K F1 a xs) (hd : DpAll K F1 xs ds) : Wk (Ite K a) (dat K) F1 (enumD ds) where
  goes := fun i H hi s => by
    rw [enumD_len] at hi
    exact ⟨xs, xs[i]'(by rw [dpAll_len hd]; exact hi), s.seq h, by simp [dpAll_len hd, hi]⟩
  stops := fun H s => ⟨xs, s.seq h, by rw [dpAll_len hd, enumD_len]; exact Nat.le_refl _⟩
  yields := fun i F H x H' hi s1 s2 y => by
    obtain ⟨T, z, rfl, h1, rfl, y⟩ := y
    obtain ⟨d, h3, h4⟩ := dpAll_getV hd (y xs ((s1.trans s2).seq h))
    obtain ⟨F2, g2, s, e⟩ := (Gr.new (o := .tup [.int (i : Nat), z]) s2 h1).putT rfl upd_same
    exact ⟨F2, _, g2, enumD_get h3, .tup (.inl (.inl e)) (.cons (.int _) (.cons (dp_mono (s1.trans s) h4) .nil))⟩
theorem evj_enumA {α : Type} {g : α → PyData} {xs : List α} (h : Ev B F0 ρ te (dat K (.list (xs.map g)))) : EvJ B F0 ρ (iEnum K (tCons te tNil)) (dat K) (xs.zipIdx.map fun p => .tuple [.int (p.2 : Int), g p.1]) := by
  rw [← enumD_map]
  exact fun F H σ c R r => ea_one h F H σ c _ fun v F' H' g p => by
    cases p with
    | @lst a xs _ h1 h2 => exact ⟨a, xs, rfl, g.i.seq h1, r _ F' H' g (wk_enumA h1 h2)⟩
end
abbrev spPo (K : PySem.W.Frag) : Sp := Fp K (fun _ : List (List Int) × Int => True) (fun x => [dat K (partsD x.1), dat K (.int x.2)]) (fun x => .int (poI x.1 x.2))
abbrev tiesD (L : List Pr) (m : Int) : PyData := .list ((rangeI m).map fun v => intsD (adjL L v))
abbrev spWant (K : PySem.W.Frag) : Sp := Fp K (fun x : List Pr × Int × List Int => (∀ v ∈ x.2.2, 0 ≤ v ∧ v < x.2.1) ∧ x.2.2.length ≤ 1000) (fun x => [dat K (tiesD x.1 x.2.1), dat K (intsD x.2.2)]) (fun x => intsD (wantF x.1 x.2.2))
abbrev spLeaves (K : PySem.W.Frag) : Sp := Fp K (fun x : List Pr × Int => Forest x.1 ∧ edgesIn x.2 x.1 ∧ 1 ≤ x.2 ∧ x.2 ≤ 100) (fun x => [dat K (tiesD x.1 x.2)]) (fun x => intsD (leavesF x.1 x.2))
theorem ties_at {L : List Pr} {m v : Int} (v0 : 0 ≤ v) (v1 : v < m) : atI ((rangeI m).map fun v => intsD (adjL L v)) v = some (intsD (adjL L v)) := by
  refine atI_map (fun v => intsD (adjL L v)) (atI_nn v0 ?_)
  unfold rangeI
  rw [List.getElem?_map, List.getElem?_range (by omega)]
  show some (0 + (v.toNat : Int)) = some v
  congr 1
  omega
theorem wantF_len {L : List Pr} : ∀ ns : List Int, (wantF L ns).length ≤ 2 * ns.length
  | [] => Nat.le_refl _
  | v :: ns => by
    have := wantF_len (L := L) ns
    have e : wantF L (v :: ns) = List.replicate (2 - (adjL L v).length) v ++ wantF L ns := by unfold wantF; rw [List.flatMap_cons]
    rw [e, List.length_append, List.length_replicate, List.length_cons]
    omega
/-- the visits that are left: of each the steps, too -/
abbrev Vi := Nat × Int × Int
def remF (L : List Pr) (ws : List Vi) : List Int := ws.reverse.flatMap fun v => visitF L v.1 v.2.1 v.2.2
def ViOk (L : List Pr) (m : Int) (v : Vi) : Prop := (0 ≤ v.2.1 ∧ v.2.1 < m) ∧ (sideN L m v.2.1 v.2.2).length ≤ v.1
def kidsF (L : List Pr) (k : Nat) (c h : Int) : List Vi := ((adjL L c).filter fun g => decide (g ≠ h)).map fun g => (k, g, c)
theorem rem_len {L : List Pr} {m : Int} : ∀ {ws : List Vi}, (∀ v ∈ ws, ViOk L m v) → ws.length ≤ (remF L ws).length
  | [], _ => Nat.le_refl _
  | v :: ws, h => by
    have ih := rem_len (ws := ws) fun x hx => h x (List.mem_cons_of_mem _ hx)
    have hv := h v (List.mem_cons_self ..)
    have e : remF L (v :: ws) = remF L ws ++ visitF L v.1 v.2.1 v.2.2 := by unfold remF; rw [List.reverse_cons, List.flatMap_append]; simp
    have p : 0 < (visitF L v.1 v.2.1 v.2.2).length := by
      obtain ⟨k, c, g⟩ := v
      have := side_pos (L := L) (h := g) hv.1
      have k1 := hv.2
      dsimp only at this k1 ⊢
      cases k with
      | zero => omega
      | succ k => unfold visitF; simp
    rw [e, List.length_append, List.length_cons]
    omega
theorem rem_pop {L : List Pr} {ws : List Vi} {k : Nat} {c h : Int} : remF L (ws ++ [(k + 1, c, h)]) = c :: remF L (ws ++ kidsF L k c h) := by
  unfold remF kidsF
  rw [List.reverse_append, List.reverse_append, List.reverse_singleton, List.singleton_append, List.flatMap_cons, List.flatMap_append]
  show (c :: _) ++ _ = c :: (_ ++ _)
  rw [List.cons_append, ← List.map_reverse, List.flatMap_map]
theorem kids_ok {L : List Pr} {m : Int} (T : Forest L) (hin : edgesIn m L) {k : Nat} {c h : Int} (hv : ViOk L m (k + 1, c, h)) : ∀ v ∈ kidsF L k c h, ViOk L m v := fun v hv2 => by
  obtain ⟨g, hg, rfl⟩ := List.mem_map.mp hv2
  obtain ⟨h1, h2⟩ := List.mem_filter.mp hg
  have := side_lt T hin hv.1 h1 (by simpa using h2)
  have k1 := hv.2
  dsimp only at k1 this
  exact ⟨adj_in hin h1, by dsimp only; omega⟩
section
variable {K : PySem.W.Frag} {B F0 : Hp} {ρ : List Sl} {t : L2.TT} {D : Ends} {u ts us : TS}
theorem q_whenJ {c : Bool} (J : List Sl → Prop) (h : EvT B F0 ρ t c) (h1 : c = true → ∀ N : L2.St → Hp → Prop, (∀ ρ', J ρ' → At B F0 N ρ') → At B F0 (ts { D with nx := N }) ρ) (h2 : c = false → J ρ) (k : ∀ ρ', J ρ' → At B F0 (u D) ρ') : At B F0 (tSeq (tIfS t ts tNext) u D) ρ :=
  q_when h (fun z => h1 z _ k) fun z => k ρ (h2 z)
end
section
variable {P : Program} {w : World} {K : PySem.W.Frag} {mg : Str → Option Value} {base : Heap}
theorem ok_piece_of (Z : Zs mg) (D : Dfn K mg "piece_of" "piece_of" s_piece_of ["some", "place"]) : Ok P w K mg base CX0 1 "piece_of" ["some", "place"] (spPo K) := by
  refine fp_ok D sc_piece_of (by decide) (fun _ => rfl) (fun _ => stabC st_dat (stab1 st_dat)) (fun f cdv A outer s H E hr => ⟨_, (pss_cons (ps_for PassesOwn.never rfl (pi_enum rfl Z.enumerate (pa_cons (pv 0) pa_nil)) (kpg_tup K 2 rfl (pgs_cons (pg_name (i := 2) sc_piece_of.nd rfl (Or.inl rfl)) (pgs_cons (pg_name (i := 3) sc_piece_of.nd rfl (Or.inl rfl)) pgs_nil)))
      (pss_one (ps_if (pt_cmpR (kop_in_seq K) (pv 1) (pv 3) rfl) (pss_one (ps_ret (pv 2))) pss_nil)))
    (pss_one (ps_ret pe_int))), ?_⟩)
  rintro ⟨S, x⟩ - Q q
  dsimp only at q
  walk_at "go"
  refine q_for (xs := S.zipIdx) (e := fun p => .tuple [.int (p.2 : Int), intsD p.1]) (q := dat K) (EvJ.i (evj_enumA (ev_var rfl)))
    (fun pre ρ' => ∃ s3 s4, (∀ p ∈ pre, x ∉ p.1) ∧ ρ' = [sa K (partsD S), sa K (.int x), s3, s4]) ?a1 ?a2 ?a3
  case a1 => exact ⟨_, _, fun r hr => (nomatch hr), rfl⟩
  case a2 =>
    rintro F1 pre ⟨piece, k⟩ post ρ' hx ⟨s3, s4, hp, rfl⟩
    obtain ⟨z1, z2, z3⟩ := zip_at hx
    refine ⟨_, _, bind_tupD (bindld_cons (bind_name st_dat) (bindld_cons (bind_name st_dat) bindld_nil)) rfl, ?_⟩
    refine at_when (c := decide (x ∈ piece)) (et_test (K := K) (Ev.hd (ev_inI (neg := false) (evh_var rfl rd_sa) (evh_var rfl rd_sa)))) (fun h => ?_) (fun h => ?_)
    · refine at_ret (K := K) (d := .int (k : Int)) (EvH.nw (evh_var rfl rd_sa) rfl) ?_
      have e : pieceOfF S x = k := by
        have e2 : (S.findIdx? fun q => decide (x ∈ q)) = some k := by
          refine List.findIdx?_eq_some_iff_getElem.mpr ⟨z2, ?_, fun j hj => ?_⟩
          · rw [List.getElem?_eq_getElem z2] at z3
            cases z3
            exact h
          · have hj2 : j < S.length := by omega
            have hm : (S[j], j) ∈ pre := by
              have g : S.zipIdx[j]? = some (S[j], j) := by rw [List.getElem?_zipIdx, List.getElem?_eq_getElem hj2]; simp
              rw [hx, List.getElem?_append_left (by omega)] at g
              exact List.mem_of_getElem? g
            have := hp _ hm
            simpa using this
        unfold pieceOfF
        rw [e2]
        rfl
      have e3 : poI S x = (k : Int) := by unfold poI; rw [e]
      rw [e3] at q
      exact q
    · refine at_nxt (at_lp ⟨_, _, fun r hr => ?_, rfl⟩)
      rcases List.mem_append.mp hr with hr | hr
      · exact hp r hr
      · rw [List.mem_singleton.mp hr]
        simpa using h
  case a3 =>
    rintro ρ' ⟨s3, s4, hp, rfl⟩
    refine at_ret (K := K) (d := .int 0) ev_int ?_
    have e : poI S x = 0 := by
      unfold poI pieceOfF
      rw [List.findIdx?_eq_none_iff.mpr fun p hp2 => ?_]
      · rfl
      · obtain ⟨j, hj⟩ := List.mem_iff_getElem?.mp hp2
        have g : S.zipIdx[j]? = some (p, j) := by rw [List.getElem?_zipIdx, hj]; simp
        have := hp _ (List.mem_of_getElem? g)
        simpa using this
    rw [e] at q
    exact q
theorem ok_wanting (Z : Zs mg) (D : Dfn K mg "wanting" "wanting" s_wanting ["ties", "numbers"]) : Ok P w K mg base CX0 1 "wanting" ["ties", "numbers"] (spWant K) := by
  refine fp_ok D sc_wanting (by decide) (fun _ => rfl) (fun _ => stabC st_dat (stab1 st_dat)) (fun f cdv A outer s H E hr => ⟨_, (pss_cons (ps_set (i := 2) sc_wanting.nd rfl (Or.inl rfl) (pe_lst pa_nil))
    (pss_cons (ps_for PassesOwn.never rfl (kpi_list K (pv 1)) (pg_name (i := 3) sc_wanting.nd rfl (Or.inl rfl))
      (pss_one (ps_expr (pe_bm PySem.F.plainAttrs_list PySem.F.slot_list_extend PySem.F.type_list_extend mt_extend (pv 2) (pa_cons (pe_op op_rep (pe_lst (pa_cons (pv 3) pa_nil)) (pe_callB (call_max2 rfl) (by rfl) Z.max (by decide +kernel) (pa_cons pe_int (pa_cons (pe_op op_sub pe_int (pe_callB (kcall_len_seq K) (by rfl) Z.len PySem.boot_len (pa_cons (pe_ix (kix_list K) (pv 0) (pv 3) (fun _ _ => rfl)) pa_nil))) pa_nil)))) pa_nil)))))
    (pss_one (ps_ret (pv 2))))), ?_⟩)
  rintro ⟨L, m, ns⟩ ⟨hns, hl⟩ Q q
  dsimp only at hns hl q
  walk_at "go"
  refine q_setM K (ds := []) (evm_lst eas_nil (by simp)) (q_for (xs := ns) (e := PyData.int) (q := dat K) (EvJ.i (evj_listD (ev_var rfl)))
    (fun pre ρ' => ∃ s3, ρ' = [sa K (tiesD L m), sa K (intsD ns), ml K H ((wantF L pre).map .int), s3]) ?a1 ?a2 ?a3)
  case a1 => exact ⟨_, rfl⟩
  case a2 =>
    rintro F1 pre v post ρ' hx ⟨s3, rfl⟩
    have hv := hns v (by rw [hx]; simp)
    have lw := wantF_len (L := L) pre
    have lp : pre.length ≤ 1000 := by have := congrArg List.length hx; rw [List.length_append] at this; omega
    refine ⟨_, _, bind_name st_dat, ?_⟩
    refine at_drop (evx_extend (i := 2) (es := (List.replicate (max 0 (2 - ((adjL L v).length : Int))).toNat v).map .int) rfl (EvM.nw (evm_rep (evm_lst (eas_cons (EvH.nw (evh_var rfl rd_sa) rfl) eas_nil) (by simp)) (Ev.hd (ev_max2 (Ev.hd ev_int) (Ev.hd (ev_ii (Ev.hd ev_int) (Ev.hd ?b1) rfl)))) (by omega) (by omega))) ?b2) (at_lpD ⟨sa K (.int v), ?b3⟩)
    case b1 =>
      have h := ev_lenL (K := K) (B := H) (F0 := F1) (ρ := [sa K (tiesD L m), sa K (intsD ns), ml K H ((wantF L pre).map .int), sa K (.int v)]) (evh_ixL (ta := tVar 0) (tb := tVar 3) (evh_var rfl rd_sa) (evh_var rfl rd_sa) (ties_at (L := L) hv.1 hv.2))
      rw [List.length_map] at h
      exact h
    case b2 => rw [List.length_map, List.length_map, List.length_replicate]; omega
    case b3 =>
      have e : (max 0 (2 - ((adjL L v).length : Int))).toNat = 2 - (adjL L v).length := by omega
      have e2 : wantF L (pre ++ [v]) = wantF L pre ++ List.replicate (2 - (adjL L v).length) v := by unfold wantF; rw [List.flatMap_append]; simp
      rw [e, e2, List.map_append]
      rfl
  case a3 =>
    rintro ρ' ⟨s3, rfl⟩
    exact at_retL rfl q
theorem ok_leaves (Z : Zs mg) (D : Dfn K mg "leaves_of" "leaves_of" s_leaves_of ["ties"]) : Ok P w K mg base CX0 1 "leaves_of" ["ties"] (spLeaves K) := by
  refine fp_ok D sc_leaves_of (by decide) (fun _ => rfl) (fun _ => stab1 st_dat) (fun f cdv A outer s H E hr => ⟨_, (pss_cons (ps_setLc (i := 1) (own := [("number", 2)]) rfl sc_leaves_of.nd rfl rfl (sw_true rfl rfl rfl (by decide +kernel)) (pi_range1 rfl Z.range (pa_cons (pe_callB (kcall_len_seq K) (by rfl) Z.len PySem.boot_len (pa_cons (pv 0) pa_nil)) pa_nil)) (blkOk_by (by dsimp only [cxOf, Cx.nox, Cx.wish, Cx.blk, compEnvC, envOfC]; (try (rw [relabel_eq]; dsimp only)); decide +kernel)) (fun _ _ _ _ _ => (pg_name (i := 2) sc_leaves_of.nd rfl (Or.inl rfl))) (fun _ _ _ _ _ => (pts_one (pt_cmpR op_gt (pe_callB (kcall_len_seq K) (by rfl) Z.len PySem.boot_len (pa_cons (pe_ix (kix_list K) (pv 0) (pv 2) (fun _ _ => rfl)) pa_nil)) pe_int (nomark _)))) (fun _ _ _ _ _ => (pv 2)))
    (pss_cons (ps_set (i := 3) sc_leaves_of.nd rfl (Or.inl rfl) (pe_ifExp (pt_cmpR (kop_neD K (by exact hr.units)) (pv 1) (pe_lst pa_nil) (nomark _)) (pe_ix (kix_list K) (pv 1) pe_int (fun _ _ => rfl)) pe_int))
    (pss_cons (ps_set (i := 4) sc_leaves_of.nd rfl (Or.inl rfl) (pe_lst pa_nil))
    (pss_cons (ps_set (i := 5) sc_leaves_of.nd rfl (Or.inl rfl) (pe_lst (pa_cons (pe_tup (pa_cons (pv 3) (pa_cons (pv 3) pa_nil))) pa_nil)))
    (pss_cons (ps_while PassesOwn.never (pt_cmpR (kop_neD K (by exact hr.units)) (pv 5) (pe_lst pa_nil) (nomark _)) (pss_cons (ps_asg (pe_bm0 PySem.F.plainAttrs_list PySem.F.slot_list_pop PySem.F.type_list_pop mt_pop (pv 5)) (kpg_tup K 2 rfl (pgs_cons (pg_name (i := 6) sc_leaves_of.nd rfl (Or.inr rfl)) (pgs_cons (pg_name (i := 7) sc_leaves_of.nd rfl (Or.inr rfl)) pgs_nil))))
    (pss_cons (ps_if (pt_cmpR op_eq (pe_callB (kcall_len_seq K) (by rfl) Z.len PySem.boot_len (pa_cons (pe_ix (kix_list K) (pv 0) (pv 6) (fun _ _ => rfl)) pa_nil)) pe_int (nomark _)) (pss_one (ps_expr (pe_bm PySem.F.plainAttrs_list PySem.F.slot_list_append PySem.F.type_list_append mt_append (pv 4) (pa_cons (pv 6) pa_nil)))) pss_nil)
    (pss_one (ps_expr (pe_bm PySem.F.plainAttrs_list PySem.F.slot_list_extend PySem.F.type_list_extend mt_extend (pv 5) (pa_cons (pe_lc (own := [("goal", 8)]) rfl sc_leaves_of.nd (kpi_list K (pe_ix (kix_list K) (pv 0) (pv 6) (fun _ _ => rfl))) (blkOk_by (by dsimp only [cxOf, Cx.nox, Cx.wish, Cx.blk, compEnvC, envOfC]; (try (rw [relabel_eq]; dsimp only)); decide +kernel)) (fun _ _ _ _ _ => (pg_name (i := 8) sc_leaves_of.nd rfl (Or.inl rfl))) (fun _ _ _ _ _ => (pts_one (pt_cmpR op_ne (pv 8) (pv 7) (nomark _)))) (fun _ _ _ _ _ => (pe_tup (pa_cons (pv 8) (pa_cons (pv 6) pa_nil))))) pa_nil)))))))
    (pss_one (ps_ret (pv 4)))))))), ?_⟩)
  rintro ⟨L, m⟩ ⟨T, hin, m1, m2⟩ Q q
  dsimp only at T hin m1 m2 q
  walk_at "go"
  have lenAt : ∀ {F1 : Hp} {ρ : List Sl} {tb : TE} {v : Int}, ρ[0]? = some (sa K (tiesD L m)) → EvH H F1 ρ tb (dat K (.int v)) → 0 ≤ v → v < m → Ev H F1 ρ (tCB (fun xs H Q => ∃ p ys, xs = [.ref p] ∧ (SqL K H p ys ∨ SqT K H p ys) ∧ Q (.int ys.length) H) (tCons (tOp (rIxL K) (tVar 0) tb) tNil)) (nwd K H (.int ((adjL L v).length : Int))) := fun {F1 ρ tb v} h0 hb v0 v1 => by
    have h := ev_lenL (K := K) (B := H) (F0 := F1) (ρ := ρ) (evh_ixL (ta := tVar 0) (tb := tb) (evh_var h0 rd_sa) hb (ties_at (L := L) v0 v1))
    rw [List.length_map] at h
    exact h
  refine q_set K (d := .list (((rangeI m).filter fun v => decide (1 < (adjL L v).length)).map .int)) (EvM.nw (evm_lc (xs := rangeI m) (e := PyData.int) (q := nwd K H) (fun v => decide (1 < (adjL L v).length)) .int ?a1 (fun F1 v hv => ?a2) (by rw [rangeI_len]; omega))) ?a3
  case a1 =>
    rw [← rangeD_eq]
    refine evj_range1 (ea_cons st_dat (Ev.hd ?_) ea_nil) (by omega)
    have h := ev_lenL (K := K) (B := H) (F0 := H) (ρ := enterR 9 [dat K (tiesD L m)]) (te := tVar 0) (ds := (rangeI m).map fun v => intsD (adjL L v)) (evh_var rfl rd_sa)
    rw [List.length_map, rangeI_len, Int.toNat_of_nonneg (by omega)] at h
    exact h
  case a2 =>
    have hv2 := mem_rangeI.mp hv
    refine ⟨_, _, bind_name st_nwd, by decide, ?_, fun _ => ev_var rfl⟩
    have e : decide (1 < (adjL L v).length) = decide ((1 : Int) < ((adjL L v).length : Int)) := by rw [Bool.eq_iff_iff, decide_eq_true_eq, decide_eq_true_eq]; omega
    rw [e]
    exact et_test (K := K) (Ev.hd (ev_ib (Ev.hd (lenAt rfl (evh_var rfl rd_sn) hv2.1 hv2.2)) (Ev.hd ev_int) rfl))
  case a3 =>
  have rin := root_in (T := L) m1
  refine q_set K (d := .int (rootF L m)) ?b1 (q_setM K (ds := []) (evm_lst eas_nil (by simp)) (q_setM K (ds := [pairD (rootF L m, rootF L m)]) (evm_lst (eas_cons (ev_tup (eas_cons (ev_var rfl) (eas_cons (ev_var rfl) eas_nil)) (by simp)) eas_nil) (by simp)) ?b2))
  case b1 =>
    unfold rootF
    generalize hg : (rangeI m).filter (fun v => decide (1 < (adjL L v).length)) = R
    refine ev_if (c := !R.isEmpty) ?_ (fun h => ?_) (fun h => ?_)
    · have h60 : R.length ≤ 100 := by rw [← hg]; exact Nat.le_trans (List.length_filter_le _ _) (by rw [rangeI_len]; omega)
      have e : (R.map PyData.int).isEmpty = R.isEmpty := by cases R <;> rfl
      rw [← e]
      walk_at "ev"
    · cases R with
      | nil => cases h
      | cons r R => exact ev_ixN (ev_var rfl) (Ev.hd ev_int) (atI_nn (Int.le_refl 0) rfl)
    · cases R with
      | nil => exact ev_int
      | cons r R => cases h
  case b2 =>
  have rem0 : remF L [(m.toNat, rootF L m, rootF L m)] = visitF L m.toNat (rootF L m) (rootF L m) := by unfold remF; simp
  have v0 : ViOk L m (m.toNat, rootF L m, rootF L m) := ⟨rin, side_le⟩
  have len0 : (remF L [(m.toNat, rootF L m, rootF L m)]).length ≤ 100 := by
    rw [rem0]
    obtain ⟨k1, k2⟩ := visit_ok T hin m.toNat (rootF L m) (rootF L m) rin side_le
    have := nodup_le (ys := rangeI m) k2 fun x hx => mem_rangeI.mpr (conn_in (cut_in hin) rin ((k1 x).mp hx))
    rw [rangeI_len] at this
    omega
  refine q_while (fun n ρ' => ∃ (ws : List Vi) (f : List Int) (s1 s2 s6 s7 s8 : Sl), ρ' = [sa K (tiesD L m), s1, s2, sn K H (.int (rootF L m)), ml K H (f.map .int), ml K H (ws.map fun v => pairD v.2), s6, s7, s8] ∧ f ++ ((remF L ws).filter fun v => decide ((adjL L v).length = 1)) = leavesF L m ∧ (∀ v ∈ ws, ViOk L m v) ∧ (remF L ws).length = n ∧ n + f.length ≤ 100) (remF L [(m.toNat, rootF L m, rootF L m)]).length ?c1 ?c2
  case c1 => exact ⟨[(m.toNat, rootF L m, rootF L m)], [], _, _, _, _, _, rfl, by rw [rem0]; rfl, fun v hv => by rw [List.mem_singleton.mp hv]; exact v0, rfl, by simpa using len0⟩
  case c2 =>
    rintro n ρ' ⟨ws, f, s1, s2, s6, s7, s8, rfl, hf, hok, hn, hb⟩
    have lw := rem_len hok
    refine ⟨!ws.isEmpty, ?d1, fun hc => ?d2, fun hc => ?d3⟩
    case d1 =>
      have e : (ws.map fun v => pairD v.2).isEmpty = ws.isEmpty := by cases ws <;> rfl
      rw [← e, show (ws.map fun v => pairD v.2) = (ws.map (·.2)).map pairD by rw [List.map_map]; rfl]
      walk_at "ev"
    case d2 =>
      rcases List.eq_nil_or_concat ws with rfl | ⟨ws, ⟨k, c, h⟩, rfl⟩
      · cases hc
      rw [List.concat_eq_append] at *
      have hv := hok (k, c, h) (by simp)
      have sp := side_pos (L := L) (h := h) hv.1
      have sk := hv.2
      dsimp only at sp sk
      cases k with
      | zero => omega
      | succ k =>
      rw [rem_pop] at hf hn
      have hok2 : ∀ v ∈ ws ++ kidsF L k c h, ViOk L m v := fun v hv2 => by
        rcases List.mem_append.mp hv2 with hv2 | hv2
        · exact hok v (List.mem_append_left _ hv2)
        · exact kids_ok T hin hv v hv2
      have lw2 := rem_len hok2
      rw [List.length_cons] at hn
      have hdl : ((ws ++ [(k + 1, c, h)]).map fun v => pairD v.2).dropLast = ws.map fun v => pairD v.2 := by rw [List.map_append]; simp
      refine q_asg (evx_pop (i := 5) (d := pairD (c, h)) rfl ?e1) (bind_tup (bindl_cons (bind_name st_nwd) (bindl_cons (bind_name st_nwd) bindl_nil)) rfl) ?e2
      case e1 => rw [List.map_append]; simp
      case e2 =>
      rw [hdl]
      have ce : decide ((adjL L c).length = 1) = decide (((adjL L c).length : Int) = 1) := by rw [Bool.eq_iff_iff, decide_eq_true_eq, decide_eq_true_eq]; omega
      have fin : ∀ f2 : List Int, f2 = f ++ (if (adjL L c).length = 1 then [c] else []) → f2 ++ ((remF L (ws ++ kidsF L k c h)).filter fun v => decide ((adjL L v).length = 1)) = leavesF L m ∧ (remF L (ws ++ kidsF L k c h)).length + f2.length ≤ 100 := fun f2 e2 => by
        subst e2
        constructor
        · rw [← hf, List.append_assoc]
          congr 1
          rw [List.filter_cons]
          by_cases h1 : (adjL L c).length = 1
          · rw [if_pos h1, if_pos (by simpa using h1)]; rfl
          · rw [if_neg h1, if_neg (by simpa using h1)]; rfl
        · rw [List.length_append]
          have : (if (adjL L c).length = 1 then [c] else []).length ≤ 1 := by split <;> simp
          omega
      refine q_whenJ (fun ρ' => ∃ f2, f2 = f ++ (if (adjL L c).length = 1 then [c] else []) ∧ ρ' = [sa K (tiesD L m), s1, s2, sn K H (.int (rootF L m)), ml K H (f2.map .int), ml K H (ws.map fun v => pairD v.2), sn K H (.int c), sn K H (.int h), s8]) (c := decide (((adjL L c).length : Int) = 1)) (et_test (K := K) (Ev.hd (ev_eqI (Ev.hd (lenAt rfl (evh_var rfl rd_sn) hv.1.1 hv.1.2)) (Ev.hd ev_int)))) (fun hd N k => at_drop (evx_append (i := 4) (d := .int c) rfl (ev_var rfl) (by rw [List.length_map]; omega)) (k _ ⟨f ++ [c], ?f1, ?f2⟩)) (fun hd => ⟨f, ?f3, rfl⟩) ?f4
      case f1 => rw [if_pos (by rw [← ce] at hd; simpa using hd)]
      case f2 => rw [show (f ++ [c]).map PyData.int = f.map .int ++ [.int c] by rw [List.map_append]; rfl]; rfl
      case f3 => rw [if_neg (by rw [← ce] at hd; simpa using hd), List.append_nil]
      case f4 =>
        rintro ρ' ⟨f2, e2, rfl⟩
        have kl : (kidsF L k c h).length ≤ 100 := by rw [List.length_append] at lw2; omega
        refine at_drop (evx_extend (i := 5) (es := ((adjL L c).filter fun g => decide (g ≠ h)).map fun g => pairD (g, c)) rfl (EvM.nw (evm_lc (xs := adjL L c) (e := PyData.int) (q := dat K) (fun g => decide (g ≠ h)) (fun g => pairD (g, c)) (evj_listD (ev_ixL (ev_var rfl) (evh_var rfl rd_sn) (ties_at (L := L) hv.1.1 hv.1.2))) (fun F1 g hg => ⟨_, _, bind_name st_dat, by decide, ?g1, fun _ => ev_tup (eas_cons (EvH.nw (evh_var rfl rd_sa) rfl) (eas_cons (ev_var rfl) eas_nil)) (by simp)⟩) ?g2)) ?g3) (at_lwD (m' := (remF L (ws ++ kidsF L k c h)).length) ⟨ws ++ kidsF L k c h, f2, s1, s2, sn K H (.int c), sn K H (.int h), s8, ?g4, (fin f2 e2).1, hok2, rfl, (fin f2 e2).2⟩ (by omega))
        case g1 =>
          have e : decide (g ≠ h) = !decide (g = h) := by rw [Bool.eq_iff_iff]; simp
          rw [e]
          exact et_test (K := K) (Ev.hd (ev_neI (evh_var rfl rd_sa) (evh_var rfl rd_sn)))
        case g2 =>
          have nd := T.nd c
          have := nodup_le (ys := rangeI m) nd fun x hx => mem_rangeI.mpr (adj_in hin hx)
          rw [rangeI_len] at this
          omega
        case g3 =>
          unfold kidsF at kl
          rw [List.length_map] at kl ⊢
          rw [List.length_map]
          rw [List.length_append] at lw2
          omega
        case g4 =>
          unfold kidsF
          rw [List.map_append, List.map_map]
          rfl
    case d3 =>
      cases ws with
      | cons a b => cases hc
      | nil =>
        have e : remF L [] = [] := rfl
        rw [e, List.filter_nil, List.append_nil] at hf
        rw [← hf] at q
        exact at_retL rfl q
end

abbrev s_ties_of : Stmt := top 31
theorem sc_ties_of : FnScope ["town", "some", "gone", "found", "piece", "street", "one", "other"] ["town", "some"] (defScope s_ties_of) := ⟨rfl, rfl, rfl, by decide +kernel, rfl, by decide +kernel, by decide +kernel⟩
abbrev pcsF (st : TSt) : List (List Int) := partsOf st.many (leftE st.held (partingF st.many st.held))
abbrev tieF (st : TSt) : List Pr := tiePairs (pcsF st) (partingF st.many st.held) st.held
abbrev tieLists (L : List Pr) (m : Int) : List (List Int) := (rangeI m).map fun v => adjL L v
abbrev spTies (K : PySem.W.Frag) (C : Addr) : Sp := spLL (fun st : TSt => TOk st) (fun st => [isTown K C st, dat K (partsD (pcsF st))]) (fun st => tieLists (tieF st) (pcsF st).length)
theorem adj_len {v : Int} : ∀ L : List Pr, (adjL L v).length ≤ 2 * L.length
  | [] => Nat.le_refl _
  | p :: L => by
    have := adj_len (v := v) L
    have e : adjL (p :: L) v = ((if p.1 = v then [p.2] else []) ++ (if p.2 = v then [p.1] else [])) ++ adjL L v := by unfold adjL; rw [List.flatMap_cons]
    have a : ∀ (c : Prop) [Decidable c] (x : Int), (if c then [x] else []).length ≤ 1 := fun c _ x => by split <;> simp
    have := a (p.1 = v) p.2
    have := a (p.2 = v) p.1
    rw [e, List.length_append, List.length_append, List.length_cons]
    omega
theorem ties_snoc {Q : List (List Int)} {par : List Int} {rows : List Row} {r : Row} : tiePairs Q par (rows ++ [r]) = tiePairs Q par rows ++ (if r.1 ∈ par then [(poI Q r.2.1, poI Q r.2.2)] else []) := by
  unfold tiePairs
  rw [List.filter_append, List.map_append]
  congr 1
  by_cases h : r.1 ∈ par
  · rw [if_pos h, List.filter_cons, if_pos (by simpa using h)]; rfl
  · rw [if_neg h, List.filter_cons, if_neg (by simpa using h)]; rfl
theorem ties_len {Q : List (List Int)} {par : List Int} {rows : List Row} : (tiePairs Q par rows).length ≤ rows.length := by
  unfold tiePairs
  rw [List.length_map]
  exact List.length_filter_le _ _
theorem pcs_st {st : TSt} (ok : TOk st) : PcsI st.many (leftE st.held (partingF st.many st.held)) (pcsF st) := pcs_i fun e he => by
  obtain ⟨a, b⟩ := e
  obtain ⟨t, h1, _⟩ := mem_leftE.mp he
  exact tok_in ok _ h1
theorem parts_len {n : Int} {E : List (Int × Int)} : (partsOf n E).length ≤ n.toNat := by
  unfold partsOf
  rw [List.length_map]
  have := List.length_filter_le (fun m => decide (m ∈ labelF n E)) (rangeI n)
  rw [rangeI_len] at this
  exact this
theorem part_len {n : Int} {E : List (Int × Int)} {p : List Int} (h : p ∈ partsOf n E) : p.length ≤ n.toNat := by
  unfold partsOf at h
  obtain ⟨m, _, rfl⟩ := List.mem_map.mp h
  unfold compF
  have := List.length_filter_le (fun p => decide (labAt (labelF n E) p = m)) (rangeI n)
  rw [rangeI_len] at this
  exact this
theorem pcs_len {st : TSt} (ok : TOk st) : (pcsF st).length ≤ 16 := by
  have := parts_len (n := st.many) (E := leftE st.held (partingF st.many st.held))
  have := ok.hi
  have := ok.lo
  unfold pcsF
  omega
section
variable {K : PySem.W.Frag} {B F0 : Hp} {ρ ρ1 : List Sl} {te ta tb ta' tb' tc : TE} {D : Ends} {u ts : TS}
/-- a pair more: both ends' lists grow -/
theorem q_tie {L : List Pr} {m a b : Int} {i : Nat} (hi : ρ[i]? = some (mll K B ((tieLists L m).map fun l => l.map .int))) (a0 : 0 ≤ a ∧ a < m) (b0 : 0 ≤ b ∧ b < m) (ne : a ≠ b) (hl : L.length ≤ 1000)
    (h1 : EvH B F0 ρ ta (dat K (.int a))) (h2 : Ev B F0 ρ tb (nwd K B (.int b))) (h3 : ∀ s, EvH B F0 (ρ.set i s) ta' (dat K (.int b))) (h4 : ∀ s, Ev B F0 (ρ.set i s) tb' (nwd K B (.int a)))
    (k : At B F0 D.nx (ρ.set i (mll K B ((tieLists (L ++ [(a, b)]) m).map fun l => l.map .int)))) :
    At B F0 (tSeq (tDrop (tBM K "list" rAppend (tOp (rIxL K) (tVar i) ta) (tCons tb tNil))) (tDrop (tBM K "list" rAppend (tOp (rIxL K) (tVar i) ta') (tCons tb' tNil))) D) ρ := by
  have gt : ∀ (g : Int → List PyData) (i : Int), 0 ≤ i → i < m → ((rangeI m).map g)[i.toNat]? = some (g i) := fun g i h0 h1 => by
    unfold rangeI
    rw [List.getElem?_map, List.getElem?_map, List.getElem?_range (by omega)]
    show some (g (0 + (i.toNat : Int))) = some (g i)
    rw [show 0 + (i.toNat : Int) = i by omega]
  have lt : i < ρ.length := (List.getElem?_eq_some_iff.mp hi).1
  have e0 : ((tieLists L m).map fun l => l.map PyData.int) = (rangeI m).map fun v => (adjL L v).map .int := by rw [List.map_map]; rfl
  rw [e0] at hi
  have la := adj_len (v := a) L
  have lb := adj_len (v := b) L
  refine q_drop (evx_appendAt (i := i) (j := a) (ds := (adjL L a).map .int) (d := .int b) hi h1 a0.1 (gt _ _ a0.1 a0.2) h2 (by rw [List.length_map]; omega)) ?_
  rw [set_map a0.1 a0.2]
  refine at_drop (evx_appendAt (i := i) (j := b) (ds := (adjL L b).map .int) (d := .int a) (List.getElem?_set_self lt) (h3 _) b0.1 ?_ (h4 _) (by rw [List.length_map]; omega)) ?_
  · rw [gt _ _ b0.1 b0.2, if_neg (fun z => ne z.symm)]
  · rw [set_map b0.1 b0.2, List.set_set]
    have e : ((rangeI m).map fun p => if p = b then (adjL L b).map PyData.int ++ [.int a] else if p = a then (adjL L a).map .int ++ [.int b] else (adjL L p).map .int) = (tieLists (L ++ [(a, b)]) m).map fun l => l.map .int := by
      rw [List.map_map]
      refine List.map_congr_left fun p _ => ?_
      show (if p = b then (adjL L b).map PyData.int ++ [.int a] else if p = a then (adjL L a).map .int ++ [.int b] else (adjL L p).map .int) = (adjL (L ++ [(a, b)]) p).map PyData.int
      rw [adj_app, adj_one]
      by_cases e1 : p = b
      · subst e1
        rw [if_pos rfl, if_neg ne, if_pos rfl, List.map_append]
        rfl
      · rw [if_neg e1]
        by_cases e2 : p = a
        · subst e2
          rw [if_pos rfl, if_pos rfl, if_neg (fun z => e1 z.symm), List.append_nil, List.map_append]
          rfl
        · rw [if_neg e2, if_neg (fun z => e2 z.symm), if_neg (fun z => e1 z.symm), List.append_nil, List.append_nil]
    rw [e]
    exact k
end
section
variable {P : Program} {w : World} {K : PySem.W.Frag} {mg : Str → Option Value} {base : Heap} {C : Addr}
theorem ok_ties (Z : Zs mg) (T : TownTxt K mg C) (M_streets : OkM P w K mg base CX0 1 C "streets" ["self"] (spStreets K C)) (G_parting : Ok P w K mg base CX0 3 "parting" ["town"] (spParting K C)) (G_piece_of : Ok P w K mg base CX0 1 "piece_of" ["some", "place"] (spPo K))
    (D : Dfn K mg "ties_of" "ties_of" s_ties_of ["town", "some"]) : Ok P w K mg base CX0 4 "ties_of" ["town", "some"] (spTies K C) := by
  obtain ⟨f, fd, F, hg, hb⟩ := D.ex
  refine ⟨f, fd, F.ok sc_ties_of (fun vs H Q E h => ?_) (fun cdv A outer s H vs Q E hr h => ?_), hg, F.kp, hb⟩
  · obtain ⟨st, _, h, _⟩ := h
    rw [aok_len h]; rfl
  obtain ⟨st, ok, ha, q⟩ := h
  refine ⟨_, (pss_cons (ps_set (i := 2) sc_ties_of.nd rfl (Or.inl rfl) (ok_call G_parting (by exact hr.mono (by decide)) rfl (pa_cons (pv 0) pa_nil)))
    (pss_cons (ps_setLc (i := 3) (own := [("piece", 4)]) (tt := tYes) rfl sc_ties_of.nd rfl rfl (sw_true rfl rfl rfl (by decide +kernel)) (kpi_list K (pv 1)) (blkOk_by (by dsimp only [cxOf, Cx.nox, Cx.wish, Cx.blk, compEnvC, envOfC]; (try (rw [relabel_eq]; dsimp only)); decide +kernel)) (fun _ _ _ _ _ => (pg_name (i := 4) sc_ties_of.nd rfl (Or.inl rfl))) (fun _ _ _ _ _ => pts_nil) (fun _ _ _ _ _ => (pe_lst pa_nil)))
    (pss_cons (ps_for PassesOwn.never rfl (kpi_list K (ok_meth0 M_streets (by exact hr.mono (by decide)) (pv 0))) (kpg_tup K 3 rfl (pgs_cons (pg_name (i := 5) sc_ties_of.nd rfl (Or.inl rfl)) (pgs_cons (pg_name (i := 6) sc_ties_of.nd rfl (Or.inl rfl)) (pgs_cons (pg_name (i := 7) sc_ties_of.nd rfl (Or.inl rfl)) pgs_nil))))
      (pss_one (ps_if (pt_cmpR (kop_in_seq K) (pv 5) (pv 2) rfl) (pss_cons (ps_expr (pe_bm PySem.F.plainAttrs_list PySem.F.slot_list_append PySem.F.type_list_append mt_append (pe_ix (kix_list K) (pv 3) (ok_call G_piece_of (by exact hr.mono (by decide)) rfl (pa_cons (pv 1) (pa_cons (pv 6) pa_nil))) (fun _ _ => rfl)) (pa_cons (ok_call G_piece_of (by exact hr.mono (by decide)) rfl (pa_cons (pv 1) (pa_cons (pv 7) pa_nil))) pa_nil)))
    (pss_one (ps_expr (pe_bm PySem.F.plainAttrs_list PySem.F.slot_list_append PySem.F.type_list_append mt_append (pe_ix (kix_list K) (pv 3) (ok_call G_piece_of (by exact hr.mono (by decide)) rfl (pa_cons (pv 1) (pa_cons (pv 7) pa_nil))) (fun _ _ => rfl)) (pa_cons (ok_call G_piece_of (by exact hr.mono (by decide)) rfl (pa_cons (pv 1) (pa_cons (pv 6) pa_nil))) pa_nil))))) pss_nil)))
    (pss_one (ps_ret (pv 3)))))), ?_⟩
  refine at_enter ha (stabC st_isTown (stab1 st_dat)) (by simp) ?_
  walk_at "go"
  have hin := tok_in ok
  have few := ok.few
  have I := pcs_st ok
  have T0 := forest0 hin ok.keys I
  have ein := ties_in (par := partingF st.many st.held) hin I
  have lq := pcs_len ok
  generalize hQ : pcsF st = S at *
  have eT : tieF st = tiePairs S (partingF st.many st.held) st.held := by unfold tieF; rw [hQ]
  refine q_set K (d := intsD (partingF st.many st.held)) (ev_call (α := TSt) st ok (ea_cons st_isTown (evh_fz st_isTown rfl) ea_nil)) ?a0
  generalize hP : partingF st.many st.held = par at *
  refine q_setLL K (xs := S) (e := intsD) (q := dat K) (evj_listD (ev_var rfl)) (fun F1 x hx => ⟨_, _, bind_name st_dat, by decide⟩) (by omega) (q_for (xs := st.held) (e := rowD) (q := nwd K H) (EvJ.i (evj_list (ev_streets ok (evh_fz st_isTown rfl))))
    (fun pre ρ' => ∃ s5 s6 s7, ρ' = [.fz (isTown K C st), sa K (partsD S), sn K H (intsD par), mll K H ((tieLists (tiePairs S par pre) S.length).map fun l => l.map .int), Sl.no, s5, s6, s7]) ?a1 ?a2 ?a3)
  case a1 =>
    refine ⟨Sl.no, Sl.no, Sl.no, ?_⟩
    have e : List.replicate S.length ([] : List PyData) = (tieLists (tiePairs S par []) S.length).map fun l => l.map .int := by
      rw [List.map_map]
      have h : (rangeI (S.length : Int)).map (fun _ => ([] : List PyData)) = List.replicate (rangeI (S.length : Int)).length [] := List.map_const'
      rw [rangeI_len, Int.toNat_natCast] at h
      exact h.symm
    rw [e]
    rfl
  case a2 =>
    rintro F1 pre ⟨s, a, b⟩ post ρ' hx ⟨s5, s6, s7, rfl⟩
    have hr : (s, a, b) ∈ st.held := by rw [hx]; simp
    have hab := hin _ hr
    dsimp only at hab
    have lp : pre.length ≤ 60 := by have := congrArg List.length hx; rw [List.length_append, List.length_cons] at this; omega
    have ll := ties_len (Q := S) (par := par) (rows := pre)
    refine ⟨_, _, (by walk_at "bd"), ?_⟩
    refine at_when (c := decide (s ∈ par)) (et_test (K := K) (Ev.hd (ev_inI (neg := false) (evh_var rfl rd_sn) (evh_var rfl rd_sn)))) (fun h => ?b1) (fun h => ?b2)
    case b1 =>
      have hs : s ∈ par := by simpa using h
      have hm : (poI S a, poI S b) ∈ tiePairs S par st.held := mem_ties.mpr ⟨_, hr, hs, rfl, rfl⟩
      have he := ein _ hm
      dsimp only at he
      have po : ∀ {ρ : List Sl} {i : Nat} {x : Int}, ρ[1]? = some (sa K (partsD S)) → ρ[i]? = some (sn K H (.int x)) → Ev H F1 ρ (tCall (spPo K) [] L2.E0 (tCons (tVar 1) (tCons (tVar i) tNil))) (nwd K H (.int (poI S x))) := fun {ρ i x} h1 h2 => ev_call (α := List (List Int) × Int) (pre := fun _ => True) (args := fun x => [dat K (partsD x.1), dat K (.int x.2)]) (res := fun x => .int (poI x.1 x.2)) (S, x) trivial (ea_cons st_dat (evh_var h1 rd_sa) (ea_cons st_dat (evh_var h2 rd_sn) ea_nil))
      refine q_tie (i := 3) (L := tiePairs S par pre) (m := S.length) rfl he.1 he.2 (T0.ne hm) (by omega) (Ev.hd (po rfl rfl)) (po rfl rfl) (fun s => Ev.hd (po rfl rfl)) (fun s => po rfl rfl) (at_lpD ⟨sn K H (.int s), sn K H (.int a), sn K H (.int b), ?c1⟩)
      rw [ties_snoc, if_pos hs]
      rfl
    case b2 =>
      have hs : s ∉ par := by simpa using h
      refine at_nxt (at_lp ⟨sn K H (.int s), sn K H (.int a), sn K H (.int b), ?_⟩)
      rw [ties_snoc, if_neg hs, List.append_nil]
      rfl
  case a3 =>
    rintro ρ' ⟨s5, s6, s7, rfl⟩
    refine at_retLLn (dss := tieLists (tiePairs S par st.held) S.length) rfl fun l inner H' s n => q l inner H' s ?_
    show NewLL H H' l inner (tieLists (tieF st) (pcsF st).length)
    rw [eT, hQ]
    exact n
end

abbrev s_tied_together : Stmt := top 33
theorem sc_tied_together : FnScope ["town", "some", "ties", "found", "last", "part", "numbers", "place", "wants"] ["town", "some", "ties"] (defScope s_tied_together) := ⟨rfl, rfl, rfl, by decide +kernel, rfl, by decide +kernel, by decide +kernel⟩
def opI : Option Int → PyData
  | none => .none
  | some l => .int l
abbrev wholeP (st : TSt) : List (List Int) := partsOf st.many (leftE st.held [])
abbrev spTied (K : PySem.W.Frag) (C : Addr) : Sp := Fp K (fun st : TSt => TOk st) (fun st => [isTown K C st, dat K (partsD (pcsF st)), dat K (tiesD (tieF st) (pcsF st).length)]) (fun st => .list ((tiedF (tieF st) (pcsF st).length (pcsF st) (wholeP st)).map pairD))
theorem left_all (rows : List Row) : leftE rows [] = rows.map (·.2) := by
  unfold leftE
  rw [List.filter_eq_self.mpr fun r _ => by simp]
theorem whole_pcs {st : TSt} (ok : TOk st) : PcsI st.many (st.held.map (·.2)) (wholeP st) := by
  rw [← left_all]
  exact pcs_i fun e he => by
    obtain ⟨a, b⟩ := e
    obtain ⟨t, h1, _⟩ := mem_leftE.mp he
    exact tok_in ok _ h1
theorem num_iff {n : Int} {E : List Pr} {S : List (List Int)} (I : PcsI n E S) {p : List Int} (hp : ∀ x ∈ p, 0 ≤ x ∧ x < n) (k : Int) : k ∈ numbersF S.length S p ↔ k ∈ p.map (poI S) := by
  unfold numbersF
  rw [List.mem_filter, decide_eq_true_eq, mem_rangeI]
  refine ⟨fun h => h.2, fun h => ⟨?_, h⟩⟩
  obtain ⟨x, hx, rfl⟩ := List.mem_map.mp h
  have := po_lt I (hp x hx).1 (hp x hx).2
  unfold poI
  omega
section
variable {P : Program} {w : World} {K : PySem.W.Frag} {mg : Str → Option Value} {base : Heap} {C : Addr}
theorem ok_tied (Z : Zs mg) (T : TownTxt K mg C) (G_parts : Ok P w K mg base CX0 4 "parts" ["town"] (spParts K C)) (G_piece_of : Ok P w K mg base CX0 1 "piece_of" ["some", "place"] (spPo K)) (G_wanting : Ok P w K mg base CX0 1 "wanting" ["ties", "numbers"] (spWant K))
    (D : Dfn K mg "tied_together" "tied_together" s_tied_together ["town", "some", "ties"]) : Ok P w K mg base CX0 5 "tied_together" ["town", "some", "ties"] (spTied K C) := by
  refine fp_ok D sc_tied_together (by decide) (fun _ => rfl) (fun _ => stabC st_isTown (stabC st_dat (stab1 st_dat))) (fun f cdv A outer s H E hr => ⟨_, (pss_cons (ps_set (i := 3) sc_tied_together.nd rfl (Or.inl rfl) (pe_lst pa_nil))
    (pss_cons (ps_set (i := 4) sc_tied_together.nd rfl (Or.inl rfl) pe_non)
    (pss_cons (ps_for PassesOwn.never rfl (kpi_list K (ok_call G_parts (by exact hr.mono (by decide)) rfl (pa_cons (pv 0) pa_nil))) (pg_name (i := 5) sc_tied_together.nd rfl (Or.inl rfl))
      (pss_cons (ps_set (i := 6) sc_tied_together.nd rfl (Or.inl rfl) (pe_callB (cr_sortedSet rfl) (by rfl) Z.sorted (by decide +kernel) (pa_cons (pe_callTy (kcr_setI K rfl) (by rfl) Z.set (by decide +kernel) (pa_cons (pe_lc (own := [("place", 7)]) (tt := tYes) rfl sc_tied_together.nd (kpi_list K (pv 5)) (blkOk_by (by dsimp only [cxOf, Cx.nox, Cx.wish, Cx.blk, compEnvC, envOfC]; (try (rw [relabel_eq]; dsimp only)); decide +kernel)) (fun _ _ _ _ _ => (pg_name (i := 7) sc_tied_together.nd rfl (Or.inl rfl))) (fun _ _ _ _ _ => pts_nil) (fun _ _ _ _ _ => (ok_call G_piece_of (by exact hr.mono (by decide)) rfl (pa_cons (pv 1) (pa_cons (pv 7) pa_nil))))) pa_nil)) pa_nil)))
    (pss_cons (ps_set (i := 8) sc_tied_together.nd rfl (Or.inl rfl) (ok_call G_wanting (by exact hr.mono (by decide)) rfl (pa_cons (pv 2) (pa_cons (pv 6) pa_nil))))
    (pss_cons (ps_if (pt_cmpR op_notN (pv 4) pe_non (nomark _)) (pss_one (ps_expr (pe_bm PySem.F.plainAttrs_list PySem.F.slot_list_append PySem.F.type_list_append mt_append (pv 3) (pa_cons (pe_tup (pa_cons (pv 4) (pa_cons (pe_ix (kix_list K) (pv 8) pe_int (fun _ _ => rfl)) pa_nil))) pa_nil)))) pss_nil)
    (pss_one (ps_set (i := 4) sc_tied_together.nd rfl (Or.inl rfl) (pe_ifExp (pt_cmpR op_gt (pe_callB (kcall_len_seq K) (by rfl) Z.len PySem.boot_len (pa_cons (pv 8) pa_nil)) pe_int (nomark _)) (pe_ix (kix_list K) (pv 8) pe_int (fun _ _ => rfl)) (pe_ix (kix_list K) (pv 6) pe_int (fun _ _ => rfl)))))))))
    (pss_one (ps_ret (pv 3)))))), ?_⟩)
  rintro st ok Q q
  walk_at "go"
  have hin := tok_in ok
  have lo := ok.lo
  have hi := ok.hi
  have I := pcs_st ok
  have lq := pcs_len ok
  have W := whole_pcs ok
  have two := fun {p : List Int} (hp : PieceOk st.many (st.held.map (·.2)) p) => want_two hin ok.keys I hp
  have lP : (wholeP st).length ≤ 16 := by have := parts_len (n := st.many) (E := leftE st.held []); unfold wholeP; omega
  change ∀ {p : List Int}, PieceOk st.many (st.held.map (·.2)) p → 2 ≤ (wantF (tieF st) (numbersF (pcsF st).length (pcsF st) p)).length at two
  have pl : ∀ p ∈ wholeP st, p.length ≤ 16 := fun p hp => by have := part_len hp; omega
  generalize hL : tieF st = L at *
  generalize hS : pcsF st = S at *
  have call : Ev H H ((enterR 9 [isTown K C st, dat K (partsD S), dat K (tiesD L S.length)]).set 3 (ml K H []) |>.set 4 (sn K H .none)) (tCall (spParts K C) [] L2.E0 (tCons (tVar 0) tNil)) (nwd K H (partsD (wholeP st))) := ev_call (α := TSt) (pre := fun st => TOk st) (args := fun st => [isTown K C st]) (res := fun st => partsD (partsOf st.many (leftE st.held []))) st ok (ea_cons st_isTown (evh_fz st_isTown rfl) ea_nil)
  generalize hP : wholeP st = PS at *
  refine q_setM K (ds := []) (evm_lst eas_nil (by simp)) (q_set K (d := .none) ev_non (q_for (xs := PS) (e := intsD) (q := nwd K H) (EvJ.i (evj_list call))
    (fun pre ρ' => ∃ s5 s6 s8, (pre.foldl (tieStep L S.length S) ([], none)).1.length ≤ pre.length ∧ ρ' = [.fz (isTown K C st), sa K (partsD S), sa K (tiesD L S.length), ml K H ((pre.foldl (tieStep L S.length S) ([], none)).1.map pairD), sn K H (opI (pre.foldl (tieStep L S.length S) ([], none)).2), s5, s6, Sl.no, s8]) ?a1 ?a2 ?a3))
  case a1 => exact ⟨Sl.no, Sl.no, Sl.no, Nat.le_refl _, rfl⟩
  case a2 =>
    rintro F1 pre p post ρ' hx ⟨s5, s6, s8, hl, rfl⟩
    have hpm : p ∈ PS := by rw [hx]; simp
    have hp := W.pc p hpm
    have hrng : ∀ x ∈ p, 0 ≤ x ∧ x < st.many := fun x hx => ((hp.mem x).mp hx).1
    have l16 := pl p hpm
    have wt := two hp
    have lpre : pre.length ≤ 16 := by have := congrArg List.length hx; rw [List.length_append] at this; omega
    have nm := num_iff I hrng
    have nd := num_nd (Q := S) (p := p) S.length
    have npw : (numbersF S.length S p).Pairwise (· < ·) := (rangeI_pw (S.length : Int)).filter _
    have nr : ∀ v ∈ numbersF S.length S p, 0 ≤ v ∧ v < (S.length : Int) := fun v hv => ((mem_num (S.length : Int)).mp hv).1
    have nl : (numbersF S.length S p).length ≤ 16 := by
      have := nodup_le (ys := rangeI (S.length : Int)) nd fun x hx => mem_rangeI.mpr (nr x hx)
      rw [rangeI_len] at this
      omega
    have ef : (pre ++ [p]).foldl (tieStep L S.length S) ([], none) = tieStep L S.length S (pre.foldl (tieStep L S.length S) ([], none)) p := by rw [List.foldl_append]; rfl
    generalize pre.foldl (tieStep L S.length S) ([], none) = t at hl ef
    obtain ⟨t1, t2⟩ := t
    dsimp only at hl
    have e1 : (tieStep L S.length S (t1, t2) p).2 = some (if 1 < (wantF L (numbersF S.length S p)).length then (wantF L (numbersF S.length S p)).getD 1 0 else (numbersF S.length S p).getD 0 0) := rfl
    have e0n : t2 = none → (tieStep L S.length S (t1, t2) p).1 = t1 := fun z => by rw [z]; rfl
    have e0s : ∀ l, t2 = some l → (tieStep L S.length S (t1, t2) p).1 = t1 ++ [(l, (wantF L (numbersF S.length S p)).getD 0 0)] := fun l z => by rw [z]; rfl
    have lpp : (pre ++ [p]).length = pre.length + 1 := by rw [List.length_append, List.length_singleton]
    generalize hN : numbersF S.length S p = N at *
    have wcall : ∀ {ρ : List Sl}, ρ[2]? = some (sa K (tiesD L S.length)) → ρ[6]? = some (sn K H (intsD N)) → Ev H F1 ρ (tCall (spWant K) [] L2.E0 (tCons (tVar 2) (tCons (tVar 6) tNil))) (nwd K H (intsD (wantF L N))) := fun {ρ} h1 h2 => ev_call (α := List Pr × Int × List Int) (pre := fun x => (∀ v ∈ x.2.2, 0 ≤ v ∧ v < x.2.1) ∧ x.2.2.length ≤ 1000) (args := fun x => [dat K (tiesD x.1 x.2.1), dat K (intsD x.2.2)]) (res := fun x => intsD (wantF x.1 x.2.2)) (L, (S.length : Int), N) ⟨nr, by dsimp only; omega⟩ (ea_cons st_dat (evh_var h1 rd_sa) (ea_cons st_dat (evh_var h2 rd_sn) ea_nil))
    generalize hW : wantF L N = V at *
    have v0 : (V.map PyData.int)[0]? = some (.int (V.getD 0 0)) := by
      rw [List.getElem?_map, List.getD_eq_getElem?_getD, List.getElem?_eq_getElem (by omega)]; rfl
    have v1 : (V.map PyData.int)[1]? = some (.int (V.getD 1 0)) := by
      rw [List.getElem?_map, List.getD_eq_getElem?_getD, List.getElem?_eq_getElem (by omega)]; rfl
    refine ⟨_, _, bind_name st_nwd, q_set K (d := intsD N) (EvM.nw (evm_sortedSet (ns := p.map (poI S)) (Ev.hd (EvM.nw ?b1)) ?b2 npw nm)) (q_set K (d := intsD V) (wcall rfl rfl) (q_whenJ (fun ρ' => ρ' = [.fz (isTown K C st), sa K (partsD S), sa K (tiesD L S.length), ml K H ((tieStep L S.length S (t1, t2) p).1.map pairD), sn K H (opI t2), sn K H (intsD p), sn K H (intsD N), Sl.no, sn K H (intsD V)]) (c := !t2.isNone) ?b3 (fun hd N2 k => ?b4) (fun hd => ?b5) ?b6))⟩
    case b1 =>
      have h := evm_lc1 (K := K) (B := H) (F0 := F1) (ρ := [.fz (isTown K C st), sa K (partsD S), sa K (tiesD L S.length), ml K H (t1.map pairD), sn K H (opI t2), sn K H (intsD p), s6, Sl.no, s8]) (wi := iList K (tVar 5)) (g := gName 7) (vs := [7]) (te := tCall (spPo K) [] L2.E0 (tCons (tVar 1) (tCons (tVar 7) tNil))) (xs := p) (e := PyData.int) (q := nwd K H) (fun x => .int (poI S x)) (evj_list (ev_var rfl)) (fun F2 x hx => ⟨_, _, bind_name st_nwd, by decide, ev_call (α := List (List Int) × Int) (pre := fun _ => True) (args := fun x => [dat K (partsD x.1), dat K (.int x.2)]) (res := fun x => .int (poI x.1 x.2)) (S, x) trivial (ea_cons st_dat (evh_var rfl rd_sa) (ea_cons st_dat (evh_var rfl rd_sn) ea_nil))⟩) (by omega)
      have e : p.map (fun x => PyData.int (poI S x)) = (p.map (poI S)).map .int := by rw [List.map_map]; rfl
      rw [e] at h
      exact h
    case b2 => rw [List.length_map]; omega
    case b3 =>
      refine et_test (K := K) (Ev.hd (ev_notN (c := t2.isNone) (evh_var rfl rd_sn) (Ev.hd ev_non) fun F v hv => ?_))
      cases t2 with
      | none => cases hv; rfl
      | some l => cases hv; rfl
    case b4 =>
      cases t2 with
      | none => cases hd
      | some l =>
        refine at_drop (evx_append (i := 3) (d := pairD (l, V.getD 0 0)) rfl (ev_tup (eas_cons (ev_var rfl) (eas_cons (ev_ixN (ev_var rfl) (Ev.hd ev_int) (atI_nn (Int.le_refl 0) v0)) eas_nil)) (by simp)) (by rw [List.length_map]; dsimp only; omega)) (k _ ?_)
        rw [e0s l rfl]
        show _ = [_, _, _, ml K H ((t1 ++ [(l, V.getD 0 0)]).map pairD), _, _, _, _, _]
        rw [show (t1 ++ [(l, V.getD 0 0)]).map pairD = t1.map pairD ++ [pairD (l, V.getD 0 0)] by rw [List.map_append]; rfl]
        rfl
    case b5 =>
      cases t2 with
      | some l => cases hd
      | none => rw [e0n rfl]; rfl
    case b6 =>
      rintro ρ' rfl
      refine at_set (K := K) (i := 4) (d := .int (V.getD 1 0)) (ev_if (c := true) ?c1 (fun _ => ev_ixN (ev_var rfl) (Ev.hd ev_int) (atI_nn (by decide) v1)) (fun h => (by cases h))) (at_lpD ⟨sn K H (intsD p), sn K H (intsD N), sn K H (intsD V), ?c2, ?c3⟩)
      case c1 =>
        have h := et_test (K := K) (Ev.hd (ev_ib (g := fun i j => .bl (decide (j < i))) (Ev.hd (ev_lenL (K := K) (B := H) (F0 := F1) (ρ := [.fz (isTown K C st), sa K (partsD S), sa K (tiesD L S.length), ml K H ((tieStep L S.length S (t1, t2) p).1.map pairD), sn K H (opI t2), sn K H (intsD p), sn K H (intsD N), Sl.no, sn K H (intsD V)]) (te := tVar 8) (ds := V.map .int) (evh_var rfl rd_sn))) (Ev.hd (ev_int (n := 1))) (c := true) (by
          rw [List.length_map]
          show (_ : L2.V) = _
          rw [decide_eq_true (by omega)])))
        exact h
      case c2 =>
        rw [ef, lpp]
        cases t2 with
        | none => rw [e0n rfl]; omega
        | some l => rw [e0s l rfl, List.length_append, List.length_singleton]; omega
      case c3 =>
        rw [ef, e1, if_pos (by omega)]
        rfl
  case a3 =>
    rintro ρ' ⟨s5, s6, s8, _, rfl⟩
    exact at_retL rfl q
end

abbrev s_fewest : Stmt := top 35
theorem sc_fewest : FnScope ["town", "some", "ties", "found", "one", "other", "leaves", "half", "k"] ["town"] (defScope s_fewest) := ⟨rfl, rfl, rfl, by decide +kernel, rfl, by decide +kernel, by decide +kernel⟩
abbrev spFewest (K : PySem.W.Frag) (C : Addr) : Sp := Fp K (fun st : TSt => TOk st) (fun st => [isTown K C st]) (fun st => .list ((fewestF st.many st.held).map pairD))
theorem range_half (LV : List Int) (n : Nat) : (rangeI (n : Int)).map (fun k => (LV.getD k.toNat 0, LV.getD (k.toNat + LV.length / 2) 0)) = (List.range n).map fun k => (LV.getD k 0, LV.getD (k + LV.length / 2) 0) := by
  unfold rangeI
  rw [Int.toNat_natCast, List.map_map]
  refine List.map_congr_left fun k _ => ?_
  have e : ((0 : Int) + (k : Int)).toNat = k := by omega
  show (LV.getD (0 + (k : Int)).toNat 0, LV.getD ((0 + (k : Int)).toNat + LV.length / 2) 0) = _
  rw [e]
theorem int_at {LV : List Int} {k : Nat} {i : Int} (h : k < LV.length) (e : i = k) : atI (LV.map PyData.int) i = some (.int (LV.getD k 0)) := by
  subst e
  refine atI_map _ (atI_nn (by omega) ?_)
  rw [List.getD_eq_getElem?_getD, Int.toNat_natCast, List.getElem?_eq_getElem h]
  rfl
section
variable {P : Program} {w : World} {K : PySem.W.Frag} {mg : Str → Option Value} {base : Heap} {C : Addr}
theorem ok_fewest (Z : Zs mg) (T : TownTxt K mg C) (G_pieces : Ok P w K mg base CX0 4 "pieces" ["town"] (spPieces K C)) (G_ties_of : Ok P w K mg base CX0 4 "ties_of" ["town", "some"] (spTies K C)) (G_tied_together : Ok P w K mg base CX0 5 "tied_together" ["town", "some", "ties"] (spTied K C)) (G_leaves_of : Ok P w K mg base CX0 1 "leaves_of" ["ties"] (spLeaves K))
    (D : Dfn K mg "fewest" "fewest" s_fewest ["town"]) : Ok P w K mg base CX0 6 "fewest" ["town"] (spFewest K C) := by
  refine fp_ok D sc_fewest (by decide) (fun _ => rfl) (fun _ => stab1 st_isTown) (fun f cdv A outer s H E hr => ⟨_, (pss_cons (ps_set (i := 1) sc_fewest.nd rfl (Or.inr rfl) (ok_call G_pieces (by exact hr.mono (by decide)) rfl (pa_cons (pv 0) pa_nil)))
    (pss_cons (ps_set (i := 2) sc_fewest.nd rfl (Or.inl rfl) (ok_call G_ties_of (by exact hr.mono (by decide)) rfl (pa_cons (pv 0) (pa_cons (pv 1) pa_nil))))
    (pss_cons (ps_set (i := 3) sc_fewest.nd rfl (Or.inl rfl) (ok_call G_tied_together (by exact hr.mono (by decide)) rfl (pa_cons (pv 0) (pa_cons (pv 1) (pa_cons (pv 2) pa_nil)))))
    (pss_cons (ps_for PassesOwn.never rfl (kpi_list K (pv 3)) (kpg_tup K 2 rfl (pgs_cons (pg_name (i := 4) sc_fewest.nd rfl (Or.inl rfl)) (pgs_cons (pg_name (i := 5) sc_fewest.nd rfl (Or.inl rfl)) pgs_nil)))
      (pss_cons (ps_expr (pe_bm PySem.F.plainAttrs_list PySem.F.slot_list_append PySem.F.type_list_append mt_append (pe_ix (kix_list K) (pv 2) (pv 4) (fun _ _ => rfl)) (pa_cons (pv 5) pa_nil)))
    (pss_one (ps_expr (pe_bm PySem.F.plainAttrs_list PySem.F.slot_list_append PySem.F.type_list_append mt_append (pe_ix (kix_list K) (pv 2) (pv 5) (fun _ _ => rfl)) (pa_cons (pv 4) pa_nil))))))
    (pss_cons (ps_set (i := 6) sc_fewest.nd rfl (Or.inl rfl) (ok_call G_leaves_of (by exact hr.mono (by decide)) rfl (pa_cons (pv 2) pa_nil)))
    (pss_cons (ps_set (i := 7) sc_fewest.nd rfl (Or.inl rfl) (pe_op op_fdiv (pe_callB (kcall_len_seq K) (by rfl) Z.len PySem.boot_len (pa_cons (pv 6) pa_nil)) pe_int))
    (pss_cons (ps_for PassesOwn.never rfl (pi_range1 rfl Z.range (pa_cons (pe_op op_sub (pe_callB (kcall_len_seq K) (by rfl) Z.len PySem.boot_len (pa_cons (pv 6) pa_nil)) (pv 7)) pa_nil)) (pg_name (i := 8) sc_fewest.nd rfl (Or.inl rfl))
      (pss_one (ps_expr (pe_bm PySem.F.plainAttrs_list PySem.F.slot_list_append PySem.F.type_list_append mt_append (pv 3) (pa_cons (pe_tup (pa_cons (pe_ix (kix_list K) (pv 6) (pv 8) (fun _ _ => rfl)) (pa_cons (pe_ix (kix_list K) (pv 6) (pe_op op_add (pv 8) (pv 7)) (fun _ _ => rfl)) pa_nil))) pa_nil)))))
    (pss_one (ps_ret (pe_lc (own := [("one", 4), ("other", 5)]) (tt := tYes) rfl sc_fewest.nd (kpi_list K (pv 3)) (blkOk_by (by dsimp only [cxOf, Cx.nox, Cx.wish, Cx.blk, compEnvC, envOfC]; (try (rw [relabel_eq]; dsimp only)); decide +kernel)) (fun _ _ _ _ _ => (kpg_tup K 2 rfl (pgs_cons (pg_name (i := 4) sc_fewest.nd rfl (Or.inl rfl)) (pgs_cons (pg_name (i := 5) sc_fewest.nd rfl (Or.inl rfl)) pgs_nil)))) (fun _ _ _ _ _ => pts_nil) (fun _ _ _ _ _ => (pe_tup (pa_cons (pe_ix (kix_list K) (pe_ix (kix_list K) (pv 1) (pv 4) (fun _ _ => rfl)) pe_int (fun _ _ => rfl)) (pa_cons (pe_ix (kix_list K) (pe_ix (kix_list K) (pv 1) (pv 5) (fun _ _ => rfl)) pe_int (fun _ _ => rfl)) pa_nil)))))))))))))), ?_⟩)
  rintro st ok Q q
  walk_at "go"
  have hin := tok_in ok
  have lo := ok.lo
  have hi := ok.hi
  have few := ok.few
  have I := pcs_st ok
  have lq := pcs_len ok
  have W := whole_pcs ok
  have pne : wholeP st ≠ [] := fun z => by
    obtain ⟨q, hq, _⟩ := W.all 0 (Int.le_refl 0) (by omega)
    rw [z] at hq; cases hq
  obtain ⟨t, es, R, con⟩ := tied_ok hin ok.keys I W pne
  change (wholeP st).foldl (tieStep (tieF st) (pcsF st).length (pcsF st)) ([], none) = t at es
  change TieI (tieF st) (pcsF st).length (pcsF st) (wholeP st) t at R
  change ∀ u v, (0 ≤ u ∧ u < ((pcsF st).length : Int)) → (0 ≤ v ∧ v < ((pcsF st).length : Int)) → Conn (tieF st ++ t.1) u v at con
  have et : tiedF (tieF st) (pcsF st).length (pcsF st) (wholeP st) = t.1 := by unfold tiedF; rw [es]
  have m1 : 1 ≤ ((pcsF st).length : Int) := by
    have := po_lt I (x := 0) (Int.le_refl 0) (by omega)
    omega
  have LI := leaf_i m1 R.fo R.rng con
  have lT : (tieF st).length ≤ 60 := Nat.le_trans ties_len few
  have lt1 : t.1.length ≤ 16 := by
    have h1 := R.len
    have h2 : (wholeP st).length ≤ 16 := by have := parts_len (n := st.many) (E := leftE st.held []); unfold wholeP; omega
    omega
  obtain ⟨LV, hLV⟩ : ∃ LV, leavesF (tieF st ++ t.1) (pcsF st).length = LV := ⟨_, rfl⟩
  rw [hLV] at LI
  have lLV : LV.length ≤ 16 := by
    have := nodup_le (ys := rangeI ((pcsF st).length : Int)) LI.nd fun x hx => mem_rangeI.mpr ((LI.mem x).mp hx).1
    rw [rangeI_len] at this
    omega
  have hne := half_ne R.fo R.rng LI
  have hrg : ∀ e ∈ t.1 ++ halfP LV, (0 ≤ e.1 ∧ e.1 < ((pcsF st).length : Int)) ∧ (0 ≤ e.2 ∧ e.2 < ((pcsF st).length : Int)) := fun e he => by
    rcases List.mem_append.mp he with he | he
    · exact R.rng e (List.mem_append_right _ he)
    · obtain ⟨h1, h2, h3⟩ := hne e he
      exact ⟨((LI.mem _).mp h2).1, ((LI.mem _).mp h3).1⟩
  have ef : fewestF st.many st.held = (t.1 ++ halfP LV).map fun e => (hdI (pcsF st) e.1, hdI (pcsF st) e.2) := by
    unfold fewestF nodeP
    rw [← leftE_nil]
    show ((tiedF (tieF st) (pcsF st).length (pcsF st) (wholeP st) ++ halfP (leavesF (tieF st ++ tiedF (tieF st) (pcsF st).length (pcsF st) (wholeP st)) (pcsF st).length)).map _) = _
    rw [et, hLV]
  rw [ef] at q
  have tv : ∀ {F0 : Hp} {ρ : List Sl} {i : Nat} {L : List Pr} {m : Int}, ρ[i]? = some (mll K H ((tieLists L m).map fun l => l.map .int)) → EvH H F0 ρ (tVar i) (dat K (tiesD L m)) := fun {F0 ρ i L m} h => by
    have e : PyData.list (((tieLists L m).map fun l => l.map PyData.int).map .list) = tiesD L m := by rw [List.map_map, List.map_map]; rfl
    rw [← e]
    exact evh_var h rd_mll
  refine q_set K (d := partsD (pcsF st)) (ev_call (α := TSt) st ok (ea_cons st_isTown (evh_fz st_isTown rfl) ea_nil)) (q_setLLt (α := TSt) (i := 2) st ok (ea_cons st_isTown (evh_fz st_isTown rfl) (ea_cons st_dat (evh_var rfl rd_sn) ea_nil)) (q_setM K (ds := t.1.map pairD) (evm_call (α := TSt) st ok (ea_cons st_isTown (evh_fz st_isTown rfl) (ea_cons st_dat (evh_var rfl rd_sn) (ea_cons st_dat (tv rfl) ea_nil))) (by show PyData.list _ = _; rw [et]) (flatDs_map (fun _ => rfl) _)) ?a0))
  case a0 =>
  generalize pcsF st = S at *
  generalize tieF st = L at *
  refine q_forM (i := 3) (xs := t.1) (e := pairD) rfl (fun l pre ρ' => ∃ s4 s5, ρ' = [.fz (isTown K C st), sn K H (partsD S), mll K H ((tieLists (L ++ pre) S.length).map fun l => l.map .int), .mo (mlLP K H l (t.1.map pairD)), s4, s5, Sl.no, Sl.no, Sl.no]) ?a1 ?a2 ?a3 ?a4
  case a1 => exact fun l => ⟨Sl.no, Sl.no, by rw [List.append_nil]; rfl⟩
  case a2 => rintro l pre ρ' ⟨s4, s5, rfl⟩; rfl
  case a3 =>
    rintro l F1 pre ⟨a, b⟩ post ρ' hx ⟨s4, s5, rfl⟩
    have hm : (a, b) ∈ t.1 := by rw [hx]; simp
    have he := R.rng (a, b) (List.mem_append_right _ hm)
    dsimp only at he
    have lp : pre.length ≤ 16 := by have := congrArg List.length hx; rw [List.length_append] at this; omega
    refine ⟨_, _, bind_tup (bindl_cons (bind_name st_nwd) (bindl_cons (bind_name st_nwd) bindl_nil)) rfl, q_tie (i := 2) (L := L ++ pre) (m := S.length) rfl he.1 he.2 (R.fo.ne (List.mem_append_right _ hm)) (by rw [List.length_append]; omega) (evh_var rfl rd_sn) (ev_var rfl) (fun s => evh_var rfl rd_sn) (fun s => ev_var rfl) (at_lpD ⟨sn K H (.int a), sn K H (.int b), ?_⟩)⟩
    rw [← List.append_assoc]
    rfl
  case a4 =>
  rintro l ρ' ⟨s4, s5, rfl⟩
  refine at_mlL (i := 3) rfl ?_
  have hf : ((LV.length / 2 : Nat) : Int) = (LV.length : Int) / 2 := by omega
  refine q_set K (d := intsD LV) (ev_is (ev_call (α := List Pr × Int) (L ++ t.1, (S.length : Int)) ⟨R.fo, R.rng, m1, by dsimp only; omega⟩ (ea_cons st_dat (tv rfl) ea_nil)) (by show intsD (leavesF _ _) = _; rw [hLV])) (q_set K (d := .int ((LV.length / 2 : Nat) : Int)) (ev_ci (Ev.hd (ev_lenL (evh_var rfl rd_sn))) (Ev.hd ev_int) ?b1 ?b2) (q_for (xs := rangeI ((LV.length - LV.length / 2 : Nat) : Int)) (e := PyData.int) (q := nwd K H) (EvJ.i ?b3)
    (fun pre ρ' => ∃ s8, ρ' = [.fz (isTown K C st), sn K H (partsD S), mll K H ((tieLists (L ++ t.1) S.length).map fun l => l.map .int), ml K H ((t.1 ++ pre.map fun k => (LV.getD k.toNat 0, LV.getD (k.toNat + LV.length / 2) 0)).map pairD), s4, s5, sn K H (intsD LV), sn K H (.int ((LV.length / 2 : Nat) : Int)), s8]) ?b4 ?b5 ?b6))
  case b1 => exact ⟨by decide, by decide⟩
  case b2 => rw [List.length_map, hf]
  case b3 =>
    rw [← rangeD_eq]
    refine evj_range1 (ea_cons st_dat (Ev.hd (ev_ii (c := ((LV.length - LV.length / 2 : Nat) : Int)) (Ev.hd (ev_lenL (evh_var rfl rd_sn))) (evh_var rfl rd_sn) ?_)) ea_nil) (by omega)
    rw [List.length_map]
    have e : (LV.length : Int) - ((LV.length / 2 : Nat) : Int) = ((LV.length - LV.length / 2 : Nat) : Int) := by omega
    rw [e]
  case b4 => exact ⟨Sl.no, by rw [List.map_nil, List.append_nil]; rfl⟩
  case b5 =>
    rintro F1 pre k post ρ' hx ⟨s8, rfl⟩
    have hk := mem_rangeI.mp (by rw [hx]; simp : k ∈ rangeI ((LV.length - LV.length / 2 : Nat) : Int))
    have lp : pre.length ≤ 16 := by have := congrArg List.length hx; rw [rangeI_len, List.length_append] at this; omega
    have h1 : k.toNat < LV.length := by omega
    have h2 : k.toNat + LV.length / 2 < LV.length := by omega
    refine ⟨_, _, bind_name st_nwd, at_drop (evx_append (i := 3) (d := pairD (LV.getD k.toNat 0, LV.getD (k.toNat + LV.length / 2) 0)) rfl (ev_tup (eas_cons (ev_ixN (ev_var rfl) (evh_var rfl rd_sn) (int_at h1 (by omega))) (eas_cons (ev_ixN (ev_var rfl) (Ev.hd (ev_ii (evh_var rfl rd_sn) (evh_var rfl rd_sn) rfl)) (int_at h2 (by omega))) eas_nil)) (by simp)) (by rw [List.length_map, List.length_append, List.length_map]; omega)) (at_lpD ⟨sn K H (.int k), ?_⟩)⟩
    rw [show (t.1 ++ (pre ++ [k]).map fun k => (LV.getD k.toNat 0, LV.getD (k.toNat + LV.length / 2) 0)).map pairD = (t.1 ++ pre.map fun k => (LV.getD k.toNat 0, LV.getD (k.toNat + LV.length / 2) 0)).map pairD ++ [pairD (LV.getD k.toNat 0, LV.getD (k.toNat + LV.length / 2) 0)] by simp]
    rfl
  case b6 =>
    rintro ρ' ⟨s8, rfl⟩
    have e : ((rangeI ((LV.length - LV.length / 2 : Nat) : Int)).map fun k => (LV.getD k.toNat 0, LV.getD (k.toNat + LV.length / 2) 0)) = halfP LV := by rw [range_half]; rfl
    rw [e]
    refine at_fix 3 rfl (at_ret (K := K) (EvM.nw (evm_lc1 (xs := t.1 ++ halfP LV) (e := pairD) (q := nwd K H) (fun e => pairD (hdI S e.1, hdI S e.2)) (evj_list (ev_var rfl)) (fun F1 e he => ?c1) (by rw [List.length_append, half_len]; omega))) ?c2)
    case c1 =>
      obtain ⟨a, b⟩ := e
      have hr := hrg _ he
      dsimp only at hr
      have at1 : ∀ v : Int, 0 ≤ v → v < (S.length : Int) → ∃ p, S[v.toNat]? = some p ∧ (p.map PyData.int)[0]? = some (.int (hdI S v)) := fun v v0 v1 => by
        have hl : v.toNat < S.length := by omega
        refine ⟨S[v.toNat], List.getElem?_eq_getElem hl, ?_⟩
        have hp := (I.pc _ (List.getElem_mem hl)).head
        have eh : hdI S v = S[v.toNat].getD 0 0 := by unfold hdI; rw [getD_some (List.getElem?_eq_getElem hl)]
        rw [eh]
        cases z : S[v.toNat] with
        | nil => rw [z] at hp; cases hp
        | cons x r => rfl
      obtain ⟨p1, h1, h2⟩ := at1 a hr.1.1 hr.1.2
      obtain ⟨p2, h3, h4⟩ := at1 b hr.2.1 hr.2.2
      refine ⟨_, _, bind_tup (bindl_cons (bind_name st_nwd) (bindl_cons (bind_name st_nwd) bindl_nil)) rfl, by decide, ev_tup (eas_cons (ev_ixN (ds := p1.map .int) (ev_ixN (ev_var rfl) (evh_var rfl rd_sn) (atI_map intsD (atI_nn hr.1.1 h1))) (Ev.hd ev_int) (atI_nn (Int.le_refl 0) h2)) (eas_cons (ev_ixN (ds := p2.map .int) (ev_ixN (ev_var rfl) (evh_var rfl rd_sn) (atI_map intsD (atI_nn hr.2.1 h3))) (Ev.hd ev_int) (atI_nn (Int.le_refl 0) h4)) eas_nil)) (by simp)⟩
    case c2 =>
      rw [show ((t.1 ++ halfP LV).map fun e => (hdI S e.1, hdI S e.2)).map pairD = (t.1 ++ halfP LV).map fun e => pairD (hdI S e.1, hdI S e.2) by rw [List.map_map]; rfl] at q
      exact q
end

abbrev s_way_on : Stmt := top 27
theorem sc_way_on : FnScope ["ways", "first", "last", "ahead", "waiting", "at", "step", "found", "here"] ["ways", "first", "last"] (defScope s_way_on) := ⟨rfl, rfl, rfl, by decide +kernel, rfl, by decide +kernel, by decide +kernel⟩
/-! a shortest walk by ways -/
def nbW (ways : List Row) (h : Int) : List (Int × Int) := (ways.filter fun r => decide (r.2.1 = h)).map fun r => (r.1, r.2.2)
def wayRun (ways : List Row) (b : Int) : Nat → Nat → List Nd → List Nd
  | 0, _, A => A
  | m + 1, i, A => if b ∈ A.map (·.1) then A else match A[i]? with
    | none => A
    | some x => wayRun ways b m (i + 1) ((nbW ways x.1).foldl (pushB x.1) A)
def wayF (ways : List Row) (a b : Int) : List Row := backF (wayRun ways b 17 0 [(a, none)]) (wayRun ways b 17 0 [(a, none)]).length b
def stepD (x : Nd) : PyData := match x.2 with
  | some p => rowD (p.1, p.2, x.1)
  | none => .none
def aheadW (A : List Nd) : List (Int × PyData) := A.map fun x => (x.1, stepD x)
theorem look_aheadWF {A : List Nd} {x : Int} : lookI (aheadW A) x = (A.find? fun y => decide (y.1 = x)).map fun y => stepD y := by
  unfold lookI aheadW
  induction A with
  | nil => rfl
  | cons y A ih =>
    rw [List.map_cons, List.find?_cons, List.find?_cons]
    by_cases e : y.1 = x
    · simp [e]
    · have e1 : (y.1 == x) = false := by simp [e]
      rw [e1, decide_eq_false e]
      exact ih
theorem look_aheadW {A : List Nd} (nd : (A.map (·.1)).Nodup) {j : Nat} {x : Nd} (hj : A[j]? = some x) : lookI (aheadW A) x.1 = some (stepD x) := by
  rw [look_aheadWF]
  cases e : A.find? fun y => decide (y.1 = x.1) with
  | none =>
    have := List.find?_eq_none.mp e x (List.mem_of_getElem? hj)
    simp at this
  | some y =>
    have h1 := List.find?_some e
    obtain ⟨k, hk⟩ := List.mem_iff_getElem?.mp (List.mem_of_find?_eq_some e)
    have := nd_at nd hk hj (of_decide_eq_true h1)
    subst this
    rw [hk] at hj
    cases hj
    rfl
theorem in_aheadW {A : List Nd} {x : Int} : (lookI (aheadW A) x).isSome = decide (x ∈ A.map (·.1)) := by
  have h := in_ahead (A := A) (x := x)
  rw [look_aheadF, Option.isSome_map] at h
  rw [look_aheadWF, Option.isSome_map]
  exact h
theorem put_aheadW {A : List Nd} {x : Nd} (h : x.1 ∉ A.map (·.1)) : putI (aheadW A) x.1 (stepD x) = aheadW (A ++ [x]) := by
  unfold putI
  have e : ((aheadW A).any fun p => p.1 == x.1) = false := by
    rw [List.any_eq_false]
    intro p hp z
    obtain ⟨y, hy, rfl⟩ := List.mem_map.mp hp
    exact h (List.mem_map.mpr ⟨y, hy, by simpa using z⟩)
  rw [if_neg (by rw [e]; decide)]
  unfold aheadW
  rw [List.map_append]
  rfl
def wayStep (h : Int) (A : List Nd) (r : Row) : List Nd := if r.2.1 = h ∧ r.2.2 ∉ A.map (·.1) then A ++ [(r.2.2, some (r.1, h))] else A
theorem way_fold (h : Int) : ∀ (l : List Row) (A : List Nd), l.foldl (wayStep h) A = (nbW l h).foldl (pushB h) A
  | [], _ => rfl
  | r :: l, A => by
    rw [List.foldl_cons, way_fold h l]
    unfold nbW
    rw [List.filter_cons]
    by_cases h1 : r.2.1 = h
    · rw [if_pos (by simpa using h1), List.map_cons, List.foldl_cons]
      congr 1
      unfold wayStep pushB
      by_cases h2 : r.2.2 ∈ A.map (·.1)
      · rw [if_neg (fun z => z.2 h2), if_pos h2]
      · rw [if_pos ⟨h1, h2⟩, if_neg h2]
    · rw [if_neg (by simpa using h1)]
      congr 1
      exact if_neg fun z => h1 z.1
def waysIn (n : Int) (ways : List Row) : Prop := ∀ r ∈ ways, (0 ≤ r.2.1 ∧ r.2.1 < n) ∧ 0 ≤ r.2.2 ∧ r.2.2 < n
theorem nbW_in {n : Int} {ways : List Row} (h : waysIn n ways) : nbsIn (nbW ways) n := fun x _ _ q hq => by
  obtain ⟨r, hr, rfl⟩ := List.mem_map.mp hq
  exact (h r (List.mem_filter.mp hr).1).2
theorem mem_nbW {ways : List Row} {h : Int} {p : Int × Int} : p ∈ nbW ways h ↔ (p.1, h, p.2) ∈ ways := by
  unfold nbW
  rw [List.mem_map]
  constructor
  · rintro ⟨⟨s, a, b⟩, hr, rfl⟩
    obtain ⟨h1, h2⟩ := List.mem_filter.mp hr
    have : a = h := by simpa using h2
    subst this
    exact h1
  · intro hp
    exact ⟨_, List.mem_filter.mpr ⟨hp, by simp⟩, rfl⟩
theorem dc_rcs {ways : List Row} {a b : Int} (h : DC ways a b) : RcS (nbW ways) a b := by
  induction h with
  | refl => exact .refl
  | @step b c s _ e ih => exact .step (q := (s, c)) ih (mem_nbW.mpr e)
theorem bfi_step2 {nb : Int → List (Int × Int)} {n a b : Int} {i : Nat} {A : List Nd} (hnb : nbsIn nb n) (I : BfI nb (fun y => decide (y = b)) n a i A) {x : Nd} (hx : A[i]? = some x) (hb : b ∉ A.map (·.1)) : BfI nb (fun y => decide (y = b)) n a (i + 1) ((nb x.1).foldl (pushB x.1) A) :=
  bfi_step hnb I hx (decide_eq_false fun z => hb (z ▸ List.mem_map.mpr ⟨x, List.mem_of_getElem? hx, rfl⟩))
theorem way_run {n a b : Int} {ways : List Row} (hin : waysIn n ways) (hk : RcS (nbW ways) a b) : ∀ {m i : Nat} {A : List Nd}, BfI (nbW ways) (fun y => decide (y = b)) n a i A → n.toNat + 1 ≤ m + i → ∃ i', BfI (nbW ways) (fun y => decide (y = b)) n a i' (wayRun ways b m i A) ∧ b ∈ (wayRun ways b m i A).map (·.1)
  | 0, i, A, I, f => by
    have := I.more ⟨b, hk, decide_eq_true rfl⟩
    have := I.len
    omega
  | m + 1, i, A, I, f => by
    unfold wayRun
    by_cases hb : b ∈ A.map (·.1)
    · rw [if_pos hb]; exact ⟨i, I, hb⟩
    · have hl := I.more ⟨b, hk, decide_eq_true rfl⟩
      have hx : A[i]? = some A[i] := List.getElem?_eq_getElem hl
      rw [if_neg hb, hx]
      exact way_run hin hk (bfi_step2 (nbW_in hin) I hx hb) (by omega)
theorem back_way {n a b : Int} {ways : List Row} {i : Nat} {A : List Nd} (I : BfI (nbW ways) (fun y => decide (y = b)) n a i A) {j m : Nat} {x : Nd} (hj : A[j]? = some x) (jm : j < m) : chain a (backF A m x.1) x.1 ∧ ∀ r ∈ backF A m x.1, r ∈ ways := by
  have use : ∀ {W : List Row} {y : Int}, WkI (nbW ways) (fun y => decide (y = b)) a W y → chain a W y ∧ ∀ r ∈ W, r ∈ ways := fun w => ⟨w.ch, fun r hr => mem_nbW.mp (w.nbs r hr)⟩
  by_cases ji : j ≤ i
  · exact use (back_ok I j m x hj ji jm).1
  · obtain ⟨s, p, k, y, e1, e2, e3, e4, rfl, e6⟩ := I.par j x hj (by omega)
    match m, jm with
    | m + 1, jm =>
    have e : backF A (m + 1) x.1 = backF A m y.1 ++ [(s, y.1, x.1)] := by
      conv => lhs; unfold backF
      rw [look_at I.nodup hj, e1]
    obtain ⟨h1, h2⟩ := use (back_ok I k m y e4 (by omega) (by omega)).1
    rw [e]
    refine ⟨chain_app h1 ⟨rfl, rfl⟩, fun r hr => ?_⟩
    rcases List.mem_append.mp hr with hr | hr
    · exact h2 r hr
    · rw [List.mem_singleton.mp hr]; exact mem_nbW.mp e6
theorem way_ok {n a b : Int} {ways : List Row} (hn : n ≤ 16) (hin : waysIn n ways) (a0 : 0 ≤ a ∧ a < n) (hk : RcS (nbW ways) a b) : chain a (wayF ways a b) b ∧ (∀ r ∈ wayF ways a b, r ∈ ways) ∧ (wayF ways a b).length ≤ 16 := by
  obtain ⟨i, I, hb⟩ := way_run (m := 17) hin hk (bfi_start a0.1 a0.2) (by omega)
  obtain ⟨x, hx, e⟩ := List.mem_map.mp hb
  obtain ⟨j, hj⟩ := List.mem_iff_getElem?.mp hx
  have lj := (List.getElem?_eq_some_iff.mp hj).1
  have al := I.len
  unfold wayF
  generalize wayRun ways b 17 0 [(a, none)] = A at *
  obtain ⟨h1, h2⟩ := back_way I hj lj
  rw [e] at h1 h2
  refine ⟨h1, h2, ?_⟩
  have : ∀ (m : Nat) (h : Int), (backF A m h).length ≤ m := by
    intro m
    induction m with
    | zero => intro h; exact Nat.le_refl _
    | succ m ih =>
      intro h
      unfold backF
      split
      · next s p _ => rw [List.length_append]; have := ih p; simp; omega
      · simp
  have := this A.length b
  omega
abbrev spWay (K : PySem.W.Frag) : Sp := Fp K (fun x : List Row × Int × Int => ∃ n : Int, n ≤ 16 ∧ waysIn n x.1 ∧ (0 ≤ x.2.1 ∧ x.2.1 < n) ∧ RcS (nbW x.1) x.2.1 x.2.2 ∧ x.1.length ≤ 1000) (fun x => [dat K (.list (x.1.map rowD)), dat K (.int x.2.1), dat K (.int x.2.2)]) (fun x => .list ((wayF x.1 x.2.1 x.2.2).map rowD))
section
variable {P : Program} {w : World} {K : PySem.W.Frag} {mg : Str → Option Value} {base : Heap}
theorem ok_wayon (Z : Zs mg) (D : Dfn K mg "way_on" "way_on" s_way_on ["ways", "first", "last"]) : Ok P w K mg base CX0 1 "way_on" ["ways", "first", "last"] (spWay K) := by
  refine fp_ok D sc_way_on (by decide) (fun _ => rfl) (fun _ => stabC st_dat (stabC st_dat (stab1 st_dat))) (fun f cdv A outer s H E hr => ⟨_, (pss_cons (ps_set (i := 3) sc_way_on.nd rfl (Or.inl rfl) (pe_disp (pps_cons (pv 1) pe_non pps_nil) (by rfl) (by rfl) (fun z => by cases z) (by decide)))
    (pss_cons (ps_set (i := 4) sc_way_on.nd rfl (Or.inl rfl) (pe_lst (pa_cons (pv 1) pa_nil)))
    (pss_cons (ps_set (i := 5) sc_way_on.nd rfl (Or.inl rfl) pe_int)
    (pss_cons (ps_while PassesOwn.never (pt_cmp (pc_dnotin (by exact hu_of hr) (pv 2) (pv 3))) (pss_cons (ps_for PassesOwn.never rfl (kpi_list K (pv 0)) (pg_name (i := 6) sc_way_on.nd rfl (Or.inl rfl))
      (pss_one (ps_if (PW.pt (pw_and (pt_cmpR op_eq (pe_ix (kix_tup K) (pv 6) pe_int (fun _ _ => rfl)) (pe_ix (kix_list K) (pv 4) (pv 5) (fun _ _ => rfl)) (nomark _)) (pw_and1 (pt_cmp (pc_dnotin (by exact hu_of hr) (pe_ix (kix_tup K) (pv 6) pe_int (fun _ _ => rfl)) (pv 3)))))) (pss_cons (ps_dput (by exact hu_of hr) (pv 3) (pe_ix (kix_tup K) (pv 6) pe_int (fun _ _ => rfl)) (pv 6) rfl)
    (pss_one (ps_expr (pe_bm PySem.F.plainAttrs_list PySem.F.slot_list_append PySem.F.type_list_append mt_append (pv 4) (pa_cons (pe_ix (kix_tup K) (pv 6) pe_int (fun _ _ => rfl)) pa_nil))))) pss_nil)))
    (pss_one (ps_aug (i := 5) sc_way_on.nd rfl (Or.inl rfl) pe_int ip_add))))
    (pss_cons (ps_set (i := 7) sc_way_on.nd rfl (Or.inl rfl) (pe_lst pa_nil))
    (pss_cons (ps_set (i := 8) sc_way_on.nd rfl (Or.inl rfl) (pv 2))
    (pss_cons (ps_while PassesOwn.never (pt_cmpR op_notN (pe_dget (by exact hu_of hr) (pv 3) (pv 8) (fun _ _ => rfl)) pe_non (nomark _)) (pss_cons (ps_expr (pe_bm PySem.F.plainAttrs_list PySem.F.slot_list_append PySem.F.type_list_append mt_append (pv 7) (pa_cons (pe_dget (by exact hu_of hr) (pv 3) (pv 8) (fun _ _ => rfl)) pa_nil)))
    (pss_one (ps_set (i := 8) sc_way_on.nd rfl (Or.inl rfl) (pe_ix (kix_tup K) (pe_dget (by exact hu_of hr) (pv 3) (pv 8) (fun _ _ => rfl)) pe_int (fun _ _ => rfl))))))
    (pss_one (ps_ret (kpe_revL K (pv 7))))))))))), ?_⟩)
  rintro ⟨ways, a, b⟩ ⟨n, hn, hin, ha, hk, hlw⟩ Q q
  dsimp only at hin ha hk hlw q
  walk_at "go"
  have hnb := nbW_in hin
  have T0 : BfI (nbW ways) (fun y => decide (y = b)) n a 0 [(a, none)] := bfi_start ha.1 ha.2
  have more := fun {i : Nat} {A : List Nd} (I : BfI (nbW ways) (fun y => decide (y = b)) n a i A) => I.more ⟨b, hk, decide_eq_true rfl⟩
  generalize hR : wayRun ways b 17 0 [(a, none)] = R
  have eW0 : wayF ways a b = backF R R.length b := by unfold wayF; rw [hR]
  rw [eW0] at q
  refine' q_disp1 (K := K) (k := a) (d := .none) ?a0 ev_non (q_setM K (ds := [.int a]) ?a2 (q_set K (d := .int 0) ev_int (q_while (fun m ρ' => ∃ (i : Nat) (A : List Nd) (s6 : Sl), ρ' = [sa K (.list (ways.map rowD)), sa K (.int a), sa K (.int b), md K H (aheadW A), ml K H (A.map fun x => .int x.1), sn K H (.int (i : Int)), s6, .no, .no] ∧
    BfI (nbW ways) (fun y => decide (y = b)) n a i A ∧ wayRun ways b m i A = R ∧ n.toNat + 1 ≤ m + i) 17 ?a3 ?a4)))
  case a0 => walk_at "ev"
  case a2 => exact evm_lst (by walk_at "ev") (by simp)
  case a3 => exact ⟨0, [(a, none)], _, rfl, T0, hR, by omega⟩
  case a4 =>
    rintro m ρ' ⟨i, A, s6, rfl, I, er, fu⟩
    have al := I.len
    refine ⟨!decide (b ∈ A.map (·.1)), ?b1, fun hc => ?b2, fun hc => ?b3⟩
    case b1 =>
      rw [← in_aheadW]
      exact et_B (K := K) (Ev.hd (ev_dnotin (evh_var rfl rd_sa) (evh_md rfl)))
    case b2 =>
      have hb : b ∉ A.map (·.1) := by simpa using hc
      have il := more I
      obtain ⟨x, hx⟩ : ∃ x, A[i]? = some x := ⟨_, List.getElem?_eq_getElem il⟩
      have xr := I.rng x (List.mem_of_getElem? hx)
      cases m with
      | zero => omega
      | succ m =>
      have I2 := bfi_step2 hnb I hx hb
      have er2 : wayRun ways b m (i + 1) ((nbW ways x.1).foldl (pushB x.1) A) = R := by
        rw [← er]
        conv => rhs; unfold wayRun
        rw [if_neg hb, hx]
      have nbx := hnb x.1 xr.1 xr.2
      refine' q_for (xs := ways) (e := rowD) (q := nwd K H) (EvJ.i (evj_listF (ev_var rfl) (flatDs_map (fun _ => rfl) _)))
        (fun pre ρ' => ∃ (N : List Nd) (s6 : Sl), pre.foldl (wayStep x.1) A = A ++ N ∧ ρ' = [sa K (.list (ways.map rowD)), sa K (.int a), sa K (.int b), md K H (aheadW (A ++ N)), ml K H ((A ++ N).map fun x => .int x.1), sn K H (.int (i : Int)), s6, .no, .no]) ?c2 ?c3 ?c4
      case c2 => exact ⟨[], s6, by simp, by rw [List.append_nil]⟩
      case c3 =>
        rintro F1 pre ⟨street, one, goal⟩ post ρ' hxs ⟨N, s6, eN, rfl⟩
        have ef : (pre ++ [(street, one, goal)]).foldl (wayStep x.1) A = wayStep x.1 (A ++ N) (street, one, goal) := by rw [List.foldl_append, eN]; rfl
        have mid : (A ++ N).length ≤ 16 := by
          rw [← eN, way_fold]
          obtain ⟨N', e, h1, h2, h3⟩ := pushB_fold x.1 (nbW pre x.1) A
          rw [e]
          have := nodup_le (h3 I.nodup) (ys := rangeI n) fun v hv => by
            obtain ⟨y, hy, rfl⟩ := List.mem_map.mp hv
            rcases List.mem_append.mp hy with hy | hy
            · exact mem_rangeI.mpr (I.rng y hy)
            · obtain ⟨r, hr, rfl⟩ := h2 y hy
              refine mem_rangeI.mpr (nbx r ?_)
              have := mem_nbW.mp hr
              exact mem_nbW.mpr (by rw [hxs]; exact List.mem_append_left _ this)
          rw [rangeI_len, List.length_map] at this
          omega
        have wx : ∀ {F0 : Hp} {s3 s6 s7 s8 : Sl}, EvH H F0 [sa K (.list (ways.map rowD)), sa K (.int a), sa K (.int b), s3, ml K H ((A ++ N).map fun x => .int x.1), sn K H (.int (i : Int)), s6, s7, s8] (tOp (rIxL K) (tVar 4) (tVar 5)) (dat K (.int x.1)) := fun {F0 s3 s6 s7 s8} =>
          evh_ixL (i := (i : Int)) (ds := (A ++ N).map fun x => .int x.1) (d := .int x.1) (evh_var rfl rd_ml) (evh_var rfl rd_sn) (atI_nn (by omega) (by rw [Int.toNat_natCast, List.getElem?_map, List.getElem?_append_left il, hx]; rfl))
        have p1 : ∀ {F2 : Hp} {ρ : List Sl}, ρ[6]? = some (sn K H (rowD (street, one, goal))) → Ev H F2 ρ (tOp (rIxT K) (tVar 6) (tC (.int 1))) (nwd K H (.int one)) := fun {F2 ρ} h => ev_ixT (ev_var h) (Ev.hd ev_int) rfl
        have p2 : ∀ {F2 : Hp} {ρ : List Sl}, ρ[6]? = some (sn K H (rowD (street, one, goal))) → Ev H F2 ρ (tOp (rIxT K) (tVar 6) (tC (.int 2))) (nwd K H (.int goal)) := fun {F2 ρ} h => ev_ixT (ev_var h) (Ev.hd ev_int) rfl
        refine' ⟨_, _, bind_name st_nwd, ?_⟩
        refine' at_when (c := decide (one = x.1) && !decide (goal ∈ (A ++ N).map (·.1))) (et_and ?d1 fun _ => ?d2) (fun hd => ?d3) (fun hd => ?d4)
        case d1 => exact et_test (K := K) (Ev.hd (ev_eqI (Ev.hd (p1 rfl)) wx))
        case d2 =>
          rw [← in_aheadW]
          exact et_B (K := K) (Ev.hd (ev_dnotin (Ev.hd (p2 rfl)) (evh_md rfl)))
        case d3 =>
          have hd2 : one = x.1 ∧ goal ∉ (A ++ N).map (·.1) := by
            rw [Bool.and_eq_true, decide_eq_true_eq, Bool.not_eq_true', decide_eq_false_iff_not] at hd
            exact hd
          obtain ⟨rfl, hd3⟩ := hd2
          have es : wayStep x.1 (A ++ N) (street, x.1, goal) = A ++ (N ++ [(goal, some (street, x.1))]) := by
            rw [← List.append_assoc]
            exact if_pos ⟨rfl, hd3⟩
          refine' q_dput (i := 3) (k := goal) (d := rowD (street, x.1, goal)) rfl (ev_var rfl) (Ev.hd (p2 rfl)) ?e2 (at_drop (evx_append (i := 4) (d := .int goal) rfl (p2 rfl) ?e4) (at_lpD ⟨N ++ [(goal, some (street, x.1))], sn K H (rowD (street, x.1, goal)), by rw [ef, es], ?e5⟩))
          case e2 => rw [aheadW, List.length_map]; omega
          case e4 => rw [List.length_map]; omega
          case e5 =>
            rw [← List.append_assoc, ← put_aheadW (x := (goal, some (street, x.1))) hd3, show ((A ++ N ++ [(goal, some (street, x.1))]).map fun x : Nd => PyData.int x.1) = ((A ++ N).map fun x : Nd => PyData.int x.1) ++ [.int goal] by rw [List.map_append]; rfl]
            rfl
        case d4 =>
          have hd2 : ¬ (one = x.1 ∧ goal ∉ (A ++ N).map (·.1)) := fun z => by
            rw [decide_eq_true z.1, decide_eq_false z.2] at hd
            cases hd
          have es : wayStep x.1 (A ++ N) (street, one, goal) = A ++ N := if_neg hd2
          exact at_nxt (at_lp ⟨N, sn K H (rowD (street, one, goal)), by rw [ef, es], rfl⟩)
      case c4 =>
        rintro ρ' ⟨N, s6, eN, rfl⟩
        refine at_augI (i := 5) (a := (i : Int)) (b := 1) rfl ev_int (at_lwD (m' := m) (?_ : ∃ (i : Nat) (A : List Nd) (s6 : Sl), _ ∧ _ ∧ _ ∧ _) (Nat.lt_succ_self m))
        rw [way_fold] at eN
        rw [eN] at I2 er2
        exact ⟨i + 1, A ++ N, _, rfl, I2, er2, by omega⟩
    case b3 =>
      have hb : b ∈ A.map (·.1) := by simpa using hc
      have eR : R = A := by
        rw [← er]
        cases m with
        | zero => rfl
        | succ m => unfold wayRun; rw [if_pos hb]
      subst eR
      obtain ⟨x, hxm, ex⟩ := List.mem_map.mp hb
      obtain ⟨i0, hx⟩ := List.mem_iff_getElem?.mp hxm
      have i0l := (List.getElem?_eq_some_iff.mp hx).1
      generalize hW : backF R R.length b = W at q
      refine q_setM K (ds := []) (evm_lst eas_nil (by simp)) (q_set K (d := .int b) (EvH.nw (evh_var rfl rd_sa) rfl) (q_while (fun m ρ' => ∃ (j : Nat) (y : Nd) (L : List Row), ρ' = [sa K (.list (ways.map rowD)), sa K (.int a), sa K (.int b), md K H (aheadW R), ml K H (R.map fun x => .int x.1), sn K H (.int (i : Int)), s6, ml K H (L.map rowD), sn K H (.int y.1)] ∧
        R[j]? = some y ∧ j < m ∧ backF R m y.1 ++ L.reverse = W ∧ L.length + m ≤ 16) R.length ?c1 ?c2))
      case c1 => exact ⟨i0, x, [], by rw [ex]; rfl, hx, i0l, by rw [ex, hW]; simp, by simp; omega⟩
      case c2 =>
        rintro m ρ' ⟨j, y, L, rfl, hj, jm, eL, lL⟩
        have lk := look_aheadW I.nodup hj
        have lb := look_at I.nodup hj
        cases m with
        | zero => omega
        | succ m =>
        have unf : backF R (m + 1) y.1 = match lookB R y.1 with | some (s, p) => backF R m p ++ [(s, p, y.1)] | none => [] := rfl
        rw [lb] at unf
        cases ey : y.2 with
        | none =>
          have sd : stepD y = .none := by unfold stepD; rw [ey]
          rw [sd] at lk
          rw [ey] at unf
          refine ⟨false, et_test (K := K) (Ev.hd (ev_notN (c := true) (evh_dget (evh_md (i := 3) rfl) (evh_var (i := 8) rfl rd_sn) lk) (Ev.hd ev_non) fun F v p => by cases p; rfl)), (fun z => nomatch z), fun _ => ?_⟩
          dsimp only at unf
          rw [unf, List.nil_append] at eL
          refine at_ret (K := K) (d := .list (W.map rowD)) (ev_is (EvM.nw (evm_rev (evh_var (i := 7) (d := .list (L.map rowD)) rfl rd_ml) (flatDs_map (fun _ => rfl) _))) (by rw [← eL, List.map_reverse])) q
        | some sp =>
          obtain ⟨s, p⟩ := sp
          have sd : stepD y = rowD (s, p, y.1) := by unfold stepD; rw [ey]
          rw [sd] at lk
          rw [ey] at unf
          obtain ⟨s', p', k, z, e1, e2, e3, e4, e5, e6⟩ := I.par j y hj (fun z0 => by
            subst z0
            rw [I.hd] at hj
            cases hj
            cases ey)
          rw [ey] at e1
          cases e1
          refine ⟨true, et_test (K := K) (Ev.hd (ev_notN (c := false) (evh_dget (evh_md (i := 3) rfl) (evh_var (i := 8) rfl rd_sn) lk) (Ev.hd ev_non) fun F v p => by cases p; rfl)), fun _ => ?_, (fun z => nomatch z)⟩
          dsimp only at unf
          rw [unf] at eL
          refine q_drop (evx_append (i := 7) (d := rowD (s, p, y.1)) rfl (EvH.nw (evh_dget (evh_md (i := 3) rfl) (evh_var (i := 8) rfl rd_sn) lk) rfl) (by rw [List.length_map]; omega)) (at_set (K := K) (d := .int p) (EvH.nw (evh_ixT (i := 1) (ds := [.int s, .int p, .int y.1]) (evh_dget (evh_md (i := 3) rfl) (evh_var (i := 8) rfl rd_sn) lk) (Ev.hd ev_int) rfl) rfl) (at_lwD (m' := m) (?_ : ∃ (j : Nat) (y : Nd) (L : List Row), _ ∧ _ ∧ _ ∧ _ ∧ _) (Nat.lt_succ_self m)))
          refine ⟨k, z, L ++ [(s, p, y.1)], by rw [e5, List.map_append]; rfl, e4, by omega, ?_, by rw [List.length_append, List.length_singleton]; omega⟩
          rw [e5, List.reverse_append, ← eL]
          simp
end

abbrev s_round_trip : Stmt := top 28
theorem sc_round_trip : FnScope ["town", "ways", "found", "here", "step"] ["town", "ways"] (defScope s_round_trip) := ⟨rfl, rfl, rfl, by decide +kernel, rfl, by decide +kernel, by decide +kernel⟩
/-! defs that tell data or raise one class -/
def FpE (K : PySem.W.Frag) (CX : Addr) {α : Type} (pre : α → Prop) (args : α → List Pd) (res : α → Option PyData) : Sp := fun vs H Q E => ∃ x, pre x ∧ AOk (args x) H vs ∧ (∀ d, res x = some d → ∀ v H', Same H H' → Nw K H H' v d → Q v H') ∧ (res x = none → ∀ H', Same H H' → E (.ref CX) none H')
section
variable {K : PySem.W.Frag} {B F0 : Hp} {ρ : List Sl} {te ta tb tk : TE} {tr : TA} {D : Ends} {u : TS} {CX : Addr} {d : PyData} {E : XK}
theorem eo_callE {α : Type} {pre : α → Prop} {args : α → List Pd} {res : α → Option PyData} (x : α) (hp : pre x) (h : EvA B F0 ρ tr (args x)) (hr : res x = some d) : EvO1 K B F0 ρ (tCall (FpE K CX pre args res) [] E tr) d := fun F H σ k Q q =>
  h F H σ k _ fun vs F1 H1 g1 p => ⟨x, hp, by rw [List.append_nil]; exact p, fun d' e v H2 s n => by
    rw [hr] at e
    cases e
    exact q v H2 (g1.h.trans s) (nw_mono g1.h (Same.refl _) n), fun e => by rw [hr] at e; cases e⟩
theorem evr_callE {α : Type} {pre : α → Prop} {args : α → List Pd} {res : α → Option PyData} (x : α) (hp : pre x) (h : EvA B F0 ρ tr (args x)) (hr : res x = none) : EvR B F0 ρ (fun E => tCall (FpE K CX pre args res) [] E tr) CX := fun F H σ c E Q q =>
  h F H σ c _ fun vs F1 H1 g1 p => ⟨x, hp, by rw [List.append_nil]; exact p, fun d' e => (by rw [hr] at e; cases e), fun _ H' s => q F1 H' ((c.go g1).go (gr_call (c.go g1).i s))⟩
theorem at_raise {N : L2.St → Hp → Prop} (hE : ∀ H', Same B H' → E (.ref CX) none H') (hN : ∀ σ H, E (.ref CX) none H → N σ H) : At B F0 N ρ := fun F H σ c => hN σ H (hE H c.gr.h)
end
section
variable {P : Program} {w : World} {K : PySem.W.Frag} {mg : Str → Option Value} {base : Heap}
theorem fpE_ok {x qual : Str} {st : Stmt} {N ps : List Str} {k : Nat} {α : Type} {pre : α → Prop} {args : α → List Pd} {res : α → Option PyData} {CX : Addr} (D : Dfn K mg x qual st ps) (S : FnScope N ps (defScope st)) (hN : ps.length ≤ N.length)
    (hlen : ∀ x, (args x).length = ps.length) (stab : ∀ x, ∀ f ∈ args x, Stab f)
    (body : ∀ (f : Addr) (cdv : Value) (A : Around) (outer : List Env) (s : Shared) (H : Hp) (E : XK), Room k (A.deeper (envOfC qual (defScope st) s.heap.objs.size f cdv)) →
      ∃ t, PSs (cxOf (L2.CX P w) P w K mg base N qual (defScope st) f cdv A outer s H E) (defBody st) t ∧
        ∀ x, pre x → ∀ Q : VK, (∀ d, res x = some d → ∀ v H', Same H H' → Nw K H H' v d → Q v H') → (res x = none → ∀ H', Same H H' → E (.ref CX) none H') → At H H (t { nx := fun _ H' => Q .non H', rt := Q }) (enterR N.length (args x))) : Ok P w K mg base (L2.CX P w) (k + 1) x ps (FpE K CX pre args res) := by
  obtain ⟨f, fd, F, hg, hb⟩ := D.ex
  refine ⟨f, fd, F.okX S (fun vs H Q E h => ?_) (fun cdv A outer s H vs Q E hr h => ?_), hg, F.kp, hb⟩
  · obtain ⟨z, _, h2, _⟩ := h
    rw [aok_len h2, hlen]
  · obtain ⟨z, h1, h2, h3, h4⟩ := h
    obtain ⟨t, q1, q2⟩ := body f cdv A outer s H E hr
    exact ⟨t, q1, q2 z h1 Q h3 h4 H H _ (cfg_start h2 (stab z) (by rw [hlen]; exact hN))⟩
end
/-! a round -/
def roundS (ways : List Row) (s : List Row × Int) (r : Row) : List Row × Int := (s.1 ++ (wayF ways s.2 r.2.1 ++ [r]), r.2.2)
def roundF (ways : List Row) : List Row := (ways.foldl (roundS ways) ([], 0)).1 ++ wayF ways (ways.foldl (roundS ways) ([], 0)).2 0
/-- each place is come to from each -/
structure SCon (n : Int) (ways : List Row) : Prop where
  n1 : 1 ≤ n
  n16 : n ≤ 16
  inn : waysIn n ways
  len : ways.length ≤ 100
  con : ∀ a b, (0 ≤ a ∧ a < n) → (0 ≤ b ∧ b < n) → RcS (nbW ways) a b
theorem SCon.way {n : Int} {ways : List Row} (S : SCon n ways) {a b : Int} (ha : 0 ≤ a ∧ a < n) (hb : 0 ≤ b ∧ b < n) : chain a (wayF ways a b) b ∧ (∀ r ∈ wayF ways a b, r ∈ ways) ∧ (wayF ways a b).length ≤ 16 := way_ok S.n16 S.inn ha (S.con a b ha hb)
structure RouI (n : Int) (ways pre : List Row) (s : List Row × Int) : Prop where
  ch : chain 0 s.1 s.2
  rng : 0 ≤ s.2 ∧ s.2 < n
  sub : ∀ r ∈ s.1, r ∈ ways
  all : ∀ r ∈ pre, r ∈ s.1
  len : s.1.length ≤ 17 * pre.length
theorem rou_start {n : Int} {ways : List Row} (n1 : 1 ≤ n) : RouI n ways [] ([], 0) := ⟨rfl, ⟨Int.le_refl 0, n1⟩, fun r h => (by cases h), fun r h => (by cases h), Nat.le_refl _⟩
theorem rou_step {n : Int} {ways pre : List Row} {s : List Row × Int} {r : Row} (S : SCon n ways) (I : RouI n ways pre s) (hr : r ∈ ways) : RouI n ways (pre ++ [r]) (roundS ways s r) := by
  have rr := S.inn r hr
  obtain ⟨h1, h2, h3⟩ := S.way I.rng rr.1
  refine ⟨chain_app I.ch (chain_app h1 ⟨rfl, rfl⟩), rr.2, fun q hq => ?_, fun q hq => ?_, ?_⟩
  · rcases List.mem_append.mp hq with hq | hq
    · exact I.sub q hq
    · rcases List.mem_append.mp hq with hq | hq
      · exact h2 q hq
      · rw [List.mem_singleton.mp hq]; exact hr
  · rcases List.mem_append.mp hq with hq | hq
    · exact List.mem_append_left _ (I.all q hq)
    · rw [List.mem_singleton.mp hq]
      exact List.mem_append_right _ (List.mem_append_right _ (List.mem_singleton.mpr rfl))
  · have := I.len
    show (s.1 ++ (wayF ways s.2 r.2.1 ++ [r])).length ≤ _
    simp only [List.length_append, List.length_singleton]
    omega
theorem rou_all {n : Int} {ways : List Row} (S : SCon n ways) : ∀ (post pre : List Row) (s : List Row × Int), pre ++ post = ways → RouI n ways pre s → RouI n ways ways (post.foldl (roundS ways) s)
  | [], pre, s, e, I => by rw [List.append_nil] at e; subst e; exact I
  | r :: post, pre, s, e, I => rou_all S post (pre ++ [r]) _ (by rw [← e]; simp) (rou_step S I (by rw [← e]; simp))
structure WalkI (ways steps : List Row) : Prop where
  ch : chain 0 steps 0
  sub : ∀ r ∈ steps, r ∈ ways
  all : ∀ r ∈ ways, r ∈ steps
  len : steps.length ≤ 2000
theorem round_ok {n : Int} {ways : List Row} (S : SCon n ways) : WalkI ways (roundF ways) := by
  have I := rou_all S ways [] ([], 0) rfl (rou_start S.n1)
  obtain ⟨h1, h2, h3⟩ := S.way I.rng ⟨Int.le_refl 0, (show (0 : Int) < n by have := S.n1; omega)⟩
  refine ⟨chain_app I.ch h1, fun r hr => ?_, fun r hr => List.mem_append_left _ (I.all r hr), ?_⟩
  · rcases List.mem_append.mp hr with hr | hr
    · exact I.sub r hr
    · exact h2 r hr
  · have := I.len
    have := S.len
    unfold roundF
    rw [List.length_append]
    omega
def waysO : Option PyData → List Row
  | some (.list ds) => ds.map rowOf
  | _ => []
def roundO (st : TSt) (o : Option PyData) : Option PyData := if oneB st o = true then some (.list ((roundF (waysO o)).map rowD)) else none
abbrev spRound (K : PySem.W.Frag) (C CW : Addr) : Sp := FpE K CW (fun x : TSt × Option PyData => TOk x.1 ∧ (oneB x.1 x.2 = true → SCon x.1.many (waysO x.2))) (fun x => [isTown K C x.1, oD K x.2]) (fun x => roundO x.1 x.2)
theorem one_list {st : TSt} {o : Option PyData} (h : oneB st o = true) : o = some (.list ((waysO o).map rowD)) := by
  unfold oneB at h
  split at h
  · next ds =>
    rw [Bool.and_eq_true, Bool.and_eq_true, decide_eq_true_eq] at h
    have := rows_of h.1.1 h.1.2
    show some (PyData.list ds) = some (.list ((ds.map rowOf).map rowD))
    rw [← this]
  · cases h
section
variable {P : Program} {w : World} {K : PySem.W.Frag} {mg : Str → Option Value} {base : Heap} {C C_BadWays : Addr}
theorem ok_round (Z : Zs mg) (X_BadWays : XCls K mg "BadWays" C_BadWays) (G_is_one_way : Ok P w K mg base CX0 2 "is_one_way" ["town", "thing"] (spOne K C)) (G_way_on : Ok P w K mg base CX0 1 "way_on" ["ways", "first", "last"] (spWay K)) (D : Dfn K mg "round_trip" "round_trip" s_round_trip ["town", "ways"]) : Ok P w K mg base (L2.CX P w) 3 "round_trip" ["town", "ways"] (spRound K C C_BadWays) := by
  refine fpE_ok D sc_round_trip (by decide) (fun _ => rfl) (fun _ => stabC st_isTown (stab1 st_oD)) (fun f cdv A outer s H E hr => ⟨_, (pss_cons (ps_if (pt_not (pt_val (ok_call G_is_one_way (by exact hr.mono (by decide)) rfl (pa_cons (pv 0) (pa_cons (pv 1) pa_nil))))) (pss_one (ps_raise rfl (takes_of rfl rfl rfl rfl) (pmk_own PySem.F.excBase_ValueError X_BadWays.x X_BadWays.g X_BadWays.k (raises_own X_BadWays.b X_BadWays.t) rfl))) pss_nil)
    (pss_cons (ps_set (i := 2) sc_round_trip.nd rfl (Or.inl rfl) (pe_lst pa_nil))
    (pss_cons (ps_set (i := 3) sc_round_trip.nd rfl (Or.inl rfl) pe_int)
    (pss_cons (ps_for (passes_of rfl) rfl (kpi_list K (pv 1)) (pg_name (i := 4) sc_round_trip.nd rfl (Or.inl rfl))
      (pss_cons (ps_expr (pe_bm PySem.F.plainAttrs_list PySem.F.slot_list_extend PySem.F.type_list_extend mt_extend (pv 2) (pa_cons (pe_op op_cat (ok_call G_way_on (by exact hr.mono (by decide)) rfl (pa_cons (pv 1) (pa_cons (pv 3) (pa_cons (pe_ix (kix_tup K) (pv 4) pe_int (fun _ _ => rfl)) pa_nil)))) (pe_lst (pa_cons (pv 4) pa_nil))) pa_nil)))
    (pss_one (ps_set (i := 3) sc_round_trip.nd rfl (Or.inl rfl) (pe_ix (kix_tup K) (pv 4) pe_int (fun _ _ => rfl))))))
    (pss_one (ps_ret (pe_op op_cat (pv 2) (ok_call G_way_on (by exact hr.mono (by decide)) rfl (pa_cons (pv 1) (pa_cons (pv 3) (pa_cons pe_int pa_nil))))))))))), ?_⟩)
  rintro ⟨st, o⟩ ⟨ok, hS⟩ Q q1 q2
  dsimp only at ok hS q1 q2
  walk_at "go"
  refine q_when (c := !oneB st o) (et_not (et_B (K := K) (Ev.hd (ev_call (α := TSt × Option PyData) (st, o) ok (ea_cons st_isTown (evh_fz st_isTown rfl) (ea_cons st_oD (evh_fz st_oD rfl) ea_nil)))))) (fun z => ?a2) fun z => ?a3
  case a2 =>
    have z2 : oneB st o = false := by simpa using z
    have e : roundO st o = none := by unfold roundO; rw [if_neg (by rw [z2]; decide)]
    exact at_raise (q2 e) fun σ H h => h
  case a3 =>
  have z2 : oneB st o = true := by simpa using z
  have S := hS z2
  have eo := one_list z2
  have e : roundO st o = some (.list ((roundF (waysO o)).map rowD)) := by unfold roundO; rw [if_pos z2]
  have q3 := q1 _ e
  generalize waysO o = ways at S eo q3
  subst eo
  have n1 := S.n1
  refine q_setM K (ds := []) (evm_lst eas_nil (by simp)) (q_set K (d := .int 0) ev_int (q_for (xs := ways) (e := rowD) (q := nwd K H) (EvJ.i (evj_listF (ev_var rfl) (flatDs_map (fun _ => rfl) _)))
    (fun pre ρ' => ∃ s4, RouI st.many ways pre (pre.foldl (roundS ways) ([], 0)) ∧ ρ' = [.fz (isTown K C st), sa K (.list (ways.map rowD)), ml K H ((pre.foldl (roundS ways) ([], 0)).1.map rowD), sn K H (.int (pre.foldl (roundS ways) ([], 0)).2), s4]) ?b1 ?b2 ?b3))
  case b1 => exact ⟨Sl.no, rou_start n1, rfl⟩
  case b2 =>
    rintro F1 pre ⟨s, a, b⟩ post ρ' hx ⟨s4, I, rfl⟩
    have hr : (s, a, b) ∈ ways := by rw [hx]; simp
    have I2 := rou_step S I hr
    have ef : (pre ++ [(s, a, b)]).foldl (roundS ways) ([], 0) = roundS ways (pre.foldl (roundS ways) ([], 0)) (s, a, b) := by rw [List.foldl_append]; rfl
    have lp : pre.length ≤ 100 := by have := congrArg List.length hx; rw [List.length_append] at this; have := S.len; omega
    have rr := S.inn _ hr
    generalize pre.foldl (roundS ways) ([], 0) = t at I I2 ef
    have wl := (S.way I.rng rr.1).2.2
    have il := I.len
    obtain ⟨t1, t2⟩ := t
    dsimp only at rr il
    refine ⟨_, _, bind_name st_nwd, q_drop (evx_extend (i := 2) (es := (wayF ways t2 a ++ [(s, a, b)]).map rowD) rfl (EvM.nw ?c1) ?c2) (at_set (K := K) (i := 3) (d := .int b) (ev_ixT (i := 2) (ds := [.int s, .int a, .int b]) (ev_var rfl) (Ev.hd ev_int) rfl) (at_lpD ⟨sn K H (rowD (s, a, b)), by rw [ef]; exact I2, ?c3⟩))⟩
    case c1 =>
      rw [List.map_append]
      exact evm_catN (Ev.n (ev_call (α := List Row × Int × Int) (ways, t2, a) ⟨st.many, S.n16, S.inn, I.rng, S.con _ _ I.rng rr.1, by dsimp only; have := S.len; omega⟩ (ea_cons st_dat (evh_var rfl rd_sa) (ea_cons st_dat (evh_var rfl rd_sn) (ea_cons st_dat (Ev.hd (ev_ixT (i := 1) (ds := [.int s, .int a, .int b]) (d := .int a) (ev_var rfl) (Ev.hd ev_int) rfl)) ea_nil))))) (EvM.n (evm_lst (eas_cons (ev_var rfl) eas_nil) (by simp))) (by dsimp only at wl ⊢; rw [List.length_map]; simp; omega)
    case c2 =>
      dsimp only at wl ⊢
      rw [List.length_map, List.length_map, List.length_append, List.length_singleton]
      omega
    case c3 =>
      rw [ef]
      unfold roundS
      dsimp only
      rw [show (t1 ++ (wayF ways t2 a ++ [(s, a, b)])).map rowD = t1.map rowD ++ (wayF ways t2 a ++ [(s, a, b)]).map rowD by rw [List.map_append]]
      rfl
  case b3 =>
    rintro ρ' ⟨s4, I, rfl⟩
    have h0 : (0 : Int) ≤ 0 ∧ 0 < st.many := ⟨Int.le_refl 0, by omega⟩
    have wl := (S.way I.rng h0).2.2
    have il := I.len
    have sl := S.len
    have rng := I.rng
    unfold roundF at q3
    generalize ways.foldl (roundS ways) ([], 0) = t at *
    rw [List.map_append] at q3
    exact at_ret (K := K) (EvM.nw (evm_catN (evn_ml rfl) (Ev.n (ev_call (α := List Row × Int × Int) (ways, t.2, 0) ⟨st.many, S.n16, S.inn, rng, S.con _ _ rng h0, by dsimp only; omega⟩ (ea_cons st_dat (evh_var rfl rd_sa) (ea_cons st_dat (evh_var rfl rd_sn) (ea_cons st_dat (Ev.hd ev_int) ea_nil))))) (by dsimp only; rw [List.length_map, List.length_map]; omega))) q3
end

abbrev s_w_walked : Stmt := top 49
theorem sc_w_walked : FnScope ["_law_ways", "_law_steps", "_law_step"] ["_law_ways", "_law_steps"] (defScope s_w_walked) := ⟨rfl, rfl, rfl, by decide +kernel, rfl, by decide +kernel, by decide +kernel⟩
abbrev spWalkedL (K : PySem.W.Frag) : Sp := Fp K (fun x : List Row × List Row => WalkI x.1 x.2 ∧ x.1.length ≤ 100) (fun x => [dat K (.list (x.1.map rowD)), dat K (.list (x.2.map rowD))]) (fun _ => .bool true)
theorem chain_end {W : List Row} : ∀ {a b : Int} {r : Row}, chain a W b → W.getLast? = some r → r.2.2 = b := by
  induction W with
  | nil => intro a b r _ h; cases h
  | cons x W ih =>
    intro a b r h hl
    cases W with
    | nil => cases hl; exact h.2
    | cons y W => exact ih h.2 (by simpa using hl)
theorem chain_zip {W : List Row} : ∀ {a b : Int}, chain a W b → W.dropLast.map (·.2.2) = (W.drop 1).map (·.2.1) := by
  induction W with
  | nil => intro a b _; rfl
  | cons x W ih =>
    intro a b h
    cases W with
    | nil => rfl
    | cons y W =>
      have := ih h.2
      rw [List.dropLast_cons_cons, List.map_cons, this]
      show x.2.2 :: (W.map (·.2.1)) = y.2.1 :: W.map (·.2.1)
      rw [h.2.1]
theorem any_row {W : List Row} {s : Row} : ((W.map rowD).any fun z => PyData.eqv z (rowD s)) = decide (s ∈ W) := by
  rw [List.any_map, Bool.eq_iff_iff, List.any_eq_true, decide_eq_true_eq]
  constructor
  · rintro ⟨x, hx, e⟩
    have : x = s := (eqv_row x s).mp e
    rw [← this]; exact hx
  · exact fun h => ⟨s, h, (eqv_row s s).mpr rfl⟩
section
variable {K : PySem.W.Frag} {B F0 : Hp} {ρ : List Sl} {ta tb : TE} {d : PyData} {ds : List PyData}
theorem ev_notInD (ha : EvH B F0 ρ ta (dat K d)) (hb : EvH B F0 ρ tb (dat K (.list ds))) (hd : SeqAt.shaped d = true) (he : SeqAt.shaped (.list ds) = true) : Ev B F0 ρ (tOp (rNotInD K) ta tb) (nwd K B (.bool (!ds.any fun z => PyData.eqv z d))) :=
  evo st_dat ha hb (fun F => .bl _) fun H x y hx hy Q q => ⟨d, ds, hx, hy, hd, he, q⟩
/-- [s for s in xs if s not in ys], all of them in ys -/
theorem evm_none {xs ys : List Row} {i j k : Nat} (hi : ρ[i]? = some (sa K (.list (xs.map rowD)))) (hj : ∀ s, ((wipeR ρ [k]).set k s)[j]? = some (sa K (.list (ys.map rowD)))) (hk : ∀ s, ((wipeR ρ [k]).set k s)[k]? = some s) (hl : xs.length ≤ 2000) (h : ∀ r ∈ xs, r ∈ ys) :
    EvM K B F0 ρ (tLc (iList K (tVar i)) (gName k) (tTest (tOp (rNotInD K) (tVar k) (tVar j))) (tVar k) [k]) [] := by
  have e : ([] : List PyData) = (xs.filter fun s => !decide (s ∈ ys)).map rowD := by
    rw [List.filter_eq_nil_iff.mpr fun r hr => by simp [h r hr]]
    rfl
  rw [e]
  refine evm_lc (xs := xs) (e := rowD) (q := nwd K B) _ rowD (evj_listF (ev_var hi) (flatDs_map (fun _ => rfl) _)) (fun F1 s hs => ⟨_, _, bind_name st_nwd, fun j hj => hj, ?_, fun _ => ev_var (hk _)⟩) (by omega)
  rw [← any_row]
  exact et_test (K := K) (Ev.hd (ev_notInD (evh_var (hk _) rd_sn) (evh_var (hj _) rd_sa) (okS_row.shaped (by decide)) (ok60_rows.shaped (by decide))))
end
section
variable {P : Program} {w : World} {K : PySem.W.Frag} {mg : Str → Option Value} {base : Heap}
theorem ok_walkedl (Z : Zs mg) (D : Dfn K mg "_law_walked" "_law_walked" s_w_walked ["_law_ways", "_law_steps"]) : Ok P w K mg base CX0 1 "_law_walked" ["_law_ways", "_law_steps"] (spWalkedL K) := by
  refine fp_ok D sc_w_walked (by decide) (fun _ => rfl) (fun _ => stabC st_dat (stab1 st_dat)) (fun f cdv A outer s H E hr => ⟨_, (pss_cons (ps_if (pt_cmpR (kop_eqD K (by exact hr.units)) (pv 1) (pe_lst pa_nil) (nomark _)) (pss_one (ps_ret (pe_cmpR (kop_eqD K (by exact hr.units)) (pv 0) (pe_lst pa_nil) (nomark _)))) pss_nil)
    (pss_cons (ps_if (PW.pt (pw_or (pt_cmpR (kop_neD K (by exact hr.units)) (pe_lc (own := [("_law_step", 2)]) rfl sc_w_walked.nd (kpi_list K (pv 1)) (blkOk_by (by dsimp only [cxOf, Cx.nox, Cx.wish, Cx.blk, compEnvC, envOfC]; (try (rw [relabel_eq]; dsimp only)); decide +kernel)) (fun _ _ _ _ _ => (pg_name (i := 2) sc_w_walked.nd rfl (Or.inl rfl))) (fun _ _ _ _ _ => (pts_one (pt_cmpR (kop_notInD K (by exact Room.units65 hr)) (pv 2) (pv 0) rfl))) (fun _ _ _ _ _ => (pv 2))) (pe_lst pa_nil) (nomark _)) (pw_or (pt_cmpR op_ne (pe_ix (kix_tup K) (pe_ix (kix_list K) (pv 1) pe_int (fun _ _ => rfl)) pe_int (fun _ _ => rfl)) pe_int (nomark _)) (pw_or1 (pt_cmpR op_ne (pe_ix (kix_tup K) (pe_ix (kix_list K) (pv 1) (pe_un un_neg pe_int) (fun _ _ => rfl)) pe_int (fun _ _ => rfl)) pe_int (nomark _)))))) (pss_one (ps_ret pe_bl)) pss_nil)
    (pss_cons (ps_if (pt_cmpR (kop_neD K (by exact hr.units)) (pe_lc (own := [("_law_step", 2)]) (tt := tYes) rfl sc_w_walked.nd (kpi_list K (pe_slice (ksl_list K) (pv 1) po_none (po_some (pe_un un_neg pe_int)))) (blkOk_by (by dsimp only [cxOf, Cx.nox, Cx.wish, Cx.blk, compEnvC, envOfC]; (try (rw [relabel_eq]; dsimp only)); decide +kernel)) (fun _ _ _ _ _ => (pg_name (i := 2) sc_w_walked.nd rfl (Or.inl rfl))) (fun _ _ _ _ _ => pts_nil) (fun _ _ _ _ _ => (pe_ix (kix_tup K) (pv 2) pe_int (fun _ _ => rfl)))) (pe_lc (own := [("_law_step", 2)]) (tt := tYes) rfl sc_w_walked.nd (kpi_list K (pe_slice (ksl_list K) (pv 1) (po_some pe_int) po_none)) (blkOk_by (by dsimp only [cxOf, Cx.nox, Cx.wish, Cx.blk, compEnvC, envOfC]; (try (rw [relabel_eq]; dsimp only)); decide +kernel)) (fun _ _ _ _ _ => (pg_name (i := 2) sc_w_walked.nd rfl (Or.inl rfl))) (fun _ _ _ _ _ => pts_nil) (fun _ _ _ _ _ => (pe_ix (kix_tup K) (pv 2) pe_int (fun _ _ => rfl)))) (nomark _)) (pss_one (ps_ret pe_bl)) pss_nil)
    (pss_one (ps_ret (pe_cmpR (kop_eqD K (by exact hr.units)) (pe_lc (own := [("_law_step", 2)]) rfl sc_w_walked.nd (kpi_list K (pv 0)) (blkOk_by (by dsimp only [cxOf, Cx.nox, Cx.wish, Cx.blk, compEnvC, envOfC]; (try (rw [relabel_eq]; dsimp only)); decide +kernel)) (fun _ _ _ _ _ => (pg_name (i := 2) sc_w_walked.nd rfl (Or.inl rfl))) (fun _ _ _ _ _ => (pts_one (pt_cmpR (kop_notInD K (by exact Room.units65 hr)) (pv 2) (pv 1) rfl))) (fun _ _ _ _ _ => (pv 2))) (pe_lst pa_nil) (nomark _))))))), ?_⟩)
  rintro ⟨ways, steps⟩ ⟨W, lw⟩ Q q
  dsimp only at W lw q
  walk_at "go"
  have ls := W.len
  have e0 : ∀ l : List Row, (l.map rowD).isEmpty = decide (l = []) := fun l => by cases l <;> simp
  refine q_when (c := decide (steps = [])) (by rw [← e0]; exact et_test (K := K) (Ev.hd (ev_eqNil (evh_var rfl rd_sa) ok60_rows))) (fun h => ?a1) (fun h => ?a2)
  case a1 =>
    have hs : steps = [] := by simpa using h
    have hw : ways = [] := by
      cases hz : ways with
      | nil => rfl
      | cons r l =>
        have := W.all r (by rw [hz]; simp)
        rw [hs] at this
        cases this
    refine at_ret (K := K) (d := .bool true) (ev_is (ev_eqNil (evh_var rfl rd_sa) (ok60_rows (ns := ways))) ?_) q
    rw [hw]; rfl
  case a2 =>
  have hs : steps ≠ [] := by simpa using h
  obtain ⟨r, hl⟩ : ∃ r, steps.getLast? = some r := ⟨_, List.getLast?_eq_some_getLast hs⟩
  have hr0 : r.2.2 = 0 := chain_end W.ch hl
  obtain ⟨r0, l0, es⟩ : ∃ r0 l0, steps = r0 :: l0 := by cases steps with | nil => exact absurd rfl hs | cons a b => exact ⟨a, b, rfl⟩
  have h0 : r0.2.1 = 0 := by have := W.ch; rw [es] at this; exact this.1
  have at0 : atI (steps.map rowD) 0 = some (rowD r0) := by rw [es]; exact atI_map rowD (atI_nn (Int.le_refl 0) rfl)
  have atl : atI (steps.map rowD) (-1) = some (rowD r) := atI_neg1 (by rw [List.getLast?_map, hl]; rfl)
  have cz := chain_zip W.ch
  obtain ⟨a0, b0, c0⟩ := r0
  obtain ⟨a1, b1, c1⟩ := r
  dsimp only at h0 hr0
  subst h0 hr0
  refine q_when (c := false) (et_is (et_or (a := false) (c := false) (et_is (et_test (K := K) (Ev.hd (ev_neNil (Ev.hd (EvM.nw (evm_none (xs := steps) (ys := ways) (i := 1) (j := 0) (k := 2) rfl (fun _ => rfl) (fun _ => rfl) (by omega) W.sub))) (ok60_rows (ns := []))))) rfl) fun _ => et_or (a := false) (c := false) (et_is (et_test (K := K) (Ev.hd (ev_neI (a := 0) (b := 0) (Ev.hd (ev_ixT (i := 1) (ds := [.int a0, .int 0, .int c0]) (ev_ixF (i := 0) (d := rowD (a0, 0, c0)) (evh_var (i := 1) rfl rd_sa) (Ev.hd ev_int) at0 rfl) (Ev.hd ev_int) rfl)) (Ev.hd ev_int)))) (by simp)) fun _ => et_is (et_test (K := K) (Ev.hd (ev_neI (a := 0) (b := 0) (Ev.hd (ev_ixT (i := 2) (ds := [.int a1, .int b1, .int 0]) (ev_ixF (i := -1) (d := rowD (a1, b1, 0)) (evh_var (i := 1) rfl rd_sa) (Ev.hd (ev_neg (Ev.hd ev_int))) atl rfl) (Ev.hd ev_int) rfl)) (Ev.hd ev_int)))) (by simp)) rfl) (fun z => nomatch z) fun _ => ?b1
  case b1 =>
  have sl1 := evm_slice (K := K) (B := H) (F0 := H) (ρ := enterR 3 [dat K (.list (ways.map rowD)), dat K (.list (steps.map rowD))]) (te := tVar 1) (ds := steps.map rowD) (evh_var rfl rd_sa) (flatDs_map (fun _ => rfl) _) eo_none (eo_some (te := tUn (rU fun i => .int (-i)) (tC (.int 1))) (i := -1) (Ev.hd (ev_neg (Ev.hd ev_int))))
  have sl2 := evm_slice (K := K) (B := H) (F0 := H) (ρ := enterR 3 [dat K (.list (ways.map rowD)), dat K (.list (steps.map rowD))]) (te := tVar 1) (ds := steps.map rowD) (evh_var rfl rd_sa) (flatDs_map (fun _ => rfl) _) (eo_some (te := tC (.int 1)) (i := 1) (Ev.hd ev_int)) eo_none
  rw [cut_last] at sl1
  rw [cut_drop rowD steps (by decide : (0 : Int) ≤ 1)] at sl2
  refine q_when (c := false) (et_is (et_test (K := K) (Ev.hd (ev_neD (d := intsD (steps.dropLast.map (·.2.2))) (e := intsD ((steps.drop 1).map (·.2.1))) (Ev.hd ?c1) (Ev.hd ?c2) (ok60_ints.shaped (by decide)) (ok60_ints.shaped (by decide))))) (by rw [cz, eqv_same ok60_ints]; rfl)) (fun z => nomatch z) fun _ => ?b2
  case c1 =>
    show Ev _ _ _ _ (nwd K H (.list _))
    rw [List.map_map]
    refine EvM.nw (evm_lc1 (xs := steps.dropLast) (e := rowD) (q := nwd K H) _ (evj_list (EvM.nw sl1)) (fun F1 x hx => ⟨_, _, bind_name st_nwd, by decide, ?_⟩) (by rw [List.length_dropLast]; omega))
    obtain ⟨a, b, c⟩ := x
    exact ev_ixT (i := 2) (ds := [.int a, .int b, .int c]) (ev_var rfl) (Ev.hd ev_int) rfl
  case c2 =>
    show Ev _ _ _ _ (nwd K H (.list _))
    rw [List.map_map]
    refine EvM.nw (evm_lc1 (xs := steps.drop 1) (e := rowD) (q := nwd K H) _ (evj_list (EvM.nw sl2)) (fun F1 x hx => ⟨_, _, bind_name st_nwd, by decide, ?_⟩) (by rw [List.length_drop]; omega))
    obtain ⟨a, b, c⟩ := x
    exact ev_ixT (i := 1) (ds := [.int a, .int b, .int c]) (ev_var rfl) (Ev.hd ev_int) rfl
  case b2 =>
  exact at_ret (K := K) (d := .bool true) (ev_is (ev_eqNil (ds := []) (Ev.hd (EvM.nw (evm_none (xs := ways) (ys := steps) (i := 0) (j := 1) (k := 2) rfl (fun _ => rfl) (fun _ => rfl) (by omega) W.all))) (ok60_rows (ns := []))) rfl) q
end

/-! ways that are good are such that the package says so -/
theorem turn2 (ways : List Row) : (ways.map turnR).map turnR = ways := by
  rw [List.map_map]
  have : (turnR ∘ turnR : Row → Row) = id := by funext r; rfl
  rw [this, List.map_id]
theorem rowOf_map (ways : List Row) : (ways.map rowD).map rowOf = ways := by
  rw [List.map_map]
  have : (rowOf ∘ rowD : Row → Row) = id := by funext r; rfl
  rw [this, List.map_id]
theorem stepB_row {s r : Row} (h : r = s ∨ r = (s.1, s.2.2, s.2.1)) : stepB s (rowD r) = true := by
  unfold stepB
  rcases h with rfl | rfl
  · simp
  · simp
theorem one_of {st : TSt} {ways : List Row} (hl : ways.length = st.held.length) (hs : ∀ p ∈ ways.zip st.held, p.1 = p.2 ∨ p.1 = (p.2.1, p.2.2.2, p.2.2.1)) (g : goesB st.many ways = true) : oneB st (some (.list (ways.map rowD))) = true := by
  show (decide ((ways.map rowD).length = st.held.length) && (((ways.map rowD).zip st.held).all fun p => stepB p.2 p.1) && goesB st.many ((ways.map rowD).map rowOf)) = true
  have ea : (((ways.map rowD).zip st.held).all fun p => stepB p.2 p.1) = true := by
    rw [List.zip_map_left, List.all_map]
    exact List.all_eq_true.mpr fun p hp => stepB_row (hs p hp)
  rw [rowOf_map, g, List.length_map, decide_eq_true hl, ea]
  rfl
theorem zip_map_mem {α β : Type} {f : α → β} {l : List α} {p : β × α} (h : p ∈ (l.map f).zip l) : p.2 ∈ l ∧ p.1 = f p.2 := by
  induction l with
  | nil => cases h
  | cons x l ih =>
    rw [List.map_cons, List.zip_cons_cons] at h
    rcases List.mem_cons.mp h with rfl | h
    · exact ⟨List.mem_cons_self .., rfl⟩
    · exact ⟨List.mem_cons_of_mem _ (ih h).1, (ih h).2⟩
theorem ways_one {st : TSt} (n1 : 1 ≤ st.many) (hin : rowsIn st.many st.held) (W : WholeI st.many st.held) : oneB st (some (.list ((waysF st.many st.held).map rowD))) = true ∧ oneB st (some (.list (((waysF st.many st.held).map turnR).map rowD))) = true := by
  have g := ways_good n1 hin W
  unfold goodB at g
  have g := (Bool.and_eq_true_iff.mp g).2
  have gt : goesB st.many ((waysF st.many st.held).map turnR) = true := by
    unfold goesB at g ⊢
    rw [turn2, Bool.and_comm]
    exact g
  have wl : (waysF st.many st.held).length = st.held.length := by unfold waysF; rw [List.length_map]
  have e : ∀ p ∈ (waysF st.many st.held).zip st.held, p.1 = p.2 ∨ p.1 = (p.2.1, p.2.2.2, p.2.2.1) := fun p hp => by
    unfold waysF at hp
    obtain ⟨h1, h2⟩ := zip_map_mem hp
    rcases W.ori p.2 h1 with e | e
    · exact .inl (h2.trans e)
    · exact .inr (h2.trans e)
  refine ⟨one_of wl e g, one_of (by rw [List.length_map, wl]) (fun p hp => ?_) gt⟩
  rw [List.zip_map_left] at hp
  obtain ⟨q, hq, rfl⟩ := List.mem_map.mp hp
  rcases e q hq with e | e
  · exact .inr (by show turnR q.1 = _; rw [e]; rfl)
  · exact .inl (by show turnR q.1 = q.2; rw [e]; rfl)
theorem pairs_le {ns : List Int} {sd n most : Int} (h : 0 ≤ most) : (pairsF ns sd n most).length ≤ most.toNat := by
  unfold pairsF
  split
  · exact Nat.zero_le _
  · rw [List.length_map, List.length_zipIdx, List.length_take]
    omega
theorem whole_cond {st : TSt} (ok : TOk st) {E : List (Int × Int)} (hE : st.held.map (·.2) = E) : wholeB st = (decide (goneF st.many E = []) && decide ((partsOf st.many E).length ≤ 1)) := by
  have hin := tok_in ok
  unfold wholeB
  rw [leftE_nil, parting_eq hin ok.keys, hE]
  congr 1
  exact decide_eq_decide.mpr List.map_eq_nil_iff
theorem wants_le {n : Int} {rows : List Row} : wantsF n rows ≤ 2 * (partsOf n (leftE rows (partingF n rows))).length := by
  unfold wantsF
  show (if (partsOf n (leftE rows (partingF n rows))).length = 1 then 0 else ((partsOf n (leftE rows (partingF n rows))).map fun q => 2 - outF (partingF n rows) rows q).sum) ≤ _
  split
  · omega
  · generalize partsOf n (leftE rows (partingF n rows)) = S
    induction S with
    | nil => exact Nat.le_refl _
    | cons q S ih =>
      rw [List.map_cons, List.sum_cons, List.length_cons]
      omega
def addS (st : TSt) (e : Pr) : TSt := { many := st.many, built := st.built + 1, held := st.held ++ [(st.built, e.1, e.2)] }
structure AddI (st : TSt) (pre : List Pr) (t : TSt) : Prop where
  ok : TOk t
  many : t.many = st.many
  built : t.built = st.built + pre.length
  held : t.held.map (·.2) = st.held.map (·.2) ++ pre
theorem add_step {st t : TSt} {pre : List Pr} {e : Pr} (I : AddI st pre t) (hb : st.built + pre.length < 100000) (hl : st.held.length + pre.length < 60) (h : (0 ≤ e.1 ∧ e.1 < st.many) ∧ (0 ≤ e.2 ∧ e.2 < st.many) ∧ e.1 ≠ e.2) : AddI st (pre ++ [e]) (addS t e) := by
  have hm := I.many
  have hh := congrArg List.length I.held
  rw [List.length_map, List.length_append, List.length_map] at hh
  have ib := I.built
  refine ⟨tok_build I.ok (Int.le_refl _) (by omega) h.1.1 (by omega) h.2.1.1 (by omega) h.2.2 (by omega), hm, ?_, ?_⟩
  · show t.built + 1 = _
    rw [ib, List.length_append, List.length_singleton]
    omega
  · show (t.held ++ [(t.built, e.1, e.2)]).map (·.2) = _
    rw [List.map_append, I.held, List.append_assoc]
    rfl
section
variable {K : PySem.W.Frag} {B F0 : Hp} {ρ ρ1 : List Sl} {te ta tb tc : TE} {tr : TA} {D : Ends} {C CP CM : Addr} {st : TSt}
theorem eo1_oneway {E : XK} (h : EvA B F0 ρ tr [isTown K C st]) (ok : TOk st) (hw : wholeB st = true) : EvO1 K B F0 ρ (tCall (spOneW K C CP) [] E tr) (.list ((waysF st.many st.held).map rowD)) := fun F H σ c Q q =>
  h F H σ c _ fun vs F1 H1 g1 p => ⟨st, by rw [List.append_nil]; exact p, ok, fun _ v H' s n => q v H' (g1.h.trans s) (nw_mono g1.h (Same.refl _) n), fun z => (by rw [hw] at z; cases z)⟩
end
/-! the law of rounds: plain facts -/
structure GoodW (t : TSt) (ways : List Row) : Prop where
  one : oneB t (some (.list (ways.map rowD))) = true
  con : SCon t.many ways
  keys : ways.map (·.1) = t.held.map (·.1)
theorem ori_key {n : Int} {rows : List Row} (W : WholeI n rows) : (waysF n rows).map (·.1) = rows.map (·.1) := by
  unfold waysF
  rw [List.map_map]
  refine List.map_congr_left fun r hr => ?_
  show (oriF (handlesF n rows).flatten r).1 = r.1
  rcases W.ori r hr with e | e <;> rw [e]
theorem good_ways {t : TSt} (ok : TOk t) (W : WholeI t.many t.held) : GoodW t (waysF t.many t.held) ∧ GoodW t ((waysF t.many t.held).map turnR) := by
  have n1 := ok.lo
  have hin := tok_in ok
  obtain ⟨o1, o2⟩ := ways_one n1 hin W
  have wl : (waysF t.many t.held).length = t.held.length := by unfold waysF; rw [List.length_map]
  have few := ok.few
  have inn : waysIn t.many (waysF t.many t.held) := fun q hq => by
    unfold waysF at hq
    obtain ⟨r, hr, rfl⟩ := List.mem_map.mp hq
    have z := hin r hr
    rcases W.ori r hr with e | e
    · rw [e]; exact z
    · rw [e]; exact ⟨z.2, z.1⟩
  have dc : ∀ a b, (0 ≤ a ∧ a < t.many) → (0 ≤ b ∧ b < t.many) → DC (waysF t.many t.held) a b := fun a b ha hb => (W.dc a ha.1 ha.2).2.trans (W.dc b hb.1 hb.2).1
  refine ⟨⟨o1, ⟨n1, ok.hi, inn, by omega, fun a b ha hb => dc_rcs (dc a b ha hb)⟩, ori_key W⟩, ⟨o2, ⟨n1, ok.hi, fun r hr => ?_, by rw [List.length_map]; omega, fun a b ha hb => dc_rcs (dc_turn (dc b a hb ha))⟩, ?_⟩⟩
  · obtain ⟨q, hq, rfl⟩ := List.mem_map.mp hr
    exact ⟨(inn q hq).2, (inn q hq).1⟩
  · rw [List.map_map, ← ori_key W]
    rfl
theorem no_one {t : TSt} (ok : TOk t) (hw : wholeB t = true) : t.held.length ≠ 1 := fun z => by
  match hh : t.held, z with
  | [r], _ =>
  unfold wholeB at hw
  rw [Bool.and_eq_true, decide_eq_true_eq] at hw
  have hr : r ∈ t.held := by rw [hh]; simp
  have hn : r.1 ∉ partingF t.many t.held := by rw [hw.1]; simp
  have c : Conn (leftE t.held [r.1]) r.2.1 r.2.2 := Classical.byContradiction fun k => hn ((mem_parting (tok_in ok) ok.keys hr).mpr k)
  have e : leftE t.held [r.1] = [] := by rw [hh]; unfold leftE; simp
  rw [e] at c
  have ne := (ok.rng r hr).2.2.2.2.2.2
  have : ∀ {x y : Int}, Conn [] x y → x = y := fun c => by
    induction c with
    | refl => rfl
    | step _ ed _ => rcases ed with ed | ed <;> cases ed
  exact ne (this c)
theorem bad_len {t : TSt} {ds : List PyData} (h : ds.length ≠ t.held.length) : oneB t (some (.list ds)) = false := by
  show (decide (ds.length = t.held.length) && _ && _) = false
  rw [decide_eq_false h]
  rfl
theorem bad_head {t : TSt} {d : PyData} {ds : List PyData} (h : ∀ s l, t.held = s :: l → stepB s d = false) : oneB t (some (.list (d :: ds))) = false := by
  cases hh : t.held with
  | nil => exact bad_len (by rw [hh]; simp)
  | cons s l =>
    show (decide _ && (((d :: ds).zip t.held).all fun p => stepB p.2 p.1) && _) = false
    rw [hh, List.zip_cons_cons, List.all_cons, h s l hh, Bool.false_and, Bool.and_false, Bool.false_and]
theorem bad_rev {t : TSt} (ok : TOk t) {ways : List Row} (G : GoodW t ways) (h2 : 2 ≤ t.held.length) : oneB t (some (.list (ways.reverse.map rowD))) = false := by
  have kl := congrArg List.length G.keys
  rw [List.length_map, List.length_map] at kl
  obtain ⟨r, l, e⟩ : ∃ r l, ways.reverse = r :: l := by
    cases z : ways.reverse with
    | nil =>
      have := congrArg List.length z
      rw [List.length_reverse] at this
      simp at this
      rw [this] at kl
      simp at kl
      omega
    | cons r l => exact ⟨r, l, rfl⟩
  rw [e, List.map_cons]
  refine bad_head fun s l' hh => ?_
  have hr : ways.getLast? = some r := by rw [← List.head?_reverse, e]; rfl
  have kr : (t.held.map (·.1)).getLast? = some r.1 := by rw [← G.keys, List.getLast?_map, hr]; rfl
  have pw := ok.keys
  rw [hh] at kr pw h2
  cases l' with
  | nil => simp at h2
  | cons s' l'' =>
    have hm : r.1 ∈ (s' :: l'').map (·.1) := by
      have : ((s :: s' :: l'').map (·.1)).getLast? = ((s' :: l'').map (·.1)).getLast? := by simp
      rw [this] at kr
      exact List.mem_of_getLast? kr
    obtain ⟨x, hx, ex⟩ := List.mem_map.mp hm
    have lt := (List.pairwise_cons.mp pw).1 x hx
    rw [Bool.eq_false_iff]
    intro z
    obtain ⟨q, eq, hq⟩ := stepB_int z
    have : q = r := by
      have := (eqv_row q r).mp (by rw [← eq]; exact eqv_same okS_row)
      exact this
    subst this
    rcases hq with hq | hq
    · rw [hq] at ex; omega
    · rw [hq] at ex; dsimp only at ex; omega

abbrev s_w_word : Stmt := top 48
theorem sc_w_word : FnScope ["_law_deed", "_law_caught", "e", "_law_some", "_law_word_here", "_law_is_so"] ["_law_deed"] (defScope s_w_word) := ⟨rfl, rfl, rfl, by decide +kernel, rfl, by decide +kernel, by decide +kernel⟩
/-- what a caught thing of the class D is called -/
structure WordC (K : PySem.W.Frag) (CT D : Addr) (b : Bool × Bool × Bool × Bool × Bool × Bool × Bool) (c : Addr × Addr × Addr × Addr × Addr × Addr × Addr) : Prop where
  e : ExcC K D
  m : PySem.W.exmOne K (.ref D) (.ref CT) = some true
  v : PySem.W.kitOne K (.ref D) (.type "ValueError") = some true
  k1 : PySem.W.kitOne K (.ref D) (.ref c.1) = some b.1
  k2 : PySem.W.kitOne K (.ref D) (.ref c.2.1) = some b.2.1
  k3 : PySem.W.kitOne K (.ref D) (.ref c.2.2.1) = some b.2.2.1
  k4 : PySem.W.kitOne K (.ref D) (.ref c.2.2.2.1) = some b.2.2.2.1
  k5 : PySem.W.kitOne K (.ref D) (.ref c.2.2.2.2.1) = some b.2.2.2.2.1
  k6 : PySem.W.kitOne K (.ref D) (.ref c.2.2.2.2.2.1) = some b.2.2.2.2.2.1
  k7 : PySem.W.kitOne K (.ref D) (.ref c.2.2.2.2.2.2) = some b.2.2.2.2.2.2
def wordP (b : Bool × Bool × Bool × Bool × Bool × Bool × Bool) : List (Str × Bool) := [("count", b.1), ("place", b.2.1), ("street", b.2.2.1), ("many", b.2.2.2.1), ("parted", b.2.2.2.2.1), ("ways", b.2.2.2.2.2.1), ("text", b.2.2.2.2.2.2)]
def wordD (p : Str × Bool) : PyData := .tuple [.str p.1, .bool p.2]
def wordsD (b : Bool × Bool × Bool × Bool × Bool × Bool × Bool) : PyData := .list (((wordP b).filter (·.2)).map fun p => .str p.1)
/-- what _law_word makes of a deed that raises -/
def TWord (K : PySem.W.Frag) (CT : Addr) (c : Addr × Addr × Addr × Addr × Addr × Addr × Addr) : (XK → Hp → VK → Prop) → Hp → VK → Prop := fun tl H Q =>
  tl (fun cls d H' => ∃ D b, cls = .ref D ∧ d = none ∧ WordC K CT D b c ∧ ∀ v H2, Same H' H2 → Nw K H' H2 v (wordsD b) → Q v H2) H fun _ _ => False
section
variable {K : PySem.W.Frag} {B F0 : Hp} {ρ : List Sl}
theorem ev_isK {D a C : Addr} {b : Bool} {i : Nat} (h : ρ[i]? = some (.fz fun _ v => v = .ref a)) (e : ExcC K D) (k : PySem.W.kitOne K (.ref D) (.ref C) = some b) : Ev B F0 ρ (tCB (rIsK K (.ref D) none a) (tCons (tVar i) (tCons (tC (.ref C)) tNil))) (nwd K B (.bool b)) := fun F H σ c Q q => by
  obtain ⟨w, o⟩ := c.own
  obtain ⟨_, v, e1, rfl⟩ := o.sl i _ h
  exact ⟨_, e1, D, .ref C, .ref C, b, rfl, rfl, e, rfl, fun u hu => hu, k, q _ F H (Gr.refl c.i) (.bl b)⟩
theorem ev_isKt {D a : Addr} {n : String} {b : Bool} {i : Nat} (h : ρ[i]? = some (.fz fun _ v => v = .ref a)) (e : ExcC K D) (k : PySem.W.kitOne K (.ref D) (.type n) = some b) : Ev B F0 ρ (tCB (rIsK K (.ref D) none a) (tCons (tVar i) (tCons (tC (.ty n)) tNil))) (nwd K B (.bool b)) := fun F H σ c Q q => by
  obtain ⟨w, o⟩ := c.own
  obtain ⟨_, v, e1, rfl⟩ := o.sl i _ h
  exact ⟨_, e1, D, .ty n, .type n, b, rfl, rfl, e, rfl, fun u hu => hu, k, q _ F H (Gr.refl c.i) (.bl b)⟩
theorem ev_notNk {a : Addr} {i : Nat} (h : ρ[i]? = some (.fz fun _ v => v = .ref a)) : Ev B F0 ρ (tOp (fun x y H Q => y = .non ∧ Q (.bl (!decide (x = .non))) H) (tVar i) (tC .non)) (nwd K B (.bool true)) := fun F H σ c Q q => by
  obtain ⟨w, o⟩ := c.own
  obtain ⟨_, v, e1, rfl⟩ := o.sl i _ h
  exact ⟨_, e1, rfl, q _ F H (Gr.refl c.i) (.bl true)⟩
end
abbrev wordX (X : Cx) (g : Addr) (cdg : Value) (s : Shared) (H : Hp) : Cx := (cxOf C8.CX0 X.prog X.w X.K X.mg X.base ["_law_deed", "_law_caught", "e", "_law_some", "_law_word_here", "_law_is_so"] "_law_word" (defScope s_w_word) g cdg X.A X.stack s H C8.E0).nox
section
variable {X : Cx} {C_BadCount C_BadPlace C_BadStreet C_TooMany C_Parted C_BadWays C_BadText C_TownError : Addr}
theorem word_gives (Z : Zs X.mg) (gT : X.mg "TownError" = some (.ref C_TownError)) (X_BadCount : XCls X.K X.mg "BadCount" C_BadCount) (X_BadPlace : XCls X.K X.mg "BadPlace" C_BadPlace) (X_BadStreet : XCls X.K X.mg "BadStreet" C_BadStreet) (X_TooMany : XCls X.K X.mg "TooMany" C_TooMany) (gP : X.mg "Parted" = some (.ref C_Parted)) (gW : X.mg "BadWays" = some (.ref C_BadWays)) (gX : X.mg "BadText" = some (.ref C_BadText)) (zV : X.mg "ValueError" = none)
    {g : Addr} {cdg : Value} {q : Str} : LamX.GivesTo X ["_law_deed", "_law_caught", "e", "_law_some", "_law_word_here", "_law_is_so"] "_law_word" (defScope s_w_word) g cdg (defBody s_w_word) "_law_deed" q (TWord X.K C_TownError (C_BadCount, C_BadPlace, C_BadStreet, C_TooMany, C_Parted, C_BadWays, C_BadText)) := by
  intro f c' s H Q tl act hc h
  refine ⟨_, pss_cons (ps_set (i := 1) sc_w_word.nd rfl (Or.inl rfl) pe_non) (pss_try_keep (X := wordX X g cdg s H) (i := 2) (c := .ref C_TownError)
      (tb := fun W D σ H => ∃ Ech : XK, (∀ cls d σ' H', Ech cls d H' → W cls d σ' H') ∧ σ[0]? = some (some (.ref f)) ∧ H c' = some (LamX.CodeO c' q) ∧ tl Ech H fun _ H1 => D.nx σ H1) (t0 := fun _ _ _ => False)
      rfl rfl sc_w_word.nd rfl rfl ⟨rfl, by decide, .inl gT⟩ (fun W pn xe tk _ => ?hbd) (fun a ob cls d pn hz hf => pss_one (ps_set (i := 1) sc_w_word.nd rfl (Or.inl rfl) (pv 2))) ⟨fun _ _ _ _ _ _ z => z.elim⟩ (fun a ob cls d pn hz hf => (pss_cons (ps_set (i := 3) sc_w_word.nd rfl (Or.inl rfl) (pe_lst (pa_cons (pe_tup (pa_cons pe_str (pa_cons (pe_callB (call_isK (X := wordX X g cdg s H) hz hf) (by rfl) Z.isinstance (by decide +kernel) (pa_cons (pv 1) (pa_cons (pe_glob (v := .ref C_BadCount) rfl X_BadCount.g rfl) pa_nil))) pa_nil))) (pa_cons (pe_tup (pa_cons pe_str (pa_cons (pe_callB (call_isK (X := wordX X g cdg s H) hz hf) (by rfl) Z.isinstance (by decide +kernel) (pa_cons (pv 1) (pa_cons (pe_glob (v := .ref C_BadPlace) rfl X_BadPlace.g rfl) pa_nil))) pa_nil))) pa_nil))))
    (pss_cons (ps_set (i := 3) sc_w_word.nd rfl (Or.inl rfl) (pe_op op_cat (pv 3) (pe_lst (pa_cons (pe_tup (pa_cons pe_str (pa_cons (pe_callB (call_isK (X := wordX X g cdg s H) hz hf) (by rfl) Z.isinstance (by decide +kernel) (pa_cons (pv 1) (pa_cons (pe_glob (v := .ref C_BadStreet) rfl X_BadStreet.g rfl) pa_nil))) pa_nil))) (pa_cons (pe_tup (pa_cons pe_str (pa_cons (pe_callB (call_isK (X := wordX X g cdg s H) hz hf) (by rfl) Z.isinstance (by decide +kernel) (pa_cons (pv 1) (pa_cons (pe_glob (v := .ref C_TooMany) rfl X_TooMany.g rfl) pa_nil))) pa_nil))) pa_nil)))))
    (pss_cons (ps_set (i := 3) sc_w_word.nd rfl (Or.inl rfl) (pe_op op_cat (pv 3) (pe_lst (pa_cons (pe_tup (pa_cons pe_str (pa_cons (pe_callB (call_isK (X := wordX X g cdg s H) hz hf) (by rfl) Z.isinstance (by decide +kernel) (pa_cons (pv 1) (pa_cons (pe_glob (v := .ref C_Parted) rfl gP rfl) pa_nil))) pa_nil))) (pa_cons (pe_tup (pa_cons pe_str (pa_cons (pe_callB (call_isK (X := wordX X g cdg s H) hz hf) (by rfl) Z.isinstance (by decide +kernel) (pa_cons (pv 1) (pa_cons (pe_glob (v := .ref C_BadWays) rfl gW rfl) pa_nil))) pa_nil))) pa_nil)))))
    (pss_cons (ps_expr (kpe_bmOf X.K (pe_bm PySem.F.plainAttrs_list PySem.F.slot_list_append PySem.F.type_list_append mt_append (pv 3) (pa_cons (pe_tup (pa_cons pe_str (pa_cons (pe_callB (call_isK (X := wordX X g cdg s H) hz hf) (by rfl) Z.isinstance (by decide +kernel) (pa_cons (pv 1) (pa_cons (pe_glob (v := .ref C_BadText) rfl gX rfl) pa_nil))) pa_nil))) pa_nil))))
    (pss_cons (ps_if (PW.pt (pw_and (pt_cmpR op_notN (pv 1) pe_non (nomark _)) (pw_and1 (pt_not (pt_val (pe_callB (call_isK (X := wordX X g cdg s H) hz hf) (by rfl) Z.isinstance (by decide +kernel) (pa_cons (pv 1) (pa_cons (pe_bltn (v := .ty "ValueError") (by rfl) zV (by decide +kernel) rfl) pa_nil)))))))) (pss_one (ps_expr (kpe_bmOf X.K (pe_bm PySem.F.plainAttrs_list PySem.F.slot_list_append PySem.F.type_list_append mt_append (pv 3) (pa_cons (pe_tup (pa_cons pe_str (pa_cons pe_bl pa_nil))) pa_nil))))) pss_nil)
    (pss_one (ps_ret (pe_lc (own := [("_law_word_here", 4), ("_law_is_so", 5)]) rfl sc_w_word.nd (kpi_list X.K (pv 3)) (blkOk_by (by dsimp only [cxOf, Cx.nox, Cx.wish, Cx.blk, compEnvC, envOfC]; (try (rw [relabel_eq]; dsimp only)); decide +kernel)) (fun _ _ _ _ _ => (kpg_tup X.K 2 rfl (pgs_cons (pg_name (i := 4) sc_w_word.nd rfl (Or.inl rfl)) (pgs_cons (pg_name (i := 5) sc_w_word.nd rfl (Or.inl rfl)) pgs_nil)))) (fun _ _ _ _ _ => (pts_one (pt_val (pv 5)))) (fun _ _ _ _ _ => (pv 4)))))))))))), ?rd⟩
  case hbd =>
    refine ⟨fun pins s' σ H' D I h' => ?_⟩
    obtain ⟨Ech, hW, h1, h2, h3⟩ := h'
    exact (pss_one (ps_expr (act W pn xe Ech _ _ tk hW))).run pins s' σ H' D I ⟨h1, h2, h3⟩
  case rd =>
    refine ⟨_, fun cls d σ' H' hE hl => ?_, rfl, hc, h⟩
    obtain ⟨D, b, rfl, rfl, wc, hQ⟩ := hE
    refine ⟨true, wc.m, rfl, fun a na => ?_⟩
    have st0 : Stab fun _ v => v = V.ref a := fun _ _ _ _ z => z
    match σ', hl with
    | [v0, v1, v2, v3, v4, v5], _ =>
    refine ⟨_, rfl, ?_⟩
    dsimp only [gName]
    refine (?_ : At H' H' _ [Sl.no, .fz fun _ v => v = V.ref a, Sl.no, Sl.no, Sl.no, Sl.no]) H' H' _ ⟨Gr.refl (Same.refl _), rfl, fun _ => [], fun i j x hx => (List.not_mem_nil hx).elim, fun i x hx => (List.not_mem_nil hx).elim, fun i s hs => ?_⟩
    · have one : ∀ {F1 : Hp} {ρ : List Sl} {C : Addr} {x : Str} {b : Bool}, ρ[1]? = some (.fz fun _ v => v = V.ref a) → PySem.W.kitOne X.K (.ref D) (.ref C) = some b → Ev H' F1 ρ (tTup (tCons (tC (.str x)) (tCons (tCB (rIsK X.K (.ref D) none a) (tCons (tVar 1) (tCons (tC (.ref C)) tNil))) tNil))) (nwd X.K H' (wordD (x, b))) := fun h k => ev_tup (eas_cons ev_str (eas_cons (ev_isK h wc.e k) eas_nil)) (by simp)
      refine' q_setM X.K (ds := (wordP b).take 2 |>.map wordD) ?a1 (q_setM X.K (ds := (wordP b).take 4 |>.map wordD) ?a2 (q_setM X.K (ds := (wordP b).take 6 |>.map wordD) ?a3 (q_drop (evx_append (K := X.K) (i := 3) (ds := (wordP b).take 6 |>.map wordD) (d := wordD ("text", b.2.2.2.2.2.2)) ?a8 ?a4 ?a5) (q_when (c := false) ?a6 (fun z => by cases z) fun _ => ?a7))))
      case a1 => exact evm_lst (eas_cons (one rfl wc.k1) (eas_cons (one rfl wc.k2) eas_nil)) (by simp [wordP])
      case a2 =>
        rw [show ((wordP b).take 4).map wordD = ((wordP b).take 2).map wordD ++ [wordD ("street", b.2.2.1), wordD ("many", b.2.2.2.1)] from rfl]
        exact evm_catN (evn_ml rfl) (EvM.n (evm_lst (eas_cons (one rfl wc.k3) (eas_cons (one rfl wc.k4) eas_nil)) (by simp))) (by simp [wordP])
      case a3 =>
        rw [show ((wordP b).take 6).map wordD = ((wordP b).take 4).map wordD ++ [wordD ("parted", b.2.2.2.2.1), wordD ("ways", b.2.2.2.2.2.1)] from rfl]
        exact evm_catN (evn_ml rfl) (EvM.n (evm_lst (eas_cons (one rfl wc.k5) (eas_cons (one rfl wc.k6) eas_nil)) (by simp))) (by simp [wordP])
      case a4 => exact one rfl wc.k7
      case a5 => simp [wordP]
      case a6 => exact et_is (et_and (a := true) (c := false) (et_test (K := X.K) (Ev.hd (ev_notNk rfl))) fun _ => et_is (et_not (et_B (K := X.K) (Ev.hd (ev_isKt rfl wc.e wc.v)))) rfl) rfl
      case a7 =>
        refine at_fix (K := X.K) (ds := (wordP b).map wordD) 3 rfl ?_
        refine at_ret (K := X.K) (EvM.nw (K := X.K) (evm_lc (xs := wordP b) (e := wordD) (q := nwd X.K H') (fun p => p.2) (fun p => .str p.1) (evj_list (ev_var rfl)) (fun F1 p hp => ?_) (by simp [wordP]))) hQ
        refine ⟨_, _, bind_tup (bindl_cons (bind_name st_nwd) (bindl_cons (bind_name st_nwd) bindl_nil)) rfl, by decide, et_B (K := X.K) (evh_var rfl rd_sn), fun _ => ev_var rfl⟩
      case a8 => rfl
    · match i, hs with
      | 0, hs => cases hs; trivial
      | 1, hs => cases hs; exact ⟨st0, _, rfl, rfl⟩
      | 2, hs => cases hs; trivial
      | 3, hs => cases hs; trivial
      | 4, hs => cases hs; trivial
      | 5, hs => cases hs; trivial
end

section
variable {X : Cx} {C_BadCount C_BadPlace C_BadStreet C_TooMany C_Parted C_BadWays C_BadText C_TownError : Addr}
/-- _law_word(lambda: body) -/
theorem pe_word (Z : Zs X.mg) (gT : X.mg "TownError" = some (.ref C_TownError)) (X_BadCount : XCls X.K X.mg "BadCount" C_BadCount) (X_BadPlace : XCls X.K X.mg "BadPlace" C_BadPlace) (X_BadStreet : XCls X.K X.mg "BadStreet" C_BadStreet) (X_TooMany : XCls X.K X.mg "TooMany" C_TooMany) (gP : X.mg "Parted" = some (.ref C_Parted)) (gW : X.mg "BadWays" = some (.ref C_BadWays)) (gX : X.mg "BadText" = some (.ref C_BadText)) (zV : X.mg "ValueError" = none)
    (D : Dfn X.K X.mg "_law_word" "_law_word" s_w_word ["_law_deed"]) {c P : Addr} {k : Nat} {params : Arguments} {body : Expr} {scope : Scope} {t : XK → TE} {p lpos pos : Pos} (hg : Gl X "_law_word") (TB : LamX.TabB X.base X.mg c P) (hcode : X.env.code = .ref c) (hr : Room (k + 2) X.A) (L : LamX.LamS X.env.scope scope) (hdef : defaultsOf params X.env = ([], []))
    (hbind : ∀ (q : Str) (cl : List (Str × Addr)) (pm cv ctv : Value), bindArgs (PySem.W.kla_fn "<lambda>" q params body scope cl pm cv ctv) ⟨[], []⟩ = pure [])
    (hbody : ∀ (A : Around) (outer : List Env) (s : Shared) (H : Hp) (E : XK) (f c' : Addr), Room k (A.deeper (LamX.lamEnv X scope s.heap.objs.size f c')) → PE (LamX.lamCx X A outer s H E scope f c') body (t E)) :
    PE X (.Call (.Name "_law_word" p) [.Lambda params body scope lpos] [] pos) (LamX.tLam [(P, X.env.qual ++ "<lambda>")] (TWord X.K C_TownError (C_BadCount, C_BadPlace, C_BadStreet, C_TooMany, C_Parted, C_BadWays, C_BadText)) t) := by
  obtain ⟨f, fd, F, hm, hb⟩ := D.ex
  have kp := F.kp
  obtain ⟨oc, od, kV, doc, pm, an, cdv, ct, osl, rfl, lk, hcd⟩ := F.ex
  exact LamX.pe_lamcall hg hm kp lk hcd hb sc_w_word rfl (Or.inl rfl) (word_gives Z gT X_BadCount X_BadPlace X_BadStreet X_TooMany gP gW gX zV) TB hcode (List.mem_singleton.mpr rfl) (fun p hp _ => by rw [List.mem_singleton.mp hp]) hr L hdef hbind hbody
/-- .. where other defs have lambdas too -/
theorem pe_wordT (Z : Zs X.mg) (gT : X.mg "TownError" = some (.ref C_TownError)) (X_BadCount : XCls X.K X.mg "BadCount" C_BadCount) (X_BadPlace : XCls X.K X.mg "BadPlace" C_BadPlace) (X_BadStreet : XCls X.K X.mg "BadStreet" C_BadStreet) (X_TooMany : XCls X.K X.mg "TooMany" C_TooMany) (gP : X.mg "Parted" = some (.ref C_Parted)) (gW : X.mg "BadWays" = some (.ref C_BadWays)) (gX : X.mg "BadText" = some (.ref C_BadText)) (zV : X.mg "ValueError" = none)
    (D : Dfn X.K X.mg "_law_word" "_law_word" s_w_word ["_law_deed"]) {c P : Addr} {T : List (Addr × Str)} {k : Nat} {params : Arguments} {body : Expr} {scope : Scope} {t : XK → TE} {p lpos pos : Pos} (hg : Gl X "_law_word") (TB : LamX.TabB X.base X.mg c P) (hmT : (P, X.env.qual ++ "<lambda>") ∈ T) (hu : ∀ p ∈ T, p.1 = P → p.2 = X.env.qual ++ "<lambda>") (hcode : X.env.code = .ref c) (hr : Room (k + 2) X.A) (L : LamX.LamS X.env.scope scope) (hdef : defaultsOf params X.env = ([], []))
    (hbind : ∀ (q : Str) (cl : List (Str × Addr)) (pm cv ctv : Value), bindArgs (PySem.W.kla_fn "<lambda>" q params body scope cl pm cv ctv) ⟨[], []⟩ = pure [])
    (hbody : ∀ (A : Around) (outer : List Env) (s : Shared) (H : Hp) (E : XK) (f c' : Addr), Room k (A.deeper (LamX.lamEnv X scope s.heap.objs.size f c')) → PE (LamX.lamCx X A outer s H E scope f c') body (t E)) :
    PE X (.Call (.Name "_law_word" p) [.Lambda params body scope lpos] [] pos) (LamX.tLam T (TWord X.K C_TownError (C_BadCount, C_BadPlace, C_BadStreet, C_TooMany, C_Parted, C_BadWays, C_BadText)) t) := by
  obtain ⟨f, fd, F, hm, hb⟩ := D.ex
  have kp := F.kp
  obtain ⟨oc, od, kV, doc, pm, an, cdv, ct, osl, rfl, lk, hcd⟩ := F.ex
  exact LamX.pe_lamcall hg hm kp lk hcd hb sc_w_word rfl (Or.inl rfl) (word_gives Z gT X_BadCount X_BadPlace X_BadStreet X_TooMany gP gW gX zV) TB hcode hmT hu hr L hdef hbind hbody
end
section
variable {K : PySem.W.Frag} {B F0 : Hp} {ρ : List Sl}
/-- .. of what raises a thing of the class D: the words of D -/
theorem evx_word {CT D : Addr} {b : Bool × Bool × Bool × Bool × Bool × Bool × Bool} {cc : Addr × Addr × Addr × Addr × Addr × Addr × Addr} {T : List (Addr × Str)} {fp : Pd} {t : XK → TE} {i : Nat} (W : WordC K CT D b cc) (hi : ρ[i]? = some (.mo (tabP T fp))) (nB : noTbl B) (nF0 : noTbl F0) (hm : NtAll i ρ)
    (h : EvR B F0 ρ t D) : EvX B F0 ρ (LamX.tLam T (TWord K CT cc) t) ρ (nwd K B (wordsD b)) :=
  evx_lam hi nB nF0 hm fun F H σ c Q q => h F H σ c _ _ fun F1 H1 c1 => ⟨D, b, rfl, rfl, W, fun v H2 s n => by
    obtain ⟨F2, g2, _, n2⟩ := nw_fix (B := B) c1.gr.h n F1 (gr_call c1.i s)
    exact q v F2 H2 (c1.go g2) n2⟩
end
theorem wordC_mk {K : PySem.W.Frag} {h : Heap} {mg : Str → Option Value} {nm : Str} {CT D c1 c2 c3 c4 c5 c6 c7 : Addr} {b1 b2 b3 b4 b5 b6 b7 : Bool} (X : K.In h) (gT : mg "TownError" = some (.ref CT)) (gD : mg nm = some (.ref D)) (g1 : mg "BadCount" = some (.ref c1)) (g2 : mg "BadPlace" = some (.ref c2)) (g3 : mg "BadStreet" = some (.ref c3)) (g4 : mg "TooMany" = some (.ref c4)) (g5 : mg "Parted" = some (.ref c5)) (g6 : mg "BadWays" = some (.ref c6)) (g7 : mg "BadText" = some (.ref c7))
    (e1 : PySem.W.findIn K (.ref D) "__getattribute__" = some (some (.builtin "BaseException.__getattribute__"))) (e2 : PySem.W.findIn K (.ref D) "__getattr__" = some none) (e3 : PySem.W.subIn K (.ref D) (.type "BaseException") = some true) (e4 : PySem.W.hasDictIn K D = true) (e5 : PySem.W.findIn K (.ref D) "__class__" = some (some (.builtin "object.__class__")))
    (e6 : PySem.W.specialIn K (.builtin "object.__class__") "__get__" = some (some (.builtin "getset_descriptor.__get__"))) (e7 : PySem.W.takesIn K (.builtin "object.__class__") = some true) (e8 : PySem.W.mroIn K D (.type "object") = some true) (m : PySem.W.exmOne K (.ref D) (.ref CT) = some true) (v : PySem.W.kitOne K (.ref D) (.type "ValueError") = some true)
    (k1 : PySem.W.kitOne K (.ref D) (.ref c1) = some b1) (k2 : PySem.W.kitOne K (.ref D) (.ref c2) = some b2) (k3 : PySem.W.kitOne K (.ref D) (.ref c3) = some b3) (k4 : PySem.W.kitOne K (.ref D) (.ref c4) = some b4) (k5 : PySem.W.kitOne K (.ref D) (.ref c5) = some b5) (k6 : PySem.W.kitOne K (.ref D) (.ref c6) = some b6) (k7 : PySem.W.kitOne K (.ref D) (.ref c7) = some b7) :
    WordC K CT D (b1, b2, b3, b4, b5, b6, b7) (c1, c2, c3, c4, c5, c6, c7) := ⟨⟨e1, e2, e3, e4, e5, e6, e7, e8⟩, m, v, k1, k2, k3, k4, k5, k6, k7⟩

section
variable {K : PySem.W.Frag} {B F0 : Hp} {ρ ρ1 : List Sl} {te : TE}
theorem evx_is {e e' : PyData} (h : EvX B F0 ρ te ρ1 (nwd K B e)) (q : e = e') : EvX B F0 ρ te ρ1 (nwd K B e') := q ▸ h
theorem okW {x : Str} (h : PyData.strOk x = true) : okS 1 (.list [.str x]) := okS_list (n := 0) (okS_cons (show okS 0 (.str x) from ⟨by rw [PyData.canLay0]; exact h, by rw [PyData.depth]; exact Nat.le_refl _⟩) okS_nil)
/-- the name of a def's lambdas -/
def lamN (q : Str) (st : Stmt) : Str := (envOfC q (defScope st) 0 0 .none).qual ++ "<lambda>"
variable {t : XK → TE} {cc : Addr × Addr × Addr × Addr × Addr × Addr × Addr} {CT D : Addr} {b : Bool × Bool × Bool × Bool × Bool × Bool × Bool} {fp : Pd} {T : List (Addr × Str)}
/-- _law_word(lambda: ..) == [x] -/
theorem evx_wordEq {i : Nat} {x : Str} (W : WordC K CT D b cc) (hx : wordsD b = .list [.str x]) (hs : PyData.strOk x = true) (hi : ρ[i]? = some (.mo (tabP T fp))) (nB : noTbl B) (nF0 : noTbl F0) (hm : NtAll i ρ) (h : EvR B F0 ρ t D) :
    EvX B F0 ρ (tOp (rEqD K) (LamX.tLam T (TWord K CT cc) t) (tLst (tCons (tC (.str x)) tNil))) ρ (nwd K B (.bool true)) :=
  evx_is (evx_eqD (d := .list [.str x]) (e := .list [.str x]) (hx ▸ evx_word W hi nB nF0 hm h) (Ev.hd (EvM.nw (evm_lst (eas_cons ev_str eas_nil) (by simp)))) ((okW hs).shaped (by decide)) ((okW hs).shaped (by decide))) (by rw [eqv_same (okW hs)])
end
section
variable {X : Cx} {C_BadCount C_BadPlace C_BadStreet C_TooMany C_Parted C_BadWays C_BadText C_TownError : Addr}
/-- .. where the context has something caught -/
theorem pe_wordK (K : PySem.W.Frag) (Z : Zs X.mg) (gT : X.mg "TownError" = some (.ref C_TownError)) (X_BadCount : XCls X.K X.mg "BadCount" C_BadCount) (X_BadPlace : XCls X.K X.mg "BadPlace" C_BadPlace) (X_BadStreet : XCls X.K X.mg "BadStreet" C_BadStreet) (X_TooMany : XCls X.K X.mg "TooMany" C_TooMany) (gP : X.mg "Parted" = some (.ref C_Parted)) (gW : X.mg "BadWays" = some (.ref C_BadWays)) (gX : X.mg "BadText" = some (.ref C_BadText)) (zV : X.mg "ValueError" = none)
    (D : Dfn X.K X.mg "_law_word" "_law_word" s_w_word ["_law_deed"]) {c P : Addr} {T : List (Addr × Str)} {k : Nat} {params : Arguments} {body : Expr} {scope : Scope} {t : XK → TE} {p lpos pos : Pos} (hg : Gl X "_law_word") (TB : LamX.TabB X.base X.mg c P) (hmT : (P, X.env.qual ++ "<lambda>") ∈ T) (hu : ∀ p ∈ T, p.1 = P → p.2 = X.env.qual ++ "<lambda>") (hcode : X.env.code = .ref c) (hr : Room (k + 2) X.A) (L : LamX.LamS X.env.scope scope) (hdef : defaultsOf params X.env = ([], []))
    (hbind : ∀ (q : Str) (cl : List (Str × Addr)) (pm cv ctv : Value), bindArgs (PySem.W.kla_fn "<lambda>" q params body scope cl pm cv ctv) ⟨[], []⟩ = pure [])
    (hbody : ∀ (A : Around) (outer : List Env) (s : Shared) (H : Hp) (E : XK) (f c' : Addr), Room k (A.deeper (LamX.lamEnv X scope s.heap.objs.size f c')) → PE (LamX.lamCx X A outer s H E scope f c') body (t E))
    (hK : X.K = K := by rfl) :
    PE X (.Call (.Name "_law_word" p) [.Lambda params body scope lpos] [] pos) (LamX.tLam T (TWord K C_TownError (C_BadCount, C_BadPlace, C_BadStreet, C_TooMany, C_Parted, C_BadWays, C_BadText)) t) :=
  hK ▸ pe_wordT Z gT X_BadCount X_BadPlace X_BadStreet X_TooMany gP gW gX zV D hg TB hmT hu hcode hr L hdef hbind hbody
end

abbrev s_law : Stmt := top 50
theorem sc_law : FnScope ["_law_script", "_law_seed_here", "_law_many_here", "_law_pairs_here", "_law_town", "_law_rows", "_law_one", "_law_other", "_law_ways", "_law_street", "_law_kept", "_law_found", "_law_again", "_law_number", "_law_odd", "_law_at", "_law_less"] ["_law_script"] (defScope s_law) := ⟨rfl, rfl, rfl, by decide +kernel, rfl, by decide +kernel, by decide +kernel⟩
def spLawTs (K : PySem.W.Frag) (T : List (Addr × Str)) : Sp := fun vs H Q _ => ∃ (a : Addr) (ns : List Int), vs = [.ref a] ∧ SqL K H a (ns.map V.int) ∧ ns.length ≤ 63 ∧ (∀ p ∈ T, H p.1 = some (.tbl #[])) ∧ ∀ H', Q (.bl true) H'
/-- what is no good way of a town's -/
def oddQ (K : PySem.W.Frag) (t : TSt) : Pd := fun F v => ∃ o, oneB t o = false ∧ oD K o F v
theorem st_oddQ {K : PySem.W.Frag} {t : TSt} : Stab (oddQ K t) := fun F F' v s ⟨o, h1, h2⟩ => ⟨o, h1, st_oD _ _ _ s h2⟩
abbrev R7 (K : PySem.W.Frag) (B : Hp) (C : Addr) (T : List (Addr × Str)) (ns : List Int) (sd n : Int) (pairs : List (Int × Int)) (st : TSt) (s5 s6 s7 s8 s9 s10 s11 s12 s13 s14 s15 s16 : Sl) : List Sl :=
  [.mo (tabP T (dat K (intsD ns))), sn K B (.int sd), sn K B (.int n), sn K B (.list (pairs.map pairD)), mt K C st, s5, s6, s7, s8, s9, s10, s11, s12, s13, s14, s15, s16]
section
variable {K : PySem.W.Frag} {B F0 : Hp} {ρ ρ1 ρ2 : List Sl} {te ta tb : TE} {tr : TA} {tt : L2.TT} {ts u : TS} {D : Ends} {C CW : Addr} {d e : PyData} {T : List (Addr × Str)} {ns : List Int} {sd n : Int} {pairs : List (Int × Int)} {st : TSt} {s5 s6 s7 s8 s9 s10 s11 s12 s13 s14 s15 s16 : Sl}
theorem nt7 (h5 : NtS s5) (h6 : NtS s6) (h7 : NtS s7) (h8 : NtS s8) (h9 : NtS s9) (h10 : NtS s10) (h11 : NtS s11) (h12 : NtS s12) (h13 : NtS s13) (h14 : NtS s14) (h15 : NtS s15) (h16 : NtS s16) : NtAll 0 (R7 K B C T ns sd n pairs st s5 s6 s7 s8 s9 s10 s11 s12 s13 s14 s15 s16) :=
  nt_head (n0_F (n0_F (n0_F (n0_M nt_mt (n0_S h5 (n0_S h6 (n0_S h7 (n0_S h8 (n0_S h9 (n0_S h10 (n0_S h11 (n0_S h12 (n0_S h13 (n0_S h14 (n0_S h15 (n0_S h16 n0_nil))))))))))))))))
theorem ev_oddD (h : Ev B F0 ρ te (nwd K B d)) (k : oneB st (some d) = false) : Ev B F0 ρ te (oddQ K st) := h.imp fun F v p => ⟨some d, k, nw_dp p⟩
theorem ev_oddN (h : Ev B F0 ρ te (isDictT K [])) : Ev B F0 ρ te (oddQ K st) := h.imp fun F v p => ⟨none, rfl, p⟩
theorem evr_odd {i j : Nat} (ok : TOk st) (hi : ρ[i]? = some (mt K C st)) (hj : ρ[j]? = some (.fz (oddQ K st))) : EvR B F0 ρ (fun E => tCall (spRound K C CW) [] E (tCons (tVar i) (tCons (tVar j) tNil))) CW := fun F H σ c E Q q =>
  (ea_cons st_isTown (evh_mt hi) (ea_cons (st_oddQ (K := K) (t := st)) (evh_fz st_oddQ hj) ea_nil)) F H σ c _ fun vs F1 H1 g1 p => by
    obtain ⟨v0, _, rfl, p0, v1, _, rfl, ⟨x, hx, hv⟩, rfl⟩ := p
    refine ⟨(st, x), ⟨ok, fun z => (by dsimp only at z; rw [hx] at z; cases z)⟩, ⟨v0, _, rfl, p0, v1, _, rfl, hv, rfl⟩, fun d ed => ?_, fun _ H' s => q F1 H' ((c.go g1).go (gr_call (c.go g1).i s))⟩
    have : roundO st x = none := by unfold roundO; rw [if_neg (by rw [hx]; decide)]
    dsimp only at ed
    rw [this] at ed
    cases ed
theorem evr_bad {i : Nat} {ds : List PyData} (ok : TOk st) (hi : ρ[i]? = some (mt K C st)) (ha : EvH B F0 ρ ta (dat K (.list ds))) (hb : oneB st (some (.list ds)) = false) : EvR B F0 ρ (fun E => tCall (spRound K C CW) [] E (tCons (tVar i) (tCons ta tNil))) CW :=
  evr_callE (α := TSt × Option PyData) (st, some (.list ds)) ⟨ok, fun z => (by dsimp only at z; rw [hb] at z; cases z)⟩ (ea_cons st_isTown (evh_mt hi) (ea_cons st_oD ha ea_nil)) (by show roundO st _ = none; unfold roundO; rw [if_neg (by rw [hb]; decide)])
theorem eo_round {i : Nat} {E : XK} {ways : List Row} (ok : TOk st) (G : GoodW st ways) (hi : ρ[i]? = some (mt K C st)) (ha : EvH B F0 ρ ta (dat K (.list (ways.map rowD)))) : EvO1 K B F0 ρ (tCall (spRound K C CW) [] E (tCons (tVar i) (tCons ta tNil))) (.list ((roundF ways).map rowD)) := by
  have e : waysO (some (.list (ways.map rowD))) = ways := rowOf_map ways
  refine eo_callE (α := TSt × Option PyData) (st, some (.list (ways.map rowD))) ⟨ok, fun _ => ?_⟩ (ea_cons st_isTown (evh_mt hi) (ea_cons st_oD ha ea_nil)) ?_
  · dsimp only
    rw [e]
    exact G.con
  · show roundO st _ = _
    unfold roundO
    rw [if_pos G.one, e]
theorem ext_wordNe {cc : Addr × Addr × Addr × Addr × Addr × Addr × Addr} {CT D : Addr} {b : Bool × Bool × Bool × Bool × Bool × Bool × Bool} {fp : Pd} {t : XK → TE} {x : Str} (W : WordC K CT D b cc) (hx : wordsD b = .list [.str x]) (hs : PyData.strOk x = true) (hi : ρ[0]? = some (.mo (tabP T fp))) (nB : noTbl B) (hm : NtAll 0 ρ) (h : EvR B B ρ t D) :
    EvXT B B ρ (tTest (tOp (rNeD K) (LamX.tLam T (TWord K CT cc) t) (tLst (tCons (tC (.str x)) tNil)))) ρ false :=
  ext_is (ext_test (K := K) (evx_neD (d := .list [.str x]) (e := .list [.str x]) (hx ▸ evx_word W hi nB nB hm h) (Ev.hd (EvM.nw (evm_lst (eas_cons ev_str eas_nil) (by simp)))) ((okW hs).shaped (by decide)) ((okW hs).shaped (by decide)))) (by rw [eqv_same (okW hs)]; rfl)
end
section
variable {P : Program} {w : World} {K : PySem.W.Frag} {mg : Str → Option Value} {base : Heap} {C TP fc C_BadCount C_BadPlace C_BadStreet C_TooMany C_Parted C_BadWays C_BadText C_TownError : Addr} {T : List (Addr × Str)}
theorem ok_law (Z : Zs mg) (TT : TownTxt K mg C) (G_w_mixed : Ok P w K mg base CX0 1 "_law_mixed" ["_law_cell", "_law_k"] (spMixed K)) (G_w_seed : Ok P w K mg base CX0 2 "_law_seed" ["_law_script"] (spSeed K)) (G_w_many : Ok P w K mg base CX0 2 "_law_many" ["_law_seed_here", "_law_most"] (spMany K)) (G_w_pairs : Ok P w K mg base CX0 2 "_law_pairs" ["_law_script", "_law_seed_here", "_law_many_here", "_law_most"] (spPairs K)) (G_w_made : Ok P w K mg base CX0 4 "_law_made" ["_law_many_here", "_law_pairs_here", "_law_seed_here"] (spMade K C))
    (M_build : OkM P w K mg base (L2.CX P w) 3 C "build" ["self", "one", "other"] (spBuild K C C_BadPlace C_TooMany)) (G_fewest : Ok P w K mg base CX0 6 "fewest" ["town"] (spFewest K C)) (G_one_way : Ok P w K mg base (L2.CX P w) 6 "one_way" ["town"] (spOneW K C C_Parted)) (G_round_trip : Ok P w K mg base (L2.CX P w) 3 "round_trip" ["town", "ways"] (spRound K C C_BadWays)) (G_w_walked : Ok P w K mg base CX0 1 "_law_walked" ["_law_ways", "_law_steps"] (spWalkedL K))
    (gTE : mg "TownError" = some (.ref C_TownError)) (X_BadCount : XCls K mg "BadCount" C_BadCount) (X_BadPlace : XCls K mg "BadPlace" C_BadPlace) (X_BadStreet : XCls K mg "BadStreet" C_BadStreet) (X_TooMany : XCls K mg "TooMany" C_TooMany) (gPT : mg "Parted" = some (.ref C_Parted)) (gBW : mg "BadWays" = some (.ref C_BadWays)) (gBX : mg "BadText" = some (.ref C_BadText)) (zVE : mg "ValueError" = none)
    (D_w_word : Dfn K mg "_law_word" "_law_word" s_w_word ["_law_deed"]) (WW : WordC K C_TownError C_BadWays (false, false, false, false, false, true, false) (C_BadCount, C_BadPlace, C_BadStreet, C_TooMany, C_Parted, C_BadWays, C_BadText))
    (TB : LamX.TabB base mg fc TP) (hmT : (TP, lamN "law" s_law) ∈ T) (hu : ∀ p ∈ T, p.1 = TP → p.2 = lamN "law" s_law) {f : Addr} {fd : FuncData} (F : LawC K f fc TP s_law fd) : FnOk P w K mg base CX0 12 f fd ["_law_script"] (spLawTs K T) := by
  refine F.ok sc_law (fun vs H Q E h => ?_) (fun A outer s H vs Q E hr h => ?_)
  · obtain ⟨a, ns, rfl, _⟩ := h
    rfl
  obtain ⟨a0, ns, rfl, hsq, hns, htp, q⟩ := h
  refine ⟨_, (pss_cons (ps_set (i := 1) sc_law.nd rfl (Or.inl rfl) (ok_call G_w_seed (by exact hr.mono (by decide)) rfl (pa_cons (pv 0) pa_nil)))
    (pss_cons (ps_set (i := 2) sc_law.nd rfl (Or.inl rfl) (ok_call G_w_many (by exact hr.mono (by decide)) rfl (pa_cons (pv 1) (pa_cons pe_int pa_nil))))
    (pss_cons (ps_set (i := 3) sc_law.nd rfl (Or.inl rfl) (ok_call G_w_pairs (by exact hr.mono (by decide)) rfl (pa_cons (pv 0) (pa_cons (pv 1) (pa_cons (pv 2) (pa_cons pe_int pa_nil))))))
    (pss_cons (ps_asg (ok_call G_w_made (by exact hr.mono (by decide)) rfl (pa_cons (pv 2) (pa_cons (pv 3) (pa_cons (pv 1) pa_nil)))) (kpg_tup K 2 rfl (pgs_cons (pg_name (i := 4) sc_law.nd rfl (Or.inr rfl)) (pgs_cons (pg_name (i := 5) sc_law.nd rfl (Or.inl rfl)) pgs_nil))))
    (pss_cons (ps_for PassesOwn.never rfl (kpi_list K (ok_call G_fewest (by exact hr.mono (by decide)) rfl (pa_cons (pv 4) pa_nil))) (kpg_tup K 2 rfl (pgs_cons (pg_name (i := 6) sc_law.nd rfl (Or.inl rfl)) (pgs_cons (pg_name (i := 7) sc_law.nd rfl (Or.inl rfl)) pgs_nil)))
      (pss_one (ps_expr (ok_methX M_build (by exact hr.mono (by decide)) (pv 4) (pa_cons (pv 6) (pa_cons (pv 7) pa_nil))))))
    (pss_cons (ps_set (i := 8) sc_law.nd rfl (Or.inr rfl) (ok_callX G_one_way (by exact hr.mono (by decide)) rfl (pa_cons (pv 4) pa_nil)))
    (pss_cons (ps_if (pt_cmpR op_eq (pe_op op_mod (ok_call G_w_mixed (by exact hr.mono (by decide)) rfl (pa_cons (pv 1) (pa_cons pe_int pa_nil))) pe_int) pe_int (nomark _)) (pss_one (ps_set (i := 8) sc_law.nd rfl (Or.inr rfl) (pe_lc (own := [("_law_one", 6), ("_law_other", 7), ("_law_street", 9)]) (tt := tYes) rfl sc_law.nd (kpi_list K (pv 8)) (blkOk_by (by dsimp only [cxOf, Cx.nox, Cx.wish, Cx.blk, compEnvC, envOfC]; (try (rw [relabel_eq]; dsimp only)); decide +kernel)) (fun _ _ _ _ _ => (kpg_tup K 3 rfl (pgs_cons (pg_name (i := 9) sc_law.nd rfl (Or.inl rfl)) (pgs_cons (pg_name (i := 6) sc_law.nd rfl (Or.inl rfl)) (pgs_cons (pg_name (i := 7) sc_law.nd rfl (Or.inl rfl)) pgs_nil))))) (fun _ _ _ _ _ => pts_nil) (fun _ _ _ _ _ => (pe_tup (pa_cons (pv 9) (pa_cons (pv 7) (pa_cons (pv 6) pa_nil)))))))) pss_nil)
    (pss_cons (ps_set (i := 10) sc_law.nd rfl (Or.inl rfl) (pe_callTy (kcall_list_of K) (by rfl) Z.list (by decide +kernel) (pa_cons (pv 8) pa_nil)))
    (pss_cons (ps_set (i := 11) sc_law.nd rfl (Or.inl rfl) (ok_callX G_round_trip (by exact hr.mono (by decide)) rfl (pa_cons (pv 4) (pa_cons (pv 8) pa_nil))))
    (pss_cons (ps_if (PW.pt (pw_or (pt_not (pt_val (pe_callB (kcall_isi K) (by rfl) Z.isinstance (by decide +kernel) (pa_cons (pv 11) (pa_cons (pe_bltn (v := .ty "list") (by rfl) Z.list (by decide +kernel) rfl) pa_nil))))) (pw_or (pt_not (pt_val (ok_call G_w_walked (by exact hr.mono (by decide)) rfl (pa_cons (pv 8) (pa_cons (pv 11) pa_nil))))) (pw_or1 (pt_cmpR (kop_neD K (by exact hr.units)) (pv 8) (pv 10) (nomark _)))))) (pss_one (ps_ret pe_bl)) pss_nil)
    (pss_cons (ps_set (i := 12) sc_law.nd rfl (Or.inl rfl) (pe_callTy (kcall_list_of K) (by rfl) Z.list (by decide +kernel) (pa_cons (pv 11) pa_nil)))
    (pss_cons (ps_expr (pe_bm PySem.F.plainAttrs_list PySem.F.slot_list_append PySem.F.type_list_append mt_append (pv 11) (pa_cons pe_str pa_nil)))
    (pss_cons (ps_if (pt_cmpR (kop_neD K (by exact hr.units)) (ok_callX G_round_trip (by exact hr.mono (by decide)) rfl (pa_cons (pv 4) (pa_cons (pv 8) pa_nil))) (pv 12) (nomark _)) (pss_one (ps_ret pe_bl)) pss_nil)
    (pss_cons (ps_set (i := 13) sc_law.nd rfl (Or.inl rfl) (ok_call G_w_mixed (by exact hr.mono (by decide)) rfl (pa_cons (pv 1) (pa_cons pe_int pa_nil))))
    (pss_cons (ps_set (i := 14) sc_law.nd rfl (Or.inr rfl) (pe_ix (kix_list K) (pe_lst (pa_cons pe_non (pa_cons pe_int (pa_cons pe_dnewK (pa_cons pe_str (pa_cons (pe_callTy (kcall_tuple_of K) (by rfl) Z.tuple (by decide +kernel) (pa_cons (pv 8) pa_nil)) (pa_cons (pe_op op_cat (pv 8) (pe_lst (pa_cons (pe_tup (pa_cons pe_int (pa_cons pe_int (pa_cons pe_int pa_nil)))) pa_nil))) (pa_cons (pe_lst (pa_cons pe_non pa_nil)) (pa_cons (pe_lst (pa_cons (pv 8) pa_nil)) pa_nil))))))))) (pe_op op_mod (pv 13) pe_int) (fun _ _ => rfl)))
    (pss_cons (ps_if (pt_cmpR (kop_neD K (by exact hr.units)) (pe_wordT Z gTE X_BadCount X_BadPlace X_BadStreet X_TooMany gPT gBW gBX zVE D_w_word (k := 4) rfl TB hmT hu rfl (by exact hr.mono (by decide)) (LamX.lamS_by (sc := defScope s_law) (by decide +kernel)) rfl (fun _ _ _ _ _ => rfl) (fun A1 outer1 s1 H1 E1 f1 c1 hr => (ok_callP (takes_of rfl rfl rfl rfl) G_round_trip (by exact hr.mono (by decide)) rfl (pa_cons (pv 4) (pa_cons (pv 14) pa_nil))))) (pe_lst (pa_cons pe_str pa_nil)) (nomark _)) (pss_one (ps_ret pe_bl)) pss_nil)
    (pss_cons (ps_if (pt_cmpR (kop_eqD K (by exact hr.units)) (pv 8) (pe_lst pa_nil) (nomark _)) (pss_one (ps_ret pe_bl)) pss_nil)
    (pss_cons (ps_set (i := 15) sc_law.nd rfl (Or.inl rfl) (pe_op op_mod (pe_op op_fdiv (pv 13) pe_int) (pe_callB (kcall_len_seq K) (by rfl) Z.len PySem.boot_len (pa_cons (pv 8) pa_nil))))
    (pss_cons (ps_set (i := 16) sc_law.nd rfl (Or.inr rfl) (pe_op op_cat (pe_slice (ksl_list K) (pv 8) po_none (po_some (pv 15))) (pe_slice (ksl_list K) (pv 8) (po_some (pe_op op_add (pv 15) pe_int)) po_none)))
    (pss_cons (ps_if (pt_cmpR (kop_neD K (by exact hr.units)) (pe_wordT Z gTE X_BadCount X_BadPlace X_BadStreet X_TooMany gPT gBW gBX zVE D_w_word (k := 4) rfl TB hmT hu rfl (by exact hr.mono (by decide)) (LamX.lamS_by (sc := defScope s_law) (by decide +kernel)) rfl (fun _ _ _ _ _ => rfl) (fun A1 outer1 s1 H1 E1 f1 c1 hr => (ok_callP (takes_of rfl rfl rfl rfl) G_round_trip (by exact hr.mono (by decide)) rfl (pa_cons (pv 4) (pa_cons (pv 16) pa_nil))))) (pe_lst (pa_cons pe_str pa_nil)) (nomark _)) (pss_one (ps_ret pe_bl)) pss_nil)
    (pss_cons (ps_if (pt_cmpR (kop_neD K (by exact hr.units)) (pe_wordT Z gTE X_BadCount X_BadPlace X_BadStreet X_TooMany gPT gBW gBX zVE D_w_word (k := 4) rfl TB hmT hu rfl (by exact hr.mono (by decide)) (LamX.lamS_by (sc := defScope s_law) (by decide +kernel)) rfl (fun _ _ _ _ _ => rfl) (fun A1 outer1 s1 H1 E1 f1 c1 hr => (ok_callP (takes_of rfl rfl rfl rfl) G_round_trip (by exact hr.mono (by decide)) rfl (pa_cons (pv 4) (pa_cons (kpe_revL K (pv 8)) pa_nil))))) (pe_lst (pa_cons pe_str pa_nil)) (nomark _)) (pss_one (ps_ret pe_bl)) pss_nil)
    (pss_one (ps_ret (pe_cmpR (kop_eqD K (by exact hr.units)) (ok_callX G_round_trip (by exact hr.mono (by decide)) rfl (pa_cons (pv 4) (pa_cons (pv 8) pa_nil))) (pv 12) (nomark _))))))))))))))))))))))))), ?_⟩
  refine at_enterT (T := T) (f := dat K (intsD ns)) st_dat (.lst (seq_noT hsq) (nwAll_dp (nwAll_ints (B := e0) ns))) htp (by decide) ?_
  walk_at "go"
  generalize hB : noT H = B
  have nB : noTbl B := by rw [← hB]; exact noT_noTbl
  clear hB
  generalize hsd : seedF ns = sd
  have hn1 : 1 ≤ manyF sd 16 ∧ manyF sd 16 ≤ 16 := by
    unfold manyF
    have := manyL_rng (n := (mixedF sd 60 % 10).toNat)
    omega
  generalize hnn : manyF sd 16 = n at hn1
  have pk := pairs_ok (script := ns) (sd := sd) (n := n) (most := 40) hn1.1 (by decide) (by decide)
  have l40 : (pairsF ns sd n 40).length ≤ 40 := pairs_le (by decide)
  generalize hpp : pairsF ns sd n 40 = pairs at pk l40
  have I := made_held (sd := sd) hn1.1 hn1.2 pk
  have ok : TOk (madeF n pairs sd) := I.ok
  have many : (madeF n pairs sd).many = n := I.many
  have bt := I.bt
  rw [List.length_zipIdx] at bt
  change (madeF n pairs sd).built ≤ 2 * (pairs.length : Int) at bt
  have hps : (madeF n pairs sd).held.map (·.2) = pairs := by
    have := I.held
    rw [List.zipIdx_map_fst] at this
    exact this
  refine' q_set K (d := .int sd) ?a1 (q_set K (d := .int n) ?a2 (q_set K (d := .list (pairs.map pairD)) ?a3 (q_made (sd := sd) (n := n) (pairs := pairs) (i := 4) (j := 5) (by decide) ?a4 hn1.1 hn1.2 pk ?a5)))
  case a1 => rw [← hsd]; walk_at "ev"; trivial
  case a2 => rw [← hnn]; walk_at "ev"; trivial
  case a3 =>
    rw [← hpp]
    refine ev_call (α := List Int × Int × Int × Int) (ns, sd, n, 40) ⟨hns, hn1.1, hn1.2, (by decide : (0 : Int) ≤ 40), (by decide : (40 : Int) ≤ 60)⟩ ?_
    walk_at "ev"
  case a4 => walk_at "ev"
  case a5 =>
  generalize hst : madeF n pairs sd = st at I ok many hps bt
  refine at_fix (K := K) (ds := st.held.map rowD) 5 rfl ?_
  generalize hs5 : sn K B (.list (st.held.map rowD)) = s5
  have n5 : NtS s5 := by rw [← hs5]; exact nts_fz
  refine (?_ : At B B _ (R7 K B C T ns sd n pairs st s5 .no .no .no .no .no .no .no .no .no .no .no))
  have hin := tok_in ok
  have lE : pairs.length = st.held.length := by rw [← hps, List.length_map]
  have FI := few_i ok.lo hin ok.keys
  have FW := few_whole ok.lo hin ok.keys
  have pl : (pcsF st).length ≤ 16 := pcs_len ok
  have wl := wants_le (n := st.many) (rows := st.held)
  change wantsF st.many st.held ≤ 2 * (pcsF st).length at wl
  have flen := FI.len
  generalize hX : fewestF st.many st.held = X at FI FW flen
  have lX : X.length ≤ 16 := by omega
  refine q_for (xs := X) (e := pairD) (q := nwd K B) (EvJ.i (evj_list (ev_is (ev_call (α := TSt) st ok (ea_cons st_isTown (evh_mt (i := 4) rfl) ea_nil)) (by show PyData.list _ = _; rw [hX])))) (fun pre ρ' => ∃ t s6 s7, NtS s6 ∧ NtS s7 ∧ AddI st pre t ∧ ρ' = R7 K B C T ns sd n pairs t s5 s6 s7 .no .no .no .no .no .no .no .no .no) ?e1 ?e2 ?e3
  case e1 => exact ⟨st, .no, .no, nts_no, nts_no, ⟨ok, rfl, by simp, by simp⟩, rfl⟩
  case e2 =>
    rintro F1 pre ⟨a, b⟩ post ρ' hx ⟨t, s6, s7, n6, n7, A1, rfl⟩
    have lp : pre.length < 16 := by have := congrArg List.length hx; rw [List.length_append, List.length_cons] at this; omega
    have hr2 := FI.rng (a, b) (by rw [hx]; simp)
    have b0 := ok.b0
    have A2 := add_step (e := (a, b)) A1 (by omega) (by omega) hr2
    have hm := A1.many
    have hh := congrArg List.length A1.held
    rw [List.length_map, List.length_append, List.length_map] at hh
    dsimp only at hr2
    exact ⟨_, _, bind_tup (bindl_cons (bind_name st_nwd) (bindl_cons (bind_name st_nwd) bindl_nil)) rfl, at_drop (evx_build (i := 4) (st := t) (a := a) (b := b) rfl (evh_var rfl rd_sn) (evh_var rfl rd_sn) A1.ok hr2.1.1 (by omega) hr2.2.1.1 (by omega) hr2.2.2 (by omega)) (at_lpD ⟨addS t (a, b), sn K B (.int a), sn K B (.int b), nts_fz, nts_fz, A2, rfl⟩)⟩
  case e3 =>
  rintro ρ' ⟨t, s6, s7, n6, n7, A1, rfl⟩
  have okt := A1.ok
  have tm : t.many = n := by rw [A1.many, many]
  have th : t.held.map (·.2) = pairs ++ X := by rw [A1.held, hps]
  have tl2 : t.held.length ≤ 60 := okt.few
  have hw : wholeB t = true := by
    rw [whole_cond okt th, tm]
    rw [many, hps] at FW
    rw [FW.2.2, FW.2.1]
    rfl
  have W := by
    have hw2 := hw
    unfold wholeB at hw2
    rw [Bool.and_eq_true, decide_eq_true_eq, decide_eq_true_eq] at hw2
    exact whole_i okt.lo (tok_in okt) okt.keys hw2.1 hw2.2
  obtain ⟨G1, G2⟩ := good_ways okt W
  have no1 := no_one okt hw
  clear FW wl flen
  refine q_set K (d := .list ((waysF t.many t.held).map rowD)) (EvO1.nw (eo1_oneway (ea_cons st_isTown (evh_mt (i := 4) rfl) ea_nil) okt hw)) ?f0
  generalize hw0 : waysF t.many t.held = w0 at G1 G2
  have w0l : w0.length ≤ 60 := by have := congrArg List.length G1.keys; rw [List.length_map, List.length_map] at this; omega
  refine q_whenJ (fun ρ' => ∃ ways s9, GoodW t ways ∧ NtS s9 ∧ ρ' = R7 K B C T ns sd n pairs t s5 s6 s7 (sn K B (.list (ways.map rowD))) s9 .no .no .no .no .no .no .no) (c := decide (mixedF sd 3 % 2 = 1)) ?f1 (fun hc N hN => ?f2) (fun _ => ⟨w0, .no, G1, nts_no, rfl⟩) ?f3
  case f1 => walk_at "ev" <;> walk_at "num"
  case f2 =>
    refine at_set (K := K) (i := 8) (d := .list ((w0.map turnR).map rowD)) ?g1 (hN _ ⟨w0.map turnR, .no, G2, nts_no, rfl⟩)
    rw [List.map_map]
    refine EvM.nw (evm_lc1 (xs := w0) (e := rowD) (q := nwd K B) _ (evj_list (ev_var rfl)) (fun F1 r hr => ⟨_, _, bind_tup (bindl_cons (bind_name st_nwd) (bindl_cons (bind_name st_nwd) (bindl_cons (bind_name st_nwd) bindl_nil))) rfl, by decide, ?_⟩) (by omega))
    obtain ⟨a, b, c⟩ := r
    exact ev_tup (ds := [.int a, .int c, .int b]) (eas_cons (ev_var rfl) (eas_cons (ev_var rfl) (eas_cons (ev_var rfl) eas_nil))) (by simp)
  case f3 =>
  rintro ρ' ⟨ways, s9, G, n9, rfl⟩
  clear G1 G2 hw0 w0l
  have wkl := congrArg List.length G.keys
  rw [List.length_map, List.length_map] at wkl
  have RW := round_ok G.con
  have rl := RW.len
  have rnd : ∀ {F0 : Hp} {E : XK} {s10 s11 s12 s13 s14 s15 s16 : Sl}, EvO1 K B F0 (R7 K B C T ns sd n pairs t s5 s6 s7 (sn K B (.list (ways.map rowD))) s9 s10 s11 s12 s13 s14 s15 s16) (tCall (spRound K C C_BadWays) [] E (tCons (tVar 4) (tCons (tVar 8) tNil))) (.list ((roundF ways).map rowD)) := fun {F0 E s10 s11 s12 s13 s14 s15 s16} => eo_round okt G (i := 4) rfl (evh_var (i := 8) rfl rd_sn)
  generalize hRW : roundF ways = RR at RW rl rnd
  refine q_set K (d := .list (ways.map rowD)) (EvM.nw (evm_listL (evh_var (i := 8) rfl rd_sn) (flatDs_map (fun _ => rfl) _))) (q_setM K (ds := RR.map rowD) (evm_flatO rnd (flatDs_map (fun _ => rfl) _)) ?h0)
  refine q_when (c := false) (et_is (et_or (a := false) (c := false) (et_is (et_not (et_B (K := K) (Ev.hd (ev_isa (n := "list") (d := .list (RR.map rowD)) (evh_var (i := 11) rfl rd_ml) (by decide))))) (by rw [isaL]; rfl)) fun _ => et_or (a := false) (c := false) (et_is (et_not (et_B (K := K) (Ev.hd (ev_call (α := List Row × List Row) (ways, RR) ⟨RW, by dsimp only; omega⟩ (ea_cons st_dat (evh_var (i := 8) rfl rd_sn) (ea_cons st_dat (evh_var (i := 11) rfl rd_ml) ea_nil)))))) rfl) fun _ => et_is (et_test (K := K) (Ev.hd (ev_neD (d := .list (ways.map rowD)) (e := .list (ways.map rowD)) (evh_var (i := 8) rfl rd_sn) (evh_var (i := 10) rfl rd_sn) (ok60_rows.shaped (by decide)) (ok60_rows.shaped (by decide))))) (by rw [eqv_same ok60_rows]; rfl)) rfl) (fun z => nomatch z) fun _ => ?h1
  refine q_set K (d := .list (RR.map rowD)) (EvM.nw (evm_listL (evh_var (i := 11) rfl rd_ml) (flatDs_map (fun _ => rfl) _))) (q_drop (evx_append (i := 11) rfl ev_str (by rw [List.length_map]; omega)) ?h2)
  refine q_when (c := false) (et_is (et_test (K := K) (Ev.hd (ev_neD (d := .list (RR.map rowD)) (e := .list (RR.map rowD)) (Ev.hd (EvO1.nw rnd)) (evh_var (i := 12) rfl rd_sn) (ok60_rows.shaped (by decide)) (ok60_rows.shaped (by decide))))) (by rw [eqv_same ok60_rows]; rfl)) (fun z => nomatch z) fun _ => ?h3
  have m4 := mixedF_pos sd 4
  refine q_set K (d := .int (mixedF sd 4)) ?i1 ?i2
  case i1 => walk_at "ev" <;> walk_at "num"
  case i2 =>
  generalize mixedF sd 4 = num at m4
  have o0 := Int.emod_nonneg num (show (8 : Int) ≠ 0 by decide)
  have o1 := Int.emod_lt_of_pos num (show (0 : Int) < 8 by decide)
  have hsx : ∀ g ∈ List.replicate 8 (oddQ K t), Stab g := fun g hg => by rw [List.eq_of_mem_replicate hg]; exact st_oddQ
  refine q_setF (f := oddQ K t) st_oddQ (ev_pickF (K := K) (i := num % 8) (fs := List.replicate 8 (oddQ K t)) ?j1 hsx (by rw [List.length_replicate]; decide) (Ev.hd (ev_ci (c := num % 8) (evh_var (i := 13) rfl rd_sn) (Ev.hd ev_int) (by walk_at "num") rfl)) o0 (by rw [List.getElem?_replicate, if_pos (by omega)])) ?j2
  case j1 =>
    refine efs_cons st_oddQ (ev_oddD ev_non rfl) (efs_cons st_oddQ (ev_oddD ev_int rfl) (efs_cons st_oddQ (ev_oddN (ev_dnew (K := K))) (efs_cons st_oddQ (ev_oddD ev_str rfl) (efs_cons st_oddQ (ev_oddD (ev_tupleL (ev_var (i := 8) rfl)) rfl) (efs_cons st_oddQ (ev_oddD (EvM.nw (evm_catN (Ev.n (ev_var (i := 8) rfl)) (EvM.n (evm_lst (eas_cons (ev_tup (eas_cons ev_int (eas_cons ev_int (eas_cons ev_int eas_nil))) (by simp)) eas_nil) (by simp))) (by rw [List.length_map]; simp; omega))) ?k1) (efs_cons st_oddQ (ev_oddD (EvM.nw (evm_lst (eas_cons ev_non eas_nil) (by simp))) ?k2) (efs_cons st_oddQ (ev_oddD (EvM.nw (evm_lst (eas_cons (ev_var (i := 8) rfl) eas_nil) (by simp))) ?k3) efs_nil)))))))
    case k1 => exact bad_len (by rw [List.length_append, List.length_map]; simp; omega)
    case k2 => exact bad_head fun s l _ => rfl
    case k3 => exact bad_head fun s l _ => rfl
  case j2 =>
  refine q_whenX (ρ1 := R7 K B C T ns sd n pairs t s5 s6 s7 (sn K B (.list (ways.map rowD))) s9 (sn K B (.list (ways.map rowD))) (ml K B (RR.map rowD ++ [PyData.str (Str.ofString "more")])) (sn K B (.list (RR.map rowD))) (sn K B (.int num)) (.fz (oddQ K t)) .no .no) (c := false) (ext_wordNe WW rfl (by decide +kernel) rfl nB (nt7 n5 n6 n7 nts_fz n9 nts_fz (nts_mo nt_ml) nts_fz nts_fz nts_fz nts_no nts_no) (evr_odd okt (i := 4) (j := 14) rfl rfl)) (fun z => nomatch z) fun _ => ?l1
  refine q_when (c := decide (ways = [])) ?m1 (fun _ => at_ret (K := K) (d := .bool true) ev_bl fun v H' _ p => by cases p; exact q H') (fun hne => ?m2)
  case m1 =>
    have e0 : (ways.map rowD).isEmpty = decide (ways = []) := by cases ways <;> simp
    rw [← e0]
    exact et_test (K := K) (Ev.hd (ev_eqNil (evh_var (i := 8) rfl rd_sn) ok60_rows))
  case m2 =>
  have hne2 : ways ≠ [] := by simpa using hne
  have hpos : 0 < ways.length := List.length_pos_iff.mpr hne2
  have a0 := Int.emod_nonneg (num / 8) (show (ways.length : Int) ≠ 0 by omega)
  have a1 := Int.emod_lt_of_pos (num / 8) (show (0 : Int) < (ways.length : Int) by omega)
  refine q_set K (d := .int (num / 8 % (ways.length : Int))) ?n1 ?n2
  case n1 =>
    have h := ev_lenL (K := K) (B := B) (F0 := B) (ρ := R7 K B C T ns sd n pairs t s5 s6 s7 (sn K B (.list (ways.map rowD))) s9 (sn K B (.list (ways.map rowD))) (ml K B (RR.map rowD ++ [PyData.str (Str.ofString "more")])) (sn K B (.list (RR.map rowD))) (sn K B (.int num)) (.fz (oddQ K t)) .no .no) (te := tVar 8) (ds := ways.map rowD) (evh_var rfl rd_sn)
    rw [List.length_map] at h
    exact ev_ci (c := num / 8 % (ways.length : Int)) (Ev.hd (ev_ci (c := num / 8) (evh_var (i := 13) rfl rd_sn) (Ev.hd ev_int) (by walk_at "num") rfl)) (Ev.hd h) (by walk_at "num") rfl
  case n2 =>
  generalize num / 8 % (ways.length : Int) = at_ at a0 a1
  refine q_set K (d := .list ((ways.take at_.toNat ++ ways.drop (at_ + 1).toNat).map rowD)) ?o1 ?o2
  case o1 =>
    rw [List.map_append]
    refine EvM.nw (evm_catN (EvM.n ?p1) (EvM.n ?p2) (by rw [List.length_map, List.length_map, List.length_take, List.length_drop]; omega))
    case p1 =>
      rw [← cut_take rowD ways a0]
      exact evm_slice (evh_var (i := 8) rfl rd_sn) (flatDs_map (fun _ => rfl) _) eo_none (eo_some (evh_var (i := 15) rfl rd_sn))
    case p2 =>
      rw [← cut_drop rowD ways (show 0 ≤ at_ + 1 by omega)]
      exact evm_slice (evh_var (i := 8) rfl rd_sn) (flatDs_map (fun _ => rfl) _) (eo_some (Ev.hd (ev_ii (evh_var (i := 15) rfl rd_sn) (Ev.hd ev_int) rfl))) eo_none
  case o2 =>
  have bl : oneB t (some (.list ((ways.take at_.toNat ++ ways.drop (at_ + 1).toNat).map rowD))) = false := bad_len (by rw [List.length_map, List.length_append, List.length_take, List.length_drop]; omega)
  have br : oneB t (some (.list ((ways.map rowD).reverse))) = false := by
    rw [← List.map_reverse]
    exact bad_rev okt G (by omega)
  generalize ways.take at_.toNat ++ ways.drop (at_ + 1).toNat = less at bl
  have nt := nt7 (K := K) (B := B) (C := C) (T := T) (ns := ns) (sd := sd) (n := n) (pairs := pairs) (st := t) n5 n6 n7 (nts_fz (f := nwd K B (.list (ways.map rowD)))) n9 (nts_fz (f := nwd K B (.list (ways.map rowD)))) (nts_mo (nt_ml (K := K) (B := B) (ds := RR.map rowD ++ [PyData.str (Str.ofString "more")]))) (nts_fz (f := nwd K B (.list (RR.map rowD)))) (nts_fz (f := nwd K B (.int num))) (nts_fz (f := oddQ K t)) (nts_fz (f := nwd K B (.int at_))) (nts_fz (f := nwd K B (.list (less.map rowD))))
  refine q_whenX (ρ1 := R7 K B C T ns sd n pairs t s5 s6 s7 (sn K B (.list (ways.map rowD))) s9 (sn K B (.list (ways.map rowD))) (ml K B (RR.map rowD ++ [PyData.str (Str.ofString "more")])) (sn K B (.list (RR.map rowD))) (sn K B (.int num)) (.fz (oddQ K t)) (sn K B (.int at_)) (sn K B (.list (less.map rowD)))) (c := false) (ext_wordNe WW rfl (by decide +kernel) rfl nB nt (evr_bad okt (i := 4) rfl (evh_var (i := 16) rfl rd_sn) bl)) (fun z => nomatch z) fun _ => ?q1
  refine q_whenX (ρ1 := R7 K B C T ns sd n pairs t s5 s6 s7 (sn K B (.list (ways.map rowD))) s9 (sn K B (.list (ways.map rowD))) (ml K B (RR.map rowD ++ [PyData.str (Str.ofString "more")])) (sn K B (.list (RR.map rowD))) (sn K B (.int num)) (.fz (oddQ K t)) (sn K B (.int at_)) (sn K B (.list (less.map rowD)))) (c := false) (ext_wordNe WW rfl (by decide +kernel) rfl nB nt (evr_bad okt (i := 4) rfl (Ev.hd (EvM.nw (evm_rev (evh_var (i := 8) rfl rd_sn) (flatDs_map (fun _ => rfl) _)))) br)) (fun z => nomatch z) fun _ => ?q2
  exact at_ret (K := K) (d := .bool true) (ev_is (ev_eqD (d := .list (RR.map rowD)) (e := .list (RR.map rowD)) (Ev.hd (EvO1.nw rnd)) (evh_var (i := 12) rfl rd_sn) (ok60_rows.shaped (by decide)) (ok60_rows.shaped (by decide))) (by rw [eqv_same ok60_rows])) fun v H' _ p => by cases p; exact q H'
end

/-- a code object's fields: its table is P -/
def codeV (vs : Array Value) (P : Addr) : Bool := (match (vs[11]? : Option Value) with | some (.ref q) => q == P | _ => false) && (match vs.getD 18 .none with | .str _ _ => true | _ => false) && (match vs.getD 7 .none with | .int _ _ => true | _ => false) &&
  (match vs.getD 9 .none with | .bool _ => true | _ => false) && (match vs.getD 10 .none with | .int _ _ => true | _ => false)
theorem codeV_hd {h : Heap} {K : PySem.W.Frag} {c P : Addr} {vs : Array Value} {dd : Option Addr} {sl : Array (Option Value)} (X : K.In h) (hk : K.lookup c = some ⟨.type "code", dd, .fields vs, sl⟩) (e : codeV vs P = true) (hne : c ≠ P) : PySem.W.CodeHd h c P ∧ vs[11]? = some (.ref P) := by
  unfold codeV at e
  simp only [Bool.and_eq_true] at e
  obtain ⟨⟨⟨⟨e1, e2⟩, e3⟩, e4⟩, e5⟩ := e
  have h11 : vs[11]? = some (.ref P) := by
    split at e1
    · rename_i q h11
      rw [h11, beq_iff_eq.mp e1]
    · cases e1
  split at e2
  · rename_i f tf h18
    split at e3
    · rename_i fl tg h7
      split at e4
      · rename_i b h9
        split at e5
        · rename_i m tt h10
          exact ⟨⟨_, vs, f, tf, fl, tg, b, m, tt, X _ _ hk, rfl, rfl, h11, by rw [Array.getD_eq_getD_getElem?, h11]; rfl, h18, h7, h9, h10, hne⟩, h11⟩
        · cases e5
      · cases e4
    · cases e3
  · cases e2
/-- a code object, its table empty -/
structure CodeT (K : PySem.W.Frag) (h : Heap) (c P : Addr) : Prop where
  hd : PySem.W.CodeHd h c P
  no : K.lookup P = none
  at_ : h.get? P = some { cls := .none, data := .fields #[] }
theorem codeT_mk {K : PySem.W.Frag} {h : Heap} {c P : Addr} {ts : List Addr} {vs : Array Value} {dd : Option Addr} {sl : Array (Option Value)} (X : K.In h) (hT : ∀ P ∈ ts, h.get? P = some (PySem.W.tabObj #[])) (hk : K.lookup c = some ⟨.type "code", dd, .fields vs, sl⟩) (_h11 : vs[11]? = some (.ref P)) (hv : codeV vs P = true) (nP : K.lookup P = none) (m : P ∈ ts) : CodeT K h c P :=
  ⟨(codeV_hd X hk hv (fun z => by rw [← z, hk] at nP; cases nP)).1, nP, hT P m⟩
theorem dfnc_mk {K : PySem.W.Frag} {h : Heap} {mg : Str → Option Value} {x qual : Str} {st : Stmt} {ps : List Str} {f c : Addr} {oc kV dc pm ct : Value} {od an : Option Addr} {sl : Array (Option Value)} (X : K.In h) (G : h.Ns mainGlobals mg) (a : PySem.W.nsIn K mainGlobals x = some (some (.ref f)))
    (l : K.lookup f = some ⟨oc, od, .func (PySem.W.fnOf x qual (defArgs st) (defBody st) (defScope st) .none kV dc pm an (.ref c) ct), sl⟩) (cd : PySem.W.codeIn K (.ref c) qual = true) (k : PySem.W.keepIn K (.ref f) = true)
    (b : ∀ (kV doc pm : Value) (an : Option Addr) (cdv ct : Value) (us : List Value), us.length = ps.length → bindArgs (PySem.W.fnOf x qual (defArgs st) (defBody st) (defScope st) .none kV doc pm an cdv ct) ⟨us, []⟩ = pure (ps.zip us)) : DfnC K mg x qual c st ps :=
  have F := fun_mk (st := st) l cd k
  ⟨f, _, ⟨⟨oc, od, kV, dc, pm, an, ct, sl, rfl, l, cd⟩, k⟩, PySem.W.mg_of X G a, F.binds b⟩
theorem law_endTs {l : PySem.W.OpenLaw} {K : PySem.W.Frag} {w : World} {mg : Str → Option Value} {fa c TP : Addr} {h : Heap} {st : Stmt} {cs : List (Addr × Addr)} {T : List (Addr × Str)} (hmg : mg "law" = some (.ref fa)) (D : DfnC K mg "law" "law" c st ["_law_script"]) (hc : ∀ p ∈ cs, CodeT K h p.1 p.2) (hTT : ∀ p ∈ T, ∃ q ∈ cs, q.2 = p.1)
    (hb : ∀ (kV doc pm : Value) (an : Option Addr) (cdv ct : Value) (s : Shared) (u : Value), BindsTo s (PySem.W.fnOf "law" "law" (defArgs st) (defBody st) (defScope st) .none kV doc pm an cdv ct) ⟨[u], []⟩ [("_law_script", u)])
    (ok : ∀ (base : Heap) (f : Addr) (fd : FuncData), (∀ p ∈ cs, LamX.TabB base mg p.1 p.2) → LawC K f c TP st fd → FnOk l.prog w K mg base CX0 12 f fd ["_law_script"] (spLawTs K T)) : LamX.LawAtS l w K CX0 12 63 "_law_script" mg fa h := by
  obtain ⟨f, fd, F, hg, _⟩ := D.ex
  rw [hmg] at hg
  cases hg
  refine ⟨fd, cs, spLawTs K T, fun p hp => (hc p hp).at_, fun p hp => (hc p hp).no, fun p hp => (hc p hp).hd, fun s u => ?_, fun H a ns hl _ hT hS => ⟨a, ns, rfl, hS, hl, fun p hp => ?_, fun _ => rfl⟩, fun base _ _ tb => ok base fa fd tb ⟨F.ex⟩⟩
  · obtain ⟨oc, od, kV, doc, pm, an, ct, osl, rfl, _, _⟩ := F.ex
    exact hb _ _ _ _ _ _ s u
  · obtain ⟨q, hq, e⟩ := hTT p hp
    rw [← e]
    exact hT q hq
theorem walkTs {l : PySem.W.OpenLaw} {q : Program} {loose : List Str} {XP : (Str → Option Value) → Heap → Prop} {YP : World → Heap → Prop} {d : DefRec} {K : Params → PySem.W.Frag} (hn : l.most = some 63) (hdf : d.params.defaults = [])
    (hY : ∀ (w : World) (h : Heap), YP w h → (K w.params).In h)
    (F : ∀ (w : World) (mg : Str → Option Value) (fa : Addr) (h : Heap), YP w h → (K w.params).In h → h.Ns mainGlobals mg → mg d.name = some (.ref fa) → LamX.LawAtS l w (K w.params) CX0 12 63 "_law_script" mg fa h) :
    PySem.W.WalkO q loose XP YP l.row.toRowW d [] (fun f vs => PySem.call f vs) :=
  LamX.walk_ofTs (n := 63) (k := 12) (x := "_law_script") (CX := fun _ => CX0) hn (by decide) hdf ⟨rfl, by decide, by decide⟩ hY F fun _ _ _ _ _ z => z
/-- the code object of such a def -/
abbrev cOf {K : PySem.W.Frag} {mg : Str → Option Value} {x qual : Str} {c : Addr} {st : Stmt} {ps : List Str} (_ : DfnC K mg x qual c st ps) : Addr := c
abbrev tOf {K : PySem.W.Frag} {h : Heap} {c P : Addr} (_ : CodeT K h c P) : Addr := P
theorem all1 {α : Type} {p : α → Prop} {a : α} (h : p a) : ∀ x ∈ [a], p x := fun x hx => by rw [List.mem_singleton.mp hx]; exact h
theorem allC {α : Type} {p : α → Prop} {a : α} {l : List α} (h : p a) (r : ∀ x ∈ l, p x) : ∀ x ∈ a :: l, p x := fun x hx => by
  rcases List.mem_cons.mp hx with rfl | hx
  · exact h
  · exact r x hx

end Lay
open PySem PySem.W PyProof.Rows
set_option maxRecDepth 100000 in
set_option maxHeartbeats 0 in
theorem PySem.Challenge.cw_onewaytown_k07_whole_rounds_holds : PySem.Challenge.rw_onewaytown_k07_whole_rounds.Holds := by
  w_on; o_law; k_head; (case hw => w_witness2)
  k_fill
  refine Lay.walkTs (l := PySem.Challenge.rw_onewaytown_k07_whole_rounds) rfl rfl (fun w h Y => PySem.W.km_in_of Y) ?F
  case F =>
    intro w mg fa h Y KX G hmg
    refine' Lay.with_cls (x := "Town") KX G ?aCTown ?rTown
    (case aCTown => k_is)
    intro gTown
    refine' Lay.with_cls (x := "BadCount") KX G ?aCBadCount ?rBadCount
    (case aCBadCount => k_is)
    intro gBadCount
    refine' Lay.with_cls (x := "BadPlace") KX G ?aCBadPlace ?rBadPlace
    (case aCBadPlace => k_is)
    intro gBadPlace
    refine' Lay.with_cls (x := "BadStreet") KX G ?aCBadStreet ?rBadStreet
    (case aCBadStreet => k_is)
    intro gBadStreet
    refine' Lay.with_cls (x := "TooMany") KX G ?aCTooMany ?rTooMany
    (case aCTooMany => k_is)
    intro gTooMany
    refine' Lay.with_cls (x := "Parted") KX G ?aCParted ?rParted
    (case aCParted => k_is)
    intro gParted
    refine' Lay.with_cls (x := "BadWays") KX G ?aCBadWays ?rBadWays
    (case aCBadWays => k_is)
    intro gBadWays
    refine' Lay.with_cls (x := "BadText") KX G ?aCBadText ?rBadText
    (case aCBadText => k_is)
    intro gBadText
    refine' Lay.with_cls (x := "TownError") KX G ?aCTownError ?rTownError
    (case aCTownError => k_is)
    intro gTownError
    refine' Lay.cps (⟨Lay.none_mk KX G ?z0_Z, Lay.none_mk KX G ?z1_Z, Lay.none_mk KX G ?z2_Z, Lay.none_mk KX G ?z3_Z, Lay.none_mk KX G ?z4_Z, Lay.none_mk KX G ?z5_Z, Lay.none_mk KX G ?z6_Z, Lay.none_mk KX G ?z7_Z, Lay.none_mk KX G ?z8_Z, Lay.none_mk KX G ?z9_Z, Lay.none_mk KX G ?z10_Z, Lay.none_mk KX G ?z11_Z, Lay.none_mk KX G ?z12_Z, Lay.none_mk KX G ?z13_Z, Lay.none_mk KX G ?z14_Z, Lay.none_mk KX G ?z15_Z, Lay.none_mk KX G ?z16_Z⟩ : Lay.Zs mg) ?r_Z
    (case z0_Z => k_is); (case z1_Z => k_is); (case z2_Z => k_is); (case z3_Z => k_is); (case z4_Z => k_is); (case z5_Z => k_is); (case z6_Z => k_is); (case z7_Z => k_is); (case z8_Z => k_is); (case z9_Z => k_is); (case z10_Z => k_is); (case z11_Z => k_is); (case z12_Z => k_is); (case z13_Z => k_is); (case z14_Z => k_is); (case z15_Z => k_is); (case z16_Z => k_is)
    intro Z
    refine' Lay.cps (Lay.cls_mk KX gTown ?pg_T ?hd_T ?po_T ?sa_T) ?r_T
    (case pg_T => k_is); (case hd_T => k_is); (case po_T => k_is); (case sa_T => k_is)
    intro Tcl
    refine' Lay.cps (Lay.noattr_mk (m := "many") KX gTown ?aM_T) ?rM_T
    (case aM_T => k_is)
    intro TnM
    refine' Lay.cps (Lay.noattr_mk (m := "built") KX gTown ?aB_T) ?rB_T
    (case aB_T => k_is)
    intro TnB
    refine' Lay.cps (Lay.noattr_mk (m := "held") KX gTown ?aH_T) ?rH_T
    (case aH_T => k_is)
    intro TnH
    refine' Lay.cps (Lay.int_mk (x := "MOST_PLACES") (n := 16) KX G ?aP_T) ?rP_T
    (case aP_T => k_is)
    intro TcP
    refine' Lay.cps (Lay.int_mk (x := "MOST_STREETS") (n := 60) KX G ?aS_T) ?rS_T
    (case aS_T => k_is)
    intro TcS
    refine' Lay.cps (Lay.TownTxt.mk Tcl TnM TnB TnH gTown TcP TcS) ?rT_T
    intro T
    refine' Lay.cps (Lay.xcls_mk KX gBadCount ?x_XBadCount ?k_XBadCount ?b_XBadCount ?t_XBadCount) ?r_XBadCount
    (case x_XBadCount => k_exc); (case k_XBadCount => k_is); (case b_XBadCount => k_is); (case t_XBadCount => k_is)
    intro X_BadCount
    refine' Lay.cps (Lay.xcls_mk KX gBadPlace ?x_XBadPlace ?k_XBadPlace ?b_XBadPlace ?t_XBadPlace) ?r_XBadPlace
    (case x_XBadPlace => k_exc); (case k_XBadPlace => k_is); (case b_XBadPlace => k_is); (case t_XBadPlace => k_is)
    intro X_BadPlace
    refine' Lay.cps (Lay.xcls_mk KX gBadStreet ?x_XBadStreet ?k_XBadStreet ?b_XBadStreet ?t_XBadStreet) ?r_XBadStreet
    (case x_XBadStreet => k_exc); (case k_XBadStreet => k_is); (case b_XBadStreet => k_is); (case t_XBadStreet => k_is)
    intro X_BadStreet
    refine' Lay.cps (Lay.xcls_mk KX gTooMany ?x_XTooMany ?k_XTooMany ?b_XTooMany ?t_XTooMany) ?r_XTooMany
    (case x_XTooMany => k_exc); (case k_XTooMany => k_is); (case b_XTooMany => k_is); (case t_XTooMany => k_is)
    intro X_TooMany
    refine' Lay.cps (Lay.xcls_mk KX gBadWays ?x_XBadWays ?k_XBadWays ?b_XBadWays ?t_XBadWays) ?r_XBadWays
    (case x_XBadWays => k_exc); (case k_XBadWays => k_is); (case b_XBadWays => k_is); (case t_XBadWays => k_is)
    intro X_BadWays
    refine' Lay.cps (Lay.none_mk (x := "ValueError") KX G ?zV) ?rV
    (case zV => k_is)
    intro zVE
    refine' Lay.cps (Lay.wordC_mk (nm := "BadWays") (b1 := false) (b2 := false) (b3 := false) (b4 := false) (b5 := false) (b6 := true) (b7 := false) KX gTownError gBadWays gBadCount gBadPlace gBadStreet gTooMany gParted gBadWays gBadText ?e1_WBadWays ?e2_WBadWays ?e3_WBadWays ?e4_WBadWays ?e5_WBadWays ?e6_WBadWays ?e7_WBadWays ?e8_WBadWays ?m_WBadWays ?v_WBadWays ?k1_WBadWays ?k2_WBadWays ?k3_WBadWays ?k4_WBadWays ?k5_WBadWays ?k6_WBadWays ?k7_WBadWays) ?r_WBadWays
    (case e1_WBadWays => k_is); (case e2_WBadWays => k_is); (case e3_WBadWays => k_is); (case e4_WBadWays => k_is); (case e5_WBadWays => k_is); (case e6_WBadWays => k_is); (case e7_WBadWays => k_is); (case e8_WBadWays => k_is); (case m_WBadWays => kts_exm); (case v_WBadWays => kit_is); (case k1_WBadWays => kit_is); (case k2_WBadWays => kit_is); (case k3_WBadWays => kit_is); (case k4_WBadWays => kit_is); (case k5_WBadWays => kit_is); (case k6_WBadWays => kit_is); (case k7_WBadWays => kit_is)
    intro WC_BadWays
    refine' Lay.cps (Lay.dfnc_mk (x := "law") (qual := "law") (st := Lay.s_law) (ps := ["_law_script"]) KX G ?a_Claw ?l_Claw ?c_Claw ?k_Claw (fun _ _ _ _ _ _ us hl => match us, hl with | [_], _ => rfl)) ?r_Claw
    (case a_Claw => k_is); (case l_Claw => k_is); (case c_Claw => k_is); (case k_Claw => k_is)
    intro D_law
    refine' Lay.cps (Lay.codeT_mk (c := Lay.cOf D_law) KX (PySem.W.km_tabs_of Y) ?hk_Claw ?h11_Claw ?hv_Claw ?nP_Claw ?mm_Claw) ?r2_Claw
    (case hk_Claw => k_is); (case h11_Claw => rfl); (case hv_Claw => rfl); (case nP_Claw => kernel_rfl); (case mm_Claw => decide)
    intro CT_law
    refine' Lay.cps (Lay.oexC_mk KX gParted ?cl_P ?rv_P ?sa_P ?ex_P ?ty_P ?kp_P) ?r_P
    (case cl_P => k_is); (case rv_P => decide +kernel); (case sa_P => k_is); (case ex_P => k_is); (case ty_P => k_is); (case kp_P => k_is)
    intro OP
    refine' Lay.cps (Lay.ptTxt_mk KX gParted gTownError OP ?a1_P ?a2_P ?a3_P ?a4_P ?a5_P ?a6_P ?a7_P ?a8_P ?a9_P ?a10_P) ?r2_P
    (case a1_P => k_is); (case a2_P => k_is); (case a3_P => k_is); (case a4_P => k_is); (case a5_P => k_is); (case a6_P => k_is); (case a7_P => k_is); (case a8_P => k_is); (case a9_P => k_is); (case a10_P => k_is)
    intro PT
    refine' Lay.cps (Lay.pifn_mk (st := Lay.s_Parted___init) KX gParted ?b1_P ?b2_P ?b3_P ?b4_P ?b5_P (fun _ _ _ _ _ _ us hl => match us, hl with | [_, _, _], _ => rfl)) ?r3_P
    (case b1_P => k_is); (case b2_P => k_is); (case b3_P => k_is); (case b4_P => k_is); (case b5_P => k_is)
    intro PF
    refine' Lay.cps (Lay.dfn_mk (x := "_law_mixed") (qual := "_law_mixed") (st := Lay.s_w_mixed) (ps := ["_law_cell", "_law_k"]) KX G ?a_D_law_mixed ?l_D_law_mixed ?c_D_law_mixed ?k_D_law_mixed (fun _ _ _ _ _ _ us hl => match us, hl with | [_, _], _ => rfl)) ?r_D_law_mixed
    (case a_D_law_mixed => k_is); (case l_D_law_mixed => k_is); (case c_D_law_mixed => k_is); (case k_D_law_mixed => k_is)
    intro D_w_mixed
    refine' Lay.cps (Lay.dfn_mk (x := "_law_seed") (qual := "_law_seed") (st := Lay.s_w_seed) (ps := ["_law_script"]) KX G ?a_D_law_seed ?l_D_law_seed ?c_D_law_seed ?k_D_law_seed (fun _ _ _ _ _ _ us hl => match us, hl with | [_], _ => rfl)) ?r_D_law_seed
    (case a_D_law_seed => k_is); (case l_D_law_seed => k_is); (case c_D_law_seed => k_is); (case k_D_law_seed => k_is)
    intro D_w_seed
    refine' Lay.cps (Lay.dfn_mk (x := "_law_many") (qual := "_law_many") (st := Lay.s_w_many) (ps := ["_law_seed_here", "_law_most"]) KX G ?a_D_law_many ?l_D_law_many ?c_D_law_many ?k_D_law_many (fun _ _ _ _ _ _ us hl => match us, hl with | [_, _], _ => rfl)) ?r_D_law_many
    (case a_D_law_many => k_is); (case l_D_law_many => k_is); (case c_D_law_many => k_is); (case k_D_law_many => k_is)
    intro D_w_many
    refine' Lay.cps (Lay.dfn_mk (x := "_law_ends") (qual := "_law_ends") (st := Lay.s_w_ends) (ps := ["_law_many_here", "_law_way", "_law_k", "_law_number"]) KX G ?a_D_law_ends ?l_D_law_ends ?c_D_law_ends ?k_D_law_ends (fun _ _ _ _ _ _ us hl => match us, hl with | [_, _, _, _], _ => rfl)) ?r_D_law_ends
    (case a_D_law_ends => k_is); (case l_D_law_ends => k_is); (case c_D_law_ends => k_is); (case k_D_law_ends => k_is)
    intro D_w_ends
    refine' Lay.cps (Lay.dfn_mk (x := "_law_pairs") (qual := "_law_pairs") (st := Lay.s_w_pairs) (ps := ["_law_script", "_law_seed_here", "_law_many_here", "_law_most"]) KX G ?a_D_law_pairs ?l_D_law_pairs ?c_D_law_pairs ?k_D_law_pairs (fun _ _ _ _ _ _ us hl => match us, hl with | [_, _, _, _], _ => rfl)) ?r_D_law_pairs
    (case a_D_law_pairs => k_is); (case l_D_law_pairs => k_is); (case c_D_law_pairs => k_is); (case k_D_law_pairs => k_is)
    intro D_w_pairs
    refine' Lay.cps (Lay.dfn_mk (x := "_law_made") (qual := "_law_made") (st := Lay.s_w_made) (ps := ["_law_many_here", "_law_pairs_here", "_law_seed_here"]) KX G ?a_D_law_made ?l_D_law_made ?c_D_law_made ?k_D_law_made (fun _ _ _ _ _ _ us hl => match us, hl with | [_, _, _], _ => rfl)) ?r_D_law_made
    (case a_D_law_made => k_is); (case l_D_law_made => k_is); (case c_D_law_made => k_is); (case k_D_law_made => k_is)
    intro D_w_made
    refine' Lay.cps (Lay.dfn_mk (x := "is_among") (qual := "is_among") (st := Lay.s_is_among) (ps := ["thing", "least", "most"]) KX G ?a_Dis_among ?l_Dis_among ?c_Dis_among ?k_Dis_among (fun _ _ _ _ _ _ us hl => match us, hl with | [_, _, _], _ => rfl)) ?r_Dis_among
    (case a_Dis_among => k_is); (case l_Dis_among => k_is); (case c_Dis_among => k_is); (case k_Dis_among => k_is)
    intro D_is_among
    refine' Lay.cps (Lay.mfn_mk (m := "places") (qual := "Town.places") (st := Lay.s_Town_places) (ps := ["self"]) KX gTown ?a_DTown_places ?i_DTown_places ?l_DTown_places ?c_DTown_places ?k_DTown_places (fun _ _ _ _ _ _ us hl => match us, hl with | [_], _ => rfl)) ?r_DTown_places
    (case a_DTown_places => k_is); (case i_DTown_places => k_is); (case l_DTown_places => k_is); (case c_DTown_places => k_is); (case k_DTown_places => k_is)
    intro D_Town_places
    refine' Lay.cps (Lay.mfn_mk (m := "streets") (qual := "Town.streets") (st := Lay.s_Town_streets) (ps := ["self"]) KX gTown ?a_DTown_streets ?i_DTown_streets ?l_DTown_streets ?c_DTown_streets ?k_DTown_streets (fun _ _ _ _ _ _ us hl => match us, hl with | [_], _ => rfl)) ?r_DTown_streets
    (case a_DTown_streets => k_is); (case i_DTown_streets => k_is); (case l_DTown_streets => k_is); (case c_DTown_streets => k_is); (case k_DTown_streets => k_is)
    intro D_Town_streets
    refine' Lay.cps (Lay.mfn_mk (m := "need_place") (qual := "Town.need_place") (st := Lay.s_Town_need_place) (ps := ["self", "thing"]) KX gTown ?a_DTown_need_place ?i_DTown_need_place ?l_DTown_need_place ?c_DTown_need_place ?k_DTown_need_place (fun _ _ _ _ _ _ us hl => match us, hl with | [_, _], _ => rfl)) ?r_DTown_need_place
    (case a_DTown_need_place => k_is); (case i_DTown_need_place => k_is); (case l_DTown_need_place => k_is); (case c_DTown_need_place => k_is); (case k_DTown_need_place => k_is)
    intro D_Town_need_place
    refine' Lay.cps (Lay.mfn_mk (m := "build") (qual := "Town.build") (st := Lay.s_Town_build) (ps := ["self", "one", "other"]) KX gTown ?a_DTown_build ?i_DTown_build ?l_DTown_build ?c_DTown_build ?k_DTown_build (fun _ _ _ _ _ _ us hl => match us, hl with | [_, _, _], _ => rfl)) ?r_DTown_build
    (case a_DTown_build => k_is); (case i_DTown_build => k_is); (case l_DTown_build => k_is); (case c_DTown_build => k_is); (case k_DTown_build => k_is)
    intro D_Town_build
    refine' Lay.cps (Lay.mfn_mk (m := "dig") (qual := "Town.dig") (st := Lay.s_Town_dig) (ps := ["self", "street"]) KX gTown ?a_DTown_dig ?i_DTown_dig ?l_DTown_dig ?c_DTown_dig ?k_DTown_dig (fun _ _ _ _ _ _ us hl => match us, hl with | [_, _], _ => rfl)) ?r_DTown_dig
    (case a_DTown_dig => k_is); (case i_DTown_dig => k_is); (case l_DTown_dig => k_is); (case c_DTown_dig => k_is); (case k_DTown_dig => k_is)
    intro D_Town_dig
    refine' Lay.cps (Lay.ifn_mk (qual := "Town.__init__") (st := Lay.s_Town___init) (ps := ["self", "many"]) KX gTown ?mk_DTown___init__ ?kc_DTown___init__ ?a_DTown___init__ ?i_DTown___init__ ?l_DTown___init__ ?c_DTown___init__ ?k_DTown___init__ (fun _ _ _ _ _ _ us hl => match us, hl with | [_, _], _ => rfl)) ?r_DTown___init__
    (case mk_DTown___init__ => k_is); (case kc_DTown___init__ => k_is); (case a_DTown___init__ => k_is); (case i_DTown___init__ => k_is); (case l_DTown___init__ => k_is); (case c_DTown___init__ => k_is); (case k_DTown___init__ => k_is)
    intro I_Town___init
    refine' Lay.cps (Lay.dfn_mk (x := "steps_of") (qual := "steps_of") (st := Lay.s_steps_of) (ps := ["town"]) KX G ?a_Dsteps_of ?l_Dsteps_of ?c_Dsteps_of ?k_Dsteps_of (fun _ _ _ _ _ _ us hl => match us, hl with | [_], _ => rfl)) ?r_Dsteps_of
    (case a_Dsteps_of => k_is); (case l_Dsteps_of => k_is); (case c_Dsteps_of => k_is); (case k_Dsteps_of => k_is)
    intro D_steps_of
    refine' Lay.cps (Lay.dfn_mk (x := "come_to") (qual := "come_to") (st := Lay.s_come_to) (ps := ["steps", "place", "gone"]) KX G ?a_Dcome_to ?l_Dcome_to ?c_Dcome_to ?k_Dcome_to (fun _ _ _ _ _ _ us hl => match us, hl with | [_, _, _], _ => rfl)) ?r_Dcome_to
    (case a_Dcome_to => k_is); (case l_Dcome_to => k_is); (case c_Dcome_to => k_is); (case k_Dcome_to => k_is)
    intro D_come_to
    refine' Lay.cps (Lay.dfn_mk (x := "parted_by") (qual := "parted_by") (st := Lay.s_parted_by) (ps := ["town", "gone"]) KX G ?a_Dparted_by ?l_Dparted_by ?c_Dparted_by ?k_Dparted_by (fun _ _ _ _ _ _ us hl => match us, hl with | [_, _], _ => rfl)) ?r_Dparted_by
    (case a_Dparted_by => k_is); (case l_Dparted_by => k_is); (case c_Dparted_by => k_is); (case k_Dparted_by => k_is)
    intro D_parted_by
    refine' Lay.cps (Lay.dfn_mk (x := "parts") (qual := "parts") (st := Lay.s_parts) (ps := ["town"]) KX G ?a_Dparts ?l_Dparts ?c_Dparts ?k_Dparts (fun _ _ _ _ _ _ us hl => match us, hl with | [_], _ => rfl)) ?r_Dparts
    (case a_Dparts => k_is); (case l_Dparts => k_is); (case c_Dparts => k_is); (case k_Dparts => k_is)
    intro D_parts
    refine' Lay.cps (Lay.dfn_mk (x := "parting") (qual := "parting") (st := Lay.s_parting) (ps := ["town"]) KX G ?a_Dparting ?l_Dparting ?c_Dparting ?k_Dparting (fun _ _ _ _ _ _ us hl => match us, hl with | [_], _ => rfl)) ?r_Dparting
    (case a_Dparting => k_is); (case l_Dparting => k_is); (case c_Dparting => k_is); (case k_Dparting => k_is)
    intro D_parting
    refine' Lay.cps (Lay.dfn_mk (x := "pieces") (qual := "pieces") (st := Lay.s_pieces) (ps := ["town"]) KX G ?a_Dpieces ?l_Dpieces ?c_Dpieces ?k_Dpieces (fun _ _ _ _ _ _ us hl => match us, hl with | [_], _ => rfl)) ?r_Dpieces
    (case a_Dpieces => k_is); (case l_Dpieces => k_is); (case c_Dpieces => k_is); (case k_Dpieces => k_is)
    intro D_pieces
    refine' Lay.cps (Lay.dfn_mk (x := "walked_back") (qual := "walked_back") (st := Lay.s_walked_back) (ps := ["steps", "first", "known", "used"]) KX G ?a_Dwalked_back ?l_Dwalked_back ?c_Dwalked_back ?k_Dwalked_back (fun _ _ _ _ _ _ us hl => match us, hl with | [_, _, _, _], _ => rfl)) ?r_Dwalked_back
    (case a_Dwalked_back => k_is); (case l_Dwalked_back => k_is); (case c_Dwalked_back => k_is); (case k_Dwalked_back => k_is)
    intro D_walked_back
    refine' Lay.cps (Lay.dfn_mk (x := "next_street") (qual := "next_street") (st := Lay.s_next_street) (ps := ["town", "known", "used"]) KX G ?a_Dnext_street ?l_Dnext_street ?c_Dnext_street ?k_Dnext_street (fun _ _ _ _ _ _ us hl => match us, hl with | [_, _, _], _ => rfl)) ?r_Dnext_street
    (case a_Dnext_street => k_is); (case l_Dnext_street => k_is); (case c_Dnext_street => k_is); (case k_Dnext_street => k_is)
    intro D_next_street
    refine' Lay.cps (Lay.dfn_mk (x := "handles_from") (qual := "handles_from") (st := Lay.s_handles_from) (ps := ["town", "place", "used"]) KX G ?a_Dhandles_from ?l_Dhandles_from ?c_Dhandles_from ?k_Dhandles_from (fun _ _ _ _ _ _ us hl => match us, hl with | [_, _, _], _ => rfl)) ?r_Dhandles_from
    (case a_Dhandles_from => k_is); (case l_Dhandles_from => k_is); (case c_Dhandles_from => k_is); (case k_Dhandles_from => k_is)
    intro D_handles_from
    refine' Lay.cps (Lay.dfn_mk (x := "handles") (qual := "handles") (st := Lay.s_handles) (ps := ["town"]) KX G ?a_Dhandles ?l_Dhandles ?c_Dhandles ?k_Dhandles (fun _ _ _ _ _ _ us hl => match us, hl with | [_], _ => rfl)) ?r_Dhandles
    (case a_Dhandles => k_is); (case l_Dhandles => k_is); (case c_Dhandles => k_is); (case k_Dhandles => k_is)
    intro D_handles
    refine' Lay.cps (Lay.dfn_mk (x := "one_way") (qual := "one_way") (st := Lay.s_one_way) (ps := ["town"]) KX G ?a_Done_way ?l_Done_way ?c_Done_way ?k_Done_way (fun _ _ _ _ _ _ us hl => match us, hl with | [_], _ => rfl)) ?r_Done_way
    (case a_Done_way => k_is); (case l_Done_way => k_is); (case c_Done_way => k_is); (case k_Done_way => k_is)
    intro D_one_way
    refine' Lay.cps (Lay.dfn_mk (x := "is_step") (qual := "is_step") (st := Lay.s_is_step) (ps := ["thing", "street"]) KX G ?a_Dis_step ?l_Dis_step ?c_Dis_step ?k_Dis_step (fun _ _ _ _ _ _ us hl => match us, hl with | [_, _], _ => rfl)) ?r_Dis_step
    (case a_Dis_step => k_is); (case l_Dis_step => k_is); (case c_Dis_step => k_is); (case k_Dis_step => k_is)
    intro D_is_step
    refine' Lay.cps (Lay.dfn_mk (x := "led_to") (qual := "led_to") (st := Lay.s_led_to) (ps := ["ways", "place"]) KX G ?a_Dled_to ?l_Dled_to ?c_Dled_to ?k_Dled_to (fun _ _ _ _ _ _ us hl => match us, hl with | [_, _], _ => rfl)) ?r_Dled_to
    (case a_Dled_to => k_is); (case l_Dled_to => k_is); (case c_Dled_to => k_is); (case k_Dled_to => k_is)
    intro D_led_to
    refine' Lay.cps (Lay.dfn_mk (x := "is_one_way") (qual := "is_one_way") (st := Lay.s_is_one_way) (ps := ["town", "thing"]) KX G ?a_Dis_one_way ?l_Dis_one_way ?c_Dis_one_way ?k_Dis_one_way (fun _ _ _ _ _ _ us hl => match us, hl with | [_, _], _ => rfl)) ?r_Dis_one_way
    (case a_Dis_one_way => k_is); (case l_Dis_one_way => k_is); (case c_Dis_one_way => k_is); (case k_Dis_one_way => k_is)
    intro D_is_one_way
    refine' Lay.cps (Lay.dfn_mk (x := "piece_of") (qual := "piece_of") (st := Lay.s_piece_of) (ps := ["some", "place"]) KX G ?a_Dpiece_of ?l_Dpiece_of ?c_Dpiece_of ?k_Dpiece_of (fun _ _ _ _ _ _ us hl => match us, hl with | [_, _], _ => rfl)) ?r_Dpiece_of
    (case a_Dpiece_of => k_is); (case l_Dpiece_of => k_is); (case c_Dpiece_of => k_is); (case k_Dpiece_of => k_is)
    intro D_piece_of
    refine' Lay.cps (Lay.dfn_mk (x := "wanting") (qual := "wanting") (st := Lay.s_wanting) (ps := ["ties", "numbers"]) KX G ?a_Dwanting ?l_Dwanting ?c_Dwanting ?k_Dwanting (fun _ _ _ _ _ _ us hl => match us, hl with | [_, _], _ => rfl)) ?r_Dwanting
    (case a_Dwanting => k_is); (case l_Dwanting => k_is); (case c_Dwanting => k_is); (case k_Dwanting => k_is)
    intro D_wanting
    refine' Lay.cps (Lay.dfn_mk (x := "leaves_of") (qual := "leaves_of") (st := Lay.s_leaves_of) (ps := ["ties"]) KX G ?a_Dleaves_of ?l_Dleaves_of ?c_Dleaves_of ?k_Dleaves_of (fun _ _ _ _ _ _ us hl => match us, hl with | [_], _ => rfl)) ?r_Dleaves_of
    (case a_Dleaves_of => k_is); (case l_Dleaves_of => k_is); (case c_Dleaves_of => k_is); (case k_Dleaves_of => k_is)
    intro D_leaves_of
    refine' Lay.cps (Lay.dfn_mk (x := "ties_of") (qual := "ties_of") (st := Lay.s_ties_of) (ps := ["town", "some"]) KX G ?a_Dties_of ?l_Dties_of ?c_Dties_of ?k_Dties_of (fun _ _ _ _ _ _ us hl => match us, hl with | [_, _], _ => rfl)) ?r_Dties_of
    (case a_Dties_of => k_is); (case l_Dties_of => k_is); (case c_Dties_of => k_is); (case k_Dties_of => k_is)
    intro D_ties_of
    refine' Lay.cps (Lay.dfn_mk (x := "tied_together") (qual := "tied_together") (st := Lay.s_tied_together) (ps := ["town", "some", "ties"]) KX G ?a_Dtied_together ?l_Dtied_together ?c_Dtied_together ?k_Dtied_together (fun _ _ _ _ _ _ us hl => match us, hl with | [_, _, _], _ => rfl)) ?r_Dtied_together
    (case a_Dtied_together => k_is); (case l_Dtied_together => k_is); (case c_Dtied_together => k_is); (case k_Dtied_together => k_is)
    intro D_tied_together
    refine' Lay.cps (Lay.dfn_mk (x := "fewest") (qual := "fewest") (st := Lay.s_fewest) (ps := ["town"]) KX G ?a_Dfewest ?l_Dfewest ?c_Dfewest ?k_Dfewest (fun _ _ _ _ _ _ us hl => match us, hl with | [_], _ => rfl)) ?r_Dfewest
    (case a_Dfewest => k_is); (case l_Dfewest => k_is); (case c_Dfewest => k_is); (case k_Dfewest => k_is)
    intro D_fewest
    refine' Lay.cps (Lay.dfn_mk (x := "way_on") (qual := "way_on") (st := Lay.s_way_on) (ps := ["ways", "first", "last"]) KX G ?a_Dway_on ?l_Dway_on ?c_Dway_on ?k_Dway_on (fun _ _ _ _ _ _ us hl => match us, hl with | [_, _, _], _ => rfl)) ?r_Dway_on
    (case a_Dway_on => k_is); (case l_Dway_on => k_is); (case c_Dway_on => k_is); (case k_Dway_on => k_is)
    intro D_way_on
    refine' Lay.cps (Lay.dfn_mk (x := "round_trip") (qual := "round_trip") (st := Lay.s_round_trip) (ps := ["town", "ways"]) KX G ?a_Dround_trip ?l_Dround_trip ?c_Dround_trip ?k_Dround_trip (fun _ _ _ _ _ _ us hl => match us, hl with | [_, _], _ => rfl)) ?r_Dround_trip
    (case a_Dround_trip => k_is); (case l_Dround_trip => k_is); (case c_Dround_trip => k_is); (case k_Dround_trip => k_is)
    intro D_round_trip
    refine' Lay.cps (Lay.dfn_mk (x := "_law_walked") (qual := "_law_walked") (st := Lay.s_w_walked) (ps := ["_law_ways", "_law_steps"]) KX G ?a_D_law_walked ?l_D_law_walked ?c_D_law_walked ?k_D_law_walked (fun _ _ _ _ _ _ us hl => match us, hl with | [_, _], _ => rfl)) ?r_D_law_walked
    (case a_D_law_walked => k_is); (case l_D_law_walked => k_is); (case c_D_law_walked => k_is); (case k_D_law_walked => k_is)
    intro D_w_walked
    refine' Lay.cps (Lay.dfn_mk (x := "_law_word") (qual := "_law_word") (st := Lay.s_w_word) (ps := ["_law_deed"]) KX G ?a_D_law_word ?l_D_law_word ?c_D_law_word ?k_D_law_word (fun _ _ _ _ _ _ us hl => match us, hl with | [_], _ => rfl)) ?r_D_law_word
    (case a_D_law_word => k_is); (case l_D_law_word => k_is); (case c_D_law_word => k_is); (case k_D_law_word => k_is)
    intro D_w_word
    refine' Lay.law_endTs (cs := [(Lay.cOf D_law, Lay.tOf CT_law)]) (T := [(Lay.tOf CT_law, Lay.lamN "law" Lay.s_law)]) (TP := Lay.tOf CT_law) hmg D_law (Lay.all1 CT_law) ?tL ?bL ?okL
    (case tL => exact Lay.all1 (⟨_, List.mem_cons_self .., rfl⟩))
    (case bL => exact fun _ _ _ _ _ _ _ _ => .of_eq rfl)
    case okL =>
    intro base f fd TBs F
    have TB1 : LamX.TabB base mg (Lay.cOf D_law) (Lay.tOf CT_law) := TBs (Lay.cOf D_law, Lay.tOf CT_law) (List.mem_cons_self ..)
    have hm1 : (Lay.tOf CT_law, Lay.lamN "law" Lay.s_law) ∈ ([(Lay.tOf CT_law, Lay.lamN "law" Lay.s_law)] : List (Addr × Str)) := List.mem_cons_self ..
    have hu1 : ∀ p ∈ ([(Lay.tOf CT_law, Lay.lamN "law" Lay.s_law)] : List (Addr × Str)), p.1 = Lay.tOf CT_law → p.2 = Lay.lamN "law" Lay.s_law := Lay.all1 (fun _ => rfl)
    have G_w_mixed := Lay.ok_mixed (P := (PySem.Challenge.rw_onewaytown_k07_whole_rounds).prog) (w := w) (base := base) D_w_mixed
    have G_w_seed := Lay.ok_seed (P := (PySem.Challenge.rw_onewaytown_k07_whole_rounds).prog) (w := w) (base := base) Z G_w_mixed D_w_seed
    have G_w_many := Lay.ok_many (P := (PySem.Challenge.rw_onewaytown_k07_whole_rounds).prog) (w := w) (base := base) Z G_w_mixed D_w_many
    have G_w_ends := Lay.ok_ends (P := (PySem.Challenge.rw_onewaytown_k07_whole_rounds).prog) (w := w) (base := base) Z D_w_ends
    have G_w_pairs := Lay.ok_pairs (P := (PySem.Challenge.rw_onewaytown_k07_whole_rounds).prog) (w := w) (base := base) Z G_w_mixed G_w_ends D_w_pairs
    have G_is_among := Lay.ok_among (P := (PySem.Challenge.rw_onewaytown_k07_whole_rounds).prog) (w := w) (base := base) Z D_is_among
    have M_places := Lay.ok_places (P := (PySem.Challenge.rw_onewaytown_k07_whole_rounds).prog) (w := w) (base := base) T D_Town_places
    have M_streets := Lay.ok_streets (P := (PySem.Challenge.rw_onewaytown_k07_whole_rounds).prog) (w := w) (base := base) Z T D_Town_streets
    have M_need_place := Lay.ok_need (P := (PySem.Challenge.rw_onewaytown_k07_whole_rounds).prog) (w := w) (base := base) T X_BadPlace G_is_among D_Town_need_place
    have M_build := Lay.ok_build (P := (PySem.Challenge.rw_onewaytown_k07_whole_rounds).prog) (w := w) (base := base) Z T X_BadPlace X_TooMany M_need_place D_Town_build
    have M_dig := Lay.ok_dig (P := (PySem.Challenge.rw_onewaytown_k07_whole_rounds).prog) (w := w) (base := base) Z T X_BadStreet G_is_among D_Town_dig
    have MK_Town := Lay.ok_mkTown (P := (PySem.Challenge.rw_onewaytown_k07_whole_rounds).prog) (w := w) (base := base) T X_BadCount G_is_among I_Town___init
    have G_w_made := Lay.ok_made (P := (PySem.Challenge.rw_onewaytown_k07_whole_rounds).prog) (w := w) (base := base) Z G_w_mixed MK_Town M_build M_dig D_w_made
    have G_steps_of := Lay.ok_steps (P := (PySem.Challenge.rw_onewaytown_k07_whole_rounds).prog) (w := w) (base := base) Z T M_places M_streets D_steps_of
    have G_come_to := Lay.ok_come (P := (PySem.Challenge.rw_onewaytown_k07_whole_rounds).prog) (w := w) (base := base) Z D_come_to
    have G_parted_by := Lay.ok_parted (P := (PySem.Challenge.rw_onewaytown_k07_whole_rounds).prog) (w := w) (base := base) Z T M_places G_steps_of G_come_to D_parted_by
    have G_parts := Lay.ok_parts (P := (PySem.Challenge.rw_onewaytown_k07_whole_rounds).prog) (w := w) (base := base) G_parted_by D_parts
    have G_parting := Lay.ok_parting (P := (PySem.Challenge.rw_onewaytown_k07_whole_rounds).prog) (w := w) (base := base) Z T M_streets G_steps_of G_come_to D_parting
    have G_pieces := Lay.ok_pieces (P := (PySem.Challenge.rw_onewaytown_k07_whole_rounds).prog) (w := w) (base := base) G_parted_by G_parting D_pieces
    have G_walked_back := Lay.ok_walked (P := (PySem.Challenge.rw_onewaytown_k07_whole_rounds).prog) (w := w) (base := base) Z D_walked_back
    have G_next_street := Lay.ok_next (P := (PySem.Challenge.rw_onewaytown_k07_whole_rounds).prog) (w := w) (base := base) Z T M_streets D_next_street
    have G_handles_from := Lay.ok_hf (P := (PySem.Challenge.rw_onewaytown_k07_whole_rounds).prog) (w := w) (base := base) Z T G_steps_of G_walked_back G_next_street D_handles_from
    have G_handles := Lay.ok_handles (P := (PySem.Challenge.rw_onewaytown_k07_whole_rounds).prog) (w := w) (base := base) Z T G_parting G_pieces G_handles_from D_handles
    have G_one_way := Lay.ok_oneway (P := (PySem.Challenge.rw_onewaytown_k07_whole_rounds).prog) (w := w) (base := base) Z T G_parting G_parts G_handles PT gParted (Lay.pt_ini PT PF) D_one_way
    have G_is_step := Lay.ok_step (P := (PySem.Challenge.rw_onewaytown_k07_whole_rounds).prog) (w := w) (base := base) Z D_is_step
    have G_led_to := Lay.ok_ledto (P := (PySem.Challenge.rw_onewaytown_k07_whole_rounds).prog) (w := w) (base := base) Z D_led_to
    have G_is_one_way := Lay.ok_one (P := (PySem.Challenge.rw_onewaytown_k07_whole_rounds).prog) (w := w) (base := base) Z T G_is_step G_led_to M_places M_streets D_is_one_way
    have G_piece_of := Lay.ok_piece_of (P := (PySem.Challenge.rw_onewaytown_k07_whole_rounds).prog) (w := w) (base := base) Z D_piece_of
    have G_wanting := Lay.ok_wanting (P := (PySem.Challenge.rw_onewaytown_k07_whole_rounds).prog) (w := w) (base := base) Z D_wanting
    have G_leaves_of := Lay.ok_leaves (P := (PySem.Challenge.rw_onewaytown_k07_whole_rounds).prog) (w := w) (base := base) Z D_leaves_of
    have G_ties_of := Lay.ok_ties (P := (PySem.Challenge.rw_onewaytown_k07_whole_rounds).prog) (w := w) (base := base) Z T M_streets G_parting G_piece_of D_ties_of
    have G_tied_together := Lay.ok_tied (P := (PySem.Challenge.rw_onewaytown_k07_whole_rounds).prog) (w := w) (base := base) Z T G_parts G_piece_of G_wanting D_tied_together
    have G_fewest := Lay.ok_fewest (P := (PySem.Challenge.rw_onewaytown_k07_whole_rounds).prog) (w := w) (base := base) Z T G_pieces G_ties_of G_tied_together G_leaves_of D_fewest
    have G_way_on := Lay.ok_wayon (P := (PySem.Challenge.rw_onewaytown_k07_whole_rounds).prog) (w := w) (base := base) Z D_way_on
    have G_round_trip := Lay.ok_round (P := (PySem.Challenge.rw_onewaytown_k07_whole_rounds).prog) (w := w) (base := base) Z X_BadWays G_is_one_way G_way_on D_round_trip
    have G_w_walked := Lay.ok_walkedl (P := (PySem.Challenge.rw_onewaytown_k07_whole_rounds).prog) (w := w) (base := base) Z D_w_walked
    exact Lay.ok_law Z T G_w_mixed G_w_seed G_w_many G_w_pairs G_w_made M_build G_fewest G_one_way G_round_trip G_w_walked gTownError X_BadCount X_BadPlace X_BadStreet X_TooMany gParted gBadWays gBadText zVE D_w_word WC_BadWays TB1 hm1 hu1 F
