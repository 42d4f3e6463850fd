import PyProof.Rows.All
import Wide.All
import OpenK.AllK
import Wide.FinOn
import HandS.ForMost
import HandS.IsInst
import HandS.TupLe
import HandS.TupAny
import HandS.DictComp
import HandS.Defaults
import HandS.Style
import HandS.Flow
import HandS.NoneIn
import HandS.Walk
import HandS.More
import HandS.StrMore
import KE.KUnpackStar
import HandS.RaiseMore
import KE.GoesNew
import HandS.DeepEq
import KE.DataEq
import KE.OsSortAny
import PyProof.Rows.StrMeet
import PySem.Challenge.RW_watchednodes_k20_whole_rows_and_their_be
import HandS.Text
import KE.KxText
set_option Elab.async false
set_option linter.all false
set_option maxRecDepth 100000
set_option maxHeartbeats 0
/-! Lg: a logic over data. A name holds a datum (D), the heap is hidden: Hb is its part that data may speak of, H the whole. -/
namespace Lg
open L2 PyProof.Rows PySem PySem.Spec

inductive D where
  | non | bl (b : Bool) | int (i : Int) | str (x : Str)
  | tup (ds : List D) | lst (ds : List D) | dct (kvs : List (Str × D)) | flst (ds : List D) | pool

mutual
inductive Rp (K : PySem.W.Frag) (S : Option Addr) (H : Hp) : V → D → Prop
  | non : Rp K S H .non .non
  | bl (b : Bool) : Rp K S H (.bl b) (.bl b)
  | int (i : Int) : Rp K S H (.int i) (.int i)
  | str (x : Str) : Rp K S H (.str x) (.str x)
  | tup {a : Addr} {xs : List V} {ds : List D} : SqT K H a xs → RpL K S H xs ds → Rp K S H (.ref a) (.tup ds)
  | lst {a : Addr} {xs : List V} {ds : List D} : H a = some (.lst xs) → RpL K S H xs ds → Rp K S H (.ref a) (.lst ds)
  | flst {a : Addr} {xs : List V} {ds : List D} : SqL K H a xs → RpL K S H xs ds → Rp K S H (.ref a) (.flst ds)
  | dct {a : Addr} {xs : List (Key × V)} {ds : List (Str × D)} : H a = some (.dK xs) → RpK K S H xs ds → Rp K S H (.ref a) (.dct ds)
  | pool {a : Addr} : S = some a → Rp K S H (.ref a) .pool
inductive RpL (K : PySem.W.Frag) (S : Option Addr) (H : Hp) : List V → List D → Prop
  | nil : RpL K S H [] []
  | cons {v : V} {vs : List V} {d : D} {ds : List D} : Rp K S H v d → RpL K S H vs ds → RpL K S H (v :: vs) (d :: ds)
inductive RpK (K : PySem.W.Frag) (S : Option Addr) (H : Hp) : List (Key × V) → List (Str × D) → Prop
  | nil : RpK K S H [] []
  | cons {k : Str} {v : V} {vs : List (Key × V)} {d : D} {ds : List (Str × D)} : Rp K S H v d → RpK K S H vs ds → RpK K S H ((.inr k, v) :: vs) ((k, d) :: ds)
end

theorem same_t {K : PySem.W.Frag} {H H' : Hp} {a : Addr} {xs : List V} (e : Same H H') (h : SqT K H a xs) : SqT K H' a xs := by
  rcases h with (own | ⟨od, shut⟩) | old
  · exact .inl (.inl (e _ _ own))
  · exact .inl (.inr ⟨od, e _ _ shut⟩)
  · exact .inr old

mutual
theorem Rp.mono {K : PySem.W.Frag} {S : Option Addr} {H H' : Hp} (e : Same H H') : ∀ {v : V} {d : D}, Rp K S H v d → Rp K S H' v d
  | _, _, .non => .non
  | _, _, .bl b => .bl b
  | _, _, .int b => .int b
  | _, _, .str b => .str b
  | _, _, .tup h r => .tup (same_t e h) (RpL.mono e r)
  | _, _, .lst h r => .lst (e _ _ h) (RpL.mono e r)
  | _, _, .flst h r => .flst (e.seq h) (RpL.mono e r)
  | _, _, .dct h r => .dct (e _ _ h) (RpK.mono e r)
  | _, _, .pool h => .pool h
theorem RpL.mono {K : PySem.W.Frag} {S : Option Addr} {H H' : Hp} (e : Same H H') : ∀ {v : List V} {d : List D}, RpL K S H v d → RpL K S H' v d
  | _, _, .nil => .nil
  | _, _, .cons h r => .cons (Rp.mono e h) (RpL.mono e r)
theorem RpK.mono {K : PySem.W.Frag} {S : Option Addr} {H H' : Hp} (e : Same H H') : ∀ {v : List (Key × V)} {d : List (Str × D)}, RpK K S H v d → RpK K S H' v d
  | _, _, .nil => .nil
  | _, _, .cons h r => .cons (Rp.mono e h) (RpK.mono e r)
end

section
variable {K : PySem.W.Frag} {S : Option Addr} {H : Hp}
theorem RpL.len : ∀ {vs : List V} {ds : List D}, RpL K S H vs ds → vs.length = ds.length
  | _, _, .nil => rfl
  | _, _, .cons _ r => congrArg Nat.succ r.len
theorem RpL.get : ∀ {vs : List V} {ds : List D} {i : Nat} {d : D}, RpL K S H vs ds → ds[i]? = some d → ∃ v, vs[i]? = some v ∧ Rp K S H v d
  | _, _, _, _, .nil, at_ => nomatch List.getElem?_nil.symm.trans at_
  | _, _, 0, _, .cons first _, at_ => ⟨_, rfl, Option.some.inj (show some _ = some _ from at_) ▸ first⟩
  | _, _, i + 1, d, .cons _ more, at_ => by
    rw [List.getElem?_cons_succ] at at_
    obtain ⟨v, there, fits⟩ := RpL.get (i := i) (d := d) more at_
    exact ⟨v, by rw [List.getElem?_cons_succ]; exact there, fits⟩
theorem RpL.app : ∀ {vs ws : List V} {ds es : List D}, RpL K S H vs ds → RpL K S H ws es → RpL K S H (vs ++ ws) (ds ++ es)
  | _, _, _, _, .nil, s => s
  | _, _, _, _, .cons r t, s => .cons r (t.app s)
theorem RpL.take : ∀ {vs : List V} {ds : List D} (n : Nat), RpL K S H vs ds → RpL K S H (vs.take n) (ds.take n)
  | _, _, 0, _ => .nil
  | _, _, _ + 1, .nil => .nil
  | _, _, n + 1, .cons r t => .cons r (t.take n)
theorem RpL.drop : ∀ {vs : List V} {ds : List D} (n : Nat), RpL K S H vs ds → RpL K S H (vs.drop n) (ds.drop n)
  | _, _, 0, r => r
  | _, _, _ + 1, .nil => .nil
  | _, _, n + 1, .cons _ t => t.drop n
theorem RpL.set {x : V} {d : D} (r : Rp K S H x d) : ∀ {vs : List V} {ds : List D} (i : Nat), RpL K S H vs ds → RpL K S H (vs.set i x) (ds.set i d)
  | _, _, _, .nil => .nil
  | _, _, 0, .cons _ more => .cons r more
  | _, _, i + 1, .cons q t => .cons q (RpL.set r i t)
theorem RpK.len : ∀ {vs : List (Key × V)} {ds : List (Str × D)}, RpK K S H vs ds → vs.length = ds.length
  | _, _, .nil => rfl
  | _, _, .cons _ r => congrArg Nat.succ r.len
theorem RpK.keys : ∀ {vs : List (Key × V)} {ds : List (Str × D)}, RpK K S H vs ds → vs.map (·.1) = (ds.map (·.1)).map Sum.inr
  | _, _, .nil => rfl
  | _, _, .cons _ r => by
    show _ :: _ = _ :: _
    rw [r.keys]
theorem RpK.get : ∀ {vs : List (Key × V)} {ds : List (Str × D)} {i : Nat} {k : Str} {d : D}, RpK K S H vs ds → ds[i]? = some (k, d) → ∃ v, vs[i]? = some (.inr k, v) ∧ Rp K S H v d
  | _, _, _, _, _, .nil, e => by simp at e
  | _, _, 0, _, _, .cons r _, e => by
    simp at e
    obtain ⟨e1, e2⟩ := e
    subst e1; subst e2
    exact ⟨_, rfl, r⟩
  | _, _, i + 1, k, d, .cons _ t, e => by
    obtain ⟨v, h1, h2⟩ := RpK.get (i := i) (d := d) t (by simpa using e)
    exact ⟨v, by simpa using h1, h2⟩
end

/-! ### dicts of data -/
def dget (kvs : List (Str × D)) (k : Str) : Option D := (kvs.find? fun kv => decide (kv.1 = k)).map (·.2)
def dput (kvs : List (Str × D)) (k : Str) (d : D) : List (Str × D) :=
  if kvs.any (fun kv => decide (kv.1 = k)) = true then kvs.map (fun kv => if kv.1 = k then (kv.1, d) else kv) else kvs ++ [(k, d)]
def ddrop (kvs : List (Str × D)) (k : Str) : List (Str × D) := kvs.filter fun kv => !decide (kv.1 = k)

/-! ### the two heaps -/
def PoolO (o : HO) : Prop := ∃ a b : Int, o = .lst [.int a, .int b] ∧ 0 ≤ a ∧ 0 ≤ b ∧ b < 2147483647
structure Ok (S : Option Addr) (Hb H : Hp) : Prop where
  ex : Same Hb H
  pl : ∀ p, S = some p → Hb p = none ∧ ∃ o, H p = some o ∧ PoolO o
structure Grow (S : Option Addr) (Hb H Hb' H' : Hp) : Prop where
  ok0 : Ok S Hb H
  ok : Ok S Hb' H'
  pub : Same Hb Hb'
  prv : ∀ a o, H a = some o → S ≠ some a → H' a = some o
  sep : ∀ a o, H a = some o → Hb a = none → Hb' a = none
section
variable {S : Option Addr} {Hb H Hb1 H1 Hb2 H2 : Hp} {p : Addr} {o : HO}
theorem Grow.refl (k : Ok S Hb H) : Grow S Hb H Hb H := ⟨k, k, Same.refl _, fun _ _ h _ => h, fun _ _ _ h => h⟩
theorem Grow.trans (g : Grow S Hb H Hb1 H1) (k : Grow S Hb1 H1 Hb2 H2) : Grow S Hb H Hb2 H2 := by
  refine ⟨g.ok0, k.ok, g.pub.trans k.pub, fun a o h n => k.prv a o (g.prv a o h n) n, fun a o h n => ?_⟩
  by_cases e : S = some a
  · exact (k.ok.pl a e).1
  · exact k.sep a o (g.prv a o h e) (g.sep a o h n)
theorem Ok.ne (k : Ok S Hb H) (h : H p = none) : S ≠ some p := fun e => by
  obtain ⟨_, o, h1, _⟩ := k.pl p e
  rw [h] at h1
  cases h1
theorem Ok.base (k : Ok S Hb H) (h : H p = none) : Hb p = none := k.ex.free h
theorem same_new {H : Hp} (h : H p = none) : Same H (upd H p o) := fun b z e => by
  rw [upd_ne (ne_of_none e h)]
  exact e
/-- a new object, told -/
theorem Grow.new (k : Ok S Hb H) (h : H p = none) : Grow S Hb H (upd Hb p o) (upd H p o) := by
  have hb : Hb p = none := k.base h
  refine ⟨k, ⟨fun b z e => ?_, fun q e => ?_⟩, same_new hb, fun a z e _ => ?_, fun a z e n => ?_⟩
  · by_cases c : b = p
    · subst c
      rw [upd_same] at e ⊢
      exact e
    · rw [upd_ne c] at e ⊢
      exact k.ex b z e
  · have c : q ≠ p := fun c => k.ne h (c ▸ e)
    rw [upd_ne c, upd_ne c]
    exact k.pl q e
  · rw [upd_ne (ne_of_none e h)]
    exact e
  · rw [upd_ne (ne_of_none e h)]
    exact n
/-- a new object, not told -/
theorem Grow.hid (k : Ok S Hb H) (h : H p = none) : Grow S Hb H Hb (upd H p o) := by
  refine ⟨k, ⟨fun b z e => ?_, fun q e => ?_⟩, Same.refl _, fun a z e _ => ?_, fun a z e n => n⟩
  · rw [upd_ne (ne_of_none (k.ex b z e) h)]
    exact k.ex b z e
  · have c : q ≠ p := fun c => k.ne h (c ▸ e)
    rw [upd_ne c]
    exact k.pl q e
  · rw [upd_ne (ne_of_none e h)]
    exact e
/-- an own object is changed -/
theorem Grow.mut (g : Grow S Hb H Hb1 H1) (h0 : H p = none) (hb : Hb1 p = none) : Grow S Hb H Hb1 (upd H1 p o) := by
  refine ⟨g.ok0, ⟨fun b z e => ?_, fun q e => ?_⟩, g.pub, fun a z e n => ?_, g.sep⟩
  · have c : b ≠ p := ne_of_none e hb
    rw [upd_ne c]
    exact g.ok.ex b z e
  · have c : q ≠ p := fun c => g.ok0.ne h0 (c ▸ e)
    rw [upd_ne c]
    exact g.ok.pl q e
  · have c : a ≠ p := ne_of_none e h0
    rw [upd_ne c]
    exact g.prv a z e n
/-- an own object is told -/
theorem Grow.tell (g : Grow S Hb H Hb1 H1) (h0 : H p = none) (hb : Hb1 p = none) (h1 : H1 p = some o) : Grow S Hb H (upd Hb1 p o) H1 := by
  refine ⟨g.ok0, ⟨fun b z e => ?_, fun q e => ?_⟩, g.pub.trans (same_new hb), g.prv, fun a z e n => ?_⟩
  · by_cases c : b = p
    · subst c
      rw [upd_same] at e
      rw [h1]
      exact e
    · rw [upd_ne c] at e
      exact g.ok.ex b z e
  · have c : q ≠ p := fun c => g.ok0.ne h0 (c ▸ e)
    rw [upd_ne c]
    exact g.ok.pl q e
  · have c : a ≠ p := ne_of_none e h0
    rw [upd_ne c]
    exact g.sep a z e n
/-- the pool is changed -/
theorem Grow.draw (k : Ok S Hb H) (e : S = some p) (q : PoolO o) : Grow S Hb H Hb (upd H p o) := by
  obtain ⟨n, _⟩ := k.pl p e
  refine ⟨k, ⟨fun b z h => ?_, fun r er => ?_⟩, Same.refl _, fun a z h na => ?_, fun _ _ _ h => h⟩
  · have c : b ≠ p := ne_of_none h n
    rw [upd_ne c]
    exact k.ex b z h
  · have c : r = p := Option.some.inj (er.symm.trans e)
    subst c
    exact ⟨n, o, upd_same, q⟩
  · have c : a ≠ p := fun c => na (c ▸ e)
    rw [upd_ne c]
    exact h
end

/-! ### slots -/
/-- what a slot holds: not known, a datum, an own list, an own dict -/
inductive Sl where
  | un | va (d : D) | owl (ds : List D) | owd (kvs : List (Str × D))
def Sl.own : Sl → Prop
  | .owl _ => True
  | .owd _ => True
  | _ => False
def SlOk (K : PySem.W.Frag) (S : Option Addr) (H0 Hb H : Hp) (o : Option V) : Sl → Prop
  | .un => True
  | .va d => ∃ v, o = some v ∧ Rp K S Hb v d
  | .owl ds => ∃ p xs, o = some (.ref p) ∧ H0 p = none ∧ Hb p = none ∧ H p = some (.lst xs) ∧ RpL K S Hb xs ds
  | .owd ds => ∃ p xs, o = some (.ref p) ∧ H0 p = none ∧ Hb p = none ∧ H p = some (.dK xs) ∧ RpK K S Hb xs ds
structure Sls (K : PySem.W.Frag) (S : Option Addr) (H0 Hb H : Hp) (σ : L2.St) (ρ : List Sl) : Prop where
  len : σ.length = ρ.length
  at_ : ∀ (i : Nat) (s : Sl) (o : Option V), ρ[i]? = some s → σ[i]? = some o → SlOk K S H0 Hb H o s
  sep : ∀ (i j : Nat) (s t : Sl) (p : Addr), ρ[i]? = some s → ρ[j]? = some t → s.own → t.own → σ[i]? = some (some (.ref p)) → σ[j]? = some (some (.ref p)) → i = j
  ent : ∀ p, S = some p → ∃ o, H0 p = some o
section
variable {K : PySem.W.Frag} {S : Option Addr} {H0 Hb H Hb1 H1 : Hp} {σ : L2.St} {ρ : List Sl} {i : Nat}
theorem SlOk.grow {o : Option V} {s : Sl} (ent : ∀ p, S = some p → ∃ o, H0 p = some o) (g : Grow S Hb H Hb1 H1) (h : SlOk K S H0 Hb H o s) : SlOk K S H0 Hb1 H1 o s := by
  have ns : ∀ p, H0 p = none → S ≠ some p := fun p h e => by
    obtain ⟨o, q⟩ := ent p e
    rw [h] at q
    cases q
  cases s with
  | un => exact h
  | va d =>
    obtain ⟨v, e, r⟩ := h
    exact ⟨v, e, r.mono g.pub⟩
  | owl ds =>
    obtain ⟨p, xs, e, h0, hb, hp, r⟩ := h
    exact ⟨p, xs, e, h0, g.sep p _ hp hb, g.prv p _ hp (ns p h0), r.mono g.pub⟩
  | owd ds =>
    obtain ⟨p, xs, e, h0, hb, hp, r⟩ := h
    exact ⟨p, xs, e, h0, g.sep p _ hp hb, g.prv p _ hp (ns p h0), r.mono g.pub⟩
theorem Sls.grow (e : Sls K S H0 Hb H σ ρ) (g : Grow S Hb H Hb1 H1) : Sls K S H0 Hb1 H1 σ ρ :=
  ⟨e.len, fun i s o h1 h2 => (e.at_ i s o h1 h2).grow e.ent g, e.sep, e.ent⟩
theorem Sls.lt {s : Sl} (e : Sls K S H0 Hb H σ ρ) (h : ρ[i]? = some s) : ∃ o, σ[i]? = some o ∧ SlOk K S H0 Hb H o s := by
  have hl : i < σ.length := by
    rw [e.len]; exact (List.getElem?_eq_some_iff.mp h).1
  exact ⟨σ[i], List.getElem?_eq_getElem hl, e.at_ i s _ h (List.getElem?_eq_getElem hl)⟩
theorem Sls.var {d : D} (e : Sls K S H0 Hb H σ ρ) (h : ρ[i]? = some (.va d)) : ∃ v, σ[i]? = some (some v) ∧ Rp K S Hb v d := by
  obtain ⟨o, h1, v, rfl, r⟩ := e.lt h
  exact ⟨v, h1, r⟩
theorem Sls.owl {ds : List D} (e : Sls K S H0 Hb H σ ρ) (h : ρ[i]? = some (.owl ds)) : ∃ p xs, σ[i]? = some (some (.ref p)) ∧ H0 p = none ∧ Hb p = none ∧ H p = some (.lst xs) ∧ RpL K S Hb xs ds := by
  obtain ⟨o, h1, p, xs, rfl, r⟩ := e.lt h
  exact ⟨p, xs, h1, r⟩
theorem Sls.owd {ds : List (Str × D)} (e : Sls K S H0 Hb H σ ρ) (h : ρ[i]? = some (.owd ds)) : ∃ p xs, σ[i]? = some (some (.ref p)) ∧ H0 p = none ∧ Hb p = none ∧ H p = some (.dK xs) ∧ RpK K S Hb xs ds := by
  obtain ⟨o, h1, p, xs, rfl, r⟩ := e.lt h
  exact ⟨p, xs, h1, r⟩
/-- a slot is stored -/
theorem Sls.set {o : Option V} {s : Sl} (e : Sls K S H0 Hb H σ ρ) (h : SlOk K S H0 Hb H o s) (hs : s.own → ∀ j p t, j ≠ i → o = some (.ref p) → ρ[j]? = some t → t.own → σ[j]? ≠ some (some (.ref p))) : Sls K S H0 Hb H (σ.set i o) (ρ.set i s) := by
  refine ⟨by rw [List.length_set, List.length_set, e.len], fun j t q h1 h2 => ?_, fun j k t u p h1 h2 h3 h4 h5 h6 => ?_, e.ent⟩
  · by_cases c : i = j
    · subst c
      have hl : i < ρ.length := by
        have := (List.getElem?_eq_some_iff.mp h1).1
        rwa [List.length_set] at this
      rw [List.getElem?_set_self hl] at h1
      rw [List.getElem?_set_self (by rw [e.len]; exact hl)] at h2
      cases h1; cases h2
      exact h
    · rw [List.getElem?_set_ne c] at h1 h2
      exact e.at_ j t q h1 h2
  · have lt : ∀ {m : Nat} {x : Sl}, (ρ.set i s)[m]? = some x → m = i → x = s ∧ i < ρ.length := fun {m x} z c => by
      subst c
      have hl : m < ρ.length := by
        have := (List.getElem?_eq_some_iff.mp z).1
        rwa [List.length_set] at this
      rw [List.getElem?_set_self hl] at z
      exact ⟨(Option.some.inj z).symm, hl⟩
    by_cases cj : j = i
    · by_cases ck : k = i
      · rw [cj, ck]
      · obtain ⟨e1, hl⟩ := lt h1 cj
        subst e1
        subst cj
        rw [List.getElem?_set_ne (Ne.symm ck)] at h2 h6
        rw [List.getElem?_set_self (by rw [e.len]; exact hl)] at h5
        exact absurd h6 (hs h3 k p u ck (Option.some.inj h5) h2 h4)
    · by_cases ck : k = i
      · obtain ⟨e1, hl⟩ := lt h2 ck
        subst e1
        subst ck
        rw [List.getElem?_set_ne (Ne.symm cj)] at h1 h5
        rw [List.getElem?_set_self (by rw [e.len]; exact hl)] at h6
        exact absurd h5 (hs h4 j p t cj (Option.some.inj h6) h1 h3)
      · rw [List.getElem?_set_ne (Ne.symm cj)] at h1 h5
        rw [List.getElem?_set_ne (Ne.symm ck)] at h2 h6
        exact e.sep j k t u p h1 h2 h3 h4 h5 h6
theorem Sls.setV {v : V} {d : D} (e : Sls K S H0 Hb H σ ρ) (h : Rp K S Hb v d) : Sls K S H0 Hb H (σ.set i (some v)) (ρ.set i (.va d)) :=
  e.set ⟨v, rfl, h⟩ fun z => z.elim
/-- less is known of a slot -/
theorem Sls.weak {o : Option V} (e : Sls K S H0 Hb H σ ρ) : Sls K S H0 Hb H (σ.set i o) (ρ.set i .un) :=
  e.set True.intro fun z => z.elim
/-- an own object is changed to what the slot then tells -/
theorem Sls.mut {p : Addr} {o : HO} {s t : Sl} (e : Sls K S H0 Hb H σ ρ) (hi : ρ[i]? = some s) (hs : s.own) (hσ : σ[i]? = some (some (.ref p))) (h0 : H0 p = none) (hb : Hb p = none) (ht : SlOk K S H0 Hb (upd H p o) (some (.ref p)) t) :
    Sls K S H0 Hb (upd H p o) σ (ρ.set i t) := by
  have hl : i < ρ.length := (List.getElem?_eq_some_iff.mp hi).1
  have oth : ∀ j u q, j ≠ i → ρ[j]? = some u → σ[j]? = some q → SlOk K S H0 Hb (upd H p o) q u := fun j u q c h1 h2 => by
    have z := e.at_ j u q h1 h2
    cases u with
    | un => exact z
    | va d => exact z
    | owl ds =>
      obtain ⟨p', xs, rfl, g0, gb, gp, r⟩ := z
      have ne : p' ≠ p := fun c' => c (e.sep j i _ s p h1 hi True.intro hs (by rw [← c']; exact h2) hσ)
      exact ⟨p', xs, rfl, g0, gb, by rw [upd_ne ne]; exact gp, r⟩
    | owd ds =>
      obtain ⟨p', xs, rfl, g0, gb, gp, r⟩ := z
      have ne : p' ≠ p := fun c' => c (e.sep j i _ s p h1 hi True.intro hs (by rw [← c']; exact h2) hσ)
      exact ⟨p', xs, rfl, g0, gb, by rw [upd_ne ne]; exact gp, r⟩
  refine ⟨by rw [List.length_set, e.len], fun j u q h1 h2 => ?_, fun j k u v q h1 h2 h3 h4 h5 h6 => ?_, e.ent⟩
  · by_cases c : i = j
    · subst c
      rw [List.getElem?_set_self hl] at h1
      cases h1
      rw [hσ] at h2
      cases h2
      exact ht
    · rw [List.getElem?_set_ne c] at h1
      exact oth j u q (Ne.symm c) h1 h2
  · have old : ∀ {m : Nat} {x : Sl}, (ρ.set i t)[m]? = some x → x.own → ∃ y, ρ[m]? = some y ∧ y.own := fun {m x} z w => by
      by_cases c : i = m
      · subst c
        exact ⟨s, hi, hs⟩
      · rw [List.getElem?_set_ne c] at z
        exact ⟨x, z, w⟩
    obtain ⟨y1, a1, b1⟩ := old h1 h3
    obtain ⟨y2, a2, b2⟩ := old h2 h4
    exact e.sep j k y1 y2 q a1 a2 b1 b2 h5 h6
/-- an own object is told -/
theorem Sls.tell {p : Addr} {o : HO} {s : Sl} {d : D} (e : Sls K S H0 Hb H σ ρ) (hi : ρ[i]? = some s) (hs : s.own) (hσ : σ[i]? = some (some (.ref p))) (hb : Hb p = none) (hd : Rp K S (upd Hb p o) (.ref p) d) :
    Sls K S H0 (upd Hb p o) H σ (ρ.set i (.va d)) := by
  have hl : i < ρ.length := (List.getElem?_eq_some_iff.mp hi).1
  have sm : Same Hb (upd Hb p o) := same_new hb
  refine ⟨by rw [List.length_set, e.len], fun j u q h1 h2 => ?_, fun j k u v q h1 h2 h3 h4 h5 h6 => ?_, e.ent⟩
  · by_cases c : i = j
    · subst c
      rw [List.getElem?_set_self hl] at h1
      cases h1
      rw [hσ] at h2
      cases h2
      exact ⟨_, rfl, hd⟩
    · rw [List.getElem?_set_ne c] at h1
      have z := e.at_ j u q h1 h2
      cases u with
      | un => exact z
      | va d =>
        obtain ⟨v, e1, r⟩ := z
        exact ⟨v, e1, r.mono sm⟩
      | owl ds =>
        obtain ⟨p', xs, rfl, g0, gb, gp, r⟩ := z
        have ne : p' ≠ p := fun c' => c (e.sep j i _ s p h1 hi True.intro hs (by rw [← c']; exact h2) hσ).symm
        exact ⟨p', xs, rfl, g0, by rw [upd_ne ne]; exact gb, gp, r.mono sm⟩
      | owd ds =>
        obtain ⟨p', xs, rfl, g0, gb, gp, r⟩ := z
        have ne : p' ≠ p := fun c' => c (e.sep j i _ s p h1 hi True.intro hs (by rw [← c']; exact h2) hσ).symm
        exact ⟨p', xs, rfl, g0, by rw [upd_ne ne]; exact gb, gp, r.mono sm⟩
  · have old : ∀ {m : Nat} {x : Sl}, (ρ.set i (.va d))[m]? = some x → x.own → ρ[m]? = some x ∧ m ≠ i := fun {m x} z w => by
      by_cases c : i = m
      · subst c
        rw [List.getElem?_set_self hl] at z
        cases z
        exact w.elim
      · rw [List.getElem?_set_ne c] at z
        exact ⟨z, Ne.symm c⟩
    obtain ⟨a1, _⟩ := old h1 h3
    obtain ⟨a2, _⟩ := old h2 h4
    exact e.sep j k u v q a1 a2 h3 h4 h5 h6
end
end Lg
namespace Lg
open L2 PyProof.Rows PySem PySem.Spec

/-! ### judgements -/
def Post (K : PySem.W.Frag) (S : Option Addr) (Hb H : Hp) (Φ : D → Prop) (Q : VK) : Prop := ∀ v d Hb' H', Grow S Hb H Hb' H' → Rp K S Hb' v d → Φ d → Q v H'
def Ev (K : PySem.W.Frag) (t : TE) (ρ : List Sl) (Φ : D → Prop) : Prop := ∀ S H0 Hb H σ, Ok S Hb H → Sls K S H0 Hb H σ ρ → ∀ Q, Post K S Hb H Φ Q → t σ H Q
def EvT (K : PySem.W.Frag) (t : TT) (ρ : List Sl) (Φ : Bool → Prop) : Prop := ∀ S H0 Hb H σ, Ok S Hb H → Sls K S H0 Hb H σ ρ → ∀ Q : Bool → Hp → Prop, (∀ b Hb' H', Grow S Hb H Hb' H' → Φ b → Q b H') → t σ H Q
def EvA (K : PySem.W.Frag) (t : TA) (ρ : List Sl) (Φ : List D → Prop) : Prop := ∀ S H0 Hb H σ, Ok S Hb H → Sls K S H0 Hb H σ ρ → ∀ Q : List V → Hp → Prop, (∀ vs ds Hb' H', Grow S Hb H Hb' H' → RpL K S Hb' vs ds → Φ ds → Q vs H') → t σ H Q
section
variable (X : Cx)
def wE (e : Expr) : TE := fun σ H Q => ∀ pins s, Inv X pins σ H s → wpAny (model X.prog X.w) X.A (eval e X.env) (EP X pins σ Q) X.xe s
def wT (e : Expr) : TT := fun σ H Q => ∀ pins s, Inv X pins σ H s → wpAny (model X.prog X.w) X.A (isTrue e X.env (eval e X.env)) (TP X pins σ Q) X.xe s
def wW (e : Expr) : TT := fun σ H Q => ∀ whole pins s, Inv X pins σ H s → wpAny (model X.prog X.w) X.A (isTrue e X.env whole) (TP X pins σ Q) X.xe s
def wA (es : List Expr) : TA := fun σ H Q => ∀ pos pins s, Inv X pins σ H s → wpAny (model X.prog X.w) X.A (spliced (backTo pos (starEach es X.env))) (AP X pins σ Q) X.xe s
def EE (e : Expr) (ρ : List Sl) (Φ : D → Prop) : Prop := Ev X.K (wE X e) ρ Φ
def TT (e : Expr) (ρ : List Sl) (Φ : Bool → Prop) : Prop := EvT X.K (wT X e) ρ Φ
def TW (e : Expr) (ρ : List Sl) (Φ : Bool → Prop) : Prop := EvT X.K (wW X e) ρ Φ
def AA (es : List Expr) (ρ : List Sl) (Φ : List D → Prop) : Prop := EvA X.K (wA X es) ρ Φ
end
section
variable {X : Cx} {e a b c : Expr} {es : List Expr} {ρ : List Sl} {Φ : D → Prop} {Ψ : Bool → Prop} {pos : Pos}
theorem pe_w : PE X e (wE X e) := ⟨fun pins s σ H Q I h => h pins s I⟩
theorem pt_w : PT X e (wT X e) := ⟨fun pins s σ H Q I h => h pins s I⟩
theorem pw_w : PW X e (wW X e) := ⟨fun wh pins s σ H Q I h => h wh pins s I⟩
theorem pa_w : PA X es (wA X es) := ⟨fun pos pins s σ H Q I h => h pos pins s I⟩
theorem wE_of {t : TE} {σ : L2.St} {H : Hp} {Q : VK} (h : PE X e t) (q : t σ H Q) : wE X e σ H Q := fun pins s I => h.run pins s σ H Q I q
theorem wT_of {t : L2.TT} {σ : L2.St} {H : Hp} {Q : Bool → Hp → Prop} (h : PT X e t) (q : t σ H Q) : wT X e σ H Q := fun pins s I => h.run pins s σ H Q I q
theorem wW_of {t : L2.TT} {σ : L2.St} {H : Hp} {Q : Bool → Hp → Prop} (h : PW X e t) (q : t σ H Q) : wW X e σ H Q := fun wh pins s I => h.run wh pins s σ H Q I q
theorem wA_of {t : TA} {σ : L2.St} {H : Hp} {Q : List V → Hp → Prop} (h : PA X es t) (q : t σ H Q) : wA X es σ H Q := fun pos pins s I => h.run pos pins s σ H Q I q
theorem Post.grow {K : PySem.W.Frag} {S : Option Addr} {Hb H Hb1 H1 : Hp} {Q : VK} (g : Grow S Hb H Hb1 H1) (q : Post K S Hb H Φ Q) : Post K S Hb1 H1 Φ Q := fun v d Hb' H' k r p => q v d Hb' H' (g.trans k) r p
theorem Post.here {K : PySem.W.Frag} {S : Option Addr} {Hb H : Hp} {Q : VK} {v : V} {d : D} (q : Post K S Hb H Φ Q) (k : Ok S Hb H) (r : Rp K S Hb v d) (p : Φ d) : Q v H := q v d Hb H (.refl k) r p
/-- a new object is handed on -/
theorem Post.made {K : PySem.W.Frag} {S : Option Addr} {Hb H : Hp} {Q : VK} {d : D} {p : Addr} {o : HO} (q : Post K S Hb H Φ Q) (k : Ok S Hb H) (hp : H p = none) (r : Rp K S (upd Hb p o) (.ref p) d) (f : Φ d) : Q (.ref p) (upd H p o) :=
  q _ d _ _ (.new k hp) r f
theorem ee_mono {Φ' : D → Prop} (h : EE X e ρ Φ) (k : ∀ d, Φ d → Φ' d) : EE X e ρ Φ' := fun S H0 Hb H σ ok en Q q => h S H0 Hb H σ ok en Q fun v d Hb' H' g r p => q v d Hb' H' g r (k d p)
theorem tt_mono {Φ' : Bool → Prop} (h : TT X e ρ Ψ) (k : ∀ d, Ψ d → Φ' d) : TT X e ρ Φ' := fun S H0 Hb H σ ok en Q q => h S H0 Hb H σ ok en Q fun b Hb' H' g p => q b Hb' H' g (k b p)

/-! ### names, constants -/
theorem ee_v {i : Nat} {d : D} {x : Str} (hi : ρ[i]? = some (.va d)) (h : Φ d) (hN : X.N[i]? = some x := by rfl) (hv : Vis X.env.scope x := by first | exact Or.inl rfl | exact Or.inr (Or.inl rfl) | exact Or.inr (Or.inr rfl)) (hd : (x == ("__debug__" : Str)) = false := by decide)
    (hcd : (x == ("__classdict__" : Str)) = false := by decide) : EE X (.Name x pos) ρ Φ := by
  intro S H0 Hb H σ ok en Q q
  obtain ⟨v, e, r⟩ := en.var hi
  exact wE_of (pe_var hN hv hd hcd) ⟨v, e, q.here ok r h⟩
theorem ee_i {i : Int} {j : Nat} (h : Φ (.int i)) : EE X (.Constant (.int i) j pos) ρ Φ := fun S H0 Hb H σ ok en Q q => wE_of pe_int (q.here ok (.int i) h)
theorem ee_b {b : Bool} {j : Nat} (h : Φ (.bl b)) : EE X (.Constant (.bool b) j pos) ρ Φ := fun S H0 Hb H σ ok en Q q => wE_of pe_bl (q.here ok (.bl b) h)
theorem ee_n {j : Nat} (h : Φ .non) : EE X (.Constant .none j pos) ρ Φ := fun S H0 Hb H σ ok en Q q => wE_of pe_non (q.here ok .non h)
theorem ee_s {x : Str} {j : Nat} (h : Φ (.str x)) : EE X (.Constant (.str x) j pos) ρ Φ := fun S H0 Hb H σ ok en Q q => wE_of pe_str (q.here ok (.str x) h)
/-- a constant of the module -/
def Cst (K : PySem.W.Frag) (mg : Str → Option Value) (x : Str) (d : D) : Prop := ∃ v u, mg x = some u ∧ RelV v u ∧ ∀ S Hb, Rp K S Hb v d
theorem ee_g {x : Str} {d : D} (c : Cst X.K X.mg x d) (h : Φ d) (hg : Gl X x := by rfl) (hd : (x == ("__debug__" : Str)) = false := by decide) : EE X (.Name x pos) ρ Φ := by
  intro S H0 Hb H σ ok en Q q
  obtain ⟨v, u, hm, r, rp⟩ := c
  exact wE_of (pe_glob hg hm r hd) (q.here ok (rp S Hb) h)

/-! ### operators -/
/-- what an operation on values does, told by data -/
def RD2 (K : PySem.W.Frag) (r : R2) (Res : D → D → (D → Prop) → Prop) : Prop :=
  ∀ S Hb H x y dx dy Φ Q, Ok S Hb H → Rp K S Hb x dx → Rp K S Hb y dy → Res dx dy Φ → Post K S Hb H Φ Q → r x y H Q
theorem ev_op {r : R2} {Res : D → D → (D → Prop) → Prop} {ta tb : TE} {K : PySem.W.Frag} (hr : RD2 K r Res) (h : Ev K ta ρ fun x => Ev K tb ρ fun y => Res x y Φ) : Ev K (tOp r ta tb) ρ Φ := by
  intro S H0 Hb H σ ok en Q q
  refine h S H0 Hb H σ ok en _ fun x dx Hb1 H1 g1 rx hx => ?_
  refine hx S H0 Hb1 H1 σ g1.ok (en.grow g1) _ fun y dy Hb2 H2 g2 ry hy => ?_
  exact hr S Hb2 H2 x y dx dy Φ Q g2.ok (rx.mono g2.pub) ry hy (q.grow (g1.trans g2))
theorem ee_bin {op : Operator} {r : R2} {Res : D → D → (D → Prop) → Prop} (ho : OpR X (binaryOp op) r) (hr : RD2 X.K r Res) (h : EE X a ρ fun x => EE X b ρ fun y => Res x y Φ) : EE X (.BinOp a op b pos) ρ Φ :=
  fun S H0 Hb H σ ok en Q q => wE_of (pe_op ho pe_w pe_w) (ev_op hr h S H0 Hb H σ ok en Q q)
theorem ee_cmp {op : CmpOp} {r : R2} {Res : D → D → (D → Prop) → Prop} (ho : OpR X (compareOp op) r) (hr : RD2 X.K r Res) (h : EE X a ρ fun x => EE X b ρ fun y => Res x y Φ) (hm : behindInMarks op b = false := by first | exact nomark _ | rfl) : EE X (.Compare a [op] [b] pos) ρ Φ :=
  fun S H0 Hb H σ ok en Q q => wE_of (pe_cmpR ho pe_w pe_w hm) (ev_op hr h S H0 Hb H σ ok en Q q)
theorem tt_cmp {op : CmpOp} {r : R2} {Res : D → D → (D → Prop) → Prop} (ho : OpR X (compareOp op) r) (hr : RD2 X.K r Res) (h : EE X a ρ fun x => EE X b ρ fun y => Res x y fun z => ∃ k, z = .bl k ∧ Ψ k) (hm : behindInMarks op b = false := by first | exact nomark _ | rfl) : TT X (.Compare a [op] [b] pos) ρ Ψ := by
  intro S H0 Hb H σ ok en Q q
  refine wT_of (pt_cmpR ho pe_w pe_w hm) ?_
  refine ev_op hr h S H0 Hb H σ ok en _ fun v d Hb' H' g r p => ?_
  obtain ⟨k, rfl, p⟩ := p
  cases r
  exact ⟨k, rfl, q k Hb' H' g p⟩
/-- an expression that gives a truth, as a test -/
theorem tt_val (h : EE X e ρ fun d => ∃ b, d = .bl b ∧ Ψ b) (he : ∀ whole, isTrue e X.env whole = (do let v ← whole; standAt e.pos; holding [v] (truthy v)) := by intro _; rfl) : TT X e ρ Ψ := by
  intro S H0 Hb H σ ok en Q q
  refine wT_of (pt_val pe_w he) ?_
  refine h S H0 Hb H σ ok en _ fun v d Hb' H' g r p => ?_
  obtain ⟨b, rfl, p⟩ := p
  cases r
  exact ⟨b, rfl, q b Hb' H' g p⟩

section
variable {K : PySem.W.Frag} {S : Option Addr} {Hb : Hp} {v : V}
theorem Rp.int_ {i : Int} (r : Rp K S Hb v (.int i)) : v = .int i := by cases r; rfl
theorem Rp.str_ {i : Str} (r : Rp K S Hb v (.str i)) : v = .str i := by cases r; rfl
theorem Rp.bl_ {i : Bool} (r : Rp K S Hb v (.bl i)) : v = .bl i := by cases r; rfl
theorem Rp.non_ (r : Rp K S Hb v .non) : v = .non := by cases r; rfl
theorem Rp.tup_ {ds : List D} (r : Rp K S Hb v (.tup ds)) : ∃ a xs, v = .ref a ∧ SqT K Hb a xs ∧ RpL K S Hb xs ds := by cases r with | tup h k => exact ⟨_, _, rfl, h, k⟩
theorem Rp.lst_ {ds : List D} (r : Rp K S Hb v (.lst ds)) : ∃ a xs, v = .ref a ∧ Hb a = some (.lst xs) ∧ RpL K S Hb xs ds := by cases r with | lst h k => exact ⟨_, _, rfl, h, k⟩
theorem Rp.flst_ {ds : List D} (r : Rp K S Hb v (.flst ds)) : ∃ a xs, v = .ref a ∧ SqL K Hb a xs ∧ RpL K S Hb xs ds := by cases r with | flst h k => exact ⟨_, _, rfl, h, k⟩
theorem Rp.dct_ {ds : List (Str × D)} (r : Rp K S Hb v (.dct ds)) : ∃ a xs, v = .ref a ∧ Hb a = some (.dK xs) ∧ RpK K S Hb xs ds := by cases r with | dct h k => exact ⟨_, _, rfl, h, k⟩
end
section
variable {K : PySem.W.Frag}
/-- two ints -/
def I2 (C : Int → Int → Prop) (g : Int → Int → D) : D → D → (D → Prop) → Prop
  | .int i, .int j, Φ => C i j ∧ Φ (g i j)
  | _, _, _ => False
def I2z (g : Int → Int → D) : D → D → (D → Prop) → Prop
  | .int i, .int j, Φ => Φ (g i j)
  | _, _, _ => False
def S2 (g : Str → Str → D) : D → D → (D → Prop) → Prop
  | .str i, .str j, Φ => Φ (g i j)
  | _, _, _ => False
theorem rd_I {C : Int → Int → Prop} {g : Int → Int → Int} : RD2 K (rI C fun i j => .int (g i j)) (I2 C fun i j => .int (g i j)) := by
  intro S Hb H x y dx dy Φ Q ok rx ry h q
  cases dx with
  | int i =>
    cases dy with
    | int j =>
      obtain ⟨c, p⟩ := (show C i j ∧ Φ (.int (g i j)) from h)
      exact ⟨i, j, rx.int_, ry.int_, c, q.here ok (.int _) p⟩
    | _ => exact h.elim
  | _ => exact h.elim
theorem rd_I0 {g : Int → Int → Int} : RD2 K (rI0 fun i j => .int (g i j)) (I2z fun i j => .int (g i j)) := by
  intro S Hb H x y dx dy Φ Q ok rx ry h q
  cases dx with
  | int i =>
    cases dy with
    | int j => exact ⟨i, j, rx.int_, ry.int_, q.here ok (.int _) h⟩
    | _ => exact h.elim
  | _ => exact h.elim
theorem rd_B0 {g : Int → Int → Bool} : RD2 K (rI0 fun i j => .bl (g i j)) (I2z fun i j => .bl (g i j)) := by
  intro S Hb H x y dx dy Φ Q ok rx ry h q
  cases dx with
  | int i =>
    cases dy with
    | int j => exact ⟨i, j, rx.int_, ry.int_, q.here ok (.bl _) h⟩
    | _ => exact h.elim
  | _ => exact h.elim
theorem rd_S0 {g : Str → Str → Bool} : RD2 K (fun x y H Q => ∃ i j, x = .str i ∧ y = .str j ∧ Q (.bl (g i j)) H) (S2 fun i j => .bl (g i j)) := by
  intro S Hb H x y dx dy Φ Q ok rx ry h q
  cases dx with
  | str i =>
    cases dy with
    | str j => exact ⟨i, j, rx.str_, ry.str_, q.here ok (.bl _) h⟩
    | _ => exact h.elim
  | _ => exact h.elim
end
theorem ee_add (h : EE X a ρ fun x => EE X b ρ fun y => I2z (fun i j => .int (i + j)) x y Φ) : EE X (.BinOp a .Add b pos) ρ Φ := ee_bin op_add rd_I0 h
theorem ee_sub (h : EE X a ρ fun x => EE X b ρ fun y => I2z (fun i j => .int (i - j)) x y Φ) : EE X (.BinOp a .Sub b pos) ρ Φ := ee_bin op_sub rd_I0 h
theorem ee_mul (h : EE X a ρ fun x => EE X b ρ fun y => I2 CMul (fun i j => .int (i * j)) x y Φ) : EE X (.BinOp a .Mult b pos) ρ Φ := ee_bin op_mul rd_I h
theorem ee_fdiv (h : EE X a ρ fun x => EE X b ρ fun y => I2 CDiv (fun i j => .int (i / j)) x y Φ) : EE X (.BinOp a .FloorDiv b pos) ρ Φ := ee_bin op_fdiv rd_I h
theorem ee_mod (h : EE X a ρ fun x => EE X b ρ fun y => I2 (fun _ j => 0 < j) (fun i j => .int (i % j)) x y Φ) : EE X (.BinOp a .Mod b pos) ρ Φ := ee_bin op_mod rd_I h
theorem ee_pow (h : EE X a ρ fun x => EE X b ρ fun y => I2 CPow (fun i j => .int (i ^ j.toNat)) x y Φ) : EE X (.BinOp a .Pow b pos) ρ Φ := ee_bin op_pow rd_I h
/-- texts -/
def SAdd : D → D → (D → Prop) → Prop
  | .str i, .str j, Φ => i.length + j.length ≤ sizeLine ∧ Φ (.str (i ++ j))
  | _, _, _ => False
theorem ee_adds (h : EE X a ρ fun x => EE X b ρ fun y => SAdd x y Φ) : EE X (.BinOp a .Add b pos) ρ Φ := by
  refine ee_bin op_add_str ?_ h
  intro S Hb H x y dx dy Φ Q ok rx ry h q
  cases dx with
  | str i =>
    cases dy with
    | str j => exact ⟨i, j, rx.str_, ry.str_, h.1, q.here ok (.str _) h.2⟩
    | _ => exact h.elim
  | _ => exact h.elim
/-- lists -/
def LAdd : D → D → (D → Prop) → Prop
  | .lst i, .lst j, Φ => i.length + j.length ≤ sizeLine ∧ Φ (.lst (i ++ j))
  | _, _, _ => False
theorem ee_addl (h : EE X a ρ fun x => EE X b ρ fun y => LAdd x y Φ) : EE X (.BinOp a .Add b pos) ρ Φ := by
  refine ee_bin op_cat ?_ h
  intro S Hb H x y dx dy Φ Q ok rx ry h q
  cases dx with
  | lst i =>
    cases dy with
    | lst j =>
      obtain ⟨a, xs, rfl, ha, ra⟩ := rx.lst_
      obtain ⟨b, ys, rfl, hb, rb⟩ := ry.lst_
      refine ⟨a, b, xs, ys, rfl, rfl, ok.ex _ _ ha, ok.ex _ _ hb, by rw [ra.len, rb.len]; exact h.1, fun p hp => ?_⟩
      exact q.made ok hp (.lst upd_same ((ra.app rb).mono (same_new (ok.base hp)))) h.2
    | _ => exact h.elim
  | _ => exact h.elim
/-- tuples -/
def UAdd : D → D → (D → Prop) → Prop
  | .tup i, .tup j, Φ => i.length + j.length ≤ sizeLine ∧ Φ (.tup (i ++ j))
  | _, _, _ => False
theorem ee_addu (h : EE X a ρ fun x => EE X b ρ fun y => UAdd x y Φ) : EE X (.BinOp a .Add b pos) ρ Φ := by
  refine ee_bin op_catA ?_ h
  intro S Hb H x y dx dy Φ Q ok rx ry h q
  cases dx with
  | tup i =>
    cases dy with
    | tup j =>
      obtain ⟨a, xs, rfl, ha, ra⟩ := rx.tup_
      obtain ⟨b, ys, rfl, hb, rb⟩ := ry.tup_
      refine ⟨a, b, xs, ys, rfl, rfl, same_t ok.ex ha, same_t ok.ex hb, by rw [ra.len, rb.len]; exact h.1, fun e => ?_, fun e1 e2 => ?_, fun e1 e2 p hp => ?_⟩
      · subst e
        cases ra
        exact q.here ok (.tup hb rb) h.2
      · subst e2
        cases rb
        have h2 := h.2
        rw [List.append_nil] at h2
        exact q.here ok (.tup ha ra) h2
      · exact q.made ok hp (.tup (SqT.of upd_same) ((ra.app rb).mono (same_new (ok.base hp)))) h.2
    | _ => exact h.elim
  | _ => exact h.elim
end
end Lg
namespace Lg
open L2 PyProof.Rows PySem PySem.Spec
section
variable {K : PySem.W.Frag} {S : Option Addr} {H : Hp}
/-! ### dicts -/
theorem RpK.val : ∀ {vs : List (Key × V)} {ds : List (Str × D)} (k : Str), RpK K S H vs ds → (∃ v d, valV vs (.inr k) = some v ∧ dget ds k = some d ∧ Rp K S H v d) ∨ (valV vs (.inr k) = none ∧ dget ds k = none)
  | _, _, k, .nil => .inr ⟨rfl, rfl⟩
  | _, _, k, .cons (k := k') (v := v) (d := d) (vs := vs) (ds := ds) r t => by
    by_cases c : k' = k
    · refine .inl ⟨v, d, valV_pos (by show (Sum.inr k' : Key) = Sum.inr k; rw [c]), ?_, r⟩
      unfold dget
      rw [List.find?_cons]
      simp [c]
    · have n1 : ¬ (Sum.inr k' : Key) = Sum.inr k := fun z => c (Sum.inr.inj z)
      have e : dget ((k', d) :: ds) k = dget ds k := by
        unfold dget
        rw [List.find?_cons]
        simp [c]
      rw [valV_neg n1, e]
      exact RpK.val k t
theorem RpK.val_some {vs : List (Key × V)} {ds : List (Str × D)} {k : Str} {d : D} (r : RpK K S H vs ds) (h : dget ds k = some d) : ∃ v, valV vs (.inr k) = some v ∧ Rp K S H v d := by
  rcases r.val k with ⟨v, d', h1, h2, h3⟩ | ⟨_, h2⟩
  · rw [h2] at h
    cases h
    exact ⟨v, h1, h3⟩
  · rw [h2] at h
    cases h
theorem RpK.val_none {vs : List (Key × V)} {ds : List (Str × D)} {k : Str} (r : RpK K S H vs ds) (h : dget ds k = none) : valV vs (.inr k) = none := by
  rcases r.val k with ⟨v, d', h1, h2, h3⟩ | ⟨h1, _⟩
  · rw [h2] at h
    cases h
  · exact h1
theorem RpK.val_is {vs : List (Key × V)} {ds : List (Str × D)} (k : Str) (r : RpK K S H vs ds) : (valV vs (.inr k)).isSome = (dget ds k).isSome := by
  rcases r.val k with ⟨v, d', h1, h2, h3⟩ | ⟨h1, h2⟩
  · rw [h1, h2]
    rfl
  · rw [h1, h2]
    rfl
theorem dec_inr (a b : Str) : decide ((Sum.inr a : Key) = Sum.inr b) = decide (a = b) := key_rr a b
theorem RpK.any {vs : List (Key × V)} {ds : List (Str × D)} {k : Str} (r : RpK K S H vs ds) : (vs.any fun kv => decide (kv.1 = Sum.inr k)) = ds.any fun kv => decide (kv.1 = k) := by
  match r with
  | .nil => rfl
  | .cons (k := k') _ t =>
    rw [List.any_cons, List.any_cons, RpK.any t]
    show (decide ((Sum.inr k' : Key) = Sum.inr k) || _) = _
    rw [dec_inr]
theorem RpK.mapPut {vs : List (Key × V)} {ds : List (Str × D)} {k : Str} {v : V} {d : D} (r : RpK K S H vs ds) (h : Rp K S H v d) :
    RpK K S H (vs.map fun kv => if kv.1 = Sum.inr k then (kv.1, v) else kv) (ds.map fun kv => if kv.1 = k then (kv.1, d) else kv) := by
  match r with
  | .nil => exact .nil
  | .cons (k := k') (v := v') (d := d') q t =>
    rw [List.map_cons]; rw [List.map_cons]
    by_cases c : k' = k
    · have c' : (Sum.inr k' : Key) = Sum.inr k := by rw [c]
      rw [if_pos c, if_pos c']
      exact .cons h (RpK.mapPut t h)
    · have c' : ¬ (Sum.inr k' : Key) = Sum.inr k := fun z => c (Sum.inr.inj z)
      rw [if_neg c, if_neg c']
      exact .cons q (RpK.mapPut t h)
theorem RpK.app {vs ws : List (Key × V)} {ds es : List (Str × D)} (r : RpK K S H vs ds) (q : RpK K S H ws es) : RpK K S H (vs ++ ws) (ds ++ es) := by
  match r with
  | .nil => exact q
  | .cons a t => exact .cons a (RpK.app t q)
theorem RpK.put {vs : List (Key × V)} {ds : List (Str × D)} {k : Str} {v : V} {d : D} (r : RpK K S H vs ds) (h : Rp K S H v d) : RpK K S H (putK vs (.inr k) v) (dput ds k d) := by
  unfold putK dput
  rw [r.any]
  by_cases c : (ds.any fun kv => decide (kv.1 = k)) = true
  · rw [if_pos c, if_pos c]
    exact r.mapPut h
  · rw [if_neg c, if_neg c]
    exact r.app (.cons h .nil)
theorem RpK.drop {vs : List (Key × V)} {ds : List (Str × D)} {k : Str} (r : RpK K S H vs ds) : RpK K S H (dropK vs (.inr k)) (ddrop ds k) := by
  match r with
  | .nil => exact .nil
  | .cons (k := k') (v := v') (d := d') q t =>
    unfold dropK ddrop
    rw [List.filter_cons]; rw [List.filter_cons]
    by_cases c : k' = k
    · rw [if_neg (by simp [c]), if_neg (by simp [c])]
      exact RpK.drop t
    · have c' : ¬ (Sum.inr k' : Key) = Sum.inr k := fun z => c (Sum.inr.inj z)
      rw [if_pos (by simp [c']), if_pos (by simp [c])]
      exact .cons q (RpK.drop t)
theorem dput_len (ds : List (Str × D)) (k : Str) (d : D) : (dput ds k d).length ≤ ds.length + 1 := by
  unfold dput
  split
  · rw [List.length_map]
    exact Nat.le_succ _
  · rw [List.length_append]
    exact Nat.le_refl _

/-! ### comparisons -/
def eqS : D → D → Option Bool
  | .int i, .int j => some (decide (i = j))
  | .str i, .str j => some (decide (i = j))
  | .bl i, .bl j => some (decide (i = j))
  | .non, .non => some true
  | .non, .str _ => some false
  | .str _, .non => some false
  | .non, .int _ => some false
  | .int _, .non => some false
  | _, _ => none
def flat : D → Option V
  | .non => some .non
  | .bl b => some (.bl b)
  | .int b => some (.int b)
  | .str b => some (.str b)
  | _ => none
theorem eqS_flat {x y : D} {b : Bool} (h : eqS x y = some b) : ∃ u v, flat x = some u ∧ flat y = some v ∧ scal u v = true ∧ decide (u = v) = b := by
  unfold eqS at h
  split at h
  all_goals first
    | (cases h; done)
    | (refine ⟨_, _, rfl, rfl, rfl, ?_⟩; rw [← Option.some.inj h]; first | (exact decide_eq_decide.mpr ⟨fun z => by injection z, fun z => by rw [z]⟩) | rfl)
theorem Rp.flat_ {v : V} {d : D} {u : V} (r : Rp K S H v d) (h : flat d = some u) : v = u := by
  cases r <;> first | (cases h; rfl) | cases h
def EqS (neg : Bool) (x y : D) (Φ : D → Prop) : Prop := ∃ b, eqS x y = some b ∧ Φ (.bl (if neg then !b else b))
theorem rd_eqS : RD2 K rEq (EqS false) := by
  intro S Hb H x y dx dy Φ Q ok rx ry h q
  obtain ⟨b, e, p⟩ := h
  obtain ⟨u, v, h1, h2, h3, h4⟩ := eqS_flat e
  rw [rx.flat_ h1, ry.flat_ h2]
  refine ⟨h3, ?_⟩
  rw [h4]
  exact q.here ok (.bl _) p
theorem rd_neS : RD2 K rNe (EqS true) := by
  intro S Hb H x y dx dy Φ Q ok rx ry h q
  obtain ⟨b, e, p⟩ := h
  obtain ⟨u, v, h1, h2, h3, h4⟩ := eqS_flat e
  rw [rx.flat_ h1, ry.flat_ h2]
  refine ⟨h3, ?_⟩
  rw [h4]
  exact q.here ok (.bl _) p
/-- one sign in a text -/
def InS (neg : Bool) (x y : D) (Φ : D → Prop) : Prop := ∃ (c : Nat) (z : Str), x = .str ⟨#[c]⟩ ∧ y = .str z ∧ Φ (.bl (if neg then !decide (c ∈ z.cps.toList) else decide (c ∈ z.cps.toList)))
theorem rd_inS : RD2 K (fun x y H Q => ∃ (c : Nat) (z : Str), x = .str ⟨#[c]⟩ ∧ y = .str z ∧ Q (.bl (decide (c ∈ z.cps.toList))) H) (InS false) := by
  intro S Hb H x y dx dy Φ Q ok rx ry h q
  obtain ⟨c, z, rfl, rfl, p⟩ := h
  exact ⟨c, z, rx.str_, ry.str_, q.here ok (.bl _) p⟩
theorem rd_notInS : RD2 K (fun x y H Q => ∃ (c : Nat) (z : Str), x = .str ⟨#[c]⟩ ∧ y = .str z ∧ Q (.bl (!decide (c ∈ z.cps.toList))) H) (InS true) := by
  intro S Hb H x y dx dy Φ Q ok rx ry h q
  obtain ⟨c, z, rfl, rfl, p⟩ := h
  exact ⟨c, z, rx.str_, ry.str_, q.here ok (.bl _) p⟩
def isNon : D → Bool
  | .non => true
  | _ => false
def IsN (neg : Bool) (x y : D) (Φ : D → Prop) : Prop := y = .non ∧ ∃ b, Lg.isNon x = b ∧ Φ (.bl (if neg then !b else b))
theorem isN_dec {v : V} {d : D} (r : Rp K S H v d) : decide (v = .non) = Lg.isNon d := by
  cases r <;> first | rfl | exact decide_eq_false (fun z => nomatch z)
theorem rd_isN : RD2 K (fun x y H Q => y = .non ∧ Q (.bl (decide (x = .non))) H) (IsN false) := by
  intro S Hb H x y dx dy Φ Q ok rx ry h q
  obtain ⟨rfl, b, e, p⟩ := h
  refine ⟨ry.non_, ?_⟩
  rw [isN_dec rx, e]
  exact q.here ok (.bl _) p
theorem rd_notN : RD2 K (fun x y H Q => y = .non ∧ Q (.bl (!decide (x = .non))) H) (IsN true) := by
  intro S Hb H x y dx dy Φ Q ok rx ry h q
  obtain ⟨rfl, b, e, p⟩ := h
  refine ⟨ry.non_, ?_⟩
  rw [isN_dec rx, e]
  exact q.here ok (.bl _) p
def IsB (neg : Bool) : D → D → (D → Prop) → Prop
  | .bl a, .bl b, Φ => Φ (.bl (if neg then !decide (a = b) else decide (a = b)))
  | _, _, _ => False
theorem rd_isB : RD2 K (fun x y H Q => ∃ a b, x = .bl a ∧ y = .bl b ∧ Q (.bl (decide (a = b))) H) (IsB false) := by
  intro S Hb H x y dx dy Φ Q ok rx ry h q
  cases dx with
  | bl i =>
    cases dy with
    | bl j => exact ⟨i, j, rx.bl_, ry.bl_, q.here ok (.bl _) h⟩
    | _ => exact h.elim
  | _ => exact h.elim
theorem rd_notB : RD2 K (fun x y H Q => ∃ a b, x = .bl a ∧ y = .bl b ∧ Q (.bl (!decide (a = b))) H) (IsB true) := by
  intro S Hb H x y dx dy Φ Q ok rx ry h q
  cases dx with
  | bl i =>
    cases dy with
    | bl j => exact ⟨i, j, rx.bl_, ry.bl_, q.here ok (.bl _) h⟩
    | _ => exact h.elim
  | _ => exact h.elim
/-- x in a list or tuple of flat things -/
theorem RpL.flats : ∀ {vs : List V} {ds : List D} {ws : List V}, RpL K S H vs ds → ds.mapM flat = some ws → vs = ws
  | _, _, _, .nil, h => by
    cases h
    rfl
  | _, _, ws, .cons (d := d) (ds := ds) r t, h => by
    rw [List.mapM_cons] at h
    cases e1 : flat d with
    | none =>
      rw [e1] at h
      cases h
    | some u =>
      rw [e1] at h
      cases e2 : ds.mapM flat with
      | none =>
        rw [e2] at h
        cases h
      | some us =>
        rw [e2] at h
        cases h
        rw [r.flat_ e1, RpL.flats t e2]
def InT (neg : Bool) (x y : D) (Φ : D → Prop) : Prop := ∃ ds u ws, y = .tup ds ∧ flat x = some u ∧ ds.mapM flat = some ws ∧ flatV u = true ∧ ws.all flatV = true ∧ Φ (.bl (if neg then !inV u ws else inV u ws))
theorem rd_inT {neg : Bool} : RD2 K (rIn K neg) (InT neg) := by
  intro S Hb H x y dx dy Φ Q ok rx ry h q
  obtain ⟨ds, u, ws, rfl, h1, h2, h3, h4, p⟩ := h
  obtain ⟨a, xs, rfl, ha, ra⟩ := ry.tup_
  have e := ra.flats h2
  subst e
  rw [rx.flat_ h1]
  exact ⟨a, xs, rfl, .inr (same_t ok.ex ha), h3, h4, q.here ok (.bl _) p⟩
end
section
variable {X : Cx} {e a b c : Expr} {es : List Expr} {ρ : List Sl} {Φ : D → Prop} {Ψ : Bool → Prop} {pos : Pos}
/-! ### k in d, d[k] -/
def InD (neg : Bool) (y x : D) (Φ : D → Prop) : Prop := ∃ kvs k, x = .dct kvs ∧ y = .str k ∧ Φ (.bl (if neg then !(dget kvs k).isSome else (dget kvs k).isSome))
theorem din_ev {K : PySem.W.Frag} {ta tb : TE} {S : Option Addr} {H0 Hb H : Hp} {σ : L2.St} (neg : Bool) (ok : Ok S Hb H) (en : Sls K S H0 Hb H σ ρ) (h : Ev K ta ρ fun y => Ev K tb ρ fun x => InD neg y x Φ) {Q : VK} (q : Post K S Hb H Φ Q) :
    ta σ H fun y H1 => tb σ H1 fun x H2 => ∃ a o, x = .ref a ∧ DGet H2 a y o ∧ Q (.bl (if neg then !o.isSome else o.isSome)) H2 := by
  refine h S H0 Hb H σ ok en _ fun x dx Hb1 H1 g1 rx hx => ?_
  refine hx S H0 Hb1 H1 σ g1.ok (en.grow g1) _ fun y dy Hb2 H2 g2 ry hy => ?_
  obtain ⟨kvs, k, rfl, rfl, p⟩ := hy
  obtain ⟨a, xs, rfl, ha, ra⟩ := ry.dct_
  have ex := (rx.mono g2.pub).str_
  subst ex
  refine ⟨a, _, rfl, DGet.k (k := Sum.inr k) (g2.ok.ex _ _ ha), ?_⟩
  rw [ra.val_is k]
  exact q _ _ _ _ (g1.trans g2) (.bl _) p
theorem tt_din (hu : X.A.units + 1 < cLine) (h : EE X a ρ fun y => EE X b ρ fun x => InD false y x fun z => ∃ k, z = .bl k ∧ Ψ k) (hm : behindInMarks .In b = false := by rfl) : TT X (.Compare a [.In] [b] pos) ρ Ψ := by
  intro S H0 Hb H σ ok en Q q
  refine wT_of (pt_cmp (pc_din hu pe_w pe_w) hm) ?_
  refine din_ev (Q := fun x H1 => ∃ c, x = .bl c ∧ Q c H1) false ok en h fun v d Hb' H' g r p => ?_
  obtain ⟨k, rfl, p⟩ := p
  cases r
  exact ⟨k, rfl, q k Hb' H' g p⟩
theorem tt_dnotin (hu : X.A.units + 1 < cLine) (h : EE X a ρ fun y => EE X b ρ fun x => InD true y x fun z => ∃ k, z = .bl k ∧ Ψ k) (hm : behindInMarks .NotIn b = false := by rfl) : TT X (.Compare a [.NotIn] [b] pos) ρ Ψ := by
  intro S H0 Hb H σ ok en Q q
  refine wT_of (pt_cmp (pc_dnotin hu pe_w pe_w) hm) ?_
  refine din_ev (Q := fun x H1 => ∃ c, x = .bl c ∧ Q c H1) true ok en h fun v d Hb' H' g r p => ?_
  obtain ⟨k, rfl, p⟩ := p
  cases r
  exact ⟨k, rfl, q k Hb' H' g p⟩
def AtD : D → D → (D → Prop) → Prop
  | .dct kvs, .str k, Φ => ∃ d, dget kvs k = some d ∧ Φ d
  | _, _, _ => False
theorem ee_ixD (hu : X.A.units + 1 < cLine) (h : EE X a ρ fun x => EE X b ρ fun y => AtD x y Φ) (hs : NoSl b := by exact fun _ _ => rfl) : EE X (.Subscript a b pos) ρ Φ := by
  intro S H0 Hb H σ ok en Q q
  refine wE_of (pe_dget hu pe_w pe_w hs) ?_
  refine h S H0 Hb H σ ok en _ fun x dx Hb1 H1 g1 rx hx => ?_
  refine hx S H0 Hb1 H1 σ g1.ok (en.grow g1) _ fun y dy Hb2 H2 g2 ry hy => ?_
  cases dx with
  | dct kvs =>
    cases dy with
    | str k =>
      obtain ⟨d, e, p⟩ := (show ∃ d, dget kvs k = some d ∧ Φ d from hy)
      obtain ⟨a, xs, rfl, ha, ra⟩ := (rx.mono g2.pub).dct_
      have ey := ry.str_
      subst ey
      obtain ⟨v, e1, r1⟩ := ra.val_some e
      refine ⟨a, v, rfl, ?_, q _ _ _ _ (g1.trans g2) r1 p⟩
      rw [← e1]
      exact DGet.k (k := Sum.inr k) (g2.ok.ex _ _ ha)
    | _ => exact hy.elim
  | _ => exact hy.elim

/-! ### xs[i], t[i], s[i] -/
theorem atI_rep {K : PySem.W.Frag} {S : Option Addr} {H : Hp} {xs : List V} {ds : List D} {i : Int} {d : D} (r : RpL K S H xs ds) (h : atI ds i = some d) : ∃ v, atI xs i = some v ∧ Rp K S H v d := by
  unfold atI at h ⊢
  rw [r.len]
  cases e : ixN ds.length i with
  | none =>
    rw [e] at h
    cases h
  | some j =>
    rw [e] at h
    exact r.get h
def AtL : D → D → (D → Prop) → Prop
  | .lst ds, .int i, Φ => ∃ d, atI ds i = some d ∧ Φ d
  | _, _, _ => False
def AtT : D → D → (D → Prop) → Prop
  | .tup ds, .int i, Φ => ∃ d, atI ds i = some d ∧ Φ d
  | _, _, _ => False
def AtS : D → D → (D → Prop) → Prop
  | .str z, .int i, Φ => z.length ≤ sizeLine ∧ ∃ c, atI z.cps.toList i = some c ∧ Φ (.str ⟨#[c]⟩)
  | _, _, _ => False
theorem ee_ix {r : R2} {Res : D → D → (D → Prop) → Prop} (ho : IxR X r) (hr : RD2 X.K r Res) (h : EE X a ρ fun x => EE X b ρ fun y => Res x y Φ) (hs : PlainIx b := by exact fun _ _ => rfl) : EE X (.Subscript a b pos) ρ Φ :=
  fun S H0 Hb H σ ok en Q q => wE_of (pe_ix ho pe_w pe_w hs) (ev_op hr h S H0 Hb H σ ok en Q q)
theorem rd_ixL {K : PySem.W.Frag} : RD2 K (rIxL K) AtL := by
  intro S Hb H x y dx dy Φ Q ok rx ry h q
  cases dx with
  | lst ds =>
    cases dy with
    | int i =>
      obtain ⟨d, e, p⟩ := (show ∃ d, atI ds i = some d ∧ Φ d from h)
      obtain ⟨a, xs, rfl, ha, ra⟩ := rx.lst_
      obtain ⟨v, e1, r1⟩ := atI_rep ra e
      exact ⟨a, xs, i, v, rfl, ry.int_, .of (ok.ex _ _ ha), e1, q.here ok r1 p⟩
    | _ => exact h.elim
  | _ => exact h.elim
theorem rd_ixT {K : PySem.W.Frag} : RD2 K (rIxT K) AtT := by
  intro S Hb H x y dx dy Φ Q ok rx ry h q
  cases dx with
  | tup ds =>
    cases dy with
    | int i =>
      obtain ⟨d, e, p⟩ := (show ∃ d, atI ds i = some d ∧ Φ d from h)
      obtain ⟨a, xs, rfl, ha, ra⟩ := rx.tup_
      obtain ⟨v, e1, r1⟩ := atI_rep ra e
      exact ⟨a, xs, i, v, rfl, ry.int_, same_t ok.ex ha, e1, q.here ok r1 p⟩
    | _ => exact h.elim
  | _ => exact h.elim
theorem rd_ixS {K : PySem.W.Frag} : RD2 K rIxS AtS := by
  intro S Hb H x y dx dy Φ Q ok rx ry h q
  cases dx with
  | str z =>
    cases dy with
    | int i =>
      obtain ⟨l, d, e, p⟩ := (show z.length ≤ sizeLine ∧ ∃ c, atI z.cps.toList i = some c ∧ Φ (.str ⟨#[c]⟩) from h)
      exact ⟨z, i, d, rx.str_, ry.int_, l, e, q.here ok (.str _) p⟩
    | _ => exact h.elim
  | _ => exact h.elim
theorem ee_ixL (h : EE X a ρ fun x => EE X b ρ fun y => AtL x y Φ) (hs : PlainIx b := by exact fun _ _ => rfl) : EE X (.Subscript a b pos) ρ Φ := ee_ix ix_list rd_ixL h hs
theorem ee_ixT (h : EE X a ρ fun x => EE X b ρ fun y => AtT x y Φ) (hs : PlainIx b := by exact fun _ _ => rfl) : EE X (.Subscript a b pos) ρ Φ := ee_ix ix_tup rd_ixT h hs
theorem ee_ixS (h : EE X a ρ fun x => EE X b ρ fun y => AtS x y Φ) (hs : PlainIx b := by exact fun _ _ => rfl) : EE X (.Subscript a b pos) ρ Φ := ee_ix ix_str rd_ixS h hs

/-! ### slices -/
def OO (X : Cx) (o : Option Expr) (ρ : List Sl) (Φ : Option Int → Prop) : Prop := match o with
  | none => Φ none
  | some e => EE X e ρ fun d => ∃ i, d = .int i ∧ Φ (some i)
def oT (X : Cx) : Option Expr → TO
  | none => tNoPart
  | some e => tPart (wE X e)
theorem po_w {o : Option Expr} : PO X o (oT X o) := by
  cases o with
  | none => exact po_none
  | some e => exact po_some pe_w
theorem oo_run {K : PySem.W.Frag} {o : Option Expr} {S : Option Addr} {H0 Hb H : Hp} {σ : L2.St} {Φo : Option Int → Prop} (hK : K = X.K) (ok : Ok S Hb H) (en : Sls K S H0 Hb H σ ρ) (h : OO X o ρ Φo) {Q : Option Int → Hp → Prop} (q : ∀ i Hb' H', Grow S Hb H Hb' H' → Φo i → Q i H') : oT X o σ H Q := by
  subst hK
  cases o with
  | none => exact q none Hb H (.refl ok) h
  | some e =>
    refine h S H0 Hb H σ ok en _ fun v d Hb' H' g r p => ?_
    obtain ⟨i, rfl, p⟩ := p
    exact ⟨i, r.int_, q _ _ _ g p⟩
def cutD (xs : List D) (lo hi : Option Int) : List D := (xs.drop (HT.sIx xs.length 0 lo)).take (HT.sIx xs.length xs.length hi - HT.sIx xs.length 0 lo)
theorem RpL.cut {K : PySem.W.Frag} {S : Option Addr} {H : Hp} {xs : List V} {ds : List D} (r : RpL K S H xs ds) (lo hi : Option Int) : RpL K S H (cutV xs lo hi) (cutD ds lo hi) := by
  unfold cutV cutD
  rw [r.len]
  exact (r.drop _).take _
def RDS (K : PySem.W.Frag) (r : V → Option Int → Option Int → Hp → VK → Prop) (Res : D → Option Int → Option Int → (D → Prop) → Prop) : Prop :=
  ∀ S Hb H x dx lo hi Φ Q, Ok S Hb H → Rp K S Hb x dx → Res dx lo hi Φ → Post K S Hb H Φ Q → r x lo hi H Q
theorem ee_sl {r : V → Option Int → Option Int → Hp → VK → Prop} {Res : D → Option Int → Option Int → (D → Prop) → Prop} {lo hi : Option Expr} {p2 : Pos} (hs : SlR X r) (hr : RDS X.K r Res)
    (h : EE X a ρ fun x => OO X lo ρ fun l => OO X hi ρ fun u => Res x l u Φ) : EE X (.Subscript a (.Slice lo hi none p2) pos) ρ Φ := by
  intro S H0 Hb H σ ok en Q q
  refine wE_of (pe_slice hs pe_w po_w po_w) ?_
  refine h S H0 Hb H σ ok en _ fun x dx Hb1 H1 g1 rx hx => ?_
  refine oo_run rfl g1.ok (en.grow g1) hx fun l Hb2 H2 g2 hl => ?_
  refine oo_run rfl g2.ok ((en.grow g1).grow g2) hl fun u Hb3 H3 g3 hr3 => ?_
  exact hr S Hb3 H3 x dx l u Φ Q g3.ok (rx.mono (g2.pub.trans g3.pub)) hr3 (q.grow (g1.trans (g2.trans g3)))
def SlL (x : D) (lo hi : Option Int) (Φ : D → Prop) : Prop := match x with
  | .lst ds => Φ (.lst (cutD ds lo hi))
  | .flst ds => Φ (.lst (cutD ds lo hi))
  | _ => False
def SlT (x : D) (lo hi : Option Int) (Φ : D → Prop) : Prop := match x with
  | .tup ds => Φ (.tup (cutD ds lo hi))
  | _ => False
def SlS (x : D) (lo hi : Option Int) (Φ : D → Prop) : Prop := match x with
  | .str z => z.length ≤ sizeLine ∧ Φ (.str (cutS z lo hi))
  | _ => False
theorem rds_L {K : PySem.W.Frag} : RDS K (rSlL K) SlL := by
  intro S Hb H x dx lo hi Φ Q ok rx h q
  cases dx with
  | lst ds =>
    obtain ⟨a, xs, rfl, ha, ra⟩ := rx.lst_
    exact ⟨a, xs, rfl, .of (ok.ex _ _ ha), fun p hp => q.made ok hp (.lst upd_same ((ra.cut lo hi).mono (same_new (ok.base hp)))) h⟩
  | flst ds =>
    obtain ⟨a, xs, rfl, ha, ra⟩ := rx.flst_
    exact ⟨a, xs, rfl, ok.ex.seq ha, fun p hp => q.made ok hp (.lst upd_same ((ra.cut lo hi).mono (same_new (ok.base hp)))) h⟩
  | _ => exact h.elim
theorem rds_T {K : PySem.W.Frag} : RDS K (rSlA K) SlT := by
  intro S Hb H x dx lo hi Φ Q ok rx h q
  cases dx with
  | tup ds =>
    have h : Φ (.tup (cutD ds lo hi)) := h
    obtain ⟨a, xs, rfl, ha, ra⟩ := rx.tup_
    refine ⟨a, xs, rfl, same_t ok.ex ha, fun e => ?_, fun _ p hp => q.made ok hp (.tup (.of upd_same) ((ra.cut lo hi).mono (same_new (ok.base hp)))) h⟩
    refine q.here ok rx ?_
    have e2 : cutD ds lo hi = ds := by
      unfold cutD
      rw [← ra.len, e.1, e.2, List.drop_zero, Nat.sub_zero, ra.len, List.take_length]
    rw [e2] at h
    exact h
  | _ => exact h.elim
theorem rds_S {K : PySem.W.Frag} : RDS K rSlS SlS := by
  intro S Hb H x dx lo hi Φ Q ok rx h q
  cases dx with
  | str z =>
    obtain ⟨l, p⟩ := (show z.length ≤ sizeLine ∧ Φ (.str (cutS z lo hi)) from h)
    exact ⟨z, rx.str_, l, q.here ok (.str _) p⟩
  | _ => exact h.elim
theorem ee_slL {lo hi : Option Expr} {p2 : Pos} (h : EE X a ρ fun x => OO X lo ρ fun l => OO X hi ρ fun u => SlL x l u Φ) : EE X (.Subscript a (.Slice lo hi none p2) pos) ρ Φ := ee_sl sl_list rds_L h
theorem ee_slT {lo hi : Option Expr} {p2 : Pos} (h : EE X a ρ fun x => OO X lo ρ fun l => OO X hi ρ fun u => SlT x l u Φ) : EE X (.Subscript a (.Slice lo hi none p2) pos) ρ Φ := ee_sl sl_tupA rds_T h
theorem ee_slS {lo hi : Option Expr} {p2 : Pos} (h : EE X a ρ fun x => OO X lo ρ fun l => OO X hi ρ fun u => SlS x l u Φ) : EE X (.Subscript a (.Slice lo hi none p2) pos) ρ Φ := ee_sl sl_str rds_S h
end
end Lg
namespace Lg
open L2 PyProof.Rows PySem PySem.Spec
section
variable {X : Cx} {e a b c : Expr} {es rest : List Expr} {ρ : List Sl} {Φ : D → Prop} {Ψ : Bool → Prop} {pos : Pos}
/-! ### and, or, not -/
theorem tt_not (h : TT X a ρ fun k => Ψ (!k)) : TT X (.UnaryOp .Not a pos) ρ Ψ :=
  fun S H0 Hb H σ ok en Q q => wT_of (pt_not pt_w) (h S H0 Hb H σ ok en _ fun k Hb' H' g p => q _ Hb' H' g p)
theorem tt_bool {op : BoolOp} (h : TW X (.BoolOp op es pos) ρ Ψ) : TT X (.BoolOp op es pos) ρ Ψ :=
  fun S H0 Hb H σ ok en Q q => wT_of pw_w.pt (h S H0 Hb H σ ok en Q q)
theorem tw_and1 (h : TT X a ρ Ψ) : TW X (.BoolOp .And [a] pos) ρ Ψ := fun S H0 Hb H σ ok en Q q => wW_of (pw_and1 pt_w) (h S H0 Hb H σ ok en Q q)
theorem tw_or1 (h : TT X a ρ Ψ) : TW X (.BoolOp .Or [a] pos) ρ Ψ := fun S H0 Hb H σ ok en Q q => wW_of (pw_or1 pt_w) (h S H0 Hb H σ ok en Q q)
theorem tw_and (h : TT X a ρ fun k => (k = true → TW X (.BoolOp .And (b :: rest) pos) ρ Ψ) ∧ (k = false → Ψ false)) : TW X (.BoolOp .And (a :: b :: rest) pos) ρ Ψ := by
  intro S H0 Hb H σ ok en Q q
  refine wW_of (pw_and pt_w pw_w) ?_
  refine h S H0 Hb H σ ok en _ fun k Hb' H' g p => ?_
  cases k with
  | true => exact p.1 rfl S H0 Hb' H' σ g.ok (en.grow g) Q fun k Hb2 H2 g2 p2 => q k Hb2 H2 (g.trans g2) p2
  | false => exact q false Hb' H' g (p.2 rfl)
theorem tw_or (h : TT X a ρ fun k => (k = true → Ψ true) ∧ (k = false → TW X (.BoolOp .Or (b :: rest) pos) ρ Ψ)) : TW X (.BoolOp .Or (a :: b :: rest) pos) ρ Ψ := by
  intro S H0 Hb H σ ok en Q q
  refine wW_of (pw_or pt_w pw_w) ?_
  refine h S H0 Hb H σ ok en _ fun k Hb' H' g p => ?_
  cases k with
  | false => exact p.2 rfl S H0 Hb' H' σ g.ok (en.grow g) Q fun k Hb2 H2 g2 p2 => q k Hb2 H2 (g.trans g2) p2
  | true => exact q true Hb' H' g (p.1 rfl)
/-- .. as values -/
theorem ee_one {op : BoolOp} (h : EE X a ρ Φ) : EE X (.BoolOp op [a] pos) ρ Φ := fun S H0 Hb H σ ok en Q q => wE_of (pe_one pe_w) (h S H0 Hb H σ ok en Q q)
theorem ee_and (h : EE X a ρ fun d => ∃ k, d = .bl k ∧ (k = true → EE X (.BoolOp .And (b :: rest) pos) ρ Φ) ∧ (k = false → Φ (.bl false))) : EE X (.BoolOp .And (a :: b :: rest) pos) ρ Φ := by
  intro S H0 Hb H σ ok en Q q
  refine wE_of (pe_and pe_w pe_w) ?_
  refine h S H0 Hb H σ ok en _ fun v d Hb' H' g r p => ?_
  obtain ⟨k, rfl, p1, p2⟩ := p
  refine ⟨k, r.bl_, ?_⟩
  cases k with
  | true => exact p1 rfl S H0 Hb' H' σ g.ok (en.grow g) Q (q.grow g)
  | false => exact q _ _ _ _ g (.bl false) (p2 rfl)
theorem ee_or (h : EE X a ρ fun d => ∃ k, d = .bl k ∧ (k = true → Φ (.bl true)) ∧ (k = false → EE X (.BoolOp .Or (b :: rest) pos) ρ Φ)) : EE X (.BoolOp .Or (a :: b :: rest) pos) ρ Φ := by
  intro S H0 Hb H σ ok en Q q
  refine wE_of (pe_or pe_w pe_w) ?_
  refine h S H0 Hb H σ ok en _ fun v d Hb' H' g r p => ?_
  obtain ⟨k, rfl, p1, p2⟩ := p
  refine ⟨k, r.bl_, ?_⟩
  cases k with
  | false => exact p2 rfl S H0 Hb' H' σ g.ok (en.grow g) Q (q.grow g)
  | true => exact q _ _ _ _ g (.bl true) (p1 rfl)
theorem ee_not (h : EE X a ρ fun d => ∃ k, d = .bl k ∧ Φ (.bl (!k))) : EE X (.UnaryOp .Not a pos) ρ Φ := by
  intro S H0 Hb H σ ok en Q q
  refine wE_of (pe_not pe_w) ?_
  refine h S H0 Hb H σ ok en _ fun v d Hb' H' g r p => ?_
  obtain ⟨k, rfl, p⟩ := p
  exact ⟨k, r.bl_, q _ _ _ _ g (.bl _) p⟩
/-- text or .. -/
theorem ee_orS (h : EE X a ρ fun d => ∃ z : Str, d = .str z ∧ z.length ≤ sizeLine ∧ (z.length ≠ 0 → Φ (.str z)) ∧ (z.length = 0 → EE X (.BoolOp .Or (b :: rest) pos) ρ Φ)) : EE X (.BoolOp .Or (a :: b :: rest) pos) ρ Φ := by
  intro S H0 Hb H σ ok en Q q
  refine wE_of (pe_orT pe_w pe_w) ?_
  refine h S H0 Hb H σ ok en _ fun v d Hb' H' g r p => ?_
  obtain ⟨z, rfl, hl, p1, p2⟩ := p
  have e := r.str_
  subst e
  refine ⟨((z.length : Int) != 0), ⟨hl, rfl⟩, ?_⟩
  by_cases c : z.length = 0
  · rw [if_neg (by simp [c])]
    exact p2 c S H0 Hb' H' σ g.ok (en.grow g) Q (q.grow g)
  · rw [if_pos (by simp [c])]
    exact q _ _ _ _ g r (p1 c)
theorem ee_neg (h : EE X a ρ fun d => ∃ i, d = .int i ∧ Φ (.int (-i))) : EE X (.UnaryOp .USub a pos) ρ Φ := by
  intro S H0 Hb H σ ok en Q q
  refine wE_of (pe_un un_neg pe_w) ?_
  refine h S H0 Hb H σ ok en _ fun v d Hb' H' g r p => ?_
  obtain ⟨i, rfl, p⟩ := p
  exact ⟨i, r.int_, q _ _ _ _ g (.int _) p⟩
theorem ee_if (h : TT X c ρ fun k => (k = true → EE X a ρ Φ) ∧ (k = false → EE X b ρ Φ)) : EE X (.IfExp c a b pos) ρ Φ := by
  intro S H0 Hb H σ ok en Q q
  refine wE_of (pe_ifExp pt_w pe_w pe_w) ?_
  refine h S H0 Hb H σ ok en _ fun k Hb' H' g p => ?_
  cases k with
  | true => exact p.1 rfl S H0 Hb' H' σ g.ok (en.grow g) Q (q.grow g)
  | false => exact p.2 rfl S H0 Hb' H' σ g.ok (en.grow g) Q (q.grow g)
theorem ee_chain {op op' : CmpOp} {r r' : R2} {Res Res' : D → D → (D → Prop) → Prop} (ho : OpR X (compareOp op) r) (hr : RD2 X.K r Res) (ho' : OpR X (compareOp op') r') (hr' : RD2 X.K r' Res')
    (h : EE X a ρ fun x => EE X b ρ fun y => Res x y fun z => ∃ k, z = .bl k ∧ (k = true → EE X c ρ fun w => Res' y w Φ) ∧ (k = false → Φ (.bl false)))
    (hm : lastMarks [op, op'] [b, c] = false := by with_unfolding_all rfl) : EE X (.Compare a [op, op'] [b, c] pos) ρ Φ := by
  intro S H0 Hb H σ ok en Q q
  refine wE_of (pe_chain ho ho' pe_w pe_w pe_w hm) ?_
  refine h S H0 Hb H σ ok en _ fun x dx Hb1 H1 g1 rx hx => ?_
  refine hx S H0 Hb1 H1 σ g1.ok (en.grow g1) _ fun y dy Hb2 H2 g2 ry hy => ?_
  refine hr S Hb2 H2 x y dx dy _ _ g2.ok (rx.mono g2.pub) ry hy fun z dz Hb3 H3 g3 rz hz => ?_
  obtain ⟨k, rfl, p1, p2⟩ := hz
  have g123 := g1.trans (g2.trans g3)
  refine ⟨k, rz.bl_, ?_⟩
  cases k with
  | true =>
    refine p1 rfl S H0 Hb3 H3 σ g3.ok (en.grow g123) _ fun w dw Hb4 H4 g4 rw_ hw => ?_
    exact hr' S Hb4 H4 y w dy dw Φ Q g4.ok (ry.mono (g3.pub.trans g4.pub)) rw_ hw (q.grow (g123.trans g4))
  | false => exact q _ _ _ _ g123 (.bl false) (p2 rfl)

/-! ### argument lists, displays -/
theorem aa_nil {Ω : List D → Prop} (h : Ω []) : AA X [] ρ Ω := fun S H0 Hb H σ ok en Q q => wA_of pa_nil (q [] [] Hb H (.refl ok) .nil h)
theorem aa_cons {Ω : List D → Prop} (h : EE X e ρ fun d => AA X es ρ fun ds => Ω (d :: ds)) (hs : starEach (e :: es) X.env = (false, eval e X.env) :: starEach es X.env := by rfl) : AA X (e :: es) ρ Ω := by
  intro S H0 Hb H σ ok en Q q
  refine wA_of (pa_cons pe_w pa_w hs) ?_
  refine h S H0 Hb H σ ok en _ fun v d Hb1 H1 g1 r1 p1 => ?_
  refine p1 S H0 Hb1 H1 σ g1.ok (en.grow g1) _ fun vs ds Hb2 H2 g2 r2 p2 => ?_
  exact q _ _ _ _ (g1.trans g2) (.cons (r1.mono g2.pub) r2) p2
theorem sz1000 {n : Nat} (h : n ≤ 100000) : n ≤ sizeLine := Nat.le_trans h (by decide)
theorem ee_tup {k : Nat} (h : AA X es ρ fun ds => ds.length ≤ 100000 ∧ Φ (.tup ds)) : EE X (.Tuple es k pos) ρ Φ := by
  intro S H0 Hb H σ ok en Q q
  refine wE_of (pe_tup pa_w) ?_
  refine h S H0 Hb H σ ok en _ fun vs ds Hb1 H1 g1 r1 p1 => ?_
  refine ⟨sz1000 (by rw [r1.len]; exact p1.1), fun p hp => ?_⟩
  exact (q.grow g1).made g1.ok hp (.tup (.of upd_same) (r1.mono (same_new (g1.ok.base hp)))) p1.2
theorem ee_lst (h : AA X es ρ fun ds => ds.length ≤ 100000 ∧ Φ (.lst ds)) : EE X (.List es pos) ρ Φ := by
  intro S H0 Hb H σ ok en Q q
  refine wE_of (pe_lst pa_w) ?_
  refine h S H0 Hb H σ ok en _ fun vs ds Hb1 H1 g1 r1 p1 => ?_
  refine ⟨sz1000 (by rw [r1.len]; exact p1.1), fun p hp => ?_⟩
  exact (q.grow g1).made g1.ok hp (.lst upd_same (r1.mono (same_new (g1.ok.base hp)))) p1.2
theorem ee_dnew (h : Φ (.dct [])) : EE X (.Dict [] [] pos) ρ Φ := by
  intro S H0 Hb H σ ok en Q q
  refine wE_of pe_dnewK ?_
  intro p hp
  exact q.made ok hp (.dct upd_same .nil) h
/-- {k: v}, one pair -/
theorem ee_dict1 {k v : Expr} (h : EE X k ρ fun dk => EE X v ρ fun dv => ∃ z, dk = .str z ∧ Φ (.dct [(z, dv)])) : EE X (.Dict [some k] [v] pos) ρ Φ := by
  intro S H0 Hb H σ ok en Q q
  refine wE_of (pe_disp (pps_cons pe_w pe_w pps_nil) (by rfl) (by rfl) (fun z => by cases z) (Nat.le_of_ble_eq_true rfl)) ?_
  intro p hp
  have g0 : Grow S Hb H Hb (upd H p (.dK [])) := .hid ok hp
  refine h S H0 Hb _ σ g0.ok (en.grow g0) _ fun x dx Hb1 H1 g1 rx hx => ?_
  refine hx S H0 Hb1 H1 σ g1.ok (en.grow (g0.trans g1)) _ fun y dy Hb2 H2 g2 ry hy => ?_
  obtain ⟨z, rfl, f⟩ := hy
  have ex := rx.str_
  subst ex
  have g := g0.trans (g1.trans g2)
  have hb : Hb p = none := ok.base hp
  have hb1 : Hb1 p = none := g1.sep p _ upd_same hb
  have s1 : S ≠ some p := ok.ne hp
  have h1 : H1 p = some (.dK []) := g1.prv p _ upd_same s1
  have hb2 : Hb2 p = none := g2.sep p _ h1 hb1
  have h2 : H2 p = some (.dK []) := g2.prv p _ h1 s1
  refine ⟨h2, [(.inr z, y)], rfl, Nat.le_of_ble_eq_true rfl, ?_⟩
  have e : mergeK [] [((.inr z : Key), y)] = [(.inr z, y)] := rfl
  rw [e]
  have gm := (Grow.mut (o := .dK [(.inr z, y)]) g hp hb2).tell hp hb2 upd_same
  exact q _ _ _ _ gm (.dct upd_same (.cons (ry.mono (same_new hb2)) .nil)) f

/-! ### calls -/
def RDC (K : PySem.W.Frag) (r : List V → Hp → VK → Prop) (Res : List D → (D → Prop) → Prop) : Prop :=
  ∀ S Hb H vs ds Φ Q, Ok S Hb H → RpL K S Hb vs ds → Res ds Φ → Post K S Hb H Φ Q → r vs H Q
theorem ee_cb {id : String} {x : Str} {p : Pos} {r : List V → Hp → VK → Prop} {Res : List D → (D → Prop) → Prop} (hc : CallR X (.builtin id) r) (hr : RDC X.K r Res) (hm : X.mg x = none) (hv : bootBuiltins x = some (.builtin id))
    (h : AA X (e :: es) ρ fun ds => Res ds Φ) (hg : Gl X x := by rfl) (hn : x ≠ "__name__" := by decide) (hdb : (x == ("__debug__" : Str)) = false := by decide)
    (he : starEach (e :: es) X.env = (false, eval e X.env) :: starEach es X.env := by rfl) (hpl : (backTo pos (starEach es X.env)).any (·.1) = false := by rfl) : EE X (.Call (.Name x p) (e :: es) [] pos) ρ Φ := by
  intro S H0 Hb H σ ok en Q q
  refine wE_of (pe_callB hc hg hm hv pa_w hn hdb he hpl) ?_
  refine h S H0 Hb H σ ok en _ fun vs ds Hb1 H1 g1 r1 p1 => ?_
  exact hr S Hb1 H1 vs ds Φ Q g1.ok r1 p1 (q.grow g1)
theorem ee_ct {T : String} {x : Str} {p : Pos} {r : List V → Hp → VK → Prop} {Res : List D → (D → Prop) → Prop} (hc : CallR X (.type T) r) (hr : RDC X.K r Res) (hm : X.mg x = none) (hv : bootBuiltins x = some (.type T))
    (h : AA X (e :: es) ρ fun ds => Res ds Φ) (hg : Gl X x := by rfl) (hn : x ≠ "__name__" := by decide) (hdb : (x == ("__debug__" : Str)) = false := by decide)
    (he : starEach (e :: es) X.env = (false, eval e X.env) :: starEach es X.env := by rfl) (hpl : (backTo pos (starEach es X.env)).any (·.1) = false := by rfl) : EE X (.Call (.Name x p) (e :: es) [] pos) ρ Φ := by
  intro S H0 Hb H σ ok en Q q
  refine wE_of (pe_callTy hc hg hm hv pa_w hn hdb he hpl) ?_
  refine h S H0 Hb H σ ok en _ fun vs ds Hb1 H1 g1 r1 p1 => ?_
  exact hr S Hb1 H1 vs ds Φ Q g1.ok r1 p1 (q.grow g1)
/-- a def's contract: arguments, what follows -/
abbrev Con := List D → (D → Prop) → Prop
def spF (K : PySem.W.Frag) (C : Con) : Sp := fun vs H Q _ => ∃ S Hb ds Φ, Ok S Hb H ∧ RpL K S Hb vs ds ∧ C ds Φ ∧ Post K S Hb H Φ Q
structure Fn (P : Program) (w : World) (K : PySem.W.Frag) (mg : Str → Option Value) (base : Heap) (k : Nat) (x : Str) (ps : List Str) (C : Con) : Prop where
  ex : ∃ f fd, FnOk P w K mg base CX0 k f fd ps (spF K C) ∧ mg x = some (.ref f) ∧ PySem.W.keepIn K (.ref f) = true ∧ Binds K fd ps []
theorem ee_call {k j : Nat} {x : Str} {ps : List Str} {C : Con} {p : Pos} (c : Fn X.prog X.w X.K X.mg X.base k x ps C) (hr : Room j X.A) (hk : k ≤ j) (h : AA X (e :: es) ρ fun ds => C ds Φ) (hg : Gl X x := by rfl) (hdb : (x == ("__debug__" : Str)) = false := by decide)
    (he : starEach (e :: es) X.env = (false, eval e X.env) :: starEach es X.env := by rfl) (hpl : (backTo pos (starEach es X.env)).any (·.1) = false := by rfl) : EE X (.Call (.Name x p) (e :: es) [] pos) ρ Φ := by
  intro S H0 Hb H σ ok en Q q
  obtain ⟨f, fd, F, hm, kp, hb⟩ := c.ex
  refine wE_of (pe_call F (hr.mono hk) hg hm kp hb .nil pass0 pa_w hdb he hpl) ?_
  refine h S H0 Hb H σ ok en _ fun vs ds Hb1 H1 g1 r1 p1 => ?_
  show spF X.K C (vs ++ []) H1 Q E0
  rw [List.append_nil]
  exact ⟨S, Hb1, ds, Φ, g1.ok, r1, p1, q.grow g1⟩
theorem ee_call0 {k j : Nat} {x : Str} {ps : List Str} {C : Con} {p : Pos} (c : Fn X.prog X.w X.K X.mg X.base k x ps C) (hr : Room j X.A) (hk : k ≤ j) (h : C [] Φ) (hg : Gl X x := by rfl) (hdb : (x == ("__debug__" : Str)) = false := by decide) : EE X (.Call (.Name x p) [] [] pos) ρ Φ := by
  intro S H0 Hb H σ ok en Q q
  obtain ⟨f, fd, F, hm, kp, hb⟩ := c.ex
  refine wE_of (pe_call0 F (hr.mono hk) hg hm kp hb .nil pass0 hdb) ?_
  exact ⟨S, Hb, [], Φ, ok, .nil, h, q⟩
/-- keyword arguments -/
def wK (X : Cx) (kws : List Keyword) : TA := fun σ H Q => ∀ pos pins s, Inv X pins σ H s → wpAny (model X.prog X.w) X.A (evalAll ((backToKw pos (keywordEach kws X.env)).map (·.2))) (AP X pins σ Q) X.xe s
theorem pk_w {kws : List Keyword} : PK X kws (wK X kws) := ⟨fun pos pins s σ H Q I h => h pos pins s I⟩
def KK (X : Cx) (kws : List Keyword) (ρ : List Sl) (Φ : List D → Prop) : Prop := EvA X.K (wK X kws) ρ Φ
theorem kk_nil {Ω : List D → Prop} (h : Ω []) : KK X [] ρ Ω := fun S H0 Hb H σ ok en Q q pos pins s I => pk_nil.run pos pins s σ H Q I (q [] [] Hb H (.refl ok) .nil h)
theorem kk_cons {Ω : List D → Prop} {kws : List Keyword} {nm : Option Str} {kpos : Pos} (h : EE X e ρ fun d => KK X kws ρ fun ds => Ω (d :: ds)) : KK X (⟨nm, e, kpos⟩ :: kws) ρ Ω := by
  intro S H0 Hb H σ ok en Q q pos pins s I
  refine (pk_cons pe_w pk_w).run pos pins s σ H Q I ?_
  refine h S H0 Hb H σ ok en _ fun v d Hb1 H1 g1 r1 p1 => ?_
  refine p1 S H0 Hb1 H1 σ g1.ok (en.grow g1) _ fun vs ds Hb2 H2 g2 r2 p2 => ?_
  exact q _ _ _ _ (g1.trans g2) (.cons (r1.mono g2.pub) r2) p2
structure FnK (P : Program) (w : World) (K : PySem.W.Frag) (mg : Str → Option Value) (base : Heap) (k : Nat) (x : Str) (ps : List Str) (n : Nat) (ks : List Str) (C : Con) : Prop where
  ex : ∃ f fd, FnOk P w K mg base CX0 k f fd ps (spF K C) ∧ mg x = some (.ref f) ∧ PySem.W.keepIn K (.ref f) = true ∧ KBn K fd ps n ks (fun us ws => us ++ ws) (fun vs zs => vs ++ zs)
theorem ee_callK {k j n : Nat} {x : Str} {ps ks : List Str} {C : Con} {p : Pos} {kws : List Keyword} (c : FnK X.prog X.w X.K X.mg X.base k x ps n ks C) (hr : Room j X.A) (hk : k ≤ j)
    (h : AA X (e :: es) ρ fun ds => KK X kws ρ fun zs => ds.length = n ∧ zs.length = ks.length ∧ C (ds ++ zs) Φ) (hg : Gl X x := by rfl) (hall : (backToKw pos (keywordEach kws X.env)).all (·.1.isSome) = true := by rfl) (hks : (backToKw pos (keywordEach kws X.env)).filterMap (·.1) = ks := by rfl) (hdb : (x == ("__debug__" : Str)) = false := by decide)
    (he : starEach (e :: es) X.env = (false, eval e X.env) :: starEach es X.env := by rfl) (hpl : ((backTo pos (starEach (e :: es) X.env)).any (·.1) || (backToKw pos (keywordEach kws X.env)).any (·.1.isNone)) = false := by rfl) : EE X (.Call (.Name x p) (e :: es) kws pos) ρ Φ := by
  intro S H0 Hb H σ ok en Q q
  obtain ⟨f, fd, F, hm, kp, hb⟩ := c.ex
  refine wE_of (pe_callN F (hr.mono hk) hg hm kp hb pass0 pa_w pk_w hall hks hdb he hpl) ?_
  refine h S H0 Hb H σ ok en _ fun vs ds Hb1 H1 g1 r1 p1 => ?_
  refine p1 S H0 Hb1 H1 σ g1.ok (en.grow g1) _ fun zs es Hb2 H2 g2 r2 p2 => ?_
  obtain ⟨l1, l2, p⟩ := p2
  refine ⟨by rw [r1.len]; exact l1, by rw [r2.len]; exact l2, ?_⟩
  exact ⟨S, Hb2, ds ++ es, Φ, g2.ok, (r1.mono g2.pub).app r2, p, q.grow (g1.trans g2)⟩
end
end Lg
namespace Lg
open L2 PyProof.Rows PySem PySem.Spec
/-! ### statements -/
section
variable (X : Cx)
def wS (sts : List Stmt) : TS := fun D σ H => ∀ pins s, Inv X pins σ H s → wpAny (model X.prog X.w) X.A (execs sts X.env) (SP X pins D) X.xe s
def RR (sts : List Stmt) (ρ : List Sl) (N : List Sl → Prop) (R : D → Prop) : Prop := ∀ S Hb0 H0 Hb H σ, Grow S Hb0 H0 Hb H → Sls X.K S H0 Hb H σ ρ → ∀ D : Ends,
  (∀ σ' ρ' Hb' H', Same Hb Hb' → Grow S Hb0 H0 Hb' H' → Sls X.K S H0 Hb' H' σ' ρ' → N ρ' → D.nx σ' H') → (∀ v d Hb' H', Grow S Hb0 H0 Hb' H' → Rp X.K S Hb' v d → R d → D.rt v H') → wS X sts D σ H
/-! ### targets -/
def wG (tg : Expr) : TG := fun v σ H Q => ∀ pins s u, Inv X pins σ H s → RelV v u → wpAny (model X.prog X.w) X.A (assign tg X.env u) (fun _ s' => ∃ σ' H', Inv X pins σ' H' s' ∧ Q σ' H') X.xe s
def wGs (ts : List Expr) : TGs := fun vs σ H Q => ∀ pins s us, Inv X pins σ H s → Vals vs us → wpAny (model X.prog X.w) X.A (assignInOrder ((assignEach ts X.env).map (·.2)) us) (fun _ s' => ∃ σ' H', Inv X pins σ' H' s' ∧ Q σ' H') X.xe s
def GG (tg : Expr) (d : D) (ρ : List Sl) (Ψ : List Sl → Prop) : Prop := ∀ S H0 Hb H σ v, Ok S Hb H → Sls X.K S H0 Hb H σ ρ → Rp X.K S Hb v d → ∀ Q, (∀ σ' ρ', Sls X.K S H0 Hb H σ' ρ' → Ψ ρ' → Q σ' H) → wG X tg v σ H Q
def GGs (ts : List Expr) (ds : List D) (ρ : List Sl) (Ψ : List Sl → Prop) : Prop := ∀ S H0 Hb H σ vs, Ok S Hb H → Sls X.K S H0 Hb H σ ρ → RpL X.K S Hb vs ds → ∀ Q, (∀ σ' ρ', Sls X.K S H0 Hb H σ' ρ' → Ψ ρ' → Q σ' H) → wGs X ts vs σ H Q
def wI (tg iter : Expr) : TI := fun σ H R => ∀ pins s, Inv X pins σ H s → wpAny (model X.prog X.w) X.A (eval iter X.env) (fun v s1 => wpAny (model X.prog X.w) X.A (pyIter v) (PIE X pins σ tg R) X.xe s1) X.xe s
end
structure WalkD (K : PySem.W.Frag) (S : Option Addr) (Hb : Hp) (J : It) (n : Nat) (f : Nat → D) : Prop where
  go : ∀ i H1 Hb1, Same Hb Hb1 → Ok S Hb1 H1 → i < n → J.go i H1
  yl : ∀ i x H1 Hb1 H2, Same Hb Hb1 → Ok S Hb1 H1 → i < n → J.yld i H1 x H2 → ∃ Hb2, Grow S Hb1 H1 Hb2 H2 ∧ Rp K S Hb2 x (f i)
  st : ∀ H1 Hb1, Same Hb Hb1 → Ok S Hb1 H1 → J.stop n H1
def EvI (K : PySem.W.Frag) (wi : TI) (ρ : List Sl) (Ω : Nat → (Nat → D) → Prop) : Prop := ∀ S H0 Hb H σ, Ok S Hb H → Sls K S H0 Hb H σ ρ → ∀ R : It → Hp → Prop, (∀ J n f Hb' H', Grow S Hb H Hb' H' → WalkD K S Hb' J n f → Ω n f → R J H') → wi σ H R
def II (X : Cx) (tg iter : Expr) (ρ : List Sl) (Ω : Nat → (Nat → D) → Prop) : Prop := EvI X.K (wI X tg iter) ρ Ω
section
variable {X : Cx} {e a b c tg iter : Expr} {es : List Expr} {st : Stmt} {rest body els : List Stmt} {ρ : List Sl} {N : List Sl → Prop} {R : D → Prop} {pos : Pos}
theorem pss_w {sts : List Stmt} : PSs X sts (wS X sts) := ⟨fun pins s σ H D I h => h pins s I⟩
theorem wS_of {sts : List Stmt} {t : TS} {σ : L2.St} {H : Hp} {D : Ends} (h : PSs X sts t) (q : t D σ H) : wS X sts D σ H := fun pins s I => h.run pins s σ H D I q
theorem pg_w : PG X tg (wG X tg) := ⟨fun pins s σ H v u Q I r h => h pins s u I r⟩
theorem pgs_w : PGs X es (wGs X es) := ⟨fun pins s σ H vs us Q I r h => h pins s us I r⟩
theorem pi_w : PI X tg iter (wI X tg iter) := ⟨fun pins s σ H R I h => h pins s I⟩
theorem wG_of {g : TG} {v : V} {σ : L2.St} {H : Hp} {Q : L2.St → Hp → Prop} (h : PG X tg g) (q : g v σ H Q) : wG X tg v σ H Q := fun pins s u I r => h.run pins s σ H v u Q I r q
theorem wGs_of {g : TGs} {v : List V} {σ : L2.St} {H : Hp} {Q : L2.St → Hp → Prop} (h : PGs X es g) (q : g v σ H Q) : wGs X es v σ H Q := fun pins s u I r => h.run pins s σ H v u Q I r q
theorem wI_of {wi : TI} {σ : L2.St} {H : Hp} {R : It → Hp → Prop} (h : PI X tg iter wi) (q : wi σ H R) : wI X tg iter σ H R := fun pins s I => h.run pins s σ H R I q
/-- one statement, then the rest -/
theorem rr_seq {t : TS} (h : PS X st t) (q : ∀ S Hb0 H0 Hb H σ, Grow S Hb0 H0 Hb H → Sls X.K S H0 Hb H σ ρ → ∀ D : Ends,
    (∀ σ' ρ' Hb' H', Same Hb Hb' → Grow S Hb0 H0 Hb' H' → Sls X.K S H0 Hb' H' σ' ρ' → RR X rest ρ' N R → D.nx σ' H') → (∀ v d Hb' H', Grow S Hb0 H0 Hb' H' → Rp X.K S Hb' v d → R d → D.rt v H') → t D σ H) : RR X (st :: rest) ρ N R := by
  intro S Hb0 H0 Hb H σ g en D q1 q2
  refine wS_of (pss_cons h pss_w) ?_
  exact q S Hb0 H0 Hb H σ g en _ (fun σ' ρ' Hb' H' sm g' en' k => k S Hb0 H0 Hb' H' σ' g' en' D (fun σ2 ρ2 Hb2 H2 sm2 => q1 σ2 ρ2 Hb2 H2 (sm.trans sm2)) q2) q2
theorem rr_nil (h : N ρ) : RR X [] ρ N R := fun S Hb0 H0 Hb H σ g en D q1 q2 => wS_of pss_nil (q1 σ ρ Hb H (Same.refl _) g en h)
theorem rr_mono {sts : List Stmt} {N' : List Sl → Prop} {R' : D → Prop} (h : RR X sts ρ N R) (hn : ∀ ρ, N ρ → N' ρ) (hr : ∀ d, R d → R' d) : RR X sts ρ N' R' := fun S Hb0 H0 Hb H σ g en D q1 q2 =>
  h S Hb0 H0 Hb H σ g en D (fun σ' ρ' Hb' H' sm g' en' k => q1 σ' ρ' Hb' H' sm g' en' (hn _ k)) (fun v d Hb' H' g' r k => q2 v d Hb' H' g' r (hr _ k))
theorem rr_ret (h : EE X e ρ R) : RR X (.Return (some e) pos :: rest) ρ N R := by
  refine rr_seq (ps_ret pe_w) fun S Hb0 H0 Hb H σ g en D q1 q2 => ?_
  exact h S H0 Hb H σ g.ok en _ fun v d Hb' H' k r p => q2 v d Hb' H' (g.trans k) r p
theorem rr_if (h : TT X c ρ fun k => (k = true → RR X body ρ (fun ρ' => RR X rest ρ' N R) R) ∧ (k = false → RR X els ρ (fun ρ' => RR X rest ρ' N R) R)) : RR X (.If c body els pos :: rest) ρ N R := by
  refine rr_seq (ps_if pt_w pss_w pss_w) fun S Hb0 H0 Hb H σ g en D q1 q2 => ?_
  refine h S H0 Hb H σ g.ok en _ fun k Hb' H' g' p => ?_
  cases k with
  | true => exact p.1 rfl S Hb0 H0 Hb' H' σ (g.trans g') (en.grow g') D (fun σ2 ρ2 Hb2 H2 sm2 => q1 σ2 ρ2 Hb2 H2 (g'.pub.trans sm2)) q2
  | false => exact p.2 rfl S Hb0 H0 Hb' H' σ (g.trans g') (en.grow g') D (fun σ2 ρ2 Hb2 H2 sm2 => q1 σ2 ρ2 Hb2 H2 (g'.pub.trans sm2)) q2
theorem rr_set {i : Nat} {x : Str} {p : Pos} (nd : X.N.Nodup) (h : EE X e ρ fun d => RR X rest (ρ.set i (.va d)) N R) (hi : X.N[i]? = some x := by rfl) (hx : Loc X.env.scope x := by first | exact Or.inl rfl | exact Or.inr rfl)
    (hs : swapsWith e (some (.Name x p)) pos.line X.env = pure false := by rfl) (hf : X.fn x = true ∨ X.env.scope.names.lookup x = some .local := by first | exact .inl rfl | exact .inr rfl) : RR X (.Assign [.Name x p] e pos :: rest) ρ N R := by
  refine rr_seq (ps_set nd hi hx pe_w hs hf) fun S Hb0 H0 Hb H σ g en D q1 q2 => ?_
  refine h S H0 Hb H σ g.ok en _ fun v d Hb' H' k r p => ?_
  exact q1 _ _ Hb' H' k.pub (g.trans k) ((en.grow k).setV r) p
theorem rr_asg (h : EE X e ρ fun d => GG X tg d ρ fun ρ' => RR X rest ρ' N R) (hs : swapsWithSole [tg] e pos.line X.env = pure false := by rfl) (hw : swappedStores [tg] e X.env = pure none := by rfl)
    (h1 : (assignEach [tg] X.env).map (·.2) = [assign tg X.env] := by rfl) : RR X (.Assign [tg] e pos :: rest) ρ N R := by
  refine rr_seq (ps_asg pe_w pg_w hs hw h1) fun S Hb0 H0 Hb H σ g en D q1 q2 => ?_
  refine h S H0 Hb H σ g.ok en _ fun v d Hb' H' k r p => ?_
  refine p S H0 Hb' H' σ v k.ok (en.grow k) r _ fun σ' ρ' en' p' => ?_
  exact q1 _ _ Hb' H' k.pub (g.trans k) en' p'
theorem rr_expr (h : EE X e ρ fun _ => RR X rest ρ N R) (hs : swapsWith e none pos.line X.env = pure false := by rfl) : RR X (.Expr e pos :: rest) ρ N R := by
  refine rr_seq (ps_expr pe_w hs) fun S Hb0 H0 Hb H σ g en D q1 q2 => ?_
  refine h S H0 Hb H σ g.ok en _ fun v d Hb' H' k r p => ?_
  exact q1 _ _ Hb' H' k.pub (g.trans k) (en.grow k) p
/-- never come to -/
theorem rr_never {sts : List Stmt} (h : False) : RR X sts ρ N R := h.elim
theorem gg_name {i : Nat} {x : Str} {d : D} {Ψ : List Sl → Prop} (nd : X.N.Nodup) (h : Ψ (ρ.set i (.va d))) (hi : X.N[i]? = some x := by rfl) (hx : Loc X.env.scope x := by first | exact Or.inl rfl | exact Or.inr rfl)
    (hf : X.fn x = true ∨ X.env.scope.names.lookup x = some .local := by first | exact .inl rfl | exact .inr rfl) : GG X (.Name x pos) d ρ Ψ :=
  fun S H0 Hb H σ v ok en r Q q => wG_of (pg_name nd hi hx hf) (q _ _ (en.setV r) h)
theorem gg_tup {k n : Nat} {ds : List D} {Ψ : List Sl → Prop} (h : GGs X es ds ρ Ψ) (hl : ds.length = n) (hc : X.calm = true := by rfl) (hn : (assignEach es X.env).length = n := by rfl) (hst : (assignEach es X.env).findIdx? (·.1) = none := by rfl) : GG X (.Tuple es k pos) (.tup ds) ρ Ψ := by
  intro S H0 Hb H σ v ok en r Q q
  obtain ⟨a, xs, rfl, ha, ra⟩ := r.tup_
  exact wG_of (pg_tup hc pgs_w hn hst) ⟨a, xs, rfl, same_t ok.ex ha, ra.len.trans hl, h S H0 Hb H σ xs ok en ra Q q⟩
theorem gg_lst {k n : Nat} {ds : List D} {Ψ : List Sl → Prop} (h : GGs X es ds ρ Ψ) (hl : ds.length = n) (hc : X.calm = true := by rfl) (hn : (assignEach es X.env).length = n := by rfl) (hst : (assignEach es X.env).findIdx? (·.1) = none := by rfl) : GG X (.Tuple es k pos) (.lst ds) ρ Ψ := by
  intro S H0 Hb H σ v ok en r Q q
  obtain ⟨a, xs, rfl, ha, ra⟩ := r.lst_
  exact wG_of (pg_unl hc pgs_w hn hst) ⟨a, xs, rfl, .of (ok.ex _ _ ha), ra.len.trans hl, h S H0 Hb H σ xs ok en ra Q q⟩
theorem ggs_nil {Ψ : List Sl → Prop} (h : Ψ ρ) : GGs X [] [] ρ Ψ := fun S H0 Hb H σ vs ok en r Q q => by
  cases r
  exact wGs_of pgs_nil ⟨rfl, q σ ρ en h⟩
theorem ggs_cons {d : D} {ds : List D} {Ψ : List Sl → Prop} (h : GG X e d ρ fun ρ' => GGs X es ds ρ' Ψ) (hs : (assignEach (e :: es) X.env).map (·.2) = assign e X.env :: (assignEach es X.env).map (·.2) := by rfl) : GGs X (e :: es) (d :: ds) ρ Ψ := by
  intro S H0 Hb H σ vs ok en r Q q
  cases r with
  | cons r rr =>
    refine wGs_of (pgs_cons pg_w pgs_w hs) ⟨_, _, rfl, ?_⟩
    refine h S H0 Hb H σ _ ok en r _ fun σ' ρ' en' p => ?_
    exact p S H0 Hb H σ' _ ok en' rr Q q

/-! ### walks -/
theorem ii_list {Ω : Nat → (Nat → D) → Prop} (h : EE X iter ρ fun d => ∃ ds, d = .lst ds ∧ Ω ds.length fun i => ds.getD i .non) : II X tg iter ρ Ω := by
  intro S H0 Hb H σ ok en R q
  refine wI_of (pi_list pe_w) ?_
  refine h S H0 Hb H σ ok en _ fun v d Hb' H' g r p => ?_
  obtain ⟨ds, rfl, p⟩ := p
  obtain ⟨a, xs, rfl, ha, ra⟩ := r.lst_
  refine ⟨a, rfl, ⟨xs, .of (g.ok.ex _ _ ha)⟩, q _ _ _ Hb' H' g ⟨fun i H1 Hb1 sm ok1 hi => ?_, fun i x H1 Hb1 H2 sm ok1 hi y => ?_, fun H1 Hb1 sm ok1 => ?_⟩ p⟩
  · have hx : i < xs.length := by rw [ra.len]; exact hi
    exact ⟨xs, xs[i], .of (ok1.ex _ _ (sm _ _ ha)), List.getElem?_eq_getElem hx⟩
  · obtain ⟨e, y⟩ := y
    subst e
    have hy := y xs (.of (ok1.ex _ _ (sm _ _ ha)))
    have hd : ds[i]? = some (ds.getD i .non) := by
      rw [List.getD_eq_getElem?_getD]; rw [List.getElem?_eq_getElem hi]; rfl
    obtain ⟨v, h1, h2⟩ := ra.get hd
    rw [hy] at h1
    cases h1
    exact ⟨Hb1, .refl ok1, h2.mono sm⟩
  · exact ⟨xs, .of (ok1.ex _ _ (sm _ _ ha)), Nat.le_of_eq ra.len⟩
theorem ii_tup {Ω : Nat → (Nat → D) → Prop} (h : EE X iter ρ fun d => ∃ ds, d = .tup ds ∧ Ω ds.length fun i => ds.getD i .non) : II X tg iter ρ Ω := by
  intro S H0 Hb H σ ok en R q
  refine wI_of (pi_tup pe_w) ?_
  refine h S H0 Hb H σ ok en _ fun v d Hb' H' g r p => ?_
  obtain ⟨ds, rfl, p⟩ := p
  obtain ⟨a, xs, rfl, ha, ra⟩ := r.tup_
  refine ⟨a, rfl, ⟨xs, same_t g.ok.ex ha⟩, q _ _ _ Hb' H' g ⟨fun i H1 Hb1 sm ok1 hi => ?_, fun i x H1 Hb1 H2 sm ok1 hi y => ?_, fun H1 Hb1 sm ok1 => ?_⟩ p⟩
  · have hx : i < xs.length := by rw [ra.len]; exact hi
    exact ⟨xs, xs[i], same_t (sm.trans ok1.ex) ha, List.getElem?_eq_getElem hx⟩
  · obtain ⟨e, y⟩ := y
    subst e
    have hy := y xs (same_t (sm.trans ok1.ex) ha)
    have hd : ds[i]? = some (ds.getD i .non) := by
      rw [List.getD_eq_getElem?_getD]; rw [List.getElem?_eq_getElem hi]; rfl
    obtain ⟨v, h1, h2⟩ := ra.get hd
    rw [hy] at h1
    cases h1
    exact ⟨Hb1, .refl ok1, h2.mono sm⟩
  · exact ⟨xs, same_t (sm.trans ok1.ex) ha, Nat.le_of_eq ra.len⟩
theorem ii_str {Ω : Nat → (Nat → D) → Prop} (h : EE X iter ρ fun d => ∃ z : Str, d = .str z ∧ Ω z.cps.size fun i => .str ⟨#[z.cps.getD i 0]⟩) : II X tg iter ρ Ω := by
  intro S H0 Hb H σ ok en R q
  refine wI_of (pi_str pe_w) ?_
  refine h S H0 Hb H σ ok en _ fun v d Hb' H' g r p => ?_
  obtain ⟨z, rfl, p⟩ := p
  refine ⟨z, r.str_, q _ _ _ Hb' H' g ⟨fun i H1 Hb1 sm ok1 hi => walk_str.goes i H1 hi True.intro, fun i x H1 Hb1 H2 sm ok1 hi y => ?_, fun H1 Hb1 sm ok1 => walk_str.stops H1 True.intro⟩ p⟩
  obtain ⟨e, c, h1, h2⟩ := walk_str.yields i H1 x H2 hi True.intro y
  subst e; subst h2
  have hc : z.cps.getD i 0 = c := by
    rw [Array.getD_eq_getD_getElem?, h1]
    rfl
  refine ⟨Hb1, .refl ok1, ?_⟩
  show Rp X.K S Hb1 (.str ⟨#[c]⟩) (.str ⟨#[z.cps.getD i 0]⟩)
  rw [hc]
  exact .str _
theorem ii_range {Ω : Nat → (Nat → D) → Prop} {p : Pos} (hm : X.mg "range" = none) (h : EE X a ρ fun d => ∃ j : Int, d = .int j ∧ -(2 ^ 62) ≤ j ∧ j < 2 ^ 62 ∧ Ω j.toNat fun i => .int (i : Nat)) (hg : Gl X "range" := by rfl) (hs : starEach [a] X.env = [(false, eval a X.env)] := by rfl) :
    II X tg (.Call (.Name "range" p) [a] [] pos) ρ Ω := by
  intro S H0 Hb H σ ok en R q
  refine wI_of (pi_range1 hg hm (pa_cons pe_w pa_nil hs) hs) ?_
  refine h S H0 Hb H σ ok en _ fun v d Hb' H' g r p => ?_
  obtain ⟨j, rfl, l1, l2, p⟩ := p
  have e := r.int_
  subst e
  refine ⟨j, rfl, l1, l2, q _ _ _ Hb' H' g ⟨fun i H1 Hb1 sm ok1 hi => hi, fun i x H1 Hb1 H2 sm ok1 hi y => ?_, fun H1 Hb1 sm ok1 => Nat.le_refl _⟩ p⟩
  obtain ⟨e1, e2⟩ := y
  subst e1; subst e2
  rw [Int.zero_add]
  exact ⟨Hb1, .refl ok1, .int _⟩
theorem ii_enum {Ω : Nat → (Nat → D) → Prop} {p tpos : Pos} {elts : List Expr} {kk : Nat} (hm : X.mg "enumerate" = none) (h : EE X a ρ fun d => ∃ ds, d = .lst ds ∧ Ω ds.length fun i => .tup [.int (i : Nat), ds.getD i .non]) (hg : Gl X "enumerate" := by rfl) (hs : starEach [a] X.env = [(false, eval a X.env)] := by rfl) :
    II X (.Tuple elts kk tpos) (.Call (.Name "enumerate" p) [a] [] pos) ρ Ω := by
  intro S H0 Hb H σ ok en R q
  refine wI_of (pi_enum hg hm (pa_cons pe_w pa_nil hs) hs) ?_
  refine h S H0 Hb H σ ok en _ fun v d Hb' H' g r p => ?_
  obtain ⟨ds, rfl, p⟩ := p
  obtain ⟨a, xs, rfl, ha, ra⟩ := r.lst_
  refine ⟨a, xs, rfl, .of (g.ok.ex _ _ ha), q _ _ _ Hb' H' g ⟨fun i H1 Hb1 sm ok1 hi => ?_, fun i x H1 Hb1 H2 sm ok1 hi y => ?_, fun H1 Hb1 sm ok1 => ?_⟩ p⟩
  · have hx : i < xs.length := by rw [ra.len]; exact hi
    exact ⟨xs, xs[i], .of (ok1.ex _ _ (sm _ _ ha)), List.getElem?_eq_getElem hx⟩
  · obtain ⟨T, y0, rfl, nT, rfl, y⟩ := y
    have hy := y xs (.of (ok1.ex _ _ (sm _ _ ha)))
    have hd : ds[i]? = some (ds.getD i .non) := by
      rw [List.getD_eq_getElem?_getD]; rw [List.getElem?_eq_getElem hi]; rfl
    obtain ⟨v, h1, h2⟩ := ra.get hd
    rw [hy] at h1
    cases h1
    exact ⟨_, .new ok1 nT, .tup (.of upd_same) (.cons (.int _) (.cons (h2.mono (sm.trans (same_new (ok1.base nT)))) .nil))⟩
  · exact ⟨xs, .of (ok1.ex _ _ (sm _ _ ha)), Nat.le_of_eq ra.len⟩
/-- the loop: J before each turn -/
theorem rr_for (h : II X tg iter ρ fun n f => ∃ J : Nat → List Sl → Prop, J 0 ρ ∧ (∀ i ρ', i < n → J i ρ' → GG X tg (f i) ρ' fun ρ2 => RR X body ρ2 (J (i + 1)) R) ∧ ∀ ρ', J n ρ' → RR X rest ρ' N R)
    (hp : PassesOwn (model X.prog X.w) X.A X.env X.xe := by exact PassesOwn.never) (hc : X.calm = true := by rfl) (hs : ∀ x, foldedSetIterable iter X.env x = pure x := by intro _; rfl) : RR X (.For tg iter body [] pos :: rest) ρ N R := by
  refine rr_seq (ps_for hp hc pi_w pg_w pss_w hs) fun S Hb0 H0 Hb H σ g en D q1 q2 => ?_
  refine h S H0 Hb H σ g.ok en _ fun J n f Hb' H' g' wd p => ?_
  obtain ⟨P, p0, ps, pd⟩ := p
  have gg := g.trans g'
  refine ⟨fun i m σ1 H1 => m = n - i ∧ i ≤ n ∧ ∃ ρ1 Hb1, Same Hb' Hb1 ∧ Grow S Hb0 H0 Hb1 H1 ∧ Sls X.K S H0 Hb1 H1 σ1 ρ1 ∧ P i ρ1, ⟨n, by simp, Nat.zero_le _, ρ, Hb', Same.refl _, gg, en.grow g', p0⟩, ?_⟩
  rintro i m σ1 H1 ⟨rfl, hi, ρ1, Hb1, sm, g1, en1, pi⟩
  by_cases hlt : i < n
  · refine .inr ⟨wd.go i H1 Hb1 sm g1.ok hlt, fun σ2 H2 => ∃ ρ2 Hb2, Same Hb' Hb2 ∧ Grow S Hb0 H0 Hb2 H2 ∧ Sls X.K S H0 Hb2 H2 σ2 ρ2 ∧ P (i + 1) ρ2, fun σ2 H2 z => ⟨n - (i + 1), by omega, rfl, hlt, z⟩, fun x H2 y => ?_⟩
    obtain ⟨Hb2, g2, r2⟩ := wd.yl i x H1 Hb1 H2 sm g1.ok hlt y
    refine ps i ρ1 hlt pi S H0 Hb2 H2 σ1 x g2.ok (en1.grow g2) r2 _ fun σ3 ρ3 en3 k => ?_
    exact k S Hb0 H0 Hb2 H2 σ3 (g1.trans g2) en3 _ (fun σ4 ρ4 Hb4 H4 sm4 g4 en4 z => ⟨ρ4, Hb4, sm.trans (g2.pub.trans sm4), g4, en4, z⟩) q2
  · have e : i = n := by omega
    subst e
    exact .inl ⟨wd.st H1 Hb1 sm g1.ok, q1 σ1 ρ1 Hb1 H1 (g'.pub.trans sm) g1 en1 (pd ρ1 pi)⟩
end
end Lg
namespace Lg
open L2 PyProof.Rows PySem PySem.Spec
section
variable {X : Cx} {e a b c tg iter k v : Expr} {es : List Expr} {st : Stmt} {rest body els : List Stmt} {ρ : List Sl} {N : List Sl → Prop} {R : D → Prop} {pos p p2 p3 apos : Pos}
/-! ### own lists and dicts -/
theorem SlOk.mkL {K : PySem.W.Frag} {S : Option Addr} {H0 Hb H : Hp} {q : Addr} {xs : List V} {ds : List D} (h0 : H0 q = none) (hb : Hb q = none) (h : H q = some (.lst xs)) (r : RpL K S Hb xs ds) : SlOk K S H0 Hb H (some (.ref q)) (.owl ds) := ⟨q, xs, rfl, h0, hb, h, r⟩
theorem SlOk.mkD {K : PySem.W.Frag} {S : Option Addr} {H0 Hb H : Hp} {q : Addr} {xs : List (Key × V)} {ds : List (Str × D)} (h0 : H0 q = none) (hb : Hb q = none) (h : H q = some (.dK xs)) (r : RpK K S Hb xs ds) : SlOk K S H0 Hb H (some (.ref q)) (.owd ds) := ⟨q, xs, rfl, h0, hb, h, r⟩
/-- x = [] -/
theorem rr_newL {i : Nat} {x : Str} (nd : X.N.Nodup) (hno : ∀ s, ρ[i]? = some s → True) (h : RR X rest (ρ.set i (.owl [])) N R) (hi : X.N[i]? = some x := by rfl) (hx : Loc X.env.scope x := by first | exact Or.inl rfl | exact Or.inr rfl)
    (hs : swapsWith (.List [] p2) (some (.Name x p)) pos.line X.env = pure false := by rfl) (hf : X.fn x = true ∨ X.env.scope.names.lookup x = some .local := by first | exact .inl rfl | exact .inr rfl) : RR X (.Assign [.Name x p] (.List [] p2) pos :: rest) ρ N R := by
  refine rr_seq (ps_set nd hi hx (pe_lst pa_nil) hs hf) fun S Hb0 H0 Hb H σ g en D q1 q2 => ?_
  refine ⟨Nat.zero_le _, fun q hq => ?_⟩
  have hb : Hb q = none := g.ok.base hq
  have h0 : H0 q = none := by
    cases z : H0 q with
    | none => rfl
    | some o =>
      have := g.prv q o z (fun y => g.ok.ne hq y)
      rw [hq] at this
      cases this
  have g1 : Grow S Hb H Hb (upd H q (.lst [])) := .hid g.ok hq
  refine q1 _ _ Hb _ (Same.refl _) (g.trans g1) ((en.grow g1).set (.mkL h0 hb upd_same .nil) fun _ j p' t hj e1 e2 ow e3 => ?_) h
  cases e1
  -- no other own slot stands at a new address
  obtain ⟨o, e4, ok⟩ := en.lt e2
  rw [e3] at e4
  cases e4
  cases t with
  | un => exact ow
  | va d => exact ow
  | owl ds =>
    obtain ⟨p', xs, e5, _, _, e6, _⟩ := ok
    cases e5
    rw [hq] at e6
    cases e6
  | owd ds =>
    obtain ⟨p', xs, e5, _, _, e6, _⟩ := ok
    cases e5
    rw [hq] at e6
    cases e6
/-- x = dict(e) -/
theorem rr_copyD {i : Nat} {x : Str} (nd : X.N.Nodup) (hm : X.mg "dict" = none) (h : EE X e ρ fun d => ∃ kvs, d = .dct kvs ∧ RR X rest (ρ.set i (.owd kvs)) N R) (hi : X.N[i]? = some x := by rfl) (hx : Loc X.env.scope x := by first | exact Or.inl rfl | exact Or.inr rfl)
    (hs : swapsWith (.Call (.Name "dict" p2) [e] [] p3) (some (.Name x p)) pos.line X.env = pure false := by rfl) (hf : X.fn x = true ∨ X.env.scope.names.lookup x = some .local := by first | exact .inl rfl | exact .inr rfl)
    (hg : Gl X "dict" := by rfl) (he : starEach [e] X.env = (false, eval e X.env) :: starEach [] X.env := by rfl) (hpl : (backTo p3 (starEach [] X.env)).any (·.1) = false := by rfl) : RR X (.Assign [.Name x p] (.Call (.Name "dict" p2) [e] [] p3) pos :: rest) ρ N R := by
  refine rr_seq (ps_set nd hi hx (pe_callTy call_dictD hg hm (by decide +kernel) (pa_cons pe_w pa_nil he) (by decide) (by decide) he hpl) hs hf) fun S Hb0 H0 Hb H σ g en D q1 q2 => ?_
  refine h S H0 Hb H σ g.ok en _ fun v d Hb1 H1 g1 r1 p1 => ?_
  obtain ⟨kvs, rfl, p1⟩ := p1
  obtain ⟨a, xs, rfl, ha, ra⟩ := r1.dct_
  refine ⟨a, xs, rfl, .inl (g1.ok.ex _ _ ha), fun q hq => ?_⟩
  have gg := g.trans g1
  have en1 := en.grow g1
  have hb : Hb1 q = none := g1.ok.base hq
  have h0 : H0 q = none := by
    cases z : H0 q with
    | none => rfl
    | some o =>
      have := gg.prv q o z (fun y => gg.ok.ne hq y)
      rw [hq] at this
      cases this
  have g2 : Grow S Hb1 H1 Hb1 (upd H1 q (.dK xs)) := .hid g1.ok hq
  refine q1 _ _ Hb1 _ g1.pub (gg.trans g2) ((en1.grow g2).set (.mkD h0 hb upd_same ra) fun _ j p' t hj e1 e2 ow e3 => ?_) p1
  cases e1
  obtain ⟨o, e4, ok⟩ := en1.lt e2
  rw [e3] at e4
  cases e4
  cases t with
  | un => exact ow
  | va d => exact ow
  | owl ds =>
    obtain ⟨p', xs, e5, _, _, e6, _⟩ := ok
    cases e5
    rw [hq] at e6
    cases e6
  | owd ds =>
    obtain ⟨p', xs, e5, _, _, e6, _⟩ := ok
    cases e5
    rw [hq] at e6
    cases e6
/-- an own thing is told from here on -/
theorem rr_tellL {sts : List Stmt} {i : Nat} {ds : List D} (hi : ρ[i]? = some (.owl ds)) (h : RR X sts (ρ.set i (.va (.lst ds))) N R) : RR X sts ρ N R := by
  intro S Hb0 H0 Hb H σ g en D q1 q2
  obtain ⟨q, xs, hσ, h0, hb, hp, r⟩ := en.owl hi
  have sm : Same Hb (upd Hb q (.lst xs)) := same_new hb
  exact h S Hb0 H0 (upd Hb q (.lst xs)) H σ (g.tell h0 hb hp) (en.tell hi True.intro hσ hb (.lst upd_same (r.mono sm))) D (fun σ' ρ' Hb' H' s2 => q1 σ' ρ' Hb' H' (sm.trans s2)) q2
theorem rr_tellD {sts : List Stmt} {i : Nat} {ds : List (Str × D)} (hi : ρ[i]? = some (.owd ds)) (h : RR X sts (ρ.set i (.va (.dct ds))) N R) : RR X sts ρ N R := by
  intro S Hb0 H0 Hb H σ g en D q1 q2
  obtain ⟨q, xs, hσ, h0, hb, hp, r⟩ := en.owd hi
  have sm : Same Hb (upd Hb q (.dK xs)) := same_new hb
  exact h S Hb0 H0 (upd Hb q (.dK xs)) H σ (g.tell h0 hb hp) (en.tell hi True.intro hσ hb (.dct upd_same (r.mono sm))) D (fun σ' ρ' Hb' H' s2 => q1 σ' ρ' Hb' H' (sm.trans s2)) q2
/-- x.append(e) -/
theorem rr_append {i : Nat} {x : Str} {ds : List D} (hi : ρ[i]? = some (.owl ds)) (hl : ds.length < 100000) (h : EE X e ρ fun d => RR X rest (ρ.set i (.owl (ds ++ [d]))) N R) (hN : X.N[i]? = some x := by rfl) (hv : Vis X.env.scope x := by first | exact Or.inl rfl | exact Or.inr (Or.inl rfl) | exact Or.inr (Or.inr rfl))
    (hd : (x == ("__debug__" : Str)) = false := by decide) (hcd : (x == ("__classdict__" : Str)) = false := by decide) (hbase : attributeBase (.Name x p) "append" X.env (eval (.Name x p) X.env) = eval (.Name x p) X.env := by rfl)
    (hfew : ((backTo p2 (starEach [e] X.env)).all (fun x => !x.1) && (backToKw p2 (keywordEach [] X.env)).all (fun x => x.1.isSome) && decide (([e] : List Expr).length + ([] : List Keyword).length + (if ([] : List Keyword).isEmpty then 0 else 1) < 30)) = true := by rfl) (hline : (apos.endLine == p2.line) = true := by rfl) (hst : starEach [e] X.env = (false, eval e X.env) :: starEach [] X.env := by rfl) (hplain : (backTo p2 (starEach [] X.env)).any (·.1) = false := by rfl)
    (hs : swapsWith (.Call (.Attribute (.Name x p) "append" apos) [e] [] p2) none pos.line X.env = pure false := by rfl) : RR X (.Expr (.Call (.Attribute (.Name x p) "append" apos) [e] [] p2) pos :: rest) ρ N R := by
  refine rr_seq (ps_expr (pe_bm PySem.F.plainAttrs_list PySem.F.slot_list_append PySem.F.type_list_append mt_append (pe_var hN hv hd hcd) (pa_cons pe_w pa_nil hst) hbase hfew hline hst hplain) hs) fun S Hb0 H0 Hb H σ g en D q1 q2 => ?_
  obtain ⟨q, xs, hσ, h0, hb, hp, r⟩ := en.owl hi
  refine ⟨.ref q, hσ, .inl ⟨rfl, _, .of hp⟩, ?_⟩
  refine h S H0 Hb H σ g.ok en _ fun v d Hb1 H1 g1 r1 p1 => ?_
  obtain ⟨q', xs', hσ', h0', hb', hp', r'⟩ := (en.grow g1).owl hi
  have eq : q' = q := by
    rw [hσ] at hσ'
    cases hσ'
    rfl
  subst eq
  refine ⟨q', xs', v, rfl, rfl, hp', Nat.lt_of_lt_of_le (by rw [r'.len]; exact hl) (sz1000 (Nat.le_refl _)), ?_⟩
  exact q1 _ _ Hb1 _ g1.pub ((g.trans g1).mut h0 hb') ((en.grow g1).mut hi True.intro hσ h0 hb' (.mkL h0 hb' upd_same (r'.app (.cons r1 .nil)))) p1
/-- x.extend(e), e a list -/
theorem rr_extend {i : Nat} {x : Str} {ds : List D} (hi : ρ[i]? = some (.owl ds)) (h : EE X e ρ fun d => ∃ es, d = .lst es ∧ ds.length + es.length ≤ 100000 ∧ RR X rest (ρ.set i (.owl (ds ++ es))) N R) (hN : X.N[i]? = some x := by rfl) (hv : Vis X.env.scope x := by first | exact Or.inl rfl | exact Or.inr (Or.inl rfl) | exact Or.inr (Or.inr rfl))
    (hd : (x == ("__debug__" : Str)) = false := by decide) (hcd : (x == ("__classdict__" : Str)) = false := by decide) (hbase : attributeBase (.Name x p) "extend" X.env (eval (.Name x p) X.env) = eval (.Name x p) X.env := by rfl)
    (hfew : ((backTo p2 (starEach [e] X.env)).all (fun x => !x.1) && (backToKw p2 (keywordEach [] X.env)).all (fun x => x.1.isSome) && decide (([e] : List Expr).length + ([] : List Keyword).length + (if ([] : List Keyword).isEmpty then 0 else 1) < 30)) = true := by rfl) (hline : (apos.endLine == p2.line) = true := by rfl) (hst : starEach [e] X.env = (false, eval e X.env) :: starEach [] X.env := by rfl) (hplain : (backTo p2 (starEach [] X.env)).any (·.1) = false := by rfl)
    (hs : swapsWith (.Call (.Attribute (.Name x p) "extend" apos) [e] [] p2) none pos.line X.env = pure false := by rfl) : RR X (.Expr (.Call (.Attribute (.Name x p) "extend" apos) [e] [] p2) pos :: rest) ρ N R := by
  refine rr_seq (ps_expr (pe_bm PySem.F.plainAttrs_list PySem.F.slot_list_extend PySem.F.type_list_extend mt_extend (pe_var hN hv hd hcd) (pa_cons pe_w pa_nil hst) hbase hfew hline hst hplain) hs) fun S Hb0 H0 Hb H σ g en D q1 q2 => ?_
  obtain ⟨q, xs, hσ, h0, hb, hp, r⟩ := en.owl hi
  refine ⟨.ref q, hσ, .inl ⟨rfl, _, .of hp⟩, ?_⟩
  refine h S H0 Hb H σ g.ok en _ fun v d Hb1 H1 g1 r1 p1 => ?_
  obtain ⟨es, rfl, hl, p1⟩ := p1
  obtain ⟨b, ys, rfl, hby, ry⟩ := r1.lst_
  obtain ⟨q', xs', hσ', h0', hb', hp', r'⟩ := (en.grow g1).owl hi
  have eq : q' = q := by
    rw [hσ] at hσ'
    cases hσ'
    rfl
  subst eq
  refine ⟨q', b, xs', ys, rfl, rfl, hp', g1.ok.ex _ _ hby, sz1000 (by rw [r'.len, ry.len]; exact hl), ?_⟩
  exact q1 _ _ Hb1 _ g1.pub ((g.trans g1).mut h0 hb') ((en.grow g1).mut hi True.intro hσ h0 hb' (.mkL h0 hb' upd_same (r'.app ry))) p1
/-- x[k] = v -/
theorem rr_put {i : Nat} {x : Str} {kvs : List (Str × D)} (hu : X.A.units + 1 < cLine) (hi : ρ[i]? = some (.owd kvs)) (hl : kvs.length < 100000) (h : EE X v ρ fun d => EE X k ρ fun dk => ∃ z, dk = .str z ∧ RR X rest (ρ.set i (.owd (dput kvs z d))) N R)
    (hN : X.N[i]? = some x := by rfl) (hv : Vis X.env.scope x := by first | exact Or.inl rfl | exact Or.inr (Or.inl rfl) | exact Or.inr (Or.inr rfl)) (hd : (x == ("__debug__" : Str)) = false := by decide) (hcd : (x == ("__classdict__" : Str)) = false := by decide)
    (hs : swapsWith v (some (.Subscript (.Name x p) k p2)) pos.line X.env = pure false := by rfl) : RR X (.Assign [.Subscript (.Name x p) k p2] v pos :: rest) ρ N R := by
  refine rr_seq (ps_dput hu (pe_var hN hv hd hcd) pe_w pe_w hs) fun S Hb0 H0 Hb H σ g en D q1 q2 => ?_
  refine h S H0 Hb H σ g.ok en _ fun y dy Hb1 H1 g1 r1 p1 => ?_
  obtain ⟨q, xs, hσ, h0, hb, hp, r⟩ := (en.grow g1).owd hi
  refine ⟨.ref q, hσ, ?_⟩
  refine p1 S H0 Hb1 H1 σ g1.ok (en.grow g1) _ fun z dz Hb2 H2 g2 r2 p2 => ?_
  obtain ⟨z, rfl, p2⟩ := p2
  have ez := r2.str_
  subst ez
  have g12 := g1.trans g2
  obtain ⟨q', xs', hσ', h0', hb', hp', r'⟩ := (en.grow g12).owd hi
  have eq : q' = q := by
    rw [hσ] at hσ'
    cases hσ'
    rfl
  subst eq
  refine ⟨q', _, rfl, DPut.k (k := Sum.inr z) hp' (Nat.lt_of_lt_of_le (by rw [r'.len]; exact hl) (sz1000 (Nat.le_refl _))), ?_⟩
  exact q1 _ _ Hb2 _ g12.pub ((g.trans g12).mut h0 hb') ((en.grow g12).mut hi True.intro hσ h0 hb' (.mkD h0 hb' upd_same (r'.put (r1.mono g2.pub)))) p2
/-- x.pop(k), k there -/
theorem rr_pop {i : Nat} {x : Str} {kvs : List (Str × D)} (hi : ρ[i]? = some (.owd kvs)) (h : EE X k ρ fun dk => ∃ z, dk = .str z ∧ (dget kvs z).isSome = true ∧ RR X rest (ρ.set i (.owd (ddrop kvs z))) N R)
    (hN : X.N[i]? = some x := by rfl) (hv : Vis X.env.scope x := by first | exact Or.inl rfl | exact Or.inr (Or.inl rfl) | exact Or.inr (Or.inr rfl)) (hd : (x == ("__debug__" : Str)) = false := by decide) (hcd : (x == ("__classdict__" : Str)) = false := by decide)
    (hm : M1 X (.Name x p) "pop" apos k p2 := by exact ⟨rfl, rfl, rfl, rfl⟩) (hs : swapsWith (.Call (.Attribute (.Name x p) "pop" apos) [k] [] p2) none pos.line X.env = pure false := by rfl) : RR X (.Expr (.Call (.Attribute (.Name x p) "pop" apos) [k] [] p2) pos :: rest) ρ N R := by
  refine rr_seq (ps_expr (pe_dpop1 (pe_var hN hv hd hcd) pe_w hm) hs) fun S Hb0 H0 Hb H σ g en D q1 q2 => ?_
  obtain ⟨q, xs, hσ, h0, hb, hp, r⟩ := en.owd hi
  refine ⟨.ref q, hσ, q, rfl, .inl ⟨_, .inl hp⟩, ?_⟩
  refine h S H0 Hb H σ g.ok en _ fun y dy Hb1 H1 g1 r1 p1 => ?_
  obtain ⟨z, rfl, hz, p1⟩ := p1
  have ez := r1.str_
  subst ez
  obtain ⟨q', xs', hσ', h0', hb', hp', r'⟩ := (en.grow g1).owd hi
  have eq : q' = q := by
    rw [hσ] at hσ'
    cases hσ'
    rfl
  subst eq
  cases hg : dget kvs z with
  | none =>
    rw [hg] at hz
    cases hz
  | some d =>
    obtain ⟨v, hv1, _⟩ := r'.val_some hg
    refine ⟨xs', Sum.inr z, v, hp', rfl, hv1, ?_⟩
    exact q1 _ _ Hb1 _ g1.pub ((g.trans g1).mut h0 hb') ((en.grow g1).mut hi True.intro hσ h0 hb' (.mkD h0 hb' upd_same r'.drop)) p1

/-! ### comprehensions -/
/-- what holds between the turns of a comprehension: J by the turn and what is made -/
def LcJ (K : PySem.W.Frag) (S : Option Addr) (Hb H : Hp) (Dl : Addr) (J : Nat → List D → Prop) (i : Nat) (H2 : Hp) : Prop :=
  ∃ Hb2 vs acc, Grow S Hb H Hb2 H2 ∧ H2 Dl = some (.lst vs) ∧ Hb2 Dl = none ∧ RpL K S Hb2 vs acc ∧ J i acc
theorem lc_set {σ : L2.St} {i : Nat} {o : Option V} : wipe ((wipe σ [i]).set i o) [i] = wipe σ [i] := by
  show ((σ.set i none).set i o).set i none = σ.set i none
  rw [List.set_set, List.set_set]
theorem ee_lcCore {i : Nat} {x : Str} {px : Pos} {ifs : List Expr} {scope : Scope} {Φ : D → Prop} (tt : L2.TT) (te : TE) (nd : X.N.Nodup)
    (ht : ∀ (s : Shared) (H : Hp) (C : Addr) (cl : List (Str × Addr)) (fp : List Addr), PTs (X.blk s H scope (compEnvC scope cl C X.env) fp) ifs tt) (hte : ∀ (s : Shared) (H : Hp) (C : Addr) (cl : List (Str × Addr)) (fp : List Addr), PE (X.blk s H scope (compEnvC scope cl C X.env) fp) e te)
    (ok : BlkOk X.N X.env.scope scope [(x, i)]) (hi : X.N[i]? = some x) (hx : scope.names.lookup x = some .local)
    (h : II X (.Name x px) iter ρ fun n f => ∃ J : Nat → List D → Prop, J 0 [] ∧ (∀ j acc, j < n → J j acc → EvT X.K tt (ρ.set i (.va (f j))) fun b => (b = true → Ev X.K te (ρ.set i (.va (f j))) fun y => acc.length < 100000 ∧ J (j + 1) (acc ++ [y])) ∧ (b = false → J (j + 1) acc)) ∧ ∀ acc, J n acc → Φ (.lst acc))
    (hg : ∀ (s : Shared) (H : Hp) (C : Addr) (cl : List (Str × Addr)) (fp : List Addr), PG (X.blk s H scope (compEnvC scope cl C X.env) fp) (.Name x px) (gName i)) (hc : X.calm = true := by rfl)
    (hs : ∀ x, foldedSetIterable iter X.env x = pure x := by intro _; rfl) : EE X (.ListComp e [⟨.Name x px, iter, ifs, 0⟩] scope pos) ρ Φ := by
  intro S H0 Hb H σ ok0 en Q q
  refine wE_of (pe_lc hc nd pi_w ok hg ht hte hs) ?_
  refine h S H0 Hb H σ ok0 en _ fun It n f Hb1 H1 g1 wd p => ?_
  obtain ⟨J, j0, js, jd⟩ := p
  intro Dl hD
  have en1 := en.grow g1
  have hDb : Hb1 Dl = none := g1.ok.base hD
  refine ⟨fun j m H2 => m = n - j ∧ j ≤ n ∧ LcJ X.K S Hb1 H1 Dl J j H2, ⟨n, by simp, Nat.zero_le _, Hb1, [], [], .hid g1.ok hD, upd_same, hDb, .nil, j0⟩, ?_⟩
  rintro j m H2 ⟨rfl, hj, Hb2, vs, acc, g2, hl2, hb2, r2, jj⟩
  by_cases hlt : j < n
  · refine .inr ⟨wd.go j H2 Hb2 g2.pub g2.ok hlt, LcJ X.K S Hb1 H1 Dl J (j + 1), fun H' z => ⟨n - (j + 1), by omega, rfl, hlt, z⟩, fun x H3 y => ?_⟩
    obtain ⟨Hb3, g3, r3⟩ := wd.yl j x H2 Hb2 H3 g2.pub g2.ok hlt y
    refine ⟨lc_set, ?_⟩
    have nS : S ≠ some Dl := g1.ok.ne hD
    have en3 : Sls X.K S H0 Hb3 H3 ((wipe σ [i]).set i (some x)) (ρ.set i (.va (f j))) := by
      have z : Sls X.K S H0 Hb3 H3 ((wipe σ [i]).set i (some x)) ((ρ.set i .un).set i (.va (f j))) := ((en1.grow (g2.trans g3)).weak (i := i) (o := none)).setV r3
      rw [List.set_set] at z
      exact z
    have h3 : H3 Dl = some (.lst vs) := g3.prv _ _ hl2 nS
    have b3 : Hb3 Dl = none := g3.sep _ _ hl2 hb2
    refine js j acc hlt jj S H0 Hb3 H3 _ g3.ok en3 _ fun b Hb4 H4 g4 p4 => ?_
    have h4 : H4 Dl = some (.lst vs) := g4.prv _ _ h3 nS
    have b4 : Hb4 Dl = none := g4.sep _ _ h3 b3
    cases b with
    | true =>
      rw [if_pos rfl]
      refine p4.1 rfl S H0 Hb4 H4 _ g4.ok (en3.grow g4) _ fun y dy Hb5 H5 g5 r5 p5 => ?_
      have h5 : H5 Dl = some (.lst vs) := g5.prv _ _ h4 nS
      have b5 : Hb5 Dl = none := g5.sep _ _ h4 b4
      have g25 := g2.trans (g3.trans (g4.trans g5))
      have rr := r2.mono (g3.pub.trans (g4.pub.trans g5.pub))
      exact ⟨vs, h5, Nat.lt_of_lt_of_le (by rw [r2.len]; exact p5.1) (sz1000 (Nat.le_refl _)), Hb5, _, _, g25.mut hD b5, upd_same, b5, rr.app (.cons r5 .nil), p5.2⟩
    | false =>
      rw [if_neg (fun z => Bool.false_ne_true z)]
      exact ⟨Hb4, vs, acc, g2.trans (g3.trans g4), h4, b4, r2.mono (g3.pub.trans g4.pub), p4.2 rfl⟩
  · have e : j = n := by omega
    subst e
    refine .inl ⟨wd.st H2 Hb2 g2.pub g2.ok, ?_⟩
    have sm : Same Hb2 (upd Hb2 Dl (.lst vs)) := same_new hb2
    exact q _ _ _ _ (g1.trans (g2.tell hD hb2 hl2)) (.lst upd_same (r2.mono sm)) (jd acc jj)
abbrev Blk (X : Cx) (scope : Scope) (s : Shared) (H : Hp) (C : Addr) (cl : List (Str × Addr)) (fp : List Addr) : Cx := X.blk s H scope (compEnvC scope cl C X.env) fp
def bE (X : Cx) (scope : Scope) (e : Expr) : TE := fun σ H Q => ∀ s H' C cl fp, wE (Blk X scope s H' C cl fp) e σ H Q
def bT (X : Cx) (scope : Scope) (e : Expr) : L2.TT := fun σ H Q => ∀ s H' C cl fp, wT (Blk X scope s H' C cl fp) e σ H Q
/-- [e for x in iter] -/
theorem ee_lc {i : Nat} {x : Str} {px : Pos} {scope : Scope} {Φ : D → Prop} (nd : X.N.Nodup) (ok : BlkOk X.N X.env.scope scope [(x, i)])
    (h : II X (.Name x px) iter ρ fun n f => ∃ J : Nat → List D → Prop, J 0 [] ∧ (∀ j acc, j < n → J j acc → ∀ s H C cl fp, EE (Blk X scope s H C cl fp) e (ρ.set i (.va (f j))) fun y => acc.length < 100000 ∧ J (j + 1) (acc ++ [y])) ∧ ∀ acc, J n acc → Φ (.lst acc))
    (hi : X.N[i]? = some x := by rfl) (hx : scope.names.lookup x = some .local := by rfl)
    (hg : ∀ (s : Shared) (H : Hp) (C : Addr) (cl : List (Str × Addr)) (fp : List Addr), PG (X.blk s H scope (compEnvC scope cl C X.env) fp) (.Name x px) (gName i) := by intro _ _ _ _ _; exact pg_name (by assumption) rfl (Or.inl rfl)) (hc : X.calm = true := by rfl)
    (hs : ∀ x, foldedSetIterable iter X.env x = pure x := by intro _; rfl) : EE X (.ListComp e [⟨.Name x px, iter, [], 0⟩] scope pos) ρ Φ := by
  refine ee_lcCore tYes (bE X scope e) nd (fun _ _ _ _ _ => pts_nil) (fun s H C cl fp => ⟨fun pins s' σ H' Q I q => q s H C cl fp pins s' I⟩) ok hi hx ?_ hg hc hs
  refine (fun S H0 Hb H σ ok en R q => h S H0 Hb H σ ok en R fun J n f Hb' H' g wd p => q J n f Hb' H' g wd ?_)
  obtain ⟨Jx, j0, js, jd⟩ := p
  refine ⟨Jx, j0, fun j acc hj jj => ?_, jd⟩
  intro S H0 Hb H σ ok en Q q
  refine q true Hb H (.refl ok) ⟨fun _ => ?_, fun z => by cases z⟩
  intro S H0 Hb H σ ok en Q q s H' C cl fp
  exact js j acc hj jj s H' C cl fp S H0 Hb H σ ok en Q q
/-- [e for x in iter if c] -/
theorem ee_lcIf {i : Nat} {x : Str} {px : Pos} {scope : Scope} {Φ : D → Prop} (nd : X.N.Nodup) (ok : BlkOk X.N X.env.scope scope [(x, i)])
    (h : II X (.Name x px) iter ρ fun n f => ∃ J : Nat → List D → Prop, J 0 [] ∧ (∀ j acc, j < n → J j acc → ∃ b : Bool, (∀ s H C cl fp, TT (Blk X scope s H C cl fp) c (ρ.set i (.va (f j))) fun b' => b' = b) ∧ (b = true → ∀ s H C cl fp, EE (Blk X scope s H C cl fp) e (ρ.set i (.va (f j))) fun y => acc.length < 100000 ∧ J (j + 1) (acc ++ [y])) ∧ (b = false → J (j + 1) acc)) ∧ ∀ acc, J n acc → Φ (.lst acc))
    (hi : X.N[i]? = some x := by rfl) (hx : scope.names.lookup x = some .local := by rfl)
    (hg : ∀ (s : Shared) (H : Hp) (C : Addr) (cl : List (Str × Addr)) (fp : List Addr), PG (X.blk s H scope (compEnvC scope cl C X.env) fp) (.Name x px) (gName i) := by intro _ _ _ _ _; exact pg_name (by assumption) rfl (Or.inl rfl)) (hc : X.calm = true := by rfl)
    (hs : ∀ x, foldedSetIterable iter X.env x = pure x := by intro _; rfl) : EE X (.ListComp e [⟨.Name x px, iter, [c], 0⟩] scope pos) ρ Φ := by
  refine ee_lcCore (bT X scope c) (bE X scope e) nd (fun s H C cl fp => pts_one ⟨fun pins s' σ H' Q I q => q s H C cl fp pins s' I⟩) (fun s H C cl fp => ⟨fun pins s' σ H' Q I q => q s H C cl fp pins s' I⟩) ok hi hx ?_ hg hc hs
  refine (fun S H0 Hb H σ ok en R q => h S H0 Hb H σ ok en R fun J n f Hb' H' g wd p => q J n f Hb' H' g wd ?_)
  obtain ⟨Jx, j0, js, jd⟩ := p
  refine ⟨Jx, j0, fun j acc hj jj => ?_, jd⟩
  obtain ⟨b, hb, h1, h2⟩ := js j acc hj jj
  intro S H0 Hb H σ ok en Q q s H' C cl fp
  refine hb s H' C cl fp S H0 Hb H σ ok en Q fun b' Hb2 H2 g2 e2 => ?_
  subst e2
  refine q b' Hb2 H2 g2 ⟨fun e => ?_, h2⟩
  intro S H0 Hb H σ ok en Q q s H' C cl fp
  exact h1 e s H' C cl fp S H0 Hb H σ ok en Q q
end
end Lg
namespace Lg
open L2 PyProof.Rows PySem PySem.Spec
section
variable {K : PySem.W.Frag}
/-! ### built-in functions, by data -/
def LenR : List D → (D → Prop) → Prop
  | [.lst ds], Φ => Φ (.int ds.length)
  | [.tup ds], Φ => Φ (.int ds.length)
  | [.flst ds], Φ => Φ (.int ds.length)
  | [.str z], Φ => z.length ≤ sizeLine ∧ Φ (.int z.length)
  | [.dct kvs], Φ => Φ (.int kvs.length)
  | _, _ => False
theorem rdc_len1 {S : Option Addr} {Hb : Hp} {vs : List V} {d : D} (r : RpL K S Hb vs [d]) : ∃ v, vs = [v] ∧ Rp K S Hb v d := by
  cases r with
  | cons a b =>
    cases b
    exact ⟨_, rfl, a⟩
theorem rdc_len2 {S : Option Addr} {Hb : Hp} {vs : List V} {d e : D} (r : RpL K S Hb vs [d, e]) : ∃ v w, vs = [v, w] ∧ Rp K S Hb v d ∧ Rp K S Hb w e := by
  cases r with
  | cons a b =>
    cases b with
    | cons b c =>
      cases c
      exact ⟨_, _, rfl, a, b⟩
theorem rdc_len : RDC K (fun xs H Q => (∃ p ys, xs = [.ref p] ∧ (SqL K H p ys ∨ SqT K H p ys) ∧ Q (.int ys.length) H) ∨ (∃ z, xs = [.str z] ∧ z.length ≤ sizeLine ∧ Q (.int z.length) H) ∨ (∃ a kvs, xs = [V.ref a] ∧ H a = some (.dK kvs) ∧ Q (.int kvs.length) H)) LenR := by
  intro S Hb H vs ds Φ Q ok r h q
  unfold LenR at h
  split at h
  · obtain ⟨v, rfl, r1⟩ := rdc_len1 r
    obtain ⟨a, xs, rfl, ha, ra⟩ := r1.lst_
    exact .inl ⟨a, xs, rfl, .inl (.of (ok.ex _ _ ha)), by rw [ra.len]; exact q.here ok (.int _) h⟩
  · obtain ⟨v, rfl, r1⟩ := rdc_len1 r
    obtain ⟨a, xs, rfl, ha, ra⟩ := r1.tup_
    exact .inl ⟨a, xs, rfl, .inr (same_t ok.ex ha), by rw [ra.len]; exact q.here ok (.int _) h⟩
  · obtain ⟨v, rfl, r1⟩ := rdc_len1 r
    obtain ⟨a, xs, rfl, ha, ra⟩ := r1.flst_
    exact .inl ⟨a, xs, rfl, .inl (ok.ex.seq ha), by rw [ra.len]; exact q.here ok (.int _) h⟩
  · obtain ⟨v, rfl, r1⟩ := rdc_len1 r
    rw [r1.str_]
    exact .inr (.inl ⟨_, rfl, h.1, q.here ok (.int _) h.2⟩)
  · obtain ⟨v, rfl, r1⟩ := rdc_len1 r
    obtain ⟨a, xs, rfl, ha, ra⟩ := r1.dct_
    exact .inr (.inr ⟨a, xs, rfl, ok.ex _ _ ha, by rw [ra.len]; exact q.here ok (.int _) h⟩)
  · exact h.elim
def bools : List D → Option (List Bool)
  | [] => some []
  | .bl b :: r => (bools r).map (b :: ·)
  | _ => none
theorem RpL.bools {S : Option Addr} {Hb : Hp} : ∀ {vs : List V} {ds : List D} {bs : List Bool}, RpL K S Hb vs ds → Lg.bools ds = some bs → vs = bs.map V.bl
  | _, _, _, .nil, h => by cases h; rfl
  | _, _, bs, .cons (d := d) (ds := ds) r t, h => by
    cases d with
    | bl b =>
      unfold Lg.bools at h
      obtain ⟨bs', e1, e2⟩ := Option.map_eq_some_iff.mp h
      subst e2
      rw [r.bl_, RpL.bools t e1]
      rfl
    | _ => cases h
def AllR : List D → (D → Prop) → Prop := fun ds Φ => ∃ es bs, ds = [.lst es] ∧ bools es = some bs ∧ Φ (.bl (bs.all id))
theorem rdc_all : RDC K (rAll K) AllR := by
  intro S Hb H vs ds Φ Q ok r h q
  obtain ⟨es, bs, rfl, e, p⟩ := h
  obtain ⟨v, rfl, r1⟩ := rdc_len1 r
  obtain ⟨a, xs, rfl, ha, ra⟩ := r1.lst_
  have ex := ra.bools e
  subst ex
  exact ⟨a, bs, rfl, .of (ok.ex _ _ ha), q.here ok (.bl _) p⟩
def AbsR : List D → (D → Prop) → Prop
  | [.int i], Φ => Φ (.int (if i < 0 then -i else i))
  | _, _ => False
theorem rdc_abs : RDC K (fun xs H Q => ∃ i, xs = [.int i] ∧ Q (.int (if i < 0 then -i else i)) H) AbsR := by
  intro S Hb H vs ds Φ Q ok r h q
  unfold AbsR at h
  split at h
  · obtain ⟨v, rfl, r1⟩ := rdc_len1 r
    rw [r1.int_]
    exact ⟨_, rfl, q.here ok (.int _) h⟩
  · exact h.elim
def MaxR : List D → (D → Prop) → Prop
  | [.int i, .int j], Φ => Φ (.int (if j > i then j else i))
  | _, _ => False
def MinR : List D → (D → Prop) → Prop
  | [.int i, .int j], Φ => Φ (.int (if j < i then j else i))
  | _, _ => False
theorem rdc_max : RDC K (fun xs H Q => ∃ i j, xs = [.int i, .int j] ∧ Q (.int (if j > i then j else i)) H) MaxR := by
  intro S Hb H vs ds Φ Q ok r h q
  unfold MaxR at h
  split at h
  · obtain ⟨v, w, rfl, r1, r2⟩ := rdc_len2 r
    rw [r1.int_, r2.int_]
    exact ⟨_, _, rfl, q.here ok (.int _) h⟩
  · exact h.elim
theorem rdc_min : RDC K (fun xs H Q => ∃ i j, xs = [.int i, .int j] ∧ Q (.int (if j < i then j else i)) H) MinR := by
  intro S Hb H vs ds Φ Q ok r h q
  unfold MinR at h
  split at h
  · obtain ⟨v, w, rfl, r1, r2⟩ := rdc_len2 r
    rw [r1.int_, r2.int_]
    exact ⟨_, _, rfl, q.here ok (.int _) h⟩
  · exact h.elim
def IntR : List D → (D → Prop) → Prop
  | [.bl k], Φ => Φ (.int (if k then 1 else 0))
  | _, _ => False
theorem rdc_int : RDC K (fun xs H Q => (∃ i, xs = [.int i] ∧ Q (.int i) H) ∨ ∃ k, xs = [.bl k] ∧ Q (.int (if k then 1 else 0)) H) IntR := by
  intro S Hb H vs ds Φ Q ok r h q
  unfold IntR at h
  split at h
  · obtain ⟨v, rfl, r1⟩ := rdc_len1 r
    rw [r1.bl_]
    exact .inr ⟨_, rfl, q.here ok (.int _) h⟩
  · exact h.elim
def StrR : List D → (D → Prop) → Prop
  | [.int i], Φ => i.natAbs.log2 < 1920 ∧ Φ (.str (toString i))
  | _, _ => False
theorem rdc_str : RDC K (fun xs H Q => ∃ i, xs = [.int i] ∧ i.natAbs.log2 < 1920 ∧ Q (.str (toString i)) H) StrR := by
  intro S Hb H vs ds Φ Q ok r h q
  unfold StrR at h
  split at h
  · obtain ⟨v, rfl, r1⟩ := rdc_len1 r
    rw [r1.int_]
    exact ⟨_, rfl, h.1, q.here ok (.str _) h.2⟩
  · exact h.elim
/-- dict(d), a new one -/
def DctR : List D → (D → Prop) → Prop
  | [.dct kvs], Φ => Φ (.dct kvs)
  | _, _ => False
theorem rdc_dict : RDC K (fun xs H Q => ∃ (a : Addr) (kvs : List (Key × V)), xs = [.ref a] ∧ Rd H a (.dK kvs) ∧ ∀ p, H p = none → Q (.ref p) (upd H p (.dK kvs))) DctR := by
  intro S Hb H vs ds Φ Q ok r h q
  unfold DctR at h
  split at h
  · obtain ⟨v, rfl, r1⟩ := rdc_len1 r
    obtain ⟨a, xs, rfl, ha, ra⟩ := r1.dct_
    exact ⟨a, xs, rfl, .inl (ok.ex _ _ ha), fun p hp => q.made ok hp (.dct upd_same (ra.mono (same_new (ok.base hp)))) h⟩
  · exact h.elim
/-- tuple(l), list(l) -/
def TupR : List D → (D → Prop) → Prop
  | [.lst ds], Φ => Φ (.tup ds)
  | _, _ => False
def LstR : List D → (D → Prop) → Prop
  | [.lst ds], Φ => Φ (.lst ds)
  | _, _ => False
theorem rdc_tup : RDC K (fun xs H Q => ∃ p ys, xs = [.ref p] ∧ ((SqL K H p ys ∧ ∀ l, H l = none → Q (.ref l) (upd H l (.tup ys))) ∨ (SqT K H p ys ∧ Q (.ref p) H))) TupR := by
  intro S Hb H vs ds Φ Q ok r h q
  unfold TupR at h
  split at h
  · obtain ⟨v, rfl, r1⟩ := rdc_len1 r
    obtain ⟨a, xs, rfl, ha, ra⟩ := r1.lst_
    exact ⟨a, xs, rfl, .inl ⟨.of (ok.ex _ _ ha), fun p hp => q.made ok hp (.tup (.of upd_same) (ra.mono (same_new (ok.base hp)))) h⟩⟩
  · exact h.elim
theorem rdc_lst : RDC K (fun xs H Q => ∃ p ys, xs = [.ref p] ∧ (SqL K H p ys ∨ SqT K H p ys) ∧ ∀ l, H l = none → Q (.ref l) (upd H l (.lst ys))) LstR := by
  intro S Hb H vs ds Φ Q ok r h q
  unfold LstR at h
  split at h
  · obtain ⟨v, rfl, r1⟩ := rdc_len1 r
    obtain ⟨a, xs, rfl, ha, ra⟩ := r1.lst_
    exact ⟨a, xs, rfl, .inl (.of (ok.ex _ _ ha)), fun p hp => q.made ok hp (.lst upd_same (ra.mono (same_new (ok.base hp)))) h⟩
  · exact h.elim
/-! ### isinstance -/
def tyOf : D → String
  | .non => "NoneType"
  | .bl _ => "bool"
  | .int _ => "int"
  | .str _ => "str"
  | .tup _ => "tuple"
  | .lst _ => "list"
  | .dct _ => "dict"
  | .flst _ => "list"
  | .pool => "list"
def isPub : D → Bool
  | .pool => false
  | .flst _ => false
  | _ => true
theorem Rp.ty {S : Option Addr} {Hb H : Hp} {v : V} {d : D} (sm : Same Hb H) (r : Rp K S Hb v d) (hp : isPub d = true) : TyX K H v (.type (tyOf d)) := by
  cases r with
  | non => exact .base .non
  | bl b => exact .base (.bl b)
  | int i => exact .base (.int i)
  | str x => exact .base (.str x)
  | tup h _ =>
    rcases h with (h | ⟨o, h⟩) | ⟨o, its, n, h, hc, _⟩
    · exact .base (.tup (sm _ _ h))
    · exact .fTuple (sm _ _ h)
    · exact .kTuple h hc
  | lst h _ => exact .base (.lst (sm _ _ h))
  | flst => cases hp
  | dct h _ => exact .base (.dK (sm _ _ h))
  | pool => cases hp
end
section
variable {X : Cx} {e : Expr} {ρ : List Sl} {Φ : D → Prop} {pos p p2 : Pos}
theorem ee_isi {T : String} {x : Str} (hm : X.mg "isinstance" = none) (hT : X.mg x = none) (hv : bootBuiltins x = some (.type T))
    (h : EE X e ρ fun d => isPub d = true ∧ ∃ b, kitB (tyOf d) T = some b ∧ Φ (.bl b)) (hg : Gl X "isinstance" := by rfl) (hgT : Gl X x := by rfl) (hn : x ≠ "__name__" := by decide) (hd : (x == ("__debug__" : Str)) = false := by decide)
    (he : starEach [e, .Name x p2] X.env = (false, eval e X.env) :: starEach [.Name x p2] X.env := by rfl) (hpl : (backTo pos (starEach [.Name x p2] X.env)).any (·.1) = false := by rfl) : EE X (.Call (.Name "isinstance" p) [e, .Name x p2] [] pos) ρ Φ := by
  intro S H0 Hb H σ ok en Q q
  refine wE_of (pe_callB call_isi hg hm (by decide +kernel) (pa_cons pe_w (pa_cons (pe_bltn (v := .ty T) hgT hT hv rfl hn hd) pa_nil (by rfl)) he) (by decide) (by decide) he hpl) ?_
  refine h S H0 Hb H σ ok en _ fun v d Hb1 H1 g1 r1 p1 => ?_
  obtain ⟨hp, b, hk, p1⟩ := p1
  exact ⟨v, .ty T, _, _, b, rfl, .ty T, r1.ty g1.ok.ex hp, kit_ty hk, q _ _ _ _ g1 (.bl b) p1⟩
end
section
variable {X : Cx} {e f o : Expr} {ρ : List Sl} {Φ : D → Prop} {pos p p2 apos : Pos}
/-! ### methods of texts -/
def RDM (K : PySem.W.Frag) (r : V → List V → Hp → VK → Prop) (Res : Str → D → (D → Prop) → Prop) : Prop :=
  ∀ S Hb H a y dy Φ Q, Ok S Hb H → Rp K S Hb y dy → Res a dy Φ → Post K S Hb H Φ Q → r (.str a) [y] H Q
theorem ee_m1 {id : String} {name : Str} {r : V → List V → Hp → VK → Prop} {Res : Str → D → (D → Prop) → Prop} (slot : Slot "str" name id) (ty : typeOf (.builtin id) = pure (.type "method_descriptor")) (rule : MtR X id r) (hr : RDM X.K r Res)
    (h : EE X o ρ fun x => ∃ a, x = .str a ∧ EE X e ρ fun y => Res a y Φ) (hs : starEach [e] X.env = [(false, eval e X.env)] := by rfl) (hbase : attributeBase o name X.env (eval o X.env) = eval o X.env := by rfl) (hline : (apos.endLine == pos.line) = true := by rfl) :
    EE X (.Call (.Attribute o name apos) [e] [] pos) ρ Φ := by
  intro S H0 Hb H σ ok en Q q
  refine wE_of (pe_m1 slot ty rule pe_w pe_w hs hbase hline) ?_
  refine h S H0 Hb H σ ok en _ fun x dx Hb1 H1 g1 r1 hx => ?_
  obtain ⟨a, rfl, hx⟩ := hx
  have ex := r1.str_
  subst ex
  refine ⟨⟨a, rfl⟩, ?_⟩
  refine hx S H0 Hb1 H1 σ g1.ok (en.grow g1) _ fun y dy Hb2 H2 g2 r2 hy => ?_
  exact hr S Hb2 H2 a y dy Φ Q g2.ok r2 hy (q.grow (g1.trans g2))
def MS (g : Str → Str → D) (a : Str) (y : D) (Φ : D → Prop) : Prop := match y with
  | .str b => Φ (g a b)
  | _ => False
theorem rdm_B {K : PySem.W.Frag} {g : Str → Str → Bool} : RDM K (fun x xs H Q => ∃ a b, x = .str a ∧ xs = [.str b] ∧ Q (.bl (g a b)) H) (MS fun a b => .bl (g a b)) := by
  intro S Hb H a y dy Φ Q ok r h q
  unfold MS at h
  split at h
  · rw [r.str_]
    exact ⟨_, _, rfl, rfl, q.here ok (.bl _) h⟩
  · exact h.elim
theorem rdm_I {K : PySem.W.Frag} {g : Str → Str → Int} : RDM K (fun x xs H Q => ∃ a b, x = .str a ∧ xs = [.str b] ∧ Q (.int (g a b)) H) (MS fun a b => .int (g a b)) := by
  intro S Hb H a y dy Φ Q ok r h q
  unfold MS at h
  split at h
  · rw [r.str_]
    exact ⟨_, _, rfl, rfl, q.here ok (.int _) h⟩
  · exact h.elim
theorem ee_startswith (h : EE X o ρ fun x => ∃ a, x = .str a ∧ EE X e ρ fun y => MS (fun a b => .bl (Txt.startswith a b)) a y Φ) (hs : starEach [e] X.env = [(false, eval e X.env)] := by rfl) (hbase : attributeBase o "startswith" X.env (eval o X.env) = eval o X.env := by rfl) (hline : (apos.endLine == pos.line) = true := by rfl) :
    EE X (.Call (.Attribute o "startswith" apos) [e] [] pos) ρ Φ := ee_m1 F.slot_str_startswith F.type_str_startswith mt_startswith rdm_B h hs hbase hline
theorem ee_scount (h : EE X o ρ fun x => ∃ a, x = .str a ∧ EE X e ρ fun y => MS (fun a b => .int (Txt.count a b)) a y Φ) (hs : starEach [e] X.env = [(false, eval e X.env)] := by rfl) (hbase : attributeBase o "count" X.env (eval o X.env) = eval o X.env := by rfl) (hline : (apos.endLine == pos.line) = true := by rfl) :
    EE X (.Call (.Attribute o "count" apos) [e] [] pos) ρ Φ := ee_m1 F.slot_str_count F.type_str_count mt_count rdm_I h hs hbase hline
def dstrs (zs : List Str) : List D := zs.map D.str
theorem rpl_dstrs {K : PySem.W.Frag} {S : Option Addr} {Hb : Hp} : ∀ zs : List Str, RpL K S Hb (zs.map V.str) (dstrs zs)
  | [] => .nil
  | z :: zs => .cons (.str z) (rpl_dstrs zs)
theorem RpL.dstrs_ {K : PySem.W.Frag} {S : Option Addr} {Hb : Hp} : ∀ {zs : List Str} {vs : List V}, RpL K S Hb vs (dstrs zs) → vs = zs.map V.str
  | [], _, h => by cases h; rfl
  | z :: zs, _, h => by
    cases h with
    | cons a b => rw [a.str_, RpL.dstrs_ b]; rfl
def SplitR (a : Str) (y : D) (Φ : D → Prop) : Prop := match y with
  | .str b => (b.length == 0) = false ∧ a.length + 2 ≤ sizeLine ∧ Φ (.lst (dstrs (Txt.split a b)))
  | _ => False
theorem ee_split (h : EE X o ρ fun x => ∃ a, x = .str a ∧ EE X e ρ fun y => SplitR a y Φ) (hs : starEach [e] X.env = [(false, eval e X.env)] := by rfl) (hbase : attributeBase o "split" X.env (eval o X.env) = eval o X.env := by rfl) (hline : (apos.endLine == pos.line) = true := by rfl) :
    EE X (.Call (.Attribute o "split" apos) [e] [] pos) ρ Φ := by
  refine ee_m1 F.slot_str_split F.type_str_split mt_split ?_ h hs hbase hline
  intro S Hb H a y dy Φ Q ok r h q
  unfold SplitR at h
  split at h
  · rw [r.str_]
    exact ⟨_, _, rfl, rfl, h.1, h.2.1, fun p hp => q.made ok hp (.lst upd_same (rpl_dstrs _)) h.2.2⟩
  · exact h.elim
def PartR (a : Str) (y : D) (Φ : D → Prop) : Prop := match y with
  | .str b => (b.length == 0) = false ∧ a.length ≤ sizeLine ∧ Φ (.tup [.str (Txt.partition a b).1, .str (Txt.partition a b).2.1, .str (Txt.partition a b).2.2])
  | _ => False
theorem ee_partition (h : EE X o ρ fun x => ∃ a, x = .str a ∧ EE X e ρ fun y => PartR a y Φ) (hs : starEach [e] X.env = [(false, eval e X.env)] := by rfl) (hbase : attributeBase o "partition" X.env (eval o X.env) = eval o X.env := by rfl) (hline : (apos.endLine == pos.line) = true := by rfl) :
    EE X (.Call (.Attribute o "partition" apos) [e] [] pos) ρ Φ := by
  refine ee_m1 F.slot_str_partition F.type_str_partition mt_partition ?_ h hs hbase hline
  intro S Hb H a y dy Φ Q ok r h q
  unfold PartR at h
  split at h
  · rw [r.str_]
    exact ⟨_, _, rfl, rfl, h.1, h.2.1, fun p hp => q.made ok hp (.tup (.of upd_same) (.cons (.str _) (.cons (.str _) (.cons (.str _) .nil)))) h.2.2⟩
  · exact h.elim
def JoinR (a : Str) (y : D) (Φ : D → Prop) : Prop := ∃ zs, y = .lst (dstrs zs) ∧ (zs.map (·.length)).sum + zs.length * a.length ≤ 16777216 ∧ Φ (.str (Txt.join a zs))
theorem ee_join (h : EE X o ρ fun x => ∃ a, x = .str a ∧ EE X e ρ fun y => JoinR a y Φ) (hs : starEach [e] X.env = [(false, eval e X.env)] := by rfl) (hbase : attributeBase o "join" X.env (eval o X.env) = eval o X.env := by rfl) (hline : (apos.endLine == pos.line) = true := by rfl) :
    EE X (.Call (.Attribute o "join" apos) [e] [] pos) ρ Φ := by
  refine ee_m1 F.slot_str_join F.type_str_join mt_join ?_ h hs hbase hline
  intro S Hb H a y dy Φ Q ok r h q
  obtain ⟨zs, rfl, hl, p⟩ := h
  obtain ⟨b, xs, rfl, hb, rb⟩ := r.lst_
  have ex := rb.dstrs_
  subst ex
  exact ⟨a, b, zs, rfl, rfl, .inl (.of (ok.ex _ _ hb)), hl, q.here ok (.str _) p⟩
/-! ### d.get -/
theorem ee_get1 (hu : X.A.units + 1 < cLine) (h : EE X o ρ fun x => ∃ kvs, x = .dct kvs ∧ EE X e ρ fun y => ∃ z, y = .str z ∧ Φ ((dget kvs z).getD .non)) (hm : M1 X o "get" apos e pos := by exact ⟨rfl, rfl, rfl, rfl⟩) : EE X (.Call (.Attribute o "get" apos) [e] [] pos) ρ Φ := by
  intro S H0 Hb H σ ok en Q q
  refine wE_of (pe_dget1 hu pe_w pe_w hm) ?_
  refine h S H0 Hb H σ ok en _ fun x dx Hb1 H1 g1 r1 hx => ?_
  obtain ⟨kvs, rfl, hx⟩ := hx
  obtain ⟨a, xs, rfl, ha, ra⟩ := r1.dct_
  refine ⟨a, rfl, .inl ⟨_, .inl (g1.ok.ex _ _ ha)⟩, ?_⟩
  refine hx S H0 Hb1 H1 σ g1.ok (en.grow g1) _ fun y dy Hb2 H2 g2 r2 hy => ?_
  obtain ⟨z, rfl, p⟩ := hy
  have ey := r2.str_
  subst ey
  refine ⟨_, DGet.k (k := Sum.inr z) (g2.ok.ex _ _ (g2.pub _ _ ha)), ?_⟩
  rcases (ra.mono g2.pub).val z with ⟨v, d, h1, h2, h3⟩ | ⟨h1, h2⟩
  · rw [h1]
    rw [h2] at p
    exact q _ _ _ _ (g1.trans g2) h3 p
  · rw [h1]
    rw [h2] at p
    exact q _ _ _ _ (g1.trans g2) .non p
theorem ee_get2 (hu : X.A.units + 1 < cLine) (h : EE X o ρ fun x => ∃ kvs, x = .dct kvs ∧ EE X e ρ fun y => EE X f ρ fun w => ∃ z, y = .str z ∧ Φ ((dget kvs z).getD w)) (hm : M2 X o "get" apos e f pos := by exact ⟨rfl, rfl, rfl, rfl⟩) : EE X (.Call (.Attribute o "get" apos) [e, f] [] pos) ρ Φ := by
  intro S H0 Hb H σ ok en Q q
  refine wE_of (pe_dget2 hu pe_w pe_w pe_w hm) ?_
  refine h S H0 Hb H σ ok en _ fun x dx Hb1 H1 g1 r1 hx => ?_
  obtain ⟨kvs, rfl, hx⟩ := hx
  obtain ⟨a, xs, rfl, ha, ra⟩ := r1.dct_
  refine ⟨a, rfl, .inl ⟨_, .inl (g1.ok.ex _ _ ha)⟩, ?_⟩
  refine hx S H0 Hb1 H1 σ g1.ok (en.grow g1) _ fun y dy Hb2 H2 g2 r2 hy => ?_
  refine hy S H0 Hb2 H2 σ g2.ok (en.grow (g1.trans g2)) _ fun w dw Hb3 H3 g3 r3 hw => ?_
  obtain ⟨z, rfl, p⟩ := hw
  have ey := r2.str_
  subst ey
  have g23 := g2.trans g3
  refine ⟨_, DGet.k (k := Sum.inr z) (g3.ok.ex _ _ (g23.pub _ _ ha)), ?_⟩
  rcases (ra.mono g23.pub).val z with ⟨v, d, h1, h2, h3⟩ | ⟨h1, h2⟩
  · rw [h1]
    rw [h2] at p
    exact q _ _ _ _ (g1.trans g23) h3 p
  · rw [h1]
    rw [h2] at p
    exact q _ _ _ _ (g1.trans g23) r3 p
end
/-! ### a def's body -/
section
variable {P : Program} {w : World} {K : PySem.W.Frag} {base : Heap} {mg : Str → Option Value}
abbrev BX (P : Program) (w : World) (K : PySem.W.Frag) (mg : Str → Option Value) (base : Heap) (N : List Str) (qual : Str) (sc : Scope) (f : Addr) (cdv : Value) (A : Around) (outer : List PySem.Env) (s : Shared) (H : Hp) (E : XK) : Cx := (cxOf CX0 P w K mg base N qual sc f cdv A outer s H E).nox
def slots (N : List Str) (ds : List D) : List Sl := ds.map .va ++ List.replicate (N.length - ds.length) .un
theorem slots_ok {S : Option Addr} {Hb H : Hp} {N : List Str} {vs : List V} {ds : List D} (ok : Ok S Hb H) (r : RpL K S Hb vs ds) : Sls K S H Hb H (start N vs) (slots N ds) := by
  have own : ∀ (i : Nat) (s : Sl), (slots N ds)[i]? = some s → ¬ s.own := by
    intro i s h o
    unfold slots at h
    by_cases c : i < (ds.map Sl.va).length
    · rw [List.getElem?_append_left c, List.getElem?_map] at h
      cases z : ds[i]? with
      | none => rw [z] at h; cases h
      | some d => rw [z] at h; cases h; exact o
    · rw [List.getElem?_append_right (by omega), List.getElem?_replicate] at h
      split at h
      · cases h
        exact o
      · cases h
  refine ⟨?_, fun i s o h1 h2 => ?_, fun i j s t p h1 h2 h3 h4 _ _ => absurd h3 (own i s h1), fun p e => ?_⟩
  · unfold L2.start slots
    rw [List.length_append, List.length_append, List.length_map, List.length_map, List.length_replicate, List.length_replicate, r.len]
  · unfold slots at h1
    unfold L2.start at h2
    by_cases c : i < ds.length
    · rw [List.getElem?_append_left (by simpa using c), List.getElem?_map, List.getElem?_eq_getElem c] at h1
      have c2 : i < vs.length := by rw [r.len]; exact c
      rw [List.getElem?_append_left (by simpa using c2), List.getElem?_map, List.getElem?_eq_getElem c2] at h2
      cases h1; cases h2
      obtain ⟨v, e1, e2⟩ := r.get (List.getElem?_eq_getElem c)
      rw [List.getElem?_eq_getElem c2] at e1
      cases e1
      exact ⟨_, rfl, e2⟩
    · rw [List.getElem?_append_right (by simpa using Nat.le_of_not_lt c), List.getElem?_replicate] at h1
      split at h1
      · cases h1
        exact True.intro
      · cases h1
  · obtain ⟨_, o, h, _⟩ := ok.pl p e
    exact ⟨o, h⟩
/-- THE RULE for a def: its body -/
theorem fn_ok {x qual : Str} {st : Stmt} {f : Addr} {fd : FuncData} {N ps : List Str} {k : Nat} {C : Con} (F : Fun K x qual st f fd) (S : FnScope N ps (defScope st)) (len : ∀ ds Φ, C ds Φ → ds.length = ps.length)
    (hb : ∀ (cdv : Value) (A : Around) (outer : List PySem.Env) (s : Shared) (H : Hp) (E : XK) (ds : List D) (Φ : D → Prop), Room k (BX P w K mg base N qual (defScope st) f cdv A outer s H E).A → C ds Φ →
      RR (BX P w K mg base N qual (defScope st) f cdv A outer s H E) (defBody st) (slots N ds) (fun _ => Φ .non) Φ) : FnOk P w K mg base CX0 (k + 1) f fd ps (spF K C) := by
  refine F.ok S (fun vs H Q E h => ?_) (fun cdv A outer s H vs Q E hr h => ?_)
  · obtain ⟨S, Hb, ds, Φ, _, r, c, _⟩ := h
    rw [r.len]
    exact len ds Φ c
  · obtain ⟨S', Hb, ds, Φ, ok, r, c, q⟩ := h
    refine ⟨_, pss_w, ?_⟩
    refine hb cdv A outer s H E ds Φ hr c S' Hb H Hb H (start N vs) (.refl ok) (slots_ok ok r) _ (fun σ' ρ' Hb' H' _ g en n => ?_) fun v d Hb' H' g r p => ?_
    · exact q .non .non Hb' H' g .non n
    · exact q v d Hb' H' g r p
end
end Lg
namespace Lg
open L2 PyProof.Rows PySem PySem.Spec
/-! ### a, b, *rest = t -/
section
variable {prog : Program} {w : World} {s : Shared} {A : Around} {E : Value → Shared → Prop}
/-- the counts of a, *rest: i ahead, the others behind -/
theorem star_counts {items : Array Value} {n i : Nat} (lt : i < n) (le : n ≤ items.size + 1) :
    (items.toList.take i).length = i ∧ (items.toList.drop i).length = items.size - i ∧ items.size - i - (n - 1 - i) = items.size + 1 - n ∧ ¬ items.size - i < n - 1 - i := by
  refine ⟨?_, ?_, by omega, by omega⟩
  · rw [List.length_take, Array.length_toList, Nat.min_eq_left (by omega)]
  · rw [List.length_drop, Array.length_toList]
/-- a tuple can be walked -/
theorem un_walked {l : Addr} {items : Array Value} (T : IsTup s.heap l items) : wpAny (model prog w) A (notIterableAtAll (.ref l)) (fun b s' => b = false ∧ s' = s) E s :=
  wpAny_bind (wpAny_specialOf T.typeIs slot_tuple_iter.lookup (wpAny_pure ⟨rfl, rfl⟩))
theorem un_starT {l : Addr} {items : Array Value} {n i : Nat} {Q : List Value → Shared → Prop} (hl : IsTup s.heap l items) (hh : A.handled = none) (hi : i < n) (hn : n ≤ items.size + 1) (hz : items.size ≤ 16384)
    (h : ∀ h' tk, (∀ b o, s.heap.get? b = some o → h'.get? b = some o) → wpAny (model prog w) A (newList ((items.toList.drop i).take (items.size + 1 - n))) (fun d s' => Q (items.toList.take i ++ [d] ++ (items.toList.drop i).drop (items.size + 1 - n)) s') E { s with heap := h', toks := tk }) : wpAny (model prog w) A (unpackItems (.ref l) n (some i)) Q E s := by
  obtain ⟨cFront, cRest, cMid, cFew⟩ := star_counts hi hn
  have away : l ≠ s.heap.objs.size := fun z => by
    obtain ⟨ob, q, _⟩ := hl
    exact Nat.lt_irrefl _ (z ▸ Heap.lt_size q)
  unfold unpackItems
  refine wpAny_bind (wpAny_mono (un_walked hl) (fun b s' z => ?_) fun _ _ z => z)
  rw [z.1, z.2, if_neg (fun y => Bool.false_ne_true y)]
  refine wpAny_bind (wpAny_holding (iter_tuple hl (wpAny_bind (wpAny_holding (draw_tuple away i 0 _ _ ⟨_, Heap.get?_push_size _ rfl, rfl, rfl⟩ (hl.push _) (by omega) fun hA pA onlyA => ?_)))))
  have tA : IsTup hA l items := IsTup.extBut (hl.push _) onlyA.extBut away
  rw [Nat.zero_add] at pA
  rw [List.drop_zero, if_neg (by rw [cFront]; exact Nat.lt_irrefl i)]
  have ltI : s.heap.objs.size < hA.objs.size := let ⟨_, q, _⟩ := pA; Heap.lt_size q
  have ltT : l < hA.objs.size := let ⟨_, q, _⟩ := tA; Heap.lt_size q
  refine wpAny_bind (wpAny_holding (PySem.W.kun_collect (s := { s with heap := hA }) (k := i) (.inr (.inr (.inr rfl))) (Walks.tuple (A := A.in1) hh _ l away items) (fun _ _ st => st.1.typeIs) (by omega) ⟨pA, tA⟩ ltI ltT (fun hB tk onlyB => ?_) (by rw [sizeLine_eq]; omega)))
  have kept : ∀ b o, s.heap.get? b = some o → hB.get? b = some o := fun b o e => by
    have nb := Nat.ne_of_lt (Heap.lt_size e)
    exact onlyB b o nb (onlyA.extBut b o nb (Heap.get?_push_of_some _ e))
  show wpAny _ _ (if List.length (items.toList.drop i) < n - 1 - i then _ else _) _ _ _
  rw [if_neg (by rw [cRest]; exact cFew)]
  show wpAny _ _ (newList (List.take ((items.toList.drop i).length - (n - 1 - i)) (items.toList.drop i)) >>= fun d => pure (_ ++ [d] ++ List.drop ((items.toList.drop i).length - (n - 1 - i)) (items.toList.drop i))) _ _ _
  rw [cRest, cMid]
  exact wpAny_bind (thn (h hB tk kept) fun _ _ q => wpAny_pure q)
end
section
variable {X : Cx} {pos : Pos}
def gStar (K : PySem.W.Frag) (n : Nat) (t : TGs) : TG := fun v σ H Q => ∃ a xs, v = .ref a ∧ SqT K H a xs ∧ n ≤ xs.length + 1 ∧ xs.length ≤ 16384 ∧ ∀ D, H D = none → t (xs.take (n - 1) ++ [.ref D]) σ (upd H D (.lst (xs.drop (n - 1)))) Q
theorem pg_star {es : List Expr} {k : Nat} {t : TGs} {n : Nat} (hc : X.calm = true) (h : PGs X es t) (h1 : 1 ≤ n)
    (hn : (assignEach es X.env).length = n := by rfl) (hst : (assignEach es X.env).findIdx? (·.1) = some (n - 1) := by rfl) : PG X (.Tuple es k pos) (gStar X.K n t) := by
  refine ⟨fun pins s σ H v u Q I same goes => ?_⟩
  obtain ⟨a, xs, e1, hq, hl, hz, hw⟩ := goes
  subst e1
  cases same
  obtain ⟨its, rv, ht, _⟩ := I.tuple hq
  have el : its.toArray.size = xs.length := by simp [rv.length]
  rw [PyProof.Rows.assign_Tuple es]
  unfold unpack
  rw [hn, hst]
  refine wpAny_bind (wpAny_standAt <| wpAny_bind <| wpAny_holding (un_starT ht (I.ok.hd hc) (by omega) (by omega) (by omega) fun h' tk hk => ?_))
  have I1 := I.kept (t' := tk) hk
  have e2 : (its.toArray.toList.drop (n - 1)).take (its.toArray.size + 1 - n) = its.drop (n - 1) := by
    show (its.drop (n - 1)).take _ = _
    refine List.take_of_length_le ?_
    rw [List.length_drop, ← rv.length, el]
    omega
  have e3 : (its.toArray.toList.drop (n - 1)).drop (its.toArray.size + 1 - n) = [] := by
    show (its.drop (n - 1)).drop _ = _
    refine List.drop_of_length_le ?_
    rw [List.length_drop, ← rv.length, el]
    omega
  rw [e2, e3]
  simp only [List.append_nil]
  have hl2 : (its.drop (n - 1)).length ≤ sizeLine := by
    rw [List.length_drop, ← rv.length, sizeLine_eq]
    omega
  refine wpAny_newObj_type ?_ hl2
  have new := I1.laid (a := h'.objs.size) (o := .lst (xs.drop (n - 1))) (h' := h'.push { cls := .type "list", data := .seq (its.drop (n - 1)).toArray }) (t' := tk) (fun b u e => Heap.get?_push_of_some _ e) (Nat.le_refl _)
    (show ObjOk X.prog X.w _ _ _ (.lst (xs.drop (n - 1))) from ⟨by rw [List.length_drop, sizeLine_eq]; omega, its.drop (n - 1), _, rv.drop _, Heap.get?_push_size _ rfl⟩)
  refine h.run pins _ σ _ _ _ Q new (Vals.append (rv.take _) (.cons (show RelV (.ref h'.objs.size) (Value.ref h'.objs.size) from rfl) .nil)) (hw h'.objs.size (I1.hok.fresh (Nat.le_refl _)))
theorem pgs_star {e : Expr} {p : Pos} {t : TG} (h1 : PG X e t) (hs : (assignEach [.Starred e p] X.env).map (·.2) = [assign e X.env] := by rfl) : PGs X [.Starred e p] (gCons t gNil) := by
  refine ⟨fun pins s σ H vs us Q I all goes => ?_⟩
  obtain ⟨v, vr, rfl, goes⟩ := goes
  cases all with
  | cons one none_ =>
    rw [hs]
    refine assignInOrder_cons (thn (h1.run pins s σ H v _ _ I one goes) ?_)
    rintro _ s1 ⟨σ1, H1, I1, rfl, q1⟩
    cases none_
    exact assignInOrder_nil ⟨σ1, H1, I1, q1⟩
theorem RpL.two {K : PySem.W.Frag} {S : Option Addr} {H : Hp} {xs : List V} {a b : Lg.D} {ds : List Lg.D} (r : RpL K S H xs (a :: b :: ds)) : ∃ v1 v2 ws, xs = v1 :: v2 :: ws ∧ Rp K S H v1 a ∧ Rp K S H v2 b ∧ RpL K S H ws ds := by
  cases r with
  | cons r1 r =>
    cases r with
    | cons r2 r => exact ⟨_, _, _, rfl, r1, r2, r⟩
theorem Sls.fresh {K : PySem.W.Frag} {S : Option Addr} {H0 Hb H : Hp} {σ : L2.St} {ρ : List Sl} {q : Addr} (en : Sls K S H0 Hb H σ ρ) (hq : H q = none) : ∀ (j : Nat) (p' : Addr) (t : Sl), some (V.ref q) = some (V.ref p') → ρ[j]? = some t → t.own → σ[j]? ≠ some (some (.ref p')) := by
  intro j p' t e1 e2 ow e3
  cases e1
  obtain ⟨o, e4, ok⟩ := en.lt e2
  rw [e3] at e4
  cases e4
  cases t with
  | un => exact ow
  | va d => exact ow
  | owl ds =>
    obtain ⟨p', xs, e5, _, _, e6, _⟩ := ok
    cases e5
    rw [hq] at e6
    cases e6
  | owd ds =>
    obtain ⟨p', xs, e5, _, _, e6, _⟩ := ok
    cases e5
    rw [hq] at e6
    cases e6
theorem Grow.old {S : Option Addr} {Hb0 H0 Hb H : Hp} {q : Addr} (g : Grow S Hb0 H0 Hb H) (hq : H q = none) : H0 q = none := by
  cases z : H0 q with
  | none => rfl
  | some o =>
    have := g.prv q o z (fun y => g.ok.ne hq y)
    rw [hq] at this
    cases this
variable {e : Expr} {rest : List Stmt} {ρ : List Sl} {N : List Sl → Prop} {R : Lg.D → Prop}
/-- x, y, *z = e -/
theorem rr_star {i j l kt : Nat} {x y z : Str} {px py pz ps pt : Pos} (nd : X.N.Nodup) (h : EE X e ρ fun d => ∃ a b ds, d = .tup (a :: b :: ds) ∧ ds.length ≤ 1000 ∧ RR X rest (((ρ.set i (.va a)).set j (.va b)).set l (.va (.lst ds))) N R)
    (hi : X.N[i]? = some x := by rfl) (hx : Loc X.env.scope x := by first | exact Or.inl rfl | exact Or.inr rfl) (hf : X.fn x = true ∨ X.env.scope.names.lookup x = some .local := by first | exact .inl rfl | exact .inr rfl)
    (hj : X.N[j]? = some y := by rfl) (hy : Loc X.env.scope y := by first | exact Or.inl rfl | exact Or.inr rfl) (hfy : X.fn y = true ∨ X.env.scope.names.lookup y = some .local := by first | exact .inl rfl | exact .inr rfl)
    (hl : X.N[l]? = some z := by rfl) (hz : Loc X.env.scope z := by first | exact Or.inl rfl | exact Or.inr rfl) (hfz : X.fn z = true ∨ X.env.scope.names.lookup z = some .local := by first | exact .inl rfl | exact .inr rfl)
    (hc : X.calm = true := by rfl)
    (hs : swapsWithSole [.Tuple [.Name x px, .Name y py, .Starred (.Name z pz) ps] kt pt] e pos.line X.env = pure false := by rfl) (hw : swappedStores [.Tuple [.Name x px, .Name y py, .Starred (.Name z pz) ps] kt pt] e X.env = pure none := by rfl) : RR X (.Assign [.Tuple [.Name x px, .Name y py, .Starred (.Name z pz) ps] kt pt] e pos :: rest) ρ N R := by
  refine rr_seq (ps_asg pe_w (pg_star (n := 3) hc (pgs_cons (pg_name nd hi hx hf) (pgs_cons (pg_name nd hj hy hfy) (pgs_star (pg_name nd hl hz hfz)))) (by decide)) hs hw) fun S Hb0 H0 Hb H σ g en D q1 q2 => ?_
  refine h S H0 Hb H σ g.ok en _ fun v d Hb' H' k r p => ?_
  obtain ⟨a, b, ds, rfl, hlen, p⟩ := p
  obtain ⟨ad, xs, rfl, ha, ra⟩ := r.tup_
  obtain ⟨v1, v2, ws, rfl, r1, r2, ra⟩ := ra.two
  have hvl := ra.len
  refine ⟨ad, _, rfl, same_t k.ok.ex ha, by show 3 ≤ ws.length + 1 + 1 + 1; omega, by show ws.length + 1 + 1 ≤ 16384; omega, fun Dl hD => ?_⟩
  refine ⟨v1, [v2, .ref Dl], rfl, v2, [.ref Dl], rfl, .ref Dl, [], rfl, rfl, ?_⟩
  have gn := Grow.new (o := .lst ws) k.ok hD
  have sm := gn.pub
  exact q1 _ _ _ _ (k.pub.trans sm) (g.trans (k.trans gn)) (((((en.grow k).grow gn).setV (r1.mono sm)).setV (r2.mono sm)).setV (.lst upd_same (ra.mono sm))) p
/-! ### x, y = a, b and three -/
theorem rr_par {i j kt k2 : Nat} {x y : Str} {a b : Expr} {px py pt pt2 : Pos} (nd : X.N.Nodup) (hij : i ≠ j) (h : EE X a ρ fun d => EE X b ρ fun d2 => RR X rest ((ρ.set i (.va d)).set j (.va d2)) N R)
    (hx : X.env.scope.names.lookup x = some .local := by rfl) (hy : X.env.scope.names.lookup y = some .local := by rfl) (hi : X.N[i]? = some x := by rfl) (hj : X.N[j]? = some y := by rfl) (hc : X.calm = true := by rfl)
    (he : starEach [a, b] X.env = (false, eval a X.env) :: starEach [b] X.env := by rfl) (he2 : starEach [b] X.env = (false, eval b X.env) :: starEach [] X.env := by rfl)
    (hw : swappedStores [.Tuple [.Name x px, .Name y py] kt pt] (.Tuple [a, b] k2 pt2) X.env = pure (some [x, y]) := by rfl)
    (hs : swapsWithSole [.Tuple [.Name x px, .Name y py] kt pt] (.Tuple [a, b] k2 pt2) pos.line X.env = pure false := by rfl) : RR X (.Assign [.Tuple [.Name x px, .Name y py] kt pt] (.Tuple [a, b] k2 pt2) pos :: rest) ρ N R := by
  refine rr_seq (ps_par hc nd hi hj hij hx hy (pa_cons pe_w (pa_cons pe_w pa_nil he2) he) hw hs) fun S Hb0 H0 Hb H σ g en D q1 q2 => ?_
  refine h S H0 Hb H σ g.ok en _ fun v d Hb1 H1 g1 r1 p1 => ?_
  refine p1 S H0 Hb1 H1 σ g1.ok (en.grow g1) _ fun w d2 Hb2 H2 g2 r2 p2 => ?_
  refine ⟨v, w, rfl, ?_⟩
  have g12 := g1.trans g2
  exact q1 _ _ _ _ g12.pub (g.trans g12) (((en.grow g12).setV (r1.mono g2.pub)).setV r2) p2
/-- x, y, z = a, [], [] (the lists one's own) -/
theorem rr_parL {i j l kt k2 : Nat} {x y z : Str} {a : Expr} {px py pz pt pt2 p2 p3 : Pos} (nd : X.N.Nodup) (hij : i ≠ j) (hil : i ≠ l) (hjl : j ≠ l) (h : EE X a ρ fun d => RR X rest (((ρ.set i (.va d)).set j (.owl [])).set l (.owl [])) N R)
    (hx : X.env.scope.names.lookup x = some .local := by rfl) (hy : X.env.scope.names.lookup y = some .local := by rfl) (hz : X.env.scope.names.lookup z = some .local := by rfl) (hi : X.N[i]? = some x := by rfl) (hj : X.N[j]? = some y := by rfl) (hl : X.N[l]? = some z := by rfl) (hc : X.calm = true := by rfl)
    (he : starEach [a, .List [] p2, .List [] p3] X.env = (false, eval a X.env) :: starEach [.List [] p2, .List [] p3] X.env := by rfl)
    (hw : swappedStores [.Tuple [.Name x px, .Name y py, .Name z pz] kt pt] (.Tuple [a, .List [] p2, .List [] p3] k2 pt2) X.env = pure (some [x, y, z]) := by rfl)
    (hs : swapsWithSole [.Tuple [.Name x px, .Name y py, .Name z pz] kt pt] (.Tuple [a, .List [] p2, .List [] p3] k2 pt2) pos.line X.env = pure false := by rfl) : RR X (.Assign [.Tuple [.Name x px, .Name y py, .Name z pz] kt pt] (.Tuple [a, .List [] p2, .List [] p3] k2 pt2) pos :: rest) ρ N R := by
  refine rr_seq (ps_par3 hc nd hi hj hl hij hil hjl hx hy hz (pa_cons pe_w (pa_cons (pe_lst pa_nil) (pa_cons (pe_lst pa_nil) pa_nil (by rfl)) (by rfl)) he) hw hs) fun S Hb0 H0 Hb H σ g en D q1 q2 => ?_
  refine h S H0 Hb H σ g.ok en _ fun v d Hb1 H1 g1 r1 p1 => ?_
  refine ⟨Nat.zero_le _, fun q hq => ⟨Nat.zero_le _, fun q' hq' => ⟨v, .ref q, .ref q', rfl, ?_⟩⟩⟩
  have ga := g.trans g1
  have g2 : Grow S Hb1 H1 Hb1 (upd H1 q (.lst [])) := .hid g1.ok hq
  have g3 : Grow S Hb1 (upd H1 q (.lst [])) Hb1 (upd (upd H1 q (.lst [])) q' (.lst [])) := .hid g2.ok hq'
  have e1 := (en.grow g1).setV (i := i) r1
  have e2 := (e1.grow g2).set (i := j) (.mkL (ga.old hq) (g1.ok.base hq) upd_same .nil) fun _ j' p' t _ a b c => e1.fresh hq j' p' t a b c
  have e3 := (e2.grow g3).set (i := l) (.mkL ((ga.trans g2).old hq') (g2.ok.base hq') upd_same .nil) fun _ j' p' t _ a b c => e2.fresh hq' j' p' t a b c
  exact q1 _ _ _ _ g1.pub (ga.trans (g2.trans g3)) e3 p1
end
end Lg
namespace Lg
open L2 PyProof.Rows PySem PySem.Spec
/-! ### enumerate(tuple) -/
/-- the object that counts, its walk at the heap's end -/
abbrev enObj (h : Heap) : Obj := { cls := .type "enumerate", data := .fields #[.none, .bool false, .ref h.objs.size, rawInt 0, .none, .none] }
/-- enumerate(v), v anything whose walk begins by a new object o -/
theorem en_made {v : Value} {o : Obj} {P : Heap → Prop} (B : Begins v o P) : Meets (Builtin.«enumerate.__new__» ⟨[.type "enumerate", v], []⟩) (fun _ R s => P s.heap ∧ R (.ok (.ret (.ref (s.heap.push o).objs.size))) { s with heap := (s.heap.push o).push (enObj s.heap) }) :=
  .of_wp fun prog w A R ⟨heap, gens, drawn, tk, os⟩ ⟨here, post⟩ => by
    have below := sub_enumerate
    have begin_ : ∀ {A' : Around} {E Q : Value → Shared → Prop}, Q (.ref heap.objs.size) ⟨heap.push o, gens, drawn, tk, os⟩ → wpAny (model prog w) A' (pyIter v) Q E ⟨heap, gens, drawn, tk, os⟩ := fun q => B.iter prog w _ _ ⟨heap, gens, drawn, tk, os⟩ _ here q
    wp_walk using begin_
    refine wpAny_stack_any fun _ => wpAny_pure ?_
    split
    · rename_i cls _ _ _ _ _
      rcases Bool.eq_false_or_eq_true (cls == Value.type "enumerate") with z | z <;> rw [z] <;> (wp_walk using begin_; exact ⟨_, rfl, post⟩)
    · wp_walk using begin_
      exact ⟨_, rfl, post⟩
theorem en_call {prog : Program} {w : World} {A : Around} {s : Shared} {l : Addr} {items : Array Value} {E Q : Value → Shared → Prop} (T : s.heap.IsTuple l items)
    (goal : ∀ h', IsEnum h' (s.heap.objs.size + 1) s.heap.objs.size 0 .none → h'.IsTupleIter s.heap.objs.size l 0 → (∀ b o, s.heap.get? b = some o → h'.get? b = some o) → Q (.ref (s.heap.objs.size + 1)) { s with heap := h' }) : wpAny (model prog w) A (call (.type "enumerate") [.ref l]) Q E s := by
  refine callType_new F.called_enumerate (by decide) (F.typeCall_enumerate_1 _) (F.newCall_enumerate_1 _) (F.args_object_init_2 · _) F.entry_enumerate_new (en_made (begins_tuple l items)) ⟨T, ?_⟩
  have low := fun (h : Heap) (o : Obj) (free : o.isFreed = false) (o2 : Obj) => Heap.get?_push_of_some (h := h.push o) o2 (Heap.get?_push_size h free)
  have top := Heap.get?_push_size (s.heap.push { cls := .type "tuple_iterator", data := .fields #[.ref l, .int 0 0] }) (o := enObj s.heap) rfl
  rw [Heap.size_push] at top
  show _ ∧ _
  rw [Heap.size_push]
  exact ⟨⟨_, top, rfl⟩, goal _ top ⟨_, low _ _ rfl _, rfl, rfl⟩ fun b o e => Heap.get?_push_of_some _ (Heap.get?_push_of_some _ e)⟩
/-- a tuple's items, counted -/
def ItET (K : PySem.W.Frag) (a : Addr) : It :=
  ⟨fun i H => ∃ (xs : List V) (x : V), SqT K H a xs ∧ xs[i]? = some x, fun i H v H' => ∃ T x, v = .ref T ∧ H T = none ∧ H' = upd H T (.tup [.int (i : Nat), x]) ∧ ∀ xs, SqT K H a xs → xs[i]? = some x, fun i H => ∃ xs : List V, SqT K H a xs ∧ xs.length = i⟩
/-- where it stands -/
def EnAt (a e it : Addr) (i : Nat) (h : Heap) : Prop := (∃ old, IsEnum h e it (0 + (i : Int)) old) ∧ h.IsTupleIter it a i
theorem en_goes {X : Cx} {elts : List Expr} {kk : Nat} {tpos : Pos} {a e it : Addr} (calm : X.A.handled = none) (na : a ≠ it) (nb : a ≠ e) (ne : e ≠ it) (items : Array Value) :
    GoesN X.prog X.w X.A (.Tuple elts kk tpos) e [e, it, a] [e, it] items.size (fun i h₀ v h => ∃ T t x, v = .ref T ∧ h₀.objs.size ≤ T ∧ items[i]? = some x ∧ h.IsTuple T #[.int (0 + (i : Int)) t, x]) (fun i h => (∃ old, IsEnum h e it (0 + (i : Int)) old) ∧ h.IsTupleIter it a i ∧ h.IsTuple a items) :=
  GoesN.enumFrom 0 (Draws.tuple (A := X.A.in1) calm it a na items) e ne (fun m => (List.mem_cons.mp m).elim ne fun m => nb (List.mem_singleton.mp m).symm) (List.mem_cons_self ..)
theorem turn_enumT {P : Program} {w : World} {K : PySem.W.Frag} {elts : List Expr} {kk : Nat} {tpos : Pos} {a e it : Addr} (na : a ≠ it) (nb : a ≠ e) (ne : e ≠ it) : Turn P w K (.Tuple elts kk tpos) (ItET K a) [e, it] e (EnAt a e it) where
  mem := List.mem_cons_self ..
  obj := fun i h st b hb => by
    obtain ⟨⟨_, q⟩, ob, q2, _, q3⟩ := st
    rcases List.mem_cons.mp hb with y | y
    · exact y.symm ▸ ⟨_, q, fun v c => nomatch c⟩
    · exact ⟨ob, List.mem_singleton.mp y ▸ q2, fun v c => by rw [q3] at c; cases c⟩
  keep := fun i h h' st k => ⟨st.1.imp fun _ q => k e (List.mem_cons_self ..) _ q, st.2.at fun o q => k it (List.mem_cons_of_mem _ (List.mem_cons_self ..)) o q⟩
  item := fun X eP ew eK calm i pins s σ H E inv room st more => by
    subst eP ew eK
    obtain ⟨xs, x, sq, atx⟩ := more
    obtain ⟨its, vals, tup, _⟩ := inv.tuple sq
    obtain ⟨u, atu, ru⟩ := vals.get atx
    have lt : i < its.toArray.size := by
      rw [List.size_toArray]
      exact (List.getElem?_eq_some_iff.mp atu).1
    refine (en_goes (inv.ok.hd calm) na nb ne its.toArray).goes i s _ E lt ⟨st.1, st.2, tup⟩ fun v h' tk made next kept _ => ?_
    obtain ⟨T, t, y, rfl, fresh, aty, laid⟩ := made
    rw [List.getElem?_toArray, atu] at aty
    cases aty
    rw [Int.zero_add] at laid
    refine ⟨.ref T, _, inv.turnedNew (ch := [e, it]) (ob := .tup [.int (i : Nat), x]) kept room fresh ⟨by show 2 ≤ sizeLine; decide, [.int i t, u], .cons ⟨t, rfl⟩ (.cons ru .nil), laid⟩, rfl, ⟨T, x, rfl, inv.hok.fresh fresh, rfl, fun ys hy => inv.tuple_inj hy sq ▸ atx⟩, ⟨next.1, next.2.1⟩, fun b hb => ?_⟩
    rw [upd_ne fun z => ?_]
    · exact (room b hb).1
    · have under : b < s.heap.objs.size := by
        obtain ⟨⟨_, q⟩, ob, q2, _⟩ := st
        rcases List.mem_cons.mp hb with y | y
        · exact y ▸ Heap.lt_size q
        · exact List.mem_singleton.mp y ▸ Heap.lt_size q2
      exact absurd fresh (Nat.not_le.mpr (z ▸ under))
  done := fun X eP ew eK calm i pins s σ H E inv room st more => by
    subst eP ew eK
    obtain ⟨xs, sq, len⟩ := more
    obtain ⟨its, vals, tup, _⟩ := inv.tuple sq
    obtain rfl : its.toArray.size = i := by rw [List.size_toArray, ← vals.length, len]
    have G := en_goes (elts := elts) (kk := kk) (tpos := tpos) (inv.ok.hd calm) na nb ne its.toArray
    have G2 := G.stops s (fun s1 => L2.Inv X pins σ H s1) E ⟨st.1, st.2, tup⟩ fun h' tk kept _ => inv.turnedL kept room
    exact G2
  self := fun A i s Q E st q => st.1.elim fun _ z => wpAny_pyIter_enum z q
def iEnumT (K : PySem.W.Frag) (ta : TA) : TI := fun σ H R => ta σ H fun vs H1 => ∃ a xs, vs = [.ref a] ∧ SqT K H1 a xs ∧ R (ItET K a) H1
theorem pi_enumT {X : Cx} {e : Expr} {ta : TA} {p pos tpos : Pos} {elts : List Expr} {kk : Nat} (hg : Gl X "enumerate") (hm : X.mg "enumerate" = none) (ha : PA X [e] ta) (hs : starEach [e] X.env = [(false, eval e X.env)] := by rfl) :
    PI X (.Tuple elts kk tpos) (.Call (.Name "enumerate" p) [e] [] pos) (iEnumT X.K ta) := by
  refine ⟨fun pins s σ H R inv goes => Call_ (ld_blt inv hg hm boot_enumerate (PyProof.Rows.callWith_type1 (thn (ha.run pos pins s σ H _ inv goes) ?_) hs rfl))⟩
  rintro us s1 ⟨vs, H1, I1, rel, a, xs, rfl, sq, go⟩
  cases rel with
  | cons one none_ =>
    cases none_
    cases one
    obtain ⟨its, _, tup, _⟩ := I1.tuple sq
    have under : a < s1.heap.objs.size := let ⟨_, q, _⟩ := tup; Heap.lt_size q
    refine en_call tup fun h' isE isI kept => wpAny_pyIter_enum isE ?_
    refine ⟨_, [s1.heap.objs.size + 1, s1.heap.objs.size], _, _, H1, rfl, I1.kept (t' := s1.toks) kept, turn_enumT (Nat.ne_of_lt under) (Nat.ne_of_lt (Nat.lt_succ_of_lt under)) (Nat.succ_ne_self _), ⟨⟨.none, isE⟩, isI⟩, fun b hb => ?_, go⟩
    have over : s1.heap.objs.size ≤ b := by
      rcases List.mem_cons.mp hb with y | y
      · rw [y]; exact Nat.le_succ _
      · exact Nat.le_of_eq (List.mem_singleton.mp y).symm
    exact I1.fpOk over (I1.hok.fresh over)
section
variable {X : Cx} {a b o e e1 e2 : Expr} {ρ : List Sl} {pos p apos : Pos} {Φ : Lg.D → Prop} {Ψ : Bool → Prop}
theorem ii_enumT {Ω : Nat → (Nat → Lg.D) → Prop} {p tpos : Pos} {elts : List Expr} {kk : Nat} (hm : X.mg "enumerate" = none) (h : EE X a ρ fun d => ∃ ds, d = .tup ds ∧ Ω ds.length fun i => .tup [.int (i : Nat), ds.getD i .non]) (hg : Gl X "enumerate" := by rfl) (hs : starEach [a] X.env = [(false, eval a X.env)] := by rfl) :
    II X (.Tuple elts kk tpos) (.Call (.Name "enumerate" p) [a] [] pos) ρ Ω := by
  intro S H0 Hb H σ ok en R q
  refine wI_of (pi_enumT hg hm (pa_cons pe_w pa_nil hs) hs) ?_
  refine h S H0 Hb H σ ok en _ fun v d Hb' H' g r p => ?_
  obtain ⟨ds, rfl, p⟩ := p
  obtain ⟨a, xs, rfl, ha, ra⟩ := r.tup_
  refine ⟨a, xs, rfl, same_t g.ok.ex ha, q _ _ _ Hb' H' g ⟨fun i H1 Hb1 sm ok1 hi => ?_, fun i x H1 Hb1 H2 sm ok1 hi y => ?_, fun H1 Hb1 sm ok1 => ?_⟩ p⟩
  · have hx : i < xs.length := by rw [ra.len]; exact hi
    exact ⟨xs, xs[i], same_t (sm.trans ok1.ex) ha, List.getElem?_eq_getElem hx⟩
  · obtain ⟨T, y0, rfl, nT, rfl, y⟩ := y
    have hy := y xs (same_t (sm.trans ok1.ex) ha)
    have hd : ds[i]? = some (ds.getD i .non) := by
      rw [List.getD_eq_getElem?_getD]; rw [List.getElem?_eq_getElem hi]; rfl
    obtain ⟨v, h1, h2⟩ := ra.get hd
    rw [hy] at h1
    cases h1
    exact ⟨_, .new ok1 nT, .tup (.of upd_same) (.cons (.int _) (.cons (h2.mono (sm.trans (same_new (ok1.base nT)))) .nil))⟩
  · exact ⟨xs, same_t (sm.trans ok1.ex) ha, ra.len⟩
/-! ### s.rjust(n, sign) -/
theorem mt_rjustF : MtR X "str.rjust" (fun x xs H Q => ∃ a i f, x = .str a ∧ xs = [.int i, .str f] ∧ PadOk i = true ∧ f.length = 1 ∧ Q (.str (Txt.rjustF a i (f.cps.getD 0 0))) H) := by
  rintro pins s σ H x xs v us Q inv rx rs ⟨a, i, f, rfl, rfl, h1, h2, q⟩
  obtain ⟨t, rfl⟩ := rx
  obtain ⟨u1, u2, rfl, ⟨t1, rfl⟩, ⟨t2, rfl⟩⟩ := vals2 rs
  exact PyProof.Rows.rjust_fill h1 h2 fun t' k => ⟨.str _, H, inv.tok _, ⟨_, rfl⟩, q⟩
theorem ee_rjust (h : EE X o ρ fun x => ∃ a, x = .str a ∧ AA X [e1, e2] ρ fun ds => ∃ i f, ds = [.int i, .str f] ∧ PadOk i = true ∧ f.length = 1 ∧ Φ (.str (Txt.rjustF a i (f.cps.getD 0 0))))
    (hbase : attributeBase o "rjust" X.env (eval o X.env) = eval o X.env := by rfl)
    (hfew : ((backTo pos (starEach [e1, e2] X.env)).all (fun x => !x.1) && (backToKw pos (keywordEach [] X.env)).all (fun x => x.1.isSome)
      && decide (([e1, e2] : List Expr).length + ([] : List Keyword).length + (if ([] : List Keyword).isEmpty then 0 else 1) < 30)) = true := by rfl)
    (hline : (apos.endLine == pos.line) = true := by rfl) (hs : starEach [e1, e2] X.env = (false, eval e1 X.env) :: starEach [e2] X.env := by rfl) (hplain : (backTo pos (starEach [e2] X.env)).any (·.1) = false := by rfl) : EE X (.Call (.Attribute o "rjust" apos) [e1, e2] [] pos) ρ Φ := by
  intro S H0 Hb H σ ok en Q q
  refine wE_of (pe_bm PySem.F.plainAttrs_str PySem.F.slot_str_rjust PySem.F.type_str_rjust mt_rjustF pe_w pa_w hbase hfew hline hs hplain) ?_
  refine h S H0 Hb H σ ok en _ fun x dx Hb1 H1 g1 r1 hx => ?_
  obtain ⟨a, rfl, hx⟩ := hx
  have ex := r1.str_
  subst ex
  refine ⟨rfl, ?_⟩
  refine hx S H0 Hb1 H1 σ g1.ok (en.grow g1) _ fun vs ds Hb2 H2 g2 r2 hd => ?_
  obtain ⟨i, f, rfl, p1, p2, p3⟩ := hd
  obtain ⟨v, w, rfl, ra, rb⟩ := rdc_len2 r2
  rw [ra.int_, rb.str_]
  exact ⟨a, i, f, rfl, rfl, p1, p2, q _ _ _ _ (g1.trans g2) (.str _) p3⟩
/-! ### repr of a truth -/
theorem call_reprB : CallR X (.builtin "repr") (fun xs H Q => ∃ b, xs = [.bl b] ∧ Q (.str (if b then "True" else "False")) H) := by
  rintro pins s σ H xs us Q I r ⟨b, rfl, q⟩
  obtain ⟨u, rfl, rb⟩ := vals1 r
  cases rb
  exact PySem.P.repr_of_bool ⟨.str _, H, I.tok _, ⟨_, rfl⟩, q⟩
theorem ee_reprB (hm : X.mg "repr" = none) (h : EE X e ρ fun d => ∃ b : Bool, d = .bl b ∧ Φ (.str (if b then "True" else "False"))) (hg : Gl X "repr" := by rfl) (he : starEach [e] X.env = (false, eval e X.env) :: starEach [] X.env := by rfl) (hpl : (backTo pos (starEach [] X.env)).any (·.1) = false := by rfl) : EE X (.Call (.Name "repr" p) [e] [] pos) ρ Φ := by
  refine ee_cb call_reprB (Res := fun ds Φ => ∃ b, ds = [.bl b] ∧ Φ (.str (if b then "True" else "False"))) ?_ hm (by decide +kernel) (aa_cons (ee_mono h fun d ⟨b, e, f⟩ => aa_nil ⟨b, by rw [e], f⟩) he) hg (by decide) (by decide) he hpl
  intro S Hb H vs ds Φ Q ok r h q
  obtain ⟨b, rfl, p⟩ := h
  obtain ⟨v, rfl, r1⟩ := rdc_len1 r
  rw [r1.bl_]
  exact ⟨b, rfl, q.here ok (.str _) p⟩
/-! ### places compared -/
def LeP (gt : Bool) : Lg.D → Lg.D → (Lg.D → Prop) → Prop
  | .tup [.int a, .int b], .tup [.int c, .int d], Φ => Φ (.bl (if gt then (if a = c then decide (d < b) else decide (c < a)) else (if a = c then decide (b ≤ d) else decide (a ≤ c))))
  | _, _, _ => False
theorem lex_le (a b c d : Int) : Ob.lexAt (fun j => decide ([a, b].getD j 0 = [c, d].getD j 0)) (fun j => decide ([a, b].getD j 0 ≤ [c, d].getD j 0)) (decide (([a, b] : List Int).length ≤ ([c, d] : List Int).length)) 0 (min ([a, b] : List Int).length ([c, d] : List Int).length) = (if a = c then decide (b ≤ d) else decide (a ≤ c)) := by
  show (if decide (a = c) = true then (if decide (b = d) = true then true else decide (b ≤ d)) else decide (a ≤ c)) = _
  by_cases h1 : a = c
  · rw [if_pos h1, if_pos (decide_eq_true h1)]
    by_cases h2 : b = d
    · rw [if_pos (decide_eq_true h2), decide_eq_true (by omega)]
    · rw [if_neg (by simpa using h2)]
  · rw [if_neg h1, if_neg (by simpa using h1)]
def rGtT (K : PySem.W.Frag) : R2 := fun x y H Q => ∃ (p q : Addr) (a b c d : Int), x = .ref p ∧ y = .ref q ∧ SqT K H p [.int a, .int b] ∧ SqT K H q [.int c, .int d] ∧ Q (.bl (if a = c then decide (d < b) else decide (c < a))) H
theorem gt_pair (a b c d : Int) : Ob.lexAt (fun j => if j = 0 then a == c else b == d) (fun j => if j = 0 then decide (c < a) else decide (d < b)) false 0 2 = (if a = c then decide (d < b) else decide (c < a)) := by
  show (if (a == c) = true then (if (b == d) = true then false else decide (d < b)) else decide (c < a)) = _
  by_cases h1 : a = c
  · rw [if_pos h1, if_pos (beq_iff_eq.mpr h1)]
    by_cases h2 : b = d
    · rw [if_pos (beq_iff_eq.mpr h2), decide_eq_false (by omega)]
    · rw [if_neg (by simpa using h2)]
  · rw [if_neg h1, if_neg (by simpa using h1)]
theorem op_gtT (hu : X.A.units < cLine) : OpR X (compareOp .Gt) (rGtT X.K) := by
  rintro pins s σ H x y v u Q inv rx ry ⟨p, q, a, b, c, d, rfl, rfl, sq1, sq2, goal⟩
  cases rx
  cases ry
  obtain ⟨us, vs1, tup1, _⟩ := inv.tuple sq1
  obtain ⟨ws, vs2, tup2, _⟩ := inv.tuple sq2
  obtain ⟨_, _, rfl, ⟨t1, rfl⟩, ⟨t2, rfl⟩⟩ := vals2 vs1
  obtain ⟨_, _, rfl, ⟨t3, rfl⟩, ⟨t4, rfl⟩⟩ := vals2 vs2
  have R := Ob.RcOp.tuples_gt (A := X.A) (s := s) (e := fun j => if j = 0 then a == c else b == d) (r := fun j => if j = 0 then decide (c < a) else decide (d < b)) tup1 tup2 hu
    (fun | 0, _, _ => SeqAt.EqAt.int_int a t1 c t3 | 1, _, _ => SeqAt.EqAt.int_int b t2 d t4 | j + 2, far, _ => absurd far (Nat.not_lt.mpr (Nat.le_add_left 2 j)))
    (fun | 0, _, _, _ => Ob.RcOp.gt_int a c t1 t3 | 1, _, _, _ => Ob.RcOp.gt_int b d t2 t4 | j + 2, far, _, _ => absurd far (Nat.not_lt.mpr (Nat.le_add_left 2 j)))
  exact R X.prog X.w X.xe (EP X pins σ Q) ⟨.bl _, H, inv, rfl, (gt_pair a b c d).symm ▸ goal⟩
theorem RpL.pair_ {K : PySem.W.Frag} {S : Option Addr} {Hb : Hp} {xs : List V} {a b : Int} (r : RpL K S Hb xs [.int a, .int b]) : xs = ([a, b] : List Int).map V.int := by
  obtain ⟨v, w, rfl, ra, rb⟩ := rdc_len2 r
  rw [ra.int_, rb.int_]
  rfl
theorem rd_leP {K : PySem.W.Frag} : RD2 K (rLeT K) (LeP false) := by
  intro S Hb H x y dx dy Φ Q ok rx ry h q
  unfold LeP at h
  split at h
  · obtain ⟨a, xs, rfl, ha, ra⟩ := rx.tup_
    obtain ⟨b, ys, rfl, hb, rb⟩ := ry.tup_
    have e1 := ra.pair_
    have e2 := rb.pair_
    subst e1 e2
    refine ⟨a, b, _, _, rfl, rfl, same_t ok.ex ha, same_t ok.ex hb, ?_⟩
    rw [lex_le]
    exact q.here ok (.bl _) h
  · exact h.elim
theorem rd_gtP {K : PySem.W.Frag} : RD2 K (rGtT K) (LeP true) := by
  intro S Hb H x y dx dy Φ Q ok rx ry h q
  unfold LeP at h
  split at h
  · obtain ⟨a, xs, rfl, ha, ra⟩ := rx.tup_
    obtain ⟨b, ys, rfl, hb, rb⟩ := ry.tup_
    cases ra.pair_
    cases rb.pair_
    exact ⟨_, _, _, _, _, _, rfl, rfl, same_t ok.ex ha, same_t ok.ex hb, q.here ok (.bl _) h⟩
  · exact h.elim
end
end Lg
namespace Lg
open L2 PyProof.Rows PySem PySem.Spec
/-! ### data that == reads -/
mutual
def py : D → PyData
  | .non => .none
  | .bl b => .bool b
  | .int i => .int i
  | .str x => .str x
  | .tup ds => .tuple (pyL ds)
  | .lst ds => .list (pyL ds)
  | _ => .none
def pyL : List D → List PyData
  | [] => []
  | d :: ds => py d :: pyL ds
end
def Pl : Nat → D → Prop
  | _, .non => True
  | _, .bl _ => True
  | _, .int _ => True
  | _, .str _ => True
  | n + 1, .tup ds => ∀ d ∈ ds, Pl n d
  | n + 1, .lst ds => ∀ d ∈ ds, Pl n d
  | _, _ => False
theorem Pl.tup {n : Nat} {ds : List D} (h : ∀ d ∈ ds, Pl n d) : Pl (n + 1) (.tup ds) := h
theorem Pl.lst {n : Nat} {ds : List D} (h : ∀ d ∈ ds, Pl n d) : Pl (n + 1) (.lst ds) := h
theorem Pl.up : ∀ {n m : Nat} {d : D}, n ≤ m → Pl n d → Pl m d
  | _, m, .non, _, _ => by cases m <;> exact True.intro
  | _, m, .bl _, _, _ => by cases m <;> exact True.intro
  | _, m, .int _, _, _ => by cases m <;> exact True.intro
  | _, m, .str _, _, _ => by cases m <;> exact True.intro
  | n + 1, m + 1, .tup ds, h, p => fun d hd => Pl.up (Nat.le_of_succ_le_succ h) (p d hd)
  | n + 1, m + 1, .lst ds, h, p => fun d hd => Pl.up (Nat.le_of_succ_le_succ h) (p d hd)
  | 0, _, .tup _, _, p => False.elim p
  | 0, _, .lst _, _, p => False.elim p
  | 0, _, .dct _, _, p => False.elim p
  | 0, _, .flst _, _, p => False.elim p
  | 0, _, .pool, _, p => False.elim p
  | _ + 1, _, .dct _, _, p => False.elim p
  | _ + 1, _, .flst _, _, p => False.elim p
  | _ + 1, _, .pool, _, p => False.elim p
theorem pl_nil {n : Nat} : ∀ d ∈ ([] : List D), Pl n d := fun _ h => by cases h
theorem pl_cons {n : Nat} {d : D} {ds : List D} (h : Pl n d) (t : ∀ d ∈ ds, Pl n d) : ∀ e ∈ d :: ds, Pl n e := fun e he => by
  rcases List.mem_cons.mp he with rfl | later
  · exact h
  · exact t e later
theorem pl_app {n : Nat} {ds es : List D} (h : ∀ d ∈ ds, Pl n d) (t : ∀ d ∈ es, Pl n d) : ∀ e ∈ ds ++ es, Pl n e := fun e he => by
  rcases List.mem_append.mp he with front | back
  · exact h e front
  · exact t e back
section
variable {K : PySem.W.Frag} {S : Option Addr} {Hb H : Hp}
theorem pl_dpL {n : Nat} (ih : ∀ d v, Pl n d → Rp K S Hb v d → Dp K H v (py d)) : ∀ {vs : List V} {ds : List D}, (∀ d ∈ ds, Pl n d) → RpL K S Hb vs ds → DpAll K H vs (pyL ds)
  | _, _, _, .nil => .nil
  | _, _, p, .cons r t => .cons (ih _ _ (p _ List.mem_cons_self) r) (pl_dpL ih (fun d hd => p d (List.mem_cons_of_mem _ hd)) t)
theorem pl_dp (sm : Same Hb H) : ∀ (n : Nat) (d : D) (v : V), Pl n d → Rp K S Hb v d → Dp K H v (py d) := by
  intro n
  induction n with
  | zero =>
    intro d v p r
    cases r with
    | non => exact .non
    | bl b => exact .bl b
    | int i => exact .int i
    | str x => exact .str x
    | _ => exact p.elim
  | succ n ih =>
    intro d v p r
    cases r with
    | non => exact .non
    | bl b => exact .bl b
    | int i => exact .int i
    | str x => exact .str x
    | tup h t => exact .tup (same_t sm h) (pl_dpL ih p t)
    | lst h t => exact .lst (.of (sm _ _ h)) (pl_dpL ih p t)
    | _ => exact p.elim
end
theorem pl_plainL {n : Nat} (ih : ∀ d, Pl n d → (py d).plain = true ∧ (py d).depth ≤ n) : ∀ ds : List D, (∀ d ∈ ds, Pl n d) → PyData.plainAll (pyL ds) = true ∧ PyData.depthAll (pyL ds) ≤ n
  | [], _ => ⟨rfl, Nat.zero_le _⟩
  | d :: ds, p => by
    obtain ⟨a1, a2⟩ := ih d (p d List.mem_cons_self)
    obtain ⟨b1, b2⟩ := pl_plainL ih ds fun d hd => p d (List.mem_cons_of_mem _ hd)
    exact ⟨by simp only [pyL, PyData.plainAll, a1, b1, Bool.and_self], by simp only [pyL, PyData.depthAll]; omega⟩
theorem pl_plain : ∀ (n : Nat) (d : D), Pl n d → (py d).plain = true ∧ (py d).depth ≤ n := by
  intro n
  induction n with
  | zero =>
    intro d p
    cases d <;> first | exact ⟨rfl, Nat.zero_le _⟩ | exact p.elim
  | succ n ih =>
    intro d p
    cases d with
    | tup ds =>
      obtain ⟨a, b⟩ := pl_plainL ih ds p
      exact ⟨a, Nat.succ_le_succ b⟩
    | lst ds =>
      obtain ⟨a, b⟩ := pl_plainL ih ds p
      exact ⟨a, Nat.succ_le_succ b⟩
    | dct => exact p.elim
    | flst => exact p.elim
    | pool => exact p.elim
    | _ => exact ⟨rfl, Nat.zero_le _⟩
section
variable {X : Cx}
def rEqP (K : PySem.W.Frag) : R2 := fun x y H Q => ∃ d e, Dp K H x d ∧ Dp K H y e ∧ d.plain = true ∧ e.plain = true ∧ d.depth ≤ 60 ∧ Q (.bl (PyData.eqv d e)) H
def rNeP (K : PySem.W.Frag) : R2 := fun x y H Q => ∃ d e, Dp K H x d ∧ Dp K H y e ∧ d.plain = true ∧ e.plain = true ∧ d.depth ≤ 60 ∧ Q (.bl (!PyData.eqv d e)) H
theorem op_eqP (hu : X.A.units + 64 < cLine) : OpR X (compareOp .Eq) (rEqP X.K) := by
  rintro pins s σ H x y v u Q I rx ry ⟨d, e, hd, he, sd, se, l, q⟩
  obtain ⟨as, r1⟩ := hd.reads I d x v rx
  obtain ⟨bs, r2⟩ := he.reads I e y u ry
  exact SeqAt.eq_plain r1 r2 sd se (by omega) ⟨.bl _, H, I, rfl, q⟩
theorem op_neP (hu : X.A.units + 64 < cLine) : OpR X (compareOp .NotEq) (rNeP X.K) := by
  rintro pins s σ H x y v u Q I rx ry ⟨d, e, hd, he, sd, se, l, q⟩
  obtain ⟨as, r1⟩ := hd.reads I d x v rx
  obtain ⟨bs, r2⟩ := he.reads I e y u ry
  exact SeqAt.ne_plain r1 r2 sd se (by omega) ⟨.bl _, H, I, rfl, q⟩
/-- plain data: == -/
def EqD (neg : Bool) (x y : D) (Φ : D → Prop) : Prop := Pl 60 x ∧ Pl 60 y ∧ ∃ b, PyData.eqv (py x) (py y) = b ∧ Φ (.bl (if neg then !b else b))
theorem rd_eqD {K : PySem.W.Frag} : RD2 K (rEqP K) (EqD false) := by
  intro S Hb H x y dx dy Φ Q ok rx ry h q
  obtain ⟨p1, p2, b, rfl, f⟩ := h
  obtain ⟨a1, a2⟩ := pl_plain 60 dx p1
  obtain ⟨b1, _⟩ := pl_plain 60 dy p2
  exact ⟨_, _, pl_dp ok.ex 60 _ _ p1 rx, pl_dp ok.ex 60 _ _ p2 ry, a1, b1, a2, q.here ok (.bl _) f⟩
theorem rd_neD {K : PySem.W.Frag} : RD2 K (rNeP K) (EqD true) := by
  intro S Hb H x y dx dy Φ Q ok rx ry h q
  obtain ⟨p1, p2, b, rfl, f⟩ := h
  obtain ⟨a1, a2⟩ := pl_plain 60 dx p1
  obtain ⟨b1, _⟩ := pl_plain 60 dy p2
  exact ⟨_, _, pl_dp ok.ex 60 _ _ p1 rx, pl_dp ok.ex 60 _ _ p2 ry, a1, b1, a2, q.here ok (.bl _) f⟩
theorem eqv_same {d : D} {n : Nat} (h : Pl n d) : PyData.eqv (py d) (py d) = true := SeqAt.eqv_refl_plain _ (pl_plain n d h).1
end
/-! ### the same data twice, dicts within -/
def Sm : Nat → D → Prop
  | _, .non => True
  | _, .bl _ => True
  | _, .int _ => True
  | _, .str _ => True
  | n + 1, .tup ds => ∀ d ∈ ds, Sm n d
  | n + 1, .lst ds => ∀ d ∈ ds, Sm n d
  | n + 1, .dct kvs => (kvs.map (·.1)).Nodup ∧ ∀ kv ∈ kvs, Sm n kv.2
  | _, _ => False
theorem sm_of_pl : ∀ {n : Nat} {d : D}, Pl n d → Sm n d
  | n, .non, _ => by cases n <;> exact True.intro
  | n, .bl _, _ => by cases n <;> exact True.intro
  | n, .int _, _ => by cases n <;> exact True.intro
  | n, .str _, _ => by cases n <;> exact True.intro
  | n + 1, .tup ds, p => fun d hd => sm_of_pl (p d hd)
  | n + 1, .lst ds, p => fun d hd => sm_of_pl (p d hd)
  | 0, .tup _, p => False.elim p
  | 0, .lst _, p => False.elim p
  | 0, .dct _, p => False.elim p
  | 0, .flst _, p => False.elim p
  | 0, .pool, p => False.elim p
  | _ + 1, .dct _, p => False.elim p
  | _ + 1, .flst _, p => False.elim p
  | _ + 1, .pool, p => False.elim p
section
open PySem.MeetsSeq
variable {w : World} {prog : Program}
/-- a tuple, written out -/
abbrev tObj (its : Array Value) (n : Nat) (dd : Option Addr) (sl : Array (Option Value)) : Obj := { cls := .type "tuple", dict := dd, data := .seq its n, slots := sl }
theorem tup_obj {h : Heap} {a : Addr} {its : Array Value} : h.IsTuple a its → ∃ n dd sl, h.get? a = some (tObj its n dd sl) := by
  rintro ⟨⟨cls, dd, dat, sl⟩, q, c, n, f⟩
  cases (show cls = _ from c)
  cases (show dat = _ from f)
  exact ⟨n, dd, sl, q⟩
/-- what holds of the items place by place holds of the pairs -/
theorem zip_all {P : Value → Value → Prop} {us ws : Array Value} (same : us.size = ws.size) (each : ∀ j (h1 : j < us.size) (h2 : j < ws.size), P us[j] ws[j]) (p : Value × Value) (hp : p ∈ us.toList.zip ws.toList) : P p.1 p.2 := by
  obtain ⟨i, hi, e⟩ := List.getElem_of_mem hp
  subst e
  have low : i < us.size := by
    rw [List.length_zip, Array.length_toList, Array.length_toList] at hi
    exact Nat.lt_of_lt_of_le hi (Nat.min_le_left _ _)
  rw [List.getElem_zip]
  exact each i low (same ▸ low)
/-- tuples whose items are equal, place by place -/
theorem tup_same (neg : Bool) (l b : Addr) (us ws : Array Value) (n n2 : Nat) (dd dd2 : Option Addr) (sl sl2 : Array (Option Value)) (same : us.size = ws.size) :
    MeetsIn prog w ((if neg then Builtin.«tuple.__ne__» else Builtin.«tuple.__eq__») ⟨[.ref l, .ref b], []⟩)
      (fun A R s => s.heap.get? l = some (tObj us n dd sl) ∧ s.heap.get? b = some (tObj ws n2 dd2 sl2) ∧ (∀ p ∈ us.toList.zip ws.toList, SeqAt.EqP prog w A.in1 s p.1 p.2 true) ∧ R (.ok (.ret (.bool (!neg)))) s) :=
  .of_wp fun A R ⟨heap, gens, drawn, tk, os⟩ ⟨at1, at2, pairs, goal⟩ => by
    have below := PySem.AutoSeq1.sub_tuple_tuple
    cases neg
    all_goals
      simp only [if_true, if_false, Bool.false_eq_true]
      wp_walk using PySem.AutoSeq1.wpAny_loadPart' at1, PySem.AutoSeq1.wpAny_loadPart' at2, wpAny_forIn_list _ (fun more acc s' => acc.1 = none ∧ s' = ⟨heap, gens, drawn, tk, os⟩ ∧ ∀ p ∈ more, SeqAt.EqP prog w A.in1 ⟨heap, gens, drawn, tk, os⟩ p.1 p.2 true) _
      case turn =>
        rintro pr more acc s' ⟨_, rfl, left⟩
        refine wpAny_bind (left pr List.mem_cons_self _ _ ?_)
        wp_walk
        exact ⟨rfl, rfl, fun p hp => left p (List.mem_cons_of_mem _ hp)⟩
      case fin =>
        rintro ⟨_, _⟩ s' ⟨e, rfl, _⟩
        cases (show _ = none from e)
        wp_walk
        exact ⟨_, rfl, by simpa [Builtin.Tuple.tupleCompareSizes, same, bne] using goal⟩
      case h => exact ⟨rfl, rfl, pairs⟩
theorem rcP_tup {A : Around} {s : Shared} {l b : Addr} {us ws : Array Value} (T1 : s.heap.IsTuple l us) (T2 : s.heap.IsTuple b ws) (same : us.size = ws.size) (room : A.units < cLine)
    (each : ∀ j (h1 : j < us.size) (h2 : j < ws.size), SeqAt.EqP prog w A.in1 s us[j] ws[j] true) (E Q : Value → Shared → Prop) (goal : Q (.bool true) s) : wpAny (model prog w) A (richCompare .Eq (.ref l) (.ref b)) Q E s := by
  obtain ⟨n, dd, sl, at1⟩ := tup_obj T1
  obtain ⟨n2, dd2, sl2, at2⟩ := tup_obj T2
  exact wpAny_richCompare_same_room (op := .Eq) T1.typeIs T2.typeIs F.slot_tuple_eq (call_meetsIn F.slot_tuple_eq T1.typeIs F.entry_tuple_eq (F.args_tuple_eq_2 _ _) (tup_same false l b us ws n n2 dd dd2 sl sl2 same)
    ⟨at1, at2, zip_all (P := fun y z => SeqAt.EqP prog w A.in1 s y z true) same each, show Value.bool true ≠ Value.notImplemented ∧ Q (.bool true) s from ⟨(nomatch ·), goal⟩⟩) room
theorem rcP_tupNe {A : Around} {s : Shared} {l b : Addr} {us ws : Array Value} (T1 : s.heap.IsTuple l us) (T2 : s.heap.IsTuple b ws) (same : us.size = ws.size) (room : A.units < cLine)
    (each : ∀ j (h1 : j < us.size) (h2 : j < ws.size), SeqAt.EqP prog w A.in1 s us[j] ws[j] true) (E Q : Value → Shared → Prop) (goal : Q (.bool false) s) : wpAny (model prog w) A (richCompare .NotEq (.ref l) (.ref b)) Q E s := by
  obtain ⟨n, dd, sl, at1⟩ := tup_obj T1
  obtain ⟨n2, dd2, sl2, at2⟩ := tup_obj T2
  exact wpAny_richCompare_same_room (op := .NotEq) T1.typeIs T2.typeIs F.slot_tuple_ne (call_meetsIn F.slot_tuple_ne T1.typeIs F.entry_tuple_ne (F.args_tuple_ne_2 _ _) (tup_same true l b us ws n n2 dd dd2 sl sl2 same)
    ⟨at1, at2, zip_all (P := fun y z => SeqAt.EqP prog w A.in1 s y z true) same each, show Value.bool false ≠ Value.notImplemented ∧ Q (.bool false) s from ⟨(nomatch ·), goal⟩⟩) room
end
theorem vals_size {xs ys : List V} {us ws : List Value} (r1 : Vals xs us) (r2 : Vals ys ws) (e : xs.length = ys.length) : us.toArray.size = ws.toArray.size := by
  rw [List.size_toArray, List.size_toArray, ← r1.length, ← r2.length, e]
section
variable {X : Cx} {pins : List (Addr × Obj)} {σ : L2.St} {H Hb : Hp} {s : Shared} {S : Option Addr}
theorem sm_items {A : Around} {n : Nat} (ih : ∀ (d : D) (x y : V) (v u : Value), Sm n d → Rp X.K S Hb x d → Rp X.K S Hb y d → RelV x v → RelV y u → SeqAt.EqP X.prog X.w A s v u true) : ∀ {ds : List D} {xs ys : List V} {us ws : List Value},
    (∀ d ∈ ds, Sm n d) → RpL X.K S Hb xs ds → RpL X.K S Hb ys ds → Vals xs us → Vals ys ws → ∀ j (h1 : j < us.length) (h2 : j < ws.length), SeqAt.EqP X.prog X.w A s us[j] ws[j] true
  | _, _, _, _, _, _, .nil, .nil, .nil, .nil, j, h1, _ => absurd h1 (Nat.not_lt_zero j)
  | _, _, _, _, _, p, .cons r t, .cons r' t', .cons a b, .cons a' b', 0, _, _ => ih _ _ _ _ _ (p _ List.mem_cons_self) r r' a a'
  | _, _, _, _, _, p, .cons r t, .cons r' t', .cons a b, .cons a' b', j + 1, h1, h2 => sm_items ih (fun d hd => p d (List.mem_cons_of_mem _ hd)) t t' b b' j (Nat.lt_of_succ_lt_succ h1) (Nat.lt_of_succ_lt_succ h2)
theorem sm_val {K : PySem.W.Frag} {n : Nat} : ∀ {ks : List (Str × D)} {xs ys : List (Key × V)}, (ks.map (·.1)).Nodup → RpK K S Hb xs ks → RpK K S Hb ys ks → ∀ p ∈ xs, ∃ u d, valV ys p.1 = some u ∧ (∃ kv ∈ ks, kv.2 = d) ∧ Rp K S Hb p.2 d ∧ Rp K S Hb u d := by
  intro ks
  induction ks with
  | nil =>
    intro xs ys nd r r' p hp
    cases r
    cases hp
  | cons kd ks ih =>
    intro xs ys nd r r' p hp
    obtain ⟨k, d⟩ := kd
    cases r with
    | cons r t =>
      cases r' with
      | cons r' t' =>
        rcases List.mem_cons.mp hp with rfl | later
        · exact ⟨_, d, valV_pos rfl, ⟨_, List.mem_cons_self, rfl⟩, r, r'⟩
        · rw [List.map_cons, List.nodup_cons] at nd
          obtain ⟨u, e, h1, ⟨kv, h2, h3⟩, h4, h5⟩ := ih nd.2 t t' p later
          have hk : p.1 ≠ Sum.inr k := fun z => by
            have := List.mem_map_of_mem (f := (·.1)) later
            rw [t.keys, z] at this
            obtain ⟨k2, m, e⟩ := List.mem_map.mp this
            cases e
            exact nd.1 m
          refine ⟨u, e, ?_, ⟨kv, List.mem_cons_of_mem _ h2, h3⟩, h4, h5⟩
          rw [valV_neg (fun z => hk z.symm)]
          exact h1
theorem sm_eq (I : Inv X pins σ H s) (sm : Same Hb H) : ∀ (n : Nat) (A : Around), A.units + n < cLine → ∀ (d : D) (x y : V) (v u : Value), Sm n d → Rp X.K S Hb x d → Rp X.K S Hb y d → RelV x v → RelV y u → SeqAt.EqP X.prog X.w A s v u true := by
  intro n
  induction n with
  | zero =>
    intro A hu d x y v u p rx ry hx hy
    cases rx with
    | non => cases ry; exact (eqAt_same hx hy rfl).eqP
    | bl b => cases ry; exact (eqAt_same hx hy rfl).eqP
    | int i => cases ry; exact (eqAt_same hx hy rfl).eqP
    | str z => cases ry; exact (eqAt_same hx hy rfl).eqP
    | _ => exact p.elim
  | succ n ih =>
    intro A hu d x y v u p rx ry hx hy
    cases rx with
    | non => cases ry; exact (eqAt_same hx hy rfl).eqP
    | bl b => cases ry; exact (eqAt_same hx hy rfl).eqP
    | int i => cases ry; exact (eqAt_same hx hy rfl).eqP
    | str z => cases ry; exact (eqAt_same hx hy rfl).eqP
    | pool => exact p.elim
    | flst => exact p.elim
    | @tup a xs ds h t =>
      obtain ⟨b, ys, rfl, h2, t2⟩ := ry.tup_
      cases (show v = .ref a from hx)
      cases (show u = .ref b from hy)
      by_cases e : a = b
      · subst e
        exact (SeqAt.EqAt.same _).eqP
      obtain ⟨us, r1, p1, _⟩ := I.tuple (same_t sm h)
      obtain ⟨ws, r2, p2, _⟩ := I.tuple (same_t sm h2)
      have hsz := vals_size r1 r2 (t.len.trans t2.len.symm)
      refine SeqAt.eqP_refs e fun E Q q => rcP_tup p1 p2 hsz (by omega) (fun j h1 h2 => ?_) E Q q
      have k := sm_items (A := A.in1) (ih A.in1 (by show A.units + 1 + n < cLine; omega)) p t t2 r1 r2 j (by simpa using h1) (by simpa using h2)
      simpa using k
    | @lst a xs ds h t =>
      obtain ⟨b, ys, rfl, h2, t2⟩ := ry.lst_
      cases (show v = .ref a from hx)
      cases (show u = .ref b from hy)
      by_cases e : a = b
      · subst e
        exact (SeqAt.EqAt.same _).eqP
      obtain ⟨us, r1, p1, _⟩ := I.list (.of (sm _ _ h))
      obtain ⟨ws, r2, p2, _⟩ := I.list (.of (sm _ _ h2))
      have hsz := vals_size r1 r2 (t.len.trans t2.len.symm)
      refine SeqAt.eqP_refs e fun E Q q => SeqAt.rcP_lists (e := fun _ => true) p1.isList p2.isList hsz (by omega) (fun j h1 h2 => ?_) E Q ?_
      · have k := sm_items (A := A.in1) (ih A.in1 (by show A.units + 1 + n < cLine; omega)) p t t2 r1 r2 j (by simpa using h1) (by simpa using h2)
        simpa using k
      · have all_ : ((List.range us.toArray.size).all fun _ => true) = true := List.all_eq_true.mpr fun _ _ => rfl
        rw [all_]; exact q
    | @dct a xs ds h t =>
      obtain ⟨b, ys, rfl, h2, t2⟩ := ry.dct_
      cases (show v = .ref a from hx)
      cases (show u = .ref b from hy)
      by_cases e : a = b
      · subst e
        exact (SeqAt.EqAt.same _).eqP
      obtain ⟨_, ya, va, ra, da⟩ := (show ObjOk X.prog X.w H s.heap a (.dK xs) from I.hok a _ (sm _ _ h))
      obtain ⟨_, yb, vb, rb, db⟩ := (show ObjOk X.prog X.w H s.heap b (.dK ys) from I.hok b _ (sm _ _ h2))
      obtain ⟨nd, p⟩ := p
      have iA := ih A.in1 (by show A.units + 1 + n < cLine; omega)
      refine SeqAt.eqP_refs e fun E Q q => PySem.W.rcP_dicts (knd := mixKind X.prog X.w) (r := true) ya yb da db (by omega) (fun _ => hits_run (F := fun x y => ∃ d, Sm n d ∧ Rp X.K S Hb x d ∧ Rp X.K S Hb y d) (fun x y v u ⟨d, h1, h2, h3⟩ hx hy => iA d x y v u h1 h2 h3 hx hy) rb ra fun p' hp => ?_) E Q ?_
      · obtain ⟨u, d, h1, ⟨kv, h2, h3⟩, h4, h5⟩ := sm_val (n := n) nd t t2 p' hp
        exact ⟨u, h1, d, by rw [← h3]; exact p kv h2, h4, h5⟩
      · have e : va.length = vb.length := by rw [← ra.length, ← rb.length, t.len, t2.len]
        have both : (va.length == vb.length && true) = true := by rw [e, Bool.and_true]; exact beq_self_eq_true _
        rw [both]; exact q
end
section
variable {X : Cx}
/-- two tuples of the same data -/
def SmD (neg : Bool) (x y : D) (Φ : D → Prop) : Prop := x = y ∧ (∃ ds, x = .tup ds ∧ ∀ d ∈ ds, Sm 50 d) ∧ Φ (.bl (!neg))
/-- .. as a rule on values -/
def rSm (neg : Bool) (K : PySem.W.Frag) : R2 := fun x y H Q => ∃ S Hb ds a b xs ys, Same Hb H ∧ x = .ref a ∧ y = .ref b ∧ SqT K Hb a xs ∧ SqT K Hb b ys ∧ RpL K S Hb xs ds ∧ RpL K S Hb ys ds ∧ (∀ d ∈ ds, Sm 50 d) ∧ Q (.bl (!neg)) H
theorem op_smE (hu : X.A.units + 64 < cLine) : OpR X (compareOp .Eq) (rSm false X.K) := by
  rintro pins s σ H x y v u Q I rx ry ⟨S, Hb, ds, a, b, xs, ys, sm, rfl, rfl, h, h2, t, t2, p, q⟩
  cases (show v = .ref a from rx)
  cases (show u = .ref b from ry)
  obtain ⟨us, r1, p1, _⟩ := I.tuple (same_t sm h)
  obtain ⟨ws, r2, p2, _⟩ := I.tuple (same_t sm h2)
  have hsz := vals_size r1 r2 (t.len.trans t2.len.symm)
  refine rcP_tup p1 p2 hsz (by omega) (fun j h1 h2 => ?_) _ _ ⟨.bl _, H, I, rfl, q⟩
  have k := sm_items (A := X.A.in1) (sm_eq I sm 50 X.A.in1 (by show X.A.units + 1 + 50 < cLine; omega)) p t t2 r1 r2 j (by simpa using h1) (by simpa using h2)
  simpa using k
theorem op_smN (hu : X.A.units + 64 < cLine) : OpR X (compareOp .NotEq) (rSm true X.K) := by
  rintro pins s σ H x y v u Q I rx ry ⟨S, Hb, ds, a, b, xs, ys, sm, rfl, rfl, h, h2, t, t2, p, q⟩
  cases (show v = .ref a from rx)
  cases (show u = .ref b from ry)
  obtain ⟨us, r1, p1, _⟩ := I.tuple (same_t sm h)
  obtain ⟨ws, r2, p2, _⟩ := I.tuple (same_t sm h2)
  have hsz := vals_size r1 r2 (t.len.trans t2.len.symm)
  refine rcP_tupNe p1 p2 hsz (by omega) (fun j h1 h2 => ?_) _ _ ⟨.bl _, H, I, rfl, q⟩
  have k := sm_items (A := X.A.in1) (sm_eq I sm 50 X.A.in1 (by show X.A.units + 1 + 50 < cLine; omega)) p t t2 r1 r2 j (by simpa using h1) (by simpa using h2)
  simpa using k
theorem rd_sm {neg : Bool} {K : PySem.W.Frag} : RD2 K (rSm neg K) (SmD neg) := by
  intro S Hb H x y dx dy Φ Q ok rx ry h q
  obtain ⟨rfl, ⟨ds, rfl, p⟩, f⟩ := h
  obtain ⟨a, xs, rfl, ha, ra⟩ := rx.tup_
  obtain ⟨b, ys, rfl, hb, rb⟩ := ry.tup_
  exact ⟨S, Hb, ds, a, b, xs, ys, ok.ex, rfl, rfl, ha, hb, ra, rb, p, q.here ok (.bl _) f⟩
end
end Lg
namespace Lg
open L2 PyProof.Rows PySem PySem.Spec
/-! ### sorted -/
def leS (a b : Str) : Bool := !ltCps b.cps.toList a.cps.toList
def sortK (ks : List Str) : List Str := ks.mergeSort leS
theorem leS_iff (a b : Str) : leS a b = true ↔ a.cps.toList ≤ b.cps.toList := by
  unfold leS
  rw [ltCps_eq]
  simp
theorem leS_trans (a b c : Str) (h1 : leS a b = true) (h2 : leS b c = true) : leS a c = true := by
  rw [leS_iff] at *
  exact Std.le_trans h1 h2
theorem leS_total (a b : Str) : (leS a b || leS b a) = true := by
  rw [Bool.or_eq_true, leS_iff, leS_iff]
  exact Std.le_total
theorem leS_anti (a b : Str) (h1 : leS a b = true) (h2 : leS b a = true) : a = b := by
  rw [leS_iff] at *
  exact Str.ext' (Array.toList_inj.mp (Std.le_antisymm h1 h2))
theorem rising_pair : ∀ (l : List Str) (p : Str), risingS p l = true → (p :: l).Pairwise (fun x y => leS x y = true)
  | [], p, _ => List.pairwise_singleton _ _
  | x :: r, p, h => by
    unfold risingS at h
    rw [Bool.and_eq_true] at h
    have t := rising_pair r x h.2
    refine List.pairwise_cons.mpr ⟨fun y hy => ?_, t⟩
    rcases List.mem_cons.mp hy with rfl | later
    · exact h.1
    · exact leS_trans _ _ _ h.1 ((List.pairwise_cons.mp t).1 y later)
theorem sorted_pair (l : List Str) (h : sortedS l = true) : l.Pairwise (fun x y => leS x y = true) := by
  cases l with
  | nil => exact .nil
  | cons x r => exact rising_pair r x h
theorem sortK_of {ys ks : List Str} (p : ys.Perm ks) (h : sortedS ys = true) : ys = sortK ks :=
  PySem.W.Srt.the_of_perm leS leS_trans leS_total leS_anti p (sorted_pair ys h)
theorem sortK_perm (ks : List Str) : (sortK ks).Perm ks := List.mergeSort_perm ks leS
theorem sortK_len (ks : List Str) : (sortK ks).length = ks.length := (sortK_perm ks).length_eq
def keysOf (kvs : List (Str × D)) : List Str := kvs.map (·.1)
section
variable {X : Cx} {e a b c : Expr} {ρ : List Sl} {Φ : D → Prop} {pos p : Pos}
theorem ee_sortD (hc : X.calm = true) (hm : X.mg "sorted" = none) (h : EE X e ρ fun d => ∃ kvs, d = .dct kvs ∧ kvs.length < 64 ∧ Φ (.lst (dstrs (sortK (keysOf kvs))))) (hg : Gl X "sorted" := by rfl) (he : starEach [e] X.env = (false, eval e X.env) :: starEach [] X.env := by rfl) (hpl : (backTo pos (starEach [] X.env)).any (·.1) = false := by rfl) : EE X (.Call (.Name "sorted" p) [e] [] pos) ρ Φ := by
  refine ee_cb (call_sortedD hc) (Res := fun ds Φ => ∃ kvs, ds = [.dct kvs] ∧ kvs.length < 64 ∧ Φ (.lst (dstrs (sortK (keysOf kvs))))) ?_ hm (by decide +kernel) (aa_cons (ee_mono h fun d ⟨kvs, e, l, f⟩ => aa_nil ⟨kvs, by rw [e], l, f⟩) he) hg (by decide) (by decide) he hpl
  intro S Hb H vs ds Φ Q ok r h q
  obtain ⟨kvs, rfl, l, f⟩ := h
  obtain ⟨v, rfl, r1⟩ := rdc_len1 r
  obtain ⟨a, xs, rfl, ha, ra⟩ := r1.dct_
  refine ⟨a, xs, keysOf kvs, rfl, .inl (ok.ex _ _ ha), ra.keys, by unfold keysOf; rw [List.length_map]; exact l, fun ys p hp hs hn => ?_⟩
  rw [sortK_of hp hs]
  exact q.made ok hn (.lst upd_same (rpl_dstrs _)) f
theorem ee_sortL (hm : X.mg "sorted" = none) (h : EE X e ρ fun d => ∃ zs, d = .lst (dstrs zs) ∧ zs.length < 64 ∧ Φ (.lst (dstrs (sortK zs)))) (hg : Gl X "sorted" := by rfl) (he : starEach [e] X.env = (false, eval e X.env) :: starEach [] X.env := by rfl) (hpl : (backTo pos (starEach [] X.env)).any (·.1) = false := by rfl) : EE X (.Call (.Name "sorted" p) [e] [] pos) ρ Φ := by
  refine ee_cb cr_sortedS (Res := fun ds Φ => ∃ zs, ds = [.lst (dstrs zs)] ∧ zs.length < 64 ∧ Φ (.lst (dstrs (sortK zs)))) ?_ hm (by decide +kernel) (aa_cons (ee_mono h fun d ⟨kvs, e, l, f⟩ => aa_nil ⟨kvs, by rw [e], l, f⟩) he) hg (by decide) (by decide) he hpl
  intro S Hb H vs ds Φ Q ok r h q
  obtain ⟨zs, rfl, l, f⟩ := h
  obtain ⟨v, rfl, r1⟩ := rdc_len1 r
  obtain ⟨a, xs, rfl, ha, ra⟩ := r1.lst_
  have ex := ra.dstrs_
  subst ex
  refine ⟨a, zs, rfl, .of (ok.ex _ _ ha), l, fun ys p hp hs hn => ?_⟩
  rw [sortK_of hp hs]
  exact q.made ok hn (.lst upd_same (rpl_dstrs _)) f
/-! ### get on a dict of the module -/
/-- at nm: a written dict with text keys -/
def KHas (K : PySem.W.Frag) (w : World) (mg : Str → Option Value) (nm : Str) (z : Str) (i : Int) : Prop := ∃ a, mg nm = some (.ref a) ∧ (a == sysModules) = false ∧ KDct K w a z (.int i)
theorem pe_kget {nm z : Str} {i : Int} {apos : Pos} {ty : TE} (k : KHas X.K X.w X.mg nm z i) (he : PE X e ty) (hg : Gl X nm) (hd : (nm == ("__debug__" : Str)) = false) (m : M1 X (.Name nm p) "get" apos e pos) :
    PE X (.Call (.Attribute (.Name nm p) "get" apos) [e] [] pos) (fun σ H Q => ty σ H fun y H2 => y = .str z ∧ Q (.int i) H2) := by
  obtain ⟨a, hm, lo, es, n, u0, hl, hk, e0, ru⟩ := k
  refine ⟨fun pins s σ H Q (I : L2.Inv X pins σ H s) h => ?_⟩
  have hx := (pe_glob (pos := p) (v := .ref a) hg hm rfl hd).run pins s σ H (fun x H1 => x = .ref a ∧ ty σ H1 fun y H2 => y = .str z ∧ Q (.int i) H2) I ⟨rfl, h⟩
  refine wpAny_Call_method m.base m.few m.line PySem.F.plainAttrs_dict PySem.F.slot_dict_get PySem.F.type_dict_get (thn hx fun u s1 ⟨x, H1, I1, rx, ex, q1⟩ => ?_)
  subst ex
  cases (show u = .ref a from rx)
  have mo := PySem.W.mapOf_K (prog := X.prog) (w := X.w) I1.kIn hl hk
  refine ⟨mo.typeIs, mo.noDict, ?_⟩
  rw [m.trees]
  refine Calls.callWith_builtin rfl (Calls.evalArgs_plain (Calls.spliced_cons (thn (he.run pins s1 σ H1 _ I1 q1) fun iv s2 ⟨y, H2, I2, ry, ey, q2⟩ => Calls.spliced_nil ?_)))
  subst ey
  obtain ⟨t, rfl⟩ := ry
  have mo2 := PySem.W.mapOf_K (prog := X.prog) (w := X.w) I2.kIn hl hk
  refine call_meetsIn PySem.F.slot_dict_get mo2.typeIs PySem.F.entry_dict_get (PySem.F.args_dict_get_2 _ _) (meets_dict_get (strKind X.prog X.w) a (strKind_is X.prog X.w z t) lo) ⟨_, mo2, ?_⟩
  rw [PySem.W.find_K hl e0]
  exact ⟨.int i, H2, I2.tok _, ru, q2⟩
theorem ee_kget {nm z : Str} {i : Int} {apos : Pos} (k : KHas X.K X.w X.mg nm z i) (h : EE X e ρ fun y => y = .str z ∧ Φ (.int i)) (hg : Gl X nm := by rfl) (hd : (nm == ("__debug__" : Str)) = false := by decide) (m : M1 X (.Name nm p) "get" apos e pos := by exact ⟨rfl, rfl, rfl, rfl⟩) : EE X (.Call (.Attribute (.Name nm p) "get" apos) [e] [] pos) ρ Φ := by
  intro S H0 Hb H σ ok en Q q
  refine wE_of (pe_kget k pe_w hg hd m) ?_
  refine h S H0 Hb H σ ok en _ fun y dy Hb1 H1 g1 r1 p1 => ?_
  obtain ⟨rfl, p1⟩ := p1
  exact ⟨r1.str_, q _ _ _ _ g1 (.int _) p1⟩
end
/-! ### a dict that is walked -/
section
variable {K : PySem.W.Frag} {S : Option Addr} {Hb H Hb2 H2 : Hp} {d : Addr} {od : Obj} {xs : List (Key × V)}
theorem pl_lockL {n : Nat} (ih : ∀ e v, Pl n e → Rp K S Hb v e → Rp K S H v e) : ∀ {vs : List V} {ds : List D}, (∀ e ∈ ds, Pl n e) → RpL K S Hb vs ds → RpL K S H vs ds
  | _, _, _, .nil => .nil
  | _, _, p, .cons r t => .cons (ih _ _ (p _ List.mem_cons_self) r) (pl_lockL ih (fun d hd => p d (List.mem_cons_of_mem _ hd)) t)
theorem pl_lock (hd : Hb d = some (.dK xs)) : ∀ (n : Nat) (e : D) (v : V), Pl n e → Rp K S Hb v e → Rp K S (upd Hb d (.frz od (.dK xs))) v e := by
  intro n
  induction n with
  | zero =>
    intro e v p r
    cases r with
    | non => exact .non
    | bl b => exact .bl b
    | int i => exact .int i
    | str x => exact .str x
    | _ => exact p.elim
  | succ n ih =>
    intro e v p r
    cases r with
    | non => exact .non
    | bl b => exact .bl b
    | int i => exact .int i
    | str x => exact .str x
    | @tup a ys ds h t =>
      refine .tup ?_ (pl_lockL ih p t)
      rcases h with (own | ⟨od, shut⟩) | h
      · refine .inl (.inl ?_)
        rw [upd_ne (fun z => by rw [z, hd] at own; cases own)]
        exact own
      · refine .inl (.inr ⟨od, ?_⟩)
        rw [upd_ne (fun z => by rw [z, hd] at shut; cases shut)]
        exact shut
      · exact .inr h
    | @lst a ys ds h t =>
      refine .lst ?_ (pl_lockL ih p t)
      rw [upd_ne (fun z => by rw [z, hd] at h; cases h)]
      exact h
    | _ => exact p.elim
mutual
theorem Rp.unlock (hd : Hb2 d = some (.frz od (.dK xs))) : ∀ {v : V} {e : D}, Rp K S Hb2 v e → Rp K S (upd Hb2 d (.dK xs)) v e
  | _, _, .non => .non
  | _, _, .bl b => .bl b
  | _, _, .int b => .int b
  | _, _, .str b => .str b
  | _, _, .tup h r => .tup (by
      rcases h with (own | ⟨od, shut⟩) | h
      · refine .inl (.inl ?_)
        rw [upd_ne (fun z => by rw [z, hd] at own; cases own)]
        exact own
      · refine .inl (.inr ⟨od, ?_⟩)
        rw [upd_ne (fun z => by rw [z, hd] at shut; cases shut)]
        exact shut
      · exact .inr h) (RpL.unlock hd r)
  | _, _, .lst h r => .lst (by
      rw [upd_ne (fun z => by rw [z, hd] at h; cases h)]
      exact h) (RpL.unlock hd r)
  | _, _, .flst h r => .flst (by
      rcases h with (own | ⟨od, shut⟩) | h
      · refine .inl (.inl ?_)
        rw [upd_ne (fun z => by rw [z, hd] at own; cases own)]
        exact own
      · refine .inl (.inr ⟨od, ?_⟩)
        rw [upd_ne (fun z => by rw [z, hd] at shut; cases shut)]
        exact shut
      · exact .inr h) (RpL.unlock hd r)
  | _, _, .dct h r => .dct (by
      rw [upd_ne (fun z => by rw [z, hd] at h; cases h)]
      exact h) (RpK.unlock hd r)
  | _, _, .pool h => .pool h
theorem RpL.unlock (hd : Hb2 d = some (.frz od (.dK xs))) : ∀ {v : List V} {e : List D}, RpL K S Hb2 v e → RpL K S (upd Hb2 d (.dK xs)) v e
  | _, _, .nil => .nil
  | _, _, .cons h r => .cons (Rp.unlock hd h) (RpL.unlock hd r)
theorem RpK.unlock (hd : Hb2 d = some (.frz od (.dK xs))) : ∀ {v : List (Key × V)} {e : List (Str × D)}, RpK K S Hb2 v e → RpK K S (upd Hb2 d (.dK xs)) v e
  | _, _, .nil => .nil
  | _, _, .cons h r => .cons (Rp.unlock hd h) (RpK.unlock hd r)
end
theorem Ok.lock (k : Ok S Hb H) (hd : Hb d = some (.dK xs)) : Ok S (upd Hb d (.frz od (.dK xs))) (upd H d (.frz od (.dK xs))) := by
  refine ⟨fun b z e => ?_, fun p e => ?_⟩
  · by_cases c : b = d
    · subst c
      rw [upd_same] at e ⊢
      exact e
    · rw [upd_ne c] at e ⊢
      exact k.ex b z e
  · obtain ⟨n, q⟩ := k.pl p e
    have c : p ≠ d := fun c => by rw [c, hd] at n; cases n
    rw [upd_ne c, upd_ne c]
    exact ⟨n, q⟩
theorem Grow.unlock (k : Ok S Hb H) (hd : Hb d = some (.dK xs)) (g : Grow S (upd Hb d (.frz od (.dK xs))) (upd H d (.frz od (.dK xs))) Hb2 H2) : Grow S Hb H (upd Hb2 d (.dK xs)) (upd H2 d (.dK xs)) := by
  have f2 : Hb2 d = some (.frz od (.dK xs)) := g.pub _ _ upd_same
  have hH : H d = some (.dK xs) := k.ex _ _ hd
  refine ⟨k, ⟨fun b z e => ?_, fun p e => ?_⟩, fun a o e => ?_, fun a o e n => ?_, fun a o e n => ?_⟩
  · by_cases c : b = d
    · subst c
      rw [upd_same] at e ⊢
      exact e
    · rw [upd_ne c] at e ⊢
      exact g.ok.ex b z e
  · obtain ⟨n, q⟩ := g.ok.pl p e
    have c : p ≠ d := fun c => by rw [c, f2] at n; cases n
    rw [upd_ne c, upd_ne c]
    exact ⟨n, q⟩
  · by_cases c : a = d
    · subst c
      rw [upd_same]
      rw [hd] at e
      exact e
    · rw [upd_ne c]
      exact g.pub a o (by rw [upd_ne c]; exact e)
  · by_cases c : a = d
    · subst c
      rw [upd_same]
      rw [hH] at e
      exact e
    · rw [upd_ne c]
      exact g.prv a o (by rw [upd_ne c]; exact e) n
  · have c : a ≠ d := fun c => by rw [c, hd] at n; cases n
    rw [upd_ne c]
    exact g.sep a o (by rw [upd_ne c]; exact e) (by rw [upd_ne c]; exact n)
end
/-- what is left of the slots while a dict is walked -/
def flatSl : Sl → Sl
  | .va .non => .va .non
  | .va (.bl b) => .va (.bl b)
  | .va (.int b) => .va (.int b)
  | .va (.str b) => .va (.str b)
  | _ => .un
theorem Sls.flat {K : PySem.W.Frag} {S : Option Addr} {H0 Hb H Hb' H' : Hp} {σ : L2.St} {ρ : List Sl} (en : Sls K S H0 Hb H σ ρ) : Sls K S H0 Hb' H' σ (ρ.map flatSl) := by
  refine ⟨by rw [List.length_map]; exact en.len, fun i s o h1 h2 => ?_, fun i j s t p h1 _ h3 _ _ _ => ?_, en.ent⟩
  · rw [List.getElem?_map] at h1
    cases e : ρ[i]? with
    | none => rw [e] at h1; cases h1
    | some s0 =>
      rw [e] at h1
      cases h1
      have k := en.at_ i s0 o e h2
      unfold flatSl
      split
      · obtain ⟨v, rfl, r⟩ := k; cases r; exact ⟨_, rfl, .non⟩
      · obtain ⟨v, rfl, r⟩ := k; cases r; exact ⟨_, rfl, .bl _⟩
      · obtain ⟨v, rfl, r⟩ := k; cases r; exact ⟨_, rfl, .int _⟩
      · obtain ⟨v, rfl, r⟩ := k; cases r; exact ⟨_, rfl, .str _⟩
      · exact True.intro
  · rw [List.getElem?_map] at h1
    cases e : ρ[i]? with
    | none => rw [e] at h1; cases h1
    | some s0 =>
      rw [e] at h1
      cases h1
      unfold flatSl at h3
      split at h3 <;> exact h3.elim
section
variable {X : Cx} {e a b c : Expr} {ρ : List Sl} {Φ : D → Prop} {pos p : Pos}
/-- the turns of a list comprehension, from one state -/
theorem lc_loop {i : Nat} (tt : L2.TT) (te : TE) {S : Option Addr} {H0 Hb H : Hp} {σ : L2.St} {It : It} {n : Nat} {f : Nat → D} (okH : Ok S Hb H) (en : Sls X.K S H0 Hb H σ ρ) (wd : WalkD X.K S Hb It n f) (J : Nat → List D → Prop) (j0 : J 0 [])
    (js : ∀ j acc, j < n → J j acc → EvT X.K tt (ρ.set i (.va (f j))) fun b => (b = true → Ev X.K te (ρ.set i (.va (f j))) fun y => acc.length < 100000 ∧ J (j + 1) (acc ++ [y])) ∧ (b = false → J (j + 1) acc)) (jd : ∀ acc, J n acc → Φ (.lst acc)) {Q : VK} (q : Post X.K S Hb H Φ Q) :
    ∀ Dl, H Dl = none → ∃ W : Nat → Nat → Hp → Prop, (∃ m, W 0 m (upd H Dl (.lst []))) ∧ ∀ i' m H, W i' m H →
      (It.stop i' H ∧ Q (.ref Dl) H) ∨ (It.go i' H ∧ ∃ Nx : Hp → Prop, (∀ H', Nx H' → ∃ m', m' < m ∧ W (i' + 1) m' H') ∧ ∀ x H', It.yld i' H x H' → gName i x (wipe σ [i]) H' fun σ2 H2 => wipe σ2 [i] = wipe σ [i] ∧ tt σ2 H2 fun b H3 =>
        if b = true then te σ2 H3 fun y H4 => ∃ acc, H4 Dl = some (.lst acc) ∧ acc.length < sizeLine ∧ Nx (upd H4 Dl (.lst (acc ++ [y]))) else Nx H3) := by
  intro Dl hD
  have hDb : Hb Dl = none := okH.base hD
  refine ⟨fun j m H2 => m = n - j ∧ j ≤ n ∧ LcJ X.K S Hb H Dl J j H2, ⟨n, by simp, Nat.zero_le _, Hb, [], [], .hid okH hD, upd_same, hDb, .nil, j0⟩, ?_⟩
  rintro j m H2 ⟨rfl, hj, Hb2, vs, acc, g2, hl2, hb2, r2, jj⟩
  by_cases hlt : j < n
  · refine .inr ⟨wd.go j H2 Hb2 g2.pub g2.ok hlt, LcJ X.K S Hb H Dl J (j + 1), fun H' z => ⟨n - (j + 1), by omega, rfl, hlt, z⟩, fun x H3 y => ?_⟩
    obtain ⟨Hb3, g3, r3⟩ := wd.yl j x H2 Hb2 H3 g2.pub g2.ok hlt y
    refine ⟨lc_set, ?_⟩
    have nS : S ≠ some Dl := okH.ne hD
    have en3 : Sls X.K S H0 Hb3 H3 ((wipe σ [i]).set i (some x)) (ρ.set i (.va (f j))) := by
      have z : Sls X.K S H0 Hb3 H3 ((wipe σ [i]).set i (some x)) ((ρ.set i .un).set i (.va (f j))) := ((en.grow (g2.trans g3)).weak (i := i) (o := none)).setV r3
      rw [List.set_set] at z
      exact z
    have h3 : H3 Dl = some (.lst vs) := g3.prv _ _ hl2 nS
    have b3 : Hb3 Dl = none := g3.sep _ _ hl2 hb2
    refine js j acc hlt jj S H0 Hb3 H3 _ g3.ok en3 _ fun b Hb4 H4 g4 p4 => ?_
    have h4 : H4 Dl = some (.lst vs) := g4.prv _ _ h3 nS
    have b4 : Hb4 Dl = none := g4.sep _ _ h3 b3
    cases b with
    | true =>
      rw [if_pos rfl]
      refine p4.1 rfl S H0 Hb4 H4 _ g4.ok (en3.grow g4) _ fun y dy Hb5 H5 g5 r5 p5 => ?_
      have h5 : H5 Dl = some (.lst vs) := g5.prv _ _ h4 nS
      have b5 : Hb5 Dl = none := g5.sep _ _ h4 b4
      have g25 := g2.trans (g3.trans (g4.trans g5))
      have rr := r2.mono (g3.pub.trans (g4.pub.trans g5.pub))
      exact ⟨vs, h5, Nat.lt_of_lt_of_le (by rw [r2.len]; exact p5.1) (sz1000 (Nat.le_refl _)), Hb5, _, _, g25.mut hD b5, upd_same, b5, rr.app (.cons r5 .nil), p5.2⟩
    | false =>
      rw [if_neg (fun z => Bool.false_ne_true z)]
      exact ⟨Hb4, vs, acc, g2.trans (g3.trans g4), h4, b4, r2.mono (g3.pub.trans g4.pub), p4.2 rfl⟩
  · have e : j = n := by omega
    subst e
    refine .inl ⟨wd.st H2 Hb2 g2.pub g2.ok, ?_⟩
    have sm : Same Hb2 (upd Hb2 Dl (.lst vs)) := same_new hb2
    exact q _ _ _ _ (g2.tell hD hb2 hl2) (.lst upd_same (r2.mono sm)) (jd acc jj)
theorem walk_keys {K : PySem.W.Frag} {S : Option Addr} {Hb : Hp} {d : Addr} {od : Obj} {xs : List (Key × V)} {kvs : List (Str × D)} (hd : Hb d = some (.frz od (.dK xs))) (hk : xs.map (·.1) = (keysOf kvs).map Sum.inr) : WalkD K S Hb (Itk d od xs) kvs.length (fun j => .str ((keysOf kvs).getD j "")) := by
  have hl : xs.length = kvs.length := by
    have := congrArg List.length hk
    unfold keysOf at this
    simpa using this
  refine ⟨fun i H1 Hb1 sm ok hi => ⟨ok.ex _ _ (sm _ _ hd), by omega⟩, fun i x H1 Hb1 H2 sm ok hi y => ?_, fun H1 Hb1 sm ok => ⟨ok.ex _ _ (sm _ _ hd), by omega⟩⟩
  obtain ⟨rfl, k, v, e1, rfl⟩ := y
  refine ⟨Hb1, .refl ok, ?_⟩
  have e2 : ((keysOf kvs).map Sum.inr)[i]? = some k := by rw [← hk, List.getElem?_map, e1]; rfl
  rw [List.getElem?_map] at e2
  cases e3 : (keysOf kvs)[i]? with
  | none => rw [e3] at e2; cases e2
  | some z =>
    rw [e3] at e2
    cases e2
    rw [List.getD_eq_getElem?_getD, e3]
    exact .str z
/-- [e for x in d if c], d a dict -/
theorem ee_lcKeys {i j : Nat} {x dn : Str} {px pd : Pos} {scope : Scope} {kvs : List (Str × D)} (nd : X.N.Nodup) (ok : BlkOk X.N X.env.scope scope [(x, i)]) (hj : ρ[j]? = some (.va (.dct kvs)))
    (h : ∃ J : Nat → List D → Prop, J 0 [] ∧ (∀ n acc, n < kvs.length → J n acc → ∃ b : Bool, (∀ s H C cl fp, TT (Blk X scope s H C cl fp) c ((ρ.map flatSl).set i (.va (.str ((keysOf kvs).getD n "")))) fun b' => b' = b) ∧
      (b = true → ∀ s H C cl fp, EE (Blk X scope s H C cl fp) e ((ρ.map flatSl).set i (.va (.str ((keysOf kvs).getD n "")))) fun y => acc.length < 100000 ∧ J (n + 1) (acc ++ [y])) ∧ (b = false → J (n + 1) acc)) ∧ ∀ acc, J kvs.length acc → Φ (.lst acc))
    (hi : X.N[i]? = some x := by rfl) (hx : scope.names.lookup x = some .local := by rfl) (hN : X.N[j]? = some dn := by rfl) (hv : Vis X.env.scope dn := by first | exact Or.inl rfl | exact Or.inr (Or.inl rfl) | exact Or.inr (Or.inr rfl)) (hd : (dn == ("__debug__" : Str)) = false := by decide) (hcd : (dn == ("__classdict__" : Str)) = false := by decide)
    (hg : ∀ (s : Shared) (H : Hp) (C : Addr) (cl : List (Str × Addr)) (fp : List Addr), PG (X.blk s H scope (compEnvC scope cl C X.env) fp) (.Name x px) (gName i) := by intro _ _ _ _ _; exact pg_name (by assumption) rfl (Or.inl rfl)) (hc : X.calm = true := by rfl)
    (hs : ∀ x, foldedSetIterable (.Name dn pd) X.env x = pure x := by intro _; rfl) : EE X (.ListComp e [⟨.Name x px, .Name dn pd, [c], 0⟩] scope pos) ρ Φ := by
  intro S H0 Hb H σ ok0 en Q q
  obtain ⟨v, hσ, rv⟩ := en.var hj
  obtain ⟨d, xs, rfl, hd0, rk⟩ := rv.dct_
  refine wE_of (pe_lock (pe_lc hc nd (pi_keys (pe_var hN hv hd hcd)) ok hg (fun s H C cl fp => pts_one (t := bT X scope c) ⟨fun pins s' σ H' Q I q => q s H C cl fp pins s' I⟩) (fun s H C cl fp => (⟨fun pins s' σ H' Q I q => q s H C cl fp pins s' I⟩ : PE _ e (bE X scope e))) hs)) ?_
  refine ⟨d, .dK xs, ok0.ex _ _ hd0, True.intro, fun od => ?_⟩
  have okL := ok0.lock (od := od) hd0
  refine ⟨.ref d, hσ, d, od, rfl, .inl ⟨xs, upd_same, ?_⟩⟩
  obtain ⟨J, j0, js, jd⟩ := h
  refine lc_loop (i := i) (bT X scope c) (bE X scope e) (Φ := Φ) (Q := fun v H2 => H2 d = some (.frz od (.dK xs)) ∧ Q v (upd H2 d (.dK xs))) okL (en.flat (Hb' := upd Hb d (.frz od (.dK xs))) (H' := upd H d (.frz od (.dK xs)))) (walk_keys (K := X.K) (S := S) upd_same rk.keys) J j0 (fun n acc hn jj => ?_) jd (fun v dv Hb2 H2 g r f => ?_)
  · obtain ⟨b, hb, h1, h2⟩ := js n acc hn jj
    intro S H0 Hb H σ ok en Q q s H' C cl fp
    refine hb s H' C cl fp S H0 Hb H σ ok en Q fun b' Hb2 H2 g2 e2 => ?_
    subst e2
    refine q b' Hb2 H2 g2 ⟨fun e => ?_, h2⟩
    intro S H0 Hb H σ ok en Q q s H' C cl fp
    exact h1 e s H' C cl fp S H0 Hb H σ ok en Q q
  · have f2 : Hb2 d = some (.frz od (.dK xs)) := g.pub _ _ upd_same
    exact ⟨g.ok.ex _ _ f2, q _ _ _ _ (g.unlock ok0 hd0) (r.unlock f2) f⟩
end
end Lg
namespace Lg
open L2 PyProof.Rows PySem PySem.Spec
section
variable {X : Cx} {e e1 e2 f kx vx a b c : Expr} {es : List Expr} {rest : List Stmt} {ρ : List Sl} {Φ : D → Prop} {N : List Sl → Prop} {R : D → Prop} {pos p p2 p3 apos cpos : Pos}
/-! ### {k: v for k, v in d.items() if c} -/
theorem dc_set {σ : L2.St} {i j : Nat} (hij : i ≠ j) {o o' : Option V} : wipe (((wipe σ [i, j]).set i o).set j o') [i, j] = wipe σ [i, j] := by
  show ((((((σ.set j none).set i none).set i o).set j o').set j none).set i none) = (σ.set j none).set i none
  rw [List.set_set, List.set_set, List.set_comm _ _ hij, List.set_set, List.set_set]
theorem rdict_get {K : PySem.W.Frag} {S : Option Addr} {Hb : Hp} {xs : List (Key × V)} {kvs : List (Str × D)} (r : RpK K S Hb xs kvs) {i : Nat} {k : Key} {v : V} (e : xs[i]? = some (k, v)) : ∃ z d, kvs[i]? = some (z, d) ∧ k = Sum.inr z ∧ Rp K S Hb v d := by
  have hi : i < kvs.length := by
    rw [← r.len]; exact (List.getElem?_eq_some_iff.mp e).1
  obtain ⟨v', h1, h2⟩ := r.get (i := i) (k := kvs[i].1) (d := kvs[i].2) (List.getElem?_eq_getElem hi)
  rw [e] at h1
  cases h1
  exact ⟨_, _, List.getElem?_eq_getElem hi, rfl, h2⟩
def kvAt (kvs : List (Str × D)) (n : Nat) : Str × D := kvs.getD n ("", .non)
/-- a fact of each block that a comprehension's turns run in -/
abbrev InBlk (X : Cx) (scope : Scope) (F : Cx → Prop) : Prop := ∀ (s : Shared) (H : Hp) (C : Addr) (cl : List (Str × Addr)) (fp : List Addr), F (X.blk s H scope (compEnvC scope cl C X.env) fp)
/-- name = {..} on one line, the name a local -/
theorem ps_setDc {i : Nat} {y : Str} {py : Pos} {kx vx tg iter : Expr} {ifs : List Expr} {scope : Scope} {own : List (Str × Nat)} {pos spos : Pos} {wi : TI} {g : TG} {tt : L2.TT} {tk tv : TE} (hc : X.calm = true) (hN : X.N.Nodup) (hy : X.N[i]? = some y) (hyl : X.env.scope.names.lookup y = some .local)
    (hsw : swapsWith (.DictComp kx vx [⟨tg, iter, ifs, 0⟩] scope pos) (some (.Name y py)) spos.line X.env = pure true) (hi : PI X tg iter wi) (ok : BlkOk X.N X.env.scope scope own)
    (hg : InBlk X scope (PG · tg g)) (ht : InBlk X scope (PTs · ifs tt)) (hk : InBlk X scope (PE · kx tk)) (he : InBlk X scope (PE · vx tv)) (hs : ∀ x, foldedSetIterable iter X.env x = pure x := by intro _; rfl) :
    PS X (.Assign [.Name y py] (.DictComp kx vx [⟨tg, iter, ifs, 0⟩] scope pos) spos) (tAsg (tDc wi g tt tk tv (own.map (·.2))) (gName i)) := by
  constructor
  intro pins s σ H D inv goal
  have runs := exec_Assign_Name_used _ _ _ _ hsw
  rw [runs]
  refine wpAny_bind <| wpAny_standAt <| wpAny_bind ?_
  show wpAny _ X.A (do let _ ← comprehension (.DictComp kx vx [⟨tg, iter, ifs, 0⟩] scope pos) scope X.env (firstIterPos [⟨tg, iter, ifs, 0⟩] pos) newDict false (eval iter X.env) (some (assign (.Name y py) X.env))) _ _ s
  have goal : tDc wi g tt tk tv (own.map (·.2)) σ H (fun x H1 => gName i x σ H1 D.nx) := goal
  refine wpAny_bind (thn (dc_core (Qf := fun _ s' => SP X pins D .next s') hc hN inv hi ok hg ht hk he hs goal fun L C s' m H' inv2 q ns away => ?_) fun _ s' hq => wpAny_pure (wpAny_pure hq))
  refine wpAny_assign_Name (x := y) (pos := py) (store_ok2 (v := .ref L) inv2 hN hy (.inl hyl) rfl ?_ (.inr hyl))
  rintro s2 inv3 ⟨a, only, which⟩
  have other : C ≠ a := which.elim (fun z => z ▸ away.2.1) fun z e => away.2.2.2.2.1 y a z e.symm
  exact ⟨m, ns.sameBut only other, fun h3 only3 => ⟨_, H', inv3.turnedL (t' := s2.toks) (ch := [C]) (fun b o nb e => (only3.2 b fun z => nb (List.mem_singleton.mpr z)).trans e) (fun b hb => List.mem_singleton.mp hb ▸ away), q⟩⟩
theorem dc_at {i j l n : Nat} {scope : Scope} {kvs : List (Str × D)} {S : Option Addr} {H0 Hb H : Hp} {σ : L2.St} {d : Addr} {xs : List (Key × V)} (od : Obj) (hij : i ≠ j) (ok0 : Ok S Hb H) (en : Sls X.K S H0 Hb H σ ρ) (hσ : σ[l]? = some (some (.ref d))) (hd0 : Hb d = some (.dK xs)) (rk : RpK X.K S Hb xs kvs) (hp : ∀ kv ∈ kvs, Pl n kv.2)
    (h : ∃ J : Nat → List (Str × D) → Prop, J 0 [] ∧ (∀ m acc, m < kvs.length → J m acc → ∃ b : Bool, (∀ s H C cl fp, TT (Blk X scope s H C cl fp) c (((ρ.map flatSl).set i (.va (.str (kvAt kvs m).1))).set j (.va (kvAt kvs m).2)) fun b' => b' = b) ∧
      (b = true → ∀ s H C cl fp, EE (Blk X scope s H C cl fp) kx (((ρ.map flatSl).set i (.va (.str (kvAt kvs m).1))).set j (.va (kvAt kvs m).2)) fun dk => ∀ s H C cl fp, EE (Blk X scope s H C cl fp) vx (((ρ.map flatSl).set i (.va (.str (kvAt kvs m).1))).set j (.va (kvAt kvs m).2)) fun dv => ∃ z, dk = .str z ∧ acc.length < 100000 ∧ J (m + 1) (dput acc z dv)) ∧ (b = false → J (m + 1) acc)) ∧ ∀ acc, J kvs.length acc → Φ (.dct acc))
    {Q : VK} (q : Post X.K S Hb H Φ Q) : tDc (iItems (tVar l)) (gTup X.K 2 (gCons (gName i) (gCons (gName j) gNil))) (bT X scope c) (bE X scope kx) (bE X scope vx) [i, j] σ (upd H d (.frz od (.dK xs))) (fun v H' => H' d = some (.frz od (.dK xs)) ∧ Q v (upd H' d (.dK xs))) := by
  have okL := ok0.lock (od := od) hd0
  refine ⟨.ref d, hσ, d, od, xs, rfl, upd_same, ?_⟩
  obtain ⟨J, j0, js, jd⟩ := h
  intro Dl hD
  have enL := en.flat (Hb' := upd Hb d (.frz od (.dK xs))) (H' := upd H d (.frz od (.dK xs)))
  have fL : (upd Hb d (.frz od (.dK xs))) d = some (.frz od (.dK xs)) := upd_same
  generalize hHb : upd Hb d (.frz od (.dK xs)) = HbL at okL enL fL
  generalize hHL : upd H d (.frz od (.dK xs)) = HL at okL enL hD
  have hDb : HbL Dl = none := okL.base hD
  have nS : S ≠ some Dl := okL.ne hD
  refine ⟨fun m' m H2 => m = kvs.length - m' ∧ m' ≤ kvs.length ∧ ∃ Hb2 ws acc, Grow S HbL HL Hb2 H2 ∧ H2 Dl = some (.dK ws) ∧ Hb2 Dl = none ∧ RpK X.K S Hb2 ws acc ∧ J m' acc, ⟨kvs.length, by simp, Nat.zero_le _, HbL, [], [], .hid okL hD, upd_same, hDb, .nil, j0⟩, ?_⟩
  rintro m' m H2 ⟨rfl, hj', Hb2, ws, acc, g2, hl2, hb2, r2, jj⟩
  have fr2 : H2 d = some (.frz od (.dK xs)) := g2.ok.ex _ _ (g2.pub _ _ fL)
  by_cases hlt : m' < kvs.length
  · refine .inr ⟨⟨fr2, by rw [rk.len]; exact hlt⟩, fun H' => ∃ Hb2 ws acc, Grow S HbL HL Hb2 H' ∧ H' Dl = some (.dK ws) ∧ Hb2 Dl = none ∧ RpK X.K S Hb2 ws acc ∧ J (m' + 1) acc, fun H' z => ⟨kvs.length - (m' + 1), by omega, rfl, hlt, z⟩, fun x H3 y => ?_⟩
    obtain ⟨T, k, v, e1, rfl, nT, rfl⟩ := y
    obtain ⟨z, dv, e2, rfl, rv⟩ := rdict_get rk e1
    have eat : kvAt kvs m' = (z, dv) := by
      unfold kvAt
      rw [List.getD_eq_getElem?_getD, e2]
      rfl
    obtain ⟨bb, hb, h1, h2⟩ := js m' acc hlt jj
    rw [eat] at hb h1
    have rv' : Rp X.K S HbL v dv := by
      rw [← hHb]
      exact pl_lock hd0 n dv v (hp _ (List.mem_of_getElem? e2)) rv
    have g3 : Grow S Hb2 H2 (upd Hb2 T (.tup [.str z, v])) (upd H2 T (.tup [.str z, v])) := .new g2.ok nT
    refine ⟨T, [.str z, v], rfl, SqT.of upd_same, rfl, .str z, [v], rfl, v, [], rfl, rfl, dc_set hij, ?_⟩
    have en3 := ((((enL.grow (g2.trans g3)).weak (i := j) (o := none)).weak (i := i) (o := none)).setV (i := i) (.str z)).setV (i := j) (rv'.mono (g2.trans g3).pub)
    have eρ : (((((ρ.map flatSl).set j .un).set i .un).set i (.va (.str z))).set j (.va dv)) = ((ρ.map flatSl).set i (.va (.str z))).set j (.va dv) := by
      rw [List.set_set, List.set_comm _ _ hij.symm, List.set_set]
    rw [eρ] at en3
    have h3 : (upd H2 T (.tup [.str z, v])) Dl = some (.dK ws) := g3.prv _ _ hl2 nS
    have b3 := g3.sep _ _ hl2 hb2
    intro s' H' C cl fp
    refine hb s' H' C cl fp S H0 _ _ _ g3.ok en3 _ fun b' Hb4 H4 g4 p4 => ?_
    subst p4
    have h4 : H4 Dl = some (.dK ws) := g4.prv _ _ h3 nS
    have b4 : Hb4 Dl = none := g4.sep _ _ h3 b3
    cases b' with
    | true =>
      rw [if_pos rfl]
      intro s' H' C cl fp
      refine h1 rfl s' H' C cl fp S H0 Hb4 H4 _ g4.ok (en3.grow g4) _ fun y dk Hb5 H5 g5 r5 p5 => ?_
      intro s' H' C cl fp
      refine p5 s' H' C cl fp S H0 Hb5 H5 _ g5.ok (en3.grow (g4.trans g5)) _ fun y2 dv2 Hb6 H6 g6 r6 p6 => ?_
      obtain ⟨z2, rfl, la, jn⟩ := p6
      have g56 := g5.trans g6
      have h6 : H6 Dl = some (.dK ws) := g56.prv _ _ h4 nS
      have b6 : Hb6 Dl = none := g56.sep _ _ h4 b4
      have g26 := g2.trans (g3.trans (g4.trans g56))
      have rr := r2.mono (g3.pub.trans (g4.pub.trans g56.pub))
      exact ⟨ws, Sum.inr z2, r5.str_, h6, Nat.lt_of_lt_of_le (by rw [r2.len]; exact la) (sz1000 (Nat.le_refl _)), Hb6, _, _, g26.mut hD b6, upd_same, b6, rr.put r6, jn⟩
    | false =>
      rw [if_neg (fun z => Bool.false_ne_true z)]
      exact ⟨Hb4, ws, acc, g2.trans (g3.trans g4), h4, b4, r2.mono (g3.pub.trans g4.pub), h2 rfl⟩
  · have e : m' = kvs.length := by omega
    subst e
    refine .inl ⟨⟨fr2, by rw [rk.len]; exact Nat.le_refl _⟩, ?_⟩
    have sm : Same Hb2 (upd Hb2 Dl (.dK ws)) := same_new hb2
    have g5 := g2.tell hD hb2 hl2
    have f5 := g5.pub _ _ fL
    rw [← hHb, ← hHL] at g5
    exact ⟨fr2, q _ _ _ _ (g5.unlock ok0 hd0) (Rp.unlock f5 (.dct upd_same (r2.mono sm))) (jd acc jj)⟩
/-- x = {k: v for k, v in d.items() if c} -/
theorem rr_setDc {i j l n i0 : Nat} {x y dn x0 : Str} {px py pt pd p0 : Pos} {kt : Nat} {scope : Scope} {kvs : List (Str × D)} (nd : X.N.Nodup) (hij : i ≠ j) (ok : BlkOk X.N X.env.scope scope [(x, i), (y, j)]) (hl : ρ[l]? = some (.va (.dct kvs))) (hp : ∀ kv ∈ kvs, Pl n kv.2)
    (h : ∃ J : Nat → List (Str × D) → Prop, J 0 [] ∧ (∀ m acc, m < kvs.length → J m acc → ∃ b : Bool, (∀ s H C cl fp, TT (Blk X scope s H C cl fp) c (((ρ.map flatSl).set i (.va (.str (kvAt kvs m).1))).set j (.va (kvAt kvs m).2)) fun b' => b' = b) ∧
      (b = true → ∀ s H C cl fp, EE (Blk X scope s H C cl fp) kx (((ρ.map flatSl).set i (.va (.str (kvAt kvs m).1))).set j (.va (kvAt kvs m).2)) fun dk => ∀ s H C cl fp, EE (Blk X scope s H C cl fp) vx (((ρ.map flatSl).set i (.va (.str (kvAt kvs m).1))).set j (.va (kvAt kvs m).2)) fun dv => ∃ z, dk = .str z ∧ acc.length < 100000 ∧ J (m + 1) (dput acc z dv)) ∧ (b = false → J (m + 1) acc)) ∧ ∀ acc, J kvs.length acc → RR X rest (ρ.set i0 (.va (.dct acc))) N R)
    (hi0 : X.N[i0]? = some x0 := by rfl) (hx0 : X.env.scope.names.lookup x0 = some .local := by rfl) (hsw : swapsWith (.DictComp kx vx [⟨.Tuple [.Name x px, .Name y py] kt pt, .Call (.Attribute (.Name dn pd) "items" apos) [] [] cpos, [c], 0⟩] scope p2) (some (.Name x0 p0)) pos.line X.env = pure true := by rfl)
    (hN : X.N[l]? = some dn := by rfl) (hv : Vis X.env.scope dn := by first | exact Or.inl rfl | exact Or.inr (Or.inl rfl) | exact Or.inr (Or.inr rfl)) (hd : (dn == ("__debug__" : Str)) = false := by decide) (hcd : (dn == ("__classdict__" : Str)) = false := by decide)
    (hg : ∀ (s : Shared) (H : Hp) (C : Addr) (cl : List (Str × Addr)) (fp : List Addr), PG (X.blk s H scope (compEnvC scope cl C X.env) fp) (.Tuple [.Name x px, .Name y py] kt pt) (gTup X.K 2 (gCons (gName i) (gCons (gName j) gNil))) := by
      intro _ _ _ _ _; exact pg_tup rfl (pgs_cons (pg_name (by assumption) rfl (Or.inl rfl)) (pgs_cons (pg_name (by assumption) rfl (Or.inl rfl)) pgs_nil))) (hc : X.calm = true := by rfl)
    (hbase : attributeBase (.Name dn pd) "items" X.env (eval (.Name dn pd) X.env) = eval (.Name dn pd) X.env := by rfl) (hline : (apos.endLine == cpos.line) = true := by rfl)
    (hs : ∀ x, foldedSetIterable (.Call (.Attribute (.Name dn pd) "items" apos) [] [] cpos) X.env x = pure x := by intro _; rfl) : RR X (.Assign [.Name x0 p0] (.DictComp kx vx [⟨.Tuple [.Name x px, .Name y py] kt pt, .Call (.Attribute (.Name dn pd) "items" apos) [] [] cpos, [c], 0⟩] scope p2) pos :: rest) ρ N R := by
  refine rr_seq (ps_lock (ps_setDc hc nd hi0 hx0 hsw (pi_items (pe_var hN hv hd hcd) hbase hline) ok hg (fun s H C cl fp => pts_one (t := bT X scope c) ⟨fun pins s' σ H' Q I q => q s H C cl fp pins s' I⟩) (fun s H C cl fp => (⟨fun pins s' σ H' Q I q => q s H C cl fp pins s' I⟩ : PE _ kx (bE X scope kx))) (fun s H C cl fp => (⟨fun pins s' σ H' Q I q => q s H C cl fp pins s' I⟩ : PE _ vx (bE X scope vx))) hs)) fun S Hb0 H0 Hb H σ g en D q1 q2 => ?_
  obtain ⟨v, hσ, rv⟩ := en.var hl
  obtain ⟨d, xs, rfl, hd0, rk⟩ := rv.dct_
  refine ⟨d, .dK xs, g.ok.ex _ _ hd0, True.intro, fun od => ?_⟩
  refine dc_at (Φ := fun dd => RR X rest (ρ.set i0 (.va dd)) N R) (Q := fun v H' => D.nx (σ.set i0 (some v)) H') od hij g.ok en hσ hd0 rk hp h fun v d Hb' H' k r p => ?_
  exact q1 _ _ Hb' H' k.pub (g.trans k) ((en.grow k).setV r) p
end
end Lg
namespace Lg
open L2 PyProof.Rows PySem PySem.Spec
/-! ### the pool -/
section
variable {K : PySem.W.Frag}
theorem Rp.pool_ {S : Option Addr} {Hb : Hp} {v : V} (r : Rp K S Hb v .pool) : ∃ a, v = .ref a ∧ S = some a := by cases r with | pool h => exact ⟨_, rfl, h⟩
def PoolAt (x y : D) (Φ : D → Prop) : Prop := x = .pool ∧ ((y = .int 0 ∧ ∀ a : Int, 0 ≤ a → Φ (.int a)) ∨ (y = .int 1 ∧ ∀ b : Int, 0 ≤ b → b < 2147483647 → Φ (.int b)))
theorem rd_pool : RD2 K (rIxL K) PoolAt := by
  intro S Hb H x y dx dy Φ Q ok rx ry h q
  obtain ⟨rfl, h⟩ := h
  obtain ⟨p, rfl, e⟩ := rx.pool_
  obtain ⟨n, o, ho, a, b, rfl, h1, h2, h3⟩ := ok.pl p e
  rcases h with ⟨rfl, h⟩ | ⟨rfl, h⟩
  · exact ⟨p, _, 0, .int a, rfl, ry.int_, .of ho, rfl, q.here ok (.int _) (h a h1)⟩
  · exact ⟨p, _, 1, .int b, rfl, ry.int_, .of ho, rfl, q.here ok (.int _) (h b h2 h3)⟩
end
section
variable {X : Cx} {e e1 e2 f a b c : Expr} {es : List Expr} {rest : List Stmt} {ρ : List Sl} {Φ : D → Prop} {N : List Sl → Prop} {R : D → Prop} {pos p p2 p3 p4 p5 apos cpos : Pos}
theorem ee_pix (h : EE X a ρ fun x => EE X b ρ fun y => PoolAt x y Φ) (hs : PlainIx b := by exact fun _ _ => rfl) : EE X (.Subscript a b pos) ρ Φ := ee_ix ix_list rd_pool h hs
/-- pool[k] = e -/
theorem rr_pset {i : Nat} {x : Str} {k : Int} {j : Nat} (hi : ρ[i]? = some (.va .pool)) (hk : k = 0 ∨ k = 1) (h : EE X e ρ fun d => ∃ v : Int, d = .int v ∧ 0 ≤ v ∧ (k = 1 → v < 2147483647) ∧ RR X rest ρ N R)
    (hN : X.N[i]? = some x := by rfl) (hv : Vis X.env.scope x := by first | exact Or.inl rfl | exact Or.inr (Or.inl rfl) | exact Or.inr (Or.inr rfl)) (hd : (x == ("__debug__" : Str)) = false := by decide) (hcd : (x == ("__classdict__" : Str)) = false := by decide)
    (hs : swapsWithSole [.Subscript (.Name x p) (.Constant (.int k) j p2) p3] e pos.line X.env = pure false := by rfl) (hw : swappedStores [.Subscript (.Name x p) (.Constant (.int k) j p2) p3] e X.env = pure none := by rfl)
    (h1 : (assignEach [.Subscript (.Name x p) (.Constant (.int k) j p2) p3] X.env).map (·.2) = [assign (.Subscript (.Name x p) (.Constant (.int k) j p2) p3) X.env] := by rfl)
    (ha : ∀ v, assign (.Subscript (.Name x p) (.Constant (.int k) j p2) p3) X.env v = (do
      let ov ← holding [v] (eval (.Name x p) X.env)
      let iv ← holding [v, ov] (eval (.Constant (.int k) j p2) X.env)
      standAt p3
      holding [v, ov, iv] (setItem ov iv v); release [v, ov, iv] []) := by intro _; rfl) : RR X (.Assign [.Subscript (.Name x p) (.Constant (.int k) j p2) p3] e pos :: rest) ρ N R := by
  refine rr_seq (ps_asg pe_w (pg_sub (pe_var hN hv hd hcd) pe_int set_list ha) hs hw h1) fun S Hb0 H0 Hb H σ g en D q1 q2 => ?_
  refine h S H0 Hb H σ g.ok en _ fun v d Hb1 H1 g1 r1 p1 => ?_
  obtain ⟨n, rfl, n0, nk, p1⟩ := p1
  have ev := r1.int_
  subst ev
  obtain ⟨v, hσ, r⟩ := (en.grow g1).var hi
  obtain ⟨pa, rfl, e⟩ := r.pool_
  obtain ⟨nn, o, ho, a, b, rfl, k1, k2, k3⟩ := g1.ok.pl pa e
  refine ⟨.ref pa, hσ, ?_⟩
  rcases hk with rfl | rfl
  · refine ⟨pa, _, 0, 0, rfl, rfl, ho, rfl, ?_⟩
    have gd := Grow.draw (o := .lst [.int n, .int b]) g1.ok e ⟨n, b, rfl, n0, k2, k3⟩
    exact q1 _ _ _ _ g1.pub (g.trans (g1.trans gd)) ((en.grow g1).grow gd) p1
  · refine ⟨pa, _, 1, 1, rfl, rfl, ho, rfl, ?_⟩
    have gd := Grow.draw (o := .lst [.int a, .int n]) g1.ok e ⟨a, n, rfl, k1, n0, nk rfl⟩
    exact q1 _ _ _ _ g1.pub (g.trans (g1.trans gd)) ((en.grow g1).grow gd) p1
/-! ### a function that hands out a new pool -/
def PP (X : Cx) (sts : List Stmt) (ρ : List Sl) : Prop := ∀ S Hb0 H0 Hb H σ, Grow S Hb0 H0 Hb H → Sls X.K S H0 Hb H σ ρ → ∀ D : Ends,
  (∀ q a b Hb' H', Grow S Hb0 H0 Hb' H' → H' q = none → 0 ≤ a → 0 ≤ b → b < 2147483647 → D.rt (.ref q) (upd H' q (.lst [.int a, .int b]))) → wS X sts D σ H
theorem pp_set {i : Nat} {x : Str} {p : Pos} (nd : X.N.Nodup) (h : EE X e ρ fun d => PP X rest (ρ.set i (.va d))) (hi : X.N[i]? = some x := by rfl) (hx : Loc X.env.scope x := by first | exact Or.inl rfl | exact Or.inr rfl)
    (hs : swapsWith e (some (.Name x p)) pos.line X.env = pure false := by rfl) (hf : X.fn x = true ∨ X.env.scope.names.lookup x = some .local := by first | exact .inl rfl | exact .inr rfl) : PP X (.Assign [.Name x p] e pos :: rest) ρ := by
  intro S Hb0 H0 Hb H σ g en D q
  refine wS_of (pss_cons (ps_set nd hi hx pe_w hs hf) pss_w) ?_
  refine h S H0 Hb H σ g.ok en _ fun v d Hb' H' k r p => ?_
  exact p S Hb0 H0 Hb' H' _ (g.trans k) ((en.grow k).setV r) D q
theorem pp_ret (h : EE X e1 ρ fun d => ∃ a : Int, d = .int a ∧ 0 ≤ a ∧ EE X e2 ρ fun d => ∃ b : Int, d = .int b ∧ 0 ≤ b ∧ b < 2147483647) (hs1 : starEach [e1, e2] X.env = (false, eval e1 X.env) :: starEach [e2] X.env := by rfl) (hs2 : starEach [e2] X.env = (false, eval e2 X.env) :: starEach [] X.env := by rfl) : PP X (.Return (some (.List [e1, e2] p)) pos :: rest) ρ := by
  intro S Hb0 H0 Hb H σ g en D q
  refine wS_of (pss_cons (ps_ret (pe_lst (pa_cons pe_w (pa_cons pe_w pa_nil hs2) hs1))) pss_w) ?_
  refine h S H0 Hb H σ g.ok en _ fun v d Hb1 H1 g1 r1 p1 => ?_
  obtain ⟨n, rfl, n0, p1⟩ := p1
  refine p1 S H0 Hb1 H1 σ g1.ok (en.grow g1) _ fun v2 d2 Hb2 H2 g2 r2 p2 => ?_
  obtain ⟨m, rfl, m0, m1⟩ := p2
  rw [r1.int_, r2.int_]
  exact ⟨Nat.le_of_ble_eq_true rfl, fun l hl => q l n m Hb2 H2 (g.trans (g1.trans g2)) hl n0 m0 m1⟩
def spPool (K : PySem.W.Frag) (C : List D → Prop) : Sp := fun vs H Q _ => ∃ S Hb ds, Ok S Hb H ∧ RpL K S Hb vs ds ∧ C ds ∧
  ∀ q a b Hb' H', Grow S Hb H Hb' H' → H' q = none → 0 ≤ a → 0 ≤ b → b < 2147483647 → Q (.ref q) (upd H' q (.lst [.int a, .int b]))
structure FnP (P : Program) (w : World) (K : PySem.W.Frag) (mg : Str → Option Value) (base : Heap) (k : Nat) (x : Str) (ps : List Str) (C : List D → Prop) : Prop where
  ex : ∃ f fd, FnOk P w K mg base CX0 k f fd ps (spPool K C) ∧ mg x = some (.ref f) ∧ PySem.W.keepIn K (.ref f) = true ∧ Binds K fd ps []
theorem fn_okP {P : Program} {w : World} {K : PySem.W.Frag} {mg : Str → Option Value} {base : Heap} {x qual : Str} {st : Stmt} {f : Addr} {fd : FuncData} {N ps : List Str} {k : Nat} {C : List D → Prop} (F : Fun K x qual st f fd) (S : FnScope N ps (defScope st)) (len : ∀ ds, C ds → ds.length = ps.length)
    (hb : ∀ (cdv : Value) (A : Around) (outer : List PySem.Env) (s : Shared) (H : Hp) (E : XK) (ds : List D), Room k (BX P w K mg base N qual (defScope st) f cdv A outer s H E).A → C ds →
      PP (BX P w K mg base N qual (defScope st) f cdv A outer s H E) (defBody st) (slots N ds)) : FnOk P w K mg base CX0 (k + 1) f fd ps (spPool K C) := by
  refine F.ok S (fun vs H Q E h => ?_) (fun cdv A outer s H vs Q E hr h => ?_)
  · obtain ⟨S, Hb, ds, _, r, c, _⟩ := h
    rw [r.len]
    exact len ds c
  · obtain ⟨S', Hb, ds, ok, r, c, q⟩ := h
    refine ⟨_, pss_w, ?_⟩
    exact hb cdv A outer s H E ds hr c S' Hb H Hb H (start N vs) (.refl ok) (slots_ok ok r) _ q
/-! ### a new pool is taken -/
def isFl : D → Bool
  | .non => true
  | .bl _ => true
  | .int _ => true
  | .str _ => true
  | _ => false
def keepSl : Sl → Sl
  | .va (.non) => .va .non
  | .va (.bl b) => .va (.bl b)
  | .va (.int b) => .va (.int b)
  | .va (.str b) => .va (.str b)
  | .va (.flst ds) => if ds.all isFl then .va (.flst ds) else .un
  | _ => .un
theorem rpl_sw {K : PySem.W.Frag} {S S' : Option Addr} {Hb : Hp} : ∀ {ds : List D} {vs : List V}, ds.all isFl = true → RpL K S Hb vs ds → RpL K S' Hb vs ds := by
  intro ds
  induction ds with
  | nil =>
    intro vs h r
    cases r
    exact .nil
  | cons d ds ih =>
    intro vs h r
    rw [List.all_cons] at h
    rw [Bool.and_eq_true] at h
    cases r with
    | cons r t =>
      refine .cons ?_ (ih h.2 t)
      have h1 := h.1
      cases r with
      | non => exact .non
      | bl b => exact .bl b
      | int i => exact .int i
      | str z => exact .str z
      | _ => cases h1
theorem keep_ok {K : PySem.W.Frag} {S S' : Option Addr} {H0 H0' Hb H H' : Hp} {o : Option V} {s : Sl} (k : SlOk K S H0 Hb H o s) : SlOk K S' H0' Hb H' o (keepSl s) := by
  unfold keepSl
  split
  · obtain ⟨v, rfl, r⟩ := k; cases r; exact ⟨_, rfl, .non⟩
  · obtain ⟨v, rfl, r⟩ := k; cases r; exact ⟨_, rfl, .bl _⟩
  · obtain ⟨v, rfl, r⟩ := k; cases r; exact ⟨_, rfl, .int _⟩
  · obtain ⟨v, rfl, r⟩ := k; cases r; exact ⟨_, rfl, .str _⟩
  · split
    · rename_i h
      obtain ⟨v, rfl, r⟩ := k
      obtain ⟨a, xs, rfl, ha, ra⟩ := r.flst_
      exact ⟨_, rfl, .flst ha (rpl_sw h ra)⟩
    · exact True.intro
  · exact True.intro
theorem keep_own (s : Sl) : ¬ (keepSl s).own := by
  unfold keepSl
  split <;> first | exact id | (split <;> exact id)
theorem Sls.keep {K : PySem.W.Frag} {S S' : Option Addr} {H0 H0' Hb H H' : Hp} {σ : L2.St} {ρ : List Sl} (en : Sls K S H0 Hb H σ ρ) (ent : ∀ p, S' = some p → ∃ o, H0' p = some o) : Sls K S' H0' Hb H' σ (ρ.map keepSl) := by
  refine ⟨by rw [List.length_map]; exact en.len, fun i s o h1 h2 => ?_, fun i j s t p h1 _ h3 _ _ _ => ?_, ent⟩
  · rw [List.getElem?_map] at h1
    cases e : ρ[i]? with
    | none => rw [e] at h1; cases h1
    | some s0 =>
      rw [e] at h1
      cases h1
      exact keep_ok (en.at_ i s0 o e h2)
  · rw [List.getElem?_map] at h1
    cases e : ρ[i]? with
    | none => rw [e] at h1; cases h1
    | some s0 =>
      rw [e] at h1
      cases h1
      exact absurd h3 (keep_own s0)
theorem Grow.back {S : Option Addr} {q : Addr} {Hb0 H0 Hb1 H1 Hb2 H2 : Hp} {o : HO} (g : Grow S Hb0 H0 Hb1 H1) (hq : H1 q = none) (k : Grow (some q) Hb1 (upd H1 q o) Hb2 H2) : Grow S Hb0 H0 Hb2 H2 := by
  have h0 : H0 q = none := g.old hq
  have ne : ∀ a z, H1 a = some z → (some q : Option Addr) ≠ some a := fun a z e c => by
    cases c
    rw [hq] at e
    cases e
  have k1 : ∀ a z, H1 a = some z → H2 a = some z := fun a z e => k.prv a z (by rw [upd_ne (ne_of_none e hq)]; exact e) (ne a z e)
  have k2 : ∀ a z, H1 a = some z → Hb1 a = none → Hb2 a = none := fun a z e n => k.sep a z (by rw [upd_ne (ne_of_none e hq)]; exact e) n
  refine ⟨g.ok0, ⟨k.ok.ex, fun p' e => ?_⟩, g.pub.trans k.pub, fun a z e n => k1 a z (g.prv a z e n), fun a z e n => ?_⟩
  · obtain ⟨n, z, h1, h2⟩ := g.ok.pl p' e
    exact ⟨k2 _ _ h1 n, z, k1 _ _ h1, h2⟩
  · by_cases c : S = some a
    · obtain ⟨n, z, h1, h2⟩ := g.ok.pl a c
      exact k2 _ _ h1 n
    · exact k2 _ _ (g.prv a z e c) (g.sep a z e n)
theorem rr_pool {k j i : Nat} {x nm : Str} {ps : List Str} {C : List D → Prop} (nd : X.N.Nodup) (c : FnP X.prog X.w X.K X.mg X.base k nm ps C) (hr : Room j X.A) (hk : k ≤ j)
    (h : AA X (e :: es) ρ fun ds => C ds ∧ RR X rest ((ρ.map keepSl).set i (.va .pool)) (fun ρ' => N (ρ'.map keepSl)) (fun d => isFl d = true ∧ R d))
    (hi : X.N[i]? = some x := by rfl) (hx : Loc X.env.scope x := by first | exact Or.inl rfl | exact Or.inr rfl)
    (hs : swapsWith (.Call (.Name nm p2) (e :: es) [] p3) (some (.Name x p)) pos.line X.env = pure false := by rfl) (hf : X.fn x = true ∨ X.env.scope.names.lookup x = some .local := by first | exact .inl rfl | exact .inr rfl)
    (hg : Gl X nm := by rfl) (hdb : (nm == ("__debug__" : Str)) = false := by decide)
    (he : starEach (e :: es) X.env = (false, eval e X.env) :: starEach es X.env := by rfl) (hpl : (backTo p3 (starEach es X.env)).any (·.1) = false := by rfl) : RR X (.Assign [.Name x p] (.Call (.Name nm p2) (e :: es) [] p3) pos :: rest) ρ N R := by
  intro S Hb0 H0 Hb H σ g en D q1 q2
  obtain ⟨f, fd, F, hm, kp, hb⟩ := c.ex
  refine wS_of (pss_cons (ps_set nd hi hx (pe_call F (hr.mono hk) hg hm kp hb .nil pass0 pa_w hdb he hpl) hs hf) pss_w) ?_
  refine h S H0 Hb H σ g.ok en _ fun vs ds Hb1 H1 g1 r1 p1 => ?_
  obtain ⟨c1, p1⟩ := p1
  show spPool X.K C (vs ++ []) H1 _ E0
  rw [List.append_nil]
  refine ⟨S, Hb1, ds, g1.ok, r1, c1, fun q a b Hb2 H2 g2 hq a0 b0 b1 => ?_⟩
  have gg := g.trans (g1.trans g2)
  have okS : Ok (some q) Hb2 (upd H2 q (.lst [.int a, .int b])) := by
    refine ⟨fun b' z e => ?_, fun p' e => ?_⟩
    · rw [upd_ne (ne_of_none (g2.ok.ex b' z e) hq)]
      exact g2.ok.ex b' z e
    · cases e
      exact ⟨g2.ok.base hq, _, upd_same, a, b, rfl, a0, b0, b1⟩
  have en2 : Sls X.K (some q) (upd H2 q (.lst [.int a, .int b])) Hb2 (upd H2 q (.lst [.int a, .int b])) (σ.set i (some (.ref q))) ((ρ.map keepSl).set i (.va .pool)) :=
    ((en.grow (g1.trans g2)).keep (H' := upd H2 q (.lst [.int a, .int b])) (fun p' e => by cases e; exact ⟨_, upd_same⟩)).setV (.pool rfl)
  refine p1 (some q) _ _ _ _ _ (.refl okS) en2 D (fun σ' ρ' Hb' H' sm g' en' n => ?_) fun v d Hb' H' g' r ⟨fl, p⟩ => ?_
  · exact q1 σ' _ Hb' H' ((g1.trans g2).pub.trans sm) (gg.back hq g') (en'.keep en.ent) n
  · refine q2 v d Hb' H' (gg.back hq g') ?_ p
    cases r with
    | non => exact .non
    | bl b => exact .bl b
    | int i => exact .int i
    | str z => exact .str z
    | _ => cases fl
/-! ### less is known -/
inductive Wk : List Sl → List Sl → Prop
  | nil : Wk [] []
  | same {s : Sl} {ρ ρ' : List Sl} : Wk ρ ρ' → Wk (s :: ρ) (s :: ρ')
  | un {s : Sl} {ρ ρ' : List Sl} : Wk ρ ρ' → Wk (s :: ρ) (.un :: ρ')
theorem Wk.len : ∀ {ρ ρ' : List Sl}, Wk ρ ρ' → ρ.length = ρ'.length
  | _, _, .nil => rfl
  | _, _, .same h => congrArg Nat.succ h.len
  | _, _, .un h => congrArg Nat.succ h.len
theorem Wk.at_ {ρ ρ' : List Sl} (w : Wk ρ ρ') : ∀ (i : Nat) (s : Sl), ρ'[i]? = some s → s = .un ∨ ρ[i]? = some s := by
  induction w with
  | nil =>
    intro i s h
    simp at h
  | same h ih =>
    intro i s e
    cases i with
    | zero => exact .inr e
    | succ i => simpa using ih i s (by simpa using e)
  | un h ih =>
    intro i s e
    cases i with
    | zero => exact .inl (by simpa using e.symm)
    | succ i => simpa using ih i s (by simpa using e)
theorem Sls.wk {K : PySem.W.Frag} {S : Option Addr} {H0 Hb H : Hp} {σ : L2.St} {ρ ρ' : List Sl} (en : Sls K S H0 Hb H σ ρ) (w : Wk ρ ρ') : Sls K S H0 Hb H σ ρ' := by
  refine ⟨en.len.trans w.len, fun i s o h1 h2 => ?_, fun i j s t p h1 h2 h3 h4 => ?_, en.ent⟩
  · rcases w.at_ i s h1 with rfl | h
    · exact True.intro
    · exact en.at_ i s o h h2
  · rcases w.at_ i s h1 with rfl | h
    · exact h3.elim
    · rcases w.at_ j t h2 with rfl | k
      · exact h4.elim
      · exact en.sep i j s t p h k h3 h4
theorem rr_wk {sts : List Stmt} {ρ' : List Sl} (w : Wk ρ ρ') (h : RR X sts ρ' N R) : RR X sts ρ N R := fun S Hb0 H0 Hb H σ g en D q1 q2 => h S Hb0 H0 Hb H σ g (en.wk w) D q1 q2
end
end Lg
namespace Lg
open L2 PyProof.Rows PySem PySem.Spec
section
variable {X : Cx} {e e1 e2 f elt a b c o : Expr} {es : List Expr} {rest : List Stmt} {ρ : List Sl} {Φ : D → Prop} {N : List Sl → Prop} {R : D → Prop} {pos p p2 p3 p4 p5 apos cpos : Pos}
/-- d.get(e, f), d one's own -/
theorem ee_get2O {i : Nat} {x : Str} {kvs : List (Str × D)} (hu : X.A.units + 1 < cLine) (hi : ρ[i]? = some (.owd kvs)) (h : EE X e ρ fun y => EE X f ρ fun w => ∃ z, y = .str z ∧ Φ ((dget kvs z).getD w)) (hN : X.N[i]? = some x := by rfl) (hv : Vis X.env.scope x := by first | exact Or.inl rfl | exact Or.inr (Or.inl rfl) | exact Or.inr (Or.inr rfl))
    (hd : (x == ("__debug__" : Str)) = false := by decide) (hcd : (x == ("__classdict__" : Str)) = false := by decide) (hm : M2 X (.Name x p) "get" apos e f pos := by exact ⟨rfl, rfl, rfl, rfl⟩) : EE X (.Call (.Attribute (.Name x p) "get" apos) [e, f] [] pos) ρ Φ := by
  intro S H0 Hb H σ ok en Q q
  refine wE_of (pe_dget2 hu (pe_var hN hv hd hcd) pe_w pe_w hm) ?_
  obtain ⟨q0, xs, hσ, h0, hb, hp, r⟩ := en.owd hi
  refine ⟨.ref q0, hσ, q0, rfl, .inl ⟨_, .inl hp⟩, ?_⟩
  refine h S H0 Hb H σ ok en _ fun y dy Hb2 H2 g2 r2 hy => ?_
  refine hy S H0 Hb2 H2 σ g2.ok (en.grow g2) _ fun w dw Hb3 H3 g3 r3 hw => ?_
  obtain ⟨z, rfl, p⟩ := hw
  have ey := r2.str_
  subst ey
  obtain ⟨q1, xs', hσ', h0', hb', hp', r'⟩ := (en.grow (g2.trans g3)).owd hi
  have eq : q1 = q0 := by
    rw [hσ] at hσ'
    cases hσ'
    rfl
  subst eq
  refine ⟨_, DGet.k (k := Sum.inr z) hp', ?_⟩
  rcases r'.val z with ⟨v, d, h1, h2, h3⟩ | ⟨h1, h2⟩
  · rw [h1]
    rw [h2] at p
    exact q _ _ _ _ (g2.trans g3) h3 p
  · rw [h1]
    rw [h2] at p
    exact q _ _ _ _ (g2.trans g3) r3 p
/-- x, y = [dict(z) for z in t], t a tuple of two dicts -/
theorem rr_two {i j l st kt : Nat} {x y z sn : Str} {px py pt pz pst : Pos} {scope : Scope} {d1 d2 : List (Str × D)} (nd : X.N.Nodup) (hij : i ≠ j) (hli : l ≠ i) (hlj : l ≠ j) (hll : l < ρ.length) (hst : ρ[st]? = some (.va (.tup [.dct d1, .dct d2]))) (ok : BlkOk X.N X.env.scope scope [(z, l)])
    (h : RR X rest ((ρ.set i (.owd d1)).set j (.owd d2)) N R)
    (he : ∀ (s : Shared) (H : Hp) (C : Addr) (cl : List (Str × Addr)) (fp : List Addr), PE (Blk X scope s H C cl fp) elt (tCB (fun xs H Q => ∃ (a : Addr) (kvs : List (Key × V)), xs = [.ref a] ∧ Rd H a (.dK kvs) ∧ ∀ p, H p = none → Q (.ref p) (upd H p (.dK kvs))) (tCons (tVar l) tNil)))
    (hg : ∀ (s : Shared) (H : Hp) (C : Addr) (cl : List (Str × Addr)) (fp : List Addr), PG (X.blk s H scope (compEnvC scope cl C X.env) fp) (.Name z pz) (gName l))
    (hi : X.N[i]? = some x := by rfl) (hx : Loc X.env.scope x := by first | exact Or.inl rfl | exact Or.inr rfl) (hf : X.fn x = true ∨ X.env.scope.names.lookup x = some .local := by first | exact .inl rfl | exact .inr rfl)
    (hj : X.N[j]? = some y := by rfl) (hy : Loc X.env.scope y := by first | exact Or.inl rfl | exact Or.inr rfl) (hfy : X.fn y = true ∨ X.env.scope.names.lookup y = some .local := by first | exact .inl rfl | exact .inr rfl)
    (hN : X.N[st]? = some sn := by rfl) (hv : Vis X.env.scope sn := by first | exact Or.inl rfl | exact Or.inr (Or.inl rfl) | exact Or.inr (Or.inr rfl)) (hd : (sn == ("__debug__" : Str)) = false := by decide) (hcd : (sn == ("__classdict__" : Str)) = false := by decide)
    (hc : X.calm = true := by rfl) (hs' : ∀ x, foldedSetIterable (.Name sn pst) X.env x = pure x := by intro _; rfl)
    (hs : swapsWithSole [.Tuple [.Name x px, .Name y py] kt pt] (.ListComp elt [⟨.Name z pz, .Name sn pst, [], 0⟩] scope p2) pos.line X.env = pure false := by rfl) (hw : swappedStores [.Tuple [.Name x px, .Name y py] kt pt] (.ListComp elt [⟨.Name z pz, .Name sn pst, [], 0⟩] scope p2) X.env = pure none := by rfl) :
    RR X (.Assign [.Tuple [.Name x px, .Name y py] kt pt] (.ListComp elt [⟨.Name z pz, .Name sn pst, [], 0⟩] scope p2) pos :: rest) ρ N R := by
  refine rr_seq (ps_asg (pe_lc hc nd (pi_tup (pe_var hN hv hd hcd)) ok hg (fun s H C cl fp => pts_nil) he hs') (pg_unl (n := 2) hc (pgs_cons (pg_name nd hi hx hf) (pgs_cons (pg_name nd hj hy hfy) pgs_nil))) hs hw) fun S Hb0 H0 Hb H σ g en D q1 q2 => ?_
  obtain ⟨v, hσ, rv⟩ := en.var hst
  obtain ⟨ad, xs, rfl, ha, ra⟩ := rv.tup_
  obtain ⟨v1, v2, rfl, r1, r2⟩ := rdc_len2 ra
  obtain ⟨a1, xs1, rfl, h1, k1⟩ := r1.dct_
  obtain ⟨a2, xs2, rfl, h2, k2⟩ := r2.dct_
  refine ⟨.ref ad, hσ, ad, rfl, ⟨_, same_t g.ok.ex ha⟩, fun Dl hD => ?_⟩
  have okH := g.ok
  have tup : ∀ {H2 : Hp}, Ok S Hb H2 → SqT X.K H2 ad [.ref a1, .ref a2] := fun k => same_t k.ex ha
  have lw : l < σ.length := by
    rw [en.len]
    exact hll
  have lv : ∀ o : Option V, (((wipe σ [l]).set l o) : L2.St)[l]? = some o := fun o => by
    show ((σ.set l none).set l o)[l]? = some o
    rw [List.getElem?_set_self (by rw [List.length_set]; exact lw)]
  refine ⟨fun m' m H2 => m = 2 - m' ∧ Grow S Hb H Hb H2 ∧ ((m' = 0 ∧ H2 Dl = some (.lst [])) ∨ (m' = 1 ∧ ∃ q1, H q1 = none ∧ q1 ≠ Dl ∧ H2 q1 = some (.dK xs1) ∧ H2 Dl = some (.lst [.ref q1])) ∨
    (m' = 2 ∧ ∃ q1 q2, H q1 = none ∧ H q2 = none ∧ q1 ≠ Dl ∧ q2 ≠ Dl ∧ q1 ≠ q2 ∧ H2 q1 = some (.dK xs1) ∧ H2 q2 = some (.dK xs2) ∧ H2 Dl = some (.lst [.ref q1, .ref q2]))), ⟨2, rfl, .hid okH hD, .inl ⟨rfl, upd_same⟩⟩, ?_⟩
  rintro m' m H2 ⟨rfl, g2, w⟩
  have nS : S ≠ some Dl := okH.ne hD
  have bD : Hb Dl = none := okH.base hD
  rcases w with ⟨rfl, hl⟩ | ⟨rfl, q, hq, nq, e1, hl⟩ | ⟨rfl, qa, qb, hqa, hqb, na, nb, nab, ea, eb, hl⟩
  · refine .inr ⟨⟨_, .ref a1, tup g2.ok, rfl⟩, fun H' => Grow S Hb H Hb H' ∧ ∃ q1, H q1 = none ∧ q1 ≠ Dl ∧ H' q1 = some (.dK xs1) ∧ H' Dl = some (.lst [.ref q1]), fun H' z => ⟨1, by decide, rfl, z.1, .inr (.inl ⟨rfl, z.2⟩)⟩, fun v H' y => ?_⟩
    obtain ⟨rfl, y⟩ := y
    have ev := y _ (tup g2.ok)
    cases ev
    refine ⟨lc_set, ?_⟩
    unfold L2.tYes
    dsimp only
    rw [if_pos rfl]
    refine ⟨.ref a1, lv _, ?_⟩
    refine ⟨a1, xs1, rfl, .inl (g2.ok.ex _ _ h1), fun q hq => ?_⟩
    have nq : q ≠ Dl := fun c => by rw [c, hl] at hq; cases hq
    have hq0 : H q = none := g2.old hq
    have g3 : Grow S Hb H' Hb (upd H' q (.dK xs1)) := .hid g2.ok hq
    refine ⟨[], by rw [upd_ne (Ne.symm nq)]; exact hl, by show 0 < sizeLine; rw [sizeLine_eq]; omega, (g2.trans g3).mut hD bD, q, hq0, nq, ?_, upd_same⟩
    rw [upd_ne nq, upd_same]
  · refine .inr ⟨⟨_, .ref a2, tup g2.ok, rfl⟩, fun H' => Grow S Hb H Hb H' ∧ ∃ q1 q2, H q1 = none ∧ H q2 = none ∧ q1 ≠ Dl ∧ q2 ≠ Dl ∧ q1 ≠ q2 ∧ H' q1 = some (.dK xs1) ∧ H' q2 = some (.dK xs2) ∧ H' Dl = some (.lst [.ref q1, .ref q2]), fun H' z => ⟨0, by decide, rfl, z.1, .inr (.inr ⟨rfl, z.2⟩)⟩, fun v H' y => ?_⟩
    obtain ⟨rfl, y⟩ := y
    have ev := y _ (tup g2.ok)
    cases ev
    refine ⟨lc_set, ?_⟩
    unfold L2.tYes
    dsimp only
    rw [if_pos rfl]
    refine ⟨.ref a2, lv _, ?_⟩
    refine ⟨a2, xs2, rfl, .inl (g2.ok.ex _ _ h2), fun q' hq' => ?_⟩
    have nq' : q' ≠ Dl := fun c => by rw [c, hl] at hq'; cases hq'
    have nqq : q ≠ q' := fun c => by rw [← c, e1] at hq'; cases hq'
    have hq0 : H q' = none := g2.old hq'
    have g3 : Grow S Hb H' Hb (upd H' q' (.dK xs2)) := .hid g2.ok hq'
    refine ⟨[.ref q], by rw [upd_ne (Ne.symm nq')]; exact hl, by show 1 < sizeLine; rw [sizeLine_eq]; omega, (g2.trans g3).mut hD bD, q, q', hq, hq0, nq, nq', nqq, ?_, ?_, upd_same⟩
    · rw [upd_ne nq, upd_ne nqq]
      exact e1
    · rw [upd_ne nq', upd_same]
  · refine .inl ⟨⟨_, tup g2.ok, Nat.le_refl _⟩, Dl, _, rfl, .of hl, rfl, .ref qa, [.ref qb], rfl, .ref qb, [], rfl, rfl, ?_⟩
    refine q1 _ _ Hb H2 (Same.refl _) (g.trans g2) ?_ h
    have ga := g.old hqa
    have gb := g.old hqb
    have s1 := (en.grow g2).set (i := i) (.mkD ga (okH.base hqa) ea k1) fun _ j' p' t _ a b c => en.fresh hqa j' p' t a b c
    refine s1.set (i := j) (.mkD gb (okH.base hqb) eb k2) fun _ j' p' t nj a b c d => ?_
    cases a
    by_cases ci : i = j'
    · subst ci
      by_cases cl : i < σ.length
      · rw [List.getElem?_set_self cl] at d
        cases d
        exact nab rfl
      · rw [List.getElem?_eq_none (by rw [List.length_set]; omega)] at d
        cases d
    · rw [List.getElem?_set_ne ci] at b d
      exact en.fresh hqb j' _ t rfl b c d
/-! ### return f(d, s, a) where s is one's own and handed over -/
def spO (K : PySem.W.Frag) (C : List (Str × D) → List (Str × D) → Str → (D → Prop) → Prop) : Sp := fun vs H Q _ => ∃ S Hb0 H0 Hb n kvs z vn q xs Φ, Grow S Hb0 H0 Hb H ∧ vs = [vn, .ref q, .str z] ∧ Rp K S Hb vn (.dct n) ∧ H0 q = none ∧ Hb q = none ∧ H q = some (.dK xs) ∧ RpK K S Hb xs kvs ∧ C n kvs z Φ ∧ (∀ p, S = some p → ∃ o, H0 p = some o) ∧
  ∀ v d Hb' H', Grow S Hb0 H0 Hb' H' → Rp K S Hb' v d → Φ d → Q v H'
structure FnO (P : Program) (w : World) (K : PySem.W.Frag) (mg : Str → Option Value) (base : Heap) (k : Nat) (x : Str) (ps : List Str) (C : List (Str × D) → List (Str × D) → Str → (D → Prop) → Prop) : Prop where
  ex : ∃ f fd, FnOk P w K mg base CX0 k f fd ps (spO K C) ∧ mg x = some (.ref f) ∧ PySem.W.keepIn K (.ref f) = true ∧ Binds K fd ps []
theorem rr_retO {k m i j l : Nat} {nm x y z : Str} {ps : List Str} {C : List (Str × D) → List (Str × D) → Str → (D → Prop) → Prop} {n s : List (Str × D)} {w : Str} (c : FnO X.prog X.w X.K X.mg X.base k nm ps C) (hr : Room m X.A) (hk : k ≤ m)
    (hi : ρ[i]? = some (.va (.dct n))) (hj : ρ[j]? = some (.owd s)) (hl : ρ[l]? = some (.va (.str w))) (h : C n s w R)
    (h1 : X.N[i]? = some x := by rfl) (v1 : Vis X.env.scope x := by first | exact Or.inl rfl | exact Or.inr (Or.inl rfl) | exact Or.inr (Or.inr rfl)) (b1 : (x == ("__debug__" : Str)) = false := by decide) (c1 : (x == ("__classdict__" : Str)) = false := by decide)
    (h2 : X.N[j]? = some y := by rfl) (v2 : Vis X.env.scope y := by first | exact Or.inl rfl | exact Or.inr (Or.inl rfl) | exact Or.inr (Or.inr rfl)) (b2 : (y == ("__debug__" : Str)) = false := by decide) (c2 : (y == ("__classdict__" : Str)) = false := by decide)
    (h3 : X.N[l]? = some z := by rfl) (v3 : Vis X.env.scope z := by first | exact Or.inl rfl | exact Or.inr (Or.inl rfl) | exact Or.inr (Or.inr rfl)) (b3 : (z == ("__debug__" : Str)) = false := by decide) (c3 : (z == ("__classdict__" : Str)) = false := by decide)
    (hg : Gl X nm := by rfl) (hdb : (nm == ("__debug__" : Str)) = false := by decide)
    (he : starEach [.Name x p2, .Name y p3, .Name z p4] X.env = (false, eval (.Name x p2) X.env) :: starEach [.Name y p3, .Name z p4] X.env := by rfl) (he2 : starEach [.Name y p3, .Name z p4] X.env = (false, eval (.Name y p3) X.env) :: starEach [.Name z p4] X.env := by rfl)
    (he3 : starEach [.Name z p4] X.env = (false, eval (.Name z p4) X.env) :: starEach [] X.env := by rfl)
    (hpl : (backTo p5 (starEach [.Name y p3, .Name z p4] X.env)).any (·.1) = false := by rfl) : RR X (.Return (some (.Call (.Name nm p) [.Name x p2, .Name y p3, .Name z p4] [] p5)) pos :: rest) ρ N R := by
  obtain ⟨f, fd, F, hm, kp, hb⟩ := c.ex
  refine rr_seq (ps_ret (pe_call F (hr.mono hk) hg hm kp hb .nil pass0 (pa_cons (pe_var h1 v1 b1 c1) (pa_cons (pe_var h2 v2 b2 c2) (pa_cons (pe_var h3 v3 b3 c3) pa_nil he3) he2) he) hdb he hpl)) fun S Hb0 H0 Hb H σ g en D q1 q2 => ?_
  obtain ⟨va, ea, ra⟩ := en.var hi
  obtain ⟨vb, eb, rb⟩ := en.var hl
  obtain ⟨q, xs, hσ, a0, ab, aq, r⟩ := en.owd hj
  have e2 := rb.str_
  subst e2
  refine ⟨va, ea, .ref q, hσ, .str w, eb, ?_⟩
  exact ⟨S, Hb0, H0, Hb, n, s, w, va, q, xs, R, g, rfl, ra, a0, ab, aq, r, h, en.ent, fun v d Hb' H' g' r' p' => q2 v d Hb' H' g' r' p'⟩
theorem fn_okO {P : Program} {w : World} {K : PySem.W.Frag} {mg : Str → Option Value} {base : Heap} {x qual : Str} {st : Stmt} {f : Addr} {fd : FuncData} {N ps : List Str} {k m : Nat} {C : List (Str × D) → List (Str × D) → Str → (D → Prop) → Prop} (F : Fun K x qual st f fd) (S : FnScope N ps (defScope st)) (len : ps.length = 3) (hm : N.length = 3 + m)
    (hb : ∀ (cdv : Value) (A : Around) (outer : List PySem.Env) (s : Shared) (H : Hp) (E : XK) (n kvs : List (Str × D)) (z : Str) (Φ : D → Prop), Room k (BX P w K mg base N qual (defScope st) f cdv A outer s H E).A → C n kvs z Φ →
      RR (BX P w K mg base N qual (defScope st) f cdv A outer s H E) (defBody st) (.va (.dct n) :: .owd kvs :: .va (.str z) :: List.replicate m .un) (fun _ => Φ .non) Φ) : FnOk P w K mg base CX0 (k + 1) f fd ps (spO K C) := by
  refine F.ok S (fun vs H Q E h => ?_) (fun cdv A outer s H vs Q E hr h => ?_)
  · obtain ⟨S, Hb0, H0, Hb, n, kvs, z, vn, q, xs, Φ, _, rfl, _⟩ := h
    rw [len]
    rfl
  · obtain ⟨S', Hb0, H0, Hb, n, kvs, z, vn, q, xs, Φ, g, rfl, rn, a0, ab, aq, r, c, ent, qq⟩ := h
    refine ⟨_, pss_w, ?_⟩
    have e : start N [vn, .ref q, .str z] = some vn :: some (.ref q) :: some (.str z) :: List.replicate m none := by
      unfold L2.start
      rw [hm]
      show some vn :: some (V.ref q) :: some (V.str z) :: List.replicate (3 + m - 3) none = _
      rw [Nat.add_sub_cancel_left]
    rw [e]
    refine hb cdv A outer s H E n kvs z Φ hr c S' Hb0 H0 Hb H _ g ⟨by simp, fun i s o h1 h2 => ?_, fun i j s t p h1 h2 h3 h4 h5 h6 => ?_, ent⟩ _ (fun σ' ρ' Hb' H' _ g en n => ?_) fun v d Hb' H' g r p => ?_
    · match i with
      | 0 => cases h1; cases h2; exact ⟨_, rfl, rn⟩
      | 1 => cases h1; cases h2; exact ⟨q, xs, rfl, a0, ab, aq, r⟩
      | 2 => cases h1; cases h2; exact ⟨_, rfl, .str z⟩
      | i + 3 =>
        have h1 : (List.replicate m Sl.un)[i]? = some s := by simpa using h1
        rw [List.getElem?_replicate] at h1
        split at h1
        · cases h1; exact True.intro
        · cases h1
    · have own : ∀ (i : Nat) (s : Sl), (Sl.va (.dct n) :: .owd kvs :: .va (.str z) :: List.replicate m .un)[i]? = some s → s.own → i = 1 := by
        intro i s h o
        match i with
        | 0 => cases h; exact o.elim
        | 1 => rfl
        | 2 => cases h; exact o.elim
        | i + 3 =>
          have h1 : (List.replicate m Sl.un)[i]? = some s := by simpa using h
          rw [List.getElem?_replicate] at h1
          split at h1
          · cases h1; exact o.elim
          · cases h1
      rw [own i s h1 h3, own j t h2 h4]
    · exact qq .non .non Hb' H' g .non n
    · exact qq v d Hb' H' g r p
end
end Lg
namespace Lg
open L2 PyProof.Rows PySem PySem.Spec
/-! ### the text by places -/
def topS (i : Nat) : Stmt := PySem.Challenge.pw_watchednodes_k20_whole_rows_and_their_be.main.body.getD i (.Pass ⟨0, 0, 0, 0⟩)
/-- what the module's names hold -/
structure Glb (K : PySem.W.Frag) (mg : Str → Option Value) : Prop where
  letters : Cst K mg "LETTERS" (.str "abcdefghijklmnopqrstuvwxyz")
  figures : Cst K mg "FIGURES" (.str "0123456789")
  longest : Cst K mg "LONGEST" (.int 8)
  mparts : Cst K mg "MOST_PARTS" (.int 5)
  manyf : Cst K mg "MANY_FIGURES" (.int 6)
  root : Cst K mg "ROOT" (.str "/")
  nowhere : Cst K mg "NOWHERE" (.tup [.int 0, .int 0])
  mnodes : Cst K mg "MOST_NODES" (.int 60)
  mmade : Cst K mg "MOST_MADE" (.int 999999)
  mtext : Cst K mg "MOST_TEXT" (.int 40)
  mdeeds : Cst K mg "MOST_DEEDS" (.int 6)
  mlimit : Cst K mg "MOST_LIMIT" (.int 1000)
  okc : Cst K mg "OK" (.tup [.str "ok", .non])
  never : Cst K mg "NEVER" (.tup [.non, .int 0, .non, .tup [.int 0, .int 0]])
  zIsi : mg "isinstance" = none
  zInt : mg "int" = none
  zBool : mg "bool" = none
  zStr : mg "str" = none
  zTup : mg "tuple" = none
  zList : mg "list" = none
  zDict : mg "dict" = none
  zLen : mg "len" = none
  zAll : mg "all" = none
  zRange : mg "range" = none
  zEnum : mg "enumerate" = none
  zSorted : mg "sorted" = none
  zAbs : mg "abs" = none
  zMax : mg "max" = none
  zMin : mg "min" = none
  zRepr : mg "repr" = none
section
variable {X : Cx} {e a b c : Expr} {es : List Expr} {ρ : List Sl} {Φ : D → Prop} {Ψ : Bool → Prop} {pos p p2 : Pos}
/-! ### isinstance, by data -/
theorem kb_ii : kitB "int" "int" = some true := by decide +kernel
theorem kb_ib : kitB "int" "bool" = some false := by decide +kernel
theorem kb_bb : kitB "bool" "bool" = some true := by decide +kernel
theorem kb_ss : kitB "str" "str" = some true := by decide +kernel
theorem kb_tt : kitB "tuple" "tuple" = some true := by decide +kernel
theorem kb_ll : kitB "list" "list" = some true := by decide +kernel
theorem bt_int : bootBuiltins "int" = some (.type "int") := by decide +kernel
theorem bt_bool : bootBuiltins "bool" = some (.type "bool") := by decide +kernel
theorem bt_str : bootBuiltins "str" = some (.type "str") := by decide +kernel
theorem bt_tup : bootBuiltins "tuple" = some (.type "tuple") := by decide +kernel
theorem bt_list : bootBuiltins "list" = some (.type "list") := by decide +kernel
theorem bt_dict : bootBuiltins "dict" = some (.type "dict") := by decide +kernel
def isIntD : D → Option Bool
  | .int _ => some true
  | _ => none
def isBoolD : D → Option Bool
  | .bl _ => some true
  | .int _ => some false
  | _ => none
def isStrD : D → Option Bool
  | .str _ => some true
  | _ => none
def isTupD : D → Option Bool
  | .tup _ => some true
  | _ => none
def isListD : D → Option Bool
  | .lst _ => some true
  | _ => none
section
variable (hm : X.mg "isinstance" = none)
include hm
theorem ee_isInt (hT : X.mg "int" = none) (h : EE X e ρ fun d => ∃ b, isIntD d = some b ∧ Φ (.bl b)) (hg : Gl X "isinstance" := by rfl) (hgT : Gl X "int" := by rfl)
    (he : starEach [e, .Name "int" p2] X.env = (false, eval e X.env) :: starEach [.Name "int" p2] X.env := by rfl) (hpl : (backTo pos (starEach [.Name "int" p2] X.env)).any (·.1) = false := by rfl) : EE X (.Call (.Name "isinstance" p) [e, .Name "int" p2] [] pos) ρ Φ := by
  refine ee_isi hm hT bt_int (ee_mono h fun d ⟨b, e, f⟩ => ?_) hg hgT (by decide) (by decide) he hpl
  unfold isIntD at e
  split at e
  · cases e; exact ⟨rfl, _, kb_ii, f⟩
  · cases e
theorem ee_isBool (hT : X.mg "bool" = none) (h : EE X e ρ fun d => ∃ b, isBoolD d = some b ∧ Φ (.bl b)) (hg : Gl X "isinstance" := by rfl) (hgT : Gl X "bool" := by rfl)
    (he : starEach [e, .Name "bool" p2] X.env = (false, eval e X.env) :: starEach [.Name "bool" p2] X.env := by rfl) (hpl : (backTo pos (starEach [.Name "bool" p2] X.env)).any (·.1) = false := by rfl) : EE X (.Call (.Name "isinstance" p) [e, .Name "bool" p2] [] pos) ρ Φ := by
  refine ee_isi hm hT bt_bool (ee_mono h fun d ⟨b, e, f⟩ => ?_) hg hgT (by decide) (by decide) he hpl
  unfold isBoolD at e
  split at e
  · cases e; exact ⟨rfl, _, kb_bb, f⟩
  · cases e; exact ⟨rfl, _, kb_ib, f⟩
  · cases e
theorem ee_isStr (hT : X.mg "str" = none) (h : EE X e ρ fun d => ∃ b, isStrD d = some b ∧ Φ (.bl b)) (hg : Gl X "isinstance" := by rfl) (hgT : Gl X "str" := by rfl)
    (he : starEach [e, .Name "str" p2] X.env = (false, eval e X.env) :: starEach [.Name "str" p2] X.env := by rfl) (hpl : (backTo pos (starEach [.Name "str" p2] X.env)).any (·.1) = false := by rfl) : EE X (.Call (.Name "isinstance" p) [e, .Name "str" p2] [] pos) ρ Φ := by
  refine ee_isi hm hT bt_str (ee_mono h fun d ⟨b, e, f⟩ => ?_) hg hgT (by decide) (by decide) he hpl
  unfold isStrD at e
  split at e
  · cases e; exact ⟨rfl, _, kb_ss, f⟩
  · cases e
theorem ee_isTup (hT : X.mg "tuple" = none) (h : EE X e ρ fun d => ∃ b, isTupD d = some b ∧ Φ (.bl b)) (hg : Gl X "isinstance" := by rfl) (hgT : Gl X "tuple" := by rfl)
    (he : starEach [e, .Name "tuple" p2] X.env = (false, eval e X.env) :: starEach [.Name "tuple" p2] X.env := by rfl) (hpl : (backTo pos (starEach [.Name "tuple" p2] X.env)).any (·.1) = false := by rfl) : EE X (.Call (.Name "isinstance" p) [e, .Name "tuple" p2] [] pos) ρ Φ := by
  refine ee_isi hm hT bt_tup (ee_mono h fun d ⟨b, e, f⟩ => ?_) hg hgT (by decide) (by decide) he hpl
  unfold isTupD at e
  split at e
  · cases e; exact ⟨rfl, _, kb_tt, f⟩
  · cases e
theorem ee_isList (hT : X.mg "list" = none) (h : EE X e ρ fun d => ∃ b, isListD d = some b ∧ Φ (.bl b)) (hg : Gl X "isinstance" := by rfl) (hgT : Gl X "list" := by rfl)
    (he : starEach [e, .Name "list" p2] X.env = (false, eval e X.env) :: starEach [.Name "list" p2] X.env := by rfl) (hpl : (backTo pos (starEach [.Name "list" p2] X.env)).any (·.1) = false := by rfl) : EE X (.Call (.Name "isinstance" p) [e, .Name "list" p2] [] pos) ρ Φ := by
  refine ee_isi hm hT bt_list (ee_mono h fun d ⟨b, e, f⟩ => ?_) hg hgT (by decide) (by decide) he hpl
  unfold isListD at e
  split at e
  · cases e; exact ⟨rfl, _, kb_ll, f⟩
  · cases e
end
theorem call_lens : CallR X (.builtin "len") (fun xs H Q => (∃ p ys, xs = [.ref p] ∧ (SqL X.K H p ys ∨ SqT X.K H p ys) ∧ Q (.int ys.length) H) ∨ (∃ z, xs = [.str z] ∧ z.length ≤ sizeLine ∧ Q (.int z.length) H) ∨ (∃ a kvs, xs = [V.ref a] ∧ H a = some (.dK kvs) ∧ Q (.int kvs.length) H)) :=
  CallR.or call_len_seq (CallR.or call_len_str call_lenD)
theorem ee_len (hm : X.mg "len" = none) (h : EE X e ρ fun d => LenR [d] Φ) (hg : Gl X "len" := by rfl) (he : starEach [e] X.env = (false, eval e X.env) :: starEach [] X.env := by rfl) (hpl : (backTo pos (starEach [] X.env)).any (·.1) = false := by rfl) : EE X (.Call (.Name "len" p) [e] [] pos) ρ Φ :=
  ee_cb call_lens rdc_len hm PySem.boot_len (aa_cons (ee_mono h fun d hd => aa_nil hd) he) hg (by decide) (by decide) he hpl
theorem bools_rep (n : Nat) : bools (List.replicate n (.bl true)) = some (List.replicate n true) := by
  induction n with
  | zero => rfl
  | succ n ih =>
    rw [List.replicate_succ, List.replicate_succ]
    show (bools (List.replicate n (.bl true))).map (true :: ·) = _
    rw [ih]
    rfl
theorem all_rep (n : Nat) : (List.replicate n true).all id = true := by
  rw [List.all_eq_true]
  intro x hx
  rw [(List.mem_replicate.mp hx).2]
  rfl
/-- all([e for x in iter]), each of them true -/
theorem ee_allT {i : Nat} {x : Str} {px : Pos} {iter : Expr} {scope : Scope} (hm : X.mg "all" = none) (nd : X.N.Nodup) (ok : BlkOk X.N X.env.scope scope [(x, i)])
    (h : II X (.Name x px) iter ρ fun n f => n ≤ 50000 ∧ (∀ j, j < n → ∀ s H C cl fp, EE (Blk X scope s H C cl fp) e (ρ.set i (.va (f j))) fun y => y = .bl true) ∧ Φ (.bl true))
    (hi : X.N[i]? = some x := by rfl) (hx : scope.names.lookup x = some .local := by rfl)
    (hg : ∀ (s : Shared) (H : Hp) (C : Addr) (cl : List (Str × Addr)) (fp : List Addr), PG (X.blk s H scope (compEnvC scope cl C X.env) fp) (.Name x px) (gName i) := by intro _ _ _ _ _; exact pg_name (by assumption) rfl (Or.inl rfl)) (hc : X.calm = true := by rfl)
    (hs : ∀ x, foldedSetIterable iter X.env x = pure x := by intro _; rfl) (hga : Gl X "all" := by rfl)
    (he : starEach [.ListComp e [⟨.Name x px, iter, [], 0⟩] scope p2] X.env = (false, eval (.ListComp e [⟨.Name x px, iter, [], 0⟩] scope p2) X.env) :: starEach [] X.env := by rfl) (hpl : (backTo pos (starEach [] X.env)).any (·.1) = false := by rfl) :
    EE X (.Call (.Name "all" p) [.ListComp e [⟨.Name x px, iter, [], 0⟩] scope p2] [] pos) ρ Φ := by
  refine ee_cb (cr_all hc) rdc_all hm (by decide +kernel) (aa_cons (ee_lc nd ok ?_ hi hx hg hc hs) he) hga (by decide) (by decide) he hpl
  refine (fun S H0 Hb H σ ok en R q => h S H0 Hb H σ ok en R fun J n f Hb' H' g wd p => q J n f Hb' H' g wd ?_)
  obtain ⟨hn, he, hf⟩ := p
  refine ⟨fun j acc => acc = List.replicate j (.bl true), rfl, fun j acc hj ea s H C cl fp => ?_, fun acc ea => ?_⟩
  · refine ee_mono (he j hj s H C cl fp) fun d hd => ?_
    subst hd ea
    rw [List.length_replicate]
    exact ⟨by omega, List.replicate_succ'.symm⟩
  · have ea : acc = List.replicate n (.bl true) := ea
    subst ea
    exact aa_nil ⟨_, _, rfl, bools_rep n, by rw [all_rep]; exact hf⟩
end
section
variable {P : Program} {w : World} {K : PySem.W.Frag} {mg : Str → Option Value} {base : Heap} {f : Addr} {fd : FuncData}
theorem blT {p : Prop} [Decidable p] (h : p) : (D.bl (decide p)) = .bl true := by rw [decide_eq_true h]
theorem blF {p : Prop} [Decidable p] (h : ¬ p) : (D.bl (decide p)) = .bl false := by rw [decide_eq_false h]
/-! ### is_whole -/
abbrev sWhole : Stmt := topS 8
def cWhole : Con := fun ds Φ => ∃ i, ds = [.int i] ∧ Φ (.bl true)
theorem scWhole : FnScope ["thing"] ["thing"] (defScope sWhole) := ⟨rfl, rfl, rfl, by decide +kernel, rfl, by decide +kernel, by decide +kernel⟩
theorem ok_whole (F : Fun K "is_whole" "is_whole" sWhole f fd) (T : Glb K mg) : FnOk P w K mg base CX0 1 f fd ["thing"] (spF K cWhole) := by
  refine fn_ok F scWhole (fun ds Φ ⟨i, e, _⟩ => by rw [e]; rfl) fun cdv A outer s H E ds Φ hr c => ?_
  obtain ⟨i, rfl, h⟩ := c
  refine rr_ret (ee_and (ee_isInt T.zIsi T.zInt (ee_v (i := 0) rfl ⟨_, rfl, _, rfl, fun _ => ?_, fun z => by cases z⟩)))
  exact ee_one (ee_not (ee_isBool T.zIsi T.zBool (ee_v (i := 0) rfl ⟨_, rfl, _, rfl, h⟩)))
/-! ### is_word -/
abbrev sWord : Stmt := topS 9
def lettersL : List Nat := (("abcdefghijklmnopqrstuvwxyz" : Str)).cps.toList
def WordOk (z : Str) : Prop := 1 ≤ z.length ∧ z.length ≤ 8 ∧ ∀ c ∈ z.cps.toList, c ∈ lettersL
def cWord : Con := fun ds Φ => ∃ z, ds = [.str z] ∧ WordOk z ∧ Φ (.bl true)
theorem scWord : FnScope ["thing", "sign"] ["thing"] (defScope sWord) := ⟨rfl, rfl, rfl, by decide +kernel, rfl, by decide +kernel, by decide +kernel⟩
theorem str_size (z : Str) : z.cps.size = z.length := rfl
theorem sign_mem {z : Str} {j : Nat} (h : j < z.cps.size) : z.cps.getD j 0 ∈ z.cps.toList := by
  rw [Array.getD_eq_getD_getElem?]; rw [Array.getElem?_eq_getElem h]
  exact Array.getElem_mem_toList h
theorem ok_word (F : Fun K "is_word" "is_word" sWord f fd) (T : Glb K mg) : FnOk P w K mg base CX0 1 f fd ["thing"] (spF K cWord) := by
  refine fn_ok F scWord (fun ds Φ ⟨i, e, _⟩ => by rw [e]; rfl) fun cdv A outer s H E ds Φ hr c => ?_
  obtain ⟨z, rfl, ⟨h1, h2, h3⟩, h⟩ := c
  have nd := scWord.nd
  refine rr_ret (ee_and (ee_isStr T.zIsi T.zStr (ee_v (i := 0) rfl ⟨_, rfl, _, rfl, fun _ => ?_, fun z => by cases z⟩)))
  refine ee_and (ee_chain op_le rd_B0 op_le rd_B0 (ee_i (ee_len T.zLen (ee_v (i := 0) rfl ⟨sz1000 (by omega), ?_⟩))))
  refine ⟨true, blT (by omega), fun _ => ee_g T.longest ?_, fun z => by cases z⟩
  refine ⟨true, blT (by omega), fun _ => ?_, fun z => by cases z⟩
  refine ee_one (ee_allT (i := 1) T.zAll nd (blkOk_by (N := ["thing", "sign"]) (sc := defScope sWord) (by decide +kernel)) (ii_str (ee_v (i := 0) rfl ⟨z, rfl, by rw [str_size]; omega, fun j hj s H C cl fp => ?_, h⟩)))
  refine ee_cmp op_in_sign rd_inS (ee_v (i := 1) rfl (ee_g T.letters ⟨_, _, rfl, rfl, ?_⟩))
  exact blT (h3 _ (sign_mem hj))
end
end Lg
namespace Lg
open PySem PySem.Spec PyProof.Rows L2 TL
/-! ### words, parts, paths -/
theorem tl_eq (x : Str) : tl x = x.cps.toList := rfl
theorem tl_slash : tl ("/" : Str) = [47] := by decide +kernel
theorem tl_dash : tl ("-" : Str) = [45] := by decide +kernel
def figsL : List Nat := (("0123456789" : Str)).cps.toList
theorem lettersL_eq : lettersL = [97, 98, 99, 100, 101, 102, 103, 104, 105, 106, 107, 108, 109, 110, 111, 112, 113, 114, 115, 116, 117, 118, 119, 120, 121, 122] := by decide +kernel
theorem figsL_eq : figsL = [48, 49, 50, 51, 52, 53, 54, 55, 56, 57] := by decide +kernel
def FigOk (z : Str) : Prop := z.length = 6 ∧ ∀ c ∈ z.cps.toList, c ∈ figsL
def PartOk (p : Str) : Prop := WordOk p ∨ ∃ w f, WordOk w ∧ FigOk f ∧ p = w ++ "-" ++ f
def PsOk (ps : List Str) : Prop := ps.length ≤ 5 ∧ ∀ p ∈ ps, PartOk p
def pathS (ps : List Str) : Str := "/" ++ Str.join "/" ps
theorem word_no {p : Str} (h : WordOk p) {c : Nat} (hc : c ∉ lettersL) : c ∉ tl p := fun m => hc (h.2.2 c m)
theorem fig_no {p : Str} (h : FigOk p) {c : Nat} (hc : c ∉ figsL) : c ∉ tl p := fun m => hc (h.2 c m)
theorem part_no {p : Str} (h : PartOk p) : 47 ∉ tl p := by
  rcases h with h | ⟨w, f, hw, hf, rfl⟩
  · exact word_no h (by rw [lettersL_eq]; decide)
  · rw [tl_append, tl_append, tl_dash]
    intro m
    rcases List.mem_append.mp m with m | m
    · rcases List.mem_append.mp m with m | m
      · exact word_no hw (by rw [lettersL_eq]; decide) m
      · exact absurd m (by decide)
    · exact fig_no hf (by rw [figsL_eq]; decide) m
theorem len_app (x y : Str) : (x ++ y).length = x.length + y.length := by
  rw [len_tl, tl_append, List.length_append, ← len_tl, ← len_tl]
theorem len_dash : ("-" : Str).length = 1 := by decide +kernel
theorem len_slash : ("/" : Str).length = 1 := by decide +kernel
theorem part_len {p : Str} (h : PartOk p) : 1 ≤ p.length ∧ p.length ≤ 15 := by
  rcases h with h | ⟨w, f, hw, hf, rfl⟩
  · exact ⟨h.1, by have := h.2.1; omega⟩
  · rw [len_app, len_app, len_dash, hf.1]
    have := hw.2.1
    exact ⟨by omega, by omega⟩
theorem str_app_assoc (x y z : Str) : x ++ y ++ z = x ++ (y ++ z) := by
  refine ext_tl ?_
  rw [tl_append, tl_append, tl_append, tl_append, List.append_assoc]
theorem str_empty_app (x : Str) : ("" : Str) ++ x = x := by
  refine ext_tl ?_
  rw [tl_append]
  rfl
theorem str_app_empty (x : Str) : x ++ ("" : Str) = x := by
  refine ext_tl ?_
  rw [tl_append]
  show tl x ++ [] = _
  rw [List.append_nil]
theorem pathS_nil : pathS [] = "/" := by decide +kernel
theorem pathS_cons {ps : List Str} (h : ps ≠ []) : pathS ps = Str.join "/" ("" :: ps) := by
  cases ps with
  | nil => exact absurd rfl h
  | cons p ps =>
    show _ = ("" : Str) ++ "/" ++ Str.join "/" (p :: ps)
    rw [str_empty_app]
    rfl
theorem split_path {ps : List Str} (hn : ps ≠ []) (h : ∀ p ∈ ps, 47 ∉ tl p) : Txt.split (pathS ps) "/" = ("" : Str) :: ps := by
  rw [pathS_cons hn, ← join_eq]
  refine split_join (s := 47) (S := []) tl_slash (by decide +kernel) (by simp) fun p hp => ?_
  rcases List.mem_cons.mp hp with rfl | later
  · decide
  · exact h p later
theorem tl_path (ps : List Str) : tl (pathS ps) = 47 :: joinL [47] (ps.map tl) := by
  unfold pathS
  rw [tl_append, tl_join, tl_slash]
  rfl
theorem joinL_ne {S : List Nat} {p : List Nat} {ps : List (List Nat)} (h : p ≠ []) : joinL S (p :: ps) ≠ [] := by
  cases ps with
  | nil => exact h
  | cons q r =>
    show p ++ _ ≠ []
    intro e
    exact h (List.append_eq_nil_iff.mp e).1
theorem path_root {ps : List Str} (h : PsOk ps) : pathS ps = "/" ↔ ps = [] := by
  constructor
  · intro e
    cases ps with
    | nil => rfl
    | cons p r =>
      have e2 := congrArg tl e
      rw [tl_path, tl_slash] at e2
      have l := (part_len (h.2 p List.mem_cons_self)).1
      rw [len_tl] at l
      exact absurd (List.cons.inj e2).2 (joinL_ne (fun z => by rw [z] at l; simp at l))
  · rintro rfl
    exact pathS_nil
def partsM (z : Str) : List Str := if z = "/" then [] else (Txt.split z "/").drop 1
theorem parts_path {ps : List Str} (h : PsOk ps) : partsM (pathS ps) = ps := by
  unfold partsM
  by_cases c : ps = []
  · rw [if_pos ((path_root h).mpr c), c]
  · rw [if_neg (fun z => c ((path_root h).mp z)), split_path c fun p hp => part_no (h.2 p hp)]
    rfl
theorem join_len {ps : List Str} (h : ∀ p ∈ ps, PartOk p) : (Str.join "/" ps).length ≤ 16 * ps.length := by
  induction ps with
  | nil => exact Nat.zero_le _
  | cons p ps ih =>
    have l := (part_len (h p List.mem_cons_self)).2
    have t := ih fun q hq => h q (List.mem_cons_of_mem _ hq)
    cases ps with
    | nil =>
      show p.length ≤ 16
      omega
    | cons q r =>
      show (p ++ "/" ++ Str.join "/" (q :: r)).length ≤ _
      rw [len_app, len_app, len_slash]
      simp only [List.length_cons] at t ⊢
      omega
theorem path_len {ps : List Str} (h : PsOk ps) : (pathS ps).length ≤ 81 := by
  unfold pathS
  rw [len_app, len_slash]
  have := join_len h.2
  have := h.1
  omega
theorem ps_drop {ps : List Str} (h : PsOk ps) : PsOk ps.dropLast := ⟨by rw [List.length_dropLast]; have := h.1; omega, fun p hp => h.2 p (List.dropLast_subset ps hp)⟩
def parentM (z : Str) : Str := pathS (partsM z).dropLast
def lastM (z : Str) : Str := (partsM z).getLastD ""
theorem parent_path {ps : List Str} (h : PsOk ps) : parentM (pathS ps) = pathS ps.dropLast := by
  unfold parentM
  rw [parts_path h]
theorem last_path {ps : List Str} (h : PsOk ps) : lastM (pathS ps) = ps.getLastD "" := by
  unfold lastM
  rw [parts_path h]
/-! ### numbered paths -/
def rj (n : Int) : Str := Txt.rjustF (Str.ofString (toString n)) 6 48
def lj (n : Int) : Str := cutS (("00000" : Str) ++ Str.ofString (toString n)) (some (-6)) none
def figB (z : Str) : Bool := z.length == 6 && z.cps.toList.all fun c => figsL.contains c
theorem fig_of {z : Str} (h : figB z = true) : FigOk z := by
  unfold figB at h
  rw [Bool.and_eq_true, List.all_eq_true] at h
  exact ⟨by simpa using h.1, fun c hc => by simpa using h.2 c hc⟩
theorem rj_all : (List.range 301).all (fun n => figB (rj (n : Nat))) = true := by decide +kernel
theorem lj_all : (List.range 301).all (fun n => figB (lj (n : Nat))) = true := by decide +kernel
theorem rj_ok {n : Int} (h0 : 0 ≤ n) (h : n ≤ 300) : FigOk (rj n) := by
  have e : n = ((n.toNat : Nat) : Int) := by omega
  rw [e]
  exact fig_of (List.all_eq_true.mp rj_all _ (List.mem_range.mpr (by omega)))
theorem lj_ok {n : Int} (h0 : 0 ≤ n) (h : n ≤ 300) : FigOk (lj n) := by
  have e : n = ((n.toNat : Nat) : Int) := by omega
  rw [e]
  exact fig_of (List.all_eq_true.mp lj_all _ (List.mem_range.mpr (by omega)))
theorem join_last (q : List Str) (p t : Str) : Str.join "/" (q ++ [p]) ++ t = Str.join "/" (q ++ [p ++ t]) := by
  induction q with
  | nil => rfl
  | cons x q ih =>
    cases q with
    | nil =>
      show x ++ "/" ++ p ++ t = x ++ "/" ++ (p ++ t)
      rw [str_app_assoc (x ++ "/")]
    | cons y r =>
      show x ++ "/" ++ Str.join "/" (y :: r ++ [p]) ++ t = x ++ "/" ++ Str.join "/" (y :: r ++ [p ++ t])
      rw [str_app_assoc (x ++ "/"), ih]
theorem path_last (q : List Str) (p t : Str) : pathS (q ++ [p]) ++ t = pathS (q ++ [p ++ t]) := by
  unfold pathS
  rw [str_app_assoc, join_last]
theorem join_snoc {q : List Str} (h : q ≠ []) (p : Str) : Str.join "/" q ++ ("/" ++ p) = Str.join "/" (q ++ [p]) := by
  induction q with
  | nil => exact absurd rfl h
  | cons x q ih =>
    cases q with
    | nil =>
      show x ++ ("/" ++ p) = x ++ "/" ++ p
      rw [str_app_assoc]
    | cons y r =>
      show x ++ "/" ++ Str.join "/" (y :: r) ++ ("/" ++ p) = x ++ "/" ++ Str.join "/" (y :: r ++ [p])
      rw [str_app_assoc (x ++ "/"), ih (by simp)]
/-- a path, and one more part -/
theorem path_snoc {q : List Str} (h : q ≠ []) (p : Str) : pathS q ++ "/" ++ p = pathS (q ++ [p]) := by
  unfold pathS
  rw [str_app_assoc, str_app_assoc, join_snoc h]
theorem path_one (p : Str) : ("" : Str) ++ "/" ++ p = pathS [p] := by
  rw [str_empty_app]
  rfl
/-- numbered: the last part is a word, the figures behind it -/
theorem ps_num {ps : List Str} (h : PsOk ps) (hn : ps ≠ []) (hw : WordOk (ps.getLastD "")) {f : Str} (hf : FigOk f) : ∃ qs, pathS ps ++ "-" ++ f = pathS qs ∧ PsOk qs ∧ qs ≠ [] := by
  obtain ⟨q, p, rfl⟩ : ∃ q p, ps = q ++ [p] := ⟨ps.dropLast, ps.getLast hn, (List.dropLast_concat_getLast hn).symm⟩
  refine ⟨q ++ [p ++ ("-" ++ f)], ?_, ⟨?_, ?_⟩, by simp⟩
  · rw [str_app_assoc, path_last]
  · have := h.1
    simpa using this
  · intro x hx
    rcases List.mem_append.mp hx with front | last
    · exact h.2 x (List.mem_append_left _ front)
    · rw [List.mem_singleton] at last
      subst last
      refine .inr ⟨p, f, ?_, hf, by rw [str_app_assoc]⟩
      simpa using hw
end Lg
namespace Lg
open PySem PySem.Spec PyProof.Rows L2 TL
/-! ### dicts with text keys -/
section
variable {α : Type}
def aget (l : List (Str × α)) (k : Str) : Option α := (l.find? fun kv => decide (kv.1 = k)).map (·.2)
def aput (l : List (Str × α)) (k : Str) (d : α) : List (Str × α) :=
  if l.any (fun kv => decide (kv.1 = k)) = true then l.map (fun kv => if kv.1 = k then (kv.1, d) else kv) else l ++ [(k, d)]
def adrop (l : List (Str × α)) (k : Str) : List (Str × α) := l.filter fun kv => !decide (kv.1 = k)
def amap (f : α → D) (l : List (Str × α)) : List (Str × D) := l.map fun kv => (kv.1, f kv.2)
variable {f : α → D} {l : List (Str × α)} {k : Str} {v : α}
theorem dget_map : dget (amap f l) k = (aget l k).map f := by
  unfold dget aget amap
  induction l with
  | nil => rfl
  | cons kv l ih =>
    rw [List.map_cons, List.find?_cons, List.find?_cons]
    by_cases c : kv.1 = k
    · simp [c]
    · simp only [c, decide_false]
      exact ih
theorem any_map : ((amap f l).any fun kv => decide (kv.1 = k)) = l.any fun kv => decide (kv.1 = k) := by
  unfold amap
  rw [List.any_map]
  rfl
theorem dput_map : dput (amap f l) k (f v) = amap f (aput l k v) := by
  unfold dput aput
  rw [any_map]
  split
  · unfold amap
    rw [List.map_map]; rw [List.map_map]
    refine List.map_congr_left fun kv _ => ?_
    show (if kv.1 = k then (kv.1, f v) else (kv.1, f kv.2)) = ((if kv.1 = k then (kv.1, v) else kv).1, f (if kv.1 = k then (kv.1, v) else kv).2)
    split <;> rfl
  · unfold amap
    rw [List.map_append]
    rfl
theorem ddrop_map : ddrop (amap f l) k = amap f (adrop l k) := by
  unfold ddrop adrop amap
  rw [List.filter_map]
  rfl
theorem amap_len : (amap f l).length = l.length := List.length_map ..
theorem keys_map : keysOf (amap f l) = l.map (·.1) := by
  unfold keysOf amap
  rw [List.map_map]
  rfl
theorem amap_nil : amap f [] = [] := rfl
theorem aget_mem (h : aget l k = some v) : (k, v) ∈ l := by
  unfold aget at h
  obtain ⟨kv, h1, h2⟩ := Option.map_eq_some_iff.mp h
  have m := List.mem_of_find?_eq_some h1
  have e := List.find?_some h1
  have e' : kv.1 = k := by simpa using e
  subst h2 e'
  exact m
theorem aget_none (h : aget l k = none) : k ∉ l.map (·.1) := by
  unfold aget at h
  rw [Option.map_eq_none_iff, List.find?_eq_none] at h
  intro m
  obtain ⟨kv, h1, h2⟩ := List.mem_map.mp m
  exact h kv h1 (by simpa using h2)
theorem aget_some_of (h : k ∈ l.map (·.1)) : ∃ v, aget l k = some v := by
  cases e : aget l k with
  | some v => exact ⟨v, rfl⟩
  | none => exact absurd h (aget_none e)
theorem any_iff : (l.any fun kv => decide (kv.1 = k)) = true ↔ k ∈ l.map (·.1) := by
  rw [List.any_eq_true, List.mem_map]
  simp
theorem put_keys_in (h : k ∈ l.map (·.1)) : (aput l k v).map (·.1) = l.map (·.1) := by
  unfold aput
  rw [if_pos (any_iff.mpr h), List.map_map]
  refine List.map_congr_left fun kv _ => ?_
  show (if kv.1 = k then (kv.1, v) else kv).1 = kv.1
  split <;> rfl
theorem put_keys_out (h : k ∉ l.map (·.1)) : aput l k v = l ++ [(k, v)] := by
  unfold aput
  rw [if_neg (fun z => h (any_iff.mp z))]
theorem put_mem {kv : Str × α} (h : kv ∈ aput l k v) : kv ∈ l ∨ kv = (k, v) := by
  unfold aput at h
  split at h
  · obtain ⟨kv', h1, h2⟩ := List.mem_map.mp h
    split at h2
    · rename_i c
      subst h2 c
      exact .inr rfl
    · subst h2
      exact .inl h1
  · rcases List.mem_append.mp h with old | new
    · exact .inl old
    · exact .inr (List.mem_singleton.mp new)
theorem put_nodup (h : (l.map (·.1)).Nodup) : ((aput l k v).map (·.1)).Nodup := by
  by_cases c : k ∈ l.map (·.1)
  · rw [put_keys_in c]
    exact h
  · rw [put_keys_out c, List.map_append]
    exact List.nodup_append.mpr ⟨h, by simp, fun a ha b hb e => c (by simp at hb; rw [← hb, ← e]; exact ha)⟩
theorem put_len_in (h : k ∈ l.map (·.1)) : (aput l k v).length = l.length := by
  have := congrArg List.length (put_keys_in (v := v) h)
  simpa using this
theorem put_len : (aput l k v).length ≤ l.length + 1 := by
  by_cases c : k ∈ l.map (·.1)
  · rw [put_len_in c]
    exact Nat.le_succ _
  · rw [put_keys_out c, List.length_append]
    exact Nat.le_refl _
theorem drop_len : (adrop l k).length ≤ l.length := List.length_filter_le ..
theorem drop_mem {kv : Str × α} (h : kv ∈ adrop l k) : kv ∈ l := (List.mem_filter.mp h).1
theorem drop_keys : (adrop l k).map (·.1) = (l.map (·.1)).filter fun z => !decide (z = k) := by
  unfold adrop
  rw [List.filter_map]
  rfl
theorem drop_nodup (h : (l.map (·.1)).Nodup) : ((adrop l k).map (·.1)).Nodup := by
  rw [drop_keys]
  exact h.filter _
end
/-! ### nodes -/
structure Nd where
  text : Str
  count : Int
  made : Int
  own : Option Str
def ownD : Option Str → D
  | none => .non
  | some z => .str z
def ndD (n : Nd) : D := .tup [.str n.text, .int n.count, .int n.made, ownD n.own]
abbrev Web := List (Str × Nd)
abbrev webD (w : Web) : List (Str × D) := amap ndD w
def KeyOk (k : Str) : Prop := ∃ ps, k = pathS ps ∧ PsOk ps
def NdOk (B : Int) (n : Nd) : Prop := 0 ≤ n.count ∧ 0 ≤ n.made ∧ n.made ≤ B
structure WebOk (B : Int) (w : Web) : Prop where
  len : w.length ≤ 60
  nd : (w.map (·.1)).Nodup
  kv : ∀ kv ∈ w, KeyOk kv.1 ∧ NdOk B kv.2
theorem NdOk.up {B C : Int} {n : Nd} (h : NdOk B n) (l : B ≤ C) : NdOk C n := ⟨h.1, h.2.1, Int.le_trans h.2.2 l⟩
theorem WebOk.up {B C : Int} {w : Web} (h : WebOk B w) (l : B ≤ C) : WebOk C w := ⟨h.len, h.nd, fun kv m => ⟨(h.kv kv m).1, (h.kv kv m).2.up l⟩⟩
theorem WebOk.drop {B : Int} {w : Web} {k : Str} (h : WebOk B w) : WebOk B (adrop w k) := ⟨Nat.le_trans drop_len h.len, drop_nodup h.nd, fun kv m => h.kv kv (drop_mem m)⟩
theorem WebOk.put {B : Int} {w : Web} {k : Str} {n : Nd} (h : WebOk B w) (hk : k ∈ w.map (·.1)) (hn : NdOk B n) : WebOk B (aput w k n) := by
  refine ⟨by rw [put_len_in hk]; exact h.len, put_nodup h.nd, fun kv m => ?_⟩
  rcases put_mem m with m | rfl
  · exact h.kv kv m
  · obtain ⟨kv, h1, h2⟩ := List.mem_map.mp hk
    exact ⟨h2 ▸ (h.kv kv h1).1, hn⟩
theorem WebOk.add {B : Int} {w : Web} {k : Str} {n : Nd} (h : WebOk B w) (hl : w.length < 60) (hk : KeyOk k) (hn : NdOk B n) : WebOk B (aput w k n) := by
  refine ⟨Nat.le_trans put_len hl, put_nodup h.nd, fun kv m => ?_⟩
  rcases put_mem m with m | rfl
  · exact h.kv kv m
  · exact ⟨hk, hn⟩
theorem WebOk.get {B : Int} {w : Web} {k : Str} {n : Nd} (h : WebOk B w) (e : aget w k = some n) : KeyOk k ∧ NdOk B n := h.kv _ (aget_mem e)
theorem pl_own (n : Nat) (o : Option Str) : Pl n (ownD o) := by cases o <;> cases n <;> exact True.intro
theorem pl_str (n : Nat) (z : Str) : Pl n (.str z) := by cases n <;> exact True.intro
theorem pl_int (n : Nat) (z : Int) : Pl n (.int z) := by cases n <;> exact True.intro
theorem pl_bl (n : Nat) (z : Bool) : Pl n (.bl z) := by cases n <;> exact True.intro
theorem pl_non (n : Nat) : Pl n .non := by cases n <;> exact True.intro
theorem pl_nd (n : Nat) (m : Nd) : Pl (n + 1) (ndD m) := Pl.tup (pl_cons (pl_str _ _) (pl_cons (pl_int _ _) (pl_cons (pl_int _ _) (pl_cons (pl_own _ _) pl_nil))))
/-! ### deeds, entries -/
def TextOk (t : Str) : Prop := t.length ≤ 40 ∧ ∀ c ∈ t.cps.toList, 32 ≤ c ∧ c ≤ 126
def cntD : Option Int → D
  | none => .non
  | some z => .int z
def CntOk (c : Option Int) : Prop := ∀ n, c = some n → 0 ≤ n
inductive Dd where
  | make (path text : Str) (own num : Bool) | put (path text : Str) (c : Option Int) | drop (path : Str) (c : Option Int) | see (path : Str) (c : Option Int)
def Dd.d : Dd → D
  | .make p t o n => .tup [.str "make", .str p, .str t, .bl o, .bl n]
  | .put p t c => .tup [.str "put", .str p, .str t, cntD c]
  | .drop p c => .tup [.str "drop", .str p, cntD c]
  | .see p c => .tup [.str "see", .str p, cntD c]
def Dd.Ok : Dd → Prop
  | .make p t _ n => ∃ ps, p = pathS ps ∧ PsOk ps ∧ ps ≠ [] ∧ TextOk t ∧ (n = true → WordOk (ps.getLastD ""))
  | .put p t c => KeyOk p ∧ TextOk t ∧ CntOk c
  | .drop p c => (∃ ps, p = pathS ps ∧ PsOk ps ∧ ps ≠ []) ∧ CntOk c
  | .see p c => KeyOk p ∧ CntOk c
inductive De where
  | one (d : Dd) | all (ds : List Dd) | close | bring | opn (n : Int)
def De.d : De → D
  | .one d => d.d
  | .all ds => .tup [.str "all", .tup (ds.map Dd.d)]
  | .close => .tup [.str "close"]
  | .bring => .tup [.str "bring"]
  | .opn n => .tup [.str "open", .int n]
def De.Ok : De → Prop
  | .one d => d.Ok
  | .all ds => 1 ≤ ds.length ∧ ds.length ≤ 6 ∧ ∀ d ∈ ds, d.Ok
  | .opn n => 1 ≤ n ∧ n ≤ 1000
  | _ => True
inductive En where
  | fin (who : Str) | ask (who : Str) (stamp : Int) (deed : De)
def En.d : En → D
  | .fin w => .tup [.str "end", .str w]
  | .ask w n e => .tup [.str "ask", .str w, .int n, e.d]
def En.Ok : En → Prop
  | .fin w => WordOk w
  | .ask w n e => WordOk w ∧ 1 ≤ n ∧ e.Ok
theorem pl_cnt (n : Nat) (c : Option Int) : Pl n (cntD c) := by cases c <;> cases n <;> exact True.intro
theorem pl_dd (n : Nat) (d : Dd) : Pl (n + 1) d.d := by
  cases d with
  | make p t o m => exact Pl.tup (pl_cons (pl_str _ _) (pl_cons (pl_str _ _) (pl_cons (pl_str _ _) (pl_cons (pl_bl _ _) (pl_cons (pl_bl _ _) pl_nil)))))
  | put p t c => exact Pl.tup (pl_cons (pl_str _ _) (pl_cons (pl_str _ _) (pl_cons (pl_str _ _) (pl_cons (pl_cnt _ _) pl_nil))))
  | drop p c => exact Pl.tup (pl_cons (pl_str _ _) (pl_cons (pl_str _ _) (pl_cons (pl_cnt _ _) pl_nil)))
  | see p c => exact Pl.tup (pl_cons (pl_str _ _) (pl_cons (pl_str _ _) (pl_cons (pl_cnt _ _) pl_nil)))
theorem pl_de (n : Nat) (d : De) : Pl (n + 3) d.d := by
  cases d with
  | one d => exact pl_dd _ d
  | all ds =>
    refine Pl.tup (pl_cons (pl_str _ _) (pl_cons (Pl.tup fun e he => ?_) pl_nil))
    obtain ⟨d, _, rfl⟩ := List.mem_map.mp he
    exact pl_dd _ d
  | close => exact Pl.tup (pl_cons (pl_str _ _) pl_nil)
  | bring => exact Pl.tup (pl_cons (pl_str _ _) pl_nil)
  | opn n => exact Pl.tup (pl_cons (pl_str _ _) (pl_cons (pl_int _ _) pl_nil))
theorem pl_en (n : Nat) (d : En) : Pl (n + 4) d.d := by
  cases d with
  | fin w => exact Pl.tup (pl_cons (pl_str _ _) (pl_cons (pl_str _ _) pl_nil))
  | ask w m e => exact Pl.tup (pl_cons (pl_str _ _) (pl_cons (pl_str _ _) (pl_cons (pl_int _ _) (pl_cons (pl_de _ _) pl_nil))))
/-! ### what the program does, on data -/
structure Out where
  web : Web
  word : Str
  val : D
  evs : List D
def ev (a b : Str) : D := .tup [.str a, .str b]
def outD (o : Out) : D := .tup [.dct (webD o.web), .tup [.str o.word, o.val], .lst o.evs]
def refM (w : Web) (z : Str) : Out := ⟨w, "no", .str z, []⟩
structure OutOk (B : Int) (o : Out) : Prop where
  web : WebOk B o.web
  val : Pl 3 o.val
  evs : ∀ e ∈ o.evs, Pl 3 e
  few : o.evs.length ≤ 2
theorem pl_ev (a b : Str) : Pl 3 (ev a b) := Pl.tup (pl_cons (pl_str _ _) (pl_cons (pl_str _ _) pl_nil))
theorem ref_ok {B : Int} {w : Web} {z : Str} (h : WebOk B w) : OutOk B (refM w z) := ⟨h, pl_str _ _, pl_nil, Nat.zero_le _⟩
def kidB (path z : Str) : Bool := !decide (z = "/") && decide (parentM z = path)
def kidsM (w : Web) (path : Str) : List Str := sortK (((w.map (·.1)).filter (kidB path)).map lastM)
def numM (num : Bool) (path : Str) (made : Int) : Str := if num = true then path ++ "-" ++ rj made else path
def makeM (w : Web) (who path text : Str) (own num : Bool) : Out :=
  match aget w (parentM path) with
  | none => refM w "parent"
  | some n =>
    if n.own.isSome = true then refM w "own"
    else
      if (aget w (numM num path n.made)).isSome = true then refM w "there"
      else if 60 ≤ w.length then refM w "full"
      else ⟨aput (aput w (parentM path) ⟨n.text, n.count, n.made + 1, n.own⟩) (numM num path n.made) ⟨text, 0, 0, if own = true then some who else none⟩, "ok", .str (numM num path n.made), [ev "made" (numM num path n.made), ev "kids" (parentM path)]⟩
def putM (w : Web) (path text : Str) (n : Nd) : Out := ⟨aput w path ⟨text, n.count + 1, n.made, n.own⟩, "ok", .int (n.count + 1), [ev "text" path]⟩
def dropEvs (path : Str) : List D := [ev "gone" path, ev "kids" (parentM path)]
def dropM (w : Web) (path : Str) : Out := if kidsM w path = [] then ⟨adrop w path, "ok", .non, dropEvs path⟩ else refM w "kids"
def otherM (w : Web) (path : Str) (c : Option Int) (f : Nd → Out) : Out :=
  match aget w path with
  | none => refM w "lacks"
  | some n => if c ≠ none ∧ c ≠ some n.count then refM w "count" else f n
def plainM (w : Web) (who : Str) : Dd → Out
  | .make p t o n => makeM w who p t o n
  | .put p t c => otherM w p c (putM w p t)
  | .drop p c => otherM w p c fun _ => dropM w p
  | .see p c => otherM w p c fun n => ⟨w, "ok", .int n.count, []⟩
theorem make_ok {B : Int} {w : Web} {who text : Str} {own num : Bool} {ps : List Str} (h : WebOk B w) (hB : B ≤ 300) (hp : PsOk ps) (hn : ps ≠ []) (hw : num = true → WordOk (ps.getLastD "")) : OutOk (B + 1) (makeM w who (pathS ps) text own num) := by
  have hu : WebOk (B + 1) w := h.up (by omega)
  unfold makeM
  split
  · exact ref_ok hu
  · rename_i n e
    obtain ⟨_, n0, n1, n2⟩ := h.get e
    have hk : parentM (pathS ps) ∈ w.map (·.1) := List.mem_map.mpr ⟨_, aget_mem e, rfl⟩
    split
    · exact ref_ok hu
    · split
      · exact ref_ok hu
      · split
        · exact ref_ok hu
        · rename_i c1 c2 c3
          have key : KeyOk (numM num (pathS ps) n.made) := by
            unfold numM
            split
            · rename_i hc
              obtain ⟨qs, e1, e2, _⟩ := ps_num hp hn (hw hc) (rj_ok n1 (by omega))
              exact ⟨qs, e1, e2⟩
            · exact ⟨ps, rfl, hp⟩
          have k1 : NdOk (B + 1) ⟨n.text, n.count, n.made + 1, n.own⟩ := ⟨n0, (by omega : 0 ≤ n.made + 1), (by omega : n.made + 1 ≤ B + 1)⟩
          have k2 : NdOk (B + 1) ⟨text, 0, 0, if own = true then some who else none⟩ := ⟨Int.le_refl _, Int.le_refl _, (by omega : (0 : Int) ≤ B + 1)⟩
          exact ⟨(hu.put hk k1).add (by rw [put_len_in hk]; omega) key k2, pl_str _ _, pl_cons (pl_ev _ _) (pl_cons (pl_ev _ _) pl_nil), Nat.le_refl _⟩
theorem put_ok {B : Int} {w : Web} {path text : Str} {n : Nd} (h : WebOk B w) (e : aget w path = some n) : OutOk B (putM w path text n) := by
  obtain ⟨_, n0, n1, n2⟩ := h.get e
  exact ⟨h.put (List.mem_map.mpr ⟨_, aget_mem e, rfl⟩) ⟨by show 0 ≤ n.count + 1; omega, n1, n2⟩, pl_int _ _, pl_cons (pl_ev _ _) pl_nil, Nat.le_of_ble_eq_true rfl⟩
theorem drop_ok {B : Int} {w : Web} {path : Str} (h : WebOk B w) : OutOk B (dropM w path) := by
  unfold dropM
  split
  · exact ⟨h.drop, pl_non _, pl_cons (pl_ev _ _) (pl_cons (pl_ev _ _) pl_nil), Nat.le_refl _⟩
  · exact ref_ok h
theorem other_ok {B : Int} {w : Web} {path : Str} {c : Option Int} {f : Nd → Out} (h : WebOk B w) (k : ∀ n, aget w path = some n → OutOk B (f n)) : OutOk B (otherM w path c f) := by
  unfold otherM
  split
  · exact ref_ok h
  · split
    · exact ref_ok h
    · rename_i n e _
      exact k n e
theorem OutOk.up {B C : Int} {o : Out} (h : OutOk B o) (l : B ≤ C) : OutOk C o := ⟨h.web.up l, h.val, h.evs, h.few⟩
theorem plain_ok {B : Int} {w : Web} {who : Str} {d : Dd} (h : WebOk B w) (hB : B ≤ 300) (hd : d.Ok) : OutOk (B + 1) (plainM w who d) := by
  have l : B ≤ B + 1 := by omega
  cases d with
  | make p t o n =>
    obtain ⟨ps, rfl, hp, hn, _, hw⟩ := hd
    exact make_ok h hB hp hn hw
  | put p t c => exact (other_ok h fun n e => put_ok h e).up l
  | drop p c => exact (other_ok h fun n e => drop_ok h).up l
  | see p c => exact (other_ok h fun n e => ⟨h, pl_int _ _, pl_nil, Nat.zero_le _⟩).up l
/-! all -/
def allM (w0 : Web) (who : Str) : Nat → Web → List D → List D → List Dd → Web × D × List D
  | _, w, vs, es, [] => (w, .tup [.str "ok", .tup vs], es)
  | i, w, vs, es, d :: ds =>
    let o := plainM w who d
    if o.word = "no" then (w0, .tup [.str "no", o.val, .int i], []) else allM w0 who (i + 1) o.web (vs ++ [o.val]) (es ++ o.evs) ds
structure AnsOk (B : Int) (o : Web × D × List D) : Prop where
  web : WebOk B o.1
  val : Pl 10 o.2.1
  evs : ∀ e ∈ o.2.2, Pl 3 e
theorem all_ok {who : Str} {w0 : Web} : ∀ (ds : List Dd) (i : Nat) (B : Int) (w : Web) (vs es : List D), WebOk B w0 → WebOk B w → B + ds.length ≤ 300 → (∀ d ∈ ds, d.Ok) → (∀ v ∈ vs, Pl 3 v) → (∀ e ∈ es, Pl 3 e) → AnsOk (B + ds.length) (allM w0 who i w vs es ds)
  | [], i, B, w, vs, es, h0, h, hB, hd, hv, he => ⟨h.up (by simp), Pl.tup (pl_cons (pl_str _ _) (pl_cons (Pl.tup fun v m => (hv v m).up (by decide)) pl_nil)), he⟩
  | d :: ds, i, B, w, vs, es, h0, h, hB, hd, hv, he => by
    rw [List.length_cons] at hB ⊢
    have o := plain_ok (who := who) h (by omega) (hd d List.mem_cons_self)
    unfold allM
    dsimp only
    split
    · exact ⟨h0.up (by omega), Pl.tup (pl_cons (pl_str _ _) (pl_cons (o.val.up (by decide)) (pl_cons (pl_int _ _) pl_nil))), pl_nil⟩
    · have t := all_ok (who := who) (w0 := w0) ds (i + 1) (B + 1) _ (vs ++ [(plainM w who d).val]) (es ++ (plainM w who d).evs) (h0.up (by omega)) o.web (by omega) (fun d m => hd d (List.mem_cons_of_mem _ m)) (pl_app hv (pl_cons o.val pl_nil)) (pl_app he o.evs)
      have e : B + 1 + (ds.length : Int) = B + ((ds.length + 1 : Nat) : Int) := by omega
      rw [e] at t
      exact t
/-! without -/
def mineM (w : Web) (who : Str) : List Str := (sortK (w.map (·.1))).filter fun k => decide (((aget w k).map (·.own)) = some (some who))
def lessM (w : Web) (ks : List Str) : Web := ks.foldl adrop w
def withoutM (w : Web) (who : Str) : Web × List D := (lessM w (mineM w who), (mineM w who).flatMap dropEvs)
theorem less_ok {B : Int} : ∀ (ks : List Str) (w : Web), WebOk B w → WebOk B (lessM w ks)
  | [], w, h => h
  | k :: ks, w, h => less_ok ks (adrop w k) h.drop
theorem pl_dropEvs (p : Str) : ∀ e ∈ dropEvs p, Pl 3 e := pl_cons (pl_ev _ _) (pl_cons (pl_ev _ _) pl_nil)
theorem pl_flat {ks : List Str} : ∀ e ∈ ks.flatMap dropEvs, Pl 3 e := fun e he => by
  obtain ⟨k, _, h⟩ := List.mem_flatMap.mp he
  exact pl_dropEvs k e h
/-! done -/
def limD : Option Int → D
  | none => .non
  | some z => .int z
theorem pl_lim (n : Nat) (c : Option Int) : Pl n (limD c) := by cases c <;> cases n <;> exact True.intro
def deedM (w : Web) (lim : Option Int) (d : De) (who : Str) : Web × Option Int × D × List D :=
  match d with
  | .opn n => if lim = none then (w, some n, .tup [.str "ok", .non], []) else (w, lim, .tup [.str "no", .str "open"], [])
  | .close => if lim = none then (w, none, .tup [.str "no", .str "closed"], []) else ((withoutM w who).1, none, .tup [.str "ok", .non], (withoutM w who).2)
  | .bring => if lim = none then (w, none, .tup [.str "no", .str "closed"], []) else (w, lim, .tup [.str "ok", .non], [])
  | .all ds => if lim = none then (w, none, .tup [.str "no", .str "closed"], []) else
      let o := allM w who 0 w [] [] ds
      (o.1, lim, o.2.1, o.2.2)
  | .one d => if lim = none then (w, none, .tup [.str "no", .str "closed"], []) else
      let o := plainM w who d
      (o.web, lim, .tup [.str o.word, o.val], o.evs)
structure DeedOk (B : Int) (o : Web × Option Int × D × List D) : Prop where
  web : WebOk B o.1
  val : Pl 10 o.2.2.1
  evs : ∀ e ∈ o.2.2.2, Pl 3 e
theorem pl_ans (a : Str) (d : D) (h : Pl 3 d) : Pl 10 (.tup [.str a, d]) := Pl.tup (pl_cons (pl_str _ _) (pl_cons (h.up (by decide)) pl_nil))
theorem deed_ok {B : Int} {w : Web} {lim : Option Int} {d : De} {who : Str} (h : WebOk B w) (hB : B + 6 ≤ 300) (hd : d.Ok) : DeedOk (B + 6) (deedM w lim d who) := by
  have hu : WebOk (B + 6) w := h.up (by omega)
  unfold deedM
  split
  · split
    · exact ⟨hu, pl_ans _ _ (pl_non _), pl_nil⟩
    · exact ⟨hu, pl_ans _ _ (pl_str _ _), pl_nil⟩
  · split
    · exact ⟨hu, pl_ans _ _ (pl_str _ _), pl_nil⟩
    · exact ⟨less_ok _ _ hu, pl_ans _ _ (pl_non _), pl_flat⟩
  · split
    · exact ⟨hu, pl_ans _ _ (pl_str _ _), pl_nil⟩
    · exact ⟨hu, pl_ans _ _ (pl_non _), pl_nil⟩
  · rename_i ds
    split
    · exact ⟨hu, pl_ans _ _ (pl_str _ _), pl_nil⟩
    · have t := all_ok (who := who) ds 0 B w [] [] h h (by have := hd.2.1; omega) hd.2.2 pl_nil pl_nil
      exact ⟨t.web.up (by have := hd.2.1; omega), t.val, t.evs⟩
  · split
    · exact ⟨hu, pl_ans _ _ (pl_str _ _), pl_nil⟩
    · have t := plain_ok (who := who) h (by omega) hd
      exact ⟨t.web.up (by omega), pl_ans _ _ t.val, t.evs⟩
structure Se where
  limit : Option Int
  stamp : Int
  ans : D
  place : Int × Int
def plcD (p : Int × Int) : D := .tup [.int p.1, .int p.2]
def seD (s : Se) : D := .tup [limD s.limit, .int s.stamp, s.ans, plcD s.place]
abbrev Sess := List (Str × Se)
abbrev sessD (s : Sess) : List (Str × D) := amap seD s
def neverM : Se := ⟨none, 0, .non, (0, 0)⟩
abbrev Sta := Web × Sess
def staD (s : Sta) : D := .tup [.dct (webD s.1), .dct (sessD s.2)]
structure StaOk (B : Int) (s : Sta) : Prop where
  web : WebOk B s.1
  len : (s.2.length : Int) ≤ B
  nd : (s.2.map (·.1)).Nodup
  ans : ∀ kv ∈ s.2, Pl 10 kv.2.ans
def endM (s : Sta) (who : Str) : Sta × D × List D :=
  let e := (aget s.2 who).getD neverM
  if e.limit = none then (s, .non, []) else (((withoutM s.1 who).1, aput s.2 who ⟨none, e.stamp, e.ans, e.place⟩), .non, (withoutM s.1 who).2)
def doneM (s : Sta) (e : En) (p : Int × Int) : Sta × D × List D :=
  match e with
  | .fin who => endM s who
  | .ask who n d =>
    let e := (aget s.2 who).getD neverM
    if n ≤ e.stamp then (s, if n = e.stamp then e.ans else .non, [])
    else
      let o := deedM s.1 e.limit d who
      ((o.1, aput s.2 who ⟨o.2.1, n, o.2.2.1, p⟩), o.2.2.1, o.2.2.2)
structure StepOk (B : Int) (o : Sta × D × List D) : Prop where
  sta : StaOk B o.1
  val : Pl 10 o.2.1
  evs : ∀ e ∈ o.2.2, Pl 3 e
theorem StaOk.up {B C : Int} {s : Sta} (h : StaOk B s) (l : B ≤ C) : StaOk C s := ⟨h.web.up l, Int.le_trans h.len l, h.nd, h.ans⟩
theorem StaOk.at_ {B : Int} {s : Sta} (h : StaOk B s) (who : Str) : Pl 10 ((aget s.2 who).getD neverM).ans := by
  cases e : aget s.2 who with
  | none => exact pl_non _
  | some v => exact h.ans _ (aget_mem e)
theorem StaOk.put {B : Int} {s : Sta} {w : Web} {who : Str} {e : Se} (h : StaOk B s) (hw : WebOk (B + 6) w) (he : Pl 10 e.ans) : StaOk (B + 6) (w, aput s.2 who e) := by
  refine ⟨hw, ?_, put_nodup h.nd, fun kv m => ?_⟩
  · have := put_len (l := s.2) (k := who) (v := e)
    have := h.len
    show ((aput s.2 who e).length : Int) ≤ B + 6
    omega
  · rcases put_mem m with m | rfl
    · exact h.ans kv m
    · exact he
theorem done_ok {B : Int} {s : Sta} {e : En} {p : Int × Int} (h : StaOk B s) (hB : B + 6 ≤ 300) (he : e.Ok) : StepOk (B + 6) (doneM s e p) := by
  have hu : StaOk (B + 6) s := h.up (by omega)
  unfold doneM
  split
  · unfold endM
    dsimp only
    split
    · exact ⟨hu, pl_non _, pl_nil⟩
    · exact ⟨h.put (less_ok _ _ hu.web) (h.at_ _), pl_non _, pl_flat⟩
  · dsimp only
    split
    · refine ⟨hu, ?_, pl_nil⟩
      show Pl 10 (if _ then _ else _)
      split
      · exact h.at_ _
      · exact pl_non _
    · have t := deed_ok (lim := ((aget s.2 ‹Str›).getD neverM).limit) (who := ‹Str›) h.web hB he.2.2
      exact ⟨h.put t.web t.val, t.val, t.evs⟩
/-! rows -/
abbrev Row := List ((Int × Int) × En)
def lineD (l : (Int × Int) × En) : D := .tup [plcD l.1, l.2.d]
def rowD (r : Row) : List D := r.map lineD
def firstM : Sta := ([("/", ⟨"", 0, 0, none⟩)], [])
def stepM (s : Sta) (l : (Int × Int) × En) : Sta := (doneM s l.2 l.1).1
def staOf (r : Row) : Sta := r.foldl stepM firstM
def tellD (s : Sta) (l : (Int × Int) × En) : D := .tup [plcD l.1, (doneM s l.2 l.1).2.1, .lst (doneM s l.2 l.1).2.2]
def toldM : Sta → Row → List D
  | _, [] => []
  | s, l :: r => tellD s l :: toldM (stepM s l) r
def toldBy (r : Row) : List D := toldM firstM r
theorem first_ok : StaOk 0 firstM := by
  refine ⟨⟨by decide, by simp [firstM], fun kv m => ?_⟩, by decide, by simp [firstM], fun kv m => by cases m⟩
  have e : kv = (("/" : Str), (⟨"", 0, 0, none⟩ : Nd)) := List.mem_singleton.mp m
  subst e
  exact ⟨⟨[], pathS_nil.symm, by decide, fun p hp => by cases hp⟩, Int.le_refl _, Int.le_refl _, Int.le_refl _⟩
theorem staOf_snoc (r : Row) (l : (Int × Int) × En) : staOf (r ++ [l]) = stepM (staOf r) l := by
  unfold staOf
  rw [List.foldl_append]
  rfl
theorem staOf_ok : ∀ (r : Row) (n : Nat), r.length ≤ n → n ≤ 50 → (∀ l ∈ r, l.2.Ok) → StaOk (6 * r.length) (staOf r) := by
  intro r n hl hn h
  have key : ∀ (r : Row) (s : Sta) (B : Int), StaOk B s → B + 6 * r.length ≤ 300 → (∀ l ∈ r, l.2.Ok) → StaOk (B + 6 * r.length) (r.foldl stepM s) := by
    intro r
    induction r with
    | nil =>
      intro s B hs _ _
      simpa using hs
    | cons l r ih =>
      intro s B hs hB hr
      rw [List.length_cons] at hB ⊢
      have t := done_ok (p := l.1) hs (by omega) (hr l List.mem_cons_self)
      have t2 := ih (stepM s l) (B + 6) t.sta (by omega) fun l m => hr l (List.mem_cons_of_mem _ m)
      have e : B + 6 + 6 * (r.length : Int) = B + 6 * ((r.length + 1 : Nat) : Int) := by omega
      rw [e] at t2
      exact t2
  have := key r firstM 0 first_ok (by omega) h
  rw [Int.zero_add] at this
  exact this
theorem told_append : ∀ (r q : Row) (s : Sta), toldM s (r ++ q) = toldM s r ++ toldM (r.foldl stepM s) q
  | [], q, s => rfl
  | l :: r, q, s => by
    show tellD s l :: toldM (stepM s l) (r ++ q) = _
    rw [told_append r q]
    rfl
theorem told_len : ∀ (r : Row) (s : Sta), (toldM s r).length = r.length
  | [], _ => rfl
  | l :: r, s => congrArg Nat.succ (told_len r _)
theorem told_take (r : Row) (n : Nat) : toldBy (r.take n) = (toldBy r).take n := by
  unfold toldBy
  by_cases h : r.length ≤ n
  · rw [List.take_of_length_le h, List.take_of_length_le (by rw [told_len]; exact h)]
  · have e : toldM firstM r = toldM firstM (r.take n) ++ toldM ((r.take n).foldl stepM firstM) (r.drop n) := by
      rw [← told_append, List.take_append_drop]
    rw [e]
    have l : (toldM firstM (r.take n)).length = n := by
      rw [told_len, List.length_take]
      omega
    rw [List.take_append_of_le_length (Nat.le_of_eq l.symm)]
    exact (List.take_of_length_le (Nat.le_of_eq l)).symm
theorem told_at (r : Row) (n : Nat) (l : (Int × Int) × En) (h : r[n]? = some l) : (toldBy r)[n]? = some (tellD (staOf (r.take n)) l) := by
  obtain ⟨hn, e⟩ := List.getElem?_eq_some_iff.mp h
  have e2 : r = r.take n ++ (l :: r.drop (n + 1)) := by
    rw [← e, ← List.drop_eq_getElem_cons hn, List.take_append_drop]
  unfold toldBy
  have e3 : toldM firstM r = toldM firstM (r.take n) ++ (tellD (staOf (r.take n)) l :: toldM (stepM (staOf (r.take n)) l) (r.drop (n + 1))) := by
    have := told_append (r.take n) (l :: r.drop (n + 1)) firstM
    rw [← e2] at this
    exact this
  rw [e3]
  have l1 : (toldM firstM (r.take n)).length = n := by
    rw [told_len, List.length_take]
    omega
  rw [List.getElem?_append_right (Nat.le_of_eq l1), l1, Nat.sub_self]
  rfl
end Lg
namespace Lg
open PySem PySem.Spec PyProof.Rows L2 TL
/-! ### helpers -/
theorem brT {A B : Prop} (h : A) : (true = true → A) ∧ (true = false → B) := ⟨fun _ => h, fun z => absurd z.symm Bool.false_ne_true⟩
theorem brF {A B : Prop} (h : B) : (false = true → A) ∧ (false = false → B) := ⟨fun z => absurd z Bool.false_ne_true, fun _ => h⟩
theorem brD {p : Prop} [Decidable p] {A B : Prop} (h1 : p → A) (h2 : ¬ p → B) : (decide p = true → A) ∧ (decide p = false → B) := ⟨fun z => h1 (of_decide_eq_true z), fun z => h2 (of_decide_eq_false z)⟩
theorem brN {p : Prop} [Decidable p] {A B : Prop} (h1 : ¬ p → A) (h2 : p → B) : ((!decide p) = true → A) ∧ ((!decide p) = false → B) := ⟨fun z => h1 (by simpa using z), fun z => h2 (by simpa using z)⟩
theorem dT {p : Prop} [Decidable p] {Ψ : Bool → Prop} (h : p) (k : Ψ true) : Ψ (decide p) := by rw [decide_eq_true h]; exact k
theorem dF {p : Prop} [Decidable p] {Ψ : Bool → Prop} (h : ¬ p) (k : Ψ false) : Ψ (decide p) := by rw [decide_eq_false h]; exact k
theorem teq {neg b : Bool} {x y : D} {Ψ : Bool → Prop} (e : eqS x y = some b) (h : Ψ (if neg then !b else b)) : EqS neg x y fun z => ∃ k, z = .bl k ∧ Ψ k := ⟨b, e, _, rfl, h⟩
theorem eqS_T {x y : Str} (h : x = y) : eqS (.str x) (.str y) = some true := by show some (decide (x = y)) = _; rw [decide_eq_true h]
theorem eqS_F {x y : Str} (h : x ≠ y) : eqS (.str x) (.str y) = some false := by show some (decide (x = y)) = _; rw [decide_eq_false h]
section
variable {X : Cx} {e a b c : Expr} {ρ : List Sl} {Φ : D → Prop} {Ψ : Bool → Prop} {pos p : Pos}
/-- a test that is an and / or of tests -/
theorem small_len {z : Str} {n : Nat} (h : z.length ≤ n) (hn : n ≤ 100000 := by decide) : z.length ≤ sizeLine := sz1000 (Nat.le_trans h hn)
end
section
variable {P : Program} {w : World} {K : PySem.W.Frag} {mg : Str → Option Value} {base : Heap} {f : Addr} {fd : FuncData}
theorem at_dstrs {ps : List Str} {j : Nat} (h : j < ps.length) : (dstrs ps).getD j D.non = .str ps[j] := by
  unfold dstrs
  rw [List.getD_eq_getElem?_getD, List.getElem?_map, List.getElem?_eq_getElem h]
  rfl
/-! ### is_part -/
abbrev sPart : Stmt := topS 10
def cPart : Con := fun ds Φ => ∃ z, ds = [.str z] ∧ PartOk z ∧ Φ (.bl true)
theorem scPart : FnScope ["thing", "word", "sign", "figures", "one"] ["thing"] (defScope sPart) := ⟨rfl, rfl, rfl, by decide +kernel, rfl, by decide +kernel, by decide +kernel⟩
theorem ok_part (F : Fun K "is_part" "is_part" sPart f fd) (T : Glb K mg) (W : Fn P w K mg base 1 "is_word" ["thing"] cWord) : FnOk P w K mg base CX0 2 f fd ["thing"] (spF K cPart) := by
  refine fn_ok F scPart (fun ds Φ ⟨i, e, _⟩ => by rw [e]; rfl) fun cdv A outer s H E ds Φ hr c => ?_
  obtain ⟨z, rfl, hz, h⟩ := c
  have nd := scPart.nd
  have lz := (part_len hz).2
  refine rr_if (tt_not (tt_val (ee_isStr T.zIsi T.zStr (ee_v (i := 0) rfl ⟨_, rfl, _, rfl, brF ?_⟩))))
  refine rr_nil ?_
  rcases hz with hz | ⟨u, g, hu, hg, rfl⟩
  · have hp : Txt.partition z "-" = (z, Str.empty, Str.empty) := partition_none (s := 45) (S := []) tl_dash (word_no hz (by rw [lettersL_eq]; decide))
    refine rr_asg (ee_partition (ee_v (i := 0) rfl ⟨_, rfl, ee_s ⟨by decide +kernel, small_len lz, ?_⟩⟩))
    rw [hp]
    refine gg_tup (ggs_cons (gg_name (i := 1) nd (ggs_cons (gg_name (i := 2) nd (ggs_cons (gg_name (i := 3) nd (ggs_nil ?_))))))) rfl
    refine rr_if (tt_cmp op_eq rd_eqS (ee_v (i := 2) rfl (ee_s (teq (eqS_T rfl) (brT ?_)))))
    exact rr_ret (ee_call W hr (Nat.le_refl _) (aa_cons (ee_v (i := 1) rfl (aa_nil ⟨z, rfl, hz, h⟩))))
  · have hp : Txt.partition (u ++ "-" ++ g) "-" = (u, ("-" : Str), g) := partition_app (s := 45) (S := []) tl_dash (word_no hu (by rw [lettersL_eq]; decide))
    refine rr_asg (ee_partition (ee_v (i := 0) rfl ⟨_, rfl, ee_s ⟨by decide +kernel, small_len lz, ?_⟩⟩))
    rw [hp]
    refine gg_tup (ggs_cons (gg_name (i := 1) nd (ggs_cons (gg_name (i := 2) nd (ggs_cons (gg_name (i := 3) nd (ggs_nil ?_))))))) rfl
    refine rr_if (tt_cmp op_eq rd_eqS (ee_v (i := 2) rfl (ee_s (teq (eqS_F (show ("-" : Str) ≠ "" by decide +kernel)) (brF ?_)))))
    refine rr_nil ?_
    refine rr_ret (ee_and (ee_call W hr (Nat.le_refl _) (aa_cons (ee_v (i := 1) rfl (aa_nil ⟨u, rfl, hu, true, rfl, fun _ => ?_, fun z => by cases z⟩)))))
    refine ee_and (ee_cmp op_eq rd_eqS (ee_len T.zLen (ee_v (i := 3) rfl ⟨small_len (Nat.le_of_eq hg.1), ee_g T.manyf ⟨true, by rw [hg.1]; rfl, true, rfl, fun _ => ?_, fun z => by cases z⟩⟩)))
    refine ee_one (ee_allT (i := 4) T.zAll nd (blkOk_by (N := ["thing", "word", "sign", "figures", "one"]) (sc := defScope sPart) (by decide +kernel)) (ii_str (ee_v (i := 3) rfl ⟨g, rfl, by rw [str_size, hg.1]; decide, fun j hj s H C cl fp => ?_, h⟩)))
    refine ee_cmp op_in_sign rd_inS (ee_v (i := 4) rfl (ee_g T.figures ⟨_, _, rfl, rfl, ?_⟩))
    exact blT (hg.2 _ (sign_mem hj))
/-! ### parts_of -/
abbrev sPartsOf : Stmt := topS 11
def cPartsOf : Con := fun ds Φ => ∃ ps, ds = [.str (pathS ps)] ∧ PsOk ps ∧ Φ (.lst (dstrs ps))
theorem scPartsOf : FnScope ["path"] ["path"] (defScope sPartsOf) := ⟨rfl, rfl, rfl, by decide +kernel, rfl, by decide +kernel, by decide +kernel⟩
theorem cut1 (ps : List Str) (x : Str) : cutD (dstrs (x :: ps)) (some 1) none = dstrs ps := by
  unfold cutD dstrs
  have e : HT.sIx ((x :: ps).map D.str).length 0 (some 1) = 1 := by
    simp [HT.sIx]
  rw [e]
  show (((x :: ps).map D.str).drop 1).take _ = _
  refine List.take_of_length_le ?_
  simp [HT.sIx]
theorem ok_partsOf (F : Fun K "parts_of" "parts_of" sPartsOf f fd) (T : Glb K mg) : FnOk P w K mg base CX0 1 f fd ["path"] (spF K cPartsOf) := by
  refine fn_ok F scPartsOf (fun ds Φ ⟨i, e, _⟩ => by rw [e]; rfl) fun cdv A outer s H E ds Φ hr c => ?_
  obtain ⟨ps, rfl, hp, h⟩ := c
  have lz := path_len hp
  refine rr_ret (ee_if (tt_cmp op_eq rd_eqS (ee_v (i := 0) rfl (ee_g T.root (teq rfl (brD (fun hc => ?_) fun hc => ?_))))))
  · have e := (path_root hp).mp hc
    subst e
    exact ee_lst (aa_nil ⟨Nat.zero_le _, h⟩)
  · have hn : ps ≠ [] := fun e => hc ((path_root hp).mpr e)
    refine ee_slL (ee_split (ee_v (i := 0) rfl ⟨_, rfl, ee_s ⟨by decide +kernel, sz1000 (by omega), ?_⟩⟩))
    rw [split_path hn fun p hm => part_no (hp.2 p hm)]
    refine ee_i ⟨1, rfl, ?_⟩
    show D.lst _ |> Φ
    rw [cut1]
    exact h
/-! ### is_path -/
abbrev sIsPath : Stmt := topS 12
def cIsPath : Con := fun ds Φ => ∃ ps, ds = [.str (pathS ps)] ∧ PsOk ps ∧ Φ (.bl true)
theorem scIsPath : FnScope ["thing", "one"] ["thing"] (defScope sIsPath) := ⟨rfl, rfl, rfl, by decide +kernel, rfl, by decide +kernel, by decide +kernel⟩
theorem starts_path (ps : List Str) : Txt.startswith (pathS ps) "/" = true := by
  exact PySem.W.KT.starts_app _ _
theorem ok_isPath (F : Fun K "is_path" "is_path" sIsPath f fd) (T : Glb K mg) (W : Fn P w K mg base 1 "parts_of" ["path"] cPartsOf) (V : Fn P w K mg base 2 "is_part" ["thing"] cPart) : FnOk P w K mg base CX0 3 f fd ["thing"] (spF K cIsPath) := by
  refine fn_ok F scIsPath (fun ds Φ ⟨i, e, _⟩ => by rw [e]; rfl) fun cdv A outer s H E ds Φ hr c => ?_
  obtain ⟨ps, rfl, hp, h⟩ := c
  have nd := scIsPath.nd
  refine rr_if (tt_bool (tw_or (tt_not (tt_val (ee_isStr T.zIsi T.zStr (ee_v (i := 0) rfl ⟨_, rfl, _, rfl, brF ?_⟩))))))
  refine tw_or1 (tt_not (tt_val (ee_startswith (ee_v (i := 0) rfl ⟨_, rfl, ee_s ⟨true, by show D.bl _ = _; rw [starts_path], brF ?_⟩⟩))))
  refine rr_nil ?_
  refine rr_ret (ee_and (ee_cmp op_le rd_B0 (ee_len T.zLen (ee_call W hr (by decide) (aa_cons (ee_v (i := 0) rfl (aa_nil ⟨ps, rfl, hp, ?_⟩)))))))
  refine ee_g T.mparts ⟨true, blT ?_, fun _ => ?_, fun z => by cases z⟩
  · have := hp.1
    show ((dstrs ps).length : Int) ≤ 5
    unfold dstrs
    rw [List.length_map]
    omega
  · refine ee_one (ee_allT (i := 1) T.zAll nd (blkOk_by (N := ["thing", "one"]) (sc := defScope sIsPath) (by decide +kernel)) (ii_list (ee_call W hr (by decide) (aa_cons (ee_v (i := 0) rfl (aa_nil ⟨ps, rfl, hp, _, rfl, ?_, fun j hj s H C cl fp => ?_, h⟩))))))
    · have := hp.1
      unfold dstrs
      rw [List.length_map]
      omega
    · have hj : j < ps.length := by
        unfold dstrs at hj
        rwa [List.length_map] at hj
      exact ee_call V hr (by decide) (aa_cons (ee_v (i := 1) rfl (aa_nil ⟨_, congrArg (fun d => [d]) (at_dstrs hj), hp.2 _ (List.getElem_mem hj), rfl⟩)))
end
end Lg
namespace Lg
open PySem PySem.Spec PyProof.Rows L2 TL
section
variable {P : Program} {w : World} {K : PySem.W.Frag} {mg : Str → Option Value} {base : Heap} {f : Addr} {fd : FuncData}
/-! ### is_place -/
abbrev sPlace : Stmt := topS 13
def cPlace : Con := fun ds Φ => ∃ p : Int × Int, ds = [plcD p] ∧ 0 ≤ p.1 ∧ 0 ≤ p.2 ∧ Φ (.bl true)
theorem scPlace : FnScope ["thing", "one"] ["thing"] (defScope sPlace) := ⟨rfl, rfl, rfl, by decide +kernel, rfl, by decide +kernel, by decide +kernel⟩
theorem ok_place (F : Fun K "is_place" "is_place" sPlace f fd) (T : Glb K mg) (W : Fn P w K mg base 1 "is_whole" ["thing"] cWhole) : FnOk P w K mg base CX0 2 f fd ["thing"] (spF K cPlace) := by
  refine fn_ok F scPlace (fun ds Φ ⟨i, e, _⟩ => by rw [e]; rfl) fun cdv A outer s H E ds Φ hr c => ?_
  obtain ⟨⟨a, b⟩, rfl, ha, hb, h⟩ := c
  have nd := scPlace.nd
  refine rr_ret (ee_and (ee_isTup T.zIsi T.zTup (ee_v (i := 0) rfl ⟨_, rfl, _, rfl, fun _ => ?_, fun z => by cases z⟩)))
  refine ee_and (ee_cmp op_eq rd_eqS (ee_len T.zLen (ee_v (i := 0) rfl (ee_i ⟨true, rfl, true, rfl, fun _ => ?_, fun z => by cases z⟩))))
  refine ee_one (ee_allT (i := 1) T.zAll nd (blkOk_by (N := ["thing", "one"]) (sc := defScope sPlace) (by decide +kernel)) (ii_tup (ee_v (i := 0) rfl ⟨_, rfl, Nat.le_of_ble_eq_true rfl, fun j hj s H C cl fp => ?_, h⟩)))
  have hj : j < 2 := hj
  have e : ∃ n : Int, 0 ≤ n ∧ ([D.int a, D.int b] : List D).getD j .non = .int n := by
    match j, hj with
    | 0, _ => exact ⟨a, ha, rfl⟩
    | 1, _ => exact ⟨b, hb, rfl⟩
  obtain ⟨n, hn, e⟩ := e
  refine ee_and (ee_call W hr (by decide) (aa_cons (ee_v (i := 1) rfl (aa_nil ⟨n, congrArg (fun d => [d]) e, true, rfl, fun _ => ?_, fun z => by cases z⟩))))
  refine ee_one (ee_cmp op_ge rd_B0 (ee_v (i := 1) rfl (ee_i ?_)))
  show I2z _ (([D.int a, D.int b] : List D).getD j .non) _ _
  rw [e]
  exact blT hn
/-! ### path_of, parent_of, last_part -/
abbrev sPathOf : Stmt := topS 14
def cPathOf : Con := fun ds Φ => ∃ ps, ds = [.lst (dstrs ps)] ∧ PsOk ps ∧ Φ (.str (pathS ps))
theorem scPathOf : FnScope ["parts"] ["parts"] (defScope sPathOf) := ⟨rfl, rfl, rfl, by decide +kernel, rfl, by decide +kernel, by decide +kernel⟩
theorem parts_sum : ∀ {ps : List Str}, (∀ p ∈ ps, PartOk p) → (ps.map (·.length)).sum ≤ 15 * ps.length
  | [], _ => Nat.zero_le _
  | p :: ps, h => by
    have l := (part_len (h p List.mem_cons_self)).2
    have t := parts_sum fun q m => h q (List.mem_cons_of_mem _ m)
    rw [List.map_cons, List.sum_cons, List.length_cons]
    omega
theorem ok_pathOf (F : Fun K "path_of" "path_of" sPathOf f fd) (T : Glb K mg) : FnOk P w K mg base CX0 1 f fd ["parts"] (spF K cPathOf) := by
  refine fn_ok F scPathOf (fun ds Φ ⟨i, e, _⟩ => by rw [e]; rfl) fun cdv A outer s H E ds Φ hr c => ?_
  obtain ⟨ps, rfl, hp, h⟩ := c
  have l1 := parts_sum hp.2
  have l2 := hp.1
  have l3 := join_len hp.2
  refine rr_ret (ee_adds (ee_g T.root (ee_join (ee_s ⟨_, rfl, ee_v (i := 0) rfl ⟨ps, rfl, ?_, ?_, ?_⟩⟩))))
  · rw [len_slash]
    omega
  · rw [join_eq, len_slash]
    exact sz1000 (by omega)
  · rw [join_eq]
    exact h
abbrev sParentOf : Stmt := topS 15
def cParentOf : Con := fun ds Φ => ∃ ps, ds = [.str (pathS ps)] ∧ PsOk ps ∧ Φ (.str (pathS ps.dropLast))
theorem scParentOf : FnScope ["path"] ["path"] (defScope sParentOf) := ⟨rfl, rfl, rfl, by decide +kernel, rfl, by decide +kernel, by decide +kernel⟩
theorem cutLast (ps : List Str) : cutD (dstrs ps) none (some (-1)) = dstrs ps.dropLast := by
  unfold cutD dstrs
  have e0 : HT.sIx (ps.map D.str).length 0 none = 0 := rfl
  have e1 : HT.sIx (ps.map D.str).length (ps.map D.str).length (some (-1)) = ps.length - 1 := by
    simp [HT.sIx]
    omega
  rw [e0, e1, List.drop_zero, Nat.sub_zero, ← List.map_take, List.dropLast_eq_take]
theorem ok_parentOf (F : Fun K "parent_of" "parent_of" sParentOf f fd) (T : Glb K mg) (V : Fn P w K mg base 1 "path_of" ["parts"] cPathOf) (W : Fn P w K mg base 1 "parts_of" ["path"] cPartsOf) : FnOk P w K mg base CX0 2 f fd ["path"] (spF K cParentOf) := by
  refine fn_ok F scParentOf (fun ds Φ ⟨i, e, _⟩ => by rw [e]; rfl) fun cdv A outer s H E ds Φ hr c => ?_
  obtain ⟨ps, rfl, hp, h⟩ := c
  refine rr_ret (ee_call V hr (by decide) (aa_cons (ee_slL (ee_call W hr (by decide) (aa_cons (ee_v (i := 0) rfl (aa_nil ⟨ps, rfl, hp, ?_⟩)))))))
  refine ee_neg (ee_i ⟨1, rfl, _, rfl, ?_⟩)
  exact aa_nil ⟨ps.dropLast, by rw [← cutLast], ps_drop hp, h⟩
abbrev sLastPart : Stmt := topS 16
def cLastPart : Con := fun ds Φ => ∃ ps, ds = [.str (pathS ps)] ∧ PsOk ps ∧ ps ≠ [] ∧ Φ (.str (ps.getLastD ""))
theorem scLastPart : FnScope ["path"] ["path"] (defScope sLastPart) := ⟨rfl, rfl, rfl, by decide +kernel, rfl, by decide +kernel, by decide +kernel⟩
theorem atLast {ps : List Str} (h : ps ≠ []) : atI (dstrs ps) (-1) = some (.str (ps.getLastD "")) := by
  obtain ⟨q, p, rfl⟩ : ∃ q p, ps = q ++ [p] := ⟨ps.dropLast, ps.getLast h, (List.dropLast_concat_getLast h).symm⟩
  unfold atI dstrs
  have e : (-1 + ((q.length : Int) + 1)).toNat = q.length := by omega
  have l : (1 : Int) ≤ (q.length : Int) + 1 := by omega
  simp [ixN, e, l]
theorem ok_lastPart (F : Fun K "last_part" "last_part" sLastPart f fd) (T : Glb K mg) (W : Fn P w K mg base 1 "parts_of" ["path"] cPartsOf) : FnOk P w K mg base CX0 2 f fd ["path"] (spF K cLastPart) := by
  refine fn_ok F scLastPart (fun ds Φ ⟨i, e, _⟩ => by rw [e]; rfl) fun cdv A outer s H E ds Φ hr c => ?_
  obtain ⟨ps, rfl, hp, hn, h⟩ := c
  refine rr_ret (ee_ixL (ee_call W hr (by decide) (aa_cons (ee_v (i := 0) rfl (aa_nil ⟨ps, rfl, hp, ?_⟩)))))
  exact ee_neg (ee_i ⟨1, rfl, _, atLast hn, h⟩)
/-! ### is_text, is_count -/
abbrev sText : Stmt := topS 25
def cText : Con := fun ds Φ => ∃ z, ds = [.str z] ∧ TextOk z ∧ Φ (.bl true)
theorem scText : FnScope ["thing", "sign"] ["thing"] (defScope sText) := ⟨rfl, rfl, rfl, by decide +kernel, rfl, by decide +kernel, by decide +kernel⟩
theorem ok_text (F : Fun K "is_text" "is_text" sText f fd) (T : Glb K mg) : FnOk P w K mg base CX0 1 f fd ["thing"] (spF K cText) := by
  refine fn_ok F scText (fun ds Φ ⟨i, e, _⟩ => by rw [e]; rfl) fun cdv A outer s H E ds Φ hr c => ?_
  obtain ⟨z, rfl, ⟨h1, h3⟩, h⟩ := c
  have nd := scText.nd
  refine rr_ret (ee_and (ee_isStr T.zIsi T.zStr (ee_v (i := 0) rfl ⟨_, rfl, _, rfl, fun _ => ?_, fun z => by cases z⟩)))
  refine ee_and (ee_cmp op_le rd_B0 (ee_len T.zLen (ee_v (i := 0) rfl ⟨small_len h1, ee_g T.mtext ⟨true, blT (by omega), fun _ => ?_, fun z => by cases z⟩⟩)))
  refine ee_one (ee_allT (i := 1) T.zAll nd (blkOk_by (N := ["thing", "sign"]) (sc := defScope sText) (by decide +kernel)) (ii_str (ee_v (i := 0) rfl ⟨z, rfl, by rw [str_size]; omega, fun j hj s H C cl fp => ?_, h⟩)))
  obtain ⟨c1, c2⟩ := h3 _ (sign_mem hj)
  refine ee_chain op_le_str (rd_S0 (g := fun i j => !decide (j.cps.toList < i.cps.toList))) op_le_str (rd_S0 (g := fun i j => !decide (j.cps.toList < i.cps.toList))) (ee_s (ee_v (i := 1) rfl ?_))
  have e32 : (" " : Str).cps.toList = [32] := by decide +kernel
  have e126 : ("~" : Str).cps.toList = [126] := by decide +kernel
  refine ⟨true, ?_, fun _ => ee_s ?_, fun z => by cases z⟩
  · show D.bl (!decide (([z.cps.getD j 0] : List Nat) < (" " : Str).cps.toList)) = _
    rw [e32, decide_eq_false]
    · rfl
    · intro hl
      have := List.cons_lt_cons_iff.mp hl
      rcases this with h | ⟨_, h⟩
      · omega
      · exact absurd h (List.not_lt_nil _)
  · show D.bl (!decide (("~" : Str).cps.toList < ([z.cps.getD j 0] : List Nat))) = _
    rw [e126, decide_eq_false]
    · rfl
    · intro hl
      have := List.cons_lt_cons_iff.mp hl
      rcases this with h | ⟨_, h⟩
      · omega
      · exact absurd h (List.not_lt_nil _)
abbrev sCount : Stmt := topS 26
def cCount : Con := fun ds Φ => ∃ c, ds = [cntD c] ∧ CntOk c ∧ Φ (.bl true)
theorem scCount : FnScope ["thing"] ["thing"] (defScope sCount) := ⟨rfl, rfl, rfl, by decide +kernel, rfl, by decide +kernel, by decide +kernel⟩
theorem ok_count (F : Fun K "is_count" "is_count" sCount f fd) (T : Glb K mg) (W : Fn P w K mg base 1 "is_whole" ["thing"] cWhole) : FnOk P w K mg base CX0 2 f fd ["thing"] (spF K cCount) := by
  refine fn_ok F scCount (fun ds Φ ⟨i, e, _⟩ => by rw [e]; rfl) fun cdv A outer s H E ds Φ hr c => ?_
  obtain ⟨c, rfl, hc, h⟩ := c
  cases c with
  | none => exact rr_ret (ee_or (ee_cmp op_isN rd_isN (ee_v (i := 0) rfl (ee_n ⟨rfl, true, rfl, true, rfl, fun _ => h, fun z => by cases z⟩))))
  | some n =>
    refine rr_ret (ee_or (ee_cmp op_isN rd_isN (ee_v (i := 0) rfl (ee_n ⟨rfl, false, rfl, false, rfl, (fun z => by cases z), fun _ => ?_⟩))))
    refine ee_one (ee_and (ee_call W hr (by decide) (aa_cons (ee_v (i := 0) rfl (aa_nil ⟨n, rfl, true, rfl, fun _ => ?_, fun z => by cases z⟩)))))
    refine ee_one (ee_cmp op_ge rd_B0 (ee_v (i := 0) rfl (ee_i ?_)))
    show Φ (.bl (decide ((0 : Int) ≤ n)))
    rw [decide_eq_true (hc n rfl)]
    exact h
/-! ### is_make -/
abbrev sIsMake : Stmt := topS 27
def cIsMake : Con := fun ds Φ => ∃ ps t o n, ds = [.str (pathS ps), .lst [.str t, .bl o, .bl n]] ∧ PsOk ps ∧ ps ≠ [] ∧ TextOk t ∧ (n = true → WordOk (ps.getLastD "")) ∧ Φ (.bl true)
theorem scIsMake : FnScope ["path", "rest", "text", "own", "numbered"] ["path", "rest"] (defScope sIsMake) := ⟨rfl, rfl, rfl, by decide +kernel, rfl, by decide +kernel, by decide +kernel⟩
theorem ok_isMake (F : Fun K "is_make" "is_make" sIsMake f fd) (T : Glb K mg) (W : Fn P w K mg base 1 "is_word" ["thing"] cWord) (V : Fn P w K mg base 1 "is_text" ["thing"] cText) (U : Fn P w K mg base 2 "last_part" ["path"] cLastPart) : FnOk P w K mg base CX0 3 f fd ["path", "rest"] (spF K cIsMake) := by
  refine fn_ok F scIsMake (fun ds Φ ⟨_, _, _, _, e, _⟩ => by rw [e]; rfl) fun cdv A outer s H E ds Φ hr c => ?_
  obtain ⟨ps, t, o, n, rfl, hp, hn, ht, hw, h⟩ := c
  have nd := scIsMake.nd
  refine rr_asg (ee_v (i := 1) rfl ?_)
  refine gg_lst (ggs_cons (gg_name (i := 2) nd (ggs_cons (gg_name (i := 3) nd (ggs_cons (gg_name (i := 4) nd (ggs_nil ?_))))))) rfl
  refine rr_if (tt_bool (tw_or (tt_cmp op_eq rd_eqS (ee_v (i := 0) rfl (ee_g T.root (teq (eqS_F fun e => hn ((path_root hp).mp e)) (brF ?_)))))))
  refine tw_or (tt_not (tt_val (ee_call V hr (by decide) (aa_cons (ee_v (i := 2) rfl (aa_nil ⟨t, rfl, ht, _, rfl, brF ?_⟩))))))
  refine tw_or (tt_not (tt_val (ee_isBool T.zIsi T.zBool (ee_v (i := 3) rfl ⟨_, rfl, _, rfl, brF ?_⟩))))
  refine tw_or1 (tt_not (tt_val (ee_isBool T.zIsi T.zBool (ee_v (i := 4) rfl ⟨_, rfl, _, rfl, brF ?_⟩))))
  refine rr_nil (rr_ret (ee_or (ee_not (ee_v (i := 4) rfl ⟨n, rfl, _, rfl, fun e => h, fun e => ?_⟩))))
  have en : n = true := by simpa using e
  exact ee_one (ee_call W hr (by decide) (aa_cons (ee_call U hr (by decide) (aa_cons (ee_v (i := 0) rfl (aa_nil ⟨ps, rfl, hp, hn, aa_nil ⟨_, rfl, hw en, h⟩⟩))))))
end
end Lg
namespace Lg
open PySem PySem.Spec PyProof.Rows L2 TL
theorem at0 {α : Type} (x : α) (xs : List α) : atI (x :: xs) 0 = some x := by
  unfold atI
  have e : ixN (x :: xs).length 0 = some 0 := by
    unfold ixN
    rw [if_pos (Int.le_refl _), if_pos (by rw [List.length_cons]; omega)]
    rfl
  rw [e]
  rfl
theorem at1 {α : Type} (x y : α) (xs : List α) : atI (x :: y :: xs) 1 = some y := by
  unfold atI
  have e : ixN (x :: y :: xs).length 1 = some 1 := by
    unfold ixN
    rw [if_pos (by decide), if_pos (by rw [List.length_cons, List.length_cons]; omega)]
    rfl
  rw [e]
  rfl
def Dd.word : Dd → Str
  | .make .. => "make"
  | .put .. => "put"
  | .drop .. => "drop"
  | .see .. => "see"
def Dd.path : Dd → Str
  | .make p .. => p
  | .put p .. => p
  | .drop p .. => p
  | .see p .. => p
def Dd.rest : Dd → List D
  | .make _ t o n => [.str t, .bl o, .bl n]
  | .put _ t c => [.str t, cntD c]
  | .drop _ c => [cntD c]
  | .see _ c => [cntD c]
theorem Dd.d_eq (d : Dd) : d.d = .tup (.str d.word :: .str d.path :: d.rest) := by cases d <;> rfl
theorem Dd.rest_len (d : Dd) : 1 ≤ d.rest.length ∧ d.rest.length ≤ 3 := by cases d <;> exact ⟨Nat.le_of_ble_eq_true rfl, Nat.le_of_ble_eq_true rfl⟩
theorem Dd.key {d : Dd} (h : d.Ok) : KeyOk d.path := by
  cases d with
  | make => obtain ⟨ps, e, hp, _⟩ := h; exact ⟨ps, e, hp⟩
  | put => exact h.1
  | drop => obtain ⟨⟨ps, e, hp, _⟩, _⟩ := h; exact ⟨ps, e, hp⟩
  | see => exact h.1
/-- the dict LONG -/
structure LongOk (K : PySem.W.Frag) (w : World) (mg : Str → Option Value) : Prop where
  make : KHas K w mg "LONG" "make" 5
  put : KHas K w mg "LONG" "put" 4
  drop : KHas K w mg "LONG" "drop" 3
  see : KHas K w mg "LONG" "see" 3
theorem LongOk.at_ {K : PySem.W.Frag} {w : World} {mg : Str → Option Value} (L : LongOk K w mg) (d : Dd) : KHas K w mg "LONG" d.word ((d.rest.length + 2 : Nat) : Int) := by
  cases d with
  | make => exact L.make
  | put => exact L.put
  | drop => exact L.drop
  | see => exact L.see
section
variable {P : Program} {w : World} {K : PySem.W.Frag} {mg : Str → Option Value} {base : Heap} {f : Addr} {fd : FuncData}
/-! ### is_plain -/
abbrev sPlain : Stmt := topS 28
def cPlain : Con := fun ds Φ => (∃ d : Dd, ds = [d.d] ∧ d.Ok ∧ Φ (.bl true)) ∨ ∃ es, ds = [.tup es] ∧ es.length < 3 ∧ Φ (.bl false)
theorem scPlain : FnScope ["thing", "word", "path", "rest"] ["thing"] (defScope sPlain) := ⟨rfl, rfl, rfl, by decide +kernel, rfl, by decide +kernel, by decide +kernel⟩
theorem ok_plain (F : Fun K "is_plain" "is_plain" sPlain f fd) (T : Glb K mg) (L : LongOk K w mg) (V : Fn P w K mg base 1 "is_text" ["thing"] cText) (U : Fn P w K mg base 3 "is_path" ["thing"] cIsPath) (C : Fn P w K mg base 2 "is_count" ["thing"] cCount) (M : Fn P w K mg base 3 "is_make" ["path", "rest"] cIsMake) : FnOk P w K mg base CX0 4 f fd ["thing"] (spF K cPlain) := by
  refine fn_ok F scPlain (fun ds Φ h => by rcases h with ⟨_, e, _⟩ | ⟨_, e, _⟩ <;> rw [e] <;> rfl) fun cdv A outer s H E ds Φ hr c => ?_
  have nd := scPlain.nd
  rcases c with ⟨d, rfl, hd, h⟩ | ⟨es, rfl, hl, h⟩
  · rw [d.d_eq]
    have hl := d.rest_len
    refine rr_if (tt_bool (tw_or (tt_not (tt_val (ee_isTup T.zIsi T.zTup (ee_v (i := 0) rfl ⟨_, rfl, _, rfl, brF ?_⟩))))))
    refine tw_or (tt_cmp op_lt rd_B0 (ee_len T.zLen (ee_v (i := 0) rfl (ee_i ⟨false, blF (by simp only [List.length_cons]; omega), brF ?_⟩))))
    refine tw_or1 (tt_not (tt_val (ee_isStr T.zIsi T.zStr (ee_ixT (ee_v (i := 0) rfl (ee_i ⟨_, at0 _ _, _, rfl, _, rfl, brF ?_⟩))))))
    refine rr_nil (rr_star (i := 1) (j := 2) (l := 3) nd (ee_v (i := 0) rfl ⟨_, _, _, rfl, by omega, ?_⟩))
    obtain ⟨ps, ep, hp⟩ := Dd.key hd
    refine rr_if (tt_bool (tw_or (tt_cmp op_ne rd_neS (ee_kget (L.at_ d) (ee_v (i := 1) rfl ⟨rfl, ee_len T.zLen (ee_v (i := 0) rfl (teq (b := true) ?_ (brF ?_)))⟩)))))
    · show some (decide _) = _
      rw [decide_eq_true (by simp only [List.length_cons])]
    refine tw_or1 (tt_not (tt_val (ee_call U hr (by decide) (aa_cons (ee_v (i := 2) rfl (aa_nil ⟨ps, by rw [ep], hp, _, rfl, brF ?_⟩))))))
    refine rr_nil ?_
    cases d with
    | make p t o n =>
      obtain ⟨qs, e2, hq, hn, ht, hw⟩ := hd
      refine rr_if (tt_cmp op_eq rd_eqS (ee_v (i := 1) rfl (ee_s (teq (eqS_T rfl) (brT ?_)))))
      exact rr_ret (ee_call M hr (by decide) (aa_cons (ee_v (i := 2) rfl (aa_cons (ee_v (i := 3) rfl (aa_nil ⟨qs, t, o, n, by rw [← e2]; rfl, hq, hn, ht, hw, h⟩))))))
    | put p t c =>
      obtain ⟨hk, ht, hc⟩ := hd
      refine rr_if (tt_cmp op_eq rd_eqS (ee_v (i := 1) rfl (ee_s (teq (eqS_F (show ("put" : Str) ≠ "make" by decide +kernel)) (brF ?_)))))
      refine rr_nil ?_
      refine rr_if (tt_cmp op_eq rd_eqS (ee_v (i := 1) rfl (ee_s (teq (eqS_T rfl) (brT ?_)))))
      refine rr_ret (ee_and (ee_call V hr (by decide) (aa_cons (ee_ixL (ee_v (i := 3) rfl (ee_i ⟨_, rfl, aa_nil ⟨t, rfl, ht, true, rfl, fun _ => ?_, fun z => by cases z⟩⟩))))))
      exact ee_one (ee_call C hr (by decide) (aa_cons (ee_ixL (ee_v (i := 3) rfl (ee_i ⟨_, rfl, aa_nil ⟨c, rfl, hc, h⟩⟩)))))
    | drop p c =>
      obtain ⟨⟨qs, e2, hq, hn⟩, hc⟩ := hd
      refine rr_if (tt_cmp op_eq rd_eqS (ee_v (i := 1) rfl (ee_s (teq (eqS_F (show ("drop" : Str) ≠ "make" by decide +kernel)) (brF ?_)))))
      refine rr_nil ?_
      refine rr_if (tt_cmp op_eq rd_eqS (ee_v (i := 1) rfl (ee_s (teq (eqS_F (show ("drop" : Str) ≠ "put" by decide +kernel)) (brF ?_)))))
      refine rr_nil ?_
      refine rr_ret (ee_and (ee_call C hr (by decide) (aa_cons (ee_ixL (ee_v (i := 3) rfl (ee_i ⟨_, rfl, aa_nil ⟨c, rfl, hc, true, rfl, fun _ => ?_, fun z => by cases z⟩⟩))))))
      refine ee_one (ee_or (ee_cmp op_eq rd_eqS (ee_v (i := 1) rfl (ee_s ⟨false, eqS_F (show ("drop" : Str) ≠ "see" by decide +kernel), false, rfl, (fun z => by cases z), fun _ => ?_⟩))))
      refine ee_one (ee_cmp op_ne rd_neS (ee_v (i := 2) rfl (ee_g T.root ⟨false, eqS_F ?_, h⟩)))
      rw [e2]
      exact fun z => hn ((path_root hq).mp z)
    | see p c =>
      obtain ⟨hk, hc⟩ := hd
      refine rr_if (tt_cmp op_eq rd_eqS (ee_v (i := 1) rfl (ee_s (teq (eqS_F (show ("see" : Str) ≠ "make" by decide +kernel)) (brF ?_)))))
      refine rr_nil ?_
      refine rr_if (tt_cmp op_eq rd_eqS (ee_v (i := 1) rfl (ee_s (teq (eqS_F (show ("see" : Str) ≠ "put" by decide +kernel)) (brF ?_)))))
      refine rr_nil ?_
      refine rr_ret (ee_and (ee_call C hr (by decide) (aa_cons (ee_ixL (ee_v (i := 3) rfl (ee_i ⟨_, rfl, aa_nil ⟨c, rfl, hc, true, rfl, fun _ => ?_, fun z => by cases z⟩⟩))))))
      exact ee_one (ee_or (ee_cmp op_eq rd_eqS (ee_v (i := 1) rfl (ee_s ⟨true, eqS_T rfl, true, rfl, (fun _ => h), fun z => by cases z⟩))))
  · refine rr_if (tt_bool (tw_or (tt_not (tt_val (ee_isTup T.zIsi T.zTup (ee_v (i := 0) rfl ⟨_, rfl, _, rfl, brF ?_⟩))))))
    refine tw_or (tt_cmp op_lt rd_B0 (ee_len T.zLen (ee_v (i := 0) rfl (ee_i ⟨true, blT (by omega), brT (brT ?_)⟩))))
    exact rr_ret (ee_b h)
/-! ### is_deed -/
abbrev sDeed : Stmt := topS 43
def cDeed : Con := fun ds Φ => ∃ d : De, ds = [d.d] ∧ d.Ok ∧ Φ (.bl true)
theorem scDeed : FnScope ["thing", "one"] ["thing"] (defScope sDeed) := ⟨rfl, rfl, rfl, by decide +kernel, rfl, by decide +kernel, by decide +kernel⟩
theorem isD_ne {x y : Str} (h : x ≠ y) : (V.str x : V) ≠ .str y := fun z => h (by injection z)
theorem ok_deed (F : Fun K "is_deed" "is_deed" sDeed f fd) (T : Glb K mg) (V : Fn P w K mg base 4 "is_plain" ["thing"] cPlain) (W : Fn P w K mg base 1 "is_whole" ["thing"] cWhole) : FnOk P w K mg base CX0 5 f fd ["thing"] (spF K cDeed) := by
  refine fn_ok F scDeed (fun ds Φ ⟨_, e, _⟩ => by rw [e]; rfl) fun cdv A outer s H E ds Φ hr c => ?_
  have nd := scDeed.nd
  obtain ⟨d, rfl, hd, h⟩ := c
  have hu := hr.units
  cases d with
  | one d =>
    refine rr_if (tt_val (ee_call V hr (by decide) (aa_cons (ee_v (i := 0) rfl (aa_nil (.inl ⟨d, rfl, hd, _, rfl, brT ?_⟩))))))
    exact rr_ret (ee_b h)
  | close =>
    refine rr_if (tt_val (ee_call V hr (by decide) (aa_cons (ee_v (i := 0) rfl (aa_nil (.inr ⟨_, rfl, Nat.le_of_ble_eq_true rfl, _, rfl, brF ?_⟩))))))
    refine rr_nil (rr_if (tt_bool (tw_or (tt_not (tt_val (ee_isTup T.zIsi T.zTup (ee_v (i := 0) rfl ⟨_, rfl, _, rfl, brF ?_⟩)))))))
    refine tw_or (tt_cmp (op_eqP hu) rd_eqD (ee_v (i := 0) rfl (ee_tup (aa_nil ⟨Nat.zero_le _, ⟨pl_de 57 De.close, Pl.tup pl_nil, false, rfl, _, rfl, brF ?_⟩⟩))))
    refine tw_or1 (tt_not (tt_val (ee_isStr T.zIsi T.zStr (ee_ixT (ee_v (i := 0) rfl (ee_i ⟨_, at0 _ _, _, rfl, _, rfl, brF ?_⟩))))))
    refine rr_nil (rr_if (tt_cmp op_in_seq rd_inT (ee_ixT (ee_v (i := 0) rfl (ee_i ⟨_, at0 _ _, ?_⟩)))))
    refine ee_tup (aa_cons (ee_s (aa_cons (ee_s (aa_nil ⟨Nat.le_of_ble_eq_true rfl, ⟨_, _, _, rfl, rfl, rfl, rfl, rfl, true, ?_, brT ?_⟩⟩)))))
    · refine congrArg D.bl ?_
      decide +kernel
    · exact rr_ret (ee_cmp op_eq rd_eqS (ee_len T.zLen (ee_v (i := 0) rfl (ee_i ⟨true, rfl, h⟩))))
  | bring =>
    refine rr_if (tt_val (ee_call V hr (by decide) (aa_cons (ee_v (i := 0) rfl (aa_nil (.inr ⟨_, rfl, Nat.le_of_ble_eq_true rfl, _, rfl, brF ?_⟩))))))
    refine rr_nil (rr_if (tt_bool (tw_or (tt_not (tt_val (ee_isTup T.zIsi T.zTup (ee_v (i := 0) rfl ⟨_, rfl, _, rfl, brF ?_⟩)))))))
    refine tw_or (tt_cmp (op_eqP hu) rd_eqD (ee_v (i := 0) rfl (ee_tup (aa_nil ⟨Nat.zero_le _, ⟨pl_de 57 De.bring, Pl.tup pl_nil, false, rfl, _, rfl, brF ?_⟩⟩))))
    refine tw_or1 (tt_not (tt_val (ee_isStr T.zIsi T.zStr (ee_ixT (ee_v (i := 0) rfl (ee_i ⟨_, at0 _ _, _, rfl, _, rfl, brF ?_⟩))))))
    refine rr_nil (rr_if (tt_cmp op_in_seq rd_inT (ee_ixT (ee_v (i := 0) rfl (ee_i ⟨_, at0 _ _, ?_⟩)))))
    refine ee_tup (aa_cons (ee_s (aa_cons (ee_s (aa_nil ⟨Nat.le_of_ble_eq_true rfl, ⟨_, _, _, rfl, rfl, rfl, rfl, rfl, true, ?_, brT ?_⟩⟩)))))
    · refine congrArg D.bl ?_
      decide +kernel
    · exact rr_ret (ee_cmp op_eq rd_eqS (ee_len T.zLen (ee_v (i := 0) rfl (ee_i ⟨true, rfl, h⟩))))
  | opn n =>
    refine rr_if (tt_val (ee_call V hr (by decide) (aa_cons (ee_v (i := 0) rfl (aa_nil (.inr ⟨_, rfl, Nat.le_of_ble_eq_true rfl, _, rfl, brF ?_⟩))))))
    refine rr_nil (rr_if (tt_bool (tw_or (tt_not (tt_val (ee_isTup T.zIsi T.zTup (ee_v (i := 0) rfl ⟨_, rfl, _, rfl, brF ?_⟩)))))))
    refine tw_or (tt_cmp (op_eqP hu) rd_eqD (ee_v (i := 0) rfl (ee_tup (aa_nil ⟨Nat.zero_le _, ⟨pl_de 57 (De.opn n), Pl.tup pl_nil, false, rfl, _, rfl, brF ?_⟩⟩))))
    refine tw_or1 (tt_not (tt_val (ee_isStr T.zIsi T.zStr (ee_ixT (ee_v (i := 0) rfl (ee_i ⟨_, at0 _ _, _, rfl, _, rfl, brF ?_⟩))))))
    refine rr_nil (rr_if (tt_cmp op_in_seq rd_inT (ee_ixT (ee_v (i := 0) rfl (ee_i ⟨_, at0 _ _, ?_⟩)))))
    refine ee_tup (aa_cons (ee_s (aa_cons (ee_s (aa_nil ⟨Nat.le_of_ble_eq_true rfl, ⟨_, _, _, rfl, rfl, rfl, rfl, rfl, false, ?_, brF ?_⟩⟩)))))
    · refine congrArg D.bl ?_
      decide +kernel
    refine rr_nil (rr_if (tt_cmp op_ne rd_neS (ee_len T.zLen (ee_v (i := 0) rfl (ee_i (teq (b := true) rfl (brF ?_)))))))
    refine rr_nil (rr_if (tt_cmp op_eq rd_eqS (ee_ixT (ee_v (i := 0) rfl (ee_i ⟨_, at0 _ _, ee_s (teq (eqS_T rfl) (brT ?_))⟩)))))
    refine rr_ret (ee_and (ee_call W hr (by decide) (aa_cons (ee_ixT (ee_v (i := 0) rfl (ee_i ⟨_, at1 _ _ _, aa_nil ⟨n, rfl, true, rfl, fun _ => ?_, fun z => by cases z⟩⟩))))))
    refine ee_one (ee_chain op_le rd_B0 op_le rd_B0 (ee_i (ee_ixT (ee_v (i := 0) rfl (ee_i ⟨_, at1 _ _ _, true, blT hd.1, fun _ => ee_g T.mlimit ?_, fun z => by cases z⟩)))))
    show Φ (.bl (decide (n ≤ 1000)))
    rw [decide_eq_true hd.2]
    exact h
  | all es =>
    refine rr_if (tt_val (ee_call V hr (by decide) (aa_cons (ee_v (i := 0) rfl (aa_nil (.inr ⟨_, rfl, Nat.le_of_ble_eq_true rfl, _, rfl, brF ?_⟩))))))
    refine rr_nil (rr_if (tt_bool (tw_or (tt_not (tt_val (ee_isTup T.zIsi T.zTup (ee_v (i := 0) rfl ⟨_, rfl, _, rfl, brF ?_⟩)))))))
    refine tw_or (tt_cmp (op_eqP hu) rd_eqD (ee_v (i := 0) rfl (ee_tup (aa_nil ⟨Nat.zero_le _, ⟨pl_de 57 (De.all es), Pl.tup pl_nil, false, rfl, _, rfl, brF ?_⟩⟩))))
    refine tw_or1 (tt_not (tt_val (ee_isStr T.zIsi T.zStr (ee_ixT (ee_v (i := 0) rfl (ee_i ⟨_, at0 _ _, _, rfl, _, rfl, brF ?_⟩))))))
    refine rr_nil (rr_if (tt_cmp op_in_seq rd_inT (ee_ixT (ee_v (i := 0) rfl (ee_i ⟨_, at0 _ _, ?_⟩)))))
    refine ee_tup (aa_cons (ee_s (aa_cons (ee_s (aa_nil ⟨Nat.le_of_ble_eq_true rfl, ⟨_, _, _, rfl, rfl, rfl, rfl, rfl, false, ?_, brF ?_⟩⟩)))))
    · refine congrArg D.bl ?_
      decide +kernel
    refine rr_nil (rr_if (tt_cmp op_ne rd_neS (ee_len T.zLen (ee_v (i := 0) rfl (ee_i (teq (b := true) rfl (brF ?_)))))))
    refine rr_nil (rr_if (tt_cmp op_eq rd_eqS (ee_ixT (ee_v (i := 0) rfl (ee_i ⟨_, at0 _ _, ee_s (teq (eqS_F (show ("all" : Str) ≠ "open" by decide +kernel)) (brF ?_))⟩)))))
    refine rr_nil (rr_if (tt_bool (tw_or (tt_cmp op_ne rd_neS (ee_ixT (ee_v (i := 0) rfl (ee_i ⟨_, at0 _ _, ee_s (teq (eqS_T rfl) (brF ?_))⟩)))))))
    refine tw_or1 (tt_not (tt_val (ee_isTup T.zIsi T.zTup (ee_ixT (ee_v (i := 0) rfl (ee_i ⟨_, at1 _ _ _, _, rfl, _, rfl, brF ?_⟩))))))
    obtain ⟨h1, h2, h3⟩ := hd
    have hl : (es.map Dd.d).length = es.length := List.length_map ..
    refine rr_nil (rr_ret (ee_and (ee_chain op_le rd_B0 op_le rd_B0 (ee_i (ee_len T.zLen (ee_ixT (ee_v (i := 0) rfl (ee_i ⟨_, at1 _ _ _, ?_⟩))))))))
    refine ⟨true, blT (by rw [hl]; omega), fun _ => ee_g T.mdeeds ⟨true, blT (by rw [hl]; omega), fun _ => ?_, fun z => by cases z⟩, fun z => by cases z⟩
    refine ee_one (ee_allT (i := 1) T.zAll nd (blkOk_by (N := ["thing", "one"]) (sc := defScope sDeed) (by decide +kernel)) (ii_tup (ee_ixT (ee_v (i := 0) rfl (ee_i ⟨_, at1 _ _ _, _, rfl, by rw [hl]; omega, fun j hj s H C cl fp => ?_, h⟩)))))
    have hj' : j < es.length := by rw [← hl]; exact hj
    have e : (es.map Dd.d).getD j .non = es[j].d := by
      rw [List.getD_eq_getElem?_getD, List.getElem?_map, List.getElem?_eq_getElem hj']
      rfl
    exact ee_call V hr (by decide) (aa_cons (ee_v (i := 1) rfl (aa_nil (.inl ⟨es[j], congrArg (fun d => [d]) e, h3 _ (List.getElem_mem hj'), rfl⟩))))
/-! ### is_entry -/
abbrev sEntry : Stmt := topS 44
def cEntry : Con := fun ds Φ => ∃ e : En, ds = [e.d] ∧ e.Ok ∧ Φ (.bl true)
theorem scEntry : FnScope ["thing"] ["thing"] (defScope sEntry) := ⟨rfl, rfl, rfl, by decide +kernel, rfl, by decide +kernel, by decide +kernel⟩
theorem ok_entry (F : Fun K "is_entry" "is_entry" sEntry f fd) (T : Glb K mg) (V : Fn P w K mg base 1 "is_word" ["thing"] cWord) (W : Fn P w K mg base 1 "is_whole" ["thing"] cWhole) (U : Fn P w K mg base 5 "is_deed" ["thing"] cDeed) : FnOk P w K mg base CX0 6 f fd ["thing"] (spF K cEntry) := by
  refine fn_ok F scEntry (fun ds Φ ⟨_, e, _⟩ => by rw [e]; rfl) fun cdv A outer s H E ds Φ hr c => ?_
  have nd := scEntry.nd
  obtain ⟨e, rfl, he, h⟩ := c
  cases e with
  | fin who =>
    refine rr_if (tt_bool (tw_or (tt_not (tt_val (ee_isTup T.zIsi T.zTup (ee_v (i := 0) rfl ⟨_, rfl, _, rfl, brF ?_⟩))))))
    refine tw_or (tt_cmp op_lt rd_B0 (ee_len T.zLen (ee_v (i := 0) rfl (ee_i ⟨false, rfl, brF ?_⟩))))
    refine tw_or (tt_not (tt_val (ee_isStr T.zIsi T.zStr (ee_ixT (ee_v (i := 0) rfl (ee_i ⟨_, at0 _ _, _, rfl, _, rfl, brF ?_⟩))))))
    refine tw_or1 (tt_not (tt_val (ee_call V hr (by decide) (aa_cons (ee_ixT (ee_v (i := 0) rfl (ee_i ⟨_, at1 _ _ _, aa_nil ⟨who, rfl, he, _, rfl, brF ?_⟩⟩)))))))
    refine rr_nil (rr_if (tt_cmp op_eq rd_eqS (ee_ixT (ee_v (i := 0) rfl (ee_i ⟨_, at0 _ _, ee_s (teq (eqS_T rfl) (brT ?_))⟩)))))
    exact rr_ret (ee_cmp op_eq rd_eqS (ee_len T.zLen (ee_v (i := 0) rfl (ee_i ⟨true, rfl, h⟩))))
  | ask who n d =>
    obtain ⟨hw, hn, hd⟩ := he
    refine rr_if (tt_bool (tw_or (tt_not (tt_val (ee_isTup T.zIsi T.zTup (ee_v (i := 0) rfl ⟨_, rfl, _, rfl, brF ?_⟩))))))
    refine tw_or (tt_cmp op_lt rd_B0 (ee_len T.zLen (ee_v (i := 0) rfl (ee_i ⟨false, rfl, brF ?_⟩))))
    refine tw_or (tt_not (tt_val (ee_isStr T.zIsi T.zStr (ee_ixT (ee_v (i := 0) rfl (ee_i ⟨_, at0 _ _, _, rfl, _, rfl, brF ?_⟩))))))
    refine tw_or1 (tt_not (tt_val (ee_call V hr (by decide) (aa_cons (ee_ixT (ee_v (i := 0) rfl (ee_i ⟨_, at1 _ _ _, aa_nil ⟨who, rfl, hw, _, rfl, brF ?_⟩⟩)))))))
    refine rr_nil (rr_if (tt_cmp op_eq rd_eqS (ee_ixT (ee_v (i := 0) rfl (ee_i ⟨_, at0 _ _, ee_s (teq (eqS_F (show ("ask" : Str) ≠ "end" by decide +kernel)) (brF ?_))⟩)))))
    refine rr_nil (rr_ret (ee_and (ee_cmp op_eq rd_eqS (ee_ixT (ee_v (i := 0) rfl (ee_i ⟨_, at0 _ _, ee_s ⟨true, eqS_T rfl, true, rfl, fun _ => ?_, fun z => by cases z⟩⟩))))))
    refine ee_and (ee_cmp op_eq rd_eqS (ee_len T.zLen (ee_v (i := 0) rfl (ee_i ⟨true, rfl, true, rfl, fun _ => ?_, fun z => by cases z⟩))))
    refine ee_and (ee_call W hr (by decide) (aa_cons (ee_ixT (ee_v (i := 0) rfl (ee_i ⟨_, rfl, aa_nil ⟨n, rfl, true, rfl, fun _ => ?_, fun z => by cases z⟩⟩)))))
    refine ee_and (ee_cmp op_ge rd_B0 (ee_ixT (ee_v (i := 0) rfl (ee_i ⟨_, rfl, ee_i ⟨true, blT hn, fun _ => ?_, fun z => by cases z⟩⟩))))
    exact ee_one (ee_call U hr (by decide) (aa_cons (ee_ixT (ee_v (i := 0) rfl (ee_i ⟨_, rfl, aa_nil ⟨d, rfl, hd, h⟩⟩)))))
end
end Lg
namespace Lg
open PySem PySem.Spec PyProof.Rows L2 TL
theorem phi_eq {Φ : D → Prop} {a b : D} (h : Φ a) (e : b = a) : Φ b := e ▸ h
theorem Room.u1 {k : Nat} {A : Around} (r : Room k A) : A.units + 1 < cLine := Nat.lt_of_le_of_lt (by omega) r.units
section
variable {X : Cx} {c : Expr} {body els rest : List Stmt} {ρ ρ1 : List Sl} {N : List Sl → Prop} {R : D → Prop} {pos : Pos}
/-- an if whose ways meet again -/
theorem rr_ifJ (ρ1 : List Sl) (h : TT X c ρ fun k => (k = true → RR X body ρ (fun ρ' => ρ' = ρ1) R) ∧ (k = false → RR X els ρ (fun ρ' => ρ' = ρ1) R)) (hr : RR X rest ρ1 N R) : RR X (.If c body els pos :: rest) ρ N R :=
  rr_if (tt_mono h fun k hk => ⟨fun e => rr_mono (hk.1 e) (fun ρ' e => e ▸ hr) fun _ z => z, fun e => rr_mono (hk.2 e) (fun ρ' e => e ▸ hr) fun _ z => z⟩)
end
section
variable {P : Program} {w : World} {K : PySem.W.Frag} {mg : Str → Option Value} {base : Heap} {f : Addr} {fd : FuncData}
/-! ### first_nodes -/
abbrev sFirstNodes : Stmt := topS 29
def cFirstNodes : Con := fun ds Φ => ds = [] ∧ Φ (.dct (webD firstM.1))
theorem scFirstNodes : FnScope [] [] (defScope sFirstNodes) := ⟨rfl, rfl, rfl, by decide +kernel, rfl, by decide +kernel, by decide +kernel⟩
theorem ok_firstNodes (F : Fun K "first_nodes" "first_nodes" sFirstNodes f fd) (T : Glb K mg) : FnOk P w K mg base CX0 1 f fd [] (spF K cFirstNodes) := by
  refine fn_ok F scFirstNodes (fun ds Φ ⟨e, _⟩ => by rw [e]; rfl) fun cdv A outer s H E ds Φ hr c => ?_
  obtain ⟨rfl, h⟩ := c
  exact rr_ret (ee_dict1 (ee_g T.root (ee_tup (aa_cons (ee_s (aa_cons (ee_i (aa_cons (ee_i (aa_cons (ee_n (aa_nil ⟨Nat.le_of_ble_eq_true rfl, _, rfl, h⟩))))))))))))
/-! ### kids_of -/
abbrev sKids : Stmt := topS 30
def cKids : Con := fun ds Φ => ∃ B wb path, ds = [.dct (webD wb), .str path] ∧ WebOk B wb ∧ path ∈ wb.map (·.1) ∧ Φ (.lst (dstrs (kidsM wb path)))
theorem scKids : FnScope ["nodes", "path", "one"] ["nodes", "path"] (defScope sKids) := ⟨rfl, rfl, rfl, by decide +kernel, rfl, by decide +kernel, by decide +kernel⟩
theorem dget_some {wb : Web} {k : Str} (h : k ∈ wb.map (·.1)) : (dget (webD wb) k).isSome = true := by
  obtain ⟨v, e⟩ := aget_some_of h
  rw [dget_map, e]
  rfl
theorem filt_succ {α β : Type} (p : α → Bool) (g : α → β) (l : List α) (n : Nat) (h : n < l.length) : ((l.take (n + 1)).filter p).map g = ((l.take n).filter p).map g ++ (if p l[n] = true then [g l[n]] else []) := by
  rw [List.take_succ, List.getElem?_eq_getElem h, List.filter_append, List.map_append]
  show _ ++ ([l[n]].filter p).map g = _
  by_cases c : p l[n] = true
  · rw [if_pos c, List.filter_cons_of_pos c]
    rfl
  · rw [if_neg c, List.filter_cons_of_neg c]
    rfl
theorem ok_kids (F : Fun K "kids_of" "kids_of" sKids f fd) (T : Glb K mg) (V : Fn P w K mg base 2 "last_part" ["path"] cLastPart) (W : Fn P w K mg base 2 "parent_of" ["path"] cParentOf) : FnOk P w K mg base CX0 3 f fd ["nodes", "path"] (spF K cKids) := by
  refine fn_ok F scKids (fun ds Φ ⟨_, _, _, e, _⟩ => by rw [e]; rfl) fun cdv A outer s H E ds Φ hr c => ?_
  obtain ⟨B, wb, path, rfl, hw, hp, h⟩ := c
  have nd := scKids.nd
  refine rr_if (tt_dnotin (Room.u1 hr) (ee_v (i := 1) rfl (ee_v (i := 0) rfl ⟨_, _, rfl, rfl, false, ?_, brF ?_⟩)))
  · rw [dget_some hp]
    rfl
  have hlk : (webD wb).length = wb.length := amap_len
  refine rr_nil (rr_ret (ee_sortL T.zSorted (ee_lcKeys (i := 2) (j := 0) nd (blkOk_by (N := ["nodes", "path", "one"]) (sc := defScope sKids) (by decide +kernel)) rfl ⟨fun n acc => acc = dstrs ((((wb.map (·.1)).take n).filter (kidB path)).map lastM), rfl, fun n acc hn ea => ?_, fun acc ea => ?_⟩)))
  · subst ea
    have hn' : n < (wb.map (·.1)).length := by
      rw [List.length_map]
      omega
    have ek : (keysOf (webD wb)).getD n "" = (wb.map (·.1))[n] := by
      rw [keys_map, List.getD_eq_getElem?_getD, List.getElem?_eq_getElem hn']
      rfl
    rw [ek]
    obtain ⟨ps, e1, hps⟩ : KeyOk (wb.map (·.1))[n] := by
      obtain ⟨kv, m, e⟩ := List.mem_map.mp (List.getElem_mem hn')
      rw [← e]
      exact (hw.kv kv m).1
    have fs := filt_succ (kidB path) lastM _ n hn'
    rw [e1] at fs ⊢
    refine ⟨kidB path (pathS ps), fun s H C cl fp => ?_, fun hb s H C cl fp => ?_, fun hb => ?_⟩
    · refine tt_bool (tw_and (tt_cmp op_ne rd_neS (ee_v (i := 2) rfl (ee_g T.root (teq rfl (brN (fun hc => ?_) fun hc => ?_))))))
      · refine tw_and1 (tt_cmp op_eq rd_eqS (ee_call W hr (by decide) (aa_cons (ee_v (i := 2) rfl (aa_nil ⟨ps, rfl, hps, ee_v (i := 1) rfl (teq rfl ?_)⟩)))))
        unfold kidB
        rw [parent_path hps, decide_eq_false hc]
        rfl
      · unfold kidB
        rw [decide_eq_true hc]
        rfl
    · have hne : ps ≠ [] := by
        intro e
        subst e
        unfold kidB at hb
        rw [pathS_nil, decide_eq_true rfl] at hb
        cases hb
      refine ee_call V hr (by decide) (aa_cons (ee_v (i := 2) rfl (aa_nil ⟨ps, rfl, hps, hne, ?_, ?_⟩)))
      · have h1 := List.length_filter_le (kidB path) ((wb.map (·.1)).take n)
        have h2 := List.length_take_le n (wb.map (·.1))
        unfold dstrs
        rw [List.length_map, List.length_map]
        have := hw.len
        omega
      · show dstrs _ ++ _ = dstrs (((List.take (n + 1) (wb.map (·.1))).filter (kidB path)).map lastM)
        rw [fs, if_pos hb, last_path hps]
        unfold dstrs
        rw [List.map_append]
        rfl
    · show dstrs _ = dstrs (((List.take (n + 1) (wb.map (·.1))).filter (kidB path)).map lastM)
      rw [fs, if_neg (by rw [hb]; decide), List.append_nil]
  · rw [hlk] at ea
    rw [List.take_of_length_le (by rw [List.length_map]; exact Nat.le_refl _)] at ea
    refine ⟨_, congrArg D.lst ea, ?_, h⟩
    have h1 := List.length_filter_le (kidB path) (wb.map (·.1))
    rw [List.length_map] at h1 ⊢
    have := hw.len
    omega
/-! ### refused -/
abbrev sRefused : Stmt := topS 31
def cRefused : Con := fun ds Φ => ∃ kvs z, ds = [.dct kvs, .str z] ∧ Φ (.tup [.dct kvs, .tup [.str "no", .str z], .lst []])
theorem scRefused : FnScope ["nodes", "word"] ["nodes", "word"] (defScope sRefused) := ⟨rfl, rfl, rfl, by decide +kernel, rfl, by decide +kernel, by decide +kernel⟩
theorem ok_refused (F : Fun K "refused" "refused" sRefused f fd) (T : Glb K mg) : FnOk P w K mg base CX0 1 f fd ["nodes", "word"] (spF K cRefused) := by
  refine fn_ok F scRefused (fun ds Φ ⟨_, _, e, _⟩ => by rw [e]; rfl) fun cdv A outer s H E ds Φ hr c => ?_
  obtain ⟨kvs, z, rfl, h⟩ := c
  refine rr_ret (ee_tup (aa_cons (ee_ct call_dictD rdc_dict T.zDict bt_dict (aa_cons (ee_v (i := 0) rfl (aa_nil ?_))))))
  exact aa_cons (ee_tup (aa_cons (ee_s (aa_cons (ee_v (i := 1) rfl (aa_nil ⟨Nat.le_of_ble_eq_true rfl, aa_cons (ee_lst (aa_nil ⟨Nat.zero_le _, aa_nil ⟨Nat.le_of_ble_eq_true rfl, h⟩⟩))⟩))))))
/-! ### numbered_path -/
abbrev sNumbered : Stmt := topS 32
def cNumbered : Con := fun ds Φ => ∃ (z : Str) (n : Int), ds = [.str z, .int n] ∧ z.length ≤ 100 ∧ 0 ≤ n ∧ n ≤ 300 ∧ Φ (.str (z ++ "-" ++ rj n))
theorem scNumbered : FnScope ["path", "made"] ["path", "made"] (defScope sNumbered) := ⟨rfl, rfl, rfl, by decide +kernel, rfl, by decide +kernel, by decide +kernel⟩
theorem log_small {n : Int} (h0 : 0 ≤ n) (h : n ≤ 300) : n.natAbs.log2 < 1920 := shown (N := 1000) (by omega) (by omega) (by decide +kernel)
theorem ok_numbered (F : Fun K "numbered_path" "numbered_path" sNumbered f fd) (T : Glb K mg) : FnOk P w K mg base CX0 1 f fd ["path", "made"] (spF K cNumbered) := by
  refine fn_ok F scNumbered (fun ds Φ ⟨_, _, e, _⟩ => by rw [e]; rfl) fun cdv A outer s H E ds Φ hr c => ?_
  obtain ⟨z, n, rfl, lz, h0, h1, h⟩ := c
  have l6 := (rj_ok h0 h1).1
  refine rr_ret (ee_adds (ee_adds (ee_v (i := 0) rfl (ee_s ⟨sz1000 (by rw [len_dash]; omega), ?_⟩))))
  refine ee_rjust (ee_ct call_str_int rdc_str T.zStr bt_str (aa_cons (ee_v (i := 1) rfl (aa_nil ⟨log_small h0 h1, _, rfl, ?_⟩))))
  refine aa_cons (ee_g T.manyf (aa_cons (ee_s (aa_nil ⟨_, _, rfl, by decide, by decide +kernel, ?_, ?_⟩))))
  · show _ + (rj n).length ≤ _
    rw [len_app, len_dash, l6]
    exact sz1000 (by omega)
  · exact h
end
end Lg
namespace Lg
open PySem PySem.Spec PyProof.Rows L2 TL
theorem dget_webN {wb : Web} {k : Str} (h : aget wb k = none) : dget (webD wb) k = none := by rw [dget_map, h]; rfl
theorem dget_webS {wb : Web} {k : Str} {n : Nd} (h : aget wb k = some n) : dget (webD wb) k = some (ndD n) := by rw [dget_map, h]; rfl
theorem dput_web {wb : Web} {k : Str} {n : Nd} : dput (webD wb) k (ndD n) = webD (aput wb k n) := dput_map
section
variable {P : Program} {w : World} {K : PySem.W.Frag} {mg : Str → Option Value} {base : Heap} {f : Addr} {fd : FuncData}
/-! ### make -/
abbrev sMake : Stmt := topS 33
def cMake : Con := fun ds Φ => ∃ B wb who ps t o n, ds = [.dct (webD wb), .str who, .str (pathS ps), .str t, .bl o, .bl n] ∧ WebOk B wb ∧ B ≤ 300 ∧ PsOk ps ∧ ps ≠ [] ∧ (n = true → WordOk (ps.getLastD "")) ∧ Φ (outD (makeM wb who (pathS ps) t o n))
abbrev nsMake : List Str := ["nodes", "asker", "path", "text", "own", "numbered", "parent", "above", "count", "made", "owner", "found"]
theorem scMake : FnScope nsMake ["nodes", "asker", "path", "text", "own", "numbered"] (defScope sMake) := ⟨rfl, rfl, rfl, by decide +kernel, rfl, by decide +kernel, by decide +kernel⟩
theorem ok_make (F : Fun K "make" "make" sMake f fd) (T : Glb K mg) (PO : Fn P w K mg base 2 "parent_of" ["path"] cParentOf) (RF : Fn P w K mg base 1 "refused" ["nodes", "word"] cRefused) (NP : Fn P w K mg base 1 "numbered_path" ["path", "made"] cNumbered) : FnOk P w K mg base CX0 3 f fd ["nodes", "asker", "path", "text", "own", "numbered"] (spF K cMake) := by
  refine fn_ok F scMake (fun ds Φ ⟨_, _, _, _, _, _, _, e, _⟩ => by rw [e]; rfl) fun cdv A outer s H E ds Φ hr c => ?_
  obtain ⟨B, wb, who, ps, t, o, n, rfl, hw, hB, hp, hn, hwd, h⟩ := c
  have nd := scMake.nd
  have hu := Room.u1 hr
  have lp := path_len hp
  have ep := parent_path hp
  refine rr_set (i := 6) nd (ee_call PO hr (by decide) (aa_cons (ee_v (i := 2) rfl (aa_nil ⟨ps, rfl, hp, ?_⟩))))
  rw [← ep]
  cases e : aget wb (parentM (pathS ps)) with
  | none =>
    have hm : makeM wb who (pathS ps) t o n = refM wb "parent" := by unfold makeM; rw [e]
    rw [hm] at h
    refine rr_if (tt_dnotin hu (ee_v (i := 6) rfl (ee_v (i := 0) rfl ⟨_, _, rfl, rfl, true, ?_, brT ?_⟩)))
    · rw [dget_webN e]; rfl
    exact rr_ret (ee_call RF hr (by decide) (aa_cons (ee_v (i := 0) rfl (aa_cons (ee_s (aa_nil ⟨_, _, rfl, h⟩))))))
  | some m =>
    obtain ⟨_, m0, m1, m2⟩ := hw.get e
    refine rr_if (tt_dnotin hu (ee_v (i := 6) rfl (ee_v (i := 0) rfl ⟨_, _, rfl, rfl, false, ?_, brF ?_⟩)))
    · rw [dget_webS e]; rfl
    refine rr_nil (rr_asg (ee_ixD hu (ee_v (i := 0) rfl (ee_v (i := 6) rfl ⟨_, dget_webS e, ?_⟩))))
    refine gg_tup (ggs_cons (gg_name (i := 7) nd (ggs_cons (gg_name (i := 8) nd (ggs_cons (gg_name (i := 9) nd (ggs_cons (gg_name (i := 10) nd (ggs_nil ?_))))))))) rfl
    cases eo : m.own with
    | some oo =>
      have hm : makeM wb who (pathS ps) t o n = refM wb "own" := by unfold makeM; rw [e]; dsimp only; rw [eo]; rfl
      rw [hm] at h
      refine rr_if (tt_cmp op_notN rd_notN (ee_v (i := 10) rfl (ee_n ⟨rfl, false, rfl, _, rfl, brT ?_⟩)))
      exact rr_ret (ee_call RF hr (by decide) (aa_cons (ee_v (i := 0) rfl (aa_cons (ee_s (aa_nil ⟨_, _, rfl, h⟩))))))
    | none =>
      refine rr_if (tt_cmp op_notN rd_notN (ee_v (i := 10) rfl (ee_n ⟨rfl, true, rfl, _, rfl, brF ?_⟩)))
      refine rr_nil (rr_ifJ [.va (.dct (webD wb)), .va (.str who), .va (.str (numM n (pathS ps) m.made)), .va (.str t), .va (.bl o), .va (.bl n), .va (.str (parentM (pathS ps))), .va (.str m.text), .va (.int m.count), .va (.int m.made), .va (ownD none), .un]
        (tt_val (ee_v (i := 5) rfl ⟨n, rfl, fun en => ?_, fun en => ?_⟩)) ?_)
      · refine rr_set (i := 2) nd (ee_call NP hr (by decide) (aa_cons (ee_v (i := 2) rfl (aa_cons (ee_v (i := 9) rfl (aa_nil ⟨_, _, rfl, by omega, m1, by omega, rr_nil ?_⟩))))))
        unfold numM
        rw [if_pos en, ← eo]
        rfl
      · refine rr_nil ?_
        unfold numM
        rw [if_neg (by rw [en]; decide), ← eo]
        rfl
      have kp : (numM n (pathS ps) m.made).length ≤ 200 := by
        unfold numM
        split
        · rw [len_app, len_app, len_dash, (rj_ok m1 (by omega)).1]
          omega
        · omega
      generalize eq : numM n (pathS ps) m.made = q at kp ⊢
      cases eq2 : aget wb q with
      | some m2 =>
        have hm : makeM wb who (pathS ps) t o n = refM wb "there" := by unfold makeM; rw [e]; dsimp only; rw [eo, eq, eq2]; rfl
        rw [hm] at h
        refine rr_if (tt_din hu (ee_v (i := 2) rfl (ee_v (i := 0) rfl ⟨_, _, rfl, rfl, true, ?_, brT ?_⟩)))
        · rw [dget_webS eq2]; rfl
        exact rr_ret (ee_call RF hr (by decide) (aa_cons (ee_v (i := 0) rfl (aa_cons (ee_s (aa_nil ⟨_, _, rfl, h⟩))))))
      | none =>
        refine rr_if (tt_din hu (ee_v (i := 2) rfl (ee_v (i := 0) rfl ⟨_, _, rfl, rfl, false, ?_, brF ?_⟩)))
        · rw [dget_webN eq2]; rfl
        have hl : (webD wb).length = wb.length := amap_len
        refine rr_nil ?_
        by_cases c60 : 60 ≤ wb.length
        · have hm : makeM wb who (pathS ps) t o n = refM wb "full" := by unfold makeM; rw [e]; dsimp only; rw [eo, eq, eq2, if_neg (by decide), if_neg (by decide), if_pos c60]
          rw [hm] at h
          refine rr_if (tt_bool (tw_or (tt_cmp op_ge rd_B0 (ee_len T.zLen (ee_v (i := 0) rfl (ee_g T.mnodes ⟨true, blT (by omega), brT (brT ?_)⟩))))))
          exact rr_ret (ee_call RF hr (by decide) (aa_cons (ee_v (i := 0) rfl (aa_cons (ee_s (aa_nil ⟨_, _, rfl, h⟩))))))
        · have hm : makeM wb who (pathS ps) t o n = ⟨aput (aput wb (parentM (pathS ps)) ⟨m.text, m.count, m.made + 1, m.own⟩) q ⟨t, 0, 0, if o = true then some who else none⟩, "ok", .str q, [ev "made" q, ev "kids" (parentM (pathS ps))]⟩ := by
            unfold makeM; rw [e]; dsimp only; rw [eo, eq, eq2, if_neg (by decide), if_neg (by decide), if_neg c60]
          rw [hm] at h
          refine rr_ifJ _ (tt_bool (tw_or (tt_cmp op_ge rd_B0 (ee_len T.zLen (ee_v (i := 0) rfl (ee_g T.mnodes ⟨false, blF (by omega), brF (tw_or1 (tt_bool (tw_and (tt_val (ee_v (i := 5) rfl ⟨n, rfl, fun en => tw_and1 (tt_cmp op_gt rd_B0 (ee_v (i := 9) rfl (ee_g T.mmade ⟨false, blF (by omega), brF (rr_nil rfl)⟩))), fun en => by rw [en] at *; exact brF (rr_nil rfl)⟩)))))⟩)))))) ?_
          refine rr_copyD (i := 11) nd T.zDict (ee_v (i := 0) rfl ⟨_, rfl, ?_⟩)
          refine rr_put (i := 11) hu rfl (by omega) (ee_tup (aa_cons (ee_v (i := 7) rfl (aa_cons (ee_v (i := 8) rfl (aa_cons (ee_add (ee_v (i := 9) rfl (ee_i ?_)))))))))
          refine aa_cons (ee_v (i := 10) rfl (aa_nil ⟨Nat.le_of_ble_eq_true rfl, ee_v (i := 6) rfl ⟨_, rfl, ?_⟩⟩))
          have l1 := dput_len (webD wb) (parentM (pathS ps)) (ndD ⟨m.text, m.count, m.made + 1, m.own⟩)
          have e1 : ndD ⟨m.text, m.count, m.made + 1, m.own⟩ = .tup [.str m.text, .int m.count, .int (m.made + 1), ownD none] := by rw [← eo]; rfl
          rw [← e1]
          refine rr_put (i := 11) hu rfl (by omega) <| ee_tup <| aa_cons <| ee_v (i := 3) rfl <| aa_cons <| ee_i <| aa_cons <| ee_i <| aa_cons <| ee_mono (Φ := fun d => d = ownD (if o = true then some who else none)) (ee_if <| tt_val <| ee_v (i := 4) rfl ⟨o, rfl, fun eo2 => ee_v (i := 1) rfl ?_, fun eo2 => ee_n ?_⟩) fun d ed => ?_
          · rw [if_pos eo2]; rfl
          · rw [if_neg (by rw [eo2]; decide)]; rfl
          subst ed
          refine aa_nil ⟨Nat.le_of_ble_eq_true rfl, ee_v (i := 2) rfl ⟨_, rfl, ?_⟩⟩
          refine rr_tellD (i := 11) rfl <| rr_ret <| ee_tup <| aa_cons <| ee_v (i := 11) rfl <| aa_cons <| ee_tup <| aa_cons <| ee_s <| aa_cons <| ee_v (i := 2) rfl <| aa_nil ⟨Nat.le_of_ble_eq_true rfl, ?_⟩
          refine aa_cons <| ee_lst <| aa_cons <| ee_tup <| aa_cons <| ee_s <| aa_cons <| ee_v (i := 2) rfl <| aa_nil ⟨Nat.le_of_ble_eq_true rfl, ?_⟩
          refine aa_cons <| ee_tup <| aa_cons <| ee_s <| aa_cons <| ee_v (i := 6) rfl <| aa_nil ⟨Nat.le_of_ble_eq_true rfl, aa_nil ⟨Nat.le_of_ble_eq_true rfl, aa_nil ⟨Nat.le_of_ble_eq_true rfl, ?_⟩⟩⟩
          refine phi_eq h ?_
          unfold outD
          dsimp only
          rw [← dput_web, ← dput_web]
          rfl
/-! ### put -/
abbrev sPut : Stmt := topS 34
def cPut : Con := fun ds Φ => ∃ B wb path t n, ds = [.dct (webD wb), .str path, .str t] ∧ WebOk B wb ∧ aget wb path = some n ∧ Φ (outD (putM wb path t n))
abbrev nsPut : List Str := ["nodes", "path", "text", "old", "count", "made", "owner", "found"]
theorem scPut : FnScope nsPut ["nodes", "path", "text"] (defScope sPut) := ⟨rfl, rfl, rfl, by decide +kernel, rfl, by decide +kernel, by decide +kernel⟩
theorem ok_put (F : Fun K "put" "put" sPut f fd) (T : Glb K mg) : FnOk P w K mg base CX0 1 f fd ["nodes", "path", "text"] (spF K cPut) := by
  refine fn_ok F scPut (fun ds Φ ⟨_, _, _, _, _, e, _⟩ => by rw [e]; rfl) fun cdv A outer s H E ds Φ hr c => ?_
  obtain ⟨B, wb, path, t, n, rfl, hw, e, h⟩ := c
  have nd := scPut.nd
  have hu := Room.u1 hr
  have hl : (webD wb).length = wb.length := amap_len
  have := hw.len
  refine rr_asg <| ee_ixD hu <| ee_v (i := 0) rfl <| ee_v (i := 1) rfl ⟨_, dget_webS e, ?_⟩
  refine gg_tup (ggs_cons <| gg_name (i := 3) nd <| ggs_cons <| gg_name (i := 4) nd <| ggs_cons <| gg_name (i := 5) nd <| ggs_cons <| gg_name (i := 6) nd <| ggs_nil ?_) rfl
  refine rr_copyD (i := 7) nd T.zDict (ee_v (i := 0) rfl ⟨_, rfl, ?_⟩)
  refine rr_put (i := 7) hu rfl (by omega) <| ee_tup <| aa_cons <| ee_v (i := 2) rfl <| aa_cons <| ee_add <| ee_v (i := 4) rfl <| ee_i ?_
  refine aa_cons <| ee_v (i := 5) rfl <| aa_cons <| ee_v (i := 6) rfl <| aa_nil ⟨Nat.le_of_ble_eq_true rfl, ee_v (i := 1) rfl ⟨_, rfl, ?_⟩⟩
  refine rr_tellD (i := 7) rfl <| rr_ret <| ee_tup <| aa_cons <| ee_v (i := 7) rfl <| aa_cons <| ee_tup <| aa_cons <| ee_s <| aa_cons <| ee_add <| ee_v (i := 4) rfl <| ee_i ?_
  refine aa_nil ⟨Nat.le_of_ble_eq_true rfl, aa_cons <| ee_lst <| aa_cons <| ee_tup <| aa_cons <| ee_s <| aa_cons <| ee_v (i := 1) rfl <| aa_nil ⟨Nat.le_of_ble_eq_true rfl, aa_nil ⟨Nat.le_of_ble_eq_true rfl, aa_nil ⟨Nat.le_of_ble_eq_true rfl, ?_⟩⟩⟩⟩
  refine phi_eq h ?_
  unfold outD putM
  dsimp only
  rw [← dput_web]
  rfl
/-! ### dropped, drop -/
abbrev sDropped : Stmt := topS 35
def cDropped : Con := fun ds Φ => ∃ B wb path, ds = [.dct (webD wb), .str path] ∧ WebOk B wb ∧ KeyOk path ∧ Φ (.tup [.dct (webD (adrop wb path)), .lst (dropEvs path)])
abbrev nsDropped : List Str := ["nodes", "path", "found", "events", "one", "node"]
theorem scDropped : FnScope ["nodes", "path", "found", "one", "node"] ["nodes", "path"] (defScope sDropped) := ⟨rfl, rfl, rfl, by decide +kernel, rfl, by decide +kernel, by decide +kernel⟩
theorem ok_dropped (F : Fun K "dropped" "dropped" sDropped f fd) (T : Glb K mg) (PO : Fn P w K mg base 2 "parent_of" ["path"] cParentOf) : FnOk P w K mg base CX0 3 f fd ["nodes", "path"] (spF K cDropped) := by
  refine fn_ok F scDropped (fun ds Φ ⟨_, _, _, e, _⟩ => by rw [e]; rfl) fun cdv A outer s H E ds Φ hr c => ?_
  obtain ⟨B, wb, path, rfl, hw, hk, h⟩ := c
  have nd := scDropped.nd
  have hl : (webD wb).length = wb.length := amap_len
  obtain ⟨ps, rfl, hps⟩ := hk
  refine rr_setDc (i0 := 2) (i := 3) (j := 4) (l := 0) (n := 1) nd (by decide) (blkOk_by (N := ["nodes", "path", "found", "one", "node"]) (sc := defScope sDropped) (by decide +kernel)) rfl (fun kv hkv => ?_) ⟨fun m acc => acc = webD (adrop (wb.take m) (pathS ps)), rfl, fun m acc hm ea => ?_, fun acc ea => ?_⟩
  · obtain ⟨x, _, e⟩ := List.mem_map.mp hkv
    rw [← e]
    exact pl_nd 0 x.2
  · subst ea
    have hm' : m < wb.length := by omega
    have ek : kvAt (webD wb) m = (wb[m].1, ndD wb[m].2) := by
      unfold kvAt webD amap
      rw [List.getD_eq_getElem?_getD, List.getElem?_map, List.getElem?_eq_getElem hm']
      rfl
    rw [ek]
    have et : adrop (wb.take (m + 1)) (pathS ps) = adrop (wb.take m) (pathS ps) ++ (if wb[m].1 = pathS ps then [] else [wb[m]]) := by
      unfold adrop
      rw [List.take_succ, List.getElem?_eq_getElem hm', List.filter_append]
      show _ ++ [wb[m]].filter _ = _
      by_cases c : wb[m].1 = pathS ps
      · rw [if_pos c, List.filter_cons_of_neg (by simp [c])]
        rfl
      · rw [if_neg c, List.filter_cons_of_pos (by simp [c])]
        rfl
    refine ⟨!decide (wb[m].1 = pathS ps), fun s H C cl fp => ?_, fun hb s H C cl fp => ?_, fun hb => ?_⟩
    · exact tt_cmp op_ne rd_neS <| ee_v (i := 3) rfl <| ee_v (i := 1) rfl <| teq rfl rfl
    · refine ee_v (i := 3) rfl fun s H C cl fp => ee_v (i := 4) rfl ⟨_, rfl, ?_, ?_⟩
      · have h1 : (adrop (wb.take m) (pathS ps)).length ≤ (wb.take m).length := drop_len
        have h2 := List.length_take_le m wb
        have e3 : (webD (adrop (wb.take m) (pathS ps))).length = (adrop (wb.take m) (pathS ps)).length := amap_len
        have := hw.len
        omega
      · have c : ¬ wb[m].1 = pathS ps := by simpa using hb
        show dput (webD _) _ (ndD _) = webD (adrop (wb.take (m + 1)) (pathS ps))
        rw [et, if_neg c, dput_web, put_keys_out]
        intro z
        rw [drop_keys] at z
        have z := (List.mem_filter.mp z).1
        rw [List.map_take] at z
        obtain ⟨j, hj, ej⟩ := List.getElem_of_mem z
        rw [List.length_take, List.length_map] at hj
        rw [List.getElem_take] at ej
        have inj := (List.getElem_inj (i := j) (j := m) (h₀ := by rw [List.length_map]; omega) (h₁ := by rw [List.length_map]; omega) hw.nd).mp (by rw [ej, List.getElem_map])
        omega
    · have c : wb[m].1 = pathS ps := by simpa using hb
      show webD _ = webD (adrop (wb.take (m + 1)) (pathS ps))
      rw [et, if_pos c, List.append_nil]
  · rw [hl, List.take_of_length_le (Nat.le_refl _)] at ea
    subst ea
    refine rr_ret <| ee_tup <| aa_cons <| ee_v (i := 2) rfl <| aa_cons <| ee_lst <| aa_cons <| ee_tup <| aa_cons <| ee_s <| aa_cons <| ee_v (i := 1) rfl <| aa_nil ⟨Nat.le_of_ble_eq_true rfl, ?_⟩
    refine aa_cons <| ee_tup <| aa_cons <| ee_s <| aa_cons <| ee_call PO hr (by decide) <| aa_cons <| ee_v (i := 1) rfl <| aa_nil ⟨ps, rfl, hps, aa_nil ⟨Nat.le_of_ble_eq_true rfl, aa_nil ⟨Nat.le_of_ble_eq_true rfl, aa_nil ⟨Nat.le_of_ble_eq_true rfl, ?_⟩⟩⟩⟩
    refine phi_eq h ?_
    unfold dropEvs
    rw [parent_path hps]
    rfl
abbrev sDrop : Stmt := topS 36
def cDrop : Con := fun ds Φ => ∃ B wb path, ds = [.dct (webD wb), .str path] ∧ WebOk B wb ∧ path ∈ wb.map (·.1) ∧ Φ (outD (dropM wb path))
theorem scDrop : FnScope ["nodes", "path", "found", "events"] ["nodes", "path"] (defScope sDrop) := ⟨rfl, rfl, rfl, by decide +kernel, rfl, by decide +kernel, by decide +kernel⟩
theorem pl_dstrs (l : List Str) (n : Nat) : Pl (n + 1) (.lst (dstrs l)) := Pl.lst fun d hd => by
  obtain ⟨z, _, rfl⟩ := List.mem_map.mp hd
  exact pl_str _ _
theorem WebOk.mem {B : Int} {wb : Web} {k : Str} (h : WebOk B wb) (m : k ∈ wb.map (·.1)) : KeyOk k := by
  obtain ⟨kv, a, e⟩ := List.mem_map.mp m
  rw [← e]
  exact (h.kv kv a).1
theorem ok_drop (F : Fun K "drop" "drop" sDrop f fd) (T : Glb K mg) (KO : Fn P w K mg base 3 "kids_of" ["nodes", "path"] cKids) (RF : Fn P w K mg base 1 "refused" ["nodes", "word"] cRefused) (DR : Fn P w K mg base 3 "dropped" ["nodes", "path"] cDropped) : FnOk P w K mg base CX0 4 f fd ["nodes", "path"] (spF K cDrop) := by
  refine fn_ok F scDrop (fun ds Φ ⟨_, _, _, e, _⟩ => by rw [e]; rfl) fun cdv A outer s H E ds Φ hr c => ?_
  obtain ⟨B, wb, path, rfl, hw, hk, h⟩ := c
  have nd := scDrop.nd
  cases ek : kidsM wb path with
  | nil =>
    have hm : dropM wb path = ⟨adrop wb path, "ok", .non, dropEvs path⟩ := by unfold dropM; rw [if_pos ek]
    rw [hm] at h
    refine rr_if <| tt_cmp (op_neP hr.units) rd_neD <| ee_call KO hr (by decide) <| aa_cons <| ee_v (i := 0) rfl <| aa_cons <| ee_v (i := 1) rfl <| aa_nil ⟨B, wb, path, rfl, hw, hk, ee_lst <| aa_nil ⟨Nat.zero_le _, pl_dstrs _ _, Pl.lst pl_nil, true, ?_, _, rfl, brF ?_⟩⟩
    · rw [ek]; rfl
    refine rr_nil <| rr_asg <| ee_call DR hr (by decide) <| aa_cons <| ee_v (i := 0) rfl <| aa_cons <| ee_v (i := 1) rfl <| aa_nil ⟨B, wb, path, rfl, hw, hw.mem hk, ?_⟩
    refine gg_tup (ggs_cons <| gg_name (i := 2) nd <| ggs_cons <| gg_name (i := 3) nd <| ggs_nil ?_) rfl
    exact rr_ret <| ee_tup <| aa_cons <| ee_v (i := 2) rfl <| aa_cons <| ee_tup <| aa_cons <| ee_s <| aa_cons <| ee_n <| aa_nil ⟨Nat.le_of_ble_eq_true rfl, aa_cons <| ee_v (i := 3) rfl <| aa_nil ⟨Nat.le_of_ble_eq_true rfl, h⟩⟩
  | cons x xs =>
    have hm : dropM wb path = refM wb "kids" := by unfold dropM; rw [if_neg (by rw [ek]; simp)]
    rw [hm] at h
    refine rr_if <| tt_cmp (op_neP hr.units) rd_neD <| ee_call KO hr (by decide) <| aa_cons <| ee_v (i := 0) rfl <| aa_cons <| ee_v (i := 1) rfl <| aa_nil ⟨B, wb, path, rfl, hw, hk, ee_lst <| aa_nil ⟨Nat.zero_le _, pl_dstrs _ _, Pl.lst pl_nil, false, ?_, _, rfl, brT ?_⟩⟩
    · rw [ek]; rfl
    exact rr_ret <| ee_call RF hr (by decide) <| aa_cons <| ee_v (i := 0) rfl <| aa_cons <| ee_s <| aa_nil ⟨_, _, rfl, h⟩
end
end Lg
namespace Lg
open PySem PySem.Spec PyProof.Rows L2 TL
theorem atLastD {xs : List D} {x : D} : atI (xs ++ [x]) (-1) = some x := by
  unfold atI
  have e : (-1 + ((xs.length : Int) + 1)).toNat = xs.length := by omega
  have l : (1 : Int) ≤ (xs.length : Int) + 1 := by omega
  simp [ixN, e, l]
def Dd.cnt : Dd → Option Int
  | .make .. => none
  | .put _ _ c => c
  | .drop _ c => c
  | .see _ c => c
theorem eqS_cnt (x : Int) (y : Int) : eqS (.int x) (.int y) = some (decide (x = y)) := rfl
section
variable {X : Cx} {c : Expr} {body els rest : List Stmt} {ρ ρ1 : List Sl} {N : List Sl → Prop} {R : D → Prop} {pos : Pos}
theorem rr_ifS (h : TT X c ρ fun k => (k = true → RR X body ρ (fun ρ' => ρ' = ρ) R) ∧ (k = false → RR X els ρ (fun ρ' => ρ' = ρ) R)) (hr : RR X rest ρ N R) : RR X (.If c body els pos :: rest) ρ N R := rr_ifJ ρ h hr
end
section
variable {P : Program} {w : World} {K : PySem.W.Frag} {mg : Str → Option Value} {base : Heap} {f : Addr} {fd : FuncData}
/-! ### done_plain -/
abbrev sDonePlain : Stmt := topS 37
def cDonePlain : Con := fun ds Φ => ∃ B wb d who, ds = [.dct (webD wb), Dd.d d, .str who] ∧ WebOk B wb ∧ B ≤ 300 ∧ d.Ok ∧ Φ (outD (plainM wb who d))
abbrev nsDonePlain : List Str := ["nodes", "deed", "asker", "word", "path", "rest", "text", "own", "numbered", "wanted"]
theorem scDonePlain : FnScope nsDonePlain ["nodes", "deed", "asker"] (defScope sDonePlain) := ⟨rfl, rfl, rfl, by decide +kernel, rfl, by decide +kernel, by decide +kernel⟩
theorem ok_donePlain (F : Fun K "done_plain" "done_plain" sDonePlain f fd) (T : Glb K mg) (PL : Fn P w K mg base 4 "is_plain" ["thing"] cPlain) (MK : Fn P w K mg base 3 "make" ["nodes", "asker", "path", "text", "own", "numbered"] cMake) (RF : Fn P w K mg base 1 "refused" ["nodes", "word"] cRefused)
    (PT : Fn P w K mg base 1 "put" ["nodes", "path", "text"] cPut) (DP : Fn P w K mg base 4 "drop" ["nodes", "path"] cDrop) : FnOk P w K mg base CX0 5 f fd ["nodes", "deed", "asker"] (spF K cDonePlain) := by
  refine fn_ok F scDonePlain (fun ds Φ ⟨_, _, _, _, e, _⟩ => by rw [e]; rfl) fun cdv A outer s H E ds Φ hr c => ?_
  obtain ⟨B, wb, d, who, rfl, hw, hB, hd, h⟩ := c
  have nd := scDonePlain.nd
  have hu := Room.u1 hr
  refine rr_if <| tt_not <| tt_val <| ee_call PL hr (by decide) <| aa_cons <| ee_v (i := 1) rfl <| aa_nil <| .inl ⟨d, rfl, hd, _, rfl, brF ?_⟩
  refine rr_nil <| rr_star (i := 3) (j := 4) (l := 5) nd <| ee_v (i := 1) rfl ⟨_, _, _, d.d_eq, by have := d.rest_len; omega, ?_⟩
  by_cases hm : ∃ p t o n, d = .make p t o n
  · obtain ⟨p, t, o, n, rfl⟩ := hm
    obtain ⟨ps, rfl, hp, hn, ht, hwd⟩ := hd
    refine rr_if <| tt_cmp op_eq rd_eqS <| ee_v (i := 3) rfl <| ee_s <| teq (eqS_T rfl) <| brT ?_
    refine rr_asg <| ee_v (i := 5) rfl ?_
    refine gg_lst (ggs_cons <| gg_name (i := 6) nd <| ggs_cons <| gg_name (i := 7) nd <| ggs_cons <| gg_name (i := 8) nd <| ggs_nil ?_) rfl
    exact rr_ret <| ee_call MK hr (by decide) <| aa_cons <| ee_v (i := 0) rfl <| aa_cons <| ee_v (i := 2) rfl <| aa_cons <| ee_v (i := 4) rfl <| aa_cons <| ee_v (i := 6) rfl <| aa_cons <| ee_v (i := 7) rfl <| aa_cons <| ee_v (i := 8) rfl <| aa_nil ⟨B, wb, who, ps, t, o, n, rfl, hw, hB, hp, hn, hwd, h⟩
  · have wm : d.word ≠ "make" := by
      cases d with
      | make p t o n => exact absurd ⟨p, t, o, n, rfl⟩ hm
      | put => exact (show ("put" : Str) ≠ "make" by decide +kernel)
      | drop => exact (show ("drop" : Str) ≠ "make" by decide +kernel)
      | see => exact (show ("see" : Str) ≠ "make" by decide +kernel)
    obtain ⟨r0, hr0⟩ : ∃ r0, d.rest = r0 ++ [cntD d.cnt] := by
      cases d with
      | make p t o n => exact absurd ⟨p, t, o, n, rfl⟩ hm
      | put p t c => exact ⟨[.str t], rfl⟩
      | drop p c => exact ⟨[], rfl⟩
      | see p c => exact ⟨[], rfl⟩
    obtain ⟨g, hg⟩ : ∃ g : Nd → Out, plainM wb who d = otherM wb d.path d.cnt g ∧ ∀ n, g n = (match d with
        | .put p t _ => putM wb p t n
        | .drop p _ => dropM wb p
        | _ => ⟨wb, "ok", .int n.count, []⟩) := by
      cases d with
      | make p t o n => exact absurd ⟨p, t, o, n, rfl⟩ hm
      | put p t c => exact ⟨_, rfl, fun _ => rfl⟩
      | drop p c => exact ⟨_, rfl, fun _ => rfl⟩
      | see p c => exact ⟨_, rfl, fun _ => rfl⟩
    obtain ⟨hg1, hg2⟩ := hg
    rw [hg1] at h
    refine rr_if <| tt_cmp op_eq rd_eqS <| ee_v (i := 3) rfl <| ee_s <| teq (eqS_F wm) <| brF <| rr_nil ?_
    cases e : aget wb d.path with
    | none =>
      have hm2 : otherM wb d.path d.cnt g = refM wb "lacks" := by unfold otherM; rw [e]
      rw [hm2] at h
      refine rr_if <| tt_dnotin hu <| ee_v (i := 4) rfl <| ee_v (i := 0) rfl ⟨_, _, rfl, rfl, true, ?_, brT ?_⟩
      · rw [dget_webN e]; rfl
      exact rr_ret <| ee_call RF hr (by decide) <| aa_cons <| ee_v (i := 0) rfl <| aa_cons <| ee_s <| aa_nil ⟨_, _, rfl, h⟩
    | some m =>
      refine rr_if <| tt_dnotin hu <| ee_v (i := 4) rfl <| ee_v (i := 0) rfl ⟨_, _, rfl, rfl, false, ?_, brF ?_⟩
      · rw [dget_webS e]; rfl
      have hmem : d.path ∈ wb.map (·.1) := List.mem_map.mpr ⟨_, aget_mem e, rfl⟩
      refine rr_nil <| rr_set (i := 9) nd <| ee_ixL <| ee_v (i := 5) rfl <| ee_neg <| ee_i ⟨1, rfl, cntD d.cnt, by rw [hr0]; exact atLastD, ?_⟩
      by_cases hc : d.cnt ≠ none ∧ d.cnt ≠ some m.count
      · have hm2 : otherM wb d.path d.cnt g = refM wb "count" := by unfold otherM; rw [e]; dsimp only; rw [if_pos hc]
        rw [hm2] at h
        cases ec : d.cnt with
        | none => exact absurd ec hc.1
        | some k =>
          refine rr_if <| tt_bool <| tw_and <| tt_cmp op_notN rd_notN <| ee_v (i := 9) rfl <| ee_n ⟨rfl, false, rfl, _, rfl, brT ?_⟩
          refine tw_and1 <| tt_cmp op_ne rd_neS <| ee_v (i := 9) rfl <| ee_ixT <| ee_ixD hu <| ee_v (i := 0) rfl <| ee_v (i := 4) rfl ⟨_, dget_webS e, ee_i ⟨.int m.count, rfl, teq (b := false) ?_ <| brT ?_⟩⟩
          · show eqS (.int k) (.int m.count) = _
            rw [eqS_cnt, decide_eq_false (fun z => hc.2 (by rw [ec, z]))]
          exact rr_ret <| ee_call RF hr (by decide) <| aa_cons <| ee_v (i := 0) rfl <| aa_cons <| ee_s <| aa_nil ⟨_, _, rfl, h⟩
      · have hm2 : otherM wb d.path d.cnt g = g m := by unfold otherM; rw [e]; dsimp only; rw [if_neg hc]
        rw [hm2, hg2] at h
        refine rr_ifS (tt_bool <| tw_and <| tt_cmp op_notN rd_notN <| ee_v (i := 9) rfl <| ee_n ⟨rfl, isNon (cntD d.cnt), rfl, _, rfl, ?_, ?_⟩) ?_
        · intro ek
          have ek2 : ∃ k, d.cnt = some k := by
            cases ec : d.cnt with
            | none => rw [ec] at ek; cases ek
            | some k => exact ⟨k, rfl⟩
          obtain ⟨k, ec⟩ := ek2
          have ekm : k = m.count := by
            refine Classical.byContradiction fun z => hc ⟨by rw [ec]; simp, by rw [ec]; exact fun y => z (Option.some.inj y)⟩
          rw [ec]
          exact tw_and1 <| tt_cmp op_ne rd_neS <| ee_v (i := 9) rfl <| ee_ixT <| ee_ixD hu <| ee_v (i := 0) rfl <| ee_v (i := 4) rfl ⟨_, dget_webS e, ee_i ⟨.int m.count, rfl, teq (b := true) (by show eqS (.int k) (.int m.count) = _; rw [eqS_cnt, decide_eq_true ekm]) <| brF (rr_nil rfl)⟩⟩
        · intro ek
          exact brF (rr_nil rfl)
        cases d with
        | make p t o n => exact absurd ⟨p, t, o, n, rfl⟩ hm
        | put p t c =>
          refine rr_if <| tt_cmp op_eq rd_eqS <| ee_v (i := 3) rfl <| ee_s <| teq (eqS_T rfl) <| brT ?_
          exact rr_ret <| ee_call PT hr (by decide) <| aa_cons <| ee_v (i := 0) rfl <| aa_cons <| ee_v (i := 4) rfl <| aa_cons <| ee_ixL <| ee_v (i := 5) rfl <| ee_i ⟨_, rfl, aa_nil ⟨B, wb, p, t, m, rfl, hw, e, h⟩⟩
        | drop p c =>
          refine rr_if <| tt_cmp op_eq rd_eqS <| ee_v (i := 3) rfl <| ee_s <| teq (eqS_F (show ("drop" : Str) ≠ "put" by decide +kernel)) <| brF <| rr_nil ?_
          refine rr_if <| tt_cmp op_eq rd_eqS <| ee_v (i := 3) rfl <| ee_s <| teq (eqS_T rfl) <| brT ?_
          exact rr_ret <| ee_call DP hr (by decide) <| aa_cons <| ee_v (i := 0) rfl <| aa_cons <| ee_v (i := 4) rfl <| aa_nil ⟨B, wb, p, rfl, hw, hmem, h⟩
        | see p c =>
          refine rr_if <| tt_cmp op_eq rd_eqS <| ee_v (i := 3) rfl <| ee_s <| teq (eqS_F (show ("see" : Str) ≠ "put" by decide +kernel)) <| brF <| rr_nil ?_
          refine rr_if <| tt_cmp op_eq rd_eqS <| ee_v (i := 3) rfl <| ee_s <| teq (eqS_F (show ("see" : Str) ≠ "drop" by decide +kernel)) <| brF <| rr_nil ?_
          refine rr_ret <| ee_tup <| aa_cons <| ee_ct call_dictD rdc_dict T.zDict bt_dict <| aa_cons <| ee_v (i := 0) rfl <| aa_nil ?_
          refine aa_cons <| ee_tup <| aa_cons <| ee_s <| aa_cons <| ee_ixT <| ee_ixD hu <| ee_v (i := 0) rfl <| ee_v (i := 4) rfl ⟨_, dget_webS e, ee_i ⟨.int m.count, rfl, aa_nil ⟨Nat.le_of_ble_eq_true rfl, aa_cons <| ee_lst <| aa_nil ⟨Nat.zero_le _, aa_nil ⟨Nat.le_of_ble_eq_true rfl, h⟩⟩⟩⟩⟩
/-! ### without_owner -/
abbrev sWithout : Stmt := topS 46
def cWithout : Con := fun ds Φ => ∃ B wb who, ds = [.dct (webD wb), .str who] ∧ WebOk B wb ∧ Φ (.tup [.dct (webD (withoutM wb who).1), .lst (withoutM wb who).2])
abbrev nsWithout : List Str := ["nodes", "asker", "events", "path", "some"]
theorem scWithout : FnScope nsWithout ["nodes", "asker"] (defScope sWithout) := ⟨rfl, rfl, rfl, by decide +kernel, rfl, by decide +kernel, by decide +kernel⟩
theorem eqS_own (o : Option Str) (z : Str) : eqS (ownD o) (.str z) = some (decide (o = some z)) := by
  cases o with
  | none => rw [decide_eq_false (by simp)]; rfl
  | some y =>
    show some (decide (y = z)) = _
    congr 1
    exact decide_eq_decide.mpr ⟨fun h => by rw [h], fun h => Option.some.inj h⟩
theorem filt_take {α : Type} (p : α → Bool) (l : List α) (n : Nat) (h : n < l.length) : (l.take (n + 1)).filter p = (l.take n).filter p ++ (if p l[n] = true then [l[n]] else []) := by
  have := filt_succ p id l n h
  simpa using this
def mineB (wb : Web) (who : Str) (k : Str) : Bool := decide (((aget wb k).map (·.own)) = some (some who))
theorem mine_eq (wb : Web) (who : Str) : mineM wb who = (sortK (wb.map (·.1))).filter (mineB wb who) := rfl
theorem less_snoc (wb : Web) (ks : List Str) (k : Str) : lessM wb (ks ++ [k]) = adrop (lessM wb ks) k := by
  unfold lessM
  rw [List.foldl_append]
  rfl
theorem flat_snoc (ks : List Str) (k : Str) : (ks ++ [k]).flatMap dropEvs = ks.flatMap dropEvs ++ dropEvs k := by
  rw [List.flatMap_append]
  simp
theorem flat_len (ks : List Str) : (ks.flatMap dropEvs).length = 2 * ks.length := by
  induction ks with
  | nil => rfl
  | cons k ks ih =>
    rw [List.flatMap_cons, List.length_append, ih, List.length_cons]
    show 2 + _ = _
    omega
theorem take_snoc {α : Type} (l : List α) (i : Nat) (h : i < l.length) : l.take (i + 1) = l.take i ++ [l[i]] := by
  rw [List.take_succ, List.getElem?_eq_getElem h]
  rfl
theorem ok_without (F : Fun K "without_owner" "without_owner" sWithout f fd) (T : Glb K mg) (DR : Fn P w K mg base 3 "dropped" ["nodes", "path"] cDropped) : FnOk P w K mg base CX0 4 f fd ["nodes", "asker"] (spF K cWithout) := by
  refine fn_ok F scWithout (fun ds Φ ⟨_, _, _, e, _⟩ => by rw [e]; rfl) fun cdv A outer s H E ds Φ hr c => ?_
  obtain ⟨B, wb, who, rfl, hw, h⟩ := c
  have nd := scWithout.nd
  have hu := Room.u1 hr
  have hl : (webD wb).length = wb.length := amap_len
  have hkl : (sortK (wb.map (·.1))).length = wb.length := by rw [sortK_len, List.length_map]
  have hml : (mineM wb who).length ≤ 60 := by
    rw [mine_eq]
    have := List.length_filter_le (mineB wb who) (sortK (wb.map (·.1)))
    have := hw.len
    omega
  have hin : ∀ k ∈ sortK (wb.map (·.1)), k ∈ wb.map (·.1) := fun k m => (sortK_perm _).mem_iff.mp m
  refine rr_newL (i := 2) nd (fun _ _ => True.intro) ?_
  refine rr_for <| ii_list <| ee_lcIf (i := 3) nd (blkOk_by (N := nsWithout) (sc := defScope sWithout) (by decide +kernel)) <| ii_list <| ee_sortD rfl T.zSorted <| ee_v (i := 0) rfl ⟨_, rfl, by have := hw.len; omega, _, rfl, ?_⟩
  rw [keys_map]
  refine ⟨fun j acc => acc = dstrs (((sortK (wb.map (·.1))).take j).filter (mineB wb who)), rfl, fun j acc hj ea => ?_, fun acc ea => ?_⟩
  · subst ea
    have hj' : j < (sortK (wb.map (·.1))).length := by
      unfold dstrs at hj
      rwa [List.length_map] at hj
    obtain ⟨n, en⟩ := aget_some_of (hin _ (List.getElem_mem hj'))
    have fs := filt_take (mineB wb who) _ j hj'
    have em : mineB wb who (sortK (wb.map (·.1)))[j] = decide (n.own = some who) := by
      unfold mineB
      rw [en]
      exact decide_eq_decide.mpr ⟨fun h => Option.some.inj h, fun h => by show some n.own = _; rw [h]⟩
    have ed := at_dstrs hj'
    refine ⟨decide (n.own = some who), fun s H C cl fp => ?_, fun hb s H C cl fp => ?_, fun hb => ?_⟩
    · refine tt_cmp op_eq rd_eqS <| ee_ixT <| ee_ixD hu <| ee_v (i := 0) rfl <| ee_v (i := 3) (d := .str (sortK (wb.map (·.1)))[j]) (by show some (Sl.va ((dstrs _).getD j .non)) = _; rw [ed]) ⟨_, dget_webS en, ee_i ⟨ownD n.own, rfl, ee_v (i := 1) rfl <| teq (eqS_own _ _) rfl⟩⟩
    · refine ee_v (i := 3) (d := .str (sortK (wb.map (·.1)))[j]) (by show some (Sl.va ((dstrs _).getD j .non)) = _; rw [ed]) ⟨?_, ?_⟩
      · have h1 := List.length_filter_le (mineB wb who) ((sortK (wb.map (·.1))).take j)
        have h2 := List.length_take_le j (sortK (wb.map (·.1)))
        have := hw.len
        unfold dstrs
        rw [List.length_map]
        omega
      · show dstrs _ ++ _ = dstrs ((List.take (j + 1) (sortK (wb.map (·.1)))).filter (mineB wb who))
        rw [fs, em, if_pos hb]
        unfold dstrs
        rw [List.map_append]
        rfl
    · show dstrs _ = dstrs ((List.take (j + 1) (sortK (wb.map (·.1)))).filter (mineB wb who))
      rw [fs, em, if_neg (by rw [hb]; decide), List.append_nil]
  · have ea : acc = dstrs (((sortK (wb.map (·.1))).take (dstrs (sortK (wb.map (·.1)))).length).filter (mineB wb who)) := ea
    rw [List.take_of_length_le (by unfold dstrs; rw [List.length_map]; exact Nat.le_refl _), ← mine_eq] at ea
    subst ea
    have hlen : (dstrs (mineM wb who)).length = (mineM wb who).length := List.length_map ..
    refine ⟨_, rfl, fun i ρ' => ∃ s3 s4, ρ' = [.va (.dct (webD (lessM wb ((mineM wb who).take i)))), .va (.str who), .owl (((mineM wb who).take i).flatMap dropEvs), s3, s4], ⟨.un, .un, rfl⟩, ?_, ?_⟩
    · rintro i ρ' hi ⟨s3, s4, rfl⟩
      have hi' : i < (mineM wb who).length := by rw [← hlen]; exact hi
      have ed := at_dstrs hi'
      have hin2 : (mineM wb who)[i] ∈ sortK (wb.map (·.1)) := (List.mem_filter.mp (show (mineM wb who)[i] ∈ (sortK (wb.map (·.1))).filter (mineB wb who) from List.getElem_mem hi')).1
      refine gg_name (i := 3) nd ?_
      refine rr_asg <| ee_call DR hr (by decide) <| aa_cons <| ee_v (i := 0) rfl <| aa_cons <| ee_v (i := 3) (d := .str (mineM wb who)[i]) (by show some (Sl.va ((dstrs _).getD i .non)) = _; rw [ed]) <| aa_nil ⟨B, _, _, rfl, less_ok _ _ hw, hw.mem (hin _ hin2), ?_⟩
      refine gg_tup (ggs_cons <| gg_name (i := 0) nd <| ggs_cons <| gg_name (i := 4) nd <| ggs_nil ?_) rfl
      refine rr_extend (i := 2) rfl <| ee_v (i := 4) rfl ⟨_, rfl, ?_, rr_nil ?_⟩
      · rw [flat_len]
        have h2 := List.length_take_le i (mineM wb who)
        show _ + 2 ≤ _
        omega
      · show ∃ s3 s4, (_ : List Sl) = [Sl.va (.dct (webD (lessM wb ((mineM wb who).take (i + 1))))), .va (.str who), .owl (((mineM wb who).take (i + 1)).flatMap dropEvs), s3, s4]
        rw [take_snoc _ _ hi', less_snoc, flat_snoc]
        exact ⟨_, _, rfl⟩
    · rintro ρ' ⟨s3, s4, rfl⟩
      have e2 : (mineM wb who).take (dstrs (mineM wb who)).length = mineM wb who := List.take_of_length_le (by rw [hlen]; exact Nat.le_refl _)
      rw [e2]
      exact rr_tellL (i := 2) rfl <| rr_ret <| ee_tup <| aa_cons <| ee_v (i := 0) rfl <| aa_cons <| ee_v (i := 2) rfl <| aa_nil ⟨Nat.le_of_ble_eq_true rfl, h⟩
end
end Lg
namespace Lg
open PySem PySem.Spec PyProof.Rows L2 TL
theorem at_dds {ds : List Dd} {j : Nat} (h : j < ds.length) : (ds.map Dd.d).getD j D.non = ds[j].d := by
  rw [List.getD_eq_getElem?_getD, List.getElem?_map, List.getElem?_eq_getElem h]
  rfl
section
variable {P : Program} {w : World} {K : PySem.W.Frag} {mg : Str → Option Value} {base : Heap} {f : Addr} {fd : FuncData}
/-! ### done_all -/
abbrev sDoneAll : Stmt := topS 47
def trD (o : Web × D × List D) : D := .tup [.dct (webD o.1), o.2.1, .lst o.2.2]
def cDoneAll : Con := fun as Φ => ∃ B wb ds who, as = [.dct (webD wb), .tup (ds.map Dd.d), .str who] ∧ WebOk B wb ∧ B + 6 ≤ 300 ∧ ds.length ≤ 6 ∧ (∀ d ∈ ds, d.Ok) ∧ Φ (trD (allM wb who 0 wb [] [] ds))
abbrev nsDoneAll : List Str := ["nodes", "deeds", "asker", "found", "values", "events", "number", "deed", "word", "value", "some"]
theorem scDoneAll : FnScope nsDoneAll ["nodes", "deeds", "asker"] (defScope sDoneAll) := ⟨rfl, rfl, rfl, by decide +kernel, rfl, by decide +kernel, by decide +kernel⟩
theorem ok_doneAll (F : Fun K "done_all" "done_all" sDoneAll f fd) (T : Glb K mg) (DP : FnK P w K mg base 5 "done_plain" ["nodes", "deed", "asker"] 2 ["asker"] cDonePlain) : FnOk P w K mg base CX0 6 f fd ["nodes", "deeds", "asker"] (spF K cDoneAll) := by
  refine fn_ok F scDoneAll (fun ds Φ ⟨_, _, _, _, e, _⟩ => by rw [e]; rfl) fun cdv A outer s H E ds Φ hr c => ?_
  obtain ⟨B, wb, ds, who, rfl, hw, hB, hl, hd, h⟩ := c
  have nd := scDoneAll.nd
  refine rr_parL (i := 3) (j := 4) (l := 5) nd (by decide) (by decide) (by decide) <| ee_v (i := 0) rfl ?_
  have hlen : (ds.map Dd.d).length = ds.length := List.length_map ..
  refine rr_for <| ii_enumT T.zEnum <| ee_v (i := 1) rfl ⟨_, rfl, fun i ρ' => ∃ wf vs es s6 s7 s8 s9 s10, ρ' = [.va (.dct (webD wb)), .va (.tup (ds.map Dd.d)), .va (.str who), .va (.dct (webD wf)), .owl vs, .owl es, s6, s7, s8, s9, s10] ∧
    WebOk (B + i) wf ∧ allM wb who 0 wb [] [] ds = allM wb who i wf vs es (ds.drop i) ∧ vs.length = i ∧ es.length ≤ 2 * i, ⟨wb, [], [], .un, .un, .un, .un, .un, rfl, by simpa using hw, rfl, rfl, Nat.zero_le _⟩, ?_, ?_⟩
  · rintro i ρ' hi ⟨wf, vs, es, s6, s7, s8, s9, s10, rfl, hwf, he, hv, hes⟩
    have hi' : i < ds.length := by rw [← hlen]; exact hi
    have ed := at_dds hi'
    refine gg_tup (ggs_cons <| gg_name (i := 6) nd <| ggs_cons <| gg_name (i := 7) nd <| ggs_nil ?_) rfl
    have o := plain_ok (who := who) (d := ds[i]) hwf (by omega) (hd _ (List.getElem_mem hi'))
    have et : ds.drop i = ds[i] :: ds.drop (i + 1) := List.drop_eq_getElem_cons hi'
    refine rr_asg <| ee_callK DP hr (by decide) <| aa_cons <| ee_v (i := 3) rfl <| aa_cons <| ee_v (i := 7) (d := ds[i].d) (by show some (Sl.va ((ds.map Dd.d).getD i .non)) = _; rw [ed]) <| aa_nil <| kk_cons <| ee_v (i := 2) rfl <| kk_nil ⟨rfl, rfl, B + i, wf, ds[i], who, rfl, hwf, by omega, hd _ (List.getElem_mem hi'), ?_⟩
    rw [et] at he
    generalize ho : plainM wf who ds[i] = oo at o
    refine gg_tup (ggs_cons <| gg_name (i := 3) nd <| ggs_cons (gg_tup (ggs_cons <| gg_name (i := 8) nd <| ggs_cons <| gg_name (i := 9) nd <| ggs_nil <| ggs_cons <| gg_name (i := 10) nd <| ggs_nil ?_) rfl)) rfl
    by_cases c : oo.word = "no"
    · refine rr_if <| tt_cmp op_eq rd_eqS <| ee_v (i := 8) rfl <| ee_s <| teq (eqS_T c) <| brT ?_
      refine rr_ret <| ee_tup <| aa_cons <| ee_v (i := 0) rfl <| aa_cons <| ee_tup <| aa_cons <| ee_v (i := 8) rfl <| aa_cons <| ee_v (i := 9) rfl <| aa_cons <| ee_v (i := 6) rfl <| aa_nil ⟨Nat.le_of_ble_eq_true rfl, aa_cons <| ee_lst <| aa_nil ⟨Nat.zero_le _, aa_nil ⟨Nat.le_of_ble_eq_true rfl, ?_⟩⟩⟩
      refine phi_eq h ?_
      rw [he]
      unfold allM
      dsimp only
      rw [ho, if_pos c, c]
      rfl
    · refine rr_if <| tt_cmp op_eq rd_eqS <| ee_v (i := 8) rfl <| ee_s <| teq (eqS_F c) <| brF <| rr_nil ?_
      refine rr_append (i := 4) rfl (by omega) <| ee_v (i := 9) rfl ?_
      refine rr_extend (i := 5) rfl <| ee_v (i := 10) rfl ⟨_, rfl, by have := o.few; omega, rr_nil ?_⟩
      refine ⟨oo.web, vs ++ [oo.val], es ++ oo.evs, _, _, _, _, _, rfl, ?_, ?_, ?_, ?_⟩
      · have := o.web
        rw [Int.add_assoc] at this
        exact this
      · rw [he]
        show allM wb who i wf vs es (ds[i] :: ds.drop (i + 1)) = _
        conv => lhs; unfold allM
        dsimp only
        rw [ho, if_neg c]
      · rw [List.length_append, hv]; rfl
      · rw [List.length_append]
        have := o.few
        omega
  · rintro ρ' ⟨wf, vs, es, s6, s7, s8, s9, s10, rfl, hwf, he, hv, hes⟩
    rw [hlen, List.drop_of_length_le (Nat.le_refl _)] at he
    refine rr_tellL (i := 4) rfl <| rr_tellL (i := 5) rfl <| rr_ret <| ee_tup <| aa_cons <| ee_v (i := 3) rfl <| aa_cons <| ee_tup <| aa_cons <| ee_s <| aa_cons <| ee_ct call_tuple_of rdc_tup T.zTup bt_tup <| aa_cons <| ee_v (i := 4) rfl <| aa_nil ?_
    refine aa_nil ⟨Nat.le_of_ble_eq_true rfl, aa_cons <| ee_v (i := 5) rfl <| aa_nil ⟨Nat.le_of_ble_eq_true rfl, phi_eq h ?_⟩⟩
    rw [he]
    rfl
/-! ### done_deed -/
abbrev sDoneDeed : Stmt := topS 48
def qdD (o : Web × Option Int × D × List D) : D := .tup [.dct (webD o.1), limD o.2.1, o.2.2.1, .lst o.2.2.2]
def cDoneDeed : Con := fun as Φ => ∃ B wb lim d who, as = [.dct (webD wb), limD lim, De.d d, .str who] ∧ WebOk B wb ∧ B + 6 ≤ 300 ∧ d.Ok ∧ Φ (qdD (deedM wb lim d who))
abbrev nsDoneDeed : List Str := ["nodes", "limit", "deed", "asker", "word", "found", "events", "answer"]
theorem scDoneDeed : FnScope nsDoneDeed ["nodes", "limit", "deed", "asker"] (defScope sDoneDeed) := ⟨rfl, rfl, rfl, by decide +kernel, rfl, by decide +kernel, by decide +kernel⟩
def De.word : De → Str
  | .one d => d.word
  | .all _ => "all"
  | .close => "close"
  | .bring => "bring"
  | .opn _ => "open"
theorem De.at0 (d : De) : ∃ xs, d.d = .tup (.str d.word :: xs) := by
  cases d with
  | one d => exact ⟨_, d.d_eq⟩
  | _ => exact ⟨_, rfl⟩
theorem word_ne (d : Dd) (z : Str) (h : ("make" : Str) ≠ z ∧ ("put" : Str) ≠ z ∧ ("drop" : Str) ≠ z ∧ ("see" : Str) ≠ z) : d.word ≠ z := by
  cases d with
  | make => exact h.1
  | put => exact h.2.1
  | drop => exact h.2.2.1
  | see => exact h.2.2.2
theorem ok_doneDeed (F : Fun K "done_deed" "done_deed" sDoneDeed f fd) (T : Glb K mg) (WO : Fn P w K mg base 4 "without_owner" ["nodes", "asker"] cWithout) (DA : Fn P w K mg base 6 "done_all" ["nodes", "deeds", "asker"] cDoneAll) (DP : FnK P w K mg base 5 "done_plain" ["nodes", "deed", "asker"] 2 ["asker"] cDonePlain) : FnOk P w K mg base CX0 7 f fd ["nodes", "limit", "deed", "asker"] (spF K cDoneDeed) := by
  refine fn_ok F scDoneDeed (fun ds Φ ⟨_, _, _, _, _, e, _⟩ => by rw [e]; rfl) fun cdv A outer s H E ds Φ hr c => ?_
  obtain ⟨B, wb, lim, d, who, rfl, hw, hB, hd, h⟩ := c
  have nd := scDoneDeed.nd
  obtain ⟨xs, ex⟩ := d.at0
  refine rr_set (i := 4) nd <| ee_ixT <| ee_v (i := 2) (d := .tup (.str d.word :: xs)) (by show some (Sl.va d.d) = _; rw [ex]) <| ee_i ⟨_, at0 _ _, ?_⟩
  cases lim with
  | none =>
    by_cases ho : ∃ n, d = .opn n
    · obtain ⟨n, rfl⟩ := ho
      refine rr_if <| tt_cmp op_eq rd_eqS <| ee_v (i := 4) rfl <| ee_s <| teq (eqS_T rfl) <| brT ?_
      refine rr_ret <| ee_if <| tt_cmp op_isN rd_isN <| ee_v (i := 1) rfl <| ee_n ⟨rfl, true, rfl, _, rfl, brT ?_⟩
      exact ee_tup <| aa_cons <| ee_v (i := 0) rfl <| aa_cons <| ee_ixT <| ee_v (i := 2) rfl <| ee_i ⟨.int n, rfl, aa_cons <| ee_g T.okc <| aa_cons <| ee_lst <| aa_nil ⟨Nat.zero_le _, aa_nil ⟨Nat.le_of_ble_eq_true rfl, h⟩⟩⟩
    · have hm : deedM wb none d who = (wb, none, .tup [.str "no", .str "closed"], []) := by
        cases d with
        | opn n => exact absurd ⟨n, rfl⟩ ho
        | _ => rfl
      have wn : d.word ≠ "open" := by
        cases d with
        | opn n => exact absurd ⟨n, rfl⟩ ho
        | one d => exact word_ne d _ ⟨by decide +kernel, by decide +kernel, by decide +kernel, by decide +kernel⟩
        | all => exact (show ("all" : Str) ≠ "open" by decide +kernel)
        | close => exact (show ("close" : Str) ≠ "open" by decide +kernel)
        | bring => exact (show ("bring" : Str) ≠ "open" by decide +kernel)
      rw [hm] at h
      refine rr_if <| tt_cmp op_eq rd_eqS <| ee_v (i := 4) rfl <| ee_s <| teq (eqS_F wn) <| brF <| rr_nil ?_
      refine rr_if <| tt_cmp op_isN rd_isN <| ee_v (i := 1) rfl <| ee_n ⟨rfl, true, rfl, _, rfl, brT ?_⟩
      exact rr_ret <| ee_tup <| aa_cons <| ee_v (i := 0) rfl <| aa_cons <| ee_n <| aa_cons <| ee_tup <| aa_cons <| ee_s <| aa_cons <| ee_s <| aa_nil ⟨Nat.le_of_ble_eq_true rfl, aa_cons <| ee_lst <| aa_nil ⟨Nat.zero_le _, aa_nil ⟨Nat.le_of_ble_eq_true rfl, h⟩⟩⟩
  | some l =>
    cases d with
    | opn n =>
      refine rr_if <| tt_cmp op_eq rd_eqS <| ee_v (i := 4) rfl <| ee_s <| teq (eqS_T rfl) <| brT ?_
      refine rr_ret <| ee_if <| tt_cmp op_isN rd_isN <| ee_v (i := 1) rfl <| ee_n ⟨rfl, false, rfl, _, rfl, brF ?_⟩
      exact ee_tup <| aa_cons <| ee_v (i := 0) rfl <| aa_cons <| ee_v (i := 1) rfl <| aa_cons <| ee_tup <| aa_cons <| ee_s <| aa_cons <| ee_s <| aa_nil ⟨Nat.le_of_ble_eq_true rfl, aa_cons <| ee_lst <| aa_nil ⟨Nat.zero_le _, aa_nil ⟨Nat.le_of_ble_eq_true rfl, h⟩⟩⟩
    | close =>
      refine rr_if <| tt_cmp op_eq rd_eqS <| ee_v (i := 4) rfl <| ee_s <| teq (eqS_F (show ("close" : Str) ≠ "open" by decide +kernel)) <| brF <| rr_nil ?_
      refine rr_if <| tt_cmp op_isN rd_isN <| ee_v (i := 1) rfl <| ee_n ⟨rfl, false, rfl, _, rfl, brF <| rr_nil ?_⟩
      refine rr_if <| tt_cmp op_eq rd_eqS <| ee_v (i := 4) rfl <| ee_s <| teq (eqS_T rfl) <| brT ?_
      refine rr_asg <| ee_call WO hr (by decide) <| aa_cons <| ee_v (i := 0) rfl <| aa_cons <| ee_v (i := 3) rfl <| aa_nil ⟨B, wb, who, rfl, hw, ?_⟩
      refine gg_tup (ggs_cons <| gg_name (i := 5) nd <| ggs_cons <| gg_name (i := 6) nd <| ggs_nil ?_) rfl
      exact rr_ret <| ee_tup <| aa_cons <| ee_v (i := 5) rfl <| aa_cons <| ee_n <| aa_cons <| ee_g T.okc <| aa_cons <| ee_v (i := 6) rfl <| aa_nil ⟨Nat.le_of_ble_eq_true rfl, h⟩
    | bring =>
      refine rr_if <| tt_cmp op_eq rd_eqS <| ee_v (i := 4) rfl <| ee_s <| teq (eqS_F (show ("bring" : Str) ≠ "open" by decide +kernel)) <| brF <| rr_nil ?_
      refine rr_if <| tt_cmp op_isN rd_isN <| ee_v (i := 1) rfl <| ee_n ⟨rfl, false, rfl, _, rfl, brF <| rr_nil ?_⟩
      refine rr_if <| tt_cmp op_eq rd_eqS <| ee_v (i := 4) rfl <| ee_s <| teq (eqS_F (show ("bring" : Str) ≠ "close" by decide +kernel)) <| brF <| rr_nil ?_
      refine rr_if <| tt_cmp op_eq rd_eqS <| ee_v (i := 4) rfl <| ee_s <| teq (eqS_T rfl) <| brT ?_
      exact rr_ret <| ee_tup <| aa_cons <| ee_v (i := 0) rfl <| aa_cons <| ee_v (i := 1) rfl <| aa_cons <| ee_g T.okc <| aa_cons <| ee_lst <| aa_nil ⟨Nat.zero_le _, aa_nil ⟨Nat.le_of_ble_eq_true rfl, h⟩⟩
    | all es =>
      refine rr_if <| tt_cmp op_eq rd_eqS <| ee_v (i := 4) rfl <| ee_s <| teq (eqS_F (show ("all" : Str) ≠ "open" by decide +kernel)) <| brF <| rr_nil ?_
      refine rr_if <| tt_cmp op_isN rd_isN <| ee_v (i := 1) rfl <| ee_n ⟨rfl, false, rfl, _, rfl, brF <| rr_nil ?_⟩
      refine rr_if <| tt_cmp op_eq rd_eqS <| ee_v (i := 4) rfl <| ee_s <| teq (eqS_F (show ("all" : Str) ≠ "close" by decide +kernel)) <| brF <| rr_nil ?_
      refine rr_if <| tt_cmp op_eq rd_eqS <| ee_v (i := 4) rfl <| ee_s <| teq (eqS_F (show ("all" : Str) ≠ "bring" by decide +kernel)) <| brF <| rr_nil ?_
      refine rr_if <| tt_cmp op_eq rd_eqS <| ee_v (i := 4) rfl <| ee_s <| teq (eqS_T rfl) <| brT ?_
      refine rr_asg <| ee_call DA hr (by decide) <| aa_cons <| ee_v (i := 0) rfl <| aa_cons <| ee_ixT <| ee_v (i := 2) rfl <| ee_i ⟨.tup (es.map Dd.d), rfl, aa_cons <| ee_v (i := 3) rfl <| aa_nil ⟨B, wb, es, who, rfl, hw, hB, hd.2.1, hd.2.2, ?_⟩⟩
      refine gg_tup (ggs_cons <| gg_name (i := 5) nd <| ggs_cons <| gg_name (i := 7) nd <| ggs_cons <| gg_name (i := 6) nd <| ggs_nil <| rr_nil ?_) rfl
      exact rr_ret <| ee_tup <| aa_cons <| ee_v (i := 5) rfl <| aa_cons <| ee_v (i := 1) rfl <| aa_cons <| ee_v (i := 7) rfl <| aa_cons <| ee_v (i := 6) rfl <| aa_nil ⟨Nat.le_of_ble_eq_true rfl, h⟩
    | one d =>
      refine rr_if <| tt_cmp op_eq rd_eqS <| ee_v (i := 4) rfl <| ee_s <| teq (eqS_F (word_ne d _ ⟨by decide +kernel, by decide +kernel, by decide +kernel, by decide +kernel⟩)) <| brF <| rr_nil ?_
      refine rr_if <| tt_cmp op_isN rd_isN <| ee_v (i := 1) rfl <| ee_n ⟨rfl, false, rfl, _, rfl, brF <| rr_nil ?_⟩
      refine rr_if <| tt_cmp op_eq rd_eqS <| ee_v (i := 4) rfl <| ee_s <| teq (eqS_F (word_ne d _ ⟨by decide +kernel, by decide +kernel, by decide +kernel, by decide +kernel⟩)) <| brF <| rr_nil ?_
      refine rr_if <| tt_cmp op_eq rd_eqS <| ee_v (i := 4) rfl <| ee_s <| teq (eqS_F (word_ne d _ ⟨by decide +kernel, by decide +kernel, by decide +kernel, by decide +kernel⟩)) <| brF <| rr_nil ?_
      refine rr_if <| tt_cmp op_eq rd_eqS <| ee_v (i := 4) rfl <| ee_s <| teq (eqS_F (word_ne d _ ⟨by decide +kernel, by decide +kernel, by decide +kernel, by decide +kernel⟩)) <| brF ?_
      refine rr_asg <| ee_callK DP hr (by decide) <| aa_cons <| ee_v (i := 0) rfl <| aa_cons <| ee_v (i := 2) rfl <| aa_nil <| kk_cons <| ee_v (i := 3) rfl <| kk_nil ⟨rfl, rfl, B, wb, d, who, rfl, hw, by omega, hd, ?_⟩
      refine gg_tup (ggs_cons <| gg_name (i := 5) nd <| ggs_cons <| gg_name (i := 7) nd <| ggs_cons <| gg_name (i := 6) nd <| ggs_nil <| rr_nil ?_) rfl
      exact rr_ret <| ee_tup <| aa_cons <| ee_v (i := 5) rfl <| aa_cons <| ee_v (i := 1) rfl <| aa_cons <| ee_v (i := 7) rfl <| aa_cons <| ee_v (i := 6) rfl <| aa_nil ⟨Nat.le_of_ble_eq_true rfl, h⟩
end
end Lg
namespace Lg
open PySem PySem.Spec PyProof.Rows L2 TL
def resD (o : Sta × D × List D) : D := .tup [staD o.1, o.2.1, .lst o.2.2]
theorem get_never (s : Sess) (z : Str) : (dget (sessD s) z).getD (.tup [.non, .int 0, .non, .tup [.int 0, .int 0]]) = seD ((aget s z).getD neverM) := by
  rw [dget_map]
  cases aget s z with
  | none => rfl
  | some v => rfl
theorem dput_sess {s : Sess} {k : Str} {e : Se} : dput (sessD s) k (seD e) = sessD (aput s k e) := dput_map
section
variable {X : Cx} {sts : List Stmt} {ρ : List Sl} {N : List Sl → Prop} {R : D → Prop}
theorem rr_at (ρ1 : List Sl) (e : ρ = ρ1) (h : RR X sts ρ1 N R) : RR X sts ρ N R := e ▸ h
end
section
variable {P : Program} {w : World} {K : PySem.W.Frag} {mg : Str → Option Value} {base : Heap} {f : Addr} {fd : FuncData}
/-! ### first_state -/
abbrev sFirstState : Stmt := topS 45
def cFirstState : Con := fun ds Φ => ds = [] ∧ Φ (staD firstM)
theorem scFirstState : FnScope [] [] (defScope sFirstState) := ⟨rfl, rfl, rfl, by decide +kernel, rfl, by decide +kernel, by decide +kernel⟩
theorem ok_firstState (F : Fun K "first_state" "first_state" sFirstState f fd) (T : Glb K mg) (FN : Fn P w K mg base 1 "first_nodes" [] cFirstNodes) : FnOk P w K mg base CX0 2 f fd [] (spF K cFirstState) := by
  refine fn_ok F scFirstState (fun ds Φ ⟨e, _⟩ => by rw [e]; rfl) fun cdv A outer s H E ds Φ hr c => ?_
  obtain ⟨rfl, h⟩ := c
  exact rr_ret <| ee_tup <| aa_cons <| ee_call0 FN hr (by decide) ⟨rfl, aa_cons <| ee_dnew <| aa_nil ⟨Nat.le_of_ble_eq_true rfl, h⟩⟩
/-! ### ended -/
abbrev sEnded : Stmt := topS 49
def cEnded : List (Str × D) → List (Str × D) → Str → (D → Prop) → Prop := fun n s z Φ => ∃ B st, n = webD (Prod.fst st) ∧ s = sessD (Prod.snd st) ∧ StaOk B st ∧ B + 6 ≤ 300 ∧ Φ (resD (endM st z))
abbrev nsEnded : List Str := ["nodes", "sessions", "asker", "limit", "stamp", "answer", "place", "found", "events"]
theorem scEnded : FnScope nsEnded ["nodes", "sessions", "asker"] (defScope sEnded) := ⟨rfl, rfl, rfl, by decide +kernel, rfl, by decide +kernel, by decide +kernel⟩
theorem ok_ended (F : Fun K "ended" "ended" sEnded f fd) (T : Glb K mg) (WO : Fn P w K mg base 4 "without_owner" ["nodes", "asker"] cWithout) : FnOk P w K mg base CX0 5 f fd ["nodes", "sessions", "asker"] (spO K cEnded) := by
  refine fn_okO (m := 6) F scEnded rfl rfl fun cdv A outer s H E n kvs z Φ hr c => ?_
  obtain ⟨B, st, rfl, rfl, hst, hB, h⟩ := c
  have nd := scEnded.nd
  have hu := Room.u1 hr
  have hl : (sessD st.2).length = st.2.length := amap_len
  have hl2 := hst.len
  refine rr_asg <| ee_get2O (i := 1) hu rfl <| ee_v (i := 2) rfl <| ee_g T.never ⟨_, rfl, ?_⟩
  rw [get_never]
  generalize he : (aget st.2 z).getD neverM = e
  refine gg_tup (ggs_cons <| gg_name (i := 3) nd <| ggs_cons <| gg_name (i := 4) nd <| ggs_cons <| gg_name (i := 5) nd <| ggs_cons <| gg_name (i := 6) nd <| ggs_nil ?_) rfl
  cases el : e.limit with
  | none =>
    refine rr_if <| tt_cmp op_isN rd_isN <| ee_v (i := 3) rfl <| ee_n ⟨rfl, true, rfl, _, rfl, brT ?_⟩
    refine rr_tellD (i := 1) rfl <| rr_ret <| ee_tup <| aa_cons <| ee_tup <| aa_cons <| ee_v (i := 0) rfl <| aa_cons <| ee_v (i := 1) rfl <| aa_nil ⟨Nat.le_of_ble_eq_true rfl, aa_cons <| ee_n <| aa_cons <| ee_lst <| aa_nil ⟨Nat.zero_le _, aa_nil ⟨Nat.le_of_ble_eq_true rfl, phi_eq h ?_⟩⟩⟩
    unfold endM
    dsimp only
    rw [he, if_pos el]
    rfl
  | some l =>
    refine rr_if <| tt_cmp op_isN rd_isN <| ee_v (i := 3) rfl <| ee_n ⟨rfl, false, rfl, _, rfl, brF <| rr_nil ?_⟩
    refine rr_asg <| ee_call WO hr (by decide) <| aa_cons <| ee_v (i := 0) rfl <| aa_cons <| ee_v (i := 2) rfl <| aa_nil ⟨B, st.1, z, rfl, hst.web, ?_⟩
    refine gg_tup (ggs_cons <| gg_name (i := 7) nd <| ggs_cons <| gg_name (i := 8) nd <| ggs_nil ?_) rfl
    refine rr_put (i := 1) hu rfl (by omega) <| ee_tup <| aa_cons <| ee_n <| aa_cons <| ee_v (i := 4) rfl <| aa_cons <| ee_v (i := 5) rfl <| aa_cons <| ee_v (i := 6) rfl <| aa_nil ⟨Nat.le_of_ble_eq_true rfl, ee_v (i := 2) rfl ⟨_, rfl, ?_⟩⟩
    refine rr_tellD (i := 1) rfl <| rr_ret <| ee_tup <| aa_cons <| ee_tup <| aa_cons <| ee_v (i := 7) rfl <| aa_cons <| ee_v (i := 1) rfl <| aa_nil ⟨Nat.le_of_ble_eq_true rfl, aa_cons <| ee_n <| aa_cons <| ee_v (i := 8) rfl <| aa_nil ⟨Nat.le_of_ble_eq_true rfl, phi_eq h ?_⟩⟩
    unfold endM
    dsimp only
    rw [he, if_neg (by rw [el]; simp)]
    unfold resD staD
    dsimp only
    rw [← dput_sess]
    rfl
/-! ### done -/
abbrev sDone : Stmt := topS 50
def cDone : Con := fun ds Φ => ∃ B st e p, ds = [staD st, En.d e, plcD p] ∧ StaOk B st ∧ B + 6 ≤ 300 ∧ e.Ok ∧ Φ (resD (doneM st e p))
abbrev nsDone : List Str := ["state", "entry", "place", "nodes", "sessions", "asker", "stamp", "deed", "limit", "last", "elder", "where", "found", "answer", "events", "one"]
theorem scDone : FnScope nsDone ["state", "entry", "place"] (defScope sDone) := ⟨rfl, rfl, rfl, by decide +kernel, rfl, by decide +kernel, by decide +kernel⟩
theorem ok_done (F : Fun K "done" "done" sDone f fd) (T : Glb K mg) (IE : Fn P w K mg base 6 "is_entry" ["thing"] cEntry) (EN : FnO P w K mg base 5 "ended" ["nodes", "sessions", "asker"] cEnded) (DD : Fn P w K mg base 7 "done_deed" ["nodes", "limit", "deed", "asker"] cDoneDeed) : FnOk P w K mg base CX0 8 f fd ["state", "entry", "place"] (spF K cDone) := by
  refine fn_ok F scDone (fun ds Φ ⟨_, _, _, _, e, _⟩ => by rw [e]; rfl) fun cdv A outer s H E ds Φ hr c => ?_
  obtain ⟨B, st, e, p, rfl, hst, hB, he, h⟩ := c
  have nd := scDone.nd
  have hu := Room.u1 hr
  have hl : (sessD st.2).length = st.2.length := amap_len
  have hl2 := hst.len
  refine rr_if <| tt_not <| tt_val <| ee_call IE hr (by decide) <| aa_cons <| ee_v (i := 1) rfl <| aa_nil ⟨e, rfl, he, _, rfl, brF <| rr_nil ?_⟩
  refine rr_two (i := 3) (j := 4) (l := 15) (st := 0) nd (by decide) (by decide) (by decide) (Nat.le_of_ble_eq_true rfl) rfl (blkOk_by (N := nsDone) (sc := defScope sDone) (by decide +kernel)) ?_
    (fun s H C cl fp => pe_callTy call_dictD rfl T.zDict bt_dict (pa_cons (pe_var rfl (Or.inl rfl)) pa_nil rfl) (by decide) (by decide) rfl rfl) (fun _ _ _ _ _ => pg_name nd rfl (Or.inl rfl))
  refine rr_tellD (i := 3) rfl ?_
  refine rr_at [.va (staD st), .va (En.d e), .va (plcD p), .va (.dct (webD st.1)), .owd (sessD st.2), .un, .un, .un, .un, .un, .un, .un, .un, .un, .un, .un] rfl ?_
  cases e with
  | fin who =>
    refine rr_set (i := 5) nd <| ee_ixT <| ee_v (i := 1) rfl <| ee_i ⟨.str who, rfl, ?_⟩
    refine rr_if <| tt_cmp op_eq rd_eqS <| ee_ixT <| ee_v (i := 1) rfl <| ee_i ⟨.str "end", rfl, ee_s <| teq (eqS_T rfl) <| brT ?_⟩
    exact rr_retO (i := 3) (j := 4) (l := 5) EN hr (by decide) rfl rfl rfl ⟨B, st, rfl, rfl, hst, hB, h⟩
  | ask who n d =>
    refine rr_set (i := 5) nd <| ee_ixT <| ee_v (i := 1) rfl <| ee_i ⟨.str who, rfl, ?_⟩
    refine rr_if <| tt_cmp op_eq rd_eqS <| ee_ixT <| ee_v (i := 1) rfl <| ee_i ⟨.str "ask", rfl, ee_s <| teq (eqS_F (show ("ask" : Str) ≠ "end" by decide +kernel)) <| brF <| rr_nil ?_⟩
    refine rr_asg <| ee_slT <| ee_v (i := 1) rfl <| ee_i ⟨2, rfl, ?_⟩
    show GG _ _ (.tup [.int n, d.d]) _ _
    refine gg_tup (ggs_cons <| gg_name (i := 6) nd <| ggs_cons <| gg_name (i := 7) nd <| ggs_nil ?_) rfl
    refine rr_asg <| ee_get2O (i := 4) hu rfl <| ee_v (i := 5) rfl <| ee_g T.never ⟨_, rfl, ?_⟩
    rw [get_never]
    generalize hse : (aget st.2 who).getD neverM = se
    refine gg_tup (ggs_cons <| gg_name (i := 8) nd <| ggs_cons <| gg_name (i := 9) nd <| ggs_cons <| gg_name (i := 10) nd <| ggs_cons <| gg_name (i := 11) nd <| ggs_nil ?_) rfl
    refine rr_at [.va (staD st), .va (En.d (.ask who n d)), .va (plcD p), .va (.dct (webD st.1)), .owd (sessD st.2), .va (.str who), .va (.int n), .va d.d, .va (limD se.limit), .va (.int se.stamp), .va se.ans, .va (plcD se.place), .un, .un, .un, .un] rfl ?_
    by_cases hn : n ≤ se.stamp
    · have hm : doneM st (.ask who n d) p = (st, if n = se.stamp then se.ans else .non, []) := by
        unfold doneM
        dsimp only
        rw [hse, if_pos hn]
      rw [hm] at h
      refine rr_if <| tt_cmp op_le rd_B0 <| ee_v (i := 6) rfl <| ee_v (i := 9) rfl ⟨true, blT hn, brT ?_⟩
      refine rr_tellD (i := 4) rfl <| rr_ret <| ee_tup <| aa_cons <| ee_tup <| aa_cons <| ee_v (i := 3) rfl <| aa_cons <| ee_v (i := 4) rfl <| aa_nil ⟨Nat.le_of_ble_eq_true rfl, ?_⟩
      refine aa_cons <| ee_mono (Φ := fun d => d = if n = se.stamp then se.ans else .non) (ee_if <| tt_cmp op_eq rd_eqS <| ee_v (i := 6) rfl <| ee_v (i := 9) rfl <| teq rfl <| brD (fun hc => ee_v (i := 10) rfl ?_) fun hc => ee_n ?_) fun d ed => ?_
      · rw [if_pos hc]
      · rw [if_neg hc]
      subst ed
      exact aa_cons <| ee_lst <| aa_nil ⟨Nat.zero_le _, aa_nil ⟨Nat.le_of_ble_eq_true rfl, h⟩⟩
    · have hm : doneM st (.ask who n d) p = (((deedM st.1 se.limit d who).1, aput st.2 who ⟨(deedM st.1 se.limit d who).2.1, n, (deedM st.1 se.limit d who).2.2.1, p⟩), (deedM st.1 se.limit d who).2.2.1, (deedM st.1 se.limit d who).2.2.2) := by
        unfold doneM
        dsimp only
        rw [hse, if_neg hn]
      rw [hm] at h
      refine rr_if <| tt_cmp op_le rd_B0 <| ee_v (i := 6) rfl <| ee_v (i := 9) rfl ⟨false, blF hn, brF <| rr_nil ?_⟩
      refine rr_asg <| ee_call DD hr (by decide) <| aa_cons <| ee_v (i := 3) rfl <| aa_cons <| ee_v (i := 8) rfl <| aa_cons <| ee_v (i := 7) rfl <| aa_cons <| ee_v (i := 5) rfl <| aa_nil ⟨B, st.1, se.limit, d, who, rfl, hst.web, hB, he.2.2, ?_⟩
      generalize deedM st.1 se.limit d who = o at h ⊢
      refine gg_tup (ggs_cons <| gg_name (i := 12) nd <| ggs_cons <| gg_name (i := 8) nd <| ggs_cons <| gg_name (i := 13) nd <| ggs_cons <| gg_name (i := 14) nd <| ggs_nil ?_) rfl
      refine rr_at [.va (staD st), .va (En.d (.ask who n d)), .va (plcD p), .va (.dct (webD st.1)), .owd (sessD st.2), .va (.str who), .va (.int n), .va d.d, .va (limD o.2.1), .va (.int se.stamp), .va se.ans, .va (plcD se.place), .va (.dct (webD o.1)), .va o.2.2.1, .va (.lst o.2.2.2), .un] rfl ?_
      refine rr_put (i := 4) hu rfl (by omega) <| ee_tup <| aa_cons <| ee_v (i := 8) rfl <| aa_cons <| ee_v (i := 6) rfl <| aa_cons <| ee_v (i := 13) rfl <| aa_cons <| ee_v (i := 2) rfl <| aa_nil ⟨Nat.le_of_ble_eq_true rfl, ee_v (i := 5) rfl ⟨_, rfl, ?_⟩⟩
      refine rr_tellD (i := 4) rfl <| rr_ret <| ee_tup <| aa_cons <| ee_tup <| aa_cons <| ee_ct call_dictD rdc_dict T.zDict bt_dict <| aa_cons <| ee_v (i := 12) rfl <| aa_nil ?_
      refine aa_cons <| ee_v (i := 4) rfl <| aa_nil ⟨Nat.le_of_ble_eq_true rfl, aa_cons <| ee_v (i := 13) rfl <| aa_cons <| ee_v (i := 14) rfl <| aa_nil ⟨Nat.le_of_ble_eq_true rfl, phi_eq h ?_⟩⟩
      unfold resD staD
      dsimp only
      rw [← dput_sess]
      rfl
end
end Lg
namespace Lg
open PySem PySem.Spec PyProof.Rows L2 TL
def Goes (a b : Int × Int) : Prop := if b.1 = a.1 ∧ ¬ a = (0, 0) then b.2 = a.2 + 1 else a.1 < b.1 ∧ b.2 = 1
def PlOk (p : Int × Int) : Prop := 0 ≤ p.1 ∧ 0 ≤ p.2
def plcs (r : Row) : List (Int × Int) := (0, 0) :: r.map (·.1)
def RowOk (r : Row) : Prop := ∀ i (h : i < r.length), Goes ((plcs r).getD i (0, 0)) r[i].1 ∧ PlOk r[i].1 ∧ r[i].2.Ok
def leB (a b : Int × Int) : Bool := if a.1 = b.1 then decide (a.2 ≤ b.2) else decide (a.1 ≤ b.1)
def gtB (a b : Int × Int) : Bool := if a.1 = b.1 then decide (b.2 < a.2) else decide (b.1 < a.1)
def lastP (r : Row) : Int × Int := (r.getLast?.map (·.1)).getD (0, 0)
def eqL (x y : List D) : Bool := PyData.eqv (py (.lst x)) (py (.lst y))
theorem eqv_plc (a b : Int × Int) : PyData.eqv (py (plcD a)) (py (plcD b)) = decide (a = b) := by
  show (a.1 == b.1 && (a.2 == b.2 && true)) = _
  obtain ⟨a1, a2⟩ := a
  obtain ⟨b1, b2⟩ := b
  rw [Bool.and_true]
  by_cases h1 : a1 = b1
  · by_cases h2 : a2 = b2
    · subst h1 h2; simp
    · simp [h2]
  · simp [h1]
theorem pl_plc (n : Nat) (p : Int × Int) : Pl (n + 1) (plcD p) := Pl.tup (pl_cons (pl_int _ _) (pl_cons (pl_int _ _) pl_nil))
theorem pl_line (n : Nat) (l : (Int × Int) × En) : Pl (n + 5) (lineD l) := Pl.tup (pl_cons (pl_plc _ _) (pl_cons (pl_en _ _) pl_nil))
theorem pl_row (n : Nat) (r : Row) : ∀ d ∈ rowD r, Pl (n + 5) d := fun d hd => by
  obtain ⟨l, _, rfl⟩ := List.mem_map.mp hd
  exact pl_line _ _
theorem row_len (r : Row) : (rowD r).length = r.length := List.length_map ..
theorem at_row {r : Row} {j : Nat} (h : j < r.length) : (rowD r).getD j D.non = lineD r[j] := by
  unfold rowD
  rw [List.getD_eq_getElem?_getD, List.getElem?_map, List.getElem?_eq_getElem h]
  rfl
theorem plc_step {r : Row} {i : Nat} (h : i < r.length) : (plcs r).getD (i + 1) (0, 0) = r[i].1 := by
  unfold plcs
  rw [List.getD_cons_succ, List.getD_eq_getElem?_getD, List.getElem?_map, List.getElem?_eq_getElem h]
  rfl
theorem staOf_step {r : Row} {i : Nat} (h : i < r.length) : staOf (r.take (i + 1)) = stepM (staOf (r.take i)) r[i] := by
  rw [take_snoc r i h, staOf_snoc]
theorem sta_take {r : Row} (hl : r.length ≤ 40) (h : ∀ l ∈ r, l.2.Ok) (i : Nat) : StaOk (6 * r.length) (staOf (r.take i)) := by
  have t := staOf_ok (r.take i) 40 (by rw [List.length_take]; omega) (by decide) fun l m => h l (List.mem_of_mem_take m)
  refine t.up ?_
  rw [List.length_take]
  omega
section
variable {P : Program} {w : World} {K : PySem.W.Frag} {mg : Str → Option Value} {base : Heap} {f : Addr} {fd : FuncData}
/-! ### goes_on -/
abbrev sGoesOn : Stmt := topS 52
def cGoesOn : Con := fun ds Φ => ∃ a b, ds = [plcD a, plcD b] ∧ Goes a b ∧ Φ (.bl true)
theorem scGoesOn : FnScope ["ahead", "place", "epoch", "number"] ["ahead", "place"] (defScope sGoesOn) := ⟨rfl, rfl, rfl, by decide +kernel, rfl, by decide +kernel, by decide +kernel⟩
theorem ok_goesOn (F : Fun K "goes_on" "goes_on" sGoesOn f fd) (T : Glb K mg) : FnOk P w K mg base CX0 1 f fd ["ahead", "place"] (spF K cGoesOn) := by
  refine fn_ok F scGoesOn (fun ds Φ ⟨_, _, e, _⟩ => by rw [e]; rfl) fun cdv A outer s H E ds Φ hr c => ?_
  obtain ⟨a, b, rfl, hg, h⟩ := c
  have nd := scGoesOn.nd
  refine rr_asg <| ee_v (i := 1) rfl ?_
  refine gg_tup (ggs_cons <| gg_name (i := 2) nd <| ggs_cons <| gg_name (i := 3) nd <| ggs_nil ?_) rfl
  unfold Goes at hg
  by_cases c : b.1 = a.1 ∧ ¬ a = (0, 0)
  · rw [if_pos c] at hg
    refine rr_if <| tt_bool <| tw_and <| tt_cmp op_eq rd_eqS <| ee_v (i := 2) rfl <| ee_ixT <| ee_v (i := 0) rfl <| ee_i ⟨.int a.1, rfl, teq (b := true) (by rw [eqS_cnt, decide_eq_true c.1]) <| brT ?_⟩
    refine tw_and1 <| tt_cmp (op_neP hr.units) rd_neD <| ee_v (i := 0) rfl <| ee_g T.nowhere ⟨pl_plc _ _, pl_plc 59 (0, 0), false, ?_, _, rfl, brT ?_⟩
    · show PyData.eqv (py (plcD a)) (py (plcD (0, 0))) = _
      rw [eqv_plc, decide_eq_false c.2]
    · refine rr_ret <| ee_cmp op_eq rd_eqS <| ee_v (i := 3) rfl <| ee_add <| ee_ixT <| ee_v (i := 0) rfl <| ee_i ⟨.int a.2, rfl, ee_i ⟨true, ?_, h⟩⟩
      show eqS (.int b.2) (.int (a.2 + 1)) = _
      rw [eqS_cnt, decide_eq_true hg]
  · rw [if_neg c] at hg
    refine rr_if <| tt_bool <| tw_and <| tt_cmp op_eq rd_eqS <| ee_v (i := 2) rfl <| ee_ixT <| ee_v (i := 0) rfl <| ee_i ⟨.int a.1, rfl, teq (b := false) (by rw [eqS_cnt, decide_eq_false (by omega)]) <| brF <| brF <| rr_nil ?_⟩
    refine rr_ret <| ee_and <| ee_cmp op_gt rd_B0 <| ee_v (i := 2) rfl <| ee_ixT <| ee_v (i := 0) rfl <| ee_i ⟨.int a.1, rfl, true, blT hg.1, fun _ => ?_, fun z => by cases z⟩
    refine ee_one <| ee_cmp op_eq rd_eqS <| ee_v (i := 3) rfl <| ee_i ⟨true, ?_, h⟩
    rw [eqS_cnt, decide_eq_true hg.2]
/-! ### is_row -/
abbrev sIsRow : Stmt := topS 53
def cIsRow : Con := fun ds Φ => ∃ r, ds = [.lst (rowD r)] ∧ RowOk r ∧ Φ (.bl true)
theorem scIsRow : FnScope ["thing", "ahead", "one"] ["thing"] (defScope sIsRow) := ⟨rfl, rfl, rfl, by decide +kernel, rfl, by decide +kernel, by decide +kernel⟩
theorem ok_isRow (F : Fun K "is_row" "is_row" sIsRow f fd) (T : Glb K mg) (PC : Fn P w K mg base 2 "is_place" ["thing"] cPlace) (IE : Fn P w K mg base 6 "is_entry" ["thing"] cEntry) (GO : Fn P w K mg base 1 "goes_on" ["ahead", "place"] cGoesOn) : FnOk P w K mg base CX0 7 f fd ["thing"] (spF K cIsRow) := by
  refine fn_ok F scIsRow (fun ds Φ ⟨_, e, _⟩ => by rw [e]; rfl) fun cdv A outer s H E ds Φ hr c => ?_
  obtain ⟨r, rfl, hrow, h⟩ := c
  have nd := scIsRow.nd
  refine rr_if <| tt_not <| tt_val <| ee_isList T.zIsi T.zList <| ee_v (i := 0) rfl ⟨_, rfl, _, rfl, brF <| rr_nil ?_⟩
  refine rr_set (i := 1) nd <| ee_g T.nowhere ?_
  refine rr_for <| ii_list <| ee_v (i := 0) rfl ⟨_, rfl, fun i ρ' => ∃ s2, ρ' = [.va (.lst (rowD r)), .va (plcD ((plcs r).getD i (0, 0))), s2], ⟨.un, rfl⟩, ?_, ?_⟩
  · rintro i ρ' hi ⟨s2, rfl⟩
    have hi' : i < r.length := by rw [← row_len]; exact hi
    have ed := at_row hi'
    obtain ⟨g1, g2, g3⟩ := hrow i hi'
    show GG _ _ ((rowD r).getD i .non) _ _
    rw [ed]
    refine gg_name (i := 2) nd ?_
    refine rr_if <| tt_bool <| tw_or <| tt_not <| tt_val <| ee_isTup T.zIsi T.zTup <| ee_v (i := 2) rfl ⟨_, rfl, _, rfl, brF ?_⟩
    refine tw_or <| tt_cmp op_ne rd_neS <| ee_len T.zLen <| ee_v (i := 2) rfl <| ee_i <| teq (b := true) rfl <| brF ?_
    refine tw_or <| tt_not <| tt_val <| ee_call PC hr (by decide) <| aa_cons <| ee_ixT <| ee_v (i := 2) rfl <| ee_i ⟨plcD r[i].1, rfl, aa_nil ⟨r[i].1, rfl, g2.1, g2.2, _, rfl, brF ?_⟩⟩
    refine tw_or1 <| tt_not <| tt_val <| ee_call IE hr (by decide) <| aa_cons <| ee_ixT <| ee_v (i := 2) rfl <| ee_i ⟨r[i].2.d, rfl, aa_nil ⟨r[i].2, rfl, g3, _, rfl, brF <| rr_nil ?_⟩⟩
    refine rr_if <| tt_not <| tt_val <| ee_call GO hr (by decide) <| aa_cons <| ee_v (i := 1) rfl <| aa_cons <| ee_ixT <| ee_v (i := 2) rfl <| ee_i ⟨plcD r[i].1, rfl, aa_nil ⟨_, r[i].1, rfl, g1, _, rfl, brF <| rr_nil ?_⟩⟩
    refine rr_set (i := 1) nd <| ee_ixT <| ee_v (i := 2) rfl <| ee_i ⟨plcD r[i].1, rfl, rr_nil ?_⟩
    exact ⟨_, by rw [plc_step hi']; rfl⟩
  · rintro ρ' ⟨s2, rfl⟩
    exact rr_ret (ee_b h)
/-! ### state_of, told_by -/
abbrev sStateOf : Stmt := topS 54
def cStateOf : Con := fun ds Φ => ∃ r, ds = [.lst (rowD r)] ∧ r.length ≤ 40 ∧ (∀ l ∈ r, l.2.Ok) ∧ Φ (staD (staOf r))
theorem scStateOf : FnScope ["row", "state", "place", "entry", "answer", "events"] ["row"] (defScope sStateOf) := ⟨rfl, rfl, rfl, by decide +kernel, rfl, by decide +kernel, by decide +kernel⟩
theorem ok_stateOf (F : Fun K "state_of" "state_of" sStateOf f fd) (T : Glb K mg) (FS : Fn P w K mg base 2 "first_state" [] cFirstState) (DN : FnK P w K mg base 8 "done" ["state", "entry", "place"] 2 ["place"] cDone) : FnOk P w K mg base CX0 9 f fd ["row"] (spF K cStateOf) := by
  refine fn_ok F scStateOf (fun ds Φ ⟨_, e, _⟩ => by rw [e]; rfl) fun cdv A outer s H E ds Φ hr c => ?_
  obtain ⟨r, rfl, hl, hrow, h⟩ := c
  have nd := scStateOf.nd
  refine rr_set (i := 1) nd <| ee_call0 FS hr (by decide) ⟨rfl, ?_⟩
  refine rr_for <| ii_list <| ee_v (i := 0) rfl ⟨_, rfl, fun i ρ' => ∃ s2 s3 s4 s5, ρ' = [.va (.lst (rowD r)), .va (staD (staOf (r.take i))), s2, s3, s4, s5], ⟨.un, .un, .un, .un, rfl⟩, ?_, ?_⟩
  · rintro i ρ' hi ⟨s2, s3, s4, s5, rfl⟩
    have hi' : i < r.length := by rw [← row_len]; exact hi
    have ed := at_row hi'
    show GG _ _ ((rowD r).getD i .non) _ _
    rw [ed]
    refine gg_tup (ggs_cons <| gg_name (i := 2) nd <| ggs_cons <| gg_name (i := 3) nd <| ggs_nil ?_) rfl
    refine rr_asg <| ee_callK DN hr (by decide) <| aa_cons <| ee_v (i := 1) rfl <| aa_cons <| ee_v (i := 3) rfl <| aa_nil <| kk_cons <| ee_v (i := 2) rfl <| kk_nil ⟨rfl, rfl, 6 * r.length, staOf (r.take i), r[i].2, r[i].1, rfl, sta_take hl hrow i, by omega, hrow _ (List.getElem_mem hi'), ?_⟩
    refine gg_tup (ggs_cons <| gg_name (i := 1) nd <| ggs_cons <| gg_name (i := 4) nd <| ggs_cons <| gg_name (i := 5) nd <| ggs_nil <| rr_nil ?_) rfl
    exact ⟨_, _, _, _, by rw [staOf_step hi']; rfl⟩
  · rintro ρ' ⟨s2, s3, s4, s5, rfl⟩
    refine rr_ret <| ee_v (i := 1) rfl ?_
    rw [row_len, List.take_of_length_le (Nat.le_refl _)]
    exact h
abbrev sToldBy : Stmt := topS 55
def cToldBy : Con := fun ds Φ => ∃ r, ds = [.lst (rowD r)] ∧ r.length ≤ 40 ∧ (∀ l ∈ r, l.2.Ok) ∧ Φ (.lst (toldBy r))
theorem scToldBy : FnScope ["row", "found", "state", "place", "entry", "answer", "events"] ["row"] (defScope sToldBy) := ⟨rfl, rfl, rfl, by decide +kernel, rfl, by decide +kernel, by decide +kernel⟩
theorem told_step {r : Row} {i : Nat} (h : i < r.length) : (toldBy r).take (i + 1) = (toldBy r).take i ++ [tellD (staOf (r.take i)) r[i]] := by
  have e := told_at r i r[i] (List.getElem?_eq_getElem h)
  rw [List.take_succ, e]
  rfl
theorem told_length (r : Row) : (toldBy r).length = r.length := told_len r _
theorem ok_toldBy (F : Fun K "told_by" "told_by" sToldBy f fd) (T : Glb K mg) (FS : Fn P w K mg base 2 "first_state" [] cFirstState) (DN : FnK P w K mg base 8 "done" ["state", "entry", "place"] 2 ["place"] cDone) : FnOk P w K mg base CX0 9 f fd ["row"] (spF K cToldBy) := by
  refine fn_ok F scToldBy (fun ds Φ ⟨_, e, _⟩ => by rw [e]; rfl) fun cdv A outer s H E ds Φ hr c => ?_
  obtain ⟨r, rfl, hl, hrow, h⟩ := c
  have nd := scToldBy.nd
  refine rr_newL (i := 1) nd (fun _ _ => True.intro) ?_
  refine rr_set (i := 2) nd <| ee_call0 FS hr (by decide) ⟨rfl, ?_⟩
  refine rr_for <| ii_list <| ee_v (i := 0) rfl ⟨_, rfl, fun i ρ' => ∃ s2 s3 s4 s5, ρ' = [.va (.lst (rowD r)), .owl ((toldBy r).take i), .va (staD (staOf (r.take i))), s2, s3, s4, s5], ⟨.un, .un, .un, .un, rfl⟩, ?_, ?_⟩
  · rintro i ρ' hi ⟨s2, s3, s4, s5, rfl⟩
    have hi' : i < r.length := by rw [← row_len]; exact hi
    have ed := at_row hi'
    show GG _ _ ((rowD r).getD i .non) _ _
    rw [ed]
    refine gg_tup (ggs_cons <| gg_name (i := 3) nd <| ggs_cons <| gg_name (i := 4) nd <| ggs_nil ?_) rfl
    refine rr_asg <| ee_callK DN hr (by decide) <| aa_cons <| ee_v (i := 2) rfl <| aa_cons <| ee_v (i := 4) rfl <| aa_nil <| kk_cons <| ee_v (i := 3) rfl <| kk_nil ⟨rfl, rfl, 6 * r.length, staOf (r.take i), r[i].2, r[i].1, rfl, sta_take hl hrow i, by omega, hrow _ (List.getElem_mem hi'), ?_⟩
    refine gg_tup (ggs_cons <| gg_name (i := 2) nd <| ggs_cons <| gg_name (i := 5) nd <| ggs_cons <| gg_name (i := 6) nd <| ggs_nil ?_) rfl
    refine rr_append (i := 1) rfl (by have := List.length_take_le i (toldBy r); omega) <| ee_tup <| aa_cons <| ee_v (i := 3) rfl <| aa_cons <| ee_v (i := 5) rfl <| aa_cons <| ee_v (i := 6) rfl <| aa_nil ⟨Nat.le_of_ble_eq_true rfl, rr_nil ?_⟩
    exact ⟨_, _, _, _, by rw [staOf_step hi', told_step hi']; rfl⟩
  · rintro ρ' ⟨s2, s3, s4, s5, rfl⟩
    refine rr_tellL (i := 1) rfl <| rr_ret <| ee_v (i := 1) rfl ?_
    rw [row_len, List.take_of_length_le (by rw [told_length]; exact Nat.le_refl _)]
    exact h
/-! ### is_beginning -/
abbrev sBegin : Stmt := topS 56
def cBegin : Con := fun ds Φ => ∃ a b, ds = [.lst a, .lst b] ∧ (∀ d ∈ a, Pl 20 d) ∧ (∀ d ∈ b, Pl 20 d) ∧ Φ (.bl (eqL (b.take a.length) a))
theorem scBegin : FnScope ["one", "other"] ["one", "other"] (defScope sBegin) := ⟨rfl, rfl, rfl, by decide +kernel, rfl, by decide +kernel, by decide +kernel⟩
theorem cut_take (xs : List D) (n : Nat) : cutD xs none (some (n : Int)) = xs.take n := by
  unfold cutD
  have e0 : HT.sIx xs.length 0 none = 0 := rfl
  rw [e0, HT.sIx_nat, List.drop_zero, Nat.sub_zero]
  by_cases h : n ≤ xs.length
  · rw [Nat.min_eq_left h]
  · rw [Nat.min_eq_right (by omega)]
    rw [List.take_of_length_le (Nat.le_refl _), List.take_of_length_le (by omega)]
theorem ok_begin (F : Fun K "is_beginning" "is_beginning" sBegin f fd) (T : Glb K mg) : FnOk P w K mg base CX0 1 f fd ["one", "other"] (spF K cBegin) := by
  refine fn_ok F scBegin (fun ds Φ ⟨_, _, e, _⟩ => by rw [e]; rfl) fun cdv A outer s H E ds Φ hr c => ?_
  obtain ⟨a, b, rfl, ha, hb, h⟩ := c
  refine rr_ret <| ee_cmp (op_eqP hr.units) rd_eqD <| ee_slL <| ee_v (i := 1) rfl <| ee_len T.zLen <| ee_v (i := 0) rfl ⟨_, rfl, ?_⟩
  show (EE _ _ _ _)
  refine ee_v (i := 0) rfl ⟨?_, ?_, _, rfl, ?_⟩
  · rw [cut_take]
    exact (Pl.lst (n := 20) fun d m => hb d (List.mem_of_mem_take m)).up (by decide)
  · exact (Pl.lst (n := 20) ha).up (by decide)
  · rw [cut_take]
    exact h
/-! ### up_to, behind, last_place -/
abbrev sUpTo : Stmt := topS 57
def cUpTo : Con := fun ds Φ => ∃ r p, ds = [.lst (rowD r), plcD p] ∧ r.length ≤ 1000 ∧ Φ (.lst (rowD (r.filter fun l => leB l.1 p)))
theorem scUpTo : FnScope ["row", "place", "thing"] ["row", "place"] (defScope sUpTo) := ⟨rfl, rfl, rfl, by decide +kernel, rfl, by decide +kernel, by decide +kernel⟩
theorem ok_upTo (F : Fun K "up_to" "up_to" sUpTo f fd) (T : Glb K mg) : FnOk P w K mg base CX0 1 f fd ["row", "place"] (spF K cUpTo) := by
  refine fn_ok F scUpTo (fun ds Φ ⟨_, _, e, _⟩ => by rw [e]; rfl) fun cdv A outer s H E ds Φ hr c => ?_
  obtain ⟨r, p, rfl, hl, h⟩ := c
  have nd := scUpTo.nd
  refine rr_ret <| ee_lcIf (i := 2) nd (blkOk_by (N := ["row", "place", "thing"]) (sc := defScope sUpTo) (by decide +kernel)) <| ii_list <| ee_v (i := 0) rfl ⟨_, rfl, fun j acc => acc = rowD ((r.take j).filter fun l => leB l.1 p), rfl, fun j acc hj ea => ?_, fun acc ea => ?_⟩
  · subst ea
    have hj' : j < r.length := by rw [← row_len]; exact hj
    have ed := at_row hj'
    have fs := filt_take (fun l : (Int × Int) × En => leB l.1 p) r j hj'
    refine ⟨leB r[j].1 p, fun s H C cl fp => ?_, fun hb s H C cl fp => ?_, fun hb => ?_⟩
    · exact tt_cmp (op_leT hr.units0) rd_leP <| ee_ixT <| ee_v (i := 2) (d := lineD r[j]) (by show some (Sl.va ((rowD r).getD j .non)) = _; rw [ed]) <| ee_i ⟨plcD r[j].1, rfl, ee_v (i := 1) rfl ⟨_, rfl, rfl⟩⟩
    · refine ee_v (i := 2) (d := lineD r[j]) (by show some (Sl.va ((rowD r).getD j .non)) = _; rw [ed]) ⟨?_, ?_⟩
      · have h1 := List.length_filter_le (fun l : (Int × Int) × En => leB l.1 p) (r.take j)
        have h2 := List.length_take_le j r
        rw [row_len]
        omega
      · show rowD _ ++ _ = rowD ((r.take (j + 1)).filter fun l => leB l.1 p)
        rw [fs, if_pos hb]
        unfold rowD
        rw [List.map_append]
        rfl
    · show rowD _ = rowD ((r.take (j + 1)).filter fun l => leB l.1 p)
      rw [fs, if_neg (by rw [hb]; decide), List.append_nil]
  · have ea : acc = rowD ((r.take (rowD r).length).filter fun l => leB l.1 p) := ea
    rw [row_len, List.take_of_length_le (Nat.le_refl _)] at ea
    rw [ea]
    exact h
abbrev sBehind : Stmt := topS 58
def cBehind : Con := fun ds Φ => ∃ r p, ds = [.lst (rowD r), plcD p] ∧ r.length ≤ 1000 ∧ Φ (.lst (rowD (r.filter fun l => gtB l.1 p)))
theorem scBehind : FnScope ["row", "place", "thing"] ["row", "place"] (defScope sBehind) := ⟨rfl, rfl, rfl, by decide +kernel, rfl, by decide +kernel, by decide +kernel⟩
theorem ok_behind (F : Fun K "behind" "behind" sBehind f fd) (T : Glb K mg) : FnOk P w K mg base CX0 1 f fd ["row", "place"] (spF K cBehind) := by
  refine fn_ok F scBehind (fun ds Φ ⟨_, _, e, _⟩ => by rw [e]; rfl) fun cdv A outer s H E ds Φ hr c => ?_
  obtain ⟨r, p, rfl, hl, h⟩ := c
  have nd := scBehind.nd
  refine rr_ret <| ee_lcIf (i := 2) nd (blkOk_by (N := ["row", "place", "thing"]) (sc := defScope sBehind) (by decide +kernel)) <| ii_list <| ee_v (i := 0) rfl ⟨_, rfl, fun j acc => acc = rowD ((r.take j).filter fun l => gtB l.1 p), rfl, fun j acc hj ea => ?_, fun acc ea => ?_⟩
  · subst ea
    have hj' : j < r.length := by rw [← row_len]; exact hj
    have ed := at_row hj'
    have fs := filt_take (fun l : (Int × Int) × En => gtB l.1 p) r j hj'
    refine ⟨gtB r[j].1 p, fun s H C cl fp => ?_, fun hb s H C cl fp => ?_, fun hb => ?_⟩
    · exact tt_cmp (op_gtT hr.units0) rd_gtP <| ee_ixT <| ee_v (i := 2) (d := lineD r[j]) (by show some (Sl.va ((rowD r).getD j .non)) = _; rw [ed]) <| ee_i ⟨plcD r[j].1, rfl, ee_v (i := 1) rfl ⟨_, rfl, rfl⟩⟩
    · refine ee_v (i := 2) (d := lineD r[j]) (by show some (Sl.va ((rowD r).getD j .non)) = _; rw [ed]) ⟨?_, ?_⟩
      · have h1 := List.length_filter_le (fun l : (Int × Int) × En => gtB l.1 p) (r.take j)
        have h2 := List.length_take_le j r
        rw [row_len]
        omega
      · show rowD _ ++ _ = rowD ((r.take (j + 1)).filter fun l => gtB l.1 p)
        rw [fs, if_pos hb]
        unfold rowD
        rw [List.map_append]
        rfl
    · show rowD _ = rowD ((r.take (j + 1)).filter fun l => gtB l.1 p)
      rw [fs, if_neg (by rw [hb]; decide), List.append_nil]
  · have ea : acc = rowD ((r.take (rowD r).length).filter fun l => gtB l.1 p) := ea
    rw [row_len, List.take_of_length_le (Nat.le_refl _)] at ea
    rw [ea]
    exact h
abbrev sLastPlace : Stmt := topS 59
def cLastPlace : Con := fun ds Φ => ∃ r, ds = [.lst (rowD r)] ∧ Φ (plcD (lastP r))
theorem scLastPlace : FnScope ["row"] ["row"] (defScope sLastPlace) := ⟨rfl, rfl, rfl, by decide +kernel, rfl, by decide +kernel, by decide +kernel⟩
theorem ok_lastPlace (F : Fun K "last_place" "last_place" sLastPlace f fd) (T : Glb K mg) : FnOk P w K mg base CX0 1 f fd ["row"] (spF K cLastPlace) := by
  refine fn_ok F scLastPlace (fun ds Φ ⟨_, e, _⟩ => by rw [e]; rfl) fun cdv A outer s H E ds Φ hr c => ?_
  obtain ⟨r, rfl, h⟩ := c
  rcases List.eq_nil_or_concat r with rfl | ⟨q, l, rfl⟩
  · refine rr_ret <| ee_if <| tt_cmp (op_neP hr.units) rd_neD <| ee_v (i := 0) rfl <| ee_lst <| aa_nil ⟨Nat.zero_le _, Pl.lst pl_nil, Pl.lst pl_nil, true, rfl, _, rfl, brF ?_⟩
    exact ee_g T.nowhere h
  · refine rr_ret <| ee_if <| tt_cmp (op_neP hr.units) rd_neD <| ee_v (i := 0) rfl <| ee_lst <| aa_nil ⟨Nat.zero_le _, (Pl.lst (n := 5) (pl_row 0 _)).up (by decide), Pl.lst pl_nil, false, ?_, _, rfl, brT ?_⟩
    · cases q <;> rfl
    refine ee_ixT <| ee_ixL <| ee_v (i := 0) rfl <| ee_neg <| ee_i ⟨1, rfl, lineD l, ?_, ee_i ⟨plcD l.1, rfl, phi_eq h ?_⟩⟩
    · rw [List.concat_eq_append]
      unfold rowD
      rw [List.map_append]
      exact atLastD
    · unfold lastP
      simp
end
end Lg
namespace Lg
open PySem PySem.Spec PyProof.Rows L2 TL
theorem atI_in {α : Type} {xs : List α} {i : Int} (h0 : 0 ≤ i) (h : i < xs.length) : ∃ c, atI xs i = some c ∧ c ∈ xs := by
  have hj : i.toNat < xs.length := by omega
  refine ⟨xs[i.toNat], ?_, List.getElem_mem hj⟩
  unfold atI ixN
  rw [if_pos h0, if_pos h]
  exact List.getElem?_eq_getElem hj
theorem tl_joinE : ∀ zs : List Str, tl (Str.join "" zs) = (zs.map tl).flatten
  | [] => rfl
  | [x] => by simp [Str.join]
  | x :: y :: r => by
    show tl (x ++ "" ++ Str.join "" (y :: r)) = _
    rw [str_app_empty, tl_append, tl_joinE (y :: r)]
    rfl
def sg (c : Nat) : Str := ⟨#[c]⟩
theorem tl_signs (l : List Nat) : tl (Str.join "" (l.map sg)) = l := by
  rw [tl_joinE, List.map_map]
  induction l with
  | nil => rfl
  | cons c l ih =>
    rw [List.map_cons, List.flatten_cons, ih]
    rfl
theorem sum_signs (l : List Nat) : ((l.map sg).map (·.length)).sum = l.length := by
  induction l with
  | nil => rfl
  | cons c l ih =>
    rw [List.map_cons, List.map_cons, List.sum_cons, ih, List.length_cons]
    show 1 + _ = _
    omega
section
variable {X : Cx} {e a : Expr} {ρ : List Sl} {Φ : D → Prop} {pos apos p p2 px : Pos}
/-- ''.join([e for x in range(a)]), each a sign of S -/
theorem ee_joinSigns {i : Nat} {x : Str} {scope : Scope} {jj : Nat} {S : List Nat} {m : Int} (nd : X.N.Nodup) (hr : X.mg "range" = none) (ok : BlkOk X.N X.env.scope scope [(x, i)]) (hm : m ≤ 1000)
    (h : EE X a ρ fun d => ∃ n : Int, d = .int n ∧ 0 ≤ n ∧ n ≤ m ∧ (∀ (v : Int) s H C cl fp, EE (Blk X scope s H C cl fp) e (ρ.set i (.va (.int v))) fun y => ∃ c, y = .str (sg c) ∧ c ∈ S) ∧ ∀ l : List Nat, (l.length : Int) = n → (∀ c ∈ l, c ∈ S) → ∀ z, tl z = l → Φ (.str z))
    (hi : X.N[i]? = some x := by rfl) (hx : scope.names.lookup x = some .local := by rfl)
    (hg : ∀ (s : Shared) (H : Hp) (C : Addr) (cl : List (Str × Addr)) (fp : List Addr), PG (X.blk s H scope (compEnvC scope cl C X.env) fp) (.Name x px) (gName i) := by intro _ _ _ _ _; exact pg_name (by assumption) rfl (Or.inl rfl)) (hc : X.calm = true := by rfl)
    (hgr : Gl X "range" := by rfl) (hs1 : starEach [a] X.env = [(false, eval a X.env)] := by rfl) (hs : ∀ y, foldedSetIterable (.Call (.Name "range" p) [a] [] p2) X.env y = pure y := by intro _; rfl)
    {jp lp : Pos} (hs2 : starEach [.ListComp e [⟨.Name x px, .Call (.Name "range" p) [a] [] p2, [], 0⟩] scope lp] X.env = [(false, eval (.ListComp e [⟨.Name x px, .Call (.Name "range" p) [a] [] p2, [], 0⟩] scope lp) X.env)] := by rfl)
    (hbase : attributeBase (.Constant (.str "") jj jp) "join" X.env (eval (.Constant (.str "") jj jp) X.env) = eval (.Constant (.str "") jj jp) X.env := by rfl) (hline : (apos.endLine == pos.line) = true := by rfl) :
    EE X (.Call (.Attribute (.Constant (.str "") jj jp) "join" apos) [.ListComp e [⟨.Name x px, .Call (.Name "range" p) [a] [] p2, [], 0⟩] scope lp] [] pos) ρ Φ := by
  refine ee_join (ee_s ⟨_, rfl, ee_lc nd ok (ii_range hr (ee_mono h fun d ⟨n, ed, h0, h1, he, hz⟩ => ⟨n, ed, ?_, ?_, fun j acc => ∃ l : List Nat, acc = dstrs (l.map sg) ∧ l.length = j ∧ ∀ c ∈ l, c ∈ S, ⟨[], rfl, rfl, fun c hc => by cases hc⟩, ?_, ?_⟩) hgr hs1) hi hx hg hc hs⟩) hs2 hbase hline
  · have e : (2 : Int) ^ 62 = 4611686018427387904 := by decide
    omega
  · have e : (2 : Int) ^ 62 = 4611686018427387904 := by decide
    omega
  · rintro j acc hj ⟨l, rfl, hl, hS⟩ s H C cl fp
    refine ee_mono (he _ s H C cl fp) fun y ⟨c, ey, hc⟩ => ⟨?_, l ++ [c], ?_, ?_, ?_⟩
    · unfold dstrs
      rw [List.length_map, List.length_map]
      omega
    · rw [ey]
      unfold dstrs
      rw [List.map_append, List.map_append]
      rfl
    · rw [List.length_append, hl]
      rfl
    · intro c' hc'
      rcases List.mem_append.mp hc' with h | h
      · exact hS c' h
      · rw [List.mem_singleton.mp h]
        exact hc
  · rintro acc ⟨l, rfl, hl, hS⟩
    refine ⟨l.map sg, rfl, ?_, ?_⟩
    · rw [sum_signs]
      show l.length + _ * 0 ≤ _
      omega
    · rw [join_eq]
      exact hz l (by omega) hS _ (tl_signs l)
end
section
variable {P : Program} {w : World} {K : PySem.W.Frag} {mg : Str → Option Value} {base : Heap} {f : Addr} {fd : FuncData}
theorem b01 (b : Bool) : (0 : Int) ≤ (if b = true then 1 else 0) ∧ (if b = true then 1 else 0 : Int) < 2 := by cases b <;> exact ⟨by decide, by decide⟩
theorem cmul01 (z : Int) (b : Bool) : CMul z (if b = true then 1 else 0) := by
  refine .inr ⟨?_, ?_⟩
  · have := (b01 b).1
    have e : (-(2 ^ 64) : Int) = -18446744073709551616 := by decide
    omega
  · have := (b01 b).2
    have e : ((2 ^ 64) : Int) = 18446744073709551616 := by decide
    omega
theorem zl (n : Int) (h : 0 < n) : 0 < n := h
/-! ### _law_pool -/
abbrev qPool : Stmt := topS 61
def cPool (as : List D) : Prop := ∃ (ns : List Int) (k : Int), as = [.flst (ns.map D.int), .int k]
theorem zcPool : FnScope ["_law_script", "_law_k", "_law_cell", "_law_size", "_law_mixed"] ["_law_script", "_law_k"] (defScope qPool) := ⟨rfl, rfl, rfl, by decide +kernel, rfl, by decide +kernel, by decide +kernel⟩
theorem cut_map (ns : List Int) (lo hi : Option Int) : ∃ ms : List Int, cutD (ns.map D.int) lo hi = ms.map D.int ∧ ms.length ≤ ns.length := by
  unfold cutD
  refine ⟨(ns.drop (HT.sIx (ns.map D.int).length 0 lo)).take (HT.sIx (ns.map D.int).length (ns.map D.int).length hi - HT.sIx (ns.map D.int).length 0 lo), ?_, ?_⟩
  · rw [← List.map_drop, ← List.map_take]
  · rw [List.length_take, List.length_drop]
    omega
theorem qk_pool (F : Fun K "_law_pool" "_law_pool" qPool f fd) (T : Glb K mg) : FnOk P w K mg base CX0 1 f fd ["_law_script", "_law_k"] (spPool K fun as => ∃ (ns : List Int) (k : Int), as = [.flst (ns.map D.int), .int k] ∧ ns.length ≤ 63) := by
  refine fn_okP F zcPool (fun ds ⟨_, _, e, _⟩ => by rw [e]; rfl) fun cdv A outer s H E ds hr c => ?_
  obtain ⟨ns, k, rfl, hl⟩ := c
  have nd := zcPool.nd
  refine pp_set (i := 2) nd <| ee_ixL <| ee_addl <| ee_slL <| ee_v (i := 0) rfl <| ee_v (i := 1) rfl ⟨k, rfl, ?_⟩
  refine ee_add <| ee_v (i := 1) rfl <| ee_i ⟨k + 1, rfl, ?_⟩
  obtain ⟨ms, em, lm⟩ := cut_map ns (some k) (some (k + 1))
  show EE _ _ _ fun y => LAdd (.lst (cutD (ns.map D.int) (some k) (some (k + 1)))) y _
  rw [em]
  refine ee_lst <| aa_cons <| ee_i <| aa_nil ⟨Nat.le_of_ble_eq_true rfl, sz1000 (by rw [List.length_map]; show _ + 1 ≤ _; omega), ee_i ?_⟩
  obtain ⟨c, ec⟩ : ∃ c : Int, atI (ms.map D.int ++ [D.int 0]) 0 = some (.int c) := by
    cases ms with
    | nil => exact ⟨0, rfl⟩
    | cons m ms => exact ⟨m, at0 _ _⟩
  refine ⟨.int c, ec, ?_⟩
  refine pp_set (i := 3) nd <| ee_cb call_abs rdc_abs T.zAbs (by decide +kernel) <| aa_cons <| ee_v (i := 2) rfl <| aa_nil ?_
  show PP _ _ (List.set _ 3 (Sl.va (D.int (if c < 0 then -c else c))))
  have hz : 0 ≤ (if c < 0 then -c else c) := by split <;> omega
  generalize (if c < 0 then -c else c) = z at hz ⊢
  refine pp_set (i := 4) nd <| ee_mod <| ee_mul <| ee_add <| ee_add <| ee_mod <| ee_v (i := 3) rfl <| ee_i ⟨zl _ (by decide), ?_⟩
  refine ee_mul <| ee_i <| ee_v (i := 1) rfl ⟨.inl ⟨by decide, by decide⟩, ee_i <| ee_i ⟨.inr ⟨by decide, by decide⟩, ee_i ⟨zl _ (by decide), ?_⟩⟩⟩
  refine pp_ret <| ee_mul <| ee_v (i := 3) rfl <| ee_ct call_int1 rdc_int T.zInt bt_int <| aa_cons <| ee_cmp op_ge rd_B0 <| ee_v (i := 3) rfl <| ee_pow <| ee_i <| ee_i ⟨⟨by decide, by decide, by decide⟩, aa_nil ?_⟩
  show CMul _ (if _ then 1 else 0) ∧ _
  generalize decide ((10 : Int) ^ (18 : Int).toNat ≤ z) = b
  exact ⟨cmul01 z b, _, rfl, Int.mul_nonneg hz (b01 b).1, ee_v (i := 4) rfl ⟨_, rfl, Int.emod_nonneg _ (by decide), Int.emod_lt_of_pos _ (by decide)⟩⟩
/-! ### _law_take -/
abbrev qTake : Stmt := topS 62
def cTake : Con := fun as Φ => ∃ m : Int, as = [.pool, .int m] ∧ 0 < m ∧ m ≤ 1000 ∧ ∀ r : Int, 0 ≤ r → r < m → Φ (.int r)
theorem zcTake : FnScope ["_law_pool_here", "_law_many", "_law_found"] ["_law_pool_here", "_law_many"] (defScope qTake) := ⟨rfl, rfl, rfl, by decide +kernel, rfl, by decide +kernel, by decide +kernel⟩
theorem qk_take (F : Fun K "_law_take" "_law_take" qTake f fd) (T : Glb K mg) : FnOk P w K mg base CX0 1 f fd ["_law_pool_here", "_law_many"] (spF K cTake) := by
  refine fn_ok F zcTake (fun ds Φ ⟨_, e, _⟩ => by rw [e]; rfl) fun cdv A outer s H E ds Φ hr c => ?_
  obtain ⟨m, rfl, m0, m1, h⟩ := c
  have nd := zcTake.nd
  have md : CDiv 0 m := ⟨m0, by omega⟩
  refine rr_if <| tt_cmp op_gt rd_B0 <| ee_pix <| ee_v (i := 0) rfl <| ee_i ⟨rfl, .inl ⟨rfl, fun a ha => ee_i ⟨_, rfl, brD (fun hc => ?_) fun hc => ?_⟩⟩⟩
  · refine rr_set (i := 2) nd <| ee_mod <| ee_pix <| ee_v (i := 0) rfl <| ee_i ⟨rfl, .inl ⟨rfl, fun a ha => ee_v (i := 1) rfl ⟨m0, ?_⟩⟩⟩
    refine rr_pset (i := 0) rfl (.inl rfl) <| ee_fdiv <| ee_pix <| ee_v (i := 0) rfl <| ee_i ⟨rfl, .inl ⟨rfl, fun a2 ha2 => ee_v (i := 1) rfl ⟨⟨m0, by omega⟩, _, rfl, Int.ediv_nonneg ha2 (by omega), (fun z => absurd z (by decide)), ?_⟩⟩⟩
    exact rr_ret <| ee_v (i := 2) rfl <| h _ (Int.emod_nonneg _ (by omega)) (Int.emod_lt_of_pos _ m0)
  · refine rr_nil <| rr_pset (i := 0) rfl (.inr rfl) <| ee_mod <| ee_add <| ee_mul <| ee_pix <| ee_v (i := 0) rfl <| ee_i ⟨rfl, .inr ⟨rfl, fun b hb0 hb1 => ee_i ⟨.inr ⟨by decide, by decide⟩, ee_i <| ee_i ⟨zl _ (by decide), _, rfl, Int.emod_nonneg _ (by decide), fun _ => Int.emod_lt_of_pos _ (by decide), ?_⟩⟩⟩⟩
    refine rr_ret <| ee_mod <| ee_fdiv <| ee_mod <| ee_mul <| ee_pix <| ee_v (i := 0) rfl <| ee_i ⟨rfl, .inr ⟨rfl, fun b hb0 hb1 => ee_pix <| ee_v (i := 0) rfl <| ee_i ⟨rfl, .inr ⟨rfl, fun b2 hb2 hb3 => ⟨.inl ⟨?_, ?_⟩, ee_i ⟨zl _ (by decide), ee_i ⟨⟨by decide, by decide⟩, ee_v (i := 1) rfl ⟨m0, h _ (Int.emod_nonneg _ (by omega)) (Int.emod_lt_of_pos _ m0)⟩⟩⟩⟩⟩⟩⟩⟩
    · have e : (-(2 ^ 64) : Int) = -18446744073709551616 := by decide
      omega
    · have e : ((2 ^ 64) : Int) = 18446744073709551616 := by decide
      omega
abbrev TK (P : Program) (w : World) (K : PySem.W.Frag) (mg : Str → Option Value) (base : Heap) : Prop := Fn P w K mg base 1 "_law_take" ["_law_pool_here", "_law_many"] cTake
end
end Lg
namespace Lg
open PySem PySem.Spec PyProof.Rows L2 TL
theorem tl_abcz : tl ("abcz" : Str) = [97, 98, 99, 122] := by decide +kernel
theorem tl_line : tl ("ab 09!~ " : Str) = [97, 98, 32, 48, 57, 33, 126, 32] := by decide +kernel
theorem word8 : WordOk "abcdefgh" := by
  refine ⟨by decide +kernel, by decide +kernel, ?_⟩
  rw [lettersL_eq]
  intro c hc
  have e : ("abcdefgh" : Str).cps.toList = [97, 98, 99, 100, 101, 102, 103, 104] := by decide +kernel
  rw [e] at hc
  revert c
  decide
theorem cnt_path : ∀ ps : List (List Nat), ps ≠ [] → ((ps.length : Int) ≤ 1 + cnt 47 (joinL [47] ps))
  | [], h => absurd rfl h
  | [p], _ => by
    have : 0 ≤ cnt 47 (joinL [47] [p]) := countIn_nonneg _ _
    show (1 : Int) ≤ _
    omega
  | p :: q :: r, _ => by
    have t := cnt_path (q :: r) (by simp)
    have n : 0 ≤ cnt 47 p := countIn_nonneg _ _
    show ((r.length + 1 + 1 : Nat) : Int) ≤ 1 + cnt 47 (p ++ ([47] ++ joinL [47] (q :: r)))
    rw [cnt_append, cnt_append, cnt_cons, cnt_nil, if_pos rfl]
    simp only [List.length_cons] at t
    omega
theorem slash_sg : ("/" : Str) = ⟨#[47]⟩ := ext_tl tl_slash
theorem dash_sg : ("-" : Str) = ⟨#[45]⟩ := ext_tl tl_dash
theorem count_path (ps : List Str) : (ps.length : Int) ≤ Txt.count (pathS ps) "/" := by
  rw [slash_sg, count_cnt]
  show _ ≤ cnt 47 (tl (pathS ps))
  rw [tl_path, cnt_cons, if_pos rfl]
  by_cases h : ps = []
  · subst h
    have : 0 ≤ cnt 47 (joinL [47] (([] : List Str).map tl)) := countIn_nonneg _ _
    show ((0 : Nat) : Int) ≤ _
    omega
  · have := cnt_path (ps.map tl) (fun e => h (List.map_eq_nil_iff.mp e))
    rw [List.length_map] at this
    omega
theorem word_of_part {p : Str} (h : PartOk p) (n : 45 ∉ tl p) : WordOk p := by
  rcases h with h | ⟨u, g, hu, hg, rfl⟩
  · exact h
  · refine absurd ?_ n
    rw [tl_append, tl_append, tl_dash]
    simp
theorem last_part_in {ps : List Str} (h : ps ≠ []) : ps.getLastD "" ∈ ps := by
  obtain ⟨q, p, rfl⟩ : ∃ q p, ps = q ++ [p] := ⟨ps.dropLast, ps.getLast h, (List.dropLast_concat_getLast h).symm⟩
  simp
theorem dstrs_len (l : List Str) : (dstrs l).length = l.length := List.length_map ..
section
variable {P : Program} {w : World} {K : PySem.W.Frag} {mg : Str → Option Value} {base : Heap} {f : Addr} {fd : FuncData}
/-! ### word, part, line -/
abbrev qWord : Stmt := topS 63
def dWord : Con := fun as Φ => as = [.pool] ∧ ∀ z, WordOk z → Φ (.str z)
theorem zcWord : FnScope ["_law_pool_here", "_law_turn"] ["_law_pool_here"] (defScope qWord) := ⟨rfl, rfl, rfl, by decide +kernel, rfl, by decide +kernel, by decide +kernel⟩
theorem qk_word (F : Fun K "_law_word" "_law_word" qWord f fd) (T : Glb K mg) (Q : TK P w K mg base) : FnOk P w K mg base CX0 2 f fd ["_law_pool_here"] (spF K dWord) := by
  refine fn_ok F zcWord (fun ds Φ ⟨e, _⟩ => by rw [e]; rfl) fun cdv A outer s H E ds Φ hr c => ?_
  obtain ⟨rfl, h⟩ := c
  have nd := zcWord.nd
  refine rr_if <| tt_cmp op_eq rd_eqS <| ee_call Q hr (by decide) <| aa_cons <| ee_v (i := 0) rfl <| aa_cons <| ee_i <| aa_nil ⟨12, rfl, by decide, by decide, fun r r0 r1 => ee_i <| teq (eqS_cnt _ _) <| brD (fun hc => ?_) fun hc => ?_⟩
  · exact rr_ret <| ee_s <| h _ word8
  · refine rr_nil <| rr_ret <| ee_joinSigns (i := 1) (S := [97, 98, 99, 122]) (m := 3) nd T.zRange (blkOk_by (N := ["_law_pool_here", "_law_turn"]) (sc := defScope qWord) (by decide +kernel)) (by decide) <| ee_add <| ee_i <| ee_call Q hr (by decide) <| aa_cons <| ee_v (i := 0) rfl <| aa_cons <| ee_i <| aa_nil ⟨3, rfl, by decide, by decide, fun r r0 r1 => ⟨1 + r, rfl, by omega, by omega, fun v s H C cl fp => ?_, fun l hl hS z hz => ?_⟩⟩
    · refine ee_ixS <| ee_s <| ee_call Q hr (by decide) <| aa_cons <| ee_v (i := 0) rfl <| aa_cons <| ee_i <| aa_nil ⟨4, rfl, by decide, by decide, fun r r0 r1 => ?_⟩
      obtain ⟨c, ec, hc⟩ := atI_in (xs := [97, 98, 99, 122]) (i := r) r0 r1
      exact ⟨by decide +kernel, c, by rw [← ec, ← tl_abcz], c, rfl, hc⟩
    · refine h z ⟨?_, ?_, ?_⟩
      · rw [len_tl, hz]; omega
      · rw [len_tl, hz]; omega
      · intro c hc
        have := hS c (by rw [← hz]; exact hc)
        rw [lettersL_eq]
        revert this
        generalize c = c
        intro hc
        simp at hc ⊢
        omega
abbrev qPart : Stmt := topS 64
def dPart : Con := fun as Φ => as = [.pool] ∧ ∀ z, PartOk z → Φ (.str z)
theorem zcPart : FnScope ["_law_pool_here", "_law_word_here"] ["_law_pool_here"] (defScope qPart) := ⟨rfl, rfl, rfl, by decide +kernel, rfl, by decide +kernel, by decide +kernel⟩
theorem qk_part (F : Fun K "_law_part" "_law_part" qPart f fd) (T : Glb K mg) (Q : TK P w K mg base) (W : Fn P w K mg base 2 "_law_word" ["_law_pool_here"] dWord) : FnOk P w K mg base CX0 3 f fd ["_law_pool_here"] (spF K dPart) := by
  refine fn_ok F zcPart (fun ds Φ ⟨e, _⟩ => by rw [e]; rfl) fun cdv A outer s H E ds Φ hr c => ?_
  obtain ⟨rfl, h⟩ := c
  have nd := zcPart.nd
  refine rr_set (i := 1) nd <| ee_call W hr (by decide) <| aa_cons <| ee_v (i := 0) rfl <| aa_nil ⟨rfl, fun z hz => ?_⟩
  refine rr_if <| tt_cmp op_eq rd_eqS <| ee_call Q hr (by decide) <| aa_cons <| ee_v (i := 0) rfl <| aa_cons <| ee_i <| aa_nil ⟨4, rfl, by decide, by decide, fun r r0 r1 => ee_i <| teq (eqS_cnt _ _) <| brD (fun hc => ?_) fun hc => ?_⟩
  · refine rr_ret <| ee_adds <| ee_adds <| ee_v (i := 1) rfl <| ee_s ⟨sz1000 (by rw [len_dash]; have := hz.2.1; omega), ?_⟩
    refine ee_rjust <| ee_ct call_str_int rdc_str T.zStr bt_str <| aa_cons <| ee_call Q hr (by decide) <| aa_cons <| ee_v (i := 0) rfl <| aa_cons <| ee_i <| aa_nil ⟨12, rfl, by decide, by decide, fun n n0 n1 => aa_nil ⟨log_small n0 (by omega), _, rfl, ?_⟩⟩
    have l6 := (rj_ok n0 (by omega)).1
    refine aa_cons (ee_i (aa_cons (ee_s (aa_nil ⟨_, _, rfl, by decide, by decide +kernel, ?_, ?_⟩))))
    · show _ + (rj n).length ≤ _
      rw [len_app, len_dash, l6]
      exact sz1000 (by have := hz.2.1; omega)
    · exact h (z ++ "-" ++ rj n) (.inr ⟨z, rj n, hz, rj_ok n0 (by omega), rfl⟩)
  · exact rr_nil <| rr_ret <| ee_v (i := 1) rfl <| h z (.inl hz)
abbrev qLine : Stmt := topS 65
def dLine : Con := fun as Φ => as = [.pool] ∧ ∀ z, TextOk z → Φ (.str z)
theorem zcLine : FnScope ["_law_pool_here", "_law_turn"] ["_law_pool_here"] (defScope qLine) := ⟨rfl, rfl, rfl, by decide +kernel, rfl, by decide +kernel, by decide +kernel⟩
theorem qk_line (F : Fun K "_law_line" "_law_line" qLine f fd) (T : Glb K mg) (Q : TK P w K mg base) : FnOk P w K mg base CX0 2 f fd ["_law_pool_here"] (spF K dLine) := by
  refine fn_ok F zcLine (fun ds Φ ⟨e, _⟩ => by rw [e]; rfl) fun cdv A outer s H E ds Φ hr c => ?_
  obtain ⟨rfl, h⟩ := c
  have nd := zcLine.nd
  refine rr_ret <| ee_joinSigns (i := 1) (S := [97, 98, 32, 48, 57, 33, 126, 32]) (m := 4) nd T.zRange (blkOk_by (N := ["_law_pool_here", "_law_turn"]) (sc := defScope qLine) (by decide +kernel)) (by decide) <| ee_call Q hr (by decide) <| aa_cons <| ee_v (i := 0) rfl <| aa_cons <| ee_i <| aa_nil ⟨5, rfl, by decide, by decide, fun r r0 r1 => ⟨r, rfl, by omega, by omega, fun v s H C cl fp => ?_, fun l hl hS z hz => ?_⟩⟩
  · refine ee_ixS <| ee_s <| ee_call Q hr (by decide) <| aa_cons <| ee_v (i := 0) rfl <| aa_cons <| ee_i <| aa_nil ⟨8, rfl, by decide, by decide, fun r r0 r1 => ?_⟩
    obtain ⟨c, ec, hc⟩ := atI_in (xs := [97, 98, 32, 48, 57, 33, 126, 32]) (i := r) r0 r1
    exact ⟨by decide +kernel, c, by rw [← ec, ← tl_line], c, rfl, hc⟩
  · refine h z ⟨?_, ?_⟩
    · rw [len_tl, hz]; omega
    · intro c hc
      have := hS c (by rw [← hz]; exact hc)
      simp at this
      omega
/-! ### path -/
abbrev qPath : Stmt := topS 66
def dPath : Con := fun as Φ => ∃ B wb m, as = [.pool, .dct (webD wb), .int m] ∧ WebOk B wb ∧ wb ≠ [] ∧ ∀ z, KeyOk z → Φ (.str z)
theorem zcPath : FnScope ["_law_pool_here", "_law_web", "_law_many", "_law_some", "_law_road"] ["_law_pool_here", "_law_web", "_law_many"] (defScope qPath) := ⟨rfl, rfl, rfl, by decide +kernel, rfl, by decide +kernel, by decide +kernel⟩
theorem qk_path (F : Fun K "_law_path" "_law_path" qPath f fd) (T : Glb K mg) (Q : TK P w K mg base) (W : Fn P w K mg base 3 "_law_part" ["_law_pool_here"] dPart) : FnOk P w K mg base CX0 4 f fd ["_law_pool_here", "_law_web", "_law_many"] (spF K dPath) := by
  refine fn_ok F zcPath (fun ds Φ ⟨_, _, _, e, _⟩ => by rw [e]; rfl) fun cdv A outer s H E ds Φ hr c => ?_
  obtain ⟨B, wb, m, rfl, hw, hne, h⟩ := c
  have nd := zcPath.nd
  have hl : (webD wb).length = wb.length := amap_len
  have h60 := hw.len
  have hkl : (sortK (wb.map (·.1))).length = wb.length := by rw [sortK_len, List.length_map]
  have h0 : 0 < wb.length := List.length_pos_iff.mpr hne
  refine rr_set (i := 3) nd <| ee_sortD rfl T.zSorted <| ee_v (i := 1) rfl ⟨_, rfl, by omega, ?_⟩
  rw [keys_map]
  refine rr_set (i := 4) nd <| ee_ixL <| ee_v (i := 3) rfl <| ee_call Q hr (by decide) <| aa_cons <| ee_v (i := 0) rfl <| aa_cons <| ee_len T.zLen <| ee_v (i := 3) rfl <| aa_nil ⟨((dstrs (sortK (wb.map (·.1)))).length : Int), rfl, by rw [dstrs_len]; omega, by rw [dstrs_len]; omega, fun r r0 r1 => ?_⟩
  obtain ⟨d, ed, hd⟩ := atI_in r0 r1
  refine ⟨d, ed, ?_⟩
  obtain ⟨z, hz, rfl⟩ := List.mem_map.mp hd
  obtain ⟨ps, rfl, hps⟩ := hw.mem ((sortK_perm _).mem_iff.mp hz)
  have lp := path_len hps
  have fin : RR (BX P w K mg base ["_law_pool_here", "_law_web", "_law_many", "_law_some", "_law_road"] "_law_path" (defScope qPath) f cdv A outer s H E) [(defBody qPath).getD 3 (.Pass ⟨0, 0, 0, 0⟩)] (((slots ["_law_pool_here", "_law_web", "_law_many", "_law_some", "_law_road"] [.pool, .dct (webD wb), .int m]).set 3 (.va (.lst (dstrs (sortK (wb.map (·.1))))))).set 4 (.va (.str (pathS ps)))) (fun _ => Φ .non) Φ :=
    rr_ret <| ee_v (i := 4) rfl <| h _ ⟨ps, rfl, hps⟩
  refine rr_if <| tt_bool <| tw_and <| tt_cmp op_lt rd_B0 <| ee_scount <| ee_v (i := 4) rfl ⟨_, rfl, ee_s <| ee_i ⟨_, rfl, brD (fun hc => ?_) fun hc => brF (rr_nil fin)⟩⟩
  refine tw_and1 <| tt_cmp op_lt rd_B0 <| ee_call Q hr (by decide) <| aa_cons <| ee_v (i := 0) rfl <| aa_cons <| ee_i <| aa_nil ⟨3, rfl, by decide, by decide, fun r r0 r1 => ee_v (i := 2) rfl ⟨_, rfl, brD (fun hc2 => ?_) fun hc2 => rr_nil fin⟩⟩
  have hcp := count_path ps
  have l4 : ps.length ≤ 4 := by omega
  refine rr_set (i := 4) nd <| ee_adds <| ee_adds <| ee_ixL <| ee_lst <| aa_cons <| ee_v (i := 4) rfl <| aa_cons <| ee_s <| aa_nil ⟨Nat.le_of_ble_eq_true rfl, ee_ct call_int1 rdc_int T.zInt bt_int <| aa_cons <| ee_cmp op_eq rd_eqS <| ee_v (i := 4) rfl <| ee_s ⟨_, rfl, aa_nil ?_⟩⟩
  by_cases hroot : pathS ps = "/"
  · show IntR [.bl (decide (pathS ps = "/"))] _
    rw [decide_eq_true hroot]
    refine ⟨.str "", rfl, ee_s ⟨by decide +kernel, ee_call W hr (by decide) <| aa_cons <| ee_v (i := 0) rfl <| aa_nil ⟨rfl, fun p hp => ⟨?_, rr_nil <| rr_ret <| ee_v (i := 4) rfl <| h _ ⟨[p], path_one p, Nat.le_of_ble_eq_true rfl, fun q hq => by rw [List.mem_singleton.mp hq]; exact hp⟩⟩⟩⟩⟩
    have := (part_len hp).2
    rw [len_app, len_slash]
    exact sz1000 (by show 0 + 1 + _ ≤ _; omega)
  · show IntR [.bl (decide (pathS ps = "/"))] _
    rw [decide_eq_false hroot]
    have hn : ps ≠ [] := fun e => hroot ((path_root hps).mpr e)
    refine ⟨.str (pathS ps), rfl, ee_s ⟨sz1000 (by rw [len_slash]; omega), ee_call W hr (by decide) <| aa_cons <| ee_v (i := 0) rfl <| aa_nil ⟨rfl, fun p hp => ⟨?_, rr_nil <| rr_ret <| ee_v (i := 4) rfl <| h _ ⟨ps ++ [p], path_snoc hn p, ?_, ?_⟩⟩⟩⟩⟩
    · have := (part_len hp).2
      rw [len_app, len_slash]
      exact sz1000 (by omega)
    · rw [List.length_append]
      show _ + 1 ≤ 5
      omega
    · intro q hq
      rcases List.mem_append.mp hq with front | last
      · exact hps.2 q front
      · rw [List.mem_singleton.mp last]
        exact hp
/-! ### count -/
abbrev qCount : Stmt := topS 67
def dCount : Con := fun as Φ => ∃ B wb z, as = [.pool, .dct (webD wb), .str z] ∧ WebOk B wb ∧ ∀ c, CntOk c → Φ (cntD c)
theorem zcCount : FnScope ["_law_pool_here", "_law_web", "_law_road", "_law_count_here"] ["_law_pool_here", "_law_web", "_law_road"] (defScope qCount) := ⟨rfl, rfl, rfl, by decide +kernel, rfl, by decide +kernel, by decide +kernel⟩
theorem qk_count (F : Fun K "_law_count" "_law_count" qCount f fd) (T : Glb K mg) (Q : TK P w K mg base) : FnOk P w K mg base CX0 2 f fd ["_law_pool_here", "_law_web", "_law_road"] (spF K dCount) := by
  refine fn_ok F zcCount (fun ds Φ ⟨_, _, _, e, _⟩ => by rw [e]; rfl) fun cdv A outer s H E ds Φ hr c => ?_
  obtain ⟨B, wb, z, rfl, hw, h⟩ := c
  have nd := zcCount.nd
  refine rr_set (i := 3) nd <| ee_ixT <| ee_get2 (Room.u1 hr) <| ee_v (i := 1) rfl ⟨_, rfl, ee_v (i := 2) rfl <| ee_tup <| aa_cons <| ee_s <| aa_cons <| ee_i <| aa_nil ⟨Nat.le_of_ble_eq_true rfl, _, rfl, ?_⟩⟩
  obtain ⟨n, t, xs, n0, en⟩ : ∃ (n : Int) (t : D) (xs : List D), 0 ≤ n ∧ (dget (webD wb) z).getD (.tup [.str "", .int 1]) = .tup (t :: .int n :: xs) := by
    cases e : aget wb z with
    | none =>
      rw [dget_webN e]
      exact ⟨1, _, _, by decide, rfl⟩
    | some m =>
      rw [dget_webS e]
      exact ⟨m.count, _, _, (hw.get e).2.1, rfl⟩
  rw [en]
  refine ee_i ⟨.int n, at1 _ _ _, ?_⟩
  refine rr_ret <| ee_ixL <| ee_lst <| aa_cons <| ee_n <| aa_cons <| ee_n <| aa_cons <| ee_v (i := 3) rfl <| aa_cons <| ee_v (i := 3) rfl <| aa_cons <| ee_add <| ee_v (i := 3) rfl <| ee_i ?_
  refine aa_cons <| ee_i <| aa_nil ⟨Nat.le_of_ble_eq_true rfl, ee_call Q hr (by decide) <| aa_cons <| ee_v (i := 0) rfl <| aa_cons <| ee_i <| aa_nil ⟨6, rfl, by decide, by decide, fun r r0 r1 => ?_⟩⟩
  obtain ⟨d, ed, hd⟩ := atI_in (xs := [D.non, .non, .int n, .int n, .int (n + 1), .int 0]) (i := r) r0 r1
  refine ⟨d, ed, ?_⟩
  have h1 : Φ .non := h none fun _ z => by cases z
  have h2 : ∀ m : Int, 0 ≤ m → Φ (.int m) := fun m m0 => h (some m) fun _ z => by cases z; exact m0
  simp at hd
  rcases hd with rfl | rfl | rfl | rfl
  · exact h1
  · exact h2 _ n0
  · exact h2 _ (by omega)
  · exact h2 _ (by omega)
/-! ### deed -/
abbrev qDeed : Stmt := topS 68
def dDeed : Con := fun as Φ => ∃ B wb, as = [.pool, .dct (webD wb)] ∧ WebOk B wb ∧ wb ≠ [] ∧ ∀ d : Dd, d.Ok → Φ d.d
abbrev nzDeed : List Str := ["_law_pool_here", "_law_web", "_law_way", "_law_road", "_law_numbered", "_law_count_here"]
theorem zcDeed : FnScope nzDeed ["_law_pool_here", "_law_web"] (defScope qDeed) := ⟨rfl, rfl, rfl, by decide +kernel, rfl, by decide +kernel, by decide +kernel⟩
theorem qk_deed (F : Fun K "_law_deed" "_law_deed" qDeed f fd) (T : Glb K mg) (Q : TK P w K mg base) (PA : Fn P w K mg base 4 "_law_path" ["_law_pool_here", "_law_web", "_law_many"] dPath) (LI : Fn P w K mg base 2 "_law_line" ["_law_pool_here"] dLine) (CO : Fn P w K mg base 2 "_law_count" ["_law_pool_here", "_law_web", "_law_road"] dCount) : FnOk P w K mg base CX0 5 f fd ["_law_pool_here", "_law_web"] (spF K dDeed) := by
  refine fn_ok F zcDeed (fun ds Φ ⟨_, _, e, _⟩ => by rw [e]; rfl) fun cdv A outer s H E ds Φ hr c => ?_
  obtain ⟨B, wb, rfl, hw, hne, h⟩ := c
  have nd := zcDeed.nd
  refine rr_set (i := 2) nd <| ee_call Q hr (by decide) <| aa_cons <| ee_v (i := 0) rfl <| aa_cons <| ee_i <| aa_nil ⟨8, rfl, by decide, by decide, fun way w0 w1 => ?_⟩
  refine rr_set (i := 3) nd <| ee_call PA hr (by decide) <| aa_cons <| ee_v (i := 0) rfl <| aa_cons <| ee_v (i := 1) rfl <| aa_cons <| ee_add <| ee_i <| ee_ct call_int1 rdc_int T.zInt bt_int <| aa_cons <| ee_cmp op_lt rd_B0 <| ee_v (i := 2) rfl <| ee_i <| aa_nil ?_
  refine aa_nil ⟨B, wb, _, rfl, hw, hne, fun z hz => ?_⟩
  obtain ⟨ps, rfl, hps⟩ := hz
  have lp := path_len hps
  have later : ∀ (hc : ¬ (way < 4 ∧ ¬ pathS ps = "/")), RR (BX P w K mg base nzDeed "_law_deed" (defScope qDeed) f cdv A outer s H E) ((defBody qDeed).drop 3) (((slots nzDeed [.pool, .dct (webD wb)]).set 2 (.va (.int way))).set 3 (.va (.str (pathS ps)))) (fun _ => Φ .non) Φ := fun hc => by
    refine rr_set (i := 5) nd <| ee_call CO hr (by decide) <| aa_cons <| ee_v (i := 0) rfl <| aa_cons <| ee_v (i := 1) rfl <| aa_cons <| ee_v (i := 3) rfl <| aa_nil ⟨B, wb, _, rfl, hw, fun c hcnt => ?_⟩
    by_cases cp : way = 4 ∨ (pathS ps = "/" ∧ 5 < way)
    · refine rr_if <| tt_mono (Ψ := fun k => k = true) ?_ fun k e => ⟨fun _ => ?_, fun z => absurd (e.symm.trans z) (by decide)⟩
      · by_cases h4 : way = 4
        · exact tt_bool <| tw_or <| tt_cmp op_eq rd_eqS <| ee_v (i := 2) rfl <| ee_i <| teq (b := true) (by rw [eqS_cnt, decide_eq_true h4]) <| brT rfl
        · have c2 : pathS ps = "/" ∧ 5 < way := cp.resolve_left h4
          refine tt_bool <| tw_or <| tt_cmp op_eq rd_eqS <| ee_v (i := 2) rfl <| ee_i <| teq (b := false) (by rw [eqS_cnt, decide_eq_false h4]) <| brF ?_
          refine tw_or1 <| tt_bool <| tw_and <| tt_cmp op_eq rd_eqS <| ee_v (i := 3) rfl <| ee_s <| teq (eqS_T c2.1) <| brT ?_
          exact tw_and1 <| tt_cmp op_gt rd_B0 <| ee_v (i := 2) rfl <| ee_i ⟨true, blT c2.2, rfl⟩
      · exact rr_ret <| ee_tup <| aa_cons <| ee_s <| aa_cons <| ee_v (i := 3) rfl <| aa_cons <| ee_call LI hr (by decide) <| aa_cons <| ee_v (i := 0) rfl <| aa_nil ⟨rfl, fun t ht => aa_cons <| ee_v (i := 5) rfl <| aa_nil ⟨Nat.le_of_ble_eq_true rfl, h (.put (pathS ps) t c) ⟨⟨ps, rfl, hps⟩, ht, hcnt⟩⟩⟩
    · have n4 : ¬ way = 4 := fun z => cp (.inl z)
      refine rr_if <| tt_mono (Ψ := fun k => k = false) ?_ fun k e => ⟨fun z => absurd (e.symm.trans z) (by decide), fun _ => rr_nil ?_⟩
      · refine tt_bool <| tw_or <| tt_cmp op_eq rd_eqS <| ee_v (i := 2) rfl <| ee_i <| teq (b := false) (by rw [eqS_cnt, decide_eq_false n4]) <| brF ?_
        refine tw_or1 <| tt_bool <| tw_and <| tt_cmp op_eq rd_eqS <| ee_v (i := 3) rfl <| ee_s <| teq rfl <| brD (fun hroot => ?_) fun _ => rfl
        exact tw_and1 <| tt_cmp op_gt rd_B0 <| ee_v (i := 2) rfl <| ee_i ⟨false, blF (fun z => cp (.inr ⟨hroot, z⟩)), rfl⟩
      refine rr_if <| tt_cmp op_gt rd_B0 <| ee_v (i := 2) rfl <| ee_i ⟨_, rfl, brD (fun h5 => ?_) fun h5 => rr_nil ?_⟩
      · have hroot : ¬ pathS ps = "/" := fun z => cp (.inr ⟨z, h5⟩)
        exact rr_ret <| ee_tup <| aa_cons <| ee_s <| aa_cons <| ee_v (i := 3) rfl <| aa_cons <| ee_v (i := 5) rfl <| aa_nil ⟨Nat.le_of_ble_eq_true rfl, h (.drop (pathS ps) c) ⟨⟨ps, rfl, hps, fun z => hroot ((path_root hps).mpr z)⟩, hcnt⟩⟩
      · exact rr_ret <| ee_tup <| aa_cons <| ee_s <| aa_cons <| ee_v (i := 3) rfl <| aa_cons <| ee_v (i := 5) rfl <| aa_nil ⟨Nat.le_of_ble_eq_true rfl, h (.see (pathS ps) c) ⟨⟨ps, rfl, hps⟩, hcnt⟩⟩
  refine rr_if <| tt_bool <| tw_and <| tt_cmp op_lt rd_B0 <| ee_v (i := 2) rfl <| ee_i ⟨_, rfl, brD (fun h4 => ?_) fun h4 => brF (rr_nil (later fun z => h4 z.1))⟩
  refine tw_and1 <| tt_cmp op_ne rd_neS <| ee_v (i := 3) rfl <| ee_s <| teq rfl <| brN (fun hroot => ?_) fun hroot => rr_nil (later fun z => z.2 hroot)
  have hn : ps ≠ [] := fun e => hroot ((path_root hps).mpr e)
  have spl : Txt.split (pathS ps) "/" = ("" : Str) :: ps := split_path hn fun p hm => part_no (hps.2 p hm)
  refine rr_set (i := 4) nd <| ee_mono (Φ := fun d => ∃ b, d = .bl b ∧ (b = true → WordOk (ps.getLastD ""))) ?_ fun d ⟨b, ed, hb⟩ => ?_
  · refine ee_and <| ee_cmp op_eq rd_eqS <| ee_call Q hr (by decide) <| aa_cons <| ee_v (i := 0) rfl <| aa_cons <| ee_i <| aa_nil ⟨2, rfl, by decide, by decide, fun r r0 r1 => ee_i ⟨_, rfl, _, rfl, fun _ => ?_, fun z => ⟨false, rfl, fun z => by cases z⟩⟩⟩
    refine ee_one <| ee_cmp op_notIn_sign rd_notInS <| ee_s <| ee_ixL <| ee_split <| ee_v (i := 3) rfl ⟨_, rfl, ee_s ⟨by decide +kernel, sz1000 (by omega), ?_⟩⟩
    rw [spl]
    refine ee_neg <| ee_i ⟨1, rfl, .str (ps.getLastD ""), ?_, 45, ps.getLastD "", by rw [dash_sg], rfl, _, rfl, fun hb => ?_⟩
    · have := atLast (ps := ("" : Str) :: ps) (by simp)
      rw [this]
      congr 2
      cases ps with
      | nil => exact absurd rfl hn
      | cons p r => rfl
    · exact word_of_part (hps.2 _ (last_part_in hn)) (by simpa using hb)
  subst ed
  refine rr_ret <| ee_tup <| aa_cons <| ee_s <| aa_cons <| ee_v (i := 3) rfl <| aa_cons <| ee_call LI hr (by decide) <| aa_cons <| ee_v (i := 0) rfl <| aa_nil ⟨rfl, fun t ht => ?_⟩
  refine aa_cons <| ee_cmp op_eq rd_eqS <| ee_call Q hr (by decide) <| aa_cons <| ee_v (i := 0) rfl <| aa_cons <| ee_i <| aa_nil ⟨3, rfl, by decide, by decide, fun r r0 r1 => ee_i ⟨_, rfl, aa_cons <| ee_v (i := 4) rfl <| aa_nil ⟨Nat.le_of_ble_eq_true rfl, ?_⟩⟩⟩
  exact h (.make (pathS ps) t _ b) ⟨ps, rfl, hps, hn, ht, hb⟩
end
end Lg
namespace Lg
open PySem PySem.Spec PyProof.Rows L2 TL
section
variable {α : Type} {l : List (Str × α)} {k k' : Str} {v : α}
theorem aget_cons (x : Str × α) (r : List (Str × α)) (k : Str) : aget (x :: r) k = if x.1 = k then some x.2 else aget r k := by
  unfold aget
  rw [List.find?_cons]
  by_cases c : x.1 = k
  · simp [c]
  · simp [c]
theorem aget_app_none (r q : List (Str × α)) (k : Str) : aget (r ++ q) k = (aget r k).or (aget q k) := by
  induction r with
  | nil => simp [aget]
  | cons x r ih =>
    rw [List.cons_append, aget_cons, aget_cons, ih]
    split
    · rfl
    · rfl
theorem aget_mapP (r : List (Str × α)) : aget (r.map fun kv => if kv.1 = k then (kv.1, v) else kv) k' = if k' = k then (if k ∈ r.map (·.1) then some v else none) else aget r k' := by
  induction r with
  | nil => simp [aget]
  | cons x r ih =>
    rw [List.map_cons, aget_cons, aget_cons, ih, List.map_cons]
    by_cases c : k' = k
    · subst c
      by_cases d : x.1 = k'
      · simp [d]
      · have d' : ¬ k' = x.1 := fun z => d z.symm
        rw [if_neg d, if_pos rfl, if_pos rfl, if_neg d]
        by_cases m : k' ∈ r.map (·.1)
        · rw [if_pos m, if_pos (List.mem_cons_of_mem _ m)]
        · rw [if_neg m, if_neg (fun z => (List.mem_cons.mp z).elim d' m)]
    · by_cases d : x.1 = k
      · subst d
        have c' : ¬ x.1 = k' := fun z => c z.symm
        simp [c, c']
      · simp [c, d]
theorem aget_put_eq : aget (aput l k v) k = some v := by
  unfold aput
  by_cases c : k ∈ l.map (·.1)
  · rw [if_pos (any_iff.mpr c), aget_mapP, if_pos rfl, if_pos c]
  · rw [if_neg (fun z => c (any_iff.mp z)), aget_app_none]
    cases e : aget l k with
    | none => simp [aget]
    | some v' => exact absurd (List.mem_map.mpr ⟨_, aget_mem e, rfl⟩) c
theorem aget_put_ne (h : k' ≠ k) : aget (aput l k v) k' = aget l k' := by
  unfold aput
  by_cases c : k ∈ l.map (·.1)
  · rw [if_pos (any_iff.mpr c), aget_mapP, if_neg h]
  · rw [if_neg (fun z => c (any_iff.mp z)), aget_app_none]
    have e : aget [(k, v)] k' = none := by
      rw [aget_cons, if_neg (fun z => h z.symm)]
      rfl
    rw [e]
    cases aget l k' <;> rfl
theorem aget_drop_ne (h : k' ≠ k) : aget (adrop l k) k' = aget l k' := by
  induction l with
  | nil => rfl
  | cons x r ih =>
    unfold adrop at ih ⊢
    by_cases c : x.1 = k
    · rw [List.filter_cons_of_neg (by simp [c]), ih, aget_cons, if_neg (fun z => h (z.symm.trans c))]
    · rw [List.filter_cons_of_pos (by simp [c]), aget_cons, aget_cons, ih]
end
/-- the law's own web: the root stands, nobody's -/
structure LwOk (B : Int) (w : Web) : Prop where
  web : WebOk B w
  root : ∃ n, aget w "/" = some n ∧ n.own = none
theorem LwOk.ne {B : Int} {w : Web} (h : LwOk B w) : w ≠ [] := fun e => by
  obtain ⟨n, e2, _⟩ := h.root
  rw [e] at e2
  cases e2
theorem LwOk.up {B C : Int} {w : Web} (h : LwOk B w) (l : B ≤ C) : LwOk C w := ⟨h.web.up l, h.root⟩
theorem LwOk.putS {B : Int} {w : Web} {k : Str} {n m : Nd} (h : LwOk B w) (hk : aget w k = some n) (ho : m.own = n.own) (hn : NdOk B m) : LwOk B (aput w k m) := by
  refine ⟨h.web.put (List.mem_map.mpr ⟨_, aget_mem hk, rfl⟩) hn, ?_⟩
  obtain ⟨r, e, eo⟩ := h.root
  by_cases c : ("/" : Str) = k
  · subst c
    rw [hk] at e
    cases e
    exact ⟨m, aget_put_eq, ho.trans eo⟩
  · exact ⟨r, by rw [aget_put_ne c]; exact e, eo⟩
theorem LwOk.add {B : Int} {w : Web} {k : Str} {m : Nd} (h : LwOk B w) (hl : w.length < 60) (hk : KeyOk k) (hx : k ∉ w.map (·.1)) (hn : NdOk B m) : LwOk B (aput w k m) := by
  refine ⟨h.web.add hl hk hn, ?_⟩
  obtain ⟨r, e, eo⟩ := h.root
  have c : ("/" : Str) ≠ k := fun z => hx (by rw [← z]; exact List.mem_map.mpr ⟨_, aget_mem e, rfl⟩)
  exact ⟨r, by rw [aget_put_ne c]; exact e, eo⟩
theorem LwOk.drop {B : Int} {w : Web} {k : Str} (h : LwOk B w) (hk : k ≠ "/") : LwOk B (adrop w k) := by
  refine ⟨h.web.drop, ?_⟩
  obtain ⟨r, e, eo⟩ := h.root
  exact ⟨r, by rw [aget_drop_ne hk.symm]; exact e, eo⟩
section
variable {P : Program} {w : World} {K : PySem.W.Frag} {mg : Str → Option Value} {base : Heap} {f : Addr} {fd : FuncData}
/-! ### above -/
abbrev qAbove : Stmt := topS 69
def dAbove : Con := fun as Φ => ∃ ps, as = [.str (pathS ps)] ∧ PsOk ps ∧ Φ (.str (pathS ps.dropLast))
theorem zcAbove : FnScope ["_law_road"] ["_law_road"] (defScope qAbove) := ⟨rfl, rfl, rfl, by decide +kernel, rfl, by decide +kernel, by decide +kernel⟩
theorem split_root : Txt.split (pathS []) "/" = [("" : Str), ""] := by decide +kernel
theorem join_cons0 {ps : List Str} (h : ps ≠ []) : Str.join "/" (("" : Str) :: ps) = pathS ps := (pathS_cons h).symm
theorem qk_above (F : Fun K "_law_above" "_law_above" qAbove f fd) (T : Glb K mg) : FnOk P w K mg base CX0 1 f fd ["_law_road"] (spF K dAbove) := by
  refine fn_ok F zcAbove (fun ds Φ ⟨_, e, _⟩ => by rw [e]; rfl) fun cdv A outer s H E ds Φ hr c => ?_
  obtain ⟨ps, rfl, hps, h⟩ := c
  have lp := path_len hps
  have key : ∃ qs : List Str, (dstrs (Txt.split (pathS ps) "/")) = dstrs (("" : Str) :: qs) ∧ qs ≠ [] ∧ (∀ q ∈ qs.dropLast, PartOk q) ∧ qs.length ≤ 5 ∧ pathS qs.dropLast = pathS ps.dropLast := by
    by_cases hn : ps = []
    · subst hn
      exact ⟨[""], by rw [split_root], by simp, (fun q hq => by cases hq), by decide, rfl⟩
    · exact ⟨ps, by rw [split_path hn fun p hm => part_no (hps.2 p hm)], hn, (fun q hq => hps.2 q (List.dropLast_subset ps hq)), hps.1, rfl⟩
  obtain ⟨qs, e1, hn, hq, hl, e2⟩ := key
  rw [← e2] at h
  refine rr_ret <| ee_orS <| ee_join <| ee_s ⟨_, rfl, ee_slL <| ee_split <| ee_v (i := 0) rfl ⟨_, rfl, ee_s ⟨by decide +kernel, sz1000 (by omega), ?_⟩⟩⟩
  rw [e1]
  refine ee_neg <| ee_i ⟨1, rfl, _, rfl, ("" : Str) :: qs.dropLast, ?_, ?_, ?_⟩
  · have := cutLast (("" : Str) :: qs)
    have e3 : (("" : Str) :: qs).dropLast = ("" : Str) :: qs.dropLast := by
      cases qs with
      | nil => exact absurd rfl hn
      | cons q r => rfl
    rw [e3] at this
    exact congrArg D.lst this
  · have l1 := parts_sum hq
    have l2 : qs.dropLast.length ≤ 5 := by rw [List.length_dropLast]; omega
    rw [List.map_cons, List.sum_cons, List.length_cons, len_slash]
    show 0 + _ + _ ≤ _
    omega
  · rw [join_eq]
    by_cases hd : qs.dropLast = []
    · rw [hd] at h ⊢
      refine ⟨_, rfl, by decide +kernel, fun z => absurd rfl z, fun _ => ee_one <| ee_s ?_⟩
      rw [pathS_nil] at h
      exact h
    · rw [join_cons0 hd]
      have lq := join_len hq
      have l2 : qs.dropLast.length ≤ 5 := by rw [List.length_dropLast]; omega
      have l3 : (pathS qs.dropLast).length = 1 + (Str.join "/" qs.dropLast).length := by
        unfold pathS
        rw [len_app, len_slash]
      exact ⟨_, rfl, sz1000 (by omega), fun _ => h, fun z => by omega⟩
/-! ### kids -/
abbrev qKids : Stmt := topS 70
def dKids : Con := fun as Φ => ∃ B wb z, as = [.dct (webD wb), .str z] ∧ WebOk B wb ∧ ∀ l : List Str, Φ (.lst (dstrs l))
theorem zcKids : FnScope ["_law_web", "_law_road", "_law_one"] ["_law_web", "_law_road"] (defScope qKids) := ⟨rfl, rfl, rfl, by decide +kernel, rfl, by decide +kernel, by decide +kernel⟩
theorem qk_kids (F : Fun K "_law_kids" "_law_kids" qKids f fd) (T : Glb K mg) (W : Fn P w K mg base 1 "_law_above" ["_law_road"] dAbove) : FnOk P w K mg base CX0 2 f fd ["_law_web", "_law_road"] (spF K dKids) := by
  refine fn_ok F zcKids (fun ds Φ ⟨_, _, _, e, _⟩ => by rw [e]; rfl) fun cdv A outer s H E ds Φ hr c => ?_
  obtain ⟨B, wb, path, rfl, hw, h⟩ := c
  have nd := zcKids.nd
  have hlk : (webD wb).length = wb.length := amap_len
  have h60 := hw.len
  refine rr_ret (ee_sortL T.zSorted (ee_lcKeys (i := 2) (j := 0) nd (blkOk_by (N := ["_law_web", "_law_road", "_law_one"]) (sc := defScope qKids) (by decide +kernel)) rfl ⟨fun n acc => ∃ l : List Str, acc = dstrs l ∧ l.length ≤ n, ⟨[], rfl, Nat.zero_le _⟩, fun n acc hn ea => ?_, fun acc ea => ?_⟩))
  · obtain ⟨l, rfl, hl⟩ := ea
    have hn' : n < (wb.map (·.1)).length := by
      rw [List.length_map]
      omega
    have ek : (keysOf (webD wb)).getD n "" = (wb.map (·.1))[n] := by
      rw [keys_map, List.getD_eq_getElem?_getD, List.getElem?_eq_getElem hn']
      rfl
    rw [ek]
    obtain ⟨ps, e1, hps⟩ : KeyOk (wb.map (·.1))[n] := by
      obtain ⟨kv, m, e⟩ := List.mem_map.mp (List.getElem_mem hn')
      rw [← e]
      exact (hw.kv kv m).1
    rw [e1]
    have lp := path_len hps
    refine ⟨kidB path (pathS ps), fun s H C cl fp => ?_, fun hb s H C cl fp => ?_, fun hb => ⟨l, rfl, by omega⟩⟩
    · refine tt_bool (tw_and (tt_cmp op_ne rd_neS (ee_v (i := 2) rfl (ee_s (teq rfl (brN (fun hc => ?_) fun hc => ?_))))))
      · refine tw_and1 (tt_cmp op_eq rd_eqS (ee_call W hr (by decide) (aa_cons (ee_v (i := 2) rfl (aa_nil ⟨ps, rfl, hps, ee_v (i := 1) rfl (teq rfl ?_)⟩)))))
        unfold kidB
        rw [parent_path hps, decide_eq_false hc]
        rfl
      · unfold kidB
        rw [decide_eq_true hc]
        rfl
    · have hne : ps ≠ [] := by
        intro e
        subst e
        unfold kidB at hb
        rw [pathS_nil, decide_eq_true rfl] at hb
        cases hb
      have spl : Txt.split (pathS ps) "/" = ("" : Str) :: ps := split_path hne fun p hm => part_no (hps.2 p hm)
      refine ee_ixL <| ee_split <| ee_v (i := 2) rfl ⟨_, rfl, ee_s ⟨by decide +kernel, sz1000 (by omega), ?_⟩⟩
      rw [spl]
      refine ee_neg <| ee_i ⟨1, rfl, _, atLast (by simp), by rw [dstrs_len]; omega, l ++ [(("" : Str) :: ps).getLastD ""], ?_, ?_⟩
      · unfold dstrs
        rw [List.map_append]
        rfl
      · rw [List.length_append]
        show _ + 1 ≤ _
        omega
  · obtain ⟨l, rfl, hl⟩ := ea
    rw [hlk] at hl
    exact ⟨l, rfl, by omega, h _⟩
/-! ### make -/
abbrev qMake : Stmt := topS 71
def OutL (B : Int) (Φ : D → Prop) : Prop := ∀ o : Out, LwOk B o.web → o.evs.length ≤ 2 → Φ (outD o)
def dMake : Con := fun as Φ => ∃ B wb who p t o n, as = [.dct (webD wb), (Dd.make p t o n).d, .str who] ∧ LwOk B wb ∧ B ≤ 300 ∧ (Dd.make p t o n).Ok ∧ OutL (B + 1) Φ
abbrev nzMake : List Str := ["_law_web", "_law_task_here", "_law_who", "_law_word_here", "_law_road", "_law_text", "_law_own", "_law_numbered", "_law_above_here", "_law_elder", "_law_found"]
theorem zcMake : FnScope nzMake ["_law_web", "_law_task_here", "_law_who"] (defScope qMake) := ⟨rfl, rfl, rfl, by decide +kernel, rfl, by decide +kernel, by decide +kernel⟩
theorem lj_eq (n : Int) : cutS (("00000" : Str) ++ Str.ofString (toString n)) (some (-6)) none = lj n := rfl
theorem num_len {n : Int} (h0 : 0 ≤ n) (h : n ≤ 300) : (Str.ofString (toString n)).length ≤ 10 := by
  have e : n = ((n.toNat : Nat) : Int) := by omega
  rw [e, len_tl, tl_num]
  exact numL_len (by decide) (by omega)
theorem qk_make (F : Fun K "_law_make" "_law_make" qMake f fd) (T : Glb K mg) (W : Fn P w K mg base 1 "_law_above" ["_law_road"] dAbove) : FnOk P w K mg base CX0 2 f fd ["_law_web", "_law_task_here", "_law_who"] (spF K dMake) := by
  refine fn_ok F zcMake (fun ds Φ ⟨_, _, _, _, _, _, _, e, _⟩ => by rw [e]; rfl) fun cdv A outer s H E ds Φ hr c => ?_
  obtain ⟨B, wb, who, p, t, o, n, rfl, hw, hB, ⟨ps, rfl, hps, hn, ht, hwd⟩, h⟩ := c
  have nd := zcMake.nd
  have hu := Room.u1 hr
  have lp := path_len hps
  have hl : (webD wb).length = wb.length := amap_len
  have h60 := hw.web.len
  have hno : ∀ z : Str, Φ (outD (refM wb z)) := fun z => h _ (hw.up (by omega)) (Nat.zero_le _)
  refine rr_asg <| ee_v (i := 1) rfl ?_
  refine gg_tup (ggs_cons <| gg_name (i := 3) nd <| ggs_cons <| gg_name (i := 4) nd <| ggs_cons <| gg_name (i := 5) nd <| ggs_cons <| gg_name (i := 6) nd <| ggs_cons <| gg_name (i := 7) nd <| ggs_nil ?_) rfl
  refine rr_set (i := 8) nd <| ee_call W hr (by decide) <| aa_cons <| ee_v (i := 4) rfl <| aa_nil ⟨ps, rfl, hps, ?_⟩
  generalize hq0 : pathS ps.dropLast = q0
  cases e : aget wb q0 with
  | none =>
    refine rr_if <| tt_dnotin hu <| ee_v (i := 8) rfl <| ee_v (i := 0) rfl ⟨_, _, rfl, rfl, true, by rw [dget_webN e]; rfl, brT ?_⟩
    exact rr_ret <| ee_tup <| aa_cons <| ee_v (i := 0) rfl <| aa_cons <| ee_tup <| aa_cons <| ee_s <| aa_cons <| ee_s <| aa_nil ⟨Nat.le_of_ble_eq_true rfl, aa_cons <| ee_lst <| aa_nil ⟨Nat.zero_le _, aa_nil ⟨Nat.le_of_ble_eq_true rfl, hno _⟩⟩⟩
  | some m =>
    obtain ⟨_, m0, m1, m2⟩ := hw.web.get e
    refine rr_if <| tt_dnotin hu <| ee_v (i := 8) rfl <| ee_v (i := 0) rfl ⟨_, _, rfl, rfl, false, by rw [dget_webS e]; rfl, brF <| rr_nil ?_⟩
    refine rr_set (i := 9) nd <| ee_ixD hu <| ee_v (i := 0) rfl <| ee_v (i := 8) rfl ⟨_, dget_webS e, ?_⟩
    cases eo : m.own with
    | some oo =>
      refine rr_if <| tt_cmp op_notN rd_notN <| ee_ixT <| ee_v (i := 9) rfl <| ee_i ⟨ownD m.own, rfl, ee_n ⟨rfl, false, by rw [eo]; rfl, _, rfl, brT ?_⟩⟩
      exact rr_ret <| ee_tup <| aa_cons <| ee_v (i := 0) rfl <| aa_cons <| ee_tup <| aa_cons <| ee_s <| aa_cons <| ee_s <| aa_nil ⟨Nat.le_of_ble_eq_true rfl, aa_cons <| ee_lst <| aa_nil ⟨Nat.zero_le _, aa_nil ⟨Nat.le_of_ble_eq_true rfl, hno _⟩⟩⟩
    | none =>
      refine rr_if <| tt_cmp op_notN rd_notN <| ee_ixT <| ee_v (i := 9) rfl <| ee_i ⟨ownD m.own, rfl, ee_n ⟨rfl, true, by rw [eo]; rfl, _, rfl, brF <| rr_nil ?_⟩⟩
      obtain ⟨q, kq, lq, hq⟩ : ∃ q : Str, KeyOk q ∧ q.length ≤ 200 ∧ q = (if n = true then pathS ps ++ "-" ++ lj m.made else pathS ps) := by
        refine ⟨_, ?_, ?_, rfl⟩
        · split
          · rename_i hc
            obtain ⟨qs, e1, e2, _⟩ := ps_num hps hn (hwd hc) (lj_ok m1 (by omega))
            exact ⟨qs, e1, e2⟩
          · exact ⟨ps, rfl, hps⟩
        · split
          · rw [len_app, len_app, len_dash, (lj_ok m1 (by omega)).1]
            omega
          · omega
      refine rr_ifJ [.va (.dct (webD wb)), .va (Dd.make (pathS ps) t o n).d, .va (.str who), .va (.str "make"), .va (.str q), .va (.str t), .va (.bl o), .va (.bl n), .va (.str q0), .va (ndD m), .un]
        (tt_val (ee_v (i := 7) rfl ⟨n, rfl, fun en => ?_, fun en => ?_⟩)) ?_
      · refine rr_set (i := 4) nd <| ee_adds <| ee_adds <| ee_v (i := 4) rfl <| ee_s ⟨sz1000 (by rw [len_dash]; omega), ee_slS <| ee_adds <| ee_s <| ee_ct call_str_int rdc_str T.zStr bt_str <| aa_cons <| ee_ixT <| ee_v (i := 9) rfl <| ee_i ⟨.int m.made, rfl, aa_nil ⟨log_small m1 (by omega), ?_⟩⟩⟩
        have ln := num_len m1 (by omega : m.made ≤ 300)
        have l5 : ("00000" : Str).length = 5 := by decide +kernel
        refine ⟨sz1000 (by rw [l5]; omega), ee_neg <| ee_i ⟨6, rfl, _, rfl, ?_⟩⟩
        refine ⟨sz1000 (by rw [len_app, l5]; omega), ?_, rr_nil ?_⟩
        · show _ + (lj m.made).length ≤ _
          rw [len_app, len_dash, (lj_ok m1 (by omega)).1]
          exact sz1000 (by omega)
        · rw [hq, if_pos en]; first | done | rfl
      · refine rr_nil ?_
        rw [hq, if_neg (by rw [en]; decide)]; first | done | rfl
      cases eq2 : aget wb q with
      | some m2 =>
        refine rr_if <| tt_din hu <| ee_v (i := 4) rfl <| ee_v (i := 0) rfl ⟨_, _, rfl, rfl, true, by rw [dget_webS eq2]; rfl, brT ?_⟩
        exact rr_ret <| ee_tup <| aa_cons <| ee_v (i := 0) rfl <| aa_cons <| ee_tup <| aa_cons <| ee_s <| aa_cons <| ee_s <| aa_nil ⟨Nat.le_of_ble_eq_true rfl, aa_cons <| ee_lst <| aa_nil ⟨Nat.zero_le _, aa_nil ⟨Nat.le_of_ble_eq_true rfl, hno _⟩⟩⟩
      | none =>
        refine rr_if <| tt_din hu <| ee_v (i := 4) rfl <| ee_v (i := 0) rfl ⟨_, _, rfl, rfl, false, by rw [dget_webN eq2]; rfl, brF <| rr_nil ?_⟩
        refine rr_if <| tt_cmp op_gt rd_B0 <| ee_len T.zLen <| ee_v (i := 0) rfl <| ee_i ⟨_, rfl, brD (fun hc => ?_) fun hc => rr_nil ?_⟩
        · exact rr_ret <| ee_tup <| aa_cons <| ee_v (i := 0) rfl <| aa_cons <| ee_tup <| aa_cons <| ee_s <| aa_cons <| ee_s <| aa_nil ⟨Nat.le_of_ble_eq_true rfl, aa_cons <| ee_lst <| aa_nil ⟨Nat.zero_le _, aa_nil ⟨Nat.le_of_ble_eq_true rfl, hno _⟩⟩⟩
        · refine rr_copyD (i := 10) nd T.zDict <| ee_v (i := 0) rfl ⟨_, rfl, ?_⟩
          refine rr_put (i := 10) hu rfl (by omega) <| ee_addu <| ee_addu <| ee_slT <| ee_v (i := 9) rfl <| ee_i ⟨2, rfl, ?_⟩
          refine ee_tup <| aa_cons <| ee_add <| ee_ixT <| ee_v (i := 9) rfl <| ee_i ⟨.int m.made, rfl, ee_i ?_⟩
          refine aa_nil ⟨Nat.le_of_ble_eq_true rfl, sz1000 (Nat.le_of_ble_eq_true rfl), ee_slT <| ee_v (i := 9) rfl <| ee_i ⟨3, rfl, sz1000 (Nat.le_of_ble_eq_true rfl), ee_v (i := 8) rfl ⟨_, rfl, ?_⟩⟩⟩
          have l1 := dput_len (webD wb) q0 (ndD ⟨m.text, m.count, m.made + 1, m.own⟩)
          show RR _ _ (List.set _ 10 (.owd (dput (webD wb) q0 (ndD ⟨m.text, m.count, m.made + 1, m.own⟩)))) _ _
          refine rr_put (i := 10) hu rfl (by omega) <| ee_tup <| aa_cons <| ee_v (i := 5) rfl <| aa_cons <| ee_i <| aa_cons <| ee_i <| aa_cons <| ee_ixL <| ee_lst <| aa_cons <| ee_n <| aa_cons <| ee_v (i := 2) rfl <| aa_nil ⟨Nat.le_of_ble_eq_true rfl, ee_ct call_int1 rdc_int T.zInt bt_int <| aa_cons <| ee_v (i := 6) rfl <| aa_nil ?_⟩
          refine ⟨ownD (if o = true then some who else none), by cases o <;> rfl, aa_nil ⟨Nat.le_of_ble_eq_true rfl, ee_v (i := 4) rfl ⟨_, rfl, ?_⟩⟩⟩
          refine rr_tellD (i := 10) rfl <| rr_ret <| ee_tup <| aa_cons <| ee_v (i := 10) rfl <| aa_cons <| ee_tup <| aa_cons <| ee_s <| aa_cons <| ee_v (i := 4) rfl <| aa_nil ⟨Nat.le_of_ble_eq_true rfl, ?_⟩
          refine aa_cons <| ee_lst <| aa_cons <| ee_tup <| aa_cons <| ee_s <| aa_cons <| ee_v (i := 4) rfl <| aa_nil ⟨Nat.le_of_ble_eq_true rfl, ?_⟩
          refine aa_cons <| ee_tup <| aa_cons <| ee_s <| aa_cons <| ee_v (i := 8) rfl <| aa_nil ⟨Nat.le_of_ble_eq_true rfl, aa_nil ⟨Nat.le_of_ble_eq_true rfl, aa_nil ⟨Nat.le_of_ble_eq_true rfl, ?_⟩⟩⟩
          have hk : q0 ∈ wb.map (·.1) := List.mem_map.mpr ⟨_, aget_mem e, rfl⟩
          have hw1 : LwOk (B + 1) (aput wb q0 ⟨m.text, m.count, m.made + 1, m.own⟩) := (hw.up (by omega)).putS e rfl ⟨m0, (by omega : 0 ≤ m.made + 1), (by omega : m.made + 1 ≤ B + 1)⟩
          have hw2 : LwOk (B + 1) (aput (aput wb q0 ⟨m.text, m.count, m.made + 1, m.own⟩) q ⟨t, 0, 0, if o = true then some who else none⟩) := hw1.add (by rw [put_len_in hk]; omega) kq (by rw [put_keys_in hk]; exact aget_none eq2) ⟨Int.le_refl _, Int.le_refl _, (by omega : (0 : Int) ≤ B + 1)⟩
          have hh := h ⟨aput (aput wb q0 ⟨m.text, m.count, m.made + 1, m.own⟩) q ⟨t, 0, 0, if o = true then some who else none⟩, "ok", .str q, [ev "made" q, ev "kids" q0]⟩ hw2 (Nat.le_refl _)
          refine phi_eq hh ?_
          unfold outD
          dsimp only
          rw [← dput_web, ← dput_web]
          rfl
end
end Lg
namespace Lg
open PySem PySem.Spec PyProof.Rows L2 TL
section
variable {P : Program} {w : World} {K : PySem.W.Frag} {mg : Str → Option Value} {base : Heap} {f : Addr} {fd : FuncData}
/-! ### plainly -/
abbrev qPlainly : Stmt := topS 72
def dPlainly : Con := fun as Φ => ∃ B wb who d, as = [.dct (webD wb), Dd.d d, .str who] ∧ LwOk B wb ∧ B ≤ 300 ∧ d.Ok ∧ OutL (B + 1) Φ
abbrev nzPlainly : List Str := ["_law_web", "_law_task_here", "_law_who", "_law_road", "_law_wanted", "_law_node", "_law_found"]
theorem zcPlainly : FnScope nzPlainly ["_law_web", "_law_task_here", "_law_who"] (defScope qPlainly) := ⟨rfl, rfl, rfl, by decide +kernel, rfl, by decide +kernel, by decide +kernel⟩
theorem Dd.at0' (d : Dd) : ∃ xs, d.d = .tup (.str d.word :: xs) := ⟨_, d.d_eq⟩
theorem qk_plainly (F : Fun K "_law_plainly" "_law_plainly" qPlainly f fd) (T : Glb K mg) (W : Fn P w K mg base 1 "_law_above" ["_law_road"] dAbove) (KI : Fn P w K mg base 2 "_law_kids" ["_law_web", "_law_road"] dKids) (MK : Fn P w K mg base 2 "_law_make" ["_law_web", "_law_task_here", "_law_who"] dMake) : FnOk P w K mg base CX0 3 f fd ["_law_web", "_law_task_here", "_law_who"] (spF K dPlainly) := by
  refine fn_ok F zcPlainly (fun ds Φ ⟨_, _, _, _, e, _⟩ => by rw [e]; rfl) fun cdv A outer s H E ds Φ hr c => ?_
  obtain ⟨B, wb, who, d, rfl, hw, hB, hd, h⟩ := c
  have nd := zcPlainly.nd
  have hu := Room.u1 hr
  have hl : (webD wb).length = wb.length := amap_len
  have h60 := hw.web.len
  have hu' : LwOk (B + 1) wb := hw.up (by omega)
  have hno : ∀ z : Str, Φ (outD (refM wb z)) := fun z => h _ hu' (Nat.zero_le _)
  by_cases hm : ∃ p t o n, d = .make p t o n
  · obtain ⟨p, t, o, n, rfl⟩ := hm
    refine rr_if <| tt_cmp op_eq rd_eqS <| ee_ixT <| ee_v (i := 1) rfl <| ee_i ⟨.str "make", rfl, ee_s <| teq (eqS_T rfl) <| brT ?_⟩
    exact rr_ret <| ee_call MK hr (by decide) <| aa_cons <| ee_v (i := 0) rfl <| aa_cons <| ee_v (i := 1) rfl <| aa_cons <| ee_v (i := 2) rfl <| aa_nil ⟨B, wb, who, p, t, o, n, rfl, hw, hB, hd, h⟩
  · have wm : d.word ≠ "make" := by
      cases d with
      | make p t o n => exact absurd ⟨p, t, o, n, rfl⟩ hm
      | put => exact (show ("put" : Str) ≠ "make" by decide +kernel)
      | drop => exact (show ("drop" : Str) ≠ "make" by decide +kernel)
      | see => exact (show ("see" : Str) ≠ "make" by decide +kernel)
    obtain ⟨r0, hr0⟩ : ∃ r0, d.d = .tup ((.str d.word :: .str d.path :: r0) ++ [cntD d.cnt]) := by
      cases d with
      | make p t o n => exact absurd ⟨p, t, o, n, rfl⟩ hm
      | put p t c => exact ⟨[.str t], rfl⟩
      | drop p c => exact ⟨[], rfl⟩
      | see p c => exact ⟨[], rfl⟩
    obtain ⟨ps, eps, hps⟩ := Dd.key hd
    refine rr_if <| tt_cmp op_eq rd_eqS <| ee_ixT <| ee_v (i := 1) (d := .tup (.str d.word :: .str d.path :: d.rest)) (by show some (Sl.va d.d) = _; rw [d.d_eq]) <| ee_i ⟨_, at0 _ _, ee_s <| teq (eqS_F wm) <| brF <| rr_nil ?_⟩
    refine rr_par (i := 3) (j := 4) nd (by decide) <| ee_ixT <| ee_v (i := 1) (d := .tup (.str d.word :: .str d.path :: d.rest)) (by show some (Sl.va d.d) = _; rw [d.d_eq]) <| ee_i ⟨_, at1 _ _ _, ee_ixT <| ee_v (i := 1) (d := .tup ((.str d.word :: .str d.path :: r0) ++ [cntD d.cnt])) (by show some (Sl.va d.d) = _; rw [hr0]) <| ee_neg <| ee_i ⟨1, rfl, _, atLastD, ?_⟩⟩
    cases e : aget wb d.path with
    | none =>
      refine rr_if <| tt_dnotin hu <| ee_v (i := 3) rfl <| ee_v (i := 0) rfl ⟨_, _, rfl, rfl, true, by rw [dget_webN e]; rfl, brT ?_⟩
      exact rr_ret <| ee_tup <| aa_cons <| ee_v (i := 0) rfl <| aa_cons <| ee_tup <| aa_cons <| ee_s <| aa_cons <| ee_s <| aa_nil ⟨Nat.le_of_ble_eq_true rfl, aa_cons <| ee_lst <| aa_nil ⟨Nat.zero_le _, aa_nil ⟨Nat.le_of_ble_eq_true rfl, hno _⟩⟩⟩
    | some m =>
      obtain ⟨_, m0, m1, m2⟩ := hw.web.get e
      refine rr_if <| tt_dnotin hu <| ee_v (i := 3) rfl <| ee_v (i := 0) rfl ⟨_, _, rfl, rfl, false, by rw [dget_webS e]; rfl, brF <| rr_nil ?_⟩
      refine rr_set (i := 5) nd <| ee_ixD hu <| ee_v (i := 0) rfl <| ee_v (i := 3) rfl ⟨_, dget_webS e, ?_⟩
      have tail : RR (BX P w K mg base nzPlainly "_law_plainly" (defScope qPlainly) f cdv A outer s H E) ((defBody qPlainly).drop 5) [.va (.dct (webD wb)), .va d.d, .va (.str who), .va (.str d.path), .va (cntD d.cnt), .va (ndD m), .un] (fun _ => Φ .non) Φ := by
        cases d with
        | make p t o n => exact absurd ⟨p, t, o, n, rfl⟩ hm
        | see p c =>
          refine rr_if <| tt_cmp op_eq rd_eqS <| ee_ixT <| ee_v (i := 1) rfl <| ee_i ⟨.str "see", rfl, ee_s <| teq (eqS_T rfl) <| brT ?_⟩
          exact rr_ret <| ee_tup <| aa_cons <| ee_v (i := 0) rfl <| aa_cons <| ee_tup <| aa_cons <| ee_s <| aa_cons <| ee_ixT <| ee_v (i := 5) rfl <| ee_i ⟨.int m.count, rfl, aa_nil ⟨Nat.le_of_ble_eq_true rfl, aa_cons <| ee_lst <| aa_nil ⟨Nat.zero_le _, aa_nil ⟨Nat.le_of_ble_eq_true rfl, h ⟨wb, "ok", .int m.count, []⟩ hu' (Nat.zero_le _)⟩⟩⟩⟩
        | put p t c =>
          refine rr_if <| tt_cmp op_eq rd_eqS <| ee_ixT <| ee_v (i := 1) rfl <| ee_i ⟨.str "put", rfl, ee_s <| teq (eqS_F (show ("put" : Str) ≠ "see" by decide +kernel)) <| brF <| rr_nil ?_⟩
          refine rr_copyD (i := 6) nd T.zDict <| ee_v (i := 0) rfl ⟨_, rfl, ?_⟩
          refine rr_if <| tt_cmp op_eq rd_eqS <| ee_ixT <| ee_v (i := 1) rfl <| ee_i ⟨.str "put", rfl, ee_s <| teq (eqS_T rfl) <| brT ?_⟩
          refine rr_put (i := 6) hu rfl (by omega) <| ee_addu <| ee_tup <| aa_cons <| ee_ixT <| ee_v (i := 1) rfl <| ee_i ⟨.str t, rfl, aa_cons <| ee_add <| ee_ixT <| ee_v (i := 5) rfl <| ee_i ⟨.int m.count, rfl, ee_i ?_⟩⟩
          refine aa_nil ⟨Nat.le_of_ble_eq_true rfl, ee_slT <| ee_v (i := 5) rfl <| ee_i ⟨2, rfl, sz1000 (Nat.le_of_ble_eq_true rfl), ee_v (i := 3) rfl ⟨_, rfl, ?_⟩⟩⟩
          refine rr_tellD (i := 6) rfl <| rr_ret <| ee_tup <| aa_cons <| ee_v (i := 6) rfl <| aa_cons <| ee_tup <| aa_cons <| ee_s <| aa_cons <| ee_add <| ee_ixT <| ee_v (i := 5) rfl <| ee_i ⟨.int m.count, rfl, ee_i ?_⟩
          refine aa_nil ⟨Nat.le_of_ble_eq_true rfl, aa_cons <| ee_lst <| aa_cons <| ee_tup <| aa_cons <| ee_s <| aa_cons <| ee_v (i := 3) rfl <| aa_nil ⟨Nat.le_of_ble_eq_true rfl, aa_nil ⟨Nat.le_of_ble_eq_true rfl, aa_nil ⟨Nat.le_of_ble_eq_true rfl, ?_⟩⟩⟩⟩
          have hh := h ⟨aput wb p ⟨t, m.count + 1, m.made, m.own⟩, "ok", .int (m.count + 1), [ev "text" p]⟩ (hu'.putS e rfl ⟨(by omega : 0 ≤ m.count + 1), m1, (by omega : m.made ≤ B + 1)⟩) (by show 1 ≤ 2; decide)
          refine phi_eq hh ?_
          unfold outD
          dsimp only
          rw [← dput_web]
          rfl
        | drop p c =>
          obtain ⟨⟨qs, eqs, hqs, hqn⟩, _⟩ := hd
          have hroot : p ≠ "/" := fun z => hqn ((path_root hqs).mp (by rw [← eqs, z]))
          refine rr_if <| tt_cmp op_eq rd_eqS <| ee_ixT <| ee_v (i := 1) rfl <| ee_i ⟨.str "drop", rfl, ee_s <| teq (eqS_F (show ("drop" : Str) ≠ "see" by decide +kernel)) <| brF <| rr_nil ?_⟩
          refine rr_copyD (i := 6) nd T.zDict <| ee_v (i := 0) rfl ⟨_, rfl, ?_⟩
          refine rr_if <| tt_cmp op_eq rd_eqS <| ee_ixT <| ee_v (i := 1) rfl <| ee_i ⟨.str "drop", rfl, ee_s <| teq (eqS_F (show ("drop" : Str) ≠ "put" by decide +kernel)) <| brF <| rr_nil ?_⟩
          refine rr_if <| tt_cmp (op_neP hr.units) rd_neD <| ee_call KI hr (by decide) <| aa_cons <| ee_v (i := 0) rfl <| aa_cons <| ee_v (i := 3) rfl <| aa_nil ⟨B, wb, p, rfl, hw.web, fun l => ee_lst <| aa_nil ⟨Nat.zero_le _, pl_dstrs _ _, Pl.lst pl_nil, _, rfl, _, rfl, fun _ => ?_, fun _ => rr_nil ?_⟩⟩
          · exact rr_ret <| ee_tup <| aa_cons <| ee_v (i := 0) rfl <| aa_cons <| ee_tup <| aa_cons <| ee_s <| aa_cons <| ee_s <| aa_nil ⟨Nat.le_of_ble_eq_true rfl, aa_cons <| ee_lst <| aa_nil ⟨Nat.zero_le _, aa_nil ⟨Nat.le_of_ble_eq_true rfl, hno _⟩⟩⟩
          refine rr_pop (i := 6) rfl <| ee_v (i := 3) rfl ⟨_, rfl, by show (dget (webD wb) p).isSome = true; rw [dget_webS (show aget wb p = some m from e)]; rfl, ?_⟩
          have hps' : p = pathS ps := eps
          refine rr_tellD (i := 6) rfl <| rr_ret <| ee_tup <| aa_cons <| ee_v (i := 6) rfl <| aa_cons <| ee_tup <| aa_cons <| ee_s <| aa_cons <| ee_n <| aa_nil ⟨Nat.le_of_ble_eq_true rfl, ?_⟩
          refine aa_cons <| ee_lst <| aa_cons <| ee_tup <| aa_cons <| ee_s <| aa_cons <| ee_v (i := 3) rfl <| aa_nil ⟨Nat.le_of_ble_eq_true rfl, ?_⟩
          refine aa_cons <| ee_tup <| aa_cons <| ee_s <| aa_cons <| ee_call W hr (by decide) <| aa_cons <| ee_v (i := 3) rfl <| aa_nil ⟨ps, by show [D.str p] = _; rw [← hps'], hps, aa_nil ⟨Nat.le_of_ble_eq_true rfl, aa_nil ⟨Nat.le_of_ble_eq_true rfl, aa_nil ⟨Nat.le_of_ble_eq_true rfl, ?_⟩⟩⟩⟩
          have hh := h ⟨adrop wb p, "ok", .non, [ev "gone" p, ev "kids" (pathS ps.dropLast)]⟩ (hu'.drop hroot) (Nat.le_refl _)
          refine phi_eq hh ?_
          show D.tup [.dct (ddrop (webD wb) p), _, _] = _
          rw [show ddrop (webD wb) p = webD (adrop wb p) from ddrop_map]
          rfl
      refine rr_ifS (tt_bool <| tw_and <| tt_cmp op_notN rd_notN <| ee_v (i := 4) rfl <| ee_n ⟨rfl, isNon (cntD d.cnt), rfl, _, rfl, fun ek => ?_, fun ek => brF (rr_nil rfl)⟩) tail
      have ek2 : ∃ k, d.cnt = some k := by
        cases ec : d.cnt with
        | none => rw [ec] at ek; cases ek
        | some k => exact ⟨k, rfl⟩
      obtain ⟨k, ec⟩ := ek2
      rw [ec]
      refine tw_and1 <| tt_cmp op_ne rd_neS <| ee_v (i := 4) rfl <| ee_ixT <| ee_v (i := 5) rfl <| ee_i ⟨.int m.count, rfl, teq (x := .int k) rfl <| brN (fun hc => ?_) fun hc => rr_nil rfl⟩
      exact rr_ret <| ee_tup <| aa_cons <| ee_v (i := 0) rfl <| aa_cons <| ee_tup <| aa_cons <| ee_s <| aa_cons <| ee_s <| aa_nil ⟨Nat.le_of_ble_eq_true rfl, aa_cons <| ee_lst <| aa_nil ⟨Nat.zero_le _, aa_nil ⟨Nat.le_of_ble_eq_true rfl, hno _⟩⟩⟩
/-! ### left -/
abbrev qLeft : Stmt := topS 73
def dLeft : Con := fun as Φ => ∃ B wb who, as = [.dct (webD wb), .str who] ∧ LwOk B wb ∧ ∀ (wf : Web) (es : List D), LwOk B wf → Φ (.tup [.dct (webD wf), .lst es])
abbrev nzLeft : List Str := ["_law_web", "_law_who", "_law_found", "_law_events", "_law_road"]
theorem zcLeft : FnScope nzLeft ["_law_web", "_law_who"] (defScope qLeft) := ⟨rfl, rfl, rfl, by decide +kernel, rfl, by decide +kernel, by decide +kernel⟩
theorem qk_left (F : Fun K "_law_left" "_law_left" qLeft f fd) (T : Glb K mg) (W : Fn P w K mg base 1 "_law_above" ["_law_road"] dAbove) : FnOk P w K mg base CX0 2 f fd ["_law_web", "_law_who"] (spF K dLeft) := by
  refine fn_ok F zcLeft (fun ds Φ ⟨_, _, _, e, _⟩ => by rw [e]; rfl) fun cdv A outer s H E ds Φ hr c => ?_
  obtain ⟨B, wb, who, rfl, hw, h⟩ := c
  have nd := zcLeft.nd
  have hu := Room.u1 hr
  have hl : (webD wb).length = wb.length := amap_len
  have h60 := hw.web.len
  have hkl : (sortK (wb.map (·.1))).length = wb.length := by rw [sortK_len, List.length_map]
  have hin : ∀ k ∈ sortK (wb.map (·.1)), k ∈ wb.map (·.1) := fun k m => (sortK_perm _).mem_iff.mp m
  have hnd : (sortK (wb.map (·.1))).Nodup := (sortK_perm _).nodup_iff.mpr hw.web.nd
  refine rr_copyD (i := 2) nd T.zDict <| ee_v (i := 0) rfl ⟨_, rfl, ?_⟩
  refine rr_set (i := 3) nd <| ee_lst <| aa_nil ⟨Nat.zero_le _, ?_⟩
  refine rr_for <| ii_list <| ee_sortD rfl T.zSorted <| ee_v (i := 0) rfl ⟨_, rfl, by omega, _, rfl, ?_⟩
  rw [keys_map]
  have hdl : (dstrs (sortK (wb.map (·.1)))).length = wb.length := by rw [dstrs_len, hkl]
  refine ⟨fun i ρ' => ∃ (wf : Web) (es : List D) (s4 : Sl), ρ' = [.va (.dct (webD wb)), .va (.str who), .owd (webD wf), .va (.lst es), s4] ∧ LwOk B wf ∧ es.length ≤ 2 * i ∧ ∀ j (hj : j < (sortK (wb.map (·.1))).length), i ≤ j → (sortK (wb.map (·.1)))[j] ∈ wf.map (·.1),
    ⟨wb, [], .un, rfl, hw, Nat.zero_le _, fun j hj _ => hin _ (List.getElem_mem hj)⟩, ?_, ?_⟩
  · rintro i ρ' hi ⟨wf, es, s4, rfl, hwf, hes, hk⟩
    have hi' : i < (sortK (wb.map (·.1))).length := by omega
    have ed := at_dstrs hi'
    show GG _ _ ((dstrs (sortK (wb.map (·.1)))).getD i .non) _ _
    rw [ed]
    refine gg_name (i := 4) nd ?_
    have hmem := hin _ (List.getElem_mem hi')
    have hkey := hk i hi' (Nat.le_refl _)
    have hnext : ∀ j (hj : j < (sortK (wb.map (·.1))).length), i + 1 ≤ j → (sortK (wb.map (·.1)))[j] ≠ (sortK (wb.map (·.1)))[i] := fun j hj hij z => by
      have := (List.getElem_inj (h₀ := hj) (h₁ := hi') hnd).mp z
      omega
    generalize (sortK (wb.map (·.1)))[i] = road at hmem hkey hnext ⊢
    obtain ⟨n, en⟩ := aget_some_of hmem
    obtain ⟨ps, rfl, hps⟩ := hw.web.mem hmem
    refine rr_if <| tt_cmp op_eq rd_eqS <| ee_ixT <| ee_ixD hu <| ee_v (i := 0) rfl <| ee_v (i := 4) rfl ⟨_, dget_webS en, ee_i ⟨ownD n.own, rfl, ee_v (i := 1) rfl <| teq (eqS_own _ _) <| brD (fun hc => ?_) fun hc => rr_nil <| rr_nil ?_⟩⟩
    · have hroot : pathS ps ≠ "/" := fun z => by
        obtain ⟨r, er, eo⟩ := hw.root
        rw [← z, en] at er
        cases er
        rw [eo] at hc
        cases hc
      refine rr_pop (i := 2) rfl <| ee_v (i := 4) rfl ⟨_, rfl, dget_some hkey, ?_⟩
      refine rr_set (i := 3) nd <| ee_addl <| ee_v (i := 3) rfl <| ee_lst <| aa_cons <| ee_tup <| aa_cons <| ee_s <| aa_cons <| ee_v (i := 4) rfl <| aa_nil ⟨Nat.le_of_ble_eq_true rfl, ?_⟩
      refine aa_cons <| ee_tup <| aa_cons <| ee_s <| aa_cons <| ee_call W hr (by decide) <| aa_cons <| ee_v (i := 4) rfl <| aa_nil ⟨ps, rfl, hps, aa_nil ⟨Nat.le_of_ble_eq_true rfl, aa_nil ⟨Nat.le_of_ble_eq_true rfl, sz1000 (by show _ + 2 ≤ _; omega), rr_nil <| rr_nil ?_⟩⟩⟩
      have e3 : ddrop (webD wf) (pathS ps) = webD (adrop wf (pathS ps)) := ddrop_map
      rw [e3]
      refine ⟨adrop wf (pathS ps), es ++ [.tup [.str "gone", .str (pathS ps)], .tup [.str "kids", .str (pathS ps.dropLast)]], .va (.str (pathS ps)), rfl, hwf.drop hroot, ?_, fun j hj hij => ?_⟩
      · rw [List.length_append]
        show _ + 2 ≤ _
        omega
      · have h1 := hk j hj (by omega)
        have h2 := hnext j hj hij
        rw [drop_keys]
        exact List.mem_filter.mpr ⟨h1, by simpa using h2⟩
    · exact ⟨wf, es, _, rfl, hwf, by omega, fun j hj hij => hk j hj (by omega)⟩
  · rintro ρ' ⟨wf, es, s4, rfl, hwf, hes, hk⟩
    exact rr_tellD (i := 2) rfl <| rr_ret <| ee_tup <| aa_cons <| ee_v (i := 2) rfl <| aa_cons <| ee_v (i := 3) rfl <| aa_nil ⟨Nat.le_of_ble_eq_true rfl, h wf es hwf⟩
/-! ### all_done -/
abbrev qAllDone : Stmt := topS 74
def dAllDone : Con := fun as Φ => ∃ (B : Int) (wb : Web) (ds : List Dd) (who : Str), as = [.dct (webD wb), .tup (ds.map Dd.d), .str who] ∧ LwOk B wb ∧ B + 6 ≤ 300 ∧ ds.length ≤ 6 ∧ (∀ d ∈ ds, Dd.Ok d) ∧ ∀ (wf : Web) (a es : List D), LwOk (B + 6) wf → Φ (.tup [.dct (webD wf), .tup a, .lst es])
abbrev nzAllDone : List Str := ["_law_web", "_law_tasks", "_law_who", "_law_found", "_law_worths", "_law_events", "_law_at", "_law_task_here", "_law_answer", "_law_more"]
theorem zcAllDone : FnScope nzAllDone ["_law_web", "_law_tasks", "_law_who"] (defScope qAllDone) := ⟨rfl, rfl, rfl, by decide +kernel, rfl, by decide +kernel, by decide +kernel⟩
theorem qk_allDone (F : Fun K "_law_all_done" "_law_all_done" qAllDone f fd) (T : Glb K mg) (PL : Fn P w K mg base 3 "_law_plainly" ["_law_web", "_law_task_here", "_law_who"] dPlainly) : FnOk P w K mg base CX0 4 f fd ["_law_web", "_law_tasks", "_law_who"] (spF K dAllDone) := by
  refine fn_ok F zcAllDone (fun ds Φ ⟨_, _, _, _, e, _⟩ => by rw [e]; rfl) fun cdv A outer s H E ds Φ hr c => ?_
  obtain ⟨B, wb, ds, who, rfl, hw, hB, hl, hd, h⟩ := c
  have nd := zcAllDone.nd
  have hlen : (ds.map Dd.d).length = ds.length := List.length_map ..
  refine rr_set (i := 3) nd <| ee_v (i := 0) rfl ?_
  refine rr_newL (i := 4) nd (fun _ _ => True.intro) ?_
  refine rr_set (i := 5) nd <| ee_lst <| aa_nil ⟨Nat.zero_le _, ?_⟩
  refine rr_for <| ii_enumT T.zEnum <| ee_v (i := 1) rfl ⟨_, rfl, fun i ρ' => ∃ (wf : Web) (vs es : List D) (s6 s7 s8 s9 : Sl), ρ' = [.va (.dct (webD wb)), .va (.tup (ds.map Dd.d)), .va (.str who), .va (.dct (webD wf)), .owl vs, .va (.lst es), s6, s7, s8, s9] ∧
    LwOk (B + i) wf ∧ vs.length = i ∧ es.length ≤ 2 * i, ⟨wb, [], [], .un, .un, .un, .un, rfl, by simpa using hw, rfl, Nat.zero_le _⟩, ?_, ?_⟩
  · rintro i ρ' hi ⟨wf, vs, es, s6, s7, s8, s9, rfl, hwf, hv, hes⟩
    have hi' : i < ds.length := by rw [← hlen]; exact hi
    have ed := at_dds hi'
    refine gg_tup (ggs_cons <| gg_name (i := 6) nd <| ggs_cons <| gg_name (i := 7) nd <| ggs_nil ?_) rfl
    refine rr_asg <| ee_call PL hr (by decide) <| aa_cons <| ee_v (i := 3) rfl <| aa_cons <| ee_v (i := 7) (d := ds[i].d) (by show some (Sl.va ((ds.map Dd.d).getD i .non)) = _; rw [ed]) <| aa_cons <| ee_v (i := 2) rfl <| aa_nil ⟨B + i, wf, who, ds[i], rfl, hwf, by omega, hd _ (List.getElem_mem hi'), fun oo hoo hfew => ?_⟩
    refine gg_tup (ggs_cons <| gg_name (i := 3) nd <| ggs_cons <| gg_name (i := 8) nd <| ggs_cons <| gg_name (i := 9) nd <| ggs_nil ?_) rfl
    refine rr_if <| tt_cmp op_eq rd_eqS <| ee_ixT <| ee_v (i := 8) rfl <| ee_i ⟨.str oo.word, rfl, ee_s <| teq rfl <| brD (fun hc => ?_) fun hc => rr_nil ?_⟩
    · refine rr_ret <| ee_tup <| aa_cons <| ee_v (i := 0) rfl <| aa_cons <| ee_addu <| ee_v (i := 8) rfl <| ee_tup <| aa_cons <| ee_v (i := 6) rfl <| aa_nil ⟨Nat.le_of_ble_eq_true rfl, sz1000 (Nat.le_of_ble_eq_true rfl), aa_cons <| ee_lst <| aa_nil ⟨Nat.zero_le _, aa_nil ⟨Nat.le_of_ble_eq_true rfl, h wb _ _ (hw.up (by omega))⟩⟩⟩
    · refine rr_append (i := 4) rfl (by omega) <| ee_ixT <| ee_v (i := 8) rfl <| ee_i ⟨oo.val, rfl, ?_⟩
      refine rr_set (i := 5) nd <| ee_addl <| ee_v (i := 5) rfl <| ee_v (i := 9) rfl ⟨sz1000 (by omega), rr_nil ?_⟩
      refine ⟨oo.web, vs ++ [oo.val], es ++ oo.evs, _, _, _, _, rfl, ?_, ?_, ?_⟩
      · have := hoo
        rw [Int.add_assoc] at this
        exact this
      · rw [List.length_append, hv]; rfl
      · rw [List.length_append]
        omega
  · rintro ρ' ⟨wf, vs, es, s6, s7, s8, s9, rfl, hwf, hv, hes⟩
    refine rr_tellL (i := 4) rfl <| rr_ret <| ee_tup <| aa_cons <| ee_v (i := 3) rfl <| aa_cons <| ee_tup <| aa_cons <| ee_s <| aa_cons <| ee_ct call_tuple_of rdc_tup T.zTup bt_tup <| aa_cons <| ee_v (i := 4) rfl <| aa_nil ?_
    exact aa_nil ⟨Nat.le_of_ble_eq_true rfl, aa_cons <| ee_v (i := 5) rfl <| aa_nil ⟨Nat.le_of_ble_eq_true rfl, h wf _ _ (hwf.up (by omega))⟩⟩
end
end Lg
namespace Lg
open PySem PySem.Spec PyProof.Rows L2 TL
section
variable {P : Program} {w : World} {K : PySem.W.Frag} {mg : Str → Option Value} {base : Heap} {f : Addr} {fd : FuncData}
/-! ### does -/
abbrev qDoes : Stmt := topS 75
def dDoes : Con := fun as Φ => ∃ (B : Int) (wb : Web) (lim : Option Int) (d : De) (who : Str), as = [.dct (webD wb), limD lim, d.d, .str who] ∧ LwOk B wb ∧ B + 6 ≤ 300 ∧ d.Ok ∧ ∀ (wf : Web) (l : Option Int) (a : D) (es : List D), LwOk (B + 6) wf → Φ (.tup [.dct (webD wf), limD l, a, .lst es])
abbrev nzDoes : List Str := ["_law_web", "_law_limit", "_law_task_here", "_law_who", "_law_word_here", "_law_found", "_law_events", "_law_answer"]
theorem zcDoes : FnScope nzDoes ["_law_web", "_law_limit", "_law_task_here", "_law_who"] (defScope qDoes) := ⟨rfl, rfl, rfl, by decide +kernel, rfl, by decide +kernel, by decide +kernel⟩
theorem isNon_lim (o : Option Int) : isNon (limD o) = decide (o = none) := by cases o <;> rfl
theorem qk_does (F : Fun K "_law_does" "_law_does" qDoes f fd) (T : Glb K mg) (LE : Fn P w K mg base 2 "_law_left" ["_law_web", "_law_who"] dLeft) (AD : Fn P w K mg base 4 "_law_all_done" ["_law_web", "_law_tasks", "_law_who"] dAllDone) (PL : Fn P w K mg base 3 "_law_plainly" ["_law_web", "_law_task_here", "_law_who"] dPlainly) : FnOk P w K mg base CX0 5 f fd ["_law_web", "_law_limit", "_law_task_here", "_law_who"] (spF K dDoes) := by
  refine fn_ok F zcDoes (fun ds Φ ⟨_, _, _, _, _, e, _⟩ => by rw [e]; rfl) fun cdv A outer s H E ds Φ hr c => ?_
  obtain ⟨B, wb, lim, d, who, rfl, hw, hB, hd, h⟩ := c
  have nd := zcDoes.nd
  have hu' : LwOk (B + 6) wb := hw.up (by omega)
  obtain ⟨xs, ex⟩ := d.at0
  refine rr_set (i := 4) nd <| ee_ixT <| ee_v (i := 2) (d := .tup (.str d.word :: xs)) (by show some (Sl.va d.d) = _; rw [ex]) <| ee_i ⟨_, at0 _ _, ?_⟩
  by_cases ho : d.word = "open"
  · obtain ⟨n, rfl⟩ : ∃ n, d = .opn n := by
      cases d with
      | opn n => exact ⟨n, rfl⟩
      | one d => exact absurd ho (word_ne d _ ⟨by decide +kernel, by decide +kernel, by decide +kernel, by decide +kernel⟩)
      | all => exact absurd ho (show ("all" : Str) ≠ "open" by decide +kernel)
      | close => exact absurd ho (show ("close" : Str) ≠ "open" by decide +kernel)
      | bring => exact absurd ho (show ("bring" : Str) ≠ "open" by decide +kernel)
    cases lim with
    | some l =>
      refine rr_if <| tt_bool <| tw_and <| tt_cmp op_eq rd_eqS <| ee_v (i := 4) rfl <| ee_s <| teq (eqS_T ho) <| brT <| tw_and1 <| tt_cmp op_notN rd_notN <| ee_v (i := 1) rfl <| ee_n ⟨rfl, false, rfl, _, rfl, brT ?_⟩
      exact rr_ret <| ee_tup <| aa_cons <| ee_v (i := 0) rfl <| aa_cons <| ee_v (i := 1) rfl <| aa_cons <| ee_tup <| aa_cons <| ee_s <| aa_cons <| ee_s <| aa_nil ⟨Nat.le_of_ble_eq_true rfl, aa_cons <| ee_lst <| aa_nil ⟨Nat.zero_le _, aa_nil ⟨Nat.le_of_ble_eq_true rfl, h wb (some l) _ _ hu'⟩⟩⟩
    | none =>
      refine rr_if <| tt_bool <| tw_and <| tt_cmp op_eq rd_eqS <| ee_v (i := 4) rfl <| ee_s <| teq (eqS_T ho) <| brT <| tw_and1 <| tt_cmp op_notN rd_notN <| ee_v (i := 1) rfl <| ee_n ⟨rfl, true, rfl, _, rfl, brF <| rr_nil ?_⟩
      refine rr_if <| tt_cmp op_eq rd_eqS <| ee_v (i := 4) rfl <| ee_s <| teq (eqS_T ho) <| brT ?_
      exact rr_ret <| ee_tup <| aa_cons <| ee_v (i := 0) rfl <| aa_cons <| ee_ixT <| ee_v (i := 2) rfl <| ee_i ⟨.int n, rfl, aa_cons <| ee_tup <| aa_cons <| ee_s <| aa_cons <| ee_n <| aa_nil ⟨Nat.le_of_ble_eq_true rfl, aa_cons <| ee_lst <| aa_nil ⟨Nat.zero_le _, aa_nil ⟨Nat.le_of_ble_eq_true rfl, h wb (some n) _ _ hu'⟩⟩⟩⟩
  · refine rr_if <| tt_bool <| tw_and <| tt_cmp op_eq rd_eqS <| ee_v (i := 4) rfl <| ee_s <| teq (eqS_F ho) <| brF <| brF <| rr_nil ?_
    refine rr_if <| tt_cmp op_eq rd_eqS <| ee_v (i := 4) rfl <| ee_s <| teq (eqS_F ho) <| brF <| rr_nil ?_
    cases lim with
    | none =>
      refine rr_if <| tt_cmp op_isN rd_isN <| ee_v (i := 1) rfl <| ee_n ⟨rfl, true, rfl, _, rfl, brT ?_⟩
      exact rr_ret <| ee_tup <| aa_cons <| ee_v (i := 0) rfl <| aa_cons <| ee_n <| aa_cons <| ee_tup <| aa_cons <| ee_s <| aa_cons <| ee_s <| aa_nil ⟨Nat.le_of_ble_eq_true rfl, aa_cons <| ee_lst <| aa_nil ⟨Nat.zero_le _, aa_nil ⟨Nat.le_of_ble_eq_true rfl, h wb none _ _ hu'⟩⟩⟩
    | some l =>
      refine rr_if <| tt_cmp op_isN rd_isN <| ee_v (i := 1) rfl <| ee_n ⟨rfl, false, rfl, _, rfl, brF <| rr_nil ?_⟩
      cases d with
      | opn n => exact absurd rfl ho
      | close =>
        refine rr_if <| tt_cmp op_eq rd_eqS <| ee_v (i := 4) rfl <| ee_s <| teq (eqS_T rfl) <| brT ?_
        refine rr_asg <| ee_call LE hr (by decide) <| aa_cons <| ee_v (i := 0) rfl <| aa_cons <| ee_v (i := 3) rfl <| aa_nil ⟨B, wb, who, rfl, hw, fun wf es hwf => ?_⟩
        refine gg_tup (ggs_cons <| gg_name (i := 5) nd <| ggs_cons <| gg_name (i := 6) nd <| ggs_nil ?_) rfl
        exact rr_ret <| ee_tup <| aa_cons <| ee_v (i := 5) rfl <| aa_cons <| ee_n <| aa_cons <| ee_tup <| aa_cons <| ee_s <| aa_cons <| ee_n <| aa_nil ⟨Nat.le_of_ble_eq_true rfl, aa_cons <| ee_v (i := 6) rfl <| aa_nil ⟨Nat.le_of_ble_eq_true rfl, h wf none _ _ (hwf.up (by omega))⟩⟩
      | bring =>
        refine rr_if <| tt_cmp op_eq rd_eqS <| ee_v (i := 4) rfl <| ee_s <| teq (eqS_F (show ("bring" : Str) ≠ "close" by decide +kernel)) <| brF <| rr_nil ?_
        refine rr_if <| tt_cmp op_eq rd_eqS <| ee_v (i := 4) rfl <| ee_s <| teq (eqS_T rfl) <| brT ?_
        exact rr_ret <| ee_tup <| aa_cons <| ee_v (i := 0) rfl <| aa_cons <| ee_v (i := 1) rfl <| aa_cons <| ee_tup <| aa_cons <| ee_s <| aa_cons <| ee_n <| aa_nil ⟨Nat.le_of_ble_eq_true rfl, aa_cons <| ee_lst <| aa_nil ⟨Nat.zero_le _, aa_nil ⟨Nat.le_of_ble_eq_true rfl, h wb (some l) _ _ hu'⟩⟩⟩
      | all es =>
        refine rr_if <| tt_cmp op_eq rd_eqS <| ee_v (i := 4) rfl <| ee_s <| teq (eqS_F (show ("all" : Str) ≠ "close" by decide +kernel)) <| brF <| rr_nil ?_
        refine rr_if <| tt_cmp op_eq rd_eqS <| ee_v (i := 4) rfl <| ee_s <| teq (eqS_F (show ("all" : Str) ≠ "bring" by decide +kernel)) <| brF <| rr_nil ?_
        refine rr_if <| tt_cmp op_eq rd_eqS <| ee_v (i := 4) rfl <| ee_s <| teq (eqS_T rfl) <| brT ?_
        refine rr_asg <| ee_call AD hr (by decide) <| aa_cons <| ee_v (i := 0) rfl <| aa_cons <| ee_ixT <| ee_v (i := 2) rfl <| ee_i ⟨.tup (es.map Dd.d), rfl, aa_cons <| ee_v (i := 3) rfl <| aa_nil ⟨B, wb, es, who, rfl, hw, hB, hd.2.1, hd.2.2, fun wf a evs hwf => ?_⟩⟩
        refine gg_tup (ggs_cons <| gg_name (i := 5) nd <| ggs_cons <| gg_name (i := 7) nd <| ggs_cons <| gg_name (i := 6) nd <| ggs_nil ?_) rfl
        exact rr_ret <| ee_tup <| aa_cons <| ee_v (i := 5) rfl <| aa_cons <| ee_v (i := 1) rfl <| aa_cons <| ee_v (i := 7) rfl <| aa_cons <| ee_v (i := 6) rfl <| aa_nil ⟨Nat.le_of_ble_eq_true rfl, h wf (some l) _ _ hwf⟩
      | one d =>
        refine rr_if <| tt_cmp op_eq rd_eqS <| ee_v (i := 4) rfl <| ee_s <| teq (eqS_F (word_ne d _ ⟨by decide +kernel, by decide +kernel, by decide +kernel, by decide +kernel⟩)) <| brF <| rr_nil ?_
        refine rr_if <| tt_cmp op_eq rd_eqS <| ee_v (i := 4) rfl <| ee_s <| teq (eqS_F (word_ne d _ ⟨by decide +kernel, by decide +kernel, by decide +kernel, by decide +kernel⟩)) <| brF <| rr_nil ?_
        refine rr_if <| tt_cmp op_eq rd_eqS <| ee_v (i := 4) rfl <| ee_s <| teq (eqS_F (word_ne d _ ⟨by decide +kernel, by decide +kernel, by decide +kernel, by decide +kernel⟩)) <| brF <| rr_nil ?_
        refine rr_asg <| ee_call PL hr (by decide) <| aa_cons <| ee_v (i := 0) rfl <| aa_cons <| ee_v (i := 2) rfl <| aa_cons <| ee_v (i := 3) rfl <| aa_nil ⟨B, wb, who, d, rfl, hw, by omega, hd, fun o ho hfew => ?_⟩
        refine gg_tup (ggs_cons <| gg_name (i := 5) nd <| ggs_cons <| gg_name (i := 7) nd <| ggs_cons <| gg_name (i := 6) nd <| ggs_nil ?_) rfl
        exact rr_ret <| ee_tup <| aa_cons <| ee_v (i := 5) rfl <| aa_cons <| ee_v (i := 1) rfl <| aa_cons <| ee_v (i := 7) rfl <| aa_cons <| ee_v (i := 6) rfl <| aa_nil ⟨Nat.le_of_ble_eq_true rfl, h o.web (some l) _ _ (ho.up (by omega))⟩
/-! ### due -/
abbrev qDue : Stmt := topS 76
structure LsOk (B : Int) (s : Sta) : Prop where
  web : LwOk B s.1
  len : (s.2.length : Int) ≤ B
def dDue : Con := fun as Φ => ∃ (B : Int) (s : Sta) (e : En) (p : Int × Int), as = [staD s, e.d, plcD p] ∧ LsOk B s ∧ B + 6 ≤ 300 ∧ e.Ok ∧ ∀ (s' : Sta) (a : D) (es : List D), LsOk (B + 6) s' → Φ (.tup [staD s', a, .lst es])
abbrev nzDue : List Str := ["_law_kept", "_law_line_here", "_law_spot", "_law_web", "_law_rows", "_law_who", "_law_limit", "_law_last", "_law_elder", "_law_where", "_law_later", "_law_found", "_law_events", "_law_answer"]
theorem zcDue : FnScope nzDue ["_law_kept", "_law_line_here", "_law_spot"] (defScope qDue) := ⟨rfl, rfl, rfl, by decide +kernel, rfl, by decide +kernel, by decide +kernel⟩
theorem LsOk.up {B C : Int} {s : Sta} (h : LsOk B s) (l : B ≤ C) : LsOk C s := ⟨h.web.up l, Int.le_trans h.len l⟩
theorem LsOk.put {B : Int} {s : Sta} {wf : Web} {k : Str} {e : Se} (h : LsOk B s) (hw : LwOk (B + 6) wf) : LsOk (B + 6) (wf, aput s.2 k e) := by
  refine ⟨hw, ?_⟩
  have := put_len (l := s.2) (k := k) (v := e)
  have := h.len
  show ((aput s.2 k e).length : Int) ≤ B + 6
  omega
theorem qk_due (F : Fun K "_law_due" "_law_due" qDue f fd) (T : Glb K mg) (LE : Fn P w K mg base 2 "_law_left" ["_law_web", "_law_who"] dLeft) (DO : Fn P w K mg base 5 "_law_does" ["_law_web", "_law_limit", "_law_task_here", "_law_who"] dDoes) : FnOk P w K mg base CX0 6 f fd ["_law_kept", "_law_line_here", "_law_spot"] (spF K dDue) := by
  refine fn_ok F zcDue (fun ds Φ ⟨_, _, _, _, e, _⟩ => by rw [e]; rfl) fun cdv A outer s H E ds Φ hr c => ?_
  obtain ⟨B, st, e, p, rfl, hst, hB, he, h⟩ := c
  have nd := zcDue.nd
  have hu := Room.u1 hr
  have hl : (sessD st.2).length = st.2.length := amap_len
  have hl2 := hst.len
  have hst' : LsOk (B + 6) st := hst.up (by omega)
  obtain ⟨who, hwho⟩ : ∃ who, who = (match e with | .fin w => w | .ask w _ _ => w) := ⟨_, rfl⟩
  refine rr_asg <| ee_v (i := 0) rfl ?_
  refine gg_tup (ggs_cons <| gg_name (i := 3) nd <| ggs_cons <| gg_name (i := 4) nd <| ggs_nil ?_) rfl
  refine rr_set (i := 5) nd <| ee_ixT <| ee_v (i := 1) (d := e.d) rfl ?_
  have e1 : ∃ ds, e.d = .tup ds ∧ atI ds 1 = some (.str who) := by
    cases e with
    | fin w => exact ⟨_, rfl, by rw [hwho]; rfl⟩
    | ask w n d => exact ⟨_, rfl, by rw [hwho]; rfl⟩
  obtain ⟨eds, ee1, ee2⟩ := e1
  have step1 : ∀ Φ : D → Prop, Φ (.str who) → AtT e.d (.int 1) Φ := fun Φ hΦ => by rw [ee1]; exact ⟨_, ee2, hΦ⟩
  refine ee_i (step1 _ ?_)
  refine rr_asg <| ee_get2 hu <| ee_v (i := 4) rfl ⟨_, rfl, ee_v (i := 5) rfl <| ee_tup <| aa_cons <| ee_n <| aa_cons <| ee_i <| aa_cons <| ee_n <| aa_cons <| ee_tup <| aa_cons <| ee_i <| aa_cons <| ee_i <| aa_nil ⟨Nat.le_of_ble_eq_true rfl, aa_nil ⟨Nat.le_of_ble_eq_true rfl, _, rfl, ?_⟩⟩⟩
  rw [get_never]
  generalize (aget st.2 who).getD neverM = se
  refine gg_tup (ggs_cons <| gg_name (i := 6) nd <| ggs_cons <| gg_name (i := 7) nd <| ggs_cons <| gg_name (i := 8) nd <| ggs_cons <| gg_name (i := 9) nd <| ggs_nil ?_) rfl
  refine rr_copyD (i := 10) nd T.zDict <| ee_v (i := 4) rfl ⟨_, rfl, ?_⟩
  refine rr_at [.va (staD st), .va e.d, .va (plcD p), .va (.dct (webD st.1)), .va (.dct (sessD st.2)), .va (.str who), .va (limD se.limit), .va (.int se.stamp), .va se.ans, .va (plcD se.place), .owd (sessD st.2), .un, .un, .un] rfl ?_
  cases e with
  | fin w =>
    refine rr_if <| tt_cmp op_eq rd_eqS <| ee_ixT <| ee_v (i := 1) rfl <| ee_i ⟨.str "end", rfl, ee_s <| teq (eqS_T rfl) <| brT ?_⟩
    refine rr_if <| tt_cmp op_isN rd_isN <| ee_v (i := 6) rfl <| ee_n ⟨rfl, _, rfl, _, rfl, fun _ => ?_, fun _ => rr_nil ?_⟩
    · exact rr_ret <| ee_tup <| aa_cons <| ee_v (i := 0) rfl <| aa_cons <| ee_n <| aa_cons <| ee_lst <| aa_nil ⟨Nat.zero_le _, aa_nil ⟨Nat.le_of_ble_eq_true rfl, h st _ _ hst'⟩⟩
    · refine rr_asg <| ee_call LE hr (by decide) <| aa_cons <| ee_v (i := 3) rfl <| aa_cons <| ee_v (i := 5) rfl <| aa_nil ⟨B, st.1, who, rfl, hst.web, fun wf es hwf => ?_⟩
      refine gg_tup (ggs_cons <| gg_name (i := 11) nd <| ggs_cons <| gg_name (i := 12) nd <| ggs_nil ?_) rfl
      refine rr_put (i := 10) hu rfl (by omega) <| ee_tup <| aa_cons <| ee_n <| aa_cons <| ee_v (i := 7) rfl <| aa_cons <| ee_v (i := 8) rfl <| aa_cons <| ee_v (i := 9) rfl <| aa_nil ⟨Nat.le_of_ble_eq_true rfl, ee_v (i := 5) rfl ⟨_, rfl, ?_⟩⟩
      refine rr_tellD (i := 10) rfl <| rr_ret <| ee_tup <| aa_cons <| ee_tup <| aa_cons <| ee_v (i := 11) rfl <| aa_cons <| ee_v (i := 10) rfl <| aa_nil ⟨Nat.le_of_ble_eq_true rfl, aa_cons <| ee_n <| aa_cons <| ee_v (i := 12) rfl <| aa_nil ⟨Nat.le_of_ble_eq_true rfl, ?_⟩⟩
      have hh := h (wf, aput st.2 who ⟨none, se.stamp, se.ans, se.place⟩) .non es (hst.put (hwf.up (by omega)))
      refine phi_eq hh ?_
      unfold staD
      dsimp only
      rw [← dput_sess]
      rfl
  | ask w n d =>
    refine rr_if <| tt_cmp op_eq rd_eqS <| ee_ixT <| ee_v (i := 1) rfl <| ee_i ⟨.str "ask", rfl, ee_s <| teq (eqS_F (show ("ask" : Str) ≠ "end" by decide +kernel)) <| brF <| rr_nil ?_⟩
    refine rr_if <| tt_cmp op_le rd_B0 <| ee_ixT <| ee_v (i := 1) rfl <| ee_i ⟨.int n, rfl, ee_v (i := 7) rfl ⟨_, rfl, brD (fun hc => ?_) fun hc => rr_nil ?_⟩⟩
    · refine rr_ret <| ee_tup <| aa_cons <| ee_v (i := 0) rfl <| aa_cons <| ee_ixL <| ee_lst <| aa_cons <| ee_n <| aa_cons <| ee_v (i := 8) rfl <| aa_nil ⟨Nat.le_of_ble_eq_true rfl, ee_ct call_int1 rdc_int T.zInt bt_int <| aa_cons <| ee_cmp op_eq rd_eqS <| ee_ixT <| ee_v (i := 1) rfl <| ee_i ⟨.int n, rfl, ee_v (i := 7) rfl ⟨_, rfl, aa_nil ?_⟩⟩⟩
      show IntR [.bl (decide (n = se.stamp))] _
      generalize decide (n = se.stamp) = b
      have : ∃ x : D, atI [D.non, se.ans] (if b = true then 1 else 0) = some x := by cases b <;> exact ⟨_, rfl⟩
      obtain ⟨x, ex⟩ := this
      exact ⟨x, ex, aa_cons <| ee_lst <| aa_nil ⟨Nat.zero_le _, aa_nil ⟨Nat.le_of_ble_eq_true rfl, h st _ _ hst'⟩⟩⟩
    · refine rr_asg <| ee_call DO hr (by decide) <| aa_cons <| ee_v (i := 3) rfl <| aa_cons <| ee_v (i := 6) rfl <| aa_cons <| ee_ixT <| ee_v (i := 1) rfl <| ee_i ⟨d.d, rfl, aa_cons <| ee_v (i := 5) rfl <| aa_nil ⟨B, st.1, se.limit, d, who, rfl, hst.web, hB, he.2.2, fun wf l a es hwf => ?_⟩⟩
      refine gg_tup (ggs_cons <| gg_name (i := 11) nd <| ggs_cons <| gg_name (i := 6) nd <| ggs_cons <| gg_name (i := 13) nd <| ggs_cons <| gg_name (i := 12) nd <| ggs_nil ?_) rfl
      refine rr_put (i := 10) hu rfl (by omega) <| ee_tup <| aa_cons <| ee_v (i := 6) rfl <| aa_cons <| ee_ixT <| ee_v (i := 1) rfl <| ee_i ⟨.int n, rfl, aa_cons <| ee_v (i := 13) rfl <| aa_cons <| ee_v (i := 2) rfl <| aa_nil ⟨Nat.le_of_ble_eq_true rfl, ee_v (i := 5) rfl ⟨_, rfl, ?_⟩⟩⟩
      refine rr_tellD (i := 10) rfl <| rr_ret <| ee_tup <| aa_cons <| ee_tup <| aa_cons <| ee_v (i := 11) rfl <| aa_cons <| ee_v (i := 10) rfl <| aa_nil ⟨Nat.le_of_ble_eq_true rfl, aa_cons <| ee_v (i := 13) rfl <| aa_cons <| ee_v (i := 12) rfl <| aa_nil ⟨Nat.le_of_ble_eq_true rfl, ?_⟩⟩
      have hh := h (wf, aput st.2 who ⟨l, n, a, p⟩) a es (hst.put hwf)
      refine phi_eq hh ?_
      unfold staD
      dsimp only
      rw [← dput_sess]
      rfl
end
end Lg
namespace Lg
open PySem PySem.Spec PyProof.Rows L2 TL
def whoOf : En → Str
  | .fin w => w
  | .ask w _ _ => w
theorem word2 (z : Str) (h : z = "xa" ∨ z = "yb" ∨ z = "zz") : WordOk z ∧ z ≠ "qqq" := by
  have key : ∀ y : Str, y.length = 2 → (∀ c ∈ y.cps.toList, c ∈ lettersL) → WordOk y := fun y e k => ⟨by omega, by omega, k⟩
  rcases h with rfl | rfl | rfl
  · exact ⟨key _ (by decide +kernel) (by decide +kernel), by decide +kernel⟩
  · exact ⟨key _ (by decide +kernel) (by decide +kernel), by decide +kernel⟩
  · exact ⟨key _ (by decide +kernel) (by decide +kernel), by decide +kernel⟩
theorem get_lim (s : Sess) (z : Str) : ∃ l n xs, (dget (sessD s) z).getD (.tup [.non, .int 0]) = .tup (limD l :: .int n :: xs) := by
  rw [dget_map]
  cases aget s z with
  | none => exact ⟨none, 0, [], rfl⟩
  | some v => exact ⟨v.limit, v.stamp, _, rfl⟩
theorem plcs_app (r q : Row) {j : Nat} (h : j ≤ r.length) : (plcs (r ++ q)).getD j (0, 0) = (plcs r).getD j (0, 0) := by
  unfold plcs
  rw [List.map_append, ← List.cons_append, List.getD_eq_getElem?_getD, List.getD_eq_getElem?_getD, List.getElem?_append_left]
  rw [List.length_cons, List.length_map]
  omega
theorem RowOk.snoc {r : Row} {l : (Int × Int) × En} (h : RowOk r) (hg : Goes ((plcs r).getD r.length (0, 0)) l.1) (hp : PlOk l.1) (he : l.2.Ok) : RowOk (r ++ [l]) := by
  intro i hi
  rw [List.length_append] at hi
  by_cases c : i < r.length
  · rw [plcs_app r [l] (by omega), List.getElem_append_left c]
    exact h i c
  · have e : i = r.length := by
      have : i < r.length + 1 := hi
      omega
    subst e
    rw [plcs_app r [l] (Nat.le_refl _), List.getElem_append_right (Nat.le_refl _)]
    simp only [Nat.sub_self]
    exact ⟨hg, hp, he⟩
theorem RowOk.ok {r : Row} (h : RowOk r) : ∀ l ∈ r, l.2.Ok := fun l m => by
  obtain ⟨i, hi, e⟩ := List.getElem_of_mem m
  rw [← e]
  exact (h i hi).2.2
section
variable {P : Program} {w : World} {K : PySem.W.Frag} {mg : Str → Option Value} {base : Heap} {f : Addr} {fd : FuncData}
/-! ### task -/
abbrev qTask : Stmt := topS 77
def dTask : Con := fun as Φ => ∃ (B : Int) (s : Sta) (who : Str), as = [.pool, staD s, .str who] ∧ LwOk B s.1 ∧ ∀ d : De, d.Ok → Φ d.d
abbrev nzTask : List Str := ["_law_pool_here", "_law_kept", "_law_who", "_law_limit", "_law_way", "_law_turn"]
theorem zcTask : FnScope nzTask ["_law_pool_here", "_law_kept", "_law_who"] (defScope qTask) := ⟨rfl, rfl, rfl, by decide +kernel, rfl, by decide +kernel, by decide +kernel⟩
theorem qk_task (F : Fun K "_law_task" "_law_task" qTask f fd) (T : Glb K mg) (Q : TK P w K mg base) (DE : Fn P w K mg base 5 "_law_deed" ["_law_pool_here", "_law_web"] dDeed) : FnOk P w K mg base CX0 6 f fd ["_law_pool_here", "_law_kept", "_law_who"] (spF K dTask) := by
  refine fn_ok F zcTask (fun ds Φ ⟨_, _, _, e, _⟩ => by rw [e]; rfl) fun cdv A outer s H E ds Φ hr c => ?_
  obtain ⟨B, st, who, rfl, hw, h⟩ := c
  have nd := zcTask.nd
  have hu := Room.u1 hr
  refine rr_set (i := 3) nd <| ee_ixT <| ee_get2 hu <| ee_ixT <| ee_v (i := 1) rfl <| ee_i ⟨.dct (sessD st.2), rfl, _, rfl, ee_v (i := 2) rfl <| ee_tup <| aa_cons <| ee_n <| aa_cons <| ee_i <| aa_nil ⟨Nat.le_of_ble_eq_true rfl, who, rfl, ?_⟩⟩
  obtain ⟨l, n, xs, el⟩ := get_lim st.2 who
  rw [el]
  refine ee_i ⟨limD l, at0 _ _, ?_⟩
  refine rr_set (i := 4) nd <| ee_call Q hr (by decide) <| aa_cons <| ee_v (i := 0) rfl <| aa_cons <| ee_i <| aa_nil ⟨14, rfl, by decide, by decide, fun way w0 w1 => ?_⟩
  have tail : RR (BX P w K mg base nzTask "_law_task" (defScope qTask) f cdv A outer s H E) ((defBody qTask).drop 3) [.va .pool, .va (staD st), .va (.str who), .va (limD l), .va (.int way), .un] (fun _ => Φ .non) Φ := by
    refine rr_if <| tt_cmp op_lt rd_B0 <| ee_v (i := 4) rfl <| ee_i ⟨_, rfl, brD (fun hc => ?_) fun hc => rr_nil ?_⟩
    · exact rr_ret <| ee_call DE hr (by decide) <| aa_cons <| ee_v (i := 0) rfl <| aa_cons <| ee_ixT <| ee_v (i := 1) rfl <| ee_i ⟨.dct (webD st.1), rfl, aa_nil ⟨B, st.1, rfl, hw.web, hw.ne, fun d hd => h (.one d) hd⟩⟩
    refine rr_if <| tt_cmp op_lt rd_B0 <| ee_v (i := 4) rfl <| ee_i ⟨_, rfl, brD (fun hc => ?_) fun hc => rr_nil ?_⟩
    · refine rr_ret <| ee_tup <| aa_cons <| ee_s <| aa_cons <| ee_ct call_tuple_of rdc_tup T.zTup bt_tup <| aa_cons <| ee_lc (i := 5) nd (blkOk_by (N := nzTask) (sc := defScope qTask) (by decide +kernel)) <| ii_range T.zRange <| ee_add <| ee_i <| ee_call Q hr (by decide) <| aa_cons <| ee_v (i := 0) rfl <| aa_cons <| ee_i <| aa_nil ⟨4, rfl, by decide, by decide, fun r r0 r1 => ⟨1 + r, rfl, ?_, ?_, fun j acc => ∃ es : List Dd, acc = es.map Dd.d ∧ es.length = j ∧ ∀ d ∈ es, d.Ok, ⟨[], rfl, rfl, fun d hd => by cases hd⟩, ?_, ?_⟩⟩
      · have e : (2 : Int) ^ 62 = 4611686018427387904 := by decide
        omega
      · have e : (2 : Int) ^ 62 = 4611686018427387904 := by decide
        omega
      · rintro j acc hj ⟨es, rfl, hl, he⟩ s H C cl fp
        refine ee_call DE hr (by decide) <| aa_cons <| ee_v (i := 0) rfl <| aa_cons <| ee_ixT <| ee_v (i := 1) rfl <| ee_i ⟨.dct (webD st.1), rfl, aa_nil ⟨B, st.1, rfl, hw.web, hw.ne, fun d hd => ⟨?_, es ++ [d], ?_, ?_, ?_⟩⟩⟩
        · rw [List.length_map]
          omega
        · rw [List.map_append]
          rfl
        · rw [List.length_append, hl]
          rfl
        · intro x hx
          rcases List.mem_append.mp hx with front | last
          · exact he x front
          · rw [List.mem_singleton.mp last]
            exact hd
      · rintro acc ⟨es, rfl, hl, he⟩
        refine aa_nil (aa_nil ⟨Nat.le_of_ble_eq_true rfl, h (.all es) ⟨by omega, by omega, he⟩⟩)
    · refine rr_ret <| ee_ixL <| ee_lst <| aa_cons <| ee_tup <| aa_cons <| ee_s <| aa_nil ⟨Nat.le_of_ble_eq_true rfl, aa_cons <| ee_tup <| aa_cons <| ee_s <| aa_cons <| ee_i <| aa_nil ⟨Nat.le_of_ble_eq_true rfl, aa_cons <| ee_tup <| aa_cons <| ee_s <| aa_nil ⟨Nat.le_of_ble_eq_true rfl, aa_nil ⟨Nat.le_of_ble_eq_true rfl, ee_call Q hr (by decide) <| aa_cons <| ee_v (i := 0) rfl <| aa_cons <| ee_i <| aa_nil ⟨3, rfl, by decide, by decide, fun r r0 r1 => ?_⟩⟩⟩⟩⟩
      obtain ⟨d, ed, hd⟩ := atI_in (xs := [De.close.d, (De.opn 5).d, De.bring.d]) (i := r) r0 r1
      refine ⟨d, ed, ?_⟩
      simp at hd
      rcases hd with rfl | rfl | rfl
      · exact h .close True.intro
      · exact h (.opn 5) ⟨by decide, by decide⟩
      · exact h .bring True.intro
  cases l with
  | some l => exact rr_ifS (tt_bool <| tw_and <| tt_cmp op_isN rd_isN <| ee_v (i := 3) rfl <| ee_n ⟨rfl, false, rfl, _, rfl, brF <| brF (rr_nil rfl)⟩) tail
  | none =>
    refine rr_ifS (tt_bool <| tw_and <| tt_cmp op_isN rd_isN <| ee_v (i := 3) rfl <| ee_n ⟨rfl, true, rfl, _, rfl, brT <| tw_and1 <| tt_cmp op_gt rd_B0 <| ee_call Q hr (by decide) <| aa_cons <| ee_v (i := 0) rfl <| aa_cons <| ee_i <| aa_nil ⟨4, rfl, by decide, by decide, fun r r0 r1 => ee_i ⟨_, rfl, brD (fun hc => ?_) fun hc => rr_nil rfl⟩⟩⟩) tail
    refine rr_ret <| ee_tup <| aa_cons <| ee_s <| aa_cons <| ee_ixL <| ee_lst <| aa_cons <| ee_i <| aa_cons <| ee_i <| aa_cons <| ee_i <| aa_nil ⟨Nat.le_of_ble_eq_true rfl, ee_call Q hr (by decide) <| aa_cons <| ee_v (i := 0) rfl <| aa_cons <| ee_i <| aa_nil ⟨3, rfl, by decide, by decide, fun r r0 r1 => ?_⟩⟩
    obtain ⟨d, ed, hd⟩ := atI_in (xs := [D.int 1, .int 7, .int 1000]) (i := r) r0 r1
    refine ⟨d, ed, aa_nil ⟨Nat.le_of_ble_eq_true rfl, ?_⟩⟩
    simp at hd
    rcases hd with rfl | rfl | rfl
    · exact h (.opn 1) ⟨by decide, by decide⟩
    · exact h (.opn 7) ⟨by decide, by decide⟩
    · exact h (.opn 1000) ⟨by decide, by decide⟩
end
end Lg
namespace Lg
open PySem PySem.Spec PyProof.Rows L2 TL
section
variable {X : Cx} {es : List Expr} {ρ : List Sl} {Ω : List D → Prop}
theorem aa_int {c : Int} {j : Nat} {pos : Pos} (h : AA X es ρ fun ds => Ω (.int c :: ds)) : AA X (.Constant (.int c) j pos :: es) ρ Ω := aa_cons (ee_i h) rfl
theorem aa_ints : ∀ (cs : List (Int × Nat × Pos)) {es : List Expr} {Ω : List D → Prop}, AA X es ρ (fun ds => Ω (cs.map (fun c => D.int c.1) ++ ds)) → AA X (cs.map (fun c => Expr.Constant (.int c.1) c.2.1 c.2.2) ++ es) ρ Ω
  | [], _, _, h => h
  | c :: cs, _, _, h => aa_int (aa_ints cs h)
theorem aa_binC {a b : Expr} {op : Operator} {pos : Pos} (h : EE X (.BinOp a op b pos) ρ fun d => AA X es ρ fun ds => Ω (d :: ds)) : AA X (.BinOp a op b pos :: es) ρ Ω := aa_cons h rfl
end
section
variable {P : Program} {w : World} {K : PySem.W.Frag} {mg : Str → Option Value} {base : Heap} {f : Addr} {fd : FuncData}
/-! ### drawn_line -/
abbrev qDrawn : Stmt := topS 78
def dDrawn : Con := fun as Φ => ∃ (B : Int) (s : Sta), as = [.pool, staD s] ∧ LwOk B s.1 ∧ ∀ e : En, e.Ok → whoOf e ≠ "qqq" → Φ e.d
abbrev nzDrawn : List Str := ["_law_pool_here", "_law_kept", "_law_who", "_law_last", "_law_stamp"]
theorem zcDrawn : FnScope nzDrawn ["_law_pool_here", "_law_kept"] (defScope qDrawn) := ⟨rfl, rfl, rfl, by decide +kernel, rfl, by decide +kernel, by decide +kernel⟩
theorem qk_drawn (F : Fun K "_law_drawn_line" "_law_drawn_line" qDrawn f fd) (T : Glb K mg) (Q : TK P w K mg base) (TA : Fn P w K mg base 6 "_law_task" ["_law_pool_here", "_law_kept", "_law_who"] dTask) : FnOk P w K mg base CX0 7 f fd ["_law_pool_here", "_law_kept"] (spF K dDrawn) := by
  refine fn_ok F zcDrawn (fun ds Φ ⟨_, _, e, _⟩ => by rw [e]; rfl) fun cdv A outer s H E ds Φ hr c => ?_
  obtain ⟨B, st, rfl, hw, h⟩ := c
  have nd := zcDrawn.nd
  have hu := Room.u1 hr
  refine rr_set (i := 2) nd <| ee_ixL <| ee_lst <| aa_cons <| ee_s <| aa_cons <| ee_s <| aa_cons <| ee_s <| aa_nil ⟨Nat.le_of_ble_eq_true rfl, ee_call Q hr (by decide) <| aa_cons <| ee_v (i := 0) rfl <| aa_cons <| ee_i <| aa_nil ⟨3, rfl, by decide, by decide, fun r r0 r1 => ?_⟩⟩
  obtain ⟨d, ed, hd⟩ := atI_in (xs := [D.str "xa", .str "yb", .str "zz"]) (i := r) r0 r1
  refine ⟨d, ed, ?_⟩
  obtain ⟨who, rfl, hwho⟩ : ∃ who, d = .str who ∧ (who = "xa" ∨ who = "yb" ∨ who = "zz") := by
    simp at hd
    rcases hd with rfl | rfl | rfl
    · exact ⟨_, rfl, .inl rfl⟩
    · exact ⟨_, rfl, .inr (.inl rfl)⟩
    · exact ⟨_, rfl, .inr (.inr rfl)⟩
  obtain ⟨hwd, hq⟩ := word2 who hwho
  refine rr_if <| tt_cmp op_eq rd_eqS <| ee_call Q hr (by decide) <| aa_cons <| ee_v (i := 0) rfl <| aa_cons <| ee_i <| aa_nil ⟨14, rfl, by decide, by decide, fun r r0 r1 => ee_i <| teq (eqS_cnt _ _) <| brD (fun hc => ?_) fun hc => rr_nil ?_⟩
  · exact rr_ret <| ee_tup <| aa_cons <| ee_s <| aa_cons <| ee_v (i := 2) rfl <| aa_nil ⟨Nat.le_of_ble_eq_true rfl, h (.fin who) hwd hq⟩
  refine rr_set (i := 3) nd <| ee_ixT <| ee_get2 hu <| ee_ixT <| ee_v (i := 1) rfl <| ee_i ⟨.dct (sessD st.2), rfl, _, rfl, ee_v (i := 2) rfl <| ee_tup <| aa_cons <| ee_n <| aa_cons <| ee_i <| aa_nil ⟨Nat.le_of_ble_eq_true rfl, who, rfl, ?_⟩⟩
  obtain ⟨l, n, xs, el⟩ := get_lim st.2 who
  rw [el]
  refine ee_i ⟨.int n, at1 _ _ _, ?_⟩
  refine rr_set (i := 4) nd <| ee_cb (call_max2 (by rfl)) rdc_max T.zMax (by decide +kernel) <| aa_cons <| ee_i <| aa_cons <| ee_add <| ee_v (i := 3) rfl ?_
  refine ee_ixL ?_
  refine ee_lst ?_
  refine aa_ints [(1, _, _), (1, _, _), (1, _, _), (1, _, _), (1, _, _), (1, _, _), (2, _, _), (5, _, _), (0, _, _)] ?_
  refine aa_binC (ee_sub (ee_i (ee_i ?_)))
  refine aa_nil ⟨Nat.le_of_ble_eq_true rfl, ee_call Q hr (by decide) <| aa_cons <| ee_v (i := 0) rfl <| aa_cons <| ee_i <| aa_nil ⟨10, rfl, by decide, by decide, fun r r0 r1 => ?_⟩⟩
  have hx : ∃ m, atI ([1, 1, 1, 1, 1, 1, 2, 5, 0, 0 - 1] : List Int) r = some m := by
    obtain ⟨m, em, _⟩ := atI_in (xs := ([1, 1, 1, 1, 1, 1, 2, 5, 0, 0 - 1] : List Int)) (i := r) r0 r1
    exact ⟨m, em⟩
  obtain ⟨m, em⟩ := hx
  have ed : atI (([1, 1, 1, 1, 1, 1, 2, 5, 0, 0 - 1] : List Int).map D.int) r = some (.int m) := by
    unfold atI at em ⊢
    rw [List.length_map]
    cases ei : ixN ([1, 1, 1, 1, 1, 1, 2, 5, 0, 0 - 1] : List Int).length r with
    | none => rw [ei] at em; cases em
    | some j =>
      rw [ei] at em
      show (([1, 1, 1, 1, 1, 1, 2, 5, 0, 0 - 1] : List Int).map D.int)[j]? = _
      have em : ([1, 1, 1, 1, 1, 1, 2, 5, 0, 0 - 1] : List Int)[j]? = some m := em
      rw [List.getElem?_map, em]
      rfl
  refine ⟨.int m, ed, ?_⟩
  refine aa_nil ?_
  show RR _ _ (List.set _ 4 (Sl.va (D.int (if n + m > 1 then n + m else 1)))) _ _
  have hs : 1 ≤ (if n + m > 1 then n + m else 1) := by split <;> omega
  generalize (if n + m > 1 then n + m else 1) = stamp at hs ⊢
  exact rr_ret <| ee_tup <| aa_cons <| ee_s <| aa_cons <| ee_v (i := 2) rfl <| aa_cons <| ee_v (i := 4) rfl <| aa_cons <| ee_call TA hr (by decide) <| aa_cons <| ee_v (i := 0) rfl <| aa_cons <| ee_v (i := 1) rfl <| aa_cons <| ee_v (i := 2) rfl <| aa_nil ⟨B, st, who, rfl, hw, fun d hd => aa_nil ⟨Nat.le_of_ble_eq_true rfl, h (.ask who stamp d) ⟨hwd, hs, hd⟩ hq⟩⟩
end
end Lg
namespace Lg
open PySem PySem.Spec PyProof.Rows L2 TL
section
variable {P : Program} {w : World} {K : PySem.W.Frag} {mg : Str → Option Value} {base : Heap} {f : Addr} {fd : FuncData}
/-! ### gone -/
abbrev qGone : Stmt := topS 79
def dGone : Con := fun as Φ => ∃ m : Int, as = [.pool, .int m] ∧ 1 ≤ m ∧ m ≤ 20 ∧ ∀ r : Row, (r.length : Int) = m → RowOk r → (∀ l ∈ r, whoOf l.2 ≠ "qqq") → Φ (.lst (rowD r))
abbrev nzGone : List Str := ["_law_pool_here", "_law_many", "_law_kept", "_law_lines", "_law_spot", "_law_turn", "_law_line_here"]
theorem zcGone : FnScope nzGone ["_law_pool_here", "_law_many"] (defScope qGone) := ⟨rfl, rfl, rfl, by decide +kernel, rfl, by decide +kernel, by decide +kernel⟩
theorem first_ls : LsOk 0 firstM := ⟨⟨first_ok.web, ⟨⟨"", 0, 0, none⟩, by simp [aget, firstM], rfl⟩⟩, first_ok.len⟩
theorem qk_gone (F : Fun K "_law_gone" "_law_gone" qGone f fd) (T : Glb K mg) (Q : TK P w K mg base) (DR : Fn P w K mg base 7 "_law_drawn_line" ["_law_pool_here", "_law_kept"] dDrawn) (DU : Fn P w K mg base 6 "_law_due" ["_law_kept", "_law_line_here", "_law_spot"] dDue) : FnOk P w K mg base CX0 8 f fd ["_law_pool_here", "_law_many"] (spF K dGone) := by
  refine fn_ok F zcGone (fun ds Φ ⟨_, e, _⟩ => by rw [e]; rfl) fun cdv A outer s H E ds Φ hr c => ?_
  obtain ⟨m, rfl, m0, m1, h⟩ := c
  have nd := zcGone.nd
  refine rr_asg ?_
  refine ee_tup ?_
  refine aa_cons ?_
  refine ee_dict1 ?_
  refine ee_s ?_
  refine ee_tup ?_
  refine aa_cons (ee_s ?_)
  refine aa_cons (ee_i ?_)
  refine aa_cons (ee_i ?_)
  refine aa_cons (ee_n ?_)
  refine aa_nil ⟨Nat.le_of_ble_eq_true rfl, _, rfl, ?_⟩
  refine aa_cons (ee_dnew ?_)
  refine aa_nil ⟨Nat.le_of_ble_eq_true rfl, ?_⟩
  refine gg_name (i := 2) nd ?_
  refine rr_at [.va .pool, .va (.int m), .va (staD firstM), .un, .un, .un, .un] rfl ?_
  refine rr_newL (i := 3) nd (fun _ _ => True.intro) ?_
  refine rr_set (i := 4) nd ?_
  refine ee_tup ?_
  refine aa_cons (ee_add (ee_i ?_))
  refine ee_call Q hr (by decide) ?_
  refine aa_cons (ee_v (i := 0) rfl ?_)
  refine aa_cons (ee_i ?_)
  refine aa_nil ⟨3, rfl, by decide, by decide, fun r r0 r1 => ?_⟩
  refine aa_cons (ee_i ?_)
  refine aa_nil ⟨Nat.le_of_ble_eq_true rfl, ?_⟩
  refine rr_at [.va .pool, .va (.int m), .va (staD firstM), .owl [], .va (plcD (1 + r, 0)), .un, .un] rfl ?_
  refine rr_for <| ii_range T.zRange <| ee_v (i := 1) rfl ⟨m, rfl, ?_, ?_, fun i ρ' => ∃ (rw : Row) (st : Sta) (p : Int × Int) (s5 s6 : Sl), ρ' = [.va .pool, .va (.int m), .va (staD st), .owl (rowD rw), .va (plcD p), s5, s6] ∧ rw.length = i ∧ RowOk rw ∧ (∀ l ∈ rw, whoOf l.2 ≠ "qqq") ∧ LsOk (6 * i) st ∧ 1 ≤ p.1 ∧ 0 ≤ p.2 ∧ (i = 0 → p.2 = 0) ∧ (0 < i → (plcs rw).getD i (0, 0) = p), ⟨[], firstM, (1 + r, 0), .un, .un, rfl, rfl, (fun i hi => absurd hi (Nat.not_lt_zero i)), (fun l hl => by cases hl), first_ls, (by show 1 ≤ 1 + r; omega), Int.le_refl _, fun _ => rfl, fun z => absurd z (Nat.lt_irrefl 0)⟩, ?_, ?_⟩
  · have e : (2 : Int) ^ 62 = 4611686018427387904 := by decide
    omega
  · have e : (2 : Int) ^ 62 = 4611686018427387904 := by decide
    omega
  · rintro i ρ' hi ⟨rw_, st, p, s5, s6, rfl, hlen, hrow, hwho, hst, p1, p2, pz, pl⟩
    refine gg_name (i := 5) nd ?_
    refine rr_set (i := 6) nd <| ee_call DR hr (by decide) <| aa_cons <| ee_v (i := 0) rfl <| aa_cons <| ee_v (i := 2) rfl <| aa_nil ⟨_, st, rfl, hst.web, fun e he hq => ?_⟩
    refine rr_set (i := 4) nd ?_
    refine ee_ixL ?_
    refine ee_lst ?_
    refine aa_cons (ee_tup ?_)
    refine aa_cons (ee_ixT <| ee_v (i := 4) rfl <| ee_i ⟨.int p.1, rfl, ?_⟩)
    refine aa_cons (ee_add <| ee_ixT <| ee_v (i := 4) rfl <| ee_i ⟨.int p.2, rfl, ee_i ?_⟩)
    refine aa_nil ⟨Nat.le_of_ble_eq_true rfl, ?_⟩
    refine aa_cons (ee_tup ?_)
    refine aa_cons ?_
    refine ee_add ?_
    refine ee_add <| ee_ixT <| ee_v (i := 4) rfl <| ee_i ⟨.int p.1, rfl, ee_i ?_⟩
    refine ee_call Q hr (by decide) <| aa_cons <| ee_v (i := 0) rfl <| aa_cons <| ee_i <| aa_nil ⟨2, rfl, by decide, by decide, fun t t0 t1 => ?_⟩
    refine aa_cons (ee_i ?_)
    refine aa_nil ⟨Nat.le_of_ble_eq_true rfl, ?_⟩
    refine aa_nil ⟨Nat.le_of_ble_eq_true rfl, ?_⟩
    refine ee_ct call_int1 rdc_int T.zInt bt_int <| aa_cons <| ee_cmp op_eq rd_eqS <| ee_call Q hr (by decide) <| aa_cons <| ee_v (i := 0) rfl <| aa_cons <| ee_i <| aa_nil ⟨6, rfl, by decide, by decide, fun u u0 u1 => ee_i ⟨_, rfl, aa_nil ?_⟩⟩
    show IntR [.bl (decide (u = 0))] _
    generalize decide (u = 0) = b
    obtain ⟨np, hnp, hg, np1, np2⟩ : ∃ np : Int × Int, atI [D.tup [.int p.1, .int (p.2 + 1)], .tup [.int (p.1 + 1 + t), .int 1]] (if b = true then 1 else 0) = some (plcD np) ∧ Goes ((plcs rw_).getD i (0, 0)) np ∧ 1 ≤ np.1 ∧ 0 ≤ np.2 := by
      have hnz : ¬ p = (0, 0) := fun z => by rw [z] at p1; exact absurd p1 (by decide)
      cases b with
      | false =>
        refine ⟨(p.1, p.2 + 1), rfl, ?_, p1, by show 0 ≤ p.2 + 1; omega⟩
        unfold Goes
        by_cases c : i = 0
        · have hz := pz c
          have e0 : (plcs rw_).getD i (0, 0) = (0, 0) := by rw [c]; rfl
          rw [e0, if_neg (fun z => z.2 rfl)]
          exact ⟨by show 0 < p.1; omega, by show p.2 + 1 = 1; omega⟩
        · rw [pl (by omega), if_pos ⟨rfl, hnz⟩]
      | true =>
        refine ⟨(p.1 + 1 + t, 1), rfl, ?_, by show 1 ≤ p.1 + 1 + t; omega, by show (0 : Int) ≤ 1; decide⟩
        unfold Goes
        by_cases c : i = 0
        · have e0 : (plcs rw_).getD i (0, 0) = (0, 0) := by rw [c]; rfl
          rw [e0, if_neg (fun z => z.2 rfl)]
          exact ⟨by show 0 < p.1 + 1 + t; omega, rfl⟩
        · rw [pl (by omega), if_neg (fun z => by have : p.1 + 1 + t = p.1 := z.1; omega)]
          exact ⟨by show p.1 < p.1 + 1 + t; omega, rfl⟩
    refine ⟨plcD np, hnp, ?_⟩
    have hll : (rowD rw_).length = rw_.length := row_len _
    have hi20 : i < m.toNat := hi
    refine rr_append (i := 3) rfl (by omega) <| ee_tup <| aa_cons <| ee_v (i := 4) rfl <| aa_cons <| ee_v (i := 6) rfl <| aa_nil ⟨Nat.le_of_ble_eq_true rfl, ?_⟩
    refine rr_set (i := 2) nd <| ee_ixT <| ee_call DU hr (by decide) <| aa_cons <| ee_v (i := 2) rfl <| aa_cons <| ee_v (i := 6) rfl <| aa_cons <| ee_v (i := 4) rfl <| aa_nil ⟨6 * i, st, e, np, rfl, hst, by omega, he, fun st' a es hst' => ee_i ⟨staD st', at0 _ _, rr_nil ?_⟩⟩
    refine ⟨rw_ ++ [(np, e)], st', np, .va (.int i), .va e.d, ?_, ?_, hrow.snoc (by rw [hlen]; exact hg) ⟨by show 0 ≤ np.1; omega, np2⟩ he, ?_, ?_, np1, np2, ?_, fun _ => ?_⟩
    · unfold rowD
      rw [List.map_append]
      rfl
    · rw [List.length_append, hlen]
      rfl
    · intro l hl
      rcases List.mem_append.mp hl with hl | hl
      · exact hwho l hl
      · rw [List.mem_singleton.mp hl]
        exact hq
    · have e6 : 6 * ((i + 1 : Nat) : Int) = 6 * (i : Int) + 6 := by omega
      rw [e6]
      exact hst'
    · intro z
      omega
    · have hin : i < (rw_ ++ [(np, e)]).length := by rw [List.length_append, hlen]; exact Nat.lt_succ_self _
      rw [plc_step hin, List.getElem_append_right (by omega)]
      simp [hlen]
  · rintro ρ' ⟨rw_, st, p, s5, s6, rfl, hlen, hrow, hwho, hst, p1, p2, pz, pl⟩
    exact rr_tellL (i := 3) rfl <| rr_ret <| ee_v (i := 3) rfl <| h rw_ (by omega) hrow hwho
end
end Lg
namespace Lg
open PySem PySem.Spec PyProof.Rows L2 TL
/-! ### rows in order -/
def LtP (a b : Int × Int) : Prop := a.1 < b.1 ∨ (a.1 = b.1 ∧ a.2 < b.2)
theorem lt_goes {a b : Int × Int} (h : Goes a b) : LtP a b := by
  unfold Goes at h
  split at h
  · rename_i c
    exact .inr ⟨c.1.symm, by omega⟩
  · exact .inl h.1
theorem lt_trans' {a b c : Int × Int} (h : LtP a b) (k : LtP b c) : LtP a c := by
  unfold LtP at *
  omega
theorem le_of {a b : Int × Int} : leB a b = true ↔ a = b ∨ LtP a b := by
  obtain ⟨a1, a2⟩ := a
  obtain ⟨b1, b2⟩ := b
  unfold leB LtP
  dsimp only
  rw [Prod.mk.injEq]
  split <;> simp <;> omega
theorem gt_of {a b : Int × Int} : gtB a b = true ↔ LtP b a := by
  obtain ⟨a1, a2⟩ := a
  obtain ⟨b1, b2⟩ := b
  unfold gtB LtP
  dsimp only
  split <;> simp <;> omega
theorem lt_irrefl' {a : Int × Int} : ¬ LtP a a := by
  unfold LtP
  omega
theorem plcs_lt {r : Row} (h : RowOk r) : ∀ (d i : Nat), i + d < r.length → LtP ((plcs r).getD i (0, 0)) ((plcs r).getD (i + d + 1) (0, 0)) := by
  intro d
  induction d with
  | zero =>
    intro i hi
    rw [plc_step (by omega : i + 0 < r.length)]
    exact lt_goes (h i hi).1
  | succ d ih =>
    intro i hi
    have t := ih i (by omega)
    have e : i + (d + 1) = i + d + 1 := rfl
    rw [plc_step hi]
    exact lt_trans' t (lt_goes (h (i + (d + 1)) hi).1)
theorem plc_lt_at {r : Row} (h : RowOk r) {i j : Nat} (hij : i ≤ j) (hj : j < r.length) : LtP ((plcs r).getD i (0, 0)) r[j].1 := by
  have t := plcs_lt h (j - i) i (by omega)
  have e : i + (j - i) + 1 = j + 1 := by omega
  rw [e, plc_step hj] at t
  exact t
theorem filter_take {α : Type} (p : α → Bool) (l : List α) (n : Nat) (h1 : ∀ i (hi : i < l.length), i < n → p l[i] = true) (h2 : ∀ i (hi : i < l.length), n ≤ i → p l[i] = false) : l.filter p = l.take n ∧ l.filter (fun x => !p x) = l.drop n := by
  have e : l = l.take n ++ l.drop n := (List.take_append_drop n l).symm
  have a1 : ∀ x ∈ l.take n, p x = true := fun x hx => by
    obtain ⟨i, hi, e⟩ := List.getElem_of_mem hx
    rw [List.length_take] at hi
    rw [← e, List.getElem_take]
    exact h1 i (by omega) (by omega)
  have a2 : ∀ x ∈ l.drop n, p x = false := fun x hx => by
    obtain ⟨i, hi, e⟩ := List.getElem_of_mem hx
    rw [List.length_drop] at hi
    rw [← e, List.getElem_drop]
    exact h2 (n + i) (by omega) (by omega)
  constructor
  · conv => lhs; rw [e]
    rw [List.filter_append, List.filter_eq_self.mpr a1, List.filter_eq_nil_iff.mpr (fun x hx => by rw [a2 x hx]; decide), List.append_nil]
  · conv => lhs; rw [e]
    rw [List.filter_append, List.filter_eq_nil_iff.mpr (fun x hx => by rw [a1 x hx]; decide), List.filter_eq_self.mpr (fun x hx => by rw [a2 x hx]; rfl), List.nil_append]
theorem lastP_take {r : Row} {n : Nat} (h : n ≤ r.length) : lastP (r.take n) = (plcs r).getD n (0, 0) := by
  cases n with
  | zero => rfl
  | succ n =>
    rw [plc_step (by omega : n < r.length)]
    unfold lastP
    rw [take_snoc r n (by omega), List.getLast?_concat]
    rfl
theorem filt_le {r : Row} (h : RowOk r) {n : Nat} (hn : n ≤ r.length) : r.filter (fun l => leB l.1 (lastP (r.take n))) = r.take n ∧ r.filter (fun l => gtB l.1 (lastP (r.take n))) = r.drop n := by
  rw [lastP_take hn]
  have hb : ∀ l : (Int × Int) × En, gtB l.1 ((plcs r).getD n (0, 0)) = !leB l.1 ((plcs r).getD n (0, 0)) := fun l => by
    generalize (plcs r).getD n (0, 0) = q
    obtain ⟨⟨a1, a2⟩, _⟩ := l
    obtain ⟨b1, b2⟩ := q
    unfold gtB leB
    dsimp only
    split
    · rw [Bool.eq_iff_iff]
      simp
      try omega
    · rw [Bool.eq_iff_iff]
      simp
      try omega
  have key := filter_take (fun l : (Int × Int) × En => leB l.1 ((plcs r).getD n (0, 0))) r n (fun i hi hin => ?_) (fun i hi hin => ?_)
  · refine ⟨key.1, ?_⟩
    rw [← key.2]
    congr 1
    exact funext hb
  · rw [le_of]
    by_cases c : i + 1 = n
    · left
      rw [← c, plc_step hi]
    · right
      have := plcs_lt h (n - 1 - (i + 1)) (i + 1) (by omega)
      have e : i + 1 + (n - 1 - (i + 1)) + 1 = n := by omega
      rw [e, plc_step hi] at this
      exact this
  · have t := plc_lt_at h hin hi
    cases e : leB r[i].1 ((plcs r).getD n (0, 0)) with
    | false => rfl
    | true =>
      rcases le_of.mp e with e | e
      · rw [e] at t
        exact absurd t lt_irrefl'
      · exact absurd (lt_trans' t e) lt_irrefl'
/-! ### == of lists -/
theorem pyL_len (xs : List D) : (pyL xs).length = xs.length := by
  induction xs with
  | nil => rfl
  | cons x xs ih => exact congrArg Nat.succ ih
theorem eqvAll_len : ∀ xs ys : List PyData, xs.length ≠ ys.length → PyData.eqvAll xs ys = false
  | [], [], h => absurd rfl h
  | [], _ :: _, _ => rfl
  | _ :: _, [], _ => rfl
  | x :: xs, y :: ys, h => by
    rw [PyData.eqvAll, eqvAll_len xs ys (fun e => h (congrArg Nat.succ e)), Bool.and_false]
theorem eqL_len {a b : List D} (h : a.length ≠ b.length) : eqL a b = false := by
  show PyData.eqv (.list (pyL a)) (.list (pyL b)) = false
  rw [PyData.eqv]
  exact eqvAll_len _ _ (by rw [pyL_len, pyL_len]; exact h)
theorem eqvAll_at : ∀ (xs ys : List D) (i : Nat) (x y : D), xs[i]? = some x → ys[i]? = some y → PyData.eqv (py x) (py y) = false → PyData.eqvAll (pyL xs) (pyL ys) = false
  | [], _, i, x, y, h, _, _ => by simp at h
  | _ :: _, [], i, x, y, _, h, _ => by simp at h
  | x0 :: xs, y0 :: ys, 0, x, y, h1, h2, h => by
    simp at h1 h2
    subst h1 h2
    show (PyData.eqv (py x0) (py y0) && _) = false
    rw [h, Bool.false_and]
  | x0 :: xs, y0 :: ys, i + 1, x, y, h1, h2, h => by
    show (_ && PyData.eqvAll (pyL xs) (pyL ys)) = false
    rw [eqvAll_at xs ys i x y (by simpa using h1) (by simpa using h2) h, Bool.and_false]
theorem eqL_at {a b : List D} {i : Nat} {x y : D} (h1 : a[i]? = some x) (h2 : b[i]? = some y) (h : PyData.eqv (py x) (py y) = false) : eqL a b = false := by
  show PyData.eqv (.list (pyL a)) (.list (pyL b)) = false
  rw [PyData.eqv]
  exact eqvAll_at a b i x y h1 h2 h
theorem eqL_same {a : List D} {n : Nat} (h : ∀ d ∈ a, Pl n d) : eqL a a = true := eqv_same (n := n + 1) (d := .lst a) (Pl.lst h)
theorem line_ne_plc {a b : (Int × Int) × En} (h : a.1 ≠ b.1) : PyData.eqv (py (lineD a)) (py (lineD b)) = false := by
  show (PyData.eqv (py (plcD a.1)) (py (plcD b.1)) && _) = false
  rw [eqv_plc, decide_eq_false h, Bool.false_and]
theorem line_ne_who {p : Int × Int} {e : En} {z : Str} (h : whoOf e ≠ z) : PyData.eqv (py (lineD (p, e))) (py (lineD (p, En.fin z))) = false ∧ PyData.eqv (py (lineD (p, En.fin z))) (py (lineD (p, e))) = false := by
  have k1 : PyData.eqv (py e.d) (py (En.fin z).d) = false ∧ PyData.eqv (py (En.fin z).d) (py e.d) = false := by
    cases e with
    | fin w =>
      have hw : w ≠ z := h
      constructor
      · show ((("end" : Str) == ("end" : Str)) && ((w == z) && true)) = false
        rw [beq_eq_false_iff_ne.mpr hw]
        simp
      · show ((("end" : Str) == ("end" : Str)) && ((z == w) && true)) = false
        rw [beq_eq_false_iff_ne.mpr (Ne.symm hw)]
        simp
    | ask w n d =>
      constructor
      · exact eqvAll_at [.str "ask", .str w, .int n, d.d] [.str "end", .str z] 0 _ _ rfl rfl (beq_eq_false_iff_ne.mpr (show ("ask" : Str) ≠ "end" by decide +kernel))
      · exact eqvAll_at [.str "end", .str z] [.str "ask", .str w, .int n, d.d] 0 _ _ rfl rfl (beq_eq_false_iff_ne.mpr (show ("end" : Str) ≠ "ask" by decide +kernel))
  exact ⟨eqvAll_at [plcD p, e.d] [plcD p, (En.fin z).d] 1 _ _ rfl rfl k1.1, eqvAll_at [plcD p, (En.fin z).d] [plcD p, e.d] 1 _ _ rfl rfl k1.2⟩
/-! ### plainness of what is compared -/
theorem sm_web {B : Int} {wb : Web} (h : WebOk B wb) : Sm 50 (.dct (webD wb)) := by
  refine ⟨?_, fun kv m => ?_⟩
  · have := h.nd
    have e : (webD wb).map (·.1) = wb.map (·.1) := keys_map (f := ndD)
    rw [e]
    exact this
  · obtain ⟨x, _, rfl⟩ := List.mem_map.mp m
    exact sm_of_pl (pl_nd 48 x.2)
theorem pl_se {e : Se} (h : Pl 10 e.ans) : Pl 20 (seD e) := Pl.tup (pl_cons (pl_lim _ _) (pl_cons (pl_int _ _) (pl_cons (h.up (by decide)) (pl_cons (pl_plc _ _) pl_nil))))
theorem sm_sess {s : Sess} (h : (s.map (·.1)).Nodup) (k : ∀ kv ∈ s, Pl 10 kv.2.ans) : Sm 50 (.dct (sessD s)) := by
  refine ⟨?_, fun kv m => ?_⟩
  · have e : (sessD s).map (·.1) = s.map (·.1) := keys_map (f := seD)
    rw [e]
    exact h
  · obtain ⟨x, hx, rfl⟩ := List.mem_map.mp m
    exact sm_of_pl ((pl_se (k x hx)).up (by decide))
theorem sm_sta {B : Int} {s : Sta} (h : StaOk B s) : ∃ ds, staD s = .tup ds ∧ ∀ d ∈ ds, Sm 50 d := by
  refine ⟨_, rfl, fun d hd => ?_⟩
  simp only [List.mem_cons, List.not_mem_nil, or_false] at hd
  rcases hd with rfl | rfl
  · exact sm_web h.web
  · exact sm_sess h.nd h.ans
theorem pl_tell {B : Int} {s : Sta} {l : (Int × Int) × En} (h : StaOk B s) (hB : B + 6 ≤ 300) (he : l.2.Ok) : Pl 15 (tellD s l) := by
  have t := done_ok (p := l.1) h hB he
  exact Pl.tup (pl_cons (pl_plc _ _) (pl_cons (t.val.up (by decide)) (pl_cons (Pl.lst fun e m => (t.evs e m).up (by decide)) pl_nil)))
theorem pl_told {r : Row} (hl : r.length ≤ 40) (h : ∀ l ∈ r, l.2.Ok) : ∀ d ∈ toldBy r, Pl 15 d := fun d hd => by
  obtain ⟨i, hi, e⟩ := List.getElem_of_mem hd
  have hi' : i < r.length := by rw [← told_length r]; exact hi
  have t := told_at r i r[i] (List.getElem?_eq_getElem hi')
  rw [List.getElem?_eq_getElem hi] at t
  rw [← e, Option.some.inj t]
  exact pl_tell (sta_take hl h i) (by omega) (h _ (List.getElem_mem hi'))
end Lg
namespace Lg
open PySem PySem.Spec PyProof.Rows L2 TL
theorem row_take (r : Row) (n : Nat) : (rowD r).take n = rowD (r.take n) := by
  unfold rowD
  rw [List.map_take]
theorem row_drop (r : Row) (n : Nat) : (rowD r).drop n = rowD (r.drop n) := by
  unfold rowD
  rw [List.map_drop]
theorem row_app (r q : Row) : rowD (r ++ q) = rowD r ++ rowD q := by
  unfold rowD
  rw [List.map_append]
theorem RowOk.take {r : Row} (h : RowOk r) (n : Nat) : RowOk (r.take n) := by
  intro i hi
  rw [List.length_take] at hi
  have e : (plcs (r.take n)).getD i (0, 0) = (plcs r).getD i (0, 0) := by
    have := plcs_app (r.take n) (r.drop n) (j := i) (by rw [List.length_take]; omega)
    rw [List.take_append_drop] at this
    exact this.symm
  rw [e, List.getElem_take]
  exact h i (by omega)
section
variable {P : Program} {w : World} {K : PySem.W.Frag} {mg : Str → Option Value} {base : Heap} {f : Addr} {fd : FuncData}
/-! ### along_right -/
abbrev qAlong : Stmt := topS 80
def dAlong : Con := fun as Φ => ∃ r : Row, as = [.lst (rowD r)] ∧ RowOk r ∧ r.length ≤ 30 ∧ Φ (.bl true)
abbrev nzAlong : List Str := ["_law_lines", "_law_kept", "_law_told", "_law_at", "_law_spot", "_law_line_here", "_law_first", "_law_answer", "_law_events"]
theorem zcAlong : FnScope nzAlong ["_law_lines"] (defScope qAlong) := ⟨rfl, rfl, rfl, by decide +kernel, rfl, by decide +kernel, by decide +kernel⟩
theorem qk_along (F : Fun K "_law_along_right" "_law_along_right" qAlong f fd) (T : Glb K mg) (FS : Fn P w K mg base 2 "first_state" [] cFirstState) (SO : Fn P w K mg base 9 "state_of" ["row"] cStateOf) (TB : Fn P w K mg base 9 "told_by" ["row"] cToldBy) (UT : Fn P w K mg base 1 "up_to" ["row", "place"] cUpTo) (BE : Fn P w K mg base 1 "behind" ["row", "place"] cBehind) (LP : Fn P w K mg base 1 "last_place" ["row"] cLastPlace)
    (IR : Fn P w K mg base 7 "is_row" ["thing"] cIsRow) (IB : Fn P w K mg base 1 "is_beginning" ["one", "other"] cBegin) (DN : FnK P w K mg base 8 "done" ["state", "entry", "place"] 2 ["place"] cDone) : FnOk P w K mg base CX0 10 f fd ["_law_lines"] (spF K dAlong) := by
  refine fn_ok F zcAlong (fun ds Φ ⟨_, e, _⟩ => by rw [e]; rfl) fun cdv A outer s H E ds Φ hr c => ?_
  obtain ⟨r, rfl, hrow, hl, h⟩ := c
  have nd := zcAlong.nd
  have hu := hr.units
  have hok := hrow.ok
  have hpr : ∀ n, ∀ d ∈ rowD (r.take n), Pl 20 d := fun n => (pl_row 15 (r.take n))
  refine rr_set (i := 1) nd <| ee_call0 FS hr (by decide) ⟨rfl, ?_⟩
  refine rr_set (i := 2) nd <| ee_call TB hr (by decide) <| aa_cons <| ee_v (i := 0) rfl <| aa_nil ⟨r, rfl, by omega, hok, ?_⟩
  refine rr_for <| ii_enum T.zEnum <| ee_v (i := 0) rfl ⟨_, rfl, fun i ρ' => ∃ s3 s4 s5 s6 s7 s8, ρ' = [.va (.lst (rowD r)), .va (staD (staOf (r.take i))), .va (.lst (toldBy r)), s3, s4, s5, s6, s7, s8], ⟨.un, .un, .un, .un, .un, .un, rfl⟩, ?_, ?_⟩
  · rintro i ρ' hi ⟨s3, s4, s5, s6, s7, s8, rfl⟩
    have hi' : i < r.length := by rw [← row_len]; exact hi
    have ed := at_row hi'
    show GG _ _ (.tup [.int (i : Nat), (rowD r).getD i .non]) _ _
    rw [ed]
    refine gg_tup (ggs_cons <| gg_name (i := 3) nd <| ggs_cons (gg_tup (ggs_cons <| gg_name (i := 4) nd <| ggs_cons <| gg_name (i := 5) nd <| ggs_nil <| ggs_nil ?_) rfl)) rfl
    refine rr_set (i := 6) nd <| ee_slL <| ee_v (i := 0) rfl <| ee_v (i := 3) rfl ⟨_, rfl, ?_⟩
    show RR _ _ (List.set _ 6 (Sl.va (.lst (cutD (rowD r) none (some (i : Nat)))))) _ _
    rw [cut_take, row_take]
    have hli : (r.take i).length = i := by rw [List.length_take]; omega
    refine rr_at [.va (.lst (rowD r)), .va (staD (staOf (r.take i))), .va (.lst (toldBy r)), .va (.int i), .va (plcD r[i].1), .va r[i].2.d, .va (.lst (rowD (r.take i))), s7, s8] rfl ?_
    have hokt : ∀ l ∈ r.take i, l.2.Ok := fun l m => hok l (List.mem_of_mem_take m)
    -- the first test
    refine rr_if ?_
    refine tt_bool (tw_or (tt_cmp (op_smN hu) rd_sm ?_))
    refine ee_call SO hr (by decide) <| aa_cons <| ee_v (i := 6) rfl <| aa_nil ⟨r.take i, rfl, by omega, hokt, ee_v (i := 1) rfl ⟨rfl, sm_sta (sta_take (by omega) hok i), _, rfl, brF ?_⟩⟩
    refine tw_or (tt_cmp (op_neP hu) rd_neD ?_)
    refine ee_call TB hr (by decide) <| aa_cons <| ee_v (i := 6) rfl <| aa_nil ⟨r.take i, rfl, by omega, hokt, ?_⟩
    refine ee_slL <| ee_v (i := 2) rfl <| ee_v (i := 3) rfl ⟨_, rfl, ?_⟩
    unfold SlL
    dsimp only
    rw [cut_take, ← told_take]
    have pt : Pl 60 (.lst (toldBy (r.take i))) := (Pl.lst (n := 15) (pl_told (by omega) hokt)).up (by decide)
    refine ⟨pt, pt, true, eqv_same pt, _, rfl, brF ?_⟩
    refine tw_or1 (tt_cmp (op_neP hu) rd_neD ?_)
    have fl := filt_le hrow (n := i) (by omega)
    have pr : Pl 60 (.lst (rowD (r.take i))) := (Pl.lst (n := 20) (hpr i)).up (by decide)
    refine ee_call UT hr (by decide) <| aa_cons <| ee_v (i := 0) rfl <| aa_cons <| ee_call LP hr (by decide) <| aa_cons <| ee_v (i := 6) rfl <| aa_nil ⟨r.take i, rfl, aa_nil ⟨r, _, rfl, by omega, ?_⟩⟩
    rw [fl.1]
    refine ee_v (i := 6) rfl ⟨pr, pr, true, eqv_same pr, _, rfl, brF <| rr_nil ?_⟩
    -- the second
    have prr : Pl 60 (.lst (rowD r)) := (Pl.lst (n := 20) (pl_row 15 r)).up (by decide)
    refine rr_if ?_
    refine tt_bool (tw_or (tt_cmp (op_neP hu) rd_neD ?_))
    refine ee_addl <| ee_v (i := 6) rfl <| ee_call BE hr (by decide) <| aa_cons <| ee_v (i := 0) rfl <| aa_cons <| ee_call LP hr (by decide) <| aa_cons <| ee_v (i := 6) rfl <| aa_nil ⟨r.take i, rfl, aa_nil ⟨r, _, rfl, by omega, ?_⟩⟩
    rw [fl.2]
    refine ⟨sz1000 (by rw [row_len, row_len, List.length_take, List.length_drop]; omega), ?_⟩
    rw [← row_app, List.take_append_drop]
    refine ee_v (i := 0) rfl ⟨prr, prr, true, eqv_same prr, _, rfl, brF ?_⟩
    refine tw_or1 <| tt_not <| tt_val <| ee_call IR hr (by decide) <| aa_cons <| ee_v (i := 6) rfl <| aa_nil ⟨r.take i, rfl, hrow.take i, _, rfl, brF <| rr_nil ?_⟩
    -- the third
    refine rr_if ?_
    refine tt_bool (tw_or (tt_cmp op_isnot_bl rd_notB ?_))
    refine ee_call IB hr (by decide) <| aa_cons <| ee_v (i := 6) rfl <| aa_cons <| ee_v (i := 0) rfl <| aa_nil ⟨_, _, rfl, hpr i, pl_row 15 r, ?_⟩
    have e1 : eqL ((rowD r).take (rowD (r.take i)).length) (rowD (r.take i)) = true := by
      rw [row_len, hli, row_take]
      exact eqL_same (hpr i)
    rw [e1]
    refine ee_b ?_
    refine ⟨_, rfl, brF ?_⟩
    refine tw_or1 (tt_cmp op_isnot_bl rd_notB ?_)
    refine ee_call IB hr (by decide) <| aa_cons <| ee_v (i := 0) rfl <| aa_cons <| ee_v (i := 6) rfl <| aa_nil ⟨_, _, rfl, pl_row 15 r, hpr i, ?_⟩
    have e2 : eqL ((rowD (r.take i)).take (rowD r).length) (rowD r) = false := by
      refine eqL_len ?_
      rw [List.length_take, row_len, row_len, hli]
      omega
    rw [e2]
    refine ee_b ?_
    refine ⟨_, rfl, brF <| rr_nil ?_⟩
    -- the step
    refine rr_asg <| ee_callK DN hr (by decide) <| aa_cons <| ee_v (i := 1) rfl <| aa_cons <| ee_v (i := 5) rfl <| aa_nil <| kk_cons <| ee_v (i := 4) rfl <| kk_nil ⟨rfl, rfl, 6 * r.length, staOf (r.take i), r[i].2, r[i].1, rfl, sta_take (by omega) hok i, by omega, hok _ (List.getElem_mem hi'), ?_⟩
    refine gg_tup (ggs_cons <| gg_name (i := 1) nd <| ggs_cons <| gg_name (i := 7) nd <| ggs_cons <| gg_name (i := 8) nd <| ggs_nil ?_) rfl
    have tat := told_at r i r[i] (List.getElem?_eq_getElem hi')
    have ptl : Pl 60 (tellD (staOf (r.take i)) r[i]) := (pl_tell (sta_take (by omega) hok i) (by omega) (hok _ (List.getElem_mem hi'))).up (by decide)
    refine rr_if ?_
    refine tt_cmp (op_neP hu) rd_neD ?_
    refine ee_tup <| aa_cons <| ee_v (i := 4) rfl <| aa_cons <| ee_v (i := 7) rfl <| aa_cons <| ee_v (i := 8) rfl <| aa_nil ⟨Nat.le_of_ble_eq_true rfl, ?_⟩
    refine ee_ixL <| ee_v (i := 2) rfl <| ee_v (i := 3) rfl ⟨tellD (staOf (r.take i)) r[i], ?_, ptl, ptl, true, eqv_same ptl, _, rfl, brF <| rr_nil <| rr_nil ?_⟩
    · unfold atI ixN
      rw [if_pos (by omega), if_pos (by rw [told_length]; omega)]
      exact tat
    exact ⟨_, _, _, _, _, _, by rw [staOf_step hi']; rfl⟩
  · rintro ρ' ⟨s3, s4, s5, s6, s7, s8, rfl⟩
    rw [row_len, List.take_of_length_le (Nat.le_refl _)]
    have prr : ∀ d ∈ rowD r, Pl 20 d := pl_row 15 r
    have hst : StaOk (6 * r.length) (staOf r) := by
      have := sta_take (by omega) hok r.length
      rw [List.take_of_length_le (Nat.le_refl _)] at this
      exact this
    refine rr_ret ?_
    refine ee_and ?_
    refine ee_cmp (op_smE hu) rd_sm ?_
    refine ee_call SO hr (by decide) <| aa_cons <| ee_v (i := 0) rfl <| aa_nil ⟨r, rfl, by omega, hok, ee_v (i := 1) rfl ⟨rfl, sm_sta hst, true, rfl, fun _ => ?_, fun z => by cases z⟩⟩
    refine ee_one <| ee_cmp op_is_bl rd_isB ?_
    refine ee_call IB hr (by decide) <| aa_cons <| ee_v (i := 0) rfl <| aa_cons <| ee_ct call_list_of rdc_lst T.zList bt_list <| aa_cons <| ee_v (i := 0) rfl <| aa_nil <| aa_nil ⟨_, _, rfl, prr, prr, ?_⟩
    rw [List.take_of_length_le (Nat.le_refl _), eqL_same prr]
    exact ee_b h
end
end Lg
namespace Lg
open PySem PySem.Spec PyProof.Rows L2 TL
theorem eqL_row {r : Row} : eqL (rowD r) (rowD r) = true := eqL_same (pl_row 15 r)
theorem row_at {r : Row} {i : Nat} (h : i < r.length) : (rowD r)[i]? = some (lineD r[i]) := by
  unfold rowD
  rw [List.getElem?_map, List.getElem?_eq_getElem h]
  rfl
/-- one row, and one that goes on otherwise from n on -/
theorem part_eq {a b : Row} {n : Nat} (hn : n < a.length) (hb : n < b.length) (hp : a.take n = b.take n) (hd : a[n].1 ≠ b[n].1) (m : Nat) (hm : m ≤ b.length) :
    eqL ((rowD a).take (rowD (b.take m)).length) (rowD (b.take m)) = decide (m ≤ n) := by
  have lb : (b.take m).length = m := by rw [List.length_take]; omega
  rw [row_len, lb, row_take]
  by_cases c : m ≤ n
  · have e : a.take m = b.take m := by
      have := congrArg (List.take m) hp
      rwa [List.take_take, List.take_take, Nat.min_eq_left c] at this
    rw [e, eqL_row, decide_eq_true c]
  · rw [decide_eq_false c]
    by_cases d : m ≤ a.length
    · have h1 : n < (a.take m).length := by rw [List.length_take]; omega
      have h2 : n < (b.take m).length := by rw [lb]; omega
      refine eqL_at (row_at h1) (row_at h2) (line_ne_plc ?_)
      rw [List.getElem_take, List.getElem_take]
      exact hd
    · refine eqL_len ?_
      rw [row_len, row_len, lb, List.length_take]
      omega
section
variable {P : Program} {w : World} {K : PySem.W.Frag} {mg : Str → Option Value} {base : Heap} {f : Addr} {fd : FuncData}
/-! ### law -/
abbrev qLaw : Stmt := topS 81
def dLaw : Con := fun as Φ => ∃ ns : List Int, as = [.flst (ns.map D.int)] ∧ ns.length ≤ 63 ∧ Φ (.bl true)
abbrev nzLaw : List Str := ["_law_script", "_law_k", "_law_pool_here", "_law_lines", "_law_at", "_law_far", "_law_other", "_law_turn", "_law_many", "_law_bent"]
theorem zcLaw : FnScope nzLaw ["_law_script"] (defScope qLaw) := ⟨rfl, rfl, rfl, by decide +kernel, rfl, by decide +kernel, by decide +kernel⟩
theorem keep_script (ns : List Int) : keepSl (.va (.flst (ns.map D.int))) = .va (.flst (ns.map D.int)) := by
  have : (ns.map D.int).all isFl = true := by
    rw [List.all_eq_true]
    intro d hd
    obtain ⟨n, _, rfl⟩ := List.mem_map.mp hd
    rfl
  unfold keepSl
  dsimp only
  rw [if_pos this]
theorem qk_law (F : Fun K "law" "law" qLaw f fd) (T : Glb K mg) (Q : TK P w K mg base) (PO : FnP P w K mg base 1 "_law_pool" ["_law_script", "_law_k"] fun as => ∃ (ns : List Int) (k : Int), as = [.flst (ns.map D.int), .int k] ∧ ns.length ≤ 63) (GO : Fn P w K mg base 8 "_law_gone" ["_law_pool_here", "_law_many"] dGone) (AL : Fn P w K mg base 10 "_law_along_right" ["_law_lines"] dAlong)
    (IB : Fn P w K mg base 1 "is_beginning" ["one", "other"] cBegin) : FnOk P w K mg base CX0 11 f fd ["_law_script"] (spF K dLaw) := by
  refine fn_ok F zcLaw (fun ds Φ ⟨_, e, _⟩ => by rw [e]; rfl) fun cdv A outer s H E ds Φ hr c => ?_
  obtain ⟨ns, rfl, hns, h⟩ := c
  have nd := zcLaw.nd
  have hu := hr.units
  refine rr_for ?_
  refine ii_range T.zRange ?_
  refine ee_cb (call_max2 (by rfl)) rdc_max T.zMax (by decide +kernel) ?_
  refine aa_cons (ee_i ?_)
  refine aa_cons ?_
  refine ee_cb (call_min2 (by rfl)) rdc_min T.zMin (by decide +kernel) ?_
  refine aa_cons ?_
  refine ee_len T.zLen (ee_v (i := 0) rfl ?_)
  refine aa_cons (ee_i ?_)
  refine aa_nil ?_
  refine aa_nil ?_
  have hmm : ∃ j : Int, (if (if (6 : Int) < ((ns.map D.int).length : Int) then (6 : Int) else ((ns.map D.int).length : Int)) > 1 then (if (6 : Int) < ((ns.map D.int).length : Int) then (6 : Int) else ((ns.map D.int).length : Int)) else 1) = j ∧ 1 ≤ j ∧ j ≤ 6 := by
    refine ⟨_, rfl, ?_, ?_⟩ <;> split <;> split <;> omega
  obtain ⟨j, ej, j0, j1⟩ := hmm
  have e62 : (2 : Int) ^ 62 = 4611686018427387904 := by decide
  refine ⟨j, congrArg D.int ej, by omega, by omega, fun i ρ' => ∃ s1 s2 s3 s4 s5 s6 s7 s8 s9, ρ' = [.va (.flst (ns.map D.int)), s1, s2, s3, s4, s5, s6, s7, s8, s9], ⟨.un, .un, .un, .un, .un, .un, .un, .un, .un, rfl⟩, ?_, ?_⟩
  · rintro k ρ' hk ⟨s1, s2, s3, s4, s5, s6, s7, s8, s9, rfl⟩
    refine gg_name (i := 1) nd ?_
    refine rr_pool (i := 2) nd PO hr (by decide) ?_
    refine aa_cons (ee_v (i := 0) rfl ?_)
    refine aa_cons (ee_v (i := 1) rfl ?_)
    refine aa_nil ⟨⟨ns, k, rfl, hns⟩, ?_⟩
    refine rr_at [.va (.flst (ns.map D.int)), .va (.int k), .va .pool, keepSl s3, keepSl s4, keepSl s5, keepSl s6, keepSl s7, keepSl s8, keepSl s9] (congrArg (fun z => z :: [Sl.va (.int k), .va .pool, keepSl s3, keepSl s4, keepSl s5, keepSl s6, keepSl s7, keepSl s8, keepSl s9]) (keep_script ns)) ?_
    refine rr_asg ?_
    refine ee_call GO hr (by decide) ?_
    refine aa_cons (ee_v (i := 2) rfl ?_)
    refine aa_cons (ee_add (ee_i ?_))
    refine ee_call Q hr (by decide) ?_
    refine aa_cons (ee_v (i := 2) rfl ?_)
    refine aa_cons (ee_i ?_)
    refine aa_nil ⟨19, rfl, by decide, by decide, fun m m0 m1 => ?_⟩
    refine aa_nil ⟨2 + m, rfl, by omega, by omega, fun r hlen hrow hwho => ?_⟩
    refine gg_name (i := 3) nd ?_
    have hl2 : 2 ≤ r.length := by omega
    have hl20 : r.length ≤ 20 := by omega
    refine rr_if ?_
    refine tt_not <| tt_val <| ee_call AL hr (by decide) <| aa_cons <| ee_v (i := 3) rfl <| aa_nil ⟨r, rfl, hrow, by omega, _, rfl, brF <| rr_nil ?_⟩
    refine rr_asg ?_
    refine ee_call Q hr (by decide) ?_
    refine aa_cons (ee_v (i := 2) rfl ?_)
    refine aa_cons (ee_len T.zLen (ee_v (i := 3) rfl ?_))
    refine aa_nil ⟨((rowD r).length : Int), rfl, by rw [row_len]; omega, by rw [row_len]; omega, fun at_ a0 a1 => ?_⟩
    rw [row_len] at a1
    refine gg_name (i := 4) nd ?_
    obtain ⟨q, lq, er⟩ : ∃ (q : Row) (lq : (Int × Int) × En), r = q ++ [lq] := by
      rcases List.eq_nil_or_concat r with e | ⟨q, l, e⟩
      · rw [e] at hl2
        exact absurd hl2 (by decide)
      · exact ⟨q, l, by rw [e, List.concat_eq_append]⟩
    refine rr_asg ?_
    refine ee_add ?_
    refine ee_ixT ?_
    refine ee_ixT ?_
    refine ee_ixL (ee_v (i := 3) rfl ?_)
    refine ee_neg (ee_i ⟨1, rfl, lineD lq, ?_, ?_⟩)
    · rw [er, row_app]
      exact atLastD
    refine ee_i ⟨plcD lq.1, rfl, ?_⟩
    refine ee_i ⟨.int lq.1.1, rfl, ?_⟩
    refine ee_i ?_
    refine gg_name (i := 5) nd ?_
    obtain ⟨n, rfl⟩ : ∃ n : Nat, at_ = n := ⟨at_.toNat, by omega⟩
    have hn : n < r.length := by omega
    have hfar : ∀ (i : Nat) (hi : i < r.length), r[i].1.1 < lq.1.1 + 1 := fun i hi => by
      have hlast : r[r.length - 1]? = some lq := by rw [er]; simp
      have hl' : r.length - 1 < r.length := by omega
      rw [List.getElem?_eq_getElem hl'] at hlast
      have el := Option.some.inj hlast
      by_cases c : i = r.length - 1
      · subst c
        rw [el]
        omega
      · have t := plc_lt_at hrow (i := i + 1) (j := r.length - 1) (by omega) hl'
        rw [plc_step hi, el] at t
        unfold LtP at t
        omega
    refine rr_at [.va (.flst (ns.map D.int)), .va (.int k), .va .pool, .va (.lst (rowD r)), .va (.int n), .va (.int (lq.1.1 + 1)), keepSl s6, keepSl s7, keepSl s8, keepSl s9] rfl ?_
    -- the other row
    refine rr_asg ?_
    refine ee_addl ?_
    refine ee_slL (ee_v (i := 3) rfl ?_)
    refine ee_v (i := 4) rfl ⟨n, rfl, ?_⟩
    refine ee_lc (i := 7) nd (blkOk_by (N := nzLaw) (sc := defScope qLaw) (by decide +kernel)) ?_
    refine ii_range T.zRange ?_
    refine ee_add (ee_i ?_)
    refine ee_call Q hr (by decide) ?_
    refine aa_cons (ee_v (i := 2) rfl ?_)
    refine aa_cons (ee_i ?_)
    refine aa_nil ⟨3, rfl, by decide, by decide, fun t t0 t1 => ?_⟩
    refine ⟨1 + t, rfl, by omega, by omega, fun u acc => acc = rowD ((List.range u).map fun v : Nat => ((lq.1.1 + 1, 1 + (v : Int)), En.fin "xa")), rfl, fun u acc hu' ea s H C cl fp => ?_, fun acc ea => ?_⟩
    · refine ee_tup ?_
      refine aa_cons (ee_tup ?_)
      refine aa_cons (ee_v (i := 5) rfl ?_)
      refine aa_cons (ee_add (ee_i (ee_v (i := 7) rfl ?_)))
      refine aa_nil ⟨Nat.le_of_ble_eq_true rfl, ?_⟩
      refine aa_cons (ee_tup ?_)
      refine aa_cons (ee_s ?_)
      refine aa_cons (ee_s ?_)
      refine aa_nil ⟨Nat.le_of_ble_eq_true rfl, ?_⟩
      refine aa_nil ⟨Nat.le_of_ble_eq_true rfl, ?_⟩
      subst ea
      refine ⟨by rw [row_len, List.length_map, List.length_range]; omega, ?_⟩
      show rowD _ ++ _ = rowD ((List.range (u + 1)).map fun v : Nat => ((lq.1.1 + 1, 1 + (v : Int)), En.fin "xa"))
      rw [List.range_succ, List.map_append, row_app]
      rfl
    obtain ⟨qq, eqq, lqq0, lqq1, hqq⟩ : ∃ qq : Row, acc = rowD qq ∧ 0 < qq.length ∧ qq.length ≤ 3 ∧ ∀ (h0 : 0 < qq.length), qq[0].1 = (lq.1.1 + 1, 1) := by
      refine ⟨_, ea, by rw [List.length_map, List.length_range]; omega, by rw [List.length_map, List.length_range]; omega, fun h0 => ?_⟩
      rw [List.getElem_map, List.getElem_range]
      rfl
    subst eqq
    clear ea
    show LAdd (.lst (cutD (rowD r) none (some (n : Int)))) (.lst (rowD qq)) _
    rw [cut_take, row_take]
    have ltn : (r.take n).length = n := by rw [List.length_take]; omega
    refine ⟨sz1000 (by rw [row_len, row_len, ltn]; omega), ?_⟩
    rw [← row_app]
    obtain ⟨o, eo, lo1, lo2, hot, hod⟩ : ∃ o : Row, r.take n ++ qq = o ∧ n < o.length ∧ o.length ≤ n + 3 ∧ r.take n = o.take n ∧ ∀ (h1 : n < o.length), o[n].1 = (lq.1.1 + 1, 1) := by
      refine ⟨_, rfl, by rw [List.length_append, ltn]; omega, by rw [List.length_append, ltn]; omega, ?_, fun h1 => ?_⟩
      · rw [List.take_append_of_le_length (Nat.le_of_eq ltn.symm)]
        exact (List.take_of_length_le (Nat.le_of_eq ltn)).symm
      · rw [List.getElem_append_right (by omega)]
        have := hqq lqq0
        simp only [ltn, Nat.sub_self]
        exact this
    rw [eo]
    have hdne : r[n].1 ≠ o[n].1 := fun z => by
      have h1 := hfar n hn
      rw [z, hod lo1] at h1
      exact absurd h1 (by show ¬ (lq.1.1 + 1 < lq.1.1 + 1); omega)
    have prr : ∀ d ∈ rowD r, Pl 20 d := pl_row 15 r
    have prt : ∀ m, ∀ d ∈ rowD (r.take m), Pl 20 d := fun m => pl_row 15 _
    have pro : ∀ d ∈ rowD o, Pl 20 d := pl_row 15 o
    have prm : ∀ m, ∀ d ∈ rowD (o.take m), Pl 20 d := fun m => pl_row 15 _
    refine gg_name (i := 6) nd ?_
    refine rr_at [.va (.flst (ns.map D.int)), .va (.int k), .va .pool, .va (.lst (rowD r)), .va (.int n), .va (.int (lq.1.1 + 1)), .va (.lst (rowD o)), keepSl s7, keepSl s8, keepSl s9] rfl ?_
    have dec_nat : ∀ a b : Nat, decide ((a : Int) ≤ (b : Int)) = decide (a ≤ b) := fun a b => decide_eq_decide.mpr Int.ofNat_le
    refine rr_for ?_
    refine ii_range T.zRange ?_
    refine ee_add (ee_len T.zLen (ee_v (i := 6) rfl (ee_i ?_)))
    refine ⟨((rowD o).length : Int) + 1, rfl, by omega, by rw [row_len]; omega, fun i ρ' => ∃ s7 s8 s9, ρ' = [.va (.flst (ns.map D.int)), .va (.int k), .va .pool, .va (.lst (rowD r)), .va (.int n), .va (.int (lq.1.1 + 1)), .va (.lst (rowD o)), s7, s8, s9], ⟨_, _, _, rfl⟩, ?_, ?_⟩
    · rintro m ρ' hm ⟨s7, s8, s9, rfl⟩
      rw [row_len] at hm
      refine gg_name (i := 8) nd ?_
      refine rr_if ?_
      refine tt_cmp op_ne rd_neS ?_
      refine ee_reprB T.zRepr ?_
      refine ee_call IB hr (by decide) ?_
      refine aa_cons (ee_slL (ee_v (i := 6) rfl ?_))
      refine ee_v (i := 8) rfl ⟨m, rfl, ?_⟩
      unfold SlL
      dsimp only
      rw [cut_take, row_take]
      refine aa_cons (ee_v (i := 3) rfl ?_)
      refine aa_nil ⟨_, _, rfl, prm m, prr, ?_⟩
      rw [part_eq hn lo1 hot hdne m (by omega)]
      refine ⟨_, rfl, ?_⟩
      refine ee_reprB T.zRepr ?_
      refine ee_cmp op_le rd_B0 (ee_v (i := 8) rfl (ee_v (i := 4) rfl ?_))
      refine ⟨_, rfl, ?_⟩
      rw [dec_nat]
      refine teq (eqS_T rfl) (brF (rr_nil (rr_nil ?_)))
      exact ⟨_, _, _, rfl⟩
    rintro ρ' ⟨s7, s8, s9, rfl⟩
    refine rr_for ?_
    refine ii_range T.zRange ?_
    refine ee_add (ee_len T.zLen (ee_v (i := 3) rfl (ee_i ?_)))
    refine ⟨((rowD r).length : Int) + 1, rfl, by omega, by rw [row_len]; omega, fun i ρ' => ∃ s7 s8 s9, ρ' = [.va (.flst (ns.map D.int)), .va (.int k), .va .pool, .va (.lst (rowD r)), .va (.int n), .va (.int (lq.1.1 + 1)), .va (.lst (rowD o)), s7, s8, s9], ⟨_, _, _, rfl⟩, ?_, ?_⟩
    · rintro m ρ' hm ⟨s7, s8, s9, rfl⟩
      rw [row_len] at hm
      refine gg_name (i := 8) nd ?_
      refine rr_if ?_
      refine tt_cmp op_ne rd_neS ?_
      refine ee_reprB T.zRepr ?_
      refine ee_call IB hr (by decide) ?_
      refine aa_cons (ee_slL (ee_v (i := 3) rfl ?_))
      refine ee_v (i := 8) rfl ⟨m, rfl, ?_⟩
      unfold SlL
      dsimp only
      rw [cut_take, row_take]
      refine aa_cons (ee_v (i := 6) rfl ?_)
      refine aa_nil ⟨_, _, rfl, prt m, pro, ?_⟩
      rw [part_eq lo1 hn hot.symm (Ne.symm hdne) m (by omega)]
      refine ⟨_, rfl, ?_⟩
      refine ee_reprB T.zRepr ?_
      refine ee_cmp op_le rd_B0 (ee_v (i := 8) rfl (ee_v (i := 4) rfl ?_))
      refine ⟨_, rfl, ?_⟩
      rw [dec_nat]
      refine teq (eqS_T rfl) (brF (rr_nil ?_))
      refine rr_ifS ?_ (rr_nil ⟨_, _, _, rfl⟩)
      refine tt_bool (tw_and (tt_not (tt_val ?_)))
      refine ee_call IB hr (by decide) ?_
      refine aa_cons (ee_slL (ee_v (i := 3) rfl ?_))
      refine ee_v (i := 8) rfl ⟨m, rfl, ?_⟩
      unfold SlL
      dsimp only
      rw [cut_take, row_take]
      refine aa_cons (ee_slL (ee_v (i := 3) rfl ?_))
      refine ee_v (i := 4) rfl ⟨n, rfl, ?_⟩
      unfold SlL
      dsimp only
      rw [cut_take, row_take]
      refine aa_nil ⟨_, _, rfl, prt m, prt n, ?_⟩
      by_cases c : m ≤ n
      · have e : eqL ((rowD (r.take n)).take (rowD (r.take m)).length) (rowD (r.take m)) = true := by
          rw [row_len, row_take, List.take_take, List.length_take, show min (min m r.length) n = m by omega]
          exact eqL_row
        rw [e]
        exact ⟨_, rfl, brF (brF (rr_nil rfl))⟩
      · refine ⟨_, rfl, fun _ => ?_, fun _ => brF (rr_nil rfl)⟩
        refine tw_and1 (tt_not (tt_val ?_))
        refine ee_call IB hr (by decide) ?_
        refine aa_cons (ee_slL (ee_v (i := 3) rfl ?_))
        refine ee_v (i := 4) rfl ⟨n, rfl, ?_⟩
        unfold SlL
        dsimp only
        rw [cut_take, row_take]
        refine aa_cons (ee_slL (ee_v (i := 3) rfl ?_))
        refine ee_v (i := 8) rfl ⟨m, rfl, ?_⟩
        unfold SlL
        dsimp only
        rw [cut_take, row_take]
        refine aa_nil ⟨_, _, rfl, prt n, prt m, ?_⟩
        have e : eqL ((rowD (r.take m)).take (rowD (r.take n)).length) (rowD (r.take n)) = true := by
          rw [row_len, row_take, List.take_take, ltn, show min n m = n by omega]
          exact eqL_row
        rw [e]
        exact ⟨_, rfl, brF (rr_nil rfl)⟩
    rintro ρ' ⟨s7, s8, s9, rfl⟩
    -- the bent row
    have hw' : whoOf r[n].2 ≠ "qqq" := hwho _ (List.getElem_mem hn)
    obtain ⟨bt, ebt⟩ : ∃ bt : Row, bt = r.take n ++ [(r[n].1, En.fin "qqq")] ++ r.drop (n + 1) := ⟨_, rfl⟩
    refine rr_asg ?_
    refine ee_addl ?_
    refine ee_addl ?_
    refine ee_slL (ee_v (i := 3) rfl ?_)
    refine ee_v (i := 4) rfl ⟨n, rfl, ?_⟩
    unfold SlL
    dsimp only
    rw [cut_take, row_take]
    refine ee_lst ?_
    refine aa_cons (ee_tup ?_)
    refine aa_cons ?_
    refine ee_ixT ?_
    refine ee_ixL (ee_v (i := 3) rfl ?_)
    refine ee_v (i := 4) rfl ⟨lineD r[n], ?_, ?_⟩
    · unfold atI ixN
      rw [if_pos (by omega), if_pos (by rw [row_len]; omega)]
      exact row_at hn
    refine ee_i ⟨plcD r[n].1, rfl, ?_⟩
    refine aa_cons (ee_tup ?_)
    refine aa_cons (ee_s ?_)
    refine aa_cons (ee_s ?_)
    refine aa_nil ⟨Nat.le_of_ble_eq_true rfl, ?_⟩
    refine aa_nil ⟨Nat.le_of_ble_eq_true rfl, ?_⟩
    refine aa_nil ⟨Nat.le_of_ble_eq_true rfl, ?_⟩
    refine ⟨sz1000 (by rw [row_len, ltn]; show n + 1 ≤ _; omega), ?_⟩
    refine ee_slL (ee_v (i := 3) rfl ?_)
    refine ee_add (ee_v (i := 4) rfl (ee_i ?_))
    refine ⟨(n : Int) + 1, rfl, ?_⟩
    have edrop : cutD (rowD r) (some ((n : Int) + 1)) none = rowD (r.drop (n + 1)) := by
      unfold cutD
      have e1 : HT.sIx (rowD r).length 0 (some ((n : Int) + 1)) = n + 1 := by
        have := HT.sIx_nat (rowD r).length 0 (n + 1)
        rw [row_len] at this ⊢
        rw [show ((n : Int) + 1) = ((n + 1 : Nat) : Int) by omega, this]
        omega
      have e2 : HT.sIx (rowD r).length (rowD r).length none = (rowD r).length := rfl
      rw [e1, e2, List.take_of_length_le (by rw [List.length_drop]; exact Nat.le_refl _), row_drop]
    unfold OO SlL
    dsimp only
    rw [edrop]
    have hbl : bt.length = r.length := by
      rw [ebt, List.length_append, List.length_append, ltn, List.length_drop]
      show n + 1 + _ = _
      omega
    refine ⟨sz1000 (by rw [List.length_append, row_len, ltn, row_len, List.length_drop]; show n + 1 + _ ≤ _; omega), ?_⟩
    have hbd : D.lst (rowD (r.take n) ++ [.tup [plcD r[n].1, .tup [.str "end", .str "qqq"]]] ++ rowD (r.drop (n + 1))) = .lst (rowD bt) := by
      rw [ebt, row_app, row_app]
      rfl
    show GG _ _ (D.lst (rowD (r.take n) ++ [.tup [plcD r[n].1, .tup [.str "end", .str "qqq"]]] ++ rowD (r.drop (n + 1)))) _ _
    rw [hbd]
    refine gg_name (i := 9) nd ?_
    have hbn : n < bt.length := by omega
    have hbat : bt[n] = (r[n].1, En.fin "qqq") := by
      have : bt[n]? = some (r[n].1, En.fin "qqq") := by
        rw [ebt, List.append_assoc, List.getElem?_append_right (by omega), ltn, Nat.sub_self]
        rfl
      rw [List.getElem?_eq_getElem hbn] at this
      exact Option.some.inj this
    have hbt : bt.take n = r.take n := by
      rw [ebt, List.append_assoc, List.take_append_of_le_length (Nat.le_of_eq ltn.symm), List.take_of_length_le (Nat.le_of_eq ltn)]
    have pbt : ∀ d ∈ rowD bt, Pl 20 d := pl_row 15 bt
    have pbm : ∀ m, ∀ d ∈ rowD (bt.take m), Pl 20 d := fun m => pl_row 15 _
    have hne := (line_ne_who (p := r[n].1) hw').1
    have fin : ∃ t1 t2 t3 t4 t5 t6 t7 t8 t9, (keepSl (Sl.va (.flst (ns.map D.int))) :: keepSl (Sl.va (.int k)) :: keepSl (Sl.va .pool) :: keepSl (Sl.va (.lst (rowD r))) :: keepSl (Sl.va (.int n)) :: keepSl (Sl.va (.int (lq.1.1 + 1))) :: keepSl (Sl.va (.lst (rowD o))) :: keepSl s7 :: keepSl s8 :: [keepSl (Sl.va (.lst (rowD bt)))] : List Sl) = [Sl.va (.flst (ns.map D.int)), t1, t2, t3, t4, t5, t6, t7, t8, t9] := by
      rw [keep_script]
      exact ⟨_, _, _, _, _, _, _, _, _, rfl⟩
    refine rr_ifS ?_ (rr_nil fin)
    refine tt_bool (tw_or (tt_val ?_))
    refine ee_call IB hr (by decide) ?_
    refine aa_cons (ee_v (i := 9) rfl ?_)
    refine aa_cons (ee_v (i := 3) rfl ?_)
    refine aa_nil ⟨_, _, rfl, pbt, prr, ?_⟩
    have f1 : eqL ((rowD r).take (rowD bt).length) (rowD bt) = false := by
      rw [row_len, hbl, List.take_of_length_le (by rw [row_len]; exact Nat.le_refl _)]
      refine eqL_at (row_at hn) (row_at hbn) ?_
      rw [hbat]
      exact hne
    rw [f1]
    refine ⟨_, rfl, brF ?_⟩
    refine tw_or (tt_val ?_)
    refine ee_call IB hr (by decide) ?_
    refine aa_cons (ee_slL (ee_v (i := 9) rfl ?_))
    refine ee_add (ee_v (i := 4) rfl (ee_i ?_))
    refine ⟨((n + 1 : Nat) : Int), by rfl, ?_⟩
    unfold SlL
    dsimp only
    rw [cut_take, row_take]
    refine aa_cons (ee_v (i := 3) rfl ?_)
    refine aa_nil ⟨_, _, rfl, pbm _, prr, ?_⟩
    have lbn : (bt.take (n + 1)).length = n + 1 := by rw [List.length_take]; omega
    have f2 : eqL ((rowD r).take (rowD (bt.take (n + 1))).length) (rowD (bt.take (n + 1))) = false := by
      rw [row_len, lbn, row_take]
      have h1 : n < (r.take (n + 1)).length := by rw [List.length_take]; omega
      have h2 : n < (bt.take (n + 1)).length := by omega
      refine eqL_at (row_at h1) (row_at h2) ?_
      rw [List.getElem_take, List.getElem_take, hbat]
      exact hne
    rw [f2]
    refine ⟨_, rfl, brF ?_⟩
    refine tw_or1 (tt_not (tt_val ?_))
    refine ee_call IB hr (by decide) ?_
    refine aa_cons (ee_slL (ee_v (i := 9) rfl ?_))
    refine ee_v (i := 4) rfl ⟨n, rfl, ?_⟩
    unfold SlL
    dsimp only
    rw [cut_take, row_take, hbt]
    refine aa_cons (ee_v (i := 3) rfl ?_)
    refine aa_nil ⟨_, _, rfl, prt n, prr, ?_⟩
    have f3 : eqL ((rowD r).take (rowD (r.take n)).length) (rowD (r.take n)) = true := by
      rw [row_len, ltn, row_take]
      exact eqL_row
    rw [f3]
    exact ⟨_, rfl, brF (rr_nil rfl)⟩
  · rintro ρ' ⟨s1, s2, s3, s4, s5, s6, s7, s8, s9, rfl⟩
    refine rr_ret ?_
    refine ee_cmp op_is_bl rd_isB ?_
    refine ee_call IB hr (by decide) ?_
    refine aa_cons (ee_lst (aa_nil ⟨Nat.zero_le _, ?_⟩))
    refine aa_cons (ee_lst (aa_nil ⟨Nat.zero_le _, ?_⟩))
    refine aa_nil ⟨[], [], rfl, pl_nil, pl_nil, ?_⟩
    exact ee_b h
end
end Lg
namespace Lg
open PySem PySem.Spec PyProof.Rows L2 TL
/-- a def as the top has written it -/
def DefIs (K : PySem.W.Frag) (x : Str) (st : Stmt) : Prop := ∃ (f : Addr) (od an : Option Addr) (sl : Array (Option Value)) (oc kV dc pm cd ct : Value), PySem.W.nsIn K mainGlobals x = some (some (.ref f)) ∧
  K.lookup f = some ⟨oc, od, .func (PySem.W.fnOf x x (defArgs st) (defBody st) (defScope st) .none kV dc pm an cd ct), sl⟩ ∧ PySem.W.codeIn K cd x = true ∧ PySem.W.keepIn K (.ref f) = true
def NoneIs (K : PySem.W.Frag) (x : Str) : Prop := PySem.W.nsIn K mainGlobals x = some none
section
variable {P : Program} {w : World} {K : PySem.W.Frag} {mg : Str → Option Value} {base h : Heap}
theorem fn_of {x : Str} {st : Stmt} {ps : List Str} {k : Nat} {C : Con} (X : K.In h) (G : h.Ns mainGlobals mg) (d : DefIs K x st) (hF : ∀ f fd, Fun K x x st f fd → FnOk P w K mg base CX0 k f fd ps (spF K C))
    (hb : ∀ (kV doc pm : Value) (an : Option Addr) (cdv ct : Value) (us : List Value), us.length = ps.length → bindArgs (PySem.W.fnOf x x (defArgs st) (defBody st) (defScope st) .none kV doc pm an cdv ct) ⟨us, []⟩ = pure (ps.zip us)) : Fn P w K mg base k x ps C := by
  obtain ⟨f, od, an, sl, oc, kV, dc, pm, cd, ct, a, l, c, kp⟩ := d
  have F := fun_mk (st := st) l c kp
  exact ⟨f, _, hF f _ F, PySem.W.mg_of X G a, kp, F.binds fun kV doc pm an cdv ct us hl => hb kV doc pm an cdv ct us hl⟩
theorem fnk_of {x : Str} {st : Stmt} {ps : List Str} {k n : Nat} {ks : List Str} {C : Con} (X : K.In h) (G : h.Ns mainGlobals mg) (d : DefIs K x st) (hF : ∀ f fd, Fun K x x st f fd → FnOk P w K mg base CX0 k f fd ps (spF K C))
    (hb : ∀ (kV doc pm : Value) (an : Option Addr) (cdv ct : Value) (us ws : List Value), us.length = n → ws.length = ks.length → bindArgs (PySem.W.fnOf x x (defArgs st) (defBody st) (defScope st) .none kV doc pm an cdv ct) ⟨us, ks.zip ws⟩ = pure (ps.zip (us ++ ws))) : FnK P w K mg base k x ps n ks C := by
  obtain ⟨f, od, an, sl, oc, kV, dc, pm, cd, ct, a, l, c, kp⟩ := d
  have F := fun_mk (st := st) l c kp
  exact ⟨f, _, hF f _ F, PySem.W.mg_of X G a, kp, ⟨fun s us ws _ l1 l2 => .of_eq (hb kV dc pm an cd ct us ws l1 l2), fun r1 r2 => r1.append r2⟩⟩
theorem fno_of {x : Str} {st : Stmt} {ps : List Str} {k : Nat} {C : List (Str × D) → List (Str × D) → Str → (D → Prop) → Prop} (X : K.In h) (G : h.Ns mainGlobals mg) (d : DefIs K x st) (hF : ∀ f fd, Fun K x x st f fd → FnOk P w K mg base CX0 k f fd ps (spO K C))
    (hb : ∀ (kV doc pm : Value) (an : Option Addr) (cdv ct : Value) (us : List Value), us.length = ps.length → bindArgs (PySem.W.fnOf x x (defArgs st) (defBody st) (defScope st) .none kV doc pm an cdv ct) ⟨us, []⟩ = pure (ps.zip us)) : FnO P w K mg base k x ps C := by
  obtain ⟨f, od, an, sl, oc, kV, dc, pm, cd, ct, a, l, c, kp⟩ := d
  have F := fun_mk (st := st) l c kp
  exact ⟨f, _, hF f _ F, PySem.W.mg_of X G a, kp, F.binds fun kV doc pm an cdv ct us hl => hb kV doc pm an cdv ct us hl⟩
theorem fnp_of {x : Str} {st : Stmt} {ps : List Str} {k : Nat} {C : List D → Prop} (X : K.In h) (G : h.Ns mainGlobals mg) (d : DefIs K x st) (hF : ∀ f fd, Fun K x x st f fd → FnOk P w K mg base CX0 k f fd ps (spPool K C))
    (hb : ∀ (kV doc pm : Value) (an : Option Addr) (cdv ct : Value) (us : List Value), us.length = ps.length → bindArgs (PySem.W.fnOf x x (defArgs st) (defBody st) (defScope st) .none kV doc pm an cdv ct) ⟨us, []⟩ = pure (ps.zip us)) : FnP P w K mg base k x ps C := by
  obtain ⟨f, od, an, sl, oc, kV, dc, pm, cd, ct, a, l, c, kp⟩ := d
  have F := fun_mk (st := st) l c kp
  exact ⟨f, _, hF f _ F, PySem.W.mg_of X G a, kp, F.binds fun kV doc pm an cdv ct us hl => hb kV doc pm an cdv ct us hl⟩
/-- .. for one, two and more parameters, by the text -/
theorem test1 (X : K.In h) (G : h.Ns mainGlobals mg) (T : Glb K mg) (d : DefIs K "is_whole" sWhole) : Fn P w K mg base 1 "is_whole" ["thing"] cWhole :=
  fn_of X G d (fun f fd F => ok_whole F T) fun _ _ _ _ _ _ us hl => match us, hl with | [_], _ => rfl
end
end Lg
namespace Lg
open PySem PySem.Spec PyProof.Rows L2 TL
structure DefsOk (K : PySem.W.Frag) : Prop where
  dis_whole : DefIs K "is_whole" sWhole
  dis_word : DefIs K "is_word" sWord
  dis_part : DefIs K "is_part" sPart
  dparts_of : DefIs K "parts_of" sPartsOf
  dis_path : DefIs K "is_path" sIsPath
  dis_place : DefIs K "is_place" sPlace
  dpath_of : DefIs K "path_of" sPathOf
  dparent_of : DefIs K "parent_of" sParentOf
  dlast_part : DefIs K "last_part" sLastPart
  dis_text : DefIs K "is_text" sText
  dis_count : DefIs K "is_count" sCount
  dis_make : DefIs K "is_make" sIsMake
  dis_plain : DefIs K "is_plain" sPlain
  dfirst_nodes : DefIs K "first_nodes" sFirstNodes
  dkids_of : DefIs K "kids_of" sKids
  drefused : DefIs K "refused" sRefused
  dnumbered_path : DefIs K "numbered_path" sNumbered
  dmake : DefIs K "make" sMake
  dput : DefIs K "put" sPut
  ddropped : DefIs K "dropped" sDropped
  ddrop : DefIs K "drop" sDrop
  ddone_plain : DefIs K "done_plain" sDonePlain
  dis_deed : DefIs K "is_deed" sDeed
  dis_entry : DefIs K "is_entry" sEntry
  dfirst_state : DefIs K "first_state" sFirstState
  dwithout_owner : DefIs K "without_owner" sWithout
  ddone_all : DefIs K "done_all" sDoneAll
  ddone_deed : DefIs K "done_deed" sDoneDeed
  dended : DefIs K "ended" sEnded
  ddone : DefIs K "done" sDone
  dgoes_on : DefIs K "goes_on" sGoesOn
  dis_row : DefIs K "is_row" sIsRow
  dstate_of : DefIs K "state_of" sStateOf
  dtold_by : DefIs K "told_by" sToldBy
  dis_beginning : DefIs K "is_beginning" sBegin
  dup_to : DefIs K "up_to" sUpTo
  dbehind : DefIs K "behind" sBehind
  dlast_place : DefIs K "last_place" sLastPlace
  d_law_pool : DefIs K "_law_pool" qPool
  d_law_take : DefIs K "_law_take" qTake
  d_law_word : DefIs K "_law_word" qWord
  d_law_part : DefIs K "_law_part" qPart
  d_law_line : DefIs K "_law_line" qLine
  d_law_path : DefIs K "_law_path" qPath
  d_law_count : DefIs K "_law_count" qCount
  d_law_deed : DefIs K "_law_deed" qDeed
  d_law_above : DefIs K "_law_above" qAbove
  d_law_kids : DefIs K "_law_kids" qKids
  d_law_make : DefIs K "_law_make" qMake
  d_law_plainly : DefIs K "_law_plainly" qPlainly
  d_law_left : DefIs K "_law_left" qLeft
  d_law_all_done : DefIs K "_law_all_done" qAllDone
  d_law_does : DefIs K "_law_does" qDoes
  d_law_due : DefIs K "_law_due" qDue
  d_law_task : DefIs K "_law_task" qTask
  d_law_drawn_line : DefIs K "_law_drawn_line" qDrawn
  d_law_gone : DefIs K "_law_gone" qGone
  d_law_along_right : DefIs K "_law_along_right" qAlong
  dlaw : DefIs K "law" qLaw
theorem all_law {l : PySem.W.OpenLaw} {w : World} {K : PySem.W.Frag} {h : Heap} {mg : Str → Option Value} {fa : Addr} (X : K.In h) (G : h.Ns mainGlobals mg) (hfa : mg "law" = some (.ref fa)) (T : Glb K mg) (L : LongOk K w mg) (Z : DefsOk K) :
    ∃ fd : FuncData, (∀ (s : Shared) (v : Value), BindsTo s fd ⟨[v], []⟩ [("_law_script", v)]) ∧ ∀ base : Heap, K.In base → base.Ns mainGlobals mg → FnOk l.prog w K mg base CX0 11 fa fd ["_law_script"] (spF K dLaw) := by
  obtain ⟨f, od, an, sl, oc, kV, dc, pm, cd, ct, a, lk, c, kp⟩ := Z.dlaw
  have e := hfa.symm.trans (PySem.W.mg_of X G a)
  cases e
  have F := fun_mk (st := qLaw) lk c kp
  refine ⟨PySem.W.fnOf "law" "law" (defArgs qLaw) (defBody qLaw) (defScope qLaw) .none kV dc pm an cd ct, fun s v => .of_eq rfl, fun base _ _ => ?_⟩
  have xis_whole : Fn l.prog w K mg base 1 "is_whole" ["thing"] cWhole := fn_of X G Z.dis_whole (fun f fd F => ok_whole F T ) (fun _ _ _ _ _ _ us hl => match us, hl with | [_], _ => rfl)
  have xis_word : Fn l.prog w K mg base 1 "is_word" ["thing"] cWord := fn_of X G Z.dis_word (fun f fd F => ok_word F T ) (fun _ _ _ _ _ _ us hl => match us, hl with | [_], _ => rfl)
  have xis_part : Fn l.prog w K mg base 2 "is_part" ["thing"] cPart := fn_of X G Z.dis_part (fun f fd F => ok_part F T xis_word) (fun _ _ _ _ _ _ us hl => match us, hl with | [_], _ => rfl)
  have xparts_of : Fn l.prog w K mg base 1 "parts_of" ["path"] cPartsOf := fn_of X G Z.dparts_of (fun f fd F => ok_partsOf F T ) (fun _ _ _ _ _ _ us hl => match us, hl with | [_], _ => rfl)
  have xis_path : Fn l.prog w K mg base 3 "is_path" ["thing"] cIsPath := fn_of X G Z.dis_path (fun f fd F => ok_isPath F T xparts_of xis_part) (fun _ _ _ _ _ _ us hl => match us, hl with | [_], _ => rfl)
  have xis_place : Fn l.prog w K mg base 2 "is_place" ["thing"] cPlace := fn_of X G Z.dis_place (fun f fd F => ok_place F T xis_whole) (fun _ _ _ _ _ _ us hl => match us, hl with | [_], _ => rfl)
  have xpath_of : Fn l.prog w K mg base 1 "path_of" ["parts"] cPathOf := fn_of X G Z.dpath_of (fun f fd F => ok_pathOf F T ) (fun _ _ _ _ _ _ us hl => match us, hl with | [_], _ => rfl)
  have xparent_of : Fn l.prog w K mg base 2 "parent_of" ["path"] cParentOf := fn_of X G Z.dparent_of (fun f fd F => ok_parentOf F T xpath_of xparts_of) (fun _ _ _ _ _ _ us hl => match us, hl with | [_], _ => rfl)
  have xlast_part : Fn l.prog w K mg base 2 "last_part" ["path"] cLastPart := fn_of X G Z.dlast_part (fun f fd F => ok_lastPart F T xparts_of) (fun _ _ _ _ _ _ us hl => match us, hl with | [_], _ => rfl)
  have xis_text : Fn l.prog w K mg base 1 "is_text" ["thing"] cText := fn_of X G Z.dis_text (fun f fd F => ok_text F T ) (fun _ _ _ _ _ _ us hl => match us, hl with | [_], _ => rfl)
  have xis_count : Fn l.prog w K mg base 2 "is_count" ["thing"] cCount := fn_of X G Z.dis_count (fun f fd F => ok_count F T xis_whole) (fun _ _ _ _ _ _ us hl => match us, hl with | [_], _ => rfl)
  have xis_make : Fn l.prog w K mg base 3 "is_make" ["path", "rest"] cIsMake := fn_of X G Z.dis_make (fun f fd F => ok_isMake F T xis_word xis_text xlast_part) (fun _ _ _ _ _ _ us hl => match us, hl with | [_, _], _ => rfl)
  have xis_plain : Fn l.prog w K mg base 4 "is_plain" ["thing"] cPlain := fn_of X G Z.dis_plain (fun f fd F => ok_plain F T L xis_text xis_path xis_count xis_make) (fun _ _ _ _ _ _ us hl => match us, hl with | [_], _ => rfl)
  have xfirst_nodes : Fn l.prog w K mg base 1 "first_nodes" [] cFirstNodes := fn_of X G Z.dfirst_nodes (fun f fd F => ok_firstNodes F T ) (fun _ _ _ _ _ _ us hl => match us, hl with | [], _ => rfl)
  have xkids_of : Fn l.prog w K mg base 3 "kids_of" ["nodes", "path"] cKids := fn_of X G Z.dkids_of (fun f fd F => ok_kids F T xlast_part xparent_of) (fun _ _ _ _ _ _ us hl => match us, hl with | [_, _], _ => rfl)
  have xrefused : Fn l.prog w K mg base 1 "refused" ["nodes", "word"] cRefused := fn_of X G Z.drefused (fun f fd F => ok_refused F T ) (fun _ _ _ _ _ _ us hl => match us, hl with | [_, _], _ => rfl)
  have xnumbered_path : Fn l.prog w K mg base 1 "numbered_path" ["path", "made"] cNumbered := fn_of X G Z.dnumbered_path (fun f fd F => ok_numbered F T ) (fun _ _ _ _ _ _ us hl => match us, hl with | [_, _], _ => rfl)
  have xmake : Fn l.prog w K mg base 3 "make" ["nodes", "asker", "path", "text", "own", "numbered"] cMake := fn_of X G Z.dmake (fun f fd F => ok_make F T xparent_of xrefused xnumbered_path) (fun _ _ _ _ _ _ us hl => match us, hl with | [_, _, _, _, _, _], _ => rfl)
  have xput : Fn l.prog w K mg base 1 "put" ["nodes", "path", "text"] cPut := fn_of X G Z.dput (fun f fd F => ok_put F T ) (fun _ _ _ _ _ _ us hl => match us, hl with | [_, _, _], _ => rfl)
  have xdropped : Fn l.prog w K mg base 3 "dropped" ["nodes", "path"] cDropped := fn_of X G Z.ddropped (fun f fd F => ok_dropped F T xparent_of) (fun _ _ _ _ _ _ us hl => match us, hl with | [_, _], _ => rfl)
  have xdrop : Fn l.prog w K mg base 4 "drop" ["nodes", "path"] cDrop := fn_of X G Z.ddrop (fun f fd F => ok_drop F T xkids_of xrefused xdropped) (fun _ _ _ _ _ _ us hl => match us, hl with | [_, _], _ => rfl)
  have xdone_plain : FnK l.prog w K mg base 5 "done_plain" ["nodes", "deed", "asker"] 2 ["asker"] cDonePlain := fnk_of X G Z.ddone_plain (fun f fd F => ok_donePlain F T xis_plain xmake xrefused xput xdrop) (fun _ _ _ _ _ _ us ws hl hw => match us, ws, hl, hw with | [_, _], [_], _, _ => rfl)
  have xis_deed : Fn l.prog w K mg base 5 "is_deed" ["thing"] cDeed := fn_of X G Z.dis_deed (fun f fd F => ok_deed F T xis_plain xis_whole) (fun _ _ _ _ _ _ us hl => match us, hl with | [_], _ => rfl)
  have xis_entry : Fn l.prog w K mg base 6 "is_entry" ["thing"] cEntry := fn_of X G Z.dis_entry (fun f fd F => ok_entry F T xis_word xis_whole xis_deed) (fun _ _ _ _ _ _ us hl => match us, hl with | [_], _ => rfl)
  have xfirst_state : Fn l.prog w K mg base 2 "first_state" [] cFirstState := fn_of X G Z.dfirst_state (fun f fd F => ok_firstState F T xfirst_nodes) (fun _ _ _ _ _ _ us hl => match us, hl with | [], _ => rfl)
  have xwithout_owner : Fn l.prog w K mg base 4 "without_owner" ["nodes", "asker"] cWithout := fn_of X G Z.dwithout_owner (fun f fd F => ok_without F T xdropped) (fun _ _ _ _ _ _ us hl => match us, hl with | [_, _], _ => rfl)
  have xdone_all : Fn l.prog w K mg base 6 "done_all" ["nodes", "deeds", "asker"] cDoneAll := fn_of X G Z.ddone_all (fun f fd F => ok_doneAll F T xdone_plain) (fun _ _ _ _ _ _ us hl => match us, hl with | [_, _, _], _ => rfl)
  have xdone_deed : Fn l.prog w K mg base 7 "done_deed" ["nodes", "limit", "deed", "asker"] cDoneDeed := fn_of X G Z.ddone_deed (fun f fd F => ok_doneDeed F T xwithout_owner xdone_all xdone_plain) (fun _ _ _ _ _ _ us hl => match us, hl with | [_, _, _, _], _ => rfl)
  have xended : FnO l.prog w K mg base 5 "ended" ["nodes", "sessions", "asker"] cEnded := fno_of X G Z.dended (fun f fd F => ok_ended F T xwithout_owner) (fun _ _ _ _ _ _ us hl => match us, hl with | [_, _, _], _ => rfl)
  have xdone : FnK l.prog w K mg base 8 "done" ["state", "entry", "place"] 2 ["place"] cDone := fnk_of X G Z.ddone (fun f fd F => ok_done F T xis_entry xended xdone_deed) (fun _ _ _ _ _ _ us ws hl hw => match us, ws, hl, hw with | [_, _], [_], _, _ => rfl)
  have xgoes_on : Fn l.prog w K mg base 1 "goes_on" ["ahead", "place"] cGoesOn := fn_of X G Z.dgoes_on (fun f fd F => ok_goesOn F T ) (fun _ _ _ _ _ _ us hl => match us, hl with | [_, _], _ => rfl)
  have xis_row : Fn l.prog w K mg base 7 "is_row" ["thing"] cIsRow := fn_of X G Z.dis_row (fun f fd F => ok_isRow F T xis_place xis_entry xgoes_on) (fun _ _ _ _ _ _ us hl => match us, hl with | [_], _ => rfl)
  have xstate_of : Fn l.prog w K mg base 9 "state_of" ["row"] cStateOf := fn_of X G Z.dstate_of (fun f fd F => ok_stateOf F T xfirst_state xdone) (fun _ _ _ _ _ _ us hl => match us, hl with | [_], _ => rfl)
  have xtold_by : Fn l.prog w K mg base 9 "told_by" ["row"] cToldBy := fn_of X G Z.dtold_by (fun f fd F => ok_toldBy F T xfirst_state xdone) (fun _ _ _ _ _ _ us hl => match us, hl with | [_], _ => rfl)
  have xis_beginning : Fn l.prog w K mg base 1 "is_beginning" ["one", "other"] cBegin := fn_of X G Z.dis_beginning (fun f fd F => ok_begin F T ) (fun _ _ _ _ _ _ us hl => match us, hl with | [_, _], _ => rfl)
  have xup_to : Fn l.prog w K mg base 1 "up_to" ["row", "place"] cUpTo := fn_of X G Z.dup_to (fun f fd F => ok_upTo F T ) (fun _ _ _ _ _ _ us hl => match us, hl with | [_, _], _ => rfl)
  have xbehind : Fn l.prog w K mg base 1 "behind" ["row", "place"] cBehind := fn_of X G Z.dbehind (fun f fd F => ok_behind F T ) (fun _ _ _ _ _ _ us hl => match us, hl with | [_, _], _ => rfl)
  have xlast_place : Fn l.prog w K mg base 1 "last_place" ["row"] cLastPlace := fn_of X G Z.dlast_place (fun f fd F => ok_lastPlace F T ) (fun _ _ _ _ _ _ us hl => match us, hl with | [_], _ => rfl)
  have x_law_pool : FnP l.prog w K mg base 1 "_law_pool" ["_law_script", "_law_k"] _ := fnp_of X G Z.d_law_pool (fun f fd F => qk_pool F T ) (fun _ _ _ _ _ _ us hl => match us, hl with | [_, _], _ => rfl)
  have x_law_take : Fn l.prog w K mg base 1 "_law_take" ["_law_pool_here", "_law_many"] cTake := fn_of X G Z.d_law_take (fun f fd F => qk_take F T ) (fun _ _ _ _ _ _ us hl => match us, hl with | [_, _], _ => rfl)
  have x_law_word : Fn l.prog w K mg base 2 "_law_word" ["_law_pool_here"] dWord := fn_of X G Z.d_law_word (fun f fd F => qk_word F T x_law_take) (fun _ _ _ _ _ _ us hl => match us, hl with | [_], _ => rfl)
  have x_law_part : Fn l.prog w K mg base 3 "_law_part" ["_law_pool_here"] dPart := fn_of X G Z.d_law_part (fun f fd F => qk_part F T x_law_take x_law_word) (fun _ _ _ _ _ _ us hl => match us, hl with | [_], _ => rfl)
  have x_law_line : Fn l.prog w K mg base 2 "_law_line" ["_law_pool_here"] dLine := fn_of X G Z.d_law_line (fun f fd F => qk_line F T x_law_take) (fun _ _ _ _ _ _ us hl => match us, hl with | [_], _ => rfl)
  have x_law_path : Fn l.prog w K mg base 4 "_law_path" ["_law_pool_here", "_law_web", "_law_many"] dPath := fn_of X G Z.d_law_path (fun f fd F => qk_path F T x_law_take x_law_part) (fun _ _ _ _ _ _ us hl => match us, hl with | [_, _, _], _ => rfl)
  have x_law_count : Fn l.prog w K mg base 2 "_law_count" ["_law_pool_here", "_law_web", "_law_road"] dCount := fn_of X G Z.d_law_count (fun f fd F => qk_count F T x_law_take) (fun _ _ _ _ _ _ us hl => match us, hl with | [_, _, _], _ => rfl)
  have x_law_deed : Fn l.prog w K mg base 5 "_law_deed" ["_law_pool_here", "_law_web"] dDeed := fn_of X G Z.d_law_deed (fun f fd F => qk_deed F T x_law_take x_law_path x_law_line x_law_count) (fun _ _ _ _ _ _ us hl => match us, hl with | [_, _], _ => rfl)
  have x_law_above : Fn l.prog w K mg base 1 "_law_above" ["_law_road"] dAbove := fn_of X G Z.d_law_above (fun f fd F => qk_above F T ) (fun _ _ _ _ _ _ us hl => match us, hl with | [_], _ => rfl)
  have x_law_kids : Fn l.prog w K mg base 2 "_law_kids" ["_law_web", "_law_road"] dKids := fn_of X G Z.d_law_kids (fun f fd F => qk_kids F T x_law_above) (fun _ _ _ _ _ _ us hl => match us, hl with | [_, _], _ => rfl)
  have x_law_make : Fn l.prog w K mg base 2 "_law_make" ["_law_web", "_law_task_here", "_law_who"] dMake := fn_of X G Z.d_law_make (fun f fd F => qk_make F T x_law_above) (fun _ _ _ _ _ _ us hl => match us, hl with | [_, _, _], _ => rfl)
  have x_law_plainly : Fn l.prog w K mg base 3 "_law_plainly" ["_law_web", "_law_task_here", "_law_who"] dPlainly := fn_of X G Z.d_law_plainly (fun f fd F => qk_plainly F T x_law_above x_law_kids x_law_make) (fun _ _ _ _ _ _ us hl => match us, hl with | [_, _, _], _ => rfl)
  have x_law_left : Fn l.prog w K mg base 2 "_law_left" ["_law_web", "_law_who"] dLeft := fn_of X G Z.d_law_left (fun f fd F => qk_left F T x_law_above) (fun _ _ _ _ _ _ us hl => match us, hl with | [_, _], _ => rfl)
  have x_law_all_done : Fn l.prog w K mg base 4 "_law_all_done" ["_law_web", "_law_tasks", "_law_who"] dAllDone := fn_of X G Z.d_law_all_done (fun f fd F => qk_allDone F T x_law_plainly) (fun _ _ _ _ _ _ us hl => match us, hl with | [_, _, _], _ => rfl)
  have x_law_does : Fn l.prog w K mg base 5 "_law_does" ["_law_web", "_law_limit", "_law_task_here", "_law_who"] dDoes := fn_of X G Z.d_law_does (fun f fd F => qk_does F T x_law_left x_law_all_done x_law_plainly) (fun _ _ _ _ _ _ us hl => match us, hl with | [_, _, _, _], _ => rfl)
  have x_law_due : Fn l.prog w K mg base 6 "_law_due" ["_law_kept", "_law_line_here", "_law_spot"] dDue := fn_of X G Z.d_law_due (fun f fd F => qk_due F T x_law_left x_law_does) (fun _ _ _ _ _ _ us hl => match us, hl with | [_, _, _], _ => rfl)
  have x_law_task : Fn l.prog w K mg base 6 "_law_task" ["_law_pool_here", "_law_kept", "_law_who"] dTask := fn_of X G Z.d_law_task (fun f fd F => qk_task F T x_law_take x_law_deed) (fun _ _ _ _ _ _ us hl => match us, hl with | [_, _, _], _ => rfl)
  have x_law_drawn_line : Fn l.prog w K mg base 7 "_law_drawn_line" ["_law_pool_here", "_law_kept"] dDrawn := fn_of X G Z.d_law_drawn_line (fun f fd F => qk_drawn F T x_law_take x_law_task) (fun _ _ _ _ _ _ us hl => match us, hl with | [_, _], _ => rfl)
  have x_law_gone : Fn l.prog w K mg base 8 "_law_gone" ["_law_pool_here", "_law_many"] dGone := fn_of X G Z.d_law_gone (fun f fd F => qk_gone F T x_law_take x_law_drawn_line x_law_due) (fun _ _ _ _ _ _ us hl => match us, hl with | [_, _], _ => rfl)
  have x_law_along_right : Fn l.prog w K mg base 10 "_law_along_right" ["_law_lines"] dAlong := fn_of X G Z.d_law_along_right (fun f fd F => qk_along F T xfirst_state xstate_of xtold_by xup_to xbehind xlast_place xis_row xis_beginning xdone) (fun _ _ _ _ _ _ us hl => match us, hl with | [_], _ => rfl)
  exact qk_law F T x_law_take x_law_pool x_law_gone x_law_along_right xis_beginning
end Lg
namespace Lg
open PySem PySem.Spec PyProof.Rows L2 TL
theorem rpl_ints {K : PySem.W.Frag} {S : Option Addr} {Hb : Hp} : ∀ ns : List Int, RpL K S Hb (ns.map V.int) (ns.map D.int)
  | [] => .nil
  | n :: ns => .cons (.int n) (rpl_ints ns)
theorem sp_law {K : PySem.W.Frag} {H : Hp} {a : Addr} {ns : List Int} {E : XK} (hl : ns.length ≤ 63) (hS : SqL K H a (ns.map V.int)) : spF K dLaw [.ref a] H (fun v _ => v = .bl true) E :=
  ⟨none, H, [.flst (ns.map D.int)], fun d => d = .bl true, ⟨Same.refl _, fun p e => by cases e⟩, .cons (.flst hS (rpl_ints ns)) .nil, ⟨ns, rfl, hl, rfl⟩, fun v d Hb' H' g r p => by subst p; exact r.bl_⟩
section
variable {w : World} {K : PySem.W.Frag} {mg : Str → Option Value} {h : Heap}
theorem cst_str {x z : Str} {t : Tok} (X : K.In h) (G : h.Ns mainGlobals mg) (a : PySem.W.nsIn K mainGlobals x = some (some (.str z t))) : Cst K mg x (.str z) := ⟨.str z, _, PySem.W.mg_of X G a, ⟨t, rfl⟩, fun _ _ => .str z⟩
theorem cst_int {x : Str} {i : Int} {t : Tok} (X : K.In h) (G : h.Ns mainGlobals mg) (a : PySem.W.nsIn K mainGlobals x = some (some (.int i t))) : Cst K mg x (.int i) := ⟨.int i, _, PySem.W.mg_of X G a, ⟨t, rfl⟩, fun _ _ => .int i⟩
theorem kTup {p : Addr} {dd : Option Addr} {n : Nat} {sl : Array (Option Value)} {its : Array Value} {xs : List V} {H : Hp} (l : K.lookup p = some ⟨.type "tuple", dd, .seq its n, sl⟩) (z : its.size ≤ sizeLine) (r : Vals xs its.toList) : SqT K H p xs := .inr ⟨_, its, n, l, rfl, rfl, z, r⟩
theorem cst_plc {x : Str} {p : Addr} {dd : Option Addr} {n : Nat} {sl : Array (Option Value)} {i j : Int} {t u : Tok} (X : K.In h) (G : h.Ns mainGlobals mg) (a : PySem.W.nsIn K mainGlobals x = some (some (.ref p))) (l : K.lookup p = some ⟨.type "tuple", dd, .seq #[.int i t, .int j u] n, sl⟩) : Cst K mg x (.tup [.int i, .int j]) :=
  ⟨.ref p, _, PySem.W.mg_of X G a, rfl, fun _ _ => .tup (kTup (xs := [.int i, .int j]) l (sz1000 (Nat.le_of_ble_eq_true rfl)) (.cons ⟨t, rfl⟩ (.cons ⟨u, rfl⟩ .nil))) (.cons (.int i) (.cons (.int j) .nil))⟩
theorem cst_ok {x z : Str} {p : Addr} {dd : Option Addr} {n : Nat} {sl : Array (Option Value)} {t : Tok} (X : K.In h) (G : h.Ns mainGlobals mg) (a : PySem.W.nsIn K mainGlobals x = some (some (.ref p))) (l : K.lookup p = some ⟨.type "tuple", dd, .seq #[.str z t, .none] n, sl⟩) : Cst K mg x (.tup [.str z, .non]) :=
  ⟨.ref p, _, PySem.W.mg_of X G a, rfl, fun _ _ => .tup (kTup (xs := [.str z, .non]) l (sz1000 (Nat.le_of_ble_eq_true rfl)) (.cons ⟨t, rfl⟩ (.cons rfl .nil))) (.cons (.str z) (.cons .non .nil))⟩
theorem cst_never {x : Str} {p q : Addr} {dd de : Option Addr} {n m : Nat} {sl sm : Array (Option Value)} {i j k : Int} {t u v : Tok} (X : K.In h) (G : h.Ns mainGlobals mg) (a : PySem.W.nsIn K mainGlobals x = some (some (.ref p))) (l : K.lookup p = some ⟨.type "tuple", dd, .seq #[.none, .int k v, .none, .ref q] n, sl⟩)
    (l2 : K.lookup q = some ⟨.type "tuple", de, .seq #[.int i t, .int j u] m, sm⟩) : Cst K mg x (.tup [.non, .int k, .non, .tup [.int i, .int j]]) :=
  ⟨.ref p, _, PySem.W.mg_of X G a, rfl, fun _ _ => .tup (kTup (xs := [.non, .int k, .non, .ref q]) l (sz1000 (Nat.le_of_ble_eq_true rfl)) (.cons rfl (.cons ⟨v, rfl⟩ (.cons rfl (.cons rfl .nil)))))
    (.cons .non (.cons (.int k) (.cons .non (.cons (.tup (kTup (xs := [.int i, .int j]) l2 (sz1000 (Nat.le_of_ble_eq_true rfl)) (.cons ⟨t, rfl⟩ (.cons ⟨u, rfl⟩ .nil))) (.cons (.int i) (.cons (.int j) .nil))) .nil))))⟩
theorem khas {nm z : Str} {p : Addr} {es : Array DictEntry} {n : Nat} {i : Int} {t : Tok} (X : K.In h) (G : h.Ns mainGlobals mg) (a : PySem.W.nsIn K mainGlobals nm = some (some (.ref p))) (lo : (p == sysModules) = false) (l : K.lookup p = some ⟨.type "dict", none, .dict es n, #[]⟩) (kl : PySem.W.KeysLit w.params es.toList)
    (v : PySem.W.nsIn K p z = some (some (.int i t))) : KHas K w mg nm z i := ⟨p, PySem.W.mg_of X G a, lo, es, n, _, l, kl, v, ⟨t, rfl⟩⟩
end
end Lg
open PyProof.Rows PySem PySem.W
set_option maxHeartbeats 0 in
theorem PySem.Challenge.cw_watchednodes_k20_whole_rows_and_their_be_holds : PySem.Challenge.rw_watchednodes_k20_whole_rows_and_their_be.Holds := by
  w_on; o_law
  k_head; (case hw => w_witness2)
  k_fill
  refine L2.walk_of (l := PySem.Challenge.rw_watchednodes_k20_whole_rows_and_their_be) (n := 63) (k := 11) (x := "_law_script") (CX := fun _ => L2.CX0) (sp := fun w => Lg.spF _ Lg.dLaw) rfl (by decide) rfl ⟨rfl, by decide, by decide⟩ (fun w h Y => PySem.W.kIn_of Y) ?F (fun _ _ a ns hl _ hS => Lg.sp_law hl hS) (fun _ _ _ _ _ h => h)
  case F =>
    intro w mg fa h KX G hmg
    refine Lg.all_law KX G hmg ?T ?L ?Z
    case Z =>
      constructor
      all_goals exact ⟨_, _, _, _, _, _, _, _, _, _, by k_is, by k_is, by k_is, by k_is⟩
    case L =>
      constructor
      all_goals exact Lg.khas KX G (by k_is) (by decide) (by k_is) (by k_keys) (by k_is)
    case T =>
      constructor
      case letters => exact Lg.cst_str KX G (by k_is)
      case figures => exact Lg.cst_str KX G (by k_is)
      case longest => exact Lg.cst_int KX G (by k_is)
      case mparts => exact Lg.cst_int KX G (by k_is)
      case manyf => exact Lg.cst_int KX G (by k_is)
      case root => exact Lg.cst_str KX G (by k_is)
      case nowhere => exact Lg.cst_plc KX G (by k_is) (by k_is)
      case mnodes => exact Lg.cst_int KX G (by k_is)
      case mmade => exact Lg.cst_int KX G (by k_is)
      case mtext => exact Lg.cst_int KX G (by k_is)
      case mdeeds => exact Lg.cst_int KX G (by k_is)
      case mlimit => exact Lg.cst_int KX G (by k_is)
      case okc => exact Lg.cst_ok KX G (by k_is) (by k_is)
      case never => exact Lg.cst_never KX G (by k_is) (by k_is) (by k_is)
      all_goals exact PySem.W.mg_none_of KX G (by k_is)
