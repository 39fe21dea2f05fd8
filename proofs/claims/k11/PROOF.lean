import PyProof.Rows.All
import Wide.All
import OpenK.AllK
import Wide.FinOn
import HandS.ForMost
import HandS.Deep
import HandS.Conv
import HandS.TupAny
import HandS.Wide
import HandS.DictTup
import HandS.SortInts
import KE.SortData
import HandS.Iter
import HandS.TryOnly
import HandS.IsInst
import HandS.List
import PySem.Challenge.RW_tietable_k11_worths
set_option Elab.async false
set_option linter.all false
set_option maxRecDepth 100000
set_option maxHeartbeats 4000000
/-! A layer of values over the hand layer: data by value, frozen heaps, owned lists. -/
namespace Tie
open PySem L2

abbrev Dt := PyData
abbrev Rho := List (Option Dt)
abbrev FE := Rho → Option Dt
abbrev FB := Rho → Option Bool
abbrev FA := Rho → Option (List Dt)

def keyD : Key → Dt
  | .inl i => .int i
  | .inr x => .str x

mutual
inductive Rv (K : PySem.W.Frag) (H : Hp) : V → Dt → Prop
  | non : Rv K H .non .none
  | bl (b : Bool) : Rv K H (.bl b) (.bool b)
  | int (i : Int) : Rv K H (.int i) (.int i)
  | str (x : Str) : Rv K H (.str x) (.str x)
  | lst {a : Addr} {xs : List V} {ds : List Dt} : SqL K H a xs → RvA K H xs ds → Rv K H (.ref a) (.list ds)
  | tup {a : Addr} {xs : List V} {ds : List Dt} : H a = some (.tup xs) → RvA K H xs ds → Rv K H (.ref a) (.tuple ds)
  | dk {a : Addr} {kvs : List (Key × V)} {es : List (Dt × Dt)} : H a = some (.dK kvs) → RvK K H kvs es → Rv K H (.ref a) (.dict es)
  | dt {a : Addr} {kvs : List (List Key × V)} {es : List (Dt × Dt)} : H a = some (.dT kvs) → RvT K H kvs es → Rv K H (.ref a) (.dict es)
inductive RvA (K : PySem.W.Frag) (H : Hp) : List V → List Dt → Prop
  | nil : RvA K H [] []
  | cons {v : V} {vs : List V} {d : Dt} {ds : List Dt} : Rv K H v d → RvA K H vs ds → RvA K H (v :: vs) (d :: ds)
inductive RvK (K : PySem.W.Frag) (H : Hp) : List (Key × V) → List (Dt × Dt) → Prop
  | nil : RvK K H [] []
  | cons {k : Key} {v : V} {kvs : List (Key × V)} {d : Dt} {es : List (Dt × Dt)} : Rv K H v d → RvK K H kvs es → RvK K H ((k, v) :: kvs) ((keyD k, d) :: es)
inductive RvT (K : PySem.W.Frag) (H : Hp) : List (List Key × V) → List (Dt × Dt) → Prop
  | nil : RvT K H [] []
  | cons {k : List Key} {v : V} {kvs : List (List Key × V)} {d : Dt} {es : List (Dt × Dt)} : Rv K H v d → RvT K H kvs es → RvT K H ((k, v) :: kvs) ((.tuple (k.map keyD), d) :: es)
end

theorem same_rd {H H' : Hp} {a : Addr} {u : HO} (e : Same H H') (h : L2.Rd H a u) : L2.Rd H' a u := by
  rcases h with h | ⟨o, h⟩
  · exact .inl (e _ _ h)
  · exact .inr ⟨o, e _ _ h⟩
theorem same_t {K : PySem.W.Frag} {H H' : Hp} {a : Addr} {xs : List V} (e : Same H H') (h : SqT K H a xs) : SqT K H' a xs := by
  rcases h with h | h
  · exact .inl (same_rd e h)
  · exact .inr h
theorem same_new {H : Hp} {p : Addr} {o : HO} (h : H p = none) : Same H (upd H p o) := fun a u e => by
  rw [upd_ne (ne_of_none e h)]
  exact e

section
variable {K : PySem.W.Frag} {H H' : Hp}
mutual
theorem Rv.mono (s : Same H H') : ∀ {d : Dt} {v : V}, Rv K H v d → Rv K H' v d
  | _, _, .non => .non
  | _, _, .bl b => .bl b
  | _, _, .int i => .int i
  | _, _, .str x => .str x
  | _, _, .lst h t => .lst (s.seq h) (RvA.mono s t)
  | _, _, .tup h t => .tup (s _ _ h) (RvA.mono s t)
  | _, _, .dk h t => .dk (s _ _ h) (RvK.mono s t)
  | _, _, .dt h t => .dt (s _ _ h) (RvT.mono s t)
theorem RvA.mono (s : Same H H') : ∀ {ds : List Dt} {vs : List V}, RvA K H vs ds → RvA K H' vs ds
  | _, _, .nil => .nil
  | _, _, .cons h t => .cons (Rv.mono s h) (RvA.mono s t)
theorem RvK.mono (s : Same H H') : ∀ {es : List (Dt × Dt)} {kvs : List (Key × V)}, RvK K H kvs es → RvK K H' kvs es
  | _, _, .nil => .nil
  | _, _, .cons h t => .cons (Rv.mono s h) (RvK.mono s t)
theorem RvT.mono (s : Same H H') : ∀ {es : List (Dt × Dt)} {kvs : List (List Key × V)}, RvT K H kvs es → RvT K H' kvs es
  | _, _, .nil => .nil
  | _, _, .cons h t => .cons (Rv.mono s h) (RvT.mono s t)
end
theorem RvA.len : ∀ {ds : List Dt} {vs : List V}, RvA K H vs ds → vs.length = ds.length
  | _, _, .nil => rfl
  | _, _, .cons _ t => congrArg (· + 1) (RvA.len t)
theorem RvA.get : ∀ {ds : List Dt} {vs : List V} {i : Nat} {d : Dt}, RvA K H vs ds → ds[i]? = some d → ∃ v, vs[i]? = some v ∧ Rv K H v d
  | _, _, _, _, .nil, e => by simp at e
  | _, _, 0, _, .cons h _, e => by simp at e; subst e; exact ⟨_, rfl, h⟩
  | _, _, i + 1, d, .cons _ t, e => by
    obtain ⟨u, h1, h2⟩ := RvA.get (i := i) (d := d) t (by simpa using e)
    exact ⟨u, by simpa using h1, h2⟩
theorem RvA.get' : ∀ {ds : List Dt} {vs : List V} {i : Nat} {v : V}, RvA K H vs ds → vs[i]? = some v → ∃ d, ds[i]? = some d ∧ Rv K H v d
  | _, _, _, _, .nil, e => by simp at e
  | _, _, 0, _, .cons h _, e => by simp at e; subst e; exact ⟨_, rfl, h⟩
  | _, _, i + 1, d, .cons _ t, e => by
    obtain ⟨u, h1, h2⟩ := RvA.get' (i := i) (v := d) t (by simpa using e)
    exact ⟨u, by simpa using h1, h2⟩
theorem RvA.app : ∀ {ds es : List Dt} {vs us : List V}, RvA K H vs ds → RvA K H us es → RvA K H (vs ++ us) (ds ++ es)
  | _, _, _, _, .nil, s => s
  | _, _, _, _, .cons h t, s => .cons h (RvA.app t s)
theorem RvA.one {v : V} {d : Dt} (h : Rv K H v d) : RvA K H [v] [d] := .cons h .nil
theorem RvA.take : ∀ {ds : List Dt} {vs : List V} (n : Nat), RvA K H vs ds → RvA K H (vs.take n) (ds.take n)
  | _, _, 0, _ => .nil
  | _, _, _ + 1, .nil => .nil
  | _, _, n + 1, .cons h t => .cons h (RvA.take n t)
theorem RvA.drop : ∀ {ds : List Dt} {vs : List V} (n : Nat), RvA K H vs ds → RvA K H (vs.drop n) (ds.drop n)
  | _, _, 0, h => h
  | _, _, _ + 1, .nil => .nil
  | _, _, n + 1, .cons _ t => RvA.drop n t
theorem RvA.set : ∀ {ds : List Dt} {vs : List V} {v : V} {d : Dt} (n : Nat), RvA K H vs ds → Rv K H v d → RvA K H (vs.set n v) (ds.set n d)
  | _, _, _, _, _, .nil, _ => .nil
  | _, _, _, _, 0, .cons _ t, r => .cons r t
  | _, _, _, _, n + 1, .cons h t, r => .cons h (RvA.set n t r)
theorem RvA.ints : ∀ {vs : List V} (ns : List Int), RvA K H vs (ns.map .int) → vs = ns.map V.int
  | _, [], .nil => rfl
  | _, n :: ns, .cons h t => by cases h; rw [RvA.ints ns t]; rfl
theorem RvA.of_ints : ∀ (ns : List Int), RvA K H (ns.map V.int) (ns.map .int)
  | [] => .nil
  | n :: ns => .cons (.int n) (RvA.of_ints ns)
theorem RvA.bools : ∀ {vs : List V} (ns : List Bool), RvA K H vs (ns.map .bool) → vs = ns.map V.bl
  | _, [], .nil => rfl
  | _, n :: ns, .cons h t => by cases h; rw [RvA.bools ns t]; rfl
/-- data without dicts: as the library's own reading -/
theorem canLayAll_cons {d : Dt} {ds : List Dt} (h : PyData.canLayAll0 (d :: ds) = true) : d.canLay0 = true ∧ PyData.canLayAll0 ds = true := by
  simpa [PyData.canLayAll0] using h
mutual
theorem Rv.dp : ∀ {d : Dt} {v : V}, Rv K H v d → d.canLay0 = true → Dp K H v d
  | _, _, .non, _ => .non
  | _, _, .bl b, _ => .bl b
  | _, _, .int i, _ => .int i
  | _, _, .str x, _ => .str x
  | _, _, .lst (ds := ds) h t, c => .lst h (RvA.dp t (by simpa [PyData.canLay0] using c))
  | _, _, .tup (ds := ds) h t, c => .tup (.inl (.inl h)) (RvA.dp t (by simpa [PyData.canLay0] using c))
  | _, _, .dk h t, c => by simp [PyData.canLay0] at c
  | _, _, .dt h t, c => by simp [PyData.canLay0] at c
theorem RvA.dp : ∀ {ds : List Dt} {vs : List V}, RvA K H vs ds → PyData.canLayAll0 ds = true → DpAll K H vs ds
  | _, _, .nil, _ => .nil
  | _, _, .cons h t, c => .cons (Rv.dp h (canLayAll_cons c).1) (RvA.dp t (canLayAll_cons c).2)
end
end

/-! ### frozen part and whole, growing -/
structure Xt (H0 H H0' H' : Hp) : Prop where
  f : Same H0 H0'
  s : Same H0' H'
  k : Same H H'
  n : ∀ a, H0 a = none → H a ≠ none → H0' a = none
theorem Xt.trans {A0 A B0 B C0 C : Hp} (x : Xt A0 A B0 B) (y : Xt B0 B C0 C) : Xt A0 A C0 C :=
  ⟨x.f.trans y.f, y.s, x.k.trans y.k, fun a h1 h2 => y.n a (x.n a h1 h2) (fun e => by
    cases h : A a with
    | none => exact h2 h
    | some o => rw [x.k a o h] at e; cases e)⟩
theorem Xt.refl {H0 H : Hp} (s : Same H0 H) : Xt H0 H H0 H := ⟨Same.refl _, s, Same.refl _, fun _ h _ => h⟩
/-- a new frozen object -/
theorem Xt.new {H0 H : Hp} (s : Same H0 H) {p : Addr} {o : HO} (h : H p = none) : Xt H0 H (upd H0 p o) (upd H p o) := by
  have h0 : H0 p = none := s.free h
  refine ⟨same_new h0, fun a u e => ?_, same_new h, fun a h1 h2 => ?_⟩
  · by_cases q : a = p
    · subst q; rw [upd_same] at e ⊢; exact e
    · rw [upd_ne q] at e ⊢; exact s a u e
  · have q : a ≠ p := fun q => h2 (q ▸ h)
    rw [upd_ne q]; exact h1
/-- a new object that is not frozen -/
theorem Xt.loose {H0 H : Hp} (s : Same H0 H) {p : Addr} {o : HO} (h : H p = none) : Xt H0 H H0 (upd H p o) :=
  ⟨Same.refl _, s.trans (same_new h), same_new h, fun a h1 _ => h1⟩
/-- what is loose (new behind H) becomes frozen -/
theorem Xt.freeze {H0 H H0' H' : Hp} (x : Xt H0 H H0' H') {p : Addr} {o : HO} (h0 : H0' p = none) (h : H' p = some o) (hn : H p = none) : Xt H0 H (upd H0' p o) H' := by
  refine ⟨x.f.trans (same_new h0), fun a u e => ?_, x.k, fun a h1 h2 => ?_⟩
  · by_cases q : a = p
    · subst q; rw [upd_same] at e; cases e; exact h
    · rw [upd_ne q] at e; exact x.s a u e
  · have q : a ≠ p := fun q => h2 (q ▸ hn)
    rw [upd_ne q]; exact x.n a h1 h2

/-! ### the state of a def -/
/-- what an owned address holds, read in the frozen part -/
inductive OwnO (K : PySem.W.Frag) (H0 : Hp) : HO → Dt → Prop
  | lst {xs : List V} {ds : List Dt} : RvA K H0 xs ds → OwnO K H0 (.lst xs) (.list ds)
  | dk {kvs : List (Key × V)} {es : List (Dt × Dt)} : RvK K H0 kvs es → OwnO K H0 (.dK kvs) (.dict es)
  | dt {kvs : List (List Key × V)} {es : List (Dt × Dt)} : RvT K H0 kvs es → OwnO K H0 (.dT kvs) (.dict es)
theorem OwnO.mono {K : PySem.W.Frag} {H H' : Hp} {o : HO} {d : Dt} (s : Same H H') : OwnO K H o d → OwnO K H' o d
  | .lst h => .lst (h.mono s)
  | .dk h => .dk (h.mono s)
  | .dt h => .dt (h.mono s)
theorem OwnO.frozen {K : PySem.W.Frag} {H : Hp} {o : HO} {d : Dt} {p : Addr} (h0 : H p = none) (h : OwnO K H o d) : Rv K (upd H p o) (.ref p) d := by
  have s : Same H (upd H p o) := same_new h0
  cases h with
  | lst h => exact .lst (.inl (.inl upd_same)) (h.mono s)
  | dk h => exact .dk upd_same (h.mono s)
  | dt h => exact .dt upd_same (h.mono s)

def rget (ρ : Rho) (i : Nat) : Option Dt := (ρ[i]?).getD none
theorem rget_some {ρ : Rho} {i : Nat} {d : Dt} : rget ρ i = some d ↔ ρ[i]? = some (some d) := by
  unfold rget
  cases h : ρ[i]? with
  | none => simp
  | some x => simp

structure StR (K : PySem.W.Frag) (B0 B : Hp) (own : List Nat) (σ : St) (H0 H : Hp) (ρ : Rho) : Prop where
  x : Xt B0 B H0 H
  len : σ.length = ρ.length
  fro : ∀ i d, i ∉ own → rget ρ i = some d → ∃ v, σ[i]? = some (some v) ∧ Rv K H0 v d
  ow : ∀ i d, i ∈ own → rget ρ i = some d → ∃ p o, σ[i]? = some (some (.ref p)) ∧ B p = none ∧ H0 p = none ∧ H p = some o ∧ OwnO K H0 o d
  dis : ∀ i j d e, i ∈ own → j ∈ own → i ≠ j → rget ρ i = some d → rget ρ j = some e → σ[i]? ≠ σ[j]?

section
variable {K : PySem.W.Frag} {B0 B H0 H H0' H' : Hp} {own : List Nat} {σ : St} {ρ : Rho}
theorem StR.ext (S : StR K B0 B own σ H0 H ρ) (x : Xt H0 H H0' H') : StR K B0 B own σ H0' H' ρ where
  x := S.x.trans x
  len := S.len
  fro := fun i d hi e => by
    obtain ⟨v, h1, h2⟩ := S.fro i d hi e
    exact ⟨v, h1, h2.mono x.f⟩
  ow := fun i d hi e => by
    obtain ⟨p, o, h1, hb, h0, h, r⟩ := S.ow i d hi e
    exact ⟨p, o, h1, hb, x.n p h0 (by rw [h]; intro z; cases z), x.k p o h, r.mono x.f⟩
  dis := S.dis
theorem StR.same (S : StR K B0 B own σ H0 H ρ) : Same H0 H := S.x.s
/-- the slots set, frozen -/
theorem rget_set {i j : Nat} {d : Dt} (hi : i < ρ.length) : rget (ρ.set i (some d)) j = if j = i then some d else rget ρ j := by
  unfold rget
  by_cases h : j = i
  · subst h; simp [hi]
  · rw [if_neg h, List.getElem?_set_ne (fun q => h q.symm)]
theorem rget_set_ge {i j : Nat} {x : Option Dt} (hi : ¬ i < ρ.length) : rget (ρ.set i x) j = rget ρ j := by
  rw [List.set_eq_of_length_le (by omega)]
theorem rget_kill {i j : Nat} : rget (ρ.set i none) j = if j = i then none else rget ρ j := by
  unfold rget
  by_cases h : j = i
  · subst h
    by_cases hj : j < ρ.length
    · simp [hj]
    · rw [List.set_eq_of_length_le (by omega)]
      simp [List.getElem?_eq_none (by omega : ρ.length ≤ j)]
  · rw [if_neg h, List.getElem?_set_ne (fun q => h q.symm)]
theorem StR.setF (S : StR K B0 B own σ H0 H ρ) {i : Nat} {v : V} {d : Dt} (hi : i ∉ own) (r : Rv K H0 v d) : StR K B0 B own (σ.set i (some v)) H0 H (ρ.set i (some d)) where
  x := S.x
  len := by simp [S.len]
  fro := fun j e hj q => by
    by_cases hl : i < ρ.length
    · rw [rget_set hl] at q
      by_cases h : j = i
      · rw [if_pos h] at q; cases q; subst h
        exact ⟨v, by rw [List.getElem?_set_self (by rw [S.len]; exact hl)], r⟩
      · rw [if_neg h] at q
        rw [List.getElem?_set_ne (fun z => h z.symm)]
        exact S.fro j e hj q
    · rw [rget_set_ge hl] at q
      rw [List.set_eq_of_length_le (by rw [S.len]; omega)]
      exact S.fro j e hj q
  ow := fun j e hj q => by
    have h : j ≠ i := fun z => hi (z ▸ hj)
    rw [List.getElem?_set_ne (fun z => h z.symm)]
    refine S.ow j e hj ?_
    by_cases hl : i < ρ.length
    · rw [rget_set hl, if_neg h] at q; exact q
    · rw [rget_set_ge hl] at q; exact q
  dis := fun j k d' e' hj hk n q1 q2 => by
    have h1 : j ≠ i := fun z => hi (z ▸ hj)
    have h2 : k ≠ i := fun z => hi (z ▸ hk)
    rw [List.getElem?_set_ne (fun z => h1 z.symm), List.getElem?_set_ne (fun z => h2 z.symm)]
    by_cases hl : i < ρ.length
    · rw [rget_set hl, if_neg h1] at q1
      rw [rget_set hl, if_neg h2] at q2
      exact S.dis j k _ _ hj hk n q1 q2
    · rw [rget_set_ge hl] at q1 q2
      exact S.dis j k _ _ hj hk n q1 q2
/-- a slot forgotten -/
theorem StR.kill (S : StR K B0 B own σ H0 H ρ) (i : Nat) : StR K B0 B own σ H0 H (ρ.set i none) where
  x := S.x
  len := by simp [S.len]
  fro := fun j d hj q => by
    rw [rget_kill] at q
    by_cases h : j = i
    · rw [if_pos h] at q; cases q
    · rw [if_neg h] at q; exact S.fro j d hj q
  ow := fun j d hj q => by
    rw [rget_kill] at q
    by_cases h : j = i
    · rw [if_pos h] at q; cases q
    · rw [if_neg h] at q; exact S.ow j d hj q
  dis := fun j k d e hj hk n q1 q2 => by
    rw [rget_kill] at q1 q2
    by_cases h1 : j = i
    · rw [if_pos h1] at q1; cases q1
    · by_cases h2 : k = i
      · rw [if_pos h2] at q2; cases q2
      · rw [if_neg h1] at q1; rw [if_neg h2] at q2
        exact S.dis j k d e hj hk n q1 q2
/-- slots forgotten, as a mask tells -/
def keep : List Bool → Rho → Rho
  | _, [] => []
  | [], _ :: xs => none :: keep [] xs
  | true :: bs, x :: xs => x :: keep bs xs
  | false :: bs, _ :: xs => none :: keep bs xs
theorem keep_len : ∀ (ls : List Bool) (ρ : Rho), (keep ls ρ).length = ρ.length
  | _, [] => by simp [keep]
  | [], _ :: xs => by simp [keep, keep_len [] xs]
  | true :: bs, x :: xs => by simp [keep, keep_len bs xs]
  | false :: bs, _ :: xs => by simp [keep, keep_len bs xs]
theorem rget_keep : ∀ (ls : List Bool) (ρ : Rho) (j : Nat), rget (keep ls ρ) j = if ls.getD j false then rget ρ j else none
  | _, [], j => by simp [keep, rget]
  | [], _ :: xs, 0 => by simp [keep, rget]
  | [], _ :: xs, j + 1 => by
    have := rget_keep [] xs j
    simp [keep, rget] at this ⊢
    exact this
  | true :: bs, x :: xs, 0 => by simp [keep, rget]
  | true :: bs, x :: xs, j + 1 => by
    have := rget_keep bs xs j
    simp [keep, rget] at this ⊢
    exact this
  | false :: bs, x :: xs, 0 => by simp [keep, rget]
  | false :: bs, x :: xs, j + 1 => by
    have := rget_keep bs xs j
    simp [keep, rget] at this ⊢
    exact this
theorem StR.keep (S : StR K B0 B own σ H0 H ρ) (ls : List Bool) : StR K B0 B own σ H0 H (Tie.keep ls ρ) where
  x := S.x
  len := by rw [keep_len, S.len]
  fro := fun j d hj q => by
    rw [rget_keep] at q
    split at q
    · exact S.fro j d hj q
    · cases q
  ow := fun j d hj q => by
    rw [rget_keep] at q
    split at q
    · exact S.ow j d hj q
    · cases q
  dis := fun j k d e hj hk n q1 q2 => by
    rw [rget_keep] at q1 q2
    split at q1 <;> split at q2 <;> first | exact S.dis j k d e hj hk n q1 q2 | cases q1 | cases q2
end
end Tie

/-! Expressions by value. -/
namespace Tie
open PySem L2

/-! ### what is told of a reading -/
def DF (K : PySem.W.Frag) (own : List Nat) (te : TE) (f : FE) : Prop :=
  ∀ (B0 B : Hp) (σ : St) (H0 H : Hp) (ρ : Rho), StR K B0 B own σ H0 H ρ → ∀ d, f ρ = some d → ∀ Q : VK, (∀ v H0' H', Xt H0 H H0' H' → Rv K H0' v d → Q v H') → te σ H Q
/-- a list that is to be looked at: frozen, owned or new -/
def DW (K : PySem.W.Frag) (own : List Nat) (te : TE) (f : FA) : Prop :=
  ∀ (B0 B : Hp) (σ : St) (H0 H : Hp) (ρ : Rho), StR K B0 B own σ H0 H ρ → ∀ ds, f ρ = some ds → ∀ Q : VK, (∀ a xs H0' H', Xt H0 H H0' H' → SqL K H' a xs → RvA K H0' xs ds → Q (.ref a) H') → te σ H Q
/-- a new list of one's own -/
def DL (K : PySem.W.Frag) (own : List Nat) (te : TE) (f : FA) : Prop :=
  ∀ (B0 B : Hp) (σ : St) (H0 H : Hp) (ρ : Rho), StR K B0 B own σ H0 H ρ → ∀ ds, f ρ = some ds → ∀ Q : VK, (∀ p xs H0' H', Xt H0 H H0' H' → H p = none → H0' p = none → H' p = some (.lst xs) → RvA K H0' xs ds → Q (.ref p) H') → te σ H Q
def DA (K : PySem.W.Frag) (own : List Nat) (ta : TA) (f : FA) : Prop :=
  ∀ (B0 B : Hp) (σ : St) (H0 H : Hp) (ρ : Rho), StR K B0 B own σ H0 H ρ → ∀ ds, f ρ = some ds → ∀ Q : List V → Hp → Prop, (∀ vs H0' H', Xt H0 H H0' H' → RvA K H0' vs ds → Q vs H') → ta σ H Q
def DB (K : PySem.W.Frag) (own : List Nat) (tt : TT) (f : FB) : Prop :=
  ∀ (B0 B : Hp) (σ : St) (H0 H : Hp) (ρ : Rho), StR K B0 B own σ H0 H ρ → ∀ b, f ρ = some b → ∀ Q : Bool → Hp → Prop, (∀ H0' H', Xt H0 H H0' H' → Q b H') → tt σ H Q

def asList : Dt → Option (List Dt)
  | .list ds => some ds
  | _ => none
def asTup : Dt → Option (List Dt)
  | .tuple ds => some ds
  | _ => none
def asBool : Dt → Option Bool
  | .bool b => some b
  | _ => none
def asInt : Dt → Option Int
  | .int i => some i
  | _ => none
theorem asList_some {d : Dt} {ds : List Dt} (h : asList d = some ds) : d = .list ds := by cases d <;> simp [asList] at h; rw [h]
theorem asTup_some {d : Dt} {ds : List Dt} (h : asTup d = some ds) : d = .tuple ds := by cases d <;> simp [asTup] at h; rw [h]
theorem asBool_some {d : Dt} {b : Bool} (h : asBool d = some b) : d = .bool b := by cases d <;> simp [asBool] at h; rw [h]
theorem asInt_some {d : Dt} {b : Int} (h : asInt d = some b) : d = .int b := by cases d <;> simp [asInt] at h; rw [h]

section
variable {K : PySem.W.Frag} {own : List Nat} {ta tb te : TE} {fa fb : FE}

theorem Rv.list_inv {H : Hp} {v : V} {ds : List Dt} (r : Rv K H v (.list ds)) : ∃ a xs, v = .ref a ∧ SqL K H a xs ∧ RvA K H xs ds := by
  cases r with
  | lst h t => exact ⟨_, _, rfl, h, t⟩
theorem Rv.tup_inv {H : Hp} {v : V} {ds : List Dt} (r : Rv K H v (.tuple ds)) : ∃ a xs, v = .ref a ∧ SqT K H a xs ∧ RvA K H xs ds := by
  cases r with
  | tup h t => exact ⟨_, _, rfl, .inl (.inl h), t⟩
theorem Rv.tup_at {H : Hp} {v : V} {ds : List Dt} (r : Rv K H v (.tuple ds)) : ∃ a xs, v = .ref a ∧ H a = some (.tup xs) ∧ RvA K H xs ds := by
  cases r with
  | tup h t => exact ⟨_, _, rfl, h, t⟩
theorem Rv.int_inv {H : Hp} {v : V} {i : Int} (r : Rv K H v (.int i)) : v = .int i := by cases r; rfl
theorem Rv.bool_inv {H : Hp} {v : V} {i : Bool} (r : Rv K H v (.bool i)) : v = .bl i := by cases r; rfl
theorem Rv.str_inv {H : Hp} {v : V} {i : Str} (r : Rv K H v (.str i)) : v = .str i := by cases r; rfl
theorem Rv.none_inv {H : Hp} {v : V} (r : Rv K H v .none) : v = .non := by cases r; rfl

theorem DF.w (h : DF K own te fa) : DW K own te (fun ρ => (fa ρ).bind asList) := by
  intro B0 B σ H0 H ρ S ds e Q q
  obtain ⟨d, e1, e2⟩ := Option.bind_eq_some_iff.mp e
  cases asList_some e2
  refine h B0 B σ H0 H ρ S _ e1 Q fun v H0' H' x r => ?_
  obtain ⟨a, xs, rfl, hs, ht⟩ := r.list_inv
  exact q a xs H0' H' x (x.s.seq hs) ht
theorem DL.w {f : FA} (h : DL K own te f) : DW K own te f := by
  intro B0 B σ H0 H ρ S ds e Q q
  refine h B0 B σ H0 H ρ S _ e Q fun p xs H0' H' x _ _ h3 r => q p xs H0' H' x (.inl (.inl h3)) r
/-- a new list is frozen -/
theorem DL.f {f : FA} (h : DL K own te f) : DF K own te (fun ρ => (f ρ).map .list) := by
  intro B0 B σ H0 H ρ S d e Q q
  obtain ⟨ds, e1, rfl⟩ := Option.map_eq_some_iff.mp e
  refine h B0 B σ H0 H ρ S _ e1 Q fun p xs H0' H' x hn h0 h3 r => ?_
  exact q (.ref p) (upd H0' p (.lst xs)) H' (x.freeze h0 h3 hn) (.lst (.inl (.inl upd_same)) (r.mono (same_new h0)))
theorem dw_own {i : Nat} (hi : i ∈ own) : DW K own (tVar i) (fun ρ => (rget ρ i).bind asList) := by
  intro B0 B σ H0 H ρ S ds e Q q
  obtain ⟨d, e1, e2⟩ := Option.bind_eq_some_iff.mp e
  cases asList_some e2
  obtain ⟨p, o, h1, hb, h0, h, r⟩ := S.ow i _ hi e1
  cases r with
  | lst r => exact ⟨_, h1, q p _ H0 H (Xt.refl S.same) (.inl (.inl h)) r⟩
theorem df_var {i : Nat} (hi : i ∉ own) : DF K own (tVar i) (fun ρ => rget ρ i) := by
  intro B0 B σ H0 H ρ S d e Q q
  obtain ⟨v, h1, r⟩ := S.fro i d hi e
  exact ⟨v, h1, q v H0 H (Xt.refl S.same) r⟩
theorem df_c {v : V} {d : Dt} (h : ∀ H, Rv K H v d) : DF K own (tC v) (fun _ => some d) := by
  intro B0 B σ H0 H ρ S d' e Q q
  cases e
  exact q v H0 H (Xt.refl S.same) (h _)

/-! ### operators by values -/
def OpD (K : PySem.W.Frag) (r : R2) (g : Dt → Dt → Option Dt) : Prop :=
  ∀ (H0 H : Hp) (x y : V) (a b : Dt), Same H0 H → Rv K H0 x a → Rv K H0 y b → ∀ d, g a b = some d → ∀ Q : VK, (∀ v H0' H', Xt H0 H H0' H' → Rv K H0' v d → Q v H') → r x y H Q
def bin (g : Dt → Dt → Option Dt) (fa fb : FE) : FE := fun ρ => (fa ρ).bind fun a => (fb ρ).bind fun b => g a b
def un1 (g : Dt → Option Dt) (fa : FE) : FE := fun ρ => (fa ρ).bind g
theorem df_op {r : R2} {g : Dt → Dt → Option Dt} (hr : OpD K r g) (ha : DF K own ta fa) (hb : DF K own tb fb) : DF K own (tOp r ta tb) (bin g fa fb) := by
  intro B0 B σ H0 H ρ S d e Q q
  obtain ⟨a, e1, e2⟩ := Option.bind_eq_some_iff.mp e
  obtain ⟨b, e3, e4⟩ := Option.bind_eq_some_iff.mp e2
  refine ha B0 B σ H0 H ρ S a e1 _ fun v H0' H' x rv => ?_
  refine hb B0 B σ H0' H' ρ (S.ext x) b e3 _ fun u H0'' H'' x2 ru => ?_
  exact hr H0'' H'' v u a b x2.s (rv.mono x2.f) ru d e4 Q fun w H0_ H_ x3 rw_ => q w H0_ H_ ((x.trans x2).trans x3) rw_
/-- the unary kind -/
theorem df_un {r : V → Hp → VK → Prop} {g : Dt → Option Dt} (hr : ∀ (H0 H : Hp) (x : V) (a : Dt), Same H0 H → Rv K H0 x a → ∀ d, g a = some d → ∀ Q : VK, (∀ v H0' H', Xt H0 H H0' H' → Rv K H0' v d → Q v H') → r x H Q)
    (ha : DF K own ta fa) : DF K own (tUn r ta) (un1 g fa) := by
  intro B0 B σ H0 H ρ S d e Q q
  obtain ⟨a, e1, e2⟩ := Option.bind_eq_some_iff.mp e
  refine ha B0 B σ H0 H ρ S a e1 _ fun v H0' H' x rv => ?_
  exact hr H0' H' v a x.s rv d e2 Q fun w H0_ H_ x3 rw_ => q w H0_ H_ (x.trans x3) rw_
/-- two ints -/
def gI (g : Int → Int → Option Dt) : Dt → Dt → Option Dt
  | .int i, .int j => g i j
  | _, _ => none
theorem gI_some {g : Int → Int → Option Dt} {a b d : Dt} (h : gI g a b = some d) : ∃ i j, a = .int i ∧ b = .int j ∧ g i j = some d := by
  cases a <;> cases b <;> simp [gI] at h
  exact ⟨_, _, rfl, rfl, h⟩
theorem opd_I0 {g : Int → Int → V} {g' : Int → Int → Dt} (h : ∀ i j H, Rv K H (g i j) (g' i j)) : OpD K (rI0 g) (gI fun i j => some (g' i j)) := by
  intro H0 H x y a b s ra rb d e Q q
  obtain ⟨i, j, rfl, rfl, e2⟩ := gI_some e
  cases e2
  exact ⟨i, j, ra.int_inv, rb.int_inv, q _ H0 H (Xt.refl s) (h i j H0)⟩
theorem opd_I {C : Int → Int → Prop} {g : Int → Int → V} {g' : Int → Int → Dt} {c : Int → Int → Bool} (hc : ∀ i j, c i j = true → C i j) (h : ∀ i j H, Rv K H (g i j) (g' i j)) :
    OpD K (rI C g) (gI fun i j => if c i j then some (g' i j) else none) := by
  intro H0 H x y a b s ra rb d e Q q
  obtain ⟨i, j, rfl, rfl, e2⟩ := gI_some e
  split at e2
  · cases e2
    rename_i hcc
    exact ⟨i, j, ra.int_inv, rb.int_inv, hc i j hcc, q _ H0 H (Xt.refl s) (h i j H0)⟩
  · cases e2
def OpR2.or (r r' : R2) : R2 := fun x y H Q => r x y H Q ∨ r' x y H Q
def orE (g g' : Dt → Dt → Option Dt) : Dt → Dt → Option Dt := fun a b => match g a b with
  | some d => some d
  | none => g' a b
theorem opd_or {r r' : R2} {g g' : Dt → Dt → Option Dt} (h : OpD K r g) (h' : OpD K r' g') : OpD K (OpR2.or r r') (orE g g') := by
  intro H0 H x y a b s ra rb d e Q q
  unfold orE at e
  split at e
  · cases e
    rename_i e1
    exact .inl (h H0 H x y a b s ra rb d e1 Q q)
  · exact .inr (h' H0 H x y a b s ra rb d e Q q)
end
theorem opr_or {X : Cx} {f : Value → Value → Sem Value} {r r' : R2} (h : OpR X f r) (h' : OpR X f r') : OpR X f (OpR2.or r r') := h.or h'

/-! ### + -/
def rCatS (K : PySem.W.Frag) : R2 := fun x y H Q => ∃ l b xs zs, x = .ref l ∧ y = .ref b ∧ SqL K H l xs ∧ SqL K H b zs ∧ xs.length + zs.length ≤ sizeLine ∧ ∀ p, H p = none → Q (.ref p) (upd H p (.lst (xs ++ zs)))
theorem op_catS {X : Cx} : OpR X (binaryOp .Add) (rCatS X.K) := by
  intro pins s σ H x y v u Q I rx ry h
  obtain ⟨l, b, xs, zs, rfl, rfl, hH, hB, hz, q⟩ := h
  cases rx
  cases ry
  obtain ⟨its, r, pl, z⟩ := I.list hH
  obtain ⟨its2, r2, pl2, z2⟩ := I.list hB
  obtain ⟨⟨cls, dd, data, sl⟩, ho, hc, n, hd⟩ := pl.isList
  obtain ⟨⟨cls2, dd2, data2, sl2⟩, ho2, hc2, n2, hd2⟩ := pl2.isList
  simp only at hc hd hc2 hd2
  subst hc hd hc2 hd2
  have e : its.toArray ++ its2.toArray = (its ++ its2).toArray := by simp
  have l1 := r.length
  have l2 := r2.length
  refine PySem.concat_meets ⟨_, ho, rfl⟩ ⟨_, ho2, rfl⟩ PySem.noFill_list_add PySem.seq_list_add PySem.F.slot_list_add PySem.F.entry_list_add (PySem.F.args_list_add_2 _ _) (PyProof.Rows.list_addW l b its.toArray its2.toArray n n2 dd dd2 sl sl2 (by simp; omega)) ⟨ho, ho2, ?_⟩
  rw [e]
  exact ⟨.ref _, _, I.lnew (t' := s.toks) (r.append r2) (by rw [List.length_append]; omega), rfl, q _ I.fresh⟩
def bigN : Nat := 100000
theorem big_le {n : Nat} (h : n ≤ bigN) : n ≤ sizeLine := Nat.le_trans h (by decide)
def gCatL : Dt → Dt → Option Dt
  | .list xs, .list ys => if xs.length + ys.length ≤ bigN then some (.list (xs ++ ys)) else none
  | _, _ => none
def gCatT : Dt → Dt → Option Dt
  | .tuple xs, .tuple ys => if xs.length + ys.length ≤ bigN then some (.tuple (xs ++ ys)) else none
  | _, _ => none
def rCatStr : R2 := fun x y H Q => ∃ i j, x = .str i ∧ y = .str j ∧ i.length + j.length ≤ sizeLine ∧ Q (.str (i ++ j)) H
def gCatStr : Dt → Dt → Option Dt
  | .str x, .str y => if x.length + y.length ≤ bigN then some (.str (x ++ y)) else none
  | _, _ => none
section
variable {K : PySem.W.Frag}
theorem opd_catL : OpD K (rCatS K) gCatL := by
  intro H0 H x y a b s ra rb d e Q q
  cases a <;> cases b <;> simp only [gCatL] at e <;> try cases e
  rename_i xs ys
  split at e
  · cases e
    rename_i hz
    obtain ⟨l, us, rfl, hs, ht⟩ := ra.list_inv
    obtain ⟨l2, us2, rfl, hs2, ht2⟩ := rb.list_inv
    refine ⟨l, l2, us, us2, rfl, rfl, s.seq hs, s.seq hs2, big_le (by rw [ht.len, ht2.len]; exact hz), fun p hp => ?_⟩
    have x := Xt.new s (o := .lst (us ++ us2)) hp
    exact q _ _ _ x (.lst (.inl (.inl upd_same)) ((ht.app ht2).mono x.f))
  · cases e
theorem opd_catT : OpD K (rCatA K) gCatT := by
  intro H0 H x y a b s ra rb d e Q q
  cases a <;> cases b <;> simp only [gCatT] at e <;> try cases e
  rename_i xs ys
  split at e
  · cases e
    rename_i hz
    obtain ⟨l, us, rfl, hs, ht⟩ := ra.tup_inv
    obtain ⟨l2, us2, rfl, hs2, ht2⟩ := rb.tup_inv
    refine ⟨l, l2, us, us2, rfl, rfl, same_t s hs, same_t s hs2, big_le (by rw [ht.len, ht2.len]; exact hz), fun e => ?_, fun e1 e2 => ?_, fun _ _ p hp => ?_⟩
    · subst e
      cases ht
      exact q _ H0 H (Xt.refl s) (by simpa using rb)
    · subst e2
      cases ht2
      exact q _ H0 H (Xt.refl s) (by simpa using ra)
    · have x := Xt.new s (o := .tup (us ++ us2)) hp
      exact q _ _ _ x (.tup upd_same ((ht.app ht2).mono x.f))
  · cases e
theorem opd_catStr : OpD K rCatStr gCatStr := by
  intro H0 H x y a b s ra rb d e Q q
  cases a <;> cases b <;> simp only [gCatStr] at e <;> try cases e
  split at e
  · cases e
    rename_i hz
    exact ⟨_, _, ra.str_inv, rb.str_inv, big_le hz, q _ H0 H (Xt.refl s) (.str _)⟩
  · cases e
def rAddU (K : PySem.W.Frag) : R2 := OpR2.or (rI0 fun i j => .int (i + j)) (OpR2.or (rCatA K) (OpR2.or (rCatS K) rCatStr))
def gAdd : Dt → Dt → Option Dt
  | .int i, .int j => some (.int (i + j))
  | .tuple xs, .tuple ys => if xs.length + ys.length ≤ bigN then some (.tuple (xs ++ ys)) else none
  | .list xs, .list ys => if xs.length + ys.length ≤ bigN then some (.list (xs ++ ys)) else none
  | .str x, .str y => if x.length + y.length ≤ bigN then some (.str (x ++ y)) else none
  | _, _ => none
theorem OpD.congr {r : R2} {g g' : Dt → Dt → Option Dt} (h : OpD K r g) (e : ∀ a b, g' a b = g a b) : OpD K r g' := fun H0 H x y a b s ra rb d q => h H0 H x y a b s ra rb d (by rw [← e]; exact q)
theorem opd_add : OpD K (rAddU K) gAdd := by
  refine (opd_or (opd_I0 (g' := fun i j => .int (i + j)) fun i j H => .int _) (opd_or opd_catT (opd_or opd_catL opd_catStr))).congr fun a b => ?_
  cases a <;> cases b <;> simp [gAdd, orE, gI, gCatT, gCatL, gCatStr] <;> split <;> simp_all
end
theorem op_addU {X : Cx} : OpR X (binaryOp .Add) (rAddU X.K) := opr_or op_add (opr_or op_catA (opr_or op_catS op_add_str))
end Tie

/-! The rules for expressions, both halves together. -/
namespace Tie
open PySem L2

structure CE (X : Cx) (own : List Nat) (e : Expr) (te : TE) (f : FE) : Prop where
  pe : PE X e te
  df : DF X.K own te f
structure CW (X : Cx) (own : List Nat) (e : Expr) (te : TE) (f : FA) : Prop where
  pe : PE X e te
  dw : DW X.K own te f
structure CL (X : Cx) (own : List Nat) (e : Expr) (te : TE) (f : FA) : Prop where
  pe : PE X e te
  dl : DL X.K own te f
structure CA (X : Cx) (own : List Nat) (es : List Expr) (ta : TA) (f : FA) : Prop where
  pa : PA X es ta
  da : DA X.K own ta f
structure CB (X : Cx) (own : List Nat) (e : Expr) (tt : TT) (f : FB) : Prop where
  pt : PT X e tt
  db : DB X.K own tt f

/-- the mirrors -/
def mVar (i : Nat) : FE := fun ρ => rget ρ i
def mC (d : Dt) : FE := fun _ => some d
def mList (f : FA) : FE := fun ρ => (f ρ).map .list
def mAsL (f : FE) : FA := fun ρ => (f ρ).bind asList

section
variable {X : Cx} {own : List Nat} {a b c e : Expr} {es : List Expr} {ta tb tc te : TE} {ts : TA} {fa fb fc fe : FE} {fs : FA} {pos : Pos}

theorem CW.of (h : CE X own e te fe) : CW X own e te (mAsL fe) := ⟨h.pe, h.df.w⟩
theorem CW.ofL (h : CL X own e te fs) : CW X own e te fs := ⟨h.pe, h.dl.w⟩
theorem CE.ofL (h : CL X own e te fs) : CE X own e te (mList fs) := ⟨h.pe, h.dl.f⟩

theorem e_int {i : Int} {j} : CE X own (.Constant (.int i) j pos) (tC (.int i)) (mC (.int i)) := ⟨pe_int, df_c fun _ => .int _⟩
theorem e_bool {i : Bool} {j} : CE X own (.Constant (.bool i) j pos) (tC (.bl i)) (mC (.bool i)) := ⟨pe_bl, df_c fun _ => .bl _⟩
theorem e_none {j} : CE X own (.Constant .none j pos) (tC .non) (mC .none) := ⟨pe_non, df_c fun _ => .non⟩
theorem e_str {i : Str} {j} : CE X own (.Constant (.str i) j pos) (tC (.str i)) (mC (.str i)) := ⟨pe_str, df_c fun _ => .str _⟩
theorem e_var (i : Nat) {x : Str} (ho : i ∉ own := by decide) (hN : X.N[i]? = some x := by rfl) (hv : Vis X.env.scope x := by first | exact Or.inl rfl | exact Or.inr (Or.inl rfl) | exact Or.inr (Or.inr rfl)) (hd : (x == ("__debug__" : Str)) = false := by decide)
    (hcd : (x == ("__classdict__" : Str)) = false := by decide) : CE X own (.Name x pos) (tVar i) (mVar i) := ⟨pe_var hN hv hd hcd, df_var ho⟩
theorem w_own (i : Nat) {x : Str} (ho : i ∈ own := by decide) (hN : X.N[i]? = some x := by rfl) (hv : Vis X.env.scope x := by first | exact Or.inl rfl | exact Or.inr (Or.inl rfl) | exact Or.inr (Or.inr rfl)) (hd : (x == ("__debug__" : Str)) = false := by decide)
    (hcd : (x == ("__classdict__" : Str)) = false := by decide) : CW X own (.Name x pos) (tVar i) (mAsL (mVar i)) := ⟨pe_var hN hv hd hcd, dw_own ho⟩

/-! ### operators -/
def gSub : Dt → Dt → Option Dt := gI fun i j => some (.int (i - j))
def gMul : Dt → Dt → Option Dt := gI fun i j => if decide (i.natAbs.log2 + j.natAbs.log2 < 1000000) then some (.int (i * j)) else none
def gFdiv : Dt → Dt → Option Dt := gI fun i j => if decide (0 < j) && decide (j.natAbs.log2 < 9000) then some (.int (i / j)) else none
def gMod : Dt → Dt → Option Dt := gI fun i j => if decide (0 < j) then some (.int (i % j)) else none
def gPow : Dt → Dt → Option Dt := gI fun i j => if decide (0 ≤ j ∧ j ≤ 1000000 ∧ i.natAbs < 18446744073709551616) then some (.int (i ^ j.toNat)) else none
def gShl : Dt → Dt → Option Dt := gI fun i j => if decide (0 ≤ j ∧ j ≤ 1000000 ∧ i.natAbs < 18446744073709551616) then some (.int (i * 2 ^ j.toNat)) else none
def gShr : Dt → Dt → Option Dt := gI fun i j => if decide (0 ≤ j) then some (.int (i / 2 ^ j.toNat)) else none
def gBand : Dt → Dt → Option Dt := gI fun i j => some (.int (Builtin.bitAnd i j))
def gNeg : Dt → Option Dt
  | .int i => some (.int (-i))
  | _ => none
theorem e_add (ha : CE X own a ta fa) (hb : CE X own b tb fb) {K : PySem.W.Frag} (hK : X.K = K := by rfl) : CE X own (.BinOp a .Add b pos) (tOp (rAddU K) ta tb) (bin gAdd fa fb) := by
  subst hK
  exact ⟨pe_op op_addU ha.pe hb.pe, df_op opd_add ha.df hb.df⟩
theorem e_sub (ha : CE X own a ta fa) (hb : CE X own b tb fb) : CE X own (.BinOp a .Sub b pos) (tOp (rI0 fun i j => .int (i - j)) ta tb) (bin gSub fa fb) := ⟨pe_op op_sub ha.pe hb.pe, df_op (opd_I0 fun _ _ _ => .int _) ha.df hb.df⟩
theorem e_mul (ha : CE X own a ta fa) (hb : CE X own b tb fb) : CE X own (.BinOp a .Mult b pos) (tOp (rI CMulW fun i j => .int (i * j)) ta tb) (bin gMul fa fb) :=
  ⟨pe_op op_mulW ha.pe hb.pe, df_op (opd_I (c := fun i j => decide (i.natAbs.log2 + j.natAbs.log2 < 1000000)) (fun _ _ h => (by simp at h; exact h)) fun _ _ _ => .int _) ha.df hb.df⟩
theorem e_fdiv (ha : CE X own a ta fa) (hb : CE X own b tb fb) : CE X own (.BinOp a .FloorDiv b pos) (tOp (rI CDivW fun i j => .int (i / j)) ta tb) (bin gFdiv fa fb) :=
  ⟨pe_op op_fdivW ha.pe hb.pe, df_op (opd_I (c := fun i j => decide (0 < j) && decide (j.natAbs.log2 < 9000)) (fun _ _ h => by simp at h; exact h) fun _ _ _ => .int _) ha.df hb.df⟩
theorem e_mod (ha : CE X own a ta fa) (hb : CE X own b tb fb) : CE X own (.BinOp a .Mod b pos) (tOp (rI (fun _ j => 0 < j) fun i j => .int (i % j)) ta tb) (bin gMod fa fb) :=
  ⟨pe_op op_mod ha.pe hb.pe, df_op (opd_I (fun _ _ h => of_decide_eq_true h) fun _ _ _ => .int _) ha.df hb.df⟩
theorem e_pow (ha : CE X own a ta fa) (hb : CE X own b tb fb) : CE X own (.BinOp a .Pow b pos) (tOp (rI CPow fun i j => .int (i ^ j.toNat)) ta tb) (bin gPow fa fb) :=
  ⟨pe_op op_pow ha.pe hb.pe, df_op (opd_I (c := fun i j => decide (0 ≤ j ∧ j ≤ 1000000 ∧ i.natAbs < 18446744073709551616)) (fun _ _ h => (by have h := of_decide_eq_true h; exact ⟨h.1, h.2.1, by have := h.2.2; omega⟩)) fun _ _ _ => .int _) ha.df hb.df⟩
theorem e_shl (ha : CE X own a ta fa) (hb : CE X own b tb fb) : CE X own (.BinOp a .LShift b pos) (tOp (rI CPow fun i j => .int (i * 2 ^ j.toNat)) ta tb) (bin gShl fa fb) :=
  ⟨pe_op op_shl ha.pe hb.pe, df_op (opd_I (c := fun i j => decide (0 ≤ j ∧ j ≤ 1000000 ∧ i.natAbs < 18446744073709551616)) (fun _ _ h => (by have h := of_decide_eq_true h; exact ⟨h.1, h.2.1, by have := h.2.2; omega⟩)) fun _ _ _ => .int _) ha.df hb.df⟩
theorem e_shr (ha : CE X own a ta fa) (hb : CE X own b tb fb) : CE X own (.BinOp a .RShift b pos) (tOp (rI (fun _ j => 0 ≤ j) fun i j => .int (i / 2 ^ j.toNat)) ta tb) (bin gShr fa fb) :=
  ⟨pe_op op_shr ha.pe hb.pe, df_op (opd_I (fun _ _ h => of_decide_eq_true h) fun _ _ _ => .int _) ha.df hb.df⟩
theorem e_band (ha : CE X own a ta fa) (hb : CE X own b tb fb) : CE X own (.BinOp a .BitAnd b pos) (tOp (rI0 fun i j => .int (Builtin.bitAnd i j)) ta tb) (bin gBand fa fb) := ⟨pe_op op_and ha.pe hb.pe, df_op (opd_I0 fun _ _ _ => .int _) ha.df hb.df⟩
theorem e_neg (ha : CE X own a ta fa) : CE X own (.UnaryOp .USub a pos) (tUn (rU fun i => .int (-i)) ta) (un1 gNeg fa) := ⟨pe_un un_neg ha.pe, df_un (fun H0 H x d s r d' e Q q => by
  cases d <;> simp [gNeg] at e
  subst e
  exact ⟨_, r.int_inv, q _ H0 H (Xt.refl s) (.int _)⟩) ha.df⟩

/-! ### comparisons -/
def gLt : Dt → Dt → Option Dt := gI fun i j => some (.bool (decide (i < j)))
def gLe : Dt → Dt → Option Dt := gI fun i j => some (.bool (decide (i ≤ j)))
def gGt : Dt → Dt → Option Dt := gI fun i j => some (.bool (decide (j < i)))
def gGe : Dt → Dt → Option Dt := gI fun i j => some (.bool (decide (j ≤ i)))
def gEq : Dt → Dt → Option Dt := fun a b => if SeqAt.shaped a && SeqAt.shaped b then some (.bool (PyData.eqv a b)) else none
def gNe : Dt → Dt → Option Dt := fun a b => if SeqAt.shaped a && SeqAt.shaped b then some (.bool (!PyData.eqv a b)) else none
theorem shaped_lay {d : Dt} (h : SeqAt.shaped d = true) : d.canLay0 = true := SeqAt.canLay_of_shaped h
theorem opd_eq {K : PySem.W.Frag} : OpD K (rEqD K) gEq := by
  intro H0 H x y a b s ra rb d e Q q
  unfold gEq at e
  split at e
  · rename_i h
    rw [Bool.and_eq_true] at h
    cases e
    exact ⟨a, b, (ra.mono s).dp (shaped_lay h.1), (rb.mono s).dp (shaped_lay h.2), h.1, h.2, q _ H0 H (Xt.refl s) (.bl _)⟩
  · cases e
theorem opd_ne {K : PySem.W.Frag} : OpD K (rNeD K) gNe := by
  intro H0 H x y a b s ra rb d e Q q
  unfold gNe at e
  split at e
  · rename_i h
    rw [Bool.and_eq_true] at h
    cases e
    exact ⟨a, b, (ra.mono s).dp (shaped_lay h.1), (rb.mono s).dp (shaped_lay h.2), h.1, h.2, q _ H0 H (Xt.refl s) (.bl _)⟩
  · cases e
/-- a comparison: as a value, as a test -/
structure COp (X : Cx) (op : CmpOp) (r : R2) (g : Dt → Dt → Option Dt) : Prop where
  op : OpR X (compareOp op) r
  d : OpD X.K r g
theorem c_lt : COp X .Lt (rI0 fun i j => .bl (decide (i < j))) gLt := ⟨op_lt, opd_I0 fun _ _ _ => .bl _⟩
theorem c_le : COp X .LtE (rI0 fun i j => .bl (decide (i ≤ j))) gLe := ⟨op_le, opd_I0 fun _ _ _ => .bl _⟩
theorem c_gt : COp X .Gt (rI0 fun i j => .bl (decide (j < i))) gGt := ⟨op_gt, opd_I0 fun _ _ _ => .bl _⟩
theorem c_ge : COp X .GtE (rI0 fun i j => .bl (decide (j ≤ i))) gGe := ⟨op_ge, opd_I0 fun _ _ _ => .bl _⟩
theorem c_eq (hu : X.A.units + 64 < cLine) {K : PySem.W.Frag} (hK : X.K = K := by rfl) : COp X .Eq (rEqD K) gEq := by
  subst hK
  exact ⟨op_eqD hu, opd_eq⟩
theorem c_ne (hu : X.A.units + 64 < cLine) {K : PySem.W.Frag} (hK : X.K = K := by rfl) : COp X .NotEq (rNeD K) gNe := by
  subst hK
  exact ⟨op_neD hu, opd_ne⟩
def isNon : Dt → Bool
  | .none => true
  | _ => false
def gIsN : Dt → Dt → Option Dt
  | a, .none => some (.bool (isNon a))
  | _, _ => none
def gNotN : Dt → Dt → Option Dt
  | a, .none => some (.bool (!isNon a))
  | _, _ => none
theorem Rv.non_dec {K : PySem.W.Frag} {H : Hp} {v : V} {d : Dt} (r : Rv K H v d) : decide (v = .non) = isNon d := by cases r <;> simp [isNon]
theorem c_is : COp X .Is (fun x y H Q => y = .non ∧ Q (.bl (decide (x = .non))) H) gIsN := ⟨op_isN, fun H0 H x y a b s ra rb d e Q q => by
  cases b <;> simp [gIsN] at e
  subst e
  exact ⟨rb.none_inv, q _ H0 H (Xt.refl s) (by rw [ra.non_dec]; exact .bl _)⟩⟩
theorem c_isnot : COp X .IsNot (fun x y H Q => y = .non ∧ Q (.bl (!decide (x = .non))) H) gNotN := ⟨op_notN, fun H0 H x y a b s ra rb d e Q q => by
  cases b <;> simp [gNotN] at e
  subst e
  exact ⟨rb.none_inv, q _ H0 H (Xt.refl s) (by rw [ra.non_dec]; exact .bl _)⟩⟩
/-- in, not in -/
def flatD : Dt → Bool
  | .none => true
  | .bool _ => true
  | .int _ => true
  | .str _ => true
  | _ => false
theorem Rv.flat {K : PySem.W.Frag} {H : Hp} {v : V} {d : Dt} (r : Rv K H v d) (h : flatD d = true) : flatV v = true := by
  cases r <;> first | rfl | cases h
theorem Rv.eqv {K : PySem.W.Frag} {H : Hp} {v u : V} {d e : Dt} (r : Rv K H v d) (r2 : Rv K H u e) (h : flatD d = true) (h2 : flatD e = true) : eqV v u = PyData.eqv d e := by
  cases r <;> first | cases h | skip
  all_goals (cases r2 <;> first | cases h2 | skip)
  all_goals simp [eqV, PyData.eqv]
theorem RvA.flat {K : PySem.W.Frag} {H : Hp} : ∀ {vs : List V} {ds : List Dt}, RvA K H vs ds → ds.all flatD = true → vs.all flatV = true
  | _, _, .nil, _ => rfl
  | _, _, .cons r t, h => by
    rw [List.all_cons, Bool.and_eq_true] at h ⊢
    exact ⟨r.flat h.1, t.flat h.2⟩
theorem RvA.inV {K : PySem.W.Frag} {H : Hp} {v : V} {d : Dt} (r : Rv K H v d) (hd : flatD d = true) : ∀ {vs : List V} {ds : List Dt}, RvA K H vs ds → ds.all flatD = true → inV v vs = ds.any fun z => PyData.eqv z d
  | _, _, .nil, _ => rfl
  | _, _, .cons r' t, h => by
    rw [List.all_cons, Bool.and_eq_true] at h
    have ih := RvA.inV r hd t h.2
    unfold L2.inV at ih ⊢
    rw [List.any_cons, List.any_cons, ih, r'.eqv r h.1 hd]
def inE (d : Dt) (ds : List Dt) : Bool := ds.any fun z => PyData.eqv z d
def gInF (neg : Bool) : Dt → Dt → Option Dt
  | a, .list ds => if flatD a && ds.all flatD then some (.bool (if neg then !inE a ds else inE a ds)) else none
  | a, .tuple ds => if flatD a && ds.all flatD then some (.bool (if neg then !inE a ds else inE a ds)) else none
  | _, _ => none
theorem opd_in {K : PySem.W.Frag} {neg : Bool} : OpD K (rIn K neg) (gInF neg) := by
  intro H0 H x y a b s ra rb d e Q q
  cases b <;> simp only [gInF] at e <;> try cases e
  all_goals
    split at e
    · rename_i ds h
      rw [Bool.and_eq_true] at h
      cases e
      first
        | (obtain ⟨p, xs, rfl, hs, ht⟩ := rb.list_inv
           exact ⟨p, xs, rfl, .inl (s.seq hs), ra.flat h.1, ht.flat h.2, q _ H0 H (Xt.refl s) (by rw [RvA.inV ra h.1 ht h.2]; exact .bl _)⟩)
        | (obtain ⟨p, xs, rfl, hs, ht⟩ := rb.tup_inv
           exact ⟨p, xs, rfl, .inr (same_t s hs), ra.flat h.1, ht.flat h.2, q _ H0 H (Xt.refl s) (by rw [RvA.inV ra h.1 ht h.2]; exact .bl _)⟩)
    · cases e
theorem c_in {K : PySem.W.Frag} (hK : X.K = K := by rfl) : COp X .In (rIn K false) (gInF false) := by
  subst hK
  exact ⟨op_in_seq, opd_in⟩
theorem c_notin {K : PySem.W.Frag} (hK : X.K = K := by rfl) : COp X .NotIn (rIn K true) (gInF true) := by
  subst hK
  exact ⟨op_notIn_seq, opd_in⟩
/-- of data of any depth, in a list -/
def gInD (neg : Bool) : Dt → Dt → Option Dt
  | a, .list ds => if SeqAt.shaped a && SeqAt.shaped (.list ds) then some (.bool (if neg then !inE a ds else inE a ds)) else none
  | _, _ => none
theorem c_inD (hu : X.A.units + 65 < cLine) {K : PySem.W.Frag} (hK : X.K = K := by rfl) : COp X .In (rInD K) (gInD false) := by
  subst hK
  exact ⟨op_inD hu, fun H0 H x y a b s ra rb d e Q q => by
  cases b <;> simp only [gInD] at e <;> try cases e
  split at e
  · rename_i ds h
    rw [Bool.and_eq_true] at h
    cases e
    exact ⟨a, ds, (ra.mono s).dp (shaped_lay h.1), (rb.mono s).dp (shaped_lay h.2), h.1, h.2, q _ H0 H (Xt.refl s) (.bl _)⟩
  · cases e⟩
theorem c_notinD (hu : X.A.units + 65 < cLine) {K : PySem.W.Frag} (hK : X.K = K := by rfl) : COp X .NotIn (rNotInD K) (gInD true) := by
  subst hK
  exact ⟨op_notInD hu, fun H0 H x y a b s ra rb d e Q q => by
  cases b <;> simp only [gInD] at e <;> try cases e
  split at e
  · rename_i ds h
    rw [Bool.and_eq_true] at h
    cases e
    exact ⟨a, ds, (ra.mono s).dp (shaped_lay h.1), (rb.mono s).dp (shaped_lay h.2), h.1, h.2, q _ H0 H (Xt.refl s) (.bl _)⟩
  · cases e⟩
def mAsB (f : FE) : FB := fun ρ => (f ρ).bind asBool
theorem db_test {K : PySem.W.Frag} (h : DF K own te fe) : DB K own (tTest te) (mAsB fe) := by
  intro B0 B σ H0 H ρ S b e Q q
  obtain ⟨d, e1, e2⟩ := Option.bind_eq_some_iff.mp e
  cases asBool_some e2
  exact h B0 B σ H0 H ρ S _ e1 _ fun v H0' H' x r => ⟨b, r.bool_inv, q H0' H' x⟩
theorem e_cmp {op : CmpOp} {r : R2} {g} (h : COp X op r g) (ha : CE X own a ta fa) (hb : CE X own b tb fb) (hm : behindInMarks op b = false := by first | exact nomark _ | with_unfolding_all rfl) :
    CE X own (.Compare a [op] [b] pos) (tOp r ta tb) (bin g fa fb) := ⟨pe_cmpR h.op ha.pe hb.pe hm, df_op h.d ha.df hb.df⟩
theorem b_cmp {op : CmpOp} {r : R2} {g} (h : COp X op r g) (ha : CE X own a ta fa) (hb : CE X own b tb fb) (hm : behindInMarks op b = false := by first | exact nomark _ | with_unfolding_all rfl) :
    CB X own (.Compare a [op] [b] pos) (tTest (tOp r ta tb)) (mAsB (bin g fa fb)) := ⟨pt_cmpR h.op ha.pe hb.pe hm, db_test (df_op h.d ha.df hb.df)⟩
/-- a chain of two comparisons -/
def chain (g g' : Dt → Dt → Option Dt) (fa fb fc : FE) : FE := fun ρ => (fa ρ).bind fun a => (fb ρ).bind fun b => (g a b).bind fun r => (asBool r).bind fun k =>
  if k then (fc ρ).bind fun c => g' b c else some (.bool false)
theorem df_chain {K : PySem.W.Frag} {r r' : R2} {g g'} (h : OpD K r g) (h' : OpD K r' g') (ha : DF K own ta fa) (hb : DF K own tb fb) (hc : DF K own tc fc) : DF K own (tChain r r' ta tb tc) (chain g g' fa fb fc) := by
  intro B0 B σ H0 H ρ S d e Q q
  obtain ⟨a, e1, e⟩ := Option.bind_eq_some_iff.mp e
  obtain ⟨b, e2, e⟩ := Option.bind_eq_some_iff.mp e
  obtain ⟨k', e3, e⟩ := Option.bind_eq_some_iff.mp e
  obtain ⟨k, e4, e⟩ := Option.bind_eq_some_iff.mp e
  cases asBool_some e4
  refine ha B0 B σ H0 H ρ S a e1 _ fun v H1 G1 x1 r1 => ?_
  refine hb B0 B σ H1 G1 ρ (S.ext x1) b e2 _ fun u H2 G2 x2 r2 => ?_
  refine h H2 G2 v u a b x2.s (r1.mono x2.f) r2 _ e3 _ fun z H3 G3 x3 r3 => ⟨k, r3.bool_inv, ?_⟩
  have S3 := ((S.ext x1).ext x2).ext x3
  cases k with
  | true =>
    simp only [asBool, Option.bind_some, if_true] at e
    rw [if_pos rfl]
    obtain ⟨c, e5, e⟩ := Option.bind_eq_some_iff.mp e
    refine hc B0 B σ H3 G3 ρ S3 c e5 _ fun y H4 G4 x4 r4 => ?_
    exact h' H4 G4 u y b c x4.s (r2.mono (x3.f.trans x4.f)) r4 d e Q fun w H5 G5 x5 r5 => q w H5 G5 ((((x1.trans x2).trans x3).trans x4).trans x5) r5
  | false =>
    simp only [asBool, Option.bind_some, Bool.false_eq_true, if_false] at e
    rw [if_neg (by decide)]
    cases e
    exact q _ H3 G3 ((x1.trans x2).trans x3) (.bl _)
theorem e_chain {op op' : CmpOp} {r r' : R2} {g g'} (h : COp X op r g) (h' : COp X op' r' g') (ha : CE X own a ta fa) (hb : CE X own b tb fb) (hc : CE X own c tc fc) (hm : lastMarks [op, op'] [b, c] = false := by with_unfolding_all rfl) :
    CE X own (.Compare a [op, op'] [b, c] pos) (tChain r r' ta tb tc) (chain g g' fa fb fc) := ⟨pe_chain h.op h'.op ha.pe hb.pe hc.pe hm, df_chain h.d h'.d ha.df hb.df hc.df⟩
theorem b_chain {op op' : CmpOp} {r r' : R2} {g g'} (h : COp X op r g) (h' : COp X op' r' g') (ha : CE X own a ta fa) (hb : CE X own b tb fb) (hc : CE X own c tc fc) (hm : lastMarks [op, op'] [b, c] = false := by with_unfolding_all rfl) :
    CB X own (.Compare a [op, op'] [b, c] pos) (tTest (tChain r r' ta tb tc)) (mAsB (chain g g' fa fb fc)) := ⟨pt_chain h.op h'.op ha.pe hb.pe hc.pe hm, db_test (df_chain h.d h'.d ha.df hb.df hc.df)⟩

/-! ### tests -/
theorem b_val (h : CE X own e te fe) (he : ∀ whole, isTrue e X.env whole = (do let v ← whole; standAt e.pos; holding [v] (truthy v)) := by intro _; rfl) : CB X own e (tB te) (mAsB fe) := ⟨pt_val h.pe he, db_test h.df⟩
def mAnd (f g : FB) : FB := fun ρ => (f ρ).bind fun a => if a then g ρ else some false
def mOr (f g : FB) : FB := fun ρ => (f ρ).bind fun a => if a then some true else g ρ
def mNot (f : FB) : FB := fun ρ => (f ρ).map (! ·)
structure CBw (X : Cx) (own : List Nat) (e : Expr) (tt : TT) (f : FB) : Prop where
  pw : PW X e tt
  db : DB X.K own tt f
variable {tA tB' : TT} {f g : FB} {rest : List Expr}
theorem CBw.to (h : CBw X own e tA f) : CB X own e tA f := ⟨h.pw.pt, h.db⟩
theorem db_and {K : PySem.W.Frag} (ha : DB K own tA f) (hb : DB K own tB' g) : DB K own (tAnd tA tB') (mAnd f g) := by
  intro B0 B σ H0 H ρ S b e Q q
  obtain ⟨k, e1, e⟩ := Option.bind_eq_some_iff.mp e
  refine ha B0 B σ H0 H ρ S k e1 _ fun H1 G1 x1 => ?_
  cases k with
  | true =>
    rw [if_pos rfl] at e ⊢
    exact hb B0 B σ H1 G1 ρ (S.ext x1) b e Q fun H2 G2 x2 => q H2 G2 (x1.trans x2)
  | false =>
    rw [if_neg (by decide)] at e ⊢
    cases e
    exact q H1 G1 x1
theorem db_or {K : PySem.W.Frag} (ha : DB K own tA f) (hb : DB K own tB' g) : DB K own (tOr tA tB') (mOr f g) := by
  intro B0 B σ H0 H ρ S b e Q q
  obtain ⟨k, e1, e⟩ := Option.bind_eq_some_iff.mp e
  refine ha B0 B σ H0 H ρ S k e1 _ fun H1 G1 x1 => ?_
  cases k with
  | false =>
    rw [if_neg (by decide)] at e ⊢
    exact hb B0 B σ H1 G1 ρ (S.ext x1) b e Q fun H2 G2 x2 => q H2 G2 (x1.trans x2)
  | true =>
    rw [if_pos rfl] at e ⊢
    cases e
    exact q H1 G1 x1
theorem b_and1 (ha : CB X own a tA f) : CBw X own (.BoolOp .And [a] pos) tA f := ⟨pw_and1 ha.pt, ha.db⟩
theorem b_or1 (ha : CB X own a tA f) : CBw X own (.BoolOp .Or [a] pos) tA f := ⟨pw_or1 ha.pt, ha.db⟩
theorem b_and (ha : CB X own a tA f) (hb : CBw X own (.BoolOp .And (b :: rest) pos) tB' g) : CBw X own (.BoolOp .And (a :: b :: rest) pos) (tAnd tA tB') (mAnd f g) := ⟨pw_and ha.pt hb.pw, db_and ha.db hb.db⟩
theorem b_or (ha : CB X own a tA f) (hb : CBw X own (.BoolOp .Or (b :: rest) pos) tB' g) : CBw X own (.BoolOp .Or (a :: b :: rest) pos) (tOr tA tB') (mOr f g) := ⟨pw_or ha.pt hb.pw, db_or ha.db hb.db⟩
theorem b_not (ha : CB X own a tA f) : CB X own (.UnaryOp .Not a pos) (tNot tA) (mNot f) := ⟨pt_not ha.pt, fun B0 B σ H0 H ρ S b e Q q => by
  obtain ⟨k, e1, rfl⟩ := Option.map_eq_some_iff.mp e
  exact ha.db B0 B σ H0 H ρ S k e1 _ fun H1 G1 x1 => q H1 G1 x1⟩
/-- values -/
def mAndV (f g : FE) : FE := fun ρ => (f ρ).bind fun a => (asBool a).bind fun k => if k then g ρ else some (.bool false)
def mOrV (f g : FE) : FE := fun ρ => (f ρ).bind fun a => (asBool a).bind fun k => if k then some (.bool true) else g ρ
def mNotV (f : FE) : FE := fun ρ => (f ρ).bind fun a => (asBool a).map fun k => .bool (!k)
theorem e_one {op} (h : CE X own a ta fa) : CE X own (.BoolOp op [a] pos) ta fa := ⟨pe_one h.pe, h.df⟩
theorem e_and (ha : CE X own a ta fa) (hb : CE X own (.BoolOp .And (b :: rest) pos) tb fb) : CE X own (.BoolOp .And (a :: b :: rest) pos) (tAndV ta tb) (mAndV fa fb) := ⟨pe_and ha.pe hb.pe, fun B0 B σ H0 H ρ S d e Q q => by
  obtain ⟨v, e1, e⟩ := Option.bind_eq_some_iff.mp e
  obtain ⟨k, e2, e⟩ := Option.bind_eq_some_iff.mp e
  cases asBool_some e2
  refine ha.df B0 B σ H0 H ρ S _ e1 _ fun v H1 G1 x1 r1 => ⟨k, r1.bool_inv, ?_⟩
  cases k with
  | true =>
    simp only [asBool, Option.bind_some, if_true] at e
    rw [if_pos rfl]
    exact hb.df B0 B σ H1 G1 ρ (S.ext x1) d e Q fun v H2 G2 x2 => q v H2 G2 (x1.trans x2)
  | false =>
    simp only [asBool, Option.bind_some, Bool.false_eq_true, if_false] at e
    rw [if_neg (by decide)]
    cases e
    exact q _ H1 G1 x1 (.bl _)⟩
theorem e_or (ha : CE X own a ta fa) (hb : CE X own (.BoolOp .Or (b :: rest) pos) tb fb) : CE X own (.BoolOp .Or (a :: b :: rest) pos) (tOrV ta tb) (mOrV fa fb) := ⟨pe_or ha.pe hb.pe, fun B0 B σ H0 H ρ S d e Q q => by
  obtain ⟨v, e1, e⟩ := Option.bind_eq_some_iff.mp e
  obtain ⟨k, e2, e⟩ := Option.bind_eq_some_iff.mp e
  cases asBool_some e2
  refine ha.df B0 B σ H0 H ρ S _ e1 _ fun v H1 G1 x1 r1 => ⟨k, r1.bool_inv, ?_⟩
  cases k with
  | false =>
    simp only [asBool, Option.bind_some, Bool.false_eq_true, if_false] at e
    rw [if_neg (by decide)]
    exact hb.df B0 B σ H1 G1 ρ (S.ext x1) d e Q fun v H2 G2 x2 => q v H2 G2 (x1.trans x2)
  | true =>
    simp only [asBool, Option.bind_some, if_true] at e
    rw [if_pos rfl]
    cases e
    exact q _ H1 G1 x1 (.bl _)⟩
theorem e_not (ha : CE X own a ta fa) : CE X own (.UnaryOp .Not a pos) (tNotV ta) (mNotV fa) := ⟨pe_not ha.pe, fun B0 B σ H0 H ρ S d e Q q => by
  obtain ⟨v, e1, e⟩ := Option.bind_eq_some_iff.mp e
  obtain ⟨k, e2, rfl⟩ := Option.map_eq_some_iff.mp e
  cases asBool_some e2
  exact ha.df B0 B σ H0 H ρ S _ e1 _ fun v H1 G1 x1 r1 => ⟨k, r1.bool_inv, q _ H1 G1 x1 (.bl _)⟩⟩
def mIf (c : FB) (f g : FE) : FE := fun ρ => (c ρ).bind fun k => if k then f ρ else g ρ
theorem e_if (hc : CB X own c tA f) (ha : CE X own a ta fa) (hb : CE X own b tb fb) : CE X own (.IfExp c a b pos) (tIf tA ta tb) (mIf f fa fb) := ⟨pe_ifExp hc.pt ha.pe hb.pe, fun B0 B σ H0 H ρ S d e Q q => by
  obtain ⟨k, e1, e⟩ := Option.bind_eq_some_iff.mp e
  refine hc.db B0 B σ H0 H ρ S _ e1 _ fun H1 G1 x1 => ?_
  cases k with
  | true =>
    rw [if_pos rfl] at e ⊢
    exact ha.df B0 B σ H1 G1 ρ (S.ext x1) d e Q fun v H2 G2 x2 => q v H2 G2 (x1.trans x2)
  | false =>
    rw [if_neg (by decide)] at e ⊢
    exact hb.df B0 B σ H1 G1 ρ (S.ext x1) d e Q fun v H2 G2 x2 => q v H2 G2 (x1.trans x2)⟩

/-! ### arguments, tuples, lists -/
def aNil : FA := fun _ => some []
def aCons (f : FE) (g : FA) : FA := fun ρ => (f ρ).bind fun d => (g ρ).map (d :: ·)
theorem a_nil : CA X own [] tNil aNil := ⟨pa_nil, fun B0 B σ H0 H ρ S ds e Q q => by
  cases e
  exact q [] H0 H (Xt.refl S.same) .nil⟩
theorem a_cons (ha : CE X own a ta fa) (hr : CA X own es ts fs) (hs : starEach (a :: es) X.env = (false, eval a X.env) :: starEach es X.env := by rfl) : CA X own (a :: es) (tCons ta ts) (aCons fa fs) := ⟨pa_cons ha.pe hr.pa hs, fun B0 B σ H0 H ρ S ds e Q q => by
  obtain ⟨d, e1, e⟩ := Option.bind_eq_some_iff.mp e
  obtain ⟨ds', e2, rfl⟩ := Option.map_eq_some_iff.mp e
  refine ha.df B0 B σ H0 H ρ S d e1 _ fun v H1 G1 x1 r1 => ?_
  exact hr.da B0 B σ H1 G1 ρ (S.ext x1) ds' e2 _ fun vs H2 G2 x2 r2 => q _ H2 G2 (x1.trans x2) (.cons (r1.mono x2.f) r2)⟩
def mTup (f : FA) : FE := fun ρ => (f ρ).bind fun ds => if ds.length ≤ bigN then some (.tuple ds) else none
theorem e_tup {x1} (h : CA X own es ts fs) : CE X own (.Tuple es x1 pos) (tTup ts) (mTup fs) := ⟨pe_tup h.pa, fun B0 B σ H0 H ρ S d e Q q => by
  obtain ⟨ds, e1, e⟩ := Option.bind_eq_some_iff.mp e
  split at e
  · rename_i hz
    cases e
    refine h.da B0 B σ H0 H ρ S ds e1 _ fun vs H1 G1 x1 r1 => ⟨big_le (by rw [r1.len]; exact hz), fun p hp => ?_⟩
    have x := Xt.new x1.s (o := .tup vs) hp
    exact q _ _ _ (x1.trans x) (.tup upd_same (r1.mono x.f))
  · cases e⟩
def mLim (f : FA) : FA := fun ρ => (f ρ).bind fun ds => if ds.length ≤ bigN then some ds else none
theorem mLim_some {f : FA} {ρ : Rho} {ds : List Dt} (h : mLim f ρ = some ds) : f ρ = some ds ∧ ds.length ≤ bigN := by
  obtain ⟨es, e1, e⟩ := Option.bind_eq_some_iff.mp h
  split at e
  · cases e; exact ⟨e1, by assumption⟩
  · cases e
theorem l_lst (h : CA X own es ts fs) : CL X own (.List es pos) (tLst ts) (mLim fs) := ⟨pe_lst h.pa, fun B0 B σ H0 H ρ S ds e Q q => by
  obtain ⟨e1, hz⟩ := mLim_some e
  refine h.da B0 B σ H0 H ρ S ds e1 _ fun vs H1 G1 x1 r1 => ⟨big_le (by rw [r1.len]; exact hz), fun p hp => ?_⟩
  have x := Xt.loose x1.s (o := .lst vs) hp
  exact q p vs H1 _ (x1.trans x) ((Same.free x1.k hp)) (x1.s.free hp) upd_same r1⟩
end
end Tie

/-! Subscripts, slices, built-ins, walks, comprehensions. -/
namespace Tie
open PySem L2

section
variable {K : PySem.W.Frag}
theorem RvA.at {H : Hp} {vs : List V} {ds : List Dt} {i : Int} {d : Dt} (r : RvA K H vs ds) (h : atI ds i = some d) : ∃ v, atI vs i = some v ∧ Rv K H v d := by
  unfold atI at h ⊢
  rw [r.len]
  cases e : ixN ds.length i with
  | none => rw [e] at h; cases h
  | some j => rw [e] at h; exact r.get h
/-! ### subscripts -/
def gIx : Dt → Dt → Option Dt
  | .list ds, .int i => atI ds i
  | .tuple ds, .int i => atI ds i
  | .str z, .int i => if z.length ≤ bigN then (atI z.cps.toList i).map fun c => .str ⟨#[c]⟩ else none
  | _, _ => none
theorem opd_ix : OpD K (rIx K) gIx := by
  intro H0 H x y a b s ra rb d e Q q
  cases a <;> cases b <;> simp only [gIx] at e <;> try cases e
  · split at e
    · rename_i z i hz
      obtain ⟨c, e1, rfl⟩ := Option.map_eq_some_iff.mp e
      exact .inr (.inr ⟨z, i, c, ra.str_inv, rb.int_inv, big_le hz, e1, q _ H0 H (Xt.refl s) (.str _)⟩)
    · cases e
  · rename_i ds i
    obtain ⟨p, xs, rfl, hs, ht⟩ := ra.list_inv
    obtain ⟨v, hv, rv⟩ := ht.at e
    exact .inl ⟨p, xs, i, v, rfl, rb.int_inv, s.seq hs, hv, q v H0 H (Xt.refl s) rv⟩
  · rename_i ds i
    obtain ⟨p, xs, rfl, hs, ht⟩ := ra.tup_inv
    obtain ⟨v, hv, rv⟩ := ht.at e
    exact .inr (.inl ⟨p, xs, i, v, rfl, rb.int_inv, same_t s hs, hv, q v H0 H (Xt.refl s) rv⟩)
end
def mIxW (f : FA) (g : FE) : FE := fun ρ => (f ρ).bind fun ds => (g ρ).bind fun i => (asInt i).bind fun i => atI ds i

def cutD (xs : List Dt) (lo hi : Option Int) : List Dt := (xs.drop (HT.sIx xs.length 0 lo)).take (HT.sIx xs.length xs.length hi - HT.sIx xs.length 0 lo)
theorem RvA.cut {K : PySem.W.Frag} {H : Hp} {vs : List V} {ds : List Dt} (r : RvA K H vs ds) (lo hi : Option Int) : RvA K H (cutV vs lo hi) (cutD ds lo hi) := by
  unfold cutV cutD
  rw [r.len]
  exact (r.drop _).take _
abbrev FO := Rho → Option (Option Int)
def DO (K : PySem.W.Frag) (own : List Nat) (to : TO) (f : FO) : Prop :=
  ∀ (B0 B : Hp) (σ : St) (H0 H : Hp) (ρ : Rho), StR K B0 B own σ H0 H ρ → ∀ o, f ρ = some o → ∀ Q : Option Int → Hp → Prop, (∀ H0' H', Xt H0 H H0' H' → Q o H') → to σ H Q
structure CO (X : Cx) (own : List Nat) (e : Option Expr) (to : TO) (f : FO) : Prop where
  po : PO X e to
  d : DO X.K own to f
def mNoPart : FO := fun _ => some none
def mPart (f : FE) : FO := fun ρ => (f ρ).bind fun d => (asInt d).map some
/-- t[lo:hi] of a tuple or a list; the list's is new -/
def rSlU (K : PySem.W.Frag) : V → Option Int → Option Int → Hp → VK → Prop := fun x lo hi H Q => rSlA K x lo hi H Q ∨ rSlL K x lo hi H Q
def gSl (d : Dt) (lo hi : Option Int) : Option Dt := match d with
  | .list ds => some (.list (cutD ds lo hi))
  | .tuple ds => some (.tuple (cutD ds lo hi))
  | _ => none
theorem gSl_some {d r : Dt} {lo hi : Option Int} (h : gSl d lo hi = some r) : (∃ ds, d = .list ds ∧ r = .list (cutD ds lo hi)) ∨ (∃ ds, d = .tuple ds ∧ r = .tuple (cutD ds lo hi)) := by
  cases d <;> simp only [gSl] at h <;> cases h
  · exact .inl ⟨_, rfl, rfl⟩
  · exact .inr ⟨_, rfl, rfl⟩
def mSl (f : FE) (l h : FO) : FE := fun ρ => (f ρ).bind fun d => (l ρ).bind fun lo => (h ρ).bind fun hi => gSl d lo hi
def mSlL (f : FA) (l h : FO) : FA := fun ρ => (f ρ).bind fun d => (l ρ).bind fun lo => (h ρ).bind fun hi => some (cutD d lo hi)

section
variable {X : Cx} {own : List Nat} {a b c e : Expr} {es : List Expr} {ta tb tc te : TE} {ts : TA} {fa fb fc fe : FE} {fs : FA} {pos p : Pos}

theorem e_ix (ha : CE X own a ta fa) (hb : CE X own b tb fb) (hs : PlainIx b := by exact fun _ _ => rfl) {K : PySem.W.Frag} (hK : X.K = K := by rfl) : CE X own (.Subscript a b pos) (tOp (rIx K) ta tb) (bin gIx fa fb) := by
  subst hK
  exact ⟨pe_ix ix_seq ha.pe hb.pe hs, df_op opd_ix ha.df hb.df⟩
theorem e_ixW (ha : CW X own a ta fs) (hb : CE X own b tb fb) (hs : PlainIx b := by exact fun _ _ => rfl) {K : PySem.W.Frag} (hK : X.K = K := by rfl) : CE X own (.Subscript a b pos) (tOp (rIx K) ta tb) (mIxW fs fb) := by
  subst hK
  exact ⟨pe_ix ix_seq ha.pe hb.pe hs, fun B0 B σ H0 H ρ S d e Q q => by
  obtain ⟨ds, e1, e⟩ := Option.bind_eq_some_iff.mp e
  obtain ⟨i', e2, e⟩ := Option.bind_eq_some_iff.mp e
  obtain ⟨i, e3, e⟩ := Option.bind_eq_some_iff.mp e
  cases asInt_some e3
  refine ha.dw B0 B σ H0 H ρ S ds e1 _ fun a xs H1 G1 x1 hs r1 => ?_
  refine hb.df B0 B σ H1 G1 ρ (S.ext x1) _ e2 _ fun u H2 G2 x2 r2 => ?_
  obtain ⟨v, hv, rv⟩ := (r1.mono x2.f).at e
  exact .inl ⟨a, xs, i, v, rfl, r2.int_inv, x2.k.seq hs, hv, q v H2 G2 (x1.trans x2) rv⟩⟩
theorem o_none : CO X own none tNoPart mNoPart := ⟨po_none, fun B0 B σ H0 H ρ S o e Q q => by cases e; exact q H0 H (Xt.refl S.same)⟩
theorem o_some (h : CE X own e te fe) : CO X own (some e) (tPart te) (mPart fe) := ⟨po_some h.pe, fun B0 B σ H0 H ρ S o e Q q => by
  obtain ⟨d, e1, e⟩ := Option.bind_eq_some_iff.mp e
  obtain ⟨i, e2, rfl⟩ := Option.map_eq_some_iff.mp e
  cases asInt_some e2
  exact h.df B0 B σ H0 H ρ S _ e1 _ fun v H1 G1 x1 r1 => ⟨i, r1.int_inv, q H1 G1 x1⟩⟩
variable {lo hi : Option Expr} {tl th : TO} {fl fh : FO} {p2 : Pos}
theorem e_sl (ha : CE X own a ta fa) (hl : CO X own lo tl fl) (hh : CO X own hi th fh) {K : PySem.W.Frag} (hK : X.K = K := by rfl) : CE X own (.Subscript a (.Slice lo hi none p2) pos) (tSl (rSlU K) ta tl th) (mSl fa fl fh) := by
  subst hK
  exact ⟨pe_slice (SlR.or sl_tupA sl_list) ha.pe hl.po hh.po, fun B0 B σ H0 H ρ S d e Q q => by
  obtain ⟨x, e1, e⟩ := Option.bind_eq_some_iff.mp e
  obtain ⟨l, e2, e⟩ := Option.bind_eq_some_iff.mp e
  obtain ⟨h, e3, e⟩ := Option.bind_eq_some_iff.mp e
  refine ha.df B0 B σ H0 H ρ S x e1 _ fun v H1 G1 x1 r1 => ?_
  refine hl.d B0 B σ H1 G1 ρ (S.ext x1) l e2 _ fun H2 G2 x2 => ?_
  refine hh.d B0 B σ H2 G2 ρ ((S.ext x1).ext x2) h e3 _ fun H3 G3 x3 => ?_
  have r3 := r1.mono (x2.f.trans x3.f)
  have xx := (x1.trans x2).trans x3
  rcases gSl_some e with ⟨ds, rfl, rfl⟩ | ⟨ds, rfl, rfl⟩
  · obtain ⟨p, xs, rfl, hs, ht⟩ := r3.list_inv
    refine .inr ⟨p, xs, rfl, xx.s.seq hs, fun p' hp => ?_⟩
    have x := Xt.new xx.s (o := .lst (cutV xs l h)) hp
    exact q _ _ _ (xx.trans x) (.lst (.inl (.inl upd_same)) ((ht.cut l h).mono x.f))
  · obtain ⟨p, xs, rfl, hs, ht⟩ := r3.tup_inv
    refine .inl ⟨p, xs, rfl, same_t xx.s hs, fun hh => ?_, fun _ p' hp => ?_⟩
    · have ex : ∀ {α : Type} (ys : List α), HT.sIx ys.length 0 l = 0 → HT.sIx ys.length ys.length h = ys.length → (ys.drop (HT.sIx ys.length 0 l)).take (HT.sIx ys.length ys.length h - HT.sIx ys.length 0 l) = ys := fun ys z1 z2 => by
        rw [z1, z2]; simp
      have ed : cutD ds l h = ds := ex ds (by rw [← ht.len]; exact hh.1) (by rw [← ht.len]; exact hh.2)
      rw [ed] at q
      exact q _ _ _ xx r3
    · have x := Xt.new xx.s (o := .tup (cutV xs l h)) hp
      exact q _ _ _ (xx.trans x) (.tup upd_same ((ht.cut l h).mono x.f))⟩
/-- a list's slice, one's own -/
theorem l_sl (ha : CW X own a ta fs) (hl : CO X own lo tl fl) (hh : CO X own hi th fh) {K : PySem.W.Frag} (hK : X.K = K := by rfl) : CL X own (.Subscript a (.Slice lo hi none p2) pos) (tSl (rSlU K) ta tl th) (mSlL fs fl fh) := by
  subst hK
  exact ⟨pe_slice (SlR.or sl_tupA sl_list) ha.pe hl.po hh.po, fun B0 B σ H0 H ρ S d e Q q => by
  obtain ⟨x, e1, e⟩ := Option.bind_eq_some_iff.mp e
  obtain ⟨l, e2, e⟩ := Option.bind_eq_some_iff.mp e
  obtain ⟨h, e3, e⟩ := Option.bind_eq_some_iff.mp e
  cases e
  refine ha.dw B0 B σ H0 H ρ S x e1 _ fun v xs H1 G1 x1 hs r1 => ?_
  refine hl.d B0 B σ H1 G1 ρ (S.ext x1) l e2 _ fun H2 G2 x2 => ?_
  refine hh.d B0 B σ H2 G2 ρ ((S.ext x1).ext x2) h e3 _ fun H3 G3 x3 => ?_
  have r3 := r1.mono (x2.f.trans x3.f)
  have xx := (x1.trans x2).trans x3
  refine .inr ⟨v, xs, rfl, (x2.k.trans x3.k).seq hs, fun p' hp => ?_⟩
  have x := Xt.loose xx.s (o := .lst (cutV xs l h)) hp
  exact q _ _ _ _ (xx.trans x) (Same.free xx.k hp) (xx.s.free hp) upd_same (r3.cut l h)⟩
/-! ### calls of built-ins -/
/-- by frozen arguments -/
def CallD (K : PySem.W.Frag) (r : List V → Hp → VK → Prop) (g : List Dt → Option Dt) : Prop :=
  ∀ (H0 H : Hp) (vs : List V) (ds : List Dt), Same H0 H → RvA K H0 vs ds → ∀ d, g ds = some d → ∀ Q : VK, (∀ v H0' H', Xt H0 H H0' H' → Rv K H0' v d → Q v H') → r vs H Q
/-- of one list that is looked at -/
def CallW (K : PySem.W.Frag) (r : List V → Hp → VK → Prop) (g : List Dt → Option Dt) : Prop :=
  ∀ (H0 H : Hp) (a : Addr) (xs : List V) (ds : List Dt), Same H0 H → SqL K H a xs → RvA K H0 xs ds → ∀ d, g ds = some d → ∀ Q : VK, (∀ v H0' H', Xt H0 H H0' H' → Rv K H0' v d → Q v H') → r [.ref a] H Q
/-- .. that hands back a new list -/
def CallWL (K : PySem.W.Frag) (r : List V → Hp → VK → Prop) (g : List Dt → Option (List Dt)) : Prop :=
  ∀ (H0 H : Hp) (a : Addr) (xs : List V) (ds : List Dt), Same H0 H → SqL K H a xs → RvA K H0 xs ds → ∀ es, g ds = some es → ∀ Q : VK, (∀ p ys H0' H', Xt H0 H H0' H' → H p = none → H0' p = none → H' p = some (.lst ys) → RvA K H0' ys es → Q (.ref p) H') → r [.ref a] H Q
def mCall (g : List Dt → Option Dt) (f : FA) : FE := fun ρ => (f ρ).bind g
def mCallL (g : List Dt → Option (List Dt)) (f : FA) : FA := fun ρ => (f ρ).bind g
theorem df_cb {K : PySem.W.Frag} {r : List V → Hp → VK → Prop} {g} (h : CallD K r g) (ha : DA K own ts fs) : DF K own (tCB r ts) (mCall g fs) := by
  intro B0 B σ H0 H ρ S d e Q q
  obtain ⟨ds, e1, e⟩ := Option.bind_eq_some_iff.mp e
  exact ha B0 B σ H0 H ρ S ds e1 _ fun vs H1 G1 x1 r1 => h H1 G1 vs ds x1.s r1 d e Q fun v H2 G2 x2 r2 => q v H2 G2 (x1.trans x2) r2
theorem df_cw {K : PySem.W.Frag} {r : List V → Hp → VK → Prop} {g} (h : CallW K r g) (ha : DW K own te fs) : DF K own (tCB r (tCons te tNil)) (mCall g fs) := by
  intro B0 B σ H0 H ρ S d e Q q
  obtain ⟨ds, e1, e⟩ := Option.bind_eq_some_iff.mp e
  exact ha B0 B σ H0 H ρ S ds e1 _ fun a xs H1 G1 x1 hs r1 => h H1 G1 a xs ds x1.s hs r1 d e Q fun v H2 G2 x2 r2 => q v H2 G2 (x1.trans x2) r2
theorem dl_cw {K : PySem.W.Frag} {r : List V → Hp → VK → Prop} {g} (h : CallWL K r g) (ha : DW K own te fs) : DL K own (tCB r (tCons te tNil)) (mCallL g fs) := by
  intro B0 B σ H0 H ρ S d e Q q
  obtain ⟨ds, e1, e⟩ := Option.bind_eq_some_iff.mp e
  exact ha B0 B σ H0 H ρ S ds e1 _ fun a xs H1 G1 x1 hs r1 => h H1 G1 a xs ds x1.s hs r1 d e Q fun p ys H2 G2 x2 hn h0 h2 r2 => q p ys H2 G2 (x1.trans x2) (Same.free x1.k hn) h0 h2 r2

/-- len -/
def rLenU (K : PySem.W.Frag) : List V → Hp → VK → Prop := fun xs H Q => (∃ p ys, xs = [.ref p] ∧ (SqL K H p ys ∨ SqT K H p ys) ∧ Q (.int ys.length) H) ∨ (∃ z, xs = [.str z] ∧ z.length ≤ sizeLine ∧ Q (.int z.length) H)
def gLen : List Dt → Option Dt
  | [.list ds] => some (.int ds.length)
  | [.tuple ds] => some (.int ds.length)
  | [.str z] => if z.length ≤ bigN then some (.int z.length) else none
  | _ => none
def gLenW (ds : List Dt) : Option Dt := some (.int ds.length)
theorem cd_len {K : PySem.W.Frag} : CallD K (rLenU K) gLen := by
  intro H0 H vs ds s r d e Q q
  cases r with
  | nil => cases e
  | cons r1 r2 =>
    cases r2 with
    | cons _ _ => simp [gLen] at e
    | nil =>
      rename_i dd
      cases dd <;> simp only [gLen] at e <;> try cases e
      · split at e
        · cases e
          rename_i hz
          cases r1.str_inv
          exact .inr ⟨_, rfl, big_le hz, q _ H0 H (Xt.refl s) (.int _)⟩
        · cases e
      · obtain ⟨p, xs, rfl, hs, ht⟩ := r1.list_inv
        refine .inl ⟨p, xs, rfl, .inl (s.seq hs), ?_⟩
        rw [ht.len]
        exact q _ H0 H (Xt.refl s) (.int _)
      · obtain ⟨p, xs, rfl, hs, ht⟩ := r1.tup_inv
        refine .inl ⟨p, xs, rfl, .inr (same_t s hs), ?_⟩
        rw [ht.len]
        exact q _ H0 H (Xt.refl s) (.int _)
theorem cw_len {K : PySem.W.Frag} : CallW K (rLenU K) gLenW := by
  intro H0 H a xs ds s hs r d e Q q
  cases e
  refine .inl ⟨a, xs, rfl, .inl hs, ?_⟩
  rw [r.len]
  exact q _ H0 H (Xt.refl s) (.int _)
theorem call_lenU : CallR X (.builtin "len") (rLenU X.K) := CallR.or call_len_seq call_len_str
theorem e_len (hm : X.mg "len" = none) (ha : CE X own e te fe) (hg : Gl X "len" := by rfl)
    (he : starEach [e] X.env = (false, eval e X.env) :: starEach [] X.env := by rfl) {K : PySem.W.Frag} (hK : X.K = K := by rfl) : CE X own (.Call (.Name "len" p) [e] [] pos) (tCB (rLenU K) (tCons te tNil)) (mCall gLen (aCons fe aNil)) := by
  subst hK
  exact ⟨pe_callB call_lenU hg hm PySem.boot_len (a_cons ha a_nil he).pa (he := he), df_cb cd_len (a_cons ha a_nil he).da⟩
theorem e_lenW (hm : X.mg "len" = none) (ha : CW X own e te fs) (hg : Gl X "len" := by rfl)
    (he : starEach [e] X.env = (false, eval e X.env) :: starEach [] X.env := by rfl) {K : PySem.W.Frag} (hK : X.K = K := by rfl) : CE X own (.Call (.Name "len" p) [e] [] pos) (tCB (rLenU K) (tCons te tNil)) (mCall gLenW fs) := by
  subst hK
  exact ⟨pe_callB call_lenU hg hm PySem.boot_len (pa_cons ha.pe pa_nil he) (he := he), df_cw cw_len ha.dw⟩
/-- a built-in, a type, of frozen arguments -/
theorem e_callB {x : Str} {id : String} {r : List V → Hp → VK → Prop} {g} (hc : CallR X (.builtin id) r) (hd : CallD X.K r g) (hm : X.mg x = none) (hv : bootBuiltins x = some (.builtin id)) (ha : CA X own (e :: es) ts fs) (hg : Gl X x := by rfl) (hn : x ≠ "__name__" := by decide) (hdb : (x == ("__debug__" : Str)) = false := by decide)
    (he : starEach (e :: es) X.env = (false, eval e X.env) :: starEach es X.env := by rfl) (hpl : (backTo pos (starEach es X.env)).any (·.1) = false := by rfl) : CE X own (.Call (.Name x p) (e :: es) [] pos) (tCB r ts) (mCall g fs) :=
  ⟨pe_callB hc hg hm hv ha.pa hn hdb he hpl, df_cb hd ha.da⟩
theorem e_callT {x : Str} {T : String} {r : List V → Hp → VK → Prop} {g} (hc : CallR X (.type T) r) (hd : CallD X.K r g) (hm : X.mg x = none) (hv : bootBuiltins x = some (.type T)) (ha : CA X own (e :: es) ts fs) (hg : Gl X x := by rfl) (hn : x ≠ "__name__" := by decide) (hdb : (x == ("__debug__" : Str)) = false := by decide)
    (he : starEach (e :: es) X.env = (false, eval e X.env) :: starEach es X.env := by rfl) (hpl : (backTo pos (starEach es X.env)).any (·.1) = false := by rfl) : CE X own (.Call (.Name x p) (e :: es) [] pos) (tCB r ts) (mCall g fs) :=
  ⟨pe_callTy hc hg hm hv ha.pa hn hdb he hpl, df_cb hd ha.da⟩
theorem e_callBW {x : Str} {id : String} {r : List V → Hp → VK → Prop} {g} (hc : CallR X (.builtin id) r) (hd : CallW X.K r g) (hm : X.mg x = none) (hv : bootBuiltins x = some (.builtin id)) (ha : CW X own e te fs) (hg : Gl X x := by rfl) (hn : x ≠ "__name__" := by decide) (hdb : (x == ("__debug__" : Str)) = false := by decide)
    (he : starEach [e] X.env = (false, eval e X.env) :: starEach [] X.env := by rfl) : CE X own (.Call (.Name x p) [e] [] pos) (tCB r (tCons te tNil)) (mCall g fs) :=
  ⟨pe_callB hc hg hm hv (pa_cons ha.pe pa_nil he) hn hdb he rfl, df_cw hd ha.dw⟩
theorem e_callTW {x : Str} {T : String} {r : List V → Hp → VK → Prop} {g} (hc : CallR X (.type T) r) (hd : CallW X.K r g) (hm : X.mg x = none) (hv : bootBuiltins x = some (.type T)) (ha : CW X own e te fs) (hg : Gl X x := by rfl) (hn : x ≠ "__name__" := by decide) (hdb : (x == ("__debug__" : Str)) = false := by decide)
    (he : starEach [e] X.env = (false, eval e X.env) :: starEach [] X.env := by rfl) : CE X own (.Call (.Name x p) [e] [] pos) (tCB r (tCons te tNil)) (mCall g fs) :=
  ⟨pe_callTy hc hg hm hv (pa_cons ha.pe pa_nil he) hn hdb he rfl, df_cw hd ha.dw⟩
theorem l_callBW {x : Str} {id : String} {r : List V → Hp → VK → Prop} {g} (hc : CallR X (.builtin id) r) (hd : CallWL X.K r g) (hm : X.mg x = none) (hv : bootBuiltins x = some (.builtin id)) (ha : CW X own e te fs) (hg : Gl X x := by rfl) (hn : x ≠ "__name__" := by decide) (hdb : (x == ("__debug__" : Str)) = false := by decide)
    (he : starEach [e] X.env = (false, eval e X.env) :: starEach [] X.env := by rfl) : CL X own (.Call (.Name x p) [e] [] pos) (tCB r (tCons te tNil)) (mCallL g fs) :=
  ⟨pe_callB hc hg hm hv (pa_cons ha.pe pa_nil he) hn hdb he rfl, dl_cw hd ha.dw⟩
theorem l_callTW {x : Str} {T : String} {r : List V → Hp → VK → Prop} {g} (hc : CallR X (.type T) r) (hd : CallWL X.K r g) (hm : X.mg x = none) (hv : bootBuiltins x = some (.type T)) (ha : CW X own e te fs) (hg : Gl X x := by rfl) (hn : x ≠ "__name__" := by decide) (hdb : (x == ("__debug__" : Str)) = false := by decide)
    (he : starEach [e] X.env = (false, eval e X.env) :: starEach [] X.env := by rfl) : CL X own (.Call (.Name x p) [e] [] pos) (tCB r (tCons te tNil)) (mCallL g fs) :=
  ⟨pe_callTy hc hg hm hv (pa_cons ha.pe pa_nil he) hn hdb he rfl, dl_cw hd ha.dw⟩

/-! list(xs), tuple(xs) of a list -/
def rListU (K : PySem.W.Frag) : List V → Hp → VK → Prop := fun xs H Q => ∃ p ys, xs = [.ref p] ∧ (SqL K H p ys ∨ SqT K H p ys) ∧ ∀ l, H l = none → Q (.ref l) (upd H l (.lst ys))
def rTupleU (K : PySem.W.Frag) : List V → Hp → VK → Prop := fun xs H Q => ∃ p ys, xs = [.ref p] ∧ ((SqL K H p ys ∧ ∀ l, H l = none → Q (.ref l) (upd H l (.tup ys))) ∨ (SqT K H p ys ∧ Q (.ref p) H))
theorem call_listU : CallR X (.type "list") (rListU X.K) := call_list_of
theorem call_tupleU : CallR X (.type "tuple") (rTupleU X.K) := call_tuple_of
def gListW (ds : List Dt) : Option (List Dt) := some ds
def gTupleW (ds : List Dt) : Option Dt := some (.tuple ds)
theorem cw_list {K : PySem.W.Frag} : CallWL K (rListU K) gListW := by
  intro H0 H a xs ds s hs r es e Q q
  cases e
  refine ⟨a, xs, rfl, .inl hs, fun l hl => ?_⟩
  exact q l xs _ _ (Xt.loose s hl) hl (s.free hl) upd_same r
theorem cw_tuple {K : PySem.W.Frag} : CallW K (rTupleU K) gTupleW := by
  intro H0 H a xs ds s hs r d e Q q
  cases e
  refine ⟨a, xs, rfl, .inl ⟨hs, fun l hl => ?_⟩⟩
  have x := Xt.new s (o := .tup xs) hl
  exact q _ _ _ x (.tup upd_same (r.mono x.f))
theorem l_list (hm : X.mg "list" = none) (ha : CW X own e te fs) (hg : Gl X "list" := by rfl) (he : starEach [e] X.env = (false, eval e X.env) :: starEach [] X.env := by rfl) {K : PySem.W.Frag} (hK : X.K = K := by rfl) :
    CL X own (.Call (.Name "list" p) [e] [] pos) (tCB (rListU K) (tCons te tNil)) (mCallL gListW fs) := by
  subst hK
  exact l_callTW call_listU cw_list hm PyProof.Rows.boot_list ha hg (he := he)
theorem e_tuple (hm : X.mg "tuple" = none) (ha : CW X own e te fs) (hg : Gl X "tuple" := by rfl) (he : starEach [e] X.env = (false, eval e X.env) :: starEach [] X.env := by rfl) {K : PySem.W.Frag} (hK : X.K = K := by rfl) :
    CE X own (.Call (.Name "tuple" p) [e] [] pos) (tCB (rTupleU K) (tCons te tNil)) (mCall gTupleW fs) := by
  subst hK
  exact e_callTW call_tupleU cw_tuple hm PyProof.Rows.boot_tuple ha hg (he := he)
/-- list(t), t a tuple -/
def gListT : List Dt → Option (List Dt)
  | [.tuple ds] => some ds
  | _ => none
theorem l_listT (hm : X.mg "list" = none) (ha : CE X own e te fe) (hg : Gl X "list" := by rfl) (he : starEach [e] X.env = (false, eval e X.env) :: starEach [] X.env := by rfl) {K : PySem.W.Frag} (hK : X.K = K := by rfl) :
    CL X own (.Call (.Name "list" p) [e] [] pos) (tCB (rListU K) (tCons te tNil)) (fun ρ => (fe ρ).bind asTup) := by
  subst hK
  exact ⟨pe_callTy call_listU hg hm PyProof.Rows.boot_list (pa_cons ha.pe pa_nil he) (he := he), fun B0 B σ H0 H ρ S ds e Q q => by
  obtain ⟨d, e1, e2⟩ := Option.bind_eq_some_iff.mp e
  cases asTup_some e2
  refine ha.df B0 B σ H0 H ρ S _ e1 _ fun v H1 G1 x1 r1 => ?_
  obtain ⟨a, xs, rfl, hs, ht⟩ := r1.tup_inv
  refine ⟨a, xs, rfl, .inr (same_t x1.s hs), fun l hl => ?_⟩
  exact q l xs _ _ (x1.trans (Xt.loose x1.s hl)) (Same.free x1.k hl) (x1.s.free hl) upd_same ht⟩
/-! min, max of two; abs; int; sum, any, all -/
def gMin2 : List Dt → Option Dt
  | [.int i, .int j] => some (.int (if j < i then j else i))
  | _ => none
def gMax2 : List Dt → Option Dt
  | [.int i, .int j] => some (.int (if j > i then j else i))
  | _ => none
theorem rva2 {K : PySem.W.Frag} {H : Hp} {vs : List V} {a b : Dt} (r : RvA K H vs [a, b]) : ∃ x y, vs = [x, y] ∧ Rv K H x a ∧ Rv K H y b := by
  cases r with
  | cons r1 r2 => cases r2 with
    | cons r2 r3 => cases r3; exact ⟨_, _, rfl, r1, r2⟩
theorem rva1 {K : PySem.W.Frag} {H : Hp} {vs : List V} {a : Dt} (r : RvA K H vs [a]) : ∃ x, vs = [x] ∧ Rv K H x a := by
  cases r with
  | cons r1 r2 => cases r2; exact ⟨_, rfl, r1⟩
theorem gMin2_some {ds : List Dt} {d : Dt} (h : gMin2 ds = some d) : ∃ i j, ds = [.int i, .int j] ∧ d = .int (if j < i then j else i) := by
  unfold gMin2 at h
  split at h
  · cases h; exact ⟨_, _, rfl, rfl⟩
  · cases h
theorem gMax2_some {ds : List Dt} {d : Dt} (h : gMax2 ds = some d) : ∃ i j, ds = [.int i, .int j] ∧ d = .int (if j > i then j else i) := by
  unfold gMax2 at h
  split at h
  · cases h; exact ⟨_, _, rfl, rfl⟩
  · cases h
theorem cd_min2 {K : PySem.W.Frag} : CallD K (fun xs H Q => ∃ i j, xs = [.int i, .int j] ∧ Q (.int (if j < i then j else i)) H) gMin2 := by
  intro H0 H vs ds s r d e Q q
  obtain ⟨i, j, rfl, rfl⟩ := gMin2_some e
  obtain ⟨x, y, rfl, r1, r2⟩ := rva2 r
  cases r1.int_inv
  cases r2.int_inv
  exact ⟨i, j, rfl, q _ H0 H (Xt.refl s) (.int _)⟩
theorem cd_max2 {K : PySem.W.Frag} : CallD K (fun xs H Q => ∃ i j, xs = [.int i, .int j] ∧ Q (.int (if j > i then j else i)) H) gMax2 := by
  intro H0 H vs ds s r d e Q q
  obtain ⟨i, j, rfl, rfl⟩ := gMax2_some e
  obtain ⟨x, y, rfl, r1, r2⟩ := rva2 r
  cases r1.int_inv
  cases r2.int_inv
  exact ⟨i, j, rfl, q _ H0 H (Xt.refl s) (.int _)⟩
theorem e_min2 (hc : X.calm = true) (hm : X.mg "min" = none) (ha : CA X own [a, b] ts fs) (hg : Gl X "min" := by rfl) (he : starEach (a :: [b]) X.env = (false, eval a X.env) :: starEach [b] X.env := by rfl) (hpl : (backTo pos (starEach [b] X.env)).any (·.1) = false := by rfl) :
    CE X own (.Call (.Name "min" p) [a, b] [] pos) (tCB (fun xs H Q => ∃ i j, xs = [.int i, .int j] ∧ Q (.int (if j < i then j else i)) H) ts) (mCall gMin2 fs) := e_callB (call_min2 hc) cd_min2 hm (by decide +kernel) ha hg (he := he) (hpl := hpl)
theorem e_max2 (hc : X.calm = true) (hm : X.mg "max" = none) (ha : CA X own [a, b] ts fs) (hg : Gl X "max" := by rfl) (he : starEach (a :: [b]) X.env = (false, eval a X.env) :: starEach [b] X.env := by rfl) (hpl : (backTo pos (starEach [b] X.env)).any (·.1) = false := by rfl) :
    CE X own (.Call (.Name "max" p) [a, b] [] pos) (tCB (fun xs H Q => ∃ i j, xs = [.int i, .int j] ∧ Q (.int (if j > i then j else i)) H) ts) (mCall gMax2 fs) := e_callB (call_max2 hc) cd_max2 hm (by decide +kernel) ha hg (he := he) (hpl := hpl)
def gInt : List Dt → Option Dt
  | [.int i] => some (.int i)
  | [.bool b] => some (.int (if b then 1 else 0))
  | _ => none
def rInt1 : List V → Hp → VK → Prop := fun xs H Q => (∃ i, xs = [.int i] ∧ Q (.int i) H) ∨ ∃ k, xs = [.bl k] ∧ Q (.int (if k then 1 else 0)) H
theorem cd_int {K : PySem.W.Frag} : CallD K rInt1 gInt := by
  intro H0 H vs ds s r d e Q q
  unfold gInt at e
  split at e
  · cases e
    obtain ⟨x, rfl, r1⟩ := rva1 r
    cases r1.int_inv
    exact .inl ⟨_, rfl, q _ H0 H (Xt.refl s) (.int _)⟩
  · cases e
    obtain ⟨x, rfl, r1⟩ := rva1 r
    cases r1.bool_inv
    exact .inr ⟨_, rfl, q _ H0 H (Xt.refl s) (.int _)⟩
  · cases e
theorem e_toInt (hm : X.mg "int" = none) (ha : CE X own e te fe) (hg : Gl X "int" := by rfl) (he : starEach [e] X.env = (false, eval e X.env) :: starEach [] X.env := by rfl) :
    CE X own (.Call (.Name "int" p) [e] [] pos) (tCB rInt1 (tCons te tNil)) (mCall gInt (aCons fe aNil)) := e_callT call_int1 cd_int hm (by decide +kernel) (a_cons ha a_nil he) hg (he := he)
def gAbs : List Dt → Option Dt
  | [.int i] => some (.int (if i < 0 then -i else i))
  | _ => none
def rAbs1 : List V → Hp → VK → Prop := fun xs H Q => ∃ i, xs = [.int i] ∧ Q (.int (if i < 0 then -i else i)) H
theorem cd_abs {K : PySem.W.Frag} : CallD K rAbs1 gAbs := by
  intro H0 H vs ds s r d e Q q
  unfold gAbs at e
  split at e
  · cases e
    obtain ⟨x, rfl, r1⟩ := rva1 r
    cases r1.int_inv
    exact ⟨_, rfl, q _ H0 H (Xt.refl s) (.int _)⟩
  · cases e
theorem e_abs (hm : X.mg "abs" = none) (ha : CE X own e te fe) (hg : Gl X "abs" := by rfl) (he : starEach [e] X.env = (false, eval e X.env) :: starEach [] X.env := by rfl) :
    CE X own (.Call (.Name "abs" p) [e] [] pos) (tCB rAbs1 (tCons te tNil)) (mCall gAbs (aCons fe aNil)) := e_callB call_abs cd_abs hm (by decide +kernel) (a_cons ha a_nil he) hg (he := he)

def intsOf : List Dt → Option (List Int)
  | [] => some []
  | .int i :: ds => (intsOf ds).map (i :: ·)
  | _ => none
def boolsOf : List Dt → Option (List Bool)
  | [] => some []
  | .bool i :: ds => (boolsOf ds).map (i :: ·)
  | _ => none
theorem intsOf_some : ∀ {ds : List Dt} {ns : List Int}, intsOf ds = some ns → ds = ns.map .int
  | [], ns, h => by cases h; rfl
  | d :: ds, ns, h => by
    cases d <;> simp only [intsOf] at h <;> try cases h
    obtain ⟨ms, e, rfl⟩ := Option.map_eq_some_iff.mp h
    rw [intsOf_some e]
    rfl
theorem intsOf_map : ∀ ns : List Int, intsOf (ns.map .int) = some ns
  | [] => rfl
  | n :: ns => by show (intsOf (ns.map .int)).map (n :: ·) = _; rw [intsOf_map ns]; rfl
theorem boolsOf_some : ∀ {ds : List Dt} {ns : List Bool}, boolsOf ds = some ns → ds = ns.map .bool
  | [], ns, h => by cases h; rfl
  | d :: ds, ns, h => by
    cases d <;> simp only [boolsOf] at h <;> try cases h
    obtain ⟨ms, e, rfl⟩ := Option.map_eq_some_iff.mp h
    rw [boolsOf_some e]
    rfl
theorem boolsOf_map : ∀ ns : List Bool, boolsOf (ns.map .bool) = some ns
  | [] => rfl
  | n :: ns => by show (boolsOf (ns.map .bool)).map (n :: ·) = _; rw [boolsOf_map ns]; rfl
def gSum (ds : List Dt) : Option Dt := (intsOf ds).map fun ns => .int ns.sum
def gAny (ds : List Dt) : Option Dt := (boolsOf ds).map fun ns => .bool (ns.any id)
def gAll (ds : List Dt) : Option Dt := (boolsOf ds).map fun ns => .bool (ns.all id)
theorem cw_sum {K : PySem.W.Frag} : CallW K (rSum K) gSum := by
  intro H0 H a xs ds s hs r d e Q q
  obtain ⟨ns, e1, rfl⟩ := Option.map_eq_some_iff.mp e
  cases intsOf_some e1
  cases r.ints
  exact ⟨a, ns, rfl, hs, q _ H0 H (Xt.refl s) (.int _)⟩
theorem cw_any {K : PySem.W.Frag} : CallW K (rAny K) gAny := by
  intro H0 H a xs ds s hs r d e Q q
  obtain ⟨ns, e1, rfl⟩ := Option.map_eq_some_iff.mp e
  cases boolsOf_some e1
  cases r.bools
  exact ⟨a, ns, rfl, hs, q _ H0 H (Xt.refl s) (.bl _)⟩
theorem cw_all {K : PySem.W.Frag} : CallW K (rAll K) gAll := by
  intro H0 H a xs ds s hs r d e Q q
  obtain ⟨ns, e1, rfl⟩ := Option.map_eq_some_iff.mp e
  cases boolsOf_some e1
  cases r.bools
  exact ⟨a, ns, rfl, hs, q _ H0 H (Xt.refl s) (.bl _)⟩
theorem e_sum (hc : X.calm = true) (hm : X.mg "sum" = none) (ha : CW X own e te fs) (hg : Gl X "sum" := by rfl) (he : starEach [e] X.env = (false, eval e X.env) :: starEach [] X.env := by rfl) {K : PySem.W.Frag} (hK : X.K = K := by rfl) :
    CE X own (.Call (.Name "sum" p) [e] [] pos) (tCB (rSum K) (tCons te tNil)) (mCall gSum fs) := by
  subst hK
  exact e_callBW (cr_sum hc) cw_sum hm (by decide +kernel) ha hg (he := he)
theorem e_any (hc : X.calm = true) (hm : X.mg "any" = none) (ha : CW X own e te fs) (hg : Gl X "any" := by rfl) (he : starEach [e] X.env = (false, eval e X.env) :: starEach [] X.env := by rfl) {K : PySem.W.Frag} (hK : X.K = K := by rfl) :
    CE X own (.Call (.Name "any" p) [e] [] pos) (tCB (rAny K) (tCons te tNil)) (mCall gAny fs) := by
  subst hK
  exact e_callBW (cr_any hc) cw_any hm (by decide +kernel) ha hg (he := he)
theorem e_all (hc : X.calm = true) (hm : X.mg "all" = none) (ha : CW X own e te fs) (hg : Gl X "all" := by rfl) (he : starEach [e] X.env = (false, eval e X.env) :: starEach [] X.env := by rfl) {K : PySem.W.Frag} (hK : X.K = K := by rfl) :
    CE X own (.Call (.Name "all" p) [e] [] pos) (tCB (rAll K) (tCons te tNil)) (mCall gAll fs) := by
  subst hK
  exact e_callBW (cr_all hc) cw_all hm (by decide +kernel) ha hg (he := he)
end
end Tie

/-! Walks, targets, comprehensions. -/
namespace Tie
open PySem L2

structure Wk (K : PySem.W.Frag) (H0 : Hp) (J : It) (ds : List Dt) : Prop where
  go : ∀ i H, Same H0 H → i < ds.length → J.go i H
  stop : ∀ i H, Same H0 H → ds.length ≤ i → J.stop i H
  yld : ∀ i d G0 H x H', ds[i]? = some d → Same H0 G0 → Same G0 H → J.yld i H x H' → ∃ G0', Xt G0 H G0' H' ∧ Rv K G0' x d
theorem wk_list {K : PySem.W.Frag} {H0 : Hp} {a : Addr} {xs : List V} {ds : List Dt} (hs : SqL K H0 a xs) (r : RvA K H0 xs ds) : Wk K H0 (Itl K a) ds where
  go := fun i H s hi => ⟨xs, xs[i]'(by rw [r.len]; exact hi), s.seq hs, by simp⟩
  stop := fun i H s hi => ⟨xs, s.seq hs, by rw [r.len]; exact hi⟩
  yld := fun i d G0 H x H' hd s1 s2 y => by
    obtain ⟨rfl, y⟩ := y
    have hx := y xs ((s1.trans s2).seq hs)
    obtain ⟨d', e1, r1⟩ := r.get' hx
    rw [hd] at e1
    cases e1
    exact ⟨G0, Xt.refl s2, r1.mono s1⟩
theorem wk_tup {K : PySem.W.Frag} {H0 : Hp} {a : Addr} {xs : List V} {ds : List Dt} (hs : SqT K H0 a xs) (r : RvA K H0 xs ds) : Wk K H0 (Itt K a) ds where
  go := fun i H s hi => ⟨xs, xs[i]'(by rw [r.len]; exact hi), same_t s hs, by simp⟩
  stop := fun i H s hi => ⟨xs, same_t s hs, by rw [r.len]; exact hi⟩
  yld := fun i d G0 H x H' hd s1 s2 y => by
    obtain ⟨rfl, y⟩ := y
    have hx := y xs (same_t (s1.trans s2) hs)
    obtain ⟨d', e1, r1⟩ := r.get' hx
    rw [hd] at e1
    cases e1
    exact ⟨G0, Xt.refl s2, r1.mono s1⟩
def rngD (lo : Int) (n : Nat) : List Dt := (List.range n).map fun i => .int (lo + (i : Nat))
theorem rngD_len (lo : Int) (n : Nat) : (rngD lo n).length = n := by simp [rngD]
theorem wk_rng {K : PySem.W.Frag} {H0 : Hp} {lo : Int} {n : Nat} : Wk K H0 (Itr lo n) (rngD lo n) where
  go := fun i H s hi => by rw [rngD_len] at hi; exact hi
  stop := fun i H s hi => by rw [rngD_len] at hi; exact hi
  yld := fun i d G0 H x H' hd s1 s2 y => by
    obtain ⟨rfl, rfl⟩ := y
    have hi : i < n := by
      have := (List.getElem?_eq_some_iff.mp hd).1
      rw [rngD_len] at this
      exact this
    have e : d = .int (lo + (i : Nat)) := by
      unfold rngD at hd
      rw [List.getElem?_map, List.getElem?_range hi] at hd
      exact (Option.some.inj hd).symm
    subst e
    exact ⟨G0, Xt.refl s2, .int _⟩

def DI (K : PySem.W.Frag) (own : List Nat) (wi : TI) (f : FA) : Prop :=
  ∀ (B0 B : Hp) (σ : St) (H0 H : Hp) (ρ : Rho), StR K B0 B own σ H0 H ρ → ∀ ds, f ρ = some ds → ∀ R : It → Hp → Prop, (∀ J H0' H', Xt H0 H H0' H' → Wk K H0' J ds → R J H') → wi σ H R
structure CI (X : Cx) (own : List Nat) (tg iter : Expr) (wi : TI) (f : FA) : Prop where
  pi : PI X tg iter wi
  di : DI X.K own wi f
def mAsT (f : FE) : FA := fun ρ => (f ρ).bind asTup
def gRng1 : List Dt → Option (List Dt)
  | [.int n] => if decide (-4611686018427387904 ≤ n ∧ n < 4611686018427387904) then some (rngD 0 n.toNat) else none
  | _ => none
def gRng2 : List Dt → Option (List Dt)
  | [.int m, .int n] => if decide (-4611686018427387904 ≤ m ∧ m < 4611686018427387904 ∧ -4611686018427387904 ≤ n ∧ n < 4611686018427387904) then some (rngD m (n - m).toNat) else none
  | _ => none
section
variable {X : Cx} {own : List Nat} {tg a b c e : Expr} {es : List Expr} {ta tb tc te : TE} {ts : TA} {fa fb fc fe : FE} {fs : FA} {pos p : Pos}
theorem i_list (h : CE X own e te fe) {K : PySem.W.Frag} (hK : X.K = K := by rfl) : CI X own tg e (iList K te) (mAsL fe) := by
  subst hK
  exact ⟨pi_list h.pe, fun B0 B σ H0 H ρ S ds e Q q => by
  obtain ⟨d, e1, e2⟩ := Option.bind_eq_some_iff.mp e
  cases asList_some e2
  refine h.df B0 B σ H0 H ρ S _ e1 _ fun v H1 G1 x1 r1 => ?_
  obtain ⟨a, xs, rfl, hs, ht⟩ := r1.list_inv
  exact ⟨a, rfl, ⟨xs, x1.s.seq hs⟩, q _ H1 G1 x1 (wk_list hs ht)⟩⟩
theorem i_listL (h : CL X own e te fs) {K : PySem.W.Frag} (hK : X.K = K := by rfl) : CI X own tg e (iList K te) fs := by
  subst hK
  exact ⟨pi_list h.pe, fun B0 B σ H0 H ρ S ds e Q q => by
  refine h.dl B0 B σ H0 H ρ S _ e _ fun p xs H1 G1 x1 hn h0 h1 r1 => ?_
  have x := x1.freeze h0 h1 hn
  exact ⟨p, rfl, ⟨xs, .inl (.inl h1)⟩, q _ _ G1 x (wk_list (.inl (.inl upd_same)) (r1.mono (same_new h0)))⟩⟩
theorem i_tup (h : CE X own e te fe) {K : PySem.W.Frag} (hK : X.K = K := by rfl) : CI X own tg e (iTup K te) (mAsT fe) := by
  subst hK
  exact ⟨pi_tup h.pe, fun B0 B σ H0 H ρ S ds e Q q => by
  obtain ⟨d, e1, e2⟩ := Option.bind_eq_some_iff.mp e
  cases asTup_some e2
  refine h.df B0 B σ H0 H ρ S _ e1 _ fun v H1 G1 x1 r1 => ?_
  obtain ⟨a, xs, rfl, hs, ht⟩ := r1.tup_inv
  exact ⟨a, rfl, ⟨xs, same_t x1.s hs⟩, q _ H1 G1 x1 (wk_tup hs ht)⟩⟩
theorem i_rng1 (hm : X.mg "range" = none) (ha : CA X own [a] ts fs) (hg : Gl X "range" := by rfl) (hs : starEach [a] X.env = [(false, eval a X.env)] := by rfl) : CI X own tg (.Call (.Name "range" p) [a] [] pos) (iRng1 ts) (mCallL gRng1 fs) :=
  ⟨pi_range1 hg hm ha.pa hs, fun B0 B σ H0 H ρ S ds e Q q => by
  obtain ⟨d, e1, e2⟩ := Option.bind_eq_some_iff.mp e
  unfold gRng1 at e2
  split at e2
  · split at e2
    · rename_i n hn
      cases e2
      have hn := of_decide_eq_true hn
      refine ha.da B0 B σ H0 H ρ S _ e1 _ fun vs H1 G1 x1 r1 => ?_
      obtain ⟨x, rfl, r⟩ := rva1 r1
      exact ⟨n, by rw [r.int_inv], by omega, by omega, q _ H1 G1 x1 wk_rng⟩
    · cases e2
  · cases e2⟩
theorem i_rng2 (hm : X.mg "range" = none) (ha : CA X own [a, b] ts fs) (hg : Gl X "range" := by rfl) (hs : starEach [a, b] X.env = [(false, eval a X.env), (false, eval b X.env)] := by rfl) (hs2 : starEach [b] X.env = [(false, eval b X.env)] := by rfl) :
    CI X own tg (.Call (.Name "range" p) [a, b] [] pos) (iRng2 ts) (mCallL gRng2 fs) :=
  ⟨pi_range2 hg hm ha.pa hs hs2, fun B0 B σ H0 H ρ S ds e Q q => by
  obtain ⟨d, e1, e2⟩ := Option.bind_eq_some_iff.mp e
  unfold gRng2 at e2
  split at e2
  · split at e2
    · rename_i m n hn
      cases e2
      have hn := of_decide_eq_true hn
      refine ha.da B0 B σ H0 H ρ S _ e1 _ fun vs H1 G1 x1 r1 => ?_
      obtain ⟨x, y, rfl, r, r'⟩ := rva2 r1
      exact ⟨m, n, by rw [r.int_inv, r'.int_inv], by omega, q _ H1 G1 x1 wk_rng⟩
    · cases e2
  · cases e2⟩
/-- list(range(..)), tuple(range(..)) -/
structure CR (X : Cx) (own : List Nat) (e : Expr) (te : St → Hp → (Int → Int → Hp → Prop) → Prop) (f : Rho → Option (Int × Int)) : Prop where
  pr : PRg X e te
  dr : ∀ (B0 B : Hp) (σ : St) (H0 H : Hp) (ρ : Rho), StR X.K B0 B own σ H0 H ρ → ∀ r, f ρ = some r → ∀ Q : Int → Int → Hp → Prop, (∀ H0' H', Xt H0 H H0' H' → Q r.1 r.2 H') → te σ H Q
def mR1 (f : FE) : Rho → Option (Int × Int) := fun ρ => (f ρ).bind fun d => (asInt d).map fun n => (0, n)
def mR2 (f g : FE) : Rho → Option (Int × Int) := fun ρ => (f ρ).bind fun d => (g ρ).bind fun d' => (asInt d).bind fun m => (asInt d').map fun n => (m, n)
theorem r_1 (hm : X.mg "range" = none) (h : CE X own a ta fa) (hg : Gl X "range" := by rfl) (na : starEach [a] X.env = (false, eval a X.env) :: starEach [] X.env := by rfl) : CR X own (.Call (.Name "range" p) [a] [] pos) (tRg1 ta) (mR1 fa) := ⟨prg_1 hg hm h.pe (na := na), fun B0 B σ H0 H ρ S r e Q q => by
  obtain ⟨d, e1, e2⟩ := Option.bind_eq_some_iff.mp e
  obtain ⟨n, e3, rfl⟩ := Option.map_eq_some_iff.mp e2
  cases asInt_some e3
  exact h.df B0 B σ H0 H ρ S _ e1 _ fun v H1 G1 x1 r1 => ⟨n, r1.int_inv, q H1 G1 x1⟩⟩
def rngOk (a b : Int) : Bool := decide (-4611686018427387904 ≤ a ∧ a < 4611686018427387904 ∧ -4611686018427387904 ≤ b ∧ b < 4611686018427387904 ∧ (b - a).toNat ≤ 16777216)
def mLRng (f : Rho → Option (Int × Int)) : FA := fun ρ => (f ρ).bind fun r => if rngOk r.1 r.2 then some (rngD r.1 (r.2 - r.1).toNat) else none
def mTRng (f : Rho → Option (Int × Int)) : FE := fun ρ => (mLRng f ρ).map .tuple
theorem rgV_read {K : PySem.W.Frag} {H : Hp} (a b : Int) : RvA K H (rgV a b) (rngD a (b - a).toNat) := by
  have e1 : rgV a b = ((List.range (b - a).toNat).map fun i : Nat => a + (i : Int)).map V.int := by simp [rgV]
  have e2 : rngD a (b - a).toNat = ((List.range (b - a).toNat).map fun i : Nat => a + (i : Int)).map .int := by simp [rngD]
  rw [e1, e2]
  exact RvA.of_ints _
variable {tr : St → Hp → (Int → Int → Hp → Prop) → Prop} {fr : Rho → Option (Int × Int)}
theorem mLRng_some {f : Rho → Option (Int × Int)} {ρ : Rho} {ds : List Dt} (h : mLRng f ρ = some ds) : ∃ a b, f ρ = some (a, b) ∧ RgOk a b ∧ ds = rngD a (b - a).toNat := by
  obtain ⟨⟨a, b⟩, e1, e2⟩ := Option.bind_eq_some_iff.mp h
  split at e2
  · rename_i hk
    cases e2
    exact ⟨a, b, e1, (by have h := of_decide_eq_true hk; unfold RgOk; omega), rfl⟩
  · cases e2
theorem l_listRng (hc : X.calm = true) (hm : X.mg "list" = none) (h : CR X own e tr fr) (hg : Gl X "list" := by rfl) (na : starEach [e] X.env = (false, eval e X.env) :: starEach [] X.env := by rfl) : CL X own (.Call (.Name "list" p) [e] [] pos) (tLstRg tr) (mLRng fr) :=
  ⟨pe_listRg hc hg hm h.pr na, fun B0 B σ H0 H ρ S ds e Q q => by
  obtain ⟨a, b, e1, ok, rfl⟩ := mLRng_some e
  refine h.dr B0 B σ H0 H ρ S _ e1 _ fun H1 G1 x1 => ⟨ok, fun l hl => ?_⟩
  exact q l _ H1 _ (x1.trans (Xt.loose x1.s hl)) (Same.free x1.k hl) (x1.s.free hl) upd_same (rgV_read a b)⟩
theorem e_tupRng (hc : X.calm = true) (hm : X.mg "tuple" = none) (h : CR X own e tr fr) (hg : Gl X "tuple" := by rfl) (na : starEach [e] X.env = (false, eval e X.env) :: starEach [] X.env := by rfl) : CE X own (.Call (.Name "tuple" p) [e] [] pos) (tTupRg tr) (mTRng fr) :=
  ⟨pe_tupRg hc hg hm h.pr na, fun B0 B σ H0 H ρ S d e Q q => by
  obtain ⟨ds, e0, rfl⟩ := Option.map_eq_some_iff.mp e
  obtain ⟨a, b, e1, ok, rfl⟩ := mLRng_some e0
  refine h.dr B0 B σ H0 H ρ S _ e1 _ fun H1 G1 x1 => ⟨ok, fun l hl => ?_⟩
  exact q (.ref l) _ _ (x1.trans (Xt.new x1.s hl)) (.tup upd_same (rgV_read a b))⟩

/-! ### targets -/
abbrev FG := Rho → Dt → Option Rho
abbrev FGs := Rho → List Dt → Option Rho
def DG (K : PySem.W.Frag) (own : List Nat) (js : List Nat) (g : TG) (mg : FG) : Prop :=
  ∀ (B0 B : Hp) (σ : St) (H0 H : Hp) (ρ : Rho), StR K B0 B own σ H0 H ρ → ∀ v d ρ', Rv K H0 v d → mg ρ d = some ρ' → ∀ Q : St → Hp → Prop, (∀ σ', StR K B0 B own σ' H0 H ρ' → (∀ vs : List Nat, (∀ j ∈ js, j ∈ vs) → wipe σ' vs = wipe σ vs) → Q σ' H) → g v σ H Q
def DGs (K : PySem.W.Frag) (own : List Nat) (js : List Nat) (g : TGs) (mg : FGs) : Prop :=
  ∀ (B0 B : Hp) (σ : St) (H0 H : Hp) (ρ : Rho), StR K B0 B own σ H0 H ρ → ∀ vs ds ρ', RvA K H0 vs ds → mg ρ ds = some ρ' → ∀ Q : St → Hp → Prop, (∀ σ', StR K B0 B own σ' H0 H ρ' → (∀ ws : List Nat, (∀ j ∈ js, j ∈ ws) → wipe σ' ws = wipe σ ws) → Q σ' H) → g vs σ H Q
structure CG (X : Cx) (own js : List Nat) (tg : Expr) (g : TG) (mg : FG) : Prop where
  pg : PG X tg g
  dg : DG X.K own js g mg
structure CGs (X : Cx) (own js : List Nat) (tgs : List Expr) (g : TGs) (mg : FGs) : Prop where
  pg : PGs X tgs g
  dg : DGs X.K own js g mg
theorem wipe_set {σ : St} {i : Nat} {x : Option V} : ∀ {vs : List Nat}, i ∈ vs → wipe (σ.set i x) vs = wipe σ vs
  | v :: vs, h => by
    unfold wipe
    by_cases e : i ∈ vs
    · rw [wipe_set e]
    · have ev : i = v := by
        rcases List.mem_cons.mp h with h | h
        · exact h
        · exact absurd h e
      subst ev
      have : ∀ {us : List Nat}, i ∉ us → wipe (σ.set i x) us = (wipe σ us).set i x := by
        intro us
        induction us with
        | nil => intro _; rfl
        | cons u us ih =>
          intro hu
          rw [List.mem_cons, not_or] at hu
          unfold wipe
          rw [ih hu.2, List.set_comm _ _ hu.1]
      rw [this e, List.set_set]
def mgName (i : Nat) : FG := fun ρ d => some (ρ.set i (some d))
def mgNil : FGs := fun ρ ds => match ds with
  | [] => some ρ
  | _ => none
def mgCons (f : FG) (g : FGs) : FGs := fun ρ ds => match ds with
  | d :: ds => (f ρ d).bind fun ρ' => g ρ' ds
  | [] => none
def mgTup (n : Nat) (g : FGs) : FG := fun ρ d => (asTup d).bind fun ds => if ds.length = n then g ρ ds else none
theorem g_name (i : Nat) {x : Str} (hN : X.N.Nodup) (hi : X.N[i]? = some x := by rfl) (hx : Loc X.env.scope x := by first | exact Or.inl rfl | exact Or.inr rfl) (ho : i ∉ own := by decide)
    (hf : X.fn x = true ∨ X.env.scope.names.lookup x = some .local := by first | exact .inl rfl | exact .inr rfl) : CG X own [i] (.Name x pos) (gName i) (mgName i) := ⟨pg_name hN hi hx hf, fun B0 B σ H0 H ρ S v d ρ' r e Q q => by
  cases e
  exact q _ (S.setF ho r) fun vs h => wipe_set (h i (List.mem_cons_self ..))⟩
theorem gs_nil : CGs X own [] [] gNil mgNil := ⟨pgs_nil, fun B0 B σ H0 H ρ S v d ρ' r e Q q => by
  cases r with
  | nil =>
    cases e
    exact ⟨rfl, q σ S fun _ _ => rfl⟩
  | cons _ _ => cases e⟩
theorem gs_cons {js js' : List Nat} {g : TG} {gs : TGs} {mg : FG} {mgs : FGs} (h : CG X own js a g mg) (h' : CGs X own js' es gs mgs) (hs : (assignEach (a :: es) X.env).map (·.2) = assign a X.env :: (assignEach es X.env).map (·.2) := by rfl) : CGs X own (js ++ js') (a :: es) (gCons g gs) (mgCons mg mgs) := ⟨pgs_cons h.pg h'.pg hs, fun B0 B σ H0 H ρ S v d ρ' r e Q q => by
  cases r with
  | nil => cases e
  | cons r1 r2 =>
    obtain ⟨ρ1, e1, e2⟩ := Option.bind_eq_some_iff.mp e
    refine ⟨_, _, rfl, ?_⟩
    refine h.dg B0 B σ H0 H ρ S _ _ _ r1 e1 _ fun σ1 S1 w1 => ?_
    exact h'.dg B0 B σ1 H0 H ρ1 S1 _ _ _ r2 e2 _ fun σ2 S2 w2 => q σ2 S2 fun vs hv => (w2 vs fun j hj => hv j (List.mem_append_right _ hj)).trans (w1 vs fun j hj => hv j (List.mem_append_left _ hj))⟩
theorem g_tup {k : Nat} {js : List Nat} {gs : TGs} {mgs : FGs} {n : Nat} {K : PySem.W.Frag} (hc : X.calm = true) (h : CGs X own js es gs mgs) (hK : X.K = K := by rfl) (hn : (assignEach es X.env).length = n := by rfl) (hst : (assignEach es X.env).findIdx? (·.1) = none := by rfl) :
    CG X own js (.Tuple es k pos) (gTup K n gs) (mgTup n mgs) := by
  subst hK
  exact ⟨pg_tup hc h.pg hn hst, fun B0 B σ H0 H ρ S v d ρ' r e Q q => by
  obtain ⟨ds, e1, e2⟩ := Option.bind_eq_some_iff.mp e
  cases asTup_some e1
  split at e2
  · rename_i hl
    obtain ⟨a, xs, rfl, hs, ht⟩ := r.tup_inv
    refine ⟨a, xs, rfl, same_t S.same hs, by rw [ht.len]; exact hl, ?_⟩
    exact h.dg B0 B σ H0 H ρ S _ _ _ ht e2 _ q
  · cases e2⟩

def mgLst (n : Nat) (g : FGs) : FG := fun ρ d => (asList d).bind fun ds => if ds.length = n then g ρ ds else none
theorem g_lst {k : Nat} {js : List Nat} {gs : TGs} {mgs : FGs} {n : Nat} {K : PySem.W.Frag} (hc : X.calm = true) (h : CGs X own js es gs mgs) (hK : X.K = K := by rfl) (hn : (assignEach es X.env).length = n := by rfl) (hst : (assignEach es X.env).findIdx? (·.1) = none := by rfl) :
    CG X own js (.Tuple es k pos) (gLst K n gs) (mgLst n mgs) := by
  subst hK
  exact ⟨pg_lst hc h.pg hn hst, fun B0 B σ H0 H ρ S v d ρ' r e Q q => by
  obtain ⟨ds, e1, e2⟩ := Option.bind_eq_some_iff.mp e
  cases asList_some e1
  split at e2
  · rename_i hl
    obtain ⟨a, xs, rfl, hs, ht⟩ := r.list_inv
    refine ⟨a, xs, rfl, S.same.seq hs, by rw [ht.len]; exact hl, ?_⟩
    exact h.dg B0 B σ H0 H ρ S _ _ _ ht e2 _ q
  · cases e2⟩

/-! ### comprehensions -/
structure CTs (X : Cx) (own : List Nat) (ifs : List Expr) (tt : TT) (f : FB) : Prop where
  pts : PTs X ifs tt
  db : DB X.K own tt f
def mYes : FB := fun _ => some true
theorem t_nil : CTs X own [] tYes mYes := ⟨pts_nil, fun B0 B σ H0 H ρ S b e Q q => by cases e; exact q H0 H (Xt.refl S.same)⟩
theorem t_one {tt : TT} {f : FB} (h : CB X own c tt f) : CTs X own [c] tt f := ⟨pts_one h.pt, h.db⟩
def wipeR (ρ : Rho) : List Nat → Rho
  | [] => ρ
  | v :: vs => (wipeR ρ vs).set v none
theorem StR.wipe {K : PySem.W.Frag} {B0 B H0 H : Hp} {σ : St} {ρ : Rho} (S : StR K B0 B own σ H0 H ρ) : ∀ vs : List Nat, StR K B0 B own (L2.wipe σ vs) H0 H (wipeR ρ vs)
  | [] => S
  | v :: vs => by
    have ih := StR.wipe S vs
    have k := ih.kill v
    have side : ∀ j d, rget (wipeR ρ (v :: vs)) j = some d → j ≠ v := fun j d e => by
      intro z
      subst z
      have e' : rget ((wipeR ρ vs).set j none) j = some d := e
      rw [rget_kill, if_pos rfl] at e'
      cases e'
    refine ⟨k.x, by show ((L2.wipe σ vs).set v none).length = _; simp [wipeR, ih.len], fun j d hj e => ?_, fun j d hj e => ?_, fun i j d e hi hj n e1 e2 => ?_⟩
    · have := side j d e
      show ∃ v_1, ((L2.wipe σ vs).set v none)[j]? = some (some v_1) ∧ _
      rw [List.getElem?_set_ne (fun z => this z.symm)]
      exact k.fro j d hj e
    · have := side j d e
      show ∃ p o, ((L2.wipe σ vs).set v none)[j]? = some (some (.ref p)) ∧ _
      rw [List.getElem?_set_ne (fun z => this z.symm)]
      exact k.ow j d hj e
    · have h1 := side i d e1
      have h2 := side j e e2
      show ((L2.wipe σ vs).set v none)[i]? ≠ ((L2.wipe σ vs).set v none)[j]?
      rw [List.getElem?_set_ne (fun z => h1 z.symm), List.getElem?_set_ne (fun z => h2 z.symm)]
      exact k.dis i j d e hi hj n e1 e2
theorem wipe_idem {σ : St} : ∀ (vs us : List Nat), (∀ v ∈ us, v ∈ vs) → L2.wipe (L2.wipe σ us) vs = L2.wipe σ vs
  | vs, [], _ => rfl
  | vs, u :: us, h => by
    show L2.wipe ((L2.wipe σ us).set u none) vs = _
    rw [wipe_set (h u (List.mem_cons_self ..)), wipe_idem vs us fun v hv => h v (List.mem_cons_of_mem _ hv)]
def lcGo (mg : FG) (tt : FB) (fe : FE) (ρ : Rho) : List Dt → Option (List Dt)
  | [] => some []
  | d :: ds => (mg ρ d).bind fun ρ' => (tt ρ').bind fun b => if b then (fe ρ').bind fun y => (lcGo mg tt fe ρ ds).map (y :: ·) else lcGo mg tt fe ρ ds
def mLc (f : FA) (mg : FG) (tt : FB) (fe : FE) (vs : List Nat) : FA := fun ρ => (f ρ).bind fun ds => if ds.length ≤ bigN then lcGo mg tt fe (wipeR ρ vs) ds else none
theorem Xt.mut {H0 H H0' H' : Hp} (x : Xt H0 H H0' H') {p : Addr} {o : HO} (h0 : H0' p = none) (hn : H p = none) : Xt H0 H H0' (upd H' p o) :=
  ⟨x.f, fun a u e => by rw [upd_ne (ne_of_none e h0)]; exact x.s a u e, fun a u e => by rw [upd_ne (ne_of_none e hn)]; exact x.k a u e, x.n⟩
theorem dl_lc {K : PySem.W.Frag} {wi : TI} {f : FA} {g : TG} {mg : FG} {js vs : List Nat} {tt : TT} {ft : FB} (hi : DI K own wi f) (hg : DG K own js g mg) (hj : ∀ j ∈ js, j ∈ vs) (ht : DB K own tt ft) (he : DF K own te fe) :
    DL K own (tLc wi g tt te vs) (mLc f mg ft fe vs) := by
  intro B0 B σ H0 H ρ S ys e Q q
  obtain ⟨ds, e1, e2⟩ := Option.bind_eq_some_iff.mp e
  by_cases hz : ds.length ≤ bigN
  case neg => rw [if_neg hz] at e2; cases e2
  rw [if_pos hz] at e2
  refine hi B0 B σ H0 H ρ S ds e1 _ fun J K0 G x0 wk D hD => ?_
  have hn0 : K0 D = none := x0.s.free hD
  have S0 := S.ext x0
  refine ⟨fun i m H' => m = ds.length - i ∧ i ≤ ds.length ∧ ∃ G0 acc as1 rest, Xt K0 G G0 H' ∧ G0 D = none ∧ H' D = some (.lst acc) ∧ RvA K G0 acc as1 ∧ acc.length ≤ i ∧ lcGo mg ft fe (wipeR ρ vs) (ds.drop i) = some rest ∧ ys = as1 ++ rest,
    ⟨_, rfl, Nat.zero_le _, K0, [], [], ys, Xt.loose x0.s hD, hn0, upd_same, .nil, Nat.le_refl _, e2, rfl⟩, ?_⟩
  rintro i m H' ⟨rfl, hil, G0, acc, as1, rest, x, hG, hH, ra, hal, el, ey⟩
  by_cases hlt : i < ds.length
  · refine .inr ⟨wk.go i H' (x.f.trans x.s) hlt, fun H'' => ∃ m', m' < ds.length - i ∧ (m' = ds.length - (i + 1) ∧ i + 1 ≤ ds.length ∧ ∃ G0 acc as1 rest, Xt K0 G G0 H'' ∧ G0 D = none ∧ H'' D = some (.lst acc) ∧ RvA K G0 acc as1 ∧ acc.length ≤ i + 1 ∧ lcGo mg ft fe (wipeR ρ vs) (ds.drop (i + 1)) = some rest ∧ ys = as1 ++ rest), fun H'' h => h, fun y H'' hy => ?_⟩
    have hd : ds[i]? = some ds[i] := List.getElem?_eq_getElem hlt
    obtain ⟨G1, x1, r1⟩ := wk.yld i _ G0 H' y H'' hd x.f x.s hy
    have S1 := ((S0.ext x).ext x1).wipe vs
    rw [List.drop_eq_getElem_cons hlt] at el
    obtain ⟨ρ', e3, el⟩ := Option.bind_eq_some_iff.mp el
    obtain ⟨b, e4, el⟩ := Option.bind_eq_some_iff.mp el
    refine hg B0 B _ G1 H'' _ S1 y _ ρ' r1 e3 _ fun σ2 S2 w2 => ⟨(w2 vs hj).trans (wipe_idem vs vs fun _ h => h), ?_⟩
    refine ht B0 B σ2 G1 H'' ρ' S2 b e4 _ fun G2 H2 x2 => ?_
    have hH2 : H2 D = some (.lst acc) := x2.k D _ (x1.k D _ hH)
    have hG2 : G2 D = none := x2.n D (x1.n D hG (by rw [hH]; intro z; cases z)) (by rw [x1.k D _ hH]; intro z; cases z)
    cases b with
    | true =>
      rw [if_pos rfl] at el ⊢
      obtain ⟨z, e5, el⟩ := Option.bind_eq_some_iff.mp el
      obtain ⟨rest', e6, rfl⟩ := Option.map_eq_some_iff.mp el
      refine he B0 B σ2 G2 H2 ρ' (S2.ext x2) z e5 _ fun v G3 H3 x3 r3 => ?_
      have hH3 : H3 D = some (.lst acc) := x3.k D _ hH2
      have hG3 : G3 D = none := x3.n D hG2 (by rw [hH2]; intro z; cases z)
      refine ⟨acc, hH3, Nat.lt_of_le_of_lt (Nat.le_trans hal (Nat.le_of_lt hlt)) (Nat.lt_of_le_of_lt hz (by decide)), ds.length - (i + 1), by omega, rfl, hlt, G3, acc ++ [v], as1 ++ [z], rest', ?_, hG3, upd_same, ?_, by simp; omega, e6, by simp [ey]⟩
      · exact (((x.trans x1).trans x2).trans x3).mut hG3 hD
      · exact (ra.mono ((x1.f.trans x2.f).trans x3.f)).app (.one r3)
    | false =>
      rw [if_neg (by decide)] at el ⊢
      exact ⟨ds.length - (i + 1), by omega, rfl, hlt, G2, acc, as1, rest, (x.trans x1).trans x2, hG2, hH2, ra.mono (x1.f.trans x2.f), by omega, el, ey⟩
  · have ei : i = ds.length := by omega
    subst ei
    rw [List.drop_length] at el
    cases el
    refine .inl ⟨wk.stop _ H' (x.f.trans x.s) (Nat.le_refl _), ?_⟩
    rw [List.append_nil] at ey
    subst ey
    exact q D acc G0 H' (x0.trans x) (Same.free x0.k hD) hG hH ra
theorem l_lc {elt tg iter : Expr} {ifs : List Expr} {scope : Scope} {ow : List (Str × Nat)} {js : List Nat} {wi : TI} {f : FA} {g : TG} {mg : FG} {tt : TT} {ft : FB} (hc : X.calm = true) (hN : X.N.Nodup) (hi : CI X own tg iter wi f) (ok : BlkOk X.N X.env.scope scope ow)
    (hg : ∀ (s : Shared) (H : Hp) (C : Addr) (cl : List (Str × Addr)) (fp : List Addr), CG (X.blk s H scope (compEnvC scope cl C X.env) fp) own js tg g mg)
    (ht : ∀ (s : Shared) (H : Hp) (C : Addr) (cl : List (Str × Addr)) (fp : List Addr), CTs (X.blk s H scope (compEnvC scope cl C X.env) fp) own ifs tt ft)
    (he : ∀ (s : Shared) (H : Hp) (C : Addr) (cl : List (Str × Addr)) (fp : List Addr), CE (X.blk s H scope (compEnvC scope cl C X.env) fp) own elt te fe)
    (hj : ∀ j ∈ js, j ∈ ow.map (·.2) := by decide) (hs : ∀ x, foldedSetIterable iter X.env x = pure x := by intro _; rfl) :
    CL X own (.ListComp elt [⟨tg, iter, ifs, 0⟩] scope pos) (tLc wi g tt te (ow.map (·.2))) (mLc f mg ft fe (ow.map (·.2))) :=
  ⟨pe_lc hc hN hi.pi ok (fun s H C cl fp => (hg s H C cl fp).pg) (fun s H C cl fp => (ht s H C cl fp).pts) (fun s H C cl fp => (he s H C cl fp).pe) hs,
   dl_lc hi.di (hg X.s_0 X.H_0 0 [] []).dg hj (ht X.s_0 X.H_0 0 [] []).db (he X.s_0 X.H_0 0 [] []).df⟩
end
end Tie

/-! Statements, loops, defs, calls. -/
namespace Tie
open PySem L2

inductive Res where
  | nx (ρ : Rho) | rt (d : Dt) | bk (ρ : Rho) | ct (ρ : Rho)
abbrev FS := Rho → Option Res

/-- what a def hands back: frozen (false), or a new list (true) -/
def RetOk (K : PySem.W.Frag) (rk : Bool) (B0 B : Hp) (v : V) (H : Hp) (d : Dt) : Prop :=
  if rk then ∃ H0 p xs ds, v = .ref p ∧ d = .list ds ∧ Xt B0 B H0 H ∧ B p = none ∧ H0 p = none ∧ H p = some (.lst xs) ∧ RvA K H0 xs ds
  else ∃ H0, Xt B0 B H0 H ∧ Rv K H0 v d
def Post (K : PySem.W.Frag) (B0 B Z : Hp) (own' ownL : List Nat) (rk : Bool) (D : Ends) : Res → Prop
  | .nx ρ => ∀ σ H0 H, StR K B0 B own' σ H0 H ρ → Same Z H0 → D.nx σ H
  | .rt d => ∀ v H, RetOk K rk B0 B v H d → D.rt v H
  | .bk ρ => ∀ σ H0 H, StR K B0 B ownL σ H0 H ρ → Same Z H0 → D.bk σ H
  | .ct ρ => ∀ σ H0 H, StR K B0 B ownL σ H0 H ρ → Same Z H0 → D.ct σ H
theorem Post.up {K : PySem.W.Frag} {B0 B Z Z' : Hp} {own' ownL : List Nat} {rk : Bool} {D : Ends} {r : Res} (s : Same Z Z') (P : Post K B0 B Z own' ownL rk D r) : Post K B0 B Z' own' ownL rk D r := by
  cases r with
  | nx ρ => exact fun σ H0 H S z => P σ H0 H S (s.trans z)
  | rt d => exact P
  | bk ρ => exact fun σ H0 H S z => P σ H0 H S (s.trans z)
  | ct ρ => exact fun σ H0 H S z => P σ H0 H S (s.trans z)
def DS (K : PySem.W.Frag) (own own' ownL : List Nat) (rk : Bool) (ts : TS) (f : FS) : Prop :=
  ∀ (B0 B : Hp) (σ : St) (H0 H : Hp) (ρ : Rho), StR K B0 B own σ H0 H ρ → ∀ r, f ρ = some r → ∀ D : Ends, Post K B0 B H0 own' ownL rk D r → ts D σ H
structure CS (X : Cx) (own own' ownL : List Nat) (rk : Bool) (st : Stmt) (ts : TS) (f : FS) : Prop where
  ps : PS X st ts
  ds : DS X.K own own' ownL rk ts f
structure CSs (X : Cx) (own own' ownL : List Nat) (rk : Bool) (sts : List Stmt) (ts : TS) (f : FS) : Prop where
  ps : PSs X sts ts
  ds : DS X.K own own' ownL rk ts f

def sSeq (f g : FS) : FS := fun ρ => match f ρ with
  | some (.nx ρ') => g ρ'
  | r => r
def sNext : FS := fun ρ => some (.nx ρ)
def sBreak : FS := fun ρ => some (.bk ρ)
def sCont : FS := fun ρ => some (.ct ρ)
def sAsg (i : Nat) (f : FE) : FS := fun ρ => (f ρ).map fun d => .nx (ρ.set i (some d))
def sAsgL (i : Nat) (f : FA) : FS := fun ρ => (f ρ).map fun d => .nx (ρ.set i (some (.list d)))
def sRet (f : FE) : FS := fun ρ => (f ρ).map .rt
def sDrop (f : FE) : FS := fun ρ => (f ρ).map fun _ => .nx ρ
def sNever : FS := fun _ => none
def sIf (c : FB) (f g : FS) : FS := fun ρ => (c ρ).bind fun b => if b then f ρ else g ρ
def sKeep (ls : List Bool) : FS := fun ρ => some (.nx (keep ls ρ))
def sTo (f : FE) (mg : FG) : FS := fun ρ => (f ρ).bind fun d => (mg ρ d).map .nx
def forGo (ls : List Bool) (mg : FG) (body : FS) : List Dt → FS
  | [], ρ => some (.nx ρ)
  | d :: ds, ρ => (mg ρ d).bind fun ρ1 => (body ρ1).bind fun r => match r with
    | .nx ρ2 => forGo ls mg body ds (keep ls ρ2)
    | .ct ρ2 => forGo ls mg body ds (keep ls ρ2)
    | .bk ρ2 => some (.nx (keep ls ρ2))
    | .rt d => some (.rt d)
/-- a for: behind each turn the slots out of ls are forgotten -/
def sFor (ls : List Bool) (f : FA) (mg : FG) (body : FS) : FS := fun ρ => (f ρ).bind fun ds => forGo ls mg body ds (keep ls ρ)
def whileGo (ls : List Bool) (c : FB) (body : FS) : Nat → FS
  | 0, _ => none
  | n + 1, ρ => (c ρ).bind fun b => if b then (body ρ).bind fun r => match r with
      | .nx ρ2 => whileGo ls c body n (keep ls ρ2)
      | .ct ρ2 => whileGo ls c body n (keep ls ρ2)
      | .bk ρ2 => some (.nx (keep ls ρ2))
      | .rt d => some (.rt d)
    else some (.nx ρ)
def sWhile (n : Nat) (ls : List Bool) (c : FB) (body : FS) : FS := fun ρ => whileGo ls c body n (keep ls ρ)
def sApp (i : Nat) (f : FE) : FS := fun ρ => (rget ρ i).bind fun l => (asList l).bind fun ds => (f ρ).bind fun d => if ds.length ≤ bigN then some (.nx (ρ.set i (some (.list (ds ++ [d]))))) else none
def sExt (i : Nat) (f : FA) : FS := fun ρ => (rget ρ i).bind fun l => (asList l).bind fun ds => (f ρ).bind fun es => if ds.length + es.length ≤ bigN then some (.nx (ρ.set i (some (.list (ds ++ es))))) else none
/-- xs[i] = e -/
def sSetL (i : Nat) (f g : FE) : FS := fun ρ => (g ρ).bind fun d => (rget ρ i).bind fun l => (asList l).bind fun ds => (f ρ).bind fun k => (asInt k).bind fun k => (ixN ds.length k).bind fun j => some (.nx (ρ.set i (some (.list (ds.set j d)))))

section
variable {X : Cx} {own own1 own' ownL : List Nat} {rk : Bool} {st : Stmt} {rest sts sts2 : List Stmt} {t u : TS} {f g : FS} {e : Expr} {te : TE} {fe : FE} {fs : FA} {pos : Pos}

theorem post_seq {K : PySem.W.Frag} {B0 B Z : Hp} {D : Ends} {ρ : Rho} {r : Res} (h : DS K own1 own' ownL rk u g) (e : sSeq f g ρ = some r) (P : Post K B0 B Z own' ownL rk D r) : ∃ r1, f ρ = some r1 ∧ Post K B0 B Z own1 ownL rk { D with nx := u D } r1 := by
  unfold sSeq at e
  split at e
  · rename_i ρ' h1
    exact ⟨_, h1, fun σ H0 H S z => h B0 B σ H0 H ρ' S r e D (P.up z)⟩
  · rename_i hn
    refine ⟨r, e, ?_⟩
    cases r with
    | nx ρ' => exact absurd e (hn ρ')
    | rt d => exact P
    | bk ρ' => exact P
    | ct ρ' => exact P
theorem ss_cons (h1 : CS X own own1 ownL rk st t f) (h2 : CSs X own1 own' ownL rk rest u g) : CSs X own own' ownL rk (st :: rest) (tSeq t u) (sSeq f g) := ⟨pss_cons h1.ps h2.ps, fun B0 B σ H0 H ρ S r e D P => by
  obtain ⟨r1, e1, P1⟩ := post_seq h2.ds e P
  exact h1.ds B0 B σ H0 H ρ S r1 e1 _ P1⟩
theorem ss_one (h1 : CS X own own' ownL rk st t f) : CSs X own own' ownL rk [st] t f := ⟨pss_one h1.ps, h1.ds⟩
theorem ss_nil : CSs X own own ownL rk [] tNext sNext := ⟨pss_nil, fun B0 B σ H0 H ρ S r e D P => by cases e; exact P σ H0 H S (Same.refl _)⟩
theorem s_pass : CS X own own ownL rk (.Pass pos) tNext sNext := ⟨ps_pass, fun B0 B σ H0 H ρ S r e D P => by cases e; exact P σ H0 H S (Same.refl _)⟩
theorem s_break : CS X own own' own rk (.Break pos) tBreak sBreak := ⟨ps_break, fun B0 B σ H0 H ρ S r e D P => by cases e; exact P σ H0 H S (Same.refl _)⟩
theorem s_cont : CS X own own' own rk (.Continue pos) tCont sCont := ⟨ps_continue, fun B0 B σ H0 H ρ S r e D P => by cases e; exact P σ H0 H S (Same.refl _)⟩
theorem s_never : CS X own own' ownL rk st tNever sNever := ⟨ps_never, fun B0 B σ H0 H ρ S r e D P => by cases e⟩
/-- slots forgotten ahead of what follows -/
theorem ss_keep (ls : List Bool) (h : CSs X own own' ownL rk sts t f) : CSs X own own' ownL rk sts t (fun ρ => f (keep ls ρ)) := ⟨h.ps, fun B0 B σ H0 H ρ S r e D P => h.ds B0 B σ H0 H _ (S.keep ls) r e D P⟩
/-- an owned list is frozen ahead of what follows -/
theorem StR.freeze {K : PySem.W.Frag} {B0 B H0 H : Hp} {σ : St} {ρ : Rho} (S : StR K B0 B own σ H0 H ρ) (i : Nat) : ∃ H0', StR K B0 B (own.filter (· != i)) σ H0' H ρ ∧ Same H0 H0' := by
  have mem : ∀ j, j ∈ own.filter (· != i) ↔ j ∈ own ∧ j ≠ i := fun j => by simp
  by_cases hi : i ∈ own
  · cases hr : rget ρ i with
    | none =>
      refine ⟨H0, ⟨S.x, S.len, fun j d hj e => ?_, fun j d hj e => ?_, fun j k d e hj hk n q1 q2 => ?_⟩, Same.refl _⟩
      · by_cases hji : j = i
        · subst hji; rw [hr] at e; cases e
        · exact S.fro j d (fun z => hj ((mem j).mpr ⟨z, hji⟩)) e
      · exact S.ow j d ((mem j).mp hj).1 e
      · exact S.dis j k d e ((mem j).mp hj).1 ((mem k).mp hk).1 n q1 q2
    | some d =>
      obtain ⟨p, o, h1, hb, h0, h, r⟩ := S.ow i d hi hr
      have s : Same H0 (upd H0 p o) := same_new h0
      refine ⟨upd H0 p o, ⟨⟨S.x.f.trans s, fun a u q => ?_, S.x.k, fun a n1 n2 => ?_⟩, S.len, fun j d' hj e => ?_, fun j d' hj e => ?_, fun j k d e hj hk n q1 q2 => ?_⟩, s⟩
      · by_cases z : a = p
        · subst z; rw [upd_same] at q; cases q; exact h
        · rw [upd_ne z] at q; exact S.x.s a u q
      · have z : a ≠ p := fun z => n2 (z ▸ hb)
        rw [upd_ne z]; exact S.x.n a n1 n2
      · by_cases hji : j = i
        · subst hji
          rw [hr] at e; cases e
          exact ⟨.ref p, h1, r.frozen h0⟩
        · obtain ⟨v, e1, e2⟩ := S.fro j d' (fun z => hj ((mem j).mpr ⟨z, hji⟩)) e
          exact ⟨v, e1, e2.mono s⟩
      · obtain ⟨hj1, hj2⟩ := (mem j).mp hj
        obtain ⟨p', o', g1, gb, g0, g, gr⟩ := S.ow j d' hj1 e
        have z : p' ≠ p := fun z => by
          have := S.dis j i d' d hj1 hi hj2 e hr
          rw [g1, h1, z] at this
          exact this rfl
        exact ⟨p', o', g1, gb, by rw [upd_ne z]; exact g0, g, gr.mono s⟩
      · exact S.dis j k d e ((mem j).mp hj).1 ((mem k).mp hk).1 n q1 q2
  · have eo : own.filter (· != i) = own := List.filter_eq_self.mpr fun a ha => by
      have : a ≠ i := fun z => hi (z ▸ ha)
      simp [this]
    rw [eo]
    exact ⟨H0, S, Same.refl _⟩
theorem ss_freeze (i : Nat) (h : CSs X (own.filter (· != i)) own' ownL rk sts t f) : CSs X own own' ownL rk sts t f := ⟨h.ps, fun B0 B σ H0 H ρ S r e D P => by
  obtain ⟨H0', S', z⟩ := S.freeze i
  exact h.ds B0 B σ H0' H ρ S' r e D (P.up z)⟩
/-- no slot owned any more: frozen all -/
theorem StR.drop {K : PySem.W.Frag} {B0 B H0 H : Hp} {σ : St} {ρ : Rho} (S : StR K B0 B own σ H0 H ρ) {i : Nat} (v : V) (d : Dt) (r : Rv K H0 v d) : StR K B0 B (own.filter (· != i)) (σ.set i (some v)) H0 H (ρ.set i (some d)) := by
  have mem : ∀ j, j ∈ own.filter (· != i) ↔ j ∈ own ∧ j ≠ i := fun j => by simp
  refine ⟨S.x, by simp [S.len], fun j e hj q => ?_, fun j e hj q => ?_, fun j k d' e' hj hk n q1 q2 => ?_⟩
  · by_cases hl : i < ρ.length
    · rw [rget_set hl] at q
      by_cases h : j = i
      · rw [if_pos h] at q; cases q; subst h
        exact ⟨v, by rw [List.getElem?_set_self (by rw [S.len]; exact hl)], r⟩
      · rw [if_neg h] at q
        rw [List.getElem?_set_ne (fun z => h z.symm)]
        exact S.fro j e (fun z => hj ((mem j).mpr ⟨z, h⟩)) q
    · rw [rget_set_ge hl] at q
      rw [List.set_eq_of_length_le (by rw [S.len]; omega)]
      have h : j ≠ i := fun z => by
        subst z
        unfold rget at q
        rw [List.getElem?_eq_none (by omega)] at q
        cases q
      exact S.fro j e (fun z => hj ((mem j).mpr ⟨z, h⟩)) q
  · obtain ⟨hj1, h⟩ := (mem j).mp hj
    rw [List.getElem?_set_ne (fun z => h z.symm)]
    refine S.ow j e hj1 ?_
    by_cases hl : i < ρ.length
    · rw [rget_set hl, if_neg h] at q; exact q
    · rw [rget_set_ge hl] at q; exact q
  · obtain ⟨hj1, h1⟩ := (mem j).mp hj
    obtain ⟨hk1, h2⟩ := (mem k).mp hk
    rw [List.getElem?_set_ne (fun z => h1 z.symm), List.getElem?_set_ne (fun z => h2 z.symm)]
    by_cases hl : i < ρ.length
    · rw [rget_set hl, if_neg h1] at q1
      rw [rget_set hl, if_neg h2] at q2
      exact S.dis j k _ _ hj1 hk1 n q1 q2
    · rw [rget_set_ge hl] at q1 q2
      exact S.dis j k _ _ hj1 hk1 n q1 q2
/-- a new owned object in a slot -/
theorem StR.setL {K : PySem.W.Frag} {B0 B H0 H : Hp} {σ : St} {ρ : Rho} (S : StR K B0 B own σ H0 H ρ) {i : Nat} {p : Addr} {o : HO} {d : Dt} (hb : B p = none) (h0 : H0 p = none) (h : H p = some o) (r : OwnO K H0 o d)
    (new : ∀ j e, j ∈ own → j ≠ i → rget ρ j = some e → σ[j]? ≠ some (some (.ref p))) : StR K B0 B (i :: own.filter (· != i)) (σ.set i (some (.ref p))) H0 H (ρ.set i (some d)) := by
  have mem : ∀ j, j ∈ i :: own.filter (· != i) ↔ j = i ∨ (j ∈ own ∧ j ≠ i) := fun j => by simp
  have other : ∀ j e, j ≠ i → rget (ρ.set i (some d)) j = some e → rget ρ j = some e := fun j e n q => by
    by_cases hl : i < ρ.length
    · rw [rget_set hl, if_neg n] at q; exact q
    · rw [rget_set_ge hl] at q; exact q
  have here : ∀ e, rget (ρ.set i (some d)) i = some e → i < ρ.length ∧ e = d := fun e q => by
    by_cases hl : i < ρ.length
    · rw [rget_set hl, if_pos rfl] at q; cases q; exact ⟨hl, rfl⟩
    · rw [rget_set_ge hl] at q
      unfold rget at q
      rw [List.getElem?_eq_none (by omega)] at q
      cases q
  refine ⟨S.x, by simp [S.len], fun j e hj q => ?_, fun j e hj q => ?_, fun j k d' e' hj hk n q1 q2 => ?_⟩
  · have hji : j ≠ i := fun z => hj ((mem j).mpr (.inl z))
    rw [List.getElem?_set_ne (fun z => hji z.symm)]
    exact S.fro j e (fun z => hj ((mem j).mpr (.inr ⟨z, hji⟩))) (other j e hji q)
  · by_cases hji : j = i
    · subst hji
      obtain ⟨hl, rfl⟩ := here e q
      exact ⟨p, o, by rw [List.getElem?_set_self (by rw [S.len]; exact hl)], hb, h0, h, r⟩
    · rw [List.getElem?_set_ne (fun z => hji z.symm)]
      rcases (mem j).mp hj with z | z
      · exact absurd z hji
      · exact S.ow j e z.1 (other j e hji q)
  · by_cases h1 : j = i
    · subst h1
      obtain ⟨hl, rfl⟩ := here d' q1
      have hkj : k ≠ j := fun z => n z.symm
      rw [List.getElem?_set_self (by rw [S.len]; exact hl), List.getElem?_set_ne (fun z => n z)]
      rcases (mem k).mp hk with z | z
      · exact absurd z hkj
      · exact fun z2 => new k e' z.1 z.2 (other k e' hkj q2) z2.symm
    · rcases (mem j).mp hj with z | z
      · exact absurd z h1
      · by_cases h2 : k = i
        · subst h2
          obtain ⟨hl, rfl⟩ := here e' q2
          rw [List.getElem?_set_self (by rw [S.len]; exact hl), List.getElem?_set_ne (fun z => h1 z.symm)]
          exact new j d' z.1 z.2 (other j d' h1 q1)
        · rw [List.getElem?_set_ne (fun z => h1 z.symm), List.getElem?_set_ne (fun z => h2 z.symm)]
          rcases (mem k).mp hk with y | y
          · exact absurd y h2
          · exact S.dis j k d' e' z.1 y.1 n (other j d' h1 q1) (other k e' h2 q2)
/-- x = e, frozen -/
theorem ds_asg {K : PySem.W.Frag} {i : Nat} (h : DF K own te fe) : DS K own (own.filter (· != i)) ownL rk (tAsg te (gName i)) (sAsg i fe) := fun B0 B σ H0 H ρ S r e D P => by
  obtain ⟨d, e1, rfl⟩ := Option.map_eq_some_iff.mp e
  exact h B0 B σ H0 H ρ S d e1 _ fun v H1 G1 x1 r1 => P _ H1 G1 ((S.ext x1).drop v d r1) x1.f
theorem ds_asgL {K : PySem.W.Frag} {i : Nat} (h : DL K own te fs) : DS K own (i :: own.filter (· != i)) ownL rk (tAsg te (gName i)) (sAsgL i fs) := fun B0 B σ H0 H ρ S r e D P => by
  obtain ⟨d, e1, rfl⟩ := Option.map_eq_some_iff.mp e
  refine h B0 B σ H0 H ρ S d e1 _ fun p xs H1 G1 x1 hn h0 h1 r1 => P _ H1 G1 ((S.ext x1).setL (S.x.k.free hn) h0 h1 (.lst r1) fun j e' hj _ q z => ?_) x1.f
  obtain ⟨p', o', g1, _, _, g, _⟩ := S.ow j e' hj q
  rw [g1] at z
  cases z
  rw [g] at hn
  cases hn
theorem s_set {i : Nat} {x : Str} {pos' : Pos} (hN : X.N.Nodup) (h : CE X own e te fe) (hi : X.N[i]? = some x := by rfl) (hx : Loc X.env.scope x := by first | exact Or.inl rfl | exact Or.inr rfl) (hs : swapsWith e (some (.Name x pos')) pos.line X.env = pure false := by rfl)
    (hf : X.fn x = true ∨ X.env.scope.names.lookup x = some .local := by first | exact .inl rfl | exact .inr rfl) : CS X own (own.filter (· != i)) ownL rk (.Assign [.Name x pos'] e pos) (tAsg te (gName i)) (sAsg i fe) := ⟨ps_set hN hi hx h.pe hs hf, ds_asg h.df⟩
theorem s_setL {i : Nat} {x : Str} {pos' : Pos} (hN : X.N.Nodup) (h : CL X own e te fs) (hi : X.N[i]? = some x := by rfl) (hx : Loc X.env.scope x := by first | exact Or.inl rfl | exact Or.inr rfl) (hs : swapsWith e (some (.Name x pos')) pos.line X.env = pure false := by rfl)
    (hf : X.fn x = true ∨ X.env.scope.names.lookup x = some .local := by first | exact .inl rfl | exact .inr rfl) : CS X own (i :: own.filter (· != i)) ownL rk (.Assign [.Name x pos'] e pos) (tAsg te (gName i)) (sAsgL i fs) := ⟨ps_set hN hi hx h.pe hs hf, ds_asgL h.dl⟩
/-- x = [..] of a comprehension on one line, x a local name that no comprehension sees -/
theorem s_lc {i : Nat} {y : Str} {py : Pos} {elt tg iter : Expr} {ifs : List Expr} {scope : Scope} {ow : List (Str × Nat)} {js : List Nat} {wi : TI} {f : FA} {g : TG} {mg : FG} {tt : TT} {ft : FB} {pos spos : Pos} (hc : X.calm = true) (hN : X.N.Nodup) (hi : CI X own tg iter wi f) (ok : BlkOk X.N X.env.scope scope ow)
    (hg : ∀ (s : Shared) (H : Hp) (C : Addr) (cl : List (Str × Addr)) (fp : List Addr), CG (X.blk s H scope (compEnvC scope cl C X.env) fp) own js tg g mg)
    (ht : ∀ (s : Shared) (H : Hp) (C : Addr) (cl : List (Str × Addr)) (fp : List Addr), CTs (X.blk s H scope (compEnvC scope cl C X.env) fp) own ifs tt ft)
    (he : ∀ (s : Shared) (H : Hp) (C : Addr) (cl : List (Str × Addr)) (fp : List Addr), CE (X.blk s H scope (compEnvC scope cl C X.env) fp) own elt te fe)
    (hy : X.N[i]? = some y := by rfl) (hyl : X.env.scope.names.lookup y = some .local := by rfl) (hsw : swapsWith (.ListComp elt [⟨tg, iter, ifs, 0⟩] scope pos) (some (.Name y py)) spos.line X.env = pure true := by exact sw_true rfl rfl rfl (by decide +kernel))
    (hj : ∀ j ∈ js, j ∈ ow.map (·.2) := by decide) (hs : ∀ x, foldedSetIterable iter X.env x = pure x := by intro _; rfl) :
    CS X own (own.filter (· != i)) ownL rk (.Assign [.Name y py] (.ListComp elt [⟨tg, iter, ifs, 0⟩] scope pos) spos) (tAsg (tLc wi g tt te (ow.map (·.2))) (gName i)) (sAsg i (mList (mLc f mg ft fe (ow.map (·.2))))) :=
  ⟨ps_setLc hc hN hy hyl hsw hi.pi ok (fun s H C cl fp => (hg s H C cl fp).pg) (fun s H C cl fp => (ht s H C cl fp).pts) (fun s H C cl fp => (he s H C cl fp).pe) hs,
   ds_asg (dl_lc hi.di (hg X.s_0 X.H_0 0 [] []).dg hj (ht X.s_0 X.H_0 0 [] []).db (he X.s_0 X.H_0 0 [] []).df).f⟩
theorem s_lcL {i : Nat} {y : Str} {py : Pos} {elt tg iter : Expr} {ifs : List Expr} {scope : Scope} {ow : List (Str × Nat)} {js : List Nat} {wi : TI} {f : FA} {g : TG} {mg : FG} {tt : TT} {ft : FB} {pos spos : Pos} (hc : X.calm = true) (hN : X.N.Nodup) (hi : CI X own tg iter wi f) (ok : BlkOk X.N X.env.scope scope ow)
    (hg : ∀ (s : Shared) (H : Hp) (C : Addr) (cl : List (Str × Addr)) (fp : List Addr), CG (X.blk s H scope (compEnvC scope cl C X.env) fp) own js tg g mg)
    (ht : ∀ (s : Shared) (H : Hp) (C : Addr) (cl : List (Str × Addr)) (fp : List Addr), CTs (X.blk s H scope (compEnvC scope cl C X.env) fp) own ifs tt ft)
    (he : ∀ (s : Shared) (H : Hp) (C : Addr) (cl : List (Str × Addr)) (fp : List Addr), CE (X.blk s H scope (compEnvC scope cl C X.env) fp) own elt te fe)
    (hy : X.N[i]? = some y := by rfl) (hyl : X.env.scope.names.lookup y = some .local := by rfl) (hsw : swapsWith (.ListComp elt [⟨tg, iter, ifs, 0⟩] scope pos) (some (.Name y py)) spos.line X.env = pure true := by exact sw_true rfl rfl rfl (by decide +kernel))
    (hj : ∀ j ∈ js, j ∈ ow.map (·.2) := by decide) (hs : ∀ x, foldedSetIterable iter X.env x = pure x := by intro _; rfl) :
    CS X own (i :: own.filter (· != i)) ownL rk (.Assign [.Name y py] (.ListComp elt [⟨tg, iter, ifs, 0⟩] scope pos) spos) (tAsg (tLc wi g tt te (ow.map (·.2))) (gName i)) (sAsgL i (mLc f mg ft fe (ow.map (·.2)))) :=
  ⟨ps_setLc hc hN hy hyl hsw hi.pi ok (fun s H C cl fp => (hg s H C cl fp).pg) (fun s H C cl fp => (ht s H C cl fp).pts) (fun s H C cl fp => (he s H C cl fp).pe) hs,
   ds_asgL (dl_lc hi.di (hg X.s_0 X.H_0 0 [] []).dg hj (ht X.s_0 X.H_0 0 [] []).db (he X.s_0 X.H_0 0 [] []).df)⟩
/-- a, b = e -/
theorem s_to {tg : Expr} {js : List Nat} {gt : TG} {mg : FG} (h : CE X own e te fe) (hg : CG X own js tg gt mg) (hs : swapsWithSole [tg] e pos.line X.env = pure false := by rfl) (hw : swappedStores [tg] e X.env = pure none := by rfl)
    (h1 : (assignEach [tg] X.env).map (·.2) = [assign tg X.env] := by rfl) : CS X own own ownL rk (.Assign [tg] e pos) (tAsg te gt) (sTo fe mg) := ⟨ps_asg h.pe hg.pg hs hw h1, fun B0 B σ H0 H ρ S r e D P => by
  obtain ⟨d, e1, e2⟩ := Option.bind_eq_some_iff.mp e
  obtain ⟨ρ', e3, rfl⟩ := Option.map_eq_some_iff.mp e2
  refine h.df B0 B σ H0 H ρ S d e1 _ fun v H1 G1 x1 r1 => ?_
  exact hg.dg B0 B σ H1 G1 ρ (S.ext x1) v d ρ' r1 e3 _ fun σ' S' _ => P σ' H1 G1 S' x1.f⟩
theorem s_ret (h : CE X own e te fe) : CS X own own' ownL false (.Return (some e) pos) (tRet te) (sRet fe) := ⟨ps_ret h.pe, fun B0 B σ H0 H ρ S r e D P => by
  obtain ⟨d, e1, rfl⟩ := Option.map_eq_some_iff.mp e
  exact h.df B0 B σ H0 H ρ S d e1 _ fun v H1 G1 x1 r1 => P v G1 ⟨H1, (S.ext x1).x, r1⟩⟩
theorem s_retL (h : CL X own e te fs) : CS X own own' ownL true (.Return (some e) pos) (tRet te) (sRet (mList fs)) := ⟨ps_ret h.pe, fun B0 B σ H0 H ρ S r e D P => by
  obtain ⟨d, e1, rfl⟩ := Option.map_eq_some_iff.mp e
  obtain ⟨ds, e2, rfl⟩ := Option.map_eq_some_iff.mp e1
  exact h.dl B0 B σ H0 H ρ S ds e2 _ fun p xs H1 G1 x1 hn h0 h1 r1 => P _ G1 ⟨H1, p, xs, ds, rfl, rfl, (S.ext x1).x, S.x.k.free hn, h0, h1, r1⟩⟩
/-- an owned list is handed back -/
theorem s_retO (i : Nat) {x : Str} {p' : Pos} (ho : i ∈ own := by decide) (hN : X.N[i]? = some x := by rfl) (hv : Vis X.env.scope x := by first | exact Or.inl rfl | exact Or.inr (Or.inl rfl) | exact Or.inr (Or.inr rfl)) (hd : (x == ("__debug__" : Str)) = false := by decide)
    (hcd : (x == ("__classdict__" : Str)) = false := by decide) : CS X own own' ownL true (.Return (some (.Name x p')) pos) (tRet (tVar i)) (sRet (mList (mAsL (mVar i)))) := ⟨ps_ret (pe_var hN hv hd hcd), fun B0 B σ H0 H ρ S r e D P => by
  obtain ⟨d, e1, rfl⟩ := Option.map_eq_some_iff.mp e
  obtain ⟨ds, e2, rfl⟩ := Option.map_eq_some_iff.mp e1
  obtain ⟨d', e3, e4⟩ := Option.bind_eq_some_iff.mp e2
  cases asList_some e4
  obtain ⟨p, o, h1, hb, h0, h, r⟩ := S.ow i _ ho e3
  cases r with
  | lst r => exact ⟨_, h1, P _ H ⟨H0, p, _, ds, rfl, rfl, S.x, hb, h0, h, r⟩⟩⟩
theorem s_expr (h : CE X own e te fe) (hs : swapsWith e none pos.line X.env = pure false := by rfl) : CS X own own ownL rk (.Expr e pos) (tDrop te) (sDrop fe) := ⟨ps_expr h.pe hs, fun B0 B σ H0 H ρ S r e D P => by
  obtain ⟨d, e1, rfl⟩ := Option.map_eq_some_iff.mp e
  exact h.df B0 B σ H0 H ρ S d e1 _ fun v H1 G1 x1 r1 => P _ H1 G1 (S.ext x1) x1.f⟩
theorem s_if {c : Expr} {tc : TT} {fc : FB} (hc : CB X own c tc fc) (ha : CSs X own own' ownL rk sts t f) (hb : CSs X own own' ownL rk sts2 u g) : CS X own own' ownL rk (.If c sts sts2 pos) (tIfS tc t u) (sIf fc f g) := ⟨ps_if hc.pt ha.ps hb.ps, fun B0 B σ H0 H ρ S r e D P => by
  obtain ⟨b, e1, e2⟩ := Option.bind_eq_some_iff.mp e
  refine hc.db B0 B σ H0 H ρ S b e1 _ fun H1 G1 x1 => ?_
  cases b with
  | true =>
    rw [if_pos rfl] at e2 ⊢
    exact ha.ds B0 B σ H1 G1 ρ (S.ext x1) r e2 D (P.up x1.f)
  | false =>
    rw [if_neg (by decide)] at e2 ⊢
    exact hb.ds B0 B σ H1 G1 ρ (S.ext x1) r e2 D (P.up x1.f)⟩

/-! ### for -/
theorem ds_for {K : PySem.W.Frag} {wi : TI} {fi : FA} {js : List Nat} {gt : TG} {mg : FG} (ls : List Bool) (hi : DI K own wi fi) (hg : DG K own js gt mg) (hb : DS K own own own rk t f) : DS K own own ownL rk (tFor wi gt t) (sFor ls fi mg f) := by
  intro B0 B σ H0 H ρ S r e D P
  obtain ⟨ds, e1, e2⟩ := Option.bind_eq_some_iff.mp e
  refine hi B0 B σ H0 H ρ S ds e1 _ fun J K0 G x0 wk => ?_
  refine ⟨fun i m σ' H' => m = ds.length - i ∧ i ≤ ds.length ∧ ∃ G0 ρ', StR K B0 B own σ' G0 H' ρ' ∧ Same K0 G0 ∧ forGo ls mg f (ds.drop i) ρ' = some r, ⟨_, rfl, Nat.zero_le _, K0, _, (S.ext x0).keep ls, Same.refl _, e2⟩, ?_⟩
  rintro i m σ' H' ⟨rfl, hil, G0, ρ', S', s0, el⟩
  by_cases hlt : i < ds.length
  · refine .inr ⟨wk.go i H' (s0.trans S'.same) hlt, fun σ2 H2 => ∃ m', m' < ds.length - i ∧ (m' = ds.length - (i + 1) ∧ i + 1 ≤ ds.length ∧ ∃ G0 ρ', StR K B0 B own σ2 G0 H2 ρ' ∧ Same K0 G0 ∧ forGo ls mg f (ds.drop (i + 1)) ρ' = some r), fun _ _ h => h, fun y H'' hy => ?_⟩
    have hd : ds[i]? = some ds[i] := List.getElem?_eq_getElem hlt
    obtain ⟨G1, x1, r1⟩ := wk.yld i _ G0 H' y H'' hd s0 S'.same hy
    have S1 := S'.ext x1
    rw [List.drop_eq_getElem_cons hlt] at el
    obtain ⟨ρ1, e3, el⟩ := Option.bind_eq_some_iff.mp el
    obtain ⟨r', e4, el⟩ := Option.bind_eq_some_iff.mp el
    refine hg B0 B σ' G1 H'' ρ' S1 y _ ρ1 r1 e3 _ fun σ2 S2 _ => ?_
    refine hb B0 B σ2 G1 H'' ρ1 S2 r' e4 _ ?_
    have s1 := s0.trans x1.f
    cases r' with
    | nx ρ2 => exact fun σ3 H0_ H_ S3 z => ⟨_, by omega, rfl, hlt, H0_, _, S3.keep ls, s1.trans z, el⟩
    | ct ρ2 => exact fun σ3 H0_ H_ S3 z => ⟨_, by omega, rfl, hlt, H0_, _, S3.keep ls, s1.trans z, el⟩
    | bk ρ2 =>
      cases el
      exact fun σ3 H0_ H_ S3 z => P σ3 H0_ H_ (S3.keep ls) ((x0.f.trans s1).trans z)
    | rt d =>
      cases el
      exact P
  · have ei : i = ds.length := by omega
    subst ei
    rw [List.drop_length] at el
    cases el
    exact .inl ⟨wk.stop _ H' (s0.trans S'.same) (Nat.le_refl _), P σ' G0 H' S' (x0.f.trans s0)⟩
end
end Tie

/-! for, while, lists that grow, calls of defs, defs. -/
namespace Tie
open PySem L2
section
variable {X : Cx} {own own1 own' ownL : List Nat} {rk : Bool} {st : Stmt} {rest sts sts2 : List Stmt} {t u : TS} {f g : FS} {e e2 : Expr} {te te2 : TE} {fe fe2 : FE} {fs : FA} {pos cpos apos : Pos}

theorem s_for {tg iter : Expr} {wi : TI} {fi : FA} {js : List Nat} {gt : TG} {mg : FG} (ls : List Bool) (hp : PassesOwn (model X.prog X.w) X.A X.env X.xe) (hc : X.calm = true) (hi : CI X own tg iter wi fi) (hg : CG X own js tg gt mg) (hb : CSs X own own own rk sts t f)
    (hs : ∀ x, foldedSetIterable iter X.env x = pure x := by intro _; rfl) : CS X own own ownL rk (.For tg iter sts [] pos) (tFor wi gt t) (sFor ls fi mg f) := ⟨ps_for hp hc hi.pi hg.pg hb.ps hs, ds_for ls hi.di hg.dg hb.ds⟩
theorem ds_while {K : PySem.W.Frag} {tc : TT} {fc : FB} (n : Nat) (ls : List Bool) (hc : DB K own tc fc) (hb : DS K own own own rk t f) : DS K own own ownL rk (tWhile tc t) (sWhile n ls fc f) := by
  intro B0 B σ H0 H ρ S r e D P
  refine ⟨fun m σ' H' => ∃ G0 ρ', StR K B0 B own σ' G0 H' ρ' ∧ Same H0 G0 ∧ whileGo ls fc f m ρ' = some r, ⟨n, H0, _, S.keep ls, Same.refl _, e⟩, ?_⟩
  rintro m σ' H' ⟨G0, ρ', S', s0, el⟩
  cases m with
  | zero => cases el
  | succ m =>
    obtain ⟨b, e1, el⟩ := Option.bind_eq_some_iff.mp el
    refine hc B0 B σ' G0 H' ρ' S' b e1 _ fun G1 H1 x1 => ?_
    have S1 := S'.ext x1
    cases b with
    | false =>
      rw [if_neg (by decide)] at el ⊢
      cases el
      exact P σ' G1 H1 S1 (s0.trans x1.f)
    | true =>
      rw [if_pos rfl] at el ⊢
      obtain ⟨r', e4, el⟩ := Option.bind_eq_some_iff.mp el
      refine ⟨fun σ2 H2 => ∃ m', m' < m + 1 ∧ ∃ G0 ρ', StR K B0 B own σ2 G0 H2 ρ' ∧ Same H0 G0 ∧ whileGo ls fc f m' ρ' = some r, fun _ _ h => h, ?_⟩
      refine hb B0 B σ' G1 H1 ρ' S1 r' e4 _ ?_
      have s1 := s0.trans x1.f
      cases r' with
      | nx ρ2 => exact fun σ3 H0_ H_ S3 z => ⟨m, by omega, H0_, _, S3.keep ls, s1.trans z, el⟩
      | ct ρ2 => exact fun σ3 H0_ H_ S3 z => ⟨m, by omega, H0_, _, S3.keep ls, s1.trans z, el⟩
      | bk ρ2 =>
        cases el
        exact fun σ3 H0_ H_ S3 z => P σ3 H0_ H_ (S3.keep ls) (s1.trans z)
      | rt d =>
        cases el
        exact P
theorem s_while {c : Expr} {tc : TT} {fc : FB} (n : Nat) (ls : List Bool) (hp : PassesOwn (model X.prog X.w) X.A X.env X.xe) (hc : CB X own c tc fc) (hb : CSs X own own own rk sts t f) : CS X own own ownL rk (.While c sts [] pos) (tWhile tc t) (sWhile n ls fc f) :=
  ⟨ps_while hp hc.pt hb.ps, ds_while n ls hc.db hb.ds⟩

/-! ### an owned list changed -/
theorem StR.write {K : PySem.W.Frag} {B0 B H0 H : Hp} {σ : St} {ρ : Rho} (S : StR K B0 B own σ H0 H ρ) {i : Nat} {p : Addr} {o : HO} {d d0 : Dt} (hi : i ∈ own) (hr : rget ρ i = some d0) (hs : σ[i]? = some (some (.ref p))) (r : OwnO K H0 o d) : StR K B0 B own σ H0 (upd H p o) (ρ.set i (some d)) := by
  obtain ⟨p', o', h1, hb, h0, h, _⟩ := S.ow i d0 hi hr
  rw [hs] at h1
  cases h1
  have hl : i < ρ.length := by
    rw [rget_some] at hr
    exact (List.getElem?_eq_some_iff.mp hr).1
  refine ⟨⟨S.x.f, fun a u q => ?_, fun a u q => ?_, S.x.n⟩, by simp [S.len], fun j e hj q => ?_, fun j e hj q => ?_, fun j k d1 e1 hj hk n q1 q2 => ?_⟩
  · rw [upd_ne (ne_of_none q h0)]; exact S.x.s a u q
  · rw [upd_ne (ne_of_none q hb)]; exact S.x.k a u q
  · have n : j ≠ i := fun z => hj (z ▸ hi)
    rw [rget_set hl, if_neg n] at q
    exact S.fro j e hj q
  · rw [rget_set hl] at q
    by_cases n : j = i
    · subst n
      rw [if_pos rfl] at q; cases q
      exact ⟨p, o, hs, hb, h0, upd_same, r⟩
    · rw [if_neg n] at q
      obtain ⟨p2, o2, g1, gb, g0, g, gr⟩ := S.ow j e hj q
      have z : p2 ≠ p := fun z => by
        have := S.dis j i e d0 hj hi n q hr
        rw [g1, hs, z] at this
        exact this rfl
      exact ⟨p2, o2, g1, gb, g0, by rw [upd_ne z]; exact g, gr⟩
  · have old : ∀ j e, rget (ρ.set i (some d)) j = some e → ∃ e', rget ρ j = some e' := fun j e q => by
      rw [rget_set hl] at q
      by_cases n : j = i
      · subst n; exact ⟨_, hr⟩
      · rw [if_neg n] at q; exact ⟨_, q⟩
    obtain ⟨_, a1⟩ := old j d1 q1
    obtain ⟨_, a2⟩ := old k e1 q2
    exact S.dis j k _ _ hj hk n a1 a2
theorem ds_app {K : PySem.W.Frag} {i : Nat} (hi : i ∈ own) (h : DF K own te fe) : DS K own own ownL rk (tDrop (tBM K "list" rAppend (tVar i) (tCons te tNil))) (sApp i fe) := fun B0 B σ H0 H ρ S r e D P => by
  obtain ⟨l, e1, ea⟩ := Option.bind_eq_some_iff.mp e
  obtain ⟨ds, e2, eb⟩ := Option.bind_eq_some_iff.mp ea
  obtain ⟨d, e3, ec⟩ := Option.bind_eq_some_iff.mp eb
  cases asList_some e2
  split at ec
  · rename_i hz
    cases ec
    obtain ⟨p, o, h1, hb, h0, hp, ro⟩ := S.ow i _ hi e1
    cases ro with
    | lst ro =>
      rename_i xs
      refine ⟨_, h1, .inl ⟨rfl, _, .inl (.inl hp)⟩, ?_⟩
      refine h B0 B σ H0 H ρ S d e3 _ fun v H1 G1 x1 r1 => ?_
      refine ⟨p, xs, v, rfl, rfl, x1.k _ _ hp, Nat.lt_of_le_of_lt (by rw [ro.len]; exact hz) (by decide : bigN < sizeLine), ?_⟩
      exact P σ H1 _ ((S.ext x1).write hi e1 h1 (.lst ((ro.mono x1.f).app (.one r1)))) x1.f
  · cases ec
theorem s_app (i : Nat) {x : Str} {p' : Pos} (h : CE X own e te fe) (ho : i ∈ own := by decide) (hN : X.N[i]? = some x := by rfl) (hv : Vis X.env.scope x := by first | exact Or.inl rfl | exact Or.inr (Or.inl rfl) | exact Or.inr (Or.inr rfl)) (hd : (x == ("__debug__" : Str)) = false := by decide)
    (hcd : (x == ("__classdict__" : Str)) = false := by decide)
    (hbase : attributeBase (.Name x p') "append" X.env (eval (.Name x p') X.env) = eval (.Name x p') X.env := by rfl)
    (hfew : ((backTo cpos (starEach [e] X.env)).all (fun x => !x.1) && (backToKw cpos (keywordEach [] X.env)).all (fun x => x.1.isSome)
      && decide ([e].length + ([] : List Keyword).length + (if ([] : List Keyword).isEmpty then 0 else 1) < 30)) = true := by rfl)
    (hline : (apos.endLine == cpos.line) = true := by rfl) (hs : starEach [e] X.env = (false, eval e X.env) :: starEach [] X.env := by rfl) (hplain : (backTo cpos (starEach [] X.env)).any (·.1) = false := by rfl)
    (hsw : swapsWith (.Call (.Attribute (.Name x p') "append" apos) [e] [] cpos) none pos.line X.env = pure false := by rfl) :
    CS X own own ownL rk (.Expr (.Call (.Attribute (.Name x p') "append" apos) [e] [] cpos) pos) (tDrop (tBM X.K "list" rAppend (tVar i) (tCons te tNil))) (sApp i fe) :=
  ⟨ps_expr (pe_bm PySem.F.plainAttrs_list PySem.F.slot_list_append PySem.F.type_list_append mt_append (pe_var hN hv hd hcd) (pa_cons h.pe pa_nil hs) hbase hfew hline hs hplain) hsw, ds_app ho h.df⟩
theorem ds_ext {K : PySem.W.Frag} {i : Nat} (hi : i ∈ own) (h : DL K own te fs) : DS K own own ownL rk (tDrop (tBM K "list" rExtend (tVar i) (tCons te tNil))) (sExt i fs) := fun B0 B σ H0 H ρ S r e D P => by
  obtain ⟨l, e1, ea⟩ := Option.bind_eq_some_iff.mp e
  obtain ⟨ds, e2, eb⟩ := Option.bind_eq_some_iff.mp ea
  obtain ⟨d, e3, ec⟩ := Option.bind_eq_some_iff.mp eb
  cases asList_some e2
  split at ec
  · rename_i hz
    cases ec
    obtain ⟨p, o, h1, hb, h0, hp, ro⟩ := S.ow i _ hi e1
    cases ro with
    | lst ro =>
      rename_i xs
      refine ⟨_, h1, .inl ⟨rfl, _, .inl (.inl hp)⟩, ?_⟩
      refine h B0 B σ H0 H ρ S d e3 _ fun p2 zs H1 G1 x1 hn hn0 h2 r1 => ?_
      refine ⟨p, p2, xs, zs, rfl, rfl, x1.k _ _ hp, h2, big_le (by rw [ro.len, r1.len]; exact hz), ?_⟩
      exact P σ H1 _ ((S.ext x1).write hi e1 h1 (.lst ((ro.mono x1.f).app r1))) x1.f
  · cases ec
theorem s_ext (i : Nat) {x : Str} {p' : Pos} (h : CL X own e te fs) (ho : i ∈ own := by decide) (hN : X.N[i]? = some x := by rfl) (hv : Vis X.env.scope x := by first | exact Or.inl rfl | exact Or.inr (Or.inl rfl) | exact Or.inr (Or.inr rfl)) (hd : (x == ("__debug__" : Str)) = false := by decide)
    (hcd : (x == ("__classdict__" : Str)) = false := by decide)
    (hbase : attributeBase (.Name x p') "extend" X.env (eval (.Name x p') X.env) = eval (.Name x p') X.env := by rfl)
    (hfew : ((backTo cpos (starEach [e] X.env)).all (fun x => !x.1) && (backToKw cpos (keywordEach [] X.env)).all (fun x => x.1.isSome)
      && decide ([e].length + ([] : List Keyword).length + (if ([] : List Keyword).isEmpty then 0 else 1) < 30)) = true := by rfl)
    (hline : (apos.endLine == cpos.line) = true := by rfl) (hs : starEach [e] X.env = (false, eval e X.env) :: starEach [] X.env := by rfl) (hplain : (backTo cpos (starEach [] X.env)).any (·.1) = false := by rfl)
    (hsw : swapsWith (.Call (.Attribute (.Name x p') "extend" apos) [e] [] cpos) none pos.line X.env = pure false := by rfl) :
    CS X own own ownL rk (.Expr (.Call (.Attribute (.Name x p') "extend" apos) [e] [] cpos) pos) (tDrop (tBM X.K "list" rExtend (tVar i) (tCons te tNil))) (sExt i fs) :=
  ⟨ps_expr (pe_bm PySem.F.plainAttrs_list PySem.F.slot_list_extend PySem.F.type_list_extend mt_extend (pe_var hN hv hd hcd) (pa_cons h.pe pa_nil hs) hbase hfew hline hs hplain) hsw, ds_ext ho h.dl⟩
/-- xs[k] = e -/
theorem ds_setl {K : PySem.W.Frag} {i : Nat} (hi : i ∈ own) (hk : DF K own te2 fe2) (h : DF K own te fe) : DS K own own ownL rk (tAsg te (L2.gSub (tVar i) te2 rSetL)) (sSetL i fe2 fe) := fun B0 B σ H0 H ρ S r e D P => by
  obtain ⟨d, e1, ea⟩ := Option.bind_eq_some_iff.mp e
  obtain ⟨l, e2, eb⟩ := Option.bind_eq_some_iff.mp ea
  obtain ⟨ds, e3, ec⟩ := Option.bind_eq_some_iff.mp eb
  obtain ⟨kd, e4, ed⟩ := Option.bind_eq_some_iff.mp ec
  obtain ⟨k, e5, ee⟩ := Option.bind_eq_some_iff.mp ed
  obtain ⟨j, e6, ef⟩ := Option.bind_eq_some_iff.mp ee
  cases ef
  cases asList_some e3
  cases asInt_some e5
  refine h B0 B σ H0 H ρ S d e1 _ fun v H1 G1 x1 r1 => ?_
  obtain ⟨p, o, h1, hb, h0, hp, ro⟩ := (S.ext x1).ow i _ hi e2
  cases ro with
  | lst ro =>
    rename_i xs
    refine ⟨_, h1, ?_⟩
    refine hk B0 B σ H1 G1 ρ (S.ext x1) _ e4 _ fun y H2 G2 x2 r2 => ?_
    refine ⟨p, xs, k, j, rfl, r2.int_inv, x2.k _ _ hp, by rw [ro.len]; exact e6, ?_⟩
    exact P σ H2 _ (((S.ext x1).ext x2).write hi e2 h1 (.lst ((ro.mono x2.f).set j (r1.mono x2.f)))) (x1.f.trans x2.f)
theorem s_setl (i : Nat) {x : Str} {p' p2 : Pos} (hk : CE X own e2 te2 fe2) (h : CE X own e te fe) (ho : i ∈ own := by decide) (hN : X.N[i]? = some x := by rfl) (hv : Vis X.env.scope x := by first | exact Or.inl rfl | exact Or.inr (Or.inl rfl) | exact Or.inr (Or.inr rfl)) (hd : (x == ("__debug__" : Str)) = false := by decide)
    (hcd : (x == ("__classdict__" : Str)) = false := by decide)
    (hs : swapsWithSole [.Subscript (.Name x p') e2 p2] e pos.line X.env = pure false := by rfl) (hw : swappedStores [.Subscript (.Name x p') e2 p2] e X.env = pure none := by rfl)
    (h1 : (assignEach [.Subscript (.Name x p') e2 p2] X.env).map (·.2) = [assign (.Subscript (.Name x p') e2 p2) X.env] := by rfl)
    (ha : ∀ v, assign (.Subscript (.Name x p') e2 p2) X.env v = (do
      let ov ← holding [v] (eval (.Name x p') X.env)
      let iv ← holding [v, ov] (eval e2 X.env)
      standAt p2
      holding [v, ov, iv] (setItem ov iv v)
      release [v, ov, iv] []) := by intro _; rfl) :
    CS X own own ownL rk (.Assign [.Subscript (.Name x p') e2 p2] e pos) (tAsg te (L2.gSub (tVar i) te2 rSetL)) (sSetL i fe2 fe) :=
  ⟨ps_asg h.pe (pg_sub (pe_var hN hv hd hcd) hk.pe set_list ha) hs hw h1, ds_setl ho hk.df h.df⟩
end

/-! ### defs -/
def spD (K : PySem.W.Frag) (n : Nat) (rk : Bool) (F : List Dt → Option Dt) : Sp := fun vs H Q _ => ∃ H0 ds d, ds.length = n ∧ Same H0 H ∧ RvA K H0 vs ds ∧ F ds = some d ∧ ∀ v H', RetOk K rk H0 H v H' d → Q v H'
def startR (N : Nat) (ds : List Dt) : Rho := ds.map some ++ List.replicate (N - ds.length) none
def endR : Option Res → Option Dt
  | some (.rt d) => some d
  | some (.nx _) => some .none
  | _ => none
/-- the def's mirror, from its body's -/
def fnR (N : Nat) (f : FS) : List Dt → Option Dt := fun ds => endR (f (startR N ds))
/-- .. of a def that hands back a new list: it does not fall off its end -/
def endL : Option Res → Option Dt
  | some (.rt d) => some d
  | _ => none
def fnL (N : Nat) (f : FS) : List Dt → Option Dt := fun ds => endL (f (startR N ds))

theorem rva_start {K : PySem.W.Frag} {H0 H : Hp} {vs : List V} {ds : List Dt} {N : List Str} (s : Same H0 H) (r : RvA K H0 vs ds) (hl : ds.length ≤ N.length) : StR K H0 H [] (L2.start N vs) H0 H (startR N.length ds) := by
  have len := r.len
  refine ⟨Xt.refl s, ?_, fun i d _ e => ?_, fun i d hi => absurd hi (by simp), fun i j d e hi => absurd hi (by simp)⟩
  · simp [L2.start, startR, len]
  · rw [rget_some] at e
    unfold startR at e
    by_cases hi : i < ds.length
    · rw [List.getElem?_append_left (by simpa using hi), List.getElem?_map] at e
      cases q : ds[i]? with
      | none => rw [q] at e; cases e
      | some x =>
        rw [q] at e
        cases e
        obtain ⟨v, h1, h2⟩ := r.get q
        refine ⟨v, ?_, h2⟩
        unfold L2.start
        rw [List.getElem?_append_left (by simp [len, hi]), List.getElem?_map, h1]
        rfl
    · rw [List.getElem?_append_right (by simpa using hi), List.getElem?_replicate] at e
      split at e <;> cases e
section
variable {P : Program} {w : World} {K : PySem.W.Frag} {mg : Str → Option Value} {base : Heap}
theorem fn_D {x qual : Str} {st : Stmt} {f : Addr} {fd : FuncData} {N ps : List Str} {k : Nat} {rk : Bool} {fB : FS} {own' : List Nat} (F : Fun K x qual st f fd) (S : FnScope N ps (defScope st)) (hrk : rk = false)
    (hbody : ∀ (cdv : Value) (A : Around) (outer : List Env) (s : Shared) (H : Hp) (E : XK), Room k (A.deeper (PyProof.Rows.envOfC qual (defScope st) s.heap.objs.size f cdv)) →
      ∃ t, CSs (cxOf CX0 P w K mg base N qual (defScope st) f cdv A outer s H E).nox [] own' [] rk (defBody st) t fB) : FnOk P w K mg base CX0 (k + 1) f fd ps (spD K ps.length rk (fnR N.length fB)) := by
  have hN : ps.length ≤ N.length := by
    have := S.pre
    rw [← this, List.length_take]
    omega
  refine F.ok S (fun vs H Q E h => ?_) (fun cdv A outer s H vs Q E hr h => ?_)
  · obtain ⟨H0, ds, d, hl, _, r, _⟩ := h
    rw [r.len, hl]
  · obtain ⟨t, hc⟩ := hbody cdv A outer s H E hr
    obtain ⟨H0, ds, d, hl, sm, r, e, q⟩ := h
    refine ⟨t, hc.ps, ?_⟩
    unfold fnR at e
    cases hf : fB (startR N.length ds) with
    | none => rw [hf] at e; cases e
    | some res =>
      rw [hf] at e
      refine hc.ds H0 H _ H0 H _ (rva_start sm r (by rw [hl]; exact hN)) res hf _ ?_
      cases res with
      | nx ρ =>
        cases e
        subst hrk
        exact fun σ H0' H' S' _ => q .non H' ⟨H0', S'.x, .non⟩
      | rt d' => cases e; exact fun v H' ro => q v H' ro
      | bk ρ => cases e
      | ct ρ => cases e
theorem fn_DL {x qual : Str} {st : Stmt} {f : Addr} {fd : FuncData} {N ps : List Str} {k : Nat} {rk : Bool} {fB : FS} {own' : List Nat} (F : Fun K x qual st f fd) (S : FnScope N ps (defScope st))
    (hbody : ∀ (cdv : Value) (A : Around) (outer : List Env) (s : Shared) (H : Hp) (E : XK), Room k (A.deeper (PyProof.Rows.envOfC qual (defScope st) s.heap.objs.size f cdv)) →
      ∃ t, CSs (cxOf CX0 P w K mg base N qual (defScope st) f cdv A outer s H E).nox [] own' [] rk (defBody st) t fB) : FnOk P w K mg base CX0 (k + 1) f fd ps (spD K ps.length rk (fnL N.length fB)) := by
  have hN : ps.length ≤ N.length := by
    have := S.pre
    rw [← this, List.length_take]
    omega
  refine F.ok S (fun vs H Q E h => ?_) (fun cdv A outer s H vs Q E hr h => ?_)
  · obtain ⟨H0, ds, d, hl, _, r, _⟩ := h
    rw [r.len, hl]
  · obtain ⟨t, hc⟩ := hbody cdv A outer s H E hr
    obtain ⟨H0, ds, d, hl, sm, r, e, q⟩ := h
    refine ⟨t, hc.ps, ?_⟩
    unfold fnL at e
    cases hf : fB (startR N.length ds) with
    | none => rw [hf] at e; cases e
    | some res =>
      rw [hf] at e
      refine hc.ds H0 H _ H0 H _ (rva_start sm r (by rw [hl]; exact hN)) res hf _ ?_
      cases res with
      | nx ρ => cases e
      | rt d' => cases e; exact fun v H' ro => q v H' ro
      | bk ρ => cases e
      | ct ρ => cases e
/-- another mirror that says no more -/
theorem FnOk.mirror {CX : CXT} {k n : Nat} {f : Addr} {fd : FuncData} {ps : List Str} {rk : Bool} {F G : List Dt → Option Dt} (h : FnOk P w K mg base CX k f fd ps (spD K n rk F)) (hg : ∀ ds d, ds.length = n → G ds = some d → F ds = some d) : FnOk P w K mg base CX k f fd ps (spD K n rk G) :=
  h.imp fun vs H Q E ⟨H0, ds, d, h1, h2, h3, h4, h5⟩ => ⟨H0, ds, d, h1, h2, h3, hg ds d h1 h4, h5⟩
end

section
variable {X : Cx} {own : List Nat} {x : Str} {e : Expr} {es : List Expr} {ts : TA} {fs : FA} {p pos : Pos} {k n : Nat} {f : Addr} {fd : FuncData} {ps : List Str} {F : List Dt → Option Dt}
def mFn (n : Nat) (F : List Dt → Option Dt) (fs : FA) : FE := fun ρ => (fs ρ).bind fun ds => if ds.length = n then F ds else none
def mFnL (n : Nat) (F : List Dt → Option Dt) (fs : FA) : FA := fun ρ => (mFn n F fs ρ).bind asList
theorem df_call {K : PySem.W.Frag} (ha : DA K own ts fs) : DF K own (tCall (spD K n false F) [] E0 ts) (mFn n F fs) := by
  intro B0 B σ H0 H ρ S d e Q q
  obtain ⟨ds, e1, e⟩ := Option.bind_eq_some_iff.mp e
  split at e
  · rename_i hl
    refine ha B0 B σ H0 H ρ S ds e1 _ fun vs H1 G1 x1 r1 => ?_
    refine ⟨H1, ds, d, hl, x1.s, by rw [List.append_nil]; exact r1, e, fun v H' ro => ?_⟩
    obtain ⟨H2, x2, r2⟩ := ro
    exact q v H2 H' (x1.trans x2) r2
  · cases e
theorem dl_call {K : PySem.W.Frag} (ha : DA K own ts fs) : DL K own (tCall (spD K n true F) [] E0 ts) (mFnL n F fs) := by
  intro B0 B σ H0 H ρ S ds' e Q q
  obtain ⟨d, e0, e'⟩ := Option.bind_eq_some_iff.mp e
  obtain ⟨ds, e1, e⟩ := Option.bind_eq_some_iff.mp e0
  cases asList_some e'
  split at e
  · rename_i hl
    refine ha B0 B σ H0 H ρ S ds e1 _ fun vs H1 G1 x1 r1 => ?_
    refine ⟨H1, ds, _, hl, x1.s, by rw [List.append_nil]; exact r1, e, fun v H' ro => ?_⟩
    obtain ⟨H2, p, xs, es, rfl, h, x2, hn, h0, h2, r2⟩ := ro
    cases h
    exact q p xs H2 H' (x1.trans x2) (Same.free x1.k hn) h0 h2 r2
  · cases e
theorem e_call (G : FnOk X.prog X.w X.K X.mg X.base CX0 k f fd ps (spD X.K n false F)) (hr : Room k X.A) (hm : X.mg x = some (.ref f)) (hk : PySem.W.keepIn X.K (.ref f) = true) (hb : Binds X.K fd ps []) (ha : CA X own (e :: es) ts fs) (hg : Gl X x := by rfl)
    (hdb : (x == ("__debug__" : Str)) = false := by decide) (he : starEach (e :: es) X.env = (false, eval e X.env) :: starEach es X.env := by rfl) (hpl : (backTo pos (starEach es X.env)).any (·.1) = false := by rfl) :
    CE X own (.Call (.Name x p) (e :: es) [] pos) (tCall (spD X.K n false F) [] E0 ts) (mFn n F fs) := ⟨pe_call G hr hg hm hk hb .nil pass0 ha.pa hdb he hpl, df_call ha.da⟩
theorem l_call (G : FnOk X.prog X.w X.K X.mg X.base CX0 k f fd ps (spD X.K n true F)) (hr : Room k X.A) (hm : X.mg x = some (.ref f)) (hk : PySem.W.keepIn X.K (.ref f) = true) (hb : Binds X.K fd ps []) (ha : CA X own (e :: es) ts fs) (hg : Gl X x := by rfl)
    (hdb : (x == ("__debug__" : Str)) = false := by decide) (he : starEach (e :: es) X.env = (false, eval e X.env) :: starEach es X.env := by rfl) (hpl : (backTo pos (starEach es X.env)).any (·.1) = false := by rfl) :
    CL X own (.Call (.Name x p) (e :: es) [] pos) (tCall (spD X.K n true F) [] E0 ts) (mFnL n F fs) := ⟨pe_call G hr hg hm hk hb .nil pass0 ha.pa hdb he hpl, dl_call ha.da⟩
end
end Tie

/-! Defs by name. -/
namespace Tie
open PySem L2

/-- fewer owned slots, in any order -/
theorem StR.perm {K : PySem.W.Frag} {B0 B H0 H : Hp} {σ : St} {ρ : Rho} {own own' : List Nat} (S : StR K B0 B own σ H0 H ρ) (h : ∀ i, i ∈ own' ↔ i ∈ own) : StR K B0 B own' σ H0 H ρ :=
  ⟨S.x, S.len, fun i d hi e => S.fro i d (fun z => hi ((h i).mpr z)) e, fun i d hi e => S.ow i d ((h i).mp hi) e, fun i j d e hi hj n q1 q2 => S.dis i j d e ((h i).mp hi) ((h j).mp hj) n q1 q2⟩
theorem StR.less {K : PySem.W.Frag} {B0 B H : Hp} {σ : St} {ρ : Rho} {own' : List Nat} : ∀ (own : List Nat) {H0 : Hp}, StR K B0 B (own ++ own') σ H0 H ρ → ∃ H0', StR K B0 B own' σ H0' H ρ ∧ Same H0 H0'
  | [], H0, S => ⟨H0, S, Same.refl _⟩
  | i :: own, H0, S => by
    by_cases hi : i ∈ own'
    · have S2 : StR K B0 B (own ++ own') σ H0 H ρ := S.perm fun j => by
        simp only [List.cons_append, List.mem_cons, List.mem_append]
        constructor
        · intro z; exact .inr z
        · rintro (z | z)
          · subst z; exact .inr hi
          · exact z
      exact StR.less own S2
    · obtain ⟨H1, S1, s1⟩ := S.freeze i
      have S2 : StR K B0 B ((own.filter (· != i)) ++ own') σ H1 H ρ := S1.perm fun j => by
        simp only [List.cons_append, List.mem_cons, List.mem_append, List.mem_filter, bne_iff_ne, ne_eq]
        constructor
        · rintro (⟨z1, z2⟩ | z)
          · exact ⟨.inr (.inl z1), z2⟩
          · exact ⟨.inr (.inr z), fun q => hi (q ▸ z)⟩
        · rintro ⟨z1 | z1 | z1, z2⟩
          · exact absurd z1 z2
          · exact .inl ⟨z1, z2⟩
          · exact .inr z1
      have : (own.filter (· != i)).length < (i :: own).length := Nat.lt_of_le_of_lt (List.length_filter_le ..) (Nat.lt_succ_self _)
      obtain ⟨H2, S3, s2⟩ := StR.less (own.filter (· != i)) S2
      exact ⟨H2, S3, s1.trans s2⟩
termination_by own => own.length
theorem ss_own {X : Cx} {own' ownL : List Nat} {rk : Bool} {sts : List Stmt} {t : TS} {f : FS} (own own2 : List Nat) (h : CSs X own2 own' ownL rk sts t f) (hm : ∀ i ∈ own2, i ∈ own := by decide) : CSs X own own' ownL rk sts t f := ⟨h.ps, fun B0 B σ H0 H ρ S r e D P => by
  have S1 : StR _ B0 B (own ++ own2) σ H0 H ρ := S.perm fun i => by
    rw [List.mem_append]
    exact ⟨fun z => z.elim id (hm i), .inl⟩
  obtain ⟨H0', S', z⟩ := StR.less own S1
  exact h.ds B0 B σ H0' H ρ S' r e D (P.up z)⟩

section
variable (P : Program) (w : World) (K : PySem.W.Frag) (mg : Str → Option Value) (base : Heap)
/-- a def by name: what it hands back -/
def Cal (k : Nat) (x : Str) (n : Nat) (rk : Bool) (F : List Dt → Option Dt) : Prop :=
  ∃ f fd ps, FnOk P w K mg base CX0 k f fd ps (spD K n rk F) ∧ mg x = some (.ref f) ∧ PySem.W.keepIn K (.ref f) = true ∧ Binds K fd ps []
/-- a def as it stands -/
def Df (x : Str) (st : Stmt) : Prop := ∃ f fd, Fun K x x st f fd ∧ mg x = some (.ref f)
end
theorem Cal.mono {P : Program} {w : World} {K : PySem.W.Frag} {mg : Str → Option Value} {base : Heap} {k k' n : Nat} {x : Str} {rk : Bool} {F : List Dt → Option Dt} (h : Cal P w K mg base k x n rk F) (hk : k ≤ k') : Cal P w K mg base k' x n rk F := by
  obtain ⟨f, fd, ps, h1, h2⟩ := h
  exact ⟨f, fd, ps, h1.mono hk, h2⟩
theorem Cal.mirror {P : Program} {w : World} {K : PySem.W.Frag} {mg : Str → Option Value} {base : Heap} {k n : Nat} {x : Str} {rk : Bool} {F G : List Dt → Option Dt} (h : Cal P w K mg base k x n rk F) (hg : ∀ ds d, ds.length = n → G ds = some d → F ds = some d) : Cal P w K mg base k x n rk G := by
  obtain ⟨f, fd, ps, h1, h2⟩ := h
  exact ⟨f, fd, ps, FnOk.mirror h1 hg, h2⟩
section
variable {P : Program} {w : World} {K : PySem.W.Frag} {mg : Str → Option Value} {base : Heap}
theorem cal_D {x : Str} {st : Stmt} {N ps : List Str} {k : Nat} {fB : FS} {own' : List Nat} (G : Df K mg x st) (S : FnScope N ps (defScope st))
    (hbind : ∀ (kV doc pm : Value) (an : Option Addr) (cdv ct : Value) (us : List Value), us.length = ps.length → bindArgs (PySem.W.fnOf x x (defArgs st) (defBody st) (defScope st) .none kV doc pm an cdv ct) ⟨us, []⟩ = pure (ps.zip us))
    (hbody : ∀ (f : Addr) (cdv : Value) (A : Around) (outer : List Env) (s : Shared) (H : Hp) (E : XK), Room k (A.deeper (PyProof.Rows.envOfC x (defScope st) s.heap.objs.size f cdv)) →
      ∃ t, CSs (cxOf CX0 P w K mg base N x (defScope st) f cdv A outer s H E).nox [] own' [] false (defBody st) t fB) : Cal P w K mg base (k + 1) x ps.length false (fnR N.length fB) := by
  obtain ⟨f, fd, F, hm⟩ := G
  exact ⟨f, fd, ps, fn_D F S rfl (hbody f), hm, F.kp, F.binds hbind⟩
theorem cal_DL {x : Str} {st : Stmt} {N ps : List Str} {k : Nat} {fB : FS} {own' : List Nat} (G : Df K mg x st) (S : FnScope N ps (defScope st))
    (hbind : ∀ (kV doc pm : Value) (an : Option Addr) (cdv ct : Value) (us : List Value), us.length = ps.length → bindArgs (PySem.W.fnOf x x (defArgs st) (defBody st) (defScope st) .none kV doc pm an cdv ct) ⟨us, []⟩ = pure (ps.zip us))
    (hbody : ∀ (f : Addr) (cdv : Value) (A : Around) (outer : List Env) (s : Shared) (H : Hp) (E : XK), Room k (A.deeper (PyProof.Rows.envOfC x (defScope st) s.heap.objs.size f cdv)) →
      ∃ t, CSs (cxOf CX0 P w K mg base N x (defScope st) f cdv A outer s H E).nox [] own' [] true (defBody st) t fB) : Cal P w K mg base (k + 1) x ps.length true (fnL N.length fB) := by
  obtain ⟨f, fd, F, hm⟩ := G
  exact ⟨f, fd, ps, fn_DL F S (hbody f), hm, F.kp, F.binds hbind⟩
end
section
variable {X : Cx} {own : List Nat} {x : Str} {e : Expr} {es : List Expr} {ts : TA} {fs : FA} {p pos : Pos} {k j n : Nat} {F : List Dt → Option Dt}
theorem e_cal (c : Cal X.prog X.w X.K X.mg X.base k x n false F) (hr : Room j X.A) (ha : CA X own (e :: es) ts fs) (hk : k ≤ j := by decide) (hg : Gl X x := by rfl)
    (hdb : (x == ("__debug__" : Str)) = false := by decide) (he : starEach (e :: es) X.env = (false, eval e X.env) :: starEach es X.env := by rfl) (hpl : (backTo pos (starEach es X.env)).any (·.1) = false := by rfl) {K : PySem.W.Frag} (hK : X.K = K := by rfl) :
    CE X own (.Call (.Name x p) (e :: es) [] pos) (tCall (spD K n false F) [] E0 ts) (mFn n F fs) := by
  subst hK
  obtain ⟨f, fd, ps, h1, h2, h3, h4⟩ := c
  exact e_call h1 (hr.mono hk) h2 h3 h4 ha hg hdb he hpl
theorem l_cal (c : Cal X.prog X.w X.K X.mg X.base k x n true F) (hr : Room j X.A) (ha : CA X own (e :: es) ts fs) (hk : k ≤ j := by decide) (hg : Gl X x := by rfl)
    (hdb : (x == ("__debug__" : Str)) = false := by decide) (he : starEach (e :: es) X.env = (false, eval e X.env) :: starEach es X.env := by rfl) (hpl : (backTo pos (starEach es X.env)).any (·.1) = false := by rfl) {K : PySem.W.Frag} (hK : X.K = K := by rfl) :
    CL X own (.Call (.Name x p) (e :: es) [] pos) (tCall (spD K n true F) [] E0 ts) (mFnL n F fs) := by
  subst hK
  obtain ⟨f, fd, ps, h1, h2, h3, h4⟩ := c
  exact l_call h1 (hr.mono hk) h2 h3 h4 ha hg hdb he hpl
end
/-- the law's end -/
theorem law_end {P : Program} {w : World} {K : PySem.W.Frag} {mg : Str → Option Value} {base : Heap} {H : Hp} {a : Addr} {ns : List Int} {F : List Dt → Option Dt} (hS : SqL K H a (ns.map V.int)) (h : F [.list (ns.map .int)] = some (.bool true)) :
    spD K 1 false F [.ref a] H (fun v _ => v = .bl true) fun _ _ _ => False :=
  ⟨H, [.list (ns.map .int)], .bool true, rfl, Same.refl _, .cons (.lst hS (RvA.of_ints ns)) .nil, h, fun v H' ⟨H0, _, r⟩ => r.bool_inv⟩
end Tie

/-! isinstance of data. -/
namespace Tie
open PySem L2
def tyN : Dt → String
  | .none => "NoneType"
  | .bool _ => "bool"
  | .int _ => "int"
  | .str _ => "str"
  | .list _ => "list"
  | .tuple _ => "tuple"
  | .dict _ => "dict"
theorem Rv.ty {K : PySem.W.Frag} {H : Hp} {v : V} {d : Dt} (r : Rv K H v d) : TyX K H v (.type (tyN d)) := by
  cases r with
  | non => exact .base .non
  | bl b => exact .base (.bl b)
  | int i => exact .base (.int i)
  | str x => exact .base (.str x)
  | lst h t =>
    rcases h with (h | ⟨o, h⟩) | ⟨o, its, n, h, hc, _⟩
    · exact .base (.lst h)
    · exact .base (.frz h)
    · exact .kList h hc
  | tup h t => exact .base (.tup h)
  | dk h t => exact .base (.dK h)
  | dt h t => exact .base (.dT h)
def kS (T t : String) : Bool := t == T || (t == "bool" && T == "int")
def kT (T : String) (d : Dt) : Bool := kS T (tyN d)
def KT (T : String) : Prop := ∀ (K : PySem.W.Frag) (d : Dt), PySem.W.kitOne K (.type (tyN d)) (.type T) = some (kT T d)
def tys : List String := ["NoneType", "bool", "int", "str", "list", "tuple", "dict"]
theorem tyN_mem (d : Dt) : tyN d ∈ tys := by cases d <;> simp [tyN, tys]
theorem kt_of {T : String} (h : (tys.all fun t => decide (kitB t T = some (kS T t))) = true) : KT T := fun K d => kit_ty (of_decide_eq_true (List.all_eq_true.mp h _ (tyN_mem d)))
theorem kt_int : KT "int" := kt_of (by decide +kernel)
theorem kt_bool : KT "bool" := kt_of (by decide +kernel)
theorem kt_tuple : KT "tuple" := kt_of (by decide +kernel)
theorem kt_list : KT "list" := kt_of (by decide +kernel)
theorem kt_str : KT "str" := kt_of (by decide +kernel)
def mIsi (T : String) (f : FE) : FE := fun ρ => (f ρ).map fun d => .bool (kT T d)
section
variable {X : Cx} {own : List Nat} {e : Expr} {te : TE} {fe : FE} {p pos p2 : Pos}
theorem e_isi {x : Str} {T : String} (hT : KT T) (hm : X.mg "isinstance" = none) (hm2 : X.mg x = none) (hv : bootBuiltins x = some (.type T)) (h : CE X own e te fe) (hg : Gl X "isinstance" := by rfl) (hg2 : Gl X x := by rfl) (hn2 : x ≠ "__name__" := by decide) (hdb2 : (x == ("__debug__" : Str)) = false := by decide)
    (he : starEach [e, .Name x p2] X.env = (false, eval e X.env) :: starEach [.Name x p2] X.env := by rfl) (he2 : starEach [.Name x p2] X.env = (false, eval (.Name x p2) X.env) :: starEach [] X.env := by rfl) (hpl : (backTo pos (starEach [.Name x p2] X.env)).any (·.1) = false := by rfl) {K : PySem.W.Frag} (hK : X.K = K := by rfl) :
    CE X own (.Call (.Name "isinstance" p) [e, .Name x p2] [] pos) (tCB (rIsi K) (tCons te (tCons (tC (.ty T)) tNil))) (mIsi T fe) := by
  subst hK
  exact ⟨pe_callB call_isi hg hm (by decide +kernel) (pa_cons h.pe (pa_cons (pe_bltn hg2 hm2 hv (show RelV (.ty T) (.type T) from rfl) hn2 hdb2) pa_nil he2) he) (he := he) (hpl := hpl), fun B0 B σ H0 H ρ S d e Q q => by
  obtain ⟨d', e1, rfl⟩ := Option.map_eq_some_iff.mp e
  refine h.df B0 B σ H0 H ρ S d' e1 _ fun v H1 G1 x1 r1 => ?_
  exact ⟨v, .ty T, .type (tyN d'), .type T, kT T d', rfl, .ty T, (r1.mono x1.s).ty, hT _ d', q _ H1 G1 x1 (.bl _)⟩⟩
end
end Tie

/-! The end of a law. -/
namespace Tie
open PySem L2
/-- a def as the top has left it -/
def Fact (K : PySem.W.Frag) (x : Str) (st : Stmt) : Prop :=
  ∃ (f : Addr) (od an : Option Addr) (sl : Array (Option Value)) (oc kV dc pm cd ct : Value), PySem.W.nsIn K mainGlobals x = some (some (.ref f)) ∧
    K.lookup f = some ⟨oc, od, .func (PySem.W.fnOf x x (defArgs st) (defBody st) (defScope st) .none kV dc pm an cd ct), sl⟩ ∧ PySem.W.codeIn K cd x = true ∧ PySem.W.keepIn K (.ref f) = true
theorem Fact.mk {K : PySem.W.Frag} {x : Str} {st : Stmt} {f : Addr} {od an : Option Addr} {sl : Array (Option Value)} {oc kV dc pm cd ct : Value} (a : PySem.W.nsIn K mainGlobals x = some (some (.ref f)))
    (l : K.lookup f = some ⟨oc, od, .func (PySem.W.fnOf x x (defArgs st) (defBody st) (defScope st) .none kV dc pm an cd ct), sl⟩) (c : PySem.W.codeIn K cd x = true) (k : PySem.W.keepIn K (.ref f) = true) : Fact K x st := ⟨f, od, an, sl, oc, kV, dc, pm, cd, ct, a, l, c, k⟩
theorem with_fact {p : Prop} {K : PySem.W.Frag} {x : Str} {st : Stmt} {h : Heap} {f : Addr} {od an : Option Addr} {sl : Array (Option Value)} {oc kV dc pm cd ct : Value} (X : K.In h) (a : PySem.W.nsIn K mainGlobals x = some (some (.ref f)))
    (l : K.lookup f = some ⟨oc, od, .func (PySem.W.fnOf x x (defArgs st) (defBody st) (defScope st) .none kV dc pm an cd ct), sl⟩) (c : PySem.W.codeIn K cd x = true) (k : PySem.W.keepIn K (.ref f) = true) (q : Fact K x st → p) : p := q (Fact.mk a l c k)
theorem with_none {p : Prop} {K : PySem.W.Frag} {x : Str} {h : Heap} {mg : Str → Option Value} (X : K.In h) (G : h.Ns mainGlobals mg) (z : PySem.W.nsIn K mainGlobals x = some none) (q : mg x = none → p) : p := q (PySem.W.mg_none_of X G z)
theorem Fact.df {K : PySem.W.Frag} {x : Str} {st : Stmt} {h : Heap} {mg : Str → Option Value} (X : K.In h) (G : h.Ns mainGlobals mg) (F : Fact K x st) : Df K mg x st := by
  obtain ⟨f, od, an, sl, oc, kV, dc, pm, cd, ct, a, l, c, k⟩ := F
  exact ⟨f, _, fun_mk (st := st) l c k, PySem.W.mg_of X G a⟩
theorem law_walk {l : PySem.W.OpenLaw} {k : Nat} {q : Program} {loose : List Str} {XP : (Str → Option Value) → Heap → Prop} {YP : World → Heap → Prop} {d : DefRec} {K : Params → PySem.W.Frag} {x : Str} {F : List Dt → Option Dt} {st : Stmt} (hn : l.most = some 63) (hdf : d.params.defaults = []) (hname : d.name = "law") (hr : Room k callerA)
    (hY : ∀ (w : World) (h : Heap), YP w h → (K w.params).In h)
    (hb : ∀ (kV doc pm : Value) (an : Option Addr) (cdv ct : Value) (s : Shared) (u : Value), BindsTo s (PySem.W.fnOf "law" "law" (defArgs st) (defBody st) (defScope st) .none kV doc pm an cdv ct) ⟨[u], []⟩ [(x, u)])
    (hF : ∀ (w : World) (mg : Str → Option Value) (h : Heap), (K w.params).In h → h.Ns mainGlobals mg →
      Fact (K w.params) "law" st ∧ ∀ (base : Heap) (f : Addr) (fd : FuncData), (K w.params).In base → base.Ns mainGlobals mg → Fun (K w.params) "law" "law" st f fd → FnOk l.prog w (K w.params) mg base CX0 k f fd [x] (spD (K w.params) 1 false F))
    (main : ∀ ns : List Int, ns.length ≤ 63 → F [.list (ns.map .int)] = some (.bool true)) :
    PySem.W.WalkO q loose XP YP l.row.toRowW d [] (fun f vs => PySem.call f vs) := by
  refine L2.walk_of (n := 63) (k := k) (x := x) (CX := fun _ => CX0) (sp := fun w => spD (K w.params) 1 false F) hn (by decide) hdf hr hY ?_ (fun w H a ns hl _ hS => law_end (mg := fun _ => none) (base := { objs := #[] }) (P := l.prog) (w := w) hS (main ns hl)) (fun _ _ _ _ _ z => z)
  intro w mg fa h KX G hmg
  obtain ⟨⟨f, od, an, sl, oc, kV, dc, pm, cd, ct, a, lk, c, kp⟩, H⟩ := hF w mg h KX G
  have e := (PySem.W.mg_of KX G a).symm.trans (hname ▸ hmg)
  cases e
  exact ⟨_, fun s u => hb kV dc pm an cd ct s u, fun base KB GB => H base _ _ KB GB (fun_mk (st := st) lk c kp)⟩
end Tie

/-! Reckoning a mirror. -/
namespace Tie
open PySem
/-- what follows a statement -/
def bindR (r : Option Res) (g : FS) : Option Res := match r with
  | some (.nx ρ') => g ρ'
  | r => r
def loopR (r : Res) (k : Rho → Option Res) (b : Rho → Option Res) : Option Res := match r with
  | .nx ρ => k ρ
  | .ct ρ => k ρ
  | .bk ρ => b ρ
  | .rt d => some (.rt d)
section
variable {f g : FS} {fa fb fc : FE} {fs gs : FA} {ρ : Rho} {c : FB} {d : Dt}
@[simp] theorem bindR_nx : bindR (some (.nx ρ)) g = g ρ := by exact id rfl
@[simp] theorem bindR_rt : bindR (some (.rt d)) g = some (.rt d) := by exact id rfl
@[simp] theorem bindR_bk : bindR (some (.bk ρ)) g = some (.bk ρ) := by exact id rfl
@[simp] theorem bindR_ct : bindR (some (.ct ρ)) g = some (.ct ρ) := by exact id rfl
@[simp] theorem bindR_none : bindR none g = none := by exact id rfl
@[simp] theorem bindR_ite {p : Prop} [Decidable p] {x y : Option Res} : bindR (if p then x else y) g = if p then bindR x g else bindR y g := by split <;> rfl
@[simp] theorem loopR_nx {k b} : loopR (.nx ρ) k b = k ρ := by exact id rfl
@[simp] theorem loopR_ct {k b} : loopR (.ct ρ) k b = k ρ := by exact id rfl
@[simp] theorem loopR_bk {k b} : loopR (.bk ρ) k b = b ρ := by exact id rfl
@[simp] theorem loopR_rt {k b} : loopR (.rt d) k b = some (.rt d) := by exact id rfl
@[simp] theorem ev_seq : sSeq f g ρ = bindR (f ρ) g := by exact id rfl
@[simp] theorem ev_next : sNext ρ = some (.nx ρ) := by exact id rfl
@[simp] theorem ev_break : sBreak ρ = some (.bk ρ) := by exact id rfl
@[simp] theorem ev_cont : sCont ρ = some (.ct ρ) := by exact id rfl
@[simp] theorem ev_never : sNever ρ = none := by exact id rfl
@[simp] theorem ev_asg {i} : sAsg i fa ρ = (fa ρ).map fun d => .nx (ρ.set i (some d)) := by exact id rfl
@[simp] theorem ev_asgL {i} : sAsgL i fs ρ = (fs ρ).map fun d => .nx (ρ.set i (some (.list d))) := by exact id rfl
@[simp] theorem ev_ret : sRet fa ρ = (fa ρ).map .rt := by exact id rfl
@[simp] theorem ev_drop : sDrop fa ρ = (fa ρ).map fun _ => .nx ρ := by exact id rfl
@[simp] theorem ev_if : sIf c f g ρ = (c ρ).bind fun b => if b then f ρ else g ρ := by exact id rfl
@[simp] theorem ev_to {mg} : sTo fa mg ρ = (fa ρ).bind fun d => (mg ρ d).map .nx := by exact id rfl
@[simp] theorem ev_app {i} : sApp i fa ρ = (rget ρ i).bind fun l => (asList l).bind fun ds => (fa ρ).bind fun d => if ds.length ≤ bigN then some (.nx (ρ.set i (some (.list (ds ++ [d]))))) else none := by exact id rfl
@[simp] theorem ev_ext {i} : sExt i fs ρ = (rget ρ i).bind fun l => (asList l).bind fun ds => (fs ρ).bind fun es => if ds.length + es.length ≤ bigN then some (.nx (ρ.set i (some (.list (ds ++ es))))) else none := by exact id rfl
@[simp] theorem ev_setl {i} : sSetL i fa fb ρ = (fb ρ).bind fun d => (rget ρ i).bind fun l => (asList l).bind fun ds => (fa ρ).bind fun k => (asInt k).bind fun k => (L2.ixN ds.length k).bind fun j => some (.nx (ρ.set i (some (.list (ds.set j d))))) := by exact id rfl
theorem ev_for {ls mg} : sFor ls fs mg f ρ = (fs ρ).bind fun ds => forGo ls mg f ds (keep ls ρ) := by exact id rfl
theorem for_nil {ls mg} : forGo ls mg f [] ρ = some (.nx ρ) := by exact id rfl
theorem for_cons {ls mg} {ds : List Dt} : forGo ls mg f (d :: ds) ρ = (mg ρ d).bind fun ρ1 => (f ρ1).bind fun r => loopR r (fun ρ2 => forGo ls mg f ds (keep ls ρ2)) (fun ρ2 => some (.nx (keep ls ρ2))) := by
  exact id rfl
theorem ev_while {n ls} : sWhile n ls c f ρ = whileGo ls c f n (keep ls ρ) := by exact id rfl
theorem while_succ {n ls} : whileGo ls c f (n + 1) ρ = (c ρ).bind fun b => if b then (f ρ).bind fun r => loopR r (fun ρ2 => whileGo ls c f n (keep ls ρ2)) (fun ρ2 => some (.nx (keep ls ρ2))) else some (.nx ρ) := by
  exact id rfl
@[simp] theorem ev_var {i} : mVar i ρ = rget ρ i := by exact id rfl
@[simp] theorem ev_c : mC d ρ = some d := by exact id rfl
@[simp] theorem ev_list : mList fs ρ = (fs ρ).map .list := by exact id rfl
@[simp] theorem ev_asl : mAsL fa ρ = (fa ρ).bind asList := by exact id rfl
@[simp] theorem ev_ast : mAsT fa ρ = (fa ρ).bind asTup := by exact id rfl
@[simp] theorem ev_asb : mAsB fa ρ = (fa ρ).bind asBool := by exact id rfl
@[simp] theorem ev_bin {g} : bin g fa fb ρ = (fa ρ).bind fun a => (fb ρ).bind fun b => g a b := by exact id rfl
@[simp] theorem ev_un {g} : un1 g fa ρ = (fa ρ).bind g := by exact id rfl
@[simp] theorem ev_nil : aNil ρ = some [] := by exact id rfl
@[simp] theorem ev_cons : aCons fa fs ρ = (fa ρ).bind fun d => (fs ρ).map (d :: ·) := by exact id rfl
@[simp] theorem ev_tup : mTup fs ρ = (fs ρ).bind fun ds => if ds.length ≤ bigN then some (.tuple ds) else none := by exact id rfl
@[simp] theorem ev_lim : mLim fs ρ = (fs ρ).bind fun ds => if ds.length ≤ bigN then some ds else none := by exact id rfl
@[simp] theorem ev_call {g} : mCall g fs ρ = (fs ρ).bind g := by exact id rfl
@[simp] theorem ev_callL {g} : mCallL g fs ρ = (fs ρ).bind g := by exact id rfl
@[simp] theorem ev_fn {n F} : mFn n F fs ρ = (fs ρ).bind fun ds => if ds.length = n then F ds else none := by exact id rfl
@[simp] theorem ev_fnL {n F} : mFnL n F fs ρ = ((fs ρ).bind fun ds => if ds.length = n then F ds else none).bind asList := by exact id rfl
@[simp] theorem ev_ixW : mIxW fs fa ρ = (fs ρ).bind fun ds => (fa ρ).bind fun i => (asInt i).bind fun i => L2.atI ds i := by exact id rfl
@[simp] theorem ev_and {h k : FB} : mAnd h k ρ = (h ρ).bind fun a => if a then k ρ else some false := by exact id rfl
@[simp] theorem ev_or {h k : FB} : mOr h k ρ = (h ρ).bind fun a => if a then some true else k ρ := by exact id rfl
@[simp] theorem ev_not : mNot c ρ = (c ρ).map (! ·) := by exact id rfl
@[simp] theorem ev_andV : mAndV fa fb ρ = (fa ρ).bind fun a => (asBool a).bind fun k => if k then fb ρ else some (.bool false) := by exact id rfl
@[simp] theorem ev_orV : mOrV fa fb ρ = (fa ρ).bind fun a => (asBool a).bind fun k => if k then some (.bool true) else fb ρ := by exact id rfl
@[simp] theorem ev_notV : mNotV fa ρ = (fa ρ).bind fun a => (asBool a).map fun k => .bool (!k) := by exact id rfl
@[simp] theorem ev_ifE : mIf c fa fb ρ = (c ρ).bind fun k => if k then fa ρ else fb ρ := by exact id rfl
@[simp] theorem ev_chain {g g'} : chain g g' fa fb fc ρ = (fa ρ).bind fun a => (fb ρ).bind fun b => (g a b).bind fun r => (asBool r).bind fun k => if k then (fc ρ).bind fun c => g' b c else some (.bool false) := by exact id rfl
@[simp] theorem ev_isi {T} : mIsi T fa ρ = (fa ρ).map fun d => .bool (kT T d) := by exact id rfl
@[simp] theorem ev_nopart : mNoPart ρ = some none := by exact id rfl
@[simp] theorem ev_part : mPart fa ρ = (fa ρ).bind fun d => (asInt d).map some := by exact id rfl
@[simp] theorem ev_sl {l h : FO} : mSl fa l h ρ = (fa ρ).bind fun d => (l ρ).bind fun lo => (h ρ).bind fun hi => gSl d lo hi := by exact id rfl
@[simp] theorem ev_slL {l h : FO} : mSlL fs l h ρ = (fs ρ).bind fun d => (l ρ).bind fun lo => (h ρ).bind fun hi => some (cutD d lo hi) := by exact id rfl
@[simp] theorem ev_r1 : mR1 fa ρ = (fa ρ).bind fun d => (asInt d).map fun n => (0, n) := by exact id rfl
@[simp] theorem ev_lrng {r} : mLRng r ρ = (r ρ).bind fun r => if rngOk r.1 r.2 then some (rngD r.1 (r.2 - r.1).toNat) else none := by exact id rfl
@[simp] theorem ev_trng {r} : mTRng r ρ = (mLRng r ρ).map .tuple := by exact id rfl
@[simp] theorem ev_mgName {i} : mgName i ρ d = some (ρ.set i (some d)) := by exact id rfl
@[simp] theorem ev_mgTup {n gg} : mgTup n gg ρ d = (asTup d).bind fun ds => if ds.length = n then gg ρ ds else none := by exact id rfl
@[simp] theorem ev_mgLst {n gg} : mgLst n gg ρ d = (asList d).bind fun ds => if ds.length = n then gg ρ ds else none := by exact id rfl
@[simp] theorem ev_mgNil : mgNil ρ [] = some ρ := by exact id rfl
@[simp] theorem ev_mgCons {f gg} {ds : List Dt} : mgCons f gg ρ (d :: ds) = (f ρ d).bind fun ρ' => gg ρ' ds := by exact id rfl
@[simp] theorem ev_yes : mYes ρ = some true := by exact id rfl
theorem ev_lc {mg tt vs} : mLc fs mg tt fa vs ρ = (fs ρ).bind fun ds => if ds.length ≤ bigN then lcGo mg tt fa (wipeR ρ vs) ds else none := by exact id rfl
@[simp] theorem lc_nil {mg tt} : lcGo mg tt fa ρ [] = some [] := by exact id rfl
theorem lc_cons {mg tt} {ds : List Dt} : lcGo mg tt fa ρ (d :: ds) = (mg ρ d).bind fun ρ' => (tt ρ').bind fun b => if b then (fa ρ').bind fun y => (lcGo mg tt fa ρ ds).map (y :: ·) else lcGo mg tt fa ρ ds := by exact id rfl
@[simp] theorem wipeR_nil : wipeR ρ [] = ρ := by exact id rfl
@[simp] theorem wipeR_cons {v vs} : wipeR ρ (v :: vs) = (wipeR ρ vs).set v none := by exact id rfl
end
@[simp] theorem le_big {n : Nat} : n ≤ bigN ↔ n ≤ 100000 := ⟨fun h => h, fun h => h⟩
@[simp] theorem asList_list {ds : List Dt} : asList (.list ds) = some ds := by exact id rfl
@[simp] theorem asTup_tup {ds : List Dt} : asTup (.tuple ds) = some ds := by exact id rfl
@[simp] theorem asBool_bool {b : Bool} : asBool (.bool b) = some b := by exact id rfl
@[simp] theorem asInt_int {b : Int} : asInt (.int b) = some b := by exact id rfl
@[simp] theorem g_sub {i j : Int} : gSub (.int i) (.int j) = some (.int (i - j)) := by exact id rfl
@[simp] theorem g_add {i j : Int} : gAdd (.int i) (.int j) = some (.int (i + j)) := by exact id rfl
@[simp] theorem g_addT {i j : List Dt} : gAdd (.tuple i) (.tuple j) = if i.length + j.length ≤ bigN then some (.tuple (i ++ j)) else none := by exact id rfl
@[simp] theorem g_addL {i j : List Dt} : gAdd (.list i) (.list j) = if i.length + j.length ≤ bigN then some (.list (i ++ j)) else none := by exact id rfl
theorem g_mul {i j : Int} (h : i.natAbs.log2 + j.natAbs.log2 < 1000000) : gMul (.int i) (.int j) = some (.int (i * j)) := by
  show (if decide (i.natAbs.log2 + j.natAbs.log2 < 1000000) = true then _ else none) = _
  rw [if_pos (decide_eq_true h)]
theorem g_mulB {i j : Int} (hi : i.natAbs < 2 ^ 100000) (hj : j.natAbs < 2 ^ 100000) : gMul (.int i) (.int j) = some (.int (i * j)) := by
  refine g_mul ?_
  have h1 := PySem.Flt.log2_lt_of (by decide) hi
  have h2 := PySem.Flt.log2_lt_of (by decide) hj
  omega
theorem g_fdiv {i j : Int} (h : 0 < j) (h2 : j < 2 ^ 64) : gFdiv (.int i) (.int j) = some (.int (i / j)) := by
  show (if (decide (0 < j) && decide (j.natAbs.log2 < 9000)) = true then _ else none) = _
  have h5 : j.natAbs < 2 ^ 64 := by omega
  have h3 := PySem.Flt.log2_lt_of (by decide) h5
  rw [if_pos (by simp [h]; omega)]
theorem g_mod {i j : Int} (h : 0 < j) : gMod (.int i) (.int j) = some (.int (i % j)) := by
  show (if decide (0 < j) = true then _ else none) = _
  rw [if_pos (decide_eq_true h)]
@[simp] theorem g_neg {i : Int} : gNeg (.int i) = some (.int (-i)) := by exact id rfl
@[simp] theorem g_lt {i j : Int} : gLt (.int i) (.int j) = some (.bool (decide (i < j))) := by exact id rfl
@[simp] theorem g_le {i j : Int} : gLe (.int i) (.int j) = some (.bool (decide (i ≤ j))) := by exact id rfl
@[simp] theorem g_gt {i j : Int} : gGt (.int i) (.int j) = some (.bool (decide (j < i))) := by exact id rfl
@[simp] theorem g_ge {i j : Int} : gGe (.int i) (.int j) = some (.bool (decide (j ≤ i))) := by exact id rfl
theorem _root_.Int.beq_eq_decide (i j : Int) : (i == j) = decide (i = j) := by by_cases h : i = j <;> simp [h]
@[simp] theorem g_eqI {i j : Int} : gEq (.int i) (.int j) = some (.bool (decide (i = j))) := by
  simp [gEq, SeqAt.shaped, PyData.canLay0, PyData.depth, PyData.eqv, Int.beq_eq_decide]
@[simp] theorem g_neI {i j : Int} : gNe (.int i) (.int j) = some (.bool (!decide (i = j))) := by
  simp [gNe, SeqAt.shaped, PyData.canLay0, PyData.depth, PyData.eqv, Int.beq_eq_decide]
@[simp] theorem g_len_l {ds : List Dt} : gLen [.list ds] = some (.int ds.length) := by exact id rfl
@[simp] theorem g_len_t {ds : List Dt} : gLen [.tuple ds] = some (.int ds.length) := by exact id rfl
@[simp] theorem g_lenW {ds : List Dt} : gLenW ds = some (.int ds.length) := by exact id rfl
@[simp] theorem g_listW {ds : List Dt} : gListW ds = some ds := by exact id rfl
@[simp] theorem g_tupleW {ds : List Dt} : gTupleW ds = some (.tuple ds) := by exact id rfl
@[simp] theorem g_min2 {i j : Int} : gMin2 [.int i, .int j] = some (.int (if j < i then j else i)) := by exact id rfl
@[simp] theorem g_max2 {i j : Int} : gMax2 [.int i, .int j] = some (.int (if j > i then j else i)) := by exact id rfl
@[simp] theorem g_intI {i : Int} : gInt [.int i] = some (.int i) := by exact id rfl
@[simp] theorem g_intB {i : Bool} : gInt [.bool i] = some (.int (if i then 1 else 0)) := by exact id rfl
@[simp] theorem g_ixL {ds : List Dt} {i : Int} : gIx (.list ds) (.int i) = L2.atI ds i := by exact id rfl
@[simp] theorem g_ixT {ds : List Dt} {i : Int} : gIx (.tuple ds) (.int i) = L2.atI ds i := by exact id rfl
@[simp] theorem g_slL {ds : List Dt} {lo hi} : gSl (.list ds) lo hi = some (.list (cutD ds lo hi)) := by exact id rfl
@[simp] theorem g_slT {ds : List Dt} {lo hi} : gSl (.tuple ds) lo hi = some (.tuple (cutD ds lo hi)) := by exact id rfl
@[simp] theorem end_rt {d : Dt} : endR (some (.rt d)) = some d := by exact id rfl
@[simp] theorem end_nx {ρ} : endR (some (.nx ρ)) = some .none := by exact id rfl
@[simp] theorem endL_rt {d : Dt} : endL (some (.rt d)) = some d := by exact id rfl
@[simp] theorem end_ite {p : Prop} [Decidable p] {x y : Option Res} : endR (if p then x else y) = if p then endR x else endR y := by split <;> rfl
@[simp] theorem endL_ite {p : Prop} [Decidable p] {x y : Option Res} : endL (if p then x else y) = if p then endL x else endL y := by split <;> rfl
@[simp] theorem rget_0 {a : Option Dt} {l : Rho} : rget (a :: l) 0 = a := by exact id rfl
@[simp] theorem rget_s {a : Option Dt} {l : Rho} {n : Nat} : rget (a :: l) (n + 1) = rget l n := by exact id rfl
theorem bind_ite {α β : Type} {p : Prop} [Decidable p] {x y : Option α} {f : α → Option β} : (if p then x else y).bind f = if p then x.bind f else y.bind f := by split <;> rfl
theorem map_ite {α β : Type} {p : Prop} [Decidable p] {x y : Option α} {f : α → β} : (if p then x else y).map f = if p then x.map f else y.map f := by split <;> rfl
theorem rngD_0 {lo : Int} : rngD lo 0 = [] := by exact id rfl
theorem rngD_succ {lo : Int} {n : Nat} : rngD lo (n + 1) = .int lo :: rngD (lo + 1) n := by
  unfold rngD
  rw [List.range_succ_eq_map, List.map_cons, List.map_map]
  simp only [Int.natCast_zero, Int.add_zero]
  congr 1
  apply List.map_congr_left
  intro i _
  simp only [Function.comp]
  congr 1
  push_cast
  omega
theorem g_rng1 {n : Int} (h : -4611686018427387904 ≤ n ∧ n < 4611686018427387904) : gRng1 [.int n] = some (rngD 0 n.toNat) := by
  show (if decide (-4611686018427387904 ≤ n ∧ n < 4611686018427387904) = true then _ else none) = _
  rw [if_pos (decide_eq_true h)]
theorem at_nat {α : Type} {xs : List α} {j : Nat} {v : α} (h : xs[j]? = some v) : L2.atI xs (j : Int) = some v := L2.atI_nat h
theorem at_int {α : Type} {xs : List α} {j : Int} (h0 : 0 ≤ j) : L2.atI xs j = xs[j.toNat]? := by
  unfold L2.atI L2.ixN
  rw [if_pos h0]
  by_cases h : j < xs.length
  · rw [if_pos h]; rfl
  · rw [if_neg h]
    rw [List.getElem?_eq_none (by omega)]
    rfl
@[simp] theorem keep_n {ls : List Bool} : keep ls [] = [] := by cases ls <;> exact id rfl
@[simp] theorem keep_e {x : Option Dt} {xs : Rho} : keep [] (x :: xs) = none :: keep [] xs := by exact id rfl
@[simp] theorem keep_t {ls : List Bool} {x : Option Dt} {xs : Rho} : keep (true :: ls) (x :: xs) = x :: keep ls xs := by exact id rfl
@[simp] theorem keep_f {ls : List Bool} {x : Option Dt} {xs : Rho} : keep (false :: ls) (x :: xs) = none :: keep ls xs := by exact id rfl
/-- numbers whose products are reckoned -/
def Sm (i : Int) : Prop := i.natAbs.log2 < 400000
theorem Sm.lt {i : Int} (n : Nat) (h1 : -(2 ^ n) < i) (h2 : i < 2 ^ n) (h0 : 0 < n := by decide) (hn : n ≤ 400000 := by decide) : Sm i := by
  have h : (i.natAbs : Int) < 2 ^ n := by omega
  have h3 : i.natAbs < 2 ^ n := by exact_mod_cast h
  exact Nat.lt_of_lt_of_le (PySem.Flt.log2_lt_of h0 h3) hn
theorem g_mulS {i j : Int} (hi : Sm i) (hj : Sm j) : gMul (.int i) (.int j) = some (.int (i * j)) := g_mul (by unfold Sm at hi hj; omega)
theorem g_powL {i j : Int} (h : 0 ≤ j ∧ j ≤ 1000000 ∧ i.natAbs < 18446744073709551616) : gPow (.int i) (.int j) = some (.int (i ^ j.toNat)) := by
  unfold gPow gI
  simp only []
  rw [if_pos (decide_eq_true h)]
theorem fnR_eq {N : Nat} {f : FS} {ds : List Dt} : fnR N f ds = endR (f (startR N ds)) := by exact id rfl
theorem fnL_eq {N : Nat} {f : FS} {ds : List Dt} : fnL N f ds = endL (f (startR N ds)) := by exact id rfl
end Tie
namespace Tie
open PySem
/-! data that is like itself -/
mutual
theorem eqv_self : ∀ d : Dt, d.canLay0 = true → PyData.eqv d d = true
  | .none, _ => by simp [PyData.eqv]
  | .bool b, _ => by simp [PyData.eqv]
  | .int i, _ => by simp [PyData.eqv]
  | .str x, _ => by simp [PyData.eqv]
  | .list xs, h => by
    have h' : PyData.canLayAll0 xs = true := by simpa [PyData.canLay0] using h
    simpa [PyData.eqv] using eqvAll_self xs h'
  | .tuple xs, h => by
    have h' : PyData.canLayAll0 xs = true := by simpa [PyData.canLay0] using h
    simpa [PyData.eqv] using eqvAll_self xs h'
  | .dict _, h => by simp [PyData.canLay0] at h
theorem eqvAll_self : ∀ ds : List Dt, PyData.canLayAll0 ds = true → PyData.eqvAll ds ds = true
  | [], _ => by simp [PyData.eqvAll]
  | d :: ds, h => by
    have h' := canLayAll_cons h
    simp [PyData.eqvAll, eqv_self d h'.1, eqvAll_self ds h'.2]
end
/-- data of numbers nested below n -/
def Nest : Nat → Dt → Prop
  | _, .none => True
  | _, .bool _ => True
  | _, .int _ => True
  | n + 1, .list xs => ∀ x ∈ xs, Nest n x
  | n + 1, .tuple xs => ∀ x ∈ xs, Nest n x
  | _, _ => False
theorem nest_all {n : Nat} (h : ∀ d, Nest n d → d.canLay0 = true ∧ d.depth ≤ n) : ∀ xs : List Dt, (∀ x ∈ xs, Nest n x) → PyData.canLayAll0 xs = true ∧ PyData.depthAll xs ≤ n
  | [], _ => by simp [PyData.canLayAll0, PyData.depthAll]
  | x :: xs, hx => by
    have h1 := h x (hx x (List.mem_cons_self ..))
    have h2 := nest_all h xs fun y hy => hx y (List.mem_cons_of_mem _ hy)
    simp only [PyData.canLayAll0, PyData.depthAll, h1.1, h2.1]
    exact ⟨rfl, by omega⟩
theorem nest_ok : ∀ (n : Nat) (d : Dt), Nest n d → d.canLay0 = true ∧ d.depth ≤ n
  | n, .none, _ => by simp [PyData.canLay0, PyData.depth]
  | n, .bool _, _ => by simp [PyData.canLay0, PyData.depth]
  | n, .int _, _ => by simp [PyData.canLay0, PyData.depth]
  | n + 1, .list xs, h => by
    have h2 := nest_all (nest_ok n) xs h
    simp only [PyData.canLay0, PyData.depth]
    exact ⟨h2.1, by omega⟩
  | n + 1, .tuple xs, h => by
    have h2 := nest_all (nest_ok n) xs h
    simp only [PyData.canLay0, PyData.depth]
    exact ⟨h2.1, by omega⟩
  | 0, .list _, h => h.elim
  | 0, .tuple _, h => h.elim
  | 0, .str _, h => h.elim
  | _ + 1, .str _, h => h.elim
  | 0, .dict _, h => h.elim
  | _ + 1, .dict _, h => h.elim
theorem nest_shaped {n : Nat} {d : Dt} (h : Nest n d) (hn : n ≤ 64 := by decide) : SeqAt.shaped d = true := by
  have := nest_ok n d h
  simp [SeqAt.shaped, this.1]
  omega
theorem g_eq {n : Nat} {a b : Dt} (ha : Nest n a) (hb : Nest n b) (hn : n ≤ 64 := by decide) : gEq a b = some (.bool (PyData.eqv a b)) := by
  simp [gEq, nest_shaped ha hn, nest_shaped hb hn]
theorem g_ne {n : Nat} {a b : Dt} (ha : Nest n a) (hb : Nest n b) (hn : n ≤ 64 := by decide) : gNe a b = some (.bool (!PyData.eqv a b)) := by
  simp [gNe, nest_shaped ha hn, nest_shaped hb hn]
theorem g_eq_self {n : Nat} {a : Dt} (ha : Nest n a) (hn : n ≤ 64 := by decide) : gEq a a = some (.bool true) := by
  rw [g_eq ha ha hn, eqv_self a (nest_ok n a ha).1]
theorem nest_int {n : Nat} {i : Int} : Nest n (.int i) := by cases n <;> trivial
theorem nest_bool {n : Nat} {i : Bool} : Nest n (.bool i) := by cases n <;> trivial
end Tie

namespace Law
open PySem L2 Tie
open PyProof.Rows (envOfC)
def top (i : Nat) : Stmt := PySem.Challenge.pw_tietable_k11_worths.main.body.getD i (.Pass ⟨0, 0, 0, 0⟩)
structure Blt (mg : Str → Option Value) : Prop where
  bool : mg "bool" = none
  int : mg "int" = none
  isinstance : mg "isinstance" = none
  len : mg "len" = none
  list : mg "list" = none
  range : mg "range" = none
  sum : mg "sum" = none
section
variable {P : Program} {w : World} {K : PySem.W.Frag} {mg : Str → Option Value} {base : Heap}
abbrev s__law_cell : Stmt := top 4
abbrev N__law_cell : List Str := ["_law_script", "_law_k"]
theorem sc__law_cell : FnScope N__law_cell ["_law_script", "_law_k"] (defScope s__law_cell) := ⟨rfl, rfl, rfl, by decide +kernel, rfl, by decide +kernel, by decide +kernel⟩
def b__law_cell : FS := (sSeq (sIf (mAsB (bin gLt (mVar 1) (mCall gLenW (mAsL (mVar 0))))) (sRet (mIxW (mAsL (mVar 0)) (mVar 1))) sNext) (sRet (mC (.int 0))))
theorem b__law_cell_ev (ρ : Rho) : b__law_cell ρ = (sSeq (sIf (mAsB (bin gLt (mVar 1) (mCall gLenW (mAsL (mVar 0))))) (sRet (mIxW (mAsL (mVar 0)) (mVar 1))) sNext) (sRet (mC (.int 0)))) ρ := by exact id rfl
def m__law_cell : List Dt → Option Dt := fnR 2 b__law_cell
theorem ok__law_cell (B : Blt mg) (G : Df K mg "_law_cell" s__law_cell) : Cal P w K mg base 1 "_law_cell" 2 false m__law_cell := by
  refine cal_D (N := N__law_cell) (k := 0) (fB := b__law_cell) (own' := []) G sc__law_cell (fun _ _ _ _ _ _ us hl => match us, hl with | [_, _], _ => rfl) (fun f cdv A outer s H E hr => ?_)
  exact ⟨_, (ss_cons (s_if (b_cmp c_lt (e_var 1) (e_lenW (K := K) B.len (.of (e_var 0)))) (ss_one (s_ret (own' := []) (e_ixW (K := K) (.of (e_var 0)) (e_var 1)))) ss_nil) (ss_one (s_ret (own' := []) e_int)))⟩
abbrev s__law_row : Stmt := top 5
abbrev N__law_row : List Str := ["_law_script", "_law_at", "_law_sizes", "_law_cell_here", "_law_great", "_law_found", "_law_k", "_law_x"]
theorem sc__law_row : FnScope N__law_row ["_law_script", "_law_at", "_law_sizes"] (defScope s__law_row) := ⟨rfl, rfl, rfl, by decide +kernel, rfl, by decide +kernel, by decide +kernel⟩
def l1__law_row : FS := (sSeq (sIf (mAsB (mVar 4)) (sSeq (sApp 5 (bin gMod (mVar 3) (mIxW (mAsL (mVar 2)) (mVar 6)))) (sSeq (sAsg 3 (bin gFdiv (mVar 3) (mIxW (mAsL (mVar 2)) (mVar 6)))) sNext)) (sSeq (sAsg 7 (bin gAdd (bin gAdd (mVar 3) (bin gMul (mC (.int 1013)) (mVar 6))) (bin gMul (mC (.int 7)) (mVar 1)))) (sSeq (sAsg 7 (bin gMod (bin gAdd (bin gMul (mVar 7) (mVar 7)) (bin gMul (mC (.int 30011)) (mVar 7))) (mC (.int 999983)))) (sSeq (sApp 5 (bin gMod (bin gFdiv (bin gMod (bin gAdd (bin gMul (mVar 7) (mVar 7)) (bin gMul (mC (.int 7919)) (mVar 7))) (mC (.int 999979))) (mC (.int 5))) (mIxW (mAsL (mVar 2)) (mVar 6)))) sNext)))) sNext)
theorem l1__law_row_ev (ρ : Rho) : l1__law_row ρ = (sSeq (sIf (mAsB (mVar 4)) (sSeq (sApp 5 (bin gMod (mVar 3) (mIxW (mAsL (mVar 2)) (mVar 6)))) (sSeq (sAsg 3 (bin gFdiv (mVar 3) (mIxW (mAsL (mVar 2)) (mVar 6)))) sNext)) (sSeq (sAsg 7 (bin gAdd (bin gAdd (mVar 3) (bin gMul (mC (.int 1013)) (mVar 6))) (bin gMul (mC (.int 7)) (mVar 1)))) (sSeq (sAsg 7 (bin gMod (bin gAdd (bin gMul (mVar 7) (mVar 7)) (bin gMul (mC (.int 30011)) (mVar 7))) (mC (.int 999983)))) (sSeq (sApp 5 (bin gMod (bin gFdiv (bin gMod (bin gAdd (bin gMul (mVar 7) (mVar 7)) (bin gMul (mC (.int 7919)) (mVar 7))) (mC (.int 999979))) (mC (.int 5))) (mIxW (mAsL (mVar 2)) (mVar 6)))) sNext)))) sNext) ρ := by exact id rfl
def b__law_row : FS := (sSeq (sAsg 3 (mFn 2 m__law_cell (aCons (mVar 0) (aCons (mVar 1) aNil)))) (sSeq (sAsg 4 (mOrV (bin gLt (mVar 3) (mC (.int 0))) (bin gGe (mVar 3) (bin gPow (mC (.int 10)) (mC (.int 18)))))) (sSeq (sAsgL 5 (mLim aNil)) (sSeq (sFor [false, true, true, true, true, true] (mCallL gRng1 (aCons (mCall gLenW (mAsL (mVar 2))) aNil)) (mgName 6) l1__law_row) (sRet (mList (mAsL (mVar 5))))))))
theorem b__law_row_ev (ρ : Rho) : b__law_row ρ = (sSeq (sAsg 3 (mFn 2 m__law_cell (aCons (mVar 0) (aCons (mVar 1) aNil)))) (sSeq (sAsg 4 (mOrV (bin gLt (mVar 3) (mC (.int 0))) (bin gGe (mVar 3) (bin gPow (mC (.int 10)) (mC (.int 18)))))) (sSeq (sAsgL 5 (mLim aNil)) (sSeq (sFor [false, true, true, true, true, true] (mCallL gRng1 (aCons (mCall gLenW (mAsL (mVar 2))) aNil)) (mgName 6) l1__law_row) (sRet (mList (mAsL (mVar 5)))))))) ρ := by exact id rfl
def m__law_row : List Dt → Option Dt := fnL 8 b__law_row
theorem ok__law_row (B : Blt mg) (G : Df K mg "_law_row" s__law_row) (c__law_cell : Cal P w K mg base 1 "_law_cell" 2 false m__law_cell) : Cal P w K mg base 2 "_law_row" 3 true m__law_row := by
  refine cal_DL (N := N__law_row) (k := 1) (fB := b__law_row) (own' := []) G sc__law_row (fun _ _ _ _ _ _ us hl => match us, hl with | [_, _, _], _ => rfl) (fun f cdv A outer s H E hr => ?_)
  exact ⟨_, (ss_cons (s_set sc__law_row.nd (e_cal (K := K) c__law_cell hr (a_cons (e_var 0) (a_cons (e_var 1) a_nil)))) (ss_cons (s_set sc__law_row.nd (e_or (e_cmp c_lt (e_var 3) e_int) (e_one (e_cmp c_ge (e_var 3) (e_pow e_int e_int))))) (ss_cons (s_setL sc__law_row.nd (l_lst a_nil)) (ss_cons (s_for [false, true, true, true, true, true] PassesOwn.never rfl (i_rng1 B.range (a_cons (e_lenW (K := K) B.len (.of (e_var 2))) a_nil)) (g_name 6 sc__law_row.nd) (ss_cons (s_if (b_val (e_var 4)) (ss_cons (s_app 5 (e_mod (e_var 3) (e_ixW (K := K) (.of (e_var 2)) (e_var 6)))) (ss_cons (s_set sc__law_row.nd (e_fdiv (e_var 3) (e_ixW (K := K) (.of (e_var 2)) (e_var 6)))) ss_nil)) (ss_cons (s_set sc__law_row.nd (e_add (K := K) (e_add (K := K) (e_var 3) (e_mul e_int (e_var 6))) (e_mul e_int (e_var 1)))) (ss_cons (s_set sc__law_row.nd (e_mod (e_add (K := K) (e_mul (e_var 7) (e_var 7)) (e_mul e_int (e_var 7))) e_int)) (ss_cons (s_app 5 (e_mod (e_fdiv (e_mod (e_add (K := K) (e_mul (e_var 7) (e_var 7)) (e_mul e_int (e_var 7))) e_int) e_int) (e_ixW (K := K) (.of (e_var 2)) (e_var 6)))) ss_nil)))) ss_nil)) (ss_one (s_retO (own' := []) 5))))))⟩
abbrev s__law_drawn : Stmt := top 9
abbrev N__law_drawn : List Str := ["_law_script", "_law_at", "_law_rows", "_law_many", "_law_k", "_law_i", "_law_j", "_law_way", "_law_small", "_law_great", "_law_number"]
theorem sc__law_drawn : FnScope N__law_drawn ["_law_script", "_law_at"] (defScope s__law_drawn) := ⟨rfl, rfl, rfl, by decide +kernel, rfl, by decide +kernel, by decide +kernel⟩
def l1__law_drawn : FS := (sSeq (sTo (mList (mFnL 3 m__law_row (aCons (mVar 0) (aCons (bin gAdd (bin gAdd (mVar 1) (mC (.int 1))) (mVar 4)) (aCons (mList (mLim (aCons (mC (.int 10)) (aCons (mC (.int 10)) (aCons (mC (.int 4)) (aCons (mC (.int 199)) (aCons (bin gAdd (bin gMul (mC (.int 2)) (bin gPow (mC (.int 10)) (mC (.int 9)))) (mC (.int 1))) aNil))))))) aNil))))) (mgLst 5 (mgCons (mgName 5) (mgCons (mgName 6) (mgCons (mgName 7) (mgCons (mgName 8) (mgCons (mgName 9) mgNil))))))) (sSeq (sAsg 10 (bin gSub (mVar 8) (mC (.int 99)))) (sSeq (sIf (mAsB (bin gEq (mVar 7) (mC (.int 0)))) (sSeq (sAsg 10 (bin gSub (mVar 9) (bin gPow (mC (.int 10)) (mC (.int 9))))) sNext) sNext) (sSeq (sIf (mAnd (mAsB (bin gEq (mVar 7) (mC (.int 1)))) (mAsB (bin gGt (mVar 4) (mC (.int 0))))) (sSeq (sTo (mSl (mIxW (mAsL (mVar 2)) (un1 gNeg (mC (.int 1)))) mNoPart (mPart (mC (.int 2)))) (mgTup 2 (mgCons (mgName 5) (mgCons (mgName 6) mgNil)))) sNext) sNext) (sSeq (sApp 2 (mTup (aCons (mVar 5) (aCons (mVar 6) (aCons (mVar 10) aNil))))) sNext)))))
theorem l1__law_drawn_ev (ρ : Rho) : l1__law_drawn ρ = (sSeq (sTo (mList (mFnL 3 m__law_row (aCons (mVar 0) (aCons (bin gAdd (bin gAdd (mVar 1) (mC (.int 1))) (mVar 4)) (aCons (mList (mLim (aCons (mC (.int 10)) (aCons (mC (.int 10)) (aCons (mC (.int 4)) (aCons (mC (.int 199)) (aCons (bin gAdd (bin gMul (mC (.int 2)) (bin gPow (mC (.int 10)) (mC (.int 9)))) (mC (.int 1))) aNil))))))) aNil))))) (mgLst 5 (mgCons (mgName 5) (mgCons (mgName 6) (mgCons (mgName 7) (mgCons (mgName 8) (mgCons (mgName 9) mgNil))))))) (sSeq (sAsg 10 (bin gSub (mVar 8) (mC (.int 99)))) (sSeq (sIf (mAsB (bin gEq (mVar 7) (mC (.int 0)))) (sSeq (sAsg 10 (bin gSub (mVar 9) (bin gPow (mC (.int 10)) (mC (.int 9))))) sNext) sNext) (sSeq (sIf (mAnd (mAsB (bin gEq (mVar 7) (mC (.int 1)))) (mAsB (bin gGt (mVar 4) (mC (.int 0))))) (sSeq (sTo (mSl (mIxW (mAsL (mVar 2)) (un1 gNeg (mC (.int 1)))) mNoPart (mPart (mC (.int 2)))) (mgTup 2 (mgCons (mgName 5) (mgCons (mgName 6) mgNil)))) sNext) sNext) (sSeq (sApp 2 (mTup (aCons (mVar 5) (aCons (mVar 6) (aCons (mVar 10) aNil))))) sNext))))) ρ := by exact id rfl
def b__law_drawn : FS := (sSeq (sAsgL 2 (mLim aNil)) (sSeq (sAsg 3 (mIxW (mFnL 3 m__law_row (aCons (mVar 0) (aCons (mVar 1) (aCons (mList (mLim (aCons (mC (.int 7)) aNil))) aNil)))) (mC (.int 0)))) (sSeq (sFor [true, true, true] (mCallL gRng1 (aCons (mVar 3) aNil)) (mgName 4) l1__law_drawn) (sRet (mList (mAsL (mVar 2)))))))
theorem b__law_drawn_ev (ρ : Rho) : b__law_drawn ρ = (sSeq (sAsgL 2 (mLim aNil)) (sSeq (sAsg 3 (mIxW (mFnL 3 m__law_row (aCons (mVar 0) (aCons (mVar 1) (aCons (mList (mLim (aCons (mC (.int 7)) aNil))) aNil)))) (mC (.int 0)))) (sSeq (sFor [true, true, true] (mCallL gRng1 (aCons (mVar 3) aNil)) (mgName 4) l1__law_drawn) (sRet (mList (mAsL (mVar 2))))))) ρ := by exact id rfl
def m__law_drawn : List Dt → Option Dt := fnL 11 b__law_drawn
theorem ok__law_drawn (B : Blt mg) (G : Df K mg "_law_drawn" s__law_drawn) (c__law_row : Cal P w K mg base 2 "_law_row" 3 true m__law_row) : Cal P w K mg base 3 "_law_drawn" 2 true m__law_drawn := by
  refine cal_DL (N := N__law_drawn) (k := 2) (fB := b__law_drawn) (own' := []) G sc__law_drawn (fun _ _ _ _ _ _ us hl => match us, hl with | [_, _], _ => rfl) (fun f cdv A outer s H E hr => ?_)
  exact ⟨_, (ss_cons (s_setL sc__law_drawn.nd (l_lst a_nil)) (ss_cons (s_set sc__law_drawn.nd (e_ixW (K := K) (.ofL (l_cal (K := K) c__law_row hr (a_cons (e_var 0) (a_cons (e_var 1) (a_cons (.ofL (l_lst (a_cons e_int a_nil))) a_nil))))) e_int)) (ss_cons (s_for [true, true, true] PassesOwn.never rfl (i_rng1 B.range (a_cons (e_var 3) a_nil)) (g_name 4 sc__law_drawn.nd) (ss_cons (s_to (.ofL (l_cal (K := K) c__law_row hr (a_cons (e_var 0) (a_cons (e_add (K := K) (e_add (K := K) (e_var 1) e_int) (e_var 4)) (a_cons (.ofL (l_lst (a_cons e_int (a_cons e_int (a_cons e_int (a_cons e_int (a_cons (e_add (K := K) (e_mul e_int (e_pow e_int e_int)) e_int) a_nil))))))) a_nil))))) (g_lst (K := K) rfl (gs_cons (g_name 5 sc__law_drawn.nd) (gs_cons (g_name 6 sc__law_drawn.nd) (gs_cons (g_name 7 sc__law_drawn.nd) (gs_cons (g_name 8 sc__law_drawn.nd) (gs_cons (g_name 9 sc__law_drawn.nd) gs_nil))))))) (ss_cons (s_set sc__law_drawn.nd (e_sub (e_var 8) e_int)) (ss_cons (s_if (b_cmp (c_eq (K := K) hr.units) (e_var 7) e_int) (ss_cons (s_set sc__law_drawn.nd (e_sub (e_var 9) (e_pow e_int e_int))) ss_nil) ss_nil) (ss_cons (s_if (CBw.to (b_and (b_cmp (c_eq (K := K) hr.units) (e_var 7) e_int) (b_and1 (b_cmp c_gt (e_var 4) e_int)))) (ss_cons (s_to (e_sl (K := K) (e_ixW (K := K) (w_own 2) (e_neg e_int)) o_none (o_some e_int)) (g_tup (K := K) rfl (gs_cons (g_name 5 sc__law_drawn.nd) (gs_cons (g_name 6 sc__law_drawn.nd) gs_nil)))) ss_nil) ss_nil) (ss_cons (s_app 2 (e_tup (a_cons (e_var 5) (a_cons (e_var 6) (a_cons (e_var 10) a_nil))))) ss_nil)))))) (ss_one (s_retO (own' := []) 2)))))⟩
abbrev s_power : Stmt := top 1
abbrev N_power : List Str := ["number", "often", "found", "turn"]
theorem sc_power : FnScope N_power ["number", "often"] (defScope s_power) := ⟨rfl, rfl, rfl, by decide +kernel, rfl, by decide +kernel, by decide +kernel⟩
def l1_power : FS := (sSeq (sAsg 2 (bin gMul (mVar 2) (mVar 0))) sNext)
theorem l1_power_ev (ρ : Rho) : l1_power ρ = (sSeq (sAsg 2 (bin gMul (mVar 2) (mVar 0))) sNext) ρ := by exact id rfl
def b_power : FS := (sSeq (sAsg 2 (mC (.int 1))) (sSeq (sFor [true, false, true] (mCallL gRng1 (aCons (mVar 1) aNil)) (mgName 3) l1_power) (sRet (mVar 2))))
theorem b_power_ev (ρ : Rho) : b_power ρ = (sSeq (sAsg 2 (mC (.int 1))) (sSeq (sFor [true, false, true] (mCallL gRng1 (aCons (mVar 1) aNil)) (mgName 3) l1_power) (sRet (mVar 2)))) ρ := by exact id rfl
def m_power : List Dt → Option Dt := fnR 4 b_power
theorem ok_power (B : Blt mg) (G : Df K mg "power" s_power) : Cal P w K mg base 1 "power" 2 false m_power := by
  refine cal_D (N := N_power) (k := 0) (fB := b_power) (own' := []) G sc_power (fun _ _ _ _ _ _ us hl => match us, hl with | [_, _], _ => rfl) (fun f cdv A outer s H E hr => ?_)
  exact ⟨_, (ss_cons (s_set sc_power.nd e_int) (ss_cons (s_for [true, false, true] PassesOwn.never rfl (i_rng1 B.range (a_cons (e_var 1) a_nil)) (g_name 3 sc_power.nd) (ss_cons (s_set sc_power.nd (e_mul (e_var 2) (e_var 0))) ss_nil)) (ss_one (s_ret (own' := []) (e_var 2)))))⟩
abbrev s_worth : Stmt := top 2
abbrev N_worth : List Str := ["table", "x", "y", "i", "j", "many"]
theorem sc_worth : FnScope N_worth ["table", "x", "y"] (defScope s_worth) := ⟨rfl, rfl, rfl, by decide +kernel, rfl, by decide +kernel, by decide +kernel⟩
def e1_worth : FE := (bin gMul (bin gMul (mVar 5) (mFn 2 m_power (aCons (mVar 1) (aCons (mVar 3) aNil)))) (mFn 2 m_power (aCons (mVar 2) (aCons (mVar 4) aNil))))
theorem e1_worth_ev (ρ : Rho) : e1_worth ρ = (bin gMul (bin gMul (mVar 5) (mFn 2 m_power (aCons (mVar 1) (aCons (mVar 3) aNil)))) (mFn 2 m_power (aCons (mVar 2) (aCons (mVar 4) aNil)))) ρ := by exact id rfl
def b_worth : FS := (sRet (mCall gSum (mLc (mAsL (mVar 0)) (mgTup 3 (mgCons (mgName 3) (mgCons (mgName 4) (mgCons (mgName 5) mgNil)))) mYes e1_worth [3, 4, 5])))
theorem b_worth_ev (ρ : Rho) : b_worth ρ = (sRet (mCall gSum (mLc (mAsL (mVar 0)) (mgTup 3 (mgCons (mgName 3) (mgCons (mgName 4) (mgCons (mgName 5) mgNil)))) mYes e1_worth [3, 4, 5]))) ρ := by exact id rfl
def m_worth : List Dt → Option Dt := fnR 6 b_worth
theorem ok_worth (B : Blt mg) (G : Df K mg "worth" s_worth) (c_power : Cal P w K mg base 1 "power" 2 false m_power) : Cal P w K mg base 2 "worth" 3 false m_worth := by
  refine cal_D (N := N_worth) (k := 1) (fB := b_worth) (own' := []) G sc_worth (fun _ _ _ _ _ _ us hl => match us, hl with | [_, _, _], _ => rfl) (fun f cdv A outer s H E hr => ?_)
  exact ⟨_, (ss_one (s_ret (own' := []) (e_sum (K := K) rfl B.sum (.ofL (l_lc (ow := [("i", 3), ("j", 4), ("many", 5)]) rfl sc_worth.nd (i_list (K := K) (e_var 0)) (blkOk_by (N := N_worth) (sc := defScope s_worth) (by decide +kernel)) (fun _ _ _ _ _ => (g_tup (K := K) rfl (gs_cons (g_name 3 sc_worth.nd) (gs_cons (g_name 4 sc_worth.nd) (gs_cons (g_name 5 sc_worth.nd) gs_nil))))) (fun _ _ _ _ _ => t_nil) (fun _ _ _ _ _ => (e_mul (e_mul (e_var 5) (e_cal (K := K) c_power hr (a_cons (e_var 1) (a_cons (e_var 3) a_nil)))) (e_cal (K := K) c_power hr (a_cons (e_var 2) (a_cons (e_var 4) a_nil))))))))))⟩
abbrev s__law_whole : Stmt := top 6
abbrev N__law_whole : List Str := ["_law_number"]
theorem sc__law_whole : FnScope N__law_whole ["_law_number"] (defScope s__law_whole) := ⟨rfl, rfl, rfl, by decide +kernel, rfl, by decide +kernel, by decide +kernel⟩
def b__law_whole : FS := (sRet (mAndV (mIsi "int" (mVar 0)) (mNotV (mIsi "bool" (mVar 0)))))
theorem b__law_whole_ev (ρ : Rho) : b__law_whole ρ = (sRet (mAndV (mIsi "int" (mVar 0)) (mNotV (mIsi "bool" (mVar 0))))) ρ := by exact id rfl
def m__law_whole : List Dt → Option Dt := fnR 1 b__law_whole
theorem ok__law_whole (B : Blt mg) (G : Df K mg "_law_whole" s__law_whole) : Cal P w K mg base 1 "_law_whole" 1 false m__law_whole := by
  refine cal_D (N := N__law_whole) (k := 0) (fB := b__law_whole) (own' := []) G sc__law_whole (fun _ _ _ _ _ _ us hl => match us, hl with | [_], _ => rfl) (fun f cdv A outer s H E hr => ?_)
  exact ⟨_, (ss_one (s_ret (own' := []) (e_and (e_isi (K := K) kt_int B.isinstance B.int (by decide +kernel) (e_var 0)) (e_one (e_not (e_isi (K := K) kt_bool B.isinstance B.bool (by decide +kernel) (e_var 0)))))))⟩
abbrev s__law_taken : Stmt := top 10
abbrev N__law_taken : List Str := ["_law_number", "_law_often", "_law_found", "_law_k"]
theorem sc__law_taken : FnScope N__law_taken ["_law_number", "_law_often"] (defScope s__law_taken) := ⟨rfl, rfl, rfl, by decide +kernel, rfl, by decide +kernel, by decide +kernel⟩
def l1__law_taken : FS := (sSeq (sAsg 2 (bin gMul (mVar 2) (mVar 0))) sNext)
theorem l1__law_taken_ev (ρ : Rho) : l1__law_taken ρ = (sSeq (sAsg 2 (bin gMul (mVar 2) (mVar 0))) sNext) ρ := by exact id rfl
def b__law_taken : FS := (sSeq (sAsg 2 (mC (.int 1))) (sSeq (sFor [true, false, true] (mCallL gRng1 (aCons (mVar 1) aNil)) (mgName 3) l1__law_taken) (sRet (mVar 2))))
theorem b__law_taken_ev (ρ : Rho) : b__law_taken ρ = (sSeq (sAsg 2 (mC (.int 1))) (sSeq (sFor [true, false, true] (mCallL gRng1 (aCons (mVar 1) aNil)) (mgName 3) l1__law_taken) (sRet (mVar 2)))) ρ := by exact id rfl
def m__law_taken : List Dt → Option Dt := fnR 4 b__law_taken
theorem ok__law_taken (B : Blt mg) (G : Df K mg "_law_taken" s__law_taken) : Cal P w K mg base 1 "_law_taken" 2 false m__law_taken := by
  refine cal_D (N := N__law_taken) (k := 0) (fB := b__law_taken) (own' := []) G sc__law_taken (fun _ _ _ _ _ _ us hl => match us, hl with | [_, _], _ => rfl) (fun f cdv A outer s H E hr => ?_)
  exact ⟨_, (ss_cons (s_set sc__law_taken.nd e_int) (ss_cons (s_for [true, false, true] PassesOwn.never rfl (i_rng1 B.range (a_cons (e_var 1) a_nil)) (g_name 3 sc__law_taken.nd) (ss_cons (s_set sc__law_taken.nd (e_mul (e_var 2) (e_var 0))) ss_nil)) (ss_one (s_ret (own' := []) (e_var 2)))))⟩
abbrev s_law : Stmt := top 11
abbrev N_law : List Str := ["_law_script", "_law_table_here", "_law_way", "_law_small", "_law_great", "_law_other", "_law_more", "_law_x", "_law_y", "_law_due", "_law_i", "_law_j", "_law_many", "_law_handed", "_law_found"]
theorem sc_law : FnScope N_law ["_law_script"] (defScope s_law) := ⟨rfl, rfl, rfl, by decide +kernel, rfl, by decide +kernel, by decide +kernel⟩
def l1_law : FS := (sSeq (sAsg 9 (bin gAdd (mVar 9) (bin gMul (bin gMul (mVar 12) (mFn 2 m__law_taken (aCons (mVar 7) (aCons (mVar 10) aNil)))) (mFn 2 m__law_taken (aCons (mVar 8) (aCons (mVar 11) aNil)))))) sNext)
theorem l1_law_ev (ρ : Rho) : l1_law ρ = (sSeq (sAsg 9 (bin gAdd (mVar 9) (bin gMul (bin gMul (mVar 12) (mFn 2 m__law_taken (aCons (mVar 7) (aCons (mVar 10) aNil)))) (mFn 2 m__law_taken (aCons (mVar 8) (aCons (mVar 11) aNil)))))) sNext) ρ := by exact id rfl
def b_law : FS := (sSeq (sAsg 1 (mList (mFnL 2 m__law_drawn (aCons (mVar 0) (aCons (mC (.int 1)) aNil))))) (sSeq (sTo (mList (mFnL 3 m__law_row (aCons (mVar 0) (aCons (mC (.int 9)) (aCons (mList (mLim (aCons (mC (.int 4)) (aCons (mC (.int 19)) (aCons (bin gAdd (bin gMul (mC (.int 2)) (bin gPow (mC (.int 10)) (mC (.int 9)))) (mC (.int 1))) (aCons (mC (.int 19)) (aCons (bin gAdd (bin gMul (mC (.int 2)) (bin gPow (mC (.int 10)) (mC (.int 9)))) (mC (.int 1))) aNil))))))) aNil))))) (mgLst 5 (mgCons (mgName 2) (mgCons (mgName 3) (mgCons (mgName 4) (mgCons (mgName 5) (mgCons (mgName 6) mgNil))))))) (sSeq (sAsg 7 (mIxW (mLim (aCons (bin gSub (mVar 3) (mC (.int 9))) (aCons (bin gSub (mVar 4) (bin gPow (mC (.int 10)) (mC (.int 9)))) aNil))) (bin gMod (mVar 2) (mC (.int 2))))) (sSeq (sAsg 8 (mIxW (mLim (aCons (bin gSub (mVar 5) (mC (.int 9))) (aCons (bin gSub (mVar 6) (bin gPow (mC (.int 10)) (mC (.int 9)))) aNil))) (bin gFdiv (mVar 2) (mC (.int 2))))) (sSeq (sAsg 9 (mC (.int 0))) (sSeq (sFor [false, true, false, false, false, false, false, true, true, true] (mAsL (mVar 1)) (mgTup 3 (mgCons (mgName 10) (mgCons (mgName 11) (mgCons (mgName 12) mgNil)))) l1_law) (sSeq (sAsg 13 (mList (mCallL gListW (mAsL (mVar 1))))) (sSeq (sAsg 14 (mFn 3 m_worth (aCons (mVar 13) (aCons (mVar 7) (aCons (mVar 8) aNil))))) (sRet (mAndV (mFn 1 m__law_whole (aCons (mVar 14) aNil)) (mAndV (bin gEq (mVar 14) (mVar 9)) (mAndV (bin gEq (mVar 13) (mVar 1)) (bin gEq (mFn 3 m_worth (aCons (mList (mLim aNil)) (aCons (mVar 7) (aCons (mVar 8) aNil)))) (mC (.int 0)))))))))))))))
theorem b_law_ev (ρ : Rho) : b_law ρ = (sSeq (sAsg 1 (mList (mFnL 2 m__law_drawn (aCons (mVar 0) (aCons (mC (.int 1)) aNil))))) (sSeq (sTo (mList (mFnL 3 m__law_row (aCons (mVar 0) (aCons (mC (.int 9)) (aCons (mList (mLim (aCons (mC (.int 4)) (aCons (mC (.int 19)) (aCons (bin gAdd (bin gMul (mC (.int 2)) (bin gPow (mC (.int 10)) (mC (.int 9)))) (mC (.int 1))) (aCons (mC (.int 19)) (aCons (bin gAdd (bin gMul (mC (.int 2)) (bin gPow (mC (.int 10)) (mC (.int 9)))) (mC (.int 1))) aNil))))))) aNil))))) (mgLst 5 (mgCons (mgName 2) (mgCons (mgName 3) (mgCons (mgName 4) (mgCons (mgName 5) (mgCons (mgName 6) mgNil))))))) (sSeq (sAsg 7 (mIxW (mLim (aCons (bin gSub (mVar 3) (mC (.int 9))) (aCons (bin gSub (mVar 4) (bin gPow (mC (.int 10)) (mC (.int 9)))) aNil))) (bin gMod (mVar 2) (mC (.int 2))))) (sSeq (sAsg 8 (mIxW (mLim (aCons (bin gSub (mVar 5) (mC (.int 9))) (aCons (bin gSub (mVar 6) (bin gPow (mC (.int 10)) (mC (.int 9)))) aNil))) (bin gFdiv (mVar 2) (mC (.int 2))))) (sSeq (sAsg 9 (mC (.int 0))) (sSeq (sFor [false, true, false, false, false, false, false, true, true, true] (mAsL (mVar 1)) (mgTup 3 (mgCons (mgName 10) (mgCons (mgName 11) (mgCons (mgName 12) mgNil)))) l1_law) (sSeq (sAsg 13 (mList (mCallL gListW (mAsL (mVar 1))))) (sSeq (sAsg 14 (mFn 3 m_worth (aCons (mVar 13) (aCons (mVar 7) (aCons (mVar 8) aNil))))) (sRet (mAndV (mFn 1 m__law_whole (aCons (mVar 14) aNil)) (mAndV (bin gEq (mVar 14) (mVar 9)) (mAndV (bin gEq (mVar 13) (mVar 1)) (bin gEq (mFn 3 m_worth (aCons (mList (mLim aNil)) (aCons (mVar 7) (aCons (mVar 8) aNil)))) (mC (.int 0))))))))))))))) ρ := by exact id rfl
def m_law : List Dt → Option Dt := fnR 15 b_law
theorem ok_law {f : Addr} {fd : FuncData} (B : Blt mg) (F : Fun K "law" "law" s_law f fd) (c__law_drawn : Cal P w K mg base 3 "_law_drawn" 2 true m__law_drawn) (c__law_row : Cal P w K mg base 2 "_law_row" 3 true m__law_row) (c__law_taken : Cal P w K mg base 1 "_law_taken" 2 false m__law_taken) (c_worth : Cal P w K mg base 2 "worth" 3 false m_worth) (c__law_whole : Cal P w K mg base 1 "_law_whole" 1 false m__law_whole) : FnOk P w K mg base CX0 4 f fd ["_law_script"] (spD K 1 false m_law) := by
  refine fn_D (N := N_law) (k := 3) (fB := b_law) (own' := []) F sc_law rfl (fun cdv A outer s H E hr => ?_)
  exact ⟨_, (ss_cons (s_set sc_law.nd (.ofL (l_cal (K := K) c__law_drawn hr (a_cons (e_var 0) (a_cons e_int a_nil))))) (ss_cons (s_to (.ofL (l_cal (K := K) c__law_row hr (a_cons (e_var 0) (a_cons e_int (a_cons (.ofL (l_lst (a_cons e_int (a_cons e_int (a_cons (e_add (K := K) (e_mul e_int (e_pow e_int e_int)) e_int) (a_cons e_int (a_cons (e_add (K := K) (e_mul e_int (e_pow e_int e_int)) e_int) a_nil))))))) a_nil))))) (g_lst (K := K) rfl (gs_cons (g_name 2 sc_law.nd) (gs_cons (g_name 3 sc_law.nd) (gs_cons (g_name 4 sc_law.nd) (gs_cons (g_name 5 sc_law.nd) (gs_cons (g_name 6 sc_law.nd) gs_nil))))))) (ss_cons (s_set sc_law.nd (e_ixW (K := K) (.ofL (l_lst (a_cons (e_sub (e_var 3) e_int) (a_cons (e_sub (e_var 4) (e_pow e_int e_int)) a_nil)))) (e_mod (e_var 2) e_int))) (ss_cons (s_set sc_law.nd (e_ixW (K := K) (.ofL (l_lst (a_cons (e_sub (e_var 5) e_int) (a_cons (e_sub (e_var 6) (e_pow e_int e_int)) a_nil)))) (e_fdiv (e_var 2) e_int))) (ss_cons (s_set sc_law.nd e_int) (ss_cons (s_for [false, true, false, false, false, false, false, true, true, true] PassesOwn.never rfl (i_list (K := K) (e_var 1)) (g_tup (K := K) rfl (gs_cons (g_name 10 sc_law.nd) (gs_cons (g_name 11 sc_law.nd) (gs_cons (g_name 12 sc_law.nd) gs_nil)))) (ss_cons (s_set sc_law.nd (e_add (K := K) (e_var 9) (e_mul (e_mul (e_var 12) (e_cal (K := K) c__law_taken hr (a_cons (e_var 7) (a_cons (e_var 10) a_nil)))) (e_cal (K := K) c__law_taken hr (a_cons (e_var 8) (a_cons (e_var 11) a_nil)))))) ss_nil)) (ss_cons (s_set sc_law.nd (.ofL (l_list (K := K) B.list (.of (e_var 1))))) (ss_cons (s_set sc_law.nd (e_cal (K := K) c_worth hr (a_cons (e_var 13) (a_cons (e_var 7) (a_cons (e_var 8) a_nil))))) (ss_one (s_ret (own' := []) (e_and (e_cal (K := K) c__law_whole hr (a_cons (e_var 14) a_nil)) (e_and (e_cmp (c_eq (K := K) hr.units) (e_var 14) (e_var 9)) (e_and (e_cmp (c_eq (K := K) hr.units) (e_var 13) (e_var 1)) (e_one (e_cmp (c_eq (K := K) hr.units) (e_cal (K := K) c_worth hr (a_cons (.ofL (l_lst a_nil)) (a_cons (e_var 7) (a_cons (e_var 8) a_nil)))) e_int)))))))))))))))⟩
end
theorem all_ok {P : Program} {w : World} {K : PySem.W.Frag} {mg : Str → Option Value} {base : Heap} {f : Addr} {fd : FuncData} (B : Blt mg) (F : Fun K "law" "law" s_law f fd)
    (G__law_cell : Df K mg "_law_cell" s__law_cell) (G__law_row : Df K mg "_law_row" s__law_row) (G__law_drawn : Df K mg "_law_drawn" s__law_drawn) (G_power : Df K mg "power" s_power) (G_worth : Df K mg "worth" s_worth) (G__law_whole : Df K mg "_law_whole" s__law_whole) (G__law_taken : Df K mg "_law_taken" s__law_taken) : FnOk P w K mg base CX0 4 f fd ["_law_script"] (spD K 1 false m_law) := by
  have c__law_cell : Cal P w K mg base 1 "_law_cell" 2 false m__law_cell := ok__law_cell B G__law_cell
  have c__law_row : Cal P w K mg base 2 "_law_row" 3 true m__law_row := ok__law_row B G__law_row c__law_cell
  have c__law_drawn : Cal P w K mg base 3 "_law_drawn" 2 true m__law_drawn := ok__law_drawn B G__law_drawn c__law_row
  have c_power : Cal P w K mg base 1 "power" 2 false m_power := ok_power B G_power
  have c_worth : Cal P w K mg base 2 "worth" 3 false m_worth := ok_worth B G_worth c_power
  have c__law_whole : Cal P w K mg base 1 "_law_whole" 1 false m__law_whole := ok__law_whole B G__law_whole
  have c__law_taken : Cal P w K mg base 1 "_law_taken" 2 false m__law_taken := ok__law_taken B G__law_taken
  exact ok_law B F c__law_drawn c__law_row c__law_taken c_worth c__law_whole

end Law
namespace Law
open PySem Tie
theorem cell_ev (ns : List Int) (k : Int) (hk : 0 ≤ k) : m__law_cell [.list (ns.map .int), .int k] = some (.int (ns.getD k.toNat 0)) := by
  simp (implicitDefEqProofs := false) [m__law_cell, fnR_eq, b__law_cell, startR, at_int hk]
  by_cases h : k < ns.length
  · have h2 : k.toNat < ns.length := by omega
    simp [h, h2]
  · have h2 : ¬ k.toNat < ns.length := by omega
    simp [h, h2]
/-- each below its size -/
def InR : List Int → List Int → Prop
  | [], [] => True
  | x :: xs, s :: ss => 0 ≤ x ∧ x < s ∧ InR xs ss
  | _, _ => False
theorem small_x {c k at' : Int} (hc : 0 ≤ c ∧ c < 10 ^ 18) (hk : 0 ≤ k ∧ k ≤ 100) (ha : 0 ≤ at' ∧ at' ≤ 100) : 0 ≤ c + 1013 * k + 7 * at' ∧ c + 1013 * k + 7 * at' < 10 ^ 19 := by omega
theorem at_mid {pre rest : List Int} {s : Int} : L2.atI (List.map PyData.int pre ++ PyData.int s :: List.map PyData.int rest) (pre.length : Int) = some (PyData.int s) := by
  apply at_nat
  simp
theorem row_go (at' : Int) (ha : 0 ≤ at' ∧ at' ≤ 100) (great : Bool) : ∀ (rest pre : List Int) (cell : Int) (acc : List Int), (∀ s ∈ rest, 0 < s ∧ s < 2 ^ 64) → pre.length + rest.length ≤ 100 → acc.length = pre.length → (great = false → 0 ≤ cell ∧ cell < 10 ^ 18) →
    ∃ cell' xs, forGo [false, true, true, true, true, true] (mgName 6) l1__law_row (rngD pre.length rest.length) [none, some (.int at'), some (.list ((pre ++ rest).map .int)), some (.int cell), some (.bool great), some (.list (acc.map .int)), none, none]
      = some (.nx [none, some (.int at'), some (.list ((pre ++ rest).map .int)), some (.int cell'), some (.bool great), some (.list ((acc ++ xs).map .int)), none, none]) ∧ InR xs rest
  | [], pre, cell, acc, _, _, _, _ => ⟨cell, [], by simp [rngD_0, for_nil], trivial⟩
  | s :: rest, pre, cell, acc, hs, hl, hacc, hc => by
    have hs0 := hs s (List.mem_cons_self ..)
    simp only [List.length_cons] at hl
    have eL : pre ++ s :: rest = (pre ++ [s]) ++ rest := by simp
    have hsz : acc.length ≤ 100000 := by omega
    cases great with
    | true =>
      obtain ⟨c', xs, e, r⟩ := row_go at' ha true rest (pre ++ [s]) (cell / s) (acc ++ [cell % s]) (fun z hz => hs z (List.mem_cons_of_mem _ hz)) (by simp; omega) (by simp [hacc]) (by simp)
      refine ⟨c', (cell % s) :: xs, ?_, Int.emod_nonneg _ (by omega), Int.emod_lt_of_pos _ hs0.1, r⟩
      rw [List.length_cons, rngD_succ, for_cons]
      rw [eL]
      simp only [List.length_append, List.length_singleton] at e
      simp (implicitDefEqProofs := false) [l1__law_row_ev, g_mod hs0.1, g_fdiv hs0.1 hs0.2, hsz, at_mid]
      simpa [List.append_assoc] using e
    | false =>
      have hcc := hc rfl
      have hk : (0 : Int) ≤ pre.length ∧ (pre.length : Int) ≤ 100 := by omega
      have hx := small_x hcc hk ha
      generalize ex : cell + 1013 * (pre.length : Int) + 7 * at' = x at hx
      have hx2 : 0 ≤ x ∧ x < 2 ^ 64 := by omega
      generalize ey : (x * x + 30011 * x) % 999983 = y
      have hy : 0 ≤ y ∧ y < 2 ^ 64 := by omega
      generalize ez : (y * y + 7919 * y) % 999979 / 5 = z
      obtain ⟨c', xs, e, r⟩ := row_go at' ha false rest (pre ++ [s]) cell (acc ++ [z % s]) (fun z hz => hs z (List.mem_cons_of_mem _ hz)) (by simp; omega) (by simp [hacc]) (fun _ => hcc)
      refine ⟨c', (z % s) :: xs, ?_, Int.emod_nonneg _ (by omega), Int.emod_lt_of_pos _ hs0.1, r⟩
      rw [List.length_cons, rngD_succ, for_cons]
      rw [eL]
      simp only [List.length_append, List.length_singleton] at e
      simp (implicitDefEqProofs := false) [l1__law_row_ev, hsz, at_mid]
      rw [g_mulS (i := 1013) (.lt 64 (by decide) (by decide)) (.lt 64 (by omega) (by omega)), g_mulS (i := 7) (.lt 64 (by decide) (by decide)) (.lt 64 (by omega) (by omega))]
      simp [ex]
      rw [g_mulS (.lt 64 (by omega) (by omega)) (.lt 64 (by omega) (by omega)), g_mulS (i := 30011) (.lt 64 (by decide) (by decide)) (.lt 64 (by omega) (by omega))]
      simp [g_mod, ey]
      rw [g_mulS (.lt 64 (by omega) (by omega)) (.lt 64 (by omega) (by omega)), g_mulS (i := 7919) (.lt 64 (by decide) (by decide)) (.lt 64 (by omega) (by omega))]
      simp [g_mod, g_fdiv, ez, hs0.1, hsz, at_mid]
      simpa [List.append_assoc] using e
theorem row_ev (ns : List Int) (at' : Int) (ha : 0 ≤ at' ∧ at' ≤ 100) (sizes : List Int) (hs : ∀ s ∈ sizes, 0 < s ∧ s < 2 ^ 64) (hl : sizes.length ≤ 50) : ∃ xs, m__law_row [.list (ns.map .int), .int at', .list (sizes.map .int)] = some (.list (xs.map .int)) ∧ InR xs sizes := by
  have p18 : gPow (.int 10) (.int 18) = some (.int (10 ^ 18)) := g_powL (by decide)
  generalize ec : ns.getD at'.toNat 0 = c
  obtain ⟨c', xs, e, r⟩ := row_go at' ha (decide (c < 0) || decide (10 ^ 18 ≤ c)) sizes [] c [] hs (by simp; omega) rfl (fun h => by simp at h; omega)
  refine ⟨xs, ?_, r⟩
  simp only [List.length_nil, List.nil_append, Int.natCast_zero] at e
  have e0 := cell_ev ns at' ha.1
  rw [ec] at e0
  simp (implicitDefEqProofs := false) [m__law_row, fnL_eq, b__law_row_ev, startR, e0]
  by_cases h1 : c < 0
  · simp (implicitDefEqProofs := false) [h1, ev_for]
    rw [g_rng1 (by omega)]
    simp (implicitDefEqProofs := false) [h1] at e
    simp [e]
  · simp (implicitDefEqProofs := false) [h1, p18, ev_for]
    rw [g_rng1 (by omega)]
    simp (implicitDefEqProofs := false) [h1] at e
    simp [e]
theorem InR.len : ∀ {xs ss : List Int}, InR xs ss → xs.length = ss.length
  | [], [], _ => rfl
  | _ :: _, _ :: _, h => congrArg (· + 1) h.2.2.len
  | [], _ :: _, h => h.elim
  | _ :: _, [], h => h.elim
/-- a row of a drawn table -/
def rowD (r : Int × Int × Int) : Dt := .tuple [.int r.1, .int r.2.1, .int r.2.2]
def RowOk (r : Int × Int × Int) : Prop := 0 ≤ r.1 ∧ r.1 < 10 ∧ 0 ≤ r.2.1 ∧ r.2.1 < 10 ∧ -(10 ^ 10) < r.2.2 ∧ r.2.2 < 10 ^ 10
theorem p9 : gPow (.int 10) (.int 9) = some (.int (10 ^ 9)) := g_powL (by decide)
theorem m29 : gMul (.int 2) (.int 1000000000) = some (.int 2000000000) := g_mulS (.lt 64 (by decide) (by decide)) (.lt 64 (by decide) (by decide))
theorem InR.five {xs : List Int} {a b c d e : Int} (h : InR xs [a, b, c, d, e]) : ∃ x1 x2 x3 x4 x5, xs = [x1, x2, x3, x4, x5] ∧ (0 ≤ x1 ∧ x1 < a) ∧ (0 ≤ x2 ∧ x2 < b) ∧ (0 ≤ x3 ∧ x3 < c) ∧ (0 ≤ x4 ∧ x4 < d) ∧ (0 ≤ x5 ∧ x5 < e) := by
  match xs, h with
  | [x1, x2, x3, x4, x5], ⟨h1, h2, h3, h4, h5, h6, h7, h8, h9, h10, _⟩ => exact ⟨x1, x2, x3, x4, x5, rfl, ⟨h1, h2⟩, ⟨h3, h4⟩, ⟨h5, h6⟩, ⟨h7, h8⟩, ⟨h9, h10⟩⟩
theorem InR.one {xs : List Int} {a : Int} (h : InR xs [a]) : ∃ x1, xs = [x1] ∧ (0 ≤ x1 ∧ x1 < a) := by
  match xs, h with
  | [x1], ⟨h1, h2, _⟩ => exact ⟨x1, rfl, ⟨h1, h2⟩⟩
theorem row5 (ns : List Int) (at' a b c d e : Int) (ha : 0 ≤ at' ∧ at' ≤ 100) (hs : ∀ s ∈ [a, b, c, d, e], 0 < s ∧ s < 2 ^ 64) :
    ∃ x1 x2 x3 x4 x5, m__law_row [.list (ns.map .int), .int at', .list [.int a, .int b, .int c, .int d, .int e]] = some (.list [.int x1, .int x2, .int x3, .int x4, .int x5]) ∧ (0 ≤ x1 ∧ x1 < a) ∧ (0 ≤ x2 ∧ x2 < b) ∧ (0 ≤ x3 ∧ x3 < c) ∧ (0 ≤ x4 ∧ x4 < d) ∧ (0 ≤ x5 ∧ x5 < e) := by
  obtain ⟨xs, h1, h2⟩ := row_ev ns at' ha [a, b, c, d, e] hs (by simp)
  obtain ⟨x1, x2, x3, x4, x5, rfl, h⟩ := h2.five
  exact ⟨x1, x2, x3, x4, x5, by simpa using h1, h⟩
theorem atLast {ds : List Dt} {d : Dt} : L2.atI (ds ++ [d]) (-1) = some d := L2.atI_last ds d
theorem drawn_go (ns : List Int) : ∀ (m : Nat) (k : Nat) (rows : List (Int × Int × Int)), k + m ≤ 6 → rows.length = k → (∀ r ∈ rows, RowOk r) →
    ∃ rows' : List (Int × Int × Int), forGo [true, true, true] (mgName 4) l1__law_drawn (rngD k m) [some (.list (ns.map .int)), some (.int 1), some (.list (rows.map rowD)), none, none, none, none, none, none, none, none]
      = some (.nx [some (.list (ns.map .int)), some (.int 1), some (.list (rows'.map rowD)), none, none, none, none, none, none, none, none]) ∧ (∀ r ∈ rows', RowOk r) ∧ rows'.length ≤ 6
  | 0, k, rows, hk, hl, hr => ⟨rows, by simp [rngD_0, for_nil], hr, by omega⟩
  | m + 1, k, rows, hk, hl, hr => by
    obtain ⟨i, j, way, sm, gr, e, hi, hj, hw, hsm, hgr⟩ := row5 ns (2 + k) 10 10 4 199 2000000001 (by omega) (by simp)
    have hz : rows.length ≤ 100000 := by omega
    rw [rngD_succ, for_cons]
    have next : ∀ r : Int × Int × Int, RowOk r → ∃ rows' : List (Int × Int × Int), forGo [true, true, true] (mgName 4) l1__law_drawn (rngD (k + 1) m) [some (.list (ns.map .int)), some (.int 1), some (.list (rows.map rowD ++ [rowD r])), none, none, none, none, none, none, none, none]
      = some (.nx [some (.list (ns.map .int)), some (.int 1), some (.list (rows'.map rowD)), none, none, none, none, none, none, none, none]) ∧ (∀ r ∈ rows', RowOk r) ∧ rows'.length ≤ 6 := fun r hr' => by
      obtain ⟨rows', e', h1, h2⟩ := drawn_go ns m (k + 1) (rows ++ [r]) (by omega) (by simp [hl]) (fun z hz => by
        rcases List.mem_append.mp hz with z | z
        · exact hr _ z
        · rw [List.mem_singleton.mp z]; exact hr')
      exact ⟨rows', by simpa using e', h1, h2⟩
    by_cases w0 : way = 0
    · obtain ⟨rows', e', h1, h2⟩ := next (i, j, gr - 10 ^ 9) (by simp only [RowOk]; omega)
      refine ⟨rows', ?_, h1, h2⟩
      simp (implicitDefEqProofs := false) [l1__law_drawn_ev, p9, m29, e, w0, hz] at e' ⊢
      simpa [rowD] using e'
    · by_cases w1 : way = 1 ∧ 0 < k
      · obtain ⟨w1, k0⟩ := w1
        obtain ⟨ini, ⟨i0, j0, t0⟩, rfl⟩ : ∃ ini r, rows = ini ++ [r] := ⟨rows.dropLast, rows.getLast (by intro z; subst z; simp at hl; omega), (List.dropLast_concat_getLast _).symm⟩
        have hr0 := hr _ (List.mem_append_right _ (List.mem_singleton.mpr rfl))
        obtain ⟨rows', e', h1, h2⟩ := next (i0, j0, sm - 99) (by simp only [RowOk] at hr0 ⊢; omega)
        refine ⟨rows', ?_, h1, h2⟩
        simp at hz
        simp (implicitDefEqProofs := false) [l1__law_drawn_ev, p9, m29, e, w0, w1, hz, bigN, k0, rowD, atLast, cutD, HT.sIx] at e' ⊢
        simpa [rowD] using e'
      · obtain ⟨rows', e', h1, h2⟩ := next (i, j, sm - 99) (by simp only [RowOk]; omega)
        refine ⟨rows', ?_, h1, h2⟩
        by_cases w2 : way = 1
        · have k0 : k = 0 := by omega
          subst k0
          simp (implicitDefEqProofs := false) [l1__law_drawn_ev, p9, m29, e, w0, w2, hz] at e e' ⊢
          simp [e, hz]
          simpa [rowD] using e'
        · simp (implicitDefEqProofs := false) [l1__law_drawn_ev, p9, m29, e, w0, w2, hz] at e' ⊢
          simpa [rowD] using e'

theorem drawn_ev (ns : List Int) : ∃ rows : List (Int × Int × Int), m__law_drawn [.list (ns.map .int), .int 1] = some (.list (rows.map rowD)) ∧ (∀ r ∈ rows, RowOk r) ∧ rows.length ≤ 6 := by
  obtain ⟨xs, e, h⟩ := row_ev ns 1 (by decide) [7] (by simp) (by simp)
  obtain ⟨x, rfl, hx⟩ := h.one
  obtain ⟨rows, e2, h1, h2⟩ := drawn_go ns x.toNat 0 [] (by omega) rfl (by simp)
  refine ⟨rows, ?_, h1, h2⟩
  simp at e e2
  simp (implicitDefEqProofs := false) [m__law_drawn, fnL_eq, b__law_drawn_ev, startR, e, ev_for, at_int]
  rw [g_rng1 (by omega)]
  simp (implicitDefEqProofs := false) [e2]
theorem l2 {x : Nat} (n : Nat) (h : x < 2 ^ n) (h0 : 0 < n) : x.log2 < n := PySem.Flt.log2_lt_of h0 h
theorem log2_pow {x : Int} {k : Nat} (hx : x.natAbs ≤ 2 ^ 32) (hk : k ≤ 1000) : Sm (x ^ k) := by
  have h : (x ^ k).natAbs ≤ 2 ^ (32 * k) := by
    rw [Int.natAbs_pow, Nat.pow_mul]
    exact Nat.pow_le_pow_left hx k
  unfold Sm
  exact Nat.lt_of_lt_of_le (l2 (32 * k + 1) (Nat.lt_of_le_of_lt h (Nat.pow_lt_pow_right (by decide) (by omega))) (by omega)) (by omega)
theorem small_of {x : Int} (hx : x.natAbs ≤ 2 ^ 32) : Sm x := by
  have := log2_pow (x := x) (k := 1) hx (by decide)
  rwa [Int.pow_succ, Int.pow_zero, Int.one_mul] at this
theorem taken_go (x : Int) (hx : x.natAbs ≤ 2 ^ 32) : ∀ (m k : Nat), k + m ≤ 100 →
    forGo [true, false, true] (mgName 3) l1__law_taken (rngD k m) [some (.int x), none, some (.int (x ^ k)), none] = some (.nx [some (.int x), none, some (.int (x ^ (k + m))), none])
  | 0, k, _ => by simp [rngD_0, for_nil]
  | m + 1, k, h => by
    have e := taken_go x hx m (k + 1) (by omega)
    rw [rngD_succ, for_cons]
    simp (implicitDefEqProofs := false) [l1__law_taken_ev, g_mulS (log2_pow (k := k) hx (by omega)) (small_of hx)]
    rw [← Int.pow_succ]
    have e1 : (k : Int) + 1 = ((k + 1 : Nat) : Int) := by omega
    rw [e1, e]
    have e2 : k + 1 + m = k + (m + 1) := by omega
    rw [e2]
theorem taken_ev (x n : Int) (hx : x.natAbs ≤ 2 ^ 32) (h0 : 0 ≤ n) (h1 : n ≤ 100) : m__law_taken [.int x, .int n] = some (.int (x ^ n.toNat)) := by
  have e := taken_go x hx n.toNat 0 (by omega)
  simp at e
  simp (implicitDefEqProofs := false) [m__law_taken, fnR_eq, b__law_taken_ev, startR, ev_for]
  rw [g_rng1 (by omega)]
  simp (implicitDefEqProofs := false) [e]
theorem power_ev (x n : Int) (hx : x.natAbs ≤ 2 ^ 32) (h0 : 0 ≤ n) (h1 : n ≤ 100) : m_power [.int x, .int n] = some (.int (x ^ n.toNat)) := taken_ev x n hx h0 h1
def termD (x y : Int) (r : Int × Int × Int) : Int := r.2.2 * x ^ r.1.toNat * y ^ r.2.1.toNat
theorem sm_mul {i j : Int} (hi : i.natAbs < 2 ^ 100) (hj : j.natAbs < 2 ^ 100000) : Sm (i * j) := by
  unfold Sm
  rw [Int.natAbs_mul]
  refine Nat.lt_of_lt_of_le (l2 (100 + 100000) ?_ (by decide)) (by decide)
  rw [Nat.pow_add]
  by_cases z : j.natAbs = 0
  · rw [z, Nat.mul_zero]; exact Nat.mul_pos (Nat.two_pow_pos _) (Nat.two_pow_pos _)
  · exact Nat.mul_lt_mul'' hi hj
theorem lc_worth (t : Dt) (x y : Int) (hx : x.natAbs ≤ 2 ^ 32) (hy : y.natAbs ≤ 2 ^ 32) : ∀ rows : List (Int × Int × Int), (∀ r ∈ rows, RowOk r) →
    lcGo (mgTup 3 (mgCons (mgName 3) (mgCons (mgName 4) (mgCons (mgName 5) mgNil)))) mYes e1_worth [some t, some (.int x), some (.int y), none, none, none] (rows.map rowD) = some ((rows.map (termD x y)).map .int)
  | [], _ => rfl
  | r :: rows, h => by
    have ih := lc_worth t x y hx hy rows fun z hz => h z (List.mem_cons_of_mem _ hz)
    have hr := h r (List.mem_cons_self ..)
    unfold RowOk at hr
    rw [List.map_cons, lc_cons, ih]
    have s1 : Sm r.2.2 := .lt 64 (by omega) (by omega)
    have s2 : Sm (r.2.2 * x ^ r.1.toNat) := by
      refine sm_mul (by omega) ?_
      rw [Int.natAbs_pow]
      exact Nat.lt_of_le_of_lt (Nat.pow_le_pow_left hx _) (by rw [← Nat.pow_mul]; exact Nat.pow_lt_pow_right (by decide) (by omega))
    simp (implicitDefEqProofs := false) [rowD, e1_worth_ev, power_ev x r.1 hx (by omega) (by omega), power_ev y r.2.1 hy (by omega) (by omega)]
    rw [g_mulS s1 (log2_pow hx (by omega))]
    simp (implicitDefEqProofs := false) []
    rw [g_mulS s2 (log2_pow hy (by omega))]
    simp (implicitDefEqProofs := false) [termD]
theorem worth_ev (rows : List (Int × Int × Int)) (x y : Int) (hx : x.natAbs ≤ 2 ^ 32) (hy : y.natAbs ≤ 2 ^ 32) (h : ∀ r ∈ rows, RowOk r) (hl : rows.length ≤ 100) : m_worth [.list (rows.map rowD), .int x, .int y] = some (.int (rows.map (termD x y)).sum) := by
  have e := lc_worth (.list (rows.map rowD)) x y hx hy rows h
  have hz : rows.length ≤ 100000 := by omega
  simp (implicitDefEqProofs := false) [m_worth, fnR_eq, b_worth_ev, startR, ev_lc, hz, e, -List.map_map]
  unfold gSum
  rw [intsOf_map]
  rfl
theorem whole_ev (i : Int) : m__law_whole [.int i] = some (.bool true) := by
  simp (implicitDefEqProofs := false) [m__law_whole, fnR_eq, b__law_whole_ev, startR, kT, kS, tyN]
theorem nest_row (r : Int × Int × Int) : Nest 1 (rowD r) := by
  intro x hx
  simp [rowD] at hx
  rcases hx with rfl | rfl | rfl <;> exact nest_int
theorem nest_rows (rows : List (Int × Int × Int)) : Nest 2 (.list (rows.map rowD)) := by
  intro x hx
  obtain ⟨r, _, rfl⟩ := List.mem_map.mp hx
  exact nest_row r
theorem law_go (t : Option Dt) (x y : Int) (hx : x.natAbs ≤ 2 ^ 32) (hy : y.natAbs ≤ 2 ^ 32) : ∀ (rows : List (Int × Int × Int)) (due : Int), (∀ r ∈ rows, RowOk r) →
    forGo [false, true, false, false, false, false, false, true, true, true] (mgTup 3 (mgCons (mgName 10) (mgCons (mgName 11) (mgCons (mgName 12) mgNil)))) l1_law (rows.map rowD) [none, t, none, none, none, none, none, some (.int x), some (.int y), some (.int due), none, none, none, none, none]
      = some (.nx [none, t, none, none, none, none, none, some (.int x), some (.int y), some (.int (due + (rows.map (termD x y)).sum)), none, none, none, none, none])
  | [], due, _ => by simp [for_nil]
  | r :: rows, due, h => by
    have ih := law_go t x y hx hy rows (due + termD x y r) fun z hz => h z (List.mem_cons_of_mem _ hz)
    have hr := h r (List.mem_cons_self ..)
    unfold RowOk at hr
    rw [List.map_cons, for_cons]
    have s1 : Sm r.2.2 := .lt 64 (by omega) (by omega)
    have s2 : Sm (r.2.2 * x ^ r.1.toNat) := by
      refine sm_mul (by omega) ?_
      rw [Int.natAbs_pow]
      exact Nat.lt_of_le_of_lt (Nat.pow_le_pow_left hx _) (by rw [← Nat.pow_mul]; exact Nat.pow_lt_pow_right (by decide) (by omega))
    simp (implicitDefEqProofs := false) [rowD, l1_law_ev, taken_ev x r.1 hx (by omega) (by omega), taken_ev y r.2.1 hy (by omega) (by omega)]
    rw [g_mulS s1 (log2_pow hx (by omega))]
    simp (implicitDefEqProofs := false) []
    rw [g_mulS s2 (log2_pow hy (by omega))]
    simp (implicitDefEqProofs := false) []
    have e : due + r.2.2 * x ^ r.1.toNat * y ^ r.2.1.toNat = due + termD x y r := rfl
    rw [e, ih]
    simp [Int.add_assoc]
theorem main_law (ns : List Int) (h : ns.length ≤ 63) : m_law [.list (ns.map .int)] = some (.bool true) := by
  obtain ⟨rows, e1, hr, hl⟩ := drawn_ev ns
  obtain ⟨way, sm, gr, ot, mo, e2, hw, hsm, hgr, hot, hmo⟩ := row5 ns 9 4 19 2000000001 19 2000000001 (by decide) (by simp)
  have hz : rows.length ≤ 100000 := by omega
  have fin : ∀ x y : Int, x.natAbs ≤ 2 ^ 32 → y.natAbs ≤ 2 ^ 32 → ∃ due, (forGo [false, true, false, false, false, false, false, true, true, true] (mgTup 3 (mgCons (mgName 10) (mgCons (mgName 11) (mgCons (mgName 12) mgNil)))) l1_law (rows.map rowD) [none, some (.list (rows.map rowD)), none, none, none, none, none, some (.int x), some (.int y), some (.int 0), none, none, none, none, none]
      = some (.nx [none, some (.list (rows.map rowD)), none, none, none, none, none, some (.int x), some (.int y), some (.int due), none, none, none, none, none])) ∧ m_worth [.list (rows.map rowD), .int x, .int y] = some (.int due) ∧ m_worth [.list [], .int x, .int y] = some (.int 0) := fun x y hx hy => by
    have a := law_go (some (.list (rows.map rowD))) x y hx hy rows 0 hr
    rw [Int.zero_add] at a
    refine ⟨_, a, worth_ev rows x y hx hy hr (by omega), ?_⟩
    have b := worth_ev [] x y hx hy (by simp) (by simp)
    simpa using b
  have hx : ∃ x : Int, L2.atI [PyData.int (sm - 9), PyData.int (gr - 1000000000)] (way % 2) = some (.int x) ∧ x.natAbs ≤ 2 ^ 32 := by
    rcases (by omega : way % 2 = 0 ∨ way % 2 = 1) with h | h
    · exact ⟨sm - 9, by rw [h]; rfl, by omega⟩
    · exact ⟨gr - 1000000000, by rw [h]; rfl, by omega⟩
  have hy : ∃ y : Int, L2.atI [PyData.int (ot - 9), PyData.int (mo - 1000000000)] (way / 2) = some (.int y) ∧ y.natAbs ≤ 2 ^ 32 := by
    rcases (by omega : way / 2 = 0 ∨ way / 2 = 1) with h | h
    · exact ⟨ot - 9, by rw [h]; rfl, by omega⟩
    · exact ⟨mo - 1000000000, by rw [h]; rfl, by omega⟩
  obtain ⟨x, ex, hxb⟩ := hx
  obtain ⟨y, ey, hyb⟩ := hy
  obtain ⟨due, f1, f2, f3⟩ := fin x y hxb hyb
  simp (implicitDefEqProofs := false) [m_law, fnR_eq, b_law_ev, startR, e1, p9, m29, e2, g_mod, g_fdiv, ex, ey, ev_for, f1, f2, f3, whole_ev, g_eq_self (nest_rows rows)]

end Law
open PySem PySem.W PyProof.Rows in
set_option maxRecDepth 100000 in
set_option maxHeartbeats 0 in
theorem PySem.Challenge.cw_tietable_k11_worths_holds : PySem.Challenge.rw_tietable_k11_worths.Holds := by
  w_on; o_law; k_head; (case hw => w_witness2)
  k_fill
  refine Tie.law_walk (l := PySem.Challenge.rw_tietable_k11_worths) (k := 4) (x := "_law_script") (F := Law.m_law) (st := Law.s_law) rfl rfl rfl ⟨rfl, by decide, by decide⟩ (fun w h Y => PySem.W.kIn_of Y) (fun _ _ _ _ _ _ _ _ => .of_eq rfl) ?F Law.main_law
  case F =>
    intro w mg h KX G
    refine' Tie.with_fact (x := "law") (st := Law.s_law) KX ?a0 ?l0 ?c0 ?k0 ?q0
    (case a0 => k_is)
    (case l0 => k_is)
    (case c0 => k_is)
    (case k0 => k_is)
    intro F_law
    refine' Tie.with_fact (x := "_law_cell") (st := Law.s__law_cell) KX ?a1 ?l1 ?c1 ?k1 ?q1
    (case a1 => k_is)
    (case l1 => k_is)
    (case c1 => k_is)
    (case k1 => k_is)
    intro F__law_cell
    refine' Tie.with_fact (x := "_law_row") (st := Law.s__law_row) KX ?a2 ?l2 ?c2 ?k2 ?q2
    (case a2 => k_is)
    (case l2 => k_is)
    (case c2 => k_is)
    (case k2 => k_is)
    intro F__law_row
    refine' Tie.with_fact (x := "_law_drawn") (st := Law.s__law_drawn) KX ?a3 ?l3 ?c3 ?k3 ?q3
    (case a3 => k_is)
    (case l3 => k_is)
    (case c3 => k_is)
    (case k3 => k_is)
    intro F__law_drawn
    refine' Tie.with_fact (x := "power") (st := Law.s_power) KX ?a4 ?l4 ?c4 ?k4 ?q4
    (case a4 => k_is)
    (case l4 => k_is)
    (case c4 => k_is)
    (case k4 => k_is)
    intro F_power
    refine' Tie.with_fact (x := "worth") (st := Law.s_worth) KX ?a5 ?l5 ?c5 ?k5 ?q5
    (case a5 => k_is)
    (case l5 => k_is)
    (case c5 => k_is)
    (case k5 => k_is)
    intro F_worth
    refine' Tie.with_fact (x := "_law_whole") (st := Law.s__law_whole) KX ?a6 ?l6 ?c6 ?k6 ?q6
    (case a6 => k_is)
    (case l6 => k_is)
    (case c6 => k_is)
    (case k6 => k_is)
    intro F__law_whole
    refine' Tie.with_fact (x := "_law_taken") (st := Law.s__law_taken) KX ?a7 ?l7 ?c7 ?k7 ?q7
    (case a7 => k_is)
    (case l7 => k_is)
    (case c7 => k_is)
    (case k7 => k_is)
    intro F__law_taken
    refine' Tie.with_none (x := "bool") KX G ?z0 ?y0
    (case z0 => k_is)
    intro B_bool
    refine' Tie.with_none (x := "int") KX G ?z1 ?y1
    (case z1 => k_is)
    intro B_int
    refine' Tie.with_none (x := "isinstance") KX G ?z2 ?y2
    (case z2 => k_is)
    intro B_isinstance
    refine' Tie.with_none (x := "len") KX G ?z3 ?y3
    (case z3 => k_is)
    intro B_len
    refine' Tie.with_none (x := "list") KX G ?z4 ?y4
    (case z4 => k_is)
    intro B_list
    refine' Tie.with_none (x := "range") KX G ?z5 ?y5
    (case z5 => k_is)
    intro B_range
    refine' Tie.with_none (x := "sum") KX G ?z6 ?y6
    (case z6 => k_is)
    intro B_sum
    have B : Law.Blt mg := ⟨B_bool, B_int, B_isinstance, B_len, B_list, B_range, B_sum⟩
    exact ⟨F_law, fun base f fd KB GB F => Law.all_ok B F (F__law_cell.df KX G) (F__law_row.df KX G) (F__law_drawn.df KX G) (F_power.df KX G) (F_worth.df KX G) (F__law_whole.df KX G) (F__law_taken.df KX G)⟩
