import PyProof.Rows.All
import Wide.All
import OpenK.AllK
import Wide.FinOn
import HandS.ForMost
import HandS.Exc
import HandS.TryOnly
import HandS.WordsExc
import HandS.TupAny
import HandS.Zip
import HandS.Style
import HandS.IsInst
import HandS.Walk
import KE.KTupSum
import KE.GoesEnum
import KE.GoesZip
import KE.KItemsList
import HandS.Star
import PyProof.ReprRoads
import PyProof.CallFns
import KE.KDictDisplayH
import KE.KeyNested
import PyProof.DictTable
import HandS.SetFor
import HandS.Set
import PyProof.Rows.SortStr
import KE.KSuper
import KE.KExcSuper
import HandS.ExcSuper
import HandS.ExcInit
import HandS.ExcField
import HandS.Text
import HandS.Comp
import PySem.Challenge.RW_staysdeep_k07_whole_standings_of_one_cla
set_option Elab.async false
set_option linter.all false
set_option maxRecDepth 100000
set_option maxHeartbeats 2000000
/-! Sd0: data trees over the abstract heap, relations between heaps, evaluation of readings. -/
namespace Sd
open PySem PySem.Spec PyProof.Rows L2

/-! ### data made of tuples alone -/
mutual
def Tp (K : PySem.W.Frag) (H : Hp) : PyData → V → Prop
  | .none, v => v = .non
  | .bool b, v => v = .bl b
  | .int i, v => v = .int i
  | .str x, v => v = .str x
  | .tuple ds, v => ∃ a xs, v = .ref a ∧ SqT K H a xs ∧ Tps K H ds xs
  | .list _, _ => False
  | .dict _, _ => False
def Tps (K : PySem.W.Frag) (H : Hp) : List PyData → List V → Prop
  | [], xs => xs = []
  | d :: ds, xs => ∃ x r, xs = x :: r ∧ Tp K H d x ∧ Tps K H ds r
end

/-- the tuples stay -/
def Im (H H' : Hp) : Prop := ∀ a xs, Rd H a (.tup xs) → Rd H' a (.tup xs)
theorem Im.refl (H : Hp) : Im H H := fun _ _ h => h
theorem Im.trans {H H1 H2 : Hp} (a : Im H H1) (b : Im H1 H2) : Im H H2 := fun c xs h => b c xs (a c xs h)
theorem Im.sqt {K : PySem.W.Frag} {H H' : Hp} {a : Addr} {xs : List V} (i : Im H H') (h : SqT K H a xs) : SqT K H' a xs := by
  rcases h with h | h
  · exact .inl (i _ _ h)
  · exact .inr h
mutual
theorem Tp.mono {K : PySem.W.Frag} {H H' : Hp} (i : Im H H') : ∀ (d : PyData) (v : V), Tp K H d v → Tp K H' d v
  | .none, _, h => by simpa only [Tp] using h
  | .bool _, _, h => by simpa only [Tp] using h
  | .int _, _, h => by simpa only [Tp] using h
  | .str _, _, h => by simpa only [Tp] using h
  | .tuple ds, _, h => by
    simp only [Tp] at h ⊢
    obtain ⟨a, xs, e, q, r⟩ := h
    exact ⟨a, xs, e, i.sqt q, Tps.mono i ds xs r⟩
  | .list _, _, h => by simp only [Tp] at h
  | .dict _, _, h => by simp only [Tp] at h
theorem Tps.mono {K : PySem.W.Frag} {H H' : Hp} (i : Im H H') : ∀ (ds : List PyData) (xs : List V), Tps K H ds xs → Tps K H' ds xs
  | [], _, h => by simpa only [Tps] using h
  | d :: ds, _, h => by
    simp only [Tps] at h ⊢
    obtain ⟨x, r, e, h1, h2⟩ := h
    exact ⟨x, r, e, Tp.mono i d x h1, Tps.mono i ds r h2⟩
end
section
variable {K : PySem.W.Frag} {H H' : Hp}
theorem Tp.none_ {v : V} (h : Tp K H .none v) : v = .non := by simpa only [Tp] using h
theorem Tp.bool_ {b : Bool} {v : V} (h : Tp K H (.bool b) v) : v = .bl b := by simpa only [Tp] using h
theorem Tp.int_ {i : Int} {v : V} (h : Tp K H (.int i) v) : v = .int i := by simpa only [Tp] using h
theorem Tp.str_ {x : Str} {v : V} (h : Tp K H (.str x) v) : v = .str x := by simpa only [Tp] using h
theorem Tp.tup_ {ds : List PyData} {v : V} (h : Tp K H (.tuple ds) v) : ∃ a xs, v = .ref a ∧ SqT K H a xs ∧ Tps K H ds xs := by simpa only [Tp] using h
theorem tp_none : Tp K H .none .non := by simp only [Tp]
theorem tp_bool {b : Bool} : Tp K H (.bool b) (.bl b) := by simp only [Tp]
theorem tp_int {i : Int} : Tp K H (.int i) (.int i) := by simp only [Tp]
theorem tp_str {x : Str} : Tp K H (.str x) (.str x) := by simp only [Tp]
theorem tp_tup {a : Addr} {xs : List V} {ds : List PyData} (h : SqT K H a xs) (r : Tps K H ds xs) : Tp K H (.tuple ds) (.ref a) := by
  simp only [Tp]
  exact ⟨a, xs, rfl, h, r⟩
theorem tps_nil : Tps K H [] [] := by simp only [Tps]
theorem tps_cons {d : PyData} {ds : List PyData} {x : V} {xs : List V} (h : Tp K H d x) (r : Tps K H ds xs) : Tps K H (d :: ds) (x :: xs) := by
  simp only [Tps]
  exact ⟨x, xs, rfl, h, r⟩
theorem Tps.nil_ {xs : List V} (h : Tps K H [] xs) : xs = [] := by simpa only [Tps] using h
theorem Tps.cons_ {d : PyData} {ds : List PyData} {xs : List V} (h : Tps K H (d :: ds) xs) : ∃ x r, xs = x :: r ∧ Tp K H d x ∧ Tps K H ds r := by simpa only [Tps] using h
theorem Tps.length : ∀ {ds : List PyData} {xs : List V}, Tps K H ds xs → xs.length = ds.length
  | [], _, h => by rw [h.nil_] <;> rfl
  | d :: ds, _, h => by
    obtain ⟨x, r, rfl, _, h2⟩ := h.cons_
    rw [List.length_cons, List.length_cons, Tps.length h2]
theorem Tps.get : ∀ {ds : List PyData} {xs : List V} {i : Nat} {d : PyData}, Tps K H ds xs → ds[i]? = some d → ∃ x, xs[i]? = some x ∧ Tp K H d x
  | [], _, _, _, _, e => by simp at e
  | d :: ds, _, 0, d', h, e => by
    obtain ⟨x, r, rfl, h1, _⟩ := h.cons_
    cases e
    exact ⟨x, rfl, h1⟩
  | d :: ds, _, i + 1, d', h, e => by
    obtain ⟨x, r, rfl, _, h2⟩ := h.cons_
    obtain ⟨y, e1, e2⟩ := Tps.get (i := i) h2 (by simpa using e)
    exact ⟨y, by simpa using e1, e2⟩
theorem Tps.at_ : ∀ {ds : List PyData} {xs : List V} {i : Nat} {x : V}, Tps K H ds xs → xs[i]? = some x → ∃ d, ds[i]? = some d ∧ Tp K H d x
  | [], _, _, _, h, e => by
    rw [h.nil_] at e
    simp at e
  | d :: ds, _, 0, x', h, e => by
    obtain ⟨x, r, rfl, h1, _⟩ := h.cons_
    cases e
    exact ⟨d, rfl, h1⟩
  | d :: ds, _, i + 1, x', h, e => by
    obtain ⟨x, r, rfl, _, h2⟩ := h.cons_
    obtain ⟨y, e1, e2⟩ := Tps.at_ (i := i) h2 (by simpa using e)
    exact ⟨y, by simpa using e1, e2⟩
theorem Tps.append : ∀ {ds es : List PyData} {xs ys : List V}, Tps K H ds xs → Tps K H es ys → Tps K H (ds ++ es) (xs ++ ys)
  | [], _, _, _, h, q => by
    rw [h.nil_]
    exact q
  | d :: ds, _, _, _, h, q => by
    obtain ⟨x, r, rfl, h1, h2⟩ := h.cons_
    exact tps_cons h1 (Tps.append h2 q)
theorem Tps.take : ∀ {ds : List PyData} {xs : List V} (n : Nat), Tps K H ds xs → Tps K H (ds.take n) (xs.take n)
  | _, _, 0, _ => by
    rw [List.take_zero, List.take_zero]
    exact tps_nil
  | [], _, n + 1, h => by
    rw [h.nil_]
    exact tps_nil
  | d :: ds, _, n + 1, h => by
    obtain ⟨x, r, rfl, h1, h2⟩ := h.cons_
    exact tps_cons h1 (Tps.take n h2)
theorem Tps.drop : ∀ {ds : List PyData} {xs : List V} (n : Nat), Tps K H ds xs → Tps K H (ds.drop n) (xs.drop n)
  | _, _, 0, h => h
  | [], _, n + 1, h => by
    rw [h.nil_]
    exact tps_nil
  | d :: ds, _, n + 1, h => by
    obtain ⟨x, r, rfl, h1, h2⟩ := h.cons_
    exact Tps.drop n h2
theorem Tps.set : ∀ {ds : List PyData} {xs : List V} {d : PyData} {x : V} (n : Nat), Tps K H ds xs → Tp K H d x → Tps K H (ds.set n d) (xs.set n x)
  | [], _, _, _, n, h, _ => by
    rw [h.nil_]
    exact tps_nil
  | d :: ds, _, _, _, 0, h, q => by
    obtain ⟨x, r, rfl, h1, h2⟩ := h.cons_
    exact tps_cons q h2
  | d :: ds, _, _, _, n + 1, h, q => by
    obtain ⟨x, r, rfl, h1, h2⟩ := h.cons_
    exact tps_cons h1 (Tps.set n h2 q)
end
mutual
theorem Tp.dp {K : PySem.W.Frag} {H : Hp} : ∀ (d : PyData) (v : V), Tp K H d v → Dp K H v d
  | .none, _, h => by rw [h.none_]; exact .non
  | .bool b, _, h => by rw [h.bool_]; exact .bl b
  | .int i, _, h => by rw [h.int_]; exact .int i
  | .str x, _, h => by rw [h.str_]; exact .str x
  | .tuple ds, _, h => by
    obtain ⟨a, xs, rfl, q, r⟩ := h.tup_
    exact .tup q (Tps.dp ds xs r)
  | .list _, _, h => by simp only [Tp] at h
  | .dict _, _, h => by simp only [Tp] at h
theorem Tps.dp {K : PySem.W.Frag} {H : Hp} : ∀ (ds : List PyData) (xs : List V), Tps K H ds xs → DpAll K H xs ds
  | [], _, h => by rw [h.nil_]; exact .nil
  | d :: ds, _, h => by
    obtain ⟨x, r, rfl, h1, h2⟩ := h.cons_
    exact .cons (Tp.dp d x h1) (Tps.dp ds r h2)
end

/-! ### relations between an earlier and a later heap -/
structure Rl where
  r : Hp → Hp → Prop
  /-- cells whose content may change -/
  ex : Addr → Prop
  again : ∀ {H H'}, r H H' → r H' H'
  trans : ∀ {H H1 H2}, r H H1 → r H1 H2 → r H H2
  keep : ∀ {H H' a o}, r H H' → ¬ ex a → H a = some o → H' a = some o
  im : ∀ {H H'}, r H H' → Im H H'
  back : ∀ {H H' a}, r H H' → H' a = none → H a = none
  live : ∀ {H H' a}, r H H' → H' a = none → ¬ ex a
  put : ∀ {H H' a o}, r H H' → H a = none → r H (upd H' a o)
  ofEx : ∀ {H0 H H'}, r H0 H → (∀ a o, H a = some o → H' a = some o) → r H H'

def Ex (H H' : Hp) : Prop := ∀ a o, H a = some o → H' a = some o
theorem Ex.refl (H : Hp) : Ex H H := fun _ _ h => h
theorem Ex.trans {H H1 H2 : Hp} (a : Ex H H1) (b : Ex H1 H2) : Ex H H2 := fun c o h => b c o (a c o h)
theorem Ex.im {H H' : Hp} (e : Ex H H') : Im H H' := fun a xs h => by
  rcases h with h | ⟨o, h⟩
  · exact .inl (e _ _ h)
  · exact .inr ⟨o, e _ _ h⟩
theorem Ex.back {H H' : Hp} {a : Addr} (e : Ex H H') (h : H' a = none) : H a = none := by
  cases q : H a with
  | none => rfl
  | some o =>
    rw [e a o q] at h
    cases h
theorem Ex.put {H H' : Hp} {a : Addr} {o : HO} (e : Ex H H') (h : H a = none) : Ex H (upd H' a o) := fun b u q => by
  rw [upd_ne (ne_of_none q h)]
  exact e b u q
theorem Ex.new {H : Hp} {a : Addr} {o : HO} (h : H a = none) : Ex H (upd H a o) := (Ex.refl H).put h
theorem Ex.sql {K : PySem.W.Frag} {H H' : Hp} {a : Addr} {xs : List V} (e : Ex H H') (h : SqL K H a xs) : SqL K H' a xs := by
  rcases h with (h | ⟨o, h⟩) | h
  · exact .inl (.inl (e _ _ h))
  · exact .inl (.inr ⟨o, e _ _ h⟩)
  · exact .inr h
/-- all that is tracked stays -/
def RE : Rl where
  r := Ex
  ex := fun _ => False
  again := fun _ => Ex.refl _
  trans := Ex.trans
  keep := fun e _ h => e _ _ h
  im := Ex.im
  back := Ex.back
  live := fun _ _ z => z
  put := Ex.put
  ofEx := fun _ e => e

/-- where draws come from: a list of a list of numbers and a number -/
def Deal (d l : Addr) (H : Hp) : Prop := d ≠ l ∧ ∃ (ns : List Int) (m : Int), ns.length ≤ 63 ∧ H d = some (.lst [.ref l, .int m]) ∧ H l = some (.lst (ns.map V.int))
/-- all but the deal stays -/
def Xd (d l : Addr) (H H' : Hp) : Prop := Deal d l H ∧ Deal d l H' ∧ (∀ a o, a ≠ d → a ≠ l → H a = some o → H' a = some o) ∧ ∀ a, H' a = none → H a = none
theorem Deal.d_some {d l : Addr} {H : Hp} (h : Deal d l H) : H d ≠ none := by
  obtain ⟨_, ns, m, _, e, _⟩ := h
  rw [e]
  exact fun z => nomatch z
theorem Deal.l_some {d l : Addr} {H : Hp} (h : Deal d l H) : H l ≠ none := by
  obtain ⟨_, ns, m, _, _, e⟩ := h
  rw [e]
  exact fun z => nomatch z
theorem Deal.of {d l : Addr} {H H' : Hp} (h : Deal d l H) (e : Ex H H') : Deal d l H' := by
  obtain ⟨n, ns, m, z, e1, e2⟩ := h
  exact ⟨n, ns, m, z, e _ _ e1, e _ _ e2⟩
theorem Deal.put {d l : Addr} {H : Hp} {a : Addr} {o : HO} (h : Deal d l H) (n1 : a ≠ d) (n2 : a ≠ l) : Deal d l (upd H a o) := by
  obtain ⟨n, ns, m, z, e1, e2⟩ := h
  exact ⟨n, ns, m, z, by rw [upd_ne (Ne.symm n1)]; exact e1, by rw [upd_ne (Ne.symm n2)]; exact e2⟩
theorem Xd.trans {d l : Addr} {H H1 H2 : Hp} (a : Xd d l H H1) (b : Xd d l H1 H2) : Xd d l H H2 :=
  ⟨a.1, b.2.1, fun c o n1 n2 h => b.2.2.1 c o n1 n2 (a.2.2.1 c o n1 n2 h), fun c h => a.2.2.2 c (b.2.2.2 c h)⟩
theorem Xd.refl {d l : Addr} {H : Hp} (h : Deal d l H) : Xd d l H H := ⟨h, h, fun _ _ _ _ q => q, fun _ q => q⟩
theorem Xd.ofEx {d l : Addr} {H H' : Hp} (h : Deal d l H) (e : Ex H H') : Xd d l H H' := ⟨h, h.of e, fun c o _ _ q => e c o q, fun c q => e.back q⟩
theorem Xd.im {d l : Addr} {H H' : Hp} (x : Xd d l H H') : Im H H' := fun a xs h => by
  obtain ⟨_, ns, m, _, e1, e2⟩ := x.1
  have n1 : a ≠ d := fun z => by
    subst z
    rcases h with h | ⟨o, h⟩ <;> (rw [e1] at h; cases h)
  have n2 : a ≠ l := fun z => by
    subst z
    rcases h with h | ⟨o, h⟩ <;> (rw [e2] at h; cases h)
  rcases h with h | ⟨o, h⟩
  · exact .inl (x.2.2.1 _ _ n1 n2 h)
  · exact .inr ⟨o, x.2.2.1 _ _ n1 n2 h⟩
def RX (d l : Addr) : Rl where
  r := Xd d l
  ex := fun a => a = d ∨ a = l
  again := fun x => Xd.refl x.2.1
  trans := Xd.trans
  keep := fun x n h => x.2.2.1 _ _ (fun z => n (.inl z)) (fun z => n (.inr z)) h
  im := Xd.im
  back := fun x h => x.2.2.2 _ h
  live := fun x h z => by
    rcases z with rfl | rfl
    · exact x.2.1.d_some h
    · exact x.2.1.l_some h
  put := fun {H H' a o} x h => by
    have n1 : a ≠ d := fun z => by subst z; exact x.1.d_some h
    have n2 : a ≠ l := fun z => by subst z; exact x.1.l_some h
    refine ⟨x.1, x.2.1.put n1 n2, fun c u m1 m2 q => ?_, fun c q => ?_⟩
    · rw [upd_ne (ne_of_none q h)]
      exact x.2.2.1 c u m1 m2 q
    · by_cases e : c = a
      · rw [e]; exact h
      · rw [upd_ne e] at q
        exact x.2.2.2 c q
  ofEx := fun x e => Xd.ofEx x.2.1 e

section
variable (R : Rl)
theorem Rl.new {H0 H : Hp} {a : Addr} {o : HO} (x : R.r H0 H) (h : H a = none) : R.r H (upd H a o) := R.put (R.again x) h
end

/-! ### what is said of a value, stable while the tuples stay -/
structure Pr where
  P : V → Hp → Prop
  mo : ∀ {v H H'}, Im H H' → P v H → P v H'
/-- it is this data -/
def Pr.d (K : PySem.W.Frag) (d : PyData) : Pr := ⟨fun v H => Tp K H d v, fun r h => h.mono r d _⟩
/-- it is this value -/
def Pr.v (x : V) : Pr := ⟨fun v _ => v = x, fun _ h => h⟩
/-- a value of which something is true whatever the heap -/
def Pr.p (C : V → Prop) : Pr := ⟨fun v _ => C v, fun _ h => h⟩
def Pr.and (A B : Pr) : Pr := ⟨fun v H => A.P v H ∧ B.P v H, fun r h => ⟨A.mo r h.1, B.mo r h.2⟩⟩
def Pr.any {α : Type} (f : α → Pr) : Pr := ⟨fun v H => ∃ x, (f x).P v H, fun r h => let ⟨x, q⟩ := h; ⟨x, (f x).mo r q⟩⟩

abbrev Env' := List (Option Pr)
/-- the slots: none: nothing is said of it -/
def Slots (σ : L2.St) (env : Env') (H : Hp) : Prop :=
  σ.length = env.length ∧ ∀ (i : Nat) (P : Pr), env[i]? = some (some P) → ∃ v, σ[i]? = some (some v) ∧ P.P v H
section
variable {σ : L2.St} {env : Env'} {H H' : Hp}
theorem Slots.mono (s : Slots σ env H) (r : Im H H') : Slots σ env H' := ⟨s.1, fun i P e => let ⟨v, a, b⟩ := s.2 i P e; ⟨v, a, P.mo r b⟩⟩
theorem Slots.set {v : V} {P : Pr} {i : Nat} (s : Slots σ env H) (h : P.P v H) : Slots (σ.set i (some v)) (env.set i (some P)) H := by
  refine ⟨by rw [List.length_set, List.length_set]; exact s.1, fun j Q e => ?_⟩
  by_cases ij : i = j
  · subst ij
    by_cases hi : i < env.length
    · rw [List.getElem?_set_self hi] at e
      cases e
      exact ⟨v, by rw [List.getElem?_set_self (by rw [s.1]; exact hi)], h⟩
    · rw [List.getElem?_eq_none (by rw [List.length_set]; omega)] at e
      cases e
  · rw [List.getElem?_set_ne ij] at e ⊢
    exact s.2 j Q e
/-- forget -/
theorem Slots.weak {env' : Env'} (s : Slots σ env H) (hl : env'.length = env.length) (h : ∀ (i : Nat) (P : Pr), env'[i]? = some (some P) → env[i]? = some (some P)) : Slots σ env' H :=
  ⟨s.1.trans hl.symm, fun i P e => s.2 i P (h i P e)⟩
theorem Slots.nones {n : Nat} : Slots (List.replicate n none) (List.replicate n none) H := ⟨by simp, fun i P e => by
  rw [List.getElem?_replicate] at e
  split at e <;> cases e⟩
theorem Slots.cons {v : V} {P : Pr} (h : P.P v H) (s : Slots σ env H) : Slots (some v :: σ) (some P :: env) H := ⟨by simp [s.1], fun i Q e => by
  cases i with
  | zero => cases e; exact ⟨v, rfl, h⟩
  | succ i => exact s.2 i Q (by simpa using e)⟩
/-- something else is said of a slot -/
theorem Slots.imp {P P' : Pr} {i : Nat} (s : Slots σ env H) (hi : env[i]? = some (some P)) (h : ∀ v, P.P v H → P'.P v H) : Slots σ (env.set i (some P')) H := by
  obtain ⟨v, e1, e2⟩ := s.2 i P hi
  have q := Slots.set (i := i) (v := v) (P := P') s (h v e2)
  rwa [show σ.set i (some v) = σ from by
    apply List.ext_getElem?
    intro j
    by_cases ij : i = j
    · subst ij
      have hl : i < σ.length := (List.getElem?_eq_some_iff.mp e1).1
      rw [List.getElem?_set_self hl, e1]
    · rw [List.getElem?_set_ne ij]] at q
/-- a slot emptied -/
theorem Slots.none_ {i : Nat} (s : Slots σ env H) : Slots (σ.set i none) (env.set i none) H := by
  refine ⟨by rw [List.length_set, List.length_set]; exact s.1, fun j Q e => ?_⟩
  by_cases ij : i = j
  · subst ij
    by_cases hi : i < env.length
    · rw [List.getElem?_set_self hi] at e
      cases e
    · rw [List.getElem?_eq_none (by rw [List.length_set]; omega)] at e
      cases e
  · rw [List.getElem?_set_ne ij] at e ⊢
    exact s.2 j Q e
end
def wipeE (env : Env') : List Nat → Env'
  | [] => env
  | v :: vs => (wipeE env vs).set v none
theorem Slots.wipe {σ : L2.St} {env : Env'} {H : Hp} (s : Slots σ env H) : ∀ vs : List Nat, Slots (L2.wipe σ vs) (wipeE env vs) H
  | [] => s
  | v :: vs => (Slots.wipe s vs).none_
/-- values as told -/
abbrev Vs (Ps : List Pr) (vs : List V) (H : Hp) : Prop := Paired (fun x (P : Pr) => P.P x H) vs Ps
theorem Vs.mono {Ps : List Pr} {vs : List V} {H H' : Hp} (i : Im H H') (h : Vs Ps vs H) : Vs Ps vs H' := L2.Paired.mapP h fun x P z => P.mo i z

/-! ### evaluation -/
section
variable (R : Rl)
/-- from H on, over slots as env tells, te gives a value of which P is true -/
def Ev (te : TE) (env : Env') (H : Hp) (P : Pr) : Prop :=
  ∀ (σ : L2.St) (H1 : Hp), R.r H H1 → Slots σ env H1 → ∀ Q : VK, (∀ v H2, R.r H1 H2 → P.P v H2 → Q v H2) → te σ H1 Q
/-- .. a new list -/
def EvL (te : TE) (env : Env') (H : Hp) (C : List V → Hp → Prop) : Prop :=
  ∀ (σ : L2.St) (H1 : Hp), R.r H H1 → Slots σ env H1 → ∀ Q : VK, (∀ p xs H2, R.r H1 H2 → H1 p = none → H2 p = some (.lst xs) → C xs H2 → Q (.ref p) H2) → te σ H1 Q
def EvT (tt : TT) (env : Env') (H : Hp) (b : Bool) : Prop :=
  ∀ (σ : L2.St) (H1 : Hp), R.r H H1 → Slots σ env H1 → ∀ Q : Bool → Hp → Prop, (∀ H2, R.r H1 H2 → Q b H2) → tt σ H1 Q
def EvA (ta : TA) (env : Env') (H : Hp) (Ps : List Pr) : Prop :=
  ∀ (σ : L2.St) (H1 : Hp), R.r H H1 → Slots σ env H1 → ∀ Q : List V → Hp → Prop, (∀ vs H2, R.r H1 H2 → Vs Ps vs H2 → Q vs H2) → ta σ H1 Q
end
section
variable {R : Rl} {env : Env'} {H H' : Hp} {ta tb te : TE} {t u : TT} {P P' Q' : Pr} {C C' : List V → Hp → Prop}
theorem Rl.imm {R : Rl} {H H' : Hp} (r : R.r H H') : Im H H' := R.im r
theorem Ev.later (h : Ev R te env H P) (r : R.r H H') : Ev R te env H' P := fun σ H1 r1 s => h σ H1 (R.trans r r1) s
theorem EvL.later (h : EvL R te env H C) (r : R.r H H') : EvL R te env H' C := fun σ H1 r1 s => h σ H1 (R.trans r r1) s
theorem EvT.later {b : Bool} (h : EvT R t env H b) (r : R.r H H') : EvT R t env H' b := fun σ H1 r1 s => h σ H1 (R.trans r r1) s
theorem EvA.later {ta : TA} {Ps : List Pr} (h : EvA R ta env H Ps) (r : R.r H H') : EvA R ta env H' Ps := fun σ H1 r1 s => h σ H1 (R.trans r r1) s
theorem Ev.imp (h : Ev R te env H P) (i : ∀ v H2, R.r H H2 → P.P v H2 → P'.P v H2) : Ev R te env H P' := fun σ H1 r1 s Q q => h σ H1 r1 s Q fun v H2 r2 p => q v H2 r2 (i v H2 (R.trans r1 r2) p)
theorem EvL.imp (h : EvL R te env H C) (i : ∀ xs H2, R.r H H2 → C xs H2 → C' xs H2) : EvL R te env H C' := fun σ H1 r1 s Q q => h σ H1 r1 s Q fun p xs H2 r2 n e c => q p xs H2 r2 n e (i xs H2 (R.trans r1 r2) c)
theorem ev_var {i : Nat} (h : env[i]? = some (some P)) : Ev R (tVar i) env H P := fun σ H1 r1 s Q q => by
  obtain ⟨v, e, p⟩ := s.2 i P h
  exact ⟨v, e, q v H1 (R.again r1) p⟩
theorem ev_cv {v : V} : Ev R (tC v) env H (Pr.v v) := fun σ H1 r1 _ Q q => q v H1 (R.again r1) rfl
theorem ea_nil : EvA R tNil env H [] := fun σ H1 r1 _ Q q => q [] H1 (R.again r1) .nil
theorem ea_cons {tr : TA} {Ps : List Pr} (h : Ev R ta env H P) (k : EvA R tr env H Ps) : EvA R (tCons ta tr) env H (P :: Ps) := fun σ H1 r1 s Q q =>
  h σ H1 r1 s _ fun v H2 r2 p => k σ H2 (R.trans r1 r2) (s.mono (R.im r2)) _ fun vs H3 r3 ps => q (v :: vs) H3 (R.trans r2 r3) (.cons (P.mo (R.im r3) p) ps)
/-- two operands, then an operation by values -/
theorem ev_op {r : R2} (ha : Ev R ta env H P) (hb : Ev R tb env H P')
    (hr : ∀ x y H1, R.r H H1 → P.P x H1 → P'.P y H1 → ∀ Q : VK, (∀ z H2, R.r H1 H2 → Q'.P z H2 → Q z H2) → r x y H1 Q) : Ev R (tOp r ta tb) env H Q' := fun σ H1 r1 s Q q =>
  ha σ H1 r1 s _ fun x H2 r2 px => hb σ H2 (R.trans r1 r2) (s.mono (R.im r2)) _ fun y H3 r3 py =>
    hr x y H3 (R.trans r1 (R.trans r2 r3)) (P.mo (R.im r3) px) py Q fun z H4 r4 pz => q z H4 (R.trans r2 (R.trans r3 r4)) pz
theorem ev_opL {r : R2} (ha : Ev R ta env H P) (hb : Ev R tb env H P')
    (hr : ∀ x y H1, R.r H H1 → P.P x H1 → P'.P y H1 → ∀ Q : VK, (∀ p xs H2, R.r H1 H2 → H1 p = none → H2 p = some (.lst xs) → C xs H2 → Q (.ref p) H2) → r x y H1 Q) : EvL R (tOp r ta tb) env H C := fun σ H1 r1 s Q q =>
  ha σ H1 r1 s _ fun x H2 r2 px => hb σ H2 (R.trans r1 r2) (s.mono (R.im r2)) _ fun y H3 r3 py =>
    hr x y H3 (R.trans r1 (R.trans r2 r3)) (P.mo (R.im r3) px) py Q fun p xs H4 r4 n e c => q p xs H4 (R.trans r2 (R.trans r3 r4)) (R.back (R.trans r2 r3) n) e c
theorem ev_un {r : V → Hp → VK → Prop} (ha : Ev R ta env H P)
    (hr : ∀ x H1, R.r H H1 → P.P x H1 → ∀ Q : VK, (∀ z H2, R.r H1 H2 → Q'.P z H2 → Q z H2) → r x H1 Q) : Ev R (tUn r ta) env H Q' := fun σ H1 r1 s Q q =>
  ha σ H1 r1 s _ fun x H2 r2 px => hr x H2 (R.trans r1 r2) px Q fun z H4 r4 pz => q z H4 (R.trans r2 r4) pz
/-- a call by values (a built-in; a def by its promise: tCall) -/
theorem ev_cb {r : List V → Hp → VK → Prop} {t : TA} {Ps : List Pr} (ha : EvA R t env H Ps)
    (hr : ∀ vs H1, R.r H H1 → Vs Ps vs H1 → ∀ Q : VK, (∀ z H2, R.r H1 H2 → Q'.P z H2 → Q z H2) → r vs H1 Q) : Ev R (tCB r t) env H Q' := fun σ H1 r1 s Q q =>
  ha σ H1 r1 s _ fun vs H2 r2 px => hr vs H2 (R.trans r1 r2) px Q fun z H4 r4 pz => q z H4 (R.trans r2 r4) pz
theorem ev_cbL {r : List V → Hp → VK → Prop} {t : TA} {Ps : List Pr} (ha : EvA R t env H Ps)
    (hr : ∀ vs H1, R.r H H1 → Vs Ps vs H1 → ∀ Q : VK, (∀ p xs H2, R.r H1 H2 → H1 p = none → H2 p = some (.lst xs) → C xs H2 → Q (.ref p) H2) → r vs H1 Q) : EvL R (tCB r t) env H C := fun σ H1 r1 s Q q =>
  ha σ H1 r1 s _ fun vs H2 r2 px => hr vs H2 (R.trans r1 r2) px Q fun p xs H4 r4 n e c => q p xs H4 (R.trans r2 r4) (R.back r2 n) e c
/-- .. of a new list alone -/
theorem ev_cbN {r : List V → Hp → VK → Prop} (ha : EvL R ta env H C)
    (hr : ∀ p xs H1, R.r H H1 → H1 p = some (.lst xs) → ¬ R.ex p → C xs H1 → ∀ Q : VK, (∀ z H2, R.r H1 H2 → Q'.P z H2 → Q z H2) → r [.ref p] H1 Q) : Ev R (tCB r (tCons ta tNil)) env H Q' := fun σ H1 r1 s Q q =>
  ha σ H1 r1 s _ fun p xs H2 r2 n e c => hr p xs H2 (R.trans r1 r2) e (R.live r1 n) c Q fun z H4 r4 pz => q z H4 (R.trans r2 r4) pz
theorem ev_cbNL {r : List V → Hp → VK → Prop} (ha : EvL R ta env H C)
    (hr : ∀ p xs H1, R.r H H1 → H1 p = some (.lst xs) → ¬ R.ex p → C xs H1 → ∀ Q : VK, (∀ p xs H2, R.r H1 H2 → H1 p = none → H2 p = some (.lst xs) → C' xs H2 → Q (.ref p) H2) → r [.ref p] H1 Q) : EvL R (tCB r (tCons ta tNil)) env H C' := fun σ H1 r1 s Q q =>
  ha σ H1 r1 s _ fun p xs H2 r2 n e c => hr p xs H2 (R.trans r1 r2) e (R.live r1 n) c Q fun p' xs' H4 r4 n4 e4 c4 => q p' xs' H4 (R.trans r2 r4) (R.back r2 n4) e4 c4
theorem ev_call {sp : Sp} {E : XK} {t : TA} {Ps : List Pr} (ha : EvA R t env H Ps)
    (hr : ∀ vs H1, R.r H H1 → Vs Ps vs H1 → ∀ Q : VK, (∀ z H2, R.r H1 H2 → Q'.P z H2 → Q z H2) → sp vs H1 Q E) : Ev R (tCall sp [] E t) env H Q' := fun σ H1 r1 s Q q =>
  ha σ H1 r1 s _ fun vs H2 r2 px => by
    rw [List.append_nil]
    exact hr vs H2 (R.trans r1 r2) px Q fun z H4 r4 pz => q z H4 (R.trans r2 r4) pz
theorem ev_callL {sp : Sp} {E : XK} {t : TA} {Ps : List Pr} (ha : EvA R t env H Ps)
    (hr : ∀ vs H1, R.r H H1 → Vs Ps vs H1 → ∀ Q : VK, (∀ p xs H2, R.r H1 H2 → H1 p = none → H2 p = some (.lst xs) → C xs H2 → Q (.ref p) H2) → sp vs H1 Q E) : EvL R (tCall sp [] E t) env H C := fun σ H1 r1 s Q q =>
  ha σ H1 r1 s _ fun vs H2 r2 px => by
    rw [List.append_nil]
    exact hr vs H2 (R.trans r1 r2) px Q fun p xs H4 r4 n e c => q p xs H4 (R.trans r2 r4) (R.back r2 n) e c
/-- .. of a new list alone -/
theorem ev_callN {sp : Sp} {E : XK} (ha : EvL R ta env H C)
    (hr : ∀ p xs H1, R.r H H1 → H1 p = some (.lst xs) → ¬ R.ex p → C xs H1 → ∀ Q : VK, (∀ z H2, R.r H1 H2 → Q'.P z H2 → Q z H2) → sp [.ref p] H1 Q E) : Ev R (tCall sp [] E (tCons ta tNil)) env H Q' := fun σ H1 r1 s Q q =>
  ha σ H1 r1 s _ fun p xs H2 r2 n e c => by
    show sp [V.ref p] H2 Q E
    exact hr p xs H2 (R.trans r1 r2) e (R.live r1 n) c Q fun z H4 r4 pz => q z H4 (R.trans r2 r4) pz
/-! tests -/
theorem et_test {b : Bool} (h : Ev R te env H (Pr.v (.bl b))) : EvT R (tTest te) env H b := fun σ H1 r1 s Q q => h σ H1 r1 s _ fun v H2 r2 p => ⟨b, p, q H2 r2⟩
theorem et_B {b : Bool} (h : Ev R te env H (Pr.v (.bl b))) : EvT R (tB te) env H b := fun σ H1 r1 s Q q => h σ H1 r1 s _ fun v H2 r2 p => ⟨b, p, q H2 r2⟩
theorem et_and {a b : Bool} (h1 : EvT R t env H a) (h2 : a = true → EvT R u env H b) : EvT R (tAnd t u) env H (a && b) := fun σ H1 r1 s Q q => h1 σ H1 r1 s _ fun H2 r2 => by
  cases a with
  | true =>
    show u σ H2 Q
    exact h2 rfl σ H2 (R.trans r1 r2) (s.mono (R.im r2)) Q fun H3 r3 => q H3 (R.trans r2 r3)
  | false =>
    show Q false H2
    exact q H2 r2
theorem et_or {a b : Bool} (h1 : EvT R t env H a) (h2 : a = false → EvT R u env H b) : EvT R (tOr t u) env H (a || b) := fun σ H1 r1 s Q q => h1 σ H1 r1 s _ fun H2 r2 => by
  cases a with
  | false =>
    show u σ H2 Q
    exact h2 rfl σ H2 (R.trans r1 r2) (s.mono (R.im r2)) Q fun H3 r3 => q H3 (R.trans r2 r3)
  | true =>
    show Q true H2
    exact q H2 r2
theorem et_not {a : Bool} (h : EvT R t env H a) : EvT R (tNot t) env H (!a) := fun σ H1 r1 s Q q => h σ H1 r1 s _ fun H2 r2 => q H2 r2
theorem et_is {a b : Bool} (h : EvT R t env H a) (e : a = b) : EvT R t env H b := e ▸ h
theorem et_yes : EvT R tYes env H true := fun σ H1 r1 _ Q q => q H1 (R.again r1)
theorem ev_andV {a b : Bool} (h1 : Ev R ta env H (Pr.v (.bl a))) (h2 : a = true → Ev R tb env H (Pr.v (.bl b))) : Ev R (tAndV ta tb) env H (Pr.v (.bl (a && b))) := fun σ H1 r1 s Q q => h1 σ H1 r1 s _ fun v H2 r2 p => ⟨a, p, by
  cases a with
  | true =>
    show tb σ H2 Q
    exact h2 rfl σ H2 (R.trans r1 r2) (s.mono (R.im r2)) Q fun v H3 r3 p => q v H3 (R.trans r2 r3) p
  | false =>
    show Q (.bl false) H2
    exact q _ H2 r2 rfl⟩
theorem ev_notV {a : Bool} (h : Ev R ta env H (Pr.v (.bl a))) : Ev R (tNotV ta) env H (Pr.v (.bl (!a))) := fun σ H1 r1 s Q q => h σ H1 r1 s _ fun v H2 r2 p => ⟨a, p, q _ H2 r2 rfl⟩
theorem ev_if {b : Bool} (h : EvT R t env H b) (h1 : b = true → Ev R ta env H P) (h2 : b = false → Ev R tb env H P) : Ev R (tIf t ta tb) env H P := fun σ H1 r1 s Q q => h σ H1 r1 s _ fun H2 r2 => by
  cases b with
  | true =>
    show ta σ H2 Q
    exact h1 rfl σ H2 (R.trans r1 r2) (s.mono (R.im r2)) Q fun v H3 r3 p => q v H3 (R.trans r2 r3) p
  | false =>
    show tb σ H2 Q
    exact h2 rfl σ H2 (R.trans r1 r2) (s.mono (R.im r2)) Q fun v H3 r3 p => q v H3 (R.trans r2 r3) p
/-- a chain of two comparisons -/
theorem ev_chain {r r' : R2} {tc : TE} {a b : Bool} {P'' : Pr} (ha : Ev R ta env H P) (hb : Ev R tb env H P') (hc : Ev R tc env H P'')
    (hr : ∀ x y H1, R.r H H1 → P.P x H1 → P'.P y H1 → ∀ Q : VK, Q (.bl a) H1 → r x y H1 Q) (hr' : a = true → ∀ y z H1, R.r H H1 → P'.P y H1 → P''.P z H1 → ∀ Q : VK, Q (.bl b) H1 → r' y z H1 Q) :
    Ev R (tChain r r' ta tb tc) env H (Pr.v (.bl (a && b))) := fun σ H1 r1 s Q q =>
  ha σ H1 r1 s _ fun x H2 r2 px => hb σ H2 (R.trans r1 r2) (s.mono (R.im r2)) _ fun y H3 r3 py =>
    hr x y H3 (R.trans r1 (R.trans r2 r3)) (P.mo (R.im r3) px) py _ ⟨a, rfl, by
      cases a with
      | true =>
        show tc σ H3 _
        exact hc σ H3 (R.trans r1 (R.trans r2 r3)) (s.mono (R.im (R.trans r2 r3))) _ fun z H4 r4 pz =>
          hr' rfl y z H4 (R.trans r1 (R.trans r2 (R.trans r3 r4))) (P'.mo (R.im r4) py) pz Q (q _ H4 (R.trans r2 (R.trans r3 r4)) rfl)
      | false =>
        show Q (.bl false) H3
        exact q _ H3 (R.trans r2 r3) rfl⟩
/-! displays -/
theorem ev_tup {t : TA} {Ps : List Pr} (ha : EvA R t env H Ps) (hl : Ps.length ≤ 100000)
    (hr : ∀ p vs H1, H1 p = some (.tup vs) → Vs Ps vs H1 → P.P (.ref p) H1) : Ev R (tTup t) env H P := fun σ H1 r1 s Q q =>
  ha σ H1 r1 s _ fun vs H2 r2 ps => ⟨by
    rw [Paired.length ps]
    exact Nat.le_trans hl (by decide), fun p hp => by
    have r3 : R.r H2 (upd H2 p (.tup vs)) := R.new r2 hp
    exact q _ _ (R.trans r2 r3) (hr p vs _ upd_same (Vs.mono (R.im r3) ps))⟩
theorem ev_lst {t : TA} {Ps : List Pr} (ha : EvA R t env H Ps) (hl : Ps.length ≤ 100000) : EvL R (tLst t) env H (Vs Ps) := fun σ H1 r1 s Q q =>
  ha σ H1 r1 s _ fun vs H2 r2 ps => ⟨by
    rw [Paired.length ps]
    exact Nat.le_trans hl (by decide), fun p hp => by
    have r3 : R.r H2 (upd H2 p (.lst vs)) := R.new r2 hp
    exact q _ _ _ (R.trans r2 r3) (R.back r2 hp) upd_same (Vs.mono (R.im r3) ps)⟩
end

/-! ### data -/
section
variable {R : Rl} {K : PySem.W.Frag} {env : Env'} {H : Hp} {ta tb te : TE}
theorem vs_d : ∀ {ds : List PyData} {vs : List V} {H : Hp}, Vs (ds.map (Pr.d K)) vs H → Tps K H ds vs
  | [], _, _, h => by
    cases h
    exact tps_nil
  | d :: ds, _, _, h => by
    cases h with
    | cons r q => exact tps_cons r (vs_d q)
theorem d_vs : ∀ {ds : List PyData} {vs : List V} {H : Hp}, Tps K H ds vs → Vs (ds.map (Pr.d K)) vs H
  | [], _, _, h => by
    rw [h.nil_]
    exact .nil
  | d :: ds, _, _, h => by
    obtain ⟨x, r, rfl, h1, h2⟩ := h.cons_
    exact .cons h1 (d_vs h2)
/-- a tuple of data -/
theorem ev_tupD {t : TA} {ds : List PyData} (ha : EvA R t env H (ds.map (Pr.d K))) (hl : ds.length ≤ 100000) : Ev R (tTup t) env H (Pr.d K (.tuple ds)) :=
  ev_tup ha (by rw [List.length_map]; exact hl) fun p vs H1 hp q => tp_tup (.inl (.inl hp)) (vs_d q)
theorem ev_dv {d : PyData} {v : V} (h : Ev R te env H (Pr.v v)) (e : ∀ H', Tp K H' d v) : Ev R te env H (Pr.d K d) := h.imp fun x H2 _ p => by
  have p' : x = v := p
  rw [p']
  exact e H2
theorem ev_int_v {i : Int} (h : Ev R te env H (Pr.d K (.int i))) : Ev R te env H (Pr.v (.int i)) := h.imp fun v H2 _ p => Tp.int_ (K := K) (H := H2) p
theorem ev_v_int {i : Int} (h : Ev R te env H (Pr.v (.int i))) : Ev R te env H (Pr.d K (.int i)) := ev_dv h fun _ => tp_int
theorem ev_bl_v {i : Bool} (h : Ev R te env H (Pr.d K (.bool i))) : Ev R te env H (Pr.v (.bl i)) := h.imp fun v H2 _ p => Tp.bool_ (K := K) (H := H2) p
theorem ev_v_bl {i : Bool} (h : Ev R te env H (Pr.v (.bl i))) : Ev R te env H (Pr.d K (.bool i)) := ev_dv h fun _ => tp_bool
theorem ev_str_v {i : Str} (h : Ev R te env H (Pr.d K (.str i))) : Ev R te env H (Pr.v (.str i)) := h.imp fun v H2 _ p => Tp.str_ (K := K) (H := H2) p
theorem ev_v_str {i : Str} (h : Ev R te env H (Pr.v (.str i))) : Ev R te env H (Pr.d K (.str i)) := ev_dv h fun _ => tp_str
end

/-! ### statements -/
section
variable {R : Rl} {σ : L2.St} {env : Env'} {H : Hp} {te ta : TE} {P : Pr} {C : List V → Hp → Prop} {D : Ends} {t u z : TS} {c : TT} {i : Nat}
theorem q_asg (s : Slots σ env H) (r : R.r H H) (h : Ev R te env H P) (k : ∀ σ' H1, R.r H H1 → Slots σ' (env.set i (some P)) H1 → z D σ' H1) : tSeq (tAsg te (gName i)) z D σ H :=
  h σ H r s _ fun v H1 r1 p => k _ H1 r1 ((s.mono (R.im r1)).set p)
theorem s_asg (s : Slots σ env H) (r : R.r H H) (h : Ev R te env H P) (k : ∀ σ' H1, R.r H H1 → Slots σ' (env.set i (some P)) H1 → D.nx σ' H1) : tAsg te (gName i) D σ H :=
  h σ H r s _ fun v H1 r1 p => k _ H1 r1 ((s.mono (R.im r1)).set p)
theorem q_asgL (s : Slots σ env H) (r : R.r H H) (h : EvL R te env H C) (k : ∀ p xs σ' H1, R.r H H1 → H p = none → H1 p = some (.lst xs) → C xs H1 → Slots σ' (env.set i (some (Pr.v (.ref p)))) H1 → z D σ' H1) : tSeq (tAsg te (gName i)) z D σ H :=
  h σ H r s _ fun p xs H1 r1 n e c => k p xs _ H1 r1 n e c ((s.mono (R.im r1)).set (v := .ref p) rfl)
theorem s_asgL (s : Slots σ env H) (r : R.r H H) (h : EvL R te env H C) (k : ∀ p xs σ' H1, R.r H H1 → H p = none → H1 p = some (.lst xs) → C xs H1 → Slots σ' (env.set i (some (Pr.v (.ref p)))) H1 → D.nx σ' H1) : tAsg te (gName i) D σ H :=
  h σ H r s _ fun p xs H1 r1 n e c => k p xs _ H1 r1 n e c ((s.mono (R.im r1)).set (v := .ref p) rfl)
theorem q_if {b : Bool} (s : Slots σ env H) (r : R.r H H) (h : EvT R c env H b) (h1 : b = true → ∀ H1, R.r H H1 → Slots σ env H1 → t { D with nx := z D } σ H1) (h2 : b = false → ∀ H1, R.r H H1 → Slots σ env H1 → u { D with nx := z D } σ H1) : tSeq (tIfS c t u) z D σ H :=
  h σ H r s _ fun H1 r1 => by
    cases b with
    | true => exact iteT (h1 rfl H1 r1 (s.mono (R.im r1)))
    | false => exact iteF (h2 rfl H1 r1 (s.mono (R.im r1)))
theorem s_if {b : Bool} (s : Slots σ env H) (r : R.r H H) (h : EvT R c env H b) (h1 : b = true → ∀ H1, R.r H H1 → Slots σ env H1 → t D σ H1) (h2 : b = false → ∀ H1, R.r H H1 → Slots σ env H1 → u D σ H1) : tIfS c t u D σ H :=
  h σ H r s _ fun H1 r1 => by
    cases b with
    | true => exact iteT (h1 rfl H1 r1 (s.mono (R.im r1)))
    | false => exact iteF (h2 rfl H1 r1 (s.mono (R.im r1)))
/-- an if whose test is false, without else -/
theorem q_no (s : Slots σ env H) (r : R.r H H) (h : EvT R c env H false) (k : ∀ H1, R.r H H1 → Slots σ env H1 → z D σ H1) : tSeq (tIfS c t tNext) z D σ H :=
  q_if s r h (fun e => Bool.noConfusion e) fun _ H1 r1 s1 => k H1 r1 s1
theorem s_no (s : Slots σ env H) (r : R.r H H) (h : EvT R c env H false) (k : ∀ H1, R.r H H1 → Slots σ env H1 → D.nx σ H1) : tIfS c t tNext D σ H :=
  s_if s r h (fun e => Bool.noConfusion e) fun _ H1 r1 s1 => k H1 r1 s1
theorem s_ret (s : Slots σ env H) (r : R.r H H) (h : Ev R te env H P) (k : ∀ v H1, R.r H H1 → P.P v H1 → D.rt v H1) : tRet te D σ H := h σ H r s _ k
theorem s_retL (s : Slots σ env H) (r : R.r H H) (h : EvL R te env H C) (k : ∀ p xs H1, R.r H H1 → H p = none → H1 p = some (.lst xs) → C xs H1 → D.rt (.ref p) H1) : tRet te D σ H := h σ H r s _ k
theorem q_drop (s : Slots σ env H) (r : R.r H H) (h : Ev R te env H P) (k : ∀ H1, R.r H H1 → Slots σ env H1 → z D σ H1) : tSeq (tDrop te) z D σ H :=
  h σ H r s _ fun v H1 r1 _ => k H1 r1 (s.mono (R.im r1))
theorem s_drop (s : Slots σ env H) (r : R.r H H) (h : Ev R te env H P) (k : ∀ H1, R.r H H1 → Slots σ env H1 → D.nx σ H1) : tDrop te D σ H :=
  h σ H r s _ fun v H1 r1 _ => k H1 r1 (s.mono (R.im r1))
end
end Sd

set_option Elab.async false
set_option linter.all false
set_option maxRecDepth 100000
set_option maxHeartbeats 2000000
/-! Sd1: the readings of single operations, evaluated. -/
namespace Sd
open PySem PySem.Spec PyProof.Rows L2
abbrev rAddI : R2 := rI0 fun i j => .int (i + j)
abbrev rSubI : R2 := rI0 fun i j => .int (i - j)
abbrev rMulI : R2 := rI CMul fun i j => .int (i * j)
abbrev rModI : R2 := rI (fun _ j => 0 < j) fun i j => .int (i % j)
abbrev rDivI : R2 := rI CDiv fun i j => .int (i / j)
abbrev rPowI : R2 := rI CPow fun i j => .int (i ^ j.toNat)
abbrev rLtI : R2 := rI0 fun i j => .bl (decide (i < j))
abbrev rLeI : R2 := rI0 fun i j => .bl (decide (i ≤ j))
abbrev rGtI : R2 := rI0 fun i j => .bl (decide (j < i))
abbrev rGeI : R2 := rI0 fun i j => .bl (decide (j ≤ i))
section
variable {R : Rl} {K : PySem.W.Frag} {env : Env'} {H : Hp} {ta tb te : TE} {P P' : Pr}
theorem ev_I0 {g : Int → Int → V} {i j : Int} (ha : Ev R ta env H (Pr.v (.int i))) (hb : Ev R tb env H (Pr.v (.int j))) : Ev R (tOp (rI0 g) ta tb) env H (Pr.v (g i j)) :=
  ev_op ha hb fun x y H1 r1 px py Q q => ⟨i, j, px, py, q _ H1 (R.again r1) rfl⟩
theorem ev_I {C : Int → Int → Prop} {g : Int → Int → V} {i j : Int} (ha : Ev R ta env H (Pr.v (.int i))) (hb : Ev R tb env H (Pr.v (.int j))) (hc : C i j) : Ev R (tOp (rI C g) ta tb) env H (Pr.v (g i j)) :=
  ev_op ha hb fun x y H1 r1 px py Q q => ⟨i, j, px, py, hc, q _ H1 (R.again r1) rfl⟩
/-- .. of ints known by a property -/
theorem ev_I0p {g : Int → Int → V} {A B : Int → Prop} {C : V → Prop} (ha : Ev R ta env H (Pr.p fun v => ∃ i, v = .int i ∧ A i)) (hb : Ev R tb env H (Pr.p fun v => ∃ i, v = .int i ∧ B i)) (hc : ∀ i j, A i → B j → C (g i j)) : Ev R (tOp (rI0 g) ta tb) env H (Pr.p C) :=
  ev_op ha hb fun x y H1 r1 px py Q q => by
    obtain ⟨i, e1, a⟩ := px
    obtain ⟨j, e2, b⟩ := py
    exact ⟨i, j, e1, e2, q _ H1 (R.again r1) (hc i j a b)⟩
theorem ev_eqS {x y : V} (ha : Ev R ta env H (Pr.v x)) (hb : Ev R tb env H (Pr.v y)) (h : scal x y = true) : Ev R (tOp rEq ta tb) env H (Pr.v (.bl (decide (x = y)))) :=
  ev_op ha hb fun x y H1 r1 px py Q q => by
    have px' := px
    have py' := py
    cases px'
    cases py'
    exact ⟨h, q _ H1 (R.again r1) rfl⟩
theorem ev_neS {x y : V} (ha : Ev R ta env H (Pr.v x)) (hb : Ev R tb env H (Pr.v y)) (h : scal x y = true) : Ev R (tOp rNe ta tb) env H (Pr.v (.bl (!decide (x = y)))) :=
  ev_op ha hb fun x y H1 r1 px py Q q => by
    have px' := px
    have py' := py
    cases px'
    cases py'
    exact ⟨h, q _ H1 (R.again r1) rfl⟩
/-- == of data -/
theorem ev_eqD {d e : PyData} (ha : Ev R ta env H (Pr.d K d)) (hb : Ev R tb env H (Pr.d K e)) (h1 : SeqAt.shaped d = true) (h2 : SeqAt.shaped e = true) : Ev R (tOp (rEqD K) ta tb) env H (Pr.v (.bl (PyData.eqv d e))) :=
  ev_op ha hb fun x y H1 r1 px py Q q => ⟨d, e, Tp.dp d x px, Tp.dp e y py, h1, h2, q _ H1 (R.again r1) rfl⟩
theorem ev_neD {d e : PyData} (ha : Ev R ta env H (Pr.d K d)) (hb : Ev R tb env H (Pr.d K e)) (h1 : SeqAt.shaped d = true) (h2 : SeqAt.shaped e = true) : Ev R (tOp (rNeD K) ta tb) env H (Pr.v (.bl (!PyData.eqv d e))) :=
  ev_op ha hb fun x y H1 r1 px py Q q => ⟨d, e, Tp.dp d x px, Tp.dp e y py, h1, h2, q _ H1 (R.again r1) rfl⟩
/-! subscripts -/
theorem tps_atI {ds : List PyData} {xs : List V} {i : Int} {d : PyData} (ht : Tps K H ds xs) (h : atI ds i = some d) : ∃ v, atI xs i = some v ∧ Tp K H d v := by
  unfold atI at h ⊢
  rw [ht.length]
  cases e : ixN ds.length i with
  | none =>
    rw [e] at h
    cases h
  | some k =>
    rw [e] at h
    exact ht.get h
theorem ev_ixT {ds : List PyData} {d : PyData} {i : Int} (ha : Ev R ta env H (Pr.d K (.tuple ds))) (hb : Ev R tb env H (Pr.v (.int i))) (h : atI ds i = some d) : Ev R (tOp (rIxT K) ta tb) env H (Pr.d K d) :=
  ev_op ha hb fun x y H1 r1 px py Q q => by
    obtain ⟨a, xs, rfl, hx, ht⟩ := Tp.tup_ px
    obtain ⟨v, hv, tv⟩ := tps_atI ht h
    exact ⟨a, xs, i, v, rfl, py, hx, hv, q v H1 (R.again r1) tv⟩
theorem ev_ixL {xs : List V} {p : Addr} {x : V} {i : Int} (ha : Ev R ta env H (Pr.v (.ref p))) (hb : Ev R tb env H (Pr.v (.int i))) (hl : ∀ H1, R.r H H1 → SqL K H1 p xs) (h : atI xs i = some x) (hP : ∀ H1, R.r H H1 → P.P x H1) : Ev R (tOp (rIxL K) ta tb) env H P :=
  ev_op ha hb fun a y H1 r1 px py Q q => ⟨p, xs, i, x, px, py, hl H1 r1, h, q x H1 (R.again r1) (hP H1 r1)⟩
theorem ev_ixS {z : Str} {i : Int} {c : Nat} (ha : Ev R ta env H (Pr.v (.str z))) (hb : Ev R tb env H (Pr.v (.int i))) (hz : z.length ≤ 100000) (h : atI z.cps.toList i = some c) : Ev R (tOp rIxS ta tb) env H (Pr.v (.str ⟨#[c]⟩)) :=
  ev_op ha hb fun a y H1 r1 px py Q q => ⟨z, i, c, px, py, Nat.le_trans hz (by decide), h, q _ H1 (R.again r1) rfl⟩
/-! slices -/
end
/-- the items of xs[lo:hi], of any things -/
def cut {α : Type} (xs : List α) (lo hi : Option Int) : List α := (xs.drop (HT.sIx xs.length 0 lo)).take (HT.sIx xs.length xs.length hi - HT.sIx xs.length 0 lo)
theorem cutV_cut (xs : List V) (lo hi : Option Int) : cutV xs lo hi = cut xs lo hi := rfl
theorem cut_length {α : Type} (xs : List α) (lo hi : Option Int) : (cut xs lo hi).length ≤ xs.length := by
  unfold cut
  rw [List.length_take, List.length_drop]
  omega
theorem cut_to {α : Type} (xs : List α) (k : Nat) : cut xs none (some (k : Int)) = xs.take k := by
  unfold cut
  rw [HT.sIx_none, HT.sIx_nat, List.drop_zero, Nat.sub_zero]
  by_cases h : k ≤ xs.length
  · rw [Nat.min_eq_left h]
  · rw [Nat.min_eq_right (by omega), List.take_of_length_le (Nat.le_refl _), List.take_of_length_le (by omega)]
theorem cut_from {α : Type} (xs : List α) (k : Nat) : cut xs (some (k : Int)) none = xs.drop k := by
  unfold cut
  rw [HT.sIx_none, HT.sIx_nat]
  by_cases h : k ≤ xs.length
  · rw [Nat.min_eq_left h, List.take_of_length_le (by rw [List.length_drop] <;> omega)]
  · rw [Nat.min_eq_right (by omega), List.drop_of_length_le (Nat.le_refl _), List.drop_of_length_le (by omega), List.take_nil]
theorem cut_from_to {α : Type} (xs : List α) (j k : Nat) (hk : k ≤ xs.length) : cut xs (some (j : Int)) (some (k : Int)) = (xs.drop j).take (k - j) := by
  unfold cut
  rw [HT.sIx_nat, HT.sIx_nat, Nat.min_eq_left hk]
  by_cases h : j ≤ xs.length
  · rw [Nat.min_eq_left h]
  · rw [Nat.min_eq_right (by omega), List.drop_of_length_le (Nat.le_refl _), List.drop_of_length_le (show xs.length ≤ j by omega)]
    simp
theorem sIx_m1 (n d : Nat) : HT.sIx n d (some (-1)) = n - 1 := by
  show (if (-1 : Int) < 0 then ((-1 : Int) + (n : Int)).toNat else min (-1 : Int).toNat n) = n - 1
  rw [if_pos (by decide)]
  omega
theorem cut_butlast {α : Type} (xs : List α) : cut xs none (some (-1)) = xs.dropLast := by
  unfold cut
  rw [HT.sIx_none, sIx_m1, List.drop_zero, Nat.sub_zero, List.dropLast_eq_take]
theorem cut_last {α : Type} (xs : List α) : cut xs (some (-1)) none = xs.drop (xs.length - 1) := by
  unfold cut
  rw [HT.sIx_none, sIx_m1, List.take_of_length_le (by rw [List.length_drop] <;> omega)]
theorem cut_all {α : Type} (xs : List α) {lo hi : Option Int} (h : HT.sIx xs.length 0 lo = 0 ∧ HT.sIx xs.length xs.length hi = xs.length) : cut xs lo hi = xs := by
  unfold cut
  rw [h.1, h.2, List.drop_zero, Nat.sub_zero, List.take_length]
section
variable {R : Rl} {K : PySem.W.Frag} {env : Env'} {H : Hp} {ta tb te : TE} {P P' : Pr}
theorem Tps.cut {ds : List PyData} {xs : List V} (h : Tps K H ds xs) (lo hi : Option Int) : Tps K H (Sd.cut ds lo hi) (Sd.cut xs lo hi) := by
  unfold Sd.cut
  rw [h.length]
  exact (h.drop _).take _
/-- a slice's part -/
def EvO (R : Rl) (to : TO) (env : Env') (H : Hp) (o : Option Int) : Prop :=
  ∀ (σ : L2.St) (H1 : Hp), R.r H H1 → Slots σ env H1 → ∀ Q : Option Int → Hp → Prop, (∀ H2, R.r H1 H2 → Q o H2) → to σ H1 Q
theorem eo_none : EvO R tNoPart env H none := fun σ H1 r1 _ Q q => q H1 (R.again r1)
theorem eo_some {i : Int} (h : Ev R te env H (Pr.v (.int i))) : EvO R (tPart te) env H (some i) := fun σ H1 r1 s Q q => h σ H1 r1 s _ fun v H2 r2 p => ⟨i, p, q H2 r2⟩
theorem ev_slT {ds : List PyData} {lo hi : Option Int} {tl th : TO} (ha : Ev R ta env H (Pr.d K (.tuple ds))) (hl : EvO R tl env H lo) (hh : EvO R th env H hi) : Ev R (tSl (rSlA K) ta tl th) env H (Pr.d K (.tuple (cut ds lo hi))) := fun σ H1 r1 s Q q =>
  ha σ H1 r1 s _ fun x H2 r2 px => hl σ H2 (R.trans r1 r2) (s.mono (R.im r2)) _ fun H3 r3 => hh σ H3 (R.trans r1 (R.trans r2 r3)) (s.mono (R.im (R.trans r2 r3))) _ fun H4 r4 => by
    obtain ⟨a, xs, rfl, hx, ht⟩ := Tp.tup_ ((Pr.d K (.tuple ds)).mo (R.im (R.trans r3 r4)) px)
    refine ⟨a, xs, rfl, hx, fun hw => ?_, fun hw p hp => ?_⟩
    · refine q _ H4 (R.trans r2 (R.trans r3 r4)) (tp_tup hx ?_)
      rw [cut_all ds (by rw [← ht.length]; exact hw)]
      exact ht
    · have r5 : R.r H4 (upd H4 p (.tup (cutV xs lo hi))) := R.new r4 hp
      exact q _ _ (R.trans r2 (R.trans r3 (R.trans r4 r5))) (tp_tup (.inl (.inl upd_same)) (Tps.mono (R.im r5) _ _ (ht.cut lo hi)))
theorem ev_slL {xs : List V} {p : Addr} {lo hi : Option Int} {tl th : TO} (ha : Ev R ta env H (Pr.v (.ref p))) (hl : EvO R tl env H lo) (hh : EvO R th env H hi) (hx : ∀ H1, R.r H H1 → SqL K H1 p xs) : EvL R (tSl (rSlL K) ta tl th) env H (fun ys _ => ys = cut xs lo hi) := fun σ H1 r1 s Q q =>
  ha σ H1 r1 s _ fun x H2 r2 px => hl σ H2 (R.trans r1 r2) (s.mono (R.im r2)) _ fun H3 r3 => hh σ H3 (R.trans r1 (R.trans r2 r3)) (s.mono (R.im (R.trans r2 r3))) _ fun H4 r4 =>
    ⟨p, xs, px, hx H4 (R.trans r1 (R.trans r2 (R.trans r3 r4))), fun a ha => by
      have r5 : R.r H4 (upd H4 a (.lst (cutV xs lo hi))) := R.new r4 ha
      exact q _ _ _ (R.trans r2 (R.trans r3 (R.trans r4 r5))) (R.back (R.trans r2 (R.trans r3 r4)) ha) upd_same rfl⟩
/-! tuple + tuple -/
theorem ev_catT {ds es : List PyData} (ha : Ev R ta env H (Pr.d K (.tuple ds))) (hb : Ev R tb env H (Pr.d K (.tuple es))) (hz : ds.length + es.length ≤ 100000) : Ev R (tOp (rCatA K) ta tb) env H (Pr.d K (.tuple (ds ++ es))) :=
  ev_op ha hb fun x y H1 r1 px py Q q => by
    obtain ⟨a, xs, rfl, hx, ht⟩ := Tp.tup_ px
    obtain ⟨b, ys, rfl, hy, hu⟩ := Tp.tup_ py
    refine ⟨a, b, xs, ys, rfl, rfl, hx, hy, by rw [ht.length, hu.length]; exact Nat.le_trans hz (by decide), fun e => ?_, fun e1 e2 => ?_, fun e1 e2 p hp => ?_⟩
    · subst e
      have e0 : ds = [] := List.eq_nil_of_length_eq_zero ht.length.symm
      subst e0
      exact q _ H1 (R.again r1) py
    · subst e2
      have e0 : es = [] := List.eq_nil_of_length_eq_zero hu.length.symm
      subst e0
      refine q _ H1 (R.again r1) ?_
      rw [List.append_nil]
      exact px
    · have r5 : R.r H1 (upd H1 p (.tup (xs ++ ys))) := R.new r1 hp
      exact q _ _ r5 (tp_tup (.inl (.inl upd_same)) (Tps.mono (R.im r5) _ _ (ht.append hu)))
/-! built-ins -/
abbrev rLenSeq (K : PySem.W.Frag) : List V → Hp → VK → Prop := fun xs H Q => ∃ p ys, xs = [.ref p] ∧ (SqL K H p ys ∨ SqT K H p ys) ∧ Q (.int ys.length) H
abbrev rLenAny (K : PySem.W.Frag) : List V → Hp → VK → Prop := fun xs H Q => ∃ x n, xs = [x] ∧ LenV K x H n ∧ Q (.int n) H
theorem vs1 {P : Pr} {vs : List V} {H : Hp} (h : Vs [P] vs H) : ∃ x, vs = [x] ∧ P.P x H := by
  cases h with
  | cons a b =>
    cases b
    exact ⟨_, rfl, a⟩
theorem vs2 {P P' : Pr} {vs : List V} {H : Hp} (h : Vs [P, P'] vs H) : ∃ x y, vs = [x, y] ∧ P.P x H ∧ P'.P y H := by
  cases h with
  | cons a b =>
    obtain ⟨y, rfl, c⟩ := vs1 b
    exact ⟨_, y, rfl, a, c⟩
theorem vs3 {P P' P'' : Pr} {vs : List V} {H : Hp} (h : Vs [P, P', P''] vs H) : ∃ x y z, vs = [x, y, z] ∧ P.P x H ∧ P'.P y H ∧ P''.P z H := by
  cases h with
  | cons a b =>
    obtain ⟨y, z, rfl, c, d⟩ := vs2 b
    exact ⟨_, y, z, rfl, a, c, d⟩
theorem vs4 {P P' P'' P3 : Pr} {vs : List V} {H : Hp} (h : Vs [P, P', P'', P3] vs H) : ∃ x y z u, vs = [x, y, z, u] ∧ P.P x H ∧ P'.P y H ∧ P''.P z H ∧ P3.P u H := by
  cases h with
  | cons a b =>
    obtain ⟨y, z, u, rfl, c, d, e⟩ := vs3 b
    exact ⟨_, y, z, u, rfl, a, c, d, e⟩
theorem ev_lenT {ds : List PyData} (ha : Ev R ta env H (Pr.d K (.tuple ds))) : Ev R (tCB (rLenSeq K) (tCons ta tNil)) env H (Pr.v (.int (ds.length : Nat))) :=
  ev_cb (ea_cons ha ea_nil) fun vs H1 r1 pv Q q => by
    obtain ⟨x, rfl, px⟩ := vs1 pv
    obtain ⟨a, xs, rfl, hx, ht⟩ := Tp.tup_ px
    exact ⟨a, xs, rfl, .inr hx, q _ H1 (R.again r1) (by rw [ht.length] <;> rfl)⟩
theorem ev_lenL {xs : List V} {p : Addr} (ha : Ev R ta env H (Pr.v (.ref p))) (hx : ∀ H1, R.r H H1 → SqL K H1 p xs) : Ev R (tCB (rLenSeq K) (tCons ta tNil)) env H (Pr.v (.int (xs.length : Nat))) :=
  ev_cb (ea_cons ha ea_nil) fun vs H1 r1 pv Q q => by
    obtain ⟨x, rfl, px⟩ := vs1 pv
    cases (show x = .ref p from px)
    exact ⟨p, xs, rfl, .inl (hx H1 r1), q _ H1 (R.again r1) rfl⟩
theorem ev_lenS {z : Str} (ha : Ev R ta env H (Pr.v (.str z))) (hz : z.length ≤ 100000) : Ev R (tCB (rLenAny K) (tCons ta tNil)) env H (Pr.v (.int (z.length : Nat))) :=
  ev_cb (ea_cons ha ea_nil) fun vs H1 r1 pv Q q => by
    obtain ⟨x, rfl, px⟩ := vs1 pv
    cases (show x = .str z from px)
    exact ⟨.str z, z.length, rfl, ⟨Nat.le_trans hz (by decide), rfl⟩, q _ H1 (R.again r1) rfl⟩
abbrev rMax2 : List V → Hp → VK → Prop := fun xs H Q => ∃ i j, xs = [.int i, .int j] ∧ Q (.int (if j > i then j else i)) H
theorem ev_max2 {i j : Int} (ha : Ev R ta env H (Pr.v (.int i))) (hb : Ev R tb env H (Pr.v (.int j))) : Ev R (tCB rMax2 (tCons ta (tCons tb tNil))) env H (Pr.v (.int (max i j))) :=
  ev_cb (ea_cons ha (ea_cons hb ea_nil)) fun vs H1 r1 pv Q q => by
    obtain ⟨x, y, rfl, px, py⟩ := vs2 pv
    cases (show x = .int i from px)
    cases (show y = .int j from py)
    refine ⟨i, j, rfl, q _ H1 (R.again r1) ?_⟩
    show V.int (if j > i then j else i) = .int (max i j)
    congr 1
    split <;> omega
abbrev rInt1 : List V → Hp → VK → Prop := fun xs H Q => (∃ i, xs = [.int i] ∧ Q (.int i) H) ∨ ∃ k, xs = [.bl k] ∧ Q (.int (if k then 1 else 0)) H
theorem ev_int1 {i : Int} (ha : Ev R ta env H (Pr.v (.int i))) : Ev R (tCB rInt1 (tCons ta tNil)) env H (Pr.v (.int i)) :=
  ev_cb (ea_cons ha ea_nil) fun vs H1 r1 pv Q q => by
    obtain ⟨x, rfl, px⟩ := vs1 pv
    cases (show x = .int i from px)
    exact .inl ⟨i, rfl, q _ H1 (R.again r1) rfl⟩
abbrev rAbs : List V → Hp → VK → Prop := fun xs H Q => ∃ i, xs = [.int i] ∧ Q (.int (if i < 0 then -i else i)) H
abbrev rListOf (K : PySem.W.Frag) : List V → Hp → VK → Prop := fun xs H Q => ∃ p ys, xs = [.ref p] ∧ (SqL K H p ys ∨ SqT K H p ys) ∧ ∀ l, H l = none → Q (.ref l) (upd H l (.lst ys))
abbrev rTupleOf (K : PySem.W.Frag) : List V → Hp → VK → Prop := fun xs H Q => ∃ p ys, xs = [.ref p] ∧ ((SqL K H p ys ∧ ∀ l, H l = none → Q (.ref l) (upd H l (.tup ys))) ∨ (SqT K H p ys ∧ Q (.ref p) H))
theorem ev_listT {ds : List PyData} (ha : Ev R ta env H (Pr.d K (.tuple ds))) : EvL R (tCB (rListOf K) (tCons ta tNil)) env H (fun xs H' => Tps K H' ds xs) :=
  ev_cbL (ea_cons ha ea_nil) fun vs H1 r1 pv Q q => by
    obtain ⟨x, rfl, px⟩ := vs1 pv
    obtain ⟨a, xs, rfl, hx, ht⟩ := Tp.tup_ px
    exact ⟨a, xs, rfl, .inr hx, fun l hl => q l xs _ (R.new r1 hl) hl upd_same (Tps.mono (R.im (R.new r1 hl)) _ _ ht)⟩
theorem ev_listL {xs : List V} {p : Addr} (ha : Ev R ta env H (Pr.v (.ref p))) (hx : ∀ H1, R.r H H1 → SqL K H1 p xs) : EvL R (tCB (rListOf K) (tCons ta tNil)) env H (fun ys _ => ys = xs) :=
  ev_cbL (ea_cons ha ea_nil) fun vs H1 r1 pv Q q => by
    obtain ⟨x, rfl, px⟩ := vs1 pv
    cases (show x = .ref p from px)
    exact ⟨p, xs, rfl, .inl (hx H1 r1), fun l hl => q l xs _ (R.new r1 hl) hl upd_same rfl⟩
/-- tuple(a new list) -/
theorem ev_tupleN {ds : List PyData} {C : List V → Hp → Prop} (ha : EvL R ta env H C) (hC : ∀ xs H1, C xs H1 → Tps K H1 ds xs) : Ev R (tCB (rTupleOf K) (tCons ta tNil)) env H (Pr.d K (.tuple ds)) :=
  ev_cbN ha fun p xs H1 r1 e _ c Q q => ⟨p, xs, rfl, .inl ⟨.inl (.inl e), fun l hl => q _ _ (R.new r1 hl) (tp_tup (.inl (.inl upd_same)) (Tps.mono (R.im (R.new r1 hl)) _ _ (hC xs H1 c)))⟩⟩
theorem ev_tupleL {ds : List PyData} {xs : List V} {p : Addr} (ha : Ev R ta env H (Pr.v (.ref p))) (hx : ∀ H1, R.r H H1 → SqL K H1 p xs) (hd : Tps K H ds xs) : Ev R (tCB (rTupleOf K) (tCons ta tNil)) env H (Pr.d K (.tuple ds)) :=
  ev_cb (ea_cons ha ea_nil) fun vs H1 r1 pv Q q => by
    obtain ⟨x, rfl, px⟩ := vs1 pv
    cases (show x = .ref p from px)
    exact ⟨p, xs, rfl, .inl ⟨hx H1 r1, fun l hl => q _ _ (R.new r1 hl) (tp_tup (.inl (.inl upd_same)) (Tps.mono (R.im (R.trans r1 (R.new r1 hl))) _ _ hd))⟩⟩
theorem ev_tupleT {ds : List PyData} (ha : Ev R ta env H (Pr.d K (.tuple ds))) : Ev R (tCB (rTupleOf K) (tCons ta tNil)) env H (Pr.d K (.tuple ds)) :=
  ev_cb (ea_cons ha ea_nil) fun vs H1 r1 pv Q q => by
    obtain ⟨x, rfl, px⟩ := vs1 pv
    obtain ⟨a, xs, rfl, hx, ht⟩ := Tp.tup_ px
    exact ⟨a, xs, rfl, .inr ⟨hx, q _ H1 (R.again r1) px⟩⟩
theorem ev_sumN {ns : List Int} {C : List V → Hp → Prop} (ha : EvL R ta env H C) (hC : ∀ xs H1, C xs H1 → xs = ns.map V.int) : Ev R (tCB (rSum K) (tCons ta tNil)) env H (Pr.v (.int ns.sum)) :=
  ev_cbN ha fun p xs H1 r1 e _ c Q q => ⟨p, ns, rfl, .inl (.inl (by rw [← hC xs H1 c]; exact e)), q _ H1 (R.again r1) rfl⟩
theorem ev_allN {bs : List Bool} {C : List V → Hp → Prop} (ha : EvL R ta env H C) (hC : ∀ xs H1, C xs H1 → xs = bs.map V.bl) : Ev R (tCB (rAll K) (tCons ta tNil)) env H (Pr.v (.bl (bs.all id))) :=
  ev_cbN ha fun p xs H1 r1 e _ c Q q => ⟨p, bs, rfl, .inl (.inl (by rw [← hC xs H1 c]; exact e)), q _ H1 (R.again r1) rfl⟩
/-! fields -/
theorem ev_fld {f : Str} {ds : List PyData} {C dx a : Addr} {fs : List (Str × V)} (ha : Ev R ta env H (Pr.v (.ref a))) (hi : ∀ H1, R.r H H1 → H1 a = some (.ins C dx fs)) (hc : Cls K C) (hn : NoAttr K C f) {v : V} (hv : fs.lookup f = some v) (hP : ∀ H1, R.r H H1 → P.P v H1) : Ev R (tFld K ta f) env H P := fun σ H1 r1 s Q q =>
  ha σ H1 r1 s _ fun x H2 r2 px => ⟨a, C, dx, fs, v, px, hi H2 (R.trans r1 r2), hc, hn, hv, q v H2 r2 (hP H2 (R.trans r1 r2))⟩
end
end Sd

set_option Elab.async false
set_option linter.all false
set_option maxRecDepth 100000
set_option maxHeartbeats 2000000
/-! Sd2: sources that are walked; comprehensions; loops. -/
namespace Sd
open PySem PySem.Spec PyProof.Rows L2
/-- what a walk gives at turn i: a value of which It i is true, the heap grown -/
def YG (R : Rl) (Iz : Nat → Pr) : Nat → Hp → V → Hp → Prop := fun i H x H' => R.r H H → R.r H H' ∧ (Iz i).P x H'
/-- wi walks n things; they stand while R goes on -/
def Sr (R : Rl) (wi : TI) (env : Env') (H : Hp) (n : Nat) (Iz : Nat → Pr) : Prop :=
  ∀ (σ : L2.St) (H1 : Hp), R.r H H1 → Slots σ env H1 → ∀ RR : L2.It → Hp → Prop,
    (∀ (J : L2.It) (G : Hp → Prop) (H2 : Hp), R.r H1 H2 → Walk J n G (YG R Iz) → (∀ H', R.r H2 H' → G H') → RR J H2) → wi σ H1 RR
section
variable {R : Rl} {K : PySem.W.Frag} {env : Env'} {H : Hp} {ta tb te : TE} {P P' : Pr} {n : Nat} {Iz : Nat → Pr}
theorem Sr.later {wi : TI} {H' : Hp} (h : Sr R wi env H n Iz) (r : R.r H H') : Sr R wi env H' n Iz := fun σ H1 r1 s => h σ H1 (R.trans r r1) s
theorem sr_tup {ds : List PyData} (h : Ev R te env H (Pr.d K (.tuple ds))) (hI : ∀ i d, ds[i]? = some d → Iz i = Pr.d K d) : Sr R (iTup K te) env H ds.length Iz := fun σ H1 r1 s RR k =>
  h σ H1 r1 s _ fun v H2 r2 p => by
    obtain ⟨a, xs, rfl, hx, ht⟩ := Tp.tup_ p
    refine ⟨a, rfl, ⟨xs, hx⟩, k (Itt K a) (fun H' => SqT K H' a xs ∧ Tps K H' ds xs) H2 r2 ?_ fun H' r' => ⟨(R.im r').sqt hx, Tps.mono (R.im r') _ _ ht⟩⟩
    have w := walk_tup (K := K) (a := a) (xs := xs)
    refine ⟨fun i H' hi g => w.goes i H' (by rw [ht.length]; exact hi) g.1, fun H' g => by
      have := w.stops H' g.1
      rw [ht.length] at this
      exact this, fun i H' x H'' hi g y r => ?_⟩
    obtain ⟨e, hv⟩ := w.yields i H' x H'' (by rw [ht.length]; exact hi) g.1 y
    subst e
    obtain ⟨d, hd, td⟩ := g.2.at_ hv
    rw [hI i d hd]
    exact ⟨r, td⟩
theorem sr_list {xs : List V} {p : Addr} (h : Ev R te env H (Pr.v (.ref p))) (hx : ∀ H', R.r H H' → SqL K H' p xs) (hI : ∀ i x H', xs[i]? = some x → R.r H H' → (Iz i).P x H') : Sr R (iList K te) env H xs.length Iz := fun σ H1 r1 s RR k =>
  h σ H1 r1 s _ fun v H2 r2 e => ⟨p, e, ⟨xs, hx H2 (R.trans r1 r2)⟩, k (Itl K p) (fun H' => SqL K H' p xs ∧ R.r H H') H2 r2 (by
    have w := walk_list (K := K) (a := p) (xs := xs)
    refine ⟨fun i H' hi g => w.goes i H' hi g.1, fun H' g => w.stops H' g.1, fun i H' x H'' hi g y r => ?_⟩
    obtain ⟨e, hv⟩ := w.yields i H' x H'' hi g.1 y
    subst e
    exact ⟨r, hI i x _ hv g.2⟩) fun H' r' => ⟨hx H' (R.trans r1 (R.trans r2 r')), R.trans r1 (R.trans r2 r')⟩⟩
/-- over a new list -/
theorem sr_listN {C : List V → Hp → Prop} (h : EvL R te env H C) (hC : ∀ xs H', C xs H' → xs.length = n) (hI : ∀ xs i x H1 H', C xs H1 → xs[i]? = some x → R.r H1 H' → (Iz i).P x H') : Sr R (iList K te) env H n Iz := fun σ H1 r1 s RR k =>
  h σ H1 r1 s _ fun p xs H2 r2 nn e c => by
    have hl := hC xs H2 c
    subst hl
    have nx : ¬ R.ex p := R.live r1 nn
    refine ⟨p, rfl, ⟨xs, .inl (.inl e)⟩, k (Itl K p) (fun H' => SqL K H' p xs ∧ R.r H2 H') H2 r2 ?_ fun H' r' => ⟨.inl (.inl (R.keep r' nx e)), r'⟩⟩
    have w := walk_list (K := K) (a := p) (xs := xs)
    refine ⟨fun i H' hi g => w.goes i H' hi g.1, fun H' g => w.stops H' g.1, fun i H' x H'' hi g y r => ?_⟩
    obtain ⟨e, hv⟩ := w.yields i H' x H'' hi g.1 y
    subst e
    exact ⟨r, hI xs i x H2 _ c hv g.2⟩
theorem sr_rng1 {j : Int} (h : Ev R te env H (Pr.v (.int j))) (h0 : -100000 ≤ j) (h1 : j ≤ 100000) : Sr R (iRng1 (tCons te tNil)) env H j.toNat (fun i => Pr.v (.int (i : Nat))) := fun σ H1 r1 s RR k =>
  h σ H1 r1 s _ fun v H2 r2 e => ⟨j, by rw [show v = .int j from e], by omega, by omega, k (Itr 0 j.toNat) (fun _ => True) H2 r2 (by
    have w := walk_range (lo := 0) (n := j.toNat)
    refine ⟨fun i H' hi g => w.goes i H' hi g, fun H' g => w.stops H' g, fun i H' x H'' hi g y r => ?_⟩
    obtain ⟨e, hv⟩ := w.yields i H' x H'' hi g y
    subst e
    refine ⟨r, ?_⟩
    show x = .int (i : Nat)
    rw [hv]
    show V.int (0 + (i : Int)) = V.int (i : Int)
    rw [Int.zero_add]) fun _ _ => trivial⟩
theorem sr_rng2 {lo j : Int} (ha : Ev R ta env H (Pr.v (.int lo))) (h : Ev R te env H (Pr.v (.int j))) (h0 : -100000 ≤ lo ∧ lo ≤ 100000) (h1 : -100000 ≤ j ∧ j ≤ 100000) : Sr R (iRng2 (tCons ta (tCons te tNil))) env H (j - lo).toNat (fun i => Pr.v (.int (lo + (i : Nat)))) := fun σ H1 r1 s RR k =>
  ha σ H1 r1 s _ fun u H2 r2 e1 => h σ H2 (R.trans r1 r2) (s.mono (R.im r2)) _ fun v H3 r3 e => ⟨lo, j, by rw [show v = .int j from e, show u = .int lo from e1], by omega, k (Itr lo (j - lo).toNat) (fun _ => True) H3 (R.trans r2 r3) (by
    have w := walk_range (lo := lo) (n := (j - lo).toNat)
    refine ⟨fun i H' hi g => w.goes i H' hi g, fun H' g => w.stops H' g, fun i H' x H'' hi g y r => ?_⟩
    obtain ⟨e, hv⟩ := w.yields i H' x H'' hi g y
    subst e
    exact ⟨r, hv⟩) fun _ _ => trivial⟩
theorem sr_str {z : Str} (h : Ev R te env H (Pr.v (.str z))) (hI : ∀ i c, z.cps[i]? = some c → Iz i = Pr.v (.str ⟨#[c]⟩)) : Sr R (iStr te) env H z.cps.size Iz := fun σ H1 r1 s RR k =>
  h σ H1 r1 s _ fun v H2 r2 e => ⟨z, e, k (Its z) (fun _ => True) H2 r2 (by
    have w := walk_str (z := z)
    refine ⟨fun i H' hi g => w.goes i H' hi g, fun H' g => w.stops H' g, fun i H' x H'' hi g y r => ?_⟩
    obtain ⟨e, c, hc, hv⟩ := w.yields i H' x H'' hi g y
    subst e
    rw [hI i c hc]
    exact ⟨r, hv⟩) fun _ _ => trivial⟩
/-- a pair of what A and B say -/
def Pr.pair (K : PySem.W.Frag) (A B : Pr) : Pr := ⟨fun v H => ∃ a x y, v = .ref a ∧ SqT K H a [x, y] ∧ A.P x H ∧ B.P y H, fun r h => by
  obtain ⟨a, x, y, e, h1, h2, h3⟩ := h
  exact ⟨a, x, y, e, r.sqt h1, A.mo r h2, B.mo r h3⟩⟩
theorem pair_d {d e : PyData} {v : V} (h : (Pr.pair K (Pr.d K d) (Pr.d K e)).P v H) : Tp K H (.tuple [d, e]) v := by
  obtain ⟨a, x, y, rfl, h1, h2, h3⟩ := h
  exact tp_tup h1 (tps_cons h2 (tps_cons h3 tps_nil))
/-- enumerate(list) -/
theorem sr_enumL {xs : List V} {p : Addr} {A : Nat → Pr} (h : Ev R te env H (Pr.v (.ref p))) (hx : ∀ H', R.r H H' → SqL K H' p xs) (hI : ∀ i x H', xs[i]? = some x → R.r H H' → (A i).P x H') :
    Sr R (iEnum K (tCons te tNil)) env H xs.length (fun i => Pr.pair K (Pr.v (.int (i : Nat))) (A i)) := fun σ H1 r1 s RR k =>
  h σ H1 r1 s _ fun v H2 r2 e => ⟨p, xs, by rw [show v = .ref p from e], hx H2 (R.trans r1 r2), k (Ite K p) (fun H' => SqL K H' p xs ∧ R.r H H') H2 r2 (by
    have w := walk_enum (K := K) (a := p) (xs := xs)
    refine ⟨fun i H' hi g => w.goes i H' hi g.1, fun H' g => w.stops H' g.1, fun i H' x H'' hi g y r => ?_⟩
    obtain ⟨T, x', y', rfl, hT, rfl, hx', hy'⟩ := w.yields i H' x H'' hi g.1 y
    cases hx'
    have r5 := R.new (o := .tup [V.int (i : Nat), y']) r hT
    exact ⟨r5, T, _, _, rfl, .inl (.inl upd_same), rfl, (A i).mo (R.im r5) (hI i y' _ hy' g.2)⟩) fun H' r' => ⟨hx H' (R.trans r1 (R.trans r2 r')), R.trans r1 (R.trans r2 r')⟩⟩
theorem sr_enumN {C : List V → Hp → Prop} {A : Nat → Pr} (h : EvL R te env H C) (hC : ∀ xs H', C xs H' → xs.length = n) (hI : ∀ xs i x H1 H', C xs H1 → xs[i]? = some x → R.r H1 H' → (A i).P x H') :
    Sr R (iEnum K (tCons te tNil)) env H n (fun i => Pr.pair K (Pr.v (.int (i : Nat))) (A i)) := fun σ H1 r1 s RR k =>
  h σ H1 r1 s _ fun p xs H2 r2 nn e c => by
    have hl := hC xs H2 c
    subst hl
    have nx : ¬ R.ex p := R.live r1 nn
    refine ⟨p, xs, rfl, .inl (.inl e), k (Ite K p) (fun H' => SqL K H' p xs ∧ R.r H2 H') H2 r2 ?_ fun H' r' => ⟨.inl (.inl (R.keep r' nx e)), r'⟩⟩
    have w := walk_enum (K := K) (a := p) (xs := xs)
    refine ⟨fun i H' hi g => w.goes i H' hi g.1, fun H' g => w.stops H' g.1, fun i H' x H'' hi g y r => ?_⟩
    obtain ⟨T, x', y', rfl, hT, rfl, hx', hy'⟩ := w.yields i H' x H'' hi g.1 y
    cases hx'
    have r5 := R.new (o := .tup [V.int (i : Nat), y']) r hT
    exact ⟨r5, T, _, _, rfl, .inl (.inl upd_same), rfl, (A i).mo (R.im r5) (hI xs i y' H2 _ c hy' g.2)⟩
/-- zip(tuple, tuple) -/
theorem sr_zipT {ds es : List PyData} (ha : Ev R ta env H (Pr.d K (.tuple ds))) (hb : Ev R tb env H (Pr.d K (.tuple es))) (hn : n = min ds.length es.length)
    (hI : ∀ i d e, ds[i]? = some d → es[i]? = some e → Iz i = Pr.pair K (Pr.d K d) (Pr.d K e)) : Sr R (RZ.iZipA K (tCons ta (tCons tb tNil))) env H n Iz := fun σ H1 r1 s RR k =>
  ha σ H1 r1 s _ fun u H2 r2 p1 => hb σ H2 (R.trans r1 r2) (s.mono (R.im r2)) _ fun v H3 r3 p2 => by
    obtain ⟨a, xs, rfl, hx, ht⟩ := Tp.tup_ ((Pr.d K (.tuple ds)).mo (R.im r3) p1)
    obtain ⟨b, ys, rfl, hy, hu⟩ := Tp.tup_ p2
    subst hn
    refine ⟨a, b, xs, ys, rfl, .inr ⟨hx, hy, k (RZ.ItzT K a b) (fun H' => (SqT K H' a xs ∧ Tps K H' ds xs) ∧ SqT K H' b ys ∧ Tps K H' es ys) H3 (R.trans r2 r3) ?_ fun H' r' => ⟨⟨(R.im r').sqt hx, Tps.mono (R.im r') _ _ ht⟩, (R.im r').sqt hy, Tps.mono (R.im r') _ _ hu⟩⟩⟩
    have l1 := ht.length
    have l2 := hu.length
    refine ⟨fun i H' hi g => ?_, fun H' g => ⟨xs, ys, g.1.1, g.2.1, by omega⟩, fun i H' z H'' hi g y r => ?_⟩
    · have h1 : i < xs.length := by omega
      have h2 : i < ys.length := by omega
      exact ⟨xs, ys, xs[i], ys[i], g.1.1, g.2.1, by simp [h1], by simp [h2]⟩
    · obtain ⟨T, x', y', rfl, hT, rfl, hx', hy'⟩ := y
      obtain ⟨d, hd, td⟩ := g.1.2.at_ (hx' xs g.1.1)
      obtain ⟨e, he, te'⟩ := g.2.2.at_ (hy' ys g.2.1)
      rw [hI i d e hd he]
      have r5 := R.new (o := .tup [x', y']) r hT
      exact ⟨r5, T, _, _, rfl, .inl (.inl upd_same), td.mono (R.im r5) _ _, te'.mono (R.im r5) _ _⟩
end

/-! ### targets -/
/-- a target's store: from a value of which P is true the slots go from env to env' -/
def Tg (R : Rl) (g : TG) (env : Env') (P : Pr) (env' : Env') : Prop :=
  ∀ (σ : L2.St) (H : Hp) (v : V), R.r H H → Slots σ env H → P.P v H → ∀ Q : L2.St → Hp → Prop, (∀ σ', Slots σ' env' H → Q σ' H) → g v σ H Q
section
variable {R : Rl} {K : PySem.W.Frag} {env env1 env2 : Env'} {P A B : Pr}
theorem tg_name {i : Nat} : Tg R (gName i) env P (env.set i (some P)) := fun σ H v _ s p Q q => q _ (s.set p)
theorem tg_pair {g1 g2 : TG} (h1 : Tg R g1 env A env1) (h2 : Tg R g2 env1 B env2) : Tg R (gTup K 2 (gCons g1 (gCons g2 gNil))) env (Pr.pair K A B) env2 := fun σ H v r s p Q q => by
  obtain ⟨a, x, y, rfl, hx, pa, pb⟩ := p
  exact ⟨a, [x, y], rfl, hx, rfl, x, [y], rfl, h1 σ H x r s pa _ fun σ1 s1 => ⟨y, [], rfl, h2 σ1 H y r s1 pb _ fun σ2 s2 => ⟨rfl, q σ2 s2⟩⟩⟩
/-- a pair of data -/
theorem tg_pairD {g1 g2 : TG} {d e : PyData} (h1 : Tg R g1 env (Pr.d K d) env1) (h2 : Tg R g2 env1 (Pr.d K e) env2) : Tg R (gTup K 2 (gCons g1 (gCons g2 gNil))) env (Pr.d K (.tuple [d, e])) env2 := fun σ H v r s p Q q => by
  obtain ⟨a, xs, rfl, hx, ht⟩ := Tp.tup_ p
  obtain ⟨x, xr, rfl, pa, ht⟩ := ht.cons_
  obtain ⟨y, yr, rfl, pb, ht⟩ := ht.cons_
  cases ht.nil_
  exact ⟨a, [x, y], rfl, hx, rfl, x, [y], rfl, h1 σ H x r s pa _ fun σ1 s1 => ⟨y, [], rfl, h2 σ1 H y r s1 pb _ fun σ2 s2 => ⟨rfl, q σ2 s2⟩⟩⟩
end

/-! ### comprehensions -/
/-- the items kept -/
def kept (n : Nat) (b : Nat → Bool) (E : Nat → Pr) : List Pr := ((List.range n).filter b).map E
theorem kept_yes {n : Nat} {b : Nat → Bool} {E : Nat → Pr} (h : b n = true) : kept (n + 1) b E = kept n b E ++ [E n] := by
  unfold kept
  rw [List.range_succ, List.filter_append, List.map_append, List.filter_cons, if_pos h]
  rfl
theorem kept_no {n : Nat} {b : Nat → Bool} {E : Nat → Pr} (h : b n = false) : kept (n + 1) b E = kept n b E := by
  unfold kept
  rw [List.range_succ, List.filter_append, List.map_append, List.filter_cons, if_neg (by rw [h]; decide)]
  show _ ++ [] = _
  rw [List.append_nil]
theorem kept_len (n : Nat) (b : Nat → Bool) (E : Nat → Pr) : (kept n b E).length ≤ n := by
  unfold kept
  rw [List.length_map]
  have h := List.length_filter_le b (List.range n)
  rw [List.length_range] at h
  exact h
theorem kept_all (n : Nat) (E : Nat → Pr) : kept n (fun _ => true) E = (List.range n).map E := by
  unfold kept
  rw [List.filter_eq_self.mpr fun _ _ => rfl]
section
variable {R : Rl} {K : PySem.W.Frag} {env : Env'} {H : Hp} {n : Nat} {Iz : Nat → Pr} {wi : TI} {g : TG} {tt : TT} {te : TE} {vs : List Nat}
theorem paired_snoc {Ps : List Pr} {P : Pr} {xs : List V} {v : V} {H : Hp} (h : Vs Ps xs H) (p : P.P v H) : Vs (Ps ++ [P]) (xs ++ [v]) H := by
  induction h with
  | nil => exact .cons p .nil
  | cons a b ih => exact .cons a ih
/-- what is said of the stored slots may say that the block's own are forgotten -/
def Wp (g : TG) (vs : List Nat) : Prop := ∀ (x : V) (σ0 σ : L2.St) (H : Hp) (Q : L2.St → Hp → Prop), L2.wipe σ vs = L2.wipe σ0 vs → g x σ H Q → g x σ H (fun σ2 H2 => L2.wipe σ2 vs = L2.wipe σ0 vs ∧ Q σ2 H2)
theorem wipe_get (σ : L2.St) : ∀ (vs : List Nat) (i : Nat), (L2.wipe σ vs)[i]? = if i ∈ vs then (σ[i]?).map (fun _ => none) else σ[i]?
  | [], i => by simp [L2.wipe]
  | v :: vs, i => by
    show ((L2.wipe σ vs).set v none)[i]? = _
    by_cases e : v = i
    · subst e
      rw [if_pos (List.mem_cons_self ..)]
      by_cases h : v < (L2.wipe σ vs).length
      · rw [List.getElem?_set_self h]
        rw [L2.wipe_length] at h
        rw [List.getElem?_eq_getElem h]
        rfl
      · rw [List.getElem?_eq_none (by rw [List.length_set]; omega)]
        rw [L2.wipe_length] at h
        rw [List.getElem?_eq_none (by omega)]
        rfl
    · rw [List.getElem?_set_ne e, wipe_get σ vs i]
      by_cases h : i ∈ vs
      · rw [if_pos h, if_pos (List.mem_cons_of_mem _ h)]
      · rw [if_neg h, if_neg (by simp [h, Ne.symm e])]
theorem wipe_set {σ : L2.St} {vs : List Nat} {j : Nat} {x : Option V} (h : j ∈ vs) : L2.wipe (σ.set j x) vs = L2.wipe σ vs := by
  apply List.ext_getElem?
  intro i
  rw [wipe_get, wipe_get]
  by_cases hi : i ∈ vs
  · rw [if_pos hi, if_pos hi, List.getElem?_set]
    split
    · rename_i e
      subst e
      by_cases hl : j < σ.length
      · rw [if_pos hl, List.getElem?_eq_getElem hl]
        rfl
      · rw [if_neg hl, List.getElem?_eq_none (by omega)]
    · rfl
  · rw [if_neg hi, if_neg hi, List.getElem?_set_ne (show j ≠ i from fun z => hi (z ▸ h))]
theorem wipe_wipe (σ : L2.St) (vs : List Nat) : L2.wipe (L2.wipe σ vs) vs = L2.wipe σ vs := by
  apply List.ext_getElem?
  intro i
  rw [wipe_get, wipe_get]
  by_cases hi : i ∈ vs
  · rw [if_pos hi, if_pos hi]
    cases σ[i]? <;> rfl
  · rw [if_neg hi, if_neg hi]
theorem wp_name {j : Nat} (h : j ∈ vs) : Wp (gName j) vs := fun x σ0 σ H Q e q => ⟨by rw [wipe_set h]; exact e, q⟩
theorem wp_pair {g1 g2 : TG} (h1 : Wp g1 vs) (h2 : Wp g2 vs) (m1 : ∀ x σ H (Q Q' : L2.St → Hp → Prop), (∀ σ H, Q σ H → Q' σ H) → g1 x σ H Q → g1 x σ H Q') : Wp (gTup K 2 (gCons g1 (gCons g2 gNil))) vs := fun v σ0 σ H Q e q => by
  obtain ⟨a, xs, e1, hx, hl, x, r, e2, q1⟩ := q
  refine ⟨a, xs, e1, hx, hl, x, r, e2, ?_⟩
  refine m1 x σ H _ _ (fun σ1 H1 z => ?_) (h1 x σ0 σ H _ e q1)
  obtain ⟨w, y, r2, e3, q2⟩ := z
  refine ⟨y, r2, e3, ?_⟩
  have q2' : g2 y σ1 H1 (fun σ2 H2 => r2 = [] ∧ Q σ2 H2) := q2
  by_cases e4 : r2 = []
  · have := h2 y σ0 σ1 H1 _ w q2'
    show g2 y σ1 H1 (fun σ2 H2 => r2 = [] ∧ L2.wipe σ2 vs = L2.wipe σ0 vs ∧ Q σ2 H2)
    have eq : (fun (σ2 : L2.St) (H2 : Hp) => r2 = [] ∧ L2.wipe σ2 vs = L2.wipe σ0 vs ∧ Q σ2 H2) = (fun σ2 H2 => L2.wipe σ2 vs = L2.wipe σ0 vs ∧ r2 = [] ∧ Q σ2 H2) := by
      funext σ2 H2
      exact propext ⟨fun z => ⟨z.2.1, z.1, z.2.2⟩, fun z => ⟨z.2.1, z.1, z.2.2⟩⟩
    rw [eq]
    exact this
  · have := h2 y σ0 σ1 H1 _ w q2'
    show g2 y σ1 H1 (fun σ2 H2 => r2 = [] ∧ L2.wipe σ2 vs = L2.wipe σ0 vs ∧ Q σ2 H2)
    have eq : (fun (σ2 : L2.St) (H2 : Hp) => r2 = [] ∧ L2.wipe σ2 vs = L2.wipe σ0 vs ∧ Q σ2 H2) = (fun σ2 H2 => L2.wipe σ2 vs = L2.wipe σ0 vs ∧ r2 = [] ∧ Q σ2 H2) := by
      funext σ2 H2
      exact propext ⟨fun z => ⟨z.2.1, z.1, z.2.2⟩, fun z => ⟨z.2.1, z.1, z.2.2⟩⟩
    rw [eq]
    exact this
theorem mono_name {j : Nat} : ∀ x σ H (Q Q' : L2.St → Hp → Prop), (∀ σ H, Q σ H → Q' σ H) → gName j x σ H Q → gName j x σ H Q' := fun _ _ _ _ _ k q => k _ _ q
theorem wp_pair2 {i j : Nat} (h1 : i ∈ vs) (h2 : j ∈ vs) : Wp (gTup K 2 (gCons (gName i) (gCons (gName j) gNil))) vs := wp_pair (wp_name h1) (wp_name h2) mono_name
/-- [e for t in s if c] -/
theorem ev_lc (b : Nat → Bool) (E : Nat → Pr) (hs : Sr R wi env H n Iz) (hn : n ≤ 50000)
    (env1 : Nat → Env') (hg : ∀ i, i < n → Tg R g (wipeE env vs) (Iz i) (env1 i)) (hgw : Wp g vs)
    (ht : ∀ i, i < n → EvT R tt (env1 i) H (b i)) (he : ∀ i, i < n → b i = true → Ev R te (env1 i) H (E i)) : EvL R (tLc wi g tt te vs) env H (fun xs H' => Vs (kept n b E) xs H') := fun σ H1 r1 s Q q =>
  hs σ H1 r1 s _ fun J G H2 r2 w hG D hD => by
    have r12 := R.trans r1 r2
    refine lc_it w (fun i H' => R.r H2 H' ∧ ∃ acc, H' D = some (.lst acc) ∧ Vs (kept i b E) acc H') ?_ (fun i H' _ p => hG H' p.1) (fun i x H' H'' hi p y => ?_) fun H' p => ?_
    · exact ⟨R.new r2 hD, [], upd_same, .nil⟩
    · obtain ⟨rr, acc, ha, hp⟩ := p
      obtain ⟨r5, px⟩ := y (R.again rr)
      have nx : ¬ R.ex D := R.live r2 hD
      refine hgw x σ (L2.wipe σ vs) H'' _ (wipe_wipe σ vs) (hg i hi (L2.wipe σ vs) H'' x (R.again r5) ((s.mono (R.im (R.trans r2 (R.trans rr r5)))).wipe vs) px _ fun σ2 s2 => ?_)
      refine ht i hi σ2 H'' (R.trans r12 (R.trans rr r5)) s2 _ fun H3 r3 => ?_
      have a3 : H3 D = some (.lst acc) := R.keep (R.trans r5 r3) nx ha
      have p3 : Vs (kept i b E) acc H3 := Vs.mono (R.im (R.trans r5 r3)) hp
      cases hb : b i with
      | true =>
        rw [if_pos rfl]
        refine he i hi hb σ2 H3 (R.trans r12 (R.trans rr (R.trans r5 r3))) (s2.mono (R.im r3)) _ fun v H4 r4 pv => ?_
        have a4 : H4 D = some (.lst acc) := R.keep r4 nx a3
        have hz : acc.length ≤ n := by
          rw [Paired.length p3]
          have := kept_len i b E
          omega
        refine ⟨acc, a4, Nat.lt_of_le_of_lt (Nat.le_trans hz hn) (by decide), ?_⟩
        have im4 : Im H4 (upd H4 D (.lst (acc ++ [v]))) := fun a xs h => by
          have ne : a ≠ D := fun z => by
            subst z
            rcases h with h | ⟨o, h⟩ <;> (rw [a4] at h; cases h)
          rcases h with h | ⟨o, h⟩
          · exact .inl (by rw [upd_ne ne]; exact h)
          · exact .inr ⟨o, by rw [upd_ne ne]; exact h⟩
        refine ⟨R.put (R.trans rr (R.trans r5 (R.trans r3 r4))) hD, _, upd_same, ?_⟩
        rw [kept_yes hb]
        exact paired_snoc (Vs.mono im4 (Vs.mono (R.im r4) p3)) ((E i).mo im4 pv)
      | false =>
        rw [if_neg Bool.false_ne_true]
        refine ⟨R.trans rr (R.trans r5 r3), acc, a3, ?_⟩
        rw [kept_no hb]
        exact p3
    · obtain ⟨rr, acc, ha, hp⟩ := p
      exact q D acc H' (R.trans r2 rr) (R.back r2 hD) ha hp
end
end Sd

set_option Elab.async false
set_option linter.all false
set_option maxRecDepth 100000
set_option maxHeartbeats 4000000
/-! Sx1: sum of a tuple, enumerate of a tuple, zip of a tuple and a list. -/
namespace Sd
open PySem PySem.Spec PyProof.Rows L2

section
variable {prog : Program} {w : World} {A : Around} {E : Value → Shared → Prop} {s : Shared} {Q : Value → Shared → Prop}
theorem sumT_raw {l : Addr} {its : List Value} {ns : List Int} (hh : A.handled = none) (hl : s.heap.IsTuple l its.toArray) (hi : IntsAre its ns)
    (h : ∀ h' tk t', (∀ b o, s.heap.get? b = some o → h'.get? b = some o) → Q (.int ns.sum t') { s with heap := h', toks := tk }) : wpAny (model prog w) A (call (.builtin "sum") [.ref l]) Q E s := by
  obtain ⟨xs, e⟩ := hi.allInts.items
  have hn : numsOf (intItems xs).toList = ns := by rw [← e]; exact hi.numsOf
  rw [nums_intItems] at hn
  rw [e] at hl
  refine PySem.W.ktm_sumG hh hl fun h' tk t' hk => ?_
  have := h h' tk t' hk
  rw [preSum_eq, List.take_of_length_le (by simp), hn]; exact this
theorem call_enumT {t : Addr} {items : Array Value} {Q : Value → Shared → Prop} (hL : s.heap.IsTuple t items)
    (h : ∀ h', IsEnum h' (s.heap.objs.size + 1) s.heap.objs.size 0 .none → h'.IsTupleIter s.heap.objs.size t 0 → h'.objs.size = s.heap.objs.size + 2 →
      (∀ b o, s.heap.get? b = some o → h'.get? b = some o) → Q (.ref (s.heap.objs.size + 1)) { s with heap := h' }) :
    wpAny (model prog w) A (call (.type "enumerate") [.ref t]) Q E s := by
  have M : Meets (Builtin.«enumerate.__new__» ⟨[.type "enumerate", .ref t], []⟩) (fun _ R s => s.heap.IsTuple t items ∧
      R (.ok (.ret (.ref (s.heap.push { cls := .type "tuple_iterator", data := .fields #[.ref t, .int 0 0] }).objs.size)))
        { s with heap := (s.heap.push { cls := .type "tuple_iterator", data := .fields #[.ref t, .int 0 0] }).push { cls := .type "enumerate", data := .fields #[.none, .bool false, .ref s.heap.objs.size, rawInt 0, .none, .none] } }) :=
    .of_wp fun prog w A R s h => by
      obtain ⟨hp, g, d, tk, os⟩ := s
      obtain ⟨hL, h⟩ := h
      have hsub := sub_enumerate
      have hL' : Heap.IsTuple (Shared.heap ⟨hp, g, d, tk, os⟩) t items := hL
      wp_walk
      refine wpAny_stack_any fun st => wpAny_pure ?_
      split
      · rename_i c _ _ _ _ _
        cases (c == Value.type "enumerate")
        · wp_walk using wpAny_pyIter_tuple hL'
          exact ⟨_, rfl, h⟩
        · wp_walk using wpAny_pyIter_tuple hL'
          exact ⟨_, rfl, h⟩
      · wp_walk using wpAny_pyIter_tuple hL'
        exact ⟨_, rfl, h⟩
  refine callType_new F.called_enumerate (by decide) (F.typeCall_enumerate_1 _) (F.newCall_enumerate_1 _) (fun obj => F.args_object_init_2 obj _) F.entry_enumerate_new M ⟨hL, ?_⟩
  have hz : (s.heap.push { cls := .type "tuple_iterator", data := .fields #[.ref t, .int 0 0] }).objs.size = s.heap.objs.size + 1 := Heap.size_push ..
  show _ ∧ _
  rw [hz]
  have he : IsEnum ((s.heap.push { cls := .type "tuple_iterator", data := .fields #[.ref t, .int 0 0] }).push
      { cls := .type "enumerate", data := .fields #[.none, .bool false, .ref s.heap.objs.size, rawInt 0, .none, .none] }) (s.heap.objs.size + 1) s.heap.objs.size 0 .none := by
    have := Heap.get?_push_size (s.heap.push { cls := .type "tuple_iterator", data := .fields #[.ref t, .int 0 0] })
      (o := { cls := .type "enumerate", data := .fields #[.none, .bool false, .ref s.heap.objs.size, rawInt 0, .none, .none] }) rfl
    rw [hz] at this; exact this
  refine ⟨⟨_, he, rfl⟩, h _ he ⟨_, Heap.get?_push_of_some _ (Heap.get?_push_size _ rfl), rfl, rfl⟩ (by rw [Heap.size_push, hz]) fun b o x => Heap.get?_push_of_some _ (Heap.get?_push_of_some _ x)⟩
end

section
variable {X : Cx}
def rSumT (K : PySem.W.Frag) : List V → Hp → VK → Prop := fun xs H Q => ∃ (l : Addr) (ns : List Int), xs = [.ref l] ∧ SqT K H l (ns.map V.int) ∧ Q (.int ns.sum) H
theorem cr_sumT (hc : X.calm = true) : CallR X (.builtin "sum") (rSumT X.K) := by
  intro pins s σ H xs us Q I r h
  obtain ⟨l, ns, rfl, hq, q⟩ := h
  obtain ⟨u, rfl, rx⟩ := vals1 r
  cases rx
  obtain ⟨its, rv, p, _⟩ := I.tuple hq
  exact sumT_raw (I.ok.hd hc) p (RZ.intsAre_vals rv) fun h' tk t' hk => ⟨.int _, H, I.kept hk, ⟨_, rfl⟩, q⟩
end

/-! ### enumerate(tuple) -/
/-- the tuple at a, the items in new pairs with their places -/
def ItuT (K : PySem.W.Frag) (a : Addr) : It :=
  ⟨fun i H => ∃ (xs : List V) (x : V), SqT K H a xs ∧ xs[i]? = some x, fun i H v H' => ∃ T x, v = .ref T ∧ H T = none ∧ H' = upd H T (.tup [.int (i : Nat), x]) ∧ ∀ xs, SqT K H a xs → xs[i]? = some x, fun i H => ∃ xs : List V, SqT K H a xs ∧ xs.length = i⟩
theorem turn_enumT {P : Program} {w : World} {K : PySem.W.Frag} {elts : List Expr} {kk : Nat} {tpos : Pos} (a e it : Addr) :
    Turn P w K (.Tuple elts kk tpos) (ItuT K a) [e, it] e (fun i h => (∃ old, IsEnum h e it ((i : Nat) : Int) old) ∧ h.IsTupleIter it a i ∧ e ≠ it ∧ a ≠ it ∧ a ≠ e) where
  mem := by simp
  obj := fun i h st b hb => by
    obtain ⟨⟨old, he⟩, ⟨o, ho, hc, hd⟩, _⟩ := st
    have e' : b = e ∨ b = it := by simpa using hb
    rcases e' with z | z
    · rw [z]; exact ⟨_, he, fun v q => nomatch q⟩
    · rw [z]; exact ⟨o, ho, fun v q => by rw [hd] at q; cases q⟩
  keep := fun i h h' st k => let ⟨⟨old, he⟩, hi, hne⟩ := st; ⟨⟨old, k e (by simp) _ he⟩, hi.at fun o q => k it (by simp) o q, hne⟩
  item := by
    intro X hP hw hK hc i pins s σ H E I hf st hg
    subst hP hw hK
    obtain ⟨⟨old, he⟩, hit, hne, hai, hae⟩ := st
    obtain ⟨xs, x, hq, hx⟩ := hg
    obtain ⟨its, rv, p, hz⟩ := I.tuple hq
    obtain ⟨u, hu, ru⟩ := rv.get hx
    have hel : e < s.heap.objs.size := Heap.lt_size he
    have hil : it < s.heap.objs.size := by obtain ⟨_, q, _⟩ := hit; exact Heap.lt_size q
    have D := Draws.tuple (prog := X.prog) (w := X.w) (A := X.A.in1) (I.ok.hd hc) it a hai its.toArray
    have hlt : i < its.toArray.size := by
      rw [List.size_toArray]
      exact (List.getElem?_eq_some_iff.mp hu).1
    have hef : e ∉ [it, a] := by
      intro z
      have z' : e = it ∨ e = a := by simpa using z
      rcases z' with z | z
      · exact hne z
      · exact hae z.symm
    refine wpAny_pyNext_enum_itemC D he ⟨hit, p⟩ hlt hne hef fun x' h' tk px ho hst' hT hsz hk => ?_
    have ex : x' = u := by
      have q : its.toArray[i]? = some u := by simpa using hu
      rw [q] at px
      cases px
      rfl
    subst ex
    refine ⟨_, rfl, wpAny_letOwnedTupleGo_enum (s := { s with heap := h', toks := tk + 1 }) ho fun h'' he' sb => ?_⟩
    have hT2 : h''.get? s.heap.objs.size = some { cls := .type "tuple", data := .seq #[.int i tk, x'] } := (sb.2 _ (Nat.ne_of_gt hel)).trans hT
    have new : ObjOk X.prog X.w (upd H s.heap.objs.size (.tup [.int (i : Nat), x])) h'' s.heap.objs.size (.tup [.int (i : Nat), x]) :=
      ⟨by show 2 ≤ sizeLine; decide, [.int i tk, x'], .cons ⟨_, rfl⟩ (.cons ru .nil), ⟨_, hT2, rfl, _, rfl⟩⟩
    have I1 : Inv X pins σ (upd H s.heap.objs.size (.tup [.int (i : Nat), x])) { s with heap := h'', toks := tk + 1 } :=
      I.turnedNew (ch := [e, it]) (fun b ob hb q => (sb.2 b (fun z => hb (by simp [z]))).trans (hk b ob (fun z => hb (by simp [z])) (fun z => hb (by simp [z])) q)) hf (Nat.le_refl _) new
    refine ⟨.ref s.heap.objs.size, _, I1, rfl, ⟨_, x, rfl, I.hok.fresh (Nat.le_refl _), rfl, fun ys hy => by rw [I.tuple_inj hy hq]; exact hx⟩, ⟨⟨x', ?_⟩, hst'.1.at fun o q => (sb.2 it (Ne.symm hne)).trans q, hne, hai, hae⟩, fun b hb => ?_⟩
    · have e1 : ((i + 1 : Nat) : Int) = (i : Int) + 1 := by omega
      rw [e1]; exact he'
    · have hb' : b < s.heap.objs.size := by
        have e' : b = e ∨ b = it := by simpa using hb
        rcases e' with z | z
        · rw [z]; exact hel
        · rw [z]; exact hil
      rw [upd_ne (Nat.ne_of_lt hb')]
      exact (hf b hb).1
  done := by
    intro X hP hw hK hc i pins s σ H E I hf st hg
    subst hP hw hK
    obtain ⟨⟨old, he⟩, hit, hne, hai, hae⟩ := st
    obtain ⟨xs, hq, hx⟩ := hg
    obtain ⟨its, rv, p, hz⟩ := I.tuple hq
    obtain ⟨f0, f1, f2, f3, f4, f5⟩ := hf it (by simp)
    have hl := rv.length
    have D := Draws.tuple (prog := X.prog) (w := X.w) (A := X.A.in1) (I.ok.hd hc) it a hai its.toArray
    have hn : its.toArray.size = i := by rw [List.size_toArray]; omega
    exact wpAny_pyNext_enum_endD D he (hn ▸ ⟨hit, p⟩) fun h' eb => ⟨rfl, I.turned (t' := s.toks) (fun b o hb q => eb b o hb q) f0 f1 f3 f4 f5⟩
  self := fun A i s Q E st h => let ⟨⟨_, he⟩, _⟩ := st; wpAny_pyIter_enum he h
def iEnumT (K : PySem.W.Frag) (ta : TA) : TI := fun σ H R => ta σ H fun vs H1 => ∃ a xs, vs = [.ref a] ∧ SqT K H1 a xs ∧ R (ItuT K a) H1
theorem pi_enumT {X : Cx} {e : Expr} {ta : TA} {p pos tpos : Pos} {elts : List Expr} {kk : Nat} (hg : Gl X "enumerate") (hm : X.mg "enumerate" = none) (ha : PA X [e] ta) (hs : starEach [e] X.env = [(false, eval e X.env)] := by rfl) :
    PI X (.Tuple elts kk tpos) (.Call (.Name "enumerate" p) [e] [] pos) (iEnumT X.K ta) := by
  refine ⟨fun pins s σ H R I h => ?_⟩
  refine Call_ (ld_blt I hg hm boot_enumerate (PyProof.Rows.callWith_type1 (thn (ha.run pos pins s σ H _ I h) fun us s1 ⟨vs, H1, I1, r1, q1⟩ => ?_) hs rfl))
  obtain ⟨a, xs, ex, hq, q⟩ := q1
  subst ex
  cases r1 with
  | cons r rr =>
    cases rr
    cases r
    obtain ⟨its, rv, p', hz⟩ := I1.tuple hq
    have hal : a < s1.heap.objs.size := by obtain ⟨_, q, _⟩ := id p'; exact Heap.lt_size q
    refine call_enumT p' fun h' he hit hsz hk => wpAny_pyIter_enum he ?_
    have I2 : Inv X pins σ H1 { s1 with heap := h' } := I1.kept (t' := s1.toks) hk
    refine ⟨s1.heap.objs.size + 1, [s1.heap.objs.size + 1, s1.heap.objs.size], _, _, H1, rfl, I2, turn_enumT a (s1.heap.objs.size + 1) s1.heap.objs.size, ⟨⟨.none, he⟩, hit, Nat.succ_ne_self _, Nat.ne_of_lt hal, Nat.ne_of_lt (Nat.lt_succ_of_lt hal)⟩, fun b hb => ?_, q⟩
    have e' : b = s1.heap.objs.size + 1 ∨ b = s1.heap.objs.size := by simpa using hb
    have hle : s1.heap.objs.size ≤ b := by
      rcases e' with z | z
      · rw [z]; exact Nat.le_add_right _ _
      · rw [z]; exact Nat.le_refl _
    exact I1.fpOk hle (I1.hok.fresh hle)
end Sd

set_option Elab.async false
set_option linter.all false
set_option maxRecDepth 100000
set_option maxHeartbeats 4000000
/-! Sx2: enumerate(zip(v1, v2)): the zip keeps the pair that it handed out. -/
namespace Sd
open PySem PySem.Spec PyProof.Rows L2

abbrev IsZipF (h : Heap) (z TI TO : Addr) (f0 : Value) (f1 : Bool) : Prop :=
  h.get? z = some { cls := .type "zip", dict := none, data := .fields #[f0, .bool f1, .bool false, .ref TI, .ref TO], slots := #[] }
def ZF (f0 : Value) : Prop := f0 = .none ∨ ∃ T : Nat, f0 = rawInt T

section
variable {prog : Program} {w : World} {A : Around} {E : Value → Shared → Prop} {s : Shared} {z TI TO i1 i2 : Addr} {fp1 fp2 : List Addr} {n1 n2 i : Nat} {P1 P2 : Nat → Value → Prop} {St1 St2 : Nat → Heap → Prop} {a1 a2 f0 : Value} {f1 : Bool}
theorem alive_any {a : Addr} {Q : Option Obj → Shared → Prop} (h : Q (s.heap.get? a) s) : wpAny (model prog w) A (loadIfAlive a) Q E s := fun Γ p hΓ => by
  unfold loadIfAlive
  rw [PySem.Sem.wp_loadIfAlive]
  exact (wpAny_pure h : wpAny (model prog w) A (Sem.pure (s.heap.get? a)) Q E s) Γ p hΓ
theorem zip_free {Q : Bool → Shared → Prop} (hz : IsZipF s.heap z TI TO f0 f1) (hf : ZF f0) (h1 : Q true s) (h2 : ∀ h' b, IsZipF h' z TI TO f0 b → Heap.SameBut z s.heap h' → Q false { s with heap := h' }) :
    wpAny (model prog w) A (Builtin.SmallTypes.ownedTupleIsFree (.ref z)) Q E s := by
  unfold Builtin.SmallTypes.ownedTupleIsFree
  refine wpAny_bind (wpAny_field hz rfl (x := f0) rfl ?_)
  rcases hf with rfl | ⟨T, rfl⟩
  · exact wpAny_pure h1
  · show wpAny _ _ (loadIfAlive T >>= _) _ _ _
    refine wpAny_bind (alive_any ?_)
    cases e : s.heap.get? T with
    | none => exact wpAny_pure h1
    | some o =>
      show wpAny _ _ (field (.ref z) 1 >>= _) _ _ _
      refine wpAny_bind (wpAny_field hz rfl (x := .bool f1) rfl ?_)
      cases f1 with
      | true => 
        show wpAny _ _ (pure false) _ _ _
        refine wpAny_pure ?_
        exact h2 s.heap true hz ⟨rfl, fun _ _ => rfl⟩
      | false =>
        show wpAny _ _ (setField (.ref z) 1 (.bool true) >>= _) _ _ _
        refine wpAny_bind (wpAny_setField_rec hz (by simp) fun g0 hz0 hs0 => ?_)
        refine wpAny_pure ?_
        exact h2 g0 true hz0 hs0
/-- the next pair: the zip's own pair again, or a new one while the pair handed out lives -/
theorem zipE_next_item {Q : Value → Shared → Prop} (S : ZipSep2 z TI TO i1 i2 fp1 fp2) (D1 : Draws prog w A i1 fp1 n1 P1 St1) (D2 : Draws prog w A i2 fp2 n2 P2 St2)
    (hz : IsZipF s.heap z TI TO f0 f1) (hf : ZF f0) (hTI : IsTupOf2 s.heap TI (.ref i1) (.ref i2)) (hTO : IsTupOf2 s.heap TO a1 a2) (st1 : St1 i s.heap) (st2 : St2 i s.heap) (hlt1 : i < n1) (hlt2 : i < n2)
    (hQ : ∀ x1 x2 h' tk g0 g1 b1 b2, P1 i x1 → P2 i x2 → IsZipF h' z TI TO g0 g1 → ZF g0 → IsTupOf2 h' TO b1 b2 → St1 (i + 1) h' → St2 (i + 1) h' → IsTupOf2 h' s.heap.objs.size x1 x2 → h'.objs.size = s.heap.objs.size + 1 →
      (∀ c o, c ≠ z → c ≠ TO → c ≠ i1 → c ≠ i2 → s.heap.get? c = some o → h'.get? c = some o) → Q (.ref s.heap.objs.size) { s with heap := h', toks := tk }) :
    wpAny (model prog w) A (Builtin.«zip.__next__» ⟨[.ref z], []⟩) (fun fin s' => ∃ v, fin = .done (.ret v) ∧ Q v s') E s := by
  obtain ⟨hp, g, d, tk0, os⟩ := s
  show wpAny _ _ (field (.ref z) 2 >>= _) _ _ _
  refine wpAny_bind (wpAny_field hz rfl (x := .bool false) rfl ?_)
  show wpAny _ _ (field (.ref z) 3 >>= _) _ _ _
  refine wpAny_bind (wpAny_field hz rfl (x := .ref TI) rfl ?_)
  refine wpAny_bind (wpAny_seqItems hTI rfl ?_)
  show wpAny _ _ (Builtin.SmallTypes.ownedTupleIsFree (.ref z) >>= _) _ _ _
  refine wpAny_bind (zip_free hz hf ?_ ?_)
  · simp only [if_true]
    refine wpAny_bind (wpAny_rule ?_)
    refine wpAny_bind (wpAny_field hz rfl (x := .ref TO) rfl ?_)
    refine wpAny_bind (wpAny_setField_rec hz (by simp) fun g0 hz0 hs0 => ?_)
    replace hz0 : IsZipF g0 z TI TO .ellipsis f1 := hz0
    replace hs0 : Heap.SameBut z hp g0 := hs0
    refine wpAny_bind ?_
    simp only [List.zipIdx_cons, List.zipIdx_nil, List.forIn_cons, List.forIn_nil]
    refine wpAny_bind (wpAny_bind (wpAny_onRaise ?_))
    show wpAny _ _ (Builtin.SmallTypes.nextOf (.ref i1) >>= _) _ _ ⟨g0, g, d, tk0, os⟩
    refine wpAny_bind (D1.item i _ _ _ hlt1 (D1.over st1 hs0 S.zf1) fun x1 p1 tk1 hx1 sn1 hp1 => wpAny_pure ?_)
    replace hp1 : Heap.SameBut i1 g0 p1 := hp1
    have hU1 : IsTupOf2 p1 TO a1 a2 := hp1.extBut _ _ S.Ti1 (hs0.extBut _ _ S.TOz hTO)
    refine wpAny_bind (wpAny_seqItems (s := ⟨p1, g, d, tk1, os⟩) hU1 rfl ?_)
    refine wpAny_bind (updateSeq_IsTupOf2 (s := ⟨p1, g, d, tk1, os⟩) hU1 fun g1 hT1 hs1 => ?_)
    replace hT1 : IsTupOf2 g1 TO x1 a2 := hT1
    replace hs1 : Heap.SameBut TO p1 g1 := hs1
    refine wpAny_bind (wpAny_letGo (wpAny_pure ?_))
    refine wpAny_bind (wpAny_bind (wpAny_onRaise ?_))
    show wpAny _ _ (Builtin.SmallTypes.nextOf (.ref i2) >>= _) _ _ ⟨g1, g, d, tk1, os⟩
    refine wpAny_bind (D2.item i _ _ _ hlt2 (D2.over (D2.over (D2.over st2 hs0 S.zf2) hp1 S.sep1_2) hs1 S.Tf2) fun x2 p2 tk2 hx2 sn2 hp2 => wpAny_pure ?_)
    replace hp2 : Heap.SameBut i2 g1 p2 := hp2
    have hU2 : IsTupOf2 p2 TO x1 a2 := hp2.extBut _ _ S.Ti2 hT1
    refine wpAny_bind (wpAny_seqItems (s := ⟨p2, g, d, tk2, os⟩) hU2 rfl ?_)
    refine wpAny_bind (updateSeq_IsTupOf2 (s := ⟨p2, g, d, tk2, os⟩) hU2 fun g2 hT2 hs2 => ?_)
    replace hT2 : IsTupOf2 g2 TO x1 x2 := hT2
    replace hs2 : Heap.SameBut TO p2 g2 := hs2
    refine wpAny_bind (wpAny_letGo (wpAny_pure (wpAny_pure ?_)))
    refine wpAny_bind (wpAny_seqItems (s := ⟨g2, g, d, tk2, os⟩) hT2 rfl ?_)
    refine wpAny_bind (wpAny_newTuple ?_)
    have hsz : g2.objs.size = hp.objs.size := by rw [hs2.1, hp2.1, hs1.1, hp1.1, hs0.1]
    have hzz : IsZipF g2 z TI TO .ellipsis f1 := (hs2.extBut _ _ S.TOz.symm (hp2.extBut _ _ S.zi2 (hs1.extBut _ _ S.TOz.symm (hp1.extBut _ _ S.zi1 hz0))))
    have hkk : ∀ c o, c ≠ z → c ≠ TO → c ≠ i1 → c ≠ i2 → hp.get? c = some o → g2.get? c = some o := fun c o cz cT c1 c2 e =>
      (hs2.extBut _ _ cT (hp2.extBut _ _ c2 (hs1.extBut _ _ cT (hp1.extBut _ _ c1 (hs0.extBut _ _ cz e)))))
    have hj1 : St1 (i + 1) g2 := (D1.over (D1.over (D1.over sn1 hs1 S.Tf1) hp2 S.sep2_1) hs2 S.Tf1)
    have hj2 : St2 (i + 1) g2 := (D2.over sn2 hs2 S.Tf2)
    have hzlt : z < g2.objs.size := Heap.lt_size hzz
    show wpAny _ _ (Builtin.SmallTypes.ownedTupleHandOut (.ref z) (.ref g2.objs.size) >>= _) _ _ ⟨g2.push { cls := .type "tuple", data := .seq #[x1, x2] }, g, d, tk2, os⟩
    refine wpAny_bind ?_
    unfold Builtin.SmallTypes.ownedTupleHandOut
    have hz₆ : IsZipF (g2.push { cls := .type "tuple", data := .seq #[x1, x2] }) z TI TO .ellipsis f1 := Heap.get?_push_of_some _ hzz
    refine wpAny_bind (wpAny_setField_rec hz₆ (by simp) fun h₇ hz₇ hs₇ => ?_)
    replace hz₇ : IsZipF h₇ z TI TO (rawInt g2.objs.size) f1 := hz₇
    refine wpAny_setField_rec hz₇ (by simp) fun h₈ hz₈ hs₈ => ?_
    replace hz₈ : IsZipF h₈ z TI TO (rawInt g2.objs.size) false := hz₈
    replace hs₇ : Heap.SameBut z (g2.push { cls := .type "tuple", data := .seq #[x1, x2] }) h₇ := hs₇
    replace hs₈ : Heap.SameBut z h₇ h₈ := hs₈
    have up : ∀ c o, c ≠ z → g2.get? c = some o → h₈.get? c = some o := fun c o c1 e => hs₈.extBut _ _ c1 (hs₇.extBut _ _ c1 (Heap.get?_push_of_some _ e))
    have hT₈ : IsTupOf2 h₈ g2.objs.size x1 x2 := hs₈.extBut _ _ (Nat.ne_of_gt hzlt) (hs₇.extBut _ _ (Nat.ne_of_gt hzlt) (Heap.get?_push_size _ rfl))
    have hz8 : h₈.objs.size = g2.objs.size + 1 := by rw [hs₈.1, hs₇.1, Heap.size_push]
    rw [hsz] at hz₈ hT₈ hz8
    refine wpAny_pure ⟨_, rfl, ?_⟩
    show Q (.ref g2.objs.size) ⟨h₈, g, d, tk2, os⟩
    rw [hsz]
    exact hQ x1 x2 h₈ tk2 _ _ _ _ hx1 hx2 hz₈ (.inr ⟨_, rfl⟩) (up _ _ S.TOz hT2) (D1.frame _ _ _ hj1 fun b hb o e => up b o (fun q => S.zf1 (q ▸ hb)) e) (D2.frame _ _ _ hj2 fun b hb o e => up b o (fun q => S.zf2 (q ▸ hb)) e) hT₈ hz8 fun c o cz cT c1 c2 e => up c o cz (hkk c o cz cT c1 c2 e)
  · intro g0 b hz0 hs0
    replace hs0 : Heap.SameBut z hp g0 := hs0
    show wpAny _ _ (forIn #[Value.ref i1, Value.ref i2] _ _ >>= _) _ _ ⟨g0, g, d, tk0, os⟩
    rw [← Array.forIn_toList]
    refine wpAny_bind ?_
    simp only [List.forIn_cons, List.forIn_nil]
    refine wpAny_bind (wpAny_bind (wpAny_holding ?_))
    show wpAny _ _ (Builtin.SmallTypes.nextOf (.ref i1) >>= _) _ _ ⟨g0, g, d, tk0, os⟩
    refine wpAny_bind (D1.item i _ _ _ hlt1 (D1.over st1 hs0 S.zf1) fun x1 p1 tk1 hx1 sn1 hp1 => wpAny_pure ?_)
    replace hp1 : Heap.SameBut i1 g0 p1 := hp1
    refine wpAny_pure ?_
    refine wpAny_bind (wpAny_bind (wpAny_holding ?_))
    show wpAny _ _ (Builtin.SmallTypes.nextOf (.ref i2) >>= _) _ _ ⟨p1, g, d, tk1, os⟩
    refine wpAny_bind (D2.item i _ _ _ hlt2 (D2.over (D2.over st2 hs0 S.zf2) hp1 S.sep1_2) fun x2 p2 tk2 hx2 sn2 hp2 => wpAny_pure ?_)
    replace hp2 : Heap.SameBut i2 p1 p2 := hp2
    refine wpAny_pure ?_
    refine wpAny_pure ?_
    show wpAny _ _ (newTuple [x1, x2] >>= _) _ _ ⟨p2, g, d, tk2, os⟩
    refine wpAny_bind (wpAny_newTuple ?_)
    have hsz : p2.objs.size = hp.objs.size := by rw [hp2.1, hp1.1, hs0.1]
    have up : ∀ c o, c ≠ z → c ≠ i1 → c ≠ i2 → hp.get? c = some o → (p2.push { cls := .type "tuple", data := .seq #[x1, x2] }).get? c = some o := fun c o cz c1 c2 e =>
      Heap.get?_push_of_some _ (hp2.extBut _ _ c2 (hp1.extBut _ _ c1 (hs0.extBut _ _ cz e)))
    have hz2 : IsZipF p2 z TI TO f0 b := hp2.extBut _ _ S.zi2 (hp1.extBut _ _ S.zi1 hz0)
    have hT₈ : IsTupOf2 (p2.push { cls := .type "tuple", data := .seq #[x1, x2] }) p2.objs.size x1 x2 := Heap.get?_push_size _ rfl
    have hz8 : (p2.push { cls := .type "tuple", data := .seq #[x1, x2] }).objs.size = p2.objs.size + 1 := by rw [Heap.size_push]
    refine wpAny_pure ⟨_, rfl, ?_⟩
    show Q (.ref p2.objs.size) ⟨p2.push { cls := .type "tuple", data := .seq #[x1, x2] }, g, d, tk2, os⟩
    rw [hsz] at hT₈ hz8 ⊢
    exact hQ x1 x2 _ tk2 _ _ _ _ hx1 hx2 (Heap.get?_push_of_some _ hz2) hf (up _ _ S.TOz S.Ti1 S.Ti2 hTO) (D1.frame _ _ _ (D1.over sn1 hp2 S.sep2_1) fun b hb o e => Heap.get?_push_of_some _ e) (D2.frame _ _ _ sn2 fun b hb o e => Heap.get?_push_of_some _ e) hT₈ hz8 fun c o cz cT c1 c2 e => up c o cz c1 c2 e
theorem zipE_next_end {Q : Fin → Shared → Prop} (S : ZipSep2 z TI TO i1 i2 fp1 fp2) (D1 : Draws prog w A i1 fp1 n1 P1 St1) (D2 : Draws prog w A i2 fp2 n2 P2 St2)
    (hz : IsZipF s.heap z TI TO f0 f1) (hf : ZF f0) (hTI : IsTupOf2 s.heap TI (.ref i1) (.ref i2)) (hTO : IsTupOf2 s.heap TO a1 a2) (st1 : St1 i s.heap) (st2 : St2 i s.heap) (hle1 : i ≤ n1) (hle2 : i ≤ n2) (hend : i = n1 ∨ i = n2)
    (hE : ∀ h' tk e, (∀ c o, c ≠ z → c ≠ TO → c ≠ i1 → c ≠ i2 → s.heap.get? c = some o → h'.get? c = some o) → (∃ o, h'.get? e = some o ∧ o.cls = .type "StopIteration") → E (.ref e) { s with heap := h', toks := tk }) :
    wpAny (model prog w) A (Builtin.«zip.__next__» ⟨[.ref z], []⟩) Q E s := by
  obtain ⟨hp, g, d, tk0, os⟩ := s
  show wpAny _ _ (field (.ref z) 2 >>= _) _ _ _
  refine wpAny_bind (wpAny_field hz rfl (x := .bool false) rfl ?_)
  show wpAny _ _ (field (.ref z) 3 >>= _) _ _ _
  refine wpAny_bind (wpAny_field hz rfl (x := .ref TI) rfl ?_)
  refine wpAny_bind (wpAny_seqItems hTI rfl ?_)
  show wpAny _ _ (Builtin.SmallTypes.ownedTupleIsFree (.ref z) >>= _) _ _ _
  refine wpAny_bind (zip_free hz hf ?_ ?_)
  · simp only [if_true]
    refine wpAny_bind (wpAny_rule ?_)
    refine wpAny_bind (wpAny_field hz rfl (x := .ref TO) rfl ?_)
    refine wpAny_bind (wpAny_setField_rec hz (by simp) fun g0 hz0 hs0 => ?_)
    replace hz0 : IsZipF g0 z TI TO .ellipsis f1 := hz0
    replace hs0 : Heap.SameBut z hp g0 := hs0
    refine wpAny_bind ?_
    simp only [List.zipIdx_cons, List.zipIdx_nil, List.forIn_cons, List.forIn_nil]
    refine wpAny_bind (wpAny_bind (wpAny_onRaise ?_))
    show wpAny _ _ (Builtin.SmallTypes.nextOf (.ref i1) >>= _) _ _ ⟨g0, g, d, tk0, os⟩
    by_cases hlt1 : i < n1
    · refine wpAny_bind (D1.item i _ _ _ hlt1 (D1.over st1 hs0 S.zf1) fun x1 p1 tk1 hx1 sn1 hp1 => wpAny_pure ?_)
      replace hp1 : Heap.SameBut i1 g0 p1 := hp1
      have hU1 : IsTupOf2 p1 TO a1 a2 := hp1.extBut _ _ S.Ti1 (hs0.extBut _ _ S.TOz hTO)
      refine wpAny_bind (wpAny_seqItems (s := ⟨p1, g, d, tk1, os⟩) hU1 rfl ?_)
      refine wpAny_bind (updateSeq_IsTupOf2 (s := ⟨p1, g, d, tk1, os⟩) hU1 fun g1 hT1 hs1 => ?_)
      replace hT1 : IsTupOf2 g1 TO x1 a2 := hT1
      replace hs1 : Heap.SameBut TO p1 g1 := hs1
      refine wpAny_bind (wpAny_letGo (wpAny_pure ?_))
      have hi2 : i = n2 := by omega
      refine wpAny_bind (wpAny_bind (wpAny_onRaise ?_))
      show wpAny _ _ (Builtin.SmallTypes.nextOf (.ref i2) >>= _) _ _ ⟨g1, g, d, tk1, os⟩
      refine wpAny_bind (D2.done ⟨g1, g, d, tk1, os⟩ _ _ (by rw [← hi2]; exact (D2.over (D2.over (D2.over st2 hs0 S.zf2) hp1 S.sep1_2) hs1 S.Tf2)) fun q e hq he => ?_)
      replace hq : Heap.ExtBut i2 g1 q := hq
      obtain ⟨oe, hoe, hce⟩ := he
      replace hoe : q.get? e = some oe := hoe
      have hzq : IsZipF q z TI TO .ellipsis f1 := hq _ _ S.zi2 (hs1.extBut _ _ S.TOz.symm (hp1.extBut _ _ S.zi1 hz0))
      have hez : e ≠ z := fun x => by subst x; rw [hzq] at hoe; cases hoe; simp at hce
      refine wpAny_setField_rec (s := ⟨q, g, d, tk1, os⟩) hzq (by simp) fun q' _ hq' => ?_
      replace hq' : Heap.SameBut z q q' := hq'
      exact hE q' tk1 e (fun c o cz cT c1 c2 x => hq'.extBut _ _ cz (hq _ _ c2 (hs1.extBut _ _ cT (hp1.extBut _ _ c1 (hs0.extBut _ _ cz x))))) ⟨oe, hq'.extBut _ _ hez hoe, hce⟩
    · have hi1 : i = n1 := by omega
      refine wpAny_bind (D1.done ⟨g0, g, d, tk0, os⟩ _ _ (by rw [← hi1]; exact (D1.over st1 hs0 S.zf1)) fun q e hq he => ?_)
      replace hq : Heap.ExtBut i1 g0 q := hq
      obtain ⟨oe, hoe, hce⟩ := he
      replace hoe : q.get? e = some oe := hoe
      have hzq : IsZipF q z TI TO .ellipsis f1 := hq _ _ S.zi1 hz0
      have hez : e ≠ z := fun x => by subst x; rw [hzq] at hoe; cases hoe; simp at hce
      refine wpAny_setField_rec (s := ⟨q, g, d, tk0, os⟩) hzq (by simp) fun q' _ hq' => ?_
      replace hq' : Heap.SameBut z q q' := hq'
      exact hE q' tk0 e (fun c o cz cT c1 c2 x => hq'.extBut _ _ cz (hq _ _ c1 (hs0.extBut _ _ cz x))) ⟨oe, hq'.extBut _ _ hez hoe, hce⟩
  · intro g0 b hz0 hs0
    replace hs0 : Heap.SameBut z hp g0 := hs0
    show wpAny _ _ (forIn #[Value.ref i1, Value.ref i2] _ _ >>= _) _ _ ⟨g0, g, d, tk0, os⟩
    rw [← Array.forIn_toList]
    refine wpAny_bind ?_
    simp only [List.forIn_cons, List.forIn_nil]
    refine wpAny_bind (wpAny_bind (wpAny_holding ?_))
    show wpAny _ _ (Builtin.SmallTypes.nextOf (.ref i1) >>= _) _ _ ⟨g0, g, d, tk0, os⟩
    by_cases hlt1 : i < n1
    · refine wpAny_bind (D1.item i _ _ _ hlt1 (D1.over st1 hs0 S.zf1) fun x1 p1 tk1 hx1 sn1 hp1 => wpAny_pure ?_)
      replace hp1 : Heap.SameBut i1 g0 p1 := hp1
      have hi2 : i = n2 := by omega
      refine wpAny_pure ?_
      refine wpAny_bind (wpAny_bind (wpAny_holding ?_))
      show wpAny _ _ (Builtin.SmallTypes.nextOf (.ref i2) >>= _) _ _ ⟨p1, g, d, tk1, os⟩
      refine wpAny_bind (D2.done ⟨p1, g, d, tk1, os⟩ _ _ (by rw [← hi2]; exact (D2.over (D2.over st2 hs0 S.zf2) hp1 S.sep1_2)) fun q e hq he => ?_)
      replace hq : Heap.ExtBut i2 p1 q := hq
      exact hE q tk1 e (fun c o cz cT c1 c2 x => hq _ _ c2 (hp1.extBut _ _ c1 (hs0.extBut _ _ cz x))) he
    · have hi1 : i = n1 := by omega
      refine wpAny_bind (D1.done ⟨g0, g, d, tk0, os⟩ _ _ (by rw [← hi1]; exact (D1.over st1 hs0 S.zf1)) fun q e hq he => ?_)
      replace hq : Heap.ExtBut i1 g0 q := hq
      exact hE q tk0 e (fun c o cz cT c1 c2 x => hq _ _ c1 (hs0.extBut _ _ cz x)) he
theorem zipE_nextOf_item {Q : Value → Shared → Prop} (S : ZipSep2 z TI TO i1 i2 fp1 fp2) (D1 : Draws prog w A.in1 i1 fp1 n1 P1 St1) (D2 : Draws prog w A.in1 i2 fp2 n2 P2 St2)
    (hz : IsZipF s.heap z TI TO f0 f1) (hf : ZF f0) (hTI : IsTupOf2 s.heap TI (.ref i1) (.ref i2)) (hTO : IsTupOf2 s.heap TO a1 a2) (st1 : St1 i s.heap) (st2 : St2 i s.heap) (hlt1 : i < n1) (hlt2 : i < n2)
    (hQ : ∀ x1 x2 h' tk g0 g1 b1 b2, P1 i x1 → P2 i x2 → IsZipF h' z TI TO g0 g1 → ZF g0 → IsTupOf2 h' TO b1 b2 → St1 (i + 1) h' → St2 (i + 1) h' → IsTupOf2 h' s.heap.objs.size x1 x2 → h'.objs.size = s.heap.objs.size + 1 →
      (∀ c o, c ≠ z → c ≠ TO → c ≠ i1 → c ≠ i2 → s.heap.get? c = some o → h'.get? c = some o) → Q (.ref s.heap.objs.size) { s with heap := h', toks := tk }) :
    wpAny (model prog w) A (Builtin.SmallTypes.nextOf (.ref z)) Q E s := by
  have hT : s.TypeIs (.ref z) "zip" := ⟨_, hz, rfl⟩
  unfold Builtin.SmallTypes.nextOf
  exact wpAny_bind (wpAny_callSpecial?_slot (name := Str.ofString "__next__") hT F.slot_zip_next
    (wpAny_call_entry F.slot_zip_next hT F.entry_zip_next
      (zipE_next_item S D1 D2 hz hf hTI hTO st1 st2 hlt1 hlt2 fun x1 x2 h' tk g0 g1 b1 b2 y1 y2 q1 q2 q3 d1 d2 b5 b6 b7 => wpAny_pure (hQ x1 x2 h' tk g0 g1 b1 b2 y1 y2 q1 q2 q3 d1 d2 b5 b6 b7)) (F.args_zip_next_1 _)))
theorem zipE_nextOf_end {Q : Value → Shared → Prop} (S : ZipSep2 z TI TO i1 i2 fp1 fp2) (D1 : Draws prog w A.in1 i1 fp1 n1 P1 St1) (D2 : Draws prog w A.in1 i2 fp2 n2 P2 St2)
    (hz : IsZipF s.heap z TI TO f0 f1) (hf : ZF f0) (hTI : IsTupOf2 s.heap TI (.ref i1) (.ref i2)) (hTO : IsTupOf2 s.heap TO a1 a2) (st1 : St1 i s.heap) (st2 : St2 i s.heap) (hle1 : i ≤ n1) (hle2 : i ≤ n2) (hend : i = n1 ∨ i = n2)
    (hE : ∀ h' tk e, (∀ c o, c ≠ z → c ≠ TO → c ≠ i1 → c ≠ i2 → s.heap.get? c = some o → h'.get? c = some o) → (∃ o, h'.get? e = some o ∧ o.cls = .type "StopIteration") → E (.ref e) { s with heap := h', toks := tk }) :
    wpAny (model prog w) A (Builtin.SmallTypes.nextOf (.ref z)) Q E s := by
  have hT : s.TypeIs (.ref z) "zip" := ⟨_, hz, rfl⟩
  unfold Builtin.SmallTypes.nextOf
  exact wpAny_bind (wpAny_callSpecial?_slot (name := Str.ofString "__next__") hT F.slot_zip_next
    (wpAny_call_entry F.slot_zip_next hT F.entry_zip_next (zipE_next_end S D1 D2 hz hf hTI hTO st1 st2 hle1 hle2 hend hE) (F.args_zip_next_1 _)))
/-- enumerate's next pair, whatever stands below it -/
theorem enumE_next {e it : Addr} {c : Int} {old : Value} {Q : Value → Shared → Prop} (he : IsEnum s.heap e it c old)
    (hN : wpAny (model prog w) A (Builtin.SmallTypes.nextOf (.ref it)) (fun x s1 => IsEnum s1.heap e it c old ∧ ∀ h', IsEnumOut h' e it (c + 1) x s1.heap.objs.size →
      h'.get? s1.heap.objs.size = some { cls := .type "tuple", data := .seq #[.int c s1.toks, x] } → h'.objs.size = s1.heap.objs.size + 1 →
      (∀ b o, b ≠ e → s1.heap.get? b = some o → h'.get? b = some o) → Q (.ref s1.heap.objs.size) { s1 with heap := h', toks := s1.toks + 1 }) E s) :
    wpAny (model prog w) A (Builtin.«enumerate.__next__» ⟨[.ref e], []⟩) (fun fin s' => ∃ v, fin = .done (.ret v) ∧ Q v s') E s := by
  show wpAny _ _ (field (.ref e) 2 >>= _) _ _ _
  refine wpAny_bind (wpAny_field he rfl (x := .ref it) rfl ?_)
  refine wpAny_bind (thn hN fun x s1 ⟨he₁, hQ⟩ => ?_)
  obtain ⟨h₁, g, d, tk, os⟩ := s1
  replace he₁ : IsEnum h₁ e it c old := he₁
  show wpAny _ _ (field (.ref e) 3 >>= _) _ _ ⟨h₁, g, d, tk, os⟩
  refine wpAny_bind (wpAny_field he₁ rfl (x := rawInt c) rfl ?_)
  show wpAny _ _ (field (.ref e) 4 >>= _) _ _ ⟨h₁, g, d, tk, os⟩
  refine wpAny_bind (wpAny_field he₁ rfl (x := .none) rfl ?_)
  show wpAny _ _ (mkInt c >>= _) _ _ ⟨h₁, g, d, tk, os⟩
  refine wpAny_bind (wpAny_mkInt ?_)
  show wpAny _ _ (setField (.ref e) 3 (rawInt (c + 1)) >>= _) _ _ ⟨h₁, g, d, tk + 1, os⟩
  refine wpAny_bind (wpAny_setField_rec he₁ (by simp) fun h₂ he₂ hs₂ => ?_)
  replace hs₂ : Heap.SameBut e h₁ h₂ := hs₂
  replace he₂ : IsEnum h₂ e it (c + 1) old := he₂
  show wpAny _ _ (setField (.ref e) 4 .none >>= _) _ _ ⟨h₂, g, d, tk + 1, os⟩
  refine wpAny_bind (wpAny_setField_rec he₂ (by simp) fun h₃ he₃ hs₃ => ?_)
  replace hs₃ : Heap.SameBut e h₂ h₃ := hs₃
  replace he₃ : IsEnum h₃ e it (c + 1) old := he₃
  show wpAny _ _ (newTuple [.int c tk, x] >>= _) _ _ ⟨h₃, g, d, tk + 1, os⟩
  refine wpAny_bind (wpAny_newTuple ?_)
  have he₄ : IsEnum (h₃.push { cls := .type "tuple", data := .seq #[.int c tk, x] }) e it (c + 1) old := Heap.get?_push_of_some _ he₃
  generalize hh₄ : h₃.push { cls := .type "tuple", data := .seq #[.int c tk, x] } = h₄ at he₄
  have hsz : h₃.objs.size = h₁.objs.size := by rw [hs₃.1, hs₂.1]
  have hel : e < h₁.objs.size := Heap.lt_size he₁
  have ht₄ : h₄.get? h₁.objs.size = some { cls := .type "tuple", data := .seq #[.int c tk, x] } := by rw [← hh₄, ← hsz]; exact Heap.get?_push_size _ rfl
  have hz₄ : h₄.objs.size = h₁.objs.size + 1 := by rw [← hh₄, Heap.size_push, hsz]
  have hk₄ : ∀ b o, b ≠ e → h₁.get? b = some o → h₄.get? b = some o := fun b o hbe hb => by
    rw [← hh₄]; exact Heap.get?_push_of_some _ (hs₃.extBut b o hbe (hs₂.extBut b o hbe hb))
  show wpAny _ _ (Builtin.SmallTypes.ownedTupleIsFree (.ref e) >>= _) _ _ ⟨h₄, g, d, tk + 1, os⟩
  rw [hsz]
  clear hh₄ he₃ hs₃ he₂ hs₂ hsz h₃ h₂
  refine wpAny_bind ?_
  · unfold Builtin.SmallTypes.ownedTupleIsFree
    refine wpAny_bind (wpAny_field he₄ rfl (x := .none) rfl (wpAny_pure ?_))
    simp only [if_true]
    refine wpAny_bind (wpAny_rule ?_)
    refine wpAny_bind (wpAny_field he₄ rfl (x := old) rfl ?_)
    refine wpAny_bind (wpAny_setField_rec he₄ (by simp) fun h₅ he₅ hs₅ => ?_)
    replace hs₅ : Heap.SameBut e h₄ h₅ := hs₅
    replace he₅ : IsEnum h₅ e it (c + 1) x := he₅
    show wpAny _ _ (Builtin.SmallTypes.ownedTupleHandOut (.ref e) (.ref h₁.objs.size) >>= _) _ _ ⟨h₅, g, d, tk + 1, os⟩
    refine wpAny_bind ?_
    · unfold Builtin.SmallTypes.ownedTupleHandOut
      refine wpAny_bind (wpAny_setField_rec he₅ (by simp) fun h₆ he₆ hs₆ => ?_)
      replace hs₆ : Heap.SameBut e h₅ h₆ := hs₆
      replace he₆ : IsEnumOut h₆ e it (c + 1) x h₁.objs.size := he₆
      refine wpAny_setField_rec he₆ (by simp) fun h₇ he₇ hs₇ => ?_
      replace hs₇ : Heap.SameBut e h₆ h₇ := hs₇
      replace he₇ : IsEnumOut h₇ e it (c + 1) x h₁.objs.size := he₇
      refine wpAny_bind (wpAny_letGo (wpAny_pure ⟨_, rfl, hQ h₇ he₇ ?_ ?_ ?_⟩))
      · exact hs₇.extBut _ _ (Nat.ne_of_gt hel) (hs₆.extBut _ _ (Nat.ne_of_gt hel) (hs₅.extBut _ _ (Nat.ne_of_gt hel) ht₄))
      · show h₇.objs.size = h₁.objs.size + 1
        rw [hs₇.1, hs₆.1, hs₅.1, hz₄]
      · exact fun b o hbe hb => hs₇.extBut b o hbe (hs₆.extBut b o hbe (hs₅.extBut b o hbe (hk₄ b o hbe hb)))
theorem enumE_pyNext {e it : Addr} {c : Int} {old : Value} {Q : Option Value → Shared → Prop} (he : IsEnum s.heap e it c old)
    (hN : ∀ E', wpAny (model prog w) A.in1 (Builtin.SmallTypes.nextOf (.ref it)) (fun x s1 => IsEnum s1.heap e it c old ∧ ∀ h', IsEnumOut h' e it (c + 1) x s1.heap.objs.size →
      h'.get? s1.heap.objs.size = some { cls := .type "tuple", data := .seq #[.int c s1.toks, x] } → h'.objs.size = s1.heap.objs.size + 1 →
      (∀ b o, b ≠ e → s1.heap.get? b = some o → h'.get? b = some o) → Q (some (.ref s1.heap.objs.size)) { s1 with heap := h', toks := s1.toks + 1 }) E' s) :
    wpAny (model prog w) A (pyNext (.ref e)) Q E s := by
  have hT : s.TypeIs (.ref e) "enumerate" := ⟨_, he, rfl⟩
  unfold pyNext
  refine wpAny_bind (wpAny_attempt (wpAny_callSpecial?_slot (name := Str.ofString "__next__") hT F.slot_enumerate_next
    (wpAny_call_entry F.slot_enumerate_next hT F.entry_enumerate_next ?_ (F.args_enumerate_next_1 _))))
  refine enumE_next (Q := fun v s' => wpAny (model prog w) A (pure (some v)) Q E s') he ?_
  exact thn (hN _) fun x s1 ⟨a, b⟩ => ⟨a, fun h' q1 q2 q3 q4 => wpAny_pure (b h' q1 q2 q3 q4)⟩
theorem enumE_end {e it : Addr} {c : Int} {old : Value} {Q : Option Value → Shared → Prop} (he : IsEnum s.heap e it c old)
    (hN : ∀ (Q' : Value → Shared → Prop) (E' : Value → Shared → Prop), (∀ h' tk x, (∃ o, h'.get? x = some o ∧ o.cls = .type "StopIteration") → Q none { s with heap := h', toks := tk } → E' (.ref x) { s with heap := h', toks := tk }) → wpAny (model prog w) A.in1 (Builtin.SmallTypes.nextOf (.ref it)) Q' E' s) :
    wpAny (model prog w) A (pyNext (.ref e)) Q E s := by
  have hT : s.TypeIs (.ref e) "enumerate" := ⟨_, he, rfl⟩
  unfold pyNext
  refine wpAny_bind (wpAny_attempt (wpAny_callSpecial?_slot (name := Str.ofString "__next__") hT F.slot_enumerate_next
    (wpAny_call_entry F.slot_enumerate_next hT F.entry_enumerate_next ?_ (F.args_enumerate_next_1 _))))
  show wpAny _ _ (field (.ref e) 2 >>= _) _ _ _
  refine wpAny_bind (wpAny_field he rfl (x := .ref it) rfl ?_)
  refine wpAny_bind (hN _ _ fun h' tk x hx' hq => ?_)
  obtain ⟨o, ho, hc⟩ := hx'
  refine wpAny_bind (wpAny_isInstance (T := "StopIteration") (b := true) ⟨o, ho, hc⟩ isSubtype_stop ?_)
  exact wpAny_pure hq
/-- enumerate(z), z a zip just made -/
theorem call_enumZ {Q : Value → Shared → Prop} (hz : IsZip s.heap z TI TO .none)
    (h : ∀ h', IsEnum h' s.heap.objs.size z 0 .none → h'.objs.size = s.heap.objs.size + 1 →
      (∀ b o, s.heap.get? b = some o → h'.get? b = some o) → Q (.ref s.heap.objs.size) { s with heap := h' }) :
    wpAny (model prog w) A (call (.type "enumerate") [.ref z]) Q E s := by
  have M : Meets (Builtin.«enumerate.__new__» ⟨[.type "enumerate", .ref z], []⟩) (fun _ R s => IsZip s.heap z TI TO .none ∧
      R (.ok (.ret (.ref s.heap.objs.size)))
        { s with heap := s.heap.push { cls := .type "enumerate", data := .fields #[.none, .bool false, .ref z, rawInt 0, .none, .none] } }) :=
    .of_wp fun prog w A R s h => by
      obtain ⟨hp, g, d, tk, os⟩ := s
      obtain ⟨hL, h⟩ := h
      have hsub := sub_enumerate
      have hL' : IsZip (Shared.heap ⟨hp, g, d, tk, os⟩) z TI TO .none := hL
      wp_walk
      refine wpAny_stack_any fun st => wpAny_pure ?_
      split
      · rename_i c _ _ _ _ _
        cases (c == Value.type "enumerate")
        · wp_walk using wpAny_pyIter_zip hL'
          exact ⟨_, rfl, h⟩
        · wp_walk using wpAny_pyIter_zip hL'
          exact ⟨_, rfl, h⟩
      · wp_walk using wpAny_pyIter_zip hL'
        exact ⟨_, rfl, h⟩
  refine callType_new F.called_enumerate (by decide) (F.typeCall_enumerate_1 _) (F.newCall_enumerate_1 _) (fun obj => F.args_object_init_2 obj _) F.entry_enumerate_new M ⟨hz, ?_⟩
  have he : IsEnum (s.heap.push { cls := .type "enumerate", data := .fields #[.none, .bool false, .ref z, rawInt 0, .none, .none] }) s.heap.objs.size z 0 .none := Heap.get?_push_size _ rfl
  exact ⟨⟨_, he, rfl⟩, h _ he (by rw [Heap.size_push]) fun b o x => Heap.get?_push_of_some _ x⟩
end
end Sd

set_option Elab.async false
set_option linter.all false
set_option maxRecDepth 100000
set_option maxHeartbeats 4000000
/-! Sx3: zip(tuple, list), enumerate(zip(tuple, tuple)), enumerate(zip(*t)) walked. -/
namespace Sd
open PySem PySem.Spec PyProof.Rows L2

theorem sep2_new {I a b : Nat} (h1 : a < I) (h2 : b < I) : ZipSep2 (I + 4) (I + 2) (I + 3) I (I + 1) [I, a] [I + 1, b] := by
  have no : ∀ {c x y : Nat}, c ≠ x → c ≠ y → c ∉ [x, y] := fun h1 h2 z => by
    rcases List.mem_cons.mp z with z | z
    · exact h1 z
    · exact h2 (List.mem_singleton.mp z)
  have k : ∀ {x y : Nat}, ¬ x = y → (x : Addr) ≠ y := fun h => h
  exact ⟨k (by omega), k (by omega), k (by omega), k (by omega), List.mem_cons_self .., no (by omega) (by omega), no (by omega) (by omega), k (by omega), List.mem_cons_self .., no (by omega) (by omega), no (by omega) (by omega), no (by omega) (by omega), no (by omega) (by omega)⟩

/-- the tuple at a and the list at b as they stand at each turn, the items in new pairs -/
def ItzTL (K : PySem.W.Frag) (a b : Addr) : It :=
  ⟨fun i H => ∃ (xs ys : List V) (x y : V), SqT K H a xs ∧ SqL K H b ys ∧ xs[i]? = some x ∧ ys[i]? = some y,
    fun i H v H' => ∃ T x y, v = .ref T ∧ H T = none ∧ H' = upd H T (.tup [x, y]) ∧ (∀ xs, SqT K H a xs → xs[i]? = some x) ∧ ∀ ys, SqL K H b ys → ys[i]? = some y,
    fun i H => ∃ xs ys : List V, SqT K H a xs ∧ SqL K H b ys ∧ i ≤ xs.length ∧ i ≤ ys.length ∧ (i = xs.length ∨ i = ys.length)⟩
theorem turn_zipTL {P : Program} {w : World} {K : PySem.W.Frag} {elts : List Expr} {kk : Nat} {tpos : Pos} {a b z TI TO i1 i2 : Addr} (D : ZipSep2 z TI TO i1 i2 [i1, a] [i2, b]) (na : a ≠ i1) (nb : b ≠ i2) :
    Turn P w K (.Tuple elts kk tpos) (ItzTL K a b) [z, TI, TO, i1, i2] z (fun i h => IsZip h z TI TO .none ∧ IsPair h TI (.ref i1) (.ref i2) ∧ (∃ x y, IsPair h TO x y) ∧ h.IsTupleIter i1 a i ∧ h.IsListIter i2 b i) where
  mem := by simp
  obj := fun i h st c hc => by
    obtain ⟨hz, hTI, ⟨x, y, hTO⟩, ⟨o1, e1, _, d1⟩, ⟨o2, e2, _, d2⟩⟩ := st
    have e' : c = z ∨ c = TI ∨ c = TO ∨ c = i1 ∨ c = i2 := by simpa using hc
    rcases e' with q | q | q | q | q
    · rw [q]; exact ⟨_, hz, fun v q => nomatch q⟩
    · rw [q]; exact ⟨_, hTI, fun v q => nomatch q⟩
    · rw [q]; exact ⟨_, hTO, fun v q => nomatch q⟩
    · rw [q]; exact ⟨o1, e1, fun v q => by rw [d1] at q; cases q⟩
    · rw [q]; exact ⟨o2, e2, fun v q => by rw [d2] at q; cases q⟩
  keep := fun i h h' st k => by
    obtain ⟨hz, hTI, ⟨x, y, hTO⟩, h1, h2⟩ := st
    exact ⟨k z (by simp) _ hz, k TI (by simp) _ hTI, ⟨x, y, k TO (by simp) _ hTO⟩, h1.at fun o q => k i1 (by simp) o q, h2.at fun o q => k i2 (by simp) o q⟩
  item := by
    intro X hP hw hK hc i pins s σ H E I hf st hg
    subst hP hw hK
    obtain ⟨hz, hTI, ⟨x0, y0, hTO⟩, h1, h2⟩ := st
    obtain ⟨xs, ys, x, y, hqx, hqy, hx, hy⟩ := hg
    obtain ⟨its, rv, p, _⟩ := I.tuple hqx
    obtain ⟨its2, rv2, p2, _⟩ := I.list hqy
    obtain ⟨u, hu, ru⟩ := rv.get hx
    obtain ⟨u2, hu2, ru2⟩ := rv2.get hy
    have hzl : z < s.heap.objs.size := Heap.lt_size hz
    have D1 := Draws.tuple (prog := X.prog) (w := X.w) (A := X.A.in1) (I.ok.hd hc) i1 a na its.toArray
    have D2 := Draws.list (prog := X.prog) (w := X.w) (A := X.A.in1) (I.ok.hd hc) i2 b nb its2.toArray
    have hlt1 : i < its.toArray.size := by rw [List.size_toArray]; exact (List.getElem?_eq_some_iff.mp hu).1
    have hlt2 : i < its2.toArray.size := by rw [List.size_toArray]; exact (List.getElem?_eq_some_iff.mp hu2).1
    refine wpAny_pyNext_zipD2_item D D1 D2 hz hTI hTO ⟨h1, p⟩ ⟨h2, p2.isList⟩ hlt1 hlt2 fun x1 x2 h' tk px1 px2 z' TO' s1' s2' hT hsz hk => ?_
    have ex1 : x1 = u := by
      have q : its.toArray[i]? = some u := by simpa using hu
      rw [q] at px1
      cases px1
      rfl
    have ex2 : x2 = u2 := by
      have q : its2.toArray[i]? = some u2 := by simpa using hu2
      rw [q] at px2
      cases px2
      rfl
    subst ex1 ex2
    refine ⟨_, rfl, wpAny_letOwnedTupleGo_zip (s := { s with heap := h', toks := tk }) z' fun h'' z'' sb => ?_⟩
    have hT2 : h''.get? s.heap.objs.size = some { cls := .type "tuple", data := .seq #[x1, x2] } := (sb.2 _ (Nat.ne_of_gt hzl)).trans hT
    have new : ObjOk X.prog X.w (upd H s.heap.objs.size (.tup [x, y])) h'' s.heap.objs.size (.tup [x, y]) :=
      ⟨by show 2 ≤ sizeLine; decide, [x1, x2], .cons ru (.cons ru2 .nil), ⟨_, hT2, rfl, _, rfl⟩⟩
    have I1 : Inv X pins σ (upd H s.heap.objs.size (.tup [x, y])) { s with heap := h'', toks := tk } :=
      I.turnedNew (ch := [z, TI, TO, i1, i2]) (fun c o hb q => (sb.2 c (fun q' => hb (by simp [q']))).trans (hk c o (fun q' => hb (by simp [q'])) (fun q' => hb (by simp [q'])) (fun q' => hb (by simp [q'])) (fun q' => hb (by simp [q'])) q)) hf (Nat.le_refl _) new
    refine ⟨.ref s.heap.objs.size, _, I1, rfl, ⟨_, x, y, rfl, I.hok.fresh (Nat.le_refl _), rfl, fun l hl => by rw [I.tuple_inj hl hqx]; exact hx, fun l hl => by rw [I.list_inj hl hqy]; exact hy⟩, ⟨z'', ?_, ⟨x1, x2, ?_⟩, ?_, ?_⟩, fun c hcm => ?_⟩
    · exact (sb.2 _ D.TIz).trans (hk _ _ D.TIz D.TITO D.TIi1 D.TIi2 hTI)
    · exact (sb.2 _ D.TOz).trans TO'
    · exact s1'.1.at fun o q => (sb.2 _ D.zi1.symm).trans q
    · exact s2'.1.at fun o q => (sb.2 _ D.zi2.symm).trans q
    · have hlt : c < s.heap.objs.size := by
        have e' : c = z ∨ c = TI ∨ c = TO ∨ c = i1 ∨ c = i2 := by simpa using hcm
        rcases e' with q | q | q | q | q
        · rw [q]; exact hzl
        · rw [q]; exact Heap.lt_size hTI
        · rw [q]; exact Heap.lt_size hTO
        · rw [q]; obtain ⟨_, e1, _⟩ := h1; exact Heap.lt_size e1
        · rw [q]; obtain ⟨_, e2, _⟩ := h2; exact Heap.lt_size e2
      rw [upd_ne (Nat.ne_of_lt hlt)]
      exact (hf c hcm).1
  done := by
    intro X hP hw hK hc i pins s σ H E I hf st hg
    subst hP hw hK
    obtain ⟨hz, hTI, ⟨x0, y0, hTO⟩, h1, h2⟩ := st
    obtain ⟨xs, ys, hqx, hqy, e1, e2, hend⟩ := hg
    obtain ⟨its, rv, p, _⟩ := I.tuple hqx
    obtain ⟨its2, rv2, p2, _⟩ := I.list hqy
    have l1 := rv.length
    have l2 := rv2.length
    have D1 := Draws.tuple (prog := X.prog) (w := X.w) (A := X.A.in1) (I.ok.hd hc) i1 a na its.toArray
    have D2 := Draws.list (prog := X.prog) (w := X.w) (A := X.A.in1) (I.ok.hd hc) i2 b nb its2.toArray
    exact wpAny_pyNext_zipD2_end D D1 D2 hz hTI hTO ⟨h1, p⟩ ⟨h2, p2.isList⟩ (by rw [List.size_toArray]; omega) (by rw [List.size_toArray]; omega) (by rw [List.size_toArray, List.size_toArray]; omega) fun h' tk hk => ⟨rfl, I.turnedL (ch := [z, TI, TO, i1, i2]) (fun c o hb q =>
      hk c o (fun q' => hb (by simp [q'])) (fun q' => hb (by simp [q'])) (fun q' => hb (by simp [q'])) (fun q' => hb (by simp [q'])) q) hf⟩
  self := fun A i s Q E st h => wpAny_pyIter_zip st.1 h
def iZipTL (K : PySem.W.Frag) (ta : TA) : TI := fun σ H R => ta σ H fun vs H1 => ∃ a b xs ys, vs = [.ref a, .ref b] ∧ SqT K H1 a xs ∧ SqL K H1 b ys ∧ R (ItzTL K a b) H1
theorem pi_zipTL {X : Cx} {e e2 : Expr} {ta : TA} {p pos tpos : Pos} {elts : List Expr} {kk : Nat} (hg : Gl X "zip") (hm : X.mg "zip" = none) (ha : PA X [e, e2] ta)
    (hs : starEach [e, e2] X.env = (false, eval e X.env) :: starEach [e2] X.env := by rfl) (hpl : (backTo pos (starEach [e2] X.env)).any (·.1) = false := by rfl) :
    PI X (.Tuple elts kk tpos) (.Call (.Name "zip" p) [e, e2] [] pos) (iZipTL X.K ta) := by
  refine ⟨fun pins s σ H R I h => ?_⟩
  refine Call_ (ld_blt I hg hm PyProof.Rows.boot_zip (PyProof.Rows.callWith_type1 (thn (ha.run pos pins s σ H _ I h) fun us s1 ⟨vs, H1, I1, r1, q1⟩ => ?_) hs hpl))
  obtain ⟨a, b, xs, ys, ex, hqx, hqy, q⟩ := q1
  subst ex
  cases r1 with
  | cons r rr =>
    cases rr with
    | cons r' rr =>
      cases rr
      cases r
      cases r'
      have fresh5 : ∀ c, c ∈ [s1.heap.objs.size + 4, s1.heap.objs.size + 2, s1.heap.objs.size + 3, s1.heap.objs.size, s1.heap.objs.size + 1] → FpOk X pins H1 c := fun c hcm => by
        have e' : c = s1.heap.objs.size + 4 ∨ c = s1.heap.objs.size + 2 ∨ c = s1.heap.objs.size + 3 ∨ c = s1.heap.objs.size ∨ c = s1.heap.objs.size + 1 := by simpa using hcm
        have hle : s1.heap.objs.size ≤ c := by
          rcases e' with z | z | z | z | z
          · rw [z]; exact Nat.le_add_right _ _
          · rw [z]; exact Nat.le_add_right _ _
          · rw [z]; exact Nat.le_add_right _ _
          · rw [z]; exact Nat.le_refl _
          · rw [z]; exact Nat.le_add_right _ _
        exact I1.fpOk hle (I1.hok.fresh hle)
      obtain ⟨its, rv, p1, _⟩ := I1.tuple hqx
      obtain ⟨its2, rv2, p2, _⟩ := I1.list hqy
      have ha1 : a < s1.heap.objs.size := by obtain ⟨_, q, _⟩ := id p1; exact Heap.lt_size q
      have hb1 : b < s1.heap.objs.size := p2.lt
      refine zip_begins2 (begins_tuple a its.toArray) (begins_list b its2.toArray) p1 p2.isList fun h' hz hTI hTO h1 h2 hsz hk => wpAny_pyIter_zip hz ?_
      have I2 : Inv X pins σ H1 { s1 with heap := h' } := I1.kept (t' := s1.toks) hk
      exact ⟨s1.heap.objs.size + 4, [s1.heap.objs.size + 4, s1.heap.objs.size + 2, s1.heap.objs.size + 3, s1.heap.objs.size, s1.heap.objs.size + 1], _, _, H1, rfl, I2, turn_zipTL (sep2_new ha1 hb1) (Nat.ne_of_lt ha1) (Nat.ne_of_lt (Nat.lt_succ_of_lt hb1)), ⟨hz, hTI, ⟨_, _, hTO⟩, ⟨_, h1, rfl, rfl⟩, ⟨_, h2, rfl, rfl⟩⟩, fresh5, q⟩

/-! ### enumerate(zip(tuple, tuple)) -/
/-- the tuples at a and b, (place, (item, item)) -/
def Itez (K : PySem.W.Frag) (a b : Addr) : It :=
  ⟨fun i H => ∃ (xs ys : List V) (x y : V), SqT K H a xs ∧ SqT K H b ys ∧ xs[i]? = some x ∧ ys[i]? = some y,
    fun i H v H' => ∃ T T2 x y, v = .ref T2 ∧ H T = none ∧ H T2 = none ∧ T2 ≠ T ∧ H' = upd (upd H T (.tup [x, y])) T2 (.tup [.int (i : Nat), .ref T]) ∧ (∀ xs, SqT K H a xs → xs[i]? = some x) ∧ ∀ ys, SqT K H b ys → ys[i]? = some y,
    fun i H => ∃ xs ys : List V, SqT K H a xs ∧ SqT K H b ys ∧ i ≤ xs.length ∧ i ≤ ys.length ∧ (i = xs.length ∨ i = ys.length)⟩
structure EzOk (e z TI TO i1 i2 a b : Addr) : Prop where
  S : ZipSep2 z TI TO i1 i2 [i1, a] [i2, b]
  na : a ≠ i1
  nb : b ≠ i2
  ez : e ≠ z
  eI : e ≠ TI
  eO : e ≠ TO
  e1 : e ≠ i1
  e2 : e ≠ i2
theorem turn_enumZip {P : Program} {w : World} {K : PySem.W.Frag} {elts : List Expr} {kk : Nat} {tpos : Pos} {a b e z TI TO i1 i2 : Addr} (N : EzOk e z TI TO i1 i2 a b) :
    Turn P w K (.Tuple elts kk tpos) (Itez K a b) [e, z, TI, TO, i1, i2] e (fun i h => (∃ old, IsEnum h e z ((i : Nat) : Int) old) ∧ (∃ f0 f1, IsZipF h z TI TO f0 f1 ∧ ZF f0) ∧ IsPair h TI (.ref i1) (.ref i2) ∧ (∃ x y, IsPair h TO x y) ∧ h.IsTupleIter i1 a i ∧ h.IsTupleIter i2 b i) where
  mem := by simp
  obj := fun i h st c hc => by
    obtain ⟨⟨old, he⟩, ⟨f0, f1, hz, _⟩, hTI, ⟨x, y, hTO⟩, ⟨o1, e1, _, d1⟩, ⟨o2, e2, _, d2⟩⟩ := st
    have e' : c = e ∨ c = z ∨ c = TI ∨ c = TO ∨ c = i1 ∨ c = i2 := by simpa using hc
    rcases e' with q | q | q | q | q | q
    · rw [q]; exact ⟨_, he, fun v q => nomatch q⟩
    · rw [q]; exact ⟨_, hz, fun v q => nomatch q⟩
    · rw [q]; exact ⟨_, hTI, fun v q => nomatch q⟩
    · rw [q]; exact ⟨_, hTO, fun v q => nomatch q⟩
    · rw [q]; exact ⟨o1, e1, fun v q => by rw [d1] at q; cases q⟩
    · rw [q]; exact ⟨o2, e2, fun v q => by rw [d2] at q; cases q⟩
  keep := fun i h h' st k => by
    obtain ⟨⟨old, he⟩, ⟨f0, f1, hz, zf⟩, hTI, ⟨x, y, hTO⟩, h1, h2⟩ := st
    exact ⟨⟨old, k e (by simp) _ he⟩, ⟨f0, f1, k z (by simp) _ hz, zf⟩, k TI (by simp) _ hTI, ⟨x, y, k TO (by simp) _ hTO⟩, h1.at fun o q => k i1 (by simp) o q, h2.at fun o q => k i2 (by simp) o q⟩
  item := by
    intro X hP hw hK hc i pins s σ H E I hf st hg
    subst hP hw hK
    obtain ⟨⟨old, he⟩, ⟨f0, f1, hz, zf⟩, hTI, ⟨x0, y0, hTO⟩, h1, h2⟩ := st
    obtain ⟨xs, ys, x, y, hqx, hqy, hx, hy⟩ := hg
    obtain ⟨its, rv, p, _⟩ := I.tuple hqx
    obtain ⟨its2, rv2, p2, _⟩ := I.tuple hqy
    obtain ⟨u, hu, ru⟩ := rv.get hx
    obtain ⟨u2, hu2, ru2⟩ := rv2.get hy
    have hlt : ∀ c ∈ [e, z, TI, TO, i1, i2], c < s.heap.objs.size := fun c hcm => by
      have e' : c = e ∨ c = z ∨ c = TI ∨ c = TO ∨ c = i1 ∨ c = i2 := by simpa using hcm
      rcases e' with q | q | q | q | q | q
      · rw [q]; exact Heap.lt_size he
      · rw [q]; exact Heap.lt_size hz
      · rw [q]; exact Heap.lt_size hTI
      · rw [q]; exact Heap.lt_size hTO
      · rw [q]; obtain ⟨_, e1, _⟩ := h1; exact Heap.lt_size e1
      · rw [q]; obtain ⟨_, e2, _⟩ := h2; exact Heap.lt_size e2
    have D1 := Draws.tuple (prog := X.prog) (w := X.w) (A := X.A.in1.in1) (I.ok.hd hc) i1 a N.na its.toArray
    have D2 := Draws.tuple (prog := X.prog) (w := X.w) (A := X.A.in1.in1) (I.ok.hd hc) i2 b N.nb its2.toArray
    have hlt1 : i < its.toArray.size := by rw [List.size_toArray]; exact (List.getElem?_eq_some_iff.mp hu).1
    have hlt2 : i < its2.toArray.size := by rw [List.size_toArray]; exact (List.getElem?_eq_some_iff.mp hu2).1
    refine enumE_pyNext he fun E' => zipE_nextOf_item N.S D1 D2 hz zf hTI hTO ⟨h1, p⟩ ⟨h2, p2⟩ hlt1 hlt2 fun x1 x2 h₁ tk g0 g1 b1 b2 px1 px2 hz' zf' TO' s1' s2' hT hsz hk => ?_
    have ex1 : x1 = u := by
      have q : its.toArray[i]? = some u := by simpa using hu
      rw [q] at px1
      cases px1
      rfl
    have ex2 : x2 = u2 := by
      have q : its2.toArray[i]? = some u2 := by simpa using hu2
      rw [q] at px2
      cases px2
      rfl
    subst ex1 ex2
    refine ⟨hk _ _ N.ez N.eO N.e1 N.e2 he, fun h' ho hT2 hsz2 hk2 => ⟨_, rfl, ?_⟩⟩
    replace hT2 : h'.get? h₁.objs.size = some { cls := .type "tuple", data := .seq #[.int i tk, .ref s.heap.objs.size] } := hT2
    replace hk2 : ∀ b o, b ≠ e → h₁.get? b = some o → h'.get? b = some o := hk2
    replace ho : IsEnumOut h' e z ((i : Nat) + 1) (.ref s.heap.objs.size) h₁.objs.size := ho
    -- the pair
    have new1 : ObjOk X.prog X.w (upd H s.heap.objs.size (.tup [x, y])) h₁ s.heap.objs.size (.tup [x, y]) :=
      ⟨by show 2 ≤ sizeLine; decide, [x1, x2], .cons ru (.cons ru2 .nil), ⟨_, hT, rfl, _, rfl⟩⟩
    have I1 : Inv X pins σ (upd H s.heap.objs.size (.tup [x, y])) { s with heap := h₁, toks := tk } :=
      I.turnedNew (ch := [e, z, TI, TO, i1, i2]) (fun c o hb q => hk c o (fun q' => hb (by simp [q'])) (fun q' => hb (by simp [q'])) (fun q' => hb (by simp [q'])) (fun q' => hb (by simp [q'])) q) hf (Nat.le_refl _) new1
    have hf1 : ∀ c ∈ [e, z, TI, TO, i1, i2], FpOk X pins (upd H s.heap.objs.size (.tup [x, y])) c := fun c hcm =>
      ⟨by rw [upd_ne (Nat.ne_of_lt (hlt c hcm))]; exact (hf c hcm).1, (hf c hcm).2⟩
    refine wpAny_letOwnedTupleGo_enum (s := { s with heap := h', toks := tk + 1 }) ho fun h'' he' sb => ?_
    have hel : e < h₁.objs.size := by rw [hsz]; exact Nat.lt_succ_of_lt (hlt e (by simp))
    have hT3 : h''.get? h₁.objs.size = some { cls := .type "tuple", data := .seq #[.int i tk, .ref s.heap.objs.size] } := (sb.2 _ (Nat.ne_of_gt hel)).trans hT2
    have new2 : ObjOk X.prog X.w (upd (upd H s.heap.objs.size (.tup [x, y])) h₁.objs.size (.tup [.int (i : Nat), .ref s.heap.objs.size])) h'' h₁.objs.size (.tup [.int (i : Nat), .ref s.heap.objs.size]) :=
      ⟨by show 2 ≤ sizeLine; decide, [.int i tk, .ref s.heap.objs.size], .cons ⟨_, rfl⟩ (.cons rfl .nil), ⟨_, hT3, rfl, _, rfl⟩⟩
    have I2 : Inv X pins σ (upd (upd H s.heap.objs.size (.tup [x, y])) h₁.objs.size (.tup [.int (i : Nat), .ref s.heap.objs.size])) { s with heap := h'', toks := tk + 1 } :=
      I1.turnedNew (ch := [e, z, TI, TO, i1, i2]) (fun c o hb q => (sb.2 c (fun q' => hb (by simp [q']))).trans (hk2 c o (fun q' => hb (by simp [q'])) q)) hf1 (Nat.le_refl _) new2
    have fr1 : H h₁.objs.size = none := by
      refine I.hok.fresh ?_
      rw [hsz]
      exact Nat.le_succ _
    have ne12 : h₁.objs.size ≠ s.heap.objs.size := by rw [hsz]; exact Nat.succ_ne_self _
    have up : ∀ c o, c ≠ e → h₁.get? c = some o → h''.get? c = some o := fun c o hce q => (sb.2 _ hce).trans (hk2 _ _ hce q)
    refine ⟨.ref h₁.objs.size, _, I2, rfl, ⟨s.heap.objs.size, h₁.objs.size, x, y, rfl, I.hok.fresh (Nat.le_refl _), fr1, ne12, rfl, fun l hl => by rw [I.tuple_inj hl hqx]; exact hx, fun l hl => by rw [I.tuple_inj hl hqy]; exact hy⟩, ⟨⟨.ref s.heap.objs.size, ?_⟩, ⟨g0, g1, ?_, zf'⟩, ?_, ⟨b1, b2, ?_⟩, ?_, ?_⟩, fun c hcm => ?_⟩
    · have e1 : ((i + 1 : Nat) : Int) = (i : Int) + 1 := by omega
      rw [e1]; exact he'
    · exact up _ _ N.ez.symm hz'
    · exact up _ _ N.eI.symm (hk _ _ N.S.TIz N.S.TITO N.S.TIi1 N.S.TIi2 hTI)
    · exact up _ _ N.eO.symm TO'
    · exact s1'.1.at fun o q => up _ _ N.e1.symm q
    · exact s2'.1.at fun o q => up _ _ N.e2.symm q
    · have hc1 : c < h₁.objs.size := by rw [hsz]; exact Nat.lt_succ_of_lt (hlt c hcm)
      rw [upd_ne (Nat.ne_of_lt hc1)]
      exact (hf1 c hcm).1
  done := by
    intro X hP hw hK hc i pins s σ H E I hf st hg
    subst hP hw hK
    obtain ⟨⟨old, he⟩, ⟨f0, f1, hz, zf⟩, hTI, ⟨x0, y0, hTO⟩, h1, h2⟩ := st
    obtain ⟨xs, ys, hqx, hqy, e1, e2, hend⟩ := hg
    obtain ⟨its, rv, p, _⟩ := I.tuple hqx
    obtain ⟨its2, rv2, p2, _⟩ := I.tuple hqy
    have l1 := rv.length
    have l2 := rv2.length
    have D1 := Draws.tuple (prog := X.prog) (w := X.w) (A := X.A.in1.in1) (I.ok.hd hc) i1 a N.na its.toArray
    have D2 := Draws.tuple (prog := X.prog) (w := X.w) (A := X.A.in1.in1) (I.ok.hd hc) i2 b N.nb its2.toArray
    refine enumE_end he fun Q' E' hE => zipE_nextOf_end N.S D1 D2 hz zf hTI hTO ⟨h1, p⟩ ⟨h2, p2⟩ (by rw [List.size_toArray]; omega) (by rw [List.size_toArray]; omega) (by rw [List.size_toArray, List.size_toArray]; omega) fun h' tk x hk hx => ?_
    exact hE h' tk x hx ⟨rfl, I.turnedL (ch := [e, z, TI, TO, i1, i2]) (fun c o hb q =>
      hk c o (fun q' => hb (by simp [q'])) (fun q' => hb (by simp [q'])) (fun q' => hb (by simp [q'])) (fun q' => hb (by simp [q'])) q) hf⟩
  self := fun A i s Q E st h => let ⟨⟨_, he⟩, _⟩ := st; wpAny_pyIter_enum he h
/-- the six cells of enumerate(zip(..)) just made -/
theorem pi_ez {X : Cx} {pins : List (Addr × Obj)} {σ : L2.St} {H : Hp} {s : Shared} {R : It → Hp → Prop} {a b : Addr} {xs ys : List V} {E : Value → Shared → Prop} {elts : List Expr} {kk : Nat} {tpos : Pos} (I : Inv X pins σ H s) (hqx : SqT X.K H a xs) (hqy : SqT X.K H b ys) (q : R (Itez X.K a b) H) :
    wpAny (model X.prog X.w) X.A (call (.type "zip") [.ref a, .ref b]) (fun v s1 => ∀ A', wpAny (model X.prog X.w) A' (call (.type "enumerate") [v]) (fun v2 s2 => ∀ E', wpAny (model X.prog X.w) X.A (pyIter v2) (PIE X pins σ (.Tuple elts kk tpos) R) E' s2) E s1) E s := by
  obtain ⟨its, rv, p1, _⟩ := I.tuple hqx
  obtain ⟨its2, rv2, p2, _⟩ := I.tuple hqy
  have ha1 : a < s.heap.objs.size := by obtain ⟨_, q, _⟩ := id p1; exact Heap.lt_size q
  have hb1 : b < s.heap.objs.size := by obtain ⟨_, q, _⟩ := id p2; exact Heap.lt_size q
  refine zip_begins2 (begins_tuple a its.toArray) (begins_tuple b its2.toArray) p1 p2 fun h' hz hTI hTO h1 h2 hsz hk A' => ?_
  refine call_enumZ (s := { s with heap := h' }) hz fun h'' he hsz2 hk2 E' => wpAny_pyIter_enum he ?_
  replace hsz2 : h''.objs.size = h'.objs.size + 1 := hsz2
  replace hk2 : ∀ b o, h'.get? b = some o → h''.get? b = some o := hk2
  replace he : IsEnum h'' h'.objs.size (s.heap.objs.size + 4) 0 .none := he
  have I2 : Inv X pins σ H { s with heap := h'' } := I.kept (t' := s.toks) fun b o e => hk2 b o (hk b o e)
  have fresh6 : ∀ c, c ∈ [h'.objs.size, s.heap.objs.size + 4, s.heap.objs.size + 2, s.heap.objs.size + 3, s.heap.objs.size, s.heap.objs.size + 1] → FpOk X pins H c := fun c hcm => by
    have e' : c = h'.objs.size ∨ c = s.heap.objs.size + 4 ∨ c = s.heap.objs.size + 2 ∨ c = s.heap.objs.size + 3 ∨ c = s.heap.objs.size ∨ c = s.heap.objs.size + 1 := by simpa using hcm
    have hle : s.heap.objs.size ≤ c := by
      rcases e' with z | z | z | z | z | z
      · rw [z, hsz]; exact Nat.le_add_right _ _
      · rw [z]; exact Nat.le_add_right _ _
      · rw [z]; exact Nat.le_add_right _ _
      · rw [z]; exact Nat.le_add_right _ _
      · rw [z]; exact Nat.le_refl _
      · rw [z]; exact Nat.le_add_right _ _
    exact I.fpOk hle (I.hok.fresh hle)
  refine ⟨h'.objs.size, [h'.objs.size, s.heap.objs.size + 4, s.heap.objs.size + 2, s.heap.objs.size + 3, s.heap.objs.size, s.heap.objs.size + 1], _, _, H, rfl, I2, turn_enumZip ⟨sep2_new ha1 hb1, Nat.ne_of_lt ha1, Nat.ne_of_lt (Nat.lt_succ_of_lt hb1), ?_, ?_, ?_, ?_, ?_⟩, ⟨⟨_, he⟩, ⟨_, _, hk2 _ _ hz, .inl rfl⟩, hk2 _ _ hTI, ⟨_, _, hk2 _ _ hTO⟩, ⟨_, hk2 _ _ h1, rfl, rfl⟩, ⟨_, hk2 _ _ h2, rfl, rfl⟩⟩, fresh6, q⟩
  all_goals (rw [hsz]; first | exact Nat.ne_of_gt (Nat.lt_succ_self _) | (intro z; have z' : s.heap.objs.size + 5 = _ := z; simp at z'))
def iEnumZip (K : PySem.W.Frag) (ta : TA) : TI := fun σ H R => ta σ H fun vs H1 => ∃ a b xs ys, vs = [.ref a, .ref b] ∧ SqT K H1 a xs ∧ SqT K H1 b ys ∧ R (Itez K a b) H1
theorem pi_enumZip {X : Cx} {e e2 : Expr} {ta : TA} {p p2 pos pos2 tpos : Pos} {elts : List Expr} {kk : Nat} (hg : Gl X "enumerate") (hm : X.mg "enumerate" = none) (hg2 : Gl X "zip") (hm2 : X.mg "zip" = none) (ha : PA X [e, e2] ta)
    (hs : starEach [e, e2] X.env = (false, eval e X.env) :: starEach [e2] X.env := by rfl) (hpl : (backTo pos2 (starEach [e2] X.env)).any (·.1) = false := by rfl) :
    PI X (.Tuple elts kk tpos) (.Call (.Name "enumerate" p) [.Call (.Name "zip" p2) [e, e2] [] pos2] [] pos) (iEnumZip X.K ta) := by
  refine ⟨fun pins s σ H R I h => ?_⟩
  have na : starEach [.Call (.Name "zip" p2) [e, e2] [] pos2] X.env = (false, eval (.Call (.Name "zip" p2) [e, e2] [] pos2) X.env) :: starEach [] X.env := rfl
  refine Call_ (ld_blt I hg hm boot_enumerate (PyProof.Rows.callWith_type1 (PyProof.Rows.args_cons ?_ na) na rfl))
  refine Call_ (ld_blt I hg2 hm2 PyProof.Rows.boot_zip (PyProof.Rows.callWith_type1 (thn (ha.run pos2 pins s σ H _ I h) fun us s1 ⟨vs, H1, I1, r1, q1⟩ => ?_) hs hpl))
  obtain ⟨a, b, xs, ys, ex, hqx, hqy, q⟩ := q1
  subst ex
  cases r1 with
  | cons r rr =>
    cases rr with
    | cons r' rr =>
      cases rr
      cases r
      cases r'
      exact thn (pi_ez I1 hqx hqy q) fun v s2 k => PyProof.Rows.args_nil (thn (k _) fun v2 s3 k2 => k2 _)
/-- a built-in type called with a lone starred argument -/
theorem callWith_typeS {M : Model} {A : Around} {E : Value → Shared → Prop} {s : Shared} {env : Env} {pos p : Pos} {T : String} {e : Expr} {Q : Value → Shared → Prop}
    (h : wpAny M A (eval e env) (fun v s₁ => PySem.W.StarOf M A E v (fun vs s₂ => wpAny M A (call (.type T) vs) Q E s₂) s₁) E s) :
    wpAny M A (callWith pos (.type T) [] (backTo pos (starEach [.Starred e p] env)) []) Q E s := by
  have he : starEach [.Starred e p] env = [(true, eval e env)] := rfl
  rw [he]
  refine PySem.W.ks_call (P := fun _ => True) rfl (fun h _ => ⟨.machine, .inr (.inl rfl), PySem.W.Looks.of_pure rfl⟩) (PySem.W.ks_lone (thn h fun v s1 q => ?_))
  exact thn q fun b s2 z => ⟨z.1, thn z.2 fun vs s3 z2 => ⟨trivial, z2⟩⟩
def iEnumZipStar (K : PySem.W.Frag) (te : TE) : TI := fun σ H R => te σ H fun v H1 => ∃ t a b xs ys, v = .ref t ∧ SqT K H1 t [.ref a, .ref b] ∧ SqT K H1 a xs ∧ SqT K H1 b ys ∧ R (Itez K a b) H1
theorem pi_enumZipStar {X : Cx} {e : Expr} {te : TE} {p p2 p3 pos pos2 tpos : Pos} {elts : List Expr} {kk : Nat} (hg : Gl X "enumerate") (hm : X.mg "enumerate" = none) (hg2 : Gl X "zip") (hm2 : X.mg "zip" = none) (he : PE X e te) :
    PI X (.Tuple elts kk tpos) (.Call (.Name "enumerate" p) [.Call (.Name "zip" p2) [.Starred e p3] [] pos2] [] pos) (iEnumZipStar X.K te) := by
  refine ⟨fun pins s σ H R I h => ?_⟩
  have na : starEach [.Call (.Name "zip" p2) [.Starred e p3] [] pos2] X.env = (false, eval (.Call (.Name "zip" p2) [.Starred e p3] [] pos2) X.env) :: starEach [] X.env := rfl
  refine Call_ (ld_blt I hg hm boot_enumerate (PyProof.Rows.callWith_type1 (PyProof.Rows.args_cons ?_ na) na rfl))
  refine Call_ (ld_blt I hg2 hm2 PyProof.Rows.boot_zip (callWith_typeS (thn (he.run pins s σ H _ I h) fun v s1 ⟨y, H1, I1, ry, t, a, b, xs, ys, ey, ht, hqx, hqy, q⟩ => ?_)))
  subst ey
  obtain rfl : v = Value.ref t := ry
  refine StX.star_any I1 (.inl ht) fun us s2 I2 rv => ?_
  cases rv with
  | cons r rr =>
    cases rr with
    | cons r' rr =>
      cases rr
      cases r
      cases r'
      exact thn (pi_ez I2 hqx hqy q) fun v s2 k => PyProof.Rows.args_nil (thn (k _) fun v2 s3 k2 => k2 _)
end Sd

set_option Elab.async false
set_option linter.all false
set_option maxRecDepth 100000
set_option maxHeartbeats 4000000
/-! Sx4: repr of data of tuples. -/
namespace Sd
open PySem PySem.Spec PyProof.Rows L2
def rReprG (K : PySem.W.Frag) : List V → Hp → VK → Prop := fun xs H Q => ∃ (x : V) (d : PyData), xs = [x] ∧ Tp K H d x ∧ PyData.showable d = true ∧ PyData.hasDict d = false ∧ PyData.depth d ≤ 10 ∧ (PyData.shown d).length ≤ sizeLine ∧ Q (.str (PyData.shown d)) H
theorem call_reprG {X : Cx} (hg : X.A.guards = some []) (hu : X.A.units + 64 < cLine) : CallR X (.builtin "repr") (rReprG X.K) := by
  intro pins s σ H xs us Q I r h
  obtain ⟨x, d, rfl, hd, h1, h2, h3, h4, q⟩ := h
  obtain ⟨u, rfl, rx⟩ := vals1 r
  cases d with
  | none =>
    cases hd.none_
    cases rx
    exact PySem.P.repr_of_none ⟨.str _, H, I.tok _, ⟨_, rfl⟩, q⟩
  | bool b =>
    cases hd.bool_
    cases rx
    refine PySem.P.repr_of_bool ⟨.str _, H, I.tok _, ⟨_, rfl⟩, q⟩
  | int i =>
    cases hd.int_
    obtain ⟨t, rfl⟩ := rx
    exact PySem.P.repr_of_int (by simpa [PyData.showable] using h1) ⟨.str _, H, I.tok _, ⟨_, rfl⟩, q⟩
  | str z =>
    cases hd.str_
    obtain ⟨t, rfl⟩ := rx
    exact PySem.P.repr_of_str (hsz := h4) ⟨.str _, H, I.tok _, ⟨_, rfl⟩, q⟩
  | tuple ds =>
    obtain ⟨a, ys, rfl, hx, ht⟩ := Tp.tup_ hd
    cases rx
    obtain ⟨as, rd⟩ := Dp.reads I (.tuple ds) (.ref a) (.ref a) (Tp.dp _ _ hd) rfl
    exact repr_of_reads' rd h1 (fun e => by rw [h2] at e; cases e) hg (by omega) (fun b o e => e) (fun h' u tk hk => ⟨.str _, H, I.kept hk, ⟨_, rfl⟩, q⟩) h4
  | list _ => simp only [Tp] at hd
  | dict _ => simp only [Tp] at hd
end Sd

set_option Elab.async false
set_option linter.all false
set_option maxRecDepth 100000
set_option maxHeartbeats 4000000
/-! Sx5: dicts keyed by nested tuples. -/
namespace Sd
open PySem PySem.Spec PyProof.Rows L2

section
variable {X : Cx} {pins : List (Addr × Obj)} {σ : L2.St} {H : Hp} {s : Shared}
mutual
theorem nested_of (I : Inv X pins σ H s) : ∀ (k : NestedKey) (v : V) (u : Value), Tp X.K H (NestedKey.data k) v → RelV v u → NestedIs s.heap k u
  | .none, _, _, h, r => by
    simp only [NestedKey.data] at h
    cases h.none_
    cases r
    exact .none
  | .num i, _, _, h, r => by
    simp only [NestedKey.data] at h
    cases h.int_
    obtain ⟨t, rfl⟩ := r
    exact .int i t
  | .text x, _, _, h, r => by
    simp only [NestedKey.data] at h
    cases h.str_
    obtain ⟨t, rfl⟩ := r
    exact .text x t
  | .tup ks, _, _, h, r => by
    simp only [NestedKey.data] at h
    obtain ⟨a, xs, rfl, hx, ht⟩ := h.tup_
    cases r
    obtain ⟨its, rv, p, _⟩ := I.tuple hx
    obtain ⟨o, ho, hc, n, hd⟩ := p
    exact .tup ho hc hd (by
      have e : its.toArray.toList = its := by simp
      rw [e]
      exact nestedAll_of I ks xs its ht rv)
theorem nestedAll_of (I : Inv X pins σ H s) : ∀ (ks : List NestedKey) (vs : List V) (us : List Value), Tps X.K H (NestedKey.datas ks) vs → Vals vs us → NestedAll s.heap ks us
  | [], _, _, h, r => by
    simp only [NestedKey.datas] at h
    cases h.nil_
    cases r
    exact .nil
  | k :: ks, _, _, h, r => by
    simp only [NestedKey.datas] at h
    obtain ⟨x, xr, rfl, h1, h2⟩ := h.cons_
    cases r with
    | cons r1 r2 => exact .cons (nested_of I k x _ h1 r1) (nestedAll_of I ks xr _ h2 r2)
end
end

/-- the dict at p has these keys (with their tuples' places), in this order -/
def nphi (P : Program) (w : World) (p : Addr) (xs : List (NestedKey × Addr)) (h : Heap) : Prop :=
  ∃ ys : List (NestedKey × Addr × Value), ys.map (fun y => (y.1, y.2.1)) = xs ∧ ∃ o es ep, h.get? p = some o ∧ o.ExactDict ∧ o.data = .dict es ep ∧ es.toList = ys.map (entryOfKey (nestedKind P w))
def NO (P : Program) (w : World) (p : Addr) (xs : List (NestedKey × Addr)) : HO := .ext (nphi P w p xs)
/-- at p stands a dict with the keys ks -/
def ND (K : PySem.W.Frag) (P : Program) (w : World) (H : Hp) (p : Addr) (ks : List NestedKey) : Prop :=
  ∃ xs : List (NestedKey × Addr), H p = some (NO P w p xs) ∧ xs.map (·.1) = ks ∧ ks.Nodup ∧ xs.length ≤ sizeLine ∧ (p == sysModules) = false ∧ ∀ x ∈ xs, Tp K H (NestedKey.data x.1) (.ref x.2) ∧ x.1.depth ≤ 8
theorem ND.mono {K : PySem.W.Frag} {P : Program} {w : World} {H H' : Hp} {p : Addr} {ks : List NestedKey} (i : Im H H') (e : ∀ o, H p = some o → H' p = some o) (h : ND K P w H p ks) : ND K P w H' p ks := by
  obtain ⟨xs, a, b, c, d, f, g⟩ := h
  exact ⟨xs, e _ a, b, c, d, f, fun x hx => ⟨Tp.mono i _ _ (g x hx).1, (g x hx).2⟩⟩
section
variable {P : Program} {w : World} {h h' : Heap} {p : Addr} {xs : List (NestedKey × Addr)}
theorem no_ok {H' : Hp} {ys : List (NestedKey × Addr × Value)} (e : ys.map (fun y => (y.1, y.2.1)) = xs) (hd : h.DictOfH (nestedKind P w) p ys) : ObjOk P w H' h p (NO P w p xs) := by
  obtain ⟨o, es, ep, ho, hc, hdat, he, his, hn⟩ := hd
  refine ⟨⟨ys, e, o, es, ep, ho, hc, hdat, he⟩, ⟨o, ho⟩, fun h1 h2 ⟨zs, e2, o2, es2, ep2, ho2, hc2, hd2, he2⟩ k => ⟨zs, e2, o2, es2, ep2, k _ ho2, hc2, hd2, he2⟩⟩
theorem NO.of {X : Cx} {pins : List (Addr × Obj)} {σ : L2.St} {H : Hp} {s : Shared} {ks : List NestedKey} (I : Inv X pins σ H s) (h : ND X.K X.prog X.w H p ks) : ∃ ys : List (NestedKey × Addr × Value), s.heap.DictOfH (nestedKind X.prog X.w) p ys ∧ ys.map (·.1) = ks ∧
    ys.length ≤ sizeLine ∧ (p == sysModules) = false ∧ ∀ y ∈ ys, Tp X.K H (NestedKey.data y.1) (.ref y.2.1) ∧ y.1.depth ≤ 8 := by
  obtain ⟨xs, a, b, c, d, f, g⟩ := h
  obtain ⟨⟨ys, e, o, es, ep, ho, hc, hdat, he⟩, _, _⟩ := I.hok _ _ a
  have hk : ys.map (·.1) = ks := by
    rw [← b, ← e, List.map_map]
    rfl
  have g' : ∀ y ∈ ys, Tp X.K H (NestedKey.data y.1) (.ref y.2.1) ∧ y.1.depth ≤ 8 := fun y hy => g (y.1, y.2.1) (by rw [← e]; exact List.mem_map_of_mem hy)
  refine ⟨ys, ⟨o, es, ep, ho, hc, hdat, he, fun y hy => ⟨nested_of I _ _ _ (g' y hy).1 rfl, (g' y hy).2⟩, by rw [hk]; exact c⟩, hk, ?_, f, g'⟩
  have hl := congrArg List.length e
  rw [List.length_map] at hl
  omega
theorem atKey_some (ys : List (NestedKey × Addr × Value)) (k : NestedKey) : (atKey ys k).isSome = decide (k ∈ ys.map (·.1)) := by
  unfold atKey
  rw [Option.isSome_map]
  by_cases e : k ∈ ys.map (·.1)
  · rw [decide_eq_true e, List.find?_isSome]
    obtain ⟨y, hy, rfl⟩ := List.mem_map.mp e
    exact ⟨y, hy, by simp⟩
  · rw [decide_eq_false e]
    cases q : ys.find? (fun x => decide (x.1 = k)) with
    | none => rfl
    | some y =>
      have h1 := List.mem_of_find?_eq_some q
      have h2 := List.find?_some q
      simp only [decide_eq_true_eq] at h2
      exact absurd (by rw [← h2]; exact List.mem_map_of_mem h1) e
end
abbrev rInN (K : PySem.W.Frag) (P : Program) (w : World) : R2 := fun x y H Q => ∃ (k : NestedKey) (a p : Addr) (ks : List NestedKey), x = .ref a ∧ y = .ref p ∧ Tp K H (NestedKey.data k) (.ref a) ∧ k.depth ≤ 8 ∧ ND K P w H p ks ∧ (∃ l, k = .tup l) ∧ Q (.bl (decide (k ∈ ks))) H
abbrev rNotInN (K : PySem.W.Frag) (P : Program) (w : World) : R2 := fun x y H Q => ∃ (k : NestedKey) (a p : Addr) (ks : List NestedKey), x = .ref a ∧ y = .ref p ∧ Tp K H (NestedKey.data k) (.ref a) ∧ k.depth ≤ 8 ∧ ND K P w H p ks ∧ (∃ l, k = .tup l) ∧ Q (.bl (!decide (k ∈ ks))) H
section
variable {X : Cx}
theorem op_inN (hu : X.A.units + 64 < cLine) : OpR X (compareOp .In) (rInN X.K X.prog X.w) := by
  intro pins s σ H x y v u Q I rx ry h
  obtain ⟨k, a, p, ks, rfl, rfl, hk, hd, hn, _, q⟩ := h
  cases rx
  cases ry
  obtain ⟨ys, dd, e, hz, hp, g⟩ := NO.of I hn
  refine wpAny_in_heap (knd := nestedKind X.prog X.w) (show X.A.units + 1 + 8 < cLine by omega) ⟨nested_of I k _ _ hk rfl, hd⟩ hp dd ?_
  rw [atKey_some, e]
  exact ⟨.bl _, H, I.tok _, rfl, q⟩
theorem op_notInN (hu : X.A.units + 64 < cLine) : OpR X (compareOp .NotIn) (rNotInN X.K X.prog X.w) := by
  intro pins s σ H x y v u Q I rx ry h
  obtain ⟨k, a, p, ks, rfl, rfl, hk, hd, hn, _, q⟩ := h
  cases rx
  cases ry
  obtain ⟨ys, dd, e, hz, hp, g⟩ := NO.of I hn
  show wpAny _ _ (do return Value.bool (!(← contains (.ref p) (.ref a)))) _ _ s
  refine wpAny_bind (wpAny_contains_heap (knd := nestedKind X.prog X.w) (show X.A.units + 1 + 8 < cLine by omega) ⟨nested_of I k _ _ hk rfl, hd⟩ hp dd (wpAny_pure ?_))
  rw [atKey_some, e]
  exact ⟨.bl _, H, I.tok _, rfl, q⟩
/-- d[k] = v, k not yet there -/
def rSetN (K : PySem.W.Frag) (P : Program) (w : World) : V → V → V → Hp → (Hp → Prop) → Prop := fun o i v H Q => ∃ (k : NestedKey) (a p : Addr) (ks : List NestedKey), o = .ref p ∧ i = .ref a ∧ Tp K H (NestedKey.data k) (.ref a) ∧ k.depth ≤ 8 ∧ ND K P w H p ks ∧ k ∉ ks ∧ ks.length + 1 ≤ 100000 ∧
  ∀ u, (∃ xs, u = NO P w p xs) → ND K P w (upd H p u) p (ks ++ [k]) → Q (upd H p u)
theorem im_upd {P : Program} {w : World} {H : Hp} {p : Addr} {u : HO} {xs : List (NestedKey × Addr)} (h : H p = some (NO P w p xs)) : Im H (upd H p u) := fun a ys q => by
  have ne : a ≠ p := fun z => by
    subst z
    rcases q with q | ⟨o, q⟩ <;> (rw [h] at q; cases q)
  rcases q with q | ⟨o, q⟩
  · exact .inl (by rw [upd_ne ne]; exact q)
  · exact .inr ⟨o, by rw [upd_ne ne]; exact q⟩
theorem set_N (hu : X.A.units + 64 < cLine) : PSet X (rSetN X.K X.prog X.w) := by
  intro pins s σ H o i v ov iv u Q I ro ri rv h
  obtain ⟨k, a, p, ks, rfl, rfl, hk, hd, hn, hnew, hz0, q⟩ := h
  cases ro
  cases ri
  obtain ⟨ys, dd, e, hz, hp, g⟩ := NO.of I hn
  have hno : atKey ys k = none := by
    have z := atKey_some ys k
    rw [e, decide_eq_false hnew] at z
    cases q : atKey ys k with
    | none => rfl
    | some _ => rw [q] at z; cases z
  refine wpAny_setItem_heap (knd := nestedKind X.prog X.w) (show X.A.units + 1 + 8 < cLine by omega) ⟨nested_of I k _ _ hk rfl, hd⟩ dd (fun h' dd' hs => ?_) (hsz := hz)
  rw [storedH_new hno] at dd'
  obtain ⟨xs, hx, e1, nd, hl, _, g1⟩ := hn
  have lz : ys.length = ks.length := by rw [← e, List.length_map]
  have he : ∃ q, h'.get? p = some q := by
    obtain ⟨q, _, _, hq, _⟩ := dd'
    exact ⟨q, hq⟩
  have I' : Inv X pins σ (upd H p (NO X.prog X.w p ((ys ++ [(k, a, u)]).map fun y => (y.1, y.2.1)))) { s with heap := h', toks := s.toks + (nestedKind X.prog X.w).draws k } :=
    d_write I (by rw [hx]; exact True.intro) hs he (no_ok rfl dd')
  refine ⟨_, I', q _ ⟨_, rfl⟩ ⟨_, upd_same, ?_, ?_, ?_, hp, fun x hx' => ?_⟩⟩
  · rw [List.map_append, List.map_append, List.map_map, ← e]
    rfl
  · rw [List.nodup_append]
    exact ⟨nd, by simp, fun a ha b hb z => by
      rw [List.mem_singleton] at hb
      subst hb
      subst z
      exact hnew ha⟩
  · rw [List.length_map, List.length_append, lz]
    exact Nat.le_trans hz0 (by decide)
  · obtain ⟨y, hy, rfl⟩ := List.mem_map.mp hx'
    have im := im_upd (u := NO X.prog X.w p ((ys ++ [(k, a, u)]).map fun y => (y.1, y.2.1))) hx
    rcases List.mem_append.mp hy with hy | hy
    · exact ⟨Tp.mono im _ _ (g y hy).1, (g y hy).2⟩
    · rw [List.mem_singleton] at hy
      subst hy
      exact ⟨Tp.mono im _ _ hk, hd⟩
/-- {k: v} -/
def tDictN1 (K : PySem.W.Frag) (P : Program) (w : World) (tk tv : TE) : TE := fun σ H Q => ∀ p, H p = none → tk σ (upd H p (NO P w p [])) fun x H1 => tv σ H1 fun y H2 => H2 p = some (NO P w p []) ∧ ∃ (k : NestedKey) (a : Addr), x = .ref a ∧ Tp K H2 (NestedKey.data k) (.ref a) ∧ k.depth ≤ 8 ∧
  ∀ u, (∃ xs, u = NO P w p xs) → ND K P w (upd H2 p u) p [k] → Q (.ref p) (upd H2 p u)
theorem pe_dictN1 (hu : X.A.units + 64 < cLine) {k v : Expr} {tk tv : TE} {pos : Pos} (hk : PE X k tk) (hv : PE X v tv) : PE X (.Dict [some k] [v] pos) (tDictN1 X.K X.prog X.w tk tv) := by
  refine ⟨fun pins s σ H Q I q => ?_⟩
  have hn := I.hok.fresh (Nat.le_refl s.heap.objs.size)
  have hp : (s.heap.objs.size == sysModules) = false := beq_eq_false_iff_ne.mpr (Ne.symm (Nat.ne_of_lt I.big))
  have d0 : (s.heap.push { cls := .type "dict", data := .dict #[] }).DictOfH (nestedKind X.prog X.w) s.heap.objs.size [] := Heap.DictOfH.new _
  have I1 := I.laid (a := s.heap.objs.size) (o := NO X.prog X.w s.heap.objs.size []) (h' := s.heap.push { cls := .type "dict", data := .dict #[] }) (t' := s.toks) (fun _ _ q => Heap.get?_push_of_some _ q) (Nat.le_refl _) (no_ok (ys := []) rfl d0)
  rw [arm_eval_Dict, zip_pairTrees [some k] [v] X.env pos rfl rfl, dictDisplay_pairs (pairTrees [some k] [v] X.env pos) (by intro z; cases z) (by show 1 < 17; decide)]
  refine wpAny_bind (wpAny_standAt (wpAny_bind (wpAny_subDictH (knd := nestedKind X.prog X.w) (show X.A.units + 8 < cLine by omega) (show 1 ≤ 15 by decide) ?_)))
  refine pairTrees_cons_walk (thn (hk.run pins _ σ _ _ I1 (q _ hn)) fun u1 s1 ⟨x, H1, I2, rx, q1⟩ => thn (hv.run pins s1 σ H1 _ I2 q1) fun w2 s2 ⟨y, H2, I3, ry, q2⟩ => pairTrees_nil_walk ?_)
  obtain ⟨hx, kk, a, rfl, hk1, hd, q2⟩ := q2
  cases rx
  obtain ⟨⟨ys, e, o, es, ep, ho, hc, hdat, he⟩, _, _⟩ := I3.hok _ _ hx
  cases ys with
  | cons y ys => cases e
  | nil =>
    refine ⟨[(kk, a, w2)], ⟨rfl, rfl, ⟨nested_of I3 kk _ _ hk1 rfl, hd⟩, trivial⟩, ⟨o, es, ep, ho, hc, hdat, he, (fun _ z => nomatch z), List.nodup_nil⟩, fun h' tk dz hs => wpAny_pure ?_⟩
    have ez : storedAllH ([] : List (NestedKey × Addr × Value)) [(kk, a, w2)] = [(kk, a, w2)] := rfl
    rw [ez] at dz
    have hq : ∃ q, h'.get? s.heap.objs.size = some q := by
      obtain ⟨q, _, _, hq, _⟩ := id dz
      exact ⟨q, hq⟩
    have I4 : Inv X pins σ (upd H2 s.heap.objs.size (NO X.prog X.w s.heap.objs.size [(kk, a)])) { s2 with heap := h', toks := tk } :=
      d_write I3 (by rw [hx]; exact True.intro) hs hq (no_ok (ys := [(kk, a, w2)]) rfl dz)
    refine ⟨.ref s.heap.objs.size, _, I4, rfl, q2 _ ⟨_, rfl⟩ ⟨_, upd_same, rfl, by simp, (by show 1 ≤ sizeLine; decide), hp, fun z hz => ?_⟩⟩
    rw [List.mem_singleton] at hz
    subst hz
    exact ⟨Tp.mono (im_upd hx) _ _ hk1, hd⟩
end
end Sd

set_option Elab.async false
set_option linter.all false
set_option maxRecDepth 100000
set_option maxHeartbeats 4000000
/-! Sx6: set(list of texts), sorted(set of texts). -/
namespace Sd
open PySem PySem.Spec PyProof.Rows L2
theorem isS {P : Program} {w : World} (k : Str) (tk : Tok) : (PySem.strKind P w).is k (.str k tk) = true := by
  show Value.isStrOf k (.str k tk) = true
  simp [Value.isStrOf]
def keyS (e : Int × Value) : Str := match e.2 with | .str k _ => k | _ => ⟨#[]⟩
def GoodS (w : World) (e : Int × Value) : Prop := ∃ k tk, e.2 = Value.str k tk ∧ e.1 = hashStr w k
/-- the set of texts at a -/
def SetS (w : World) (h : Heap) (a : Addr) (S : Str → Bool) (n : Nat) : Prop :=
  ∃ o es ep t, h.get? a = some o ∧ o.ExactSet ∧ o.data = .set es ep t ∧ (∀ e ∈ es.toList, GoodS w e) ∧ (es.toList.map keyS).Nodup ∧ (∀ k, S k = true ↔ k ∈ es.toList.map keyS) ∧
    es.size < scanBound ∧ t.fits es.size = true ∧ es.size = n ∧ Ris t.place.toList ∧ (w.params.followText "set-order" = true ∨ t.led = true)
section
variable {P : Program} {w : World} {h h' : Heap} {a : Addr} {S : Str → Bool} {n : Nat}
theorem SetS.at (R : SetS w h a S n) (k : ∀ o, h.get? a = some o → h'.get? a = some o) : SetS w h' a S n := by
  obtain ⟨o, es, ep, t, ho, r⟩ := R
  exact ⟨o, es, ep, t, k o ho, r⟩
theorem SetS.lt (R : SetS w h a S n) : a < h.objs.size := by
  obtain ⟨o, es, ep, t, ho, r⟩ := R
  exact Heap.lt_size ho
theorem SetS.congr {S' : Str → Bool} (R : SetS w h a S n) (e : ∀ k, S' k = S k) : SetS w h a S' n := by
  have q : S' = S := funext e
  rw [q]; exact R
theorem goodS_elems {l : List (Int × Value)} (g : ∀ e ∈ l, GoodS w e) : ElemsOf (PySem.strKind P w) l := fun e he => by
  obtain ⟨k, tk, h1, h2⟩ := g e he
  exact ⟨⟨k, by rw [h1]; exact isS k tk, h2⟩, by rw [h1] <;> rfl⟩
theorem goodS_is {e : Int × Value} (g : GoodS w e) (k : Str) : (PySem.strKind P w).is k e.2 = true ↔ keyS e = k := by
  obtain ⟨k0, tk, h1, _⟩ := g
  unfold keyS
  rw [h1]
  constructor
  · intro z
    have z' : Value.isStrOf k (.str k0 tk) = true := z
    obtain ⟨t, e'⟩ := Value.isStrOf_shape z'
    cases e'
    rfl
  · intro z
    have z' : k0 = k := z
    rw [z']
    exact isS k tk
theorem goodS_mem {l : List (Int × Value)} (g : ∀ e ∈ l, GoodS w e) (k : Str) : k ∈ l.map keyS ↔ ∃ e ∈ l, (PySem.strKind P w).is k e.2 = true := by
  rw [List.mem_map]
  constructor
  · rintro ⟨e, he, q⟩
    exact ⟨e, he, (goodS_is (g e he) k).2 q⟩
  · rintro ⟨e, he, q⟩
    exact ⟨e, he, (goodS_is (g e he) k).1 q⟩
theorem SetS.setOf (R : SetS w h a S n) : h.SetOf (PySem.strKind P w) a S n := by
  obtain ⟨o, es, ep, t, ho, hx, hd, g, nd, hm, hb, hf, hn, _⟩ := R
  exact ⟨o, es, ep, t, ho, hx, hd, goodS_elems g, fun k => (hm k).trans (goodS_mem g k), hb, hf, hn⟩
end

section
variable {P : Program} {w : World} {A : Around} {E : Value → Shared → Prop} {s : Shared} {a : Addr} {S : Str → Bool} {n : Nat}

/-! ### add -/
theorem storeS_at {h : Heap} {a : Addr} {o : Obj} {es es' : Array (Int × Value)} {ep : Nat} {t t' : SetTable} (ho : h.get? a = some o) (hd : o.data = .set es ep t) :
    (h.update a (Obj.putSet es' t')).get? a = some { o with data := .set es' (ep + 1) t' } := by
  have q := Heap.get?_update_self (Obj.putSet es' t') ho (by rw [putSet_of es' t' hd]; rfl)
  rw [putSet_of es' t' hd] at q
  exact q

theorem setS_add_tail {g : Bool → Sem Unit} (hg : ∀ (b : Bool) (s₁ : Shared) (Q' : Unit → Shared → Prop), Q' () s₁ → wpAny (model P w) A (g b) Q' E s₁)
    {o : Obj} {es : Array (Int × Value)} {ep : Nat} {t : SetTable} (ho : s.heap.get? a = some o) (hex : o.ExactSet) (hd : o.data = .set es ep t)
    {es1 : Array (Int × Value)} {t2 : SetTable} {S' : Str → Bool} (g1 : ∀ e ∈ es1.toList, GoodS w e) (nd1 : (es1.toList.map keyS).Nodup) (m1 : ∀ k, S' k = true ↔ k ∈ es1.toList.map keyS)
    (hb1 : es1.size < scanBound) (hf2 : t2.fits es1.size = true) (hr : Ris t2.place.toList) (hl : w.params.followText "set-order" = true ∨ t2.led = true) {wasDummy : Bool} {R : Option Bool → Shared → Prop}
    (hR : ∀ h', Heap.SameBut a s.heap h' → SetS w h' a S' es1.size → R (some true) { s with heap := h' }) :
    wpAny (model P w) A (do
        storeSet a es1 t2
        if (!wasDummy && t2.tooFull) = true then do
            g (relayAll t2 es1 (SetTable.grown es1.size)).2.2
            storeSet a (relayAll t2 es1 (SetTable.grown es1.size)).1 (relayAll t2 es1 (SetTable.grown es1.size)).2.1
            pure (some true)
          else pure (some true)) R E s := by
  refine wpAny_bind (wpAny_storeSet_of ho hd ?_ (fits_of_scanBound hb1))
  have ho1 := storeS_at (es' := es1) (t' := t2) ho hd
  have sb1 := Heap.SameBut.update s.heap a (Obj.putSet es1 t2)
  split
  · have pm := relayAll_perm t2 es1 (SetTable.grown es1.size)
    have hf3 := relayAll_fits t2 es1 (SetTable.grown es1.size)
    have hr3 := relayAll_ris t2 es1 (SetTable.grown es1.size)
    have hl3 := relayAll_led t2 es1 (SetTable.grown es1.size)
    generalize relayAll t2 es1 (SetTable.grown es1.size) = Z at pm hf3 hr3 hl3 ⊢
    obtain ⟨es2, t3, gave⟩ := Z
    dsimp only at pm hf3 hr3 hl3 ⊢
    have hsz : es2.size = es1.size := by rw [← Array.length_toList, pm.length_eq, Array.length_toList]
    have hb2 : es2.size < scanBound := by rw [hsz]; exact hb1
    refine wpAny_bind (hg _ _ _ ?_)
    refine wpAny_bind (wpAny_storeSet_of ho1 rfl ?_ (fits_of_scanBound hb2))
    have ho2 := storeS_at (es' := es2) (t' := t3) ho1 rfl
    refine wpAny_pure (hR _ (sb1.trans (Heap.SameBut.update _ a _)) ?_)
    exact ⟨_, es2, _, t3, ho2, hex, rfl, fun e he => g1 e (pm.mem_iff.mp he), (pm.map keyS).nodup_iff.mpr nd1, fun k => (m1 k).trans (pm.map keyS).mem_iff.symm, hb2, hf3, hsz, hr3,
      hl.imp id fun z => by rw [hl3]; exact z⟩
  · exact wpAny_pure (hR _ sb1 ⟨_, es1, _, t2, ho1, hex, rfl, g1, nd1, m1, hb1, hf2, rfl, hr, hl⟩)

theorem setS_add_hashed {k : Str} {tk : Tok} {Q : Bool → Shared → Prop} (R : SetS w s.heap a S n) (room : n + 1 < scanBound)
    (hQ : ∀ h', Heap.SameBut a s.heap h' → SetS w h' a (fun j => S j || decide (j = k)) (if S k = true then n else n + 1) → Q (!S k) { s with heap := h' }) :
    wpAny (model P w) A (setAddHashed a (.str k tk) ((PySem.strKind P w).hash k)) Q E s := by
  obtain ⟨o, es, ep, t, ho, hex, hd, g, nd, hm, hb, hf, hn, hr, hl⟩ := R
  have hkey : (PySem.strKind P w).is k (.str k tk) = true := isS k tk
  have hsc : (Value.str k tk).scannable = true := rfl
  have hel : ElemsOf (PySem.strKind P w) es.toList := goodS_elems g
  unfold setAddHashed setAddHashedIn
  refine wpAny_holding (wpAny_bind (wpAny_setState_of ho hd hf ?_))
  dsimp only
  rw [byScan_of hsc hb hel]
  simp only [↓reduceIte]
  unfold setAddByScan
  refine wpAny_bind ?_
  refine wpAny_bind (wpAny_rule ?_)
  refine wpAny_bind (wpAny_setScan_of hkey ho hd hf hel ?_)
  cases hfi : List.findIdx? (fun e => (PySem.strKind P w).is k e.2) es.toList with
  | some j =>
    dsimp only
    obtain ⟨hj, pj, _⟩ := List.findIdx?_eq_some_iff_getElem.mp hfi
    have hSk : S k = true := (hm k).2 ((goodS_mem (P := P) (w := w) g k).2 ⟨es.toList[j], List.getElem_mem hj, pj⟩)
    refine wpAny_pure (wpAny_pure ?_)
    have q := hQ s.heap (Heap.SameBut.refl a s.heap) ⟨o, es, ep, t, ho, hex, hd, g, nd, fun i => by
      rw [Bool.or_eq_true, decide_eq_true_eq, ← hm i]
      exact ⟨fun z => z.elim id (fun e => e ▸ hSk), .inl⟩, hb, hf, by rw [if_pos hSk]; exact hn, hr, hl⟩
    rw [hSk] at q
    exact q
  | none =>
    dsimp only
    have hnk : k ∉ es.toList.map keyS := fun z => by
      obtain ⟨e, he, q⟩ := (goodS_mem (P := P) (w := w) g k).1 z
      have c := List.findIdx?_eq_none_iff.mp hfi e he
      rw [q] at c
      cases c
    have hSk : S k = false := by
      cases q : S k with
      | false => rfl
      | true => exact absurd ((hm k).1 q) hnk
    have hgw : ∀ (b : Bool) {s₁ : Shared} {Q' : Unit → Shared → Prop}, Q' () s₁ → wpAny (model P w) A (match b with | true => rule "set.scan.the-table-gave-way" | false => pure ()) Q' E s₁ :=
      fun b s₁ Q' q => by cases b <;> first | exact wpAny_pure q | exact wpAny_rule q
    have pm := layNew_perm t es ((PySem.strKind P w).hash k) (.str k tk)
    have hf1 := layNew_fits t es ((PySem.strKind P w).hash k) (.str k tk)
    have hr1 := layNew_ris t es ((PySem.strKind P w).hash k) (.str k tk) hr
    have hl1 := layNew_led t es ((PySem.strKind P w).hash k) (.str k tk)
    generalize layNew t es ((PySem.strKind P w).hash k) (.str k tk) = Z at pm hf1 hr1 hl1 ⊢
    obtain ⟨es1, t1, wasDummy, gave⟩ := Z
    dsimp only at pm hf1 hr1 hl1 ⊢
    rw [Array.toList_push] at pm
    have pc : es1.toList.Perm (((PySem.strKind P w).hash k, Value.str k tk) :: es.toList) := pm.trans (List.perm_append_singleton _ _)
    have pk : (es1.toList.map keyS).Perm (k :: es.toList.map keyS) := pc.map keyS
    have g1 : ∀ e ∈ es1.toList, GoodS w e := fun e he => by
      rcases List.mem_cons.mp (pc.mem_iff.mp he) with z | z
      · rw [z]; exact ⟨k, tk, rfl, rfl⟩
      · exact g e z
    have nd1 : (es1.toList.map keyS).Nodup := pk.nodup_iff.mpr (List.nodup_cons.mpr ⟨hnk, nd⟩)
    have m1 : ∀ i, (S i || decide (i = k)) = true ↔ i ∈ es1.toList.map keyS := fun i => by
      rw [Bool.or_eq_true, decide_eq_true_eq, hm i, pk.mem_iff, List.mem_cons]
      exact Or.comm
    have hsz : es1.size = n + 1 := by rw [← Array.length_toList, pc.length_eq, List.length_cons, Array.length_toList, hn]
    have hb1 : es1.size < scanBound := by rw [hsz]; exact room
    have hled : w.params.followText "set-order" = true ∨ t1.led = true := hl.imp id fun z => by rw [hl1]; exact z
    have fin : ∀ h', Heap.SameBut a s.heap h' → SetS w h' a (fun j => S j || decide (j = k)) es1.size → Q true { s with heap := h' } := fun h' sb r => by
      have q := hQ h' sb
      rw [hSk] at q
      rw [hsz] at r
      exact q r
    refine wpAny_bind (hgw _ ?_)
    split
    · refine wpAny_bind ?_
      rw [hashByValue_scannable 8 hsc]
      refine wpAny_pure ?_
      refine setS_add_tail ?_ ho hex hd g1 nd1 m1 hb1 ?_ ?_ ?_ ?_
      · intro b s₁ Q' q; cases b <;> first | exact wpAny_pure q | exact wpAny_rule q
      · first | (split <;> first | exact hf1 | exact SetTable.fits_plain_off hf1) | exact hf1
      · first | (split <;> exact hr1) | exact hr1
      · first | (split <;> exact hled) | exact hled
      · intro h' sb r; dsimp only; exact wpAny_pure (fin h' sb r)
    · refine wpAny_bind (wpAny_pure ?_)
      simp only [↓reduceIte]
      refine setS_add_tail ?_ ho hex hd g1 nd1 m1 hb1 hf1 hr1 hled ?_
      · intro b s₁ Q' q; cases b <;> first | exact wpAny_pure q | exact wpAny_rule q
      · intro h' sb r; dsimp only; exact wpAny_pure (fin h' sb r)

end
theorem setS_new_at {w : World} {h : Heap} {a : Addr} {ns : List Str} (ho : h.get? a = some { cls := .type "set", dict := none, data := .set #[] 0 (.fresh 0 0 (!w.params.followText "set-order")) }) : SetS w h a (fun j => decide (j ∈ ns.take 0)) 0 :=
  ⟨_, #[], 0, _, ho, ⟨rfl, rfl, rfl⟩, rfl, (fun e he => by simp at he), (by simp), (fun k => by simp), (by decide), (by rfl), rfl, List.Pairwise.nil, by
    show _ ∨ (!w.params.followText "set-order") = true
    cases w.params.followText "set-order"
    · exact .inr rfl
    · exact .inl rfl⟩
theorem strs_at : ∀ {vs : List Value} {ns : List Str}, StrsAre vs ns → ∀ (i : Nat) (v : Value), vs[i]? = some v → ∃ k t, ns[i]? = some k ∧ v = .str k t
  | _, _, .nil, i, v, e => by simp at e
  | _, _, .cons x t _, 0, v, e => by
    cases e
    exact ⟨x, t, rfl, rfl⟩
  | _, _, .cons x t r, i + 1, v, e => by
    obtain ⟨k, t', h1, h2⟩ := strs_at r i v (by simpa using e)
    exact ⟨k, t', by simpa using h1, h2⟩
section
variable {P : Program} {w : World} {A : Around} {E : Value → Shared → Prop} {s : Shared}
theorem set_update_strs {I : Addr} {fp wr : List Addr} {G : Array GenState → Array GenState → Prop} {n : Nat} {Pv : Nat → Value → Prop} {St : Nat → Shared → Prop} {R : Result → Shared → Prop}
    (W : WalksS P w A.in1 I fp wr G n Pv St) (S : Addr) (hSf : S ∉ fp) (ns : List Str) (hn : n = ns.length) (hb : ns.length + 1 < scanBound) (hval : ∀ i v, Pv i v → ∃ k t, ns[i]? = some k ∧ v = .str k t) :
    ∀ (k i : Nat) (s : Shared), n - i = k → i ≤ n → St i s → (∃ c, c ≤ i ∧ SetS w s.heap S (fun j => decide (j ∈ ns.take i)) c) →
      (∀ s' c, Moved (S :: wr) G s s' → c ≤ n → SetS w s'.heap S (fun j => decide (j ∈ ns)) c → R (.ok (.ret .none)) s') →
      codeAny (model P w) A (.builtin "set.update.loop" ⟨[.ref S, .ref I], []⟩) R s := by
  have hSw : S ∉ wr := fun h => hSf (W.sub _ h)
  have hsub : ∀ b ∈ wr, b ∈ S :: wr := fun b hb => List.mem_cons_of_mem _ hb
  intro k
  induction k with
  | zero =>
    intro i s hk' hi hst ⟨c, hc, hS⟩ hR
    have hin : i = n := by omega
    subst hin
    refine codeAny_builtin F.entry_set_update_loop ?_
    rw [Around.under_plainId F.plain_set_update_loop _]
    show wpAny _ A.in1 (pyNext (.ref I) >>= _) _ _ s
    refine wpAny_bind (W.done s _ _ hst fun s' hm => ?_)
    show wpAny _ A.in1 (ret Value.none) _ _ s'
    have e : ns.take i = ns := List.take_of_length_le (by omega)
    rw [e] at hS
    exact wpAny_pure (hR s' c (hm.mono hsub) hc (hS.at fun o e => hm.heap S o hSw e))
  | succ k ih =>
    intro i s hk' hi hst ⟨c, hc, hS⟩ hR
    have hlt : i < n := by omega
    refine codeAny_builtin F.entry_set_update_loop ?_
    rw [Around.under_plainId F.plain_set_update_loop _]
    show wpAny _ A.in1 (pyNext (.ref I) >>= _) _ _ s
    refine wpAny_bind (W.item i s _ _ hlt hst fun v s' hP hst' hm => ?_)
    obtain ⟨z, t, hz, rfl⟩ := hval i v hP
    have hS' : SetS w s'.heap S (fun j => decide (j ∈ ns.take i)) c := hS.at fun o e => hm.heap S o hSw e
    show wpAny _ A.in1 (holding [Value.str z t] (setAdd S (.str z t)) >>= _) _ _ s'
    refine wpAny_bind (wpAny_holding ?_)
    unfold setAdd
    refine wpAny_holding ?_
    refine wpAny_bind ((PySem.strKind P w).pyHash (k := z) (isS z t) ?_)
    refine setS_add_hashed (s := { s' with toks := s'.toks + 1 }) hS' (by omega) fun h' hsb hS2 => ?_
    have hS3 : SetS w h' S (fun j => decide (j ∈ ns.take (i + 1))) (if decide (z ∈ ns.take i) = true then c else c + 1) := hS2.congr fun j => by
      rw [List.take_add_one, hz]
      simp [List.mem_append]
    have hc3 : (if decide (z ∈ ns.take i) = true then c else c + 1) ≤ i + 1 := by
      split <;> omega
    refine wpAny_pure ⟨plainId_quiet F.plain_set_update_loop _, ih (i + 1) _ (by omega) hlt (W.frame _ s' _ _ hst' (Nat.le_succ _) fun b hb o e => ?_) ⟨_, hc3, hS3⟩ fun s'' c2 hm'' hc'' hS'' => ?_⟩
    · rw [hsb.2 b (fun h : b = S => hSf (by rw [← h]; exact hb))]; exact e
    · refine hR s'' c2 (Moved.trans W.gtrans ((hm.mono hsub).then_heap (Nat.le_succ _) fun b o hb e => ?_) hm'') hc'' hS''
      rw [hsb.2 b (fun h : b = S => hb (by rw [h]; exact List.mem_cons_self))]; exact e

set_option maxRecDepth 100000 in
set_option maxHeartbeats 3200000 in
theorem call_set_lstS {l : Addr} {items : Array Value} (ns : List Str) {Q : Value → Shared → Prop} (hh : A.handled = none) (hl : s.heap.IsList l items) (hit : StrsAre items.toList ns) (hb : ns.length + 1 < scanBound)
    (h : ∀ (h' : Heap) (tk c : Nat), SetS w h' s.heap.objs.size (fun j => decide (j ∈ ns)) c → c ≤ ns.length → (∀ b o, s.heap.get? b = some o → h'.get? b = some o) → Q (.ref s.heap.objs.size) { s with heap := h', toks := tk }) :
    wpAny (model P w) A (call (.type "set") [.ref l]) Q E s := by
  have hisz : items.size = ns.length := by
    have q := StrsAre.length hit
    rw [Array.length_toList] at q
    exact q
  obtain ⟨c, tl, hmro⟩ := F.called_set.mro
  have hmade := F.called_set.made
  have hsub := F.called_set.sub
  refine wpAny_call (codeAny_of_tree ?_)
  show wpAny _ _ (callAny (.type "set") _) _ _ _
  refine wpAny_pure ⟨Code.quiet_builtin _ (by decide +kernel), codeAny_builtin F.entry_type_call ?_⟩
  rw [Around.under_plain (weight_type_call_type "set" [.ref l] []) rfl]
  have h1 := F.called_set.notType
  have h2 := F.called_set.canCreate
  have hct := F.typeCall_set_1 (.ref l)
  repeat (any_goals (first | assumption | wp_step))

  refine codeAny_mono (code_set_led1 (.ref l) (E := E) (Q₁ := fun obj s₁ => obj = .ref s.heap.objs.size ∧ s₁ = { s with heap := s.heap.push { cls := .type "set", dict := none, data := .set #[] 0 (.fresh 0 0 (!w.params.followText "set-order")) } }) ⟨rfl, rfl⟩) fun r s₁ hr => ?_
  cases r with
  | error e => exact hr
  | ok fl =>
    cases fl with
    | ret obj =>
      obtain ⟨rfl, rfl⟩ := hr
      have hS : (s.heap.push { cls := .type "set", dict := none, data := .set #[] 0 (.fresh 0 0 (!w.params.followText "set-order")) }).get? s.heap.objs.size = some { cls := .type "set", dict := none, data := .set #[] 0 (.fresh 0 0 (!w.params.followText "set-order")) } := Heap.get?_push_size _ rfl
      have hT : Shared.TypeIs { s with heap := s.heap.push { cls := .type "set", dict := none, data := .set #[] 0 (.fresh 0 0 (!w.params.followText "set-order")) } } (.ref s.heap.objs.size) "set" := ⟨_, hS, rfl⟩
      have hli := F.called_set.init.lookup
      have hbi := F.called_set.init.bind (.ref s.heap.objs.size)
      repeat (any_goals (first | assumption | wp_step))

      refine codeAny_mono (codeAny_call_builtin (R := wants (fun r s₂ => r = .none ∧ ∃ h' tk c, s₂ = { s with heap := h', toks := tk } ∧ SetS w h' s.heap.objs.size (fun j => decide (j ∈ ns)) c ∧ c ≤ ns.length ∧
          (∀ b o, s.heap.get? b = some o → h'.get? b = some o)) E) F.called_set.init.plain F.entry_set_init (check_set_init_1 hT ?_)) fun r₂ s₂ hr₂ => ?_
      · obtain ⟨ol, hol, hcl, nl, hdl⟩ := hl
        obtain ⟨ocls, odict, odata, oslots⟩ := ol
        simp only at hcl hdl
        subst hcl; subst hdl
        have hol' : (s.heap.push { cls := .type "set", dict := none, data := .set #[] 0 (.fresh 0 0 (!w.params.followText "set-order")) }).get? l = some { cls := .type "list", dict := odict, data := .seq items nl, slots := oslots } := Heap.get?_push_of_some _ hol
        have hsls := F.sub_list_set
        have hslf := F.sub_list_frozenset
        have hne : (Value.type "list" == Value.type "dict") = false := by decide
        have hl1 : (s.heap.push { cls := .type "set", dict := none, data := .set #[] 0 (.fresh 0 0 (!w.params.followText "set-order")) }).IsList l items := ⟨_, hol', rfl, nl, rfl⟩
        unfold Builtin.«set.__init__» noKeywords Builtin.Frozenset.updateFrom
        generalize hPI : pyIter = PI
        wp_walk
        subst hPI

        refine wpAny_pyIter_list hl1 ?_
        refine wpAny_bind (wpAny_runValue ?_)
        have hlS : l < s.heap.objs.size := Heap.lt_size hol
        have hh3 : A.in1.in1.in1.handled = none := by simp [hh]
        have hz1 : (s.heap.push { cls := .type "set", dict := none, data := .set #[] 0 (.fresh 0 0 (!w.params.followText "set-order")) }).objs.size = s.heap.objs.size + 1 := Heap.size_push ..
        have hneI : l ≠ (s.heap.push { cls := .type "set", dict := none, data := .set #[] 0 (.fresh 0 0 (!w.params.followText "set-order")) }).objs.size := by
          rw [Heap.size_push]; exact Nat.ne_of_lt (Nat.lt_succ_of_lt hlS)
        have hSf : s.heap.objs.size ∉ [(s.heap.push { cls := .type "set", dict := none, data := .set #[] 0 (.fresh 0 0 (!w.params.followText "set-order")) }).objs.size, l] := by
          rw [Heap.size_push]; simp only [List.mem_cons, List.mem_singleton, List.not_mem_nil, or_false, not_or]
          exact ⟨Nat.ne_of_lt (Nat.lt_succ_self _), Nat.ne_of_gt hlS⟩
        have hval : ∀ (i : Nat) (v : Value), items[i]? = some v → ∃ k t, ns[i]? = some k ∧ v = .str k t := fun i v hv => by
          have hi : i < ns.length := by rw [← hisz]; exact (Array.getElem?_eq_some_iff.mp hv).1
          obtain ⟨z, t, hz, rfl⟩ := strs_at hit i v (by rw [Array.getElem?_toList]; exact hv)
          exact ⟨z, t, hz, rfl⟩
        refine set_update_strs ((Walks.list hh3 _ l hneI items).toS) s.heap.objs.size
          hSf ns hisz hb hval (items.size - 0) 0 _ (by omega) (Nat.zero_le _)
          ⟨⟨_, Heap.get?_push_size _ rfl, rfl, rfl⟩, (hl1.push _)⟩ ?hS0 ?hR
        case hS0 =>
          have hget : ((s.heap.push { cls := .type "set", dict := none, data := .set #[] 0 (.fresh 0 0 (!w.params.followText "set-order")) }).push { cls := .type "list_iterator", data := .fields #[.ref l, .int 0 0] }).get? s.heap.objs.size
              = some { cls := .type "set", dict := none, data := .set #[] 0 (.fresh 0 0 (!w.params.followText "set-order")) } := Heap.get?_push_of_some _ hS
          exact ⟨0, Nat.le_refl 0, setS_new_at hget⟩
        case hR =>
          intro s' c' hm hc' hS'
          obtain ⟨h', g2, d', tk', os'⟩ := s'
          have eg : g2 = s.gens := hm.gens
          have ed : d' = s.drawn := hm.drawn
          have eo : os' = s.os := hm.os
          subst eg; subst ed; subst eo
          show wpAny _ _ _ _ _ _
          refine wpAny_pure ?_
          show wpAny _ _ (ret Value.none) _ _ _
          rw [hisz] at hc'
          refine wpAny_pure ⟨rfl, h', tk', c', rfl, hS', hc', fun b o e => ?_⟩
          have hb0 : b < s.heap.objs.size := Heap.lt_size e
          have hb1 : b ≠ s.heap.objs.size := Nat.ne_of_lt hb0
          have hb2 : b ≠ (s.heap.push { cls := .type "set", dict := none, data := .set #[] 0 (.fresh 0 0 (!w.params.followText "set-order")) }).objs.size := by
            rw [Heap.size_push]; exact Nat.ne_of_lt (Nat.lt_succ_of_lt hb0)
          exact hm.heap b o (by simp only [List.mem_cons, List.mem_singleton, List.not_mem_nil, or_false, not_or]; exact ⟨hb1, hb2⟩) (Heap.get?_push_of_some _ (Heap.get?_push_of_some _ e))

      · cases r₂ with
        | error e => exact hr₂
        | ok fl₂ =>
          cases fl₂ with
          | ret r =>
            obtain ⟨rfl, h', tk, c', rfl, hS', hc', hk'⟩ := hr₂
            repeat (any_goals (first | assumption | wp_step))
            exact h _ _ _ hS' hc' hk'
          | _ => exact hr₂.elim
    | _ => exact hr.elim

end



section
variable {P : Program} {w : World} {A : Around} {E : Value → Shared → Prop} {s : Shared} {a : Addr} {S : Str → Bool} {n : Nat}
theorem strs_of : ∀ (l : List Value), (∀ v ∈ l, ∃ k tk, v = Value.str k tk) → StrsAre l (l.map fun v => match v with | .str k _ => k | _ => (⟨#[]⟩ : Str))
  | [], _ => .nil
  | v :: l, h => by
    obtain ⟨k, tk, rfl⟩ := h v List.mem_cons_self
    exact .cons k tk (strs_of l fun u hu => h u (List.mem_cons_of_mem _ hu))
theorem sorted_setS {Q : Value → Shared → Prop} (R : SetS w s.heap a S n) (hh : A.handled = none) (h64 : n < 64)
    (hQ : ∀ s' p (out : Array Value) (c : Nat) (ns : List Str), (∀ b o, s.heap.get? b = some o → s'.heap.get? b = some o) → s'.gens = s.gens → s'.os = s.os → s.heap.objs.size ≤ p →
      s'.heap.get? p = some (seqObj "list" out c) → StrsAre out.toList ns → sortedS ns = true → ns.Nodup → (∀ k, k ∈ ns ↔ S k = true) → ns.length = n → Q (.ref p) s') :
    wpAny (model P w) A (call (.builtin "sorted") [.ref a]) Q E s := by
  obtain ⟨o, es, ep, t, ho, hex, hd, g, nd, hm, hb, hf, hn, hr, hl⟩ := R
  refine Calls.call_function_entry kind_sorted plain_sorted entry_sorted (args_sorted1 _) ?_
  unfold Builtin.«sorted»
  refine wpAny_bind (m := checkCount "sorted" 1 1 _) (wpAny_pure ?_)
  refine wpAny_bind (collect_set (A := A.in1) hh ⟨o, ho, hex.1, hd⟩ hf hb hr hl fun s1 vs k1 hz g1 o1 pm => ?_)
  have hvl : vs.length = n := by rw [pm.length_eq, List.length_map, Array.length_toList]; exact hn
  have hI := strs_of vs fun v hv => by
    obtain ⟨e, he, q⟩ := List.mem_map.mp (pm.mem_iff.mp hv)
    obtain ⟨k, tk, h1, _⟩ := g e he
    exact ⟨k, tk, by rw [← q]; exact h1⟩
  have pk : (vs.map fun v => match v with | .str k _ => k | _ => (⟨#[]⟩ : Str)).Perm (es.toList.map keyS) := by
    have q := pm.map (fun v => match v with | .str k _ => k | _ => (⟨#[]⟩ : Str))
    rw [List.map_map] at q
    exact q
  refine wpAny_bind (wpAny_newList ?_ (by rw [hvl, sizeLine_eq]; omega))
  have hoL : (s1.heap.push (seqObj "list" vs.toArray 0)).get? s1.heap.objs.size = some (seqObj "list" vs.toArray 0) := Heap.get?_push_size _ rfl
  refine wpAny_bind (wpAny_holding (wpAny_call_entry slot_list_sort ⟨_, hoL, rfl⟩ entry_list_sort (list_sort_treeK strKind_oneLt hoL hI.keysOf (fun v₁ v₂ rest e => keyKind_strs (by rw [← e]; exact hI)) (by rw [hvl]; exact h64) fun st' hp hs => ⟨_, rfl, ?_⟩) (args_list_sort _)))
  obtain ⟨ns', a1, a2, a3⟩ := sorted_out_str hI hp hs
  obtain ⟨c, hc⟩ := sortedHeap_at (vs := vs) (out := (arrOf st').map (·.2)) hoL
  have pn : ns'.Perm (es.toList.map keyS) := a2.trans pk
  refine wpAny_pure ⟨_, rfl, hQ _ s1.heap.objs.size _ c ns' (fun b u e => ?_) g1 o1 hz hc a1 a3 (pn.nodup_iff.mpr nd) (fun k => by rw [pn.mem_iff, ← hm k]) ?_⟩
  · have q := k1 b u e
    have hlt := Heap.lt_size q
    show (sortedHeap (s1.heap.push (seqObj "list" vs.toArray 0)) s1.heap.objs.size vs ((arrOf st').map (·.2))).get? b = some u
    rw [sortedHeap_old (Nat.ne_of_lt hlt) (by rw [size_push']; exact Nat.lt_succ_of_lt hlt)]
    exact Heap.get?_push_of_some _ q
  · rw [pn.length_eq, List.length_map, Array.length_toList]; exact hn
end
/-- the set of these texts at a -/
def SetSO (w : World) (a : Addr) (ns : List Str) : HO := .ext fun h => ∃ c, SetS w h a (fun j => decide (j ∈ ns)) c ∧ c ≤ ns.length
section
variable {X : Cx}
def rSetS (K : PySem.W.Frag) (P : Program) (w : World) : List V → Hp → VK → Prop := fun xs H Q => ∃ (l : Addr) (ns : List Str), xs = [.ref l] ∧ SqL K H l (ns.map V.str) ∧ ns.length ≤ 1000 ∧ ∀ p, H p = none → Q (.ref p) (upd H p (SetSO w p ns))
theorem call_setS (hc : X.calm = true) : CallR X (.type "set") (rSetS X.K X.prog X.w) := by
  intro pins s σ H xs us Q I r h
  obtain ⟨l, ns, rfl, hq, hz, q⟩ := h
  obtain ⟨u, rfl, rx⟩ := vals1 r
  cases rx
  obtain ⟨its, rv, pl, _⟩ := I.list hq
  refine call_set_lstS ns (I.ok.hd hc) pl.isList (by simpa using rv.strs) (by unfold scanBound; omega) fun h' tk c hS hcl hk => ?_
  have I2 : Inv X pins σ (upd H s.heap.objs.size (SetSO X.w s.heap.objs.size ns)) { s with heap := h', toks := tk } :=
    I.laid hk (Nat.le_refl _) ⟨⟨c, hS, hcl⟩, (by obtain ⟨o, _, _, _, ho, _⟩ := hS; exact ⟨o, ho⟩), fun h1 h2 ⟨c', S', l'⟩ k => ⟨c', S'.at k, l'⟩⟩
  exact ⟨.ref s.heap.objs.size, _, I2, rfl, q _ (I.hok.fresh (Nat.le_refl _))⟩
def rSortedSS (P : Program) (w : World) : List V → Hp → VK → Prop := fun xs H Q => ∃ (p : Addr) (ns : List Str), xs = [.ref p] ∧ H p = some (SetSO w p ns) ∧ ns.length < 64 ∧ ∀ (ys : List Str) (l : Addr), sortedS ys = true → ys.Nodup → (∀ k, k ∈ ys ↔ k ∈ ns) → H l = none → Q (.ref l) (upd H l (.lst (ys.map V.str)))
theorem call_sortedSS (hc : X.calm = true) : CallR X (.builtin "sorted") (rSortedSS X.prog X.w) := by
  intro pins s σ H xs us Q I r h
  obtain ⟨p, ns, rfl, hp, hz, q⟩ := h
  obtain ⟨u, rfl, rx⟩ := vals1 r
  cases rx
  obtain ⟨⟨c, hS, hcl⟩, _, _⟩ := I.hok _ _ hp
  refine sorted_setS hS (I.ok.hd hc) (Nat.lt_of_le_of_lt hcl hz) fun s' l out c' ys hk hg ho hl hget hst hsrt hnd hmem hlen => ?_
  have hlen : (ys.map V.str).length ≤ sizeLine := by rw [List.length_map, hlen]; exact Nat.le_trans (Nat.le_of_lt (Nat.lt_of_le_of_lt hcl hz)) (by decide)
  have hn : H l = none := I.hok.fresh hl
  have J : Inv X pins σ (upd H l (.lst (ys.map V.str))) { s with heap := s'.heap, gens := s'.gens, drawn := s'.drawn, toks := s'.toks } :=
    I.call (ch := []) (Un.laid hk hl hn) (I.hok.laid hk hl ⟨hlen, out.toList, c', vals_of_strs hst, by simpa [seqObj] using hget⟩) (by rw [hg]; exact I.bare) (fun _ z => nomatch z)
  have e : s' = { s with heap := s'.heap, gens := s'.gens, drawn := s'.drawn, toks := s'.toks } := by
    cases s'
    cases s
    cases ho
    rfl
  rw [e]
  exact ⟨.ref l, _, J, rfl, q ys l hsrt hnd (fun k => by rw [hmem k]; simp) hn⟩
end
end Sd

set_option Elab.async false
set_option linter.all false
set_option maxRecDepth 100000
set_option maxHeartbeats 4000000
/-! Sx7: own errors two classes below Exception whose __init__ says super().__init__(text), self.f = f. -/
namespace Sd
namespace Er
open PySem PySem.W PySem.Calls PyProof.Rows PySem.HandSPX PySem.ESX
def eS (f : PySem.Str) : Scope := { kind := .function, names := [(PySem.Str.ofString "self", .local), (f, .local), (PySem.Str.ofString "__class__", .free), (PySem.Str.ofString "super", .globalImplicit)], isGenerator := false, isCoroutine := false, more := [] }
def eA (f : PySem.Str) (p1 p2 : Pos) : Arguments := { posonlyargs := [], args := [{ arg := "self", annotation := none, pos := p1 }, { arg := f, annotation := none, pos := p2 }], vararg := none, kwonlyargs := [], kw_defaults := [], kwarg := none, defaults := [] }
def eB (f txt : PySem.Str) (a1 a2 a3 a4 a5 a6 b1 b2 b3 b4 : Pos) : List Stmt :=
  [.Expr (.Call (.Attribute (.Call (.Name "super" a1) [] [] a2) "__init__" a3) [.Constant (.str txt) 0 a4] [] a5) a6, .Assign [.Attribute (.Name "self" b1) f b2] (.Name f b3) b4]
/-- what the written part says of the class at C (below D), of its __init__ at fI -/
structure ErrT (P : Program) (K : Frag) (mg : PySem.Str → Option Value) (nm f qual txt : PySem.Str) (C : Addr) : Prop where
  gC : mg nm = some (.ref C)
  cls : ∃ (D : Addr) (nm' q : PySem.Str) (N : Addr) (bs : List Value) (sn : List PySem.Str) (sub : List Value) (ab : Bool) (col : Option Bool) (dd : Option Addr) (k0 k1 k2 k3 k5 : Option Value),
    K.lookup C = some (excClassObj nm' q C N bs (.ref D :: exTail) true sn sub ab col dd k0 k1 k2 k3 k5 "Exception.__new__") ∧ alongIn K "__init__" (.ref D :: exTail) = some (some (.builtin "Exception.__init__"))
  sa : findIn K (.ref C) "__setattr__" = some (some (.builtin "object.__setattr__"))
  noN : findIn K (.ref C) f = some none
  kC : keepIn K (.ref C) = true
  exC : subIn K (.ref C) (.type "BaseException") = some true
  exE : subIn K (.ref C) (.type "Exception") = some true
  tyC : typeIn K (.ref C) = some (.type "type")
  th : nsIn K cStatics "thirdparty.any" = some none
  ms : mg "super" = none
  self : mroIn K C (.ref C) = some true
  htop : (P.main.scope.names.lookup ("super" : PySem.Str)).isSome = false
  init : ∃ fI cda cc : Addr, findIn K (.ref C) "__init__" = some (some (.ref fI)) ∧ typeIn K (.ref fI) = some (.type "function") ∧
    (∃ cl cld csl, K.lookup cc = some ⟨cl, cld, .cell (some (.ref C)), csl⟩) ∧
    (∃ ccl cdd vs ccs file tf, K.lookup cda = some ⟨ccl, cdd, .fields vs, ccs⟩ ∧ vs[2]? = some (.str file tf) ∧ ((P.main.file : PySem.Str) == file) = true) ∧
    ∃ (oc : Value) (od : Option Addr) (kV doc pm : Value) (an : Option Addr) (ct : Value) (osl : Array (Option Value)) (p1 p2 a1 a2 a3 a4 a5 a6 b1 b2 b3 b4 : Pos),
      K.lookup fI = some ⟨oc, od, .func (ksFn "__init__" qual (eA f p1 p2) (eB f txt a1 a2 a3 a4 a5 a6 b1 b2 b3 b4) (eS f) .none kV doc pm an (.ref cda) ct cc), osl⟩ ∧ codeIn K (.ref cda) qual = true ∧ (a3.endLine == a5.line) = true
section
open Builtin Builtin.ObjectAttr
variable {prog : Program} {w : World} {A : Around} {E : Value → Shared → Prop} {R : Result → Shared → Prop} {hp : Heap} {g : Array GenState} {d : Drawn} {t : Nat} {os : OsState}
theorem osa_two {K : Frag} {name : PySem.Str} {tk : Tok} {v : Value} {x C D : Addr} {fv : Array Value} {cd : ClassData}
    (X : K.In hp) (hx : hp.get? x = some { cls := .ref C, data := .fields fv }) (hcd : clsIn K C = some cd) (hm : cd.mro = .ref C :: .ref D :: exTail) (hh : cd.hasDict = true) (ha : findIn K (.ref C) name = some none)
    (hq : ∀ h' tk' dx, (∀ b o, b ≠ x → hp.get? b = some o → h'.get? b = some o) → hp.objs.size ≤ dx → dx ≠ x → h'.get? x = some { cls := .ref C, dict := some dx, data := .fields fv } →
      h'.Ns1 dx (fun y => if y = name then some v else none) → R (.ok (.ret .none)) ⟨h', g, d, tk', os⟩) :
    codeAny (model prog w) A (.call (.builtin "object.__setattr__") ⟨[.ref x, .str name tk, v], []⟩) R ⟨hp, g, d, t, os⟩ := by
  have I : InstAt hp x { cls := .ref C, data := .fields fv } C none := ⟨hx, rfl, rfl, trivial⟩
  have hxs : x ≠ hp.objs.size := Nat.ne_of_lt (Heap.lt_size hx)
  have SF := F.store_object
  have hob : cd.mro.contains (.type "object") = true := by
    rw [hm, List.contains_cons, List.contains_cons, show exTail.contains (.type "object") = true by decide +kernel, Bool.or_true, Bool.or_true]
  have sub : Looks (model prog w) hp (isInstance (.ref x) (.type "object")) true := I.type.andThen (looks_mroIn X (by unfold mroIn; rw [hcd, Option.bind_some, if_neg (by rw [hm]; exact Bool.false_ne_true), hob]))
  refine codeAny_call_builtin SF.slot.plain SF.entry (@check_slot (model prog w) _ _ ⟨hp, g, d, t, os⟩ "object.__setattr__" "object" "__setattr__" (.ref x) [.str name tk, v] [] _ SF.kind SF.split sub (SF.args (.ref x) (.str name tk) v) ?_)
  have hmr : Looks (model prog w) hp (mroOf (.ref C)) cd.mro := (looks_clsIn X hcd).andThen .now
  have L3 : Looks (model prog w) hp (storeTaker? none) none := .now
  have hpass : refuseLoop (.ref x) "__setattr__" cd.mro = pure () := by
    rw [hm, refuseLoop_ref, refuseLoop_ref]
    exact F.store_Exception.passes _
  rw [osa_eq, refuse_eq]
  refine wpAny_bind (wpAny_bind (I.type.at (wpAny_bind (hmr.at ?_))))
  rw [hpass]
  refine wpAny_pure (wpAny_bind (I.type.at (wpAny_bind ((looks_findIn X ha).at (wpAny_bind (L3.at ?_))))))
  have hcls : Looks (model prog w) hp (classData C) cd := looks_clsIn X hcd
  show wpAny _ _ (Builtin.ObjectAttr.storeInOwnDict (.ref x) (.ref C) (.str name tk) name v false) _ _ _
  obtain ⟨nm, bs, mro, ns, qn, hd, sn, sb, ab, col, del⟩ := cd
  dsimp only at hh
  subst hh
  unfold Builtin.ObjectAttr.storeInOwnDict Builtin.ObjectAttr.ownDictForStores
  repeat (first | with_reducible refine HandSPX.store_in_new ?_ ?_ | with_reducible refine wpAny_loadPart_at hx ?_ | with_reducible refine hcls.at ?_ | wp_step)
  · exact ⟨_, #[], _, (Heap.get?_update_ne _ _ _ _ hxs.symm).trans (Heap.get?_push_at rfl rfl), rfl, fun e he => absurd he (by simp), fun _ => rfl⟩
  · intro h' tk' hn' hs
    have hx₁ : (hp.push { cls := .type "dict", data := .dict #[] }).get? x = some { cls := .ref C, data := .fields fv } := Heap.get?_push_of_some _ hx
    refine hq h' tk' hp.objs.size (fun b o hb ho => ?_) (Nat.le_refl _) hxs.symm ?_ hn'
    · exact (hs.2 b (Nat.ne_of_lt (Heap.lt_size ho))).trans ((Heap.get?_update_ne _ _ _ _ hb).trans (Heap.get?_push_of_some _ ho))
    · exact (hs.2 x hxs).trans (Heap.get?_update_self _ hx₁ rfl)
end
/-- a parameter's name that is no other one of the text's -/
structure Fld (f : PySem.Str) : Prop where
  fs : (f == ("self" : PySem.Str)) = false
  fd : (f == ("__debug__" : PySem.Str)) = false
  ks : List.lookup ("super" : PySem.Str) (eS f).names = some .globalImplicit
  kc : List.lookup ("__class__" : PySem.Str) (eS f).names = some .free
  bnd : ∀ (qual : PySem.Str) (body : List Stmt) (kV doc pm cdv ct : Value) (an : Option Addr) (cc : Addr) (p1 p2 : Pos) (u v : Value), bindArgs (ksFn "__init__" qual (eA f p1 p2) body (eS f) .none kV doc pm an cdv ct cc) ⟨[u, v], []⟩ = pure [(("self" : PySem.Str), u), (f, v)]
theorem fld_at : Fld "at" := ⟨by decide, by decide, rfl, rfl, fun _ _ _ _ _ _ _ _ _ _ _ _ _ => by first | rfl | with_unfolding_all rfl⟩
theorem fld_word : Fld "word" := ⟨by decide, by decide, rfl, rfl, fun _ _ _ _ _ _ _ _ _ _ _ _ _ => by first | rfl | with_unfolding_all rfl⟩
theorem one_size (v : Value) : [v].length ≤ sizeLine := by
  rw [sizeLine_eq]
  exact (by decide : 1 ≤ 16777216)
/-- what __init__ leaves of a fresh exception at x -/
structure InitEnd (h h' : Heap) (x C dx : Addr) (f : PySem.Str) (v : Value) : Prop where
  keep : ∀ b o, b ≠ x → h.get? b = some o → h'.get? b = some o
  obj : ∃ t1 : Addr, h'.get? x = some { cls := .ref C, dict := some dx, data := .fields #[.ref t1, .none, .none, .none, .bool false, .none] }
  dbig : h.objs.size ≤ dx
  dne : dx ≠ x
  ns : h'.Ns1 dx (fun y => if y = f then some v else none)
structure OwnMade (h h' : Heap) (e C d : Addr) (f : PySem.Str) (v : Value) : Prop where
  keep : ∀ b o, h.get? b = some o → h'.get? b = some o
  new : h.objs.size ≤ e
  obj : ∃ oe vs, h'.get? e = some oe ∧ oe.cls = .ref C ∧ oe.dict = some d ∧ oe.data = .fields vs ∧ vs[1]? = some .none
  dbig : h.objs.size ≤ d
  dne : d ≠ e
  ns : h'.Ns1 d (fun y => if y = f then some v else none)
section
variable {prog : Program} {w : World} {A : Around} {E : Value → Shared → Prop} {R : Result → Shared → Prop} {s : Shared} {K : Frag} {mg : PySem.Str → Option Value} {nm f qual txt : PySem.Str} {C : Addr}
theorem err_init (T : ErrT prog K mg nm f qual txt C) {fI x t0 : Addr} {v : Value} (X : K.In s.heap) (hG : s.heap.Ns mainGlobals mg) (hB : ∃ mb, s.heap.Ns builtinsNs mb ∧ ∀ y : PySem.Str, y ≠ "__name__" → mb y = bootBuiltins y) (hlim : s.heap.NoLimit) (hF : Fld f)
    (hi : findIn K (.ref C) "__init__" = some (some (.ref fI))) (hx : s.heap.get? x = some (excO C t0)) (hnx : K.lookup x = none) (hroom : A.depth < recursionLimit)
    (hq : ∀ h' tk dx, InitEnd s.heap h' x C dx f v → R (.ok (.ret .none)) { s with heap := h', toks := tk }) :
    codeAny (model prog w) A (.call (.ref fI) ⟨[.ref x, v], []⟩) R s := by
  obtain ⟨fI', cda, cc, hi', tI, ⟨cl, cld, csl, hcell⟩, ⟨ccl, cdd, vs, ccs, file, tf, hcode, hvs, hfile⟩, oc, od, kV, doc, pm, an, ct, osl, p1, p2, a1, a2, a3, a4, a5, a6, b1, b2, b3, b4, ho, hcd, hline⟩ := T.init
  have e1 := hi.symm.trans hi'
  cases e1
  obtain ⟨D, nm', q, N, bs, sn, sub, ab, col, dd, k0, k1, k2, k3, k5, hC, hal⟩ := T.cls
  have hcl : clsIn K C = some { name := nm', bases := bs, mro := .ref C :: .ref D :: exTail, ns := N, qualname := q, hasDict := true, slotNames := sn, subclasses := sub, abstract := ab, collection := col, hasDel := false } := by unfold clsIn; rw [hC] <;> rfl
  obtain ⟨hp, g, d, t, os⟩ := s
  have hfs := hF.fs
  have hfd := hF.fd
  have hfne : f ≠ ("self" : PySem.Str) := fun z => by rw [z] at hfs; simp at hfs
  have lf : List.lookup f (eS f).names = some .local := by
    show List.lookup f [(PySem.Str.ofString "self", NameKind.local), (f, NameKind.local), (PySem.Str.ofString "__class__", NameKind.free), (PySem.Str.ofString "super", NameKind.globalImplicit)] = _
    rw [List.lookup_cons, show (f == PySem.Str.ofString "self") = false from hfs]
    show List.lookup f ((f, NameKind.local) :: _) = _
    rw [List.lookup_cons, beq_self_eq_true]
  refine ks_codeAny_call_defAt (fd := ksFn "__init__" qual (eA f p1 p2) (eB f txt a1 a2 a3 a4 a5 a6 b1 b2 b3 b4) (eS f) .none kV doc pm an (.ref cda) ct cc) (body := eB f txt a1 a2 a3 a4 a5 a6 b1 b2 b3 b4) (binds := [("self", .ref x), (f, v)]) hroom (X _ _ ho) rfl hlim (codeRec_of X hcd) rfl (BindsTo.of_eq ?bnd) ?hcells ?hloc (fun h₁ hns hk₁ => ?_) rfl rfl rfl
  case bnd => exact hF.bnd ..
  case hcells =>
    intro y hy
    have hy' : y ∈ [(PySem.Str.ofString "self", NameKind.local), (f, NameKind.local), (PySem.Str.ofString "__class__", NameKind.free), (PySem.Str.ofString "super", NameKind.globalImplicit)] := hy
    simp only [List.mem_cons, List.not_mem_nil, or_false] at hy'
    rcases hy' with rfl | rfl | rfl | rfl <;> exact fun z => by cases z
  case hloc =>
    intro y hy
    simp only [List.mem_cons, List.not_mem_nil, or_false] at hy
    rcases hy with rfl | rfl
    · rfl
    · exact lf
  · have X₁ : K.In h₁ := X.keeps hk₁
    have hx₁ := hk₁ _ _ hx
    have I : InstAt h₁ x (excO C t0) C none := ⟨hx₁, rfl, rfl, trivial⟩
    have hin : Looks (model prog w) h₁ (isInstance (.ref x) (.type "Exception")) true := I.type.andThen (looks_subIn X₁ T.exE)
    have hCo : h₁.get? C = some (excClassObj nm' q C N bs (.ref D :: exTail) true sn sub ab col dd k0 k1 k2 k3 k5 "Exception.__new__") := X₁ _ _ hC
    have hxC : x ≠ C := ks_ne X₁ I hcl
    have hv1 : List.lookup ("self" : PySem.Str) [(f, v), (("self" : PySem.Str), Value.ref x)] = some (.ref x) := by
      rw [List.lookup_cons, show (("self" : PySem.Str) == f) = false from by rw [Bool.eq_false_iff]; intro z; exact hfne (eq_of_beq z).symm]
      rfl
    have hv2 : List.lookup f [(f, v), (("self" : PySem.Str), Value.ref x)] = some v := by
      rw [List.lookup_cons, beq_self_eq_true]
    have he : ∀ env : Env, eval (.Call (.Attribute (.Call (.Name "super" a1) [] [] a2) "__init__" a3) [.Constant (.str txt) 0 a4] [] a5) env = (do
      let ov ← attributeBase (.Call (.Name "super" a1) [] [] a2) "__init__" env (eval (.Call (.Name "super" a1) [] [] a2) env)
      standAt a3.atName
      let (f, first) ← holding [ov] (getMethod ov "__init__" (do return (← importBound (.Call (.Name "super" a1) [] [] a2) env).getD true))
      callWith a5 f first (backTo a5 (starEach [.Constant (.str txt) 0 a4] env)) []) := fun env => by
      have hc : (!true || a3.endLine == a5.line) = true := by rw [hline] <;> rfl
      show (attributeBase (.Call (.Name "super" a1) [] [] a2) "__init__" env (eval (.Call (.Name "super" a1) [] [] a2) env) >>= fun ov => standAt a3.atName >>= fun _ =>
        (holding [ov] (getMethod ov "__init__" _) >>= fun x => (if (!true || a3.endLine == a5.line) = true then pure a5 else _) >>= fun cp => callWith cp x.1 x.2 (backTo a5 (starEach [.Constant (.str txt) 0 a4] env)) [])) = _
      simp only [hc, if_true]
      rfl
    refine ks_wpAt_execs_cons (ks_wpAt_Expr_any (ks_wpAt_MethodCall ?_ (he _)))
    refine ks_wpAt_super_base (env := ksEnv qual (eS f) hp.objs.size fI (.ref cda) cc) hF.ks hF.kc (by decide) rfl (X₁ _ _ ho) rfl rfl rfl (X₁ _ _ hcode) rfl hvs hfile T.htop ?_
    obtain ⟨mb, hB1, hB2⟩ := hB
    have g1 : h₁.Ns mainGlobals mg := hG.keeps hk₁
    have g2 : h₁.Ns builtinsNs mb := hB1.keeps hk₁
    refine ks_loadName_global rfl hF.ks (loadGlobal_builtin (env := ksEnv qual (eS f) hp.objs.size fI (.ref cda) cc) g1 T.ms g2 ((hB2 _ (by decide)).trans (by decide +kernel : bootBuiltins "super" = some (.type "super"))) ⟨rfl, ?_⟩)
    refine wpAny_loadName_free rfl hF.kc rfl ⟨_, X₁ _ _ hcell, rfl⟩ ?_
    refine wpAny_loadName_local rfl rfl hns hv1 ?_
    refine ks_wpAny_isType_cls hCo rfl ⟨rfl, ?_⟩
    refine ks_wpAny_call_super (oD := excClassObj nm' q C N bs (.ref D :: exTail) true sn sub ab col dd k0 k1 k2 k3 k5 "Exception.__new__") hCo rfl hx₁ rfl (fun c e => by cases e) (looks_mroIn X₁ T.self) (fun h₂ e₂ k₂ => ?_)
    have X₂ : K.In h₂ := X₁.keeps k₂
    have hx₂ := k₂ _ _ hx₁
    have I₂ : InstAt h₂ x (excO C t0) C none := ⟨hx₂, rfl, rfl, trivial⟩
    have hin₂ : Looks (model prog w) h₂ (isInstance (.ref x) (.type "Exception")) true := I₂.type.andThen (looks_subIn X₂ T.exE)
    have mro₂ : Looks (model prog w) h₂ (mroOf (.ref C)) (.ref C :: .ref D :: exTail) := (looks_clsIn X₂ hcl).andThen .now
    refine ESX.getMethod_super (D := C) e₂ (looks_opaque X₂ T.th) mro₂ (ESX.drop_own C _) X₂ hal hxC (by decide) hin₂ ?_
    have k₃ : ∀ b o, h₂.get? b = some o → (h₂.push (bw x)).get? b = some o := fun b o e => Heap.get?_push_of_some _ e
    have hu : (h₂.push (bw x)).get? h₂.objs.size = some (bw x) := Heap.get?_push_size _ rfl
    refine ESX.callWith_bound (x := x) ?_
    refine PyProof.Rows.args_cons (Calls.Constant_str (PyProof.Rows.args_nil ⟨hu, ?_⟩)) rfl
    have hC₃ : (h₂.push (bw x)).get? C = some (excClassObj nm' q C N bs (.ref D :: exTail) true sn sub ab col dd k0 k1 k2 k3 k5 "Exception.__new__") := k₃ _ _ (X₂ _ _ hC)
    refine ESX.call_bw hC₃ (k₃ _ _ hx₂) hu (one_size _) fun h₄ t1 k₄ hx₄ => ?_
    -- self.f = f
    have kk : ∀ b o, b ≠ x → hp.get? b = some o → h₄.get? b = some o := fun b o hb e => k₄ b o hb (k₃ _ _ (k₂ _ _ (hk₁ _ _ e)))
    have X₄ : K.In h₄ := fun a o e => k₄ a o (fun z => by rw [z, hnx] at e; cases e) (k₃ _ _ (X₂ a o e))
    have hLx : hp.objs.size ≠ x := Nat.ne_of_gt (Heap.lt_size hx)
    have hns₄ : h₄.Ns hp.objs.size (fun y => List.lookup y [(f, v), (("self" : PySem.Str), Value.ref x)]) := by
      obtain ⟨oL, es, ep, e, r⟩ := hns
      exact ⟨oL, es, ep, k₄ _ _ hLx (k₃ _ _ (k₂ _ _ e)), r⟩
    refine ks_wpAt_execs_cons (ks_wpAt_Assign_Attr (wpAt_of_wpAny ?_))
    refine ESX.ldL hns₄ hv2 (ESX.ldL hns₄ hv1 ?_) rfl lf hF.fd
    refine set_plain X₄ (ox := excO C t1) (od := none) ⟨hx₄, rfl, rfl, trivial⟩ T.sa ?_
    refine osa_two X₄ hx₄ hcl rfl rfl T.noN (fun h₅ tk₅ dx k₅ dn dne hx₅ hn₅ => ?_)
    refine wpAt_of_wpAny (wpAny_execs_nil (hq h₅ tk₅ dx ⟨fun b o hb e => k₅ b o hb (kk b o hb e), ⟨t1, hx₅⟩, ?_, dne, hn₅⟩))
    exact Nat.le_trans (Nat.le_of_lt hns₄.lt) dn
theorem err_made (T : ErrT prog K mg nm f qual txt C) (hF : Fld f) {v : Value} (X : K.In s.heap) (hG : s.heap.Ns mainGlobals mg) (hB : ∃ mb, s.heap.Ns builtinsNs mb ∧ ∀ y : PySem.Str, y ≠ "__name__" → mb y = bootBuiltins y) (hlim : s.heap.NoLimit) (hroom : A.depth + 1 < recursionLimit)
    (hq : ∀ h' tk e d, OwnMade s.heap h' e C d f v → R (.ok (.ret (.ref e))) { s with heap := h', toks := tk }) :
    codeAny (model prog w) A (.call (.ref C) ⟨[v], []⟩) R s := by
  obtain ⟨D, nm', q, N, bs, sn, sub, ab, col, dd, k0, k1, k2, k3, k5, hC, hal⟩ := T.cls
  obtain ⟨fI, cda, cc, hi, tI, _⟩ := T.init
  obtain ⟨hp, g, dr, tk, os⟩ := s
  have k : ∀ b o, hp.get? b = some o → ((hp.push (kdv_tup [v])).push (excO C hp.objs.size)).get? b = some o := fun b o e => Heap.get?_push_of_some _ (Heap.get?_push_of_some _ e)
  have hget : ((hp.push (kdv_tup [v])).push (excO C hp.objs.size)).get? (hp.objs.size + 1) = some (excO C hp.objs.size) := by heap_get
  have hnx : K.lookup (hp.objs.size + 1) = none := by
    cases e : K.lookup (hp.objs.size + 1) with
    | none => rfl
    | some o =>
      have z : hp.get? (hp.objs.size + 1) = some o := X _ _ e
      exact absurd (Nat.lt_of_succ_lt (Heap.lt_size z)) (Nat.lt_irrefl _)
  have hT : ∀ Y : String, List.contains (Value.ref D :: exTail) (.type Y) = exTail.contains (.type Y) := fun Y => by
    rw [List.contains_cons]
    rfl
  refine call_own F.excBase_Exception hT (X _ _ hC) (looks_findIn X hi) (fun self => bind_fn X self tI) (one_size v) ?_
  refine err_init (s := ⟨(hp.push (kdv_tup [v])).push (excO C hp.objs.size), g, dr, tk, os⟩) T (X.keeps k) (hG.keeps k) (by obtain ⟨mb, h1, h2⟩ := hB; exact ⟨mb, h1.keeps k, h2⟩) (hlim.keeps k) hF hi hget hnx ?_ fun h' tk' dx ⟨k', ⟨t1, hx⟩, dn, dne, hns⟩ => ?_
  · show A.depth + 1 < recursionLimit
    exact hroom
  · have old : ∀ b o, hp.get? b = some o → h'.get? b = some o := fun b o e => k' b o (Nat.ne_of_lt (Nat.lt_succ_of_lt (Heap.lt_size e))) (k b o e)
    have z : hp.objs.size + 1 + 1 ≤ dx := by
      first
        | (simpa only [Heap.size_push] using dn)
        | exact dn
    exact ⟨rfl, hq h' tk' (hp.objs.size + 1) dx ⟨old, Nat.le_succ _, ⟨_, _, hx, rfl, rfl, rfl, rfl⟩, Nat.le_trans (Nat.le_trans (Nat.le_succ _) (Nat.le_succ _)) z, dne, hns⟩⟩
end
end Er
open PySem PySem.Spec PyProof.Rows L2
theorem relO_fld {f : Str} {v : V} {v' : Value} (r : RelV v v') (y : Str) : RelO (List.lookup y [(f, v)]) (if y = f then some v' else none) := by
  by_cases hw : y = f
  · subst hw
    rw [if_pos rfl, List.lookup_cons, beq_self_eq_true]
    exact r
  · rw [if_neg hw, List.lookup_cons, show (y == f) = false from by simpa using hw]
    trivial
section
variable {X : Cx} {C : Addr} {nm f qual txt : Str}
/-- C(e) -/
def tMkE (f : Str) (C : Addr) (ta : TA) : L2.St → Hp → XK → Prop := fun σ H Q => ta σ H fun vs H1 => ∃ v, vs = [v] ∧ ∀ d, H1 d = none → Q (.ref C) (some d) (upd H1 d (.xd [(f, v)]))
theorem pmk_errT {a : Expr} {ta : TA} {p pos : Pos} {k : Nat} (T : Er.ErrT X.prog X.K X.mg nm f qual txt C) (hF : Er.Fld f) (hr : Room k X.A) (hg : Gl X nm) (ha : PA X [a] ta) (hdb : (nm == ("__debug__" : Str)) = false := by decide)
    (he : starEach (a :: []) X.env = (false, eval a X.env) :: starEach [] X.env := by rfl) (hpl : (backTo pos (starEach [] X.env)).any (·.1) = false := by rfl) :
    PMk X (.Call (.Name nm p) [a] [] pos) (tMkE f C ta) := by
  intro pins s σ H Q I h
  refine wpAny_Call_Name_kw (ld_glob I hg T.gC ?_ hdb)
  refine PySem.W.callWith_K (h₀ := X.base) I.ok.mod.kin T.kC (thn (ha.run pos pins s σ H _ I h) fun us s1 hh => ?_) he hpl
  obtain ⟨vs, H1, I1, r1, v, ev, q1⟩ := hh
  subst ev
  refine ⟨I1.kIn, ?_⟩
  cases r1 with
  | cons rv rn =>
    rename_i v' us'
    cases rn
    show wpAny _ _ (call (.ref C) [v']) _ _ _
    have hlim := I1.nolimit
    have hG := I1.mod.glob.keeps I1.bk
    have hB : ∃ mb, s1.heap.Ns builtinsNs mb ∧ ∀ y : Str, y ≠ "__name__" → mb y = bootBuiltins y := by
      obtain ⟨mb, h1, h2⟩ := I1.mod.blt
      exact ⟨mb, h1.keeps I1.bk, h2⟩
    obtain ⟨hp, g, dr, tk, os⟩ := s1
    refine wpAny_call (Er.err_made T hF I1.kIn hG hB hlim (by have := hr.dp; omega) fun h' tk' e d M => ?_)
    show MkP X pins σ Q (.ref e) ⟨h', g, dr, tk', os⟩
    obtain ⟨oe, fv, hoe, hc, hd, hdat, h1⟩ := M.obj
    have hns := M.ns
    obtain ⟨G', g1, g2⟩ := restrict h' fun b => decide (b ≠ e)
    have gk : ∀ b, b ≠ e → G'.get? b = h'.get? b := fun b hb => g1 b (decide_eq_true hb)
    have ge : G'.get? e = none := g2 e (by simp)
    have old : ∀ b o, hp.get? b = some o → G'.get? b = some o := fun b o q => (gk b (Nat.ne_of_lt (Nat.lt_of_lt_of_le (Heap.lt_size q) M.new))).trans (M.keep b o q)
    have ob : ObjOk X.prog X.w (upd H1 d (.xd [(f, v)])) G' d (.xd [(f, v)]) :=
      ⟨_, hns.at (fun o q => (gk d M.dne).trans q), fun y => relO_fld rv y⟩
    have J : Inv X pins σ (upd H1 d (.xd [(f, v)])) ⟨G', g, dr, tk', os⟩ := I1.laid (t' := tk') old M.dbig ob
    refine ⟨e, oe, fv, ⟨G', g, dr, tk', os⟩, _, .ref C, some d, rfl, J, fun b o q => ?_, ge, hoe, ⟨hc, hd⟩, hdat, h1, ?_, rfl, I1.bare, raises_own T.exC T.tyC, q1 d (I1.hok.fresh M.dbig)⟩
    · by_cases hb : b = e
      · have q' : G'.get? b = some o := q
        rw [hb, ge] at q'; cases q'
      · exact (gk b hb).symm.trans q
    · rw [upd_ne (Ne.symm M.dne)]
      exact I1.hok.fresh M.new
/-- raise C(e) -/
def tRaiseE (f : Str) (C : Addr) (W : WX) (ta : TA) : TS := fun _ σ H => tMkE f C ta σ H fun cls d H' => W cls d σ H'
theorem ps_raiseE {a : Expr} {ta : TA} {W : WX} {p pos pos2 : Pos} {k : Nat} (hc : X.calm = true) (tk : Takes X W) (T : Er.ErrT X.prog X.K X.mg nm f qual txt C) (hF : Er.Fld f) (hr : Room k X.A) (hg : Gl X nm) (ha : PA X [a] ta) (hdb : (nm == ("__debug__" : Str)) = false := by decide)
    (he : starEach (a :: []) X.env = (false, eval a X.env) :: starEach [] X.env := by rfl) (hpl : (backTo pos (starEach [] X.env)).any (·.1) = false := by rfl) :
    PS X (.Raise (some (.Call (.Name nm p) [a] [] pos)) none pos2) (tRaiseE f C W ta) := ps_raise hc tk (pmk_errT T hF hr hg ha hdb he hpl)
end
end Sd

set_option Elab.async false
set_option linter.all false
set_option maxRecDepth 100000
set_option maxHeartbeats 2000000
/-! Sx8: small readings, calls by keywords alone, try .. except C as e: return e.f. -/
namespace Sd
open PySem PySem.Spec PyProof.Rows L2
theorem hu_of {k : Nat} {A : Around} (r : Room k A) : A.units + 1 < cLine := by
  have := r.units
  omega
abbrev rNeg : V → Hp → VK → Prop := rU fun i => .int (-i)
abbrev rIsNone : R2 := fun x y H Q => y = .non ∧ Q (.bl (decide (x = .non))) H
abbrev rNotNone : R2 := fun x y H Q => y = .non ∧ Q (.bl (!decide (x = .non))) H
abbrev rInSign : R2 := fun x y H Q => ∃ (c : Nat) (z : Str), x = .str ⟨#[c]⟩ ∧ y = .str z ∧ Q (.bl (decide (c ∈ z.cps.toList))) H
abbrev rAddS : R2 := fun x y H Q => ∃ i j, x = .str i ∧ y = .str j ∧ i.length + j.length ≤ sizeLine ∧ Q (.str (i ++ j)) H
abbrev rJoin (K : PySem.W.Frag) : V → List V → Hp → VK → Prop := fun x xs H Q => ∃ a p, ∃ ys : List Str, x = .str a ∧ xs = [.ref p] ∧ (SqL K H p (ys.map V.str) ∨ SqT K H p (ys.map V.str)) ∧
      (ys.map (·.length)).sum + ys.length * a.length ≤ 16777216 ∧ Q (.str (Txt.join a ys)) H
section
variable {X : Cx} {CX : CXT} {k : Nat} {f C : Addr} {fd : FuncData} {ps ks : List Str} {sp : Sp} {E : XK} {x m : Str} {p pos apos kpos : Pos} {kws : List Keyword} {tk : TA} {g : List Value → List Value → List Value} {gV : List V → List V → List V}
/-- f(k = v, ..) -/
theorem pe_callK0 (F : FnOk X.prog X.w X.K X.mg X.base CX k f fd ps sp) (hr : Room k X.A) (hg : Gl X x) (hm : X.mg x = some (.ref f)) (hk : PySem.W.keepIn X.K (.ref f) = true) (hb : KBinds X.K fd ps ks g gV) (hx : Passes CX X E)
    (hkw : PK X kws tk) (hall : (backToKw pos (keywordEach kws X.env)).all (·.1.isSome) = true := by rfl) (hks : (backToKw pos (keywordEach kws X.env)).filterMap (·.1) = ks := by rfl)
    (hdb : (x == ("__debug__" : Str)) = false := by decide)
    (hpl : ((backTo pos (starEach [] X.env)).any (·.1) || (backToKw pos (keywordEach kws X.env)).any (·.1.isNone)) = false := by rfl) :
    PE X (.Call (.Name x p) [] kws pos) (tCallK sp gV E tNil tk) := by
  refine ⟨fun pins s σ H Q I h => ?_⟩
  refine wpAny_Call_Name_kw (ld_glob I hg hm ?_ hdb)
  refine PySem.W.callWith_KW0 (h₀ := X.base) I.ok.mod.kin hk hall ?_ hpl
  have h' : tk σ H fun zs H2 => sp (gV [] zs) H2 Q E := h
  refine thn (hkw.run pos pins s σ H _ I h') fun ws s2 ⟨zs, H2, I2, rz, q2⟩ => ⟨I2.kIn, ?_⟩
  rw [hks]
  exact run_fnk F hr hb hx I2 .nil rz q2
end
theorem kbinds_of {K : PySem.W.Frag} {x qual : Str} {st : Stmt} {f : Addr} {fd : FuncData} (F : Fun K x qual st f fd) {ps ks : List Str} {g : List Value → List Value → List Value} {gV : List V → List V → List V}
    (h : ∀ (kV doc pm cdv ct : Value) (an : Option Addr) (us ws : List Value), (g us ws).length = ps.length → bindArgs (PySem.W.fnOf x qual (defArgs st) (defBody st) (defScope st) .none kV doc pm an cdv ct) ⟨us, ks.zip ws⟩ = pure (ps.zip (g us ws)))
    (rel : ∀ {vs : List V} {us : List Value} {zs : List V} {ws : List Value}, Vals vs us → Vals zs ws → Vals (gV vs zs) (g us ws)) : KBinds K fd ps ks g gV := by
  obtain ⟨oc, od, kV, doc, pm, an, cdv, ct, osl, rfl, lk, hcd⟩ := F.ex
  exact ⟨fun s us ws _ hl => .of_eq (h _ _ _ _ _ _ us ws hl), rel⟩
/-- except C as e (slot i): return e.f -/
def t_suite (C : Addr) (i : Nat) (f : Str) : Addr → Value → Option Addr → TS := fun a cls d => tRet (tXf a cls d C f (tVar i))
def tTry (K : PySem.W.Frag) (C : Addr) (i : Nat) (f : Str) (tb : WX → TS) : TS := fun D σ H => tb (wAs K (.ref C) i (t_suite C i f) (fun _ _ _ _ => False) D) D σ H
end Sd

set_option Elab.async false
set_option linter.all false
set_option maxRecDepth 100000
set_option maxHeartbeats 4000000
/-! St: the text by places, its slots, what is asked of the top. Printed by gen.py. -/
namespace Sd
open PySem PySem.Spec PyProof.Rows L2
def topS (i : Nat) : Stmt := PySem.Challenge.pw_staysdeep_k07_whole_standings_of_one_cla.main.body.getD i (.Pass ⟨0, 0, 0, 0⟩)
abbrev s_is_integer : Stmt := topS 9
abbrev N_is_integer : List Str := ["value"]
theorem sc_is_integer : FnScope N_is_integer ["value"] (defScope s_is_integer) := ⟨rfl, rfl, rfl, by decide +kernel, rfl, by decide +kernel, by decide +kernel⟩
abbrev s_is_below : Stmt := topS 10
abbrev N_is_below : List Str := ["value", "bound"]
theorem sc_is_below : FnScope N_is_below ["value", "bound"] (defScope s_is_below) := ⟨rfl, rfl, rfl, by decide +kernel, rfl, by decide +kernel, by decide +kernel⟩
abbrev s_is_text : Stmt := topS 11
abbrev N_is_text : List Str := ["value"]
theorem sc_is_text : FnScope N_is_text ["value"] (defScope s_is_text) := ⟨rfl, rfl, rfl, by decide +kernel, rfl, by decide +kernel, by decide +kernel⟩
abbrev s_is_sequence : Stmt := topS 12
abbrev N_is_sequence : List Str := ["value"]
theorem sc_is_sequence : FnScope N_is_sequence ["value"] (defScope s_is_sequence) := ⟨rfl, rfl, rfl, by decide +kernel, rfl, by decide +kernel, by decide +kernel⟩
abbrev s_is_name : Stmt := topS 13
abbrev N_is_name : List Str := ["value", "sign"]
theorem sc_is_name : FnScope N_is_name ["value"] (defScope s_is_name) := ⟨rfl, rfl, rfl, by decide +kernel, rfl, by decide +kernel, by decide +kernel⟩
abbrev s_need_number : Stmt := topS 14
abbrev N_need_number : List Str := ["value", "bound", "word"]
theorem sc_need_number : FnScope N_need_number ["value", "bound", "word"] (defScope s_need_number) := ⟨rfl, rfl, rfl, by decide +kernel, rfl, by decide +kernel, by decide +kernel⟩
abbrev s_lot_of : Stmt := topS 15
abbrev N_lot_of : List Str := ["things"]
theorem sc_lot_of : FnScope N_lot_of ["things"] (defScope s_lot_of) := ⟨rfl, rfl, rfl, by decide +kernel, rfl, by decide +kernel, by decide +kernel⟩
abbrev s_Yard_init : Stmt := inClass (topS 19) 0
abbrev N_Yard_init : List Str := ["self", "heights", "at", "height"]
theorem sc_Yard_init : FnScope N_Yard_init ["self", "heights"] (defScope s_Yard_init) := ⟨rfl, rfl, rfl, by decide +kernel, rfl, by decide +kernel, by decide +kernel⟩
abbrev s_places : Stmt := topS 20
abbrev N_places : List Str := ["yard"]
theorem sc_places : FnScope N_places ["yard"] (defScope s_places) := ⟨rfl, rfl, rfl, by decide +kernel, rfl, by decide +kernel, by decide +kernel⟩
abbrev s_deep_row : Stmt := topS 21
abbrev N_deep_row : List Str := ["yard", "boxes", "free", "height"]
theorem sc_deep_row : FnScope N_deep_row ["yard", "boxes"] (defScope s_deep_row) := ⟨rfl, rfl, rfl, by decide +kernel, rfl, by decide +kernel, by decide +kernel⟩
abbrev s_need_standing : Stmt := topS 23
abbrev N_need_standing : List Str := ["yard", "value", "seen", "stack", "row", "box"]
theorem sc_need_standing : FnScope N_need_standing ["yard", "value"] (defScope s_need_standing) := ⟨rfl, rfl, rfl, by decide +kernel, rfl, by decide +kernel, by decide +kernel⟩
abbrev s_boxes_of : Stmt := topS 24
abbrev N_boxes_of : List Str := ["standing", "row", "box"]
theorem sc_boxes_of : FnScope N_boxes_of ["standing"] (defScope s_boxes_of) := ⟨rfl, rfl, rfl, by decide +kernel, rfl, by decide +kernel, by decide +kernel⟩
abbrev s_count_boxes : Stmt := topS 26
abbrev N_count_boxes : List Str := ["standing", "stack"]
theorem sc_count_boxes : FnScope N_count_boxes ["standing"] (defScope s_count_boxes) := ⟨rfl, rfl, rfl, by decide +kernel, rfl, by decide +kernel, by decide +kernel⟩
abbrev s_deep_part : Stmt := topS 27
abbrev N_deep_part : List Str := ["yard", "standing", "depths", "stack", "deep"]
theorem sc_deep_part : FnScope N_deep_part ["yard", "standing"] (defScope s_deep_part) := ⟨rfl, rfl, rfl, by decide +kernel, rfl, by decide +kernel, by decide +kernel⟩
abbrev s_same_class : Stmt := topS 28
abbrev N_same_class : List Str := ["yard", "one", "other", "part"]
theorem sc_same_class : FnScope N_same_class ["yard", "one", "other"] (defScope s_same_class) := ⟨rfl, rfl, rfl, by decide +kernel, rfl, by decide +kernel, by decide +kernel⟩
abbrev s_parting_place : Stmt := topS 29
abbrev N_parting_place : List Str := ["yard", "one", "other", "parts", "stack", "row", "second", "level", "box", "other_box"]
theorem sc_parting_place : FnScope N_parting_place ["yard", "one", "other"] (defScope s_parting_place) := ⟨rfl, rfl, rfl, by decide +kernel, rfl, by decide +kernel, by decide +kernel⟩
abbrev s_l_deal : Stmt := topS 31
abbrev N_l_deal : List Str := ["_law_script", "_law_base", "_law_cells", "_law_mix", "_law_cell"]
theorem sc_l_deal : FnScope N_l_deal ["_law_script", "_law_base"] (defScope s_l_deal) := ⟨rfl, rfl, rfl, by decide +kernel, rfl, by decide +kernel, by decide +kernel⟩
abbrev s_l_any : Stmt := topS 32
abbrev N_l_any : List Str := ["_law_deal_here", "_law_bound", "_law_rest"]
theorem sc_l_any : FnScope N_l_any ["_law_deal_here", "_law_bound"] (defScope s_l_any) := ⟨rfl, rfl, rfl, by decide +kernel, rfl, by decide +kernel, by decide +kernel⟩
abbrev s_l_of : Stmt := topS 33
abbrev N_l_of : List Str := ["_law_deal_here", "_law_some"]
theorem sc_l_of : FnScope N_l_of ["_law_deal_here", "_law_some"] (defScope s_l_of) := ⟨rfl, rfl, rfl, by decide +kernel, rfl, by decide +kernel, by decide +kernel⟩
abbrev s_l_mixed : Stmt := topS 34
abbrev N_l_mixed : List Str := ["_law_deal_here", "_law_some", "_law_left", "_law_found", "_law_turn"]
theorem sc_l_mixed : FnScope N_l_mixed ["_law_deal_here", "_law_some"] (defScope s_l_mixed) := ⟨rfl, rfl, rfl, by decide +kernel, rfl, by decide +kernel, by decide +kernel⟩
abbrev s_l_names : Stmt := topS 35
abbrev N_l_names : List Str := ["_law_deal_here", "_law_many", "_law_letters", "_law_stem", "_law_place", "_law_first", "_law_loose", "_law_found", "_law_turn", "_law_rest", "_law_name"]
theorem sc_l_names : FnScope N_l_names ["_law_deal_here", "_law_many"] (defScope s_l_names) := ⟨rfl, rfl, rfl, by decide +kernel, rfl, by decide +kernel, by decide +kernel⟩
abbrev s_l_heights : Stmt := topS 36
abbrev N_l_heights : List Str := ["_law_deal_here", "_law_sizes", "_law_tall", "_law_most", "_law_many", "_law_form", "_law_found", "_law_turn"]
theorem sc_l_heights : FnScope N_l_heights ["_law_deal_here", "_law_sizes", "_law_tall", "_law_most"] (defScope s_l_heights) := ⟨rfl, rfl, rfl, by decide +kernel, rfl, by decide +kernel, by decide +kernel⟩
abbrev s_l_filled : Stmt := topS 37
abbrev N_l_filled : List Str := ["_law_deal_here", "_law_rooms", "_law_boxes", "_law_rows", "_law_box", "_law_at", "_law_room"]
theorem sc_l_filled : FnScope N_l_filled ["_law_deal_here", "_law_rooms", "_law_boxes"] (defScope s_l_filled) := ⟨rfl, rfl, rfl, by decide +kernel, rfl, by decide +kernel, by decide +kernel⟩
abbrev s_l_depths : Stmt := topS 38
abbrev N_l_depths : List Str := ["_law_heights_here", "_law_boxes", "_law_free", "_law_height"]
theorem sc_l_depths : FnScope N_l_depths ["_law_heights_here", "_law_boxes"] (defScope s_l_depths) := ⟨rfl, rfl, rfl, by decide +kernel, rfl, by decide +kernel, by decide +kernel⟩
abbrev s_l_size : Stmt := topS 39
abbrev N_l_size : List Str := ["_law_rooms", "_law_many", "_law_ways", "_law_room", "_law_found", "_law_factor", "_law_at"]
theorem sc_l_size : FnScope N_l_size ["_law_rooms", "_law_many"] (defScope s_l_size) := ⟨rfl, rfl, rfl, by decide +kernel, rfl, by decide +kernel, by decide +kernel⟩
abbrev s_l_stacks : Stmt := topS 40
abbrev N_l_stacks : List Str := ["_law_height", "_law_names_here", "_law_found", "_law_layer", "_law_turn", "_law_later", "_law_stack", "_law_others", "_law_box", "_law_other"]
theorem sc_l_stacks : FnScope N_l_stacks ["_law_height", "_law_names_here"] (defScope s_l_stacks) := ⟨rfl, rfl, rfl, by decide +kernel, rfl, by decide +kernel, by decide +kernel⟩
abbrev s_l_all : Stmt := topS 41
abbrev N_l_all : List Str := ["_law_heights_here", "_law_names_here", "_law_found", "_law_at", "_law_height", "_law_later", "_law_room", "_law_rows", "_law_rest", "_law_stack", "_law_others"]
theorem sc_l_all : FnScope N_l_all ["_law_heights_here", "_law_names_here"] (defScope s_l_all) := ⟨rfl, rfl, rfl, by decide +kernel, rfl, by decide +kernel, by decide +kernel⟩
abbrev s_l_reached : Stmt := topS 42
abbrev N_l_reached : List Str := ["_law_heights_here", "_law_standing", "_law_found", "_law_layer", "_law_turn", "_law_later", "_law_rows", "_law_start", "_law_row", "_law_end", "_law_other", "_law_behind"]
theorem sc_l_reached : FnScope N_l_reached ["_law_heights_here", "_law_standing"] (defScope s_l_reached) := ⟨rfl, rfl, rfl, by decide +kernel, rfl, by decide +kernel, by decide +kernel⟩
abbrev s_l_parting : Stmt := topS 43
abbrev N_l_parting : List Str := ["_law_depths_here", "_law_one", "_law_other", "_law_stack", "_law_depth", "_law_level"]
theorem sc_l_parting : FnScope N_l_parting ["_law_depths_here", "_law_one", "_law_other"] (defScope s_l_parting) := ⟨rfl, rfl, rfl, by decide +kernel, rfl, by decide +kernel, by decide +kernel⟩
abbrev s_l_changed : Stmt := topS 44
abbrev N_l_changed : List Str := ["_law_one", "_law_box", "_law_name", "_law_row", "_law_thing"]
theorem sc_l_changed : FnScope N_l_changed ["_law_one", "_law_box", "_law_name"] (defScope s_l_changed) := ⟨rfl, rfl, rfl, by decide +kernel, rfl, by decide +kernel, by decide +kernel⟩
abbrev s_l_refused : Stmt := topS 45
abbrev N_l_refused : List Str := ["_law_yard", "_law_one", "_law_other", "e"]
theorem sc_l_refused : FnScope N_l_refused ["_law_yard", "_law_one", "_law_other"] (defScope s_l_refused) := ⟨rfl, rfl, rfl, by decide +kernel, rfl, by decide +kernel, by decide +kernel⟩
abbrev s_l_bent : Stmt := topS 46
abbrev N_l_bent : List Str := ["_law_deal_here", "_law_heights_here", "_law_one", "_law_at", "_law_kind", "_law_earlier", "_law_other", "_law_row", "_law_place", "_law_bad", "_law_thing", "_law_value", "_law_letter"]
theorem sc_l_bent : FnScope N_l_bent ["_law_deal_here", "_law_heights_here", "_law_one"] (defScope s_l_bent) := ⟨rfl, rfl, rfl, by decide +kernel, rfl, by decide +kernel, by decide +kernel⟩
abbrev s_l_heard : Stmt := topS 47
abbrev N_l_heard : List Str := ["_law_yard", "_law_one", "_law_value", "_law_work", "e"]
theorem sc_l_heard : FnScope N_l_heard ["_law_yard", "_law_one", "_law_value", "_law_work"] (defScope s_l_heard) := ⟨rfl, rfl, rfl, by decide +kernel, rfl, by decide +kernel, by decide +kernel⟩
abbrev s_law : Stmt := topS 48
abbrev N_law : List Str := ["_law_script", "_law_deal_here", "_law_heights_here", "_law_fits", "_law_boxes", "_law_names_here", "_law_lot", "_law_stranger", "_law_one", "_law_yard", "_law_depths_here", "_law_reached_here", "_law_at", "_law_other", "_law_same", "_law_due", "_law_turn", "_law_value", "_law_fewer", "_law_many", "_law_row", "_law_depth"]
theorem sc_law : FnScope N_law ["_law_script"] (defScope s_law) := ⟨rfl, rfl, rfl, by decide +kernel, rfl, by decide +kernel, by decide +kernel⟩
structure Adr where
  a_is_integer : Addr
  d_is_integer : FuncData
  a_is_below : Addr
  d_is_below : FuncData
  a_is_text : Addr
  d_is_text : FuncData
  a_is_sequence : Addr
  d_is_sequence : FuncData
  a_is_name : Addr
  d_is_name : FuncData
  a_need_number : Addr
  d_need_number : FuncData
  a_lot_of : Addr
  d_lot_of : FuncData
  a_Yard_init : Addr
  d_Yard_init : FuncData
  a_places : Addr
  d_places : FuncData
  a_deep_row : Addr
  d_deep_row : FuncData
  a_need_standing : Addr
  d_need_standing : FuncData
  a_boxes_of : Addr
  d_boxes_of : FuncData
  a_count_boxes : Addr
  d_count_boxes : FuncData
  a_deep_part : Addr
  d_deep_part : FuncData
  a_same_class : Addr
  d_same_class : FuncData
  a_parting_place : Addr
  d_parting_place : FuncData
  a_l_deal : Addr
  d_l_deal : FuncData
  a_l_any : Addr
  d_l_any : FuncData
  a_l_of : Addr
  d_l_of : FuncData
  a_l_mixed : Addr
  d_l_mixed : FuncData
  a_l_names : Addr
  d_l_names : FuncData
  a_l_heights : Addr
  d_l_heights : FuncData
  a_l_filled : Addr
  d_l_filled : FuncData
  a_l_depths : Addr
  d_l_depths : FuncData
  a_l_size : Addr
  d_l_size : FuncData
  a_l_stacks : Addr
  d_l_stacks : FuncData
  a_l_all : Addr
  d_l_all : FuncData
  a_l_reached : Addr
  d_l_reached : FuncData
  a_l_parting : Addr
  d_l_parting : FuncData
  a_l_changed : Addr
  d_l_changed : FuncData
  a_l_refused : Addr
  d_l_refused : FuncData
  a_l_bent : Addr
  d_l_bent : FuncData
  a_l_heard : Addr
  d_l_heard : FuncData
  a_law : Addr
  d_law : FuncData
  C_Yard : Addr
  C_InvalidStanding : Addr
  C_Refused : Addr
  C_YardError : Addr
  i_InvalidStanding : Addr
  i_Refused : Addr
  t_LETTERS : Tok
  t_LONGEST : Tok
  t_FEWEST : Tok
  t_MOST : Tok
theorem bt_abs : bootBuiltins "abs" = some (.builtin "abs") := by decide +kernel
theorem bt_all : bootBuiltins "all" = some (.builtin "all") := by decide +kernel
theorem bt_bool : bootBuiltins "bool" = some (.type "bool") := by decide +kernel
theorem bt_int : bootBuiltins "int" = some (.type "int") := by decide +kernel
theorem bt_isinstance : bootBuiltins "isinstance" = some (.builtin "isinstance") := by decide +kernel
theorem bt_len : bootBuiltins "len" = some (.builtin "len") := by decide +kernel
theorem bt_list : bootBuiltins "list" = some (.type "list") := by decide +kernel
theorem bt_max : bootBuiltins "max" = some (.builtin "max") := by decide +kernel
theorem bt_repr : bootBuiltins "repr" = some (.builtin "repr") := by decide +kernel
theorem bt_set : bootBuiltins "set" = some (.type "set") := by decide +kernel
theorem bt_sorted : bootBuiltins "sorted" = some (.builtin "sorted") := by decide +kernel
theorem bt_str : bootBuiltins "str" = some (.type "str") := by decide +kernel
theorem bt_sum : bootBuiltins "sum" = some (.builtin "sum") := by decide +kernel
theorem bt_tuple : bootBuiltins "tuple" = some (.type "tuple") := by decide +kernel
structure Txt (P : Program) (K : PySem.W.Frag) (mg : Str → Option Value) (B : Adr) : Prop where
  F_is_integer : Fun K "is_integer" "is_integer" s_is_integer B.a_is_integer B.d_is_integer
  g_is_integer : mg "is_integer" = some (.ref B.a_is_integer)
  b_is_integer : Binds K B.d_is_integer ["value"] []
  F_is_below : Fun K "is_below" "is_below" s_is_below B.a_is_below B.d_is_below
  g_is_below : mg "is_below" = some (.ref B.a_is_below)
  b_is_below : Binds K B.d_is_below ["value", "bound"] []
  F_is_text : Fun K "is_text" "is_text" s_is_text B.a_is_text B.d_is_text
  g_is_text : mg "is_text" = some (.ref B.a_is_text)
  b_is_text : Binds K B.d_is_text ["value"] []
  F_is_sequence : Fun K "is_sequence" "is_sequence" s_is_sequence B.a_is_sequence B.d_is_sequence
  g_is_sequence : mg "is_sequence" = some (.ref B.a_is_sequence)
  b_is_sequence : Binds K B.d_is_sequence ["value"] []
  F_is_name : Fun K "is_name" "is_name" s_is_name B.a_is_name B.d_is_name
  g_is_name : mg "is_name" = some (.ref B.a_is_name)
  b_is_name : Binds K B.d_is_name ["value"] []
  F_need_number : Fun K "need_number" "need_number" s_need_number B.a_need_number B.d_need_number
  g_need_number : mg "need_number" = some (.ref B.a_need_number)
  b_need_number : Binds K B.d_need_number ["value", "bound", "word"] []
  F_lot_of : Fun K "lot_of" "lot_of" s_lot_of B.a_lot_of B.d_lot_of
  g_lot_of : mg "lot_of" = some (.ref B.a_lot_of)
  b_lot_of : Binds K B.d_lot_of ["things"] []
  F_Yard_init : Fun K "__init__" "Yard.__init__" s_Yard_init B.a_Yard_init B.d_Yard_init
  b_Yard_init : Binds K B.d_Yard_init ["self", "heights"] []
  F_places : Fun K "places" "places" s_places B.a_places B.d_places
  g_places : mg "places" = some (.ref B.a_places)
  b_places : Binds K B.d_places ["yard"] []
  F_deep_row : Fun K "deep_row" "deep_row" s_deep_row B.a_deep_row B.d_deep_row
  g_deep_row : mg "deep_row" = some (.ref B.a_deep_row)
  b_deep_row : Binds K B.d_deep_row ["yard", "boxes"] []
  F_need_standing : Fun K "need_standing" "need_standing" s_need_standing B.a_need_standing B.d_need_standing
  g_need_standing : mg "need_standing" = some (.ref B.a_need_standing)
  b_need_standing : Binds K B.d_need_standing ["yard", "value"] []
  F_boxes_of : Fun K "boxes_of" "boxes_of" s_boxes_of B.a_boxes_of B.d_boxes_of
  g_boxes_of : mg "boxes_of" = some (.ref B.a_boxes_of)
  b_boxes_of : Binds K B.d_boxes_of ["standing"] []
  F_count_boxes : Fun K "count_boxes" "count_boxes" s_count_boxes B.a_count_boxes B.d_count_boxes
  g_count_boxes : mg "count_boxes" = some (.ref B.a_count_boxes)
  b_count_boxes : Binds K B.d_count_boxes ["standing"] []
  F_deep_part : Fun K "deep_part" "deep_part" s_deep_part B.a_deep_part B.d_deep_part
  g_deep_part : mg "deep_part" = some (.ref B.a_deep_part)
  b_deep_part : Binds K B.d_deep_part ["yard", "standing"] []
  F_same_class : Fun K "same_class" "same_class" s_same_class B.a_same_class B.d_same_class
  g_same_class : mg "same_class" = some (.ref B.a_same_class)
  b_same_class : Binds K B.d_same_class ["yard", "one", "other"] []
  F_parting_place : Fun K "parting_place" "parting_place" s_parting_place B.a_parting_place B.d_parting_place
  g_parting_place : mg "parting_place" = some (.ref B.a_parting_place)
  b_parting_place : Binds K B.d_parting_place ["yard", "one", "other"] []
  F_l_deal : Fun K "_law_deal" "_law_deal" s_l_deal B.a_l_deal B.d_l_deal
  g_l_deal : mg "_law_deal" = some (.ref B.a_l_deal)
  b_l_deal : Binds K B.d_l_deal ["_law_script", "_law_base"] []
  F_l_any : Fun K "_law_any" "_law_any" s_l_any B.a_l_any B.d_l_any
  g_l_any : mg "_law_any" = some (.ref B.a_l_any)
  b_l_any : Binds K B.d_l_any ["_law_deal_here", "_law_bound"] []
  F_l_of : Fun K "_law_of" "_law_of" s_l_of B.a_l_of B.d_l_of
  g_l_of : mg "_law_of" = some (.ref B.a_l_of)
  b_l_of : Binds K B.d_l_of ["_law_deal_here", "_law_some"] []
  F_l_mixed : Fun K "_law_mixed" "_law_mixed" s_l_mixed B.a_l_mixed B.d_l_mixed
  g_l_mixed : mg "_law_mixed" = some (.ref B.a_l_mixed)
  b_l_mixed : Binds K B.d_l_mixed ["_law_deal_here", "_law_some"] []
  F_l_names : Fun K "_law_names" "_law_names" s_l_names B.a_l_names B.d_l_names
  g_l_names : mg "_law_names" = some (.ref B.a_l_names)
  b_l_names : Binds K B.d_l_names ["_law_deal_here", "_law_many"] []
  F_l_heights : Fun K "_law_heights" "_law_heights" s_l_heights B.a_l_heights B.d_l_heights
  g_l_heights : mg "_law_heights" = some (.ref B.a_l_heights)
  b_l_heights : Binds K B.d_l_heights ["_law_deal_here", "_law_sizes", "_law_tall", "_law_most"] []
  F_l_filled : Fun K "_law_filled" "_law_filled" s_l_filled B.a_l_filled B.d_l_filled
  g_l_filled : mg "_law_filled" = some (.ref B.a_l_filled)
  b_l_filled : Binds K B.d_l_filled ["_law_deal_here", "_law_rooms", "_law_boxes"] []
  F_l_depths : Fun K "_law_depths" "_law_depths" s_l_depths B.a_l_depths B.d_l_depths
  g_l_depths : mg "_law_depths" = some (.ref B.a_l_depths)
  b_l_depths : Binds K B.d_l_depths ["_law_heights_here", "_law_boxes"] []
  F_l_size : Fun K "_law_size" "_law_size" s_l_size B.a_l_size B.d_l_size
  g_l_size : mg "_law_size" = some (.ref B.a_l_size)
  b_l_size : Binds K B.d_l_size ["_law_rooms", "_law_many"] []
  F_l_stacks : Fun K "_law_stacks" "_law_stacks" s_l_stacks B.a_l_stacks B.d_l_stacks
  g_l_stacks : mg "_law_stacks" = some (.ref B.a_l_stacks)
  b_l_stacks : Binds K B.d_l_stacks ["_law_height", "_law_names_here"] []
  F_l_all : Fun K "_law_all" "_law_all" s_l_all B.a_l_all B.d_l_all
  g_l_all : mg "_law_all" = some (.ref B.a_l_all)
  b_l_all : Binds K B.d_l_all ["_law_heights_here", "_law_names_here"] []
  F_l_reached : Fun K "_law_reached" "_law_reached" s_l_reached B.a_l_reached B.d_l_reached
  g_l_reached : mg "_law_reached" = some (.ref B.a_l_reached)
  b_l_reached : Binds K B.d_l_reached ["_law_heights_here", "_law_standing"] []
  F_l_parting : Fun K "_law_parting" "_law_parting" s_l_parting B.a_l_parting B.d_l_parting
  g_l_parting : mg "_law_parting" = some (.ref B.a_l_parting)
  b_l_parting : Binds K B.d_l_parting ["_law_depths_here", "_law_one", "_law_other"] []
  F_l_changed : Fun K "_law_changed" "_law_changed" s_l_changed B.a_l_changed B.d_l_changed
  g_l_changed : mg "_law_changed" = some (.ref B.a_l_changed)
  b_l_changed : Binds K B.d_l_changed ["_law_one", "_law_box", "_law_name"] []
  F_l_refused : Fun K "_law_refused" "_law_refused" s_l_refused B.a_l_refused B.d_l_refused
  g_l_refused : mg "_law_refused" = some (.ref B.a_l_refused)
  b_l_refused : Binds K B.d_l_refused ["_law_yard", "_law_one", "_law_other"] []
  F_l_bent : Fun K "_law_bent" "_law_bent" s_l_bent B.a_l_bent B.d_l_bent
  g_l_bent : mg "_law_bent" = some (.ref B.a_l_bent)
  b_l_bent : Binds K B.d_l_bent ["_law_deal_here", "_law_heights_here", "_law_one"] []
  F_l_heard : Fun K "_law_heard" "_law_heard" s_l_heard B.a_l_heard B.d_l_heard
  g_l_heard : mg "_law_heard" = some (.ref B.a_l_heard)
  b_l_heard : Binds K B.d_l_heard ["_law_yard", "_law_one", "_law_value", "_law_work"] []
  F_law : Fun K "law" "law" s_law B.a_law B.d_law
  g_law : mg "law" = some (.ref B.a_law)
  b_law : Binds K B.d_law ["_law_script"] []
  z_abs : mg "abs" = none
  z_all : mg "all" = none
  z_bool : mg "bool" = none
  z_enumerate : mg "enumerate" = none
  z_int : mg "int" = none
  z_isinstance : mg "isinstance" = none
  z_len : mg "len" = none
  z_list : mg "list" = none
  z_max : mg "max" = none
  z_range : mg "range" = none
  z_repr : mg "repr" = none
  z_set : mg "set" = none
  z_sorted : mg "sorted" = none
  z_str : mg "str" = none
  z_sum : mg "sum" = none
  z_tuple : mg "tuple" = none
  z_zip : mg "zip" = none
  c_LETTERS : mg "LETTERS" = some (.str "abcdefghijklmnopqrstuvwxyz" B.t_LETTERS)
  c_LONGEST : mg "LONGEST" = some (.int 8 B.t_LONGEST)
  c_FEWEST : mg "FEWEST" = some (.int 3 B.t_FEWEST)
  c_MOST : mg "MOST" = some (.int 12 B.t_MOST)
  g_Yard : mg "Yard" = some (.ref B.C_Yard)
  mk_Yard : Mk K B.C_Yard B.a_Yard_init
  cl_Yard : Cls K B.C_Yard
  no_heights : NoAttr K B.C_Yard "heights"
  g_InvalidStanding : mg "InvalidStanding" = some (.ref B.C_InvalidStanding)
  er_InvalidStanding : Er.ErrT P K mg "InvalidStanding" "at" "InvalidStanding.__init__" "invalid standing" B.C_InvalidStanding
  xf_InvalidStanding : XfC K B.C_InvalidStanding
  te_InvalidStanding : PySem.W.exmOne K (.ref B.C_InvalidStanding) (.ref B.C_InvalidStanding) = some true
  g_Refused : mg "Refused" = some (.ref B.C_Refused)
  er_Refused : Er.ErrT P K mg "Refused" "word" "Refused.__init__" "refused" B.C_Refused
  xf_Refused : XfC K B.C_Refused
  te_Refused : PySem.W.exmOne K (.ref B.C_Refused) (.ref B.C_Refused) = some true
end Sd

set_option Elab.async false
set_option linter.all false
set_option maxRecDepth 100000
set_option maxHeartbeats 8000000
/-! Sder: the readings and derivations of all defs. Printed by gen.py. -/
namespace Sd
open PySem PySem.Spec PyProof.Rows L2
/-- the scope of the outer comprehension of _law_changed -/
def scOuter : Scope := { kind := .function, names := [(PySem.Str.ofString ".0", .local), (PySem.Str.ofString "_law_row", .local), (PySem.Str.ofString "tuple", .globalImplicit), (PySem.Str.ofString "_law_box", .cell), (PySem.Str.ofString "_law_name", .cell)], isGenerator := false, isCoroutine := false, more := [] }

def gV_deep_part_0_standing_yard : List V → List V → List V := fun vs zs => match vs, zs with | [], [b0, b1] => [b1, b0] | _, _ => []
theorem kb_deep_part_0_standing_yard {P : Program} {K : PySem.W.Frag} {mg : Str → Option Value} {B : Adr} (T : Txt P K mg B) : KBinds K B.d_deep_part ["yard", "standing"] ["standing", "yard"] (fun us ws => match us, ws with | [], [b0, b1] => [b1, b0] | _, _ => []) gV_deep_part_0_standing_yard := kbinds_of T.F_deep_part (fun kV doc pm cdv ct an us ws hl => by
  rcases us with _ | ⟨u0, _ | ⟨u1, us⟩⟩ <;> rcases ws with _ | ⟨w0, _ | ⟨w1, _ | ⟨w2, _ | ⟨w3, ws⟩⟩⟩⟩ <;> first | exact absurd (show (0 : Nat) = 2 from hl) (by decide) | rfl | with_unfolding_all rfl) (fun {vs us zs ws} r rz => by
  rcases r with _ | ⟨r0, _ | ⟨r1, r⟩⟩ <;> rcases rz with _ | ⟨z0, _ | ⟨z1, _ | ⟨z2, _ | ⟨z3, rz⟩⟩⟩⟩ <;> first | exact .nil | exact (.cons z1 (.cons z0 .nil)))
def gV_parting_place_0_one_yard_other : List V → List V → List V := fun vs zs => match vs, zs with | [], [b0, b1, b2] => [b1, b0, b2] | _, _ => []
theorem kb_parting_place_0_one_yard_other {P : Program} {K : PySem.W.Frag} {mg : Str → Option Value} {B : Adr} (T : Txt P K mg B) : KBinds K B.d_parting_place ["yard", "one", "other"] ["one", "yard", "other"] (fun us ws => match us, ws with | [], [b0, b1, b2] => [b1, b0, b2] | _, _ => []) gV_parting_place_0_one_yard_other := kbinds_of T.F_parting_place (fun kV doc pm cdv ct an us ws hl => by
  rcases us with _ | ⟨u0, _ | ⟨u1, us⟩⟩ <;> rcases ws with _ | ⟨w0, _ | ⟨w1, _ | ⟨w2, _ | ⟨w3, ws⟩⟩⟩⟩ <;> first | exact absurd (show (0 : Nat) = 3 from hl) (by decide) | rfl | with_unfolding_all rfl) (fun {vs us zs ws} r rz => by
  rcases r with _ | ⟨r0, _ | ⟨r1, r⟩⟩ <;> rcases rz with _ | ⟨z0, _ | ⟨z1, _ | ⟨z2, _ | ⟨z3, rz⟩⟩⟩⟩ <;> first | exact .nil | exact (.cons z1 (.cons z0 (.cons z2 .nil))))
def gV_parting_place_1_other_one : List V → List V → List V := fun vs zs => match vs, zs with | [a0], [b0, b1] => [a0, b1, b0] | _, _ => []
theorem kb_parting_place_1_other_one {P : Program} {K : PySem.W.Frag} {mg : Str → Option Value} {B : Adr} (T : Txt P K mg B) : KBinds K B.d_parting_place ["yard", "one", "other"] ["other", "one"] (fun us ws => match us, ws with | [a0], [b0, b1] => [a0, b1, b0] | _, _ => []) gV_parting_place_1_other_one := kbinds_of T.F_parting_place (fun kV doc pm cdv ct an us ws hl => by
  rcases us with _ | ⟨u0, _ | ⟨u1, us⟩⟩ <;> rcases ws with _ | ⟨w0, _ | ⟨w1, _ | ⟨w2, _ | ⟨w3, ws⟩⟩⟩⟩ <;> first | exact absurd (show (0 : Nat) = 3 from hl) (by decide) | rfl | with_unfolding_all rfl) (fun {vs us zs ws} r rz => by
  rcases r with _ | ⟨r0, _ | ⟨r1, r⟩⟩ <;> rcases rz with _ | ⟨z0, _ | ⟨z1, _ | ⟨z2, _ | ⟨z3, rz⟩⟩⟩⟩ <;> first | exact .nil | exact (.cons r0 (.cons z1 (.cons z0 .nil))))
def gV_same_class_0_other_one_yard : List V → List V → List V := fun vs zs => match vs, zs with | [], [b0, b1, b2] => [b2, b1, b0] | _, _ => []
theorem kb_same_class_0_other_one_yard {P : Program} {K : PySem.W.Frag} {mg : Str → Option Value} {B : Adr} (T : Txt P K mg B) : KBinds K B.d_same_class ["yard", "one", "other"] ["other", "one", "yard"] (fun us ws => match us, ws with | [], [b0, b1, b2] => [b2, b1, b0] | _, _ => []) gV_same_class_0_other_one_yard := kbinds_of T.F_same_class (fun kV doc pm cdv ct an us ws hl => by
  rcases us with _ | ⟨u0, _ | ⟨u1, us⟩⟩ <;> rcases ws with _ | ⟨w0, _ | ⟨w1, _ | ⟨w2, _ | ⟨w3, ws⟩⟩⟩⟩ <;> first | exact absurd (show (0 : Nat) = 3 from hl) (by decide) | rfl | with_unfolding_all rfl) (fun {vs us zs ws} r rz => by
  rcases r with _ | ⟨r0, _ | ⟨r1, r⟩⟩ <;> rcases rz with _ | ⟨z0, _ | ⟨z1, _ | ⟨z2, _ | ⟨z3, rz⟩⟩⟩⟩ <;> first | exact .nil | exact (.cons z2 (.cons z1 (.cons z0 .nil))))
def t_is_integer (K : PySem.W.Frag) : TS :=
  (tRet (tAndV (tCB (rIsi K) (tCons (tVar 0) (tCons (tC (.ty "int")) tNil))) (tNotV (tCB (rIsi K) (tCons (tVar 0) (tCons (tC (.ty "bool")) tNil))))))
theorem der_is_integer {P : Program} {w : World} {K : PySem.W.Frag} {mg : Str → Option Value} {base : Heap} {B : Adr} {cdv : Value} {A : Around} {outer : List Env} {s : Shared} {H : Hp} {E : XK} (T : Txt P K mg B)
    (hr : Room 0 (A.deeper (envOfC "is_integer" (defScope s_is_integer) s.heap.objs.size B.a_is_integer cdv))) :
    PSs (cxOf CX0 P w K mg base N_is_integer "is_integer" (defScope s_is_integer) B.a_is_integer cdv A outer s H E).nox (defBody s_is_integer) (t_is_integer K) := by
  have nd := sc_is_integer.nd
  exact (pss_one (ps_ret (pe_and (pe_callB call_isi (by rfl) T.z_isinstance bt_isinstance (pa_cons (pv 0) (pa_cons (pe_bltn (by rfl) T.z_int bt_int rfl) pa_nil))) (pe_one (pe_not (pe_callB call_isi (by rfl) T.z_isinstance bt_isinstance (pa_cons (pv 0) (pa_cons (pe_bltn (by rfl) T.z_bool bt_bool rfl) pa_nil))))))))
def t_is_below (K : PySem.W.Frag) (sp_is_integer : Sp) : TS :=
  (tRet (tAndV (tCall sp_is_integer [] E0 (tCons (tVar 0) tNil)) (tChain rLeI rLtI (tC (.int 0)) (tVar 0) (tVar 1))))
theorem der_is_below {P : Program} {w : World} {K : PySem.W.Frag} {mg : Str → Option Value} {base : Heap} {B : Adr} {cdv : Value} {A : Around} {outer : List Env} {s : Shared} {H : Hp} {E : XK} {sp_is_integer : Sp} (T : Txt P K mg B)
    (G_is_integer : FnOk P w K mg base CX0 1 B.a_is_integer B.d_is_integer ["value"] sp_is_integer)
    (hr : Room 1 (A.deeper (envOfC "is_below" (defScope s_is_below) s.heap.objs.size B.a_is_below cdv))) :
    PSs (cxOf CX0 P w K mg base N_is_below "is_below" (defScope s_is_below) B.a_is_below cdv A outer s H E).nox (defBody s_is_below) (t_is_below K sp_is_integer) := by
  have nd := sc_is_below.nd
  exact (pss_one (ps_ret (pe_and (pe_call G_is_integer (hr.mono (by decide)) (by rfl) T.g_is_integer T.F_is_integer.kp T.b_is_integer .nil pass0 (pa_cons (pv 0) pa_nil)) (pe_one (pe_chain op_le op_lt pe_int (pv 0) (pv 1))))))
def t_is_text (K : PySem.W.Frag) : TS :=
  (tRet (tCB (rIsi K) (tCons (tVar 0) (tCons (tC (.ty "str")) tNil))))
theorem der_is_text {P : Program} {w : World} {K : PySem.W.Frag} {mg : Str → Option Value} {base : Heap} {B : Adr} {cdv : Value} {A : Around} {outer : List Env} {s : Shared} {H : Hp} {E : XK} (T : Txt P K mg B)
    (hr : Room 0 (A.deeper (envOfC "is_text" (defScope s_is_text) s.heap.objs.size B.a_is_text cdv))) :
    PSs (cxOf CX0 P w K mg base N_is_text "is_text" (defScope s_is_text) B.a_is_text cdv A outer s H E).nox (defBody s_is_text) (t_is_text K) := by
  have nd := sc_is_text.nd
  exact (pss_one (ps_ret (pe_callB call_isi (by rfl) T.z_isinstance bt_isinstance (pa_cons (pv 0) (pa_cons (pe_bltn (by rfl) T.z_str bt_str rfl) pa_nil)))))
def t_is_sequence (K : PySem.W.Frag) : TS :=
  (tRet (tCB (rIsiT K) (tCons (tVar 0) (tCons (tTup (tCons (tC (.ty "list")) (tCons (tC (.ty "tuple")) tNil))) tNil))))
theorem der_is_sequence {P : Program} {w : World} {K : PySem.W.Frag} {mg : Str → Option Value} {base : Heap} {B : Adr} {cdv : Value} {A : Around} {outer : List Env} {s : Shared} {H : Hp} {E : XK} (T : Txt P K mg B)
    (hr : Room 0 (A.deeper (envOfC "is_sequence" (defScope s_is_sequence) s.heap.objs.size B.a_is_sequence cdv))) :
    PSs (cxOf CX0 P w K mg base N_is_sequence "is_sequence" (defScope s_is_sequence) B.a_is_sequence cdv A outer s H E).nox (defBody s_is_sequence) (t_is_sequence K) := by
  have nd := sc_is_sequence.nd
  exact (pss_one (ps_ret (pe_callB call_isiT (by rfl) T.z_isinstance bt_isinstance (pa_cons (pv 0) (pa_cons (pe_tup (pa_cons (pe_bltn (by rfl) T.z_list bt_list rfl) (pa_cons (pe_bltn (by rfl) T.z_tuple bt_tuple rfl) pa_nil))) pa_nil)))))
def t_is_name (K : PySem.W.Frag) (sp_is_text : Sp) : TS :=
  (tRet (tAndV (tCall sp_is_text [] E0 (tCons (tVar 0) tNil)) (tAndV (tChain rLeI rLeI (tC (.int 1)) (tCB (rLenAny K) (tCons (tVar 0) tNil)) (tC (.int 8))) (tCB (rAll K) (tCons (tLc (iStr (tVar 0)) (gName 1) tYes (tOp rInSign (tVar 1) (tC (.str "abcdefghijklmnopqrstuvwxyz"))) [1]) tNil)))))
theorem der_is_name {P : Program} {w : World} {K : PySem.W.Frag} {mg : Str → Option Value} {base : Heap} {B : Adr} {cdv : Value} {A : Around} {outer : List Env} {s : Shared} {H : Hp} {E : XK} {sp_is_text : Sp} (T : Txt P K mg B)
    (G_is_text : FnOk P w K mg base CX0 1 B.a_is_text B.d_is_text ["value"] sp_is_text)
    (hr : Room 1 (A.deeper (envOfC "is_name" (defScope s_is_name) s.heap.objs.size B.a_is_name cdv))) :
    PSs (cxOf CX0 P w K mg base N_is_name "is_name" (defScope s_is_name) B.a_is_name cdv A outer s H E).nox (defBody s_is_name) (t_is_name K sp_is_text) := by
  have nd := sc_is_name.nd
  exact (pss_one (ps_ret (pe_and (pe_call G_is_text (hr.mono (by decide)) (by rfl) T.g_is_text T.F_is_text.kp T.b_is_text .nil pass0 (pa_cons (pv 0) pa_nil)) (pe_and (pe_chain op_le op_le pe_int (pe_callB call_len (by rfl) T.z_len bt_len (pa_cons (pv 0) pa_nil)) (pe_glob (by rfl) T.c_LONGEST ⟨_, rfl⟩)) (pe_one (pe_callB (cr_all rfl) (by rfl) T.z_all bt_all (pa_cons (pe_lc (own := [("sign", 1)]) (g := (gName 1)) (tt := tYes) rfl nd (pi_str (pv 0)) (blkOk_by (N := N_is_name) (sc := defScope s_is_name) (by decide +kernel)) (fun _ _ _ _ _ => (pg_name (i := 1) nd rfl (by first | exact Or.inl rfl | exact Or.inr rfl))) (fun _ _ _ _ _ => pts_nil) (fun _ _ _ _ _ => (pe_cmpR op_in_sign (pv 1) (pe_glob (by rfl) T.c_LETTERS ⟨_, rfl⟩) rfl))) pa_nil)))))))
def t_need_number (K : PySem.W.Frag) (sp_is_below : Sp) : TS :=
  (tIfS (tNot (tB (tCall sp_is_below [] E0 (tCons (tVar 0) (tCons (tVar 1) tNil))))) tNever tNext)
theorem der_need_number {P : Program} {w : World} {K : PySem.W.Frag} {mg : Str → Option Value} {base : Heap} {B : Adr} {cdv : Value} {A : Around} {outer : List Env} {s : Shared} {H : Hp} {E : XK} {sp_is_below : Sp} (T : Txt P K mg B)
    (G_is_below : FnOk P w K mg base CX0 2 B.a_is_below B.d_is_below ["value", "bound"] sp_is_below)
    (hr : Room 2 (A.deeper (envOfC "need_number" (defScope s_need_number) s.heap.objs.size B.a_need_number cdv))) :
    PSs (cxOf CX0 P w K mg base N_need_number "need_number" (defScope s_need_number) B.a_need_number cdv A outer s H E).nox (defBody s_need_number) (t_need_number K sp_is_below) := by
  have nd := sc_need_number.nd
  exact (pss_one (ps_if (pt_not (pt_val (pe_call G_is_below (hr.mono (by decide)) (by rfl) T.g_is_below T.F_is_below.kp T.b_is_below .nil pass0 (pa_cons (pv 0) (pa_cons (pv 1) pa_nil))))) (pss_one ps_never) pss_nil))
def t_lot_of (K : PySem.W.Frag) (P : Program) (w : World) : TS :=
  (tRet (tCB (rTupleOf K) (tCons (tCB (rSortedSS P w) (tCons (tCB (rSetS K P w) (tCons (tVar 0) tNil)) tNil)) tNil)))
theorem der_lot_of {P : Program} {w : World} {K : PySem.W.Frag} {mg : Str → Option Value} {base : Heap} {B : Adr} {cdv : Value} {A : Around} {outer : List Env} {s : Shared} {H : Hp} {E : XK} (T : Txt P K mg B)
    (hr : Room 0 (A.deeper (envOfC "lot_of" (defScope s_lot_of) s.heap.objs.size B.a_lot_of cdv))) :
    PSs (cxOf CX0 P w K mg base N_lot_of "lot_of" (defScope s_lot_of) B.a_lot_of cdv A outer s H E).nox (defBody s_lot_of) (t_lot_of K P w) := by
  have nd := sc_lot_of.nd
  exact (pss_one (ps_ret (pe_callTy call_tuple_of (by rfl) T.z_tuple bt_tuple (pa_cons (pe_callB (call_sortedSS rfl) (by rfl) T.z_sorted bt_sorted (pa_cons (pe_callTy (call_setS rfl) (by rfl) T.z_set bt_set (pa_cons (pv 0) pa_nil)) pa_nil)) pa_nil))))
def t_Yard_init (K : PySem.W.Frag) (sp_is_below : Sp) (sp_is_sequence : Sp) : TS :=
  (tSeq (tIfS (tOr (tNot (tB (tCall sp_is_sequence [] E0 (tCons (tVar 1) tNil)))) (tNot (tTest (tChain rLeI rLeI (tC (.int 3)) (tCB (rLenSeq K) (tCons (tVar 1) tNil)) (tC (.int 12)))))) tNever tNext)
    (tSeq (tFor (iEnumT K (tCons (tVar 1) tNil)) (gTup K 2 (gCons (gName 2) (gCons (gName 3) gNil))) (tIfS (tOr (tNot (tB (tCall sp_is_below [] E0 (tCons (tVar 3) (tCons (tOp rAddI (tC (.int 12)) (tC (.int 1))) tNil))))) (tTest (tOp rEq (tVar 3) (tC (.int 0))))) tNever tNext))
    (sFld K (tVar 0) (tCB (rTupleOf K) (tCons (tVar 1) tNil)) "heights")))
theorem der_Yard_init {P : Program} {w : World} {K : PySem.W.Frag} {mg : Str → Option Value} {base : Heap} {B : Adr} {cdv : Value} {A : Around} {outer : List Env} {s : Shared} {H : Hp} {E : XK} {sp_is_below : Sp} {sp_is_sequence : Sp} (T : Txt P K mg B)
    (G_is_below : FnOk P w K mg base CX0 2 B.a_is_below B.d_is_below ["value", "bound"] sp_is_below)
    (G_is_sequence : FnOk P w K mg base CX0 1 B.a_is_sequence B.d_is_sequence ["value"] sp_is_sequence)
    (hr : Room 2 (A.deeper (envOfC "Yard.__init__" (defScope s_Yard_init) s.heap.objs.size B.a_Yard_init cdv))) :
    PSs (cxOf CX0 P w K mg base N_Yard_init "Yard.__init__" (defScope s_Yard_init) B.a_Yard_init cdv A outer s H E).nox (defBody s_Yard_init) (t_Yard_init K sp_is_below sp_is_sequence) := by
  have nd := sc_Yard_init.nd
  exact (pss_cons (ps_if (PW.pt (pw_or (pt_not (pt_val (pe_call G_is_sequence (hr.mono (by decide)) (by rfl) T.g_is_sequence T.F_is_sequence.kp T.b_is_sequence .nil pass0 (pa_cons (pv 1) pa_nil)))) (pw_or1 (pt_not (pt_chain op_le op_le (pe_glob (by rfl) T.c_FEWEST ⟨_, rfl⟩) (pe_callB call_len_seq (by rfl) T.z_len bt_len (pa_cons (pv 1) pa_nil)) (pe_glob (by rfl) T.c_MOST ⟨_, rfl⟩)))))) (pss_one ps_never) pss_nil)
      (pss_cons (ps_for PassesOwn.never rfl (pi_enumT (by rfl) T.z_enumerate (pa_cons (pv 1) pa_nil)) (pg_tup rfl (pgs_cons (pg_name (i := 2) nd rfl (by first | exact Or.inl rfl | exact Or.inr rfl)) (pgs_cons (pg_name (i := 3) nd rfl (by first | exact Or.inl rfl | exact Or.inr rfl)) pgs_nil))) (pss_one (ps_if (PW.pt (pw_or (pt_not (pt_val (pe_call G_is_below (hr.mono (by decide)) (by rfl) T.g_is_below T.F_is_below.kp T.b_is_below .nil pass0 (pa_cons (pv 3) (pa_cons (pe_op op_add (pe_glob (by rfl) T.c_MOST ⟨_, rfl⟩) pe_int) pa_nil))))) (pw_or1 (pt_cmpR op_eq (pv 3) pe_int (nomark _))))) (pss_one ps_never) pss_nil)))
      (pss_one (ps_fld (pv 0) (pe_callTy call_tuple_of (by rfl) T.z_tuple bt_tuple (pa_cons (pv 1) pa_nil)) rfl))))
def t_places (K : PySem.W.Frag) : TS :=
  (tRet (tCB (rSumT K) (tCons (tFld K (tVar 0) "heights") tNil)))
theorem der_places {P : Program} {w : World} {K : PySem.W.Frag} {mg : Str → Option Value} {base : Heap} {B : Adr} {cdv : Value} {A : Around} {outer : List Env} {s : Shared} {H : Hp} {E : XK} (T : Txt P K mg B)
    (hr : Room 0 (A.deeper (envOfC "places" (defScope s_places) s.heap.objs.size B.a_places cdv))) :
    PSs (cxOf CX0 P w K mg base N_places "places" (defScope s_places) B.a_places cdv A outer s H E).nox (defBody s_places) (t_places K) := by
  have nd := sc_places.nd
  exact (pss_one (ps_ret (pe_callB (cr_sumT rfl) (by rfl) T.z_sum bt_sum (pa_cons (pe_fld (pv 0) rfl) pa_nil))))
def t_deep_row (K : PySem.W.Frag) (sp_places : Sp) (sp_need_number : Sp) : TS :=
  (tSeq (tDrop (tCall sp_need_number [] E0 (tCons (tVar 1) (tCons (tOp rAddI (tCall sp_places [] E0 (tCons (tVar 0) tNil)) (tC (.int 1))) (tCons (tC (.str "boxes")) tNil)))))
    (tSeq (tAsg (tOp rSubI (tCall sp_places [] E0 (tCons (tVar 0) tNil)) (tVar 1)) (gName 2))
    (tRet (tCB (rTupleOf K) (tCons (tLc (iTup K (tFld K (tVar 0) "heights")) (gName 3) tYes (tCB rMax2 (tCons (tC (.int 0)) (tCons (tOp rSubI (tVar 3) (tVar 2)) tNil))) [3]) tNil)))))
theorem der_deep_row {P : Program} {w : World} {K : PySem.W.Frag} {mg : Str → Option Value} {base : Heap} {B : Adr} {cdv : Value} {A : Around} {outer : List Env} {s : Shared} {H : Hp} {E : XK} {sp_places : Sp} {sp_need_number : Sp} (T : Txt P K mg B)
    (G_places : FnOk P w K mg base CX0 1 B.a_places B.d_places ["yard"] sp_places)
    (G_need_number : FnOk P w K mg base CX0 3 B.a_need_number B.d_need_number ["value", "bound", "word"] sp_need_number)
    (hr : Room 3 (A.deeper (envOfC "deep_row" (defScope s_deep_row) s.heap.objs.size B.a_deep_row cdv))) :
    PSs (cxOf CX0 P w K mg base N_deep_row "deep_row" (defScope s_deep_row) B.a_deep_row cdv A outer s H E).nox (defBody s_deep_row) (t_deep_row K sp_places sp_need_number) := by
  have nd := sc_deep_row.nd
  exact (pss_cons (ps_expr (pe_call G_need_number (hr.mono (by decide)) (by rfl) T.g_need_number T.F_need_number.kp T.b_need_number .nil pass0 (pa_cons (pv 1) (pa_cons (pe_op op_add (pe_call G_places (hr.mono (by decide)) (by rfl) T.g_places T.F_places.kp T.b_places .nil pass0 (pa_cons (pv 0) pa_nil)) pe_int) (pa_cons pe_str pa_nil)))))
      (pss_cons (ps_set (i := 2) nd rfl (Or.inr rfl) (pe_op op_sub (pe_call G_places (hr.mono (by decide)) (by rfl) T.g_places T.F_places.kp T.b_places .nil pass0 (pa_cons (pv 0) pa_nil)) (pv 1)))
      (pss_one (ps_ret (pe_callTy call_tuple_of (by rfl) T.z_tuple bt_tuple (pa_cons (pe_lc (own := [("height", 3)]) (g := (gName 3)) (tt := tYes) rfl nd (pi_tup (pe_fld (pv 0) rfl)) (blkOk_by (N := N_deep_row) (sc := defScope s_deep_row) (by decide +kernel)) (fun _ _ _ _ _ => (pg_name (i := 3) nd rfl (by first | exact Or.inl rfl | exact Or.inr rfl))) (fun _ _ _ _ _ => pts_nil) (fun _ _ _ _ _ => (pe_callB (call_max2 rfl) (by rfl) T.z_max bt_max (pa_cons pe_int (pa_cons (pe_op op_sub (pv 3) (pv 2)) pa_nil))))) pa_nil))))))
def t_need_standing (K : PySem.W.Frag) (B : Adr) (E : XK) (sp_is_name : Sp) : TS :=
  (tSeq (tIfS (tOr (tNot (tB (tCB (rIsi K) (tCons (tVar 1) (tCons (tC (.ty "tuple")) tNil))))) (tTest (tOp rNe (tCB (rLenSeq K) (tCons (tVar 1) tNil)) (tCB (rLenSeq K) (tCons (tFld K (tVar 0) "heights") tNil))))) (tRaiseE "at" B.C_InvalidStanding (fun cls d _ H => E cls d H) (tCons (tUn rNeg (tC (.int 1))) tNil)) tNext)
    (tSeq (tAsg tDNewK (gName 2))
    (tFor (iEnumT K (tCons (tVar 1) tNil)) (gTup K 2 (gCons (gName 3) (gCons (gName 4) gNil))) (tSeq (tIfS (tOr (tNot (tB (tCB (rIsi K) (tCons (tVar 4) (tCons (tC (.ty "tuple")) tNil))))) (tTest (tOp rGtI (tCB (rLenSeq K) (tCons (tVar 4) tNil)) (tOp (rIxT K) (tFld K (tVar 0) "heights") (tVar 3))))) (tRaiseE "at" B.C_InvalidStanding (fun cls d _ H => E cls d H) (tCons (tVar 3) tNil)) tNext)
    (tFor (iTup K (tVar 4)) (gName 5) (tSeq (tIfS (tOr (tNot (tB (tCall sp_is_name [] E0 (tCons (tVar 5) tNil)))) (tB (tDIn (tVar 5) (tVar 2)))) (tRaiseE "at" B.C_InvalidStanding (fun cls d _ H => E cls d H) (tCons (tVar 3) tNil)) tNext)
    (sDPut (tVar 2) (tVar 5) (tC (.bl true)))))))))
theorem der_need_standing {P : Program} {w : World} {K : PySem.W.Frag} {mg : Str → Option Value} {base : Heap} {B : Adr} {cdv : Value} {A : Around} {outer : List Env} {s : Shared} {H : Hp} {E : XK} {sp_is_name : Sp} (T : Txt P K mg B)
    (G_is_name : FnOk P w K mg base CX0 2 B.a_is_name B.d_is_name ["value"] sp_is_name)
    (hr : Room 2 (A.deeper (envOfC "need_standing" (defScope s_need_standing) s.heap.objs.size B.a_need_standing cdv))) :
    PSs (cxOf (L2.CX P w) P w K mg base N_need_standing "need_standing" (defScope s_need_standing) B.a_need_standing cdv A outer s H E) (defBody s_need_standing) (t_need_standing K B E sp_is_name) := by
  have nd := sc_need_standing.nd
  exact (pss_cons (ps_if (PW.pt (pw_or (pt_not (pt_val (pe_callB call_isi (by rfl) T.z_isinstance bt_isinstance (pa_cons (pv 1) (pa_cons (pe_bltn (by rfl) T.z_tuple bt_tuple rfl) pa_nil))))) (pw_or1 (pt_cmpR op_ne (pe_callB call_len_seq (by rfl) T.z_len bt_len (pa_cons (pv 1) pa_nil)) (pe_callB call_len_seq (by rfl) T.z_len bt_len (pa_cons (pe_fld (pv 0) rfl) pa_nil)) (nomark _))))) (pss_one (ps_raiseE rfl (takes_of rfl rfl rfl rfl) T.er_InvalidStanding Er.fld_at hr (by rfl) (pa_cons (pe_un un_neg pe_int) pa_nil))) pss_nil)
      (pss_cons (ps_set (i := 2) nd rfl (Or.inl rfl) pe_dnewK)
      (pss_one (ps_for (passes_of rfl) rfl (pi_enumT (by rfl) T.z_enumerate (pa_cons (pv 1) pa_nil)) (pg_tup rfl (pgs_cons (pg_name (i := 3) nd rfl (by first | exact Or.inl rfl | exact Or.inr rfl)) (pgs_cons (pg_name (i := 4) nd rfl (by first | exact Or.inl rfl | exact Or.inr rfl)) pgs_nil))) (pss_cons (ps_if (PW.pt (pw_or (pt_not (pt_val (pe_callB call_isi (by rfl) T.z_isinstance bt_isinstance (pa_cons (pv 4) (pa_cons (pe_bltn (by rfl) T.z_tuple bt_tuple rfl) pa_nil))))) (pw_or1 (pt_cmpR op_gt (pe_callB call_len_seq (by rfl) T.z_len bt_len (pa_cons (pv 4) pa_nil)) (pe_ix ix_tup (pe_fld (pv 0) rfl) (pv 3) (fun _ _ => rfl)) (nomark _))))) (pss_one (ps_raiseE rfl (takes_of rfl rfl rfl rfl) T.er_InvalidStanding Er.fld_at hr (by rfl) (pa_cons (pv 3) pa_nil))) pss_nil)
      (pss_one (ps_for (passes_of rfl) rfl (pi_tup (pv 4)) (pg_name (i := 5) nd rfl (by first | exact Or.inl rfl | exact Or.inr rfl)) (pss_cons (ps_if (PW.pt (pw_or (pt_not (pt_val (pe_call G_is_name (hr.mono (by decide)) (by rfl) T.g_is_name T.F_is_name.kp T.b_is_name .nil pass0 (pa_cons (pv 5) pa_nil)))) (pw_or1 (pt_cmp (pc_din (hu_of hr) (pv 5) (pv 2)) rfl)))) (pss_one (ps_raiseE rfl (takes_of rfl rfl rfl rfl) T.er_InvalidStanding Er.fld_at hr (by rfl) (pa_cons (pv 3) pa_nil))) pss_nil)
      (pss_one (ps_dput (hu_of hr) (pv 2) (pv 5) pe_bl rfl))))))))))
def t_boxes_of (K : PySem.W.Frag) (sp_lot_of : Sp) : TS :=
  (tRet (tCall sp_lot_of [] E0 (tCons (tLc2 (iTup K (tVar 0)) (gName 1) tYes (iTup K (tVar 1)) (gName 2) tYes (tVar 2) [1, 2] [2]) tNil)))
theorem der_boxes_of {P : Program} {w : World} {K : PySem.W.Frag} {mg : Str → Option Value} {base : Heap} {B : Adr} {cdv : Value} {A : Around} {outer : List Env} {s : Shared} {H : Hp} {E : XK} {sp_lot_of : Sp} (T : Txt P K mg B)
    (G_lot_of : FnOk P w K mg base CX0 1 B.a_lot_of B.d_lot_of ["things"] sp_lot_of)
    (hr : Room 1 (A.deeper (envOfC "boxes_of" (defScope s_boxes_of) s.heap.objs.size B.a_boxes_of cdv))) :
    PSs (cxOf CX0 P w K mg base N_boxes_of "boxes_of" (defScope s_boxes_of) B.a_boxes_of cdv A outer s H E).nox (defBody s_boxes_of) (t_boxes_of K sp_lot_of) := by
  have nd := sc_boxes_of.nd
  exact (pss_one (ps_ret (pe_call G_lot_of (hr.mono (by decide)) (by rfl) T.g_lot_of T.F_lot_of.kp T.b_lot_of .nil pass0 (pa_cons (pe_lc2 (own := [("row", 1), ("box", 2)]) (vs1 := [2]) (g := (gName 1)) (tt := tYes) (g1 := (gName 2)) (tt1 := tYes) rfl nd (pi_tup (pv 0)) (blkOk_by (N := N_boxes_of) (sc := defScope s_boxes_of) (by decide +kernel)) (by decide) (fun _ _ _ _ _ => (pg_name (i := 1) nd rfl (by first | exact Or.inl rfl | exact Or.inr rfl))) (fun _ _ _ _ _ => pts_nil) (fun _ _ _ _ _ => (pi_tup (pv 1))) (fun _ _ _ _ _ => (pg_name (i := 2) nd rfl (by first | exact Or.inl rfl | exact Or.inr rfl))) (fun _ _ _ _ _ => pts_nil) (fun _ _ _ _ _ => (pv 2))) pa_nil))))
def t_count_boxes (K : PySem.W.Frag) : TS :=
  (tRet (tCB (rSum K) (tCons (tLc (iTup K (tVar 0)) (gName 1) tYes (tCB (rLenSeq K) (tCons (tVar 1) tNil)) [1]) tNil)))
theorem der_count_boxes {P : Program} {w : World} {K : PySem.W.Frag} {mg : Str → Option Value} {base : Heap} {B : Adr} {cdv : Value} {A : Around} {outer : List Env} {s : Shared} {H : Hp} {E : XK} (T : Txt P K mg B)
    (hr : Room 0 (A.deeper (envOfC "count_boxes" (defScope s_count_boxes) s.heap.objs.size B.a_count_boxes cdv))) :
    PSs (cxOf CX0 P w K mg base N_count_boxes "count_boxes" (defScope s_count_boxes) B.a_count_boxes cdv A outer s H E).nox (defBody s_count_boxes) (t_count_boxes K) := by
  have nd := sc_count_boxes.nd
  exact (pss_one (ps_ret (pe_callB (cr_sum rfl) (by rfl) T.z_sum bt_sum (pa_cons (pe_lc (own := [("stack", 1)]) (g := (gName 1)) (tt := tYes) rfl nd (pi_tup (pv 0)) (blkOk_by (N := N_count_boxes) (sc := defScope s_count_boxes) (by decide +kernel)) (fun _ _ _ _ _ => (pg_name (i := 1) nd rfl (by first | exact Or.inl rfl | exact Or.inr rfl))) (fun _ _ _ _ _ => pts_nil) (fun _ _ _ _ _ => (pe_callB call_len_seq (by rfl) T.z_len bt_len (pa_cons (pv 1) pa_nil)))) pa_nil))))
def t_deep_part (K : PySem.W.Frag) (E : XK) (sp_deep_row : Sp) (sp_count_boxes : Sp) (sp_need_standing : Sp) : TS :=
  (tSeq (tDrop (tCall sp_need_standing [] E (tCons (tVar 0) (tCons (tVar 1) tNil))))
    (tSeq (tAsg (tCall sp_deep_row [] E0 (tCons (tVar 0) (tCons (tCall sp_count_boxes [] E0 (tCons (tVar 1) tNil)) tNil))) (gName 2))
    (tRet (tCB (rTupleOf K) (tCons (tLc (RZ.iZipA K (tCons (tVar 1) (tCons (tVar 2) tNil))) (gTup K 2 (gCons (gName 3) (gCons (gName 4) gNil))) tYes (tSl (rSlA K) (tVar 3) tNoPart (tPart (tVar 4))) [3, 4]) tNil)))))
theorem der_deep_part {P : Program} {w : World} {K : PySem.W.Frag} {mg : Str → Option Value} {base : Heap} {B : Adr} {cdv : Value} {A : Around} {outer : List Env} {s : Shared} {H : Hp} {E : XK} {sp_deep_row : Sp} {sp_count_boxes : Sp} {sp_need_standing : Sp} (T : Txt P K mg B)
    (G_deep_row : FnOk P w K mg base CX0 4 B.a_deep_row B.d_deep_row ["yard", "boxes"] sp_deep_row)
    (G_count_boxes : FnOk P w K mg base CX0 1 B.a_count_boxes B.d_count_boxes ["standing"] sp_count_boxes)
    (G_need_standing : FnOk P w K mg base (L2.CX P w) 3 B.a_need_standing B.d_need_standing ["yard", "value"] sp_need_standing)
    (hr : Room 4 (A.deeper (envOfC "deep_part" (defScope s_deep_part) s.heap.objs.size B.a_deep_part cdv))) :
    PSs (cxOf (L2.CX P w) P w K mg base N_deep_part "deep_part" (defScope s_deep_part) B.a_deep_part cdv A outer s H E) (defBody s_deep_part) (t_deep_part K E sp_deep_row sp_count_boxes sp_need_standing) := by
  have nd := sc_deep_part.nd
  exact (pss_cons (ps_expr (pe_call G_need_standing (hr.mono (by decide)) (by rfl) T.g_need_standing T.F_need_standing.kp T.b_need_standing .nil (passes_call (takes_of rfl rfl rfl rfl) (fun _ _ _ _ z => z)) (pa_cons (pv 0) (pa_cons (pv 1) pa_nil))))
      (pss_cons (ps_set (i := 2) nd rfl (Or.inl rfl) (pe_call G_deep_row (hr.mono (by decide)) (by rfl) T.g_deep_row T.F_deep_row.kp T.b_deep_row .nil pass0 (pa_cons (pv 0) (pa_cons (pe_call G_count_boxes (hr.mono (by decide)) (by rfl) T.g_count_boxes T.F_count_boxes.kp T.b_count_boxes .nil pass0 (pa_cons (pv 1) pa_nil)) pa_nil))))
      (pss_one (ps_ret (pe_callTy call_tuple_of (by rfl) T.z_tuple bt_tuple (pa_cons (pe_lc (own := [("stack", 3), ("deep", 4)]) (g := (gTup K 2 (gCons (gName 3) (gCons (gName 4) gNil)))) (tt := tYes) rfl nd (RZ.pi_zipA (by rfl) T.z_zip (pa_cons (pv 1) (pa_cons (pv 2) pa_nil))) (blkOk_by (N := N_deep_part) (sc := defScope s_deep_part) (by decide +kernel)) (fun _ _ _ _ _ => (pg_tup rfl (pgs_cons (pg_name (i := 3) nd rfl (by first | exact Or.inl rfl | exact Or.inr rfl)) (pgs_cons (pg_name (i := 4) nd rfl (by first | exact Or.inl rfl | exact Or.inr rfl)) pgs_nil)))) (fun _ _ _ _ _ => pts_nil) (fun _ _ _ _ _ => (pe_slice sl_tupA (pv 3) po_none (po_some (pv 4))))) pa_nil))))))
def t_same_class (K : PySem.W.Frag) (E : XK) (sp_deep_part : Sp) (sp_boxes_of : Sp) : TS :=
  (tSeq (tAsg (tCall sp_deep_part [] E (tCons (tVar 0) (tCons (tVar 1) tNil))) (gName 3))
    (tRet (tAndV (tOp (rEqD K) (tVar 3) (tCall sp_deep_part [] E (tCons (tVar 0) (tCons (tVar 2) tNil)))) (tOp (rEqD K) (tCall sp_boxes_of [] E0 (tCons (tVar 1) tNil)) (tCall sp_boxes_of [] E0 (tCons (tVar 2) tNil))))))
theorem der_same_class {P : Program} {w : World} {K : PySem.W.Frag} {mg : Str → Option Value} {base : Heap} {B : Adr} {cdv : Value} {A : Around} {outer : List Env} {s : Shared} {H : Hp} {E : XK} {sp_deep_part : Sp} {sp_boxes_of : Sp} (T : Txt P K mg B)
    (G_deep_part : FnOk P w K mg base (L2.CX P w) 5 B.a_deep_part B.d_deep_part ["yard", "standing"] sp_deep_part)
    (G_boxes_of : FnOk P w K mg base CX0 2 B.a_boxes_of B.d_boxes_of ["standing"] sp_boxes_of)
    (hr : Room 5 (A.deeper (envOfC "same_class" (defScope s_same_class) s.heap.objs.size B.a_same_class cdv))) :
    PSs (cxOf (L2.CX P w) P w K mg base N_same_class "same_class" (defScope s_same_class) B.a_same_class cdv A outer s H E) (defBody s_same_class) (t_same_class K E sp_deep_part sp_boxes_of) := by
  have nd := sc_same_class.nd
  exact (pss_cons (ps_set (i := 3) nd rfl (Or.inl rfl) (pe_call G_deep_part (hr.mono (by decide)) (by rfl) T.g_deep_part T.F_deep_part.kp T.b_deep_part .nil (passes_call (takes_of rfl rfl rfl rfl) (fun _ _ _ _ z => z)) (pa_cons (pv 0) (pa_cons (pv 1) pa_nil))))
      (pss_one (ps_ret (pe_and (pe_cmpR (op_eqD hr.units) (pv 3) (pe_call G_deep_part (hr.mono (by decide)) (by rfl) T.g_deep_part T.F_deep_part.kp T.b_deep_part .nil (passes_call (takes_of rfl rfl rfl rfl) (fun _ _ _ _ z => z)) (pa_cons (pv 0) (pa_cons (pv 2) pa_nil))) (nomark _)) (pe_one (pe_cmpR (op_eqD hr.units) (pe_call G_boxes_of (hr.mono (by decide)) (by rfl) T.g_boxes_of T.F_boxes_of.kp T.b_boxes_of .nil pass0 (pa_cons (pv 1) pa_nil)) (pe_call G_boxes_of (hr.mono (by decide)) (by rfl) T.g_boxes_of T.F_boxes_of.kp T.b_boxes_of .nil pass0 (pa_cons (pv 2) pa_nil)) (nomark _)))))))
def t_parting_place (K : PySem.W.Frag) (B : Adr) (E : XK) (sp_boxes_of : Sp) (sp_deep_part : Sp) : TS :=
  (tSeq (tAsg (tTup (tCons (tCall sp_deep_part [] E (tCons (tVar 0) (tCons (tVar 1) tNil))) (tCons (tCall sp_deep_part [] E (tCons (tVar 0) (tCons (tVar 2) tNil))) tNil))) (gName 3))
    (tSeq (tIfS (tTest (tOp (rNeD K) (tCall sp_boxes_of [] E0 (tCons (tVar 1) tNil)) (tCall sp_boxes_of [] E0 (tCons (tVar 2) tNil)))) (tRaiseE "word" B.C_Refused (fun cls d _ H => E cls d H) (tCons (tC (.str "boxes")) tNil)) tNext)
    (tSeq (tFor (iEnumZipStar K (tVar 3)) (gTup K 2 (gCons (gName 4) (gCons (gTup K 2 (gCons (gName 5) (gCons (gName 6) gNil))) gNil))) (tFor (iEnumZip K (tCons (tVar 5) (tCons (tVar 6) tNil))) (gTup K 2 (gCons (gName 7) (gCons (gTup K 2 (gCons (gName 8) (gCons (gName 9) gNil))) gNil))) (tIfS (tTest (tOp rNe (tVar 8) (tVar 9))) (tRet (tTup (tCons (tVar 4) (tCons (tVar 7) tNil)))) tNext)))
    (tRet (tC .non)))))
theorem der_parting_place {P : Program} {w : World} {K : PySem.W.Frag} {mg : Str → Option Value} {base : Heap} {B : Adr} {cdv : Value} {A : Around} {outer : List Env} {s : Shared} {H : Hp} {E : XK} {sp_boxes_of : Sp} {sp_deep_part : Sp} (T : Txt P K mg B)
    (G_boxes_of : FnOk P w K mg base CX0 2 B.a_boxes_of B.d_boxes_of ["standing"] sp_boxes_of)
    (G_deep_part : FnOk P w K mg base (L2.CX P w) 5 B.a_deep_part B.d_deep_part ["yard", "standing"] sp_deep_part)
    (hr : Room 5 (A.deeper (envOfC "parting_place" (defScope s_parting_place) s.heap.objs.size B.a_parting_place cdv))) :
    PSs (cxOf (L2.CX P w) P w K mg base N_parting_place "parting_place" (defScope s_parting_place) B.a_parting_place cdv A outer s H E) (defBody s_parting_place) (t_parting_place K B E sp_boxes_of sp_deep_part) := by
  have nd := sc_parting_place.nd
  exact (pss_cons (ps_set (i := 3) nd rfl (Or.inl rfl) (pe_tup (pa_cons (pe_call G_deep_part (hr.mono (by decide)) (by rfl) T.g_deep_part T.F_deep_part.kp T.b_deep_part .nil (passes_call (takes_of rfl rfl rfl rfl) (fun _ _ _ _ z => z)) (pa_cons (pv 0) (pa_cons (pv 1) pa_nil))) (pa_cons (pe_call G_deep_part (hr.mono (by decide)) (by rfl) T.g_deep_part T.F_deep_part.kp T.b_deep_part .nil (passes_call (takes_of rfl rfl rfl rfl) (fun _ _ _ _ z => z)) (pa_cons (pv 0) (pa_cons (pv 2) pa_nil))) pa_nil))))
      (pss_cons (ps_if (pt_cmpR (op_neD hr.units) (pe_call G_boxes_of (hr.mono (by decide)) (by rfl) T.g_boxes_of T.F_boxes_of.kp T.b_boxes_of .nil pass0 (pa_cons (pv 1) pa_nil)) (pe_call G_boxes_of (hr.mono (by decide)) (by rfl) T.g_boxes_of T.F_boxes_of.kp T.b_boxes_of .nil pass0 (pa_cons (pv 2) pa_nil)) (nomark _)) (pss_one (ps_raiseE rfl (takes_of rfl rfl rfl rfl) T.er_Refused Er.fld_word hr (by rfl) (pa_cons pe_str pa_nil))) pss_nil)
      (pss_cons (ps_for (passes_of rfl) rfl (pi_enumZipStar (by rfl) T.z_enumerate (by rfl) T.z_zip (pv 3)) (pg_tup rfl (pgs_cons (pg_name (i := 4) nd rfl (by first | exact Or.inl rfl | exact Or.inr rfl)) (pgs_cons (pg_tup rfl (pgs_cons (pg_name (i := 5) nd rfl (by first | exact Or.inl rfl | exact Or.inr rfl)) (pgs_cons (pg_name (i := 6) nd rfl (by first | exact Or.inl rfl | exact Or.inr rfl)) pgs_nil))) pgs_nil))) (pss_one (ps_for (passes_of rfl) rfl (pi_enumZip (by rfl) T.z_enumerate (by rfl) T.z_zip (pa_cons (pv 5) (pa_cons (pv 6) pa_nil))) (pg_tup rfl (pgs_cons (pg_name (i := 7) nd rfl (by first | exact Or.inl rfl | exact Or.inr rfl)) (pgs_cons (pg_tup rfl (pgs_cons (pg_name (i := 8) nd rfl (by first | exact Or.inl rfl | exact Or.inr rfl)) (pgs_cons (pg_name (i := 9) nd rfl (by first | exact Or.inl rfl | exact Or.inr rfl)) pgs_nil))) pgs_nil))) (pss_one (ps_if (pt_cmpR op_ne (pv 8) (pv 9) (nomark _)) (pss_one (ps_ret (pe_tup (pa_cons (pv 4) (pa_cons (pv 7) pa_nil))))) pss_nil)))))
      (pss_one (ps_ret pe_non)))))
def t_l_deal (K : PySem.W.Frag) : TS :=
  (tSeq (tAsg (tLc (iList K (tSl (rSlL K) (tVar 0) tNoPart (tPart (tC (.int 63))))) (gName 4) tYes (tCB rAbs (tCons (tCB rInt1 (tCons (tVar 4) tNil)) tNil)) [4]) (gName 2))
    (tSeq (tAsg (tOp rAddI (tOp rMulI (tC (.int 40093)) (tVar 1)) (tC (.int 877))) (gName 3))
    (tSeq (tFor (iList K (tVar 2)) (gName 4) (tAsg (tOp rModI (tCB rInt1 (tCons (tOp rAddI (tOp rAddI (tOp rMulI (tVar 3) (tC (.int 48271))) (tOp rModI (tVar 4) (tC (.int 2147483579)))) (tC (.int 59))) tNil)) (tC (.int 2147483647))) (gName 3)))
    (tRet (tLst (tCons (tRevL K (tLc (iList K (tVar 2)) (gName 4) (tTest (tOp rGeI (tVar 4) (tOp rPowI (tC (.int 10)) (tC (.int 18))))) (tVar 4) [4])) (tCons (tVar 3) tNil)))))))
theorem der_l_deal {P : Program} {w : World} {K : PySem.W.Frag} {mg : Str → Option Value} {base : Heap} {B : Adr} {cdv : Value} {A : Around} {outer : List Env} {s : Shared} {H : Hp} {E : XK} (T : Txt P K mg B)
    (hr : Room 0 (A.deeper (envOfC "_law_deal" (defScope s_l_deal) s.heap.objs.size B.a_l_deal cdv))) :
    PSs (cxOf CX0 P w K mg base N_l_deal "_law_deal" (defScope s_l_deal) B.a_l_deal cdv A outer s H E).nox (defBody s_l_deal) (t_l_deal K) := by
  have nd := sc_l_deal.nd
  exact (pss_cons (ps_setLc (i := 2) (own := [("_law_cell", 4)]) (g := (gName 4)) (tt := tYes) rfl nd rfl rfl (sw_true rfl rfl rfl (by decide +kernel)) (pi_list (pe_slice sl_list (pv 0) po_none (po_some pe_int))) (blkOk_by (N := N_l_deal) (sc := defScope s_l_deal) (by decide +kernel)) (fun _ _ _ _ _ => (pg_name (i := 4) nd rfl (by first | exact Or.inl rfl | exact Or.inr rfl))) (fun _ _ _ _ _ => pts_nil) (fun _ _ _ _ _ => (pe_callB call_abs (by rfl) T.z_abs bt_abs (pa_cons (pe_callTy call_int1 (by rfl) T.z_int bt_int (pa_cons (pv 4) pa_nil)) pa_nil))))
      (pss_cons (ps_set (i := 3) nd rfl (Or.inl rfl) (pe_op op_add (pe_op op_mul pe_int (pv 1)) pe_int))
      (pss_cons (ps_for PassesOwn.never rfl (pi_list (pv 2)) (pg_name (i := 4) nd rfl (by first | exact Or.inl rfl | exact Or.inr rfl)) (pss_one (ps_set (i := 3) nd rfl (Or.inl rfl) (pe_op op_mod (pe_callTy call_int1 (by rfl) T.z_int bt_int (pa_cons (pe_op op_add (pe_op op_add (pe_op op_mul (pv 3) pe_int) (pe_op op_mod (pv 4) pe_int)) pe_int) pa_nil)) pe_int))))
      (pss_one (ps_ret (pe_lst (pa_cons (pe_revL (pe_lc (own := [("_law_cell", 4)]) (g := (gName 4)) (tt := (tTest (tOp rGeI (tVar 4) (tOp rPowI (tC (.int 10)) (tC (.int 18)))))) rfl nd (pi_list (pv 2)) (blkOk_by (N := N_l_deal) (sc := defScope s_l_deal) (by decide +kernel)) (fun _ _ _ _ _ => (pg_name (i := 4) nd rfl (by first | exact Or.inl rfl | exact Or.inr rfl))) (fun _ _ _ _ _ => (pts_one (pt_cmpR op_ge (pv 4) (pe_op op_pow pe_int pe_int) (nomark _)))) (fun _ _ _ _ _ => (pv 4)))) (pa_cons (pv 3) pa_nil))))))))
def t_l_any (K : PySem.W.Frag) : TS :=
  (tSeq (tWhile (tAnd (tTest (tOp (rNeD K) (tOp (rIxL K) (tVar 0) (tC (.int 0))) (tLst tNil))) (tTest (tOp rEq (tOp (rIxL K) (tOp (rIxL K) (tVar 0) (tC (.int 0))) (tUn rNeg (tC (.int 1)))) (tC (.int 0))))) (tDrop (tBM0 K "list" rPop (tOp (rIxL K) (tVar 0) (tC (.int 0))))))
    (tSeq (tIfS (tTest (tOp (rNeD K) (tOp (rIxL K) (tVar 0) (tC (.int 0))) (tLst tNil))) (tSeq (tAsg (tCB rInt1 (tCons (tBM0 K "list" rPop (tOp (rIxL K) (tVar 0) (tC (.int 0)))) tNil)) (gName 2))
    (tSeq (tDrop (tBM K "list" rAppend (tOp (rIxL K) (tVar 0) (tC (.int 0))) (tCons (tOp rDivI (tVar 2) (tVar 1)) tNil)))
    (tRet (tOp rModI (tVar 2) (tVar 1))))) tNext)
    (tSeq (tAsg (tOp rModI (tCB rInt1 (tCons (tOp rAddI (tOp rMulI (tOp (rIxL K) (tVar 0) (tC (.int 1))) (tC (.int 48271))) (tC (.int 89))) tNil)) (tC (.int 2147483647))) (gSub (tVar 0) (tC (.int 1)) rSetL))
    (tRet (tOp rModI (tCB rInt1 (tCons (tOp rDivI (tOp (rIxL K) (tVar 0) (tC (.int 1))) (tC (.int 64))) tNil)) (tVar 1))))))
theorem der_l_any {P : Program} {w : World} {K : PySem.W.Frag} {mg : Str → Option Value} {base : Heap} {B : Adr} {cdv : Value} {A : Around} {outer : List Env} {s : Shared} {H : Hp} {E : XK} (T : Txt P K mg B)
    (hr : Room 0 (A.deeper (envOfC "_law_any" (defScope s_l_any) s.heap.objs.size B.a_l_any cdv))) :
    PSs (cxOf CX0 P w K mg base N_l_any "_law_any" (defScope s_l_any) B.a_l_any cdv A outer s H E).nox (defBody s_l_any) (t_l_any K) := by
  have nd := sc_l_any.nd
  exact (pss_cons (ps_while PassesOwn.never (PW.pt (pw_and (pt_cmpR (op_neD hr.units) (pe_ix ix_list (pv 0) pe_int (fun _ _ => rfl)) (pe_lst pa_nil) (nomark _)) (pw_and1 (pt_cmpR op_eq (pe_ix ix_list (pe_ix ix_list (pv 0) pe_int (fun _ _ => rfl)) (pe_un un_neg pe_int) (fun _ _ => rfl)) pe_int (nomark _))))) (pss_one (ps_expr (pe_bm0 PySem.F.plainAttrs_list PySem.F.slot_list_pop PySem.F.type_list_pop mt_pop (pe_ix ix_list (pv 0) pe_int (fun _ _ => rfl))))))
      (pss_cons (ps_if (pt_cmpR (op_neD hr.units) (pe_ix ix_list (pv 0) pe_int (fun _ _ => rfl)) (pe_lst pa_nil) (nomark _)) (pss_cons (ps_set (i := 2) nd rfl (Or.inl rfl) (pe_callTy call_int1 (by rfl) T.z_int bt_int (pa_cons (pe_bm0 PySem.F.plainAttrs_list PySem.F.slot_list_pop PySem.F.type_list_pop mt_pop (pe_ix ix_list (pv 0) pe_int (fun _ _ => rfl))) pa_nil)))
      (pss_cons (ps_expr (pe_bm PySem.F.plainAttrs_list PySem.F.slot_list_append PySem.F.type_list_append mt_append (pe_ix ix_list (pv 0) pe_int (fun _ _ => rfl)) (pa_cons (pe_op op_fdiv (pv 2) (pv 1)) pa_nil)))
      (pss_one (ps_ret (pe_op op_mod (pv 2) (pv 1)))))) pss_nil)
      (pss_cons (ps_asg (pe_op op_mod (pe_callTy call_int1 (by rfl) T.z_int bt_int (pa_cons (pe_op op_add (pe_op op_mul (pe_ix ix_list (pv 0) pe_int (fun _ _ => rfl)) pe_int) pe_int) pa_nil)) pe_int) (pg_sub (pv 0) pe_int set_list))
      (pss_one (ps_ret (pe_op op_mod (pe_callTy call_int1 (by rfl) T.z_int bt_int (pa_cons (pe_op op_fdiv (pe_ix ix_list (pv 0) pe_int (fun _ _ => rfl)) pe_int) pa_nil)) (pv 1)))))))
def t_l_of (K : PySem.W.Frag) (sp_l_any : Sp) : TS :=
  (tRet (tOp (rIx K) (tVar 1) (tCall sp_l_any [] E0 (tCons (tVar 0) (tCons (tCB (rLenAny K) (tCons (tVar 1) tNil)) tNil)))))
theorem der_l_of {P : Program} {w : World} {K : PySem.W.Frag} {mg : Str → Option Value} {base : Heap} {B : Adr} {cdv : Value} {A : Around} {outer : List Env} {s : Shared} {H : Hp} {E : XK} {sp_l_any : Sp} (T : Txt P K mg B)
    (G_l_any : FnOk P w K mg base CX0 1 B.a_l_any B.d_l_any ["_law_deal_here", "_law_bound"] sp_l_any)
    (hr : Room 1 (A.deeper (envOfC "_law_of" (defScope s_l_of) s.heap.objs.size B.a_l_of cdv))) :
    PSs (cxOf CX0 P w K mg base N_l_of "_law_of" (defScope s_l_of) B.a_l_of cdv A outer s H E).nox (defBody s_l_of) (t_l_of K sp_l_any) := by
  have nd := sc_l_of.nd
  exact (pss_one (ps_ret (pe_ix ix_seq (pv 1) (pe_call G_l_any (hr.mono (by decide)) (by rfl) T.g_l_any T.F_l_any.kp T.b_l_any .nil pass0 (pa_cons (pv 0) (pa_cons (pe_callB call_len (by rfl) T.z_len bt_len (pa_cons (pv 1) pa_nil)) pa_nil))) (fun _ _ => rfl))))
def t_l_mixed (K : PySem.W.Frag) (sp_l_any : Sp) : TS :=
  (tSeq (tPar 2 3 (tCons (tCB (rListOf K) (tCons (tVar 1) tNil)) (tCons (tLst tNil) tNil)))
    (tSeq (tFor (iRng1 (tCons (tCB (rLenSeq K) (tCons (tVar 1) tNil)) tNil)) (gName 4) (tDrop (tBM K "list" rAppend (tVar 3) (tCons (tBM K "list" rPopAt (tVar 2) (tCons (tCall sp_l_any [] E0 (tCons (tVar 0) (tCons (tCB (rLenSeq K) (tCons (tVar 2) tNil)) tNil))) tNil)) tNil))))
    (tRet (tVar 3))))
theorem der_l_mixed {P : Program} {w : World} {K : PySem.W.Frag} {mg : Str → Option Value} {base : Heap} {B : Adr} {cdv : Value} {A : Around} {outer : List Env} {s : Shared} {H : Hp} {E : XK} {sp_l_any : Sp} (T : Txt P K mg B)
    (G_l_any : FnOk P w K mg base CX0 1 B.a_l_any B.d_l_any ["_law_deal_here", "_law_bound"] sp_l_any)
    (hr : Room 1 (A.deeper (envOfC "_law_mixed" (defScope s_l_mixed) s.heap.objs.size B.a_l_mixed cdv))) :
    PSs (cxOf CX0 P w K mg base N_l_mixed "_law_mixed" (defScope s_l_mixed) B.a_l_mixed cdv A outer s H E).nox (defBody s_l_mixed) (t_l_mixed K sp_l_any) := by
  have nd := sc_l_mixed.nd
  exact (pss_cons (ps_par (i := 2) (j := 3) rfl nd rfl rfl (by decide) rfl rfl (pa_cons (pe_callTy call_list_of (by rfl) T.z_list bt_list (pa_cons (pv 1) pa_nil)) (pa_cons (pe_lst pa_nil) pa_nil)) (by rfl))
      (pss_cons (ps_for PassesOwn.never rfl (pi_range1 (by rfl) T.z_range (pa_cons (pe_callB call_len_seq (by rfl) T.z_len bt_len (pa_cons (pv 1) pa_nil)) pa_nil)) (pg_name (i := 4) nd rfl (by first | exact Or.inl rfl | exact Or.inr rfl)) (pss_one (ps_expr (pe_bm PySem.F.plainAttrs_list PySem.F.slot_list_append PySem.F.type_list_append mt_append (pv 3) (pa_cons (pe_bm PySem.F.plainAttrs_list PySem.F.slot_list_pop PySem.F.type_list_pop mt_popAt (pv 2) (pa_cons (pe_call G_l_any (hr.mono (by decide)) (by rfl) T.g_l_any T.F_l_any.kp T.b_l_any .nil pass0 (pa_cons (pv 0) (pa_cons (pe_callB call_len_seq (by rfl) T.z_len bt_len (pa_cons (pv 2) pa_nil)) pa_nil))) pa_nil)) pa_nil)))))
      (pss_one (ps_ret (pv 3)))))
def t_l_names (K : PySem.W.Frag) (sp_l_mixed : Sp) (sp_l_of : Sp) (sp_l_any : Sp) : TS :=
  (tSeq (tAsg (tC (.str "abcdefghijklmnopqrstuvwxyz")) (gName 2))
    (tSeq (tAsg (tLc (iRng1 (tCons (tOp rAddI (tC (.int 1)) (tCall sp_l_of [] E0 (tCons (tVar 0) (tCons (tLst (tCons (tC (.int 0)) (tCons (tC (.int 1)) (tCons (tC (.int 2)) (tCons (tIf (tTest (tOp rGtI (tVar 1) (tC (.int 26)))) (tC (.int 6)) (tC (.int 7))) tNil))))) tNil)))) tNil)) (gName 8) tYes (tCall sp_l_of [] E0 (tCons (tVar 0) (tCons (tVar 2) tNil))) [8]) (gName 3))
    (tSeq (tPar3 4 5 6 (tCons (tCall sp_l_any [] E0 (tCons (tVar 0) (tCons (tCB (rLenSeq K) (tCons (tVar 3) tNil)) tNil))) (tCons (tCall sp_l_any [] E0 (tCons (tVar 0) (tCons (tC (.int 26)) tNil))) (tCons (tCall sp_l_any [] E0 (tCons (tVar 0) (tCons (tC (.int 2)) tNil))) tNil))))
    (tSeq (tAsg (tLst tNil) (gName 7))
    (tSeq (tFor (iRng1 (tCons (tVar 1) tNil)) (gName 8) (tSeq (tAsg (tSl (rSlL K) (tVar 3) (tPart (tOp rAddI (tVar 4) (tC (.int 1)))) tNoPart) (gName 9))
    (tSeq (tIfS (tAnd (tTest (tOp rEq (tVar 6) (tC (.int 1)))) (tTest (tOp rLtI (tVar 1) (tC (.int 27))))) (tAsg (tSl (rSlL K) (tVar 3) tNoPart (tPart (tCall sp_l_any [] E0 (tCons (tVar 0) (tCons (tOp rSubI (tC (.int 8)) (tVar 4)) tNil))))) (gName 9)) tNext)
    (tSeq (tAsg (tM1 (rJoin K) (tC (.str "")) (tOp rCat (tOp rCat (tSl (rSlL K) (tVar 3) tNoPart (tPart (tVar 4))) (tLst (tCons (tOp rIxS (tVar 2) (tOp rModI (tCB rInt1 (tCons (tOp rAddI (tVar 5) (tVar 8)) tNil)) (tC (.int 26)))) tNil))) (tVar 9))) (gName 10))
    (tDrop (tBM K "list" rAppend (tVar 7) (tCons (tIf (tTest (tOp rLtI (tVar 8) (tC (.int 26)))) (tVar 10) (tOp rAddS (tVar 10) (tCall sp_l_of [] E0 (tCons (tVar 0) (tCons (tVar 2) tNil))))) tNil)))))))
    (tRet (tCall sp_l_mixed [] E0 (tCons (tVar 0) (tCons (tVar 7) tNil)))))))))
theorem der_l_names {P : Program} {w : World} {K : PySem.W.Frag} {mg : Str → Option Value} {base : Heap} {B : Adr} {cdv : Value} {A : Around} {outer : List Env} {s : Shared} {H : Hp} {E : XK} {sp_l_mixed : Sp} {sp_l_of : Sp} {sp_l_any : Sp} (T : Txt P K mg B)
    (G_l_mixed : FnOk P w K mg base CX0 2 B.a_l_mixed B.d_l_mixed ["_law_deal_here", "_law_some"] sp_l_mixed)
    (G_l_of : FnOk P w K mg base CX0 2 B.a_l_of B.d_l_of ["_law_deal_here", "_law_some"] sp_l_of)
    (G_l_any : FnOk P w K mg base CX0 1 B.a_l_any B.d_l_any ["_law_deal_here", "_law_bound"] sp_l_any)
    (hr : Room 2 (A.deeper (envOfC "_law_names" (defScope s_l_names) s.heap.objs.size B.a_l_names cdv))) :
    PSs (cxOf CX0 P w K mg base N_l_names "_law_names" (defScope s_l_names) B.a_l_names cdv A outer s H E).nox (defBody s_l_names) (t_l_names K sp_l_mixed sp_l_of sp_l_any) := by
  have nd := sc_l_names.nd
  exact (pss_cons (ps_set (i := 2) nd rfl (Or.inr rfl) pe_str)
      (pss_cons (ps_setLc (i := 3) (own := [("_law_turn", 8)]) (g := (gName 8)) (tt := tYes) rfl nd rfl rfl (sw_true rfl rfl rfl (by decide +kernel)) (pi_range1 (by rfl) T.z_range (pa_cons (pe_op op_add pe_int (pe_call G_l_of (hr.mono (by decide)) (by rfl) T.g_l_of T.F_l_of.kp T.b_l_of .nil pass0 (pa_cons (pv 0) (pa_cons (pe_lst (pa_cons pe_int (pa_cons pe_int (pa_cons pe_int (pa_cons (pe_ifExp (pt_cmpR op_gt (pv 1) pe_int (nomark _)) pe_int pe_int) pa_nil))))) pa_nil)))) pa_nil)) (blkOk_by (N := N_l_names) (sc := defScope s_l_names) (by decide +kernel)) (fun _ _ _ _ _ => (pg_name (i := 8) nd rfl (by first | exact Or.inl rfl | exact Or.inr rfl))) (fun _ _ _ _ _ => pts_nil) (fun _ _ _ _ _ => (pe_call G_l_of (hr.mono (by decide)) (by rfl) T.g_l_of T.F_l_of.kp T.b_l_of .nil pass0 (pa_cons (pv 0) (pa_cons (pv 2) pa_nil)))))
      (pss_cons (ps_par3 (i := 4) (j := 5) (l := 6) rfl nd rfl rfl rfl (by decide) (by decide) (by decide) rfl rfl rfl (pa_cons (pe_call G_l_any (hr.mono (by decide)) (by rfl) T.g_l_any T.F_l_any.kp T.b_l_any .nil pass0 (pa_cons (pv 0) (pa_cons (pe_callB call_len_seq (by rfl) T.z_len bt_len (pa_cons (pv 3) pa_nil)) pa_nil))) (pa_cons (pe_call G_l_any (hr.mono (by decide)) (by rfl) T.g_l_any T.F_l_any.kp T.b_l_any .nil pass0 (pa_cons (pv 0) (pa_cons pe_int pa_nil))) (pa_cons (pe_call G_l_any (hr.mono (by decide)) (by rfl) T.g_l_any T.F_l_any.kp T.b_l_any .nil pass0 (pa_cons (pv 0) (pa_cons pe_int pa_nil))) pa_nil))) (by rfl))
      (pss_cons (ps_set (i := 7) nd rfl (Or.inl rfl) (pe_lst pa_nil))
      (pss_cons (ps_for PassesOwn.never rfl (pi_range1 (by rfl) T.z_range (pa_cons (pv 1) pa_nil)) (pg_name (i := 8) nd rfl (by first | exact Or.inl rfl | exact Or.inr rfl)) (pss_cons (ps_set (i := 9) nd rfl (Or.inl rfl) (pe_slice sl_list (pv 3) (po_some (pe_op op_add (pv 4) pe_int)) po_none))
      (pss_cons (ps_if (PW.pt (pw_and (pt_cmpR op_eq (pv 6) pe_int (nomark _)) (pw_and1 (pt_cmpR op_lt (pv 1) pe_int (nomark _))))) (pss_one (ps_set (i := 9) nd rfl (Or.inl rfl) (pe_slice sl_list (pv 3) po_none (po_some (pe_call G_l_any (hr.mono (by decide)) (by rfl) T.g_l_any T.F_l_any.kp T.b_l_any .nil pass0 (pa_cons (pv 0) (pa_cons (pe_op op_sub pe_int (pv 4)) pa_nil))))))) pss_nil)
      (pss_cons (ps_set (i := 10) nd rfl (Or.inl rfl) (pe_join pe_str (pe_op op_cat (pe_op op_cat (pe_slice sl_list (pv 3) po_none (po_some (pv 4))) (pe_lst (pa_cons (pe_ix ix_str (pv 2) (pe_op op_mod (pe_callTy call_int1 (by rfl) T.z_int bt_int (pa_cons (pe_op op_add (pv 5) (pv 8)) pa_nil)) pe_int) (fun _ _ => rfl)) pa_nil))) (pv 9))))
      (pss_one (ps_expr (pe_bm PySem.F.plainAttrs_list PySem.F.slot_list_append PySem.F.type_list_append mt_append (pv 7) (pa_cons (pe_ifExp (pt_cmpR op_lt (pv 8) pe_int (nomark _)) (pv 10) (pe_op op_add_str (pv 10) (pe_call G_l_of (hr.mono (by decide)) (by rfl) T.g_l_of T.F_l_of.kp T.b_l_of .nil pass0 (pa_cons (pv 0) (pa_cons (pv 2) pa_nil))))) pa_nil))))))))
      (pss_one (ps_ret (pe_call G_l_mixed (hr.mono (by decide)) (by rfl) T.g_l_mixed T.F_l_mixed.kp T.b_l_mixed .nil pass0 (pa_cons (pv 0) (pa_cons (pv 7) pa_nil))))))))))
def t_l_heights (K : PySem.W.Frag) (sp_l_any : Sp) (sp_l_of : Sp) : TS :=
  (tSeq (tPar 4 5 (tCons (tCall sp_l_of [] E0 (tCons (tVar 0) (tCons (tVar 1) tNil))) (tCons (tCall sp_l_any [] E0 (tCons (tVar 0) (tCons (tC (.int 5)) tNil))) tNil)))
    (tSeq (tAsg (tLc (iRng1 (tCons (tVar 4) tNil)) (gName 7) tYes (tOp rAddI (tC (.int 1)) (tCall sp_l_any [] E0 (tCons (tVar 0) (tCons (tVar 2) tNil)))) [7]) (gName 6))
    (tSeq (tIfS (tTest (tOp rEq (tVar 5) (tC (.int 0)))) (tAsg (tOp rRep (tLst (tCons (tOp (rIxL K) (tVar 6) (tC (.int 0))) tNil)) (tVar 4)) (gName 6)) tNext)
    (tSeq (tIfS (tTest (tOp rEq (tVar 5) (tC (.int 1)))) (tSeq (tAsg (tOp rRep (tLst (tCons (tC (.int 1)) tNil)) (tVar 4)) (gName 6))
    (tAsg (tVar 2) (gSub (tVar 6) (tCall sp_l_any [] E0 (tCons (tVar 0) (tCons (tVar 4) tNil))) rSetL))) tNext)
    (tSeq (tFor (iRng1 (tCons (tOp rMulI (tC (.int 12)) (tVar 4)) tNil)) (gName 7) (tIfS (tTest (tOp rGtI (tCB (rSum K) (tCons (tVar 6) tNil)) (tCB rMax2 (tCons (tVar 4) (tCons (tVar 3) tNil))))) tNever tNext))
    (tRet (tCB (rTupleOf K) (tCons (tVar 6) tNil))))))))
theorem der_l_heights {P : Program} {w : World} {K : PySem.W.Frag} {mg : Str → Option Value} {base : Heap} {B : Adr} {cdv : Value} {A : Around} {outer : List Env} {s : Shared} {H : Hp} {E : XK} {sp_l_any : Sp} {sp_l_of : Sp} (T : Txt P K mg B)
    (G_l_any : FnOk P w K mg base CX0 1 B.a_l_any B.d_l_any ["_law_deal_here", "_law_bound"] sp_l_any)
    (G_l_of : FnOk P w K mg base CX0 2 B.a_l_of B.d_l_of ["_law_deal_here", "_law_some"] sp_l_of)
    (hr : Room 2 (A.deeper (envOfC "_law_heights" (defScope s_l_heights) s.heap.objs.size B.a_l_heights cdv))) :
    PSs (cxOf CX0 P w K mg base N_l_heights "_law_heights" (defScope s_l_heights) B.a_l_heights cdv A outer s H E).nox (defBody s_l_heights) (t_l_heights K sp_l_any sp_l_of) := by
  have nd := sc_l_heights.nd
  exact (pss_cons (ps_par (i := 4) (j := 5) rfl nd rfl rfl (by decide) rfl rfl (pa_cons (pe_call G_l_of (hr.mono (by decide)) (by rfl) T.g_l_of T.F_l_of.kp T.b_l_of .nil pass0 (pa_cons (pv 0) (pa_cons (pv 1) pa_nil))) (pa_cons (pe_call G_l_any (hr.mono (by decide)) (by rfl) T.g_l_any T.F_l_any.kp T.b_l_any .nil pass0 (pa_cons (pv 0) (pa_cons pe_int pa_nil))) pa_nil)) (by rfl))
      (pss_cons (ps_setLc (i := 6) (own := [("_law_turn", 7)]) (g := (gName 7)) (tt := tYes) rfl nd rfl rfl (sw_true rfl rfl rfl (by decide +kernel)) (pi_range1 (by rfl) T.z_range (pa_cons (pv 4) pa_nil)) (blkOk_by (N := N_l_heights) (sc := defScope s_l_heights) (by decide +kernel)) (fun _ _ _ _ _ => (pg_name (i := 7) nd rfl (by first | exact Or.inl rfl | exact Or.inr rfl))) (fun _ _ _ _ _ => pts_nil) (fun _ _ _ _ _ => (pe_op op_add pe_int (pe_call G_l_any (hr.mono (by decide)) (by rfl) T.g_l_any T.F_l_any.kp T.b_l_any .nil pass0 (pa_cons (pv 0) (pa_cons (pv 2) pa_nil))))))
      (pss_cons (ps_if (pt_cmpR op_eq (pv 5) pe_int (nomark _)) (pss_one (ps_set (i := 6) nd rfl (Or.inl rfl) (pe_op op_rep (pe_lst (pa_cons (pe_ix ix_list (pv 6) pe_int (fun _ _ => rfl)) pa_nil)) (pv 4)))) pss_nil)
      (pss_cons (ps_if (pt_cmpR op_eq (pv 5) pe_int (nomark _)) (pss_cons (ps_set (i := 6) nd rfl (Or.inl rfl) (pe_op op_rep (pe_lst (pa_cons pe_int pa_nil)) (pv 4)))
      (pss_one (ps_asg (pv 2) (pg_sub (pv 6) (pe_call G_l_any (hr.mono (by decide)) (by rfl) T.g_l_any T.F_l_any.kp T.b_l_any .nil pass0 (pa_cons (pv 0) (pa_cons (pv 4) pa_nil))) set_list)))) pss_nil)
      (pss_cons (ps_for PassesOwn.never rfl (pi_range1 (by rfl) T.z_range (pa_cons (pe_op op_mul pe_int (pv 4)) pa_nil)) (pg_name (i := 7) nd rfl (by first | exact Or.inl rfl | exact Or.inr rfl)) (pss_one (ps_if (pt_cmpR op_gt (pe_callB (cr_sum rfl) (by rfl) T.z_sum bt_sum (pa_cons (pv 6) pa_nil)) (pe_callB (call_max2 rfl) (by rfl) T.z_max bt_max (pa_cons (pv 4) (pa_cons (pv 3) pa_nil))) (nomark _)) (pss_one ps_never) pss_nil)))
      (pss_one (ps_ret (pe_callTy call_tuple_of (by rfl) T.z_tuple bt_tuple (pa_cons (pv 6) pa_nil)))))))))
def t_l_filled (K : PySem.W.Frag) (sp_l_mixed : Sp) (sp_l_of : Sp) : TS :=
  (tSeq (tAsg (tOp rRep (tLst (tCons (tTup tNil) tNil)) (tCB (rLenSeq K) (tCons (tVar 1) tNil))) (gName 3))
    (tSeq (tFor (iList K (tCall sp_l_mixed [] E0 (tCons (tVar 0) (tCons (tVar 2) tNil)))) (gName 4) (tSeq (tAsg (tCall sp_l_of [] E0 (tCons (tVar 0) (tCons (tLc (iEnumT K (tCons (tVar 1) tNil)) (gTup K 2 (gCons (gName 5) (gCons (gName 6) gNil))) (tTest (tOp rLtI (tCB (rLenSeq K) (tCons (tOp (rIxL K) (tVar 3) (tVar 5)) tNil)) (tVar 6))) (tVar 5) [5, 6]) tNil))) (gName 5))
    (tAsg (tOp (rCatA K) (tOp (rIxL K) (tVar 3) (tVar 5)) (tTup (tCons (tVar 4) tNil))) (gSub (tVar 3) (tVar 5) rSetL))))
    (tRet (tCB (rTupleOf K) (tCons (tVar 3) tNil)))))
theorem der_l_filled {P : Program} {w : World} {K : PySem.W.Frag} {mg : Str → Option Value} {base : Heap} {B : Adr} {cdv : Value} {A : Around} {outer : List Env} {s : Shared} {H : Hp} {E : XK} {sp_l_mixed : Sp} {sp_l_of : Sp} (T : Txt P K mg B)
    (G_l_mixed : FnOk P w K mg base CX0 2 B.a_l_mixed B.d_l_mixed ["_law_deal_here", "_law_some"] sp_l_mixed)
    (G_l_of : FnOk P w K mg base CX0 2 B.a_l_of B.d_l_of ["_law_deal_here", "_law_some"] sp_l_of)
    (hr : Room 2 (A.deeper (envOfC "_law_filled" (defScope s_l_filled) s.heap.objs.size B.a_l_filled cdv))) :
    PSs (cxOf CX0 P w K mg base N_l_filled "_law_filled" (defScope s_l_filled) B.a_l_filled cdv A outer s H E).nox (defBody s_l_filled) (t_l_filled K sp_l_mixed sp_l_of) := by
  have nd := sc_l_filled.nd
  exact (pss_cons (ps_set (i := 3) nd rfl (Or.inr rfl) (pe_op op_rep (pe_lst (pa_cons (pe_tup pa_nil) pa_nil)) (pe_callB call_len_seq (by rfl) T.z_len bt_len (pa_cons (pv 1) pa_nil))))
      (pss_cons (ps_for PassesOwn.never rfl (pi_list (pe_call G_l_mixed (hr.mono (by decide)) (by rfl) T.g_l_mixed T.F_l_mixed.kp T.b_l_mixed .nil pass0 (pa_cons (pv 0) (pa_cons (pv 2) pa_nil)))) (pg_name (i := 4) nd rfl (by first | exact Or.inl rfl | exact Or.inr rfl)) (pss_cons (ps_set (i := 5) nd rfl (Or.inl rfl) (pe_call G_l_of (hr.mono (by decide)) (by rfl) T.g_l_of T.F_l_of.kp T.b_l_of .nil pass0 (pa_cons (pv 0) (pa_cons (pe_lc (own := [("_law_at", 5), ("_law_room", 6)]) (g := (gTup K 2 (gCons (gName 5) (gCons (gName 6) gNil)))) (tt := (tTest (tOp rLtI (tCB (rLenSeq K) (tCons (tOp (rIxL K) (tVar 3) (tVar 5)) tNil)) (tVar 6)))) rfl nd (pi_enumT (by rfl) T.z_enumerate (pa_cons (pv 1) pa_nil)) (blkOk_by (N := N_l_filled) (sc := defScope s_l_filled) (by decide +kernel)) (fun _ _ _ _ _ => (pg_tup rfl (pgs_cons (pg_name (i := 5) nd rfl (by first | exact Or.inl rfl | exact Or.inr rfl)) (pgs_cons (pg_name (i := 6) nd rfl (by first | exact Or.inl rfl | exact Or.inr rfl)) pgs_nil)))) (fun _ _ _ _ _ => (pts_one (pt_cmpR op_lt (pe_callB call_len_seq (by rfl) T.z_len bt_len (pa_cons (pe_ix ix_list (pv 3) (pv 5) (fun _ _ => rfl)) pa_nil)) (pv 6) (nomark _)))) (fun _ _ _ _ _ => (pv 5))) pa_nil))))
      (pss_one (ps_asg (pe_op op_catA (pe_ix ix_list (pv 3) (pv 5) (fun _ _ => rfl)) (pe_tup (pa_cons (pv 4) pa_nil))) (pg_sub (pv 3) (pv 5) set_list)))))
      (pss_one (ps_ret (pe_callTy call_tuple_of (by rfl) T.z_tuple bt_tuple (pa_cons (pv 3) pa_nil))))))
def t_l_depths (K : PySem.W.Frag) : TS :=
  (tSeq (tAsg (tOp rSubI (tCB (rSumT K) (tCons (tVar 0) tNil)) (tVar 1)) (gName 2))
    (tRet (tLc (iTup K (tVar 0)) (gName 3) tYes (tIf (tTest (tOp rGtI (tVar 3) (tVar 2))) (tOp rSubI (tVar 3) (tVar 2)) (tC (.int 0))) [3])))
theorem der_l_depths {P : Program} {w : World} {K : PySem.W.Frag} {mg : Str → Option Value} {base : Heap} {B : Adr} {cdv : Value} {A : Around} {outer : List Env} {s : Shared} {H : Hp} {E : XK} (T : Txt P K mg B)
    (hr : Room 0 (A.deeper (envOfC "_law_depths" (defScope s_l_depths) s.heap.objs.size B.a_l_depths cdv))) :
    PSs (cxOf CX0 P w K mg base N_l_depths "_law_depths" (defScope s_l_depths) B.a_l_depths cdv A outer s H E).nox (defBody s_l_depths) (t_l_depths K) := by
  have nd := sc_l_depths.nd
  exact (pss_cons (ps_set (i := 2) nd rfl (Or.inr rfl) (pe_op op_sub (pe_callB (cr_sumT rfl) (by rfl) T.z_sum bt_sum (pa_cons (pv 0) pa_nil)) (pv 1)))
      (pss_one (ps_ret (pe_lc (own := [("_law_height", 3)]) (g := (gName 3)) (tt := tYes) rfl nd (pi_tup (pv 0)) (blkOk_by (N := N_l_depths) (sc := defScope s_l_depths) (by decide +kernel)) (fun _ _ _ _ _ => (pg_name (i := 3) nd rfl (by first | exact Or.inl rfl | exact Or.inr rfl))) (fun _ _ _ _ _ => pts_nil) (fun _ _ _ _ _ => (pe_ifExp (pt_cmpR op_gt (pv 3) (pv 2) (nomark _)) (pe_op op_sub (pv 3) (pv 2)) pe_int))))))
def t_l_size (K : PySem.W.Frag) : TS :=
  (tSeq (tAsg (tOp rCat (tLst (tCons (tC (.int 1)) tNil)) (tOp rRep (tLst (tCons (tC (.int 0)) tNil)) (tVar 1))) (gName 2))
    (tSeq (tFor (iTup K (tVar 0)) (gName 3) (tAsg (tLc (iRng1 (tCons (tOp rAddI (tVar 1) (tC (.int 1))) tNil)) (gName 6) tYes (tCB (rSum K) (tCons (tSl (rSlL K) (tVar 2) (tPart (tCB rMax2 (tCons (tC (.int 0)) (tCons (tOp rSubI (tVar 6) (tVar 3)) tNil)))) (tPart (tOp rAddI (tVar 6) (tC (.int 1))))) tNil)) [6]) (gName 2)))
    (tSeq (tAsg (tOp (rIxL K) (tVar 2) (tVar 1)) (gName 4))
    (tSeq (tFor (iRng2 (tCons (tC (.int 2)) (tCons (tOp rAddI (tVar 1) (tC (.int 1))) tNil))) (gName 5) (tAug 4 (tVar 5) rMulI))
    (tRet (tVar 4))))))
theorem der_l_size {P : Program} {w : World} {K : PySem.W.Frag} {mg : Str → Option Value} {base : Heap} {B : Adr} {cdv : Value} {A : Around} {outer : List Env} {s : Shared} {H : Hp} {E : XK} (T : Txt P K mg B)
    (hr : Room 0 (A.deeper (envOfC "_law_size" (defScope s_l_size) s.heap.objs.size B.a_l_size cdv))) :
    PSs (cxOf CX0 P w K mg base N_l_size "_law_size" (defScope s_l_size) B.a_l_size cdv A outer s H E).nox (defBody s_l_size) (t_l_size K) := by
  have nd := sc_l_size.nd
  exact (pss_cons (ps_set (i := 2) nd rfl (Or.inr rfl) (pe_op op_cat (pe_lst (pa_cons pe_int pa_nil)) (pe_op op_rep (pe_lst (pa_cons pe_int pa_nil)) (pv 1))))
      (pss_cons (ps_for PassesOwn.never rfl (pi_tup (pv 0)) (pg_name (i := 3) nd rfl (by first | exact Or.inl rfl | exact Or.inr rfl)) (pss_one (ps_set (i := 2) nd rfl (Or.inr rfl) (pe_lc (own := [("_law_at", 6)]) (g := (gName 6)) (tt := tYes) rfl nd (pi_range1 (by rfl) T.z_range (pa_cons (pe_op op_add (pv 1) pe_int) pa_nil)) (blkOk_by (N := N_l_size) (sc := defScope s_l_size) (by decide +kernel)) (fun _ _ _ _ _ => (pg_name (i := 6) nd rfl (by first | exact Or.inl rfl | exact Or.inr rfl))) (fun _ _ _ _ _ => pts_nil) (fun _ _ _ _ _ => (pe_callB (cr_sum rfl) (by rfl) T.z_sum bt_sum (pa_cons (pe_slice sl_list (pv 2) (po_some (pe_callB (call_max2 rfl) (by rfl) T.z_max bt_max (pa_cons pe_int (pa_cons (pe_op op_sub (pv 6) (pv 3)) pa_nil)))) (po_some (pe_op op_add (pv 6) pe_int))) pa_nil)))))))
      (pss_cons (ps_set (i := 4) nd rfl (Or.inl rfl) (pe_ix ix_list (pv 2) (pv 1) (fun _ _ => rfl)))
      (pss_cons (ps_for PassesOwn.never rfl (pi_range2 (by rfl) T.z_range (pa_cons pe_int (pa_cons (pe_op op_add (pv 1) pe_int) pa_nil))) (pg_name (i := 5) nd rfl (by first | exact Or.inl rfl | exact Or.inr rfl)) (pss_one (ps_aug (i := 4) nd rfl (Or.inl rfl) (pv 5) iop_mul)))
      (pss_one (ps_ret (pv 4)))))))
def t_l_stacks (K : PySem.W.Frag) : TS :=
  (tSeq (tPar 2 3 (tCons (tLst (tCons (tTup (tCons (tTup tNil) (tCons (tVar 1) tNil))) tNil)) (tCons (tLst (tCons (tTup (tCons (tTup tNil) (tCons (tVar 1) tNil))) tNil)) tNil)))
    (tSeq (tFor (iRng1 (tCons (tVar 0) tNil)) (gName 4) (tSeq (tAsg (tLst tNil) (gName 5))
    (tSeq (tFor (iList K (tVar 3)) (gTup K 2 (gCons (gName 6) (gCons (gName 7) gNil))) (tFor (iTup K (tVar 7)) (gName 8) (tDrop (tBM K "list" rAppend (tVar 5) (tCons (tTup (tCons (tOp (rCatA K) (tVar 6) (tTup (tCons (tVar 8) tNil))) (tCons (tCB (rTupleOf K) (tCons (tLc (iTup K (tVar 7)) (gName 9) (tTest (tOp rNe (tVar 9) (tVar 8))) (tVar 9) [9]) tNil)) tNil))) tNil)))))
    (tSeq (tAsg (tVar 5) (gName 3))
    (tAsg (tOp rCat (tVar 2) (tVar 5)) (gName 2))))))
    (tRet (tVar 2))))
theorem der_l_stacks {P : Program} {w : World} {K : PySem.W.Frag} {mg : Str → Option Value} {base : Heap} {B : Adr} {cdv : Value} {A : Around} {outer : List Env} {s : Shared} {H : Hp} {E : XK} (T : Txt P K mg B)
    (hr : Room 0 (A.deeper (envOfC "_law_stacks" (defScope s_l_stacks) s.heap.objs.size B.a_l_stacks cdv))) :
    PSs (cxOf CX0 P w K mg base N_l_stacks "_law_stacks" (defScope s_l_stacks) B.a_l_stacks cdv A outer s H E).nox (defBody s_l_stacks) (t_l_stacks K) := by
  have nd := sc_l_stacks.nd
  exact (pss_cons (ps_par (i := 2) (j := 3) rfl nd rfl rfl (by decide) rfl rfl (pa_cons (pe_lst (pa_cons (pe_tup (pa_cons (pe_tup pa_nil) (pa_cons (pv 1) pa_nil))) pa_nil)) (pa_cons (pe_lst (pa_cons (pe_tup (pa_cons (pe_tup pa_nil) (pa_cons (pv 1) pa_nil))) pa_nil)) pa_nil)) (by rfl))
      (pss_cons (ps_for PassesOwn.never rfl (pi_range1 (by rfl) T.z_range (pa_cons (pv 0) pa_nil)) (pg_name (i := 4) nd rfl (by first | exact Or.inl rfl | exact Or.inr rfl)) (pss_cons (ps_set (i := 5) nd rfl (Or.inl rfl) (pe_lst pa_nil))
      (pss_cons (ps_for PassesOwn.never rfl (pi_list (pv 3)) (pg_tup rfl (pgs_cons (pg_name (i := 6) nd rfl (by first | exact Or.inl rfl | exact Or.inr rfl)) (pgs_cons (pg_name (i := 7) nd rfl (by first | exact Or.inl rfl | exact Or.inr rfl)) pgs_nil))) (pss_one (ps_for PassesOwn.never rfl (pi_tup (pv 7)) (pg_name (i := 8) nd rfl (by first | exact Or.inl rfl | exact Or.inr rfl)) (pss_one (ps_expr (pe_bm PySem.F.plainAttrs_list PySem.F.slot_list_append PySem.F.type_list_append mt_append (pv 5) (pa_cons (pe_tup (pa_cons (pe_op op_catA (pv 6) (pe_tup (pa_cons (pv 8) pa_nil))) (pa_cons (pe_callTy call_tuple_of (by rfl) T.z_tuple bt_tuple (pa_cons (pe_lc (own := [("_law_other", 9)]) (g := (gName 9)) (tt := (tTest (tOp rNe (tVar 9) (tVar 8)))) rfl nd (pi_tup (pv 7)) (blkOk_by (N := N_l_stacks) (sc := defScope s_l_stacks) (by decide +kernel)) (fun _ _ _ _ _ => (pg_name (i := 9) nd rfl (by first | exact Or.inl rfl | exact Or.inr rfl))) (fun _ _ _ _ _ => (pts_one (pt_cmpR op_ne (pv 9) (pv 8) (nomark _)))) (fun _ _ _ _ _ => (pv 9))) pa_nil)) pa_nil))) pa_nil)))))))
      (pss_cons (ps_set (i := 3) nd rfl (Or.inl rfl) (pv 5))
      (pss_one (ps_set (i := 2) nd rfl (Or.inl rfl) (pe_op op_cat (pv 2) (pv 5))))))))
      (pss_one (ps_ret (pv 2)))))
def t_l_all (K : PySem.W.Frag) (sp_l_stacks : Sp) : TS :=
  (tSeq (tAsg (tLst (tCons (tTup (tCons (tTup tNil) (tCons (tCB (rTupleOf K) (tCons (tVar 1) tNil)) tNil))) tNil)) (gName 2))
    (tSeq (tFor (iEnumT K (tCons (tVar 0) tNil)) (gTup K 2 (gCons (gName 3) (gCons (gName 4) gNil))) (tSeq (tPar 5 6 (tCons (tLst tNil) (tCons (tCB (rSumT K) (tCons (tSl (rSlA K) (tVar 0) (tPart (tOp rAddI (tVar 3) (tC (.int 1)))) tNoPart) tNil)) tNil)))
    (tSeq (tFor (iList K (tVar 2)) (gTup K 2 (gCons (gName 7) (gCons (gName 8) gNil))) (tFor (iList K (tCall sp_l_stacks [] E0 (tCons (tVar 4) (tCons (tVar 8) tNil)))) (gTup K 2 (gCons (gName 9) (gCons (gName 10) gNil))) (tIfS (tTest (tOp rLeI (tCB (rLenSeq K) (tCons (tVar 10) tNil)) (tVar 6))) (tDrop (tBM K "list" rAppend (tVar 5) (tCons (tTup (tCons (tOp (rCatA K) (tVar 7) (tTup (tCons (tVar 9) tNil))) (tCons (tVar 10) tNil))) tNil))) tNext)))
    (tAsg (tVar 5) (gName 2)))))
    (tRet (tLc (iList K (tVar 2)) (gTup K 2 (gCons (gName 7) (gCons (gName 8) gNil))) tYes (tVar 7) [7, 8]))))
theorem der_l_all {P : Program} {w : World} {K : PySem.W.Frag} {mg : Str → Option Value} {base : Heap} {B : Adr} {cdv : Value} {A : Around} {outer : List Env} {s : Shared} {H : Hp} {E : XK} {sp_l_stacks : Sp} (T : Txt P K mg B)
    (G_l_stacks : FnOk P w K mg base CX0 1 B.a_l_stacks B.d_l_stacks ["_law_height", "_law_names_here"] sp_l_stacks)
    (hr : Room 1 (A.deeper (envOfC "_law_all" (defScope s_l_all) s.heap.objs.size B.a_l_all cdv))) :
    PSs (cxOf CX0 P w K mg base N_l_all "_law_all" (defScope s_l_all) B.a_l_all cdv A outer s H E).nox (defBody s_l_all) (t_l_all K sp_l_stacks) := by
  have nd := sc_l_all.nd
  exact (pss_cons (ps_set (i := 2) nd rfl (Or.inl rfl) (pe_lst (pa_cons (pe_tup (pa_cons (pe_tup pa_nil) (pa_cons (pe_callTy call_tuple_of (by rfl) T.z_tuple bt_tuple (pa_cons (pv 1) pa_nil)) pa_nil))) pa_nil)))
      (pss_cons (ps_for PassesOwn.never rfl (pi_enumT (by rfl) T.z_enumerate (pa_cons (pv 0) pa_nil)) (pg_tup rfl (pgs_cons (pg_name (i := 3) nd rfl (by first | exact Or.inl rfl | exact Or.inr rfl)) (pgs_cons (pg_name (i := 4) nd rfl (by first | exact Or.inl rfl | exact Or.inr rfl)) pgs_nil))) (pss_cons (ps_par (i := 5) (j := 6) rfl nd rfl rfl (by decide) rfl rfl (pa_cons (pe_lst pa_nil) (pa_cons (pe_callB (cr_sumT rfl) (by rfl) T.z_sum bt_sum (pa_cons (pe_slice sl_tupA (pv 0) (po_some (pe_op op_add (pv 3) pe_int)) po_none) pa_nil)) pa_nil)) (by rfl))
      (pss_cons (ps_for PassesOwn.never rfl (pi_list (pv 2)) (pg_tup rfl (pgs_cons (pg_name (i := 7) nd rfl (by first | exact Or.inl rfl | exact Or.inr rfl)) (pgs_cons (pg_name (i := 8) nd rfl (by first | exact Or.inl rfl | exact Or.inr rfl)) pgs_nil))) (pss_one (ps_for PassesOwn.never rfl (pi_list (pe_call G_l_stacks (hr.mono (by decide)) (by rfl) T.g_l_stacks T.F_l_stacks.kp T.b_l_stacks .nil pass0 (pa_cons (pv 4) (pa_cons (pv 8) pa_nil)))) (pg_tup rfl (pgs_cons (pg_name (i := 9) nd rfl (by first | exact Or.inl rfl | exact Or.inr rfl)) (pgs_cons (pg_name (i := 10) nd rfl (by first | exact Or.inl rfl | exact Or.inr rfl)) pgs_nil))) (pss_one (ps_if (pt_cmpR op_le (pe_callB call_len_seq (by rfl) T.z_len bt_len (pa_cons (pv 10) pa_nil)) (pv 6) (nomark _)) (pss_one (ps_expr (pe_bm PySem.F.plainAttrs_list PySem.F.slot_list_append PySem.F.type_list_append mt_append (pv 5) (pa_cons (pe_tup (pa_cons (pe_op op_catA (pv 7) (pe_tup (pa_cons (pv 9) pa_nil))) (pa_cons (pv 10) pa_nil))) pa_nil)))) pss_nil)))))
      (pss_one (ps_set (i := 2) nd rfl (Or.inl rfl) (pv 5))))))
      (pss_one (ps_ret (pe_lc (own := [("_law_rows", 7), ("_law_rest", 8)]) (g := (gTup K 2 (gCons (gName 7) (gCons (gName 8) gNil)))) (tt := tYes) rfl nd (pi_list (pv 2)) (blkOk_by (N := N_l_all) (sc := defScope s_l_all) (by decide +kernel)) (fun _ _ _ _ _ => (pg_tup rfl (pgs_cons (pg_name (i := 7) nd rfl (by first | exact Or.inl rfl | exact Or.inr rfl)) (pgs_cons (pg_name (i := 8) nd rfl (by first | exact Or.inl rfl | exact Or.inr rfl)) pgs_nil)))) (fun _ _ _ _ _ => pts_nil) (fun _ _ _ _ _ => (pv 7)))))))
def t_l_reached (K : PySem.W.Frag) (P : Program) (w : World) : TS :=
  (tSeq (tPar 2 3 (tCons (tDictN1 K P w (tVar 1) (tC (.int 0))) (tCons (tLst (tCons (tVar 1) tNil)) tNil)))
    (tSeq (tFor (iRng1 (tCons (tC (.int 200)) tNil)) (gName 4) (tSeq (tAsg (tLst tNil) (gName 5))
    (tSeq (tFor (iList K (tVar 3)) (gName 6) (tFor (iEnumT K (tCons (tVar 6) tNil)) (gTup K 2 (gCons (gName 7) (gCons (gName 8) gNil))) (tFor (iEnumT K (tCons (tVar 6) tNil)) (gTup K 2 (gCons (gName 9) (gCons (gName 10) gNil))) (tIfS (tAnd (tTest (tOp rNe (tVar 7) (tVar 9))) (tAnd (tTest (tOp rGtI (tCB (rLenSeq K) (tCons (tVar 8) tNil)) (tC (.int 0)))) (tTest (tOp rLtI (tCB (rLenSeq K) (tCons (tVar 10) tNil)) (tOp (rIxT K) (tVar 0) (tVar 9)))))) (tSeq (tAsg (tCB (rListOf K) (tCons (tVar 6) tNil)) (gName 11))
    (tSeq (tAsg (tSl (rSlA K) (tVar 8) tNoPart (tPart (tUn rNeg (tC (.int 1))))) (gSub (tVar 11) (tVar 7) rSetL))
    (tSeq (tAsg (tOp (rCatA K) (tVar 10) (tSl (rSlA K) (tVar 8) (tPart (tUn rNeg (tC (.int 1)))) tNoPart)) (gSub (tVar 11) (tVar 9) rSetL))
    (tSeq (tAsg (tCB (rTupleOf K) (tCons (tVar 11) tNil)) (gName 11))
    (tIfS (tTest (tOp (rNotInN K P w) (tVar 11) (tVar 2))) (tSeq (tAsg (tOp rAddI (tVar 4) (tC (.int 1))) (gSub (tVar 2) (tVar 11) (rSetN K P w)))
    (tDrop (tBM K "list" rAppend (tVar 5) (tCons (tVar 11) tNil)))) tNext))))) tNext))))
    (tSeq (tAsg (tVar 5) (gName 3))
    (tIfS (tTest (tOp (rEqD K) (tVar 3) (tLst tNil))) tBreak tNext)))))
    (tRet (tVar 2))))
theorem der_l_reached {P : Program} {w : World} {K : PySem.W.Frag} {mg : Str → Option Value} {base : Heap} {B : Adr} {cdv : Value} {A : Around} {outer : List Env} {s : Shared} {H : Hp} {E : XK} (T : Txt P K mg B)
    (hr : Room 0 (A.deeper (envOfC "_law_reached" (defScope s_l_reached) s.heap.objs.size B.a_l_reached cdv))) :
    PSs (cxOf CX0 P w K mg base N_l_reached "_law_reached" (defScope s_l_reached) B.a_l_reached cdv A outer s H E).nox (defBody s_l_reached) (t_l_reached K P w) := by
  have nd := sc_l_reached.nd
  exact (pss_cons (ps_par (i := 2) (j := 3) rfl nd rfl rfl (by decide) rfl rfl (pa_cons (pe_dictN1 hr.units (pv 1) pe_int) (pa_cons (pe_lst (pa_cons (pv 1) pa_nil)) pa_nil)) (by rfl))
      (pss_cons (ps_for PassesOwn.never rfl (pi_range1 (by rfl) T.z_range (pa_cons pe_int pa_nil)) (pg_name (i := 4) nd rfl (by first | exact Or.inl rfl | exact Or.inr rfl)) (pss_cons (ps_set (i := 5) nd rfl (Or.inl rfl) (pe_lst pa_nil))
      (pss_cons (ps_for PassesOwn.never rfl (pi_list (pv 3)) (pg_name (i := 6) nd rfl (by first | exact Or.inl rfl | exact Or.inr rfl)) (pss_one (ps_for PassesOwn.never rfl (pi_enumT (by rfl) T.z_enumerate (pa_cons (pv 6) pa_nil)) (pg_tup rfl (pgs_cons (pg_name (i := 7) nd rfl (by first | exact Or.inl rfl | exact Or.inr rfl)) (pgs_cons (pg_name (i := 8) nd rfl (by first | exact Or.inl rfl | exact Or.inr rfl)) pgs_nil))) (pss_one (ps_for PassesOwn.never rfl (pi_enumT (by rfl) T.z_enumerate (pa_cons (pv 6) pa_nil)) (pg_tup rfl (pgs_cons (pg_name (i := 9) nd rfl (by first | exact Or.inl rfl | exact Or.inr rfl)) (pgs_cons (pg_name (i := 10) nd rfl (by first | exact Or.inl rfl | exact Or.inr rfl)) pgs_nil))) (pss_one (ps_if (PW.pt (pw_and (pt_cmpR op_ne (pv 7) (pv 9) (nomark _)) (pw_and (pt_cmpR op_gt (pe_callB call_len_seq (by rfl) T.z_len bt_len (pa_cons (pv 8) pa_nil)) pe_int (nomark _)) (pw_and1 (pt_cmpR op_lt (pe_callB call_len_seq (by rfl) T.z_len bt_len (pa_cons (pv 10) pa_nil)) (pe_ix ix_tup (pv 0) (pv 9) (fun _ _ => rfl)) (nomark _)))))) (pss_cons (ps_set (i := 11) nd rfl (Or.inl rfl) (pe_callTy call_list_of (by rfl) T.z_list bt_list (pa_cons (pv 6) pa_nil)))
      (pss_cons (ps_asg (pe_slice sl_tupA (pv 8) po_none (po_some (pe_un un_neg pe_int))) (pg_sub (pv 11) (pv 7) set_list))
      (pss_cons (ps_asg (pe_op op_catA (pv 10) (pe_slice sl_tupA (pv 8) (po_some (pe_un un_neg pe_int)) po_none)) (pg_sub (pv 11) (pv 9) set_list))
      (pss_cons (ps_set (i := 11) nd rfl (Or.inl rfl) (pe_callTy call_tuple_of (by rfl) T.z_tuple bt_tuple (pa_cons (pv 11) pa_nil)))
      (pss_one (ps_if (pt_cmpR (op_notInN hr.units) (pv 11) (pv 2) rfl) (pss_cons (ps_asg (pe_op op_add (pv 4) pe_int) (pg_sub (pv 2) (pv 11) (set_N hr.units)))
      (pss_one (ps_expr (pe_bm PySem.F.plainAttrs_list PySem.F.slot_list_append PySem.F.type_list_append mt_append (pv 5) (pa_cons (pv 11) pa_nil))))) pss_nil)))))) pss_nil)))))))
      (pss_cons (ps_set (i := 3) nd rfl (Or.inl rfl) (pv 5))
      (pss_one (ps_if (pt_cmpR (op_eqD hr.units) (pv 3) (pe_lst pa_nil) (nomark _)) (pss_one ps_break) pss_nil))))))
      (pss_one (ps_ret (pv 2)))))
def t_l_parting (K : PySem.W.Frag) : TS :=
  (tSeq (tFor (iEnum K (tCons (tVar 0) tNil)) (gTup K 2 (gCons (gName 3) (gCons (gName 4) gNil))) (tFor (iRng1 (tCons (tVar 4) tNil)) (gName 5) (tIfS (tTest (tOp rNe (tOp (rIxT K) (tOp (rIxT K) (tVar 1) (tVar 3)) (tVar 5)) (tOp (rIxT K) (tOp (rIxT K) (tVar 2) (tVar 3)) (tVar 5)))) (tRet (tTup (tCons (tVar 3) (tCons (tVar 5) tNil)))) tNext)))
    (tRet (tC .non)))
theorem der_l_parting {P : Program} {w : World} {K : PySem.W.Frag} {mg : Str → Option Value} {base : Heap} {B : Adr} {cdv : Value} {A : Around} {outer : List Env} {s : Shared} {H : Hp} {E : XK} (T : Txt P K mg B)
    (hr : Room 0 (A.deeper (envOfC "_law_parting" (defScope s_l_parting) s.heap.objs.size B.a_l_parting cdv))) :
    PSs (cxOf CX0 P w K mg base N_l_parting "_law_parting" (defScope s_l_parting) B.a_l_parting cdv A outer s H E).nox (defBody s_l_parting) (t_l_parting K) := by
  have nd := sc_l_parting.nd
  exact (pss_cons (ps_for PassesOwn.never rfl (pi_enum (by rfl) T.z_enumerate (pa_cons (pv 0) pa_nil)) (pg_tup rfl (pgs_cons (pg_name (i := 3) nd rfl (by first | exact Or.inl rfl | exact Or.inr rfl)) (pgs_cons (pg_name (i := 4) nd rfl (by first | exact Or.inl rfl | exact Or.inr rfl)) pgs_nil))) (pss_one (ps_for PassesOwn.never rfl (pi_range1 (by rfl) T.z_range (pa_cons (pv 4) pa_nil)) (pg_name (i := 5) nd rfl (by first | exact Or.inl rfl | exact Or.inr rfl)) (pss_one (ps_if (pt_cmpR op_ne (pe_ix ix_tup (pe_ix ix_tup (pv 1) (pv 3) (fun _ _ => rfl)) (pv 5) (fun _ _ => rfl)) (pe_ix ix_tup (pe_ix ix_tup (pv 2) (pv 3) (fun _ _ => rfl)) (pv 5) (fun _ _ => rfl)) (nomark _)) (pss_one (ps_ret (pe_tup (pa_cons (pv 3) (pa_cons (pv 5) pa_nil))))) pss_nil)))))
      (pss_one (ps_ret pe_non)))
def t_l_changed (K : PySem.W.Frag) : TS :=
  (tRet (tCB (rTupleOf K) (tCons (tLc (iTup K (tVar 0)) (gName 3) tYes (tCB (rTupleOf K) (tCons (tLc (iTup K (tVar 3)) (gName 4) tYes (tIf (tTest (tOp rEq (tVar 4) (tVar 1))) (tVar 2) (tVar 4)) [4]) tNil)) [3]) tNil)))
theorem der_l_changed {P : Program} {w : World} {K : PySem.W.Frag} {mg : Str → Option Value} {base : Heap} {B : Adr} {cdv : Value} {A : Around} {outer : List Env} {s : Shared} {H : Hp} {E : XK} (T : Txt P K mg B)
    (hr : Room 0 (A.deeper (envOfC "_law_changed" (defScope s_l_changed) s.heap.objs.size B.a_l_changed cdv))) :
    PSs (cxOf CX0 P w K mg base N_l_changed "_law_changed" (defScope s_l_changed) B.a_l_changed cdv A outer s H E).nox (defBody s_l_changed) (t_l_changed K) := by
  have nd := sc_l_changed.nd
  exact (pss_one (ps_ret (pe_callTy call_tuple_of (by rfl) T.z_tuple bt_tuple (pa_cons (pe_lc (own := [("_law_row", 3)]) (g := (gName 3)) (tt := tYes) rfl nd (pi_tup (pv 0)) (blkOk_by (N := N_l_changed) (sc := defScope s_l_changed) (by decide +kernel)) (fun _ _ _ _ _ => (pg_name (i := 3) nd rfl (by first | exact Or.inl rfl | exact Or.inr rfl))) (fun _ _ _ _ _ => pts_nil) (fun _ _ _ _ _ => (pe_callTy call_tuple_of (by rfl) T.z_tuple bt_tuple (pa_cons (pe_lc (own := [("_law_thing", 4)]) (g := (gName 4)) (tt := tYes) rfl nd (pi_tup (pv 3)) (blkOk_by (N := N_l_changed) (sc := scOuter) (by decide +kernel)) (fun _ _ _ _ _ => (pg_name (i := 4) nd rfl (by first | exact Or.inl rfl | exact Or.inr rfl))) (fun _ _ _ _ _ => pts_nil) (fun _ _ _ _ _ => (pe_ifExp (pt_cmpR op_eq (pv 4) (pv 1) (nomark _)) (pv 2) (pv 4)))) pa_nil)))) pa_nil))))
def t_l_refused (K : PySem.W.Frag) (B : Adr) (sp_parting_place : Sp) : TS :=
  (tSeq (tTry K B.C_Refused 3 "word" (fun W => (tDrop (tCallS sp_parting_place (WE W) (tCons (tVar 0) (tCons (tVar 1) (tCons (tVar 2) tNil)))))))
    (tRet (tC .non)))
theorem der_l_refused {P : Program} {w : World} {K : PySem.W.Frag} {mg : Str → Option Value} {base : Heap} {B : Adr} {cdv : Value} {A : Around} {outer : List Env} {s : Shared} {H : Hp} {E : XK} {sp_parting_place : Sp} (T : Txt P K mg B)
    (G_parting_place : FnOk P w K mg base (L2.CX P w) 6 B.a_parting_place B.d_parting_place ["yard", "one", "other"] sp_parting_place)
    (hr : Room 6 (A.deeper (envOfC "_law_refused" (defScope s_l_refused) s.heap.objs.size B.a_l_refused cdv))) :
    PSs (cxOf CX0 P w K mg base N_l_refused "_law_refused" (defScope s_l_refused) B.a_l_refused cdv A outer s H E).nox (defBody s_l_refused) (t_l_refused K B sp_parting_place) := by
  have nd := sc_l_refused.nd
  exact (pss_cons (ps_try_as (i := 3) (tb := fun W => (tDrop (tCallS sp_parting_place (WE W) (tCons (tVar 0) (tCons (tVar 1) (tCons (tVar 2) tNil)))))) (ts := t_suite B.C_Refused 3 "word") (Wout := fun _ _ _ _ => False) rfl rfl nd rfl rfl ⟨by rfl, by decide, Or.inl T.g_Refused⟩ takes0
      (fun W pn xe tk hp => (pss_one (ps_expr (pe_callS G_parting_place (hr.mono (by decide)) (by rfl) T.g_parting_place T.F_parting_place.kp T.b_parting_place (fun σ => passAt tk σ) (pa_cons (pv 0) (pa_cons (pv 1) (pa_cons (pv 2) pa_nil)))))))
      (fun a oe cls d pn hz hf => pss_one (ps_ret (pe_xf T.xf_Refused T.er_Refused.noN hz hf (pv 3)))))
      (pss_one (ps_ret pe_non)))
def t_l_bent (K : PySem.W.Frag) (sp_l_any : Sp) (sp_l_of : Sp) : TS :=
  (tSeq (tPar3 3 4 5 (tCons (tCall sp_l_any [] E0 (tCons (tVar 0) (tCons (tCB (rLenSeq K) (tCons (tVar 2) tNil)) tNil))) (tCons (tCall sp_l_any [] E0 (tCons (tVar 0) (tCons (tC (.int 7)) tNil))) (tCons (tLst tNil) tNil))))
    (tSeq (tIfS (tTest (tOp rEq (tVar 4) (tC (.int 0)))) (tRet (tTup (tCons (tCall sp_l_of [] E0 (tCons (tVar 0) (tCons (tLst (tCons (tC .non) (tCons (tCB (rListOf K) (tCons (tVar 2) tNil)) (tCons (tOp (rCatA K) (tVar 2) (tTup (tCons (tTup tNil) tNil))) (tCons (tSl (rSlA K) (tVar 2) (tPart (tC (.int 1))) tNoPart) (tCons (tC (.str "")) (tCons (tC (.int 0)) (tCons (tTup tNil) tNil)))))))) tNil))) (tCons (tUn rNeg (tC (.int 1))) tNil)))) tNext)
    (tSeq (tFor (iTup K (tSl (rSlA K) (tVar 2) tNoPart (tPart (tVar 3)))) (gName 6) (tAsg (tOp rCat (tVar 5) (tCB (rListOf K) (tCons (tVar 6) tNil))) (gName 5)))
    (tSeq (tAsg (tOp (rIxT K) (tVar 2) (tVar 3)) (gName 7))
    (tSeq (tAsg (tCall sp_l_any [] E0 (tCons (tVar 0) (tCons (tOp rAddI (tCB (rLenSeq K) (tCons (tVar 7) tNil)) (tC (.int 1))) tNil))) (gName 8))
    (tSeq (tAsg (tCall sp_l_of [] E0 (tCons (tVar 0) (tCons (tLst (tCons (tC (.str "")) (tCons (tC (.str "A")) (tCons (tC (.str "abcdefghi")) (tCons (tC (.int 0)) (tCons (tC .non) (tCons (tC (.bl true)) (tCons (tTup (tCons (tC (.str "a")) tNil)) (tCons (tC (.str "a b")) (tCons (tC (.str "-")) tNil)))))))))) tNil))) (gName 9))
    (tSeq (tIfS (tAnd (tTest (tOp rEq (tVar 4) (tC (.int 2)))) (tTest (tOp rGtI (tCB (rLenSeq K) (tCons (tVar 7) tNil)) (tC (.int 0))))) (tAsg (tCall sp_l_of [] E0 (tCons (tVar 0) (tCons (tVar 7) tNil))) (gName 9)) tNext)
    (tSeq (tIfS (tAnd (tTest (tOp rEq (tVar 4) (tC (.int 3)))) (tTest (tOp (rNeD K) (tVar 5) (tLst tNil)))) (tAsg (tCall sp_l_of [] E0 (tCons (tVar 0) (tCons (tVar 5) tNil))) (gName 9)) tNext)
    (tSeq (tAsg (tOp (rCatA K) (tOp (rCatA K) (tSl (rSlA K) (tVar 7) tNoPart (tPart (tVar 8))) (tTup (tCons (tVar 9) tNil))) (tSl (rSlA K) (tVar 7) (tPart (tVar 8)) tNoPart)) (gName 10))
    (tSeq (tIfS (tTest (tOp rEq (tVar 4) (tC (.int 4)))) (tAsg (tOp (rCatA K) (tVar 7) (tCB (rTupleOf K) (tCons (tLc (iStr (tSl rSlS (tC (.str "abcdefghijklmnopqrstuvwxyz")) tNoPart (tPart (tOp rSubI (tOp rAddI (tOp (rIxT K) (tVar 1) (tVar 3)) (tC (.int 1))) (tCB (rLenSeq K) (tCons (tVar 7) tNil)))))) (gName 12) tYes (tOp rAddS (tC (.str "q")) (tVar 12)) [12]) tNil))) (gName 10)) tNext)
    (tSeq (tIfS (tTest (tOp rEq (tVar 4) (tC (.int 5)))) (tAsg (tCall sp_l_of [] E0 (tCons (tVar 0) (tCons (tLst (tCons (tCB (rListOf K) (tCons (tVar 7) tNil)) (tCons (tC .non) (tCons (tC (.str "")) (tCons (tC (.int 0)) (tCons (tC (.str "a")) tNil)))))) tNil))) (gName 10)) tNext)
    (tSeq (tAsg (tOp (rCatA K) (tOp (rCatA K) (tSl (rSlA K) (tVar 2) tNoPart (tPart (tVar 3))) (tTup (tCons (tVar 10) tNil))) (tSl (rSlA K) (tVar 2) (tPart (tOp rAddI (tVar 3) (tC (.int 1)))) tNoPart)) (gName 11))
    (tSeq (tIfS (tAnd (tTest (tOp rLtI (tOp rAddI (tVar 3) (tC (.int 1))) (tCB (rLenSeq K) (tCons (tVar 2) tNil)))) (tTest (tOp rEq (tCall sp_l_any [] E0 (tCons (tVar 0) (tCons (tC (.int 3)) tNil))) (tC (.int 0))))) (tAsg (tOp (rCatA K) (tSl (rSlA K) (tVar 11) tNoPart (tPart (tUn rNeg (tC (.int 1))))) (tTup (tCons (tC .non) tNil))) (gName 11)) tNext)
    (tRet (tTup (tCons (tVar 11) (tCons (tVar 3) tNil)))))))))))))))))
theorem der_l_bent {P : Program} {w : World} {K : PySem.W.Frag} {mg : Str → Option Value} {base : Heap} {B : Adr} {cdv : Value} {A : Around} {outer : List Env} {s : Shared} {H : Hp} {E : XK} {sp_l_any : Sp} {sp_l_of : Sp} (T : Txt P K mg B)
    (G_l_any : FnOk P w K mg base CX0 1 B.a_l_any B.d_l_any ["_law_deal_here", "_law_bound"] sp_l_any)
    (G_l_of : FnOk P w K mg base CX0 2 B.a_l_of B.d_l_of ["_law_deal_here", "_law_some"] sp_l_of)
    (hr : Room 2 (A.deeper (envOfC "_law_bent" (defScope s_l_bent) s.heap.objs.size B.a_l_bent cdv))) :
    PSs (cxOf CX0 P w K mg base N_l_bent "_law_bent" (defScope s_l_bent) B.a_l_bent cdv A outer s H E).nox (defBody s_l_bent) (t_l_bent K sp_l_any sp_l_of) := by
  have nd := sc_l_bent.nd
  exact (pss_cons (ps_par3 (i := 3) (j := 4) (l := 5) rfl nd rfl rfl rfl (by decide) (by decide) (by decide) rfl rfl rfl (pa_cons (pe_call G_l_any (hr.mono (by decide)) (by rfl) T.g_l_any T.F_l_any.kp T.b_l_any .nil pass0 (pa_cons (pv 0) (pa_cons (pe_callB call_len_seq (by rfl) T.z_len bt_len (pa_cons (pv 2) pa_nil)) pa_nil))) (pa_cons (pe_call G_l_any (hr.mono (by decide)) (by rfl) T.g_l_any T.F_l_any.kp T.b_l_any .nil pass0 (pa_cons (pv 0) (pa_cons pe_int pa_nil))) (pa_cons (pe_lst pa_nil) pa_nil))) (by rfl))
      (pss_cons (ps_if (pt_cmpR op_eq (pv 4) pe_int (nomark _)) (pss_one (ps_ret (pe_tup (pa_cons (pe_call G_l_of (hr.mono (by decide)) (by rfl) T.g_l_of T.F_l_of.kp T.b_l_of .nil pass0 (pa_cons (pv 0) (pa_cons (pe_lst (pa_cons pe_non (pa_cons (pe_callTy call_list_of (by rfl) T.z_list bt_list (pa_cons (pv 2) pa_nil)) (pa_cons (pe_op op_catA (pv 2) (pe_tup (pa_cons (pe_tup pa_nil) pa_nil))) (pa_cons (pe_slice sl_tupA (pv 2) (po_some pe_int) po_none) (pa_cons pe_str (pa_cons pe_int (pa_cons (pe_tup pa_nil) pa_nil)))))))) pa_nil))) (pa_cons (pe_un un_neg pe_int) pa_nil))))) pss_nil)
      (pss_cons (ps_for PassesOwn.never rfl (pi_tup (pe_slice sl_tupA (pv 2) po_none (po_some (pv 3)))) (pg_name (i := 6) nd rfl (by first | exact Or.inl rfl | exact Or.inr rfl)) (pss_one (ps_set (i := 5) nd rfl (Or.inl rfl) (pe_op op_cat (pv 5) (pe_callTy call_list_of (by rfl) T.z_list bt_list (pa_cons (pv 6) pa_nil))))))
      (pss_cons (ps_set (i := 7) nd rfl (Or.inl rfl) (pe_ix ix_tup (pv 2) (pv 3) (fun _ _ => rfl)))
      (pss_cons (ps_set (i := 8) nd rfl (Or.inl rfl) (pe_call G_l_any (hr.mono (by decide)) (by rfl) T.g_l_any T.F_l_any.kp T.b_l_any .nil pass0 (pa_cons (pv 0) (pa_cons (pe_op op_add (pe_callB call_len_seq (by rfl) T.z_len bt_len (pa_cons (pv 7) pa_nil)) pe_int) pa_nil))))
      (pss_cons (ps_set (i := 9) nd rfl (Or.inl rfl) (pe_call G_l_of (hr.mono (by decide)) (by rfl) T.g_l_of T.F_l_of.kp T.b_l_of .nil pass0 (pa_cons (pv 0) (pa_cons (pe_lst (pa_cons pe_str (pa_cons pe_str (pa_cons pe_str (pa_cons pe_int (pa_cons pe_non (pa_cons pe_bl (pa_cons (pe_tup (pa_cons pe_str pa_nil)) (pa_cons pe_str (pa_cons pe_str pa_nil)))))))))) pa_nil))))
      (pss_cons (ps_if (PW.pt (pw_and (pt_cmpR op_eq (pv 4) pe_int (nomark _)) (pw_and1 (pt_cmpR op_gt (pe_callB call_len_seq (by rfl) T.z_len bt_len (pa_cons (pv 7) pa_nil)) pe_int (nomark _))))) (pss_one (ps_set (i := 9) nd rfl (Or.inl rfl) (pe_call G_l_of (hr.mono (by decide)) (by rfl) T.g_l_of T.F_l_of.kp T.b_l_of .nil pass0 (pa_cons (pv 0) (pa_cons (pv 7) pa_nil))))) pss_nil)
      (pss_cons (ps_if (PW.pt (pw_and (pt_cmpR op_eq (pv 4) pe_int (nomark _)) (pw_and1 (pt_cmpR (op_neD hr.units) (pv 5) (pe_lst pa_nil) (nomark _))))) (pss_one (ps_set (i := 9) nd rfl (Or.inl rfl) (pe_call G_l_of (hr.mono (by decide)) (by rfl) T.g_l_of T.F_l_of.kp T.b_l_of .nil pass0 (pa_cons (pv 0) (pa_cons (pv 5) pa_nil))))) pss_nil)
      (pss_cons (ps_set (i := 10) nd rfl (Or.inl rfl) (pe_op op_catA (pe_op op_catA (pe_slice sl_tupA (pv 7) po_none (po_some (pv 8))) (pe_tup (pa_cons (pv 9) pa_nil))) (pe_slice sl_tupA (pv 7) (po_some (pv 8)) po_none)))
      (pss_cons (ps_if (pt_cmpR op_eq (pv 4) pe_int (nomark _)) (pss_one (ps_set (i := 10) nd rfl (Or.inl rfl) (pe_op op_catA (pv 7) (pe_callTy call_tuple_of (by rfl) T.z_tuple bt_tuple (pa_cons (pe_lc (own := [("_law_letter", 12)]) (g := (gName 12)) (tt := tYes) rfl nd (pi_str (pe_slice sl_str pe_str po_none (po_some (pe_op op_sub (pe_op op_add (pe_ix ix_tup (pv 1) (pv 3) (fun _ _ => rfl)) pe_int) (pe_callB call_len_seq (by rfl) T.z_len bt_len (pa_cons (pv 7) pa_nil)))))) (blkOk_by (N := N_l_bent) (sc := defScope s_l_bent) (by decide +kernel)) (fun _ _ _ _ _ => (pg_name (i := 12) nd rfl (by first | exact Or.inl rfl | exact Or.inr rfl))) (fun _ _ _ _ _ => pts_nil) (fun _ _ _ _ _ => (pe_op op_add_str pe_str (pv 12)))) pa_nil))))) pss_nil)
      (pss_cons (ps_if (pt_cmpR op_eq (pv 4) pe_int (nomark _)) (pss_one (ps_set (i := 10) nd rfl (Or.inl rfl) (pe_call G_l_of (hr.mono (by decide)) (by rfl) T.g_l_of T.F_l_of.kp T.b_l_of .nil pass0 (pa_cons (pv 0) (pa_cons (pe_lst (pa_cons (pe_callTy call_list_of (by rfl) T.z_list bt_list (pa_cons (pv 7) pa_nil)) (pa_cons pe_non (pa_cons pe_str (pa_cons pe_int (pa_cons pe_str pa_nil)))))) pa_nil))))) pss_nil)
      (pss_cons (ps_set (i := 11) nd rfl (Or.inl rfl) (pe_op op_catA (pe_op op_catA (pe_slice sl_tupA (pv 2) po_none (po_some (pv 3))) (pe_tup (pa_cons (pv 10) pa_nil))) (pe_slice sl_tupA (pv 2) (po_some (pe_op op_add (pv 3) pe_int)) po_none)))
      (pss_cons (ps_if (PW.pt (pw_and (pt_cmpR op_lt (pe_op op_add (pv 3) pe_int) (pe_callB call_len_seq (by rfl) T.z_len bt_len (pa_cons (pv 2) pa_nil)) (nomark _)) (pw_and1 (pt_cmpR op_eq (pe_call G_l_any (hr.mono (by decide)) (by rfl) T.g_l_any T.F_l_any.kp T.b_l_any .nil pass0 (pa_cons (pv 0) (pa_cons pe_int pa_nil))) pe_int (nomark _))))) (pss_one (ps_set (i := 11) nd rfl (Or.inl rfl) (pe_op op_catA (pe_slice sl_tupA (pv 11) po_none (po_some (pe_un un_neg pe_int))) (pe_tup (pa_cons pe_non pa_nil))))) pss_nil)
      (pss_one (ps_ret (pe_tup (pa_cons (pv 11) (pa_cons (pv 3) pa_nil))))))))))))))))))
def t_l_heard (K : PySem.W.Frag) (B : Adr) (sp_deep_part : Sp) (sp_same_class : Sp) (sp_parting_place : Sp) : TS :=
  (tSeq (tTry K B.C_InvalidStanding 4 "at" (fun W => (tIfS (tTest (tOp rEq (tVar 3) (tC (.int 0)))) (tDrop (tCallS sp_deep_part (WE W) (tCons (tVar 0) (tCons (tVar 2) tNil)))) (tIfS (tTest (tOp rEq (tVar 3) (tC (.int 1)))) (tDrop (tCallS sp_same_class (WE W) (tCons (tVar 0) (tCons (tVar 2) (tCons (tC .non) tNil))))) (tIfS (tTest (tOp rEq (tVar 3) (tC (.int 2)))) (tDrop (tCallS sp_same_class (WE W) (tCons (tVar 0) (tCons (tVar 1) (tCons (tVar 2) tNil))))) (tIfS (tTest (tOp rEq (tVar 3) (tC (.int 3)))) (tDrop (tCallS sp_parting_place (WE W) (tCons (tVar 0) (tCons (tVar 2) (tCons (tC .non) tNil))))) (tDrop (tCallS sp_parting_place (WE W) (tCons (tVar 0) (tCons (tVar 1) (tCons (tVar 2) tNil)))))))))))
    (tRet (tC .non)))
theorem der_l_heard {P : Program} {w : World} {K : PySem.W.Frag} {mg : Str → Option Value} {base : Heap} {B : Adr} {cdv : Value} {A : Around} {outer : List Env} {s : Shared} {H : Hp} {E : XK} {sp_deep_part : Sp} {sp_same_class : Sp} {sp_parting_place : Sp} (T : Txt P K mg B)
    (G_deep_part : FnOk P w K mg base (L2.CX P w) 5 B.a_deep_part B.d_deep_part ["yard", "standing"] sp_deep_part)
    (G_same_class : FnOk P w K mg base (L2.CX P w) 6 B.a_same_class B.d_same_class ["yard", "one", "other"] sp_same_class)
    (G_parting_place : FnOk P w K mg base (L2.CX P w) 6 B.a_parting_place B.d_parting_place ["yard", "one", "other"] sp_parting_place)
    (hr : Room 6 (A.deeper (envOfC "_law_heard" (defScope s_l_heard) s.heap.objs.size B.a_l_heard cdv))) :
    PSs (cxOf CX0 P w K mg base N_l_heard "_law_heard" (defScope s_l_heard) B.a_l_heard cdv A outer s H E).nox (defBody s_l_heard) (t_l_heard K B sp_deep_part sp_same_class sp_parting_place) := by
  have nd := sc_l_heard.nd
  exact (pss_cons (ps_try_as (i := 4) (tb := fun W => (tIfS (tTest (tOp rEq (tVar 3) (tC (.int 0)))) (tDrop (tCallS sp_deep_part (WE W) (tCons (tVar 0) (tCons (tVar 2) tNil)))) (tIfS (tTest (tOp rEq (tVar 3) (tC (.int 1)))) (tDrop (tCallS sp_same_class (WE W) (tCons (tVar 0) (tCons (tVar 2) (tCons (tC .non) tNil))))) (tIfS (tTest (tOp rEq (tVar 3) (tC (.int 2)))) (tDrop (tCallS sp_same_class (WE W) (tCons (tVar 0) (tCons (tVar 1) (tCons (tVar 2) tNil))))) (tIfS (tTest (tOp rEq (tVar 3) (tC (.int 3)))) (tDrop (tCallS sp_parting_place (WE W) (tCons (tVar 0) (tCons (tVar 2) (tCons (tC .non) tNil))))) (tDrop (tCallS sp_parting_place (WE W) (tCons (tVar 0) (tCons (tVar 1) (tCons (tVar 2) tNil)))))))))) (ts := t_suite B.C_InvalidStanding 4 "at") (Wout := fun _ _ _ _ => False) rfl rfl nd rfl rfl ⟨by rfl, by decide, Or.inl T.g_InvalidStanding⟩ takes0
      (fun W pn xe tk hp => (pss_one (ps_if (pt_cmpR op_eq (pv 3) pe_int (nomark _)) (pss_one (ps_expr (pe_callS G_deep_part (hr.mono (by decide)) (by rfl) T.g_deep_part T.F_deep_part.kp T.b_deep_part (fun σ => passAt tk σ) (pa_cons (pv 0) (pa_cons (pv 2) pa_nil))))) (pss_one (ps_if (pt_cmpR op_eq (pv 3) pe_int (nomark _)) (pss_one (ps_expr (pe_callS G_same_class (hr.mono (by decide)) (by rfl) T.g_same_class T.F_same_class.kp T.b_same_class (fun σ => passAt tk σ) (pa_cons (pv 0) (pa_cons (pv 2) (pa_cons pe_non pa_nil)))))) (pss_one (ps_if (pt_cmpR op_eq (pv 3) pe_int (nomark _)) (pss_one (ps_expr (pe_callS G_same_class (hr.mono (by decide)) (by rfl) T.g_same_class T.F_same_class.kp T.b_same_class (fun σ => passAt tk σ) (pa_cons (pv 0) (pa_cons (pv 1) (pa_cons (pv 2) pa_nil)))))) (pss_one (ps_if (pt_cmpR op_eq (pv 3) pe_int (nomark _)) (pss_one (ps_expr (pe_callS G_parting_place (hr.mono (by decide)) (by rfl) T.g_parting_place T.F_parting_place.kp T.b_parting_place (fun σ => passAt tk σ) (pa_cons (pv 0) (pa_cons (pv 2) (pa_cons pe_non pa_nil)))))) (pss_one (ps_expr (pe_callS G_parting_place (hr.mono (by decide)) (by rfl) T.g_parting_place T.F_parting_place.kp T.b_parting_place (fun σ => passAt tk σ) (pa_cons (pv 0) (pa_cons (pv 1) (pa_cons (pv 2) pa_nil)))))))))))))))
      (fun a oe cls d pn hz hf => pss_one (ps_ret (pe_xf T.xf_InvalidStanding T.er_InvalidStanding.noN hz hf (pv 4)))))
      (pss_one (ps_ret pe_non)))
def t_law (K : PySem.W.Frag) (P : Program) (w : World) (B : Adr) (sp_l_refused : Sp) (sp_same_class : Sp) (sp_deep_part : Sp) (sp_parting_place : Sp) (sp_l_heard : Sp) (sp_l_any : Sp) (sp_l_bent : Sp) (sp_l_changed : Sp) (sp_l_of : Sp) (sp_l_all : Sp) (sp_l_parting : Sp) (sp_l_reached : Sp) (sp_l_filled : Sp) (sp_Yard_init : Sp) (sp_l_depths : Sp) (sp_l_names : Sp) (sp_l_size : Sp) (sp_l_heights : Sp) (sp_l_deal : Sp) : TS :=
  (tSeq (tAsg (tCall sp_l_deal [] E0 (tCons (tVar 0) (tCons (tC (.int 7)) tNil))) (gName 1))
    (tSeq (tAsg (tCall sp_l_heights [] E0 (tCons (tVar 1) (tCons (tLst (tCons (tC (.int 3)) (tCons (tC (.int 3)) (tCons (tC (.int 4)) tNil)))) (tCons (tC (.int 3)) (tCons (tC (.int 12)) tNil))))) (gName 2))
    (tSeq (tAsg (tLc (iRng1 (tCons (tOp rAddI (tCB (rSumT K) (tCons (tVar 2) tNil)) (tC (.int 1))) tNil)) (gName 19) (tTest (tOp rLeI (tCall sp_l_size [] E0 (tCons (tVar 2) (tCons (tVar 19) tNil))) (tC (.int 96)))) (tVar 19) [19]) (gName 3))
    (tSeq (tAsg (tOp (rIxL K) (tVar 3) (tCB rMax2 (tCons (tC (.int 0)) (tCons (tOp rSubI (tOp rSubI (tCB (rLenSeq K) (tCons (tVar 3) tNil)) (tC (.int 1))) (tCall sp_l_any [] E0 (tCons (tVar 1) (tCons (tC (.int 3)) tNil)))) tNil)))) (gName 4))
    (tSeq (tAsg (tCall sp_l_names [] E0 (tCons (tVar 1) (tCons (tOp rAddI (tVar 4) (tC (.int 1))) tNil))) (gName 5))
    (tSeq (tPar 6 7 (tCons (tSl (rSlL K) (tVar 5) tNoPart (tPart (tUn rNeg (tC (.int 1))))) (tCons (tOp (rIxL K) (tVar 5) (tUn rNeg (tC (.int 1)))) tNil)))
    (tSeq (tPar3 8 9 10 (tCons (tCall sp_l_filled [] E0 (tCons (tVar 1) (tCons (tVar 2) (tCons (tVar 6) tNil)))) (tCons (tMake B.C_Yard sp_Yard_init [] E0 (tCons (tVar 2) tNil)) (tCons (tCall sp_l_depths [] E0 (tCons (tVar 2) (tCons (tVar 4) tNil))) tNil))))
    (tSeq (tAsg (tCall sp_l_reached [] E0 (tCons (tVar 2) (tCons (tVar 8) tNil))) (gName 11))
    (tSeq (tIfS (tTest (tOp rNe (tCB (rReprG K) (tCons (tCall sp_deep_part [] E0 (tCons (tVar 9) (tCons (tVar 8) tNil))) tNil)) (tCB (rReprG K) (tCons (tCB (rTupleOf K) (tCons (tLc (iZipTL K (tCons (tVar 8) (tCons (tVar 10) tNil))) (gTup K 2 (gCons (gName 20) (gCons (gName 21) gNil))) tYes (tSl (rSlA K) (tVar 20) tNoPart (tPart (tVar 21))) [20, 21]) tNil)) tNil)))) (tRet (tC (.bl false))) tNext)
    (tSeq (tFor (iEnum K (tCons (tCall sp_l_all [] E0 (tCons (tVar 2) (tCons (tVar 6) tNil))) tNil)) (gTup K 2 (gCons (gName 12) (gCons (gName 13) gNil))) (tSeq (tAsg (tCall sp_same_class [] E0 (tCons (tVar 9) (tCons (tVar 8) (tCons (tVar 13) tNil)))) (gName 14))
    (tSeq (tIfS (tOr (tNot (tB (tCB (rIsi K) (tCons (tVar 14) (tCons (tC (.ty "bool")) tNil))))) (tTest (tOp rNe (tVar 14) (tOp (rInN K P w) (tVar 13) (tVar 11))))) (tRet (tC (.bl false))) tNext)
    (tSeq (tAsg (tCall sp_l_parting [] E0 (tCons (tVar 10) (tCons (tVar 8) (tCons (tVar 13) tNil)))) (gName 15))
    (tSeq (tIfS (tTest (tOp rNe (tVar 14) (tOp rIsNone (tVar 15) (tC .non)))) (tRet (tC (.bl false))) tNext)
    (tIfS (tAnd (tTest (tOp rLtI (tVar 12) (tC (.int 40)))) (tTest (tOp rNe (tCB (rReprG K) (tCons (tCallK sp_parting_place gV_parting_place_1_other_one E0 (tCons (tVar 9) tNil) (tCons (tVar 13) (tCons (tVar 8) tNil))) tNil)) (tCB (rReprG K) (tCons (tVar 15) tNil))))) (tRet (tC (.bl false))) tNext))))))
    (tSeq (tIfS (tTest (tOp rGtI (tVar 4) (tC (.int 0)))) (tSeq (tAsg (tCall sp_l_changed [] E0 (tCons (tVar 8) (tCons (tCall sp_l_of [] E0 (tCons (tVar 1) (tCons (tVar 6) tNil))) (tCons (tVar 7) tNil)))) (gName 13))
    (tSeq (tIfS (tOr (tB (tCall sp_same_class [] E0 (tCons (tVar 9) (tCons (tVar 8) (tCons (tVar 13) tNil))))) (tB (tCallK sp_same_class gV_same_class_0_other_one_yard E0 tNil (tCons (tVar 8) (tCons (tVar 13) (tCons (tVar 9) tNil)))))) (tRet (tC (.bl false))) tNext)
    (tIfS (tTest (tOp rNe (tCB (rReprG K) (tCons (tCall sp_l_refused [] E0 (tCons (tVar 9) (tCons (tVar 8) (tCons (tVar 13) tNil)))) tNil)) (tC (.str "'boxes'")))) (tRet (tC (.bl false))) tNext))) tNext)
    (tSeq (tFor (iRng1 (tCons (tC (.int 3)) tNil)) (gName 16) (tSeq (tAsg (tCall sp_l_bent [] E0 (tCons (tVar 1) (tCons (tVar 2) (tCons (tVar 8) tNil)))) (gTup K 2 (gCons (gName 17) (gCons (gName 15) gNil))))
    (tIfS (tTest (tOp rNe (tCB (rReprG K) (tCons (tCall sp_l_heard [] E0 (tCons (tVar 9) (tCons (tVar 8) (tCons (tVar 17) (tCons (tCall sp_l_any [] E0 (tCons (tVar 1) (tCons (tC (.int 5)) tNil))) tNil))))) tNil)) (tCB (rReprG K) (tCons (tVar 15) tNil)))) (tRet (tC (.bl false))) tNext)))
    (tSeq (tIfS (tOr (tTest (tOp (rNeD K) (tCallK sp_deep_part gV_deep_part_0_standing_yard E0 tNil (tCons (tVar 8) (tCons (tVar 9) tNil))) (tCall sp_deep_part [] E0 (tCons (tVar 9) (tCons (tVar 8) tNil))))) (tTest (tOp rNotNone (tCallK sp_parting_place gV_parting_place_0_one_yard_other E0 tNil (tCons (tVar 8) (tCons (tVar 9) (tCons (tVar 8) tNil)))) (tC .non)))) (tRet (tC (.bl false))) tNext)
    (tSeq (tAsg (tCB (rTupleOf K) (tCons (tLc (iTup K (tVar 8)) (gName 20) tYes (tSl (rSlA K) (tVar 20) tNoPart (tPart (tUn rNeg (tC (.int 1))))) [20]) tNil)) (gName 18))
    (tSeq (tIfS (tAnd (tTest (tOp rGtI (tVar 4) (tC (.int 0)))) (tOr (tB (tCall sp_same_class [] E0 (tCons (tVar 9) (tCons (tVar 8) (tCons (tVar 18) tNil))))) (tTest (tOp rNe (tCB (rReprG K) (tCons (tCall sp_l_refused [] E0 (tCons (tVar 9) (tCons (tVar 18) (tCons (tVar 8) tNil)))) tNil)) (tC (.str "'boxes'")))))) (tRet (tC (.bl false))) tNext)
    (tRet (tAndV (tOp rEq (tCB (rReprG K) (tCons (tCall sp_l_refused [] E0 (tCons (tVar 9) (tCons (tVar 8) (tCons (tVar 8) tNil)))) tNil)) (tC (.str "None"))) (tOp (rInN K P w) (tVar 8) (tVar 11)))))))))))))))))))
theorem der_law {P : Program} {w : World} {K : PySem.W.Frag} {mg : Str → Option Value} {base : Heap} {B : Adr} {cdv : Value} {A : Around} {outer : List Env} {s : Shared} {H : Hp} {E : XK} {sp_l_refused : Sp} {sp_same_class : Sp} {sp_deep_part : Sp} {sp_parting_place : Sp} {sp_l_heard : Sp} {sp_l_any : Sp} {sp_l_bent : Sp} {sp_l_changed : Sp} {sp_l_of : Sp} {sp_l_all : Sp} {sp_l_parting : Sp} {sp_l_reached : Sp} {sp_l_filled : Sp} {sp_Yard_init : Sp} {sp_l_depths : Sp} {sp_l_names : Sp} {sp_l_size : Sp} {sp_l_heights : Sp} {sp_l_deal : Sp} (T : Txt P K mg B) (hgd : A.guards = some [])
    (G_l_refused : FnOk P w K mg base CX0 7 B.a_l_refused B.d_l_refused ["_law_yard", "_law_one", "_law_other"] sp_l_refused)
    (G_same_class : FnOk P w K mg base (L2.CX P w) 6 B.a_same_class B.d_same_class ["yard", "one", "other"] sp_same_class)
    (G_deep_part : FnOk P w K mg base (L2.CX P w) 5 B.a_deep_part B.d_deep_part ["yard", "standing"] sp_deep_part)
    (G_parting_place : FnOk P w K mg base (L2.CX P w) 6 B.a_parting_place B.d_parting_place ["yard", "one", "other"] sp_parting_place)
    (G_l_heard : FnOk P w K mg base CX0 7 B.a_l_heard B.d_l_heard ["_law_yard", "_law_one", "_law_value", "_law_work"] sp_l_heard)
    (G_l_any : FnOk P w K mg base CX0 1 B.a_l_any B.d_l_any ["_law_deal_here", "_law_bound"] sp_l_any)
    (G_l_bent : FnOk P w K mg base CX0 3 B.a_l_bent B.d_l_bent ["_law_deal_here", "_law_heights_here", "_law_one"] sp_l_bent)
    (G_l_changed : FnOk P w K mg base CX0 1 B.a_l_changed B.d_l_changed ["_law_one", "_law_box", "_law_name"] sp_l_changed)
    (G_l_of : FnOk P w K mg base CX0 2 B.a_l_of B.d_l_of ["_law_deal_here", "_law_some"] sp_l_of)
    (G_l_all : FnOk P w K mg base CX0 2 B.a_l_all B.d_l_all ["_law_heights_here", "_law_names_here"] sp_l_all)
    (G_l_parting : FnOk P w K mg base CX0 1 B.a_l_parting B.d_l_parting ["_law_depths_here", "_law_one", "_law_other"] sp_l_parting)
    (G_l_reached : FnOk P w K mg base CX0 1 B.a_l_reached B.d_l_reached ["_law_heights_here", "_law_standing"] sp_l_reached)
    (G_l_filled : FnOk P w K mg base CX0 3 B.a_l_filled B.d_l_filled ["_law_deal_here", "_law_rooms", "_law_boxes"] sp_l_filled)
    (G_Yard_init : FnOk P w K mg base CX0 3 B.a_Yard_init B.d_Yard_init ["self", "heights"] sp_Yard_init)
    (G_l_depths : FnOk P w K mg base CX0 1 B.a_l_depths B.d_l_depths ["_law_heights_here", "_law_boxes"] sp_l_depths)
    (G_l_names : FnOk P w K mg base CX0 3 B.a_l_names B.d_l_names ["_law_deal_here", "_law_many"] sp_l_names)
    (G_l_size : FnOk P w K mg base CX0 1 B.a_l_size B.d_l_size ["_law_rooms", "_law_many"] sp_l_size)
    (G_l_heights : FnOk P w K mg base CX0 3 B.a_l_heights B.d_l_heights ["_law_deal_here", "_law_sizes", "_law_tall", "_law_most"] sp_l_heights)
    (G_l_deal : FnOk P w K mg base CX0 1 B.a_l_deal B.d_l_deal ["_law_script", "_law_base"] sp_l_deal)
    (hr : Room 7 (A.deeper (envOfC "law" (defScope s_law) s.heap.objs.size B.a_law cdv))) :
    PSs (cxOf CX0 P w K mg base N_law "law" (defScope s_law) B.a_law cdv A outer s H E).nox (defBody s_law) (t_law K P w B sp_l_refused sp_same_class sp_deep_part sp_parting_place sp_l_heard sp_l_any sp_l_bent sp_l_changed sp_l_of sp_l_all sp_l_parting sp_l_reached sp_l_filled sp_Yard_init sp_l_depths sp_l_names sp_l_size sp_l_heights sp_l_deal) := by
  have nd := sc_law.nd
  exact (pss_cons (ps_set (i := 1) nd rfl (Or.inl rfl) (pe_call G_l_deal (hr.mono (by decide)) (by rfl) T.g_l_deal T.F_l_deal.kp T.b_l_deal .nil pass0 (pa_cons (pv 0) (pa_cons pe_int pa_nil))))
      (pss_cons (ps_set (i := 2) nd rfl (Or.inr rfl) (pe_call G_l_heights (hr.mono (by decide)) (by rfl) T.g_l_heights T.F_l_heights.kp T.b_l_heights .nil pass0 (pa_cons (pv 1) (pa_cons (pe_lst (pa_cons pe_int (pa_cons pe_int (pa_cons pe_int pa_nil)))) (pa_cons pe_int (pa_cons pe_int pa_nil))))))
      (pss_cons (ps_setLc (i := 3) (own := [("_law_many", 19)]) (g := (gName 19)) (tt := (tTest (tOp rLeI (tCall sp_l_size [] E0 (tCons (tVar 2) (tCons (tVar 19) tNil))) (tC (.int 96))))) rfl nd rfl rfl (sw_true rfl rfl rfl (by decide +kernel)) (pi_range1 (by rfl) T.z_range (pa_cons (pe_op op_add (pe_callB (cr_sumT rfl) (by rfl) T.z_sum bt_sum (pa_cons (pv 2) pa_nil)) pe_int) pa_nil)) (blkOk_by (N := N_law) (sc := defScope s_law) (by decide +kernel)) (fun _ _ _ _ _ => (pg_name (i := 19) nd rfl (by first | exact Or.inl rfl | exact Or.inr rfl))) (fun _ _ _ _ _ => (pts_one (pt_cmpR op_le (pe_call G_l_size (hr.mono (by decide)) (by rfl) T.g_l_size T.F_l_size.kp T.b_l_size .nil pass0 (pa_cons (pv 2) (pa_cons (pv 19) pa_nil))) pe_int (nomark _)))) (fun _ _ _ _ _ => (pv 19)))
      (pss_cons (ps_set (i := 4) nd rfl (Or.inl rfl) (pe_ix ix_list (pv 3) (pe_callB (call_max2 rfl) (by rfl) T.z_max bt_max (pa_cons pe_int (pa_cons (pe_op op_sub (pe_op op_sub (pe_callB call_len_seq (by rfl) T.z_len bt_len (pa_cons (pv 3) pa_nil)) pe_int) (pe_call G_l_any (hr.mono (by decide)) (by rfl) T.g_l_any T.F_l_any.kp T.b_l_any .nil pass0 (pa_cons (pv 1) (pa_cons pe_int pa_nil)))) pa_nil))) (fun _ _ => rfl)))
      (pss_cons (ps_set (i := 5) nd rfl (Or.inl rfl) (pe_call G_l_names (hr.mono (by decide)) (by rfl) T.g_l_names T.F_l_names.kp T.b_l_names .nil pass0 (pa_cons (pv 1) (pa_cons (pe_op op_add (pv 4) pe_int) pa_nil))))
      (pss_cons (ps_par (i := 6) (j := 7) rfl nd rfl rfl (by decide) rfl rfl (pa_cons (pe_slice sl_list (pv 5) po_none (po_some (pe_un un_neg pe_int))) (pa_cons (pe_ix ix_list (pv 5) (pe_un un_neg pe_int) (fun _ _ => rfl)) pa_nil)) (by rfl))
      (pss_cons (ps_par3 (i := 8) (j := 9) (l := 10) rfl nd rfl rfl rfl (by decide) (by decide) (by decide) rfl rfl rfl (pa_cons (pe_call G_l_filled (hr.mono (by decide)) (by rfl) T.g_l_filled T.F_l_filled.kp T.b_l_filled .nil pass0 (pa_cons (pv 1) (pa_cons (pv 2) (pa_cons (pv 6) pa_nil)))) (pa_cons (pe_make T.mk_Yard G_Yard_init (hr.mono (by decide)) (by rfl) T.g_Yard T.b_Yard_init .nil pass0 (pa_cons (pv 2) pa_nil)) (pa_cons (pe_call G_l_depths (hr.mono (by decide)) (by rfl) T.g_l_depths T.F_l_depths.kp T.b_l_depths .nil pass0 (pa_cons (pv 2) (pa_cons (pv 4) pa_nil))) pa_nil))) (by rfl))
      (pss_cons (ps_set (i := 11) nd rfl (Or.inl rfl) (pe_call G_l_reached (hr.mono (by decide)) (by rfl) T.g_l_reached T.F_l_reached.kp T.b_l_reached .nil pass0 (pa_cons (pv 2) (pa_cons (pv 8) pa_nil))))
      (pss_cons (ps_if (pt_cmpR op_ne (pe_callB (call_reprG hgd hr.units) (by rfl) T.z_repr bt_repr (pa_cons (pe_call G_deep_part (hr.mono (by decide)) (by rfl) T.g_deep_part T.F_deep_part.kp T.b_deep_part .nil passL (pa_cons (pv 9) (pa_cons (pv 8) pa_nil))) pa_nil)) (pe_callB (call_reprG hgd hr.units) (by rfl) T.z_repr bt_repr (pa_cons (pe_callTy call_tuple_of (by rfl) T.z_tuple bt_tuple (pa_cons (pe_lc (own := [("_law_row", 20), ("_law_depth", 21)]) (g := (gTup K 2 (gCons (gName 20) (gCons (gName 21) gNil)))) (tt := tYes) rfl nd (pi_zipTL (by rfl) T.z_zip (pa_cons (pv 8) (pa_cons (pv 10) pa_nil))) (blkOk_by (N := N_law) (sc := defScope s_law) (by decide +kernel)) (fun _ _ _ _ _ => (pg_tup rfl (pgs_cons (pg_name (i := 20) nd rfl (by first | exact Or.inl rfl | exact Or.inr rfl)) (pgs_cons (pg_name (i := 21) nd rfl (by first | exact Or.inl rfl | exact Or.inr rfl)) pgs_nil)))) (fun _ _ _ _ _ => pts_nil) (fun _ _ _ _ _ => (pe_slice sl_tupA (pv 20) po_none (po_some (pv 21))))) pa_nil)) pa_nil)) (nomark _)) (pss_one (ps_ret pe_bl)) pss_nil)
      (pss_cons (ps_for PassesOwn.never rfl (pi_enum (by rfl) T.z_enumerate (pa_cons (pe_call G_l_all (hr.mono (by decide)) (by rfl) T.g_l_all T.F_l_all.kp T.b_l_all .nil pass0 (pa_cons (pv 2) (pa_cons (pv 6) pa_nil))) pa_nil)) (pg_tup rfl (pgs_cons (pg_name (i := 12) nd rfl (by first | exact Or.inl rfl | exact Or.inr rfl)) (pgs_cons (pg_name (i := 13) nd rfl (by first | exact Or.inl rfl | exact Or.inr rfl)) pgs_nil))) (pss_cons (ps_set (i := 14) nd rfl (Or.inl rfl) (pe_call G_same_class (hr.mono (by decide)) (by rfl) T.g_same_class T.F_same_class.kp T.b_same_class .nil passL (pa_cons (pv 9) (pa_cons (pv 8) (pa_cons (pv 13) pa_nil)))))
      (pss_cons (ps_if (PW.pt (pw_or (pt_not (pt_val (pe_callB call_isi (by rfl) T.z_isinstance bt_isinstance (pa_cons (pv 14) (pa_cons (pe_bltn (by rfl) T.z_bool bt_bool rfl) pa_nil))))) (pw_or1 (pt_cmpR op_ne (pv 14) (pe_cmpR (op_inN hr.units) (pv 13) (pv 11) rfl) (nomark _))))) (pss_one (ps_ret pe_bl)) pss_nil)
      (pss_cons (ps_set (i := 15) nd rfl (Or.inl rfl) (pe_call G_l_parting (hr.mono (by decide)) (by rfl) T.g_l_parting T.F_l_parting.kp T.b_l_parting .nil pass0 (pa_cons (pv 10) (pa_cons (pv 8) (pa_cons (pv 13) pa_nil)))))
      (pss_cons (ps_if (pt_cmpR op_ne (pv 14) (pe_cmpR op_isN (pv 15) pe_non (nomark _)) (nomark _)) (pss_one (ps_ret pe_bl)) pss_nil)
      (pss_one (ps_if (PW.pt (pw_and (pt_cmpR op_lt (pv 12) pe_int (nomark _)) (pw_and1 (pt_cmpR op_ne (pe_callB (call_reprG hgd hr.units) (by rfl) T.z_repr bt_repr (pa_cons (pe_callK G_parting_place (hr.mono (by decide)) (by rfl) T.g_parting_place T.F_parting_place.kp (kb_parting_place_1_other_one T) passL (pa_cons (pv 9) pa_nil) (pk_cons (pv 13) (pk_cons (pv 8) pk_nil))) pa_nil)) (pe_callB (call_reprG hgd hr.units) (by rfl) T.z_repr bt_repr (pa_cons (pv 15) pa_nil)) (nomark _))))) (pss_one (ps_ret pe_bl)) pss_nil)))))))
      (pss_cons (ps_if (pt_cmpR op_gt (pv 4) pe_int (nomark _)) (pss_cons (ps_set (i := 13) nd rfl (Or.inl rfl) (pe_call G_l_changed (hr.mono (by decide)) (by rfl) T.g_l_changed T.F_l_changed.kp T.b_l_changed .nil pass0 (pa_cons (pv 8) (pa_cons (pe_call G_l_of (hr.mono (by decide)) (by rfl) T.g_l_of T.F_l_of.kp T.b_l_of .nil pass0 (pa_cons (pv 1) (pa_cons (pv 6) pa_nil))) (pa_cons (pv 7) pa_nil)))))
      (pss_cons (ps_if (PW.pt (pw_or (pt_val (pe_call G_same_class (hr.mono (by decide)) (by rfl) T.g_same_class T.F_same_class.kp T.b_same_class .nil passL (pa_cons (pv 9) (pa_cons (pv 8) (pa_cons (pv 13) pa_nil))))) (pw_or1 (pt_val (pe_callK0 G_same_class (hr.mono (by decide)) (by rfl) T.g_same_class T.F_same_class.kp (kb_same_class_0_other_one_yard T) passL (pk_cons (pv 8) (pk_cons (pv 13) (pk_cons (pv 9) pk_nil)))))))) (pss_one (ps_ret pe_bl)) pss_nil)
      (pss_one (ps_if (pt_cmpR op_ne (pe_callB (call_reprG hgd hr.units) (by rfl) T.z_repr bt_repr (pa_cons (pe_call G_l_refused (hr.mono (by decide)) (by rfl) T.g_l_refused T.F_l_refused.kp T.b_l_refused .nil pass0 (pa_cons (pv 9) (pa_cons (pv 8) (pa_cons (pv 13) pa_nil)))) pa_nil)) pe_str (nomark _)) (pss_one (ps_ret pe_bl)) pss_nil)))) pss_nil)
      (pss_cons (ps_for PassesOwn.never rfl (pi_range1 (by rfl) T.z_range (pa_cons pe_int pa_nil)) (pg_name (i := 16) nd rfl (by first | exact Or.inl rfl | exact Or.inr rfl)) (pss_cons (ps_asg (pe_call G_l_bent (hr.mono (by decide)) (by rfl) T.g_l_bent T.F_l_bent.kp T.b_l_bent .nil pass0 (pa_cons (pv 1) (pa_cons (pv 2) (pa_cons (pv 8) pa_nil)))) (pg_tup rfl (pgs_cons (pg_name (i := 17) nd rfl (by first | exact Or.inl rfl | exact Or.inr rfl)) (pgs_cons (pg_name (i := 15) nd rfl (by first | exact Or.inl rfl | exact Or.inr rfl)) pgs_nil))))
      (pss_one (ps_if (pt_cmpR op_ne (pe_callB (call_reprG hgd hr.units) (by rfl) T.z_repr bt_repr (pa_cons (pe_call G_l_heard (hr.mono (by decide)) (by rfl) T.g_l_heard T.F_l_heard.kp T.b_l_heard .nil pass0 (pa_cons (pv 9) (pa_cons (pv 8) (pa_cons (pv 17) (pa_cons (pe_call G_l_any (hr.mono (by decide)) (by rfl) T.g_l_any T.F_l_any.kp T.b_l_any .nil pass0 (pa_cons (pv 1) (pa_cons pe_int pa_nil))) pa_nil))))) pa_nil)) (pe_callB (call_reprG hgd hr.units) (by rfl) T.z_repr bt_repr (pa_cons (pv 15) pa_nil)) (nomark _)) (pss_one (ps_ret pe_bl)) pss_nil))))
      (pss_cons (ps_if (PW.pt (pw_or (pt_cmpR (op_neD hr.units) (pe_callK0 G_deep_part (hr.mono (by decide)) (by rfl) T.g_deep_part T.F_deep_part.kp (kb_deep_part_0_standing_yard T) passL (pk_cons (pv 8) (pk_cons (pv 9) pk_nil))) (pe_call G_deep_part (hr.mono (by decide)) (by rfl) T.g_deep_part T.F_deep_part.kp T.b_deep_part .nil passL (pa_cons (pv 9) (pa_cons (pv 8) pa_nil))) (nomark _)) (pw_or1 (pt_cmpR op_notN (pe_callK0 G_parting_place (hr.mono (by decide)) (by rfl) T.g_parting_place T.F_parting_place.kp (kb_parting_place_0_one_yard_other T) passL (pk_cons (pv 8) (pk_cons (pv 9) (pk_cons (pv 8) pk_nil)))) pe_non (nomark _))))) (pss_one (ps_ret pe_bl)) pss_nil)
      (pss_cons (ps_set (i := 18) nd rfl (Or.inl rfl) (pe_callTy call_tuple_of (by rfl) T.z_tuple bt_tuple (pa_cons (pe_lc (own := [("_law_row", 20)]) (g := (gName 20)) (tt := tYes) rfl nd (pi_tup (pv 8)) (blkOk_by (N := N_law) (sc := defScope s_law) (by decide +kernel)) (fun _ _ _ _ _ => (pg_name (i := 20) nd rfl (by first | exact Or.inl rfl | exact Or.inr rfl))) (fun _ _ _ _ _ => pts_nil) (fun _ _ _ _ _ => (pe_slice sl_tupA (pv 20) po_none (po_some (pe_un un_neg pe_int))))) pa_nil)))
      (pss_cons (ps_if (PW.pt (pw_and (pt_cmpR op_gt (pv 4) pe_int (nomark _)) (pw_and1 (PW.pt (pw_or (pt_val (pe_call G_same_class (hr.mono (by decide)) (by rfl) T.g_same_class T.F_same_class.kp T.b_same_class .nil passL (pa_cons (pv 9) (pa_cons (pv 8) (pa_cons (pv 18) pa_nil))))) (pw_or1 (pt_cmpR op_ne (pe_callB (call_reprG hgd hr.units) (by rfl) T.z_repr bt_repr (pa_cons (pe_call G_l_refused (hr.mono (by decide)) (by rfl) T.g_l_refused T.F_l_refused.kp T.b_l_refused .nil pass0 (pa_cons (pv 9) (pa_cons (pv 18) (pa_cons (pv 8) pa_nil)))) pa_nil)) pe_str (nomark _)))))))) (pss_one (ps_ret pe_bl)) pss_nil)
      (pss_one (ps_ret (pe_and (pe_cmpR op_eq (pe_callB (call_reprG hgd hr.units) (by rfl) T.z_repr bt_repr (pa_cons (pe_call G_l_refused (hr.mono (by decide)) (by rfl) T.g_l_refused T.F_l_refused.kp T.b_l_refused .nil pass0 (pa_cons (pv 9) (pa_cons (pv 8) (pa_cons (pv 8) pa_nil)))) pa_nil)) pe_str (nomark _)) (pe_one (pe_cmpR (op_inN hr.units) (pv 8) (pv 11) rfl))))))))))))))))))))
end Sd

set_option Elab.async false
set_option linter.all false
set_option maxRecDepth 100000
set_option maxHeartbeats 2000000
/-! Sp0: promises of one form; loops; small evaluations. -/
namespace Sd
open PySem PySem.Spec PyProof.Rows L2

/-- a promise: of n values, Pre at the entry (with some a), Post at the exit, all that R a keeps is kept -/
def spR {α : Type} (n : Nat) (R : α → Rl) (Pre : α → List V → Hp → Prop) (Post : α → V → Hp → Hp → Prop) : Sp := fun vs H Q _ => vs.length = n ∧ ∃ a, (R a).r H H ∧ Pre a vs H ∧ ∀ v H', (R a).r H H' → Post a v H H' → Q v H'
theorem spR_len {α : Type} {n : Nat} {R : α → Rl} {Pre : α → List V → Hp → Prop} {Post : α → V → Hp → Hp → Prop} {ps : List Str} (hp : ps.length = n) : ∀ vs H Q E, spR n R Pre Post vs H Q E → vs.length = ps.length := fun vs H Q E h => h.1.trans hp.symm
section
variable {α : Type} {n : Nat} {R0 : α → Rl} {Pre : α → List V → Hp → Prop} {Post : α → V → Hp → Hp → Prop} {R : Rl} {env : Env'} {H : Hp} {t : TA} {P : Pr} {Ps : List Pr} {C : List V → Hp → Prop} {E : XK}
/-- a relation that goes on as R does -/
def Sub (R0 R : Rl) (H : Hp) : Prop := ∀ H1, R.r H H1 → R0.r H1 H1 ∧ ∀ H2, R0.r H1 H2 → R.r H1 H2
theorem sub_E {R : Rl} {H : Hp} : Sub RE R H := fun H1 r1 => ⟨Ex.refl _, fun H2 e => R.ofEx (R.again r1) e⟩
theorem sub_X {d l : Addr} {H : Hp} : Sub (RX d l) (RX d l) H := fun H1 r1 => ⟨(RX d l).again r1, fun H2 e => e⟩
theorem ev_spR (ha : EvA R t env H Ps) (a : α) (hR : Sub (R0 a) R H) (hn : Ps.length = n) (pre : ∀ vs H1, R.r H H1 → Vs Ps vs H1 → Pre a vs H1) (post : ∀ v H1 H2, R.r H H1 → R.r H1 H2 → Post a v H1 H2 → P.P v H2) : Ev R (tCall (spR n R0 Pre Post) [] E t) env H P :=
  ev_call ha fun vs H1 r1 pv Q q => ⟨(Paired.length pv).trans hn, a, (hR H1 r1).1, pre vs H1 r1 pv, fun v H2 e p => q v H2 ((hR H1 r1).2 H2 e) (post v H1 H2 r1 ((hR H1 r1).2 H2 e) p)⟩
/-- .. that gives a new list -/
theorem ev_spRL (ha : EvA R t env H Ps) (a : α) (hR : Sub (R0 a) R H) (hn : Ps.length = n) (pre : ∀ vs H1, R.r H H1 → Vs Ps vs H1 → Pre a vs H1) (post : ∀ v H1 H2, R.r H H1 → R.r H1 H2 → Post a v H1 H2 → ∃ p xs, v = .ref p ∧ H1 p = none ∧ H2 p = some (.lst xs) ∧ C xs H2) : EvL R (tCall (spR n R0 Pre Post) [] E t) env H C :=
  ev_callL ha fun vs H1 r1 pv Q q => ⟨(Paired.length pv).trans hn, a, (hR H1 r1).1, pre vs H1 r1 pv, fun v H2 e pp => by
    obtain ⟨p, xs, rfl, h1, h2, c⟩ := post v H1 H2 r1 ((hR H1 r1).2 H2 e) pp
    exact q p xs H2 ((hR H1 r1).2 H2 e) h1 h2 c⟩
/-- .. of a new list alone -/
theorem ev_spRN {te : TE} {D : List V → Hp → Prop} (ha : EvL R te env H D) (a : α) (hR : Sub (R0 a) R H) (hn : 1 = n) (pre : ∀ p xs H1, R.r H H1 → H1 p = some (.lst xs) → ¬ R.ex p → D xs H1 → Pre a [.ref p] H1) (post : ∀ v H1 H2, R.r H H1 → R.r H1 H2 → Post a v H1 H2 → P.P v H2) : Ev R (tCall (spR n R0 Pre Post) [] E (tCons te tNil)) env H P :=
  ev_callN ha fun p xs H1 r1 e nx c Q q => ⟨hn, a, (hR H1 r1).1, pre p xs H1 r1 e nx c, fun v H2 e2 pp => q v H2 ((hR H1 r1).2 H2 e2) (post v H1 H2 r1 ((hR H1 r1).2 H2 e2) pp)⟩
end
/-- the entry's slots -/
theorem start_slots {N : List Str} {vs : List V} {H : Hp} {Ps : List Pr} (h : Vs Ps vs H) (hl : Ps.length + (N.length - Ps.length) = N.length) : Slots (start N vs) (Ps.map some ++ List.replicate (N.length - Ps.length) none) H := by
  have hlen := Paired.length h
  have e : start N vs = vs.map some ++ List.replicate (N.length - vs.length) none := rfl
  rw [e, hlen]
  clear e hl
  generalize N.length - Ps.length = k
  clear hlen
  induction h with
  | nil => exact Slots.nones
  | cons a b ih => exact Slots.cons a ih

theorem paired_get {α β : Type} {r : α → β → Prop} : ∀ {xs : List α} {ys : List β} {i : Nat} {x : α}, Paired r xs ys → xs[i]? = some x → ∃ y, ys[i]? = some y ∧ r x y
  | _, _, _, _, .nil, e => by simp at e
  | _, _, 0, _, .cons a _, e => by
    cases e
    exact ⟨_, rfl, a⟩
  | _, _, i + 1, _, .cons _ t, e => by
    obtain ⟨y, h1, h2⟩ := paired_get (i := i) t (by simpa using e)
    exact ⟨y, by simpa using h1, h2⟩
/-! ### loops -/
/-- forgetting what is said of some slots -/
inductive WkE : Env' → Env' → Prop
  | nil : WkE [] []
  | s {x : Option Pr} {a b : Env'} : WkE a b → WkE (x :: a) (x :: b)
  | n {x : Option Pr} {a b : Env'} : WkE a b → WkE (none :: a) (x :: b)
theorem WkE.len {a b : Env'} (w : WkE a b) : a.length = b.length := by
  induction w with
  | nil => rfl
  | s _ ih => simp [ih]
  | n _ ih => simp [ih]
theorem WkE.get {a b : Env'} (w : WkE a b) : ∀ (i : Nat) (P : Pr), a[i]? = some (some P) → b[i]? = some (some P) := by
  induction w with
  | nil => intro i P e; exact e
  | s _ ih =>
    intro i P e
    cases i with
    | zero => exact e
    | succ i => simpa using ih i P (by simpa using e)
  | n _ ih =>
    intro i P e
    cases i with
    | zero => simp at e
    | succ i => simpa using ih i P (by simpa using e)
theorem Slots.wk {σ : L2.St} {env env' : Env'} {H : Hp} (s : Slots σ env H) (w : WkE env' env) : Slots σ env' H := s.weak w.len w.get
/-- all stays but what stands at M; the tuples stay -/
def W (M : Addr → Prop) (H H' : Hp) : Prop := Im H H' ∧ ∀ a o, ¬ M a → H a = some o → H' a = some o
theorem W.refl {M : Addr → Prop} (H : Hp) : W M H H := ⟨Im.refl H, fun _ _ _ h => h⟩
theorem W.trans {M : Addr → Prop} {H H1 H2 : Hp} (a : W M H H1) (b : W M H1 H2) : W M H H2 := ⟨a.1.trans b.1, fun c o n h => b.2 c o n (a.2 c o n h)⟩
theorem Ex.w {M : Addr → Prop} {H H' : Hp} (e : Ex H H') : W M H H' := ⟨e.im, fun a o _ h => e a o h⟩
theorem Xd.w {d l : Addr} {M : Addr → Prop} {H H' : Hp} (x : Xd d l H H') (hd : M d) (hl : M l) : W M H H' := ⟨x.im, fun a o n h => x.2.2.1 a o (fun z => n (z ▸ hd)) (fun z => n (z ▸ hl)) h⟩
/-- a thing that is no tuple is written -/
theorem im_put {H : Hp} {p : Addr} {u o : HO} (h : H p = some u) (hu : ∀ xs, u ≠ .tup xs) (hf : ∀ ob xs, u ≠ .frz ob (.tup xs)) : Im H (upd H p o) := fun a ys q => by
  have ne : a ≠ p := fun z => by
    subst z
    rcases q with q | ⟨ob, q⟩
    · rw [h] at q
      cases q
      exact hu _ rfl
    · rw [h] at q
      cases q
      exact hf _ _ rfl
  rcases q with q | ⟨ob, q⟩
  · exact .inl (by rw [upd_ne ne]; exact q)
  · exact .inr ⟨ob, by rw [upd_ne ne]; exact q⟩
theorem im_lst {H : Hp} {p : Addr} {xs : List V} {o : HO} (h : H p = some (.lst xs)) : Im H (upd H p o) := im_put h (fun _ z => nomatch z) (fun _ _ z => nomatch z)
theorem im_dK {H : Hp} {p : Addr} {xs : List (Key × V)} {o : HO} (h : H p = some (.dK xs)) : Im H (upd H p o) := im_put h (fun _ z => nomatch z) (fun _ _ z => nomatch z)
theorem w_put {M : Addr → Prop} {H : Hp} {p : Addr} {o : HO} (i : Im H (upd H p o)) (hp : M p) : W M H (upd H p o) := ⟨i, fun a u n h => by rw [upd_ne (fun z => n (by rw [z]; exact hp))]; exact h⟩
def YE (Iz : Nat → Pr) : Nat → Hp → V → Hp → Prop := fun i H x H' => Ex H H' ∧ (Iz i).P x H'
/-- wi walks n things, whatever is done to M -/
def Sq (S : Rl) (M : Addr → Prop) (wi : TI) (env : Env') (H : Hp) (n : Nat) (Iz : Nat → Pr) : Prop :=
  ∀ (σ : L2.St) (H1 : Hp), S.r H H1 → Slots σ env H1 → ∀ RR : L2.It → Hp → Prop,
    (∀ (J : L2.It) (G : Hp → Prop) (H2 : Hp), S.r H1 H2 → Walk J n G (YE Iz) → (∀ H', W M H2 H' → G H') → RR J H2) → wi σ H1 RR
section
variable {S : Rl} {M : Addr → Prop} {σ : L2.St} {env : Env'} {H : Hp} {wi : TI} {g : TG} {tb z : TS} {D : Ends} {n : Nat} {Iz : Nat → Pr}
/-- a loop: I i at the head of turn i -/
theorem s_for (hs : Sq S M wi env H n Iz) (s : Slots σ env H) (r : S.r H H) (env' : Env') (we : WkE env' env) (env1 : Nat → Env') (hg : ∀ i, i < n → Tg RE g env' (Iz i) (env1 i))
    (I : Nat → Hp → Prop) (h0 : ∀ H1, S.r H H1 → I 0 H1)
    (hb : ∀ H1, S.r H H1 → ∀ (i : Nat) (σ' : L2.St) (H' H2 : Hp), i < n → W M H1 H' → I i H' → Ex H' H2 → Slots σ' (env1 i) H2 → ∀ N : L2.St → Hp → Prop, (∀ σ3 H3, W M H' H3 → Slots σ3 env' H3 → I (i + 1) H3 → N σ3 H3) → tb { D with nx := N, ct := N, bk := D.nx } σ' H2)
    (hd : ∀ H1, S.r H H1 → ∀ σ' H', W M H1 H' → Slots σ' env' H' → I n H' → D.nx σ' H') : tFor wi g tb D σ H :=
  hs σ H r s _ fun J G H1 r1 w hG => by
    refine for_it w (fun i σ' H' => W M H1 H' ∧ Slots σ' env' H' ∧ I i H') ⟨W.refl _, (s.mono (S.im r1)).wk we, h0 H1 r1⟩ (fun i σ' H' _ p => hG H' p.1) (fun i x σ' H' H2 hi p y => ?_) fun σ' H' p => hd H1 r1 σ' H' p.1 p.2.1 p.2.2
    obtain ⟨e, px⟩ := y
    refine hg i hi σ' H2 x (Ex.refl _) (p.2.1.mono e.im) px _ fun σ2 s2 => ?_
    exact hb H1 r1 i σ2 H' H2 hi p.1 p.2.2 e s2 _ fun σ3 H3 w3 s3 i3 => ⟨p.1.trans w3, s3, i3⟩
theorem q_for (hs : Sq S M wi env H n Iz) (s : Slots σ env H) (r : S.r H H) (env' : Env') (we : WkE env' env) (env1 : Nat → Env') (hg : ∀ i, i < n → Tg RE g env' (Iz i) (env1 i))
    (I : Nat → Hp → Prop) (h0 : ∀ H1, S.r H H1 → I 0 H1)
    (hb : ∀ H1, S.r H H1 → ∀ (i : Nat) (σ' : L2.St) (H' H2 : Hp), i < n → W M H1 H' → I i H' → Ex H' H2 → Slots σ' (env1 i) H2 → ∀ N : L2.St → Hp → Prop, (∀ σ3 H3, W M H' H3 → Slots σ3 env' H3 → I (i + 1) H3 → N σ3 H3) → tb { D with nx := N, ct := N, bk := z D } σ' H2)
    (hd : ∀ H1, S.r H H1 → ∀ σ' H', W M H1 H' → Slots σ' env' H' → I n H' → z D σ' H') : tSeq (tFor wi g tb) z D σ H :=
  s_for (D := { D with nx := z D }) hs s r env' we env1 hg I h0 hb hd
/-! sources -/
variable {K : PySem.W.Frag} {ta tb' te : TE} {A : Nat → Pr}
theorem sq_tup {ds : List PyData} (h : Ev S te env H (Pr.d K (.tuple ds))) (hI : ∀ i d, ds[i]? = some d → Iz i = Pr.d K d) : Sq S M (iTup K te) env H ds.length Iz := fun σ H1 r1 s RR k =>
  h σ H1 r1 s _ fun v H2 r2 p => by
    obtain ⟨a, xs, rfl, hx, ht⟩ := Tp.tup_ p
    refine ⟨a, rfl, ⟨xs, hx⟩, k (Itt K a) (fun H' => SqT K H' a xs ∧ Tps K H' ds xs) H2 r2 ?_ fun H' w => ⟨w.1.sqt hx, Tps.mono w.1 _ _ ht⟩⟩
    have w := walk_tup (K := K) (a := a) (xs := xs)
    rw [ht.length] at w
    refine ⟨fun i H' hi g => w.goes i H' hi g.1, fun H' g => w.stops H' g.1, fun i H' x H'' hi g y => ?_⟩
    obtain ⟨e, hv⟩ := w.yields i H' x H'' hi g.1 y
    subst e
    obtain ⟨d, hd, td⟩ := g.2.at_ hv
    refine ⟨Ex.refl _, ?_⟩
    rw [hI i d hd]
    exact td
theorem sq_list {xs : List V} {p : Addr} (h : Ev S te env H (Pr.v (.ref p))) (hx : ∀ H', S.r H H' → H' p = some (.lst xs)) (hM : ¬ M p) (hI : ∀ H1, S.r H H1 → ∀ i x H', xs[i]? = some x → W M H1 H' → (Iz i).P x H') : Sq S M (iList K te) env H xs.length Iz := fun σ H1 r1 s RR k =>
  h σ H1 r1 s _ fun v H2 r2 e => by
    have e2 := hx H2 (S.trans r1 r2)
    refine ⟨p, e, ⟨xs, .inl (.inl e2)⟩, k (Itl K p) (fun H' => SqL K H' p xs ∧ W M H2 H') H2 r2 ?_ fun H' w => ⟨.inl (.inl (w.2 _ _ hM e2)), w⟩⟩
    have w := walk_list (K := K) (a := p) (xs := xs)
    refine ⟨fun i H' hi g => w.goes i H' hi g.1, fun H' g => w.stops H' g.1, fun i H' x H'' hi g y => ?_⟩
    obtain ⟨e, hv⟩ := w.yields i H' x H'' hi g.1 y
    subst e
    exact ⟨Ex.refl _, hI H2 (S.trans r1 r2) i x _ hv g.2⟩
/-- over a new list -/
theorem sq_listN {C : List V → Hp → Prop} (h : EvL S te env H C) (hM : ∀ a, M a → H a ≠ none) (hC : ∀ xs H', C xs H' → xs.length = n) (hI : ∀ xs i x H1 H', C xs H1 → xs[i]? = some x → W M H1 H' → (Iz i).P x H') : Sq S M (iList K te) env H n Iz := fun σ H1 r1 s RR k =>
  h σ H1 r1 s _ fun p xs H2 r2 nn e c => by
    have hl := hC xs H2 c
    subst hl
    have nM : ¬ M p := fun z => hM p z (S.back r1 nn)
    refine ⟨p, rfl, ⟨xs, .inl (.inl e)⟩, k (Itl K p) (fun H' => SqL K H' p xs ∧ W M H2 H') H2 r2 ?_ fun H' w => ⟨.inl (.inl (w.2 _ _ nM e)), w⟩⟩
    have w := walk_list (K := K) (a := p) (xs := xs)
    refine ⟨fun i H' hi g => w.goes i H' hi g.1, fun H' g => w.stops H' g.1, fun i H' x H'' hi g y => ?_⟩
    obtain ⟨e, hv⟩ := w.yields i H' x H'' hi g.1 y
    subst e
    exact ⟨Ex.refl _, hI xs i x H2 _ c hv g.2⟩
theorem sq_rng1 {j : Int} (h : Ev S te env H (Pr.v (.int j))) (h0 : -100000 ≤ j) (h1 : j ≤ 100000) : Sq S M (iRng1 (tCons te tNil)) env H j.toNat (fun i => Pr.v (.int (i : Nat))) := fun σ H1 r1 s RR k =>
  h σ H1 r1 s _ fun v H2 r2 e => ⟨j, by rw [show v = .int j from e], by omega, by omega, k (Itr 0 j.toNat) (fun _ => True) H2 r2 (by
    have w := walk_range (lo := 0) (n := j.toNat)
    refine ⟨fun i H' hi g => w.goes i H' hi g, fun H' g => w.stops H' g, fun i H' x H'' hi g y => ?_⟩
    obtain ⟨e, hv⟩ := w.yields i H' x H'' hi g y
    subst e
    refine ⟨Ex.refl _, ?_⟩
    show x = .int (i : Nat)
    rw [hv]
    show V.int (0 + (i : Int)) = V.int (i : Int)
    rw [Int.zero_add]) fun _ _ => trivial⟩
theorem sq_rng2 {lo j : Int} (ha : Ev S ta env H (Pr.v (.int lo))) (h : Ev S te env H (Pr.v (.int j))) (h0 : -100000 ≤ lo ∧ lo ≤ 100000) (h1 : -100000 ≤ j ∧ j ≤ 100000) : Sq S M (iRng2 (tCons ta (tCons te tNil))) env H (j - lo).toNat (fun i => Pr.v (.int (lo + (i : Nat)))) := fun σ H1 r1 s RR k =>
  ha σ H1 r1 s _ fun u H2 r2 e1 => h σ H2 (S.trans r1 r2) (s.mono (S.im r2)) _ fun v H3 r3 e => ⟨lo, j, by rw [show v = .int j from e, show u = .int lo from e1], by omega, k (Itr lo (j - lo).toNat) (fun _ => True) H3 (S.trans r2 r3) (by
    have w := walk_range (lo := lo) (n := (j - lo).toNat)
    refine ⟨fun i H' hi g => w.goes i H' hi g, fun H' g => w.stops H' g, fun i H' x H'' hi g y => ?_⟩
    obtain ⟨e, hv⟩ := w.yields i H' x H'' hi g y
    subst e
    exact ⟨Ex.refl _, hv⟩) fun _ _ => trivial⟩
/-- enumerate(tuple) -/
theorem sq_enumT {ds : List PyData} (h : Ev S te env H (Pr.d K (.tuple ds))) (hI : ∀ i d, ds[i]? = some d → A i = Pr.d K d) : Sq S M (iEnumT K (tCons te tNil)) env H ds.length (fun i => Pr.pair K (Pr.v (.int (i : Nat))) (A i)) := fun σ H1 r1 s RR k =>
  h σ H1 r1 s _ fun v H2 r2 p => by
    obtain ⟨a, xs, rfl, hx, ht⟩ := Tp.tup_ p
    refine ⟨a, xs, rfl, hx, k (ItuT K a) (fun H' => SqT K H' a xs ∧ Tps K H' ds xs) H2 r2 ?_ fun H' w => ⟨w.1.sqt hx, Tps.mono w.1 _ _ ht⟩⟩
    have hl := ht.length
    refine ⟨fun i H' hi g => ⟨xs, xs[i]'(by omega), g.1, by simp⟩, fun H' g => ⟨xs, g.1, hl⟩, fun i H' x H'' hi g y => ?_⟩
    obtain ⟨T, x', rfl, hT, rfl, hv⟩ := y
    obtain ⟨d, hd, td⟩ := g.2.at_ (hv xs g.1)
    have e5 : Ex H' (upd H' T (.tup [V.int (i : Nat), x'])) := Ex.new hT
    refine ⟨e5, T, _, _, rfl, .inl (.inl upd_same), rfl, ?_⟩
    rw [hI i d hd]
    exact Tp.mono e5.im _ _ td
/-- enumerate(a list that stays) -/
theorem sq_enumL {xs : List V} {p : Addr} (h : Ev S te env H (Pr.v (.ref p))) (hx : ∀ H', S.r H H' → H' p = some (.lst xs)) (hM : ¬ M p) (hI : ∀ H1, S.r H H1 → ∀ i x H', xs[i]? = some x → W M H1 H' → (A i).P x H') : Sq S M (iEnum K (tCons te tNil)) env H xs.length (fun i => Pr.pair K (Pr.v (.int (i : Nat))) (A i)) := fun σ H1 r1 s RR k =>
  h σ H1 r1 s _ fun v H2 r2 e => by
    have e2 := hx H2 (S.trans r1 r2)
    refine ⟨p, xs, by rw [show v = .ref p from e], .inl (.inl e2), k (Ite K p) (fun H' => SqL K H' p xs ∧ W M H2 H') H2 r2 ?_ fun H' w => ⟨.inl (.inl (w.2 _ _ hM e2)), w⟩⟩
    refine ⟨fun i H' hi g => ⟨xs, xs[i], g.1, by simp⟩, fun H' g => ⟨xs, g.1, Nat.le_refl _⟩, fun i H' x H'' hi g y => ?_⟩
    obtain ⟨T, x', rfl, hT, rfl, hv⟩ := y
    have e5 : Ex H' (upd H' T (.tup [V.int (i : Nat), x'])) := Ex.new hT
    exact ⟨e5, T, _, _, rfl, .inl (.inl upd_same), rfl, (A i).mo e5.im (hI H2 (S.trans r1 r2) i x' _ (hv xs g.1) g.2)⟩
/-- enumerate(a new list) -/
theorem sq_enumN {C : List V → Hp → Prop} (h : EvL S te env H C) (hM : ∀ a, M a → H a ≠ none) (hC : ∀ xs H', C xs H' → xs.length = n) (hI : ∀ xs i x H1 H', C xs H1 → xs[i]? = some x → W M H1 H' → (A i).P x H') : Sq S M (iEnum K (tCons te tNil)) env H n (fun i => Pr.pair K (Pr.v (.int (i : Nat))) (A i)) := fun σ H1 r1 s RR k =>
  h σ H1 r1 s _ fun p xs H2 r2 nn e c => by
    have hl := hC xs H2 c
    subst hl
    have nM : ¬ M p := fun z => hM p z (S.back r1 nn)
    refine ⟨p, xs, rfl, .inl (.inl e), k (Ite K p) (fun H' => SqL K H' p xs ∧ W M H2 H') H2 r2 ?_ fun H' w => ⟨.inl (.inl (w.2 _ _ nM e)), w⟩⟩
    refine ⟨fun i H' hi g => ⟨xs, xs[i], g.1, by simp⟩, fun H' g => ⟨xs, g.1, Nat.le_refl _⟩, fun i H' x H'' hi g y => ?_⟩
    obtain ⟨T, x', rfl, hT, rfl, hv⟩ := y
    have e5 : Ex H' (upd H' T (.tup [V.int (i : Nat), x'])) := Ex.new hT
    exact ⟨e5, T, _, _, rfl, .inl (.inl upd_same), rfl, (A i).mo e5.im (hI xs i x' H2 _ c (hv xs g.1) g.2)⟩
/-- what enumerate(zip(a, b)) walks -/
theorem walk_ez {a b : Addr} {xs ys : List V} {ds es : List PyData} {B : Nat → Pr} (hI : ∀ i d, ds[i]? = some d → A i = Pr.d K d) (hJ : ∀ i d, es[i]? = some d → B i = Pr.d K d) :
    Walk (Itez K a b) (min ds.length es.length) (fun H' => (SqT K H' a xs ∧ Tps K H' ds xs) ∧ SqT K H' b ys ∧ Tps K H' es ys) (YE fun i => Pr.pair K (Pr.v (.int (i : Nat))) (Pr.pair K (A i) (B i))) := by
  refine ⟨fun i H' hi g => ?_, fun H' g => ?_, fun i H' x H'' hi g y => ?_⟩
  · have l1 := g.1.2.length
    have l2 := g.2.2.length
    have h1 : i < xs.length := by omega
    have h2 : i < ys.length := by omega
    exact ⟨xs, ys, xs[i], ys[i], g.1.1, g.2.1, by simp [h1], by simp [h2]⟩
  · have l1 := g.1.2.length
    have l2 := g.2.2.length
    exact ⟨xs, ys, g.1.1, g.2.1, by omega, by omega, by omega⟩
  · obtain ⟨T, T2, x', y', rfl, hT, hT2, ne, rfl, hx, hy⟩ := y
    obtain ⟨d, hd, td⟩ := g.1.2.at_ (hx xs g.1.1)
    obtain ⟨e, he, te⟩ := g.2.2.at_ (hy ys g.2.1)
    have e1 : Ex H' (upd H' T (.tup [x', y'])) := Ex.new hT
    have e2 : Ex (upd H' T (.tup [x', y'])) (upd (upd H' T (.tup [x', y'])) T2 (.tup [V.int (i : Nat), .ref T])) := Ex.new (by rw [upd_ne ne]; exact hT2)
    refine ⟨e1.trans e2, T2, _, _, rfl, .inl (.inl upd_same), rfl, T, x', y', rfl, .inl (.inl (by rw [upd_ne (Ne.symm ne)]; exact upd_same)), ?_, ?_⟩
    · rw [hI i d hd]
      exact Tp.mono (e1.trans e2).im _ _ td
    · rw [hJ i e he]
      exact Tp.mono (e1.trans e2).im _ _ te
theorem sq_ez {ds es : List PyData} {B : Nat → Pr} (ha : Ev S ta env H (Pr.d K (.tuple ds))) (hb : Ev S te env H (Pr.d K (.tuple es))) (hI : ∀ i d, ds[i]? = some d → A i = Pr.d K d) (hJ : ∀ i d, es[i]? = some d → B i = Pr.d K d) :
    Sq S M (iEnumZip K (tCons ta (tCons te tNil))) env H (min ds.length es.length) (fun i => Pr.pair K (Pr.v (.int (i : Nat))) (Pr.pair K (A i) (B i))) := fun σ H1 r1 s RR k =>
  ha σ H1 r1 s _ fun u H2 r2 p1 => hb σ H2 (S.trans r1 r2) (s.mono (S.im r2)) _ fun v H3 r3 p2 => by
    obtain ⟨a, xs, rfl, hx, ht⟩ := Tp.tup_ ((Pr.d K (.tuple ds)).mo (S.im r3) p1)
    obtain ⟨b, ys, rfl, hy, hu⟩ := Tp.tup_ p2
    exact ⟨a, b, xs, ys, rfl, hx, hy, k _ _ H3 (S.trans r2 r3) (walk_ez (xs := xs) (ys := ys) hI hJ) fun H' w => ⟨⟨w.1.sqt hx, Tps.mono w.1 _ _ ht⟩, w.1.sqt hy, Tps.mono w.1 _ _ hu⟩⟩
theorem sq_ezs {ds es : List PyData} {B : Nat → Pr} (ha : Ev S ta env H (Pr.d K (.tuple [.tuple ds, .tuple es]))) (hI : ∀ i d, ds[i]? = some d → A i = Pr.d K d) (hJ : ∀ i d, es[i]? = some d → B i = Pr.d K d) :
    Sq S M (iEnumZipStar K ta) env H (min ds.length es.length) (fun i => Pr.pair K (Pr.v (.int (i : Nat))) (Pr.pair K (A i) (B i))) := fun σ H1 r1 s RR k =>
  ha σ H1 r1 s _ fun u H2 r2 p1 => by
    obtain ⟨t, zs, rfl, hz, hts⟩ := Tp.tup_ p1
    obtain ⟨x, r, rfl, h1, hts⟩ := hts.cons_
    obtain ⟨y, r', rfl, h2, hts⟩ := hts.cons_
    cases hts.nil_
    obtain ⟨a, xs, rfl, hx, ht⟩ := Tp.tup_ h1
    obtain ⟨b, ys, rfl, hy, hu⟩ := Tp.tup_ h2
    exact ⟨t, a, b, xs, ys, rfl, hz, hx, hy, k _ _ H2 r2 (walk_ez (xs := xs) (ys := ys) hI hJ) fun H' w => ⟨⟨w.1.sqt hx, Tps.mono w.1 _ _ ht⟩, w.1.sqt hy, Tps.mono w.1 _ _ hu⟩⟩
end
end Sd

set_option Elab.async false
set_option linter.all false
set_option maxRecDepth 100000
set_option maxHeartbeats 2000000
/-! Sp1: the promises of the small defs. -/
namespace Sd
open PySem PySem.Spec PyProof.Rows L2

/-! ### types -/
def tyD : PyData → String
  | .none => "NoneType"
  | .bool _ => "bool"
  | .int _ => "int"
  | .str _ => "str"
  | .tuple _ => "tuple"
  | .list _ => "list"
  | .dict _ => "dict"
theorem tyx_sqt {K : PySem.W.Frag} {H : Hp} {a : Addr} {xs : List V} (h : SqT K H a xs) : TyX K H (.ref a) (.type "tuple") := by
  rcases h with (h | ⟨o, h⟩) | ⟨o, its, n, hk, hc, _⟩
  · exact .base (.tup h)
  · exact .fTuple h
  · exact .kTuple hk hc
theorem tyx_of {K : PySem.W.Frag} {H : Hp} {d : PyData} {v : V} (h : Tp K H d v) : TyX K H v (.type (tyD d)) := by
  cases d with
  | none => cases h.none_; exact .base .non
  | bool b => cases h.bool_; exact .base (.bl b)
  | int i => cases h.int_; exact .base (.int i)
  | str x => cases h.str_; exact .base (.str x)
  | tuple ds =>
    obtain ⟨a, xs, rfl, hx, _⟩ := h.tup_
    exact tyx_sqt hx
  | list _ => simp only [Tp] at h
  | dict _ => simp only [Tp] at h
section
variable {R : Rl} {K : PySem.W.Frag} {env : Env'} {H : Hp} {ta : TE}
theorem ev_isi {d : PyData} {T : String} {b : Bool} (ha : Ev R ta env H (Pr.d K d)) (e : PySem.W.kitOne K (.type (tyD d)) (.type T) = some b) : Ev R (tCB (rIsi K) (tCons ta (tCons (tC (.ty T)) tNil))) env H (Pr.v (.bl b)) :=
  ev_cb (ea_cons ha (ea_cons ev_cv ea_nil)) fun vs H1 r1 pv Q q => by
    obtain ⟨x, y, rfl, px, py⟩ := vs2 pv
    cases (show y = .ty T from py)
    exact ⟨x, .ty T, _, _, b, rfl, .ty T, tyx_of px, e, q _ H1 (R.again r1) rfl⟩
end
theorem kit_int (K : PySem.W.Frag) : PySem.W.kitOne K (.type "int") (.type "int") = some true := by kernel_rfl
theorem kit_ib (K : PySem.W.Frag) : PySem.W.kitOne K (.type "int") (.type "bool") = some false := by kernel_rfl
theorem kit_str (K : PySem.W.Frag) (d : PyData) (hl : ∀ x, d ≠ .list x) (hd : ∀ x, d ≠ .dict x) : PySem.W.kitOne K (.type (tyD d)) (.type "str") = some (match d with | .str _ => true | _ => false) := by
  cases d with
  | none => exact (by kernel_rfl : PySem.W.kitOne K (.type "NoneType") (.type "str") = some false)
  | bool b => exact (by kernel_rfl : PySem.W.kitOne K (.type "bool") (.type "str") = some false)
  | int i => exact (by kernel_rfl : PySem.W.kitOne K (.type "int") (.type "str") = some false)
  | str x => exact (by kernel_rfl : PySem.W.kitOne K (.type "str") (.type "str") = some true)
  | tuple ds => exact (by kernel_rfl : PySem.W.kitOne K (.type "tuple") (.type "str") = some false)
  | list x => exact absurd rfl (hl x)
  | dict x => exact absurd rfl (hd x)
theorem kit_tup (K : PySem.W.Frag) (d : PyData) (hl : ∀ x, d ≠ .list x) (hd : ∀ x, d ≠ .dict x) : PySem.W.kitOne K (.type (tyD d)) (.type "tuple") = some (match d with | .tuple _ => true | _ => false) := by
  cases d with
  | none => exact (by kernel_rfl : PySem.W.kitOne K (.type "NoneType") (.type "tuple") = some false)
  | bool b => exact (by kernel_rfl : PySem.W.kitOne K (.type "bool") (.type "tuple") = some false)
  | int i => exact (by kernel_rfl : PySem.W.kitOne K (.type "int") (.type "tuple") = some false)
  | str x => exact (by kernel_rfl : PySem.W.kitOne K (.type "str") (.type "tuple") = some false)
  | tuple ds => exact (by kernel_rfl : PySem.W.kitOne K (.type "tuple") (.type "tuple") = some true)
  | list x => exact absurd rfl (hl x)
  | dict x => exact absurd rfl (hd x)
theorem kit_list (K : PySem.W.Frag) : PySem.W.kitOne K (.type "list") (.type "tuple") = some false := by kernel_rfl
theorem kit_seq (K : PySem.W.Frag) : PySem.W.kitAny K (.type "tuple") [.type "list", .type "tuple"] = some true := by kernel_rfl
theorem Tp.noList {K : PySem.W.Frag} {H : Hp} {d : PyData} {v : V} (h : Tp K H d v) : (∀ x, d ≠ .list x) ∧ ∀ x, d ≠ .dict x := by
  refine ⟨fun x e => ?_, fun x e => ?_⟩ <;> (subst e; simp only [Tp] at h)

/-! ### the promises -/
variable {P : Program} {w : World} {K : PySem.W.Frag} {mg : Str → Option Value} {base : Heap} {B : Adr}
def sp_is_integer : Sp := spR 1 (fun _ : Int => RE) (fun i vs _ => vs = [.int i]) (fun _ v _ _ => v = .bl true)
theorem ok_is_integer (T : Txt P K mg B) : FnOk P w K mg base CX0 1 B.a_is_integer B.d_is_integer ["value"] sp_is_integer :=
  T.F_is_integer.ok sc_is_integer (spR_len rfl) fun cdv A outer s H vs Q E hr h => ⟨_, der_is_integer T hr, by
    obtain ⟨_, i, r, rfl, k⟩ := h
    have s0 : Slots (start N_is_integer [V.int i]) [some (Pr.d K (.int i))] H := start_slots (Ps := [Pr.d K (.int i)]) (.cons (show (Pr.d K (.int i)).P (V.int i) H from tp_int (K := K) (H := H)) .nil) rfl
    refine s_ret (R := RE) s0 (Ex.refl _) (ev_andV (a := true) (b := true) (ev_isi (ev_var rfl) (kit_int K)) fun _ => ?_) fun v H1 e p => k v H1 e p
    exact ev_notV (a := false) (ev_isi (ev_var rfl) (kit_ib K))⟩
theorem ev_is_integer {R : Rl} {env : Env'} {H : Hp} {ta : TE} {E : XK} {i : Int} (ha : Ev R ta env H (Pr.v (.int i))) : Ev R (tCall sp_is_integer [] E (tCons ta tNil)) env H (Pr.v (.bl true)) :=
  ev_spR (ea_cons ha ea_nil) i sub_E rfl (fun vs H1 r1 pv => by
    obtain ⟨x, rfl, px⟩ := vs1 pv
    rw [show x = .int i from px]) fun v H1 H2 _ _ p => p
/-- 0 <= value < bound -/
def sp_is_below : Sp := spR 2 (fun _ : Int × Int => RE) (fun a vs _ => vs = [.int a.1, .int a.2]) (fun a v _ _ => v = .bl (decide (0 ≤ a.1 ∧ a.1 < a.2)))
theorem ok_is_below (T : Txt P K mg B) : FnOk P w K mg base CX0 2 B.a_is_below B.d_is_below ["value", "bound"] sp_is_below :=
  T.F_is_below.ok sc_is_below (spR_len rfl) fun cdv A outer s H vs Q E hr h => ⟨_, der_is_below T (ok_is_integer T) hr, by
    obtain ⟨_, ⟨i, j⟩, r, rfl, k⟩ := h
    have s0 : Slots (start N_is_below [V.int i, V.int j]) [some (Pr.v (.int i)), some (Pr.v (.int j))] H := start_slots (Ps := [Pr.v (.int i), Pr.v (.int j)]) (.cons rfl (.cons rfl .nil)) rfl
    refine s_ret (R := RE) s0 (Ex.refl _) (ev_andV (a := true) (b := decide (0 ≤ i) && decide (i < j)) (ev_is_integer (ev_var rfl)) fun _ => ?_) fun v H1 e p => k v H1 e ?_
    · exact ev_chain (a := decide (0 ≤ i)) (b := decide (i < j)) (P := Pr.v (.int 0)) (P' := Pr.v (.int i)) (P'' := Pr.v (.int j)) ev_cv (ev_var rfl) (ev_var rfl) (fun x y H1 _ px py Q q => ⟨0, i, px, py, q⟩) fun _ y z H1 _ py pz Q q => ⟨i, j, py, pz, q⟩
    · rw [show v = _ from p]
      simp⟩
theorem ev_is_below {R : Rl} {env : Env'} {H : Hp} {ta tb : TE} {E : XK} {i j : Int} (ha : Ev R ta env H (Pr.v (.int i))) (hb : Ev R tb env H (Pr.v (.int j))) : Ev R (tCall sp_is_below [] E (tCons ta (tCons tb tNil))) env H (Pr.v (.bl (decide (0 ≤ i ∧ i < j)))) :=
  ev_spR (ea_cons ha (ea_cons hb ea_nil)) (i, j) sub_E rfl (fun vs H1 r1 pv => by
    obtain ⟨x, y, rfl, px, py⟩ := vs2 pv
    rw [show x = .int i from px, show y = .int j from py]) fun v H1 H2 _ _ p => p
def isTx : PyData → Bool
  | .str _ => true
  | _ => false
def sp_is_text (K : PySem.W.Frag) : Sp := spR 1 (fun _ : PyData => RE) (fun d vs H => ∃ v, vs = [v] ∧ Tp K H d v) (fun d v _ _ => v = .bl (isTx d))
theorem ok_is_text (T : Txt P K mg B) : FnOk P w K mg base CX0 1 B.a_is_text B.d_is_text ["value"] (sp_is_text K) :=
  T.F_is_text.ok sc_is_text (spR_len rfl) fun cdv A outer s H vs Q E hr h => ⟨_, der_is_text T hr, by
    obtain ⟨_, d, r, ⟨v, rfl, hv⟩, k⟩ := h
    have s0 : Slots (start N_is_text [v]) [some (Pr.d K d)] H := start_slots (Ps := [Pr.d K d]) (.cons hv .nil) rfl
    refine s_ret (R := RE) s0 (Ex.refl _) (ev_isi (ev_var rfl) (kit_str K d hv.noList.1 hv.noList.2)) fun v H1 e p => k v H1 e ?_
    rw [show v = _ from p]
    cases d <;> rfl⟩
theorem ev_is_text {R : Rl} {env : Env'} {H : Hp} {ta : TE} {E : XK} {d : PyData} (ha : Ev R ta env H (Pr.d K d)) : Ev R (tCall (sp_is_text K) [] E (tCons ta tNil)) env H (Pr.v (.bl (isTx d))) :=
  ev_spR (ea_cons ha ea_nil) d sub_E rfl (fun vs H1 r1 pv => by
    obtain ⟨x, rfl, px⟩ := vs1 pv
    exact ⟨x, rfl, px⟩) fun v H1 H2 _ _ p => p
/-- of a tuple -/
def sp_is_sequence (K : PySem.W.Frag) : Sp := spR 1 (fun _ : List PyData => RE) (fun ds vs H => ∃ v, vs = [v] ∧ Tp K H (.tuple ds) v) (fun _ v _ _ => v = .bl true)
theorem ok_is_sequence (T : Txt P K mg B) : FnOk P w K mg base CX0 1 B.a_is_sequence B.d_is_sequence ["value"] (sp_is_sequence K) :=
  T.F_is_sequence.ok sc_is_sequence (spR_len rfl) fun cdv A outer s H vs Q E hr h => ⟨_, der_is_sequence T hr, by
    obtain ⟨_, ds, r, ⟨v, rfl, hv⟩, k⟩ := h
    have s0 : Slots (start N_is_sequence [v]) [some (Pr.d K (.tuple ds))] H := start_slots (Ps := [Pr.d K (.tuple ds)]) (.cons hv .nil) rfl
    obtain ⟨v', e', p'⟩ := s0.2 0 _ rfl
    refine ⟨v', e', by decide, fun p hp => ⟨v', p, _, _, _, true, rfl, upd_same, .cons (.ty "list") (.cons (.ty "tuple") .nil), tyx_of (Tp.mono (Ex.new hp).im _ _ p'), kit_seq K, k _ _ (Ex.new hp) rfl⟩⟩⟩
theorem ev_is_sequence {R : Rl} {env : Env'} {H : Hp} {ta : TE} {E : XK} {ds : List PyData} (ha : Ev R ta env H (Pr.d K (.tuple ds))) : Ev R (tCall (sp_is_sequence K) [] E (tCons ta tNil)) env H (Pr.v (.bl true)) :=
  ev_spR (ea_cons ha ea_nil) ds sub_E rfl (fun vs H1 r1 pv => by
    obtain ⟨x, rfl, px⟩ := vs1 pv
    exact ⟨x, rfl, px⟩) fun v H1 H2 _ _ p => p

/-! ### names -/
def LET : Str := "abcdefghijklmnopqrstuvwxyz"
def nameOk (x : Str) : Bool := decide (1 ≤ x.length) && (decide (x.length ≤ 8) && x.cps.toList.all fun c => decide (c ∈ LET.cps.toList))
def nameD : PyData → Bool
  | .str x => nameOk x
  | _ => false
/-- texts are not long -/
def shortD : PyData → Prop
  | .str x => x.length ≤ 100000
  | _ => True
def sp_is_name (K : PySem.W.Frag) : Sp := spR 1 (fun _ : PyData => RE) (fun d vs H => shortD d ∧ ∃ v, vs = [v] ∧ Tp K H d v) (fun d v _ _ => v = .bl (nameD d))
theorem kept_bl (x : Str) : ∀ (xs : List V) (H : Hp), Vs (kept x.cps.size (fun _ => true) fun i => Pr.v (.bl (decide (∃ c, x.cps[i]? = some c ∧ c ∈ LET.cps.toList)))) xs H → xs = (x.cps.toList.map fun c => decide (c ∈ LET.cps.toList)).map V.bl := fun xs H h => by
  rw [kept_all] at h
  have hl := Paired.length h
  rw [List.length_map, List.length_range] at hl
  apply List.ext_getElem
  · simp [hl]
  · intro i h1 h2
    have hi : i < x.cps.size := by omega
    have hp := paired_get h (i := i) (x := xs[i]) (List.getElem?_eq_getElem h1)
    obtain ⟨Pz, e, p⟩ := hp
    rw [List.getElem?_map, List.getElem?_range hi] at e
    cases e
    rw [show xs[i] = _ from p]
    simp [hi]
theorem ok_is_name (T : Txt P K mg B) : FnOk P w K mg base CX0 2 B.a_is_name B.d_is_name ["value"] (sp_is_name K) :=
  T.F_is_name.ok sc_is_name (spR_len rfl) fun cdv A outer s H vs Q E hr h => ⟨_, der_is_name T (ok_is_text T) hr, by
    obtain ⟨_, d, r, ⟨sh, v, rfl, hv⟩, k⟩ := h
    have s0 : Slots (start N_is_name [v]) [some (Pr.d K d), none] H := start_slots (Ps := [Pr.d K d]) (.cons hv .nil) rfl
    refine s_ret (R := RE) (P := Pr.v (.bl (nameD d))) s0 (Ex.refl _) ?_ fun v H1 e p => k v H1 e p
    cases d with
    | str x =>
      have hx : Ev RE (tVar 0) [some (Pr.d K (.str x)), none] H (Pr.v (.str x)) := ev_str_v (ev_var rfl)
      refine ev_andV (a := true) (b := nameOk x) (ev_is_text (d := .str x) (ev_var rfl)) fun _ => ?_
      have e1 : nameOk x = ((decide (1 ≤ x.length) && decide (x.length ≤ 8)) && x.cps.toList.all fun c => decide (c ∈ LET.cps.toList)) := by
        unfold nameOk
        rw [Bool.and_assoc]
      rw [e1]
      refine ev_andV (ev_chain (a := decide (1 ≤ x.length)) (b := decide (x.length ≤ 8)) (P := Pr.v (.int 1)) (P' := Pr.v (.int (x.length : Nat))) (P'' := Pr.v (.int 8)) ev_cv (ev_lenS hx sh) ev_cv (fun a b H1 _ pa pb Q q => ⟨1, _, pa, pb, ?_⟩) fun _ b c H1 _ pb pc Q q => ⟨_, 8, pb, pc, ?_⟩) fun hb => ?_
      · have e2 : decide ((1 : Int) ≤ ((x.length : Nat) : Int)) = decide (1 ≤ x.length) := by
          rw [Bool.eq_iff_iff]
          simp
          omega
        show Q (V.bl (decide ((1 : Int) ≤ ((x.length : Nat) : Int)))) H1
        rw [e2]
        exact q
      · have e2 : decide (((x.length : Nat) : Int) ≤ 8) = decide (x.length ≤ 8) := by
          rw [Bool.eq_iff_iff]
          simp
          omega
        show Q (V.bl (decide (((x.length : Nat) : Int) ≤ 8))) H1
        rw [e2]
        exact q
      · have hlen : x.length ≤ 8 := by
          simp only [Bool.and_eq_true, decide_eq_true_eq] at hb
          exact hb.2
        have hsz : x.cps.size ≤ 8 := hlen
        have e3 : (x.cps.toList.all fun c => decide (c ∈ LET.cps.toList)) = ((x.cps.toList.map fun c => decide (c ∈ LET.cps.toList)).all id) := by
          rw [List.all_map]
          rfl
        rw [e3]
        refine ev_allN (C := fun xs H' => Vs (kept x.cps.size (fun _ => true) fun i => Pr.v (.bl (decide (∃ c, x.cps[i]? = some c ∧ c ∈ LET.cps.toList)))) xs H') ?_ fun xs H1 c => kept_bl x xs H1 c
        refine ev_lc (Iz := fun i => Pr.v (.str ⟨#[x.cps.getD i 0]⟩)) (n := x.cps.size) (fun _ => true) _ (sr_str hx fun i c hc => ?_) (by omega) (fun i => [some (Pr.d K (.str x)), some (Pr.v (.str ⟨#[x.cps.getD i 0]⟩))]) (fun i hi => ?_) (wp_name (by simp)) (fun i hi => et_yes) fun i hi _ => ?_
        · simp [Array.getD_eq_getD_getElem?, hc]
        · exact tg_name (i := 1)
        · refine ev_op (P := Pr.v (.str ⟨#[x.cps.getD i 0]⟩)) (P' := Pr.v (.str LET)) (ev_var rfl) ev_cv fun a b H1 _ pa pb Q q => ⟨_, _, pa, pb, q _ H1 (Ex.refl _) ?_⟩
          show V.bl _ = V.bl _
          congr 1
          rw [Bool.eq_iff_iff]
          simp [Array.getD_eq_getD_getElem?, hi]
    | none => exact ev_andV (a := false) (b := false) (ev_is_text (d := .none) (ev_var rfl)) fun e => Bool.noConfusion e
    | bool b => exact ev_andV (a := false) (b := false) (ev_is_text (d := .bool b) (ev_var rfl)) fun e => Bool.noConfusion e
    | int i => exact ev_andV (a := false) (b := false) (ev_is_text (d := .int i) (ev_var rfl)) fun e => Bool.noConfusion e
    | tuple ds => exact ev_andV (a := false) (b := false) (ev_is_text (d := .tuple ds) (ev_var rfl)) fun e => Bool.noConfusion e
    | list _ => exact absurd rfl (hv.noList.1 _)
    | dict _ => exact absurd rfl (hv.noList.2 _)⟩
theorem ev_is_name {R : Rl} {env : Env'} {H : Hp} {ta : TE} {E : XK} {d : PyData} (ha : Ev R ta env H (Pr.d K d)) (hs : shortD d) : Ev R (tCall (sp_is_name K) [] E (tCons ta tNil)) env H (Pr.v (.bl (nameD d))) :=
  ev_spR (ea_cons ha ea_nil) d sub_E rfl (fun vs H1 r1 pv => by
    obtain ⟨x, rfl, px⟩ := vs1 pv
    exact ⟨hs, x, rfl, px⟩) fun v H1 H2 _ _ p => p
/-- of a number within its bounds -/
def sp_need_number : Sp := spR 3 (fun _ : Int × Int => RE) (fun a vs _ => (0 ≤ a.1 ∧ a.1 < a.2) ∧ ∃ x, vs = [.int a.1, .int a.2, x]) (fun _ v _ _ => True)
theorem ok_need_number (T : Txt P K mg B) : FnOk P w K mg base CX0 3 B.a_need_number B.d_need_number ["value", "bound", "word"] sp_need_number :=
  T.F_need_number.ok sc_need_number (spR_len rfl) fun cdv A outer s H vs Q E hr h => ⟨_, der_need_number T (ok_is_below T) hr, by
    obtain ⟨_, ⟨i, j⟩, r, ⟨hij, x, rfl⟩, k⟩ := h
    have s0 : Slots (start N_need_number [V.int i, V.int j, x]) [some (Pr.v (.int i)), some (Pr.v (.int j)), some (Pr.v x)] H := start_slots (Ps := [Pr.v (.int i), Pr.v (.int j), Pr.v x]) (.cons rfl (.cons rfl (.cons rfl .nil))) rfl
    refine s_no (R := RE) s0 (Ex.refl _) (et_is (et_not (et_B (b := decide (0 ≤ i ∧ i < j)) (ev_is_below (ev_var rfl) (ev_var rfl)))) ?_) fun H1 e s1 => k .non H1 e trivial
    rw [decide_eq_true (show 0 ≤ i ∧ i < j from hij)]
    rfl⟩
end Sd

set_option Elab.async false
set_option linter.all false
set_option maxRecDepth 100000
set_option maxHeartbeats 2000000
/-! Sp2: the promises of the defs of yards and of counting. -/
namespace Sd
open PySem PySem.Spec PyProof.Rows L2

/-! ### data -/
def iD (ns : List Nat) : PyData := .tuple (ns.map fun (n : Nat) => PyData.int (n : Int))
def rD (r : List Str) : PyData := .tuple (r.map PyData.str)
def sD (s : List (List Str)) : PyData := .tuple (s.map rD)
section
variable {K : PySem.W.Frag} {H : Hp}
theorem tps_ints : ∀ {ns : List Int} {xs : List V}, Tps K H (ns.map PyData.int) xs → xs = ns.map V.int
  | [], _, h => h.nil_
  | n :: ns, _, h => by
    obtain ⟨x, r, rfl, h1, h2⟩ := h.cons_
    cases h1.int_
    rw [tps_ints h2]
    rfl
theorem ints_tps : ∀ (ns : List Int), Tps K H (ns.map PyData.int) (ns.map V.int)
  | [] => tps_nil
  | n :: ns => tps_cons tp_int (ints_tps ns)
theorem tps_strs : ∀ {ns : List Str} {xs : List V}, Tps K H (ns.map PyData.str) xs → xs = ns.map V.str
  | [], _, h => h.nil_
  | n :: ns, _, h => by
    obtain ⟨x, r, rfl, h1, h2⟩ := h.cons_
    cases h1.str_
    rw [tps_strs h2]
    rfl
theorem strs_tps : ∀ (ns : List Str), Tps K H (ns.map PyData.str) (ns.map V.str)
  | [] => tps_nil
  | n :: ns => tps_cons tp_str (strs_tps ns)
end
theorem iD_eq (ns : List Nat) : iD ns = .tuple ((ns.map fun (n : Nat) => (n : Int)).map PyData.int) := by
  unfold iD
  rw [List.map_map]
  rfl
theorem sum_cast (ns : List Nat) : (ns.map fun (n : Nat) => (n : Int)).sum = ((ns.sum : Nat) : Int) := by
  induction ns with
  | nil => rfl
  | cons a l ih =>
    rw [List.map_cons, List.sum_cons, List.sum_cons, ih]
    omega
/-- the yard at y has these heights -/
def Yd (K : PySem.W.Frag) (B : Adr) (H : Hp) (y : Addr) (hs : List Nat) : Prop := ∃ dx hv, H y = some (.ins B.C_Yard dx [("heights", hv)]) ∧ Tp K H (iD hs) hv
theorem Yd.ex {K : PySem.W.Frag} {B : Adr} {H H' : Hp} {y : Addr} {hs : List Nat} (h : Yd K B H y hs) (e : Ex H H') : Yd K B H' y hs := by
  obtain ⟨dx, hv, h1, h2⟩ := h
  exact ⟨dx, hv, e _ _ h1, Tp.mono e.im _ _ h2⟩
theorem Yd.w {K : PySem.W.Frag} {B : Adr} {M : Addr → Prop} {H H' : Hp} {y : Addr} {hs : List Nat} (h : Yd K B H y hs) (e : W M H H') (hM : ¬ M y) : Yd K B H' y hs := by
  obtain ⟨dx, hv, h1, h2⟩ := h
  exact ⟨dx, hv, e.2 _ _ hM h1, Tp.mono e.1 _ _ h2⟩
theorem Yd.xd {K : PySem.W.Frag} {B : Adr} {d l : Addr} {H H' : Hp} {y : Addr} {hs : List Nat} (h : Yd K B H y hs) (e : Xd d l H H') : Yd K B H' y hs := by
  obtain ⟨dx, hv, h1, h2⟩ := h
  obtain ⟨_, ns, m, _, e1, e2⟩ := e.1
  have n1 : y ≠ d := fun z => by rw [z, e1] at h1; cases h1
  have n2 : y ≠ l := fun z => by rw [z, e2] at h1; cases h1
  exact ⟨dx, hv, e.2.2.1 _ _ n1 n2 h1, Tp.mono e.im _ _ h2⟩
def cnt (s : List (List Str)) : Nat := (s.map List.length).sum
def dps (hs : List Nat) (n : Nat) : List Nat := hs.map fun h => h - (hs.sum - n)
section
variable {R : Rl} {K : PySem.W.Frag} {B : Adr} {env : Env'} {H : Hp} {ta tb : TE} {E : XK}
theorem ev_fldY {hs : List Nat} {y : Addr} {P : Program} {mg : Str → Option Value} (T : Txt P K mg B) (ha : Ev R ta env H (Pr.v (.ref y))) (hy : ∀ H1, R.r H H1 → Yd K B H1 y hs) : Ev R (tFld K ta "heights") env H (Pr.d K (iD hs)) := fun σ H1 r1 s Q q =>
  ha σ H1 r1 s _ fun x H2 r2 px => by
    obtain ⟨dx, hv, h1, h2⟩ := hy H2 (R.trans r1 r2)
    exact ⟨y, B.C_Yard, dx, _, hv, px, h1, T.cl_Yard, T.no_heights, rfl, q hv H2 r2 h2⟩
theorem ev_sumI {hs : List Nat} (ha : Ev R ta env H (Pr.d K (iD hs))) : Ev R (tCB (rSumT K) (tCons ta tNil)) env H (Pr.v (.int ((hs.sum : Nat) : Int))) :=
  ev_cb (ea_cons ha ea_nil) fun vs H1 r1 pv Q q => by
    obtain ⟨x, rfl, px⟩ := vs1 pv
    have px' : Tp K H1 (iD hs) x := px
    rw [iD_eq] at px'
    obtain ⟨a, xs, rfl, hx, ht⟩ := Tp.tup_ px'
    have e := tps_ints ht
    subst e
    refine ⟨a, _, rfl, hx, ?_⟩
    rw [sum_cast]
    exact q _ H1 (R.again r1) rfl
end
variable {P : Program} {w : World} {K : PySem.W.Frag} {mg : Str → Option Value} {base : Heap} {B : Adr}
def sp_places (K : PySem.W.Frag) (B : Adr) : Sp := spR 1 (fun _ : Addr × List Nat => RE) (fun a vs H => vs = [.ref a.1] ∧ Yd K B H a.1 a.2) (fun a v _ _ => v = .int ((a.2.sum : Nat) : Int))
theorem ok_places (T : Txt P K mg B) : FnOk P w K mg base CX0 1 B.a_places B.d_places ["yard"] (sp_places K B) :=
  T.F_places.ok sc_places (spR_len rfl) fun cdv A outer s H vs Q E hr h => ⟨_, der_places T hr, by
    obtain ⟨_, ⟨y, hs⟩, r, ⟨rfl, hy⟩, k⟩ := h
    have s0 : Slots (start N_places [V.ref y]) [some (Pr.v (.ref y))] H := start_slots (Ps := [Pr.v (.ref y)]) (.cons rfl .nil) rfl
    exact s_ret (R := RE) s0 (Ex.refl _) (ev_sumI (ev_fldY T (ev_var rfl) fun H1 e => hy.ex e)) fun v H1 e p => k v H1 e p⟩
theorem ev_places {R : Rl} {env : Env'} {H : Hp} {ta : TE} {E : XK} {y : Addr} {hs : List Nat} (ha : Ev R ta env H (Pr.v (.ref y))) (hy : ∀ H1, R.r H H1 → Yd K B H1 y hs) : Ev R (tCall (sp_places K B) [] E (tCons ta tNil)) env H (Pr.v (.int ((hs.sum : Nat) : Int))) :=
  ev_spR (ea_cons ha ea_nil) (y, hs) sub_E rfl (fun vs H1 r1 pv => by
    obtain ⟨x, rfl, px⟩ := vs1 pv
    rw [show x = .ref y from px]
    exact ⟨rfl, hy H1 r1⟩) fun v H1 H2 _ _ p => p
theorem ev_need_number {R : Rl} {env : Env'} {H : Hp} {ta tb tc : TE} {E : XK} {i j : Int} {x : V} (ha : Ev R ta env H (Pr.v (.int i))) (hb : Ev R tb env H (Pr.v (.int j))) (hc : Ev R tc env H (Pr.v x)) (h : 0 ≤ i ∧ i < j) : Ev R (tCall sp_need_number [] E (tCons ta (tCons tb (tCons tc tNil)))) env H (Pr.p fun _ => True) :=
  ev_spR (ea_cons ha (ea_cons hb (ea_cons hc ea_nil))) (i, j) sub_E rfl (fun vs H1 r1 pv => by
    obtain ⟨a, b, c, rfl, pa, pb, pc⟩ := vs3 pv
    exact ⟨h, c, by rw [show a = .int i from pa, show b = .int j from pb]⟩) fun v H1 H2 _ _ p => p
/-- the depths of n boxes -/
def sp_deep_row (K : PySem.W.Frag) (B : Adr) : Sp := spR 2 (fun _ : Addr × List Nat × Nat => RE) (fun a vs H => vs = [.ref a.1, .int (a.2.2 : Nat)] ∧ Yd K B H a.1 a.2.1 ∧ a.2.2 ≤ a.2.1.sum ∧ a.2.1.length ≤ 50000) (fun a v _ H' => Tp K H' (iD (dps a.2.1 a.2.2)) v)
theorem iD_get {hs : List Nat} {i : Nat} {d : PyData} (h : (hs.map fun (n : Nat) => PyData.int (n : Int))[i]? = some d) : ∃ n, hs[i]? = some n ∧ d = .int (n : Int) := by
  rw [List.getElem?_map] at h
  cases e : hs[i]? with
  | none => rw [e] at h; cases h
  | some n =>
    rw [e] at h
    cases h
    exact ⟨n, rfl, rfl⟩
/-- the items of a comprehension that keeps all, as data -/
theorem kept_data {K : PySem.W.Frag} {ds : List PyData} {xs : List V} {H : Hp} {n : Nat} {Ez : Nat → Pr} (hn : n = ds.length) (he : ∀ i d, ds[i]? = some d → Ez i = Pr.d K d) (h : Vs (kept n (fun _ => true) Ez) xs H) : Tps K H ds xs := by
  rw [kept_all] at h
  have e : (List.range n).map Ez = ds.map (Pr.d K) := by
    subst hn
    apply List.ext_getElem
    · simp
    · intro i h1 h2
      simp only [List.getElem_map, List.getElem_range]
      exact he i _ (List.getElem?_eq_getElem (by simpa using h2))
  rw [e] at h
  exact vs_d h
theorem getD_of {α : Type} {xs : List α} {i : Nat} {x : α} (d : α) (h : xs[i]? = some x) : xs.getD i d = x := by
  rw [List.getD_eq_getElem?_getD, h]
  rfl
theorem ok_deep_row (T : Txt P K mg B) : FnOk P w K mg base CX0 4 B.a_deep_row B.d_deep_row ["yard", "boxes"] (sp_deep_row K B) :=
  T.F_deep_row.ok sc_deep_row (spR_len rfl) fun cdv A outer s H vs Q E hr h => ⟨_, der_deep_row T (ok_places T) (ok_need_number T) hr, by
    obtain ⟨_, ⟨y, hs, n⟩, r, ⟨rfl, hy, hn, hl⟩, k⟩ := h
    have hn' : n ≤ hs.sum := hn
    have hl' : hs.length ≤ 50000 := hl
    have s0 : Slots (start N_deep_row [V.ref y, V.int (n : Nat)]) [some (Pr.v (.ref y)), some (Pr.v (.int (n : Nat))), none, none] H := start_slots (Ps := [Pr.v (.ref y), Pr.v (.int (n : Nat))]) (.cons rfl (.cons rfl .nil)) rfl
    refine q_drop (R := RE) s0 (Ex.refl _) (ev_need_number (ev_var rfl) (ev_I0 (ev_places (hs := hs) (ev_var rfl) fun H1 e => hy.ex e) ev_cv) ev_cv (by omega)) fun H1 e1 s1 => ?_
    have hy1 := hy.ex e1
    refine q_asg (R := RE) s1 (Ex.refl _) (ev_I0 (ev_places (hs := hs) (ev_var rfl) fun H1 e => hy1.ex e) (ev_var rfl)) fun σ2 H2 e2 s2 => ?_
    have hy2 := hy1.ex e2
    refine s_ret (R := RE) (P := Pr.d K (iD (dps hs n))) s2 (Ex.refl _) ?_ fun v H3 e3 p => k v H3 ((e1.trans e2).trans e3) p
    refine ev_tupleN (C := fun xs H' => Vs (kept hs.length (fun _ => true) fun i => Pr.d K (.int ((hs.getD i 0 - (hs.sum - n) : Nat) : Int))) xs H') ?_ fun xs H3 c => kept_data (by simp [dps]) (fun i d h => ?_) c
    · refine ev_lc (Iz := fun i => Pr.d K (.int (hs.getD i 0 : Nat))) (n := hs.length) (fun _ => true) _ ?_ hl' (fun i => [some (Pr.v (.ref y)), some (Pr.v (.int (n : Nat))), some (Pr.v (.int (((hs.sum : Nat) : Int) - (n : Nat)))), some (Pr.d K (.int (hs.getD i 0 : Nat)))]) (fun i hi => ?_) (wp_name (by simp)) (fun i hi => et_yes) fun i hi _ => ?_
      · have q := sr_tup (R := RE) (Iz := fun i => Pr.d K (.int (hs.getD i 0 : Nat))) (ev_fldY T (ev_var rfl) fun H3 e3 => hy2.ex e3 : Ev RE (tFld K (tVar 0) "heights") [some (Pr.v (.ref y)), some (Pr.v (.int (n : Nat))), some (Pr.v (.int (((hs.sum : Nat) : Int) - (n : Nat)))), none] H2 (Pr.d K (iD hs))) fun i d h => by
          obtain ⟨m, hm, rfl⟩ := iD_get h
          rw [getD_of 0 hm]
        rw [List.length_map] at q
        exact q
      · exact tg_name (i := 3)
      · refine ev_v_int ?_
        have q := ev_max2 (R := RE) (env := [some (Pr.v (.ref y)), some (Pr.v (.int (n : Nat))), some (Pr.v (.int (((hs.sum : Nat) : Int) - (n : Nat)))), some (Pr.d K (.int (hs.getD i 0 : Nat)))]) (H := H2) (ev_cv (v := .int 0)) (ev_I0 (g := fun i j => .int (i - j)) (ev_int_v (K := K) (ev_var (i := 3) rfl)) (ev_var (i := 2) (P := Pr.v (.int (((hs.sum : Nat) : Int) - (n : Nat)))) rfl))
        have e : max (0 : Int) (((hs.getD i 0 : Nat) : Int) - (((hs.sum : Nat) : Int) - (n : Nat))) = ((hs.getD i 0 - (hs.sum - n) : Nat) : Int) := by omega
        rw [e] at q
        exact q
    · obtain ⟨m, hm, rfl⟩ := iD_get h
      unfold dps at hm
      rw [List.getElem?_map] at hm
      cases e : hs[i]? with
      | none => rw [e] at hm; cases hm
      | some z =>
        rw [e] at hm
        cases hm
        rw [getD_of 0 e]⟩
theorem ev_deep_row {R : Rl} {env : Env'} {H : Hp} {ta tb : TE} {E : XK} {y : Addr} {hs : List Nat} {n : Nat} (ha : Ev R ta env H (Pr.v (.ref y))) (hy : ∀ H1, R.r H H1 → Yd K B H1 y hs) (hb : Ev R tb env H (Pr.v (.int (n : Nat)))) (hn : n ≤ hs.sum) (hl : hs.length ≤ 50000) : Ev R (tCall (sp_deep_row K B) [] E (tCons ta (tCons tb tNil))) env H (Pr.d K (iD (dps hs n))) :=
  ev_spR (ea_cons ha (ea_cons hb ea_nil)) (y, hs, n) sub_E rfl (fun vs H1 r1 pv => by
    obtain ⟨a, b, rfl, pa, pb⟩ := vs2 pv
    rw [show a = .ref y from pa, show b = .int (n : Nat) from pb]
    exact ⟨rfl, hy H1 r1, hn, hl⟩) fun v H1 H2 _ _ p => p
/-- how many boxes -/
def sp_count_boxes (K : PySem.W.Frag) : Sp := spR 1 (fun _ : List (List Str) => RE) (fun s vs H => s.length ≤ 50000 ∧ ∃ v, vs = [v] ∧ Tp K H (sD s) v) (fun s v _ _ => v = .int (cnt s : Nat))
theorem sD_get {s : List (List Str)} {i : Nat} {d : PyData} (h : (s.map rD)[i]? = some d) : ∃ r, s[i]? = some r ∧ d = rD r := by
  rw [List.getElem?_map] at h
  cases e : s[i]? with
  | none => rw [e] at h; cases h
  | some r =>
    rw [e] at h
    cases h
    exact ⟨r, rfl, rfl⟩
theorem ok_count_boxes (T : Txt P K mg B) : FnOk P w K mg base CX0 1 B.a_count_boxes B.d_count_boxes ["standing"] (sp_count_boxes K) :=
  T.F_count_boxes.ok sc_count_boxes (spR_len rfl) fun cdv A outer s H vs Q E hr h => ⟨_, der_count_boxes T hr, by
    obtain ⟨_, st, r, ⟨hl, v, rfl, hv⟩, k⟩ := h
    have hl' : st.length ≤ 50000 := hl
    have s0 : Slots (start N_count_boxes [v]) [some (Pr.d K (sD st)), none] H := start_slots (Ps := [Pr.d K (sD st)]) (.cons hv .nil) rfl
    refine s_ret (R := RE) (P := Pr.v (.int (cnt st : Nat))) s0 (Ex.refl _) ?_ fun v H3 e3 p => k v H3 e3 p
    have q := ev_sumN (K := K) (R := RE) (H := H) (env := [some (Pr.d K (sD st)), none]) (ta := tLc (iTup K (tVar 0)) (gName 1) tYes (tCB (rLenSeq K) (tCons (tVar 1) tNil)) [1]) (ns := (st.map List.length).map fun (n : Nat) => (n : Int)) (C := fun xs H' => Vs (kept st.length (fun _ => true) fun i => Pr.d K (.int ((st.getD i []).length : Nat))) xs H') ?_ fun xs H3 c => ?_
    · rw [sum_cast] at q
      exact q
    · refine ev_lc (Iz := fun i => Pr.d K (rD (st.getD i []))) (n := st.length) (fun _ => true) _ ?_ hl' (fun i => [some (Pr.d K (sD st)), some (Pr.d K (rD (st.getD i [])))]) (fun i hi => tg_name (i := 1)) (wp_name (by simp)) (fun i hi => et_yes) fun i hi _ => ?_
      · have q := sr_tup (R := RE) (Iz := fun i => Pr.d K (rD (st.getD i []))) (ev_var (i := 0) rfl : Ev RE (tVar 0) [some (Pr.d K (sD st)), none] H (Pr.d K (sD st))) fun i d h => by
          obtain ⟨m, hm, rfl⟩ := sD_get h
          rw [getD_of [] hm]
        rw [List.length_map] at q
        exact q
      · refine ev_v_int ?_
        have q := ev_lenT (R := RE) (H := H) (ev_var (i := 1) (env := [some (Pr.d K (sD st)), some (Pr.d K (rD (st.getD i [])))]) (P := Pr.d K (rD (st.getD i []))) rfl)
        rw [List.length_map] at q
        exact q
    · have z := kept_data (K := K) (ds := ((st.map List.length).map fun (n : Nat) => (n : Int)).map PyData.int) (by simp) (fun i d h => ?_) c
      · exact tps_ints z
      · simp only [List.getElem?_map] at h
        cases e : st[i]? with
        | none => rw [e] at h; cases h
        | some z =>
          rw [e] at h
          cases h
          rw [getD_of [] e]⟩
theorem ev_count_boxes {R : Rl} {env : Env'} {H : Hp} {ta : TE} {E : XK} {st : List (List Str)} (ha : Ev R ta env H (Pr.d K (sD st))) (hl : st.length ≤ 50000) : Ev R (tCall (sp_count_boxes K) [] E (tCons ta tNil)) env H (Pr.v (.int (cnt st : Nat))) :=
  ev_spR (ea_cons ha ea_nil) st sub_E rfl (fun vs H1 r1 pv => by
    obtain ⟨x, rfl, px⟩ := vs1 pv
    exact ⟨hl, x, rfl, px⟩) fun v H1 H2 _ _ p => p
end Sd

set_option Elab.async false
set_option linter.all false
set_option maxRecDepth 100000
set_option maxHeartbeats 2000000
/-! Sp3: Yard.__init__, lot_of, boxes_of. -/
namespace Sd
open PySem PySem.Spec PyProof.Rows L2
variable {P : Program} {w : World} {K : PySem.W.Frag} {mg : Str → Option Value} {base : Heap} {B : Adr}
/-- heights of 1 to 12, 3 to 12 of them -/
def HsOk (hs : List Nat) : Prop := (3 ≤ hs.length ∧ hs.length ≤ 12) ∧ ∀ h ∈ hs, 1 ≤ h ∧ h ≤ 12
def sp_Yard_init (K : PySem.W.Frag) (B : Adr) : Sp := fun vs H Q _ => ∃ (x : Addr) (dx : Addr) (hv : V) (hs : List Nat), vs = [.ref x, hv] ∧ HsOk hs ∧ H x = some (.ins B.C_Yard dx []) ∧ Tp K H (iD hs) hv ∧
  ∀ H', (∀ a o, a ≠ x → H a = some o → H' a = some o) → Im H H' → Yd K B H' x hs → Q .non H'
theorem ok_Yard_init (T : Txt P K mg B) : FnOk P w K mg base CX0 3 B.a_Yard_init B.d_Yard_init ["self", "heights"] (sp_Yard_init K B) :=
  T.F_Yard_init.ok sc_Yard_init (fun vs H Q E h => by obtain ⟨x, dx, hv, hs, rfl, _⟩ := h; rfl) fun cdv A outer s H vs Q E hr h => ⟨_, der_Yard_init T (ok_is_below T) (ok_is_sequence T) hr, by
    obtain ⟨x, dx, hv, hs, rfl, ⟨hlen, hall⟩, hx, hh, k⟩ := h
    have s0 : Slots (start N_Yard_init [V.ref x, hv]) [some (Pr.v (.ref x)), some (Pr.d K (iD hs)), none, none] H := start_slots (Ps := [Pr.v (.ref x), Pr.d K (iD hs)]) (.cons rfl (.cons hh .nil)) rfl
    have hl : (hs.map fun (n : Nat) => PyData.int (n : Int)).length = hs.length := List.length_map ..
    refine q_no (R := RE) s0 (Ex.refl _) (et_is (et_or (a := false) (b := false) (et_not (et_B (ev_is_sequence (ds := hs.map fun (n : Nat) => PyData.int (n : Int)) (ev_var rfl)))) fun _ => ?_) rfl) fun H1 e1 s1 => ?_
    · refine et_not (a := true) (et_test ?_)
      have q := ev_chain (R := RE) (H := H) (r := rLeI) (r' := rLeI) (a := true) (b := true) (P := Pr.v (.int 3)) (P'' := Pr.v (.int 12)) ev_cv (ev_lenT (ev_var (i := 1) (env := [some (Pr.v (.ref x)), some (Pr.d K (iD hs)), none, none]) (P := Pr.d K (iD hs)) rfl)) ev_cv (fun a b H1 _ pa pb Q q => ⟨3, _, pa, pb, ?_⟩) fun _ b c H1 _ pb pc Q q => ⟨_, 12, pb, pc, ?_⟩
      · exact q
      · rw [hl]
        have z : decide ((3 : Int) ≤ (hs.length : Nat)) = true := decide_eq_true (by omega)
        show Q (V.bl (decide ((3 : Int) ≤ (hs.length : Nat)))) H1
        rw [z]
        exact q
      · rw [hl]
        have z : decide (((hs.length : Nat) : Int) ≤ 12) = true := decide_eq_true (by omega)
        show Q (V.bl (decide (((hs.length : Nat) : Int) ≤ 12))) H1
        rw [z]
        exact q
    · have sq : Sq RE (fun _ => False) (iEnumT K (tCons (tVar 1) tNil)) [some (Pr.v (.ref x)), some (Pr.d K (iD hs)), none, none] H1 hs.length (fun i => Pr.pair K (Pr.v (.int (i : Nat))) (Pr.d K (.int (hs.getD i 0 : Nat)))) := by
        have q := sq_enumT (K := K) (S := RE) (M := fun _ => False) (A := fun i => Pr.d K (.int (hs.getD i 0 : Nat))) (ev_var (i := 1) (env := [some (Pr.v (.ref x)), some (Pr.d K (iD hs)), none, none]) (H := H1) (P := Pr.d K (iD hs)) rfl) fun i d h => by
          obtain ⟨m, hm, rfl⟩ := iD_get h
          rw [getD_of 0 hm]
        rw [hl] at q
        exact q
      refine q_for sq s1 (Ex.refl _) [some (Pr.v (.ref x)), some (Pr.d K (iD hs)), none, none] (.s (.s (.s (.s .nil)))) (fun i => [some (Pr.v (.ref x)), some (Pr.d K (iD hs)), some (Pr.v (.int (i : Nat))), some (Pr.d K (.int (hs.getD i 0 : Nat)))]) (fun i hi => tg_pair (tg_name (i := 2)) (tg_name (i := 3))) (fun _ H' => Ex H H') (fun H2 e2 => e1.trans e2) (fun H2 e2 i σ' H' H3 hi wI I e3 s3 N hN => ?_) fun H2 e2 σ' H' wI s3 I => ?_
      · have hm : 1 ≤ hs.getD i 0 ∧ hs.getD i 0 ≤ 12 := by
          have : hs.getD i 0 = hs[i] := by rw [List.getD_eq_getElem?_getD, List.getElem?_eq_getElem hi] <;> rfl
          rw [this]
          exact hall _ (List.getElem_mem hi)
        refine s_no (R := RE) s3 (Ex.refl _) (et_is (et_or (a := false) (b := false) (et_is (et_not (et_B (ev_is_below (i := (hs.getD i 0 : Nat)) (j := 13) (ev_int_v (K := K) (ev_var rfl)) (ev_I0 (i := 12) (j := 1) (g := fun i j => .int (i + j)) ev_cv ev_cv)))) ?_) fun _ => et_is (et_test (ev_eqS (x := .int (hs.getD i 0 : Nat)) (y := .int 0) (ev_int_v (K := K) (ev_var rfl)) ev_cv rfl)) ?_) rfl) fun H4 e4 s4 => hN _ _ (e3.trans e4).w (s4.wk (.s (.s (.n (.n .nil))))) ((I.trans e3).trans e4)
        · rw [decide_eq_true (by omega)]
          rfl
        · refine decide_eq_false fun z => ?_
          have z2 : ((hs.getD i 0 : Nat) : Int) = 0 := V.int.inj z
          omega
      · -- self.heights = tuple(heights)
        refine ev_tupleT (R := RE) (ds := hs.map fun (n : Nat) => PyData.int (n : Int)) (ev_var (i := 1) (P := Pr.d K (iD hs)) rfl) σ' H' (Ex.refl _) s3 _ fun v H4 e4 pv => ?_
        obtain ⟨v0, ev0, pv0⟩ := s3.2 0 _ rfl
        have hx4 : H4 x = some (.ins B.C_Yard dx []) := e4 _ _ (I _ _ hx)
        refine ⟨v0, ev0, x, B.C_Yard, dx, [], pv0, hx4, T.cl_Yard, T.no_heights, by decide, ?_⟩
        have im : Im H4 (upd H4 x (.ins B.C_Yard dx [("heights", v)])) := im_put hx4 (fun _ z => nomatch z) (fun _ _ z => nomatch z)
        refine k _ (fun a o n h => by rw [upd_ne n]; exact e4 _ _ (I _ _ h)) ((I.trans e4).im.trans im) ⟨dx, v, upd_same, Tp.mono im _ _ pv⟩⟩

/-- the lot: the texts of the list, in order, each once -/
def Lot (ns ys : List Str) : Prop := sortedS ys = true ∧ ys.Nodup ∧ ∀ k, k ∈ ys ↔ k ∈ ns
def sp_lot_of (K : PySem.W.Frag) : Sp := spR 1 (fun _ : List Str => RE) (fun ns vs H => ns.length < 64 ∧ ∃ p, vs = [.ref p] ∧ H p = some (.lst (ns.map V.str))) (fun ns v _ H' => ∃ ys, Lot ns ys ∧ Tp K H' (rD ys) v)
theorem ok_lot_of (T : Txt P K mg B) : FnOk P w K mg base CX0 1 B.a_lot_of B.d_lot_of ["things"] (sp_lot_of K) :=
  T.F_lot_of.ok sc_lot_of (spR_len rfl) fun cdv A outer s H vs Q E hr h => ⟨_, der_lot_of T hr, by
    obtain ⟨_, ns, r, ⟨hl, p, rfl, hp⟩, k⟩ := h
    have hl' : ns.length < 64 := hl
    have s0 : Slots (start N_lot_of [V.ref p]) [some (Pr.v (.ref p))] H := start_slots (Ps := [Pr.v (.ref p)]) (.cons rfl .nil) rfl
    obtain ⟨v0, ev0, pv0⟩ := s0.2 0 _ rfl
    cases (show v0 = .ref p from pv0)
    refine ⟨_, ev0, p, ns, rfl, .inl (.inl hp), by omega, fun q hq => ⟨q, ns, rfl, upd_same, hl, fun ys l hs hn hm hlh => ?_⟩⟩
    have e1 : Ex H (upd H q (SetSO w q ns)) := Ex.new hq
    have e2 : Ex (upd H q (SetSO w q ns)) (upd (upd H q (SetSO w q ns)) l (.lst (ys.map V.str))) := Ex.new hlh
    refine ⟨l, ys.map V.str, rfl, .inl ⟨.inl (.inl upd_same), fun t ht => ?_⟩⟩
    have e3 := Ex.new (o := .tup (ys.map V.str)) ht
    exact k _ _ ((e1.trans e2).trans e3) ⟨ys, ⟨hs, hn, hm⟩, tp_tup (.inl (.inl upd_same)) (strs_tps ys)⟩⟩
/-- the boxes of a standing -/
def sp_boxes_of (K : PySem.W.Frag) : Sp := spR 1 (fun _ : List (List Str) => RE) (fun s vs H => (s.flatten.length < 64 ∧ s.length ≤ 1000) ∧ ∃ v, vs = [v] ∧ Tp K H (sD s) v) (fun s v _ H' => ∃ ys, Lot s.flatten ys ∧ Tp K H' (rD ys) v)
theorem flatten_take_succ {α : Type} {s : List (List α)} {i : Nat} {r : List α} (h : s[i]? = some r) : (s.take (i + 1)).flatten = (s.take i).flatten ++ r := by
  rw [List.take_add_one, h]
  simp
theorem yes_in {σ : L2.St} {H : Hp} {A B : Hp → Prop} (h : A H) : tYes σ H (fun b H3 => if b = true then A H3 else B H3) := by
  show (if true = true then A H else B H)
  rw [if_pos rfl]
  exact h
/-- a walk by turns of any form -/
theorem it2 {J : It} {n : Nat} {G : Hp → Prop} {Y : Nat → Hp → V → Hp → Prop} (wk : Walk J n G Y) {body : V → Hp → (Hp → Prop) → Prop} {H : Hp} {Nx : Hp → Prop} (Pv : Nat → Hp → Prop) (h0 : Pv 0 H) (hG : ∀ i H, i ≤ n → Pv i H → G H)
    (hs : ∀ i x H H', i < n → Pv i H → Y i H x H' → body x H' (Pv (i + 1))) (hd : ∀ H, Pv n H → Nx H) :
    ∃ W1 : Nat → Nat → Hp → Prop, (∃ m, W1 0 m H) ∧ ∀ j k H, W1 j k H → (J.stop j H ∧ Nx H) ∨ (J.go j H ∧ ∃ Nx1 : Hp → Prop, (∀ H', Nx1 H' → ∃ k', k' < k ∧ W1 (j + 1) k' H') ∧ ∀ x H', J.yld j H x H' → body x H' Nx1) := by
  refine ⟨fun i m H => m = n - i ∧ i ≤ n ∧ Pv i H, ⟨n, by simp, Nat.zero_le _, h0⟩, ?_⟩
  rintro i m H ⟨rfl, hi, p⟩
  have q := hG i H hi p
  by_cases hlt : i < n
  · exact .inr ⟨wk.goes i H hlt q, Pv (i + 1), fun H' p' => ⟨n - (i + 1), by omega, rfl, hlt, p'⟩, fun x H' y => hs i x H H' hlt p (wk.yields i H x H' hlt q y)⟩
  · have e : i = n := by omega
    subst e
    exact .inl ⟨wk.stops H q, hd H p⟩
theorem ok_boxes_of (T : Txt P K mg B) : FnOk P w K mg base CX0 2 B.a_boxes_of B.d_boxes_of ["standing"] (sp_boxes_of K) :=
  T.F_boxes_of.ok sc_boxes_of (spR_len rfl) fun cdv A outer s H vs Q E hr h => ⟨_, der_boxes_of T (ok_lot_of T) hr, by
    obtain ⟨_, st, r, ⟨⟨hl, hl1⟩, v, rfl, hv⟩, k⟩ := h
    have s0 : Slots (start N_boxes_of [v]) [some (Pr.d K (sD st)), none, none] H := start_slots (Ps := [Pr.d K (sD st)]) (.cons hv .nil) rfl
    obtain ⟨v0, ev0, pv0⟩ := s0.2 0 _ rfl
    obtain ⟨a, xs, rfl, hx, ht⟩ := Tp.tup_ pv0
    have hlx := ht.length
    rw [List.length_map] at hlx
    -- the list of all boxes
    refine ⟨_, ev0, a, rfl, ⟨xs, hx⟩, fun D hD => ?_⟩
    have Dn : ∀ {H' : Hp} {o : List V}, H' D = some (.lst o) → ∀ u, Im H' (upd H' D u) := fun h u => im_lst h
    refine it2 (walk_tup (K := K) (a := a) (xs := xs)) (fun i H' => Ex H H' ∧ H' D = some (.lst ((st.take i).flatten.map V.str))) ⟨Ex.new hD, upd_same⟩ (fun i H' _ p => p.1.im.sqt hx) (fun i x H' H'' hi p y => ?_) fun H' p => ?_
    · obtain ⟨rfl, hxi⟩ := y
      obtain ⟨d, hd, td⟩ := ht.at_ hxi
      obtain ⟨rw_, hrow, rfl⟩ := sD_get hd
      have td' := Tp.mono p.1.im _ _ td
      refine ⟨wipe_set (by simp), ?_⟩
      refine yes_in ?_
      obtain ⟨b, ys, rfl, hy, hty⟩ := Tp.tup_ td'
      have eys := tps_strs hty
      subst eys
      have hi' : i < st.length := (List.getElem?_eq_some_iff.mp hrow).1
      have hcat : (st.take (i + 1)).flatten.length ≤ st.flatten.length := by
        have z : st.flatten = (st.take (i + 1)).flatten ++ (st.drop (i + 1)).flatten := by rw [← List.flatten_append, List.take_append_drop]
        rw [z, List.length_append]
        omega
      rw [flatten_take_succ hrow, List.length_append] at hcat
      refine ⟨.ref b, ?_, b, rfl, ⟨_, hy⟩, ?_⟩
      · rw [List.getElem?_set_self]
        show 1 < (L2.wipe _ _).length
        rw [L2.wipe_length]
        show 1 < 3
        decide
      refine it2 (walk_tup (K := K) (a := b) (xs := rw_.map V.str)) (fun j H2 => Ex H H2 ∧ SqT K H2 b (rw_.map V.str) ∧ H2 D = some (.lst (((st.take i).flatten ++ rw_.take j).map V.str))) ⟨p.1, hy, by rw [List.take_zero, List.append_nil]; exact p.2⟩ (fun j H2 _ p2 => p2.2.1) (fun j x H2 H3 hj p2 y => ?_) fun H2 p2 => ?_
      · obtain ⟨rfl, hxj⟩ := y
        have hj' : j < rw_.length := by simpa using hj
        have ex : x = V.str rw_[j] := by
          rw [List.getElem?_map, List.getElem?_eq_getElem hj'] at hxj
          exact (Option.some.inj hxj).symm
        subst ex
        refine ⟨wipe_set (by simp), ?_⟩
        refine yes_in ?_
        refine ⟨.str rw_[j], ?_, _, p2.2.2, ?_, ?_, ?_, ?_⟩
        · rw [List.getElem?_set_self]
          show 2 < (L2.wipe _ _).length
          rw [L2.wipe_length, List.length_set, L2.wipe_length]
          show 2 < 3
          decide
        · rw [List.length_map, List.length_append, List.length_take, sizeLine_eq]
          have hl0 : st.flatten.length < 64 := hl
          omega
        · intro c o hc
          have ne : c ≠ D := ne_of_none hc hD
          rw [upd_ne ne]
          exact p2.1 _ _ hc
        · exact (Dn p2.2.2 _).sqt p2.2.1
        · rw [upd_same, ← List.map_singleton, ← List.map_append, List.append_assoc, List.take_append_getElem hj']
      · refine ⟨p2.1, ?_⟩
        rw [flatten_take_succ hrow]
        have z := p2.2.2
        rw [List.length_map, List.take_length] at z
        exact z
    · have z := p.2
      rw [hlx, List.take_length] at z
      exact ⟨rfl, st.flatten, Ex.refl _, ⟨hl, D, rfl, z⟩, fun v H2 e2 pq => k v H2 (p.1.trans e2) pq⟩⟩
end Sd

set_option Elab.async false
set_option linter.all false
set_option maxRecDepth 100000
set_option maxHeartbeats 2000000
/-! Sp4: need_standing. -/
namespace Sd
open PySem PySem.Spec PyProof.Rows L2

/-- no tuple -/
def NT (H : Hp) (v : V) : Prop := v = .non ∨ (∃ x, v = .str x) ∨ (∃ i, v = .int i) ∨ ∃ p xs, v = .ref p ∧ H p = some (.lst xs)
theorem NT.ex {H H' : Hp} {v : V} (h : NT H v) (e : Ex H H') : NT H' v := by
  rcases h with h | h | h | ⟨p, xs, h1, h2⟩
  · exact .inl h
  · exact .inr (.inl h)
  · exact .inr (.inr (.inl h))
  · exact .inr (.inr (.inr ⟨p, xs, h1, e _ _ h2⟩))
/-- a row walked: the boxes met so far, where all is well -/
def rowGo : List PyData → List Str → Option (List Str)
  | [], seen => some seen
  | .str x :: ds, seen => if nameOk x = true ∧ x ∉ seen then rowGo ds (seen ++ [x]) else none
  | _ :: _, _ => none
def GoodRows (hs : List Nat) (s : List (List Str)) : Prop := (∀ (i : Nat) (r : List Str) (h : Nat), s[i]? = some r → hs[i]? = some h → r.length ≤ h) ∧ (∀ x ∈ s.flatten, nameOk x = true) ∧ s.flatten.Nodup
def Valid (hs : List Nat) (s : List (List Str)) : Prop := s.length = hs.length ∧ GoodRows hs s
def BadRow (K : PySem.W.Frag) (H : Hp) (h : Nat) (seen : List Str) (t : V) : Prop := NT H t ∨ ∃ ds, Tp K H (.tuple ds) t ∧ ((∀ d ∈ ds, shortD d) ∧ ds.length ≤ 1000) ∧ (h < ds.length ∨ rowGo ds seen = none)
theorem BadRow.ex {K : PySem.W.Frag} {H H' : Hp} {h : Nat} {seen : List Str} {t : V} (b : BadRow K H h seen t) (e : Ex H H') : BadRow K H' h seen t := by
  rcases b with b | ⟨ds, b1, b2, b3⟩
  · exact .inl (b.ex e)
  · exact .inr ⟨ds, Tp.mono e.im _ _ b1, b2, b3⟩
/-- what need_standing says of a value: none, or the place of the fault -/
inductive NsAt (K : PySem.W.Frag) (H : Hp) (hs : List Nat) (v : V) : Option Int → Prop
  | good (s : List (List Str)) : Tp K H (sD s) v → Valid hs s → s.flatten.length ≤ 1000 → NsAt K H hs v none
  | no : NT H v → NsAt K H hs v (some (-1))
  | len (a : Addr) (xs : List V) : v = .ref a → SqT K H a xs → xs.length ≠ hs.length → NsAt K H hs v (some (-1))
  | row (a : Addr) (xs : List V) (s0 : List (List Str)) (t : V) (h : Nat) : v = .ref a → SqT K H a xs → xs.length = hs.length → Tps K H (s0.map rD) (xs.take s0.length) → xs[s0.length]? = some t → hs[s0.length]? = some h → GoodRows hs s0 → s0.flatten.length ≤ 1000 →
      BadRow K H h s0.flatten t → NsAt K H hs v (some (s0.length : Nat))
theorem NsAt.ex {K : PySem.W.Frag} {H H' : Hp} {hs : List Nat} {v : V} {o : Option Int} (n : NsAt K H hs v o) (e : Ex H H') : NsAt K H' hs v o := by
  cases n with
  | good s h1 h2 h3 => exact .good s (Tp.mono e.im _ _ h1) h2 h3
  | no h => exact .no (h.ex e)
  | len a xs h1 h2 h3 => exact .len a xs h1 (e.im.sqt h2) h3
  | row a xs s0 t h h1 h2 h3 h4 h5 h6 h7 h8 h9 => exact .row a xs s0 t h h1 (e.im.sqt h2) h3 (Tps.mono e.im _ _ h4) h5 h6 h7 h8 (h9.ex e)
theorem rowGo_good : ∀ (r seen : List Str), (∀ x ∈ r, nameOk x = true) → (seen ++ r).Nodup → rowGo (r.map PyData.str) seen = some (seen ++ r)
  | [], seen, _, _ => by simp [rowGo]
  | x :: r, seen, h1, h2 => by
    have hx : x ∉ seen := fun z => by
      have := (List.nodup_append.mp h2).2.2 x z x List.mem_cons_self
      exact this rfl
    rw [List.map_cons, rowGo, if_pos ⟨h1 x List.mem_cons_self, hx⟩, rowGo_good r (seen ++ [x]) (fun y hy => h1 y (List.mem_cons_of_mem _ hy)) (by rw [List.append_assoc]; exact h2)]
    simp

/-! the boxes seen -/
def seenK (seen : List Str) : List (Key × V) := seen.map fun x => (Sum.inr x, V.bl true)
theorem valV_seen (seen : List Str) (x : Str) : (valV (seenK seen) (Sum.inr x : Key)).isSome = decide (x ∈ seen) := by
  unfold valV seenK
  rw [Option.isSome_map]
  by_cases h : x ∈ seen
  · rw [decide_eq_true h, List.find?_isSome]
    exact ⟨(Sum.inr x, V.bl true), List.mem_map.mpr ⟨x, h, rfl⟩, by simp⟩
  · rw [decide_eq_false h]
    cases q : (seen.map fun x => ((Sum.inr x : Key), V.bl true)).find? (fun kv => decide (kv.1 = Sum.inr x)) with
    | none => rfl
    | some y =>
      have h1 := List.mem_of_find?_eq_some q
      have h2 := List.find?_some q
      simp only [decide_eq_true_eq] at h2
      obtain ⟨z, hz, rfl⟩ := List.mem_map.mp h1
      cases h2
      exact absurd hz h
theorem putK_seen {seen : List Str} {x : Str} (h : x ∉ seen) : putK (seenK seen) (Sum.inr x : Key) (V.bl true) = seenK (seen ++ [x]) := by
  unfold putK
  rw [if_neg]
  · unfold seenK
    rw [List.map_append]
    rfl
  · intro z
    obtain ⟨kv, hk, e⟩ := List.any_eq_true.mp z
    simp only [decide_eq_true_eq] at e
    obtain ⟨y, hy, rfl⟩ := List.mem_map.mp hk
    cases e
    exact h hy
section
variable {S : Rl} {M : Addr → Prop} {K : PySem.W.Frag} {env : Env'} {H : Hp} {te : TE}
/-- enumerate(a tuple of any things) -/
theorem sq_enumX {a : Addr} {xs : List V} (h : Ev S te env H (Pr.v (.ref a))) (hx : SqT K H a xs) : Sq S M (iEnumT K (tCons te tNil)) env H xs.length (fun i => Pr.pair K (Pr.v (.int (i : Nat))) (Pr.v (xs.getD i .non))) := fun σ H1 r1 s RR k =>
  h σ H1 r1 s _ fun v H2 r2 p => by
    have hx2 := (S.im (S.trans r1 r2)).sqt hx
    refine ⟨a, xs, by rw [show v = .ref a from p], hx2, k (ItuT K a) (fun H' => SqT K H' a xs) H2 r2 ?_ fun H' w => w.1.sqt hx2⟩
    refine ⟨fun i H' hi g => ⟨xs, xs[i], g, by simp⟩, fun H' g => ⟨xs, g, rfl⟩, fun i H' x H'' hi g y => ?_⟩
    obtain ⟨T, x', rfl, hT, rfl, hv⟩ := y
    have e5 : Ex H' (upd H' T (.tup [V.int (i : Nat), x'])) := Ex.new hT
    exact ⟨e5, T, _, _, rfl, .inl (.inl upd_same), rfl, (getD_of _ (hv xs g)).symm⟩
theorem ev_lenX {R : Rl} {a : Addr} {xs : List V} (ha : Ev R te env H (Pr.v (.ref a))) (hx : SqT K H a xs) : Ev R (tCB (rLenSeq K) (tCons te tNil)) env H (Pr.v (.int (xs.length : Nat))) :=
  ev_cb (ea_cons ha ea_nil) fun vs H1 r1 pv Q q => by
    obtain ⟨x, rfl, px⟩ := vs1 pv
    cases (show x = .ref a from px)
    exact ⟨a, xs, rfl, .inr ((R.im r1).sqt hx), q _ H1 (R.again r1) rfl⟩
/-- isinstance(x, tuple), x no tuple -/
theorem ev_isiNT {R : Rl} {v : V} (ha : Ev R te env H (Pr.v v)) (hn : ∀ H1, R.r H H1 → NT H1 v) : Ev R (tCB (rIsi K) (tCons te (tCons (tC (.ty "tuple")) tNil))) env H (Pr.v (.bl false)) :=
  ev_cb (ea_cons ha (ea_cons ev_cv ea_nil)) fun vs H1 r1 pv Q q => by
    obtain ⟨x, y, rfl, px, py⟩ := vs2 pv
    cases (show y = .ty "tuple" from py)
    cases (show x = v from px)
    have q' := q _ H1 (R.again r1) rfl
    rcases hn H1 r1 with rfl | ⟨z, rfl⟩ | ⟨i, rfl⟩ | ⟨p, xs, rfl, h2⟩
    · exact ⟨_, _, _, _, false, rfl, .ty "tuple", tyx_of (K := K) (H := H1) (tp_none (K := K) (H := H1)), (kit_tup K .none (fun _ e => nomatch e) (fun _ e => nomatch e)), q'⟩
    · exact ⟨_, _, _, _, false, rfl, .ty "tuple", tyx_of (K := K) (H := H1) (d := .str z) (tp_str (K := K) (H := H1)), (kit_tup K (.str z) (fun _ e => nomatch e) (fun _ e => nomatch e)), q'⟩
    · exact ⟨_, _, _, _, false, rfl, .ty "tuple", tyx_of (K := K) (H := H1) (d := .int i) (tp_int (K := K) (H := H1)), (kit_tup K (.int i) (fun _ e => nomatch e) (fun _ e => nomatch e)), q'⟩
    · exact ⟨_, _, _, _, false, rfl, .ty "tuple", .base (.lst h2), kit_list K, q'⟩
theorem ev_isiX {R : Rl} {a : Addr} {xs : List V} (ha : Ev R te env H (Pr.v (.ref a))) (hx : SqT K H a xs) : Ev R (tCB (rIsi K) (tCons te (tCons (tC (.ty "tuple")) tNil))) env H (Pr.v (.bl true)) :=
  ev_cb (ea_cons ha (ea_cons ev_cv ea_nil)) fun vs H1 r1 pv Q q => by
    obtain ⟨x, y, rfl, px, py⟩ := vs2 pv
    cases (show y = .ty "tuple" from py)
    cases (show x = .ref a from px)
    exact ⟨_, _, _, _, true, rfl, .ty "tuple", tyx_sqt ((R.im r1).sqt hx), kit_tup K (.tuple []) (fun _ e => nomatch e) (fun _ e => nomatch e), q _ H1 (R.again r1) rfl⟩
/-- raise C(x) -/
theorem s_raise {R : Rl} {σ : L2.St} {f : Str} {C : Addr} {Wx : WX} {D : Ends} {v : V} (s : Slots σ env H) (r : R.r H H) (h : Ev R te env H (Pr.v v)) (k : ∀ d H1, R.r H H1 → H1 d = none → Wx (.ref C) (some d) σ (upd H1 d (.xd [(f, v)]))) : tRaiseE f C Wx (tCons te tNil) D σ H :=
  h σ H r s _ fun x H1 r1 p => ⟨v, by rw [show x = v from p], fun d hd => k d H1 r1 hd⟩
end
/-- the error that says where -/
def AtErr (B : Adr) (E : XK) (H : Hp) (a : Int) : Prop := ∀ d H', Ex H H' → H' d = some (.xd [("at", .int a)]) → E (.ref B.C_InvalidStanding) (some d) H'
theorem AtErr.ex {B : Adr} {E : XK} {H H' : Hp} {a : Int} (h : AtErr B E H a) (e : Ex H H') : AtErr B E H' a := fun d H2 e2 h2 => h d H2 (e.trans e2) h2
variable {P : Program} {w : World} {K : PySem.W.Frag} {mg : Str → Option Value} {base : Heap} {B : Adr}
def sp_need_standing (K : PySem.W.Frag) (B : Adr) : Sp := fun vs H Q E => ∃ (y : Addr) (hs : List Nat) (v : V) (o : Option Int), vs = [.ref y, v] ∧ Yd K B H y hs ∧ hs.length ≤ 1000 ∧ NsAt K H hs v o ∧
  match o with
  | none => ∀ H', Ex H H' → Q .non H'
  | some a => AtErr B E H a
theorem rowGo_snoc : ∀ (a : List PyData) (d : PyData) (seen : List Str), rowGo (a ++ [d]) seen = (rowGo a seen).bind (rowGo [d])
  | [], d, seen => rfl
  | .str x :: a, d, seen => by
    rw [List.cons_append, rowGo, rowGo]
    by_cases h : nameOk x = true ∧ x ∉ seen
    · rw [if_pos h, if_pos h]
      exact rowGo_snoc a d _
    · rw [if_neg h, if_neg h]
      rfl
  | .none :: a, d, seen => by simp [rowGo]
  | .bool _ :: a, d, seen => by simp [rowGo]
  | .int _ :: a, d, seen => by simp [rowGo]
  | .tuple _ :: a, d, seen => by simp [rowGo]
  | .list _ :: a, d, seen => by simp [rowGo]
  | .dict _ :: a, d, seen => by simp [rowGo]
theorem rowGo_pre : ∀ (a b : List PyData) (seen : List Str), rowGo a seen = none → rowGo (a ++ b) seen = none
  | [], b, seen, h => by simp [rowGo] at h
  | .str x :: a, b, seen, h => by
    rw [List.cons_append, rowGo] at *
    by_cases z : nameOk x = true ∧ x ∉ seen
    · rw [if_pos z] at h ⊢
      exact rowGo_pre a b _ h
    · rw [if_neg z]
  | .none :: a, b, seen, h => by simp [rowGo]
  | .bool _ :: a, b, seen, h => by simp [rowGo]
  | .int _ :: a, b, seen, h => by simp [rowGo]
  | .tuple _ :: a, b, seen, h => by simp [rowGo]
  | .list _ :: a, b, seen, h => by simp [rowGo]
  | .dict _ :: a, b, seen, h => by simp [rowGo]
/-- d is a name not met -/
def oneOk (d : PyData) (seen : List Str) : Bool := nameD d && match d with | .str x => !decide (x ∈ seen) | _ => true
theorem rowGo_one (d : PyData) (seen : List Str) : rowGo [d] seen = if oneOk d seen = true then (match d with | .str x => some (seen ++ [x]) | _ => some seen) else none := by
  cases d with
  | str x =>
    simp only [rowGo, oneOk, nameD]
    by_cases h1 : nameOk x = true <;> by_cases h2 : x ∈ seen <;> simp [h1, h2]
  | _ => simp [rowGo, oneOk, nameD]
/-- the walk over one row -/
theorem ns_row (T : Txt P K mg B) {E : XK} {H0 H : Hp} {σ : L2.St} {p : Addr} {i : Int} {v4 : V} {ds : List PyData} {seen0 : List Str} {D : Ends} {A0 A1 : Option Pr} (e0 : Ex H0 H) (hn0 : H0 p = none) (hds : Tp K H (.tuple ds) v4) (hsh : ∀ d ∈ ds, shortD d) (hz : ds.length + seen0.length ≤ 100000)
    (hp : H p = some (.dK (seenK seen0))) (s : Slots σ [A0, A1, some (Pr.v (.ref p)), some (Pr.v (.int i)), some (Pr.v v4), none] H)
    (hgo : ∀ sj, rowGo ds seen0 = some sj → ∀ σ3 H3, W (fun a => a = p) H H3 → Ex H0 H3 → H3 p = some (.dK (seenK sj)) → Slots σ3 [A0, A1, some (Pr.v (.ref p)), some (Pr.v (.int i)), some (Pr.v v4), none] H3 → D.nx σ3 H3)
    (hbad : rowGo ds seen0 = none → AtErr B E H0 i) :
    tFor (iTup K (tVar 4)) (gName 5) (tSeq (tIfS (tOr (tNot (tB (tCall (sp_is_name K) [] E0 (tCons (tVar 5) tNil)))) (tB (tDIn (tVar 5) (tVar 2)))) (tRaiseE "at" B.C_InvalidStanding (fun cls d _ H => E cls d H) (tCons (tVar 3) tNil)) tNext) (sDPut (tVar 2) (tVar 5) (tC (.bl true)))) D σ H := by
  have s' : Slots σ [A0, A1, some (Pr.v (.ref p)), some (Pr.v (.int i)), some (Pr.d K (.tuple ds)), none] H := by
    have z := s.imp (i := 4) (P' := Pr.d K (.tuple ds)) rfl fun v hv => by
      cases (show v = v4 from hv)
      exact hds
    exact z
  have back : ∀ {σ3 : L2.St} {H3 : Hp}, Slots σ3 [A0, A1, some (Pr.v (.ref p)), some (Pr.v (.int i)), some (Pr.and (Pr.v v4) (Pr.d K (.tuple ds))), none] H3 → Slots σ3 [A0, A1, some (Pr.v (.ref p)), some (Pr.v (.int i)), some (Pr.v v4), none] H3 := fun z => by
    have z2 := z.imp (i := 4) (P' := Pr.v v4) rfl fun v hv => hv.1
    exact z2
  have s2 : Slots σ [A0, A1, some (Pr.v (.ref p)), some (Pr.v (.int i)), some (Pr.and (Pr.v v4) (Pr.d K (.tuple ds))), none] H := by
    have z := s.imp (i := 4) (P' := Pr.and (Pr.v v4) (Pr.d K (.tuple ds))) rfl fun v hv => by
      refine ⟨hv, ?_⟩
      cases (show v = v4 from hv)
      exact hds
    exact z
  have hsrc : Ev RE (tVar 4) [A0, A1, some (Pr.v (.ref p)), some (Pr.v (.int i)), some (Pr.and (Pr.v v4) (Pr.d K (.tuple ds))), none] H (Pr.d K (.tuple ds)) := (ev_var (i := 4) (P := Pr.and (Pr.v v4) (Pr.d K (.tuple ds))) rfl).imp fun v H2 _ h => h.2
  refine s_for (S := RE) (M := fun a => a = p) (sq_tup (K := K) (Iz := fun j => Pr.d K (ds.getD j .none)) hsrc fun j d h => by rw [getD_of _ h]) s2 (Ex.refl _) [A0, A1, some (Pr.v (.ref p)), some (Pr.v (.int i)), some (Pr.and (Pr.v v4) (Pr.d K (.tuple ds))), none] (.s (.s (.s (.s (.s (.s .nil)))))) (fun j => [A0, A1, some (Pr.v (.ref p)), some (Pr.v (.int i)), some (Pr.and (Pr.v v4) (Pr.d K (.tuple ds))), some (Pr.d K (ds.getD j .none))])
    (fun j hj => tg_name (i := 5)) (fun j H' => Ex H0 H' ∧ W (fun a => a = p) H H' ∧ ∃ sj, rowGo (ds.take j) seen0 = some sj ∧ sj.length ≤ seen0.length + j ∧ H' p = some (.dK (seenK sj))) (fun H1 e1 => ⟨e0.trans e1, Ex.w e1, seen0, rfl, Nat.le_add_right _ _, e1 _ _ hp⟩) (fun H1 e1 j σ' H' H2 hj w1 I e2 s2 N hN => ?_) fun H1 e1 σ' H' w1 s1 I => ?_
  · obtain ⟨x0, wz, sj, hgj, hlj, hpj⟩ := I
    have hdj : ds[j]? = some ds[j] := List.getElem?_eq_getElem hj
    have egd : ds.getD j .none = ds[j] := getD_of _ hdj
    have hsnoc : rowGo (ds.take (j + 1)) seen0 = rowGo [ds[j]] sj := by
      rw [List.take_add_one, hdj]
      show rowGo (ds.take j ++ [ds[j]]) seen0 = _
      rw [rowGo_snoc, hgj]
      rfl
    have hbadj : oneOk ds[j] sj = false → rowGo ds seen0 = none := fun z => by
      have z2 : rowGo (ds.take (j + 1)) seen0 = none := by
        rw [hsnoc, rowGo_one, z]
        rfl
      have z3 := rowGo_pre (ds.take (j + 1)) (ds.drop (j + 1)) seen0 z2
      rwa [List.take_append_drop] at z3
    have ev5 : Ev RE (tVar 5) [A0, A1, some (Pr.v (.ref p)), some (Pr.v (.int i)), some (Pr.and (Pr.v v4) (Pr.d K (.tuple ds))), some (Pr.d K (ds.getD j .none))] H2 (Pr.d K ds[j]) := by
      rw [← egd]
      exact ev_var rfl
    have hp2 := e2 _ _ hpj
    refine q_if (R := RE) s2 (Ex.refl _) (b := !oneOk ds[j] sj) (et_is (et_or (a := !nameD ds[j]) (b := match ds[j] with | .str x => decide (x ∈ sj) | _ => false) (et_not (et_B (ev_is_name ev5 (hsh _ (List.getElem_mem hj))))) fun hnm => ?_) ?_) (fun hb H3 e3 s3 => ?_) fun hb H3 e3 s3 => ?_
    · -- the box is a text
      rw [Bool.not_eq_false'] at hnm
      cases hd : ds[j] with
      | str x =>
        have ev5' : Ev RE (tVar 5) [A0, A1, some (Pr.v (.ref p)), some (Pr.v (.int i)), some (Pr.and (Pr.v v4) (Pr.d K (.tuple ds))), some (Pr.d K (ds.getD j .none))] H2 (Pr.v (.str x)) := ev_str_v (K := K) (by rw [hd] at ev5; exact ev5)
        refine et_B (b := decide (x ∈ sj)) fun σ4 H4 e4 s4 Q q => ?_
        refine ev5' σ4 H4 e4 s4 _ fun u H5 e5 pu => ?_
        obtain ⟨v2, ev2, pv2⟩ := (s4.mono e5.im).2 2 _ rfl
        refine ⟨v2, ev2, p, _, pv2, .inl ⟨seenK sj, Sum.inr x, .inl ((e4.trans e5) _ _ hp2), pu, rfl⟩, ?_⟩
        rw [valV_seen]
        exact q _ H5 e5 rfl
      | none => rw [hd] at hnm; exact Bool.noConfusion hnm
      | bool b => rw [hd] at hnm; exact Bool.noConfusion hnm
      | int b => rw [hd] at hnm; exact Bool.noConfusion hnm
      | tuple b => rw [hd] at hnm; exact Bool.noConfusion hnm
      | list b => rw [hd] at hnm; exact Bool.noConfusion hnm
      | dict b => rw [hd] at hnm; exact Bool.noConfusion hnm
    · unfold oneOk
      cases ds[j] <;> simp [nameD]
    · rw [Bool.not_eq_true'] at hb
      have er := hbad (hbadj hb)
      refine s_raise (R := RE) s3 (Ex.refl _) (ev_var (i := 3) rfl) fun d H4 e4 hd => ?_
      have x4 := ((x0.trans e2).trans e3).trans e4
      exact er d _ (x4.trans (Ex.new hd)) upd_same
    · rw [Bool.not_eq_false'] at hb
      -- the box goes into the lot
      cases hd : ds[j] with
      | str x =>
        have hx : x ∉ sj := fun z => by
          rw [hd] at hb
          simp [oneOk, z] at hb
        have ev5' : Ev RE (tVar 5) [A0, A1, some (Pr.v (.ref p)), some (Pr.v (.int i)), some (Pr.and (Pr.v v4) (Pr.d K (.tuple ds))), some (Pr.d K (ds.getD j .none))] H2 (Pr.v (.str x)) := ev_str_v (K := K) (by rw [hd] at ev5; exact ev5)
        obtain ⟨v2, ev2, pv2⟩ := s3.2 2 _ rfl
        cases (show v2 = .ref p from pv2)
        refine ⟨_, ev2, ev5' σ' H3 e3 s3 _ fun u H4 e4 pu => ?_⟩
        cases (show u = .str x from pu)
        have hp4 := e4 _ _ (e3 _ _ hp2)
        refine ⟨p, _, rfl, .inl ⟨seenK sj, Sum.inr x, hp4, rfl, ?_, rfl⟩, ?_⟩
        · unfold seenK
          rw [List.length_map, sizeLine_eq]
          omega
        · rw [putK_seen hx]
          have im := im_dK (o := .dK (seenK (sj ++ [x]))) hp4
          have xx : Ex H0 H4 := ((x0.trans e2).trans e3).trans e4
          have ww : W (fun a => a = p) H' (upd H4 p (.dK (seenK (sj ++ [x])))) := (((e2.trans e3).trans e4).w).trans (w_put im rfl)
          have xn : Ex H0 (upd H4 p (.dK (seenK (sj ++ [x])))) := fun c o hc => by
            rw [upd_ne (ne_of_none hc hn0)]
            exact xx _ _ hc
          refine hN _ _ ww (((s3.mono e4.im).mono im).wk (.s (.s (.s (.s (.s (.n .nil))))))) ⟨xn, wz.trans ww, sj ++ [x], ?_, ?_, upd_same⟩
          · rw [hsnoc, rowGo_one, hb, hd]
            rfl
          · rw [List.length_append, List.length_singleton]
            omega
      | none => rw [hd] at hb; exact Bool.noConfusion hb
      | bool b => rw [hd] at hb; exact Bool.noConfusion hb
      | int b => rw [hd] at hb; exact Bool.noConfusion hb
      | tuple b => rw [hd] at hb; exact Bool.noConfusion hb
      | list b => rw [hd] at hb; exact Bool.noConfusion hb
      | dict b => rw [hd] at hb; exact Bool.noConfusion hb
  · obtain ⟨x0, wz, sj, hgj, hlj, hpj⟩ := I
    rw [List.take_length] at hgj
    exact hgo sj hgj σ' H' wz x0 hpj (back s1)
/-- the walk over the rows: s0 the good ones, behind them nothing or a bad one -/
theorem ns_rows (T : Txt P K mg B) {Q : VK} {H0 H : Hp} {σ : L2.St} {y p a : Addr} {hs : List Nat} {xs : List V} {s0 : List (List Str)} (hl : hs.length ≤ 1000) (e0 : Ex H0 H) (hn0 : H0 p = none) (hy : Yd K B H y hs) (hx : SqT K H a xs) (hlen : xs.length = hs.length) (ht : Tps K H (s0.map rD) (xs.take s0.length)) (hg : GoodRows hs s0) (hk : s0.length ≤ xs.length)
    (hp : H p = some (.dK [])) (s : Slots σ [some (Pr.v (.ref y)), some (Pr.v (.ref a)), some (Pr.v (.ref p)), none, none, none] H)
    (hend : s0.length = xs.length → ∀ H', Ex H0 H' → Q .non H') {tb : TS} {D : Ends}
    (hD : D.nx = fun _ H' => Q .non H')
    (hb : ∀ (i : Nat) (σ' : L2.St) (H' : Hp) (N : L2.St → Hp → Prop) (D' : Ends), D'.nx = N → i < xs.length → i ≤ s0.length → Ex H0 H' → W (fun a => a = p) H H' → H' p = some (.dK (seenK (s0.take i).flatten)) → Slots σ' [some (Pr.v (.ref y)), some (Pr.v (.ref a)), some (Pr.v (.ref p)), some (Pr.v (.int (i : Nat))), some (Pr.v (xs.getD i .non)), none] H' →
      (i < s0.length → ∀ σ3 H3, W (fun a => a = p) H' H3 → Ex H0 H3 → H3 p = some (.dK (seenK (s0.take (i + 1)).flatten)) → Slots σ3 [some (Pr.v (.ref y)), some (Pr.v (.ref a)), some (Pr.v (.ref p)), some (Pr.v (.int (i : Nat))), some (Pr.v (xs.getD i .non)), none] H3 → N σ3 H3) → tb D' σ' H') :
    tFor (iEnumT K (tCons (tVar 1) tNil)) (gTup K 2 (gCons (gName 3) (gCons (gName 4) gNil))) tb D σ H := by
  refine s_for (S := RE) (M := fun a => a = p) (sq_enumX (K := K) (ev_var rfl) hx) s (Ex.refl _) [some (Pr.v (.ref y)), some (Pr.v (.ref a)), some (Pr.v (.ref p)), none, none, none] (.s (.s (.s (.s (.s (.s .nil)))))) (fun i => [some (Pr.v (.ref y)), some (Pr.v (.ref a)), some (Pr.v (.ref p)), some (Pr.v (.int (i : Nat))), some (Pr.v (xs.getD i .non)), none])
    (fun i hi => tg_pair (tg_name (i := 3)) (tg_name (i := 4))) (fun i H' => Ex H0 H' ∧ W (fun a => a = p) H H' ∧ i ≤ s0.length ∧ H' p = some (.dK (seenK (s0.take i).flatten))) (fun H1 e1 => ⟨e0.trans e1, Ex.w e1, Nat.zero_le _, e1 _ _ hp⟩) (fun H1 e1 i σ' H' H2 hi w1 I e2 s2 N hN => ?_) fun H1 e1 σ' H' w1 s1 I => ?_
  · refine hb i σ' H2 N _ rfl hi I.2.2.1 (I.1.trans e2) (I.2.1.trans e2.w) (e2 _ _ I.2.2.2) s2 fun hi2 σ3 H3 w3 x3 p3 s3 => hN σ3 H3 (e2.w.trans w3) (s3.wk (.s (.s (.s (.n (.n (.s .nil))))))) ⟨x3, (I.2.1.trans e2.w).trans w3, hi2, p3⟩
  · rw [hD]
    exact hend (by have := I.2.2.1; omega) H' I.1
theorem atI_nat {α : Type} {xs : List α} {i : Nat} (h : i < xs.length) : atI xs (i : Int) = xs[i]? := by
  unfold atI ixN
  rw [if_pos (by omega), if_pos (by omega)]
  simp
theorem good_sub {hs : List Nat} {s : List (List Str)} (h : GoodRows hs s) (i : Nat) : (s.take i).flatten.Nodup ∧ ∀ x ∈ (s.take i).flatten, nameOk x = true := by
  have e : s.flatten = (s.take i).flatten ++ (s.drop i).flatten := by rw [← List.flatten_append, List.take_append_drop]
  exact ⟨(List.nodup_append.mp (e ▸ h.2.2)).1, fun x hx => h.2.1 x (by rw [e]; exact List.mem_append_left _ hx)⟩
theorem flat_le {α : Type} (s : List (List α)) (i : Nat) : (s.take i).flatten.length ≤ s.flatten.length := by
  have e : s.flatten = (s.take i).flatten ++ (s.drop i).flatten := by rw [← List.flatten_append, List.take_append_drop]
  rw [e, List.length_append]
  omega
/-- all that stands behind the first test: the rows one after the other -/
theorem ns_all (T : Txt P K mg B) {E : XK} {Q : VK} {H0 H : Hp} {σ : L2.St} {y a : Addr} {hs : List Nat} {xs : List V} {s0 : List (List Str)} (hl : hs.length ≤ 1000) (e0 : Ex H0 H) (hy : Yd K B H y hs) (hx : SqT K H a xs) (hlen : xs.length = hs.length) (ht : Tps K H (s0.map rD) (xs.take s0.length)) (hg : GoodRows hs s0) (hz : s0.flatten.length ≤ 1000) (hk : s0.length ≤ xs.length)
    (s : Slots σ [some (Pr.v (.ref y)), some (Pr.v (.ref a)), none, none, none, none] H)
    (hend : s0.length = xs.length → ∀ H', Ex H0 H' → Q .non H') (hbad : s0.length < xs.length → ∃ t h, xs[s0.length]? = some t ∧ hs[s0.length]? = some h ∧ BadRow K H h s0.flatten t ∧ AtErr B E H0 (s0.length : Nat)) :
    tSeq (tAsg tDNewK (gName 2)) (tFor (iEnumT K (tCons (tVar 1) tNil)) (gTup K 2 (gCons (gName 3) (gCons (gName 4) gNil))) (tSeq (tIfS (tOr (tNot (tB (tCB (rIsi K) (tCons (tVar 4) (tCons (tC (.ty "tuple")) tNil))))) (tTest (tOp rGtI (tCB (rLenSeq K) (tCons (tVar 4) tNil)) (tOp (rIxT K) (tFld K (tVar 0) "heights") (tVar 3))))) (tRaiseE "at" B.C_InvalidStanding (fun cls d _ H => E cls d H) (tCons (tVar 3) tNil)) tNext)
    (tFor (iTup K (tVar 4)) (gName 5) (tSeq (tIfS (tOr (tNot (tB (tCall (sp_is_name K) [] E0 (tCons (tVar 5) tNil)))) (tB (tDIn (tVar 5) (tVar 2)))) (tRaiseE "at" B.C_InvalidStanding (fun cls d _ H => E cls d H) (tCons (tVar 3) tNil)) tNext)
    (sDPut (tVar 2) (tVar 5) (tC (.bl true))))))) { nx := fun _ H' => Q .non H', rt := Q } σ H := by
  intro p hp
  have ep := Ex.new (o := .dK []) hp
  have hn0 : H0 p = none := e0.back hp
  have sp := (s.mono ep.im).set (i := 2) (v := .ref p) (P := Pr.v (.ref p)) rfl
  refine ns_rows T hl (e0.trans ep) hn0 (hy.ex ep) (ep.im.sqt hx) hlen (Tps.mono ep.im _ _ ht) hg hk upd_same sp hend rfl fun i σ' H' N D' hN hi hi2 x0 wz hpi s1 hgo => ?_
  have hih : i < hs.length := by omega
  have hsi : hs[i]? = some hs[i] := List.getElem?_eq_getElem hih
  have hy1 : Yd K B H' y hs := (hy.ex ep).w wz (fun z => by
    obtain ⟨dx, hv, h1, _⟩ := hy
    rw [z] at h1
    rw [hp] at h1
    cases h1)
  have hxi : xs.getD i .non = xs[i] := getD_of _ (List.getElem?_eq_getElem hi)
  -- heights[stack]
  have hgt : ∀ (env : Env') (H2 : Hp), Ex H' H2 → env[0]? = some (some (Pr.v (.ref y))) → env[3]? = some (some (Pr.v (.int (i : Nat)))) → Ev RE (tOp (rIxT K) (tFld K (tVar 0) "heights") (tVar 3)) env H2 (Pr.v (.int (hs[i] : Nat))) := fun env H2 e2 h0 h3 =>
    ev_int_v (K := K) (ev_ixT (ds := hs.map fun (n : Nat) => PyData.int (n : Int)) (ev_fldY T (ev_var h0) fun H3 e3 => (hy1.ex e2).ex e3) (ev_var h3) (by rw [atI_nat (by rw [List.length_map]; exact hih), List.getElem?_map, hsi]; rfl))
  have whole : ∀ {ds : List PyData}, Tp K H' (.tuple ds) (xs.getD i .non) → (∀ d ∈ ds, shortD d) → ds.length ≤ 1000 → ds.length ≤ hs[i] →
      (∀ sj, rowGo ds (s0.take i).flatten = some sj → ∀ σ3 H3, W (fun a => a = p) H' H3 → Ex H0 H3 → H3 p = some (.dK (seenK sj)) → Slots σ3 [some (Pr.v (.ref y)), some (Pr.v (.ref a)), some (Pr.v (.ref p)), some (Pr.v (.int (i : Nat))), some (Pr.v (xs.getD i .non)), none] H3 → N σ3 H3) → (rowGo ds (s0.take i).flatten = none → AtErr B E H0 (i : Nat)) →
      (tSeq (tIfS (tOr (tNot (tB (tCB (rIsi K) (tCons (tVar 4) (tCons (tC (.ty "tuple")) tNil))))) (tTest (tOp rGtI (tCB (rLenSeq K) (tCons (tVar 4) tNil)) (tOp (rIxT K) (tFld K (tVar 0) "heights") (tVar 3))))) (tRaiseE "at" B.C_InvalidStanding (fun cls d _ H => E cls d H) (tCons (tVar 3) tNil)) tNext)
    (tFor (iTup K (tVar 4)) (gName 5) (tSeq (tIfS (tOr (tNot (tB (tCall (sp_is_name K) [] E0 (tCons (tVar 5) tNil)))) (tB (tDIn (tVar 5) (tVar 2)))) (tRaiseE "at" B.C_InvalidStanding (fun cls d _ H => E cls d H) (tCons (tVar 3) tNil)) tNext)
    (sDPut (tVar 2) (tVar 5) (tC (.bl true)))))) D' σ' H' := fun {ds} hds hsh hdl hlt hgo2 hbad2 => by
    obtain ⟨b, zs, eb, hzs, htz⟩ := Tp.tup_ hds
    have hb : Ev RE (tVar 4) [some (Pr.v (.ref y)), some (Pr.v (.ref a)), some (Pr.v (.ref p)), some (Pr.v (.int (i : Nat))), some (Pr.v (xs.getD i .non)), none] H' (Pr.v (.ref b)) := by
      rw [← eb]
      exact ev_var rfl
    refine q_no (R := RE) s1 (Ex.refl _) (et_is (et_or (a := false) (b := false) (et_not (et_B (ev_isiX hb hzs))) fun _ => ?_) rfl) fun H2 e2 s2 => ?_
    · refine et_is (et_test (b := decide (((hs[i] : Nat) : Int) < (zs.length : Nat))) (ev_I0 (i := (zs.length : Nat)) (j := (hs[i] : Nat)) (g := fun i j => .bl (decide (j < i))) (ev_lenX hb hzs) (hgt _ _ (Ex.refl _) rfl rfl))) ?_
      have := htz.length
      exact decide_eq_false (by omega)
    · refine ns_row T (x0.trans e2) hn0 (Tp.mono e2.im _ _ hds) hsh ?_ (e2 _ _ hpi) s2 (fun sj hj σ3 H3 w3 x3 p3 s3 => ?_) hbad2
      · have := flat_le s0 i
        omega
      · rw [hN]
        exact hgo2 sj hj σ3 H3 (e2.w.trans w3) x3 p3 s3
  by_cases hlt : i < s0.length
  · -- a good row
    have hrow : s0[i]? = some s0[i] := List.getElem?_eq_getElem hlt
    obtain ⟨x, hx1, hx2⟩ := ht.get (i := i) (d := rD s0[i]) (by rw [List.getElem?_map, hrow]; rfl)
    have ex : xs.getD i .non = x := by
      rw [List.getElem?_take, if_pos hlt] at hx1
      exact getD_of _ hx1
    have hxr : Tp K H' (rD s0[i]) (xs.getD i .non) := by
      rw [ex]
      exact Tp.mono (ep.im.trans wz.1) _ _ hx2
    have hrl : s0[i].length ≤ hs[i] := hg.1 i _ _ hrow hsi
    have hgo3 : rowGo (s0[i].map PyData.str) (s0.take i).flatten = some (s0.take (i + 1)).flatten := by
      rw [flatten_take_succ hrow]
      have g1 := good_sub hg (i + 1)
      rw [flatten_take_succ hrow] at g1
      exact rowGo_good _ _ (fun x hx => g1.2 x (List.mem_append_right _ hx)) g1.1
    have hle : s0[i].length ≤ 1000 := by
      have h1 := flat_le s0 (i + 1)
      rw [flatten_take_succ hrow, List.length_append] at h1
      omega
    refine whole (ds := s0[i].map PyData.str) hxr (fun d hd => ?_) (by rw [List.length_map]; exact hle) (by rw [List.length_map]; exact hrl) (fun sj hj σ3 H3 w3 x3 p3 s3 => ?_) fun z => by rw [hgo3] at z; cases z
    · obtain ⟨x, hx, rfl⟩ := List.mem_map.mp hd
      have hn := hg.2.1 x (List.mem_flatten.mpr ⟨_, List.getElem_mem hlt, hx⟩)
      unfold nameOk at hn
      simp only [Bool.and_eq_true, decide_eq_true_eq] at hn
      have h8 := hn.2.1
      show x.length ≤ 100000
      omega
    · rw [hgo3] at hj
      cases hj
      exact hgo hlt σ3 H3 w3 x3 p3 s3
  · -- the bad row
    have ei : i = s0.length := by omega
    subst ei
    obtain ⟨t, h, h1, h2, h3, h4⟩ := hbad hi
    have et : xs.getD s0.length .non = t := getD_of _ h1
    have eh : hs[s0.length] = h := by
      rw [hsi] at h2
      exact Option.some.inj h2
    have h3' : BadRow K H' h s0.flatten t := by
      rcases h3 with h3 | ⟨ds, b1, b2, b3⟩
      · refine .inl ?_
        rcases h3 with h3 | h3 | h3 | ⟨q, ys, h3, h5⟩
        · exact .inl h3
        · exact .inr (.inl h3)
        · exact .inr (.inr (.inl h3))
        · exact .inr (.inr (.inr ⟨q, ys, h3, wz.2 _ _ (fun z => by rw [z, hp] at h5; cases h5) (ep _ _ h5)⟩))
      · exact .inr ⟨ds, Tp.mono (ep.im.trans wz.1) _ _ b1, b2, b3⟩
    have raise : ∀ (H2 : Hp) (σ2 : L2.St) (D2 : Ends), Ex H' H2 → Slots σ2 [some (Pr.v (.ref y)), some (Pr.v (.ref a)), some (Pr.v (.ref p)), some (Pr.v (.int (s0.length : Nat))), some (Pr.v (xs.getD s0.length .non)), none] H2 → tRaiseE "at" B.C_InvalidStanding (fun cls d _ H => E cls d H) (tCons (tVar 3) tNil) D2 σ2 H2 := fun H2 σ2 D2 e2 s2 =>
      s_raise (R := RE) s2 (Ex.refl _) (ev_var (i := 3) rfl) fun d H4 e4 hd => h4 d _ (((x0.trans e2).trans e4).trans (Ex.new hd)) upd_same
    rcases h3' with hnt | ⟨ds, b1, b2, b3⟩
    · refine q_if (R := RE) (b := true) s1 (Ex.refl _) (et_is (et_or (a := true) (b := true) (et_not (et_B (ev_isiNT (v := t) (by rw [← et]; exact ev_var rfl) fun H1 e1 => hnt.ex e1))) fun z => Bool.noConfusion z) rfl) (fun _ H2 e2 s2 => raise H2 _ _ e2 s2) fun z => Bool.noConfusion z
    · have b1' : Tp K H' (.tuple ds) (xs.getD s0.length .non) := by rw [et]; exact b1
      by_cases hlong : h < ds.length
      · obtain ⟨b, zs, eb, hzs, htz⟩ := Tp.tup_ b1'
        have hb : Ev RE (tVar 4) [some (Pr.v (.ref y)), some (Pr.v (.ref a)), some (Pr.v (.ref p)), some (Pr.v (.int (s0.length : Nat))), some (Pr.v (xs.getD s0.length .non)), none] H' (Pr.v (.ref b)) := by
          rw [← eb]
          exact ev_var rfl
        refine q_if (R := RE) (b := true) s1 (Ex.refl _) (et_is (et_or (a := false) (b := true) (et_not (et_B (ev_isiX hb hzs))) fun _ => ?_) rfl) (fun _ H2 e2 s2 => raise H2 _ _ e2 s2) fun z => Bool.noConfusion z
        refine et_is (et_test (b := decide (((hs[s0.length] : Nat) : Int) < (zs.length : Nat))) (ev_I0 (i := (zs.length : Nat)) (j := (hs[s0.length] : Nat)) (g := fun i j => .bl (decide (j < i))) (ev_lenX hb hzs) (hgt _ _ (Ex.refl _) rfl rfl))) ?_
        have := htz.length
        exact decide_eq_true (by omega)
      · have hnone : rowGo ds s0.flatten = none := b3.resolve_left hlong
        have etk : (s0.take s0.length).flatten = s0.flatten := by rw [List.take_length]
        refine whole b1' b2.1 b2.2 (by omega) (fun sj hj => ?_) fun _ => h4
        rw [etk, hnone] at hj
        cases hj
theorem ok_need_standing (T : Txt P K mg B) : FnOk P w K mg base (L2.CX P w) 3 B.a_need_standing B.d_need_standing ["yard", "value"] (sp_need_standing K B) :=
  T.F_need_standing.okX sc_need_standing (fun vs H Q E h => by obtain ⟨y, hs, v, o, rfl, _⟩ := h; rfl) fun cdv A outer s H vs Q E hr h => ⟨_, der_need_standing T (ok_is_name T) hr, by
    obtain ⟨y, hs, v, o, rfl, hy, hl, hns, hq⟩ := h
    have s0 : Slots (start N_need_standing [V.ref y, v]) [some (Pr.v (.ref y)), some (Pr.v v), none, none, none, none] H := start_slots (Ps := [Pr.v (.ref y), Pr.v v]) (.cons rfl (.cons rfl .nil)) rfl
    have lenY : ∀ H1, Ex H H1 → Ev RE (tCB (rLenSeq K) (tCons (tFld K (tVar 0) "heights") tNil)) [some (Pr.v (.ref y)), some (Pr.v v), none, none, none, none] H1 (Pr.v (.int (hs.length : Nat))) := fun H1 e1 => by
      have q := ev_lenT (R := RE) (ev_fldY T (ev_var (i := 0) (env := [some (Pr.v (.ref y)), some (Pr.v v), none, none, none, none]) (P := Pr.v (.ref y)) rfl) (H := H1) fun H2 e2 => (hy.ex e1).ex e2)
      rw [List.length_map] at q
      exact q
    have raise : AtErr B E H (-1) → ∀ (H2 : Hp) (σ2 : L2.St) (D2 : Ends), Ex H H2 → Slots σ2 [some (Pr.v (.ref y)), some (Pr.v v), none, none, none, none] H2 → tRaiseE "at" B.C_InvalidStanding (fun cls d _ H => E cls d H) (tCons (tUn rNeg (tC (.int 1))) tNil) D2 σ2 H2 := fun h4 H2 σ2 D2 e2 s2 =>
      s_raise (R := RE) (v := .int (-1)) s2 (Ex.refl _) (ev_un (ev_cv (v := .int 1)) fun x H1 _ px Q q => ⟨1, px, q _ H1 (Ex.refl _) rfl⟩) fun d H4 e4 hd => h4 d _ ((e2.trans e4).trans (Ex.new hd)) upd_same
    have go : ∀ {a : Addr} {xs : List V} {t0 : List (List Str)}, v = .ref a → SqT K H a xs → xs.length = hs.length → Tps K H (t0.map rD) (xs.take t0.length) → GoodRows hs t0 → t0.flatten.length ≤ 1000 → t0.length ≤ xs.length → (t0.length = xs.length → ∀ H', Ex H H' → Q .non H') → (t0.length < xs.length → ∃ t h, xs[t0.length]? = some t ∧ hs[t0.length]? = some h ∧ BadRow K H h t0.flatten t ∧ AtErr B E H (t0.length : Nat)) → t_need_standing K B E (sp_is_name K) { nx := fun _ H' => Q .non H', rt := Q } (start N_need_standing [V.ref y, v]) H := fun {a xs t0} ev hx hlen ht hg hz hk hend hbad => by
      subst ev
      refine q_no (R := RE) s0 (Ex.refl _) (et_is (et_or (a := false) (b := false) (et_not (et_B (ev_isiX (ev_var rfl) hx))) fun _ => et_is (et_test (ev_neS (x := .int (xs.length : Nat)) (y := .int (hs.length : Nat)) (ev_lenX (ev_var rfl) hx) (lenY H (Ex.refl _)) rfl)) ?_) rfl) fun H1 e1 s1 => ?_
      · rw [hlen, decide_eq_true rfl]
        rfl
      · refine ns_all T hl e1 (hy.ex e1) (e1.im.sqt hx) hlen (Tps.mono e1.im _ _ ht) hg hz hk s1 hend fun z => ?_
        obtain ⟨t, h, h1, h2, h3, h4⟩ := hbad z
        exact ⟨t, h, h1, h2, h3.ex e1, h4⟩
    cases hns with
    | good st h1 h2 h3 =>
      obtain ⟨a, xs, rfl, hx, ht⟩ := Tp.tup_ h1
      have hlx := ht.length
      rw [List.length_map] at hlx
      exact go rfl hx (by rw [hlx]; exact h2.1) (by rw [← hlx, List.take_length]; exact ht) h2.2 h3 (by omega) (fun _ => hq) fun z => absurd z (by omega)
    | no hn =>
      refine q_if (R := RE) (b := true) s0 (Ex.refl _) (et_is (et_or (a := true) (b := true) (et_not (et_B (ev_isiNT (v := v) (ev_var rfl) fun H1 e1 => hn.ex e1))) fun z => Bool.noConfusion z) rfl) (fun _ H2 e2 s2 => raise hq H2 _ _ e2 s2) fun z => Bool.noConfusion z
    | len a xs ev hx hne =>
      subst ev
      refine q_if (R := RE) (b := true) s0 (Ex.refl _) (et_is (et_or (a := false) (b := true) (et_not (et_B (ev_isiX (ev_var rfl) hx))) fun _ => et_is (et_test (ev_neS (x := .int (xs.length : Nat)) (y := .int (hs.length : Nat)) (ev_lenX (ev_var rfl) hx) (lenY H (Ex.refl _)) rfl)) ?_) rfl) (fun _ H2 e2 s2 => raise hq H2 _ _ e2 s2) fun z => Bool.noConfusion z
      rw [decide_eq_false]
      · rfl
      · intro z
        have z2 : ((xs.length : Nat) : Int) = (hs.length : Nat) := V.int.inj z
        omega
    | row a xs t0 t h ev hx hlen ht h5 h6 h7 h8 h9 =>
      have hlt : t0.length < xs.length := (List.getElem?_eq_some_iff.mp h5).1
      exact go ev hx hlen ht h7 h8 (by omega) (fun z => absurd z (by omega)) fun _ => ⟨t, h, h5, h6, h9, hq⟩⟩
end Sd

set_option Elab.async false
set_option linter.all false
/-! Pm1: plain laws of sorted lots, equal data, first differences. -/
namespace Sd
open PySem PySem.Spec PyProof.Rows L2

/-! ### lots -/
def leS (a b : Str) : Prop := ltCps b.cps.toList a.cps.toList = false
theorem leS_iff (a b : Str) : leS a b ↔ a.cps.toList ≤ b.cps.toList := by
  unfold leS
  rw [ltCps_eq, decide_eq_false_iff_not]
  exact Iff.rfl
theorem leS_trans {a b c : Str} (h1 : leS a b) (h2 : leS b c) : leS a c := by
  rw [leS_iff] at *
  exact List.le_trans h1 h2
theorem leS_antisymm {a b : Str} (h1 : leS a b) (h2 : leS b a) : a = b := by
  rw [leS_iff] at *
  have h := List.le_antisymm h1 h2
  cases a
  cases b
  congr 1
  exact Array.toList_inj.mp h
theorem rising_all : ∀ (l : List Str) (p : Str), risingS p l = true → (∀ x ∈ l, leS p x) ∧ sortedS l = true
  | [], p, _ => ⟨fun _ h => by simp at h, rfl⟩
  | x :: r, p, h => by
    unfold risingS at h
    simp only [Bool.and_eq_true, Bool.not_eq_true'] at h
    have ih := rising_all r x h.2
    refine ⟨fun z hz => ?_, h.2⟩
    rcases List.mem_cons.mp hz with rfl | hz
    · exact h.1
    · exact leS_trans h.1 (ih.1 z hz)
theorem lot_unique : ∀ (a b : List Str), sortedS a = true → sortedS b = true → a.Nodup → b.Nodup → (∀ k, k ∈ a ↔ k ∈ b) → a = b
  | [], [], _, _, _, _, _ => rfl
  | [], y :: b, _, _, _, _, h => by
    have := (h y).2 List.mem_cons_self
    simp at this
  | x :: a, [], _, _, _, _, h => by
    have := (h x).1 List.mem_cons_self
    simp at this
  | x :: a, y :: b, h1, h2, n1, n2, h => by
    have r1 := rising_all a x h1
    have r2 := rising_all b y h2
    have e : x = y := by
      rcases List.mem_cons.mp ((h x).1 List.mem_cons_self) with e | hx
      · exact e
      · rcases List.mem_cons.mp ((h y).2 List.mem_cons_self) with e | hy
        · exact e.symm
        · exact leS_antisymm (r1.1 y hy) (r2.1 x hx)
    subst e
    obtain ⟨m1, n1⟩ := List.nodup_cons.mp n1
    obtain ⟨m2, n2⟩ := List.nodup_cons.mp n2
    rw [lot_unique a b r1.2 r2.2 n1 n2 fun k => ?_]
    constructor
    · intro hk
      rcases List.mem_cons.mp ((h k).1 (List.mem_cons_of_mem _ hk)) with rfl | z
      · exact absurd hk m1
      · exact z
    · intro hk
      rcases List.mem_cons.mp ((h k).2 (List.mem_cons_of_mem _ hk)) with rfl | z
      · exact absurd hk m2
      · exact z
theorem lot_eq {s t a b : List Str} (h1 : Lot s a) (h2 : Lot t b) : a = b ↔ ∀ k, k ∈ s ↔ k ∈ t := by
  constructor
  · intro e k
    rw [← h1.2.2 k, ← h2.2.2 k, e]
  · intro h
    exact lot_unique a b h1.1 h2.1 h1.2.1 h2.2.1 fun k => by rw [h1.2.2 k, h2.2.2 k, h k]

/-! ### equal data -/
theorem eqv_strs : ∀ (a b : List Str), PyData.eqvAll (a.map PyData.str) (b.map PyData.str) = decide (a = b)
  | [], [] => by simp [PyData.eqvAll]
  | [], _ :: _ => by simp [PyData.eqvAll]
  | _ :: _, [] => by simp [PyData.eqvAll]
  | x :: a, y :: b => by
    simp only [List.map_cons, PyData.eqvAll, PyData.eqv, eqv_strs a b]
    rw [Bool.eq_iff_iff]
    simp
theorem eqv_row (a b : List Str) : PyData.eqv (rD a) (rD b) = decide (a = b) := by
  simp only [rD, PyData.eqv]
  exact eqv_strs a b
theorem eqv_rows : ∀ (a b : List (List Str)), PyData.eqvAll (a.map rD) (b.map rD) = decide (a = b)
  | [], [] => by simp [PyData.eqvAll]
  | [], _ :: _ => by simp [PyData.eqvAll]
  | _ :: _, [] => by simp [PyData.eqvAll]
  | x :: a, y :: b => by
    simp only [List.map_cons, PyData.eqvAll, eqv_row, eqv_rows a b]
    rw [Bool.eq_iff_iff]
    simp
theorem eqv_sD (a b : List (List Str)) : PyData.eqv (sD a) (sD b) = decide (a = b) := by
  simp only [sD, PyData.eqv]
  exact eqv_rows a b
/-! ### shapes -/
theorem let_small : ∀ c ∈ LET.cps.toList, c < 128 := by decide +kernel
theorem name_ok {x : Str} (h : nameOk x = true) : x.length ≤ 8 ∧ ∀ c ∈ x.cps.toList, c < 128 := by
  unfold nameOk at h
  simp only [Bool.and_eq_true, decide_eq_true_eq, List.all_eq_true] at h
  exact ⟨h.2.1, fun c hc => let_small c (h.2.2 c hc)⟩
def smT (x : Str) : Prop := ∀ c ∈ x.cps.toList, c < 128
theorem strOk_of {x : Str} (h : smT x) : PyData.strOk x = true := by
  unfold PyData.strOk
  rw [← Array.all_toList, List.all_eq_true]
  intro c hc
  have := h c hc
  simp
  omega
theorem lay_strs : ∀ (r : List Str), (∀ x ∈ r, smT x) → PyData.canLayAll0 (r.map PyData.str) = true
  | [], _ => by simp [PyData.canLayAll0]
  | x :: r, h => by
    simp only [List.map_cons, PyData.canLayAll0, PyData.canLay0, strOk_of (h x List.mem_cons_self), lay_strs r fun y hy => h y (List.mem_cons_of_mem _ hy)]
    rfl
theorem depth_strs : ∀ (r : List Str), PyData.depthAll (r.map PyData.str) = 0
  | [] => by simp [PyData.depthAll]
  | x :: r => by simp [PyData.depthAll, PyData.depth, depth_strs r]
theorem lay_rows : ∀ (s : List (List Str)), (∀ r ∈ s, ∀ x ∈ r, smT x) → PyData.canLayAll0 (s.map rD) = true
  | [], _ => by simp [PyData.canLayAll0]
  | r :: s, h => by
    simp only [List.map_cons, PyData.canLayAll0, rD, PyData.canLay0, lay_strs r (h r List.mem_cons_self)]
    exact lay_rows s fun y hy => h y (List.mem_cons_of_mem _ hy)
theorem depth_rows : ∀ (s : List (List Str)), PyData.depthAll (s.map rD) ≤ 1
  | [] => by simp [PyData.depthAll]
  | r :: s => by
    have ih := depth_rows s
    simp only [List.map_cons, PyData.depthAll, rD, PyData.depth, depth_strs] at *
    omega
theorem shaped_row {r : List Str} (h : ∀ x ∈ r, smT x) : SeqAt.shaped (rD r) = true := by
  unfold SeqAt.shaped
  simp only [rD, PyData.canLay0, PyData.depth, lay_strs r h, depth_strs]
  rfl
theorem shaped_sD {s : List (List Str)} (h : ∀ r ∈ s, ∀ x ∈ r, smT x) : SeqAt.shaped (sD s) = true := by
  unfold SeqAt.shaped
  have := depth_rows s
  simp only [sD, PyData.canLay0, PyData.depth, lay_rows s h, Bool.true_and]
  exact decide_eq_true (by omega)
theorem valid_sm {hs : List Nat} {s : List (List Str)} (h : GoodRows hs s) : ∀ r ∈ s, ∀ x ∈ r, smT x := fun r hr x hx => (name_ok (h.2.1 x (List.mem_flatten.mpr ⟨r, hr, hx⟩))).2

/-! ### the deep part -/
def deep (hs : List Nat) (s : List (List Str)) : List (List Str) := List.zipWith (fun (r : List Str) (h : Nat) => r.take (h - (hs.sum - cnt s))) s hs
theorem cnt_flat (s : List (List Str)) : cnt s = s.flatten.length := by
  unfold cnt
  rw [List.length_flatten]
theorem rows_le : ∀ (s : List (List Str)) (hs : List Nat), s.length = hs.length → (∀ (i : Nat) (r : List Str) (h : Nat), s[i]? = some r → hs[i]? = some h → r.length ≤ h) → cnt s ≤ hs.sum
  | [], [], _, _ => Nat.le_refl _
  | [], _ :: _, e, _ => by simp at e
  | _ :: _, [], e, _ => by simp at e
  | r :: s, h :: hs, e, k => by
    have h0 := k 0 r h rfl rfl
    have ih := rows_le s hs (by simpa using e) fun i r' h' e1 e2 => k (i + 1) r' h' (by simpa using e1) (by simpa using e2)
    unfold cnt at *
    simp only [List.map_cons, List.sum_cons]
    omega
theorem Valid.cnt_le {hs : List Nat} {s : List (List Str)} (h : Valid hs s) : cnt s ≤ hs.sum := rows_le s hs h.1 h.2.1
theorem deep_mem {hs : List Nat} {s : List (List Str)} {r : List Str} (h : r ∈ deep hs s) : ∃ r' ∈ s, ∃ k, r = r'.take k := by
  unfold deep at h
  rw [List.mem_iff_getElem?] at h
  obtain ⟨i, hi⟩ := h
  rw [List.getElem?_zipWith] at hi
  cases e1 : s[i]? with
  | none => rw [e1] at hi; cases hi
  | some r' =>
    cases e2 : hs[i]? with
    | none => rw [e1, e2] at hi; cases hi
    | some k =>
      rw [e1, e2] at hi
      cases hi
      exact ⟨r', List.mem_of_getElem? e1, _, rfl⟩
theorem deep_sm {hs : List Nat} {s : List (List Str)} (h : ∀ r ∈ s, ∀ x ∈ r, smT x) : ∀ r ∈ deep hs s, ∀ x ∈ r, smT x := fun r hr x hx => by
  obtain ⟨r', h1, k, rfl⟩ := deep_mem hr
  exact h r' h1 x (List.mem_of_mem_take hx)

/-! ### the first difference -/
def rowDiff : List Str → List Str → Option Nat
  | x :: r, y :: t => if x = y then (rowDiff r t).map (· + 1) else some 0
  | _, _ => none
def pdiff : List (List Str) → List (List Str) → Option (Nat × Nat)
  | r :: a, t :: b => match rowDiff r t with
    | some j => some (0, j)
    | none => (pdiff a b).map fun p => (p.1 + 1, p.2)
  | _, _ => none
def pD : Option (Nat × Nat) → PyData
  | none => .none
  | some (i, j) => .tuple [.int (i : Nat), .int (j : Nat)]
theorem rowDiff_nil (a : List Str) : rowDiff a [] = none := by cases a <;> rfl
theorem pdiff_nil (a : List (List Str)) : pdiff a [] = none := by cases a <;> rfl
theorem rowDiff_step {a b : List Str} {j : Nat} {x y : Str} (h1 : a[j]? = some x) (h2 : b[j]? = some y) : rowDiff (a.drop j) (b.drop j) = if x = y then (rowDiff (a.drop (j + 1)) (b.drop (j + 1))).map (· + 1) else some 0 := by
  obtain ⟨l1, e1⟩ := List.getElem?_eq_some_iff.mp h1
  obtain ⟨l2, e2⟩ := List.getElem?_eq_some_iff.mp h2
  rw [List.drop_eq_getElem_cons l1, List.drop_eq_getElem_cons l2, e1, e2]
  rfl
theorem rowDiff_end {a b : List Str} {j : Nat} (h : min a.length b.length ≤ j) : rowDiff (a.drop j) (b.drop j) = none := by
  by_cases h1 : a.length ≤ j
  · rw [List.drop_of_length_le h1]
    rfl
  · rw [List.drop_of_length_le (show b.length ≤ j by omega)]
    exact rowDiff_nil _
theorem pdiff_step {a b : List (List Str)} {i : Nat} {r t : List Str} (h1 : a[i]? = some r) (h2 : b[i]? = some t) : pdiff (a.drop i) (b.drop i) = match rowDiff r t with | some j => some (0, j) | none => (pdiff (a.drop (i + 1)) (b.drop (i + 1))).map fun p => (p.1 + 1, p.2) := by
  obtain ⟨l1, e1⟩ := List.getElem?_eq_some_iff.mp h1
  obtain ⟨l2, e2⟩ := List.getElem?_eq_some_iff.mp h2
  rw [List.drop_eq_getElem_cons l1, List.drop_eq_getElem_cons l2, e1, e2]
  rfl
theorem pdiff_end {a b : List (List Str)} {i : Nat} (h : min a.length b.length ≤ i) : pdiff (a.drop i) (b.drop i) = none := by
  by_cases h1 : a.length ≤ i
  · rw [List.drop_of_length_le h1]
    rfl
  · rw [List.drop_of_length_le (show b.length ≤ i by omega)]
    exact pdiff_nil _
theorem rowDiff_none : ∀ (a b : List Str), a.length = b.length → (rowDiff a b = none ↔ a = b)
  | [], [], _ => by simp [rowDiff]
  | [], _ :: _, e => by simp at e
  | _ :: _, [], e => by simp at e
  | x :: a, y :: b, e => by
    have ih := rowDiff_none a b (by simpa using e)
    unfold rowDiff
    by_cases h : x = y
    · subst h
      rw [if_pos rfl]
      simp [ih]
    · rw [if_neg h]
      simp [h]
theorem pdiff_none : ∀ (a b : List (List Str)), a.length = b.length → (∀ (i : Nat) (r t : List Str), a[i]? = some r → b[i]? = some t → r.length = t.length) → (pdiff a b = none ↔ a = b)
  | [], [], _, _ => by simp [pdiff]
  | [], _ :: _, e, _ => by simp at e
  | _ :: _, [], e, _ => by simp at e
  | x :: a, y :: b, e, k => by
    have ih := pdiff_none a b (by simpa using e) fun i r t h1 h2 => k (i + 1) r t (by simpa using h1) (by simpa using h2)
    have h0 := rowDiff_none x y (k 0 x y rfl rfl)
    unfold pdiff
    cases q : rowDiff x y with
    | some j =>
      simp only [reduceCtorEq, false_iff]
      intro z
      cases z
      rw [h0.2 rfl] at q
      cases q
    | none =>
      have := h0.1 q
      subst this
      simp [ih]
end Sd

set_option Elab.async false
set_option linter.all false
set_option maxRecDepth 100000
set_option maxHeartbeats 2000000
/-! Sp5: deep_part, same_class, parting_place. -/
namespace Sd
open PySem PySem.Spec PyProof.Rows L2
variable {P : Program} {w : World} {K : PySem.W.Frag} {mg : Str → Option Value} {base : Heap} {B : Adr}
/-- a call by any promise -/
theorem s_call {R : Rl} {env : Env'} {H : Hp} {σ : L2.St} {t : TA} {Ps : List Pr} {sp : Sp} {E : XK} {Q : VK} (s : Slots σ env H) (r : R.r H H) (ha : EvA R t env H Ps) (k : ∀ vs H1, R.r H H1 → Vs Ps vs H1 → sp vs H1 Q E) : tCall sp [] E t σ H Q :=
  ha σ H r s _ fun vs H1 r1 pv => by
    rw [List.append_nil]
    exact k vs H1 r1 pv
/-- v is the standing s, fit for hs -/
def StV (K : PySem.W.Frag) (H : Hp) (hs : List Nat) (v : V) (s : List (List Str)) : Prop := Tp K H (sD s) v ∧ Valid hs s ∧ s.flatten.length ≤ 60
theorem StV.ex {K : PySem.W.Frag} {H H' : Hp} {hs : List Nat} {v : V} {s : List (List Str)} (h : StV K H hs v s) (e : Ex H H') : StV K H' hs v s := ⟨Tp.mono e.im _ _ h.1, h.2⟩
theorem StV.ns {K : PySem.W.Frag} {H : Hp} {hs : List Nat} {v : V} {s : List (List Str)} (h : StV K H hs v s) : NsAt K H hs v none := .good s h.1 h.2.1 (Nat.le_trans h.2.2 (by decide))
/-- v is no standing: the fault is at a -/
def BadV (K : PySem.W.Frag) (H : Hp) (hs : List Nat) (v : V) (a : Int) : Prop := NsAt K H hs v (some a)
def sp_deep_part (K : PySem.W.Frag) (B : Adr) : Sp := fun vs H Q E => ∃ (y : Addr) (hs : List Nat) (v : V), vs = [.ref y, v] ∧ Yd K B H y hs ∧ hs.length ≤ 1000 ∧
  ((∃ s, StV K H hs v s ∧ ∀ v' H', Ex H H' → Tp K H' (sD (deep hs s)) v' → Q v' H') ∨ ∃ a, BadV K H hs v a ∧ AtErr B E H a)
theorem dps_get {hs : List Nat} {n i h : Nat} (e : hs[i]? = some h) : (dps hs n)[i]? = some (h - (hs.sum - n)) := by
  unfold dps
  rw [List.getElem?_map, e]
  rfl
theorem ok_deep_part (T : Txt P K mg B) : FnOk P w K mg base (L2.CX P w) 5 B.a_deep_part B.d_deep_part ["yard", "standing"] (sp_deep_part K B) :=
  T.F_deep_part.okX sc_deep_part (fun vs H Q E h => by obtain ⟨y, hs, v, rfl, _⟩ := h; rfl) fun cdv A outer s H vs Q E hr h => ⟨_, der_deep_part T (ok_deep_row T) (ok_count_boxes T) (ok_need_standing T) hr, by
    obtain ⟨y, hs, v, rfl, hy, hl, hq⟩ := h
    have s0 : Slots (start N_deep_part [V.ref y, v]) [some (Pr.v (.ref y)), some (Pr.v v), none, none, none] H := start_slots (Ps := [Pr.v (.ref y), Pr.v v]) (.cons rfl (.cons rfl .nil)) rfl
    refine s_call (R := RE) s0 (Ex.refl _) (ea_cons (ev_var rfl) (ea_cons (ev_var rfl) ea_nil)) fun vs H1 e1 pv => ?_
    obtain ⟨x1, x2, rfl, p1, p2⟩ := vs2 pv
    cases (show x1 = .ref y from p1)
    cases (show x2 = v from p2)
    rcases hq with ⟨st, hst, k⟩ | ⟨a, hb, he⟩
    · refine ⟨y, hs, v, none, rfl, hy.ex e1, hl, (hst.ex e1).ns, fun H2 e2 => ?_⟩
      have e12 := e1.trans e2
      have hst2 := hst.ex e12
      have hlen : st.length = hs.length := hst.2.1.1
      have s2 : Slots (start N_deep_part [V.ref y, v]) [some (Pr.v (.ref y)), some (Pr.d K (sD st)), none, none, none] H2 := start_slots (Ps := [Pr.v (.ref y), Pr.d K (sD st)]) (.cons rfl (.cons hst2.1 .nil)) rfl
      refine q_asg (R := RE) s2 (Ex.refl _) (ev_deep_row (n := cnt st) (ev_var rfl) (fun H3 e3 => (hy.ex e12).ex e3) (ev_count_boxes (ev_var rfl) (by omega)) hst.2.1.cnt_le (by omega)) fun σ3 H3 e3 s3 => ?_
      refine s_ret (R := RE) (P := Pr.d K (sD (deep hs st))) s3 (Ex.refl _) ?_ fun v' H4 e4 p => k v' H4 ((e12.trans e3).trans e4) p
      refine ev_tupleN (C := fun xs H' => Vs (kept st.length (fun _ => true) fun i => Pr.d K (rD ((st.getD i []).take ((dps hs (cnt st)).getD i 0)))) xs H') ?_ fun xs H3 c => kept_data (by simp [deep, hlen]) (fun i d h => ?_) c
      · refine ev_lc (Iz := fun i => Pr.pair K (Pr.d K (rD (st.getD i []))) (Pr.d K (.int ((dps hs (cnt st)).getD i 0 : Nat)))) (n := st.length) (fun _ => true) _ ?_ (by omega) (fun i => [some (Pr.v (.ref y)), some (Pr.d K (sD st)), some (Pr.d K (iD (dps hs (cnt st)))), some (Pr.d K (rD (st.getD i []))), some (Pr.d K (.int ((dps hs (cnt st)).getD i 0 : Nat)))]) (fun i hi => tg_pair (tg_name (i := 3)) (tg_name (i := 4))) (wp_pair2 (by simp) (by simp)) (fun i hi => et_yes) fun i hi _ => ?_
        · refine sr_zipT (ds := st.map rD) (es := (dps hs (cnt st)).map fun (n : Nat) => PyData.int (n : Int)) (ev_var (i := 1) (P := Pr.d K (sD st)) rfl) (ev_var (i := 2) (P := Pr.d K (iD (dps hs (cnt st)))) rfl) ?_ fun i d e h1 h2 => ?_
          · simp [dps, hlen]
          · obtain ⟨m, hm, rfl⟩ := sD_get h1
            obtain ⟨m', hm', rfl⟩ := iD_get h2
            rw [getD_of [] hm, getD_of 0 hm']
        · have q := ev_slT (R := RE) (K := K) (H := H3) (ev_var (i := 3) (env := [some (Pr.v (.ref y)), some (Pr.d K (sD st)), some (Pr.d K (iD (dps hs (cnt st)))), some (Pr.d K (rD (st.getD i []))), some (Pr.d K (.int ((dps hs (cnt st)).getD i 0 : Nat)))]) (P := Pr.d K (rD (st.getD i []))) rfl) eo_none (eo_some (ev_int_v (K := K) (ev_var (i := 4) (P := Pr.d K (.int ((dps hs (cnt st)).getD i 0 : Nat))) rfl)))
          rw [cut_to, ← List.map_take] at q
          exact q
      · obtain ⟨r, hr, rfl⟩ := sD_get h
        unfold deep at hr
        rw [List.getElem?_zipWith] at hr
        cases e1 : st[i]? with
        | none => rw [e1] at hr; cases hr
        | some r' =>
          cases e2 : hs[i]? with
          | none => rw [e1, e2] at hr; cases hr
          | some k =>
            rw [e1, e2] at hr
            cases hr
            rw [getD_of [] e1, getD_of 0 (dps_get e2)]
    · exact ⟨y, hs, v, some a, rfl, hy.ex e1, hl, NsAt.ex hb e1, he.ex e1⟩⟩
/-- deep_part of a standing -/
theorem ev_deep_part {R : Rl} {env : Env'} {H : Hp} {ta tb : TE} {E : XK} {y : Addr} {hs : List Nat} {st : List (List Str)} (ha : Ev R ta env H (Pr.v (.ref y))) (hy : ∀ H1, R.r H H1 → Yd K B H1 y hs) (hb : Ev R tb env H (Pr.d K (sD st))) (hl : hs.length ≤ 1000) (hv : Valid hs st) (hz : st.flatten.length ≤ 60) : Ev R (tCall (sp_deep_part K B) [] E (tCons ta (tCons tb tNil))) env H (Pr.d K (sD (deep hs st))) :=
  ev_call (ea_cons ha (ea_cons hb ea_nil)) fun vs H1 r1 pv Q q => by
    obtain ⟨a, b, rfl, pa, pb⟩ := vs2 pv
    cases (show a = .ref y from pa)
    exact ⟨y, hs, b, rfl, hy H1 r1, hl, .inl ⟨st, ⟨pb, hv, hz⟩, fun v' H' e p => q v' H' (R.ofEx (R.again r1) e) p⟩⟩
theorem ev_boxes_of {R : Rl} {env : Env'} {H : Hp} {ta : TE} {E : XK} {st : List (List Str)} (ha : Ev R ta env H (Pr.d K (sD st))) (hl : st.length ≤ 1000) (hz : st.flatten.length ≤ 60) : Ev R (tCall (sp_boxes_of K) [] E (tCons ta tNil)) env H (Pr.any fun ys : { ys : List Str // Lot st.flatten ys } => Pr.d K (rD ys.1)) :=
  ev_spR (ea_cons ha ea_nil) st sub_E rfl (fun vs H1 r1 pv => by
    obtain ⟨x, rfl, px⟩ := vs1 pv
    exact ⟨⟨by omega, hl⟩, x, rfl, px⟩) fun v H1 H2 _ _ p => by
    obtain ⟨ys, h1, h2⟩ := p
    exact ⟨⟨ys, h1⟩, h2⟩
/-- the same boxes -/
def SameB (s t : List (List Str)) : Prop := ∀ k, k ∈ s.flatten ↔ k ∈ t.flatten
theorem lot_sm {s : List (List Str)} {ys : List Str} (h : Lot s.flatten ys) (hs : ∀ r ∈ s, ∀ x ∈ r, smT x) : ∀ x ∈ ys, smT x := fun x hx => by
  obtain ⟨r, hr, hxr⟩ := List.mem_flatten.mp ((h.2.2 x).1 hx)
  exact hs r hr x hxr
/-- two lots compared -/
theorem ev_lots {R : Rl} {env : Env'} {H : Hp} {ta tb : TE} {s t : List (List Str)} {neg : Bool} (hs : ∀ r ∈ s, ∀ x ∈ r, smT x) (ht : ∀ r ∈ t, ∀ x ∈ r, smT x) (ha : Ev R ta env H (Pr.any fun ys : { ys : List Str // Lot s.flatten ys } => Pr.d K (rD ys.1))) (hb : Ev R tb env H (Pr.any fun ys : { ys : List Str // Lot t.flatten ys } => Pr.d K (rD ys.1))) :
    ∀ b : Bool, (b = true ↔ SameB s t) → Ev R (tOp (rEqD K) ta tb) env H (Pr.v (.bl b)) ∧ Ev R (tOp (rNeD K) ta tb) env H (Pr.v (.bl (!b))) := fun b hb' => by
  have key : ∀ x y H1, (Pr.any fun ys : { ys : List Str // Lot s.flatten ys } => Pr.d K (rD ys.1)).P x H1 → (Pr.any fun ys : { ys : List Str // Lot t.flatten ys } => Pr.d K (rD ys.1)).P y H1 → ∃ d e, Dp K H1 x d ∧ Dp K H1 y e ∧ SeqAt.shaped d = true ∧ SeqAt.shaped e = true ∧ PyData.eqv d e = b := fun x y H1 px py => by
    obtain ⟨⟨ys, h1⟩, h2⟩ := px
    obtain ⟨⟨zs, h3⟩, h4⟩ := py
    refine ⟨rD ys, rD zs, Tp.dp _ _ h2, Tp.dp _ _ h4, shaped_row (lot_sm h1 hs), shaped_row (lot_sm h3 ht), ?_⟩
    rw [eqv_row, Bool.eq_iff_iff, decide_eq_true_eq, lot_eq h1 h3, hb']
    exact Iff.rfl
  refine ⟨ev_op ha hb fun x y H1 r1 px py Q q => ?_, ev_op ha hb fun x y H1 r1 px py Q q => ?_⟩
  · obtain ⟨d, e, h1, h2, h3, h4, h5⟩ := key x y H1 px py
    exact ⟨d, e, h1, h2, h3, h4, by rw [h5]; exact q _ H1 (R.again r1) rfl⟩
  · obtain ⟨d, e, h1, h2, h3, h4, h5⟩ := key x y H1 px py
    exact ⟨d, e, h1, h2, h3, h4, by rw [h5]; exact q _ H1 (R.again r1) rfl⟩
open Classical in
noncomputable def sameB (s t : List (List Str)) : Bool := decide (SameB s t)
theorem sameB_iff {s t : List (List Str)} : sameB s t = true ↔ SameB s t := by unfold sameB; simp
/-- one class -/
noncomputable def oneClass (hs : List Nat) (s t : List (List Str)) : Bool := decide (deep hs s = deep hs t) && sameB s t
def sp_same_class (K : PySem.W.Frag) (B : Adr) : Sp := fun vs H Q E => ∃ (y : Addr) (hs : List Nat) (u v : V), vs = [.ref y, u, v] ∧ Yd K B H y hs ∧ hs.length ≤ 1000 ∧
  ((∃ s t, StV K H hs u s ∧ StV K H hs v t ∧ ∀ H', Ex H H' → Q (.bl (oneClass hs s t)) H') ∨ (∃ a, BadV K H hs u a ∧ AtErr B E H a) ∨ ∃ s a, StV K H hs u s ∧ BadV K H hs v a ∧ AtErr B E H a)
theorem ok_same_class (T : Txt P K mg B) : FnOk P w K mg base (L2.CX P w) 6 B.a_same_class B.d_same_class ["yard", "one", "other"] (sp_same_class K B) :=
  T.F_same_class.okX sc_same_class (fun vs H Q E h => by obtain ⟨y, hs, u, v, rfl, _⟩ := h; rfl) fun cdv A outer s H vs Q E hr h => ⟨_, der_same_class T (ok_deep_part T) (ok_boxes_of T) hr, by
    obtain ⟨y, hs, u, v, rfl, hy, hl, hq⟩ := h
    have s0 : Slots (start N_same_class [V.ref y, u, v]) [some (Pr.v (.ref y)), some (Pr.v u), some (Pr.v v), none] H := start_slots (Ps := [Pr.v (.ref y), Pr.v u, Pr.v v]) (.cons rfl (.cons rfl (.cons rfl .nil))) rfl
    rcases hq with ⟨st, tt, hs1, ht1, k⟩ | ⟨a, hb, he⟩ | ⟨st, a, hs1, hb, he⟩
    · have s1 : Slots (start N_same_class [V.ref y, u, v]) [some (Pr.v (.ref y)), some (Pr.d K (sD st)), some (Pr.d K (sD tt)), none] H := start_slots (Ps := [Pr.v (.ref y), Pr.d K (sD st), Pr.d K (sD tt)]) (.cons rfl (.cons hs1.1 (.cons ht1.1 .nil))) rfl
      refine q_asg (R := RE) s1 (Ex.refl _) (ev_deep_part (ev_var rfl) (fun H1 e => hy.ex e) (ev_var rfl) hl hs1.2.1 hs1.2.2) fun σ2 H2 e2 s2 => ?_
      have sm1 := valid_sm hs1.2.1.2
      have sm2 := valid_sm ht1.2.1.2
      refine s_ret (R := RE) (P := Pr.v (.bl (oneClass hs st tt))) s2 (Ex.refl _) ?_ fun v' H3 e3 p => by
        rw [show v' = _ from p]
        exact k H3 (e2.trans e3)
      unfold oneClass
      refine ev_andV (by
        have q := ev_eqD (R := RE) (K := K) (H := H2) (ev_var (i := 3) (P := Pr.d K (sD (deep hs st))) (env := [some (Pr.v (.ref y)), some (Pr.d K (sD st)), some (Pr.d K (sD tt)), some (Pr.d K (sD (deep hs st)))]) rfl) (ev_deep_part (E := E) (ev_var (i := 0) rfl) (fun H1 e => (hy.ex e2).ex e) (ev_var (i := 2) rfl) hl ht1.2.1 ht1.2.2) (shaped_sD (deep_sm sm1)) (shaped_sD (deep_sm sm2))
        rw [eqv_sD] at q
        exact q) fun _ => ?_
      have hlen1 : st.length ≤ 1000 := by have := hs1.2.1.1; omega
      have hlen2 : tt.length ≤ 1000 := by have := ht1.2.1.1; omega
      exact (ev_lots (neg := true) sm1 sm2 (ev_boxes_of (ev_var (i := 1) rfl) hlen1 hs1.2.2) (ev_boxes_of (ev_var (i := 2) rfl) hlen2 ht1.2.2) _ sameB_iff).1
    · refine s_call (R := RE) s0 (Ex.refl _) (ea_cons (ev_var rfl) (ea_cons (ev_var rfl) ea_nil)) fun vs H1 e1 pv => ?_
      obtain ⟨x1, x2, rfl, p1, p2⟩ := vs2 pv
      cases (show x1 = .ref y from p1)
      cases (show x2 = u from p2)
      exact ⟨y, hs, u, rfl, hy.ex e1, hl, .inr ⟨a, NsAt.ex hb e1, he.ex e1⟩⟩
    · have s1 : Slots (start N_same_class [V.ref y, u, v]) [some (Pr.v (.ref y)), some (Pr.d K (sD st)), some (Pr.v v), none] H := start_slots (Ps := [Pr.v (.ref y), Pr.d K (sD st), Pr.v v]) (.cons rfl (.cons hs1.1 (.cons rfl .nil))) rfl
      refine q_asg (R := RE) s1 (Ex.refl _) (ev_deep_part (ev_var rfl) (fun H1 e => hy.ex e) (ev_var rfl) hl hs1.2.1 hs1.2.2) fun σ2 H2 e2 s2 => ?_
      obtain ⟨w3, ew3, pw3⟩ := s2.2 3 _ rfl
      refine ⟨w3, ew3, s_call (R := RE) s2 (Ex.refl _) (ea_cons (ev_var rfl) (ea_cons (ev_var (i := 2) rfl) ea_nil)) fun vs H3 e3 pv => ?_⟩
      obtain ⟨x1, x2, rfl, p1, p2⟩ := vs2 pv
      cases (show x1 = .ref y from p1)
      cases (show x2 = v from p2)
      exact ⟨y, hs, v, rfl, (hy.ex e2).ex e3, hl, .inr ⟨a, NsAt.ex hb (e2.trans e3), he.ex (e2.trans e3)⟩⟩⟩
theorem ev_same_class {R : Rl} {env : Env'} {H : Hp} {ta tb tc : TE} {E : XK} {y : Addr} {hs : List Nat} {s t : List (List Str)} (ha : Ev R ta env H (Pr.v (.ref y))) (hy : ∀ H1, R.r H H1 → Yd K B H1 y hs) (hb : Ev R tb env H (Pr.d K (sD s))) (hc : Ev R tc env H (Pr.d K (sD t))) (hl : hs.length ≤ 1000) (hv : Valid hs s ∧ s.flatten.length ≤ 60) (hw : Valid hs t ∧ t.flatten.length ≤ 60) :
    Ev R (tCall (sp_same_class K B) [] E (tCons ta (tCons tb (tCons tc tNil)))) env H (Pr.v (.bl (oneClass hs s t))) :=
  ev_call (ea_cons ha (ea_cons hb (ea_cons hc ea_nil))) fun vs H1 r1 pv Q q => by
    obtain ⟨a, b, c, rfl, pa, pb, pc⟩ := vs3 pv
    cases (show a = .ref y from pa)
    exact ⟨y, hs, b, c, rfl, hy H1 r1, hl, .inl ⟨s, t, ⟨pb, hv.1, hv.2⟩, ⟨pc, hw.1, hw.2⟩, fun H' e => q _ H' (R.ofEx (R.again r1) e) rfl⟩⟩
end Sd

set_option Elab.async false
set_option linter.all false
set_option maxRecDepth 100000
set_option maxHeartbeats 2000000
/-! Sp6: parting_place. -/
namespace Sd
open PySem PySem.Spec PyProof.Rows L2
variable {P : Program} {w : World} {K : PySem.W.Frag} {mg : Str → Option Value} {base : Heap} {B : Adr}
/-- the error that says a word -/
def WordErr (B : Adr) (E : XK) (H : Hp) (x : Str) : Prop := ∀ d H', Ex H H' → H' d = some (.xd [("word", .str x)]) → E (.ref B.C_Refused) (some d) H'
theorem WordErr.ex {B : Adr} {E : XK} {H H' : Hp} {x : Str} (h : WordErr B E H x) (e : Ex H H') : WordErr B E H' x := fun d H2 e2 h2 => h d H2 (e.trans e2) h2
def sp_parting_place (K : PySem.W.Frag) (B : Adr) : Sp := fun vs H Q E => ∃ (y : Addr) (hs : List Nat) (u v : V), vs = [.ref y, u, v] ∧ Yd K B H y hs ∧ hs.length ≤ 1000 ∧
  ((∃ s t, StV K H hs u s ∧ StV K H hs v t ∧ ((SameB s t ∧ ∀ v' H', Ex H H' → Tp K H' (pD (pdiff (deep hs s) (deep hs t))) v' → Q v' H') ∨ (¬ SameB s t ∧ WordErr B E H "boxes"))) ∨
    (∃ a, BadV K H hs u a ∧ AtErr B E H a) ∨ ∃ s a, StV K H hs u s ∧ BadV K H hs v a ∧ AtErr B E H a)
theorem ok_parting_place (T : Txt P K mg B) : FnOk P w K mg base (L2.CX P w) 6 B.a_parting_place B.d_parting_place ["yard", "one", "other"] (sp_parting_place K B) :=
  T.F_parting_place.okX sc_parting_place (fun vs H Q E h => by obtain ⟨y, hs, u, v, rfl, _⟩ := h; rfl) fun cdv A outer s H vs Q E hr h => ⟨_, der_parting_place T (ok_boxes_of T) (ok_deep_part T) hr, by
    obtain ⟨y, hs, u, v, rfl, hy, hl, hq⟩ := h
    rcases hq with ⟨st, tt, hs1, ht1, k⟩ | ⟨a, hb, he⟩ | ⟨st, a, hs1, hb, he⟩
    · have s1 : Slots (start N_parting_place [V.ref y, u, v]) [some (Pr.v (.ref y)), some (Pr.d K (sD st)), some (Pr.d K (sD tt)), none, none, none, none, none, none, none] H := start_slots (Ps := [Pr.v (.ref y), Pr.d K (sD st), Pr.d K (sD tt)]) (.cons rfl (.cons hs1.1 (.cons ht1.1 .nil))) rfl
      have sm1 := valid_sm hs1.2.1.2
      have sm2 := valid_sm ht1.2.1.2
      have hlen1 : st.length ≤ 1000 := by have := hs1.2.1.1; omega
      have hlen2 : tt.length ≤ 1000 := by have := ht1.2.1.1; omega
      refine q_asg (R := RE) s1 (Ex.refl _) (ev_tupD (ds := [sD (deep hs st), sD (deep hs tt)]) (ea_cons (ev_deep_part (ev_var rfl) (fun H1 e => hy.ex e) (ev_var rfl) hl hs1.2.1 hs1.2.2) (ea_cons (ev_deep_part (ev_var rfl) (fun H1 e => hy.ex e) (ev_var rfl) hl ht1.2.1 ht1.2.2) ea_nil)) (show 2 ≤ 100000 by decide)) fun σ2 H2 e2 s2 => ?_
      have hsame := (ev_lots (K := K) (R := RE) (H := H2) (env := [some (Pr.v (.ref y)), some (Pr.d K (sD st)), some (Pr.d K (sD tt)), some (Pr.d K (.tuple [sD (deep hs st), sD (deep hs tt)])), none, none, none, none, none, none]) (neg := true) sm1 sm2 (ev_boxes_of (E := E0) (ev_var (i := 1) rfl) hlen1 hs1.2.2) (ev_boxes_of (E := E0) (ev_var (i := 2) rfl) hlen2 ht1.2.2) (sameB st tt) sameB_iff).2
      refine q_if (R := RE) s2 (Ex.refl _) (et_test hsame) (fun hb H3 e3 s3 => ?_) fun hb H3 e3 s3 => ?_
      · have hns : ¬ SameB st tt := fun z => by
          rw [sameB_iff.2 z] at hb
          cases hb
        have he := (k.resolve_left fun z => hns z.1).2
        exact s_raise (R := RE) s3 (Ex.refl _) ev_cv fun d H4 e4 hd => he d _ (((e2.trans e3).trans e4).trans (Ex.new hd)) upd_same
      · have hsb : SameB st tt := by
          rw [Bool.not_eq_false'] at hb
          exact sameB_iff.1 hb
        have hk := (k.resolve_right fun z => z.1 hsb).2
        have e03 := e2.trans e3
        have hg2 : ∀ {α : Type} {xs : List α} {i n : Nat} (d : α), n ≤ xs.length → i < n → xs[i]? = some (xs.getD i d) := fun {α xs i n} d hn hi => by
          rw [List.getD_eq_getElem?_getD, List.getElem?_eq_getElem (by omega)]
          rfl
        refine q_for (S := RE) (M := fun _ => False) (sq_ezs (K := K) (A := fun i => Pr.d K (rD ((deep hs st).getD i []))) (B := fun i => Pr.d K (rD ((deep hs tt).getD i []))) (ds := (deep hs st).map rD) (es := (deep hs tt).map rD) (ev_var (i := 3) (P := Pr.d K (.tuple [sD (deep hs st), sD (deep hs tt)])) rfl) (fun i d h => by
          obtain ⟨m, hm, rfl⟩ := sD_get h
          rw [getD_of [] hm]) fun i d h => by
          obtain ⟨m, hm, rfl⟩ := sD_get h
          rw [getD_of [] hm]) s3 (Ex.refl _) [some (Pr.v (.ref y)), some (Pr.d K (sD st)), some (Pr.d K (sD tt)), some (Pr.d K (.tuple [sD (deep hs st), sD (deep hs tt)])), none, none, none, none, none, none] (.s (.s (.s (.s (.s (.s (.s (.s (.s (.s .nil)))))))))) (fun i => [some (Pr.v (.ref y)), some (Pr.d K (sD st)), some (Pr.d K (sD tt)), some (Pr.d K (.tuple [sD (deep hs st), sD (deep hs tt)])), some (Pr.v (.int (i : Nat))), some (Pr.d K (rD ((deep hs st).getD i []))), some (Pr.d K (rD ((deep hs tt).getD i []))), none, none, none])
          (fun i hi => tg_pair (tg_name (i := 4)) (tg_pair (tg_name (i := 5)) (tg_name (i := 6)))) (fun i H' => Ex H H' ∧ pdiff (deep hs st) (deep hs tt) = (pdiff ((deep hs st).drop i) ((deep hs tt).drop i)).map fun p => (p.1 + i, p.2)) (fun H4 e4 => ⟨e03.trans e4, by simp⟩) (fun H4 e4 i σ' H' H5 hi w1 I e5 s5 N hN => ?_) fun H4 e4 σ' H' w1 s4 I => ?_
        · obtain ⟨x0, hp⟩ := I
          rw [List.length_map, List.length_map] at hi
          have ha : (deep hs st)[i]? = some ((deep hs st).getD i []) := hg2 [] (Nat.min_le_left _ _) hi
          have hb2 : (deep hs tt)[i]? = some ((deep hs tt).getD i []) := hg2 [] (Nat.min_le_right _ _) hi
          have hp2 := pdiff_step ha hb2
          generalize (deep hs st).getD i [] = ra at *
          generalize (deep hs tt).getD i [] = rb at *
          refine s_for (S := RE) (M := fun _ => False) (sq_ez (K := K) (A := fun j => Pr.d K (.str (ra.getD j ⟨#[]⟩))) (B := fun j => Pr.d K (.str (rb.getD j ⟨#[]⟩))) (ds := ra.map PyData.str) (es := rb.map PyData.str) (ev_var (i := 5) (P := Pr.d K (rD ra)) rfl) (ev_var (i := 6) (P := Pr.d K (rD rb)) rfl) (fun j d h => ?_) fun j d h => ?_) s5 (Ex.refl _) [some (Pr.v (.ref y)), some (Pr.d K (sD st)), some (Pr.d K (sD tt)), some (Pr.d K (.tuple [sD (deep hs st), sD (deep hs tt)])), some (Pr.v (.int (i : Nat))), some (Pr.d K (rD ra)), some (Pr.d K (rD rb)), none, none, none] (.s (.s (.s (.s (.s (.s (.s (.s (.s (.s .nil)))))))))) (fun j => [some (Pr.v (.ref y)), some (Pr.d K (sD st)), some (Pr.d K (sD tt)), some (Pr.d K (.tuple [sD (deep hs st), sD (deep hs tt)])), some (Pr.v (.int (i : Nat))), some (Pr.d K (rD ra)), some (Pr.d K (rD rb)), some (Pr.v (.int (j : Nat))), some (Pr.d K (.str (ra.getD j ⟨#[]⟩))), some (Pr.d K (.str (rb.getD j ⟨#[]⟩)))])
            (fun j hj => tg_pair (tg_name (i := 7)) (tg_pair (tg_name (i := 8)) (tg_name (i := 9)))) (fun j H' => Ex H H' ∧ rowDiff ra rb = (rowDiff (ra.drop j) (rb.drop j)).map fun p => p + j) (fun H6 e6 => ⟨(x0.trans e5).trans e6, by simp⟩) (fun H6 e6 j σ7 H7 H8 hj w7 I7 e8 s8 N8 hN8 => ?_) fun H6 e6 σ7 H7 w7 s7 I7 => ?_
          · rw [List.getElem?_map] at h
            cases e : ra[j]? with
            | none => rw [e] at h; cases h
            | some z =>
              rw [e] at h
              cases h
              rw [getD_of _ e]
          · rw [List.getElem?_map] at h
            cases e : rb[j]? with
            | none => rw [e] at h; cases h
            | some z =>
              rw [e] at h
              cases h
              rw [getD_of _ e]
          · obtain ⟨x7, hr⟩ := I7
            rw [List.length_map, List.length_map] at hj
            have h1 : ra[j]? = some (ra.getD j ⟨#[]⟩) := hg2 _ (Nat.min_le_left _ _) hj
            have h2 : rb[j]? = some (rb.getD j ⟨#[]⟩) := hg2 _ (Nat.min_le_right _ _) hj
            have hr2 := rowDiff_step h1 h2
            generalize ra.getD j ⟨#[]⟩ = xa at *
            generalize rb.getD j ⟨#[]⟩ = xb at *
            have x8 := x7.trans e8
            refine s_if (R := RE) s8 (Ex.refl _) (et_test (ev_neS (x := .str xa) (y := .str xb) (ev_str_v (K := K) (ev_var (i := 8) rfl)) (ev_str_v (K := K) (ev_var (i := 9) rfl)) rfl)) (fun hne H9 e9 s9 => ?_) fun heq H9 e9 s9 => ?_
            · have hne' : xa ≠ xb := fun z => by
                subst z
                rw [decide_eq_true rfl] at hne
                cases hne
              rw [if_neg hne'] at hr2
              rw [hr2] at hr
              have hr' : rowDiff ra rb = some j := by
                rw [hr]
                simp
              rw [hr'] at hp2
              rw [hp2] at hp
              have hp' : pdiff (deep hs st) (deep hs tt) = some (i, j) := by
                rw [hp]
                simp
              refine s_ret (R := RE) (P := Pr.d K (.tuple [.int (i : Nat), .int (j : Nat)])) s9 (Ex.refl _) (ev_tupD (ds := [.int (i : Nat), .int (j : Nat)]) (ea_cons (ev_v_int (ev_var (i := 4) rfl)) (ea_cons (ev_v_int (ev_var (i := 7) rfl)) ea_nil)) (show 2 ≤ 100000 by decide)) fun v' H10 e10 p => ?_
              refine hk v' H10 ((x8.trans e9).trans e10) ?_
              rw [hp']
              exact p
            · have heq' : xa = xb := by
                rw [Bool.not_eq_false', decide_eq_true_eq] at heq
                exact V.str.inj heq
              rw [if_pos heq'] at hr2
              rw [hr2] at hr
              refine hN8 _ _ (e8.trans e9).w (s9.wk (.s (.s (.s (.s (.s (.s (.s (.n (.n (.n .nil))))))))))) ⟨x8.trans e9, ?_⟩
              rw [hr]
              cases rowDiff (ra.drop (j + 1)) (rb.drop (j + 1)) with
              | none => rfl
              | some q =>
                simp
                omega
          · rw [List.length_map, List.length_map] at I7
            obtain ⟨x7, hr⟩ := I7
            rw [rowDiff_end (Nat.le_refl _)] at hr
            have hr' : rowDiff ra rb = none := hr
            rw [hr'] at hp2
            rw [hp2] at hp
            refine hN _ _ ((e5.trans e6).w.trans w7) (s7.wk (.s (.s (.s (.s (.n (.n (.n (.s (.s (.s .nil))))))))))) ⟨x7, ?_⟩
            rw [hp]
            cases pdiff ((deep hs st).drop (i + 1)) ((deep hs tt).drop (i + 1)) with
            | none => rfl
            | some q =>
              simp
              omega
        · rw [List.length_map, List.length_map] at I
          obtain ⟨x0, hp⟩ := I
          rw [pdiff_end (Nat.le_refl _)] at hp
          refine s_ret (R := RE) s4 (Ex.refl _) (ev_cv (v := .non)) fun v' H5 e5 p => hk v' H5 (x0.trans e5) ?_
          rw [hp, show v' = .non from p]
          exact tp_none (K := K) (H := H5)
    · have s0 : Slots (start N_parting_place [V.ref y, u, v]) [some (Pr.v (.ref y)), some (Pr.v u), some (Pr.v v), none, none, none, none, none, none, none] H := start_slots (Ps := [Pr.v (.ref y), Pr.v u, Pr.v v]) (.cons rfl (.cons rfl (.cons rfl .nil))) rfl
      refine s_call (R := RE) s0 (Ex.refl _) (ea_cons (ev_var rfl) (ea_cons (ev_var rfl) ea_nil)) fun vs H1 e1 pv => ?_
      obtain ⟨x1, x2, rfl, p1, p2⟩ := vs2 pv
      cases (show x1 = .ref y from p1)
      cases (show x2 = u from p2)
      exact ⟨y, hs, u, rfl, hy.ex e1, hl, .inr ⟨a, NsAt.ex hb e1, he.ex e1⟩⟩
    · have s1 : Slots (start N_parting_place [V.ref y, u, v]) [some (Pr.v (.ref y)), some (Pr.d K (sD st)), some (Pr.v v), none, none, none, none, none, none, none] H := start_slots (Ps := [Pr.v (.ref y), Pr.d K (sD st), Pr.v v]) (.cons rfl (.cons hs1.1 (.cons rfl .nil))) rfl
      refine ev_deep_part (K := K) (R := RE) (E := E) (ev_var (i := 0) rfl) (fun H1 e => hy.ex e) (ev_var (i := 1) rfl) hl hs1.2.1 hs1.2.2 _ H (Ex.refl _) s1 _ fun z H1 e1 pz => ?_
      refine s_call (R := RE) (s1.mono e1.im) (Ex.refl _) (ea_cons (ev_var rfl) (ea_cons (ev_var (i := 2) rfl) ea_nil)) fun vs H3 e3 pv => ?_
      obtain ⟨x1, x2, rfl, p1, p2⟩ := vs2 pv
      cases (show x1 = .ref y from p1)
      cases (show x2 = v from p2)
      exact ⟨y, hs, v, rfl, (hy.ex e1).ex e3, hl, .inr ⟨a, NsAt.ex hb (e1.trans e3), he.ex (e1.trans e3)⟩⟩⟩
/-- of two standings of the same boxes -/
theorem ev_parting_place {R : Rl} {env : Env'} {H : Hp} {ta tb tc : TE} {E : XK} {y : Addr} {hs : List Nat} {s t : List (List Str)} (ha : Ev R ta env H (Pr.v (.ref y))) (hy : ∀ H1, R.r H H1 → Yd K B H1 y hs) (hb : Ev R tb env H (Pr.d K (sD s))) (hc : Ev R tc env H (Pr.d K (sD t))) (hl : hs.length ≤ 1000) (hv : Valid hs s ∧ s.flatten.length ≤ 60) (hw : Valid hs t ∧ t.flatten.length ≤ 60) (hsb : SameB s t) :
    Ev R (tCall (sp_parting_place K B) [] E (tCons ta (tCons tb (tCons tc tNil)))) env H (Pr.d K (pD (pdiff (deep hs s) (deep hs t)))) :=
  ev_call (ea_cons ha (ea_cons hb (ea_cons hc ea_nil))) fun vs H1 r1 pv Q q => by
    obtain ⟨a, b, c, rfl, pa, pb, pc⟩ := vs3 pv
    cases (show a = .ref y from pa)
    exact ⟨y, hs, b, c, rfl, hy H1 r1, hl, .inl ⟨s, t, ⟨pb, hv.1, hv.2⟩, ⟨pc, hw.1, hw.2⟩, .inl ⟨hsb, fun v' H' e p => q v' H' (R.ofEx (R.again r1) e) p⟩⟩⟩
end Sd

set_option Elab.async false
set_option linter.all false
set_option maxRecDepth 100000
set_option maxHeartbeats 2000000
/-! Sp7: lists that are written; a draw. -/
namespace Sd
open PySem PySem.Spec PyProof.Rows L2

section
variable {R : Rl} {K : PySem.W.Frag} {env : Env'} {H : Hp} {ta te : TE} {σ : L2.St} {D : Ends} {z : TS} {P : Pr}
/-- a list of data is none empty -/
theorem eqv_nil (ds : List PyData) : PyData.eqv (.list ds) (.list []) = ds.isEmpty := by
  cases ds with
  | nil => rfl
  | cons a b => rfl
theorem shaped_nil : SeqAt.shaped (.list []) = true := by decide +kernel
theorem ev_neNil {ds : List PyData} {xs : List V} {p : Addr} (ha : Ev R ta env H (Pr.v (.ref p))) (hx : ∀ H1, R.r H H1 → H1 p = some (.lst xs) ∧ Tps K H1 ds xs) (hs : SeqAt.shaped (.list ds) = true) : Ev R (tOp (rNeD K) ta (tLst tNil)) env H (Pr.v (.bl (!ds.isEmpty))) := fun σ H1 r1 s Q q =>
  ha σ H1 r1 s _ fun x H2 r2 px => by
    cases (show x = .ref p from px)
    refine ⟨Nat.zero_le _, fun n hn => ?_⟩
    have r3 := R.new (o := .lst []) r2 hn
    obtain ⟨h1, h2⟩ := hx (upd H2 n (.lst [])) (R.trans r1 (R.trans r2 r3))
    refine ⟨.list ds, .list [], .lst (.inl (.inl h1)) (Tps.dp _ _ h2), .lst (.inl (.inl upd_same)) .nil, hs, shaped_nil, ?_⟩
    rw [eqv_nil]
    exact q _ _ (R.trans r2 r3) rfl
theorem ev_eqNil {ds : List PyData} {xs : List V} {p : Addr} (ha : Ev R ta env H (Pr.v (.ref p))) (hx : ∀ H1, R.r H H1 → H1 p = some (.lst xs) ∧ Tps K H1 ds xs) (hs : SeqAt.shaped (.list ds) = true) : Ev R (tOp (rEqD K) ta (tLst tNil)) env H (Pr.v (.bl ds.isEmpty)) := fun σ H1 r1 s Q q =>
  ha σ H1 r1 s _ fun x H2 r2 px => by
    cases (show x = .ref p from px)
    refine ⟨Nat.zero_le _, fun n hn => ?_⟩
    have r3 := R.new (o := .lst []) r2 hn
    obtain ⟨h1, h2⟩ := hx (upd H2 n (.lst [])) (R.trans r1 (R.trans r2 r3))
    refine ⟨.list ds, .list [], .lst (.inl (.inl h1)) (Tps.dp _ _ h2), .lst (.inl (.inl upd_same)) .nil, hs, shaped_nil, ?_⟩
    rw [eqv_nil]
    exact q _ _ (R.trans r2 r3) rfl
theorem lay_ints : ∀ ns : List Int, PyData.canLayAll0 (ns.map PyData.int) = true
  | [] => rfl
  | n :: ns => by
    simp only [List.map_cons, PyData.canLayAll0, PyData.canLay0, lay_ints ns, Bool.and_self]
theorem depth_ints : ∀ ns : List Int, PyData.depthAll (ns.map PyData.int) ≤ 1
  | [] => by decide
  | n :: ns => by
    have := depth_ints ns
    simp only [List.map_cons, PyData.depthAll, PyData.depth] at *
    omega
theorem shaped_ints (ns : List Int) : SeqAt.shaped (.list (ns.map PyData.int)) = true := by
  unfold SeqAt.shaped
  have := depth_ints ns
  simp only [PyData.canLay0, PyData.depth, lay_ints ns, Bool.true_and]
  exact decide_eq_true (show PyData.depthAll (ns.map PyData.int) + 1 ≤ 64 by omega)
/-- l.append(e) -/
theorem s_append {xs : List V} {p : Addr} {to : TE} (s : Slots σ env H) (r : R.r H H) (ho : Ev R to env H (Pr.v (.ref p))) (he : Ev R te env H P) (hx : ∀ H1, R.r H H1 → H1 p = some (.lst xs)) (hl : xs.length < 16777216)
    (k : ∀ v H1, R.r H H1 → P.P v H1 → Slots σ env H1 → D.nx σ (upd H1 p (.lst (xs ++ [v])))) : tDrop (tBM K "list" rAppend to (tCons te tNil)) D σ H :=
  ho σ H r s _ fun x H1 r1 px => by
    cases (show x = .ref p from px)
    refine ⟨.inl ⟨rfl, xs, .inl (.inl (hx H1 r1))⟩, ?_⟩
    refine he σ H1 r1 (s.mono (R.im r1)) _ fun v H2 r2 pv => ?_
    exact ⟨p, xs, v, rfl, rfl, hx H2 (R.trans r1 r2), by rw [sizeLine_eq]; exact hl, k v H2 (R.trans r1 r2) pv (s.mono (R.im (R.trans r1 r2)))⟩
theorem ev_neg {i : Int} (ha : Ev R ta env H (Pr.v (.int i))) : Ev R (tUn rNeg ta) env H (Pr.v (.int (-i))) :=
  ev_un ha fun x H1 r1 px Q q => by
    rw [show x = .int i from px]
    exact ⟨i, rfl, q _ H1 (R.again r1) rfl⟩
theorem atI_last {α : Type} (xs : List α) (x : α) (hl : xs[xs.length - 1]? = some x) : atI xs (-1) = some x := by
  have hn : 0 < xs.length := by
    cases xs with
    | nil => simp at hl
    | cons a b => simp
  unfold atI ixN
  rw [if_neg (by decide), if_pos (by omega)]
  have : ((-1 : Int) + (xs.length : Int)).toNat = xs.length - 1 := by omega
  rw [this]
  exact hl
end
variable {P : Program} {w : World} {K : PySem.W.Frag} {mg : Str → Option Value} {base : Heap} {B : Adr}
/-- a number below a bound, drawn -/
def sp_l_any : Sp := spR 2 (fun a : (Addr × Addr) × Int => RX a.1.1 a.1.2) (fun a vs _ => (0 < a.2 ∧ a.2 < 1073741824) ∧ vs = [.ref a.1.1, .int a.2]) (fun a v _ _ => ∃ r : Int, v = .int r ∧ 0 ≤ r ∧ r < a.2)
/-- the deal, its parts known -/
def Deal' (d l : Addr) (ns : List Int) (m : Int) (H : Hp) : Prop := d ≠ l ∧ ns.length ≤ 63 ∧ H d = some (.lst [.ref l, .int m]) ∧ H l = some (.lst (ns.map V.int))
theorem Deal'.deal {d l : Addr} {ns : List Int} {m : Int} {H : Hp} (h : Deal' d l ns m H) : Deal d l H := ⟨h.1, ns, m, h.2⟩
theorem Deal'.ex {d l : Addr} {ns : List Int} {m : Int} {H H' : Hp} (h : Deal' d l ns m H) (e : Ex H H') : Deal' d l ns m H' := ⟨h.1, h.2.1, e _ _ h.2.2.1, e _ _ h.2.2.2⟩
theorem Deal'.setl {d l : Addr} {ns ns' : List Int} {m : Int} {H : Hp} (h : Deal' d l ns m H) (hl : ns'.length ≤ 63) : Deal' d l ns' m (upd H l (.lst (ns'.map V.int))) := ⟨h.1, hl, by rw [upd_ne h.1]; exact h.2.2.1, upd_same⟩
theorem xd_upd {d l a : Addr} {H : Hp} {o : HO} (h : Deal d l H) (ha : a = d ∨ a = l) (h' : Deal d l (upd H a o)) : Xd d l H (upd H a o) := by
  have hs : H a ≠ none := by
    rcases ha with rfl | rfl
    · exact h.d_some
    · exact h.l_some
  refine ⟨h, h', fun c u n1 n2 q => ?_, fun c q => ?_⟩
  · rw [upd_ne (by rintro rfl; rcases ha with e | e; exact n1 e; exact n2 e)]
    exact q
  · by_cases e : c = a
    · subst e
      rw [upd_same] at q
      cases q
    · rw [upd_ne e] at q
      exact q
theorem dropLast_map {α β : Type} (f : α → β) (l : List α) : (l.map f).dropLast = l.dropLast.map f := by
  rw [List.map_dropLast]
section
variable {env : Env'} {H : Hp} {d l : Addr} {ns : List Int} {m : Int} {i : Nat}
theorem ev_deal0 (hv : env[i]? = some (some (Pr.v (.ref d)))) (h : Deal' d l ns m H) : Ev RE (tOp (rIxL K) (tVar i) (tC (.int 0))) env H (Pr.v (.ref l)) :=
  ev_ixL (xs := [.ref l, .int m]) (i := 0) (ev_var hv) ev_cv (fun H1 e => .inl (.inl (e _ _ h.2.2.1))) rfl fun _ _ => rfl
theorem ev_deal1 (hv : env[i]? = some (some (Pr.v (.ref d)))) (h : Deal' d l ns m H) : Ev RE (tOp (rIxL K) (tVar i) (tC (.int 1))) env H (Pr.v (.int m)) :=
  ev_ixL (xs := [.ref l, .int m]) (i := 1) (ev_var hv) ev_cv (fun H1 e => .inl (.inl (e _ _ h.2.2.1))) rfl fun _ _ => rfl
theorem ev_dealNe (hv : env[i]? = some (some (Pr.v (.ref d)))) (h : Deal' d l ns m H) : Ev RE (tOp (rNeD K) (tOp (rIxL K) (tVar i) (tC (.int 0))) (tLst tNil)) env H (Pr.v (.bl (!ns.isEmpty))) := by
  have q := ev_neNil (K := K) (R := RE) (ds := ns.map PyData.int) (xs := ns.map V.int) (ev_deal0 (K := K) hv h) (fun H1 e => ⟨e _ _ h.2.2.2, ints_tps ns⟩) (shaped_ints ns)
  have e : (ns.map PyData.int).isEmpty = ns.isEmpty := by cases ns <;> rfl
  rw [e] at q
  exact q
end
theorem ne_empty_last {ns : List Int} (h : ns.isEmpty = false) : ∃ x, ns[ns.length - 1]? = some x ∧ ns = ns.dropLast ++ [x] := by
  have hne : ns ≠ [] := by
    rintro rfl
    cases h
  refine ⟨ns.getLast hne, ?_, (List.dropLast_concat_getLast hne).symm⟩
  rw [List.getElem?_eq_getElem (by have := List.length_pos_iff.mpr hne; omega), List.getLast_eq_getElem]
theorem ok_l_any (T : Txt P K mg B) : FnOk P w K mg base CX0 1 B.a_l_any B.d_l_any ["_law_deal_here", "_law_bound"] sp_l_any :=
  T.F_l_any.ok sc_l_any (spR_len rfl) fun cdv A outer s H vs Q E hr h => ⟨_, der_l_any T hr, by
    obtain ⟨_, ⟨⟨d, l⟩, b⟩, r, ⟨hb, rfl⟩, k⟩ := h
    have hb1 : 0 < b := hb.1
    have hb2 : b < 1073741824 := hb.2
    obtain ⟨hdl, ns0, m0, hn0, h1, h2⟩ := r.1
    have s0 : Slots (start N_l_any [V.ref d, V.int b]) [some (Pr.v (.ref d)), some (Pr.v (.int b)), none] H := start_slots (Ps := [Pr.v (.ref d), Pr.v (.int b)]) (.cons rfl (.cons rfl .nil)) rfl
    generalize start N_l_any [V.ref d, V.int b] = σ0 at s0
    refine ⟨fun n σ' H' => σ' = σ0 ∧ Slots σ' [some (Pr.v (.ref d)), some (Pr.v (.int b)), none] H' ∧ ∃ ns mm, ns.length = n ∧ Deal' d l ns mm H' ∧ Xd d l H H', ⟨ns0.length, rfl, s0, ns0, m0, rfl, ⟨hdl, hn0, h1, h2⟩, r⟩, ?_⟩
    rintro n σ' H' ⟨rfl, s1, ns, mm, rfl, dl, x1⟩
    have hc : EvT RE (tAnd (tTest (tOp (rNeD K) (tOp (rIxL K) (tVar 0) (tC (.int 0))) (tLst tNil))) (tTest (tOp rEq (tOp (rIxL K) (tOp (rIxL K) (tVar 0) (tC (.int 0))) (tUn rNeg (tC (.int 1)))) (tC (.int 0))))) [some (Pr.v (.ref d)), some (Pr.v (.int b)), none] H' (!ns.isEmpty && decide (V.int (ns.getLastD 1) = V.int 0)) := by
      refine et_and (et_test (ev_dealNe rfl dl)) fun hne => et_test (ev_eqS (x := .int (ns.getLastD 1)) (y := .int 0) ?_ ev_cv rfl)
      obtain ⟨x, hx, hd⟩ := ne_empty_last (ns := ns) (by simpa using hne)
      have hg : ns.getLastD 1 = x := by
        rw [hd]
        simp
      rw [hg]
      refine ev_ixL (i := -1) (ev_deal0 rfl dl) (ev_neg ev_cv) (fun H1 e => .inl (.inl (e _ _ dl.2.2.2))) (atI_last _ (V.int x) ?_) fun _ _ => rfl
      rw [List.length_map, List.getElem?_map, hx]
      rfl
    refine hc σ' H' (Ex.refl _) s1 _ fun H2 e2 => ?_
    have dl2 := dl.ex e2
    have s2 := s1.mono (Ex.im e2)
    have x2 : Xd d l H H2 := x1.trans (Xd.ofEx dl.deal e2)
    cases hcond : (!ns.isEmpty && decide (V.int (ns.getLastD 1) = V.int 0)) with
    | true =>
      rw [if_pos rfl]
      have hne : ns.isEmpty = false := by
        cases hz : ns.isEmpty with
        | true => rw [hz] at hcond; cases hcond
        | false => rfl
      obtain ⟨x, hx, hd⟩ := ne_empty_last hne
      have hlen : ns.dropLast.length < ns.length := by
        rw [List.length_dropLast]
        have : ns ≠ [] := by rintro rfl; cases hne
        have := List.length_pos_iff.mpr this
        omega
      refine ⟨fun σ3 H3 => ∃ m', m' < ns.length ∧ σ3 = σ' ∧ Slots σ3 [some (Pr.v (.ref d)), some (Pr.v (.int b)), none] H3 ∧ ∃ ns mm, ns.length = m' ∧ Deal' d l ns mm H3 ∧ Xd d l H H3, fun _ _ z => z, ?_⟩
      refine ev_deal0 (K := K) rfl dl2 σ' H2 (Ex.refl _) s2 _ fun v H3 e3 pv => ?_
      cases (show v = .ref l from pv)
      have dl3 := dl2.ex e3
      have x3 : Xd d l H H3 := x2.trans (Xd.ofEx dl2.deal e3)
      refine ⟨.inl ⟨rfl, _, .inl (.inl dl3.2.2.2)⟩, l, ns.map V.int, .int x, rfl, rfl, dl3.2.2.2, ?_, ?_⟩
      · rw [List.length_map, List.getElem?_map, hx]
        rfl
      · rw [dropLast_map]
        have dl4 := dl3.setl (ns' := ns.dropLast) (by have := dl3.2.1; omega)
        have x4 := xd_upd dl3.deal (.inr rfl) dl4.deal
        exact ⟨ns.dropLast.length, hlen, rfl, (s2.mono (Ex.im e3)).mono x4.im, ns.dropLast, mm, rfl, dl4, x3.trans x4⟩
    | false =>
      rw [if_neg Bool.false_ne_true]
      clear hcond
      refine q_if (R := RE) s2 (Ex.refl _) (et_test (ev_dealNe rfl dl2)) (fun hne H3 e3 s3 => ?_) fun hne H3 e3 s3 => ?_
      · -- a number of the list
        have hne' : ns.isEmpty = false := by simpa using hne
        obtain ⟨x, hx, hd⟩ := ne_empty_last hne'
        have hlen : ns.dropLast.length < ns.length := by
          rw [List.length_dropLast]
          have : ns ≠ [] := by rintro rfl; cases hne'
          have := List.length_pos_iff.mpr this
          omega
        have dl3 := dl2.ex e3
        have x3 : Xd d l H H3 := x2.trans (Xd.ofEx dl2.deal e3)
        refine ev_deal0 (K := K) rfl dl3 σ' H3 (Ex.refl _) s3 _ fun v H4 e4 pv => ?_
        cases (show v = .ref l from pv)
        have dl4 := dl3.ex e4
        have x4 : Xd d l H H4 := x3.trans (Xd.ofEx dl3.deal e4)
        have s4 := s3.mono (Ex.im e4)
        refine ⟨.inl ⟨rfl, _, .inl (.inl dl4.2.2.2)⟩, l, ns.map V.int, .int x, rfl, rfl, dl4.2.2.2, ?_, ?_⟩
        · rw [List.length_map, List.getElem?_map, hx]
          rfl
        rw [dropLast_map]
        have dl5 := dl4.setl (ns' := ns.dropLast) (by have := dl4.2.1; omega)
        have x45 := xd_upd dl4.deal (.inr rfl) dl5.deal
        have s5 := s4.mono x45.im
        refine .inl ⟨x, rfl, ?_⟩
        have s6 := Slots.set (i := 2) (P := Pr.v (.int x)) s5 (rfl : V.int x = V.int x)
        have dln : ns.dropLast.length ≤ 62 := by
          have := dl4.2.1
          omega
        refine s_append (R := RE) (K := K) (P := Pr.v (.int (x / b))) s6 (Ex.refl _) (ev_deal0 (K := K) rfl dl5) (ev_I (i := x) (j := b) (ev_var rfl) (ev_var rfl) ⟨hb1, hb2⟩) (fun H6 e6 => e6 _ _ dl5.2.2.2) (by rw [List.length_map]; omega) fun v H6 e6 pv s7 => ?_
        cases (show v = .int (x / b) from pv)
        have dl6 := dl5.ex e6
        have dl7 := dl6.setl (ns' := ns.dropLast ++ [x / b]) (by rw [List.length_append]; simp only [List.length_cons, List.length_nil]; omega)
        have x67 := xd_upd dl6.deal (.inr rfl) dl7.deal
        rw [List.map_append] at x67 dl7
        have x7 : Xd d l H (upd H6 l (.lst (ns.dropLast.map V.int ++ [.int (x / b)]))) := (x4.trans x45).trans ((Xd.ofEx dl5.deal e6).trans x67)
        refine s_ret (R := RE) (P := Pr.v (.int (x % b))) (s7.mono x67.im) (Ex.refl _) (ev_I (C := fun _ j => 0 < j) (g := fun i j => .int (i % j)) (i := x) (j := b) (ev_var rfl) (ev_var rfl) hb1) fun v H8 e8 pv => ?_
        cases (show v = .int (x % b) from pv)
        exact k _ _ (x7.trans (Xd.ofEx x7.2.1 e8)) ⟨x % b, rfl, Int.emod_nonneg _ (by omega), Int.emod_lt_of_pos _ hb1⟩
      · -- the number is made anew
        have dl3 := dl2.ex e3
        have x3 : Xd d l H H3 := x2.trans (Xd.ofEx dl2.deal e3)
        have hev : Ev RE (tOp rModI (tCB rInt1 (tCons (tOp rAddI (tOp rMulI (tOp (rIxL K) (tVar 0) (tC (.int 1))) (tC (.int 48271))) (tC (.int 89))) tNil)) (tC (.int 2147483647))) [some (Pr.v (.ref d)), some (Pr.v (.int b)), none] H3 (Pr.v (.int ((mm * 48271 + 89) % 2147483647))) :=
          ev_I (i := mm * 48271 + 89) (j := 2147483647) (ev_int1 (ev_I0 (i := mm * 48271) (j := 89) (g := fun i j => .int (i + j)) (ev_I (i := mm) (j := 48271) (g := fun i j => .int (i * j)) (ev_deal1 rfl dl3) ev_cv (.inr (by decide))) ev_cv)) ev_cv (by decide)
        refine hev σ' H3 (Ex.refl _) s3 _ fun v H4 e4 pv => ?_
        cases (show v = .int ((mm * 48271 + 89) % 2147483647) from pv)
        generalize (mm * 48271 + 89) % 2147483647 = m4
        have dl4 := dl3.ex e4
        have x4 : Xd d l H H4 := x3.trans (Xd.ofEx dl3.deal e4)
        have s4 := s3.mono (Ex.im e4)
        obtain ⟨v0, ev0, pv0⟩ := s4.2 0 _ rfl
        cases (show v0 = .ref d from pv0)
        refine ⟨_, ev0, d, [.ref l, .int mm], 1, 1, rfl, rfl, dl4.2.2.1, rfl, ?_⟩
        have dl5 : Deal' d l ns m4 (upd H4 d (.lst [.ref l, .int m4])) := ⟨dl4.1, dl4.2.1, upd_same, by rw [upd_ne (Ne.symm dl4.1)]; exact dl4.2.2.2⟩
        have x45 := xd_upd dl4.deal (.inl rfl) dl5.deal
        have s5 := s4.mono x45.im
        have x5 := x4.trans x45
        refine s_ret (R := RE) (P := Pr.v (.int (m4 / 64 % b))) s5 (Ex.refl _) (ev_I (C := fun _ j => 0 < j) (g := fun i j => .int (i % j)) (i := m4 / 64) (j := b) (ev_int1 (ev_I (C := CDiv) (i := m4) (j := 64) (g := fun i j => .int (i / j)) (ev_deal1 (K := K) rfl dl5) ev_cv ⟨by decide, by decide⟩)) (ev_var rfl) hb1) fun v H8 e8 pv => ?_
        cases (show v = .int (m4 / 64 % b) from pv)
        exact k _ _ (x5.trans (Xd.ofEx x5.2.1 e8)) ⟨m4 / 64 % b, rfl, Int.emod_nonneg _ (by omega), Int.emod_lt_of_pos _ hb1⟩⟩
/-- a draw below n -/
theorem ev_l_any {d l : Addr} {env : Env'} {H : Hp} {ta tb : TE} {E : XK} {b : Int} (ha : Ev (RX d l) ta env H (Pr.v (.ref d))) (hb : Ev (RX d l) tb env H (Pr.v (.int b))) (h1 : 0 < b) (h2 : b < 1073741824) : Ev (RX d l) (tCall sp_l_any [] E (tCons ta (tCons tb tNil))) env H (Pr.p fun v => ∃ r : Int, v = .int r ∧ 0 ≤ r ∧ r < b) :=
  ev_spR (ea_cons ha (ea_cons hb ea_nil)) ((d, l), b) sub_X rfl (fun vs H1 r1 pv => by
    obtain ⟨x, y, rfl, px, py⟩ := vs2 pv
    rw [show x = .ref d from px, show y = .int b from py]
    exact ⟨⟨h1, h2⟩, rfl⟩) fun v H1 H2 _ _ p => p
end Sd

set_option Elab.async false
set_option linter.all false
set_option maxRecDepth 100000
set_option maxHeartbeats 2000000
/-! Sp8: an item drawn; a list mixed; the deal. -/
namespace Sd
open PySem PySem.Spec PyProof.Rows L2

/-- a value whose content is known exactly is what a slot holds -/
theorem Slots.pin {σ : L2.St} {env : Env'} {H : Hp} {i : Nat} {P : Pr} (s : Slots σ env H) (hi : env[i]? = some (some P)) : ∃ v, P.P v H ∧ Slots σ (env.set i (some (Pr.v v))) H := by
  obtain ⟨v, e1, e2⟩ := s.2 i P hi
  refine ⟨v, e2, ?_⟩
  have q := Slots.set (i := i) (v := v) (P := Pr.v v) s rfl
  rwa [show σ.set i (some v) = σ from by
    apply List.ext_getElem?
    intro j
    by_cases ij : i = j
    · subst ij
      have hl : i < σ.length := (List.getElem?_eq_some_iff.mp e1).1
      rw [List.getElem?_set_self hl, e1]
    · rw [List.getElem?_set_ne ij]] at q
variable {P : Program} {w : World} {K : PySem.W.Frag} {mg : Str → Option Value} {base : Heap} {B : Adr}
/-- the items of a list, a tuple or a text -/
def OfIt (K : PySem.W.Frag) (d l : Addr) (H : Hp) (v : V) (xs : List V) : Prop := (∃ p, v = .ref p ∧ (p ≠ d ∧ p ≠ l) ∧ H p = some (.lst xs)) ∨ (∃ p, v = .ref p ∧ SqT K H p xs) ∨ ∃ z : Str, v = .str z ∧ z.length ≤ 100000 ∧ xs = z.cps.toList.map fun c => .str ⟨#[c]⟩
theorem OfIt.xd {d l : Addr} {H H' : Hp} {v : V} {xs : List V} (h : OfIt K d l H v xs) (x : Xd d l H H') : OfIt K d l H' v xs := by
  rcases h with ⟨p, h1, h2, h3⟩ | ⟨p, h1, h2⟩ | h
  · exact .inl ⟨p, h1, h2, x.2.2.1 _ _ h2.1 h2.2 h3⟩
  · exact .inr (.inl ⟨p, h1, x.im.sqt h2⟩)
  · exact .inr (.inr h)
def sp_l_of (K : PySem.W.Frag) : Sp := spR 2 (fun a : (Addr × Addr) × List V => RX a.1.1 a.1.2) (fun a vs H => (0 < a.2.length ∧ a.2.length ≤ 100000) ∧ ∃ v, vs = [.ref a.1.1, v] ∧ OfIt K a.1.1 a.1.2 H v a.2) (fun a v _ _ => v ∈ a.2)
theorem OfIt.len {d l : Addr} {H : Hp} {v : V} {xs : List V} (h : OfIt K d l H v xs) : LenV K v H xs.length := by
  rcases h with ⟨p, rfl, h2, h3⟩ | ⟨p, rfl, h2⟩ | ⟨z, rfl, h1, h2⟩
  · exact .inl ⟨xs, .inl (.inl h3), rfl⟩
  · exact .inr ⟨xs, h2, rfl⟩
  · exact ⟨Nat.le_trans h1 (by decide), by rw [h2, List.length_map, Array.length_toList]; rfl⟩
theorem ok_l_of (T : Txt P K mg B) : FnOk P w K mg base CX0 2 B.a_l_of B.d_l_of ["_law_deal_here", "_law_some"] (sp_l_of K) :=
  T.F_l_of.ok sc_l_of (spR_len rfl) fun cdv A outer s H vs Q E hr h => ⟨_, der_l_of T (ok_l_any T) hr, by
    obtain ⟨_, ⟨⟨d, l⟩, xs⟩, r, ⟨⟨hp, hp2⟩, v, rfl, hv⟩, k⟩ := h
    have hp0 : 0 < xs.length := hp
    have hp1 : xs.length ≤ 100000 := hp2
    have s0 : Slots (start N_l_of [V.ref d, v]) [some (Pr.v (.ref d)), some (Pr.v v)] H := start_slots (Ps := [Pr.v (.ref d), Pr.v v]) (.cons rfl (.cons rfl .nil)) rfl
    refine s_ret (R := RX d l) (P := Pr.p fun u => u ∈ xs) s0 r ?_ fun u H1 r1 p => k u H1 r1 p
    refine ev_op (ev_var (i := 1) rfl) (ev_l_any (b := (xs.length : Nat)) (ev_var rfl) ?_ (by omega) (by omega)) fun x y H1 r1 px py Q q => ?_
    · refine ev_cb (ea_cons (ev_var (i := 1) rfl) ea_nil) fun vs H1 r1 pv Q q => ?_
      obtain ⟨x, rfl, px⟩ := vs1 pv
      rw [show x = v from px]
      exact ⟨v, xs.length, rfl, (hv.xd r1).len, q _ H1 ((RX d l).again r1) rfl⟩
    · rw [show x = v from px]
      obtain ⟨j, rfl, hj0, hj1⟩ := py
      obtain ⟨n, rfl⟩ : ∃ n : Nat, j = n := ⟨j.toNat, by omega⟩
      have hn : n < xs.length := by omega
      have hg := List.getElem?_eq_getElem hn
      have hat : atI xs (n : Int) = some xs[n] := L2.atI_nat hg
      have qq := q xs[n] H1 ((RX d l).again r1) (List.getElem_mem hn)
      rcases hv.xd r1 with ⟨p, rfl, h2, h3⟩ | ⟨p, rfl, h2⟩ | ⟨z, rfl, h1, h2⟩
      · exact .inl ⟨p, xs, n, xs[n], rfl, rfl, .inl (.inl h3), hat, qq⟩
      · exact .inr (.inl ⟨p, xs, n, xs[n], rfl, rfl, h2, hat, qq⟩)
      · subst h2
        have hn' : n < z.cps.toList.length := by simpa using hn
        refine .inr (.inr ⟨z, n, z.cps.toList[n], rfl, rfl, Nat.le_trans h1 (by decide), L2.atI_nat (List.getElem?_eq_getElem hn'), ?_⟩)
        rw [List.getElem_map] at qq
        exact qq⟩
section
variable {d l : Addr} {env : Env'} {H : Hp} {ta te : TE} {E : XK} {P' : Pr}
theorem ev_l_of {A : Pr} (xs : List V) (ha : Ev (RX d l) ta env H (Pr.v (.ref d))) (hb : Ev (RX d l) te env H A) (hA : ∀ v H1, Xd d l H H1 → A.P v H1 → OfIt K d l H1 v xs) (h0 : 0 < xs.length) (h1 : xs.length ≤ 100000) (hP : ∀ v H1, Xd d l H H1 → v ∈ xs → P'.P v H1) : Ev (RX d l) (tCall (sp_l_of K) [] E (tCons ta (tCons te tNil))) env H P' :=
  ev_spR (ea_cons ha (ea_cons hb ea_nil)) ((d, l), xs) sub_X rfl (fun vs H1 r1 pv => by
    obtain ⟨x, y, rfl, px, py⟩ := vs2 pv
    rw [show x = .ref d from px]
    exact ⟨⟨h0, h1⟩, y, rfl, hA y H1 r1 py⟩) fun v H1 H2 r1 r2 p => hP v H2 (r1.trans r2) p
/-- of a tuple -/
theorem ev_l_ofT {ds : List PyData} (ha : Ev (RX d l) ta env H (Pr.v (.ref d))) (hb : Ev (RX d l) te env H (Pr.d K (.tuple ds))) (h0 : 0 < ds.length) (h1 : ds.length ≤ 100000) : Ev (RX d l) (tCall (sp_l_of K) [] E (tCons ta (tCons te tNil))) env H (Pr.any fun x : { x // x ∈ ds } => Pr.d K x.1) := fun σ H1 r1 s Q q =>
  ha σ H1 r1 s _ fun x H2 r2 px => hb σ H2 (r1.trans r2) (s.mono r2.im) _ fun y H3 r3 py => by
    cases (show x = .ref d from px)
    obtain ⟨p, xs, rfl, hx, ht⟩ := Tp.tup_ py
    have hl := ht.length
    refine ⟨rfl, ((d, l), xs), (RX d l).again r3, ⟨⟨show 0 < xs.length by omega, show xs.length ≤ 100000 by omega⟩, _, rfl, .inr (.inl ⟨p, rfl, hx⟩)⟩, fun v H4 r4 p4 => q v H4 (r2.trans (r3.trans r4)) ?_⟩
    obtain ⟨i, hi⟩ := List.mem_iff_getElem?.mp p4
    obtain ⟨e, he, te'⟩ := ht.at_ hi
    exact ⟨⟨e, List.mem_of_getElem? he⟩, te'.mono r4.im _ _⟩
/-- of a new list -/
theorem ev_l_ofN {C : List V → Hp → Prop} (ha : Ev (RX d l) ta env H (Pr.v (.ref d))) (hb : EvL (RX d l) te env H C) (h0 : ∀ xs H1, C xs H1 → 0 < xs.length ∧ xs.length ≤ 100000) (hP : ∀ xs H1 H2, Xd d l H1 H2 → C xs H1 → ∀ v ∈ xs, P'.P v H2) : Ev (RX d l) (tCall (sp_l_of K) [] E (tCons ta (tCons te tNil))) env H P' := fun σ H1 r1 s Q q =>
  ha σ H1 r1 s _ fun x H2 r2 px => hb σ H2 (r1.trans r2) (s.mono r2.im) _ fun p xs H3 r3 n e c => by
    cases (show x = .ref d from px)
    have np := (RX d l).live (r1.trans r2) n
    exact ⟨rfl, ((d, l), xs), (RX d l).again r3, ⟨h0 xs H3 c, _, rfl, .inl ⟨p, rfl, ⟨fun z => np (.inl z), fun z => np (.inr z)⟩, e⟩⟩, fun v H4 r4 p4 => q v H4 (r2.trans (r3.trans r4)) (hP xs H3 H4 r4 c v p4)⟩
end
theorem run_drop {te : TE} {D : Ends} {σ : L2.St} {H : Hp} (h : te σ H fun _ H1 => D.nx σ H1) : tDrop te D σ H := h
theorem run_bm {T : String} {to : TE} {t : TA} {r : V → List V → Hp → VK → Prop} {σ : L2.St} {H : Hp} {Q : VK} (h : to σ H fun x H1 => tyV K T x H1 ∧ t σ H1 fun xs H2 => r x xs H2 Q) : tBM K T r to t σ H Q := h
theorem run_one {te : TE} {σ : L2.St} {H : Hp} {Q : List V → Hp → Prop} (h : te σ H fun x H1 => Q [x] H1) : tCons te tNil σ H Q := h
theorem wperm_erase {α : Type} {xs : List α} {k : Nat} {y : α} (h : xs[k]? = some y) : List.Perm (y :: xs.eraseIdx k) xs := by
  obtain ⟨hk, rfl⟩ := List.getElem?_eq_some_iff.mp h
  rw [List.eraseIdx_eq_take_drop_succ]
  have e : xs = xs.take k ++ xs[k] :: xs.drop (k + 1) := by
    rw [← List.drop_eq_getElem_cons hk, List.take_append_drop]
  conv => rhs; rw [e]
  exact List.perm_middle.symm
/-- a new list of the same items -/
def sp_l_mixed : Sp := spR 2 (fun a : (Addr × Addr) × List V => RX a.1.1 a.1.2) (fun a vs H => a.2.length ≤ 100000 ∧ ∃ p, vs = [.ref a.1.1, .ref p] ∧ (p ≠ a.1.1 ∧ p ≠ a.1.2) ∧ H p = some (.lst a.2)) (fun a v H H' => ∃ p ys, v = .ref p ∧ H p = none ∧ H' p = some (.lst ys) ∧ List.Perm ys a.2)
theorem ok_l_mixed (T : Txt P K mg B) : FnOk P w K mg base CX0 2 B.a_l_mixed B.d_l_mixed ["_law_deal_here", "_law_some"] sp_l_mixed :=
  T.F_l_mixed.ok sc_l_mixed (spR_len rfl) fun cdv A outer s H vs Q E hr h => ⟨_, der_l_mixed T (ok_l_any T) hr, by
    obtain ⟨_, ⟨⟨d, l⟩, xs⟩, r, ⟨hp, p, rfl, hne, hv⟩, k⟩ := h
    have hp1 : xs.length ≤ 100000 := hp
    have hne' : p ≠ d ∧ p ≠ l := hne
    have hv' : H p = some (.lst xs) := hv
    have s0 : Slots (start N_l_mixed [V.ref d, V.ref p]) [some (Pr.v (.ref d)), some (Pr.v (.ref p)), none, none, none] H := start_slots (Ps := [Pr.v (.ref d), Pr.v (.ref p)]) (.cons rfl (.cons rfl .nil)) rfl
    refine ev_listL (K := K) (R := RE) (xs := xs) (ev_var (i := 1) (env := [some (Pr.v (.ref d)), some (Pr.v (.ref p)), none, none, none]) rfl) (fun H1 e => .inl (.inl (e _ _ hv'))) _ H (Ex.refl _) s0 _ fun b ys H1 e1 hn1 hb1 c1 => ?_
    obtain rfl : xs = ys := (show ys = xs from c1).symm
    refine ⟨Nat.zero_le _, fun f hf => ⟨.ref b, .ref f, rfl, ?_⟩⟩
    have e2 : Ex H (upd H1 f (.lst [])) := e1.put (e1.back hf)
    have hb2 : upd H1 f (.lst []) b = some (.lst xs) := by
      rw [upd_ne (ne_of_none hb1 hf)]
      exact hb1
    have hf2 : upd H1 f (.lst []) f = some (.lst []) := upd_same
    have hfn : H f = none := e1.back hf
    have hbf : b ≠ f := ne_of_none hb1 hf
    generalize upd H1 f (.lst []) = H2 at e2 hb2 hf2
    have s2 := ((s0.mono e2.im).set (i := 2) (P := Pr.v (.ref b)) (rfl : V.ref b = V.ref b)).set (i := 3) (P := Pr.v (.ref f)) (rfl : V.ref f = V.ref f)
    have dd : ∀ c, H c = none → c ≠ d ∧ c ≠ l := fun c hc => ⟨fun z => r.1.d_some (z ▸ hc), fun z => r.1.l_some (z ▸ hc)⟩
    have sq := sq_rng1 (S := RE) (M := fun a => a = d ∨ a = l ∨ a = b ∨ a = f) (ev_lenL (K := K) (ev_var (i := 1) (env := [some (Pr.v (.ref d)), some (Pr.v (.ref p)), some (Pr.v (.ref b)), some (Pr.v (.ref f)), none]) (H := H2) rfl) fun H3 e3 => .inl (.inl (e3 _ _ (e2 _ _ hv')))) (by omega) (by omega)
    rw [Int.toNat_natCast] at sq
    refine q_for sq s2 (Ex.refl _) [some (Pr.v (.ref d)), some (Pr.v (.ref p)), some (Pr.v (.ref b)), some (Pr.v (.ref f)), none] (.s (.s (.s (.s (.s .nil))))) (fun i => [some (Pr.v (.ref d)), some (Pr.v (.ref p)), some (Pr.v (.ref b)), some (Pr.v (.ref f)), some (Pr.v (.int (i : Nat)))]) (fun i hi => tg_name (i := 4))
      (fun i H' => Deal d l H' ∧ (∀ a, H' a = none → H a = none) ∧ ∃ us vs, H' b = some (.lst us) ∧ H' f = some (.lst vs) ∧ us.length + i = xs.length ∧ vs.length = i ∧ List.Perm (vs ++ us) xs)
      (fun H3 e3 => ⟨(r.1.of e2).of e3, fun a ha => (e2.trans e3).back ha, xs, [], e3 _ _ hb2, e3 _ _ hf2, rfl, rfl, List.Perm.refl _⟩) (fun H3 e3 i σ' H' H4 hi w1 I e4 s4 N hN => ?_) fun H3 e3 σ' H' w1 s4 I => ?_
    · obtain ⟨dl, bk, us, vs, hus, hvs, hlen, hlen2, pm⟩ := I
      have dl4 := dl.of e4
      have ho : Ev (RX d l) (tVar 3) _ H4 (Pr.v (.ref f)) := ev_var (R := RX d l) (i := 3) (env := [some (Pr.v (.ref d)), some (Pr.v (.ref p)), some (Pr.v (.ref b)), some (Pr.v (.ref f)), some (Pr.v (.int (i : Nat)))]) rfl
      refine run_drop (run_bm ?_)
      refine ho σ' H4 (Xd.refl dl4) s4 _ fun v H5 x5 pv => ?_
      cases (show v = .ref f from pv)
      have x5' : Xd d l H4 H5 := x5
      have hvs5 : H5 f = some (.lst vs) := x5'.2.2.1 _ _ (dd f hfn).1 (dd f hfn).2 (e4 _ _ hvs)
      refine ⟨.inl ⟨rfl, vs, .inl (.inl hvs5)⟩, ?_⟩
      have ho2 : Ev (RX d l) (tVar 2) _ H5 (Pr.v (.ref b)) := ev_var (R := RX d l) (i := 2) (env := [some (Pr.v (.ref d)), some (Pr.v (.ref p)), some (Pr.v (.ref b)), some (Pr.v (.ref f)), some (Pr.v (.int (i : Nat)))]) rfl
      refine run_one (run_bm ?_)
      refine ho2 σ' H5 ((RX d l).again x5) (s4.mono x5'.im) _ fun v H6 x6 pv => ?_
      cases (show v = .ref b from pv)
      have x6' : Xd d l H4 H6 := x5'.trans x6
      have hb0 : H b = none := hn1
      have hus6 : H6 b = some (.lst us) := x6'.2.2.1 _ _ (dd b hb0).1 (dd b hb0).2 (e4 _ _ hus)
      refine ⟨.inl ⟨rfl, us, .inl (.inl hus6)⟩, ?_⟩
      have hla : Ev (RX d l) (tCB (rLenSeq K) (tCons (tVar 2) tNil)) [some (Pr.v (.ref d)), some (Pr.v (.ref p)), some (Pr.v (.ref b)), some (Pr.v (.ref f)), some (Pr.v (.int (i : Nat)))] H6 (Pr.v (.int (us.length : Nat))) :=
        ev_lenL (K := K) (ev_var (i := 2) rfl) fun H7 x7 => .inl (.inl ((show Xd d l H6 H7 from x7).2.2.1 _ _ (dd b hb0).1 (dd b hb0).2 hus6))
      refine run_one ?_
      refine (ev_l_any (E := E0) (ev_var rfl) hla (by omega) (by omega)) σ' H6 ((RX d l).again x6) (s4.mono x6'.im) _ fun v H7 x7 pv => ?_
      obtain ⟨j, rfl, hj0, hj1⟩ := pv
      have x7' : Xd d l H4 H7 := x6'.trans x7
      obtain ⟨n, rfl⟩ : ∃ n : Nat, j = n := ⟨j.toNat, by omega⟩
      have hn : n < us.length := by omega
      have hus7 : H7 b = some (.lst us) := x7'.2.2.1 _ _ (dd b hb0).1 (dd b hb0).2 (e4 _ _ hus)
      have hvs7 : H7 f = some (.lst vs) := x7'.2.2.1 _ _ (dd f hfn).1 (dd f hfn).2 (e4 _ _ hvs)
      have hg := List.getElem?_eq_getElem hn
      refine ⟨b, us, n, n, us[n], rfl, rfl, hus7, by omega, by omega, (ixN_seq (show ixN us.length (n : Int) = some n by unfold ixN; rw [if_pos (by omega), if_pos (by omega), Int.toNat_natCast])).1, hg, ?_⟩
      have hvs8 : upd H7 b (.lst (us.eraseIdx n)) f = some (.lst vs) := by rw [upd_ne (Ne.symm hbf)]; exact hvs7
      refine ⟨f, vs, us[n], rfl, rfl, hvs8, ?_, ?_⟩
      · rw [sizeLine_eq]
        omega
      have i1 := im_lst (o := .lst (us.eraseIdx n)) hus7
      have i2 := im_lst (o := .lst (vs ++ [us[n]])) hvs8
      have w2 : W (fun a => a = d ∨ a = l ∨ a = b ∨ a = f) H' (upd (upd H7 b (.lst (us.eraseIdx n))) f (.lst (vs ++ [us[n]]))) := ((e4.w.trans (x7'.w (.inl rfl) (.inr (.inl rfl)))).trans (w_put i1 (.inr (.inr (.inl rfl))))).trans (w_put i2 (.inr (.inr (.inr rfl))))
      refine hN _ _ w2 ((((s4.mono x7'.im).mono i1).mono i2).wk (.s (.s (.s (.s (.n .nil)))))) ⟨((x7'.2.1.put (dd b hb0).1 (dd b hb0).2).put (dd f hfn).1 (dd f hfn).2), fun a ha => ?_, us.eraseIdx n, vs ++ [us[n]], ?_, upd_same, ?_, ?_, ?_⟩
      · have n1 : a ≠ f := fun z => by rw [z, upd_same] at ha; cases ha
        rw [upd_ne n1] at ha
        have n2 : a ≠ b := fun z => by rw [z, upd_same] at ha; cases ha
        rw [upd_ne n2] at ha
        exact bk a (e4.back (x7'.2.2.2 a ha))
      · rw [upd_ne hbf]
        exact upd_same
      · rw [List.length_eraseIdx_of_lt hn]
        omega
      · rw [List.length_append, hlen2]
        rfl
      · rw [List.append_assoc]
        exact (List.Perm.append_left vs (wperm_erase hg)).trans pm
    · obtain ⟨dl, bk, us, vs, hus, hvs, hlen, hlen2, pm⟩ := I
      have hu0 : us = [] := List.length_eq_zero_iff.mp (by omega)
      subst hu0
      rw [List.append_nil] at pm
      have hkeep : ∀ a o, a ≠ d → a ≠ l → H a = some o → H' a = some o := fun a o n1 n2 h => by
        have n3 : a ≠ b := ne_of_none h hn1
        have n4 : a ≠ f := ne_of_none h hfn
        refine w1.2 a o (fun z => ?_) (e3 _ _ (e2 _ _ h))
        rcases z with z | z | z | z
        · exact n1 z
        · exact n2 z
        · exact n3 z
        · exact n4 z
      have xx : Xd d l H H' := ⟨r.1, dl, hkeep, bk⟩
      refine s_ret (R := RE) (P := Pr.v (.ref f)) s4 (Ex.refl _) (ev_var (i := 3) rfl) fun v H5 e5 pv => ?_
      cases (show v = .ref f from pv)
      exact k _ _ (xx.trans (Xd.ofEx dl e5)) ⟨f, vs, rfl, hfn, e5 _ _ hvs, pm⟩⟩
end Sd

set_option Elab.async false
set_option linter.all false
set_option maxRecDepth 100000
set_option maxHeartbeats 2000000
/-! Sp9: the deal; depths; sizes. -/
namespace Sd
open PySem PySem.Spec PyProof.Rows L2
theorem vs_v {α : Type} {g : α → V} : ∀ {is : List α} {xs : List V} {H : Hp}, Vs (is.map fun i => Pr.v (g i)) xs H → xs = is.map g
  | [], _, _, h => by cases h; rfl
  | i :: is, _, _, h => by
    cases h with
    | cons a b => rw [show _ = g i from a, vs_v b, List.map_cons]
theorem kept_v {g : Nat → V} {n : Nat} {b : Nat → Bool} {xs : List V} {H : Hp} (h : Vs (kept n b fun i => Pr.v (g i)) xs H) : xs = ((List.range n).filter b).map g := vs_v h
theorem range_getD {α β : Type} (g : α → β) (xs : List α) (d : α) : (List.range xs.length).map (fun i => g (xs.getD i d)) = xs.map g := by
  apply List.ext_getElem
  · simp
  · intro i h1 h2
    simp only [List.getElem_map, List.getElem_range]
    rw [getD_of d (List.getElem?_eq_getElem (by simpa using h2))]
theorem filter_yes (n : Nat) : (List.range n).filter (fun _ => true) = List.range n := List.filter_eq_self.mpr fun _ _ => rfl
variable {P : Program} {w : World} {K : PySem.W.Frag} {mg : Str → Option Value} {base : Heap} {B : Adr}
def sp_l_deal (K : PySem.W.Frag) : Sp := spR 2 (fun _ : List Int => RE) (fun ns vs H => ns.length ≤ 50000 ∧ ∃ p, vs = [.ref p, .int 7] ∧ SqL K H p (ns.map V.int)) (fun _ v H H' => ∃ d l, v = .ref d ∧ H d = none ∧ H l = none ∧ Deal d l H')
theorem ev_abs {R : Rl} {env : Env'} {H : Hp} {ta : TE} {i : Int} (ha : Ev R ta env H (Pr.v (.int i))) : Ev R (tCB rAbs (tCons ta tNil)) env H (Pr.v (.int (if i < 0 then -i else i))) :=
  ev_cb (ea_cons ha ea_nil) fun vs H1 r1 pv Q q => by
    obtain ⟨x, rfl, px⟩ := vs1 pv
    rw [show x = .int i from px]
    exact ⟨i, rfl, q _ H1 (R.again r1) rfl⟩
section
variable {te : TE} {t tr : TA} {σ : L2.St} {H : Hp} {Q : VK} {Qs : List V → Hp → Prop} {D : Ends}
theorem run_ret (h : te σ H D.rt) : tRet te D σ H := h
theorem run_lst (h : t σ H fun xs H1 => xs.length ≤ sizeLine ∧ ∀ p, H1 p = none → Q (.ref p) (upd H1 p (.lst xs))) : tLst t σ H Q := h
theorem run_cons (h : te σ H fun x H1 => tr σ H1 fun xs H2 => Qs (x :: xs) H2) : tCons te tr σ H Qs := h
theorem run_rev (h : te σ H fun x H1 => ∃ a xs, x = .ref a ∧ SqL K H1 a xs ∧ ∀ p, H1 p = none → Q (.ref p) (upd H1 p (.lst xs.reverse))) : tRevL K te σ H Q := h
end
theorem ok_l_deal (T : Txt P K mg B) : FnOk P w K mg base CX0 1 B.a_l_deal B.d_l_deal ["_law_script", "_law_base"] (sp_l_deal K) :=
  T.F_l_deal.ok sc_l_deal (spR_len rfl) fun cdv A outer s H vs Q E hr h => ⟨_, der_l_deal T hr, by
    obtain ⟨_, ns, r, ⟨hl, p, rfl, hp⟩, k⟩ := h
    have hl' : ns.length ≤ 50000 := hl
    have s0 : Slots (start N_l_deal [V.ref p, V.int 7]) [some (Pr.v (.ref p)), some (Pr.v (.int 7)), none, none, none] H := start_slots (Ps := [Pr.v (.ref p), Pr.v (.int 7)]) (.cons rfl (.cons rfl .nil)) rfl
    have hcut : cut (ns.map V.int) none (some 63) = (ns.take 63).map V.int := by
      rw [show (63 : Int) = ((63 : Nat) : Int) from rfl, cut_to, List.map_take]
    -- the cells
    have hcells : EvL RE (tLc (iList K (tSl (rSlL K) (tVar 0) tNoPart (tPart (tC (.int 63))))) (gName 4) tYes (tCB rAbs (tCons (tCB rInt1 (tCons (tVar 4) tNil)) tNil)) [4]) [some (Pr.v (.ref p)), some (Pr.v (.int 7)), none, none, none] H (fun xs H' => Vs (kept (ns.take 63).length (fun _ => true) fun i => Pr.v (.int (if (ns.take 63).getD i 0 < 0 then -(ns.take 63).getD i 0 else (ns.take 63).getD i 0))) xs H') := by
      refine ev_lc (Iz := fun i => Pr.v (.int ((ns.take 63).getD i 0))) (n := (ns.take 63).length) (fun _ => true) _ ?_ (by rw [List.length_take]; omega) (fun i => [some (Pr.v (.ref p)), some (Pr.v (.int 7)), none, none, some (Pr.v (.int ((ns.take 63).getD i 0)))]) (fun i hi => tg_name (i := 4)) (wp_name (by simp)) (fun i hi => et_yes) fun i hi _ => ev_abs (ev_int1 (ev_var rfl))
      refine sr_listN (ev_slL (xs := ns.map V.int) (ev_var rfl) eo_none (eo_some ev_cv) fun H1 e => Ex.sql e hp) (fun xs H' c => ?_) fun xs i x H1 H' c hx e => ?_
      · rw [show xs = _ from c, hcut, List.length_map]
      · rw [show xs = _ from c, hcut, List.getElem?_map] at hx
        cases hz : (ns.take 63)[i]? with
        | none => rw [hz] at hx; cases hx
        | some z =>
          rw [hz] at hx
          cases hx
          show V.int z = _
          rw [getD_of 0 hz]
    refine q_asgL (R := RE) s0 (Ex.refl _) hcells fun c xs σ1 H1 e1 hc hc1 hxs s1 => ?_
    have hxs' := kept_v hxs
    rw [filter_yes, range_getD (fun i : Int => V.int (if i < 0 then -i else i))] at hxs'
    obtain ⟨cs, hcs, hcl⟩ : ∃ cs : List Int, xs = cs.map V.int ∧ cs.length ≤ 63 := ⟨(ns.take 63).map fun i => if i < 0 then -i else i, by rw [hxs', List.map_map]; rfl, by rw [List.length_map, List.length_take]; omega⟩
    subst hcs
    clear hxs hxs' hcells hcut
    refine q_asg (R := RE) (P := Pr.p fun v => ∃ m : Int, v = .int m) s1 (Ex.refl _) ((ev_I0 (i := 40093 * 7) (j := 877) (g := fun i j => .int (i + j)) (ev_I (C := CMul) (i := 40093) (j := 7) (g := fun i j => .int (i * j)) ev_cv (ev_var rfl) (.inr (by decide))) ev_cv).imp fun v H2 _ pv => ⟨_, pv⟩) fun σ2 H2 e2 s2 => ?_
    have hc2 := e2 _ _ hc1
    have sq := sq_list (K := K) (S := RE) (M := fun _ => False) (Iz := fun i => Pr.v (.int (cs.getD i 0))) (env := [some (Pr.v (.ref p)), some (Pr.v (.int 7)), some (Pr.v (.ref c)), some (Pr.p fun v => ∃ m : Int, v = .int m), none]) (H := H2) (ev_var (i := 2) rfl) (fun H' e => e _ _ hc2) (fun z => z) fun H3 e3 i x H' hx _ => by
      rw [List.getElem?_map] at hx
      cases hz : cs[i]? with
      | none => rw [hz] at hx; cases hx
      | some z =>
        rw [hz] at hx
        cases hx
        show V.int z = _
        rw [getD_of 0 hz]
    refine q_for sq s2 (Ex.refl _) [some (Pr.v (.ref p)), some (Pr.v (.int 7)), some (Pr.v (.ref c)), some (Pr.p fun v => ∃ m : Int, v = .int m), none] (.s (.s (.s (.s (.s .nil))))) (fun i => [some (Pr.v (.ref p)), some (Pr.v (.int 7)), some (Pr.v (.ref c)), some (Pr.p fun v => ∃ m : Int, v = .int m), some (Pr.v (.int (cs.getD i 0)))]) (fun i hi => tg_name (i := 4))
      (fun i H' => Ex H2 H') (fun H3 e3 => e3) (fun H3 e3 i σ' H' H4 hi w1 I e4 s4 N hN => ?_) fun H3 e3 σ' H' w1 s4 I => ?_
    · obtain ⟨v, ⟨m, rfl⟩, s5⟩ := s4.pin (i := 3) rfl
      refine s_asg (R := RE) (P := Pr.p fun v => ∃ m : Int, v = .int m) s5 (Ex.refl _) ((ev_I (C := fun _ j => 0 < j) (g := fun i j => .int (i % j)) (i := m * 48271 + cs.getD i 0 % 2147483579 + 59) (j := 2147483647) (ev_int1 (ev_I0 (i := m * 48271 + cs.getD i 0 % 2147483579) (j := 59) (g := fun i j => .int (i + j)) (ev_I0 (i := m * 48271) (j := cs.getD i 0 % 2147483579) (g := fun i j => .int (i + j)) (ev_I (C := CMul) (i := m) (j := 48271) (g := fun i j => .int (i * j)) (ev_var rfl) ev_cv (.inr (by decide))) (ev_I (C := fun _ j => 0 < j) (g := fun i j => .int (i % j)) (i := cs.getD i 0) (j := 2147483579) (ev_var rfl) ev_cv (by decide))) ev_cv)) ev_cv (by decide)).imp fun v H2 _ pv => ⟨_, pv⟩) fun σ5 H5 e5 s6 => ?_
      exact hN _ _ (e4.trans e5).w (s6.wk (.s (.s (.s (.s (.n .nil)))))) ((I.trans e4).trans e5)
    · have hc' := I _ _ hc2
      have hlc : EvL RE (tLc (iList K (tVar 2)) (gName 4) (tTest (tOp rGeI (tVar 4) (tOp rPowI (tC (.int 10)) (tC (.int 18))))) (tVar 4) [4]) [some (Pr.v (.ref p)), some (Pr.v (.int 7)), some (Pr.v (.ref c)), some (Pr.p fun v => ∃ m : Int, v = .int m), none] H' (fun xs H' => Vs (kept cs.length (fun i => decide ((1000000000000000000 : Int) ≤ cs.getD i 0)) fun i => Pr.v (.int (cs.getD i 0))) xs H') := by
        refine ev_lc (Iz := fun i => Pr.v (.int (cs.getD i 0))) (n := cs.length) _ _ ?_ (by omega) (fun i => [some (Pr.v (.ref p)), some (Pr.v (.int 7)), some (Pr.v (.ref c)), some (Pr.p fun v => ∃ m : Int, v = .int m), some (Pr.v (.int (cs.getD i 0)))]) (fun i hi => tg_name (i := 4)) (wp_name (by simp)) (fun i hi => et_test ?_) fun i hi _ => ev_var rfl
        · have q := sr_list (K := K) (R := RE) (Iz := fun i => Pr.v (.int (cs.getD i 0))) (env := [some (Pr.v (.ref p)), some (Pr.v (.int 7)), some (Pr.v (.ref c)), some (Pr.p fun v => ∃ m : Int, v = .int m), none]) (H := H') (xs := cs.map V.int) (ev_var (i := 2) rfl) (fun H4 e => .inl (.inl (e _ _ hc'))) fun i x H4 hx _ => by
            rw [List.getElem?_map] at hx
            cases hz : cs[i]? with
            | none => rw [hz] at hx; cases hx
            | some z =>
              rw [hz] at hx
              cases hx
              show V.int z = _
              rw [getD_of 0 hz]
          rw [List.length_map] at q
          exact q
        · exact ev_I0 (i := cs.getD i 0) (j := 1000000000000000000) (g := fun i j => .bl (decide (j ≤ i))) (ev_var rfl) (ev_I (C := CPow) (i := 10) (j := 18) (g := fun i j => .int (i ^ j.toNat)) ev_cv ev_cv ⟨by decide, by decide, by decide⟩)
      refine run_ret (run_lst (run_cons (run_rev ?_)))
      refine hlc σ' H' (Ex.refl _) s4 _ fun l0 xs H5 e5 hl0 hl5 hxs => ?_
      have hxs' := kept_v hxs
      obtain ⟨ds, hds, hdl⟩ : ∃ ds : List Int, xs = ds.map V.int ∧ ds.length ≤ 63 := ⟨((List.range cs.length).filter fun i => decide ((1000000000000000000 : Int) ≤ cs.getD i 0)).map fun i => cs.getD i 0, by rw [hxs', List.map_map]; rfl, by
        rw [List.length_map]
        have := List.length_filter_le (fun i => decide ((1000000000000000000 : Int) ≤ cs.getD i 0)) (List.range cs.length)
        rw [List.length_range] at this
        omega⟩
      subst hds
      refine ⟨l0, ds.map V.int, rfl, .inl (.inl hl5), fun l hl => ?_⟩
      have e6 := Ex.new (o := .lst (ds.map V.int).reverse) hl
      obtain ⟨v3, hv3, m, rfl⟩ := s4.2 3 _ rfl
      refine ⟨_, hv3, show 2 ≤ sizeLine by decide, fun d hd => ?_⟩
      have e7 := Ex.new (o := .lst [.ref l, .int m]) hd
      have e05 : Ex H H5 := (((e1.trans e2).trans I).trans e5)
      have e06 := e05.trans e6
      have hdl2 : d ≠ l := fun z => by
        rw [z, upd_same] at hd
        cases hd
      refine k _ _ (e06.trans e7) ⟨d, l, rfl, e06.back hd, e05.back hl, hdl2, ds.reverse, m, by rw [List.length_reverse]; exact hdl, upd_same, ?_⟩
      rw [upd_ne (Ne.symm hdl2), upd_same, List.map_reverse]⟩
end Sd

set_option Elab.async false
set_option linter.all false
set_option maxRecDepth 100000
set_option maxHeartbeats 2000000
/-! Sp10: loops whose slots are bound anew; depths; sizes. -/
namespace Sd
open PySem PySem.Spec PyProof.Rows L2
section
variable {S : Rl} {M : Addr → Prop} {σ : L2.St} {env : Env'} {H : Hp} {wi : TI} {g : TG} {tb z : TS} {D : Ends} {n : Nat} {Iz : Nat → Pr}
theorem s_forA {α : Type} (hs : Sq S M wi env H n Iz) (s : Slots σ env H) (r : S.r H H) (env' : α → Env') (env1 : Nat → α → Env') (hg : ∀ i x, i < n → Tg RE g (env' x) (Iz i) (env1 i x))
    (I : Nat → α → Hp → Prop) (x0 : α) (we : WkE (env' x0) env) (h0 : ∀ H1, S.r H H1 → I 0 x0 H1)
    (hb : ∀ H1, S.r H H1 → ∀ (i : Nat) (x : α) (σ' : L2.St) (H' H2 : Hp), i < n → W M H1 H' → I i x H' → Ex H' H2 → Slots σ' (env1 i x) H2 → ∀ N : L2.St → Hp → Prop, (∀ y σ3 H3, W M H' H3 → Slots σ3 (env' y) H3 → I (i + 1) y H3 → N σ3 H3) → tb { D with nx := N, ct := N, bk := D.nx } σ' H2)
    (hd : ∀ H1, S.r H H1 → ∀ x σ' H', W M H1 H' → Slots σ' (env' x) H' → I n x H' → D.nx σ' H') : tFor wi g tb D σ H :=
  hs σ H r s _ fun J G H1 r1 w hG => by
    refine for_it w (fun i σ' H' => W M H1 H' ∧ ∃ x, Slots σ' (env' x) H' ∧ I i x H') ⟨W.refl _, x0, (s.mono (S.im r1)).wk we, h0 H1 r1⟩ (fun i σ' H' _ p => hG H' p.1) (fun i v σ' H' H2 hi p y => ?_) fun σ' H' p => by
      obtain ⟨p1, x, p2, p3⟩ := p
      exact hd H1 r1 x σ' H' p1 p2 p3
    obtain ⟨e, px⟩ := y
    obtain ⟨p1, x, p2, p3⟩ := p
    refine hg i x hi σ' H2 v (Ex.refl _) (p2.mono e.im) px _ fun σ2 s2 => ?_
    exact hb H1 r1 i x σ2 H' H2 hi p1 p3 e s2 _ fun y σ3 H3 w3 s3 i3 => ⟨p1.trans w3, y, s3, i3⟩
theorem q_forA {α : Type} (hs : Sq S M wi env H n Iz) (s : Slots σ env H) (r : S.r H H) (env' : α → Env') (env1 : Nat → α → Env') (hg : ∀ i x, i < n → Tg RE g (env' x) (Iz i) (env1 i x))
    (I : Nat → α → Hp → Prop) (x0 : α) (we : WkE (env' x0) env) (h0 : ∀ H1, S.r H H1 → I 0 x0 H1)
    (hb : ∀ H1, S.r H H1 → ∀ (i : Nat) (x : α) (σ' : L2.St) (H' H2 : Hp), i < n → W M H1 H' → I i x H' → Ex H' H2 → Slots σ' (env1 i x) H2 → ∀ N : L2.St → Hp → Prop, (∀ y σ3 H3, W M H' H3 → Slots σ3 (env' y) H3 → I (i + 1) y H3 → N σ3 H3) → tb { D with nx := N, ct := N, bk := z D } σ' H2)
    (hd : ∀ H1, S.r H H1 → ∀ x σ' H', W M H1 H' → Slots σ' (env' x) H' → I n x H' → z D σ' H') : tSeq (tFor wi g tb) z D σ H :=
  s_forA (D := { D with nx := z D }) hs s r env' env1 hg I x0 we h0 hb hd
/-- nothing is written -/
theorem W.ex {H H' : Hp} (w : W (fun _ => False) H H') : Ex H H' := fun a o h => w.2 a o (fun z => z) h
end
variable {P : Program} {w : World} {K : PySem.W.Frag} {mg : Str → Option Value} {base : Heap} {B : Adr}
def intL (ns : List Nat) : List V := ns.map fun (n : Nat) => V.int (n : Int)
def sp_l_depths (K : PySem.W.Frag) : Sp := spR 2 (fun _ : List Nat × Nat => RE) (fun a vs H => (a.2 ≤ a.1.sum ∧ a.1.length ≤ 50000) ∧ ∃ v, vs = [v, .int (a.2 : Nat)] ∧ Tp K H (iD a.1) v) (fun a v H H' => ∃ p, v = .ref p ∧ H p = none ∧ H' p = some (.lst (intL (dps a.1 a.2))))
theorem hs_items {hs : List Nat} {i : Nat} {d : PyData} (h : (hs.map fun (n : Nat) => PyData.int (n : Int))[i]? = some d) : d = PyData.int (hs.getD i 0 : Nat) := by
  obtain ⟨m, hm, rfl⟩ := iD_get h
  rw [getD_of 0 hm]
theorem ok_l_depths (T : Txt P K mg B) : FnOk P w K mg base CX0 1 B.a_l_depths B.d_l_depths ["_law_heights_here", "_law_boxes"] (sp_l_depths K) :=
  T.F_l_depths.ok sc_l_depths (spR_len rfl) fun cdv A outer s H vs Q E hr h => ⟨_, der_l_depths T hr, by
    obtain ⟨_, ⟨hs, n⟩, r, ⟨⟨hn, hl⟩, v, rfl, hv⟩, k⟩ := h
    have hn' : n ≤ hs.sum := hn
    have hl' : hs.length ≤ 50000 := hl
    have s0 : Slots (start N_l_depths [v, V.int (n : Nat)]) [some (Pr.d K (iD hs)), some (Pr.v (.int (n : Nat))), none, none] H := start_slots (Ps := [Pr.d K (iD hs), Pr.v (.int (n : Nat))]) (.cons hv (.cons rfl .nil)) rfl
    refine q_asg (R := RE) s0 (Ex.refl _) (ev_I0 (g := fun i j => .int (i - j)) (ev_sumI (ev_var rfl)) (ev_var rfl)) fun σ2 H2 e2 s2 => ?_
    have q := sr_tup (R := RE) (K := K) (Iz := fun i => Pr.d K (.int (hs.getD i 0 : Nat))) (ev_var (i := 0) rfl : Ev RE (tVar 0) [some (Pr.d K (iD hs)), some (Pr.v (.int (n : Nat))), some (Pr.v (.int (((hs.sum : Nat) : Int) - (n : Nat)))), none] H2 (Pr.d K (iD hs))) fun i d h => by rw [hs_items h]
    rw [List.length_map] at q
    refine s_retL (R := RE) s2 (Ex.refl _) (ev_lc (fun _ => true) (fun i => Pr.v (.int (hs.getD i 0 - (hs.sum - n) : Nat))) q hl' (fun i => [some (Pr.d K (iD hs)), some (Pr.v (.int (n : Nat))), some (Pr.v (.int (((hs.sum : Nat) : Int) - (n : Nat)))), some (Pr.d K (.int (hs.getD i 0 : Nat)))]) (fun i hi => tg_name (i := 3)) (wp_name (by simp)) (fun i hi => et_yes) fun i hi _ => ?_) fun p xs H3 e3 hp hp3 c => k _ _ (e2.trans e3) ⟨p, rfl, e2.back hp, ?_⟩
    · refine ev_if (b := decide (((hs.sum : Nat) : Int) - (n : Nat) < (hs.getD i 0 : Nat))) (et_test (ev_I0 (g := fun i j => .bl (decide (j < i))) (ev_int_v (K := K) (ev_var rfl)) (ev_var rfl))) (fun hb => ?_) fun hb => ?_
      · have hb' := of_decide_eq_true hb
        have q := ev_I0 (R := RE) (env := [some (Pr.d K (iD hs)), some (Pr.v (.int (n : Nat))), some (Pr.v (.int (((hs.sum : Nat) : Int) - (n : Nat)))), some (Pr.d K (.int (hs.getD i 0 : Nat)))]) (H := H2) (g := fun i j => .int (i - j)) (ev_int_v (K := K) (ev_var (i := 3) rfl)) (ev_var (i := 2) (P := Pr.v (.int (((hs.sum : Nat) : Int) - (n : Nat)))) rfl)
        have e : ((hs.getD i 0 : Nat) : Int) - (((hs.sum : Nat) : Int) - (n : Nat)) = ((hs.getD i 0 - (hs.sum - n) : Nat) : Int) := by omega
        rw [e] at q
        exact q
      · have hb' := of_decide_eq_false hb
        have e : ((hs.getD i 0 - (hs.sum - n) : Nat) : Int) = 0 := by omega
        rw [e]
        exact ev_cv
    · have hc := kept_v c
      rw [filter_yes, range_getD (fun h : Nat => V.int (h - (hs.sum - n) : Nat))] at hc
      rw [hp3, hc]
      unfold intL dps
      rw [List.map_map]
      rfl⟩
/-! ### sizes -/
def waysStep (ws : List Int) (room n : Nat) : List Int := (List.range (n + 1)).map fun at_ => ((ws.drop (at_ - room)).take (at_ + 1 - (at_ - room))).sum
def waysM (hs : List Nat) (n : Nat) : List Int := hs.foldl (fun ws r => waysStep ws r n) (1 :: List.replicate n 0)
def facM : Nat → Int
  | 0 => 1
  | i + 1 => facM i * (2 + (i : Nat))
def sizeM (hs : List Nat) (n : Nat) : Int := (waysM hs n).getD n 0 * facM (n - 1)
theorem ways_len (n : Nat) : ∀ (hs : List Nat), (waysM hs n).length = n + 1 := by
  intro hs
  unfold waysM
  have key : ∀ (hs : List Nat) (ws : List Int), ws.length = n + 1 → (hs.foldl (fun ws r => waysStep ws r n) ws).length = n + 1 := by
    intro hs
    induction hs with
    | nil => intro ws h; exact h
    | cons a l ih =>
      intro ws _
      exact ih _ (by simp [waysStep])
  exact key hs _ (by simp)
theorem ways_snoc (hs : List Nat) (i n : Nat) (hi : i < hs.length) : waysM (hs.take (i + 1)) n = waysStep (waysM (hs.take i) n) (hs.getD i 0) n := by
  unfold waysM
  rw [List.take_add_one, List.getElem?_eq_getElem hi, List.foldl_append, getD_of 0 (List.getElem?_eq_getElem hi)]
  rfl
theorem ev_lcat {R : Rl} {env : Env'} {H : Hp} {ta tb : TE} {C C' : List V → Hp → Prop} {C2 : List V → Hp → Prop} (ha : EvL R ta env H C) (hb : EvL R tb env H C') (hl : ∀ xs ys H1 H2, C xs H1 → C' ys H2 → xs.length + ys.length ≤ 100000 ∧ ∀ H3, R.r H1 H2 → R.r H2 H3 → C2 (xs ++ ys) H3) : EvL R (tOp rCat ta tb) env H C2 := fun σ H1 r1 s Q q =>
  ha σ H1 r1 s _ fun p xs H2 r2 n2 e2 c2 => hb σ H2 (R.trans r1 r2) (s.mono (R.im r2)) _ fun p' ys H3 r3 n3 e3 c3 => by
    have np := R.live r1 n2
    have hpp := R.keep r3 np e2
    obtain ⟨h1, h2⟩ := hl xs ys H2 H3 c2 c3
    refine ⟨p, p', xs, ys, rfl, rfl, hpp, e3, Nat.le_trans h1 (by decide), fun a ha => ?_⟩
    have r23 := R.trans r2 r3
    have r4 := R.new (o := .lst (xs ++ ys)) r23 ha
    exact q a (xs ++ ys) _ (R.trans r23 r4) (R.back r23 ha) upd_same (h2 _ r3 r4)
theorem ev_rep {R : Rl} {env : Env'} {H : Hp} {ta tb : TE} {C : List V → Hp → Prop} {C2 : List V → Hp → Prop} {k : Int} (ha : EvL R ta env H C) (hb : Ev R tb env H (Pr.v (.int k))) (hk : k ≤ 10000) (hk0 : 0 ≤ k) (hl : ∀ xs H1, C xs H1 → xs.length ≤ 10 ∧ ∀ H3, R.r H1 H3 → C2 (List.replicate k.toNat xs).flatten H3) : EvL R (tOp rRep ta tb) env H C2 := fun σ H1 r1 s Q q =>
  ha σ H1 r1 s _ fun p xs H2 r2 n2 e2 c2 => hb σ H2 (R.trans r1 r2) (s.mono (R.im r2)) _ fun v H3 r3 pv => by
    cases (show v = .int k from pv)
    have np := R.live r1 n2
    have hpp := R.keep r3 np e2
    obtain ⟨h1, h2⟩ := hl xs H2 c2
    refine ⟨p, k, xs, rfl, rfl, hpp, by omega, by omega, ?_, fun a ha => ?_⟩
    · rw [sizeLine_eq]
      have : xs.length * k.toNat ≤ 10 * 10000 := Nat.mul_le_mul h1 (by omega)
      omega
    · have r23 := R.trans r2 r3
      have r4 := R.new (o := .lst (List.replicate k.toNat xs).flatten) r23 ha
      exact q a _ _ (R.trans r23 r4) (R.back r23 ha) upd_same (h2 _ (R.trans r3 r4))
theorem rep_one {α : Type} (k : Nat) (x : α) : (List.replicate k [x]).flatten = List.replicate k x := by
  induction k with
  | zero => rfl
  | succ k ih => rw [List.replicate_succ, List.flatten_cons, ih]; rfl
theorem ev_rep1 {R : Rl} {env : Env'} {H : Hp} {tb te : TE} {P : Pr} {k : Nat} (ha : Ev R te env H P) (hb : Ev R tb env H (Pr.v (.int (k : Nat)))) (hk : k ≤ 10000) : EvL R (tOp rRep (tLst (tCons te tNil)) tb) env H (fun xs H1 => ∃ x, P.P x H1 ∧ xs = List.replicate k x) := by
  refine ev_rep (ev_lst (ea_cons ha ea_nil) (show 1 ≤ 100000 by decide)) hb (by omega) (by omega) fun xs H1 c => ?_
  obtain ⟨x, rfl, px⟩ := vs1 c
  refine ⟨show 1 ≤ 10 by decide, fun H3 r => ⟨x, P.mo (R.im r) px, ?_⟩⟩
  rw [Int.toNat_natCast, rep_one]
def sp_l_size (K : PySem.W.Frag) : Sp := spR 2 (fun _ : List Nat × Nat => RE) (fun a vs H => (a.1.length ≤ 1000 ∧ a.2 ≤ 1000) ∧ ∃ v, vs = [v, .int (a.2 : Nat)] ∧ Tp K H (iD a.1) v) (fun a v _ _ => v = .int (sizeM a.1 a.2))
theorem ok_l_size (T : Txt P K mg B) : FnOk P w K mg base CX0 1 B.a_l_size B.d_l_size ["_law_rooms", "_law_many"] (sp_l_size K) :=
  T.F_l_size.ok sc_l_size (spR_len rfl) fun cdv A outer s H vs Q E hr h => ⟨_, der_l_size T hr, by
    obtain ⟨_, ⟨hs, n⟩, r, ⟨⟨hl, hn⟩, v, rfl, hv⟩, k⟩ := h
    have hn' : n ≤ 1000 := hn
    have hl' : hs.length ≤ 1000 := hl
    have s0 : Slots (start N_l_size [v, V.int (n : Nat)]) [some (Pr.d K (iD hs)), some (Pr.v (.int (n : Nat))), none, none, none, none, none] H := start_slots (Ps := [Pr.d K (iD hs), Pr.v (.int (n : Nat))]) (.cons hv (.cons rfl .nil)) rfl
    refine q_asgL (R := RE) (C := fun xs _ => xs = ((1 :: List.replicate n 0 : List Int)).map V.int) s0 (Ex.refl _) (ev_lcat (ev_lst (ea_cons (P := Pr.v (.int 1)) ev_cv ea_nil) (show 1 ≤ 100000 by decide)) (ev_rep1 (P := Pr.v (.int 0)) ev_cv (ev_var rfl) (by omega)) fun xs ys H1 H2 c1 c2 => ?_) fun p0 xs σ1 H1 e1 hp hp1 hxs s1 => ?_
    · obtain ⟨x, rfl, px⟩ := vs1 c1
      obtain ⟨y, py, rfl⟩ := c2
      refine ⟨by rw [List.length_replicate, List.length_singleton]; omega, fun _ _ _ => ?_⟩
      rw [show x = .int 1 from px, show y = .int 0 from py, List.map_cons, List.map_replicate]
      rfl
    · subst hxs
      have sq := sq_tup (K := K) (S := RE) (M := fun _ => False) (Iz := fun i => Pr.d K (.int (hs.getD i 0 : Nat))) (env := [some (Pr.d K (iD hs)), some (Pr.v (.int (n : Nat))), some (Pr.v (.ref p0)), none, none, none, none]) (H := H1) (ev_var (i := 0) (P := Pr.d K (iD hs)) rfl) fun i d h => by rw [hs_items h]
      rw [List.length_map] at sq
      refine q_forA (α := Addr) sq s1 (Ex.refl _) (fun p => [some (Pr.d K (iD hs)), some (Pr.v (.int (n : Nat))), some (Pr.v (.ref p)), none, none, none, none]) (fun i p => [some (Pr.d K (iD hs)), some (Pr.v (.int (n : Nat))), some (Pr.v (.ref p)), some (Pr.d K (.int (hs.getD i 0 : Nat))), none, none, none]) (fun i p hi => tg_name (i := 3))
        (fun i p H' => Ex H H' ∧ H' p = some (.lst ((waysM (hs.take i) n).map V.int))) p0 (.s (.s (.s (.s (.s (.s (.s .nil))))))) (fun H2 e2 => ⟨e1.trans e2, e2 _ _ hp1⟩) (fun H2 e2 i p σ' H' H3 hi w1 I e3 s3 N hN => ?_) fun H2 e2 p σ' H' w1 s3 I => ?_
      · have hp3 := e3 _ _ I.2
        have hwl := ways_len n (hs.take i)
        have hwn := ways_snoc hs i n hi
        generalize waysM (hs.take i) n = ws at *
        refine s_asgL (R := RE) s3 (Ex.refl _) (ev_lc (Iz := fun j => Pr.v (.int (j : Nat))) (n := n + 1) (fun _ => true) (fun j => Pr.v (.int ((ws.drop (j - hs.getD i 0)).take (j + 1 - (j - hs.getD i 0))).sum)) ?_ (by omega) (fun j => [some (Pr.d K (iD hs)), some (Pr.v (.int (n : Nat))), some (Pr.v (.ref p)), some (Pr.d K (.int (hs.getD i 0 : Nat))), none, none, some (Pr.v (.int (j : Nat)))]) (fun i hi => tg_name (i := 6)) (wp_name (by simp)) (fun i hi => et_yes) fun j hj _ => ?_) fun p4 xs σ4 H4 e4 hn4 hp4 c s4 => ?_
        · have q := sr_rng1 (R := RE) (env := [some (Pr.d K (iD hs)), some (Pr.v (.int (n : Nat))), some (Pr.v (.ref p)), some (Pr.d K (.int (hs.getD i 0 : Nat))), none, none, none]) (H := H3) (ev_I0 (i := (n : Nat)) (j := 1) (g := fun i j => .int (i + j)) (ev_var (i := 1) rfl) (ev_cv (v := .int 1))) (by omega) (by omega)
          rw [show ((n : Int) + 1).toNat = n + 1 by omega] at q
          exact q
        · refine ev_sumN (C := fun xs _ => xs = cut (ws.map V.int) (some ((j - hs.getD i 0 : Nat) : Int)) (some ((j + 1 : Nat) : Int))) (ev_slL (ev_var (i := 2) rfl) (eo_some ?_) (eo_some ?_) fun H5 e5 => .inl (.inl (e5 _ _ hp3))) fun xs H5 c => ?_
          · have q := ev_max2 (R := RE) (env := [some (Pr.d K (iD hs)), some (Pr.v (.int (n : Nat))), some (Pr.v (.ref p)), some (Pr.d K (.int (hs.getD i 0 : Nat))), none, none, some (Pr.v (.int (j : Nat)))]) (H := H3) (ev_cv (v := .int 0)) (ev_I0 (i := (j : Nat)) (g := fun i j => .int (i - j)) (ev_var (i := 6) rfl) (ev_int_v (K := K) (i := (hs.getD i 0 : Nat)) (ev_var (i := 3) rfl)))
            rw [show max (0 : Int) (((j : Nat) : Int) - (hs.getD i 0 : Nat)) = ((j - hs.getD i 0 : Nat) : Int) by omega] at q
            exact q
          · have q := ev_I0 (R := RE) (env := [some (Pr.d K (iD hs)), some (Pr.v (.int (n : Nat))), some (Pr.v (.ref p)), some (Pr.d K (.int (hs.getD i 0 : Nat))), none, none, some (Pr.v (.int (j : Nat)))]) (H := H3) (i := (j : Nat)) (j := 1) (g := fun i j => .int (i + j)) (ev_var (i := 6) rfl) (ev_cv (v := .int 1))
            exact q
          · rw [show xs = _ from c, cut_from_to _ _ _ (by rw [List.length_map]; omega), ← List.map_drop, ← List.map_take]
        · have hc := kept_v c
          rw [filter_yes] at hc
          refine hN p4 σ4 H4 (e3.trans e4).w (s4.wk (.s (.s (.s (.n (.s (.s (.s .nil)))))))) ⟨(I.1.trans e3).trans e4, ?_⟩
          rw [hp4, hc, hwn]
          unfold waysStep
          rw [List.map_map]
          rfl
      · have hpn := I.2
        rw [List.take_of_length_le (Nat.le_refl _)] at hpn
        have hwl := ways_len n hs
        have hg : (waysM hs n)[n]? = some ((waysM hs n).getD n 0) := by
          rw [List.getD_eq_getElem?_getD, List.getElem?_eq_getElem (by omega)]
          rfl
        refine q_asg (R := RE) (P := Pr.v (.int ((waysM hs n).getD n 0))) s3 (Ex.refl _) (ev_ixL (x := .int ((waysM hs n).getD n 0)) (i := (n : Nat)) (ev_var (i := 2) rfl) (ev_var (i := 1) rfl) (fun H5 e5 => .inl (.inl (e5 _ _ hpn))) (L2.atI_nat (by rw [List.getElem?_map, hg]; rfl)) fun _ _ => rfl) fun σ4 H4 e4 s4 => ?_
        have sq2 := sq_rng2 (S := RE) (M := fun _ => False) (env := [some (Pr.d K (iD hs)), some (Pr.v (.int (n : Nat))), some (Pr.v (.ref p)), none, some (Pr.v (.int ((waysM hs n).getD n 0))), none, none]) (H := H4) (ev_cv (v := .int 2)) (ev_I0 (i := (n : Nat)) (j := 1) (g := fun i j => .int (i + j)) (ev_var (i := 1) rfl) (ev_cv (v := .int 1))) (by omega) (by omega)
        rw [show (((n : Nat) : Int) + 1 - 2).toNat = n - 1 by omega] at sq2
        refine q_forA (α := Int) sq2 s4 (Ex.refl _) (fun m => [some (Pr.d K (iD hs)), some (Pr.v (.int (n : Nat))), some (Pr.v (.ref p)), none, some (Pr.v (.int m)), none, none]) (fun i m => [some (Pr.d K (iD hs)), some (Pr.v (.int (n : Nat))), some (Pr.v (.ref p)), none, some (Pr.v (.int m)), some (Pr.v (.int (2 + (i : Nat)))), none]) (fun i p hi => tg_name (i := 5))
          (fun i m H' => Ex H H' ∧ m = (waysM hs n).getD n 0 * facM i) ((waysM hs n).getD n 0) (.s (.s (.s (.s (.s (.s (.s .nil))))))) (fun H5 e5 => ⟨(I.1.trans e4).trans e5, by show _ = _ * (1 : Int); rw [Int.mul_one]⟩) (fun H5 e5 i m σ' H' H6 hi w1 I e6 s6 N hN => ?_) fun H5 e5 m σ' H' w1 s6 I => ?_
        · obtain ⟨v4, hv4, pv4⟩ := s6.2 4 _ rfl
          cases (show v4 = .int m from pv4)
          refine ⟨_, hv4, ?_⟩
          refine ev_var (R := RE) (i := 5) (P := Pr.v (.int (2 + (i : Nat)))) (env := [some (Pr.d K (iD hs)), some (Pr.v (.int (n : Nat))), some (Pr.v (.ref p)), none, some (Pr.v (.int m)), some (Pr.v (.int (2 + (i : Nat)))), none]) rfl σ' H6 (Ex.refl _) s6 _ fun y H7 e7 py => ?_
          cases (show y = .int (2 + (i : Nat)) from py)
          refine ⟨m, 2 + (i : Nat), rfl, rfl, .inr ⟨by omega, by omega⟩, ?_⟩
          refine hN (m * (2 + (i : Nat))) _ _ (e6.trans e7).w (((s6.mono e7.im).set (i := 4) (P := Pr.v (.int (m * (2 + (i : Nat))))) rfl).wk (.s (.s (.s (.s (.s (.n (.s .nil)))))))) ⟨(I.1.trans e6).trans e7, ?_⟩
          rw [I.2, Int.mul_assoc]
          rfl
        · refine s_ret (R := RE) (P := Pr.v (.int m)) s6 (Ex.refl _) (ev_var (i := 4) rfl) fun v H7 e7 pv => k v H7 (I.1.trans e7) ?_
          rw [show v = .int m from pv, I.2]
          rfl⟩
end Sd

set_option Elab.async false
set_option linter.all false
set_option maxRecDepth 100000
set_option maxHeartbeats 2000000
/-! Sp11: heights, standings filled. -/
namespace Sd
open PySem PySem.Spec PyProof.Rows L2
section
variable {R : Rl} {σ : L2.St} {env : Env'} {H : Hp} {ta : TA} {A B C : Pr} {D : Ends} {t z : TS} {i j l : Nat}
theorem q_par (s : Slots σ env H) (r : R.r H H) (h : EvA R ta env H [A, B]) (k : ∀ σ' H1, R.r H H1 → Slots σ' ((env.set i (some A)).set j (some B)) H1 → z D σ' H1) : tSeq (tPar i j ta) z D σ H :=
  h σ H r s _ fun vs H1 r1 pv => by
    obtain ⟨x, y, rfl, px, py⟩ := vs2 pv
    exact ⟨x, y, rfl, k _ H1 r1 (((s.mono (R.im r1)).set px).set py)⟩
theorem q_par3 (s : Slots σ env H) (r : R.r H H) (h : EvA R ta env H [A, B, C]) (k : ∀ σ' H1, R.r H H1 → Slots σ' (((env.set i (some A)).set j (some B)).set l (some C)) H1 → z D σ' H1) : tSeq (tPar3 i j l ta) z D σ H :=
  h σ H r s _ fun vs H1 r1 pv => by
    obtain ⟨x, y, u, rfl, px, py, pu⟩ := vs3 pv
    exact ⟨x, y, u, rfl, k _ H1 r1 ((((s.mono (R.im r1)).set px).set py).set pu)⟩
theorem q_via (Post : L2.St → Hp → Prop) (h : ∀ N : L2.St → Hp → Prop, (∀ σ' H', Post σ' H' → N σ' H') → t { D with nx := N } σ H) (k : ∀ σ' H', Post σ' H' → z D σ' H') : tSeq t z D σ H := h _ k
end
theorem kept_nats {Q : Nat → Prop} : ∀ {n : Nat} {xs : List V} {H : Hp}, Vs (kept n (fun _ => true) fun _ => Pr.p fun v => ∃ h : Nat, v = .int (h : Nat) ∧ Q h) xs H → ∃ hs : List Nat, xs = intL hs ∧ hs.length = n ∧ ∀ h ∈ hs, Q h := by
  intro n xs H h
  rw [kept_all] at h
  have key : ∀ (is : List Nat) (xs : List V), Vs (is.map fun _ => Pr.p fun v => ∃ h : Nat, v = .int (h : Nat) ∧ Q h) xs H → ∃ hs : List Nat, xs = intL hs ∧ hs.length = is.length ∧ ∀ h ∈ hs, Q h := by
    intro is
    induction is with
    | nil =>
      intro xs h
      cases h
      exact ⟨[], rfl, rfl, fun _ z => by simp at z⟩
    | cons a is ih =>
      intro xs h
      cases h with
      | cons q t =>
        obtain ⟨m, rfl, hm⟩ := q
        obtain ⟨hs, rfl, h2, h3⟩ := ih _ t
        refine ⟨m :: hs, rfl, by simp [h2], fun h hh => ?_⟩
        rcases List.mem_cons.mp hh with rfl | hh
        · exact hm
        · exact h3 h hh
  have q := key _ _ h
  rw [List.length_range] at q
  exact q
theorem intL_len (hs : List Nat) : (intL hs).length = hs.length := List.length_map ..
theorem intL_int (hs : List Nat) : intL hs = (hs.map fun (n : Nat) => (n : Int)).map V.int := by
  unfold intL
  rw [List.map_map]
  rfl
theorem sum_le3 : ∀ (hs : List Nat), (∀ h ∈ hs, 1 ≤ h ∧ h ≤ 3) → hs.sum ≤ 3 * hs.length
  | [], _ => Nat.le_refl _
  | h :: hs, k => by
    have h1 := k h List.mem_cons_self
    have h2 := sum_le3 hs fun x hx => k x (List.mem_cons_of_mem _ hx)
    simp only [List.sum_cons, List.length_cons]
    omega
variable {P : Program} {w : World} {K : PySem.W.Frag} {mg : Str → Option Value} {base : Heap} {B : Adr}
/-- heights of 1 to 3, 3 or 4 of them -/
def H13 (hs : List Nat) : Prop := (hs.length = 3 ∨ hs.length = 4) ∧ ∀ h ∈ hs, 1 ≤ h ∧ h ≤ 3
def sp_l_heights (K : PySem.W.Frag) : Sp := spR 4 (fun a : Addr × Addr => RX a.1 a.2) (fun a vs H => ∃ p, vs = [.ref a.1, .ref p, .int 3, .int 12] ∧ (p ≠ a.1 ∧ p ≠ a.2) ∧ H p = some (.lst [.int 3, .int 3, .int 4])) (fun a v _ H' => ∃ hs, H13 hs ∧ Tp K H' (iD hs) v)
theorem ok_l_heights (T : Txt P K mg B) : FnOk P w K mg base CX0 3 B.a_l_heights B.d_l_heights ["_law_deal_here", "_law_sizes", "_law_tall", "_law_most"] (sp_l_heights K) :=
  T.F_l_heights.ok sc_l_heights (spR_len rfl) fun cdv A outer s H vs Q E hr h => ⟨_, der_l_heights T (ok_l_any T) (ok_l_of T) hr, by
    obtain ⟨_, ⟨d, l⟩, r, ⟨p, rfl, hne, hp⟩, k⟩ := h
    have hne' : p ≠ d ∧ p ≠ l := hne
    have s0 : Slots (start N_l_heights [V.ref d, V.ref p, V.int 3, V.int 12]) [some (Pr.v (.ref d)), some (Pr.v (.ref p)), some (Pr.v (.int 3)), some (Pr.v (.int 12)), none, none, none, none] H := start_slots (Ps := [Pr.v (.ref d), Pr.v (.ref p), Pr.v (.int 3), Pr.v (.int 12)]) (.cons rfl (.cons rfl (.cons rfl (.cons rfl .nil)))) rfl
    refine q_par (R := RX d l) (A := Pr.p fun v => ∃ m : Nat, v = .int (m : Nat) ∧ (m = 3 ∨ m = 4)) (B := Pr.p fun v => ∃ r : Int, v = .int r ∧ 0 ≤ r ∧ r < 5) s0 r (ea_cons (ev_l_of (A := Pr.v (.ref p)) [.int 3, .int 3, .int 4] (ev_var rfl) (ev_var rfl) (fun v H1 x pv => .inl ⟨p, pv, hne', x.2.2.1 _ _ hne'.1 hne'.2 hp⟩) (show 0 < 3 by decide) (show 3 ≤ 100000 by decide) fun v H1 _ hv => ?_) (ea_cons (ev_l_any (ev_var rfl) ev_cv (by decide) (by decide)) ea_nil)) fun σ1 H1 r1 s1 => ?_
    · simp only [List.mem_cons, List.not_mem_nil, or_false] at hv
      rcases hv with rfl | rfl | rfl
      · exact ⟨3, rfl, .inl rfl⟩
      · exact ⟨3, rfl, .inl rfl⟩
      · exact ⟨4, rfl, .inr rfl⟩
    have s2 := s1
    obtain ⟨v4, ⟨m, rfl, hm⟩, s2⟩ := s2.pin (i := 4) rfl
    obtain ⟨v5, ⟨f, rfl, hf⟩, s2⟩ := s2.pin (i := 5) rfl
    have x1 : Xd d l H H1 := r1
    have hm4 : m ≤ 4 := by omega
    let en : Addr → Env' := fun p' => [some (Pr.v (.ref d)), some (Pr.v (.ref p)), some (Pr.v (.int 3)), some (Pr.v (.int 12)), some (Pr.v (.int (m : Nat))), some (Pr.v (.int f)), some (Pr.v (.ref p')), none]
    let HP : L2.St → Hp → Prop := fun σ' H' => ∃ p' hs', Slots σ' (en p') H' ∧ H' p' = some (.lst (intL hs')) ∧ hs'.length = m ∧ (∀ h ∈ hs', 1 ≤ h ∧ h ≤ 3) ∧ Xd d l H H' ∧ H p' = none
    have dn : ∀ c, H c = none → c ≠ d ∧ c ≠ l := fun c hc => ⟨fun z => r.1.d_some (z ▸ hc), fun z => r.1.l_some (z ▸ hc)⟩
    refine q_via HP (fun N hN => ?_) fun σ2 H2 hp2 => ?_
    · have q := sr_rng1 (R := RX d l) (env := [some (Pr.v (.ref d)), some (Pr.v (.ref p)), some (Pr.v (.int 3)), some (Pr.v (.int 12)), some (Pr.v (.int (m : Nat))), some (Pr.v (.int f)), none, none]) (H := H1) (ev_var (i := 4) (P := Pr.v (.int (m : Nat))) rfl) (by omega) (by omega)
      rw [Int.toNat_natCast] at q
      refine s_asgL (R := RX d l) s2 ((RX d l).again r1) (ev_lc (fun _ => true) (fun _ => Pr.p fun v => ∃ h : Nat, v = .int (h : Nat) ∧ (1 ≤ h ∧ h ≤ 3)) q (by omega) (fun i => [some (Pr.v (.ref d)), some (Pr.v (.ref p)), some (Pr.v (.int 3)), some (Pr.v (.int 12)), some (Pr.v (.int (m : Nat))), some (Pr.v (.int f)), none, some (Pr.v (.int (i : Nat)))]) (fun i hi => tg_name (i := 7)) (wp_name (by simp)) (fun i hi => et_yes) fun i hi _ => ?_) fun p' xs σ2 H2 r2 hn hx c s3 => ?_
      · refine ev_op (P := Pr.v (.int 1)) ev_cv (ev_l_any (b := 3) (ev_var rfl) (ev_var (i := 2) rfl) (by decide) (by decide)) fun x y H5 r5 px py Q q => ?_
        obtain ⟨j, rfl, hj0, hj1⟩ := py
        rw [show x = .int 1 from px]
        refine ⟨1, j, rfl, rfl, q _ H5 ((RX d l).again r5) ⟨(1 + j).toNat, ?_, by omega, by omega⟩⟩
        rw [Int.toNat_of_nonneg (by omega)]
      · obtain ⟨hs', rfl, h2, h3⟩ := kept_nats c
        exact hN _ _ ⟨p', hs', s3, hx, h2, h3, x1.trans r2, x1.2.2.2 _ hn⟩
    clear s2 s1
    refine q_via HP (fun N hN => ?_) fun σ3 H3 hp3 => ?_
    · obtain ⟨p', hs', s3, hx, h2, h3, x2, hn⟩ := hp2
      refine s_if (R := RE) s3 (Ex.refl _) (et_test (ev_eqS (x := .int f) (y := .int 0) (ev_var rfl) ev_cv rfl)) (fun hb H4 e4 s4 => ?_) fun hb H4 e4 s4 => hN _ _ ⟨p', hs', s4, e4 _ _ hx, h2, h3, x2.trans (Xd.ofEx x2.2.1 e4), hn⟩
      obtain ⟨h0, hr0⟩ : ∃ h0, hs'[0]? = some h0 := ⟨hs'[0]'(by omega), by simp⟩
      refine s_asgL (R := RE) s4 (Ex.refl _) (ev_rep1 (k := m) (P := Pr.v (.int (h0 : Nat))) (ev_ixL (i := 0) (xs := intL hs') (x := .int (h0 : Nat)) (ev_var (i := 6) rfl) ev_cv (fun H5 e5 => .inl (.inl (e5 _ _ (e4 _ _ hx)))) (L2.atI_nat (j := 0) (by unfold intL; rw [List.getElem?_map, hr0]; rfl)) fun _ _ => rfl) (ev_var rfl) (by omega)) fun p2 xs σ5 H5 e5 hn5 hx5 c s5 => ?_
      obtain ⟨v, pv, rfl⟩ := c
      rw [show v = .int (h0 : Nat) from pv] at hx5
      refine hN _ _ ⟨p2, List.replicate m h0, s5, by rw [hx5]; unfold intL; rw [List.map_replicate], by simp, fun h hh => ?_, (x2.trans (Xd.ofEx x2.2.1 (e4.trans e5))), x2.2.2.2 _ (e4.back hn5)⟩
      rw [(List.mem_replicate.mp hh).2]
      exact h3 _ (List.mem_of_getElem? hr0)
    clear hp2
    refine q_via HP (fun N hN => ?_) fun σ4 H4 hp4 => ?_
    · obtain ⟨p', hs', s3, hx, h2, h3, x2, hn⟩ := hp3
      refine s_if (R := RE) s3 (Ex.refl _) (et_test (ev_eqS (x := .int f) (y := .int 1) (ev_var rfl) ev_cv rfl)) (fun hb H4 e4 s4 => ?_) fun hb H4 e4 s4 => hN _ _ ⟨p', hs', s4, e4 _ _ hx, h2, h3, x2.trans (Xd.ofEx x2.2.1 e4), hn⟩
      refine q_asgL (R := RE) s4 (Ex.refl _) (ev_rep1 (k := m) (P := Pr.v (.int 1)) ev_cv (ev_var (i := 4) rfl) (by omega)) fun p2 xs σ5 H5 e5 hn5 hx5 c s5 => ?_
      obtain ⟨v, pv, rfl⟩ := c
      rw [show v = .int 1 from pv] at hx5
      have x5 : Xd d l H H5 := x2.trans (Xd.ofEx x2.2.1 (e4.trans e5))
      have hn0 : H p2 = none := x2.2.2.2 _ (e4.back hn5)
      refine ev_var (R := RE) (i := 2) (P := Pr.v (.int 3)) (env := en p2) rfl σ5 H5 (Ex.refl _) s5 _ fun y H6 e6 py => ?_
      cases (show y = .int 3 from py)
      refine ev_var (R := RE) (i := 6) (P := Pr.v (.ref p2)) (env := en p2) rfl σ5 H6 (Ex.refl _) (s5.mono e6.im) _ fun y H7 e7 py => ?_
      cases (show y = .ref p2 from py)
      have x7 : Xd d l H H7 := x5.trans (Xd.ofEx x5.2.1 (e6.trans e7))
      refine ev_l_any (d := d) (l := l) (env := en p2) (E := E0) (b := (m : Nat)) (ev_var (i := 0) rfl) (ev_var (i := 4) rfl) (by omega) (by omega) σ5 H7 (Xd.refl x7.2.1) (s5.mono (e6.trans e7).im) _ fun y H8 r8 py => ?_
      obtain ⟨j, rfl, hj0, hj1⟩ := py
      obtain ⟨n, rfl⟩ : ∃ n : Nat, j = n := ⟨j.toNat, by omega⟩
      have hx8 : H8 p2 = some (.lst (List.replicate m (V.int 1))) := r8.2.2.1 _ _ (dn _ hn0).1 (dn _ hn0).2 (e7 _ _ (e6 _ _ hx5))
      refine ⟨p2, _, n, n, rfl, rfl, hx8, by rw [List.length_replicate]; unfold ixN; rw [if_pos (by omega), if_pos (by omega), Int.toNat_natCast], ?_⟩
      have x8 : Xd d l H H8 := x7.trans r8
      have im := im_lst (o := .lst ((List.replicate m (V.int 1)).set n (.int 3))) hx8
      refine hN _ _ ⟨p2, (List.replicate m 1).set n 3, (((s5.mono (e6.trans e7).im).mono r8.im).mono im), ?_, by simp, fun h hh => ?_, ?_, hn0⟩
      · rw [upd_same]
        unfold intL
        rw [List.map_set, List.map_replicate]
        rfl
      · rcases List.mem_or_eq_of_mem_set hh with hh | rfl
        · rw [(List.mem_replicate.mp hh).2]
          exact ⟨by decide, by decide⟩
        · exact ⟨by decide, by decide⟩
      · refine ⟨x8.1, x8.2.1.put (dn _ hn0).1 (dn _ hn0).2, fun a o n1 n2 ha => ?_, fun a ha => ?_⟩
        · rw [upd_ne (ne_of_none ha hn0)]
          exact x8.2.2.1 a o n1 n2 ha
        · by_cases e : a = p2
          · rw [e]
            exact hn0
          · rw [upd_ne e] at ha
            exact x8.2.2.2 a ha
    clear hp3
    obtain ⟨p', hs', s3, hx, h2, h3, x2, hn⟩ := hp4
    have sq := sq_rng1 (S := RE) (M := fun _ => False) (env := en p') (H := H4) (ev_I (C := CMul) (i := 12) (j := (m : Nat)) (g := fun i j => .int (i * j)) (ev_cv (v := .int 12)) (ev_var (i := 4) rfl) (.inl ⟨by decide, by decide⟩)) (by omega) (by omega)
    refine q_for sq s3 (Ex.refl _) (en p') (.s (.s (.s (.s (.s (.s (.s (.s .nil)))))))) (fun i => [some (Pr.v (.ref d)), some (Pr.v (.ref p)), some (Pr.v (.int 3)), some (Pr.v (.int 12)), some (Pr.v (.int (m : Nat))), some (Pr.v (.int f)), some (Pr.v (.ref p')), some (Pr.v (.int (i : Nat)))]) (fun i hi => tg_name (i := 7))
      (fun i H' => Ex H4 H') (fun H5 e5 => e5) (fun H5 e5 i σ' H' H6 hi w1 I e6 s6 N hN => ?_) fun H5 e5 σ' H' w1 s6 I => ?_
    · have hx6 := e6 _ _ (I _ _ hx)
      refine s_no (R := RE) s6 (Ex.refl _) (et_is (et_test (ev_I0 (i := ((hs'.sum : Nat) : Int)) (j := 12) (g := fun i j => .bl (decide (j < i))) ?_ ?_)) ?_) fun H7 e7 s7 => hN _ _ (e6.trans e7).w (s7.wk (.s (.s (.s (.s (.s (.s (.s (.n .nil))))))))) ((I.trans e6).trans e7)
      · refine ev_cb (ea_cons (ev_var (i := 6) (P := Pr.v (.ref p')) rfl) ea_nil) fun vs H7 e7 pv Q q => ?_
        obtain ⟨x, rfl, px⟩ := vs1 pv
        rw [show x = .ref p' from px]
        refine ⟨p', hs'.map fun (n : Nat) => (n : Int), rfl, .inl (.inl ?_), q _ _ (Ex.refl _) ?_⟩
        · rw [← intL_int]
          exact (show Ex H6 H7 from e7) _ _ hx6
        · rw [sum_cast]
          rfl
      · have q := ev_max2 (R := RE) (env := [some (Pr.v (.ref d)), some (Pr.v (.ref p)), some (Pr.v (.int 3)), some (Pr.v (.int 12)), some (Pr.v (.int (m : Nat))), some (Pr.v (.int f)), some (Pr.v (.ref p')), some (Pr.v (.int (i : Nat)))]) (H := H6) (i := (m : Nat)) (j := 12) (ev_var (i := 4) rfl) (ev_var (i := 3) rfl)
        rw [show max ((m : Nat) : Int) 12 = 12 by omega] at q
        exact q
      · have := sum_le3 hs' h3
        exact decide_eq_false (by omega)
    · refine s_ret (R := RE) (P := Pr.d K (iD hs')) s6 (Ex.refl _) (ev_tupleL (xs := intL hs') (ds := hs'.map fun (n : Nat) => PyData.int (n : Int)) (ev_var (i := 6) rfl) (fun H7 e7 => .inl (.inl (e7 _ _ (I _ _ hx)))) ?_) fun v H7 e7 pv => k v H7 (x2.trans (Xd.ofEx x2.2.1 (I.trans e7))) ⟨hs', ⟨by omega, h3⟩, pv⟩
      have q := ints_tps (K := K) (H := H') (hs'.map fun (n : Nat) => (n : Int))
      rw [← intL_int, List.map_map] at q
      exact q⟩
end Sd

set_option Elab.async false
set_option linter.all false
set_option maxRecDepth 100000
set_option maxHeartbeats 2000000
/-! Sp12: names. -/
namespace Sd
open PySem PySem.Spec PyProof.Rows L2
def ch (c : Nat) : Str := ⟨#[c]⟩
theorem app_cps (a b : Str) : (a ++ b).cps.toList = a.cps.toList ++ b.cps.toList := by
  show (a.cps ++ b.cps).toList = _
  rw [Array.toList_append]
theorem join_ch : ∀ cs : List Nat, (Txt.join "" (cs.map ch)).cps.toList = cs := by
  have key : ∀ cs : List Nat, (Str.join "" (cs.map ch)).cps.toList = cs := by
    intro cs
    induction cs with
    | nil => rfl
    | cons c cs ih =>
      cases cs with
      | nil => rfl
      | cons c2 cs =>
        show ((ch c ++ "" ++ Str.join "" ((c2 :: cs).map ch) : Str)).cps.toList = _
        rw [app_cps, ih, app_cps]
        rfl
  intro cs
  show (Builtin.Str.glued "" (cs.map ch)).cps.toList = cs
  rw [StrLaws.glued_eq_join, key]
theorem kept_gen {α : Type} {f : α → V} {Q : α → Prop} : ∀ {n : Nat} {xs : List V} {H : Hp}, Vs (kept n (fun _ => true) fun _ => Pr.p fun v => ∃ h : α, v = f h ∧ Q h) xs H → ∃ hs : List α, xs = hs.map f ∧ hs.length = n ∧ ∀ h ∈ hs, Q h := by
  intro n xs H h
  rw [kept_all] at h
  have key : ∀ (is : List Nat) (xs : List V), Vs (is.map fun _ => Pr.p fun v => ∃ h : α, v = f h ∧ Q h) xs H → ∃ hs : List α, xs = hs.map f ∧ hs.length = is.length ∧ ∀ h ∈ hs, Q h := by
    intro is
    induction is with
    | nil =>
      intro xs h
      cases h
      exact ⟨[], rfl, rfl, fun _ z => by simp at z⟩
    | cons a is ih =>
      intro xs h
      cases h with
      | cons q t =>
        obtain ⟨m, rfl, hm⟩ := q
        obtain ⟨hs, rfl, h2, h3⟩ := ih _ t
        refine ⟨m :: hs, rfl, by simp [h2], fun h hh => ?_⟩
        rcases List.mem_cons.mp hh with rfl | hh
        · exact hm
        · exact h3 h hh
  have q := key _ _ h
  rw [List.length_range] at q
  exact q
section
variable {R : Rl} {K : PySem.W.Frag} {env : Env'} {H : Hp} {ta tb te te2 : TE} {C C' C2 : List V → Hp → Prop} {g : TG} {tt : TT} {vs : List Nat}
/-- a comprehension over range(e), e a number not known beforehand -/
theorem ev_lc_rng (A : Int → Prop) (h : Ev R te env H (Pr.p fun v => ∃ j, v = .int j ∧ A j)) (k : ∀ j, A j → EvL R (tLc (iRng1 (tCons (tC (.int j)) tNil)) g tt te2 vs) env H C) : EvL R (tLc (iRng1 (tCons te tNil)) g tt te2 vs) env H C := fun σ H1 r1 s Q q =>
  h σ H1 r1 s _ fun v H2 r2 p => by
    obtain ⟨j, rfl, hj⟩ := p
    exact k j hj σ H2 (R.trans r1 r2) (s.mono (R.im r2)) Q fun p xs H3 r3 n e c => q p xs H3 (R.trans r2 r3) (R.back r2 n) e c
/-- xs[:e], e a number not known beforehand -/
theorem ev_slLp {xs : List V} {p : Addr} {th : TE} (A : Int → Prop) (ha : Ev R ta env H (Pr.v (.ref p))) (hh : Ev R th env H (Pr.p fun v => ∃ j, v = .int j ∧ A j)) (hx : ∀ H1, R.r H H1 → SqL K H1 p xs) : EvL R (tSl (rSlL K) ta tNoPart (tPart th)) env H (fun ys _ => ∃ j, A j ∧ ys = cut xs none (some j)) := fun σ H1 r1 s Q q =>
  ha σ H1 r1 s _ fun x H2 r2 px => hh σ H2 (R.trans r1 r2) (s.mono (R.im r2)) _ fun v H3 r3 pv => by
    obtain ⟨j, rfl, hj⟩ := pv
    refine ⟨j, rfl, p, xs, px, hx H3 (R.trans r1 (R.trans r2 r3)), fun a ha => ?_⟩
    have r5 : R.r H3 (upd H3 a (.lst (cutV xs none (some j)))) := R.new r3 ha
    exact q _ _ _ (R.trans r2 (R.trans r3 r5)) (R.back (R.trans r2 r3) ha) upd_same ⟨j, hj, rfl⟩
theorem ev_lcatV {zs : List V} {b : Addr} (ha : EvL R ta env H C) (hb : Ev R tb env H (Pr.v (.ref b))) (hx : ∀ H1, R.r H H1 → H1 b = some (.lst zs)) (hl : ∀ xs H1, C xs H1 → xs.length + zs.length ≤ 100000 ∧ ∀ H3, R.r H1 H3 → C2 (xs ++ zs) H3) : EvL R (tOp rCat ta tb) env H C2 := fun σ H1 r1 s Q q =>
  ha σ H1 r1 s _ fun p xs H2 r2 n2 e2 c2 => hb σ H2 (R.trans r1 r2) (s.mono (R.im r2)) _ fun v H3 r3 pv => by
    cases (show v = .ref b from pv)
    have np := R.live r1 n2
    have hpp := R.keep r3 np e2
    obtain ⟨h1, h2⟩ := hl xs H2 c2
    refine ⟨p, b, xs, zs, rfl, rfl, hpp, hx H3 (R.trans r1 (R.trans r2 r3)), Nat.le_trans h1 (by decide), fun a ha => ?_⟩
    have r23 := R.trans r2 r3
    have r4 := R.new (o := .lst (xs ++ zs)) r23 ha
    exact q a (xs ++ zs) _ (R.trans r23 r4) (R.back r23 ha) upd_same (h2 _ (R.trans r3 r4))
theorem sum_ones {cs : List Nat} : ((cs.map ch).map (·.length)).sum = cs.length := by
  induction cs with
  | nil => rfl
  | cons c cs ih =>
    rw [List.map_cons, List.map_cons, List.sum_cons, ih, List.length_cons]
    show 1 + _ = _
    omega
theorem ev_joinN {cs : List Nat} (ha : EvL R te env H fun xs _ => xs = (cs.map ch).map V.str) (hl : cs.length ≤ 100000) : Ev R (tM1 (rJoin K) (tC (.str "")) te) env H (Pr.v (.str (Txt.join "" (cs.map ch)))) := fun σ H1 r1 s Q q => by
  refine ⟨⟨_, rfl⟩, ha σ H1 r1 s _ fun p xs H2 r2 n2 e2 c2 => ?_⟩
  cases (show xs = _ from c2)
  refine ⟨"", p, cs.map ch, rfl, rfl, .inl (.inl (.inl e2)), ?_, q _ H2 r2 rfl⟩
  rw [sum_ones]
  show cs.length + _ * 0 ≤ _
  omega
end
theorem let_nodup : LET.cps.toList.Nodup := by decide +kernel
theorem let_len : LET.cps.toList.length = 26 := by decide +kernel
/-- a name with the q-th letter at place pl -/
def NmAt (x : Str) (pl q : Nat) : Prop := nameOk x = true ∧ x.cps.toList[pl]? = LET.cps.toList[q]?
theorem nm_made {as bs : List Nat} {c q pl : Nat} (ha : ∀ c ∈ as, c ∈ LET.cps.toList) (hb : ∀ c ∈ bs, c ∈ LET.cps.toList) (hc : LET.cps.toList[q]? = some c) (hl : as.length = pl) (hz : pl + 1 + bs.length ≤ 8) : NmAt (Txt.join "" ((as ++ [c] ++ bs).map ch)) pl q := by
  have e := join_ch (as ++ [c] ++ bs)
  generalize Txt.join "" ((as ++ [c] ++ bs).map ch) = x at e
  have hlen : x.length = (as ++ [c] ++ bs).length := by
    rw [← e, Array.length_toList]
    rfl
  constructor
  · unfold nameOk
    rw [hlen, e]
    simp only [List.length_append, List.length_cons, List.length_nil, Bool.and_eq_true, decide_eq_true_eq, List.all_eq_true]
    refine ⟨by omega, by omega, fun y hy => ?_⟩
    simp only [List.mem_append, List.mem_cons, List.not_mem_nil, or_false] at hy
    rcases hy with (hy | rfl) | hy
    · exact ha y hy
    · exact List.mem_of_getElem? hc
    · exact hb y hy
  · rw [e, hc, List.append_assoc, ← hl, List.getElem?_append_right (Nat.le_refl _), Nat.sub_self]
    rfl
/-- the names made in turn -/
def NmAll (ns : List Str) (pl f : Nat) : Prop := ∀ j x, ns[j]? = some x → NmAt x pl ((f + j) % 26)
theorem nm_nodup {ns : List Str} {pl f : Nat} (h : NmAll ns pl f) (hl : ns.length ≤ 26) : ns.Nodup := by
  refine List.pairwise_iff_getElem.mpr fun i j hi' hj hij e => ?_
  have e1 := List.getElem?_eq_getElem hi'
  have e2 := List.getElem?_eq_getElem hj
  have q1 := (h i _ e1).2
  have q2 := (h j _ e2).2
  rw [e, q2] at q1
  have n2 : (f + j) % 26 < LET.cps.toList.length := by rw [let_len]; exact Nat.mod_lt _ (by decide)
  have := (List.getElem?_inj n2 let_nodup).mp q1
  omega
def unS : V → Str
  | .str s => s
  | _ => ""
theorem perm_strs {xs : List V} {ns : List Str} (h : List.Perm xs (ns.map V.str)) : ∃ ms : List Str, xs = ms.map V.str ∧ List.Perm ms ns := by
  refine ⟨xs.map unS, ?_, ?_⟩
  · rw [List.map_map]
    apply List.ext_getElem
    · simp
    · intro i h1 h2
      rw [List.getElem_map]
      have hm := h.mem_iff.mp (List.getElem_mem h1)
      obtain ⟨s, _, hs⟩ := List.mem_map.mp hm
      rw [← hs]
      rfl
  · have q := h.map unS
    rw [List.map_map] at q
    have e : ns.map (unS ∘ V.str) = ns := by
      have : (unS ∘ V.str) = id := rfl
      rw [this, List.map_id]
    rw [e] at q
    exact q
variable {P : Program} {w : World} {K : PySem.W.Frag} {mg : Str → Option Value} {base : Heap} {B : Adr}
def sp_l_names : Sp := spR 2 (fun a : (Addr × Addr) × Nat => RX a.1.1 a.1.2) (fun a vs _ => a.2 ≤ 20 ∧ vs = [.ref a.1.1, .int (a.2 : Nat)]) (fun a v H H' => ∃ (p : Addr) (ns : List Str), v = .ref p ∧ H p = none ∧ H' p = some (.lst (ns.map V.str)) ∧ ns.length = a.2 ∧ ns.Nodup ∧ ∀ x ∈ ns, nameOk x = true)
theorem ok_l_names (T : Txt P K mg B) : FnOk P w K mg base CX0 3 B.a_l_names B.d_l_names ["_law_deal_here", "_law_many"] sp_l_names :=
  T.F_l_names.ok sc_l_names (spR_len rfl) fun cdv A outer s H vs Q E hr h => ⟨_, der_l_names T (ok_l_mixed T) (ok_l_of T) (ok_l_any T) hr, by
    obtain ⟨_, ⟨⟨d, l⟩, many⟩, r, ⟨hm, rfl⟩, k⟩ := h
    have hm' : many ≤ 20 := hm
    have dn : ∀ c, H c = none → c ≠ d ∧ c ≠ l := fun c hc => ⟨fun z => r.1.d_some (z ▸ hc), fun z => r.1.l_some (z ▸ hc)⟩
    have s0 : Slots (start N_l_names [V.ref d, V.int (many : Nat)]) [some (Pr.v (.ref d)), some (Pr.v (.int (many : Nat))), none, none, none, none, none, none, none, none, none] H := start_slots (Ps := [Pr.v (.ref d), Pr.v (.int (many : Nat))]) (.cons rfl (.cons rfl .nil)) rfl
    refine q_asg (R := RX d l) (P := Pr.v (.str LET)) s0 r ev_cv fun σ1 H1 r1 s1 => ?_
    have x1 : Xd d l H H1 := r1
    have hlet : ∀ {H0 : Hp} {env : Env'}, env[2]? = some (some (Pr.v (.str LET))) → env[0]? = some (some (Pr.v (.ref d))) → Ev (RX d l) (tCall (sp_l_of K) [] E0 (tCons (tVar 0) (tCons (tVar 2) tNil))) env H0 (Pr.p fun v => ∃ c : Nat, v = .str (ch c) ∧ c ∈ LET.cps.toList) := fun {H0 env} h2 h0 =>
      ev_l_of (A := Pr.v (.str LET)) (LET.cps.toList.map fun c => .str ⟨#[c]⟩) (ev_var h0) (ev_var h2) (fun v H1 _ pv => .inr (.inr ⟨LET, pv, by decide +kernel, rfl⟩)) (by rw [List.length_map, let_len]; decide) (by rw [List.length_map, let_len]; decide) fun v H1 _ hv => by
        obtain ⟨c, hc, rfl⟩ := List.mem_map.mp hv
        exact ⟨c, rfl, hc⟩
    refine q_asgL (R := RX d l) (C := fun xs _ => ∃ cs : List Nat, xs = (cs.map ch).map V.str ∧ (1 ≤ cs.length ∧ cs.length ≤ 8) ∧ ∀ c ∈ cs, c ∈ LET.cps.toList) s1 ((RX d l).again r1) (ev_lc_rng (fun j => 1 ≤ j ∧ j ≤ 8) (ev_op (P := Pr.v (.int 1)) (P' := Pr.p fun v => ∃ j : Int, v = .int j ∧ 0 ≤ j ∧ j ≤ 7) ev_cv (ev_l_ofN (C := Vs [Pr.v (.int 0), Pr.v (.int 1), Pr.v (.int 2), Pr.v (.int 7)]) (ev_var rfl) (ev_lst (ea_cons ev_cv (ea_cons ev_cv (ea_cons ev_cv (ea_cons (ev_if (b := false) (et_is (et_test (ev_I0 (i := (many : Nat)) (j := 26) (g := fun i j => .bl (decide (j < i))) (ev_var rfl) ev_cv)) (decide_eq_false (by omega))) (fun z => nomatch z) fun _ => ev_cv) ea_nil)))) (show 4 ≤ 100000 by decide)) (fun xs H1 c => ?_) fun xs H1 H2 _ c v hv => ?_) fun x y H5 r5 px py Q q => ?_) fun j hj => ?_) fun st xs σ2 H2 r2 hst hst2 c s2 => ?_
    · obtain ⟨a, b, c', d', rfl, _⟩ := vs4 c
      exact ⟨show 0 < 4 by decide, show 4 ≤ 100000 by decide⟩
    · obtain ⟨a, b, c', d', rfl, pa, pb, pc, pd⟩ := vs4 c
      simp only [List.mem_cons, List.not_mem_nil, or_false] at hv
      rcases hv with rfl | rfl | rfl | rfl
      · exact ⟨0, pa, by decide, by decide⟩
      · exact ⟨1, pb, by decide, by decide⟩
      · exact ⟨2, pc, by decide, by decide⟩
      · exact ⟨7, pd, by decide, by decide⟩
    · obtain ⟨j, rfl, hj0, hj1⟩ := py
      rw [show x = .int 1 from px]
      exact ⟨1, j, rfl, rfl, q _ H5 ((RX d l).again r5) ⟨1 + j, rfl, by omega, by omega⟩⟩
    · have q := sr_rng1 (R := RX d l) (env := [some (Pr.v (.ref d)), some (Pr.v (.int (many : Nat))), some (Pr.v (.str LET)), none, none, none, none, none, none, none, none]) (H := H1) (ev_cv (v := .int j)) (by omega) (by omega)
      refine (ev_lc (fun _ => true) (fun _ => Pr.p fun v => ∃ c : Nat, v = .str (ch c) ∧ c ∈ LET.cps.toList) q (by omega) (fun i => [some (Pr.v (.ref d)), some (Pr.v (.int (many : Nat))), some (Pr.v (.str LET)), none, none, none, none, none, some (Pr.v (.int (i : Nat))), none, none]) (fun i hi => tg_name (i := 8)) (wp_name (by simp)) (fun i hi => et_yes) fun i hi _ => hlet rfl rfl).imp fun xs H2 _ c => ?_
      obtain ⟨cs, rfl, h2, h3⟩ := kept_gen (f := fun c => V.str (ch c)) c
      exact ⟨cs, by rw [List.map_map]; rfl, by omega, h3⟩
    obtain ⟨cs, rfl, ⟨hc1, hc2⟩, hcs⟩ := c
    have x2 : Xd d l H H2 := x1.trans r2
    have hst0 : H st = none := x1.2.2.2 _ hst
    -- the three draws
    refine q_par3 (R := RX d l) (A := Pr.p fun v => ∃ r : Int, v = .int r ∧ 0 ≤ r ∧ r < (cs.length : Nat)) (B := Pr.p fun v => ∃ r : Int, v = .int r ∧ 0 ≤ r ∧ r < 26) (C := Pr.p fun v => ∃ r : Int, v = .int r ∧ 0 ≤ r ∧ r < 2) s2 ((RX d l).again r2) (ea_cons (ev_l_any (ev_var rfl) ?_ (by omega) (by omega)) (ea_cons (ev_l_any (ev_var rfl) ev_cv (by decide) (by decide)) (ea_cons (ev_l_any (ev_var rfl) ev_cv (by decide) (by decide)) ea_nil))) fun σ3 H3 r3 s3 => ?_
    · have q := ev_lenL (K := K) (R := RX d l) (env := [some (Pr.v (.ref d)), some (Pr.v (.int (many : Nat))), some (Pr.v (.str LET)), some (Pr.v (.ref st)), none, none, none, none, none, none, none]) (H := H2) (xs := (cs.map ch).map V.str) (ev_var (i := 3) rfl) fun H5 x5 => .inl (.inl ((show Xd d l H2 H5 from x5).2.2.1 _ _ (dn _ hst0).1 (dn _ hst0).2 hst2))
      rw [List.length_map, List.length_map] at q
      exact q
    obtain ⟨v4, ⟨pl, rfl, hp0, hp1⟩, s3⟩ := s3.pin (i := 4) rfl
    obtain ⟨v5, ⟨fi, rfl, hf0, hf1⟩, s3⟩ := s3.pin (i := 5) rfl
    obtain ⟨v6, ⟨lo, rfl, hl0, hl1⟩, s3⟩ := s3.pin (i := 6) rfl
    obtain ⟨pl, rfl⟩ : ∃ n : Nat, pl = n := ⟨pl.toNat, by omega⟩
    obtain ⟨fi, rfl⟩ : ∃ n : Nat, fi = n := ⟨fi.toNat, by omega⟩
    have x3 : Xd d l H H3 := x2.trans r3
    refine q_asgL (R := RE) (C := Vs []) s3 (Ex.refl _) (ev_lst ea_nil (Nat.zero_le _)) fun f xs σ4 H4 e4 hf hf4 c s4 => ?_
    cases c
    have x4 : Xd d l H H4 := x3.trans (Xd.ofEx x3.2.1 e4)
    have hf00 : H f = none := x3.2.2.2 _ hf
    have hst4 : H4 st = some (.lst ((cs.map ch).map V.str)) := e4 _ _ ((show Xd d l H2 H3 from r3).2.2.1 _ _ (dn _ hst0).1 (dn _ hst0).2 hst2)
    have hsf : st ≠ f := fun z => by
      have h3 := (show Xd d l H2 H3 from r3).2.2.1 _ _ (dn _ hst0).1 (dn _ hst0).2 hst2
      rw [z, hf] at h3
      cases h3
    have sq := sq_rng1 (S := RE) (M := fun a => a = d ∨ a = l ∨ a = f) (env := [some (Pr.v (.ref d)), some (Pr.v (.int (many : Nat))), some (Pr.v (.str LET)), some (Pr.v (.ref st)), some (Pr.v (.int (pl : Nat))), some (Pr.v (.int (fi : Nat))), some (Pr.v (.int lo)), some (Pr.v (.ref f)), none, none, none]) (H := H4) (ev_var (i := 1) (P := Pr.v (.int (many : Nat))) rfl) (by omega) (by omega)
    rw [Int.toNat_natCast] at sq
    refine q_for sq s4 (Ex.refl _) [some (Pr.v (.ref d)), some (Pr.v (.int (many : Nat))), some (Pr.v (.str LET)), some (Pr.v (.ref st)), some (Pr.v (.int (pl : Nat))), some (Pr.v (.int (fi : Nat))), some (Pr.v (.int lo)), some (Pr.v (.ref f)), none, none, none] (.s (.s (.s (.s (.s (.s (.s (.s (.s (.s (.s .nil))))))))))) (fun i => [some (Pr.v (.ref d)), some (Pr.v (.int (many : Nat))), some (Pr.v (.str LET)), some (Pr.v (.ref st)), some (Pr.v (.int (pl : Nat))), some (Pr.v (.int (fi : Nat))), some (Pr.v (.int lo)), some (Pr.v (.ref f)), some (Pr.v (.int (i : Nat))), none, none]) (fun i hi => tg_name (i := 8))
      (fun i H' => Deal d l H' ∧ (∀ a, H' a = none → H a = none) ∧ ∃ ns : List Str, H' f = some (.lst (ns.map V.str)) ∧ ns.length = i ∧ NmAll ns pl fi)
      (fun H5 e5 => ⟨x4.2.1.of e5, fun a ha => x4.2.2.2 a (e5.back ha), [], e5 _ _ hf4, rfl, fun j x hj => by simp at hj⟩) (fun H5 e5 i σ' H' H6 hi w1 I e6 s6 N hN => ?_) fun H5 e5 σ' H' w1 s6 I => ?_
    · obtain ⟨dl, bk, ns, hns, hlen, hall⟩ := I
      have hM : ¬ (st = d ∨ st = l ∨ st = f) := fun z => by
        rcases z with z | z | z
        · exact (dn _ hst0).1 z
        · exact (dn _ hst0).2 z
        · exact hsf z
      have hst6 : H6 st = some (.lst ((cs.map ch).map V.str)) := e6 _ _ (w1.2 _ _ hM (e5 _ _ hst4))
      have dl6 := dl.of e6
      -- what follows the letter
      refine q_asgL (R := RE) s6 (Ex.refl _) (ev_slL (xs := (cs.map ch).map V.str) (lo := some ((pl + 1 : Nat) : Int)) (hi := none) (ev_var (i := 3) rfl) (eo_some (ev_I0 (i := (pl : Nat)) (j := 1) (g := fun i j => .int (i + j)) (ev_var (i := 4) rfl) ev_cv)) eo_none fun H7 e7 => .inl (.inl (e7 _ _ hst6))) fun p9 ys σ7 H7 e7 hn7 hy7 c s7 => ?_
      have hys : ys = ((cs.drop (pl + 1)).map ch).map V.str := by
        rw [show ys = _ from c, cut_from, List.map_drop, List.map_drop]
      subst hys
      have x7 : Xd d l H6 H7 := Xd.ofEx dl6 e7
      refine q_via (fun σ8 H8 => ∃ (p9 : Addr) (bs : List Nat), Slots σ8 [some (Pr.v (.ref d)), some (Pr.v (.int (many : Nat))), some (Pr.v (.str LET)), some (Pr.v (.ref st)), some (Pr.v (.int (pl : Nat))), some (Pr.v (.int (fi : Nat))), some (Pr.v (.int lo)), some (Pr.v (.ref f)), some (Pr.v (.int (i : Nat))), some (Pr.v (.ref p9)), none] H8 ∧ Xd d l H6 H8 ∧ H8 p9 = some (.lst ((bs.map ch).map V.str)) ∧ (∀ c ∈ bs, c ∈ LET.cps.toList) ∧ pl + 1 + bs.length ≤ 8) (fun N2 hN2 => ?_) fun σ8 H8 h8 => ?_
      · refine s_if (b := decide (V.int lo = V.int 1) && decide (((many : Nat) : Int) < 27)) (R := RE) s7 (Ex.refl _) (et_and (et_test (ev_eqS (x := .int lo) (y := .int 1) (ev_var rfl) ev_cv rfl)) fun _ => et_test (ev_I0 (i := (many : Nat)) (j := 27) (g := fun i j => .bl (decide (i < j))) (ev_var rfl) ev_cv)) (fun hb H8 e8 s8 => ?_) fun hb H8 e8 s8 => ?_
        · have x8 : Xd d l H6 H8 := x7.trans (Xd.ofEx x7.2.1 e8)
          refine s_asgL (R := RX d l) s8 (Xd.refl x8.2.1) (ev_slLp (xs := (cs.map ch).map V.str) (fun j => 0 ≤ j ∧ j < 8 - (pl : Nat)) (ev_var (i := 3) rfl) (ev_l_any (ev_var rfl) (ev_I0 (i := 8) (j := (pl : Nat)) (g := fun i j => .int (i - j)) ev_cv (ev_var (i := 4) rfl)) (by omega) (by omega)) fun H9 x9 => .inl (.inl ((show Xd d l H8 H9 from x9).2.2.1 _ _ (dn _ hst0).1 (dn _ hst0).2 (e8 _ _ (e7 _ _ hst6))))) fun p9' ys σ9 H9 r9 hn9 hy9 c s9 => ?_
          obtain ⟨j, ⟨hj0, hj1⟩, rfl⟩ := c
          obtain ⟨n, rfl⟩ : ∃ n : Nat, j = n := ⟨j.toNat, by omega⟩
          rw [cut_to, ← List.map_take, ← List.map_take] at hy9
          refine hN2 _ _ ⟨p9', cs.take n, s9, x8.trans r9, hy9, fun c hc => hcs c (List.mem_of_mem_take hc), ?_⟩
          rw [List.length_take]
          omega
        · refine hN2 _ _ ⟨p9, cs.drop (pl + 1), s8, x7.trans (Xd.ofEx x7.2.1 e8), e8 _ _ hy7, fun c hc => hcs c (List.mem_of_mem_drop hc), ?_⟩
          rw [List.length_drop]
          omega
      obtain ⟨p9', bs, s8, x8, hb8, hbs, hbl⟩ := h8
      clear hy7 s7 x7 c
      have hst8 : H8 st = some (.lst ((cs.map ch).map V.str)) := x8.2.2.1 _ _ (dn _ hst0).1 (dn _ hst0).2 hst6
      have hq : (fi + i) % 26 < LET.cps.toList.length := by rw [let_len]; exact Nat.mod_lt _ (by decide)
      obtain ⟨c, hc⟩ : ∃ c, LET.cps.toList[(fi + i) % 26]? = some c := ⟨_, List.getElem?_eq_getElem hq⟩
      -- the name
      refine q_asg (R := RE) (P := Pr.v (.str (Txt.join "" ((cs.take pl ++ [c] ++ bs).map ch)))) s8 (Ex.refl _) (ev_joinN (cs := cs.take pl ++ [c] ++ bs) (ev_lcatV (C := fun xs _ => xs = ((cs.take pl ++ [c]).map ch).map V.str) (ev_lcat (C' := Vs [Pr.v (.str (ch c))]) (ev_slL (xs := (cs.map ch).map V.str) (lo := none) (hi := some ((pl : Nat) : Int)) (ev_var (i := 3) rfl) eo_none (eo_some (ev_var (i := 4) rfl)) fun H9 e9 => .inl (.inl (e9 _ _ hst8))) (ev_lst (ea_cons (ev_ixS (z := LET) (i := (((fi + i) % 26 : Nat) : Int)) (c := c) (ev_var (i := 2) rfl) ?_ (by decide +kernel) (L2.atI_nat hc)) ea_nil) (show 1 ≤ 100000 by decide)) fun xs ys H9 H10 cx cy => ?_) (ev_var (i := 9) rfl) (fun H9 e9 => e9 _ _ hb8) fun xs H9 cx => ?_) ?_) fun σ9 H9 e9 s9 => ?_
      · have q := ev_I (R := RE) (env := [some (Pr.v (.ref d)), some (Pr.v (.int (many : Nat))), some (Pr.v (.str LET)), some (Pr.v (.ref st)), some (Pr.v (.int (pl : Nat))), some (Pr.v (.int (fi : Nat))), some (Pr.v (.int lo)), some (Pr.v (.ref f)), some (Pr.v (.int (i : Nat))), some (Pr.v (.ref p9')), none]) (H := H8) (C := fun _ j => 0 < j) (g := fun i j => .int (i % j)) (i := ((fi : Nat) : Int) + (i : Nat)) (j := 26) (ev_int1 (ev_I0 (i := (fi : Nat)) (j := (i : Nat)) (g := fun i j => .int (i + j)) (ev_var (i := 5) rfl) (ev_var (i := 8) rfl))) ev_cv (by decide)
        have e : (((fi : Nat) : Int) + (i : Nat)) % 26 = (((fi + i) % 26 : Nat) : Int) := by omega
        rw [e] at q
        exact q
      · obtain ⟨y, rfl, py⟩ := vs1 cy
        rw [show xs = _ from cx, show y = .str (ch c) from py, cut_to]
        refine ⟨?_, fun _ _ _ => ?_⟩
        · simp only [List.length_take, List.length_map, List.length_singleton]
          omega
        · rw [List.map_append, List.map_append, List.map_take, List.map_take]
          rfl
      · rw [show xs = _ from cx]
        refine ⟨?_, fun _ _ => ?_⟩
        · simp only [List.length_append, List.length_take, List.length_map, List.length_singleton]
          omega
        · show _ = _
          simp only [List.map_append]
      · simp only [List.length_append, List.length_take, List.length_singleton]
        omega
      have hnm : NmAt (Txt.join "" ((cs.take pl ++ [c] ++ bs).map ch)) pl ((fi + i) % 26) := nm_made (fun c hc => hcs c (List.mem_of_mem_take hc)) hbs hc (by rw [List.length_take]; omega) hbl
      generalize Txt.join "" ((cs.take pl ++ [c] ++ bs).map ch) = nm at hnm s9
      have x9 : Xd d l H6 H9 := x8.trans (Xd.ofEx x8.2.1 e9)
      have hns9 : H9 f = some (.lst (ns.map V.str)) := x9.2.2.1 _ _ (dn _ hf00).1 (dn _ hf00).2 (e6 _ _ hns)
      refine s_append (R := RE) (K := K) (P := Pr.v (.str nm)) s9 (Ex.refl _) (ev_var (i := 7) rfl) (ev_if (b := true) (et_is (et_test (ev_I0 (i := (i : Nat)) (j := 26) (g := fun i j => .bl (decide (i < j))) (ev_var rfl) ev_cv)) (decide_eq_true (by omega))) (fun _ => ev_var rfl) fun z => nomatch z) (fun H10 e10 => e10 _ _ hns9) (by rw [List.length_map]; omega) fun v H10 e10 pv s10 => ?_
      rw [show v = .str nm from pv]
      have x10 : Xd d l H6 H10 := x9.trans (Xd.ofEx x9.2.1 e10)
      have hns10 := (show Ex H9 H10 from e10) _ _ hns9
      have im := im_lst (o := .lst (ns.map V.str ++ [.str nm])) hns10
      refine hN _ _ ((e6.w.trans (x10.w (.inl rfl) (.inr (.inl rfl)))).trans (w_put im (.inr (.inr rfl)))) ((s10.mono im).wk (.s (.s (.s (.s (.s (.s (.s (.s (.n (.n (.n .nil)))))))))))) ⟨x10.2.1.put (dn _ hf00).1 (dn _ hf00).2, fun a ha => ?_, ns ++ [nm], ?_, ?_, fun j x hj => ?_⟩
      · have n1 : a ≠ f := fun z => by rw [z, upd_same] at ha; cases ha
        rw [upd_ne n1] at ha
        exact bk a (e6.back (x10.2.2.2 a ha))
      · rw [upd_same, List.map_append]
        rfl
      · rw [List.length_append, hlen]
        rfl
      · rcases Nat.lt_or_ge j ns.length with hjl | hjl
        · rw [List.getElem?_append_left hjl] at hj
          exact hall j x hj
        · rw [List.getElem?_append_right hjl] at hj
          have hj0 : j - ns.length = 0 := by
            cases hz : j - ns.length with
            | zero => rfl
            | succ n =>
              rw [hz] at hj
              simp at hj
          rw [hj0] at hj
          cases hj
          have : j = i := by omega
          subst this
          exact hnm
    · obtain ⟨dl, bk, ns, hns, hlen, hall⟩ := I
      have hkeep : ∀ a o, a ≠ d → a ≠ l → H a = some o → H' a = some o := fun a o n1 n2 h => by
        refine w1.2 a o (fun z => ?_) (e5 _ _ (x4.2.2.1 a o n1 n2 h))
        rcases z with z | z | z
        · exact n1 z
        · exact n2 z
        · exact ne_of_none h hf00 z
      have xx : Xd d l H H' := ⟨r.1, dl, hkeep, bk⟩
      refine s_retL (R := RX d l) (C := fun xs _ => List.Perm xs (ns.map V.str)) s6 (Xd.refl dl) (ev_spRL (ea_cons (ev_var (i := 0) rfl) (ea_cons (ev_var (i := 7) rfl) ea_nil)) ((d, l), ns.map V.str) sub_X rfl (fun vs H1 r1 pv => ?_) fun v H1 H2 r1 r2 pp => pp) fun p xs H7 r7 hn7 hx7 c => ?_
      · obtain ⟨a, b, rfl, pa, pb⟩ := vs2 pv
        rw [show a = .ref d from pa, show b = .ref f from pb]
        refine ⟨by rw [List.length_map]; omega, f, rfl, dn _ hf00, ?_⟩
        exact (show Xd d l H' H1 from r1).2.2.1 _ _ (dn _ hf00).1 (dn _ hf00).2 hns
      · obtain ⟨ms, rfl, pm⟩ := perm_strs c
        refine k _ _ (xx.trans r7) ⟨p, ms, rfl, bk _ hn7, hx7, by rw [pm.length_eq, hlen], pm.nodup_iff.mpr (nm_nodup hall (by omega)), fun x hx => ?_⟩
        have hx' := pm.mem_iff.mp hx
        obtain ⟨j, hj⟩ := List.mem_iff_getElem?.mp hx'
        exact (hall j x hj).1⟩
end Sd

set_option Elab.async false
set_option linter.all false
set_option maxRecDepth 100000
set_option maxHeartbeats 2000000
/-! Sp13: a standing filled. -/
namespace Sd
open PySem PySem.Spec PyProof.Rows L2
section
variable {R : Rl} {K : PySem.W.Frag} {env : Env'} {H : Hp} {ta tb te te2 : TE} {C C' C2 : List V → Hp → Prop} {g : TG} {tt : TT} {σ : L2.St} {D : Ends} {tb : TS} {A : Nat → Pr}
/-- a loop over a new list -/
theorem for_listN {ts : TS} (s : Slots σ env H) (r : R.r H H) (h : EvL R te env H C) (k : ∀ p xs H1, R.r H H1 → H p = none → H1 p = some (.lst xs) → C xs H1 → Slots σ env H1 → tFor (iList K (tC (.ref p))) g ts D σ H1) : tFor (iList K te) g ts D σ H :=
  h σ H r s _ fun p xs H1 r1 n e c => k p xs H1 r1 n e c (s.mono (R.im r1))
theorem q_listN {ts z : TS} (s : Slots σ env H) (r : R.r H H) (h : EvL R te env H C) (k : ∀ p xs H1, R.r H H1 → H p = none → H1 p = some (.lst xs) → C xs H1 → Slots σ env H1 → tSeq (tFor (iList K (tC (.ref p))) g ts) z D σ H1) : tSeq (tFor (iList K te) g ts) z D σ H :=
  for_listN (D := { D with nx := z D }) s r h k
theorem sr_enumT {ds : List PyData} (h : Ev R te env H (Pr.d K (.tuple ds))) (hI : ∀ i d, ds[i]? = some d → A i = Pr.d K d) :
    Sr R (iEnumT K (tCons te tNil)) env H ds.length (fun i => Pr.pair K (Pr.v (.int (i : Nat))) (A i)) := fun σ H1 r1 s RR k =>
  h σ H1 r1 s _ fun v H2 r2 p => by
    obtain ⟨a, xs, rfl, hx, ht⟩ := Tp.tup_ p
    refine ⟨a, xs, rfl, hx, k (ItuT K a) (fun H' => SqT K H' a xs ∧ Tps K H' ds xs) H2 r2 ?_ fun H' r' => ⟨(R.im r').sqt hx, Tps.mono (R.im r') _ _ ht⟩⟩
    have hl := ht.length
    refine ⟨fun i H' hi g => ⟨xs, xs[i]'(by omega), g.1, by simp⟩, fun H' g => ⟨xs, g.1, hl⟩, fun i H' x H'' hi g y r => ?_⟩
    obtain ⟨T, x', rfl, hT, rfl, hv⟩ := y
    obtain ⟨d, hd, td⟩ := g.2.at_ (hv xs g.1)
    have r5 := R.new (o := .tup [V.int (i : Nat), x']) r hT
    refine ⟨r5, T, _, _, rfl, .inl (.inl upd_same), rfl, ?_⟩
    rw [hI i d hd]
    exact Tp.mono (R.im r5) _ _ td
end
theorem flatten_set_perm {α : Type} : ∀ (s : List (List α)) (j : Nat) (b : α), j < s.length → List.Perm (s.set j (s.getD j [] ++ [b])).flatten (s.flatten ++ [b])
  | [], _, _, h => by simp at h
  | r :: s, 0, b, _ => by
    show List.Perm ((r ++ [b]) ++ s.flatten) ((r ++ s.flatten) ++ [b])
    rw [List.append_assoc, List.append_assoc]
    exact List.Perm.append_left r List.perm_append_comm
  | r :: s, j + 1, b, h => by
    have ih := flatten_set_perm s j b (by simpa using h)
    show List.Perm (r ++ (s.set j (s.getD j [] ++ [b])).flatten) ((r ++ s.flatten) ++ [b])
    rw [List.append_assoc]
    exact List.Perm.append_left r ih
theorem rows_room : ∀ (s : List (List Str)) (hs : List Nat), s.length = hs.length → s.flatten.length < hs.sum → ∃ j, j < hs.length ∧ (s.getD j []).length < hs.getD j 0
  | [], [], _, h => by simp at h
  | [], _ :: _, e, _ => by simp at e
  | _ :: _, [], e, _ => by simp at e
  | r :: s, h :: hs, e, k => by
    by_cases hr : r.length < h
    · exact ⟨0, by simp, hr⟩
    · obtain ⟨j, h1, h2⟩ := rows_room s hs (by simpa using e) (by
        simp only [List.flatten_cons, List.length_append, List.sum_cons] at k
        omega)
      exact ⟨j + 1, by simpa using h1, h2⟩
variable {P : Program} {w : World} {K : PySem.W.Frag} {mg : Str → Option Value} {base : Heap} {B : Adr}
def RowsLe (hs : List Nat) (s : List (List Str)) : Prop := ∀ j, (s.getD j []).length ≤ hs.getD j 0
def sp_l_filled (K : PySem.W.Frag) : Sp := spR 3 (fun a : (Addr × Addr) × List Nat × List Str => RX a.1.1 a.1.2) (fun a vs H => (a.2.1.length ≤ 100 ∧ a.2.2.length ≤ 100 ∧ a.2.2.length ≤ a.2.1.sum) ∧ ∃ v p, vs = [.ref a.1.1, v, .ref p] ∧ Tp K H (iD a.2.1) v ∧ (p ≠ a.1.1 ∧ p ≠ a.1.2) ∧ H p = some (.lst (a.2.2.map V.str)))
  (fun a v _ H' => ∃ s : List (List Str), Tp K H' (sD s) v ∧ s.length = a.2.1.length ∧ RowsLe a.2.1 s ∧ List.Perm s.flatten a.2.2)
theorem ok_l_filled (T : Txt P K mg B) : FnOk P w K mg base CX0 3 B.a_l_filled B.d_l_filled ["_law_deal_here", "_law_rooms", "_law_boxes"] (sp_l_filled K) :=
  T.F_l_filled.ok sc_l_filled (spR_len rfl) fun cdv A outer s H vs Q E hr h => ⟨_, der_l_filled T (ok_l_mixed T) (ok_l_of T) hr, by
    obtain ⟨_, ⟨⟨d, l⟩, hs, ns⟩, r, ⟨⟨ha, hb, hc⟩, v, p, rfl, hv, hne, hp⟩, k⟩ := h
    have ha' : hs.length ≤ 100 := ha
    have hb' : ns.length ≤ 100 := hb
    have hc' : ns.length ≤ hs.sum := hc
    have hne' : p ≠ d ∧ p ≠ l := hne
    have dn : ∀ c, H c = none → c ≠ d ∧ c ≠ l := fun c hc => ⟨fun z => r.1.d_some (z ▸ hc), fun z => r.1.l_some (z ▸ hc)⟩
    have s0 : Slots (start N_l_filled [V.ref d, v, V.ref p]) [some (Pr.v (.ref d)), some (Pr.d K (iD hs)), some (Pr.v (.ref p)), none, none, none, none] H := start_slots (Ps := [Pr.v (.ref d), Pr.d K (iD hs), Pr.v (.ref p)]) (.cons rfl (.cons hv (.cons rfl .nil))) rfl
    have hlen : Ev RE (tCB (rLenSeq K) (tCons (tVar 1) tNil)) [some (Pr.v (.ref d)), some (Pr.d K (iD hs)), some (Pr.v (.ref p)), none, none, none, none] H (Pr.v (.int (hs.length : Nat))) := by
      have q := ev_lenT (K := K) (R := RE) (H := H) (env := [some (Pr.v (.ref d)), some (Pr.d K (iD hs)), some (Pr.v (.ref p)), none, none, none, none]) (ds := hs.map fun (n : Nat) => PyData.int (n : Int)) (ev_var (i := 1) rfl)
      rw [List.length_map] at q
      exact q
    refine q_asgL (R := RE) s0 (Ex.refl _) (ev_rep1 (P := Pr.d K (.tuple [])) (ev_tupD (ds := []) ea_nil (Nat.zero_le _)) hlen (by omega)) fun rp xs σ1 H1 e1 hr0 hr1 c s1 => ?_
    obtain ⟨x, px, rfl⟩ := c
    have x1 : Xd d l H H1 := Xd.ofEx r.1 e1
    refine q_listN (R := RX d l) (C := fun xs _ => List.Perm xs (ns.map V.str)) s1 (Xd.refl x1.2.1) (ev_spRL (ea_cons (ev_var (i := 0) rfl) (ea_cons (ev_var (i := 2) rfl) ea_nil)) ((d, l), ns.map V.str) sub_X rfl (fun vs H2 r2 pv => ?_) fun v H1 H2 r1 r2 pp => pp) fun pm ys H2 r2 hn2 hp2 c s2 => ?_
    · obtain ⟨a, b, rfl, pa, pb⟩ := vs2 pv
      rw [show a = .ref d from pa, show b = .ref p from pb]
      exact ⟨by rw [List.length_map]; omega, p, rfl, hne', (x1.trans r2).2.2.1 _ _ hne'.1 hne'.2 hp⟩
    obtain ⟨ms, rfl, pmm⟩ := perm_strs c
    have hml := pmm.length_eq
    have x2 : Xd d l H H2 := x1.trans r2
    have hpm0 : H pm = none := x1.2.2.2 _ hn2
    have hrp : rp ≠ pm := fun z => by rw [z, hn2] at hr1; cases hr1
    have hr2 : H2 rp = some (.lst (List.replicate hs.length x)) := (show Xd d l H1 H2 from r2).2.2.1 _ _ (dn _ hr0).1 (dn _ hr0).2 hr1
    have px2 : Tp K H2 (.tuple []) x := Tp.mono (show Xd d l H1 H2 from r2).im _ _ px
    have hMp : ¬ (pm = d ∨ pm = l ∨ pm = rp) := fun z => by
      rcases z with z | z | z
      · exact (dn _ hpm0).1 z
      · exact (dn _ hpm0).2 z
      · exact hrp z.symm
    have sq := sq_list (K := K) (S := RE) (M := fun a => a = d ∨ a = l ∨ a = rp) (Iz := fun i => Pr.v (.str (ms.getD i ""))) (env := [some (Pr.v (.ref d)), some (Pr.d K (iD hs)), some (Pr.v (.ref p)), some (Pr.v (.ref rp)), none, none, none]) (H := H2) (xs := ms.map V.str) (ev_cv (v := .ref pm)) (fun H' e => e _ _ hp2) hMp fun H3 e3 i x H' hx _ => by
      rw [List.getElem?_map] at hx
      cases hz : ms[i]? with
      | none => rw [hz] at hx; cases hx
      | some z =>
        rw [hz] at hx
        cases hx
        show V.str z = _
        rw [getD_of _ hz]
    rw [List.length_map] at sq
    refine q_for sq s2 (Ex.refl _) [some (Pr.v (.ref d)), some (Pr.d K (iD hs)), some (Pr.v (.ref p)), some (Pr.v (.ref rp)), none, none, none] (.s (.s (.s (.s (.s (.s (.s .nil))))))) (fun i => [some (Pr.v (.ref d)), some (Pr.d K (iD hs)), some (Pr.v (.ref p)), some (Pr.v (.ref rp)), some (Pr.v (.str (ms.getD i ""))), none, none]) (fun i hi => tg_name (i := 4))
      (fun i H' => Deal d l H' ∧ (∀ a, H' a = none → H a = none) ∧ ∃ (s : List (List Str)) (xs : List V), H' rp = some (.lst xs) ∧ Tps K H' (s.map rD) xs ∧ s.length = hs.length ∧ RowsLe hs s ∧ List.Perm s.flatten (ms.take i))
      (fun H5 e5 => ⟨x2.2.1.of e5, fun a ha => x2.2.2.2 a (Ex.back e5 ha), List.replicate hs.length [], _, e5 _ _ hr2, ?_, by simp, fun j => ?_, by simp⟩) (fun H5 e5 i σ' H' H6 hi w1 I e6 s6 N hN => ?_) fun H5 e5 σ' H' w1 s6 I => ?_
    · have px5 : Tp K H5 (rD []) x := Tp.mono (Ex.im e5) _ _ px2
      rw [List.map_replicate]
      clear hr2
      generalize hs.length = n
      induction n with
      | zero => exact tps_nil
      | succ n ih => exact tps_cons px5 ih
    · rw [List.getD_eq_getElem?_getD, List.getElem?_replicate]
      split
      · exact Nat.zero_le _
      · exact Nat.zero_le _
    · obtain ⟨dl, bk, st, xs, hxs, hts, hsl, hle, hpm⟩ := I
      have dl6 := dl.of e6
      have hxs6 := e6 _ _ hxs
      have hts6 := Tps.mono e6.im _ _ hts
      have hgx : ∀ j, j < hs.length → ∃ y, xs[j]? = some y ∧ ∀ H', Im H6 H' → Tp K H' (rD (st.getD j [])) y := fun j hj => by
        have hj' : j < (st.map rD).length := by rw [List.length_map]; omega
        obtain ⟨y, hy, hty⟩ := hts6.get (List.getElem?_eq_getElem hj')
        refine ⟨y, hy, fun H' im => ?_⟩
        rw [List.getElem_map] at hty
        rw [getD_of [] (List.getElem?_eq_getElem (by omega : j < st.length))]
        exact Tp.mono im _ _ hty
      have hroom : ∃ j, j < hs.length ∧ (st.getD j []).length < hs.getD j 0 := rows_room st hs hsl (by rw [hpm.length_eq, List.length_take]; omega)
      refine q_asg (R := RX d l) (P := Pr.p fun v => ∃ j : Nat, v = .int (j : Nat) ∧ (j < hs.length ∧ (st.getD j []).length < hs.getD j 0)) s6 (Xd.refl dl6) (ev_l_ofN (C := fun ys _ => ys = ((List.range hs.length).filter fun j => decide ((st.getD j []).length < hs.getD j 0)).map fun (j : Nat) => V.int (j : Int)) (ev_var rfl) ?_ (fun ys H1 c => ?_) fun ys H1 H2 _ c v hv => ?_) fun σ7 H7 r7 s7 => ?_
      · have q := sr_enumT (K := K) (R := RX d l) (A := fun i => Pr.d K (.int (hs.getD i 0 : Nat))) (ev_var (i := 1) rfl : Ev (RX d l) (tVar 1) [some (Pr.v (.ref d)), some (Pr.d K (iD hs)), some (Pr.v (.ref p)), some (Pr.v (.ref rp)), some (Pr.v (.str (ms.getD i ""))), none, none] H6 (Pr.d K (iD hs))) fun i d h => by rw [hs_items h]
        rw [List.length_map] at q
        refine (ev_lc (fun j => decide ((st.getD j []).length < hs.getD j 0)) (fun j => Pr.v (.int (j : Nat))) q (by omega) (fun j => [some (Pr.v (.ref d)), some (Pr.d K (iD hs)), some (Pr.v (.ref p)), some (Pr.v (.ref rp)), some (Pr.v (.str (ms.getD i ""))), some (Pr.v (.int (j : Nat))), some (Pr.d K (.int (hs.getD j 0 : Nat)))]) (fun j hj => tg_pair (tg_name (i := 5)) (tg_name (i := 6))) (wp_pair2 (by simp) (by simp)) (fun j hj => ?_) fun j hj _ => ev_var (i := 5) rfl).imp fun ys H7 _ c => kept_v c
        obtain ⟨y, hy, hty⟩ := hgx j hj
        have q1 := ev_lenT (K := K) (R := RX d l) (H := H6) (env := [some (Pr.v (.ref d)), some (Pr.d K (iD hs)), some (Pr.v (.ref p)), some (Pr.v (.ref rp)), some (Pr.v (.str (ms.getD i ""))), some (Pr.v (.int (j : Nat))), some (Pr.d K (.int (hs.getD j 0 : Nat)))]) (ta := tOp (rIxL K) (tVar 3) (tVar 5)) (ds := (st.getD j []).map PyData.str) (ev_ixL (i := (j : Nat)) (x := y) (ev_var (i := 3) rfl) (ev_var (i := 5) rfl) (fun H7 x7 => .inl (.inl ((show Xd d l H6 H7 from x7).2.2.1 _ _ (dn _ hr0).1 (dn _ hr0).2 hxs6))) (L2.atI_nat hy) fun H7 x7 => hty H7 (show Xd d l H6 H7 from x7).im)
        rw [List.length_map] at q1
        have q2 := ev_I0 (g := fun i j => .bl (decide (i < j))) q1 (ev_int_v (K := K) (i := (hs.getD j 0 : Nat)) (ev_var (i := 6) rfl))
        refine et_is (et_test q2) ?_
        exact decide_eq_decide.mpr (by omega)
      · rw [show ys = _ from c, List.length_map]
        obtain ⟨j, h1, h2⟩ := hroom
        have hm : j ∈ (List.range hs.length).filter fun j => decide ((st.getD j []).length < hs.getD j 0) := List.mem_filter.mpr ⟨List.mem_range.mpr h1, decide_eq_true h2⟩
        have hfl := List.length_filter_le (fun j => decide ((st.getD j []).length < hs.getD j 0)) (List.range hs.length)
        rw [List.length_range] at hfl
        exact ⟨List.length_pos_of_mem hm, by omega⟩
      · rw [show ys = _ from c] at hv
        obtain ⟨j, hj, rfl⟩ := List.mem_map.mp hv
        obtain ⟨h1, h2⟩ := List.mem_filter.mp hj
        exact ⟨j, rfl, List.mem_range.mp h1, of_decide_eq_true h2⟩
      obtain ⟨v5, ⟨j, rfl, hj1, hj2⟩, s7⟩ := s7.pin (i := 5) rfl
      have x7 : Xd d l H6 H7 := r7
      obtain ⟨y, hy, hty⟩ := hgx j hj1
      have hxs7 : H7 rp = some (.lst xs) := x7.2.2.1 _ _ (dn _ hr0).1 (dn _ hr0).2 hxs6
      have hjl : (st.getD j []).length ≤ 10000 := by
        have h1 : st.getD j [] ∈ st := by
          rw [getD_of [] (List.getElem?_eq_getElem (by omega : j < st.length))]
          exact List.getElem_mem _
        have h2 : (st.getD j []).length ≤ st.flatten.length := by
          obtain ⟨a, b, hab⟩ := List.append_of_mem h1
          conv => rhs; rw [hab]
          simp only [List.flatten_append, List.flatten_cons, List.length_append]
          omega
        have h3 := hpm.length_eq
        rw [List.length_take] at h3
        omega
      have hcat := ev_catT (K := K) (R := RE) (H := H7) (env := [some (Pr.v (.ref d)), some (Pr.d K (iD hs)), some (Pr.v (.ref p)), some (Pr.v (.ref rp)), some (Pr.v (.str (ms.getD i ""))), some (Pr.v (.int (j : Nat))), none]) (ta := tOp (rIxL K) (tVar 3) (tVar 5)) (tb := tTup (tCons (tVar 4) tNil)) (ds := (st.getD j []).map PyData.str) (es := [.str (ms.getD i "")]) (ev_ixL (i := (j : Nat)) (x := y) (ev_var (i := 3) rfl) (ev_var (i := 5) rfl) (fun H8 e8 => .inl (.inl (e8 _ _ hxs7))) (L2.atI_nat hy) fun H8 e8 => hty H8 (x7.im.trans (Ex.im e8))) (ev_tupD (ea_cons (ev_v_str (ev_var (i := 4) rfl)) ea_nil) (show 1 ≤ 100000 by decide)) (by rw [List.length_map, List.length_singleton]; omega)
      refine hcat σ7 H7 (Ex.refl _) s7 _ fun v H8 e8 pv => ?_
      have s8 := s7.mono (Ex.im e8)
      obtain ⟨v3, hv3, pv3⟩ := s8.2 3 _ rfl
      cases (show v3 = .ref rp from pv3)
      obtain ⟨v5, hv5, pv5⟩ := s8.2 5 _ rfl
      cases (show v5 = .int (j : Nat) from pv5)
      have hxs8 : H8 rp = some (.lst xs) := e8 _ _ hxs7
      have hxl := hts.length
      rw [List.length_map, hsl] at hxl
      refine ⟨_, hv3, _, hv5, rp, xs, j, j, rfl, rfl, hxs8, by unfold ixN; rw [if_pos (by omega), if_pos (by omega), Int.toNat_natCast], ?_⟩
      have im := im_lst (o := .lst (xs.set j v)) hxs8
      have x8 : Xd d l H6 H8 := x7.trans (Xd.ofEx x7.2.1 e8)
      have himt : Im H6 (upd H8 rp (.lst (xs.set j v))) := x8.im.trans im
      refine hN _ _ ((e6.w.trans (x8.w (.inl rfl) (.inr (.inl rfl)))).trans (w_put im (.inr (.inr rfl)))) ((s8.mono im).wk (.s (.s (.s (.s (.n (.n (.s .nil)))))))) ⟨x8.2.1.put (dn _ hr0).1 (dn _ hr0).2, fun a ha => ?_, st.set j (st.getD j [] ++ [ms.getD i ""]), xs.set j v, upd_same, ?_, by rw [List.length_set]; exact hsl, fun q => ?_, ?_⟩
      · have n1 : a ≠ rp := fun z => by rw [z, upd_same] at ha; cases ha
        rw [upd_ne n1] at ha
        exact bk a (e6.back (x8.2.2.2 a ha))
      · rw [List.map_set]
        refine Tps.set j (Tps.mono himt _ _ hts6) ?_
        have pv' : Tp K H8 (.tuple ((st.getD j []).map PyData.str ++ [.str (ms.getD i "")])) v := pv
        have e : (st.getD j []).map PyData.str ++ [.str (ms.getD i "")] = (st.getD j [] ++ [ms.getD i ""]).map PyData.str := by rw [List.map_append]; rfl
        rw [e] at pv'
        exact Tp.mono im _ _ pv'
      · by_cases e : q = j
        · subst e
          rw [getD_of [] (List.getElem?_set_self (by omega)), List.length_append, List.length_singleton]
          omega
        · have e2 : (st.set j (st.getD j [] ++ [ms.getD i ""])).getD q [] = st.getD q [] := by
            rw [List.getD_eq_getElem?_getD, List.getElem?_set_ne (Ne.symm e), ← List.getD_eq_getElem?_getD]
          rw [e2]
          exact hle q
      · refine (flatten_set_perm st j _ (by omega)).trans ?_
        rw [List.take_add_one, List.getElem?_eq_getElem hi, getD_of _ (List.getElem?_eq_getElem hi)]
        exact List.Perm.append_right _ hpm
    · obtain ⟨dl, bk, st, xs, hxs, hts, hsl, hle, hpm⟩ := I
      rw [List.take_length] at hpm
      have hkeep : ∀ a o, a ≠ d → a ≠ l → H a = some o → H' a = some o := fun a o n1 n2 h => by
        refine w1.2 a o (fun z => ?_) (e5 _ _ (x2.2.2.1 a o n1 n2 h))
        rcases z with z | z | z
        · exact n1 z
        · exact n2 z
        · exact ne_of_none h hr0 z
      have xx : Xd d l H H' := ⟨r.1, dl, hkeep, bk⟩
      refine s_ret (R := RE) (P := Pr.d K (sD st)) s6 (Ex.refl _) (ev_tupleL (xs := xs) (ds := st.map rD) (ev_var (i := 3) rfl) (fun H7 e7 => .inl (.inl (e7 _ _ hxs))) hts) fun v H7 e7 pv => k v H7 (xx.trans (Xd.ofEx dl e7)) ⟨st, pv, hsl, hle, hpm.trans pmm⟩⟩
end Sd

set_option Elab.async false
set_option linter.all false
set_option maxRecDepth 100000
set_option maxHeartbeats 2000000
/-! Sp14: the first parting, a standing changed. -/
namespace Sd
open PySem PySem.Spec PyProof.Rows L2
theorem deep_get {hs : List Nat} {s : List (List Str)} (hl : s.length = hs.length) {i : Nat} (hi : i < hs.length) : (deep hs s)[i]? = some ((s.getD i []).take ((dps hs (cnt s)).getD i 0)) := by
  have h1 : i < s.length := by omega
  unfold deep dps
  rw [List.getElem?_zipWith, List.getElem?_eq_getElem h1, List.getElem?_eq_getElem hi]
  rw [getD_of [] (List.getElem?_eq_getElem h1), getD_of 0 (show (List.map (fun h => h - (hs.sum - cnt s)) hs)[i]? = some (hs[i] - (hs.sum - cnt s)) by rw [List.getElem?_map, List.getElem?_eq_getElem hi]; rfl)]
theorem deep_len {hs : List Nat} {s : List (List Str)} (hl : s.length = hs.length) : (deep hs s).length = hs.length := by
  unfold deep
  rw [List.length_zipWith]
  omega
theorem rows_full : ∀ (s : List (List Str)) (hs : List Nat), s.length = hs.length → (∀ (i : Nat) (r : List Str) (h : Nat), s[i]? = some r → hs[i]? = some h → r.length ≤ h) → ∀ i, cnt s + hs.getD i 0 ≤ hs.sum + (s.getD i []).length
  | [], [], _, _, i => by simp [cnt]
  | [], _ :: _, e, _, _ => by simp at e
  | _ :: _, [], e, _, _ => by simp at e
  | r :: s, h :: hs, e, k, 0 => by
    have ih := rows_le s hs (by simpa using e) fun i r' h' e1 e2 => k (i + 1) r' h' (by simpa using e1) (by simpa using e2)
    show r.length + cnt s + h ≤ h + hs.sum + r.length
    omega
  | r :: s, h :: hs, e, k, i + 1 => by
    have h0 := k 0 r h rfl rfl
    have ih := rows_full s hs (by simpa using e) (fun i r' h' e1 e2 => k (i + 1) r' h' (by simpa using e1) (by simpa using e2)) i
    show r.length + cnt s + hs.getD i 0 ≤ h + hs.sum + (s.getD i []).length
    omega
theorem dps_getD (hs : List Nat) (n i : Nat) : (dps hs n).getD i 0 = hs.getD i 0 - (hs.sum - n) := by
  unfold dps
  rw [List.getD_eq_getElem?_getD, List.getD_eq_getElem?_getD, List.getElem?_map]
  cases hs[i]? <;> simp
theorem deep_full {hs : List Nat} {s : List (List Str)} (v : Valid hs s) (i : Nat) : (dps hs (cnt s)).getD i 0 ≤ (s.getD i []).length := by
  have h1 := rows_full s hs v.1 v.2.1 i
  have h2 := v.cnt_le
  rw [dps_getD]
  omega
theorem dps_len (hs : List Nat) (n : Nat) : (dps hs n).length = hs.length := List.length_map ..
variable {P : Program} {w : World} {K : PySem.W.Frag} {mg : Str → Option Value} {base : Heap} {B : Adr}
def sp_l_parting (K : PySem.W.Frag) : Sp := spR 3 (fun _ : List Nat × List (List Str) × List (List Str) => RE)
  (fun a vs H => (a.1.length ≤ 1000 ∧ a.1.sum ≤ 1000) ∧ (Valid a.1 a.2.1 ∧ Valid a.1 a.2.2 ∧ cnt a.2.1 = cnt a.2.2) ∧ ∃ p u v, vs = [.ref p, u, v] ∧ H p = some (.lst (intL (dps a.1 (cnt a.2.1)))) ∧ Tp K H (sD a.2.1) u ∧ Tp K H (sD a.2.2) v)
  (fun a v _ H' => Tp K H' (pD (pdiff (deep a.1 a.2.1) (deep a.1 a.2.2))) v)
theorem sum_ge (hs : List Nat) (i : Nat) : hs.getD i 0 ≤ hs.sum := by
  induction hs generalizing i with
  | nil => simp
  | cons h hs ih =>
    cases i with
    | zero => simp
    | succ i =>
      have := ih i
      show hs.getD i 0 ≤ h + hs.sum
      omega
theorem ok_l_parting (T : Txt P K mg B) : FnOk P w K mg base CX0 1 B.a_l_parting B.d_l_parting ["_law_depths_here", "_law_one", "_law_other"] (sp_l_parting K) :=
  T.F_l_parting.ok sc_l_parting (spR_len rfl) fun cdv A outer s H vs Q E hr h => ⟨_, der_l_parting T hr, by
    obtain ⟨_, ⟨hs, st, tt⟩, r, ⟨⟨hl, hsum⟩, ⟨v1, v2, hcn⟩, p, u, v, rfl, hp, hu, hv⟩, k⟩ := h
    have hl' : hs.length ≤ 1000 := hl
    have hsum' : hs.sum ≤ 1000 := hsum
    have v1' : Valid hs st := v1
    have v2' : Valid hs tt := v2
    have hcn' : cnt st = cnt tt := hcn
    have hdl : (dps hs (cnt st)).length = hs.length := dps_len _ _
    have s0 : Slots (start N_l_parting [V.ref p, u, v]) [some (Pr.v (.ref p)), some (Pr.d K (sD st)), some (Pr.d K (sD tt)), none, none, none] H := start_slots (Ps := [Pr.v (.ref p), Pr.d K (sD st), Pr.d K (sD tt)]) (.cons rfl (.cons hu (.cons hv .nil))) rfl
    have hp' : H p = some (.lst (intL (dps hs (cnt st)))) := hp
    have sq := sq_enumL (K := K) (S := RE) (M := fun _ => False) (A := fun i => Pr.v (.int ((dps hs (cnt st)).getD i 0 : Nat))) (env := [some (Pr.v (.ref p)), some (Pr.d K (sD st)), some (Pr.d K (sD tt)), none, none, none]) (H := H) (xs := intL (dps hs (cnt st))) (ev_var (i := 0) rfl) (fun H' e => e _ _ hp') (fun z => z) fun H1 _ i x H' hx _ => by
      unfold intL at hx
      rw [List.getElem?_map] at hx
      cases hz : (dps hs (cnt st))[i]? with
      | none => rw [hz] at hx; cases hx
      | some z =>
        rw [hz] at hx
        cases hx
        show V.int (z : Nat) = _
        rw [getD_of 0 hz]
    rw [intL_len, hdl] at sq
    refine q_for sq s0 (Ex.refl _) [some (Pr.v (.ref p)), some (Pr.d K (sD st)), some (Pr.d K (sD tt)), none, none, none] (.s (.s (.s (.s (.s (.s .nil)))))) (fun i => [some (Pr.v (.ref p)), some (Pr.d K (sD st)), some (Pr.d K (sD tt)), some (Pr.v (.int (i : Nat))), some (Pr.v (.int ((dps hs (cnt st)).getD i 0 : Nat))), none]) (fun i hi => tg_pair (tg_name (i := 3)) (tg_name (i := 4)))
      (fun i H' => Ex H H' ∧ pdiff (deep hs st) (deep hs tt) = (pdiff ((deep hs st).drop i) ((deep hs tt).drop i)).map fun p => (p.1 + i, p.2)) (fun H4 e4 => ⟨e4, by simp⟩) (fun H4 e4 i σ' H' H5 hi w1 I e5 s5 N hN => ?_) fun H4 e4 σ' H' w1 s4 I => ?_
    · obtain ⟨x0, hpd⟩ := I
      have ga := deep_get v1'.1 hi
      have gb := deep_get v2'.1 hi
      rw [← hcn'] at gb
      have hp2 := pdiff_step ga gb
      have f1 := deep_full v1' i
      have f2 := deep_full v2' i
      rw [← hcn'] at f2
      have hdb : (dps hs (cnt st)).getD i 0 ≤ 1000 := by
        rw [dps_getD]
        have := sum_ge hs i
        omega
      have ra : (st.map rD)[i]? = some (rD (st.getD i [])) := by
        rw [List.getElem?_map, List.getElem?_eq_getElem (by rw [v1'.1]; exact hi), getD_of [] (List.getElem?_eq_getElem (by rw [v1'.1]; exact hi))]
        rfl
      have rb : (tt.map rD)[i]? = some (rD (tt.getD i [])) := by
        rw [List.getElem?_map, List.getElem?_eq_getElem (by rw [v2'.1]; exact hi), getD_of [] (List.getElem?_eq_getElem (by rw [v2'.1]; exact hi))]
        rfl
      generalize st.getD i [] = xa at *
      generalize tt.getD i [] = xb at *
      generalize (dps hs (cnt st)).getD i 0 = D at *
      have sq2 := sq_rng1 (S := RE) (M := fun _ => False) (env := [some (Pr.v (.ref p)), some (Pr.d K (sD st)), some (Pr.d K (sD tt)), some (Pr.v (.int (i : Nat))), some (Pr.v (.int (D : Nat))), none]) (H := H5) (ev_var (i := 4) (P := Pr.v (.int (D : Nat))) rfl) (by omega) (by omega)
      rw [Int.toNat_natCast] at sq2
      refine s_for sq2 s5 (Ex.refl _) [some (Pr.v (.ref p)), some (Pr.d K (sD st)), some (Pr.d K (sD tt)), some (Pr.v (.int (i : Nat))), some (Pr.v (.int (D : Nat))), none] (.s (.s (.s (.s (.s (.s .nil)))))) (fun j => [some (Pr.v (.ref p)), some (Pr.d K (sD st)), some (Pr.d K (sD tt)), some (Pr.v (.int (i : Nat))), some (Pr.v (.int (D : Nat))), some (Pr.v (.int (j : Nat)))]) (fun j hj => tg_name (i := 5))
        (fun j H' => Ex H H' ∧ rowDiff (xa.take D) (xb.take D) = (rowDiff ((xa.take D).drop j) ((xb.take D).drop j)).map fun p => p + j) (fun H6 e6 => ⟨(x0.trans e5).trans e6, by simp⟩) (fun H6 e6 j σ7 H7 H8 hj w7 I7 e8 s8 N8 hN8 => ?_) fun H6 e6 σ7 H7 w7 s7 I7 => ?_
      · obtain ⟨x7, hr⟩ := I7
        have ha2 : xa[j]? = some (xa.getD j ⟨#[]⟩) := by
          rw [List.getD_eq_getElem?_getD, List.getElem?_eq_getElem (by omega)]
          rfl
        have hb2 : xb[j]? = some (xb.getD j ⟨#[]⟩) := by
          rw [List.getD_eq_getElem?_getD, List.getElem?_eq_getElem (by omega)]
          rfl
        have h1 : (xa.take D)[j]? = some (xa.getD j ⟨#[]⟩) := by rw [List.getElem?_take, if_pos hj, ha2]
        have h2 : (xb.take D)[j]? = some (xb.getD j ⟨#[]⟩) := by rw [List.getElem?_take, if_pos hj, hb2]
        have hr2 := rowDiff_step h1 h2
        generalize xa.getD j ⟨#[]⟩ = ya at *
        generalize xb.getD j ⟨#[]⟩ = yb at *
        have x8 := x7.trans e8
        have evA : Ev RE (tOp (rIxT K) (tOp (rIxT K) (tVar 1) (tVar 3)) (tVar 5)) [some (Pr.v (.ref p)), some (Pr.d K (sD st)), some (Pr.d K (sD tt)), some (Pr.v (.int (i : Nat))), some (Pr.v (.int (D : Nat))), some (Pr.v (.int (j : Nat)))] H8 (Pr.d K (.str ya)) :=
          ev_ixT (ds := xa.map PyData.str) (i := (j : Nat)) (ev_ixT (ds := st.map rD) (d := rD xa) (i := (i : Nat)) (ev_var (i := 1) rfl) (ev_var (i := 3) rfl) (L2.atI_nat ra)) (ev_var (i := 5) rfl) (L2.atI_nat (by rw [List.getElem?_map, ha2]; rfl))
        have evB : Ev RE (tOp (rIxT K) (tOp (rIxT K) (tVar 2) (tVar 3)) (tVar 5)) [some (Pr.v (.ref p)), some (Pr.d K (sD st)), some (Pr.d K (sD tt)), some (Pr.v (.int (i : Nat))), some (Pr.v (.int (D : Nat))), some (Pr.v (.int (j : Nat)))] H8 (Pr.d K (.str yb)) :=
          ev_ixT (ds := xb.map PyData.str) (i := (j : Nat)) (ev_ixT (ds := tt.map rD) (d := rD xb) (i := (i : Nat)) (ev_var (i := 2) rfl) (ev_var (i := 3) rfl) (L2.atI_nat rb)) (ev_var (i := 5) rfl) (L2.atI_nat (by rw [List.getElem?_map, hb2]; rfl))
        refine s_if (R := RE) s8 (Ex.refl _) (et_test (ev_neS (x := .str ya) (y := .str yb) (ev_str_v evA) (ev_str_v evB) rfl)) (fun hne H9 e9 s9 => ?_) fun heq H9 e9 s9 => ?_
        · have hne' : ya ≠ yb := fun z => by
            subst z
            rw [decide_eq_true rfl] at hne
            cases hne
          rw [if_neg hne'] at hr2
          rw [hr2] at hr
          have hr' : rowDiff (xa.take D) (xb.take D) = some j := by
            rw [hr]
            simp
          rw [hr'] at hp2
          rw [hp2] at hpd
          have hpd' : pdiff (deep hs st) (deep hs tt) = some (i, j) := by
            rw [hpd]
            simp
          refine s_ret (R := RE) (P := Pr.d K (.tuple [.int (i : Nat), .int (j : Nat)])) s9 (Ex.refl _) (ev_tupD (ds := [.int (i : Nat), .int (j : Nat)]) (ea_cons (ev_v_int (ev_var (i := 3) rfl)) (ea_cons (ev_v_int (ev_var (i := 5) rfl)) ea_nil)) (show 2 ≤ 100000 by decide)) fun v' H10 e10 p => ?_
          refine k v' H10 ((x8.trans e9).trans e10) ?_
          show Tp K H10 (pD (pdiff (deep hs st) (deep hs tt))) v'
          rw [hpd']
          exact p
        · have heq' : ya = yb := by
            rw [Bool.not_eq_false', decide_eq_true_eq] at heq
            exact V.str.inj heq
          rw [if_pos heq'] at hr2
          rw [hr2] at hr
          refine hN8 _ _ (e8.trans e9).w (s9.wk (.s (.s (.s (.s (.s (.n .nil))))))) ⟨x8.trans e9, ?_⟩
          rw [hr]
          cases rowDiff ((xa.take D).drop (j + 1)) ((xb.take D).drop (j + 1)) with
          | none => rfl
          | some q =>
            simp
            omega
      · obtain ⟨x7, hr⟩ := I7
        rw [rowDiff_end (by rw [List.length_take, List.length_take]; omega)] at hr
        have hr' : rowDiff (xa.take D) (xb.take D) = none := hr
        rw [hr'] at hp2
        rw [hp2] at hpd
        refine hN _ _ ((e5.trans e6).w.trans w7) (s7.wk (.s (.s (.s (.n (.n (.s .nil))))))) ⟨x7, ?_⟩
        rw [hpd]
        cases pdiff ((deep hs st).drop (i + 1)) ((deep hs tt).drop (i + 1)) with
        | none => rfl
        | some q =>
          simp
          omega
    · obtain ⟨x0, hpd⟩ := I
      rw [pdiff_end (by rw [deep_len v1'.1, deep_len v2'.1]; omega)] at hpd
      refine s_ret (R := RE) s4 (Ex.refl _) (ev_cv (v := .non)) fun v' H5 e5 p => k v' H5 (x0.trans e5) ?_
      show Tp K H5 (pD (pdiff (deep hs st) (deep hs tt))) v'
      rw [hpd, show v' = .non from p]
      exact tp_none (K := K) (H := H5)⟩
/-! ### one box under another name -/
def chg (s : List (List Str)) (b n : Str) : List (List Str) := s.map fun r => r.map fun x => if x = b then n else x
def sp_l_changed (K : PySem.W.Frag) : Sp := spR 3 (fun _ : List (List Str) × Str × Str => RE) (fun a vs H => (a.1.length ≤ 1000 ∧ ∀ r ∈ a.1, r.length ≤ 1000) ∧ ∃ v, vs = [v, .str a.2.1, .str a.2.2] ∧ Tp K H (sD a.1) v) (fun a v _ H' => Tp K H' (sD (chg a.1 a.2.1 a.2.2)) v)
theorem ok_l_changed (T : Txt P K mg B) : FnOk P w K mg base CX0 1 B.a_l_changed B.d_l_changed ["_law_one", "_law_box", "_law_name"] (sp_l_changed K) :=
  T.F_l_changed.ok sc_l_changed (spR_len rfl) fun cdv A outer s H vs Q E hr h => ⟨_, der_l_changed T hr, by
    obtain ⟨_, ⟨st, b, n⟩, r, ⟨⟨hl, hl2⟩, v, rfl, hv⟩, k⟩ := h
    have hl' : st.length ≤ 1000 := hl
    have hl2' : ∀ r ∈ st, r.length ≤ 1000 := hl2
    have s0 : Slots (start N_l_changed [v, V.str b, V.str n]) [some (Pr.d K (sD st)), some (Pr.v (.str b)), some (Pr.v (.str n)), none, none] H := start_slots (Ps := [Pr.d K (sD st), Pr.v (.str b), Pr.v (.str n)]) (.cons hv (.cons rfl (.cons rfl .nil))) rfl
    have q := sr_tup (K := K) (R := RE) (Iz := fun i => Pr.d K (rD (st.getD i []))) (ev_var (i := 0) rfl : Ev RE (tVar 0) [some (Pr.d K (sD st)), some (Pr.v (.str b)), some (Pr.v (.str n)), none, none] H (Pr.d K (sD st))) fun i d h => by
      obtain ⟨m, hm, rfl⟩ := sD_get h
      rw [getD_of [] hm]
    rw [List.length_map] at q
    refine s_ret (R := RE) (P := Pr.d K (sD (chg st b n))) s0 (Ex.refl _) (ev_tupleN (ev_lc (fun _ => true) (fun i => Pr.d K (rD ((st.getD i []).map fun x => if x = b then n else x))) q (by omega) (fun i => [some (Pr.d K (sD st)), some (Pr.v (.str b)), some (Pr.v (.str n)), some (Pr.d K (rD (st.getD i []))), none]) (fun i hi => tg_name (i := 3)) (wp_name (by simp)) (fun i hi => et_yes) fun i hi _ => ?_) fun xs H1 c => kept_data (by simp [chg]) (fun i d h => ?_) c) fun v H1 e p => k v H1 e p
    · have hm : (st.getD i []).length ≤ 1000 := by
        rw [getD_of [] (List.getElem?_eq_getElem hi)]
        exact hl2' _ (List.getElem_mem hi)
      generalize st.getD i [] = row at *
      have q2 := sr_tup (K := K) (R := RE) (Iz := fun j => Pr.d K (.str (row.getD j ""))) (ev_var (i := 3) rfl : Ev RE (tVar 3) [some (Pr.d K (sD st)), some (Pr.v (.str b)), some (Pr.v (.str n)), some (Pr.d K (rD row)), none] H (Pr.d K (rD row))) fun j d h => by
        rw [List.getElem?_map] at h
        cases e : row[j]? with
        | none => rw [e] at h; cases h
        | some z =>
          rw [e] at h
          cases h
          rw [getD_of _ e]
      rw [List.length_map] at q2
      refine ev_tupleN (ev_lc (fun _ => true) (fun j => Pr.d K (.str (if row.getD j "" = b then n else row.getD j ""))) q2 (by omega) (fun j => [some (Pr.d K (sD st)), some (Pr.v (.str b)), some (Pr.v (.str n)), some (Pr.d K (rD row)), some (Pr.d K (.str (row.getD j "")))]) (fun i hi => tg_name (i := 4)) (wp_name (by simp)) (fun i hi => et_yes) fun j hj _ => ?_) fun xs H1 c => kept_data (by simp) (fun j d h => ?_) c
      · refine ev_if (et_test (ev_eqS (x := .str (row.getD j "")) (y := .str b) (ev_str_v (K := K) (ev_var (i := 4) rfl)) (ev_var (i := 1) rfl) rfl)) (fun hb => ?_) fun hb => ?_
        · have e : row.getD j "" = b := V.str.inj (of_decide_eq_true hb)
          rw [if_pos e]
          exact ev_v_str (ev_var (i := 2) rfl)
        · have e : ¬ row.getD j "" = b := fun z => by
            rw [z] at hb
            exact absurd rfl (of_decide_eq_false hb)
          rw [if_neg e]
          exact ev_var (i := 4) rfl
      · rw [List.getElem?_map, List.getElem?_map] at h
        cases e : row[j]? with
        | none => rw [e] at h; cases h
        | some z =>
          rw [e] at h
          cases h
          rw [getD_of _ e]
    · unfold chg at h
      rw [List.getElem?_map, List.getElem?_map] at h
      cases e : st[i]? with
      | none => rw [e] at h; cases h
      | some z =>
        rw [e] at h
        cases h
        rw [getD_of [] e]⟩
end Sd

set_option Elab.async false
set_option linter.all false
set_option maxRecDepth 100000
set_option maxHeartbeats 2000000
/-! Sp15: refusals heard. -/
namespace Sd
open PySem PySem.Spec PyProof.Rows L2
theorem s_callS {R : Rl} {env : Env'} {H : Hp} {σ : L2.St} {t : TA} {Ps : List Pr} {sp : Sp} {E : L2.St → XK} {D : Ends} (s : Slots σ env H) (r : R.r H H) (ha : EvA R t env H Ps) (k : ∀ vs H1, R.r H H1 → Vs Ps vs H1 → sp vs H1 (fun _ H2 => D.nx σ H2) (E σ)) : tDrop (tCallS sp E t) D σ H :=
  ha σ H r s _ fun vs H1 r1 pv => k vs H1 r1 pv
theorem run_suite {C a : Addr} {i : Nat} {f : Str} {cls : Value} {d : Option Addr} {D : Ends} {σ : L2.St} {H : Hp} (h : tVar i σ H fun x H1 => x = .ref a ∧ cls = .ref C ∧ ∃ (dd : Addr) (fs : List (Str × V)) (v : V), d = some dd ∧ H1 dd = some (.xd fs) ∧ fs.lookup f = some v ∧ D.rt v H1) : t_suite C i f a cls d D σ H := h
variable {P : Program} {w : World} {K : PySem.W.Frag} {mg : Str → Option Value} {base : Heap} {B : Adr}
open Classical in
noncomputable def refD (s t : List (List Str)) : PyData := if SameB s t then .none else .str "boxes"
theorem refD_same {s t : List (List Str)} (h : SameB s t) : refD s t = .none := if_pos h
theorem refD_not {s t : List (List Str)} (h : ¬ SameB s t) : refD s t = .str "boxes" := if_neg h
def sp_l_refused (K : PySem.W.Frag) (B : Adr) : Sp := spR 3 (fun _ : Addr × List Nat × List (List Str) × List (List Str) => RE) (fun a vs H => a.2.1.length ≤ 1000 ∧ Yd K B H a.1 a.2.1 ∧ ∃ u v, vs = [.ref a.1, u, v] ∧ StV K H a.2.1 u a.2.2.1 ∧ StV K H a.2.1 v a.2.2.2) (fun a v _ H' => Tp K H' (refD a.2.2.1 a.2.2.2) v)
theorem ok_l_refused (T : Txt P K mg B) : FnOk P w K mg base CX0 7 B.a_l_refused B.d_l_refused ["_law_yard", "_law_one", "_law_other"] (sp_l_refused K B) :=
  T.F_l_refused.ok sc_l_refused (spR_len rfl) fun cdv A outer s H vs Q E hr h => ⟨_, der_l_refused T (ok_parting_place T) hr, by
    obtain ⟨_, ⟨y, hs, st, tt⟩, r, ⟨hl, hy, u, v, rfl, hu, hv⟩, k⟩ := h
    have s0 : Slots (start N_l_refused [V.ref y, u, v]) [some (Pr.v (.ref y)), some (Pr.v u), some (Pr.v v), none] H := start_slots (Ps := [Pr.v (.ref y), Pr.v u, Pr.v v]) (.cons rfl (.cons rfl (.cons rfl .nil))) rfl
    generalize start N_l_refused [V.ref y, u, v] = σ0 at s0
    refine s_callS (R := RE) s0 (Ex.refl _) (ea_cons (ev_var (i := 0) rfl) (ea_cons (ev_var (i := 1) rfl) (ea_cons (ev_var (i := 2) rfl) ea_nil))) fun vs H1 e1 pv => ?_
    obtain ⟨a, b, c, rfl, pa, pb, pc⟩ := vs3 pv
    rw [show a = .ref y from pa, show b = u from pb, show c = v from pc]
    refine ⟨y, hs, u, v, rfl, Yd.ex hy e1, hl, .inl ⟨st, tt, StV.ex hu e1, StV.ex hv e1, ?_⟩⟩
    by_cases hsb : SameB st tt
    · refine .inl ⟨hsb, fun v' H2 e2 _ => ?_⟩
      show tRet (tC .non) { nx := fun _ H' => Q .non H', rt := Q } σ0 H2
      refine s_ret (R := RE) (s0.mono (Ex.im (Ex.trans e1 e2))) (Ex.refl _) (ev_cv (v := .non)) fun v3 H3 e3 p => k v3 H3 (Ex.trans (Ex.trans e1 e2) e3) ?_
      show Tp K H3 (refD st tt) v3
      rw [refD_same hsb, show v3 = .non from p]
      exact tp_none
    · refine .inr ⟨hsb, fun d H2 e2 hd => ⟨true, T.te_Refused, fun _ a ha => ?_, fun z => nomatch z⟩⟩
      have e12 : Ex H H2 := Ex.trans e1 e2
      have s2 := Slots.set (i := 3) (v := .ref a) (P := Pr.v (.ref a)) (s0.mono (Ex.im e12)) rfl
      refine run_suite ?_
      refine ev_var (R := RE) (i := 3) (P := Pr.v (.ref a)) (env := [some (Pr.v (.ref y)), some (Pr.v u), some (Pr.v v), some (Pr.v (.ref a))]) rfl _ H2 (Ex.refl _) s2 _ fun x H3 e3 px => ?_
      refine ⟨px, rfl, d, _, .str "boxes", rfl, e3 _ _ hd, rfl, ?_⟩
      refine k _ H3 (Ex.trans e12 e3) ?_
      show Tp K H3 (refD st tt) _
      rw [refD_not hsb]
      exact tp_str⟩
def sp_l_heard (K : PySem.W.Frag) (B : Adr) : Sp := spR 4 (fun _ : Addr × List Nat × List (List Str) × Int => RE) (fun a vs H => a.2.1.length ≤ 1000 ∧ Yd K B H a.1 a.2.1 ∧ ∃ u v j, vs = [.ref a.1, u, v, .int j] ∧ StV K H a.2.1 u a.2.2.1 ∧ BadV K H a.2.1 v a.2.2.2) (fun a v _ _ => v = .int a.2.2.2)
theorem ok_l_heard (T : Txt P K mg B) : FnOk P w K mg base CX0 7 B.a_l_heard B.d_l_heard ["_law_yard", "_law_one", "_law_value", "_law_work"] (sp_l_heard K B) :=
  T.F_l_heard.ok sc_l_heard (spR_len rfl) fun cdv A outer s H vs Q E hr h => ⟨_, der_l_heard T (ok_deep_part T) (ok_same_class T) (ok_parting_place T) hr, by
    obtain ⟨_, ⟨y, hs, st, pl⟩, r, ⟨hl, hy, u, v, j, rfl, hu, hv⟩, k⟩ := h
    have hl' : hs.length ≤ 1000 := hl
    have hy' : Yd K B H y hs := hy
    have hu' : StV K H hs u st := hu
    have hv' : BadV K H hs v pl := hv
    have s0 : Slots (start N_l_heard [V.ref y, u, v, V.int j]) [some (Pr.v (.ref y)), some (Pr.v u), some (Pr.v v), some (Pr.v (.int j)), none] H := start_slots (Ps := [Pr.v (.ref y), Pr.v u, Pr.v v, Pr.v (.int j)]) (.cons rfl (.cons rfl (.cons rfl (.cons rfl .nil)))) rfl
    generalize start N_l_heard [V.ref y, u, v, V.int j] = σ0 at s0
    have hW : ∀ (D : Ends) (H1 : Hp), Ex H H1 → (∀ v H', Ex H H' → v = .int pl → D.rt v H') → AtErr B (WE (wAs K (.ref B.C_InvalidStanding) 4 (t_suite B.C_InvalidStanding 4 "at") (fun _ _ _ _ => False) D) σ0) H1 pl := fun D H1 e1 kD d H2 e2 hd => ⟨true, T.te_InvalidStanding, fun _ a ha => by
      have e12 : Ex H H2 := Ex.trans e1 e2
      have s2 := Slots.set (i := 4) (v := .ref a) (P := Pr.v (.ref a)) (s0.mono (Ex.im e12)) rfl
      refine run_suite ?_
      refine ev_var (R := RE) (i := 4) (P := Pr.v (.ref a)) (env := [some (Pr.v (.ref y)), some (Pr.v u), some (Pr.v v), some (Pr.v (.int j)), some (Pr.v (.ref a))]) rfl _ H2 (Ex.refl _) s2 _ fun x H3 e3 px => ?_
      exact ⟨px, rfl, d, _, .int pl, rfl, e3 _ _ hd, rfl, kD _ H3 (Ex.trans e12 e3) rfl⟩, fun z => nomatch z⟩
    have kk : ∀ v H', Ex H H' → v = .int pl → Q v H' := fun v H' e p => k v H' e p
    refine s_if (R := RE) s0 (Ex.refl _) (et_test (ev_eqS (x := .int j) (y := .int 0) (ev_var (i := 3) rfl) ev_cv rfl)) (fun _ H1 e1 s1 => ?_) fun _ H1 e1 s1 => s_if (R := RE) s1 (Ex.refl _) (et_test (ev_eqS (x := .int j) (y := .int 1) (ev_var (i := 3) rfl) ev_cv rfl)) (fun _ H2 e2 s2 => ?_) fun _ H2 e2 s2 => s_if (R := RE) s2 (Ex.refl _) (et_test (ev_eqS (x := .int j) (y := .int 2) (ev_var (i := 3) rfl) ev_cv rfl)) (fun _ H3 e3 s3 => ?_) fun _ H3 e3 s3 => s_if (R := RE) s3 (Ex.refl _) (et_test (ev_eqS (x := .int j) (y := .int 3) (ev_var (i := 3) rfl) ev_cv rfl)) (fun _ H4 e4 s4 => ?_) fun _ H4 e4 s4 => ?_
    · refine s_callS (R := RE) s1 (Ex.refl _) (ea_cons (ev_var (i := 0) rfl) (ea_cons (ev_var (i := 2) rfl) ea_nil)) fun vs H5 e5 pv => ?_
      obtain ⟨a, b, rfl, pa, pb⟩ := vs2 pv
      rw [show a = .ref y from pa, show b = v from pb]
      have e : Ex H H5 := Ex.trans e1 e5
      exact ⟨y, hs, v, rfl, hy'.ex e, hl', .inr ⟨pl, NsAt.ex hv' e, hW _ _ e kk⟩⟩
    · refine s_callS (R := RE) s2 (Ex.refl _) (ea_cons (ev_var (i := 0) rfl) (ea_cons (ev_var (i := 2) rfl) (ea_cons (ev_cv (v := .non)) ea_nil))) fun vs H5 e5 pv => ?_
      obtain ⟨a, b, c, rfl, pa, pb, pc⟩ := vs3 pv
      rw [show a = .ref y from pa, show b = v from pb]
      have e : Ex H H5 := Ex.trans (Ex.trans e1 e2) e5
      exact ⟨y, hs, v, c, rfl, hy'.ex e, hl', .inr (.inl ⟨pl, NsAt.ex hv' e, hW _ _ e kk⟩)⟩
    · refine s_callS (R := RE) s3 (Ex.refl _) (ea_cons (ev_var (i := 0) rfl) (ea_cons (ev_var (i := 1) rfl) (ea_cons (ev_var (i := 2) rfl) ea_nil))) fun vs H5 e5 pv => ?_
      obtain ⟨a, b, c, rfl, pa, pb, pc⟩ := vs3 pv
      rw [show a = .ref y from pa, show b = u from pb, show c = v from pc]
      have e : Ex H H5 := Ex.trans (Ex.trans (Ex.trans e1 e2) e3) e5
      exact ⟨y, hs, u, v, rfl, hy'.ex e, hl', .inr (.inr ⟨st, pl, hu'.ex e, NsAt.ex hv' e, hW _ _ e kk⟩)⟩
    · refine s_callS (R := RE) s4 (Ex.refl _) (ea_cons (ev_var (i := 0) rfl) (ea_cons (ev_var (i := 2) rfl) (ea_cons (ev_cv (v := .non)) ea_nil))) fun vs H5 e5 pv => ?_
      obtain ⟨a, b, c, rfl, pa, pb, pc⟩ := vs3 pv
      rw [show a = .ref y from pa, show b = v from pb]
      have e : Ex H H5 := Ex.trans (Ex.trans (Ex.trans (Ex.trans e1 e2) e3) e4) e5
      exact ⟨y, hs, v, c, rfl, hy'.ex e, hl', .inr (.inl ⟨pl, NsAt.ex hv' e, hW _ _ e kk⟩)⟩
    · refine s_callS (R := RE) s4 (Ex.refl _) (ea_cons (ev_var (i := 0) rfl) (ea_cons (ev_var (i := 1) rfl) (ea_cons (ev_var (i := 2) rfl) ea_nil))) fun vs H5 e5 pv => ?_
      obtain ⟨a, b, c, rfl, pa, pb, pc⟩ := vs3 pv
      rw [show a = .ref y from pa, show b = u from pb, show c = v from pc]
      have e : Ex H H5 := Ex.trans (Ex.trans (Ex.trans (Ex.trans e1 e2) e3) e4) e5
      exact ⟨y, hs, u, v, rfl, hy'.ex e, hl', .inr (.inr ⟨st, pl, hu'.ex e, NsAt.ex hv' e, hW _ _ e kk⟩)⟩⟩
end Sd

set_option Elab.async false
set_option linter.all false
set_option maxRecDepth 100000
set_option maxHeartbeats 2000000
/-! Sp16: tools for bent standings. -/
namespace Sd
open PySem PySem.Spec PyProof.Rows L2
theorem rowGo_some : ∀ (ds : List PyData) (seen out : List Str), rowGo ds seen = some out → ∃ r : List Str, ds = r.map PyData.str ∧ (∀ x ∈ r, nameOk x = true) ∧ (∀ x ∈ r, x ∉ seen) ∧ r.Nodup
  | [], seen, out, h => ⟨[], rfl, fun _ z => by simp at z, fun _ z => by simp at z, List.nodup_nil⟩
  | .str x :: ds, seen, out, h => by
    unfold rowGo at h
    by_cases c : nameOk x = true ∧ x ∉ seen
    · rw [if_pos c] at h
      obtain ⟨r, h1, h2, h3, h4⟩ := rowGo_some ds _ out h
      subst h1
      refine ⟨x :: r, rfl, fun y hy => ?_, fun y hy => ?_, ?_⟩
      · rcases List.mem_cons.mp hy with rfl | hy
        · exact c.1
        · exact h2 y hy
      · rcases List.mem_cons.mp hy with rfl | hy
        · exact c.2
        · exact fun z => h3 y hy (List.mem_append_left _ z)
      · refine List.nodup_cons.mpr ⟨fun z => h3 x z (by simp), h4⟩
    · rw [if_neg c] at h
      cases h
  | .none :: ds, _, _, h => by simp [rowGo] at h
  | .bool _ :: ds, _, _, h => by simp [rowGo] at h
  | .int _ :: ds, _, _, h => by simp [rowGo] at h
  | .tuple _ :: ds, _, _, h => by simp [rowGo] at h
  | .list _ :: ds, _, _, h => by simp [rowGo] at h
  | .dict _ :: ds, _, _, h => by simp [rowGo] at h
/-- a thing that spoils the row -/
def BadB (row E : List Str) (d : PyData) : Prop := shortD d ∧ (nameD d = false ∨ ∃ x, d = .str x ∧ (x ∈ E ∨ x ∈ row))
theorem rowGo_bad {row E : List Str} {d : PyData} (h : BadB row E d) (p : Nat) : rowGo ((row.take p).map PyData.str ++ [d] ++ (row.drop p).map PyData.str) E = none := by
  cases q : rowGo ((row.take p).map PyData.str ++ [d] ++ (row.drop p).map PyData.str) E with
  | none => rfl
  | some out =>
    exfalso
    obtain ⟨r, h1, h2, h3, h4⟩ := rowGo_some _ _ _ q
    have hd : d ∈ r.map PyData.str := by rw [← h1]; simp
    obtain ⟨x, hx, rfl⟩ := List.mem_map.mp hd
    rcases h.2 with hn | ⟨y, hy, hm⟩
    · have : nameOk x = true := h2 x hx
      rw [show nameD (.str x) = nameOk x from rfl, this] at hn
      cases hn
    · cases hy
      rcases hm with hm | hm
      · exact h3 x hx hm
      · have e : r = row.take p ++ [x] ++ row.drop p := by
          have e2 : (row.take p ++ [x] ++ row.drop p).map PyData.str = r.map PyData.str := by rw [← h1]; simp only [List.map_append, List.map_cons, List.map_nil]
          have inj : ∀ (a b : List Str), a.map PyData.str = b.map PyData.str → a = b := by
            intro a
            induction a with
            | nil => intro b hb; cases b with | nil => rfl | cons _ _ => simp at hb
            | cons u a ih =>
              intro b hb
              cases b with
              | nil => simp at hb
              | cons v b =>
                rw [List.map_cons, List.map_cons] at hb
                injection hb with hb1 hb2
                injection hb1 with hb1
                rw [hb1, ih b hb2]
          exact (inj _ _ e2).symm
        have pm : List.Perm r (x :: row) := by
          rw [e, List.append_assoc]
          refine List.perm_middle.trans ?_
          show List.Perm (x :: (row.take p ++ row.drop p)) (x :: row)
          rw [List.take_append_drop]
        have := pm.nodup_iff.mp h4
        exact (List.nodup_cons.mp this).1 hm
/-- a tuple of these values -/
def Pr.t (K : PySem.W.Frag) (xs : List V) : Pr := ⟨fun v H => ∃ a, v = .ref a ∧ SqT K H a xs, fun r h => let ⟨a, e, q⟩ := h; ⟨a, e, r.sqt q⟩⟩
section
variable {R : Rl} {K : PySem.W.Frag} {env : Env'} {H : Hp} {ta tb te : TE} {C C2 : List V → Hp → Prop} {σ : L2.St}
theorem ev_slX {xs : List V} {lo hi : Option Int} {tl th : TO} (ha : Ev R ta env H (Pr.t K xs)) (hl : EvO R tl env H lo) (hh : EvO R th env H hi) : Ev R (tSl (rSlA K) ta tl th) env H (Pr.t K (cut xs lo hi)) := fun σ H1 r1 s Q q =>
  ha σ H1 r1 s _ fun x H2 r2 px => hl σ H2 (R.trans r1 r2) (s.mono (R.im r2)) _ fun H3 r3 => hh σ H3 (R.trans r1 (R.trans r2 r3)) (s.mono (R.im (R.trans r2 r3))) _ fun H4 r4 => by
    obtain ⟨a, rfl, hx⟩ := (Pr.t K xs).mo (R.im (R.trans r3 r4)) px
    refine ⟨a, xs, rfl, hx, fun hw => ?_, fun hw p hp => ?_⟩
    · refine q _ H4 (R.trans r2 (R.trans r3 r4)) ⟨a, rfl, ?_⟩
      rw [cut_all xs hw]
      exact hx
    · have r5 : R.r H4 (upd H4 p (.tup (cutV xs lo hi))) := R.new r4 hp
      exact q _ _ (R.trans r2 (R.trans r3 (R.trans r4 r5))) ⟨p, rfl, .inl (.inl upd_same)⟩
theorem ev_catX {xs ys : List V} (ha : Ev R ta env H (Pr.t K xs)) (hb : Ev R tb env H (Pr.t K ys)) (hz : xs.length + ys.length ≤ 100000) : Ev R (tOp (rCatA K) ta tb) env H (Pr.t K (xs ++ ys)) :=
  ev_op ha hb fun x y H1 r1 px py Q q => by
    obtain ⟨a, rfl, hx⟩ := px
    obtain ⟨b, rfl, hy⟩ := py
    refine ⟨a, b, xs, ys, rfl, rfl, hx, hy, Nat.le_trans hz (by decide), fun e => ?_, fun e1 e2 => ?_, fun e1 e2 p hp => ?_⟩
    · subst e
      exact q _ H1 (R.again r1) ⟨b, rfl, hy⟩
    · subst e2
      refine q _ H1 (R.again r1) ⟨a, rfl, ?_⟩
      rw [List.append_nil]
      exact hx
    · have r5 : R.r H1 (upd H1 p (.tup (xs ++ ys))) := R.new r1 hp
      exact q _ _ r5 ⟨p, rfl, .inl (.inl upd_same)⟩
theorem ev_tupX1 {x : V} (ha : Ev R ta env H (Pr.v x)) : Ev R (tTup (tCons ta tNil)) env H (Pr.t K [x]) :=
  ev_tup (ea_cons ha ea_nil) (show 1 ≤ 100000 by decide) fun p vs H1 e pv => by
    obtain ⟨y, rfl, py⟩ := vs1 pv
    rw [show y = x from py] at e
    exact ⟨p, rfl, .inl (.inl e)⟩
theorem ev_lenX' {xs : List V} (ha : Ev R ta env H (Pr.t K xs)) : Ev R (tCB (rLenSeq K) (tCons ta tNil)) env H (Pr.v (.int (xs.length : Nat))) :=
  ev_cb (ea_cons ha ea_nil) fun vs H1 r1 pv Q q => by
    obtain ⟨x, rfl, a, rfl, hx⟩ := vs1 pv
    exact ⟨a, xs, rfl, .inr hx, q _ H1 (R.again r1) rfl⟩
/-- old list + new list -/
theorem ev_lcatVL {zs : List V} {b : Addr} (ha : Ev R ta env H (Pr.v (.ref b))) (hb : EvL R tb env H C) (hx : ∀ H1, R.r H H1 → H1 b = some (.lst zs)) (hl : ∀ xs H1, C xs H1 → zs.length + xs.length ≤ 100000 ∧ ∀ H3, R.r H1 H3 → C2 (zs ++ xs) H3) : EvL R (tOp rCat ta tb) env H C2 := fun σ H1 r1 s Q q =>
  ha σ H1 r1 s _ fun v H2 r2 pv => hb σ H2 (R.trans r1 r2) (s.mono (R.im r2)) _ fun p xs H3 r3 n e c => by
    cases (show v = .ref b from pv)
    obtain ⟨h1, h2⟩ := hl xs H3 c
    refine ⟨b, p, zs, xs, rfl, rfl, hx H3 (R.trans r1 (R.trans r2 r3)), e, Nat.le_trans h1 (by decide), fun a ha => ?_⟩
    have r23 := R.trans r2 r3
    have r4 := R.new (o := .lst (zs ++ xs)) r23 ha
    exact q a (zs ++ xs) _ (R.trans r23 r4) (R.back r23 ha) upd_same (h2 _ r4)
/-- a test of which nothing is known -/
def EvTU (R : Rl) (tt : TT) (env : Env') (H : Hp) : Prop := ∀ (σ : L2.St) (H1 : Hp), R.r H H1 → Slots σ env H1 → ∀ Q : Bool → Hp → Prop, (∀ b H2, R.r H1 H2 → Q b H2) → tt σ H1 Q
theorem etu_eq0 {k : Int} (h : Ev R te env H (Pr.p fun v => ∃ r : Int, v = .int r ∧ 0 ≤ r ∧ r < k)) : EvTU R (tTest (tOp rEq te (tC (.int 0)))) env H := fun σ H1 r1 s Q q =>
  h σ H1 r1 s _ fun v H2 r2 pv => by
    obtain ⟨r, rfl, _⟩ := pv
    exact ⟨rfl, _, rfl, q _ H2 r2⟩
theorem s_ifAndU {D : Ends} {a : Bool} {t u : TT} {tb ub : TS} (s : Slots σ env H) (r : R.r H H) (h : EvT R t env H a) (hu : EvTU R u env H) (h1 : a = true → ∀ H1, R.r H H1 → Slots σ env H1 → tb D σ H1) (h2 : ∀ H1, R.r H H1 → Slots σ env H1 → ub D σ H1) : tIfS (tAnd t u) tb ub D σ H :=
  h σ H r s _ fun H1 r1 => by
    cases a with
    | true =>
      rw [if_pos rfl]
      refine hu σ H1 r1 (s.mono (R.im r1)) _ fun b H2 r2 => ?_
      cases b with
      | true =>
        rw [if_pos rfl]
        exact h1 rfl H2 (R.trans r1 r2) (s.mono (R.im (R.trans r1 r2)))
      | false =>
        rw [if_neg Bool.false_ne_true]
        exact h2 H2 (R.trans r1 r2) (s.mono (R.im (R.trans r1 r2)))
    | false =>
      rw [if_neg Bool.false_ne_true]
      show (if false = true then tb D σ H1 else ub D σ H1)
      rw [if_neg Bool.false_ne_true]
      exact h2 H1 r1 (s.mono (R.im r1))
theorem Slots.open_ {α : Type} {f : α → Pr} {i : Nat} (s : Slots σ env H) (hi : env[i]? = some (some (Pr.any f))) : ∃ x, Slots σ (env.set i (some (f x))) H := by
  obtain ⟨v, ⟨x, hx⟩, s2⟩ := s.pin hi
  have hl : i < env.length := (List.getElem?_eq_some_iff.mp hi).1
  refine ⟨x, ?_⟩
  have q := s2.imp (i := i) (P := Pr.v v) (P' := f x) (List.getElem?_set_self hl) fun u hu => by
    rw [show u = v from hu]
    exact hx
  rw [List.set_set] at q
  exact q
theorem run_tup {t : TA} {Q : VK} (h : t σ H fun xs H1 => xs.length ≤ sizeLine ∧ ∀ p, H1 p = none → Q (.ref p) (upd H1 p (.tup xs))) : tTup t σ H Q := h
theorem run_call {sp : Sp} {E : XK} {t : TA} {Q : VK} (h : t σ H fun vs H1 => sp vs H1 Q E) : tCall sp [] E t σ H Q := by
  have e : (fun vs H1 => sp vs H1 Q E) = fun vs H1 => sp (vs ++ []) H1 Q E := by
    funext vs H1
    rw [List.append_nil]
  rw [e] at h
  exact h
theorem run_par3 {i j l : Nat} {ta : TA} {D : Ends} (h : ta σ H fun vs H1 => ∃ u v w, vs = [u, v, w] ∧ D.nx (((σ.set i (some u)).set j (some v)).set l (some w)) H1) : tPar3 i j l ta D σ H := h
theorem run_asg {i : Nat} {D : Ends} (h : te σ H fun x H1 => D.nx (σ.set i (some x)) H1) : tAsg te (gName i) D σ H := h
end
theorem shaped_strs {r : List Str} (h : ∀ x ∈ r, smT x) : SeqAt.shaped (.list (r.map PyData.str)) = true := by
  unfold SeqAt.shaped
  simp only [PyData.canLay0, PyData.depth, lay_strs r h, depth_strs]
  rfl
theorem bad_base : ∀ d ∈ [PyData.str "", .str "A", .str "abcdefghi", .int 0, .none, .bool true, .tuple [.str "a"], .str "a b", .str "-"], nameD d = false ∧ shortD d := by
  intro d hd
  simp only [List.mem_cons, List.not_mem_nil, or_false] at hd
  rcases hd with rfl | rfl | rfl | rfl | rfl | rfl | rfl | rfl | rfl
  · exact ⟨by decide +kernel, show Str.length _ ≤ 100000 by decide +kernel⟩
  · exact ⟨by decide +kernel, show Str.length _ ≤ 100000 by decide +kernel⟩
  · exact ⟨by decide +kernel, show Str.length _ ≤ 100000 by decide +kernel⟩
  · exact ⟨rfl, trivial⟩
  · exact ⟨rfl, trivial⟩
  · exact ⟨rfl, trivial⟩
  · exact ⟨rfl, trivial⟩
  · exact ⟨by decide +kernel, show Str.length _ ≤ 100000 by decide +kernel⟩
  · exact ⟨by decide +kernel, show Str.length _ ≤ 100000 by decide +kernel⟩
theorem cutS_to {z : Str} {k : Nat} (h : k ≤ z.length) : (cutS z none (some (k : Int))).cps.toList = z.cps.toList.take k := by
  unfold cutS
  have e := cut_to z.cps.toList k
  unfold cut at e
  have hz : z.cps.toList.length = z.length := Array.length_toList
  rw [hz] at e
  exact e
end Sd

set_option Elab.async false
set_option linter.all false
set_option maxRecDepth 100000
set_option maxHeartbeats 2000000
/-! Sp17: a standing bent. -/
namespace Sd
open PySem PySem.Spec PyProof.Rows L2
variable {P : Program} {w : World} {K : PySem.W.Frag} {mg : Str → Option Value} {base : Heap} {B : Adr}
def sp_l_bent (K : PySem.W.Frag) : Sp := spR 3 (fun a : (Addr × Addr) × List Nat × List (List Str) => RX a.1.1 a.1.2) (fun a vs H => ((1 ≤ a.2.1.length ∧ a.2.1.length ≤ 100) ∧ (∀ h ∈ a.2.1, h ≤ 12) ∧ Valid a.2.1 a.2.2 ∧ a.2.2.flatten.length ≤ 60) ∧ ∃ u v, vs = [.ref a.1.1, u, v] ∧ Tp K H (iD a.2.1) u ∧ Tp K H (sD a.2.2) v)
  (fun a v _ H' => ∃ (p : Addr) (x : V) (i : Int), v = .ref p ∧ H' p = some (.tup [x, .int i]) ∧ BadV K H' a.2.1 x i)
theorem ok_l_bent (T : Txt P K mg B) : FnOk P w K mg base CX0 3 B.a_l_bent B.d_l_bent ["_law_deal_here", "_law_heights_here", "_law_one"] (sp_l_bent K) :=
  T.F_l_bent.ok sc_l_bent (spR_len rfl) fun cdv A outer s H vs Q E hr h => ⟨_, der_l_bent T (ok_l_any T) (ok_l_of T) hr, by
    obtain ⟨_, ⟨⟨d, l⟩, hs, st⟩, r, ⟨⟨⟨hlo, hhi⟩, hle, hval, hfl⟩, u, v, rfl, hu, hv⟩, k⟩ := h
    have hlo' : 1 ≤ hs.length := hlo
    have hhi' : hs.length ≤ 100 := hhi
    have hle' : ∀ h ∈ hs, h ≤ 12 := hle
    have hval' : Valid hs st := hval
    have hfl' : st.flatten.length ≤ 60 := hfl
    have hsl : st.length = hs.length := hval'.1
    have dn : ∀ c, H c = none → c ≠ d ∧ c ≠ l := fun c hc => ⟨fun z => r.1.d_some (z ▸ hc), fun z => r.1.l_some (z ▸ hc)⟩
    have r0 : Xd d l H H := r
    have s0 : Slots (start N_l_bent [V.ref d, u, v]) [some (Pr.v (.ref d)), some (Pr.d K (iD hs)), some (Pr.d K (sD st)), none, none, none, none, none, none, none, none, none, none] H := start_slots (Ps := [Pr.v (.ref d), Pr.d K (iD hs), Pr.d K (sD st)]) (.cons rfl (.cons hu (.cons hv .nil))) rfl
    generalize start N_l_bent [V.ref d, u, v] = σ0 at s0
    have hk : ∀ p x i H', Xd d l H H' → H' p = some (.tup [x, .int i]) → BadV K H' hs x i → Q (.ref p) H' := fun p x i H' x1 h1 h2 => k _ _ x1 ⟨p, x, i, rfl, h1, h2⟩
    clear k r
    have hlen1 : ∀ {H1 : Hp} {env : Env'}, env[2]? = some (some (Pr.d K (sD st))) → Ev (RX d l) (tCB (rLenSeq K) (tCons (tVar 2) tNil)) env H1 (Pr.v (.int (hs.length : Nat))) := fun {H1 env} h2 => by
      have q := ev_lenT (K := K) (R := RX d l) (H := H1) (env := env) (ta := tVar 2) (ds := st.map rD) (ev_var h2)
      rw [List.length_map, hsl] at q
      exact q
    -- the three draws
    refine run_par3 (run_cons ?_)
    refine ev_l_any (E := E0) (b := (hs.length : Nat)) (ev_var (i := 0) rfl) (hlen1 rfl) (by omega) (by omega) σ0 H r0 s0 _ fun va H1 r1 pa => ?_
    obtain ⟨A, rfl, hA0, hA1⟩ := pa
    obtain ⟨A, rfl⟩ : ∃ n : Nat, A = n := ⟨A.toNat, by omega⟩
    have hA : A < hs.length := by omega
    refine run_cons ?_
    refine ev_l_any (E := E0) (b := 7) (env := [some (Pr.v (.ref d)), some (Pr.d K (iD hs)), some (Pr.d K (sD st)), none, none, none, none, none, none, none, none, none, none]) (ev_var (i := 0) rfl) ev_cv (by decide) (by decide) σ0 H1 ((RX d l).again r1) (s0.mono ((RX d l).im r1)) _ fun vb H2 r2 pb => ?_
    obtain ⟨kd, rfl, hk0, hk1⟩ := pb
    refine run_cons (run_lst ⟨Nat.zero_le _, fun e0 he0 => ⟨_, _, _, rfl, ?_⟩⟩)
    have x2 : Xd d l H H2 := (show Xd d l H H1 from r1).trans r2
    have x3 : Xd d l H (upd H2 e0 (.lst [])) := x2.trans (Xd.ofEx x2.2.1 (Ex.new he0))
    have s3 := (((s0.mono x3.im).set (i := 3) (P := Pr.v (.int (A : Nat))) (v := .int (A : Nat)) rfl).set (i := 4) (P := Pr.v (.int kd)) (v := .int kd) rfl).set (i := 5) (P := Pr.v (.ref e0)) (v := .ref e0) rfl
    have he3 : upd H2 e0 (.lst []) e0 = some (.lst []) := upd_same
    have he00 : H e0 = none := x2.2.2.2 _ he0
    generalize upd H2 e0 (.lst []) = H3 at x3 s3 he3
    generalize ((σ0.set 3 (some (V.int (A : Nat)))).set 4 (some (V.int kd))).set 5 (some (V.ref e0)) = σ3 at s3
    refine q_if (R := RE) s3 (Ex.refl _) (et_test (ev_eqS (x := .int kd) (y := .int 0) (ev_var (i := 4) rfl) ev_cv rfl)) (fun _ H4 e4 s4 => ?_) fun hb0 H4 e4 s4 => ?_
    · -- the whole value is bent
      clear s3
      have x4 : Xd d l H H4 := x3.trans (Xd.ofEx x3.2.1 e4)
      refine run_ret (run_tup (run_cons (run_call (run_cons ?_))))
      refine ev_var (R := RE) (i := 0) (P := Pr.v (.ref d)) (env := [some (Pr.v (.ref d)), some (Pr.d K (iD hs)), some (Pr.d K (sD st)), some (Pr.v (.int (A : Nat))), some (Pr.v (.int kd)), some (Pr.v (.ref e0)), none, none, none, none, none, none, none]) rfl σ3 H4 (Ex.refl _) s4 _ fun vd H5 e5 pd => ?_
      cases (show vd = .ref d from pd)
      refine run_cons (run_lst (run_cons ?_))
      refine ev_cv (R := RE) (v := .non) (env := [some (Pr.v (.ref d)), some (Pr.d K (iD hs)), some (Pr.d K (sD st)), some (Pr.v (.int (A : Nat))), some (Pr.v (.int kd)), some (Pr.v (.ref e0)), none, none, none, none, none, none, none]) σ3 H5 (Ex.refl _) (s4.mono (Ex.im e5)) _ fun x1 H6 e6 p1 => ?_
      refine run_cons ?_
      refine ev_listT (K := K) (R := RE) (ds := st.map rD) (env := [some (Pr.v (.ref d)), some (Pr.d K (iD hs)), some (Pr.d K (sD st)), some (Pr.v (.int (A : Nat))), some (Pr.v (.int kd)), some (Pr.v (.ref e0)), none, none, none, none, none, none, none]) (ev_var (i := 2) rfl) σ3 H6 (Ex.refl _) (s4.mono (Ex.im (Ex.trans e5 e6))) _ fun p2 ys H7 e7 hn7 hp7 c7 => ?_
      have e47 : Ex H4 H7 := Ex.trans (Ex.trans e5 e6) e7
      have hta : EvA RE (tCons (tOp (rCatA K) (tVar 2) (tTup (tCons (tTup tNil) tNil))) (tCons (tSl (rSlA K) (tVar 2) (tPart (tC (.int 1))) tNoPart) (tCons (tC (.str "")) (tCons (tC (.int 0)) (tCons (tTup tNil) tNil))))) [some (Pr.v (.ref d)), some (Pr.d K (iD hs)), some (Pr.d K (sD st)), some (Pr.v (.int (A : Nat))), some (Pr.v (.int kd)), some (Pr.v (.ref e0)), none, none, none, none, none, none, none] H7 [Pr.d K (.tuple (st.map rD ++ [.tuple []])), Pr.d K (.tuple (cut (st.map rD) (some 1) none)), Pr.v (.str ""), Pr.v (.int 0), Pr.d K (.tuple [])] :=
        ea_cons (ev_catT (ev_var (i := 2) rfl) (ev_tupD (ds := [.tuple []]) (ea_cons (ev_tupD (ds := []) ea_nil (Nat.zero_le _)) ea_nil) (show 1 ≤ 100000 by decide)) (by rw [List.length_map, List.length_singleton]; omega)) (ea_cons (ev_slT (ev_var (i := 2) rfl) (eo_some ev_cv) eo_none) (ea_cons ev_cv (ea_cons ev_cv (ea_cons (ev_tupD (ds := []) ea_nil (Nat.zero_le _)) ea_nil))))
      refine hta σ3 H7 (Ex.refl _) (s4.mono (Ex.im e47)) _ fun vs H8 e8 pv => ?_
      cases pv with
      | cons q3 pv =>
      cases pv with
      | cons q4 pv =>
      cases pv with
      | cons q5 pv =>
      cases pv with
      | cons q6 pv =>
      cases pv with
      | cons q7 pv =>
      cases pv
      rename_i x3' x4' x5' x6' x7'
      refine ⟨show 7 ≤ sizeLine by decide, fun q hq => ?_⟩
      have e9 := Ex.new (o := .lst [x1, .ref p2, x3', x4', x5', x6', x7']) hq
      have e49 : Ex H4 (upd H8 q (.lst [x1, .ref p2, x3', x4', x5', x6', x7'])) := Ex.trans (Ex.trans e47 e8) e9
      have x9 : Xd d l H (upd H8 q (.lst [x1, .ref p2, x3', x4', x5', x6', x7'])) := x4.trans (Xd.ofEx x4.2.1 e49)
      have hqn : H q = none := x4.2.2.2 _ (Ex.back (Ex.trans e47 e8) hq)
      have hp2n : H p2 = none := x4.2.2.2 _ (Ex.back (Ex.trans e5 e6) hn7)
      have hp9 : upd H8 q (.lst [x1, .ref p2, x3', x4', x5', x6', x7']) p2 = some (.lst ys) := e9 _ _ (e8 _ _ hp7)
      have hq9 : upd H8 q (.lst [x1, .ref p2, x3', x4', x5', x6', x7']) q = some (.lst [x1, .ref p2, x3', x4', x5', x6', x7']) := upd_same
      have t3 : Tp K (upd H8 q (.lst [x1, .ref p2, x3', x4', x5', x6', x7'])) (.tuple (st.map rD ++ [.tuple []])) x3' := Tp.mono (Ex.im e9) _ _ q3
      have t4 : Tp K (upd H8 q (.lst [x1, .ref p2, x3', x4', x5', x6', x7'])) (.tuple (cut (st.map rD) (some 1) none)) x4' := Tp.mono (Ex.im e9) _ _ q4
      have t7 : Tp K (upd H8 q (.lst [x1, .ref p2, x3', x4', x5', x6', x7'])) (.tuple []) x7' := Tp.mono (Ex.im e9) _ _ q7
      generalize upd H8 q (.lst [x1, .ref p2, x3', x4', x5', x6', x7']) = H9 at *
      refine ⟨rfl, ((d, l), [x1, .ref p2, x3', x4', x5', x6', x7']), Xd.refl x9.2.1, ⟨⟨show 0 < 7 by decide, show 7 ≤ 100000 by decide⟩, _, rfl, .inl ⟨q, rfl, dn _ hqn, hq9⟩⟩, fun v H10 x10 hv10 => ?_⟩
      refine run_cons ?_
      have x10' : Xd d l H9 H10 := x10
      refine ev_neg (R := RE) (env := [some (Pr.v (.ref d)), some (Pr.d K (iD hs)), some (Pr.d K (sD st)), some (Pr.v (.int (A : Nat))), some (Pr.v (.int kd)), some (Pr.v (.ref e0)), none, none, none, none, none, none, none]) (ev_cv (v := .int 1)) σ3 H10 (Ex.refl _) ((s4.mono (Ex.im e49)).mono x10'.im) _ fun y H11 e11 py => ?_
      cases (show y = .int (-1) from py)
      refine ⟨show 2 ≤ sizeLine by decide, fun p hp => ?_⟩
      have x11 : Xd d l H9 (upd H11 p (.tup [v, .int (-1)])) := x10'.trans (Xd.ofEx x10'.2.1 (Ex.trans e11 (Ex.new hp)))
      refine hk p v (-1) _ (x9.trans x11) upd_same ?_
      generalize upd H11 p (.tup [v, .int (-1)]) = HF at x11
      have hcl : (cut (st.map rD) (some 1) none).length = hs.length - 1 := by
        rw [show (1 : Int) = ((1 : Nat) : Int) from rfl, cut_from, List.length_drop, List.length_map, hsl]
      have hlenTp : ∀ {ds : List PyData} {y : V}, Tp K H9 (.tuple ds) y → ds.length ≠ hs.length → BadV K HF hs y (-1) := fun {ds y} ht hl => by
        obtain ⟨a, xs, rfl, hx, hts⟩ := Tp.tup_ ht
        exact .len a xs rfl (x11.im.sqt hx) (by rw [hts.length]; exact hl)
      have hv11 : v ∈ [x1, .ref p2, x3', x4', x5', x6', x7'] := hv10
      simp only [List.mem_cons, List.not_mem_nil, or_false] at hv11
      rcases hv11 with rfl | rfl | rfl | rfl | rfl | rfl | rfl
      · exact .no (.inl p1)
      · exact .no (.inr (.inr (.inr ⟨p2, ys, rfl, x11.2.2.1 _ _ (dn _ hp2n).1 (dn _ hp2n).2 hp9⟩)))
      · exact hlenTp t3 (by rw [List.length_append, List.length_map, List.length_singleton, hsl]; omega)
      · exact hlenTp t4 (by rw [hcl]; omega)
      · exact .no (.inr (.inl ⟨_, q5⟩))
      · exact .no (.inr (.inr (.inl ⟨_, q6⟩)))
      · exact hlenTp t7 (by rw [List.length_nil]; omega)
    · -- a row is bent
      clear s3
      have x4 : Xd d l H H4 := x3.trans (Xd.ofEx x3.2.1 e4)
      have he4 : H4 e0 = some (.lst []) := e4 _ _ he3
      have sq := sq_tup (K := K) (S := RE) (M := fun _ => False) (Iz := fun i => Pr.d K (rD (st.getD i []))) (env := [some (Pr.v (.ref d)), some (Pr.d K (iD hs)), some (Pr.d K (sD st)), some (Pr.v (.int (A : Nat))), some (Pr.v (.int kd)), some (Pr.v (.ref e0)), none, none, none, none, none, none, none]) (H := H4) (ev_slT (ds := st.map rD) (lo := none) (hi := some ((A : Nat) : Int)) (ev_var (i := 2) rfl) eo_none (eo_some (ev_var (i := 3) rfl))) fun i dd h => by
        rw [cut_to, List.getElem?_take] at h
        split at h
        · obtain ⟨m, hm, rfl⟩ := sD_get h
          rw [getD_of [] hm]
        · cases h
      have hcl : (cut (st.map rD) none (some ((A : Nat) : Int))).length = A := by
        rw [cut_to, List.length_take, List.length_map]
        omega
      rw [hcl] at sq
      refine q_forA (α := Addr) sq s4 (Ex.refl _) (fun p5 => [some (Pr.v (.ref d)), some (Pr.d K (iD hs)), some (Pr.d K (sD st)), some (Pr.v (.int (A : Nat))), some (Pr.v (.int kd)), some (Pr.v (.ref p5)), none, none, none, none, none, none, none]) (fun i p5 => [some (Pr.v (.ref d)), some (Pr.d K (iD hs)), some (Pr.d K (sD st)), some (Pr.v (.int (A : Nat))), some (Pr.v (.int kd)), some (Pr.v (.ref p5)), some (Pr.d K (rD (st.getD i []))), none, none, none, none, none, none]) (fun i p5 hi => tg_name (i := 6))
        (fun i p5 H' => Ex H4 H' ∧ H p5 = none ∧ H' p5 = some (.lst (((st.take i).flatten).map V.str))) e0 (.s (.s (.s (.s (.s (.s (.s (.s (.s (.s (.s (.s (.s .nil))))))))))))) (fun H5 e5 => ⟨e5, he00, e5 _ _ he4⟩) (fun H5 e5 i p5 σ' H' H6 hi w1 I e6 s6 N hN => ?_) fun H5 e5 p5 σ' H' w1 s6 I => ?_
      · obtain ⟨I1, I2, I3⟩ := I
        have hrow : st[i]? = some (st.getD i []) := by
          rw [getD_of [] (List.getElem?_eq_getElem (by omega : i < st.length))]
          exact List.getElem?_eq_getElem _
        have hcat := flatten_take_succ hrow
        have hl1 := flat_le st (i + 1)
        rw [hcat, List.length_append] at hl1
        generalize st.getD i [] = row at *
        refine s_asgL (R := RE) (C := fun xs _ => xs = ((st.take (i + 1)).flatten).map V.str) s6 (Ex.refl _) (ev_lcatVL (ev_var (i := 5) rfl) (ev_listT (K := K) (ds := row.map PyData.str) (ev_var (i := 6) rfl)) (fun H7 e7 => e7 _ _ (e6 _ _ I3)) fun xs H7 c => ?_) fun p' xs σ7 H7 e7 hn7 hx7 c s7 => ?_
        · rw [tps_strs c]
          refine ⟨by rw [List.length_map, List.length_map]; omega, fun H8 _ => ?_⟩
          rw [hcat, List.map_append]
        · have hx' : xs = _ := c
          rw [hx'] at hx7
          exact hN p' _ _ (e6.trans e7).w (s7.wk (.s (.s (.s (.s (.s (.s (.n (.s (.s (.s (.s (.s (.s .nil)))))))))))))) ⟨(I1.trans e6).trans e7, x4.2.2.2 _ (I1.back (e6.back hn7)), hx7⟩
      · obtain ⟨I1, I2, I3⟩ := I
        have xH : Xd d l H H' := x4.trans (Xd.ofEx x4.2.1 I1)
        clear sq e5 w1 s4 he4 he3
        generalize hEdef : (st.take A).flatten = Es at I3
        have hEl : Es.length ≤ 60 := by
          rw [← hEdef]
          exact Nat.le_trans (flat_le st A) hfl'
        have hEn : ∀ x ∈ Es, nameOk x = true := fun x hx => by
          rw [← hEdef] at hx
          exact (good_sub hval'.2 A).2 x hx
        have hrowA : st[A]? = some (st.getD A []) := by
          rw [getD_of [] (List.getElem?_eq_getElem (by omega : A < st.length))]
          exact List.getElem?_eq_getElem _
        have hhA : hs[A]? = some (hs.getD A 0) := by
          rw [getD_of 0 (List.getElem?_eq_getElem hA)]
          exact List.getElem?_eq_getElem _
        have hrl : (st.getD A []).length ≤ hs.getD A 0 := hval'.2.1 A _ _ hrowA hhA
        have hh12 : hs.getD A 0 ≤ 12 := hle' _ (List.mem_of_getElem? hhA)
        have hrn : ∀ x ∈ st.getD A [], nameOk x = true := fun x hx => hval'.2.2.1 x (List.mem_flatten.mpr ⟨_, List.mem_of_getElem? hrowA, hx⟩)
        generalize hrow : st.getD A [] = row at *
        generalize hs.getD A 0 = hA' at *
        refine q_asg (R := RE) (P := Pr.d K (rD row)) s6 (Ex.refl _) (ev_ixT (ds := st.map rD) (i := (A : Nat)) (ev_var (i := 2) rfl) (ev_var (i := 3) rfl) (L2.atI_nat (by rw [List.getElem?_map, hrowA]; rfl))) fun σ7 H7 e7 s7 => ?_
        have x7 : Xd d l H H7 := xH.trans (Xd.ofEx xH.2.1 e7)
        have hlr : ∀ {R : Rl} {H0 : Hp} {env : Env'}, env[7]? = some (some (Pr.d K (rD row))) → Ev R (tCB (rLenSeq K) (tCons (tVar 7) tNil)) env H0 (Pr.v (.int (row.length : Nat))) := fun {R H0 env} h7 => by
          have q := ev_lenT (K := K) (R := R) (H := H0) (env := env) (ta := tVar 7) (ds := row.map PyData.str) (ev_var h7)
          rw [List.length_map] at q
          exact q
        refine q_asg (R := RX d l) (P := Pr.p fun v => ∃ r : Int, v = .int r ∧ 0 ≤ r ∧ r < ((row.length : Nat) : Int) + 1) s7 (Xd.refl x7.2.1) (ev_l_any (ev_var (i := 0) rfl) (ev_I0 (i := (row.length : Nat)) (j := 1) (g := fun i j => .int (i + j)) (hlr rfl) ev_cv) (by omega) (by omega)) fun σ8 H8 r8 s8 => ?_
        obtain ⟨v8, ⟨pl, rfl, hp0, hp1⟩, s8⟩ := s8.pin (i := 8) rfl
        obtain ⟨pl, rfl⟩ : ∃ n : Nat, pl = n := ⟨pl.toNat, by omega⟩
        have x8 : Xd d l H H8 := x7.trans r8
        -- a thing that spoils the row
        refine q_asg (R := RX d l) (P := Pr.any fun x : { dd : PyData // BadB row Es dd } => Pr.d K x.1) s8 (Xd.refl x8.2.1) (ev_l_ofN (C := fun xs H => Tps K H [PyData.str "", .str "A", .str "abcdefghi", .int 0, .none, .bool true, .tuple [.str "a"], .str "a b", .str "-"] xs) (ev_var (i := 0) rfl) ((ev_lst (Ps := [PyData.str "", .str "A", .str "abcdefghi", .int 0, .none, .bool true, .tuple [.str "a"], .str "a b", .str "-"].map (Pr.d K)) (ea_cons (ev_v_str ev_cv) (ea_cons (ev_v_str ev_cv) (ea_cons (ev_v_str ev_cv) (ea_cons (ev_v_int ev_cv) (ea_cons (ev_dv (ev_cv (v := .non)) fun _ => tp_none) (ea_cons (ev_v_bl ev_cv) (ea_cons (ev_tupD (ds := [.str "a"]) (ea_cons (ev_v_str ev_cv) ea_nil) (show 1 ≤ 100000 by decide)) (ea_cons (ev_v_str ev_cv) (ea_cons (ev_v_str ev_cv) ea_nil))))))))) (show 9 ≤ 100000 by decide)).imp fun xs H2 _ c => vs_d c) (fun xs H1 c => by have := c.length; rw [this]; exact ⟨show 0 < 9 by decide, show 9 ≤ 100000 by decide⟩) fun xs H1 H2 x12 c v hv => ?_) fun σ9 H9 r9 s9 => ?_
        · obtain ⟨i, hi⟩ := List.mem_iff_getElem?.mp hv
          obtain ⟨dd, hd, td⟩ := c.at_ hi
          obtain ⟨h1, h2⟩ := bad_base dd (List.mem_of_getElem? hd)
          exact ⟨⟨dd, h2, .inl h1⟩, td.mono (show Xd d l H1 H2 from x12).im _ _⟩
        have x9 : Xd d l H H9 := x8.trans r9
        have hp5 : H9 p5 = some (.lst (Es.map V.str)) := ((((Xd.ofEx xH.2.1 e7).trans r8).trans r9)).2.2.1 _ _ (dn _ I2).1 (dn _ I2).2 I3
        let en9 : Env' := [some (Pr.v (.ref d)), some (Pr.d K (iD hs)), some (Pr.d K (sD st)), some (Pr.v (.int (A : Nat))), some (Pr.v (.int kd)), some (Pr.v (.ref p5)), none, some (Pr.d K (rD row)), some (Pr.v (.int (pl : Nat))), some (Pr.any fun x : { dd : PyData // BadB row Es dd } => Pr.d K x.1), none, none, none]
        have s9' : Slots σ9 en9 H9 := s9
        clear s9 s8 s7 s6
        refine q_via (fun σ' H' => Slots σ' en9 H' ∧ Xd d l H H' ∧ H' p5 = some (.lst (Es.map V.str))) (fun N hN => ?_) fun σa Ha pa => ?_
        · refine s_if (R := RE) (b := decide (V.int kd = V.int 2) && decide ((0 : Int) < (row.length : Nat))) s9' (Ex.refl _) (et_and (et_test (ev_eqS (x := .int kd) (y := .int 2) (ev_var (i := 4) rfl) ev_cv rfl)) fun _ => et_test (ev_I0 (i := (row.length : Nat)) (j := 0) (g := fun i j => .bl (decide (j < i))) (hlr rfl) ev_cv)) (fun hb Hb eb sb => ?_) fun hb Hb eb sb => hN _ _ ⟨sb, x9.trans (Xd.ofEx x9.2.1 eb), eb _ _ hp5⟩
          have hr0 : 0 < row.length := by
            rw [Bool.and_eq_true, decide_eq_true_eq, decide_eq_true_eq] at hb
            have := hb.2
            omega
          have xb : Xd d l H Hb := x9.trans (Xd.ofEx x9.2.1 eb)
          refine s_asg (R := RX d l) (P := Pr.any fun x : { dd : PyData // BadB row Es dd } => Pr.d K x.1) sb (Xd.refl xb.2.1) ((ev_l_ofT (ds := row.map PyData.str) (ev_var (i := 0) rfl) (ev_var (i := 7) rfl) (by rw [List.length_map]; exact hr0) (by rw [List.length_map]; omega)).imp fun v H2 _ pv => ?_) fun σc Hc rc sc => ?_
          · obtain ⟨⟨dd, hd⟩, td⟩ := pv
            obtain ⟨x, hx, rfl⟩ := List.mem_map.mp hd
            exact ⟨⟨.str x, show x.length ≤ 100000 from Nat.le_trans (name_ok (hrn x hx)).1 (by decide), .inr ⟨x, rfl, .inr hx⟩⟩, td⟩
          · exact hN _ _ ⟨sc, xb.trans rc, (show Xd d l Hb Hc from rc).2.2.1 _ _ (dn _ I2).1 (dn _ I2).2 (eb _ _ hp5)⟩
        obtain ⟨sa, xa, ha5⟩ := pa
        refine q_via (fun σ' H' => Slots σ' en9 H' ∧ Xd d l H H' ∧ H' p5 = some (.lst (Es.map V.str))) (fun N hN => ?_) fun σb Hb pb => ?_
        · refine s_if (R := RE) (b := decide (V.int kd = V.int 3) && !(Es.map PyData.str).isEmpty) sa (Ex.refl _) (et_and (et_test (ev_eqS (x := .int kd) (y := .int 3) (ev_var (i := 4) rfl) ev_cv rfl)) fun _ => et_test (ev_neNil (xs := Es.map V.str) (ev_var (i := 5) rfl) (fun H1 e1 => ⟨e1 _ _ ha5, strs_tps Es⟩) (shaped_strs fun x hx => (name_ok (hEn x hx)).2))) (fun hb Hb eb sb => ?_) fun hb Hb eb sb => hN _ _ ⟨sb, xa.trans (Xd.ofEx xa.2.1 eb), eb _ _ ha5⟩
          have hr0 : 0 < Es.length := by
            rw [Bool.and_eq_true] at hb
            cases Es with
            | nil => exact absurd hb.2 (by decide)
            | cons _ _ => exact Nat.succ_pos _
          have xb : Xd d l H Hb := xa.trans (Xd.ofEx xa.2.1 eb)
          refine s_asg (R := RX d l) (P := Pr.any fun x : { dd : PyData // BadB row Es dd } => Pr.d K x.1) sb (Xd.refl xb.2.1) (ev_l_of (A := Pr.v (.ref p5)) (Es.map V.str) (ev_var (i := 0) rfl) (ev_var (i := 5) rfl) (fun v H1 x1 pv => .inl ⟨p5, pv, dn _ I2, x1.2.2.1 _ _ (dn _ I2).1 (dn _ I2).2 (eb _ _ ha5)⟩) (by rw [List.length_map]; exact hr0) (by rw [List.length_map]; omega) fun v H1 _ hv => ?_) fun σc Hc rc sc => ?_
          · obtain ⟨x, hx, rfl⟩ := List.mem_map.mp hv
            exact ⟨⟨.str x, show x.length ≤ 100000 from Nat.le_trans (name_ok (hEn x hx)).1 (by decide), .inr ⟨x, rfl, .inl hx⟩⟩, tp_str (K := K) (H := H1)⟩
          · exact hN _ _ ⟨sc, xb.trans rc, (show Xd d l Hb Hc from rc).2.2.1 _ _ (dn _ I2).1 (dn _ I2).2 (eb _ _ ha5)⟩
        obtain ⟨sb, xb, hb5⟩ := pb
        obtain ⟨⟨dB, hdB⟩, sb⟩ := sb.open_ (i := 9) rfl
        let en10 : V → Env' := fun x => [some (Pr.v (.ref d)), some (Pr.d K (iD hs)), some (Pr.d K (sD st)), some (Pr.v (.int (A : Nat))), some (Pr.v (.int kd)), some (Pr.v (.ref p5)), none, some (Pr.d K (rD row)), some (Pr.v (.int (pl : Nat))), none, some (Pr.v x), none, none]
        let PT : L2.St → Hp → Prop := fun σ' H' => ∃ x, Slots σ' (en10 x) H' ∧ Xd d l H H' ∧ ∀ H'', Xd d l H' H'' → BadRow K H'' hA' Es x
        refine q_asg (R := RE) (P := Pr.d K (.tuple ((row.take pl).map PyData.str ++ [dB] ++ (row.drop pl).map PyData.str))) sb (Ex.refl _) ?_ fun σc Hc ec sc => ?_
        · have q := ev_catT (K := K) (R := RE) (H := Hb) (env := [some (Pr.v (.ref d)), some (Pr.d K (iD hs)), some (Pr.d K (sD st)), some (Pr.v (.int (A : Nat))), some (Pr.v (.int kd)), some (Pr.v (.ref p5)), none, some (Pr.d K (rD row)), some (Pr.v (.int (pl : Nat))), some (Pr.d K dB), none, none, none]) (ev_catT (ev_slT (ds := row.map PyData.str) (lo := none) (hi := some ((pl : Nat) : Int)) (ev_var (i := 7) rfl) eo_none (eo_some (ev_var (i := 8) rfl))) (ev_tupD (ds := [dB]) (ea_cons (ev_var (i := 9) rfl) ea_nil) (show 1 ≤ 100000 by decide)) (by rw [cut_to, List.length_take, List.length_map, List.length_singleton]; omega)) (ev_slT (ds := row.map PyData.str) (lo := some ((pl : Nat) : Int)) (hi := none) (ev_var (i := 7) rfl) (eo_some (ev_var (i := 8) rfl)) eo_none) (by rw [cut_to, cut_from, List.length_append, List.length_take, List.length_drop, List.length_map, List.length_singleton]; omega)
          rw [cut_to, cut_from, ← List.map_take, ← List.map_drop] at q
          exact q
        have xc : Xd d l H Hc := xb.trans (Xd.ofEx xb.2.1 ec)
        have hsh : ∀ x ∈ row, shortD (.str x) := fun x hx => show x.length ≤ 100000 from Nat.le_trans (name_ok (hrn x hx)).1 (by decide)
        have pc : PT σc Hc := by
          obtain ⟨x, px, sx⟩ := sc.pin (i := 10) rfl
          refine ⟨x, sx.wk (.s (.s (.s (.s (.s (.s (.s (.s (.s (.n (.s (.s (.s .nil))))))))))))), xc, fun H'' x'' => .inr ⟨_, Tp.mono (Xd.im x'') _ _ px, ⟨fun dd hdd => ?_, ?_⟩, .inr (rowGo_bad hdB pl)⟩⟩
          · simp only [List.mem_append, List.mem_cons, List.not_mem_nil, or_false, List.mem_map] at hdd
            rcases hdd with (⟨x, hx, rfl⟩ | rfl) | ⟨x, hx, rfl⟩
            · exact hsh x (List.mem_of_mem_take hx)
            · exact hdB.1
            · exact hsh x (List.mem_of_mem_drop hx)
          · simp only [List.length_append, List.length_map, List.length_take, List.length_drop, List.length_singleton]
            omega
        clear sc sb sa s9'
        refine q_via PT (fun N hN => ?_) fun σe He pe => ?_
        · obtain ⟨x, sx, xx, hbad⟩ := pc
          refine s_if (R := RE) sx (Ex.refl _) (et_test (ev_eqS (x := .int kd) (y := .int 4) (ev_var (i := 4) rfl) ev_cv rfl)) (fun hb Hd ed sd => ?_) fun hb Hd ed sd => hN _ _ ⟨x, sd, xx.trans (Xd.ofEx xx.2.1 ed), fun H'' x'' => hbad H'' ((Xd.ofEx xx.2.1 ed).trans x'')⟩
          have xd' : Xd d l H Hd := xx.trans (Xd.ofEx xx.2.1 ed)
          have hzl : (cutS LET none (some ((hA' + 1 - row.length : Nat) : Int))).cps.toList = LET.cps.toList.take (hA' + 1 - row.length) := cutS_to (by
            have : LET.length = 26 := by rw [← let_len, Array.length_toList]; rfl
            omega)
          have hzn : (cutS LET none (some ((hA' + 1 - row.length : Nat) : Int))).cps.size = hA' + 1 - row.length := by
            have := congrArg List.length hzl
            rw [Array.length_toList, List.length_take, let_len] at this
            omega
          have hzt : (cutS LET none (some ((hA' + 1 - row.length : Nat) : Int))).cps.toList.length = hA' + 1 - row.length := by
            rw [hzl, List.length_take, let_len]
            omega
          have hsl : Ev RE (tSl rSlS (tC (.str "abcdefghijklmnopqrstuvwxyz")) tNoPart (tPart (tOp rSubI (tOp rAddI (tOp (rIxT K) (tVar 1) (tVar 3)) (tC (.int 1))) (tCB (rLenSeq K) (tCons (tVar 7) tNil))))) (en10 x) Hd (Pr.v (.str (cutS LET none (some ((hA' + 1 - row.length : Nat) : Int))))) := fun σ H1 r1 s Q q => by
            have ei : Ev RE (tOp rSubI (tOp rAddI (tOp (rIxT K) (tVar 1) (tVar 3)) (tC (.int 1))) (tCB (rLenSeq K) (tCons (tVar 7) tNil))) (en10 x) Hd (Pr.v (.int ((hA' + 1 - row.length : Nat) : Int))) := by
              have q := ev_I0 (R := RE) (g := fun i j => .int (i - j)) (ev_I0 (i := (hA' : Nat)) (j := 1) (g := fun i j => .int (i + j)) (ev_int_v (K := K) (ev_ixT (K := K) (R := RE) (env := en10 x) (H := Hd) (ds := hs.map fun (n : Nat) => PyData.int (n : Int)) (i := (A : Nat)) (d := .int (hA' : Nat)) (ev_var (i := 1) rfl) (ev_var (i := 3) rfl) (L2.atI_nat (by rw [List.getElem?_map, hhA]; rfl)))) ev_cv) (hlr (R := RE) (H0 := Hd) (env := en10 x) rfl)
              rw [show ((hA' : Nat) : Int) + 1 - ((row.length : Nat) : Int) = ((hA' + 1 - row.length : Nat) : Int) by omega] at q
              exact q
            refine ei σ H1 r1 s _ fun v H2 r2 pv => ⟨_, pv, LET, rfl, by decide +kernel, q _ H2 r2 rfl⟩
          have hq : Ev RE (tCB (rTupleOf K) (tCons (tLc (iStr (tSl rSlS (tC (.str "abcdefghijklmnopqrstuvwxyz")) tNoPart (tPart (tOp rSubI (tOp rAddI (tOp (rIxT K) (tVar 1) (tVar 3)) (tC (.int 1))) (tCB (rLenSeq K) (tCons (tVar 7) tNil)))))) (gName 12) tYes (tOp rAddS (tC (.str "q")) (tVar 12)) [12]) tNil)) (en10 x) Hd (Pr.d K (.tuple ((cutS LET none (some ((hA' + 1 - row.length : Nat) : Int))).cps.toList.map fun c => PyData.str ("q" ++ ch c)))) := by
            generalize cutS LET none (some ((hA' + 1 - row.length : Nat) : Int)) = z at hsl hzn
            have src := sr_str (R := RE) (Iz := fun i => Pr.v (.str (ch (z.cps.getD i 0)))) hsl fun i c hc => by
              rw [Array.getD_eq_getD_getElem?, hc]
              rfl
            refine ev_tupleN (ev_lc (fun _ => true) (fun i => Pr.d K (.str ("q" ++ ch (z.cps.getD i 0)))) src (by omega) (fun i => [some (Pr.v (.ref d)), some (Pr.d K (iD hs)), some (Pr.d K (sD st)), some (Pr.v (.int (A : Nat))), some (Pr.v (.int kd)), some (Pr.v (.ref p5)), none, some (Pr.d K (rD row)), some (Pr.v (.int (pl : Nat))), none, some (Pr.v x), none, some (Pr.v (.str (ch (z.cps.getD i 0))))]) (fun i hi => tg_name (i := 12)) (wp_name (by simp)) (fun i hi => et_yes) fun i hi _ => ev_v_str (ev_op (P := Pr.v (.str "q")) (P' := Pr.v (.str (ch (z.cps.getD i 0)))) ev_cv (ev_var (i := 12) rfl) fun a b H5 r5 pa pb Q q => ⟨"q", ch (z.cps.getD i 0), pa, pb, show 1 + 1 ≤ sizeLine by decide, q _ H5 (Ex.refl _) rfl⟩)) fun xs H1 c => kept_data (by rw [List.length_map, Array.length_toList]) (fun i dd h => ?_) c
            rw [List.getElem?_map, Array.getElem?_toList] at h
            cases hz : z.cps[i]? with
            | none => rw [hz] at h; cases h
            | some c =>
              rw [hz] at h
              cases h
              rw [Array.getD_eq_getD_getElem?, hz]
              rfl
          have hcat := ev_catT (K := K) (R := RE) (H := Hd) (env := en10 x) (ta := tVar 7) (ds := row.map PyData.str) (ev_var (i := 7) rfl) hq (by rw [List.length_map, List.length_map, hzt]; omega)
          refine s_asg (R := RE) sd (Ex.refl _) hcat fun σf Hf ef sf => ?_
          obtain ⟨y, py, sy⟩ := sf.pin (i := 10) rfl
          refine hN _ _ ⟨y, sy, xd'.trans (Xd.ofEx xd'.2.1 ef), fun H'' x'' => .inr ⟨_, Tp.mono (Xd.im x'') _ _ py, ⟨fun dd hdd => ?_, ?_⟩, .inl ?_⟩⟩
          · simp only [List.mem_append, List.mem_map] at hdd
            rcases hdd with ⟨x, hx, rfl⟩ | ⟨c, _, rfl⟩
            · exact hsh x hx
            · show Str.length ("q" ++ ch c) ≤ 100000
              rw [PySem.Str.length_append]
              show 1 + 1 ≤ 100000
              decide
          · rw [List.length_append, List.length_map, List.length_map, hzt]
            omega
          · rw [List.length_append, List.length_map, List.length_map, hzt]
            omega
        clear pc
        refine q_via PT (fun N hN => ?_) fun σf Hf pf => ?_
        · obtain ⟨x, sx, xx, hbad⟩ := pe
          refine s_if (R := RE) sx (Ex.refl _) (et_test (ev_eqS (x := .int kd) (y := .int 5) (ev_var (i := 4) rfl) ev_cv rfl)) (fun hb Hd ed sd => ?_) fun hb Hd ed sd => hN _ _ ⟨x, sd, xx.trans (Xd.ofEx xx.2.1 ed), fun H'' x'' => hbad H'' ((Xd.ofEx xx.2.1 ed).trans x'')⟩
          have xd' : Xd d l H Hd := xx.trans (Xd.ofEx xx.2.1 ed)
          refine run_asg (run_call (run_cons ?_))
          refine ev_var (R := RE) (i := 0) (P := Pr.v (.ref d)) (env := en10 x) rfl _ Hd (Ex.refl _) sd _ fun vd H5 e5 pd => ?_
          cases (show vd = .ref d from pd)
          refine run_cons (run_lst (run_cons ?_))
          refine ev_listT (K := K) (R := RE) (ds := row.map PyData.str) (env := en10 x) (ev_var (i := 7) rfl) _ H5 (Ex.refl _) (sd.mono (Ex.im e5)) _ fun p2 ys H7 e7 hn7 hp7 c7 => ?_
          have hta : EvA RE (tCons (tC .non) (tCons (tC (.str "")) (tCons (tC (.int 0)) (tCons (tC (.str "a")) tNil)))) (en10 x) H7 [Pr.v .non, Pr.v (.str ""), Pr.v (.int 0), Pr.v (.str "a")] := ea_cons ev_cv (ea_cons ev_cv (ea_cons ev_cv (ea_cons ev_cv ea_nil)))
          refine hta _ H7 (Ex.refl _) (sd.mono (Ex.im (Ex.trans e5 e7))) _ fun vs H8 e8 pv => ?_
          obtain ⟨y1, y2, y3, y4, rfl, q1, q2, q3, q4⟩ := vs4 pv
          refine ⟨show 5 ≤ sizeLine by decide, fun q hq => ?_⟩
          have e9 := Ex.new (o := .lst [.ref p2, y1, y2, y3, y4]) hq
          have ed9 : Ex Hd (upd H8 q (.lst [.ref p2, y1, y2, y3, y4])) := Ex.trans (Ex.trans (Ex.trans e5 e7) e8) e9
          have x9 : Xd d l H (upd H8 q (.lst [.ref p2, y1, y2, y3, y4])) := xd'.trans (Xd.ofEx xd'.2.1 ed9)
          have hqn : H q = none := xd'.2.2.2 _ (Ex.back (Ex.trans (Ex.trans e5 e7) e8) hq)
          have hp2n : H p2 = none := xd'.2.2.2 _ (Ex.back e5 hn7)
          have hp9 : upd H8 q (.lst [.ref p2, y1, y2, y3, y4]) p2 = some (.lst ys) := e9 _ _ (e8 _ _ hp7)
          have hq9 : upd H8 q (.lst [.ref p2, y1, y2, y3, y4]) q = some (.lst [.ref p2, y1, y2, y3, y4]) := upd_same
          generalize upd H8 q (.lst [.ref p2, y1, y2, y3, y4]) = H9 at *
          refine ⟨rfl, ((d, l), [.ref p2, y1, y2, y3, y4]), Xd.refl x9.2.1, ⟨⟨show 0 < 5 by decide, show 5 ≤ 100000 by decide⟩, _, rfl, .inl ⟨q, rfl, dn _ hqn, hq9⟩⟩, fun v H10 x10 hv10 => ?_⟩
          have x10' : Xd d l H9 H10 := x10
          refine hN _ _ ⟨v, Slots.set (i := 10) (P := Pr.v v) ((sd.mono (Ex.im ed9)).mono x10'.im) rfl, x9.trans x10', fun HF xF => .inl ?_⟩
          have x11 := x10'.trans xF
          have hv11 : v ∈ [.ref p2, y1, y2, y3, y4] := hv10
          simp only [List.mem_cons, List.not_mem_nil, or_false] at hv11
          rcases hv11 with rfl | rfl | rfl | rfl | rfl
          · exact .inr (.inr (.inr ⟨p2, ys, rfl, x11.2.2.1 _ _ (dn _ hp2n).1 (dn _ hp2n).2 hp9⟩))
          · exact .inl q1
          · exact .inr (.inl ⟨_, q2⟩)
          · exact .inr (.inr (.inl ⟨_, q3⟩))
          · exact .inr (.inl ⟨_, q4⟩)
        clear pe
        obtain ⟨x, sx, xx, hbad⟩ := pf
        -- the value
        obtain ⟨v2, pv2, sx⟩ := sx.pin (i := 2) rfl
        obtain ⟨a2, xs2, rfl, hx2, ht2⟩ := Tp.tup_ pv2
        have hxl : xs2.length = hs.length := by
          rw [ht2.length, List.length_map, hval'.1]
        have sx := sx.imp (i := 2) (P := Pr.v (.ref a2)) (P' := Pr.t K xs2) rfl fun v pv => ⟨a2, pv, hx2⟩
        have hys : ((xs2.take A ++ [x]) ++ xs2.drop (A + 1)).length = hs.length := by
          simp only [List.length_append, List.length_take, List.length_drop, List.length_singleton]
          omega
        have hyt : ((xs2.take A ++ [x]) ++ xs2.drop (A + 1)).take A = xs2.take A := by
          rw [List.append_assoc, List.take_append_of_le_length (by rw [List.length_take]; omega), List.take_take, Nat.min_self]
        have hyA : ((xs2.take A ++ [x]) ++ xs2.drop (A + 1))[A]? = some x := by
          rw [List.append_assoc, List.getElem?_append_right (by rw [List.length_take]; omega), List.length_take, show A - min A xs2.length = 0 by omega]
          rfl
        refine q_asg (R := RE) (P := Pr.t K ((xs2.take A ++ [x]) ++ xs2.drop (A + 1))) sx (Ex.refl _) ?_ fun σg Hg eg sg => ?_
        · have q := ev_catX (K := K) (R := RE) (H := Hf) (env := [some (Pr.v (.ref d)), some (Pr.d K (iD hs)), some (Pr.t K xs2), some (Pr.v (.int (A : Nat))), some (Pr.v (.int kd)), some (Pr.v (.ref p5)), none, some (Pr.d K (rD row)), some (Pr.v (.int (pl : Nat))), none, some (Pr.v x), none, none]) (ev_catX (ev_slX (xs := xs2) (lo := none) (hi := some ((A : Nat) : Int)) (ev_var (i := 2) rfl) eo_none (eo_some (ev_var (i := 3) rfl))) (ev_tupX1 (ev_var (i := 10) (P := Pr.v x) rfl)) (by rw [cut_to, List.length_take, List.length_singleton]; omega)) (ev_slX (xs := xs2) (lo := some ((A + 1 : Nat) : Int)) (hi := none) (ev_var (i := 2) rfl) (eo_some (ev_I0 (i := (A : Nat)) (j := 1) (g := fun i j => .int (i + j)) (ev_var (i := 3) rfl) ev_cv)) eo_none) (by rw [cut_to, cut_from, List.length_append, List.length_take, List.length_drop, List.length_singleton]; omega)
          rw [cut_to, cut_from] at q
          exact q
        have xg : Xd d l Hf Hg := Xd.ofEx xx.2.1 eg
        generalize (xs2.take A ++ [x]) ++ xs2.drop (A + 1) = ys at *
        let en11 : List V → Env' := fun ys => [some (Pr.v (.ref d)), some (Pr.d K (iD hs)), some (Pr.t K xs2), some (Pr.v (.int (A : Nat))), some (Pr.v (.int kd)), some (Pr.v (.ref p5)), none, some (Pr.d K (rD row)), some (Pr.v (.int (pl : Nat))), none, some (Pr.v x), some (Pr.t K ys), none]
        have sg' : Slots σg (en11 ys) Hg := sg
        refine q_via (fun σ' H' => ∃ ys : List V, Slots σ' (en11 ys) H' ∧ Xd d l Hf H' ∧ ys.length = hs.length ∧ ys.take A = xs2.take A ∧ ys[A]? = some x) (fun N hN => ?_) fun σh Hh ph => ?_
        · refine s_ifAndU (R := RX d l) (a := decide (((A : Nat) : Int) + 1 < (xs2.length : Nat))) sg' (Xd.refl xg.2.1) (et_test (ev_I0 (i := ((A : Nat) : Int) + 1) (j := (xs2.length : Nat)) (g := fun i j => .bl (decide (i < j))) (ev_I0 (i := (A : Nat)) (j := 1) (g := fun i j => .int (i + j)) (ev_var (i := 3) rfl) ev_cv) (ev_lenX' (ev_var (i := 2) rfl)))) (etu_eq0 (ev_l_any (b := 3) (ev_var (i := 0) rfl) ev_cv (by decide) (by decide))) (fun hb H1 r1 s1 => ?_) fun H1 r1 s1 => hN _ _ ⟨ys, s1, xg.trans r1, hys, hyt, hyA⟩
          have hA2 : A + 1 < hs.length := by
            have := of_decide_eq_true hb
            omega
          refine s_asg (R := RE) (P := Pr.t K (ys.dropLast ++ [V.non])) s1 (Ex.refl _) ?_ fun σi Hi ei si => hN _ _ ⟨ys.dropLast ++ [V.non], si, (xg.trans r1).trans (Xd.ofEx (show Xd d l Hg H1 from r1).2.1 ei), ?_, ?_, ?_⟩
          · have q := ev_catX (K := K) (R := RE) (H := H1) (env := en11 ys) (ev_slX (xs := ys) (lo := none) (hi := some (-1)) (ev_var (i := 11) rfl) eo_none (eo_some (ev_neg (i := 1) ev_cv))) (ev_tupX1 (ev_cv (v := .non))) (by rw [cut_butlast, List.length_dropLast, List.length_singleton]; omega)
            rw [cut_butlast] at q
            exact q
          · rw [List.length_append, List.length_dropLast, List.length_singleton]
            omega
          · rw [List.take_append_of_le_length (by rw [List.length_dropLast]; omega), ← hyt, List.dropLast_eq_take, List.take_take, Nat.min_eq_left (by omega)]
          · rw [List.getElem?_append_left (by rw [List.length_dropLast]; omega), List.dropLast_eq_take, List.getElem?_take, if_pos (by omega)]
            exact hyA
        obtain ⟨zs, sh, xh, hz1, hz2, hz3⟩ := ph
        refine run_ret (run_tup (run_cons ?_))
        refine ev_var (R := RE) (i := 11) (P := Pr.t K zs) (env := en11 zs) rfl _ Hh (Ex.refl _) sh _ fun v1 Hi ei pi => ?_
        refine run_cons ?_
        refine ev_var (R := RE) (i := 3) (P := Pr.v (.int (A : Nat))) (env := en11 zs) rfl _ Hi (Ex.refl _) (sh.mono (Ex.im ei)) _ fun v3 Hj ej pj => ?_
        cases (show v3 = .int (A : Nat) from pj)
        refine ⟨show 2 ≤ sizeLine by decide, fun p hp => ?_⟩
        obtain ⟨a, rfl, hza⟩ := pi
        have eF := Ex.new (o := .tup [.ref a, .int (A : Nat)]) hp
        have xF : Xd d l Hf (upd Hj p (.tup [.ref a, .int (A : Nat)])) := xh.trans (Xd.ofEx xh.2.1 (Ex.trans (Ex.trans ei ej) eF))
        refine hk p _ _ _ (xx.trans xF) upd_same ?_
        have hza' := (Ex.im (Ex.trans ej eF)).sqt hza
        generalize upd Hj p (.tup [.ref a, .int (A : Nat)]) = HF at xF hza'
        have hst : (st.take A).length = A := by
          rw [List.length_take]
          omega
        have key := NsAt.row (K := K) (H := HF) (hs := hs) (v := .ref a) a zs (st.take A) x hA' rfl hza' hz1 (by rw [hst, hz2, List.map_take]; exact Tps.mono xF.im _ _ (ht2.take A)) (by rw [hst]; exact hz3) (by rw [hst]; exact hhA) ⟨fun i r h hr hh => ?_, fun y hy => ?_, ?_⟩ (Nat.le_trans (flat_le st A) (Nat.le_trans hfl' (by decide))) (by rw [hEdef]; exact hbad HF xF)
        · rw [hst] at key
          exact key
        · rw [List.getElem?_take] at hr
          split at hr
          · exact hval'.2.1 i r h hr hh
          · cases hr
        · exact (good_sub hval'.2 A).2 y hy
        · exact (good_sub hval'.2 A).1⟩
end Sd

set_option Elab.async false
set_option linter.all false
set_option maxRecDepth 100000
set_option maxHeartbeats 2000000
/-! Sp18: all standings. -/
namespace Sd
open PySem PySem.Spec PyProof.Rows L2
section
variable {R : Rl} {K : PySem.W.Frag} {env : Env'} {H : Hp} {n : Nat} {Iz : Nat → Pr} {wi : TI} {g : TG} {tt : TT} {te : TE} {vs : List Nat}
theorem ev_lcB (b : Nat → Bool) (E : Nat → Pr) (hs : Sr R wi env H n Iz) (hn : n ≤ 4000000)
    (env1 : Nat → Env') (hg : ∀ i, i < n → Tg R g (wipeE env vs) (Iz i) (env1 i)) (hgw : Wp g vs)
    (ht : ∀ i, i < n → EvT R tt (env1 i) H (b i)) (he : ∀ i, i < n → b i = true → Ev R te (env1 i) H (E i)) : EvL R (tLc wi g tt te vs) env H (fun xs H' => Vs (kept n b E) xs H') := fun σ H1 r1 s Q q =>
  hs σ H1 r1 s _ fun J G H2 r2 w hG D hD => by
    have r12 := R.trans r1 r2
    refine lc_it w (fun i H' => R.r H2 H' ∧ ∃ acc, H' D = some (.lst acc) ∧ Vs (kept i b E) acc H') ?_ (fun i H' _ p => hG H' p.1) (fun i x H' H'' hi p y => ?_) fun H' p => ?_
    · exact ⟨R.new r2 hD, [], upd_same, .nil⟩
    · obtain ⟨rr, acc, ha, hp⟩ := p
      obtain ⟨r5, px⟩ := y (R.again rr)
      have nx : ¬ R.ex D := R.live r2 hD
      refine hgw x σ (L2.wipe σ vs) H'' _ (wipe_wipe σ vs) (hg i hi (L2.wipe σ vs) H'' x (R.again r5) ((s.mono (R.im (R.trans r2 (R.trans rr r5)))).wipe vs) px _ fun σ2 s2 => ?_)
      refine ht i hi σ2 H'' (R.trans r12 (R.trans rr r5)) s2 _ fun H3 r3 => ?_
      have a3 : H3 D = some (.lst acc) := R.keep (R.trans r5 r3) nx ha
      have p3 : Vs (kept i b E) acc H3 := Vs.mono (R.im (R.trans r5 r3)) hp
      cases hb : b i with
      | true =>
        rw [if_pos rfl]
        refine he i hi hb σ2 H3 (R.trans r12 (R.trans rr (R.trans r5 r3))) (s2.mono (R.im r3)) _ fun v H4 r4 pv => ?_
        have a4 : H4 D = some (.lst acc) := R.keep r4 nx a3
        have hz : acc.length ≤ n := by
          rw [Paired.length p3]
          have := kept_len i b E
          omega
        refine ⟨acc, a4, Nat.lt_of_le_of_lt (Nat.le_trans hz hn) (by decide), ?_⟩
        have im4 : Im H4 (upd H4 D (.lst (acc ++ [v]))) := im_lst a4
        refine ⟨R.put (R.trans rr (R.trans r5 (R.trans r3 r4))) hD, _, upd_same, ?_⟩
        rw [kept_yes hb]
        exact paired_snoc (Vs.mono im4 (Vs.mono (R.im r4) p3)) ((E i).mo im4 pv)
      | false =>
        rw [if_neg Bool.false_ne_true]
        refine ⟨R.trans rr (R.trans r5 r3), acc, a3, ?_⟩
        rw [kept_no hb]
        exact p3
    · obtain ⟨rr, acc, ha, hp⟩ := p
      exact q D acc H' (R.trans r2 rr) (R.back r2 hD) ha hp
end
theorem qrun_par {i j : Nat} {ta : TA} {z : TS} {D : Ends} {σ : L2.St} {H : Hp} (h : ta σ H fun vs H1 => ∃ v w, vs = [v, w] ∧ z D ((σ.set i (some v)).set j (some w)) H1) : tSeq (tPar i j ta) z D σ H := h
theorem kept_filter {K : PySem.W.Frag} {α : Type} (xs : List α) (x0 : α) (p : α → Bool) (f : α → PyData) : kept xs.length (fun j => p (xs.getD j x0)) (fun j => Pr.d K (f (xs.getD j x0))) = ((xs.filter p).map f).map (Pr.d K) := by
  have e : (List.range xs.length).map (fun j => xs.getD j x0) = xs := by
    have q := range_getD (fun x : α => x) xs x0
    rw [List.map_id'] at q
    exact q
  have h : xs.filter p = ((List.range xs.length).filter fun j => p (xs.getD j x0)).map fun j => xs.getD j x0 := by
    conv => lhs; rw [← e]
    rw [List.filter_map]
    rfl
  unfold kept
  rw [h, List.map_map, List.map_map]
  rfl
def pD2 (a : List Str × List Str) : PyData := .tuple [rD a.1, rD a.2]
def df (n : Nat) : Nat → Nat
  | 0 => 1
  | t + 1 => df n t * (n - t)
def sf (n : Nat) : Nat → Nat
  | 0 => 1
  | t + 1 => sf n t + df n (t + 1)
theorem sf_le : ∀ n < 5, ∀ t < 4, sf n t ≤ 41 := by decide
theorem df_le : ∀ n < 5, ∀ t < 5, df n t ≤ 41 := by decide
theorem perm_pull {b : Str} {ot : List Str} (h : ot.Nodup) (hb : b ∈ ot) : List.Perm (b :: ot.filter fun x => !decide (x = b)) ot := by
  have e : (ot.filter fun x => !decide (x = b)) = ot.erase b := by
    rw [h.erase_eq_filter]
    congr 1
  rw [e]
  exact (List.perm_cons_erase hb).symm
variable {P : Program} {w : World} {K : PySem.W.Frag} {mg : Str → Option Value} {base : Heap} {B : Adr}
def sp_l_stacks (K : PySem.W.Frag) : Sp := spR 2 (fun _ : Nat × List Str => RE) (fun a vs H => (a.1 ≤ 3 ∧ a.2.length ≤ 4 ∧ a.2.Nodup) ∧ ∃ u, vs = [.int (a.1 : Nat), u] ∧ Tp K H (rD a.2) u)
  (fun a v H H' => ∃ (p : Addr) (xs : List V) (ds : List (List Str × List Str)), v = .ref p ∧ H p = none ∧ H' p = some (.lst xs) ∧ Tps K H' (ds.map pD2) xs ∧ ds.length ≤ 41 ∧ ∀ c ∈ ds, c.1.length ≤ a.1 ∧ List.Perm (c.1 ++ c.2) a.2)
theorem ok_l_stacks (T : Txt P K mg B) : FnOk P w K mg base CX0 1 B.a_l_stacks B.d_l_stacks ["_law_height", "_law_names_here"] (sp_l_stacks K) :=
  T.F_l_stacks.ok sc_l_stacks (spR_len rfl) fun cdv A outer s H vs Q E hr h => ⟨_, der_l_stacks T hr, by
    obtain ⟨_, ⟨h, ns⟩, r, ⟨⟨hh, hn, hnd⟩, u, rfl, hu⟩, k⟩ := h
    have hh' : h ≤ 3 := hh
    have hn' : ns.length ≤ 4 := hn
    have hnd' : ns.Nodup := hnd
    have s0 : Slots (start N_l_stacks [V.int (h : Nat), u]) [some (Pr.v (.int (h : Nat))), some (Pr.d K (rD ns)), none, none, none, none, none, none, none, none] H := start_slots (Ps := [Pr.v (.int (h : Nat)), Pr.d K (rD ns)]) (.cons rfl (.cons hu .nil)) rfl
    generalize start N_l_stacks [V.int (h : Nat), u] = σ0 at s0
    have hone : EvL RE (tLst (tCons (tTup (tCons (tTup tNil) (tCons (tVar 1) tNil))) tNil)) [some (Pr.v (.int (h : Nat))), some (Pr.d K (rD ns)), none, none, none, none, none, none, none, none] H (fun xs H' => Tps K H' [pD2 ([], ns)] xs) :=
      (ev_lst (ea_cons (ev_tupD (ds := [rD [], rD ns]) (ea_cons (ev_tupD (ds := []) ea_nil (Nat.zero_le _)) (ea_cons (ev_var (i := 1) rfl) ea_nil)) (show 2 ≤ 100000 by decide)) ea_nil) (show 1 ≤ 100000 by decide)).imp fun xs H2 _ c => vs_d (ds := [pD2 ([], ns)]) c
    refine qrun_par (run_cons ?_)
    refine hone σ0 H (Ex.refl _) s0 _ fun p2 xs2 H1 e1 hn1 hp1 c1 => ?_
    refine run_cons ?_
    refine hone.later e1 σ0 H1 (Ex.refl _) (s0.mono (Ex.im e1)) _ fun p3 xs3 H2 e2 hn2 hp2 c2 => ?_
    refine ⟨_, _, rfl, ?_⟩
    have s2 := ((s0.mono (Ex.im (Ex.trans e1 e2))).set (i := 2) (P := Pr.v (.ref p2)) (v := .ref p2) rfl).set (i := 3) (P := Pr.v (.ref p3)) (v := .ref p3) rfl
    have e02 : Ex H H2 := Ex.trans e1 e2
    have hp12 : H2 p2 = some (.lst xs2) := e2 _ _ hp1
    have c12 : Tps K H2 [pD2 ([], ns)] xs2 := Tps.mono (Ex.im e2) _ _ c1
    generalize (σ0.set 2 (some (V.ref p2))).set 3 (some (V.ref p3)) = σ2 at s2
    have sq := sq_rng1 (S := RE) (M := fun _ => False) (env := [some (Pr.v (.int (h : Nat))), some (Pr.d K (rD ns)), some (Pr.v (.ref p2)), some (Pr.v (.ref p3)), none, none, none, none, none, none]) (H := H2) (ev_var (i := 0) (P := Pr.v (.int (h : Nat))) rfl) (by omega) (by omega)
    rw [Int.toNat_natCast] at sq
    refine q_forA (α := Addr × Addr) sq s2 (Ex.refl _) (fun a => [some (Pr.v (.int (h : Nat))), some (Pr.d K (rD ns)), some (Pr.v (.ref a.1)), some (Pr.v (.ref a.2)), none, none, none, none, none, none]) (fun i a => [some (Pr.v (.int (h : Nat))), some (Pr.d K (rD ns)), some (Pr.v (.ref a.1)), some (Pr.v (.ref a.2)), some (Pr.v (.int (i : Nat))), none, none, none, none, none]) (fun i a hi => tg_name (i := 4))
      (fun t a H' => Ex H H' ∧ H a.1 = none ∧ (∃ xs ds, H' a.1 = some (.lst xs) ∧ Tps K H' (ds.map pD2) xs ∧ ds.length = sf ns.length t ∧ ∀ c ∈ ds, c.1.length ≤ t ∧ List.Perm (c.1 ++ c.2) ns) ∧ ∃ xs ds, H' a.2 = some (.lst xs) ∧ Tps K H' (ds.map pD2) xs ∧ ds.length = df ns.length t ∧ ∀ c ∈ ds, c.1.length = t ∧ List.Perm (c.1 ++ c.2) ns)
      (p2, p3) (.s (.s (.s (.s (.s (.s (.s (.s (.s (.s .nil)))))))))) (fun H3 e3 => ⟨Ex.trans e02 e3, hn1, ⟨xs2, [([], ns)], e3 _ _ hp12, Tps.mono (Ex.im e3) _ _ c12, rfl, fun c hc => ?_⟩, xs3, [([], ns)], e3 _ _ hp2, Tps.mono (Ex.im e3) _ _ c2, rfl, fun c hc => ?_⟩)
      (fun H3 e3 t a σ' H' H4 hi w1 I e4 s4 N hN => ?_) fun H3 e3 a σ' H' w1 s4 I => ?_
    · rw [List.mem_singleton.mp hc]
      exact ⟨Nat.le_refl _, List.Perm.refl _⟩
    · rw [List.mem_singleton.mp hc]
      exact ⟨rfl, List.Perm.refl _⟩
    · obtain ⟨pf, pl⟩ := a
      obtain ⟨I1, I0, ⟨xf, dsf, hf1, hf2, hf3, hf4⟩, xl, dsl, hl1, hl2, hl3, hl4⟩ := I
      refine q_asgL (R := RE) (C := Vs []) s4 (Ex.refl _) (ev_lst ea_nil (Nat.zero_le _)) fun lt xs σ5 H5 e5 hlt hlt5 c s5 => ?_
      cases c
      have e45 : Ex H' H5 := e4.trans e5
      have hl5 := e45 _ _ hl1
      have hne : pl ≠ lt := ne_of_none (e4 _ _ hl1) hlt
      have hnf : pf ≠ lt := ne_of_none (e4 _ _ hf1) hlt
      have hdl : dsl.length ≤ 41 := by rw [hl3]; exact df_le _ (by omega) _ (by omega)
      have sq1 := sq_list (K := K) (S := RE) (M := fun x => x = lt) (Iz := fun i => Pr.d K (pD2 (dsl.getD i ([], [])))) (env := [some (Pr.v (.int (h : Nat))), some (Pr.d K (rD ns)), some (Pr.v (.ref pf)), some (Pr.v (.ref pl)), some (Pr.v (.int (t : Nat))), some (Pr.v (.ref lt)), none, none, none, none]) (H := H5) (xs := xl) (ev_var (i := 3) rfl) (fun H6 e => e _ _ hl5) hne fun H6 e6 i x H7 hx w7 => by
        obtain ⟨dd, hd, td⟩ := (Tps.mono ((Ex.im e45).trans ((Ex.im e6).trans w7.1)) _ _ hl2).at_ hx
        rw [List.getElem?_map] at hd
        cases hz : dsl[i]? with
        | none => rw [hz] at hd; cases hd
        | some z =>
          rw [hz] at hd
          cases hd
          rw [getD_of _ hz]
          exact td
      have hxl : xl.length = dsl.length := by rw [hl2.length, List.length_map]
      rw [hxl] at sq1
      refine q_for sq1 s5 (Ex.refl _) [some (Pr.v (.int (h : Nat))), some (Pr.d K (rD ns)), some (Pr.v (.ref pf)), some (Pr.v (.ref pl)), some (Pr.v (.int (t : Nat))), some (Pr.v (.ref lt)), none, none, none, none] (.s (.s (.s (.s (.s (.s (.s (.s (.s (.s .nil)))))))))) (fun i => [some (Pr.v (.int (h : Nat))), some (Pr.d K (rD ns)), some (Pr.v (.ref pf)), some (Pr.v (.ref pl)), some (Pr.v (.int (t : Nat))), some (Pr.v (.ref lt)), some (Pr.d K (rD (dsl.getD i ([], [])).1)), some (Pr.d K (rD (dsl.getD i ([], [])).2)), none, none]) (fun i hi => tg_pairD (tg_name (i := 6)) (tg_name (i := 7)))
        (fun i H6 => ∃ (ys : List V) (es : List (List Str × List Str)), H6 lt = some (.lst ys) ∧ Tps K H6 (es.map pD2) ys ∧ es.length = i * (ns.length - t) ∧ ∀ c ∈ es, c.1.length = t + 1 ∧ List.Perm (c.1 ++ c.2) ns) (fun H6 e6 => ⟨[], [], e6 _ _ hlt5, tps_nil, by simp, fun c hc => by simp at hc⟩) (fun H6 e6 i σ6 H7 H8 hi w7 I6 e8 s8 N8 hN8 => ?_) fun H6 e6 σ6 H7 w7 s7 I6 => ?_
      · have hmem : dsl.getD i ([], []) ∈ dsl := by
          rw [getD_of _ (List.getElem?_eq_getElem hi)]
          exact List.getElem_mem _
        obtain ⟨hst, hpm⟩ := hl4 _ hmem
        generalize dsl.getD i ([], []) = so at *
        obtain ⟨st, ot⟩ := so
        have hst' : st.length = t := hst
        have hpm' : List.Perm (st ++ ot) ns := hpm
        have hotl : ot.length = ns.length - t := by
          have := hpm'.length_eq
          rw [List.length_append] at this
          omega
        have hotn : ot.Nodup := (List.nodup_append.mp (hpm'.nodup_iff.mpr hnd')).2.1
        have sq2 := sq_tup (K := K) (S := RE) (M := fun x => x = lt) (Iz := fun j => Pr.d K (.str (ot.getD j ""))) (env := [some (Pr.v (.int (h : Nat))), some (Pr.d K (rD ns)), some (Pr.v (.ref pf)), some (Pr.v (.ref pl)), some (Pr.v (.int (t : Nat))), some (Pr.v (.ref lt)), some (Pr.d K (rD st)), some (Pr.d K (rD ot)), none, none]) (H := H8) (ds := ot.map PyData.str) (ev_var (i := 7) rfl) fun j dd hj => by
          rw [List.getElem?_map] at hj
          cases hz : ot[j]? with
          | none => rw [hz] at hj; cases hj
          | some z =>
            rw [hz] at hj
            cases hj
            rw [getD_of _ hz]
        rw [List.length_map] at sq2
        refine s_for sq2 s8 (Ex.refl _) [some (Pr.v (.int (h : Nat))), some (Pr.d K (rD ns)), some (Pr.v (.ref pf)), some (Pr.v (.ref pl)), some (Pr.v (.int (t : Nat))), some (Pr.v (.ref lt)), some (Pr.d K (rD st)), some (Pr.d K (rD ot)), none, none] (.s (.s (.s (.s (.s (.s (.s (.s (.s (.s .nil)))))))))) (fun j => [some (Pr.v (.int (h : Nat))), some (Pr.d K (rD ns)), some (Pr.v (.ref pf)), some (Pr.v (.ref pl)), some (Pr.v (.int (t : Nat))), some (Pr.v (.ref lt)), some (Pr.d K (rD st)), some (Pr.d K (rD ot)), some (Pr.d K (.str (ot.getD j ""))), none]) (fun j hj => tg_name (i := 8))
          (fun j H9 => ∃ (ys : List V) (es : List (List Str × List Str)), H9 lt = some (.lst ys) ∧ Tps K H9 (es.map pD2) ys ∧ es.length = i * (ns.length - t) + j ∧ ∀ c ∈ es, c.1.length = t + 1 ∧ List.Perm (c.1 ++ c.2) ns) (fun H9 e9 => ?_) (fun H9 e9 j σ9 Ha Hb hj wa Ia eb sb Nb hNb => ?_) fun H9 e9 σ9 Ha wa sa Ia => ?_
        · obtain ⟨ys, es, q1, q2, q3, q4⟩ := I6
          exact ⟨ys, es, e9 _ _ (e8 _ _ q1), Tps.mono ((Ex.im e8).trans (Ex.im e9)) _ _ q2, q3, q4⟩
        · obtain ⟨ys, es, q1, q2, q3, q4⟩ := Ia
          have hbm : ot.getD j "" ∈ ot := by
            rw [getD_of _ (List.getElem?_eq_getElem hj)]
            exact List.getElem_mem _
          generalize ot.getD j "" = bx at *
          have hyl : ys.length = es.length := by rw [q2.length, List.length_map]
          have hez : es.length ≤ 1000 := by
            rw [q3]
            have h1 : i * (ns.length - t) ≤ 41 * 4 := Nat.mul_le_mul (by omega) (by omega)
            omega
          have flt := sr_tup (K := K) (R := RE) (Iz := fun j => Pr.d K (.str (ot.getD j ""))) (ev_var (i := 7) rfl : Ev RE (tVar 7) [some (Pr.v (.int (h : Nat))), some (Pr.d K (rD ns)), some (Pr.v (.ref pf)), some (Pr.v (.ref pl)), some (Pr.v (.int (t : Nat))), some (Pr.v (.ref lt)), some (Pr.d K (rD st)), some (Pr.d K (rD ot)), some (Pr.d K (.str bx)), none] Hb (Pr.d K (rD ot))) fun j dd hj => by
            rw [List.getElem?_map] at hj
            cases hz : ot[j]? with
            | none => rw [hz] at hj; cases hj
            | some z =>
              rw [hz] at hj
              cases hj
              rw [getD_of _ hz]
          rw [List.length_map] at flt
          refine s_append (R := RE) (K := K) (P := Pr.d K (pD2 (st ++ [bx], ot.filter fun x => !decide (x = bx)))) sb (Ex.refl _) (ev_var (i := 5) rfl) (ev_tupD (ds := [rD (st ++ [bx]), rD (ot.filter fun x => !decide (x = bx))]) (ea_cons ?_ (ea_cons (ev_tupleN (ev_lc (fun j => !decide (ot.getD j "" = bx)) (fun j => Pr.d K (.str (ot.getD j ""))) flt (by omega) (fun j => [some (Pr.v (.int (h : Nat))), some (Pr.d K (rD ns)), some (Pr.v (.ref pf)), some (Pr.v (.ref pl)), some (Pr.v (.int (t : Nat))), some (Pr.v (.ref lt)), some (Pr.d K (rD st)), some (Pr.d K (rD ot)), some (Pr.d K (.str bx)), some (Pr.d K (.str (ot.getD j "")))]) (fun j hj => tg_name (i := 9)) (wp_name (by simp)) (fun j hj => ?_) fun j hj _ => ev_var (i := 9) rfl) fun xs H1 c => ?_) ea_nil)) (show 2 ≤ 100000 by decide)) (fun H1 e1 => e1 _ _ (eb _ _ q1)) (by omega) fun v H1 e1 pv s1 => ?_
          · have q := ev_catT (K := K) (R := RE) (H := Hb) (env := [some (Pr.v (.int (h : Nat))), some (Pr.d K (rD ns)), some (Pr.v (.ref pf)), some (Pr.v (.ref pl)), some (Pr.v (.int (t : Nat))), some (Pr.v (.ref lt)), some (Pr.d K (rD st)), some (Pr.d K (rD ot)), some (Pr.d K (.str bx)), none]) (ta := tVar 6) (ds := st.map PyData.str) (es := [.str bx]) (ev_var (i := 6) rfl) (ev_tupD (ea_cons (ev_var (i := 8) rfl) ea_nil) (show 1 ≤ 100000 by decide)) (by rw [List.length_map, List.length_singleton]; omega)
            have e : rD (st ++ [bx]) = .tuple (st.map PyData.str ++ [.str bx]) := by
              unfold rD
              rw [List.map_append]
              rfl
            rw [e]
            exact q
          · refine et_is (et_test (ev_neS (x := .str (ot.getD j "")) (y := .str bx) (ev_str_v (K := K) (ev_var (i := 9) rfl)) (ev_str_v (K := K) (ev_var (i := 8) rfl)) rfl)) ?_
            congr 1
            exact decide_eq_decide.mpr ⟨fun z => V.str.inj z, fun z => by rw [z]⟩
          · have c' : Vs (kept ot.length (fun j => !decide (ot.getD j "" = bx)) fun j => Pr.d K (.str (ot.getD j ""))) xs H1 := c
            rw [kept_filter ot "" (fun x => !decide (x = bx)) PyData.str] at c'
            exact vs_d c'
          · have q1' := e1 _ _ (eb _ _ q1)
            have im := im_lst (o := .lst (ys ++ [v])) q1'
            have imb : Im Ha (upd H1 lt (.lst (ys ++ [v]))) := (Ex.im eb).trans ((Ex.im e1).trans im)
            refine hNb _ _ (((eb.trans e1).w).trans (w_put im rfl)) ((s1.mono im).wk (.s (.s (.s (.s (.s (.s (.s (.s (.n (.s .nil))))))))))) ⟨ys ++ [v], es ++ [(st ++ [bx], ot.filter fun x => !decide (x = bx))], upd_same, ?_, by rw [List.length_append, q3, List.length_singleton]; omega, fun c hc => ?_⟩
            · rw [List.map_append]
              exact (Tps.mono imb _ _ q2).append (tps_cons (Tp.mono im _ _ pv) tps_nil)
            · rcases List.mem_append.mp hc with hc | hc
              · exact q4 c hc
              · rw [List.mem_singleton.mp hc]
                refine ⟨by rw [List.length_append, List.length_singleton, hst'], ?_⟩
                show List.Perm ((st ++ [bx]) ++ _) ns
                rw [List.append_assoc]
                exact (List.Perm.append_left st (perm_pull hotn hbm)).trans hpm'
        · obtain ⟨ys, es, q1, q2, q3, q4⟩ := Ia
          refine hN8 _ _ (((e8.trans e9).w).trans wa) (sa.wk (.s (.s (.s (.s (.s (.s (.n (.n (.s (.s .nil))))))))))) ⟨ys, es, q1, q2, by rw [q3, hotl, Nat.succ_mul], q4⟩
      · -- the layer is the later one; found grows
        obtain ⟨ys, es, q1, q2, q3, q4⟩ := I6
        have w5 : W (fun x => x = lt) H5 H7 := (Ex.w e6).trans w7
        refine q_asg (R := RE) (P := Pr.v (.ref lt)) s7 (Ex.refl _) (ev_var (i := 5) rfl) fun σ8 H8 e8 s8 => ?_
        have hf8 : H8 pf = some (.lst xf) := e8 _ _ (w5.2 _ _ hnf (e45 _ _ hf1))
        have hl8 : H8 lt = some (.lst ys) := e8 _ _ q1
        have im8 : Im H' H8 := ((Ex.im e45).trans w5.1).trans (Ex.im e8)
        have hyl : ys.length = es.length := by rw [q2.length, List.length_map]
        have hfl : xf.length = dsf.length := by rw [hf2.length, List.length_map]
        have hdf : es.length = df ns.length (t + 1) := by rw [q3, hl3]; rfl
        have hel : es.length ≤ 41 := by rw [hdf]; exact df_le _ (by omega) _ (by omega)
        have hsf : dsf.length ≤ 41 := by rw [hf3]; exact sf_le _ (by omega) _ (by omega)
        obtain ⟨v2, hv2, pv2⟩ := s8.2 2 _ rfl
        cases (show v2 = .ref pf from pv2)
        obtain ⟨v5, hv5, pv5⟩ := s8.2 5 _ rfl
        cases (show v5 = .ref lt from pv5)
        refine ⟨_, hv2, _, hv5, pf, lt, xf, ys, rfl, rfl, hf8, hl8, by rw [sizeLine_eq]; omega, fun pn hpn => ?_⟩
        have e9 := Ex.new (o := .lst (xf ++ ys)) hpn
        have hk9 : ∀ a o, H' a = some o → upd H8 pn (.lst (xf ++ ys)) a = some o := fun a o ha => e9 _ _ (e8 _ _ (w5.2 _ _ (ne_of_none (e4 _ _ ha) hlt) (e45 _ _ ha)))
        refine hN (pn, lt) _ _ (show W (fun _ => False) H' _ from ⟨im8.trans (Ex.im e9), fun a o _ ha => hk9 a o ha⟩) (((s8.mono (Ex.im e9)).set (i := 2) (P := Pr.v (.ref pn)) (v := .ref pn) rfl).wk (.s (.s (.s (.s (.n (.n (.s (.s (.s (.s .nil))))))))))) ⟨Ex.trans I1 hk9, ?_, ⟨xf ++ ys, dsf ++ es, upd_same, ?_, ?_, fun c hc => ?_⟩, ys, es, e9 _ _ hl8, Tps.mono ((Ex.im e8).trans (Ex.im e9)) _ _ q2, hdf, q4⟩
        · cases hz : H pn with
          | none => rfl
          | some o =>
            have h1 := I1 _ _ hz
            have h2 := e8 _ _ (w5.2 _ _ (ne_of_none (e4 _ _ h1) hlt) (e45 _ _ h1))
            rw [hpn] at h2
            cases h2
        · rw [List.map_append]
          exact (Tps.mono (im8.trans (Ex.im e9)) _ _ hf2).append (Tps.mono ((Ex.im e8).trans (Ex.im e9)) _ _ q2)
        · rw [List.length_append, hf3, hdf]
          rfl
        · rcases List.mem_append.mp hc with hc | hc
          · have := hf4 c hc
            exact ⟨by omega, this.2⟩
          · have := q4 c hc
            exact ⟨by omega, this.2⟩
    · obtain ⟨pf, pl⟩ := a
      obtain ⟨I1, I0, ⟨xf, dsf, hf1, hf2, hf3, hf4⟩, _⟩ := I
      refine s_ret (R := RE) (P := Pr.v (.ref pf)) s4 (Ex.refl _) (ev_var (i := 2) rfl) fun v H5 e5 pv => ?_
      cases (show v = .ref pf from pv)
      exact k _ _ (Ex.trans I1 e5) ⟨pf, xf, dsf, rfl, I0, e5 _ _ hf1, Tps.mono (Ex.im e5) _ _ hf2, by rw [hf3]; exact sf_le _ (by omega) _ (by omega), hf4⟩⟩
end Sd

set_option Elab.async false
set_option linter.all false
set_option maxRecDepth 100000
set_option maxHeartbeats 2000000
/-! Sp19: all standings. -/
namespace Sd
open PySem PySem.Spec PyProof.Rows L2
def pA (a : List (List Str) × List Str) : PyData := .tuple [sD a.1, rD a.2]
/-- t rows of a standing, and the boxes left -/
def AllOk (hs : List Nat) (ns : List Str) (t : Nat) (c : List (List Str) × List Str) : Prop := c.1.length = t ∧ RowsLe hs c.1 ∧ List.Perm (c.1.flatten ++ c.2) ns ∧ c.2.length ≤ (hs.drop t).sum
theorem allOk_snoc {hs : List Nat} {ns : List Str} {t : Nat} {c : List (List Str) × List Str} {a : List Str × List Str} (h : AllOk hs ns t c) (h1 : a.1.length ≤ hs.getD t 0) (h2 : List.Perm (a.1 ++ a.2) c.2) (h3 : a.2.length ≤ (hs.drop (t + 1)).sum) : AllOk hs ns (t + 1) (c.1 ++ [a.1], a.2) := by
  refine ⟨by rw [List.length_append, h.1, List.length_singleton], fun j => ?_, ?_, h3⟩
  · show ((c.1 ++ [a.1]).getD j []).length ≤ _
    rcases Nat.lt_trichotomy j t with hj | hj | hj
    · have e : (c.1 ++ [a.1]).getD j [] = c.1.getD j [] := by
        rw [List.getD_eq_getElem?_getD, List.getElem?_append_left (by rw [h.1]; exact hj), ← List.getD_eq_getElem?_getD]
      rw [e]
      exact h.2.1 j
    · subst hj
      rw [getD_of [] (show (c.1 ++ [a.1])[j]? = some a.1 by rw [List.getElem?_append_right (by rw [h.1]; exact Nat.le_refl _), h.1, Nat.sub_self]; rfl)]
      exact h1
    · rw [List.getD_eq_getElem?_getD, List.getElem?_eq_none (by rw [List.length_append, h.1, List.length_singleton]; omega)]
      exact Nat.zero_le _
  · show List.Perm ((c.1 ++ [a.1]).flatten ++ a.2) ns
    rw [List.flatten_append, List.flatten_singleton, List.append_assoc]
    exact (List.Perm.append_left _ h2).trans h.2.2.1
theorem rowsLe_nil (hs : List Nat) : RowsLe hs [] := fun j => by
  rw [List.getD_eq_getElem?_getD]
  exact Nat.zero_le _
variable {P : Program} {w : World} {K : PySem.W.Frag} {mg : Str → Option Value} {base : Heap} {B : Adr}
def sp_l_all (K : PySem.W.Frag) : Sp := spR 2 (fun _ : List Nat × List Str => RE) (fun a vs H => ((1 ≤ a.1.length ∧ a.1.length ≤ 4) ∧ (∀ h ∈ a.1, h ≤ 3) ∧ a.2.length ≤ 4 ∧ a.2.Nodup ∧ a.2.length ≤ a.1.sum) ∧ ∃ u p, vs = [u, .ref p] ∧ Tp K H (iD a.1) u ∧ H p = some (.lst (a.2.map V.str)))
  (fun a v H H' => ∃ (p : Addr) (xs : List V) (ss : List (List (List Str))), v = .ref p ∧ H p = none ∧ H' p = some (.lst xs) ∧ Tps K H' (ss.map sD) xs ∧ ∀ s ∈ ss, s.length = a.1.length ∧ RowsLe a.1 s ∧ List.Perm s.flatten a.2)
theorem ok_l_all (T : Txt P K mg B) : FnOk P w K mg base CX0 2 B.a_l_all B.d_l_all ["_law_heights_here", "_law_names_here"] (sp_l_all K) :=
  T.F_l_all.ok sc_l_all (spR_len rfl) fun cdv A outer s H vs Q E hr h => ⟨_, der_l_all T (ok_l_stacks T) hr, by
    obtain ⟨_, ⟨hs, ns⟩, r, ⟨⟨⟨hl1, hl4⟩, hh3, hn4, hnd, hsum⟩, u, p, rfl, hu, hp⟩, k⟩ := h
    have hl1' : 1 ≤ hs.length := hl1
    have hl4' : hs.length ≤ 4 := hl4
    have hh3' : ∀ h ∈ hs, h ≤ 3 := hh3
    have hn4' : ns.length ≤ 4 := hn4
    have hnd' : ns.Nodup := hnd
    have hsum' : ns.length ≤ hs.sum := hsum
    have hp' : H p = some (.lst (ns.map V.str)) := hp
    have s0 : Slots (start N_l_all [u, V.ref p]) [some (Pr.d K (iD hs)), some (Pr.v (.ref p)), none, none, none, none, none, none, none, none, none] H := start_slots (Ps := [Pr.d K (iD hs), Pr.v (.ref p)]) (.cons hu (.cons rfl .nil)) rfl
    generalize start N_l_all [u, V.ref p] = σ0 at s0
    refine q_asgL (R := RE) (C := fun xs H' => Tps K H' [pA ([], ns)] xs) s0 (Ex.refl _) ((ev_lst (ea_cons (ev_tupD (ds := [sD [], rD ns]) (ea_cons (ev_tupD (ds := []) ea_nil (Nat.zero_le _)) (ea_cons (ev_tupleL (R := RE) (K := K) (xs := ns.map V.str) (ds := ns.map PyData.str) (ev_var (i := 1) rfl) (fun H1 e => .inl (.inl (e _ _ hp'))) (strs_tps ns)) ea_nil)) (show 2 ≤ 100000 by decide)) ea_nil) (show 1 ≤ 100000 by decide)).imp fun xs H2 _ c => vs_d (ds := [pA ([], ns)]) c) fun p2 xs2 σ1 H1 e1 hn1 hp1 c1 s1 => ?_
    have sq := sq_enumT (K := K) (S := RE) (M := fun _ => False) (A := fun i => Pr.d K (.int (hs.getD i 0 : Nat))) (env := [some (Pr.d K (iD hs)), some (Pr.v (.ref p)), some (Pr.v (.ref p2)), none, none, none, none, none, none, none, none]) (H := H1) (ds := hs.map fun (n : Nat) => PyData.int (n : Int)) (ev_var (i := 0) rfl) fun i d h => by rw [hs_items h]
    rw [List.length_map] at sq
    refine q_forA (α := Addr) sq s1 (Ex.refl _) (fun a => [some (Pr.d K (iD hs)), some (Pr.v (.ref p)), some (Pr.v (.ref a)), none, none, none, none, none, none, none, none]) (fun i a => [some (Pr.d K (iD hs)), some (Pr.v (.ref p)), some (Pr.v (.ref a)), some (Pr.v (.int (i : Nat))), some (Pr.d K (.int (hs.getD i 0 : Nat))), none, none, none, none, none, none]) (fun i a hi => tg_pair (tg_name (i := 3)) (tg_name (i := 4)))
      (fun t a H' => Ex H H' ∧ ∃ (xs : List V) (ds : List (List (List Str) × List Str)), H' a = some (.lst xs) ∧ Tps K H' (ds.map pA) xs ∧ ds.length ≤ 41 ^ t ∧ ∀ c ∈ ds, AllOk hs ns t c)
      p2 (.s (.s (.s (.s (.s (.s (.s (.s (.s (.s (.s .nil))))))))))) (fun H3 e3 => ⟨Ex.trans e1 e3, xs2, [([], ns)], e3 _ _ hp1, Tps.mono (Ex.im e3) _ _ c1, Nat.le_refl _, fun c hc => ?_⟩)
      (fun H3 e3 t pf σ' H' H4 hi w1 I e4 s4 N hN => ?_) fun H3 e3 pf σ' H' w1 s4 I => ?_
    · rw [List.mem_singleton.mp hc]
      exact ⟨rfl, rowsLe_nil hs, List.Perm.refl _, hsum'⟩
    · obtain ⟨I1, xf, dsf, hf1, hf2, hf3, hf4⟩ := I
      have hbnd : ∀ m, m ≤ dsf.length → m * 41 ≤ 2825761 := fun m hm => by
        have h1 : m * 41 ≤ 41 ^ t * 41 := Nat.mul_le_mul_right _ (Nat.le_trans hm hf3)
        have h2 : 41 ^ t * 41 = 41 ^ (t + 1) := (Nat.pow_succ ..).symm
        have h3 : 41 ^ (t + 1) ≤ 41 ^ 4 := Nat.pow_le_pow_right (by decide) (by omega)
        have h4 : (41 ^ 4 : Nat) = 2825761 := by decide
        omega
      refine qrun_par (run_cons (run_lst ⟨Nat.zero_le _, fun lt hlt => ?_⟩))
      have e5 := Ex.new (o := .lst []) hlt
      have hlt5 : upd H4 lt (.lst []) lt = some (.lst []) := upd_same
      generalize upd H4 lt (.lst []) = H5 at e5 hlt5
      refine run_cons ?_
      have hsum5 : Ev RE (tCB (rSumT K) (tCons (tSl (rSlA K) (tVar 0) (tPart (tOp rAddI (tVar 3) (tC (.int 1)))) tNoPart) tNil)) [some (Pr.d K (iD hs)), some (Pr.v (.ref p)), some (Pr.v (.ref pf)), some (Pr.v (.int (t : Nat))), some (Pr.d K (.int (hs.getD t 0 : Nat))), none, none, none, none, none, none] H5 (Pr.v (.int (((hs.drop (t + 1)).sum : Nat) : Int))) := by
        refine ev_sumI ?_
        have q := ev_slT (K := K) (R := RE) (H := H5) (env := [some (Pr.d K (iD hs)), some (Pr.v (.ref p)), some (Pr.v (.ref pf)), some (Pr.v (.int (t : Nat))), some (Pr.d K (.int (hs.getD t 0 : Nat))), none, none, none, none, none, none]) (ds := hs.map fun (n : Nat) => PyData.int (n : Int)) (lo := some ((t + 1 : Nat) : Int)) (hi := none) (ev_var (i := 0) rfl) (eo_some (ev_I0 (i := (t : Nat)) (j := 1) (g := fun i j => .int (i + j)) (ev_var (i := 3) rfl) ev_cv)) eo_none
        rw [cut_from, ← List.map_drop] at q
        exact q
      refine hsum5 σ' H5 (Ex.refl _) (s4.mono (Ex.im e5)) _ fun rm H6 e6 prm => ?_
      cases (show rm = .int (((hs.drop (t + 1)).sum : Nat) : Int) from prm)
      refine ⟨_, _, rfl, ?_⟩
      have e46 : Ex H' H6 := e4.trans (Ex.trans e5 e6)
      have s6 := ((s4.mono (Ex.im (Ex.trans e5 e6))).set (i := 5) (P := Pr.v (.ref lt)) (v := .ref lt) rfl).set (i := 6) (P := Pr.v (.int (((hs.drop (t + 1)).sum : Nat) : Int))) (v := .int (((hs.drop (t + 1)).sum : Nat) : Int)) rfl
      have hlt6 : H6 lt = some (.lst []) := e6 _ _ hlt5
      have hf6 := e46 _ _ hf1
      have hne : pf ≠ lt := ne_of_none (e4 _ _ hf1) hlt
      generalize (σ'.set 5 (some (V.ref lt))).set 6 (some (V.int (((hs.drop (t + 1)).sum : Nat) : Int))) = σ6 at s6
      have sq1 := sq_list (K := K) (S := RE) (M := fun x => x = lt) (Iz := fun i => Pr.d K (pA (dsf.getD i ([], [])))) (env := [some (Pr.d K (iD hs)), some (Pr.v (.ref p)), some (Pr.v (.ref pf)), some (Pr.v (.int (t : Nat))), some (Pr.d K (.int (hs.getD t 0 : Nat))), some (Pr.v (.ref lt)), some (Pr.v (.int (((hs.drop (t + 1)).sum : Nat) : Int))), none, none, none, none]) (H := H6) (xs := xf) (ev_var (i := 2) rfl) (fun H7 e => e _ _ hf6) hne fun H7 e7 i x H8 hx w8 => by
        obtain ⟨dd, hd, td⟩ := (Tps.mono ((Ex.im e46).trans ((Ex.im e7).trans w8.1)) _ _ hf2).at_ hx
        rw [List.getElem?_map] at hd
        cases hz : dsf[i]? with
        | none => rw [hz] at hd; cases hd
        | some z =>
          rw [hz] at hd
          cases hd
          rw [getD_of _ hz]
          exact td
      have hxl : xf.length = dsf.length := by rw [hf2.length, List.length_map]
      rw [hxl] at sq1
      refine q_for sq1 s6 (Ex.refl _) [some (Pr.d K (iD hs)), some (Pr.v (.ref p)), some (Pr.v (.ref pf)), some (Pr.v (.int (t : Nat))), some (Pr.d K (.int (hs.getD t 0 : Nat))), some (Pr.v (.ref lt)), some (Pr.v (.int (((hs.drop (t + 1)).sum : Nat) : Int))), none, none, none, none] (.s (.s (.s (.s (.s (.s (.s (.s (.s (.s (.s .nil))))))))))) (fun i => [some (Pr.d K (iD hs)), some (Pr.v (.ref p)), some (Pr.v (.ref pf)), some (Pr.v (.int (t : Nat))), some (Pr.d K (.int (hs.getD t 0 : Nat))), some (Pr.v (.ref lt)), some (Pr.v (.int (((hs.drop (t + 1)).sum : Nat) : Int))), some (Pr.d K (sD (dsf.getD i ([], [])).1)), some (Pr.d K (rD (dsf.getD i ([], [])).2)), none, none]) (fun i hi => tg_pairD (tg_name (i := 7)) (tg_name (i := 8)))
        (fun i H7 => ∃ (ys : List V) (es : List (List (List Str) × List Str)), H7 lt = some (.lst ys) ∧ Tps K H7 (es.map pA) ys ∧ es.length ≤ i * 41 ∧ ∀ c ∈ es, AllOk hs ns (t + 1) c) (fun H7 e7 => ⟨[], [], e7 _ _ hlt6, tps_nil, by simp, fun c hc => by simp at hc⟩) (fun H7 e7 i σ7 H8 H9 hi7 w8 I8 e9 s9 N8 hN8 => ?_) fun H7 e7 σ7 H8 w8 s8 I8 => ?_
      · have hmem : dsf.getD i ([], []) ∈ dsf := by
          rw [getD_of _ (List.getElem?_eq_getElem hi7)]
          exact List.getElem_mem _
        have hok := hf4 _ hmem
        generalize dsf.getD i ([], []) = so at *
        obtain ⟨rows, rest⟩ := so
        have hok' : AllOk hs ns t (rows, rest) := hok
        have hrn : rest.Nodup := (List.nodup_append.mp (hok'.2.2.1.nodup_iff.mpr hnd')).2.1
        have hrl : rest.length ≤ 4 := by
          have := hok'.2.2.1.length_eq
          simp only [List.length_append] at this
          omega
        have hht : hs.getD t 0 ≤ 3 := by
          rw [getD_of 0 (List.getElem?_eq_getElem hi)]
          exact hh3' _ (List.getElem_mem _)
        refine for_listN (R := RE) (C := fun xs H' => ∃ ds : List (List Str × List Str), Tps K H' (ds.map pD2) xs ∧ ds.length ≤ 41 ∧ ∀ c ∈ ds, c.1.length ≤ hs.getD t 0 ∧ List.Perm (c.1 ++ c.2) rest) s9 (Ex.refl _) (ev_spRL (ea_cons (ev_int_v (K := K) (i := (hs.getD t 0 : Nat)) (ev_var (i := 4) rfl)) (ea_cons (ev_var (i := 8) (P := Pr.d K (rD rest)) rfl) ea_nil)) (hs.getD t 0, rest) sub_E rfl (fun vs H1 r1 pv => ?_) fun v H1 H2 r1 r2 pp => ?_) fun q xq Ha ea hnq hqa cq sa => ?_
        · obtain ⟨a, b, rfl, pa, pb⟩ := vs2 pv
          rw [show a = .int (hs.getD t 0 : Nat) from pa]
          exact ⟨⟨hht, hrl, hrn⟩, b, rfl, pb⟩
        · obtain ⟨p, xs, ds, h1, h2, h3, h4, h5, h6⟩ := pp
          exact ⟨p, xs, h1, h2, h3, ds, h4, h5, h6⟩
        · obtain ⟨dq, hq2, hq3, hq4⟩ := cq
          have hql : q ≠ lt := fun z => by
            obtain ⟨ys, es, q1, _⟩ := I8
            have := e9 _ _ q1
            rw [← z, hnq] at this
            cases this
          have sq2 := sq_list (K := K) (S := RE) (M := fun x => x = lt) (Iz := fun i => Pr.d K (pD2 (dq.getD i ([], [])))) (env := [some (Pr.d K (iD hs)), some (Pr.v (.ref p)), some (Pr.v (.ref pf)), some (Pr.v (.int (t : Nat))), some (Pr.d K (.int (hs.getD t 0 : Nat))), some (Pr.v (.ref lt)), some (Pr.v (.int (((hs.drop (t + 1)).sum : Nat) : Int))), some (Pr.d K (sD rows)), some (Pr.d K (rD rest)), none, none]) (H := Ha) (xs := xq) (ev_cv (v := .ref q)) (fun H7 e => e _ _ hqa) hql fun Hb eb i x Hc hx wc => by
            obtain ⟨dd, hd, td⟩ := (Tps.mono ((Ex.im eb).trans wc.1) _ _ hq2).at_ hx
            rw [List.getElem?_map] at hd
            cases hz : dq[i]? with
            | none => rw [hz] at hd; cases hd
            | some z =>
              rw [hz] at hd
              cases hd
              rw [getD_of _ hz]
              exact td
          have hxq : xq.length = dq.length := by rw [hq2.length, List.length_map]
          rw [hxq] at sq2
          refine s_for sq2 sa (Ex.refl _) [some (Pr.d K (iD hs)), some (Pr.v (.ref p)), some (Pr.v (.ref pf)), some (Pr.v (.int (t : Nat))), some (Pr.d K (.int (hs.getD t 0 : Nat))), some (Pr.v (.ref lt)), some (Pr.v (.int (((hs.drop (t + 1)).sum : Nat) : Int))), some (Pr.d K (sD rows)), some (Pr.d K (rD rest)), none, none] (.s (.s (.s (.s (.s (.s (.s (.s (.s (.s (.s .nil))))))))))) (fun j => [some (Pr.d K (iD hs)), some (Pr.v (.ref p)), some (Pr.v (.ref pf)), some (Pr.v (.int (t : Nat))), some (Pr.d K (.int (hs.getD t 0 : Nat))), some (Pr.v (.ref lt)), some (Pr.v (.int (((hs.drop (t + 1)).sum : Nat) : Int))), some (Pr.d K (sD rows)), some (Pr.d K (rD rest)), some (Pr.d K (rD (dq.getD j ([], [])).1)), some (Pr.d K (rD (dq.getD j ([], [])).2))]) (fun j hj => tg_pairD (tg_name (i := 9)) (tg_name (i := 10)))
            (fun j H9 => ∃ (ys : List V) (es : List (List (List Str) × List Str)), H9 lt = some (.lst ys) ∧ Tps K H9 (es.map pA) ys ∧ es.length ≤ i * 41 + j ∧ ∀ c ∈ es, AllOk hs ns (t + 1) c) (fun Hb eb => ?_) (fun Hb eb j σb Hc Hd hj wc Ic ed sd Nd hNd => ?_) fun Hb eb σb Hc wc sc Ic => ?_
          · obtain ⟨ys, es, q1, q2, q3, q4⟩ := I8
            exact ⟨ys, es, eb _ _ (ea _ _ (e9 _ _ q1)), Tps.mono ((Ex.im e9).trans ((Ex.im ea).trans (Ex.im eb))) _ _ q2, q3, q4⟩
          · have hmemq : dq.getD j ([], []) ∈ dq := by
              rw [getD_of _ (List.getElem?_eq_getElem hj)]
              exact List.getElem_mem _
            obtain ⟨hq5, hq6⟩ := hq4 _ hmemq
            generalize dq.getD j ([], []) = so at *
            obtain ⟨sk, ot⟩ := so
            have hq5' : sk.length ≤ hs.getD t 0 := hq5
            have hq6' : List.Perm (sk ++ ot) rest := hq6
            obtain ⟨ys, es, q1, q2, q3, q4⟩ := Ic
            have hyl : ys.length = es.length := by rw [q2.length, List.length_map]
            have hrl2 : rows.length ≤ 4 := by
              have h1 : rows.length = t := hok'.1
              omega
            have hlo : Ev RE (tCB (rLenSeq K) (tCons (tVar 10) tNil)) [some (Pr.d K (iD hs)), some (Pr.v (.ref p)), some (Pr.v (.ref pf)), some (Pr.v (.int (t : Nat))), some (Pr.d K (.int (hs.getD t 0 : Nat))), some (Pr.v (.ref lt)), some (Pr.v (.int (((hs.drop (t + 1)).sum : Nat) : Int))), some (Pr.d K (sD rows)), some (Pr.d K (rD rest)), some (Pr.d K (rD sk)), some (Pr.d K (rD ot))] Hd (Pr.v (.int (ot.length : Nat))) := by
              have q := ev_lenT (K := K) (R := RE) (H := Hd) (env := [some (Pr.d K (iD hs)), some (Pr.v (.ref p)), some (Pr.v (.ref pf)), some (Pr.v (.int (t : Nat))), some (Pr.d K (.int (hs.getD t 0 : Nat))), some (Pr.v (.ref lt)), some (Pr.v (.int (((hs.drop (t + 1)).sum : Nat) : Int))), some (Pr.d K (sD rows)), some (Pr.d K (rD rest)), some (Pr.d K (rD sk)), some (Pr.d K (rD ot))]) (ta := tVar 10) (ds := ot.map PyData.str) (ev_var (i := 10) rfl)
              rw [List.length_map] at q
              exact q
            refine s_if (R := RE) sd (Ex.refl _) (et_test (ev_I0 (i := (ot.length : Nat)) (j := (((hs.drop (t + 1)).sum : Nat) : Int)) (g := fun i j => .bl (decide (i ≤ j))) hlo (ev_var (i := 6) rfl))) (fun hb He ee se => ?_) fun hb He ee se => hNd _ _ (ed.trans ee).w (se.wk (.s (.s (.s (.s (.s (.s (.s (.s (.s (.n (.n .nil)))))))))))) ⟨ys, es, ee _ _ (ed _ _ q1), Tps.mono ((Ex.im ed).trans (Ex.im ee)) _ _ q2, by omega, q4⟩
            have hb' : ot.length ≤ (hs.drop (t + 1)).sum := by
              have := of_decide_eq_true hb
              omega
            have hez : es.length < 16777216 := by
              have := hbnd (i + 1) (by omega)
              have hj41 : j < 41 := by omega
              omega
            refine s_append (R := RE) (K := K) (P := Pr.d K (pA (rows ++ [sk], ot))) se (Ex.refl _) (ev_var (i := 5) rfl) (ev_tupD (ds := [sD (rows ++ [sk]), rD ot]) (ea_cons ?_ (ea_cons (ev_var (i := 10) rfl) ea_nil)) (show 2 ≤ 100000 by decide)) (fun H1 e1 => e1 _ _ (ee _ _ (ed _ _ q1))) (by omega) fun v H1 e1 pv s1 => ?_
            · have q := ev_catT (K := K) (R := RE) (H := He) (env := [some (Pr.d K (iD hs)), some (Pr.v (.ref p)), some (Pr.v (.ref pf)), some (Pr.v (.int (t : Nat))), some (Pr.d K (.int (hs.getD t 0 : Nat))), some (Pr.v (.ref lt)), some (Pr.v (.int (((hs.drop (t + 1)).sum : Nat) : Int))), some (Pr.d K (sD rows)), some (Pr.d K (rD rest)), some (Pr.d K (rD sk)), some (Pr.d K (rD ot))]) (ta := tVar 7) (ds := rows.map rD) (es := [rD sk]) (ev_var (i := 7) rfl) (ev_tupD (ea_cons (ev_var (i := 9) rfl) ea_nil) (show 1 ≤ 100000 by decide)) (by rw [List.length_map, List.length_singleton]; omega)
              have e : sD (rows ++ [sk]) = .tuple (rows.map rD ++ [rD sk]) := by
                unfold sD
                rw [List.map_append]
                rfl
              rw [e]
              exact q
            · have q1' := (show Ex He H1 from e1) _ _ (ee _ _ (ed _ _ q1))
              have im := im_lst (o := .lst (ys ++ [v])) q1'
              have imb : Im Hc (upd H1 lt (.lst (ys ++ [v]))) := (Ex.im ed).trans ((Ex.im ee).trans ((Ex.im e1).trans im))
              refine hNd _ _ ((((ed.trans ee).trans e1).w).trans (w_put im rfl)) ((s1.mono im).wk (.s (.s (.s (.s (.s (.s (.s (.s (.s (.n (.n .nil)))))))))))) ⟨ys ++ [v], es ++ [(rows ++ [sk], ot)], upd_same, ?_, by rw [List.length_append, List.length_singleton]; omega, fun c hc => ?_⟩
              · rw [List.map_append]
                exact (Tps.mono imb _ _ q2).append (tps_cons (Tp.mono im _ _ pv) tps_nil)
              · rcases List.mem_append.mp hc with hc | hc
                · exact q4 c hc
                · rw [List.mem_singleton.mp hc]
                  exact allOk_snoc (c := (rows, rest)) (a := (sk, ot)) hok' hq5' hq6' hb'
          · obtain ⟨ys, es, q1, q2, q3, q4⟩ := Ic
            refine hN8 _ _ ((((e9.trans ea).trans eb).w).trans wc) (sc.wk (.s (.s (.s (.s (.s (.s (.s (.n (.n (.s (.s .nil)))))))))))) ⟨ys, es, q1, q2, by omega, q4⟩
      · obtain ⟨ys, es, q1, q2, q3, q4⟩ := I8
        have w5 : W (fun x => x = lt) H6 H8 := (Ex.w e7).trans w8
        refine s_asg (R := RE) (P := Pr.v (.ref lt)) s8 (Ex.refl _) (ev_var (i := 5) rfl) fun σ9 H9 e9 s9 => ?_
        have hk9 : ∀ a o, H' a = some o → H9 a = some o := fun a o ha => e9 _ _ (w5.2 _ _ (ne_of_none (e4 _ _ ha) hlt) (e46 _ _ ha))
        have im9 : Im H' H9 := ((Ex.im e46).trans w5.1).trans (Ex.im e9)
        refine hN lt _ _ ⟨im9, fun a o _ ha => hk9 a o ha⟩ (s9.wk (.s (.s (.s (.n (.n (.n (.n (.s (.s (.s (.s .nil)))))))))))) ⟨Ex.trans I1 hk9, ys, es, e9 _ _ q1, Tps.mono (Ex.im e9) _ _ q2, ?_, q4⟩
        refine Nat.le_trans q3 ?_
        rw [Nat.pow_succ]
        exact Nat.mul_le_mul_right _ hf3
    · obtain ⟨I1, xf, dsf, hf1, hf2, hf3, hf4⟩ := I
      have hxl : xf.length = dsf.length := by rw [hf2.length, List.length_map]
      have hbd : dsf.length ≤ 4000000 := by
        have h3 : 41 ^ hs.length ≤ 41 ^ 4 := Nat.pow_le_pow_right (by decide) (by omega)
        have h4 : (41 ^ 4 : Nat) = 2825761 := by decide
        omega
      have src := sr_list (K := K) (R := RE) (Iz := fun i => Pr.d K (pA (dsf.getD i ([], [])))) (env := [some (Pr.d K (iD hs)), some (Pr.v (.ref p)), some (Pr.v (.ref pf)), none, none, none, none, none, none, none, none]) (H := H') (xs := xf) (ev_var (i := 2) rfl) (fun H7 e => .inl (.inl (e _ _ hf1))) fun i x H8 hx e8 => by
        obtain ⟨dd, hd, td⟩ := (Tps.mono (Ex.im e8) _ _ hf2).at_ hx
        rw [List.getElem?_map] at hd
        cases hz : dsf[i]? with
        | none => rw [hz] at hd; cases hd
        | some z =>
          rw [hz] at hd
          cases hd
          rw [getD_of _ hz]
          exact td
      rw [hxl] at src
      refine s_retL (R := RE) s4 (Ex.refl _) (ev_lcB (fun _ => true) (fun i => Pr.d K (sD (dsf.getD i ([], [])).1)) src hbd (fun i => [some (Pr.d K (iD hs)), some (Pr.v (.ref p)), some (Pr.v (.ref pf)), none, none, none, none, some (Pr.d K (sD (dsf.getD i ([], [])).1)), some (Pr.d K (rD (dsf.getD i ([], [])).2)), none, none]) (fun i hi => tg_pairD (tg_name (i := 7)) (tg_name (i := 8))) (wp_pair2 (by simp) (by simp)) (fun i hi => et_yes) fun i hi _ => ev_var (i := 7) rfl) fun q xs H5 e5 hq hq5 c => k _ _ (Ex.trans I1 e5) ⟨q, xs, dsf.map (·.1), rfl, Ex.back I1 hq, hq5, kept_data (by simp) (fun i dd h => ?_) c, fun s hs' => ?_⟩
      · rw [List.getElem?_map, List.getElem?_map] at h
        cases hz : dsf[i]? with
        | none => rw [hz] at h; cases h
        | some z =>
          rw [hz] at h
          cases h
          rw [getD_of _ hz]
      · obtain ⟨c, hc, rfl⟩ := List.mem_map.mp hs'
        obtain ⟨h1, h2, h3, h4⟩ := hf4 c hc
        have h4' : c.2.length ≤ 0 := by
          rw [List.drop_length] at h4
          exact h4
        have h5 : c.2 = [] := List.length_eq_zero_iff.mp (by omega)
        rw [h5, List.append_nil] at h3
        exact ⟨h1, h2, h3⟩⟩
end Sd

set_option Elab.async false
set_option linter.all false
set_option maxRecDepth 100000
set_option maxHeartbeats 2000000
/-! Sp20: what moves reach. -/
namespace Sd
open PySem PySem.Spec PyProof.Rows L2
def rk (r : List Str) : NestedKey := .tup (r.map NestedKey.text)
def sk (s : List (List Str)) : NestedKey := .tup (s.map rk)
theorem datas_text : ∀ r : List Str, NestedKey.datas (r.map NestedKey.text) = r.map PyData.str
  | [] => rfl
  | x :: r => by
    rw [List.map_cons, NestedKey.datas, datas_text r]
    rfl
theorem data_rk (r : List Str) : NestedKey.data (rk r) = rD r := by
  unfold rk rD
  rw [NestedKey.data, datas_text]
theorem datas_rk : ∀ s : List (List Str), NestedKey.datas (s.map rk) = s.map rD
  | [] => rfl
  | x :: r => by
    rw [List.map_cons, NestedKey.datas, datas_rk r, data_rk]
    rfl
theorem data_sk (s : List (List Str)) : NestedKey.data (sk s) = sD s := by
  unfold sk sD
  rw [NestedKey.data, datas_rk]
theorem depth_text : ∀ r : List Str, NestedKey.depthAll (r.map NestedKey.text) = 0
  | [] => rfl
  | x :: r => by
    rw [List.map_cons, NestedKey.depthAll, depth_text r]
    rfl
theorem depth_rk : ∀ s : List (List Str), NestedKey.depthAll (s.map rk) ≤ 1
  | [] => by decide
  | x :: r => by
    have := depth_rk r
    rw [List.map_cons, NestedKey.depthAll, rk, NestedKey.depth, depth_text]
    omega
theorem depth_sk (s : List (List Str)) : (sk s).depth ≤ 8 := by
  have := depth_rk s
  unfold sk
  rw [NestedKey.depth]
  omega
theorem map_inj {α β : Type} {f : α → β} (hf : ∀ a b, f a = f b → a = b) : ∀ (a b : List α), a.map f = b.map f → a = b
  | [], [], _ => rfl
  | [], _ :: _, h => by simp at h
  | _ :: _, [], h => by simp at h
  | x :: a, y :: b, h => by
    rw [List.map_cons, List.map_cons] at h
    injection h with h1 h2
    rw [hf _ _ h1, map_inj hf a b h2]
theorem rk_inj (a b : List Str) (h : rk a = rk b) : a = b := by
  unfold rk at h
  injection h with h
  exact map_inj (fun x y e => by injection e) a b h
theorem sk_inj (a b : List (List Str)) (h : sk a = sk b) : a = b := by
  unfold sk at h
  injection h with h
  exact map_inj rk_inj a b h
theorem sk_mem {s : List (List Str)} {F : List (List (List Str))} : sk s ∈ F.map sk ↔ s ∈ F := by
  constructor
  · intro h
    obtain ⟨t, ht, e⟩ := List.mem_map.mp h
    rw [← sk_inj _ _ e]
    exact ht
  · exact fun h => List.mem_map.mpr ⟨s, h, rfl⟩
theorem lay_sts : ∀ (ss : List (List (List Str))), (∀ s ∈ ss, ∀ r ∈ s, ∀ x ∈ r, smT x) → PyData.canLayAll0 (ss.map sD) = true
  | [], _ => rfl
  | s :: ss, h => by
    have h1 := lay_rows s (h s List.mem_cons_self)
    have h2 := lay_sts ss fun t ht => h t (List.mem_cons_of_mem _ ht)
    simp only [List.map_cons, PyData.canLayAll0, sD, PyData.canLay0, h1, Bool.true_and]
    exact h2
theorem depth_sts : ∀ (ss : List (List (List Str))), PyData.depthAll (ss.map sD) ≤ 10
  | [] => by decide
  | s :: ss => by
    have h1 := depth_rows s
    have h2 := depth_sts ss
    simp only [List.map_cons, PyData.depthAll, sD, PyData.depth] at *
    omega
theorem shaped_sts {ss : List (List (List Str))} (h : ∀ s ∈ ss, ∀ r ∈ s, ∀ x ∈ r, smT x) : SeqAt.shaped (.list (ss.map sD)) = true := by
  unfold SeqAt.shaped
  have := depth_sts ss
  simp only [PyData.canLay0, PyData.depth, lay_sts ss h, Bool.true_and]
  exact decide_eq_true (show PyData.depthAll (ss.map sD) + 1 ≤ 64 by omega)
/-! ### moves -/
def mv (s : List (List Str)) (a b : Nat) : List (List Str) := (s.set a (s.getD a []).dropLast).set b (s.getD b [] ++ (s.getD a []).drop ((s.getD a []).length - 1))
def okMv (hs : List Nat) (s : List (List Str)) (a b : Nat) : Prop := (a < s.length ∧ b < s.length) ∧ a ≠ b ∧ 0 < (s.getD a []).length ∧ (s.getD b []).length < hs.getD b 0
inductive Reach (hs : List Nat) (s0 : List (List Str)) : List (List Str) → Prop
  | base : Reach hs s0 s0
  | step {s : List (List Str)} {a b : Nat} : Reach hs s0 s → okMv hs s a b → Reach hs s0 (mv s a b)
/-- the moves of T lead into F -/
def Cl (hs : List Nat) (F : List (List (List Str))) (T : List (List Str) → Nat → Nat → Prop) : Prop := ∀ s a b, T s a b → okMv hs s a b → mv s a b ∈ F
theorem Cl.more {hs : List Nat} {F G : List (List (List Str))} {T : List (List Str) → Nat → Nat → Prop} (h : Cl hs F T) (k : ∀ s ∈ F, s ∈ G) : Cl hs G T := fun s a b t o => k _ (h s a b t o)
def T0 (L : List (List (List Str))) (i : Nat) : List (List Str) → Nat → Nat → Prop := fun s _ _ => ∃ i', i' < i ∧ L[i']? = some s
def T1 (L : List (List (List Str))) (i a : Nat) : List (List Str) → Nat → Nat → Prop := fun s a' b' => T0 L i s a' b' ∨ (L[i]? = some s ∧ a' < a)
def T2 (L : List (List (List Str))) (i a b : Nat) : List (List Str) → Nat → Nat → Prop := fun s a' b' => T1 L i a s a' b' ∨ (L[i]? = some s ∧ a' = a ∧ b' < b)
theorem nodup_le {α : Type} [DecidableEq α] : ∀ (F V : List α), F.Nodup → (∀ s ∈ F, s ∈ V) → F.length ≤ V.length
  | [], _, _, _ => Nat.zero_le _
  | x :: F, V, n, h => by
    obtain ⟨n1, n2⟩ := List.nodup_cons.mp n
    have hx := h x List.mem_cons_self
    have ih := nodup_le F (V.erase x) n2 fun y hy => (List.mem_erase_of_ne (fun (e : y = x) => n1 (e ▸ hy))).mpr (h y (List.mem_cons_of_mem _ hy))
    rw [List.length_erase_of_mem hx] at ih
    have := List.length_pos_of_mem hx
    rw [List.length_cons]
    omega
section
variable {env : Env'} {H : Hp} {σ : L2.St} {te to ti : TE} {P' : Pr} {D : Ends} {z : TS}
/-- l[j] = e -/
theorem q_setL {p : Addr} {xs : List V} {j : Nat} (s : Slots σ env H) (he : Ev RE te env H P') (ho : Ev RE to env H (Pr.v (.ref p))) (hi : Ev RE ti env H (Pr.v (.int (j : Nat)))) (hx : H p = some (.lst xs)) (hj : j < xs.length)
    (k : ∀ v H1, Ex H H1 → P'.P v (upd H1 p (.lst (xs.set j v))) → Im H (upd H1 p (.lst (xs.set j v))) → Slots σ env (upd H1 p (.lst (xs.set j v))) → z D σ (upd H1 p (.lst (xs.set j v)))) : tSeq (tAsg te (gSub to ti rSetL)) z D σ H :=
  he σ H (Ex.refl _) s _ fun v H1 e1 pv => ho σ H1 e1 (s.mono (Ex.im e1)) _ fun y H2 e2 py => hi σ H2 (Ex.trans e1 e2) (s.mono (Ex.im (Ex.trans e1 e2))) _ fun x H3 e3 px => by
    have e : Ex H H3 := Ex.trans (Ex.trans e1 e2) e3
    have im := im_lst (o := .lst (xs.set j v)) (e _ _ hx)
    refine ⟨p, xs, j, j, py, px, e _ _ hx, by unfold ixN; rw [if_pos (by omega), if_pos (by omega), Int.toNat_natCast], ?_⟩
    exact k v H3 e (P'.mo ((Ex.im (Ex.trans e2 e3)).trans im) pv) ((Ex.im e).trans im) (s.mono ((Ex.im e).trans im))
end
variable {P : Program} {w : World} {K : PySem.W.Frag} {mg : Str → Option Value} {base : Heap} {B : Adr}
def sp_l_reached (K : PySem.W.Frag) (P : Program) (w : World) : Sp := spR 2 (fun _ : List Nat × List (List Str) × List (List (List Str)) => RE)
  (fun a vs H => (a.2.2.length ≤ 200 ∧ (∀ s, Reach a.1 a.2.1 s → s ∈ a.2.2) ∧ ∀ s, Reach a.1 a.2.1 s → s.length = a.1.length ∧ ∀ r ∈ s, r.length ≤ 100 ∧ ∀ x ∈ r, smT x) ∧ ∃ u v, vs = [u, v] ∧ Tp K H (iD a.1) u ∧ Tp K H (sD a.2.1) v)
  (fun a v H H' => ∃ (p : Addr) (F : List (List (List Str))), v = .ref p ∧ H p = none ∧ ND K P w H' p (F.map sk) ∧ ∀ s, s ∈ F ↔ Reach a.1 a.2.1 s)
theorem ok_l_reached (T : Txt P K mg B) : FnOk P w K mg base CX0 1 B.a_l_reached B.d_l_reached ["_law_heights_here", "_law_standing"] (sp_l_reached K P w) :=
  T.F_l_reached.ok sc_l_reached (spR_len rfl) fun cdv A outer s H vs Q E hr h => ⟨_, der_l_reached T hr, by
    obtain ⟨_, ⟨hs, st, Vs'⟩, r, ⟨⟨hV, hVr, hgood⟩, u, v, rfl, hu, hv⟩, k⟩ := h
    have hV' : Vs'.length ≤ 200 := hV
    have hVr' : ∀ s, Reach hs st s → s ∈ Vs' := hVr
    have hgood' : ∀ s, Reach hs st s → s.length = hs.length ∧ ∀ r ∈ s, r.length ≤ 100 ∧ ∀ x ∈ r, smT x := hgood
    have hFl : ∀ F : List (List (List Str)), F.Nodup → (∀ s ∈ F, Reach hs st s) → F.length ≤ 200 := fun F n h => Nat.le_trans (nodup_le F Vs' n fun s hs' => hVr' s (h s hs')) hV'
    have hclose : ∀ F : List (List (List Str)), st ∈ F → Cl hs F (fun s _ _ => s ∈ F) → ∀ s, Reach hs st s → s ∈ F := fun F h0 hc s hr => by
      induction hr with
      | base => exact h0
      | step h1 h2 ih => exact hc _ _ _ ih h2
    have s0 : Slots (start N_l_reached [u, v]) [some (Pr.d K (iD hs)), some (Pr.d K (sD st)), none, none, none, none, none, none, none, none, none, none] H := start_slots (Ps := [Pr.d K (iD hs), Pr.d K (sD st)]) (.cons hu (.cons hv .nil)) rfl
    generalize start N_l_reached [u, v] = σ0 at s0
    refine qrun_par (run_cons fun p2 hp2 => ?_)
    have e1 := Ex.new (o := NO P w p2 []) hp2
    have hp21 : upd H p2 (NO P w p2 []) p2 = some (NO P w p2 []) := upd_same
    generalize upd H p2 (NO P w p2 []) = H1 at e1 hp21
    refine ev_var (R := RE) (i := 1) (P := Pr.d K (sD st)) (env := [some (Pr.d K (iD hs)), some (Pr.d K (sD st)), none, none, none, none, none, none, none, none, none, none]) rfl σ0 H1 (Ex.refl _) (s0.mono (Ex.im e1)) _ fun x H2 e2 px => ?_
    obtain ⟨ax, xsx, rfl, hxx, htx⟩ := Tp.tup_ px
    have hp22 : H2 p2 = some (NO P w p2 []) := e2 _ _ hp21
    refine ⟨hp22, sk st, ax, rfl, by rw [data_sk]; exact px, depth_sk st, fun u2 ⟨xu, hu2⟩ hnd => ?_⟩
    have im2 : Im H2 (upd H2 p2 u2) := im_upd hp22
    refine run_cons ?_
    have im02 : Im H (upd H2 p2 u2) := (Ex.im (Ex.trans e1 e2)).trans im2
    have hk02 : ∀ a o, H a = some o → upd H2 p2 u2 a = some o := fun a o ha => by
      rw [upd_ne (ne_of_none ha hp2)]
      exact e2 _ _ (e1 _ _ ha)
    generalize upd H2 p2 u2 = H3 at hnd im02 hk02
    have hone : EvL RE (tLst (tCons (tVar 1) tNil)) [some (Pr.d K (iD hs)), some (Pr.d K (sD st)), none, none, none, none, none, none, none, none, none, none] H3 (fun xs H' => Tps K H' [sD st] xs) :=
      (ev_lst (ea_cons (ev_var (i := 1) rfl) ea_nil) (show 1 ≤ 100000 by decide)).imp fun xs H2 _ c => vs_d (ds := [sD st]) c
    refine hone σ0 H3 (Ex.refl _) (s0.mono im02) _ fun p3 xs3 H4 e4 hn4 hp4 c4 => ⟨_, _, rfl, ?_⟩
    have s4 := ((s0.mono (im02.trans (Ex.im e4))).set (i := 2) (P := Pr.v (.ref p2)) (v := .ref p2) rfl).set (i := 3) (P := Pr.v (.ref p3)) (v := .ref p3) rfl
    generalize (σ0.set 2 (some (V.ref p2))).set 3 (some (V.ref p3)) = σ4 at s4
    have nd4 : ND K P w H4 p2 ([st].map sk) := hnd.mono (Ex.im e4) fun o h => e4 _ _ h
    have e04 : Ex H H4 := fun a o ha => e4 _ _ (hk02 a o ha)
    have hp32 : p3 ≠ p2 := fun z => by
      obtain ⟨xs, h1, _⟩ := hnd
      rw [← z, hn4] at h1
      cases h1
    -- the end
    let en : Addr → Env' := fun pl => [some (Pr.d K (iD hs)), some (Pr.d K (sD st)), some (Pr.v (.ref p2)), some (Pr.v (.ref pl)), none, none, none, none, none, none, none, none]
    have fin : ∀ (F : List (List (List Str))) (σ' : L2.St) (H' : Hp) (env : Env'), env[2]? = some (some (Pr.v (.ref p2))) → Slots σ' env H' → Ex H H' → ND K P w H' p2 (F.map sk) → (∀ s ∈ F, Reach hs st s) → st ∈ F → Cl hs F (fun s _ _ => s ∈ F) → tRet (tVar 2) { nx := fun _ H' => Q .non H', rt := Q } σ' H' := fun F σ' H' env h2 s' e' nd' hr h0 hc => by
      refine s_ret (R := RE) (P := Pr.v (.ref p2)) s' (Ex.refl _) (ev_var h2) fun v H5 e5 pv => ?_
      cases (show v = .ref p2 from pv)
      exact k _ _ (Ex.trans e' e5) ⟨p2, F, rfl, hp2, nd'.mono (Ex.im e5) fun o h => e5 _ _ h, fun s => ⟨hr s, hclose F h0 hc s⟩⟩
    have sq := sq_rng1 (S := RE) (M := fun a => a = p2) (env := en p3) (H := H4) (ev_cv (v := .int 200)) (by decide) (by decide)
    refine q_forA (α := Addr × List (List (List Str)) × List (List (List Str))) sq s4 (Ex.refl _) (fun a => en a.1) (fun i a => [some (Pr.d K (iD hs)), some (Pr.d K (sD st)), some (Pr.v (.ref p2)), some (Pr.v (.ref a.1)), some (Pr.v (.int (i : Nat))), none, none, none, none, none, none, none]) (fun i a hi => tg_name (i := 4))
      (fun t a H' => (Ex H H' ∧ a.1 ≠ p2 ∧ (∃ xs, H' a.1 = some (.lst xs) ∧ Tps K H' (a.2.2.map sD) xs) ∧ ND K P w H' p2 (a.2.1.map sk)) ∧ (a.2.1.Nodup ∧ (∀ s ∈ a.2.1, Reach hs st s) ∧ st ∈ a.2.1) ∧ (t + 1 ≤ a.2.1.length ∧ (∀ s ∈ a.2.2, s ∈ a.2.1)) ∧ Cl hs a.2.1 (fun s _ _ => s ∈ a.2.1 ∧ s ∉ a.2.2))
      (p3, [st], [st]) (.s (.s (.s (.s (.s (.s (.s (.s (.s (.s (.s (.s .nil)))))))))))) (fun H5 e5 => ⟨⟨Ex.trans e04 e5, hp32, ⟨xs3, e5 _ _ hp4, Tps.mono (Ex.im e5) _ _ c4⟩, nd4.mono (Ex.im e5) fun o h => e5 _ _ h⟩, ⟨List.nodup_cons.mpr ⟨by simp, List.nodup_nil⟩, fun s hs' => by rw [List.mem_singleton.mp hs']; exact .base, by simp⟩, ⟨Nat.le_refl _, fun s hs' => hs'⟩, fun s a b ht _ => absurd ht.1 ht.2⟩)
      (fun H5 e5 t a σ' H' H6 hi w1 I e6 s6 N hN => ?_) fun H5 e5 a σ' H' w1 s6 I => ?_
    · obtain ⟨pl, F0, L⟩ := a
      obtain ⟨⟨I1, I2, ⟨xl, hl1, hl2⟩, I4⟩, ⟨hF1, hF2, hF3⟩, ⟨hF4, hF5⟩, hF6⟩ := I
      have I1' : Ex H H' := I1
      have I4' : ND K P w H' p2 (F0.map sk) := I4
      have hF1' : F0.Nodup := hF1
      have hF2' : ∀ s ∈ F0, Reach hs st s := hF2
      have hF3' : st ∈ F0 := hF3
      have hF4' : t + 1 ≤ F0.length := hF4
      have hF5' : ∀ s ∈ L, s ∈ F0 := hF5
      have hF6' : Cl hs F0 (fun s _ _ => s ∈ F0 ∧ s ∉ L) := hF6
      have hpl2 : pl ≠ p2 := I2
      have hl1' : H' pl = some (.lst xl) := hl1
      have hl2' : Tps K H' (L.map sD) xl := hl2
      have nd6 : ND K P w H6 p2 (F0.map sk) := I4'.mono (Ex.im e6) fun o h => e6 _ _ h
      refine q_asgL (R := RE) (C := Vs []) s6 (Ex.refl _) (ev_lst ea_nil (Nat.zero_le _)) fun lt xs σ7 H7 e7 hlt hlt7 c s7 => ?_
      cases c
      have e67 : Ex H' H7 := Ex.trans e6 e7
      have hl7 : H7 pl = some (.lst xl) := e67 _ _ hl1'
      have hpl : pl ≠ lt := ne_of_none (e6 _ _ hl1') hlt
      have hp2l : p2 ≠ lt := fun z => by
        obtain ⟨xs, h1, _⟩ := nd6
        rw [z, hlt] at h1
        cases h1
      have nd7 : ND K P w H7 p2 (F0.map sk) := nd6.mono (Ex.im e7) fun o h => e7 _ _ h
      -- what is found so far
      let Sf : (List (List Str) → Nat → Nat → Prop) → Hp → Prop := fun T H' => ∃ (ys : List V) (es : List (List (List Str))), (H' lt = some (.lst ys) ∧ Tps K H' (es.map sD) ys) ∧ ND K P w H' p2 ((F0 ++ es).map sk) ∧ (F0 ++ es).Nodup ∧ (∀ s ∈ F0 ++ es, Reach hs st s) ∧ Cl hs (F0 ++ es) T
      have sf_ex : ∀ {T : List (List Str) → Nat → Nat → Prop} {Ha Hb : Hp}, Sf T Ha → Ex Ha Hb → Sf T Hb := fun {T Ha Hb} h e => by
        obtain ⟨ys, es, ⟨q1, q2⟩, q3, q4⟩ := h
        exact ⟨ys, es, ⟨e _ _ q1, Tps.mono (Ex.im e) _ _ q2⟩, q3.mono (Ex.im e) fun o h => e _ _ h, q4⟩
      have sf_T : ∀ {T T' : List (List Str) → Nat → Nat → Prop} {Ha : Hp}, Sf T Ha → (∀ s a b, okMv hs s a b → T' s a b → T s a b) → Sf T' Ha := fun {T T' Ha} h k => by
        obtain ⟨ys, es, q1, q2, q3, q4, q5⟩ := h
        exact ⟨ys, es, q1, q2, q3, q4, fun s a b ht ho => q5 s a b (k s a b ho ht) ho⟩
      have sf0 : Sf (T0 L 0) H7 := ⟨[], [], ⟨hlt7, tps_nil⟩, by rw [List.append_nil]; exact nd7, by rw [List.append_nil]; exact hF1', fun s hs' => hF2' s (by rw [List.append_nil] at hs'; exact hs'), fun s a b ⟨i, hi, _⟩ _ => absurd hi (Nat.not_lt_zero _)⟩
      have sq1 := sq_list (K := K) (S := RE) (M := fun x => x = p2 ∨ x = lt) (Iz := fun i => Pr.d K (sD (L.getD i []))) (env := [some (Pr.d K (iD hs)), some (Pr.d K (sD st)), some (Pr.v (.ref p2)), some (Pr.v (.ref pl)), some (Pr.v (.int (t : Nat))), some (Pr.v (.ref lt)), none, none, none, none, none, none]) (H := H7) (xs := xl) (ev_var (i := 3) rfl) (fun H8 e => e _ _ hl7) (fun z => by rcases z with z | z; exact hpl2 z; exact hpl z) fun H8 e8 i x H9 hx w9 => by
        obtain ⟨dd, hd, td⟩ := (Tps.mono ((Ex.im e67).trans ((Ex.im e8).trans w9.1)) _ _ hl2').at_ hx
        obtain ⟨m, hm, rfl⟩ : ∃ m, L[i]? = some m ∧ dd = sD m := by
          rw [List.getElem?_map] at hd
          cases hz : L[i]? with
          | none => rw [hz] at hd; cases hd
          | some z =>
            rw [hz] at hd
            cases hd
            exact ⟨z, rfl, rfl⟩
        rw [getD_of _ hm]
        exact td
      have hxl : xl.length = L.length := by rw [hl2'.length, List.length_map]
      rw [hxl] at sq1
      refine q_for sq1 s7 (Ex.refl _) [some (Pr.d K (iD hs)), some (Pr.d K (sD st)), some (Pr.v (.ref p2)), some (Pr.v (.ref pl)), some (Pr.v (.int (t : Nat))), some (Pr.v (.ref lt)), none, none, none, none, none, none] (.s (.s (.s (.s (.s (.s (.s (.s (.s (.s (.s (.s .nil)))))))))))) (fun i => [some (Pr.d K (iD hs)), some (Pr.d K (sD st)), some (Pr.v (.ref p2)), some (Pr.v (.ref pl)), some (Pr.v (.int (t : Nat))), some (Pr.v (.ref lt)), some (Pr.d K (sD (L.getD i []))), none, none, none, none, none]) (fun i hi => tg_name (i := 6))
        (fun i H8 => Sf (T0 L i) H8) (fun H8 e8 => sf_ex sf0 e8) (fun H8 e8 i σ8 H9 Ha hi8 w9 Ia ea sa Na hNa => ?_) fun H8 e8 σ8 H9 w9 s9 Ia => ?_
      · have hLi : L[i]? = some (L.getD i []) := by
          rw [getD_of _ (List.getElem?_eq_getElem hi8)]
          exact List.getElem?_eq_getElem _
        have hmem : L.getD i [] ∈ L := List.mem_of_getElem? hLi
        have hre : Reach hs st (L.getD i []) := hF2' _ (hF5' _ hmem)
        obtain ⟨hg1, hg2⟩ := hgood' _ hre
        generalize L.getD i [] = S at *
        have hrow : ∀ j, j < S.length → S[j]? = some (S.getD j []) ∧ S.getD j [] ∈ S := fun j hj => by
          rw [getD_of [] (List.getElem?_eq_getElem hj)]
          exact ⟨List.getElem?_eq_getElem _, List.getElem_mem _⟩
        have hIz : ∀ (j : Nat) (dd : PyData), (S.map rD)[j]? = some dd → Pr.d K (rD (S.getD j [])) = Pr.d K dd := fun j dd hj => by
          obtain ⟨m, hm, rfl⟩ := sD_get hj
          rw [getD_of [] hm]
        have sq2 := sq_enumT (K := K) (S := RE) (M := fun x => x = p2 ∨ x = lt) (A := fun j => Pr.d K (rD (S.getD j []))) (env := [some (Pr.d K (iD hs)), some (Pr.d K (sD st)), some (Pr.v (.ref p2)), some (Pr.v (.ref pl)), some (Pr.v (.int (t : Nat))), some (Pr.v (.ref lt)), some (Pr.d K (sD S)), none, none, none, none, none]) (H := Ha) (ds := S.map rD) (ev_var (i := 6) rfl) hIz
        rw [List.length_map] at sq2
        refine s_for sq2 sa (Ex.refl _) [some (Pr.d K (iD hs)), some (Pr.d K (sD st)), some (Pr.v (.ref p2)), some (Pr.v (.ref pl)), some (Pr.v (.int (t : Nat))), some (Pr.v (.ref lt)), some (Pr.d K (sD S)), none, none, none, none, none] (.s (.s (.s (.s (.s (.s (.s (.s (.s (.s (.s (.s .nil)))))))))))) (fun a => [some (Pr.d K (iD hs)), some (Pr.d K (sD st)), some (Pr.v (.ref p2)), some (Pr.v (.ref pl)), some (Pr.v (.int (t : Nat))), some (Pr.v (.ref lt)), some (Pr.d K (sD S)), some (Pr.v (.int (a : Nat))), some (Pr.d K (rD (S.getD a []))), none, none, none]) (fun a ha => tg_pair (tg_name (i := 7)) (tg_name (i := 8)))
          (fun a Hb => Sf (T1 L i a) Hb) (fun Hb eb => sf_T (sf_ex (sf_ex Ia ea) eb) fun s a b _ h => by rcases h with h | h; exact h; exact absurd h.2 (Nat.not_lt_zero _)) (fun Hb eb a σb Hc Hd ha wc Ic ed sd Nd hNd => ?_) fun Hb eb σb Hc wc sc Ic => hNa _ _ ((Ex.w (Ex.trans ea eb)).trans wc) (sc.wk (.s (.s (.s (.s (.s (.s (.n (.s (.s (.s (.s (.s .nil))))))))))))) (sf_T Ic fun s a b ho h => ?_)
        · -- over the ends
          obtain ⟨hra, hram⟩ := hrow a ha
          obtain ⟨hrl, hrs⟩ := hg2 _ hram
          have sq3 := sq_enumT (K := K) (S := RE) (M := fun x => x = p2 ∨ x = lt) (A := fun j => Pr.d K (rD (S.getD j []))) (env := [some (Pr.d K (iD hs)), some (Pr.d K (sD st)), some (Pr.v (.ref p2)), some (Pr.v (.ref pl)), some (Pr.v (.int (t : Nat))), some (Pr.v (.ref lt)), some (Pr.d K (sD S)), some (Pr.v (.int (a : Nat))), some (Pr.d K (rD (S.getD a []))), none, none, none]) (H := Hd) (ds := S.map rD) (ev_var (i := 6) rfl) hIz
          rw [List.length_map] at sq3
          refine s_for sq3 sd (Ex.refl _) [some (Pr.d K (iD hs)), some (Pr.d K (sD st)), some (Pr.v (.ref p2)), some (Pr.v (.ref pl)), some (Pr.v (.int (t : Nat))), some (Pr.v (.ref lt)), some (Pr.d K (sD S)), some (Pr.v (.int (a : Nat))), some (Pr.d K (rD (S.getD a []))), none, none, none] (.s (.s (.s (.s (.s (.s (.s (.s (.s (.s (.s (.s .nil)))))))))))) (fun b => [some (Pr.d K (iD hs)), some (Pr.d K (sD st)), some (Pr.v (.ref p2)), some (Pr.v (.ref pl)), some (Pr.v (.int (t : Nat))), some (Pr.v (.ref lt)), some (Pr.d K (sD S)), some (Pr.v (.int (a : Nat))), some (Pr.d K (rD (S.getD a []))), some (Pr.v (.int (b : Nat))), some (Pr.d K (rD (S.getD b []))), none]) (fun b hb => tg_pair (tg_name (i := 9)) (tg_name (i := 10)))
            (fun b He => Sf (T2 L i a b) He) (fun He ee => sf_T (sf_ex (sf_ex Ic ed) ee) fun s a' b' _ h => by rcases h with h | h; exact h; exact absurd h.2.2 (Nat.not_lt_zero _)) (fun He ee b σe Hf Hg hb wf If eg sg Ng hNg => ?_) fun He ee σe Hf wf sf If => hNd _ _ ((Ex.w (Ex.trans ed ee)).trans wf) (sf.wk (.s (.s (.s (.s (.s (.s (.s (.n (.n (.s (.s (.s .nil))))))))))))) (sf_T If fun s a' b' ho h => ?_)
          · obtain ⟨hrb, hrbm⟩ := hrow b hb
            obtain ⟨hrlb, hrsb⟩ := hg2 _ hrbm
            have hhb : hs[b]? = some (hs.getD b 0) := by
              rw [getD_of 0 (List.getElem?_eq_getElem (by omega : b < hs.length))]
              exact List.getElem?_eq_getElem _
            have hnw : WkE [some (Pr.d K (iD hs)), some (Pr.d K (sD st)), some (Pr.v (.ref p2)), some (Pr.v (.ref pl)), some (Pr.v (.int (t : Nat))), some (Pr.v (.ref lt)), some (Pr.d K (sD S)), some (Pr.v (.int (a : Nat))), some (Pr.d K (rD (S.getD a []))), none, none, none] [some (Pr.d K (iD hs)), some (Pr.d K (sD st)), some (Pr.v (.ref p2)), some (Pr.v (.ref pl)), some (Pr.v (.int (t : Nat))), some (Pr.v (.ref lt)), some (Pr.d K (sD S)), some (Pr.v (.int (a : Nat))), some (Pr.d K (rD (S.getD a []))), some (Pr.v (.int (b : Nat))), some (Pr.d K (rD (S.getD b []))), none] := .s (.s (.s (.s (.s (.s (.s (.s (.s (.n (.n (.s .nil)))))))))))
            have hlenR : ∀ {j n : Nat} {env : Env'} {H0 : Hp}, env[n]? = some (some (Pr.d K (rD (S.getD j [])))) → Ev RE (tCB (rLenSeq K) (tCons (tVar n) tNil)) env H0 (Pr.v (.int ((S.getD j []).length : Nat))) := fun {j n env H0} h => by
              have q := ev_lenT (K := K) (R := RE) (H := H0) (env := env) (ta := tVar n) (ds := (S.getD j []).map PyData.str) (ev_var h)
              rw [List.length_map] at q
              exact q
            refine s_if (R := RE) (b := !decide (V.int (a : Nat) = V.int (b : Nat)) && (decide ((0 : Int) < ((S.getD a []).length : Nat)) && decide ((((S.getD b []).length : Nat) : Int) < (hs.getD b 0 : Nat)))) sg (Ex.refl _) (et_and (et_test (ev_neS (x := .int (a : Nat)) (y := .int (b : Nat)) (ev_var (i := 7) rfl) (ev_var (i := 9) rfl) rfl)) fun _ => et_and (et_test (ev_I0 (g := fun i j => .bl (decide (j < i))) (hlenR (n := 8) rfl) ev_cv)) fun _ => et_test (ev_I0 (g := fun i j => .bl (decide (i < j))) (hlenR (n := 10) rfl) (ev_int_v (K := K) (ev_ixT (ds := hs.map fun (n : Nat) => PyData.int (n : Int)) (i := (b : Nat)) (d := .int (hs.getD b 0 : Nat)) (ev_var (i := 0) rfl) (ev_var (i := 9) rfl) (L2.atI_nat (by rw [List.getElem?_map, hhb]; rfl)))))) (fun hcond Hh eh sh => ?_) fun hcond Hh eh sh => ?_
            · rw [Bool.and_eq_true, Bool.and_eq_true, Bool.not_eq_true', decide_eq_false_iff_not, decide_eq_true_eq, decide_eq_true_eq] at hcond
              obtain ⟨hc1, hc2, hc3⟩ := hcond
              have hab : a ≠ b := fun z => hc1 (by rw [z])
              have hok : okMv hs S a b := ⟨⟨ha, hb⟩, hab, by omega, by omega⟩
              have hre2 : Reach hs st (mv S a b) := .step hre hok
              have sfh := sf_ex (sf_ex If eg) eh
              have efh : Ex Hf Hh := Ex.trans eg eh
              -- the standing behind
              refine q_asgL (R := RE) sh (Ex.refl _) (ev_listT (K := K) (ds := S.map rD) (ev_var (i := 6) rfl)) fun pb yb σi Hi ei hpb hpbi ci si => ?_
              have hyb : yb.length = S.length := by rw [ci.length, List.length_map]
              refine q_setL (P' := Pr.d K (rD (S.getD a []).dropLast)) (p := pb) (xs := yb) (j := a) si ?_ (ev_var (i := 11) rfl) (ev_var (i := 7) rfl) hpbi (by omega) fun v1 Hj ej pv1 imj sj => ?_
              · have q := ev_slT (K := K) (R := RE) (H := Hi) (env := [some (Pr.d K (iD hs)), some (Pr.d K (sD st)), some (Pr.v (.ref p2)), some (Pr.v (.ref pl)), some (Pr.v (.int (t : Nat))), some (Pr.v (.ref lt)), some (Pr.d K (sD S)), some (Pr.v (.int (a : Nat))), some (Pr.d K (rD (S.getD a []))), some (Pr.v (.int (b : Nat))), some (Pr.d K (rD (S.getD b []))), some (Pr.v (.ref pb))]) (ds := (S.getD a []).map PyData.str) (lo := none) (hi := some (-1)) (ev_var (i := 8) rfl) eo_none (eo_some (ev_neg (i := 1) ev_cv))
                rw [cut_butlast, dropLast_map] at q
                exact q
              have ehj : Ex Hh (upd Hj pb (.lst (yb.set a v1))) := (Ex.trans ei ej).put hpb
              have hpbj : upd Hj pb (.lst (yb.set a v1)) pb = some (.lst (yb.set a v1)) := upd_same
              have cj : Tps K (upd Hj pb (.lst (yb.set a v1))) ((S.map rD).set a (rD (S.getD a []).dropLast)) (yb.set a v1) := (Tps.mono imj _ _ ci).set a pv1
              generalize upd Hj pb (.lst (yb.set a v1)) = Hj' at *
              refine q_setL (P' := Pr.d K (rD (S.getD b [] ++ (S.getD a []).drop ((S.getD a []).length - 1)))) (p := pb) (xs := yb.set a v1) (j := b) sj ?_ (ev_var (i := 11) rfl) (ev_var (i := 9) rfl) hpbj (by rw [List.length_set]; omega) fun v2 Hk ek pv2 imk sk' => ?_
              · have q1 := ev_slT (K := K) (R := RE) (H := Hj') (env := [some (Pr.d K (iD hs)), some (Pr.d K (sD st)), some (Pr.v (.ref p2)), some (Pr.v (.ref pl)), some (Pr.v (.int (t : Nat))), some (Pr.v (.ref lt)), some (Pr.d K (sD S)), some (Pr.v (.int (a : Nat))), some (Pr.d K (rD (S.getD a []))), some (Pr.v (.int (b : Nat))), some (Pr.d K (rD (S.getD b []))), some (Pr.v (.ref pb))]) (ds := (S.getD a []).map PyData.str) (lo := some (-1)) (hi := none) (ev_var (i := 8) rfl) (eo_some (ev_neg (i := 1) ev_cv)) eo_none
                rw [cut_last, List.length_map, ← List.map_drop] at q1
                have q := ev_catT (K := K) (R := RE) (H := Hj') (ta := tVar 10) (ds := (S.getD b []).map PyData.str) (ev_var (i := 10) rfl) q1 (by rw [List.length_map, List.length_map, List.length_drop]; omega)
                rw [← List.map_append] at q
                exact q
              have ehk : Ex Hh (upd Hk pb (.lst ((yb.set a v1).set b v2))) := (Ex.trans ehj ek).put hpb
              have hpbk : upd Hk pb (.lst ((yb.set a v1).set b v2)) pb = some (.lst ((yb.set a v1).set b v2)) := upd_same
              have ck : Tps K (upd Hk pb (.lst ((yb.set a v1).set b v2))) ((mv S a b).map rD) ((yb.set a v1).set b v2) := by
                have q := (Tps.mono imk _ _ cj).set b pv2
                unfold mv
                rw [List.map_set, List.map_set]
                exact q
              generalize upd Hk pb (.lst ((yb.set a v1).set b v2)) = Hk' at *
              refine q_asg (R := RE) (P := Pr.d K (sD (mv S a b))) sk' (Ex.refl _) (ev_tupleL (K := K) (ds := (mv S a b).map rD) (ev_var (i := 11) rfl) (fun H1 e => .inl (.inl (e _ _ hpbk))) ck) fun σl Hl el sl => ?_
              have ehl : Ex Hh Hl := Ex.trans ehk el
              have sfl := sf_ex sfh ehl
              have efl : Ex Hf Hl := Ex.trans efh ehl
              generalize hmv : mv S a b = S' at *
              obtain ⟨ys, es, ⟨q1, q2⟩, q3, q4, q5, q6⟩ := sfl
              have hFlen := hFl _ q4 q5
              have hT2 : ∀ G : List (List (List Str)), (∀ s ∈ F0 ++ es, s ∈ G) → S' ∈ G → Cl hs G (T2 L i a (b + 1)) := fun G hG hS s a' b' h ho => by
                rcases h with h | ⟨h1, h2, h3⟩
                · exact hG _ (q6 s a' b' (.inl h) ho)
                · rcases Nat.lt_or_ge b' b with hlt' | hge
                  · exact hG _ (q6 s a' b' (.inr ⟨h1, h2, hlt'⟩) ho)
                  · have hbb : b' = b := by omega
                    rw [hLi] at h1
                    cases h1
                    rw [h2, hbb, hmv]
                    exact hS
              have htest : Ev RE (tOp (rNotInN K P w) (tVar 11) (tVar 2)) [some (Pr.d K (iD hs)), some (Pr.d K (sD st)), some (Pr.v (.ref p2)), some (Pr.v (.ref pl)), some (Pr.v (.int (t : Nat))), some (Pr.v (.ref lt)), some (Pr.d K (sD S)), some (Pr.v (.int (a : Nat))), some (Pr.d K (rD (S.getD a []))), some (Pr.v (.int (b : Nat))), some (Pr.d K (rD (S.getD b []))), some (Pr.d K (sD S'))] Hl (Pr.v (.bl (!decide (sk S' ∈ (F0 ++ es).map sk)))) :=
                ev_op (ev_var (i := 11) rfl) (ev_var (i := 2) (P := Pr.v (.ref p2)) rfl) fun x y H1 r1 px py Q q => by
                  obtain ⟨ax, xsx, rfl, hxx, htx⟩ := Tp.tup_ px
                  refine ⟨sk S', ax, p2, (F0 ++ es).map sk, rfl, py, by rw [data_sk]; exact px, depth_sk S', q3.mono (Ex.im r1) fun o h => r1 _ _ h, ⟨_, rfl⟩, q _ H1 (Ex.refl _) rfl⟩
              refine s_if (R := RE) sl (Ex.refl _) (et_test htest) (fun hnew Hm em sm => ?_) fun hold Hm em sm => ?_
              · have hnew' : S' ∉ F0 ++ es := fun z => by
                  rw [decide_eq_true (sk_mem.mpr z)] at hnew
                  cases hnew
                have q3m : ND K P w Hm p2 ((F0 ++ es).map sk) := q3.mono (Ex.im em) fun o h => em _ _ h
                -- found[behind] = turn + 1
                refine ev_I0 (R := RE) (i := (t : Nat)) (j := 1) (g := fun i j => .int (i + j)) (env := [some (Pr.d K (iD hs)), some (Pr.d K (sD st)), some (Pr.v (.ref p2)), some (Pr.v (.ref pl)), some (Pr.v (.int (t : Nat))), some (Pr.v (.ref lt)), some (Pr.d K (sD S)), some (Pr.v (.int (a : Nat))), some (Pr.d K (rD (S.getD a []))), some (Pr.v (.int (b : Nat))), some (Pr.d K (rD (S.getD b []))), some (Pr.d K (sD S'))]) (ev_var (i := 4) rfl) ev_cv σl Hm (Ex.refl _) sm _ fun v3 Hn en' pv3 => ?_
                have sn := sm.mono (Ex.im en')
                obtain ⟨w2, hw2, pw2⟩ := sn.2 2 _ rfl
                cases (show w2 = .ref p2 from pw2)
                obtain ⟨w11, hw11, pw11⟩ := sn.2 11 _ rfl
                obtain ⟨ax, xsx, rfl, hxx, htx⟩ := Tp.tup_ pw11
                have q3n : ND K P w Hn p2 ((F0 ++ es).map sk) := q3m.mono (Ex.im en') fun o h => en' _ _ h
                refine ⟨_, hw2, _, hw11, sk S', ax, p2, (F0 ++ es).map sk, rfl, rfl, by rw [data_sk]; exact pw11, depth_sk S', q3n, fun z => hnew' (sk_mem.mp z), by rw [List.length_map]; omega, fun un ⟨xn, hun⟩ hnd2 => ?_⟩
                have imn : Im Hn (upd Hn p2 un) := by
                  obtain ⟨xs, h1, _⟩ := q3n
                  exact im_upd h1
                have hltn : Hn lt = some (.lst ys) := en' _ _ (em _ _ q1)
                have hltn2 : upd Hn p2 un lt = some (.lst ys) := by
                  rw [upd_ne (Ne.symm hp2l)]
                  exact hltn
                have hyl : ys.length = es.length := by rw [q2.length, List.length_map]
                have hes : es.length ≤ 200 := by
                  rw [List.length_append] at hFlen
                  omega
                have sn2 := sn.mono imn
                have wn : W (fun x => x = p2 ∨ x = lt) Hf (upd Hn p2 un) := (Ex.w (Ex.trans efl (Ex.trans em en'))).trans (w_put imn (.inl rfl))
                have im_l : Im Hl (upd Hn p2 un) := (Ex.im (Ex.trans em en')).trans imn
                generalize upd Hn p2 un = Ho at *
                refine s_append (R := RE) (K := K) (P := Pr.d K (sD S')) sn2 (Ex.refl _) (ev_var (i := 5) rfl) (ev_var (i := 11) rfl) (fun H1 e1 => e1 _ _ hltn2) (by omega) fun v4 H1 e1 pv4 s1 => ?_
                have hltx := (show Ex Ho H1 from e1) _ _ hltn2
                have im := im_lst (o := .lst (ys ++ [v4])) hltx
                refine hNg _ _ ((wn.trans (Ex.w e1)).trans (w_put im (.inr rfl))) ((s1.mono im).wk (.s (.s (.s (.s (.s (.s (.s (.s (.s (.n (.n (.n .nil))))))))))))) ⟨ys ++ [v4], es ++ [S'], ⟨upd_same, ?_⟩, ?_, ?_, ?_, hT2 _ ?_ ?_⟩
                · rw [List.map_append]
                  exact (Tps.mono (im_l.trans ((Ex.im e1).trans im)) _ _ q2).append (tps_cons (Tp.mono im _ _ pv4) tps_nil)
                · rw [← List.append_assoc, List.map_append]
                  refine hnd2.mono ((Ex.im e1).trans im) fun o h => ?_
                  rw [upd_ne hp2l]
                  exact e1 _ _ h
                · rw [← List.append_assoc]
                  exact List.nodup_append.mpr ⟨q4, List.nodup_cons.mpr ⟨by simp, List.nodup_nil⟩, fun x hx y hy => by rw [List.mem_singleton.mp hy]; exact fun z => hnew' (z ▸ hx)⟩
                · intro x hx
                  rw [← List.append_assoc] at hx
                  rcases List.mem_append.mp hx with hx | hx
                  · exact q5 x hx
                  · rw [List.mem_singleton.mp hx]
                    exact hre2
                · intro x hx
                  rw [← List.append_assoc]
                  exact List.mem_append_left _ hx
                · rw [← List.append_assoc]
                  exact List.mem_append_right _ (by simp)
              · have hold' : S' ∈ F0 ++ es := by
                  rw [Bool.not_eq_false', decide_eq_true_eq] at hold
                  exact sk_mem.mp hold
                refine hNg _ _ (Ex.w (Ex.trans efl em)) (sm.wk (.s (.s (.s (.s (.s (.s (.s (.s (.s (.n (.n (.n .nil))))))))))))) ⟨ys, es, ⟨em _ _ q1, Tps.mono (Ex.im em) _ _ q2⟩, q3.mono (Ex.im em) fun o h => em _ _ h, q4, q5, hT2 _ (fun x hx => hx) hold'⟩
            · refine hNg _ _ (Ex.w (Ex.trans eg eh)) (sh.wk hnw) ?_
              obtain ⟨ys, es, q1, q2, q3, q4, q5⟩ := sf_ex (sf_ex If eg) eh
              refine ⟨ys, es, q1, q2, q3, q4, fun s a' b' h ho => ?_⟩
              rcases h with h | ⟨h1, h2, h3⟩
              · exact q5 s a' b' (.inl h) ho
              · rcases Nat.lt_or_ge b' b with hlt' | hge
                · exact q5 s a' b' (.inr ⟨h1, h2, hlt'⟩) ho
                · exfalso
                  have hbb : b' = b := by omega
                  rw [hLi] at h1
                  cases h1
                  subst hbb
                  subst h2
                  obtain ⟨_, o1, o2, o3⟩ := ho
                  have hz : (!decide (V.int (a' : Nat) = V.int (b' : Nat)) && (decide ((0 : Int) < ((S.getD a' []).length : Nat)) && decide ((((S.getD b' []).length : Nat) : Int) < (hs.getD b' 0 : Nat)))) = true := by
                    rw [Bool.and_eq_true, Bool.and_eq_true, Bool.not_eq_true', decide_eq_false_iff_not, decide_eq_true_eq, decide_eq_true_eq]
                    refine ⟨fun z => o1 ?_, by omega, by omega⟩
                    have := V.int.inj z
                    omega
                  rw [hz] at hcond
                  cases hcond
          · rcases h with h | ⟨h1, h2⟩
            · exact .inl (.inl h)
            · rcases Nat.lt_or_ge a' a with hlt' | hge
              · exact .inl (.inr ⟨h1, hlt'⟩)
              · refine .inr ⟨h1, by omega, ?_⟩
                rw [hLi] at h1
                cases h1
                exact ho.1.2
        · obtain ⟨i', h1, h2⟩ := h
          rcases Nat.lt_or_ge i' i with hlt' | hge
          · exact .inl ⟨i', hlt', h2⟩
          · have : i' = i := by omega
            subst this
            refine .inr ⟨h2, ?_⟩
            rw [hLi] at h2
            cases h2
            exact ho.1.1
      · -- the layer is the later one
        obtain ⟨ys, es, ⟨q1, q2⟩, q3, q4, q5, q6⟩ := Ia
        have w7 : W (fun x => x = p2 ∨ x = lt) H7 H9 := (Ex.w e8).trans w9
        refine q_asg (R := RE) (P := Pr.v (.ref lt)) s9 (Ex.refl _) (ev_var (i := 5) rfl) fun σa Ha ea sa => ?_
        have hk9 : ∀ a o, a ≠ p2 → H' a = some o → Ha a = some o := fun a o n1 ha => ea _ _ (w7.2 _ _ (fun z => by rcases z with z | z; exact n1 z; exact ne_of_none (e6 _ _ ha) hlt z) (e67 _ _ ha))
        have ima : Im H' Ha := ((Ex.im e67).trans w7.1).trans (Ex.im ea)
        have hkH : Ex H Ha := fun a o ha => hk9 a o (ne_of_none ha hp2) (I1' _ _ ha)
        have hclosed : ∀ s ∈ F0, ∀ a b, okMv hs s a b → mv s a b ∈ F0 ++ es := fun s hs' a b ho => by
          by_cases hL : s ∈ L
          · obtain ⟨i, hi⟩ := List.mem_iff_getElem?.mp hL
            exact q6 s a b ⟨i, (List.getElem?_eq_some_iff.mp hi).1, hi⟩ ho
          · exact List.mem_append_left _ (hF6' s a b ⟨hs', hL⟩ ho)
        have hsm : ∀ s ∈ es, ∀ r ∈ s, ∀ x ∈ r, smT x := fun s hs' r hr x hx => ((hgood' s (q5 s (List.mem_append_right _ hs'))).2 r hr).2 x hx
        refine s_if (R := RE) sa (Ex.refl _) (et_test (ev_eqNil (K := K) (ds := es.map sD) (xs := ys) (ev_var (i := 3) rfl) (fun H1 e1 => ⟨e1 _ _ (ea _ _ q1), Tps.mono ((Ex.im ea).trans (Ex.im e1)) _ _ q2⟩) (shaped_sts hsm))) (fun hb Hb eb sb => ?_) fun hb Hb eb sb => ?_
        · have hes : es = [] := by
            cases es with
            | nil => rfl
            | cons _ _ => exact absurd (show false = true from hb) (by decide)
          subst hes
          rw [List.append_nil] at hclosed q3
          exact fin F0 σa Hb _ rfl sb (Ex.trans hkH eb) (q3.mono ((Ex.im ea).trans (Ex.im eb)) fun o h => eb _ _ (ea _ _ h)) hF2' hF3' fun s a b h ho => hclosed s h a b ho
        · have hes : 0 < es.length := by
            cases es with
            | nil => exact absurd (show true = false from hb) (by decide)
            | cons _ _ => exact Nat.succ_pos _
          refine hN (lt, F0 ++ es, es) _ _ ⟨ima.trans (Ex.im eb), fun a o n1 ha => eb _ _ (hk9 a o n1 ha)⟩ (sb.wk (.s (.s (.s (.s (.n (.n (.s (.s (.s (.s (.s (.s .nil))))))))))))) ⟨⟨Ex.trans hkH eb, Ne.symm hp2l, ⟨ys, eb _ _ (ea _ _ q1), Tps.mono ((Ex.im ea).trans (Ex.im eb)) _ _ q2⟩, q3.mono ((Ex.im ea).trans (Ex.im eb)) fun o h => eb _ _ (ea _ _ h)⟩, ⟨q4, q5, List.mem_append_left _ hF3'⟩, ⟨?_, fun s h => List.mem_append_right _ h⟩, fun s a b h ho => ?_⟩
          · show t + 1 + 1 ≤ (F0 ++ es).length
            rw [List.length_append]
            omega
          · have h1 : s ∈ F0 ++ es := h.1
            rcases List.mem_append.mp h1 with h1 | h1
            · exact hclosed s h1 a b ho
            · exact absurd h1 h.2
    · obtain ⟨pl, F0, L⟩ := a
      obtain ⟨_, ⟨hF1, hF2, _⟩, ⟨hF4, _⟩, _⟩ := I
      have h1 := hFl F0 hF1 hF2
      have h2 : 201 ≤ F0.length := hF4
      omega⟩
end Sd

set_option Elab.async false
set_option linter.all false
set_option maxRecDepth 100000
set_option maxHeartbeats 2000000
/-! Pm2: the finite check: standings of one deep part are connected. -/
namespace Sd
open PySem PySem.Spec PyProof.Rows L2
abbrev NS := List (List Nat)
def rowEq : List Nat → List Nat → Bool
  | [], [] => true
  | x :: a, y :: b => Nat.beq x y && rowEq a b
  | [], _ :: _ => false
  | _ :: _, [] => false
def stEq : NS → NS → Bool
  | [], [] => true
  | x :: a, y :: b => rowEq x y && stEq a b
  | [], _ :: _ => false
  | _ :: _, [] => false
theorem rowEq_eq : ∀ {a b : List Nat}, rowEq a b = true → a = b
  | [], [], _ => rfl
  | [], _ :: _, h => by simp [rowEq] at h
  | _ :: _, [], h => by simp [rowEq] at h
  | x :: a, y :: b, h => by
    unfold rowEq at h
    rw [Bool.and_eq_true] at h
    rw [Nat.eq_of_beq_eq_true h.1, rowEq_eq h.2]
theorem stEq_eq : ∀ {a b : NS}, stEq a b = true → a = b
  | [], [], _ => rfl
  | [], _ :: _, h => by simp [stEq] at h
  | _ :: _, [], h => by simp [stEq] at h
  | x :: a, y :: b, h => by
    unfold stEq at h
    rw [Bool.and_eq_true] at h
    rw [rowEq_eq h.1, stEq_eq h.2]
theorem rowEq_refl : ∀ a : List Nat, rowEq a a = true
  | [] => rfl
  | x :: a => by
    unfold rowEq
    rw [rowEq_refl a, Nat.beq_refl]
    rfl
def gmv {α : Type} (s : List (List α)) (a b : Nat) : List (List α) := (s.set a (s.getD a []).dropLast).set b (s.getD b [] ++ (s.getD a []).drop ((s.getD a []).length - 1))
def gok {α : Type} (hs : List Nat) (s : List (List α)) (a b : Nat) : Prop := (a < s.length ∧ b < s.length) ∧ a ≠ b ∧ 0 < (s.getD a []).length ∧ (s.getD b []).length < hs.getD b 0
def gcnt {α : Type} (s : List (List α)) : Nat := (s.map List.length).sum
def gdeep {α : Type} (hs : List Nat) (s : List (List α)) : List (List α) := List.zipWith (fun (r : List α) (h : Nat) => r.take (h - (hs.sum - gcnt s))) s hs
def stacksN : Nat → List Nat → List (List Nat × List Nat)
  | 0, ls => [([], ls)]
  | h + 1, ls => ([], ls) :: ls.flatMap fun x => (stacksN h (ls.erase x)).map fun p => (x :: p.1, p.2)
def standsN : List Nat → List Nat → List NS
  | [], ls => if ls.isEmpty then [[]] else []
  | h :: hs, ls => (stacksN h ls).flatMap fun p => if Nat.ble p.2.length hs.sum then (standsN hs p.2).map fun s => p.1 :: s else []
def canonOk (hs : List Nat) (u : NS) : Bool := rowEq (gdeep hs u).flatten (List.range (gdeep hs u).flatten.length)
/-- the rank of standing i -/
def dig (cert i : Nat) : Nat := (cert / 2 ^ (16 * i)) % 65536
def okStep (hs : List Nat) (C : List NS) (cert i : Nat) (u : NS) : Bool :=
  let g := dig cert i
  let a := g % 4
  let b := g / 4 % 4
  let j := g / 16 % 128
  if Nat.beq (g / 2048) 0 then Nat.beq i 0
  else Nat.ble (a + 1) u.length && (Nat.ble (b + 1) u.length && (!Nat.beq a b && (Nat.ble 1 (u.getD a []).length && (Nat.ble ((u.getD b []).length + 1) (hs.getD b 0) && (Nat.ble (dig cert j / 2048 + 1) (g / 2048) && stEq (C.getD j []) (gmv u a b))))))
def okAll (hs : List Nat) (C : List NS) (cert : Nat) : List NS → Nat → Bool
  | [], _ => true
  | u :: us, i => okStep hs C cert i u && okAll hs C cert us (i + 1)
def canonL (hs : List Nat) (n : Nat) : List NS := (standsN hs (List.range n)).filter (canonOk hs)
def check1 (hs : List Nat) (n cert : Nat) : Bool := Nat.ble n 4 && (Nat.ble (standsN hs (List.range n)).length 200 && okAll hs (canonL hs n) cert (canonL hs n) 0)
def checkC (hs : List Nat) (cs : List Nat) : Bool := (List.range (hs.sum + 1)).all fun n => !decide (sizeM hs n ≤ 96) || check1 hs n (cs.getD n 0)
def table0 : List (List Nat × List Nat) := [
  ([1, 1, 1], [0, 8830587568128, 2485628630575864628871561216]),
  ([1, 1, 2], [0, 8830587568128, 21813002000826515121769247854840643584, 2485628630575864628871561216]),
  ([1, 1, 3], [0, 8830587568128, 21813002000826515121769247854840643584, 21813002000826515121769247854840643584, 2485628630575864628871561216]),
  ([1, 2, 1], [0, 8830587568128, 10675696213664490310621756399058223104, 2485628630575864628871561216]),
  ([1, 2, 2], [0, 8830587568128, 94399754067568506645768451714006685236978909184, 687847147713420194196937804887333917934430032238491358096854232377545265673582848604905904621811522950100822473651137488138363000280564227244032, 2485628630575864628871561216]),
  ([1, 2, 3], [0, 8830587568128, 94399754067568506645768451714006685236978909184, 25274490406137159343809401829776475267372036978884932654302005250134725103460080248003262833191121246261616055562559257281027166223746709920412422468961380714839174801653760]),
  ([1, 3, 1], [0, 8830587568128, 10675696213664490310621756399058223104, 10675696213664490310621756399058223104, 2485628630575864628871561216]),
  ([1, 3, 2], [0, 8830587568128, 94399754067568506645768451714006685236978909184, 54617637929955957195975834181612455933802499568589710409273818126716261723562515946186133301268409623333373239228675543954263923189960624809191610840176162678504366182629376]),
  ([1, 3, 3], [0, 8830587568128, 94399754067568506645768451714006685236978909184, 2031156265762015243612887157425465451519000262449770568877967277548675886767674776385927105562879507711179299879999367644755358463129664373475001166889400736516924659055208221905269859725722943641485312])]
theorem table0_ok : (table0.all fun p => checkC p.1 p.2) = true := by decide +kernel
def table1 : List (List Nat × List Nat) := [
  ([2, 1, 1], [0, 8830587568128, 21787040516589412944432227854222229504, 2485628630575864628871561216]),
  ([2, 1, 2], [0, 8830587568128, 94021376738422268541378332657592805438504960000, 213786660012018695465291688152057324161414569256121294926604206316553835369244681234667990785109816824350637092873910095402319263954333355540480, 2485628630575864628871561216]),
  ([2, 1, 3], [0, 8830587568128, 94021376738422268541378332657592805438504960000, 25274488496783125149590543090155939883756173542793167093126403538409266360553206801434160624671342830014319101773077191277025745204233428230944848870883020264372006849740800]),
  ([2, 2, 1], [0, 8830587568128, 94288250341897610031517627473837678278488948736, 212833977982024008909472697518459861693893092735574724663706026305254853403685791399444306576884976826432768620548377042358395670817895661830144, 2485628630575864628871561216]),
  ([2, 2, 2], [0, 8830587568128, 406883776066202973218078458857206892798631104057488834560, 1389802147896568251560464852755560101749921062386578601597728946222623808191663301936893130186484496228696036993255810062771771983966141769343174687548055300917893563673064313157161552371217814924951552]),
  ([2, 2, 3], [0, 8830587568128, 406883776066202973218078458857206892798631104057488834560, 163198986289481933825811609742614971771865974606423962824686813208746984300389714931395718728229658694201887088558025118475477438289028672725404658080384367392029320616425484180296181702642813701509370569985258684986209780139163648]),
  ([2, 3, 1], [0, 8830587568128, 94288250341897610031517627473837678278488948736, 17224750917249650595405432418024230532158306901361751564715938704557963353438109959831331649700488684626038234601243925658821729903054051114376978018815137175643856105439232]),
  ([2, 3, 2], [0, 8830587568128, 406883776066202973218078458857206892798631104057488834560, 112385701562504601560551097969976215934227487808199602022261173297843872191782720053137937896492902001489689913580325490979331778077964174565699905566908357132011576265750044133471097340477899495381545657009906733831202442263789568]),
  ([2, 3, 3], [0, 8830587568128, 406883776066202973218078458857206892798631104057488834560, 13110138961174313267989535053791568486410447477395954563500179194095395870457382978025155900446640837884869640179874110103568409236225200522326669573162442920146977966487474209550111445305712802626963310274754118285931217385037678977382662158496458997663924224])]
theorem table1_ok : (table1.all fun p => checkC p.1 p.2) = true := by decide +kernel
def table2 : List (List Nat × List Nat) := [
  ([3, 1, 1], [0, 8830587568128, 21787040516589412944432227854222229504, 21787040516589412944432227854222229504, 2485628630575864628871561216]),
  ([3, 1, 2], [0, 8830587568128, 94021376738422268541378332657592805438504960000, 25255618684699409295927906696309598244225768474754278068159317483819251183233898858157302350042396223739906836487704883384337836979344651940661095580329987721933453280739328]),
  ([3, 1, 3], [0, 8830587568128, 94021376738422268541378332657592805438504960000, 2026082757933952452797600564031290691615354718787408031774051427047037831870456770794613954773969623310650373200360757178546549998763348456820036561568450455090871033565823624853863449614014551947608064]),
  ([3, 2, 1], [0, 8830587568128, 94288250341897610031517627473837678278488948736, 25255617532977505352479273510601990288961394089377317886521611908265097357484115895203529576777859184470665606365692377300467338427607824018493823560680473638749027425189888]),
  ([3, 2, 2], [0, 8830587568128, 406883776066202973218078458857206892798631104057488834560, 163080538559393070915727451030300421155438943653851236156319956768625898389401697218688751455259378267006364405139505276980936289633419863438735955726763785012174552537115035913822166804144069255673188863778616953820830827568037888]),
  ([3, 2, 3], [0, 8830587568128, 406883776066202973218078458857206892798631104057488834560, 13078293902386343622823307436931833261784705555220692480880553756697007516412675249419695203180356360845883862856718221203766684453920805552008698551880623801653684848451628807108950439771006139506658206937972739894379343762722956004560786850095103134407196672]),
  ([3, 3, 1], [0, 8830587568128, 94288250341897610031517627473837678278488948736, 2029661002700211079710419433972786832549250639082758978021585494023497085716401480646323003078309794066856468813026694802432632458069993010231242518376486925817465530977166256779917184591543693262520320]),
  ([3, 3, 2], [0, 8830587568128, 406883776066202973218078458857206892798631104057488834560, 13100754565165387119499987924535003400854046367374350533847074046755077627289408935306246294617022917771308460240389070318813395667975557951832607284400768856488839901124969005667731416099865758343525504569020435073670457517925675801754047627821807342119682048]),
  ([3, 3, 3], [0, 8830587568128, 406883776066202973218078458857206892798631104057488834560, 1050444774857030532418954123756828153067379652553220004995844309560885291739384337676434414286917368348650263483269764619085915325688639455565779483834335343471858643406023406888660419044983455309748991013855355737936164912749220062405326457149679608442970185121365740142951086419815563264])]
theorem table2_ok : (table2.all fun p => checkC p.1 p.2) = true := by decide +kernel
def table3 : List (List Nat × List Nat) := [
  ([1, 1, 1, 1], [0, 579847304086683648, 396536231987580354431555827839660957848970473644110315520, 4951763994972304776471303555867738231031593122643331024602884503220485605360694043473596165974531444354660993007616]),
  ([1, 1, 1, 2], [0, 579847304086683648, 1762773660885694785104315111226484776257785668664584867680258293760, 1400865322716829021741483355931583139115438744447496731283317159310423535354555517124841830268023663144888009416164362313100457645095734775762183469777442344199351399155216366345142070438732353296072704, 4951763994972304776471303555867738231031593122643331024602884503220485605360694043473596165974531444354660993007616]),
  ([1, 1, 1, 3], [0, 579847304086683648, 1762773660885694785104315111226484776257785668664584867680258293760, 163317447394558528498404266849159767061775667731871942645836259668182492605466463390821524073341181826837384737748147846592842674715087841874055767776276211917075928909729138168999954834026395160247131354691362875441819033939673088]),
  ([1, 1, 2, 1], [0, 579847304086683648, 1716274184527361386643358500581972008777308872851866465754879492096, 1276180609655649063857751991674008296982610012050612817053449525113993752978201685304955054347989262320696921920238412963499622147611023664801075227423267047427181243861600356307008010069765318046318592, 4951763994972304776471303555867738231031593122643331024602884503220485605360694043473596165974531444354660993007616]),
  ([1, 1, 2, 2], [0, 579847304086683648, 7627595192545455344496708375248027090242677084799035672558466068546941550592, 734751162409003498379255967342262571324053756527490831387823528836624385411279395440223128207858680666509881904163028948323526779568251722838562805966612031078917909226385680364779982215369640692742514829708034735965175508770412480742077411895448255766784809438046323125511517850571309056]),
  ([1, 1, 2, 3], [0, 579847304086683648, 7627595192545455344496708375248027090242677084799035672558466068546941550592, 84614639699983799939530086368828684831025217548299810932896709840407742600265931912143735596728339420621206904714629925491026579137920434108931182595084540567960647567452903964564370389512448325674370324860724905183334824315534733888964869398141500100212510052137493783461368752493144481383641588201780001622804856832]),
  ([1, 1, 3, 1], [0, 579847304086683648, 1716274184527361386643358500581972008777308872851866465754879492096, 103383675865632356028424136963950891287990065406689089857718334964511070967211195833349719421670322548075892329623386897264503924562818251441580695852182709231862631363984884301760667940123902923282282209577565439979253895789412352]),
  ([1, 1, 3, 2], [0, 579847304086683648, 7627595192545455344496708375248027090242677084799035672558466068546941550592, 59344012486951424571422343303299948167302350256914846829989746023455986733735693712751865948400733869826969176586752516157872808070700166711921895307995972933257659404622449179537444841379004032797454562238262881540863824804431268208561359192875368131912308380274045429889735609426067594184381183570842275970820800512]),
  ([1, 1, 3, 3], [0, 579847304086683648, 7627595192545455344496708375248027090242677084799035672558466068546941550592, 6793471694166022378826695309840730255694128494660380427562955270537003060606399108866228402743941045703952782188917647653313244923844681596244370879941749070299228846314095803045890665691746117563778838875939546468223886616912127075416791654848573708980694188552461607379052782007568009581353592727501185681252201378429024859442999857931423776768])]
theorem table3_ok : (table3.all fun p => checkC p.1 p.2) = true := by decide +kernel
def table4 : List (List Nat × List Nat) := [
  ([1, 2, 1, 1], [0, 579847304086683648, 1703110148068791738306118747132624549040371908560591409546959978496, 2491340099217451288978993257533835737046547955253100146016785920964905472258735579994648930984336540248485937153058480701662975346785364052749167623065053356813449683137138928105034763992161072402595840, 4951763994972304776471303555867738231031593122643331024602884503220485605360694043473596165974531444354660993007616]),
  ([1, 2, 1, 2], [0, 579847304086683648, 7627595192545455244061548113519890602682541730880133789941088848369477419008, 1052967884305564838052982815277790854880928589532159305530473917364900023802535274006938839626335667173973038643371897799505786195989092841748051002671064511994340473745777984871927702632154479900875898956654874722978918819875863512322739959323426749789324200319328512520131013512710782976]),
  ([1, 2, 1, 3], [0, 579847304086683648, 7627595192545455244061548113519890602682541730880133789941088848369477419008, 84414745026290122796184214631711020935436212077111291837576902637502308224595290364619849654721291677095387630105342987636488526642543037361973229580747457456723887094985536907371680339707407066628318071124204592353017559706418545495063218348673957639574758744446135272690024040374030255940951148865692732866179825664]),
  ([1, 2, 2, 1], [0, 579847304086683648, 7371341493527250610135326147444359203050581192359692309201839969762022391808, 958243525409820831510996894940275882242952066020214655887000682598470637820545479464112183899958960948763114469421074367329394513805624988089554740380067672774156197154539362585357238488870442845671837834293647888669008020132636510305016766745891333241306415727693817114416675791157002240]),
  ([1, 2, 2, 2], [0, 579847304086683648, 33003109215984625857384109219242964549099270051104836062939750989931766587496222621696, 544964093113300422065740186318129161661908220414010218042285949408940808218634056903510931029010950288548413100177409009050659783045093277284797713195996622110966122837211508704962962437308739445121079413110451612285766192694271093111993352822672925881466747458348185477591858180319614047354690177153909589103490302501714357125983632471788714109710812243245174632727099932672]),
  ([1, 2, 2, 3], [0, 579847304086683648, 33003109215984625857384109219242964549099270051104836062939750989931766587496222621696, 43668873689655504812814713558507924262775675924896405221650051438880824959515944069281728036642457260953956403575894278389717779044340386120312112181681390023580553509926846472282239602281717182832206520141886890876718246351364631117477524572320722837887492820937214038461154935594663948057025885683108721756288997445611614715258064837621772156503882843577869335702863368513155026487558863963065755828224]),
  ([1, 2, 3, 1], [0, 579847304086683648, 7371341493527250610135326147444359203050581192359692309201839969762022391808, 77050901743477138389023077143591389843259677614667057180323673074543936159119998754683278608602814193544473180406958713160089552851750579758951654193081272017419527829857890223386967444737079257180755270242170507087937243041073104698185111709569855766735352677790339214426529670039361360327335595248202182932952907776]),
  ([1, 2, 3, 2], [0, 579847304086683648, 33003109215984625857384109219242964549099270051104836062939750989931766587496222621696, 43738990231125120213901925902765124597968464260199185835637274298795655407389768697490322732921547481426472629710052367962210618440338578712721886969894475870353543691565796499628270209747335828671049761736998601647404646614904706350234480781290448751619519516837045829275712320742903702593242461266360204377246046298840728082205610486759546764145847508137257986152542453833980685053746490138550015033344]),
  ([1, 2, 3, 3], [0, 579847304086683648, 33003109215984625857384109219242964549099270051104836062939750989931766587496222621696, 3504369393135383003051618447813626612468506755344149763411939882262460958653198454746404155031204819319575973363702631752534896081726896848260502481625068992610869996095870104015526637088334377981077565863061050660039231022119868022827363599638504150156738878496363761429514336109260134240014477147103520613201922079683318786178365584937037047037345968862684836963610333406002705418539996384383658789649711774017840543792504049696768])]
theorem table4_ok : (table4.all fun p => checkC p.1 p.2) = true := by decide +kernel
def table5 : List (List Nat × List Nat) := [
  ([1, 3, 1, 1], [0, 579847304086683648, 1703110148068791738306118747132624549040371908560591409546959978496, 198142375301550552815490515287662556128163107458663777223814033789895984444430236698388534923373042002886736541832821634135218585582329562300147366054869076467164907372290342792648574402371128716678557971063563107301208331501371392]),
  ([1, 3, 1, 2], [0, 579847304086683648, 7627595192545455244061548113519890602682541730880133789941088848369477419008, 84555738644128645331353510324333464775272880189205961711924844271104786781947751846408634696052697477856841715381634082987838013674529509765858953303945081323108820979063380755283480415197745162545020199461405635996730044778046311278606640485569484911275275651973727421583728449866869507423347703519087578322070601728]),
  ([1, 3, 1, 3], [0, 579847304086683648, 7627595192545455244061548113519890602682541730880133789941088848369477419008, 6777634406472883885782434870331061044889697522309860233976902057777106195345625379642810761623340667588822454638797914733043806474671110020447059585260544788307249646120271373957687937058013167964457354592265690716221246659680621873668666181064214991877790513854121783516720260680912769007701624978946760806111666126368083776503394716231336919040]),
  ([1, 3, 2, 1], [0, 579847304086683648, 7371341493527250610135326147444359203050581192359692309201839969762022391808, 76296883087608516145877412945327333230554954277593593640825315011634514068782806588577175080214497317550455638311515500414825888599084438692273330620456713706936732975587585254090242466375400871564861939971869109722111654202722757188810394568865301061582460504758032046777482429682195366538683668569978479743734054912]),
  ([1, 3, 2, 2], [0, 579847304086683648, 33003109215984625857384109219242964549099270051104836062939750989931766587496222621696, 43738990231125120213901925437494298615976022162301045552823686210473966767613148030473313300896317831195439751499870716445873373207899919682828476527021956414116624616149209405759507185759311251727087968633292236626154008001267007905311807638281732461303985689781819083685405700277816086215839742374864622637110308523866141607458047799015148916442349213907043091966148603555946585102845578186023214972928]),
  ([1, 3, 2, 3], [0, 579847304086683648, 33003109215984625857384109219242964549099270051104836062939750989931766587496222621696, 3504369393135383003051618447813626612468506755344149763411939882262460407661855850402384376874207006922666745963683994453090182568126227182838180570363361769793194722940175445088342318295084086041722326401660153596291258707628871299347992185813254606476420708072394928039161456667979823965861075669275717722344526119347918506603438016611836491319635186127900335872823333023332095770882780336273344361915299630460561639797481185673216]),
  ([1, 3, 3, 1], [0, 579847304086683648, 7371341493527250610135326147444359203050581192359692309201839969762022391808, 6134471121526656595099711295137468603294084449090926145159752522655973937330570763088477080803703606817730795466030088762894446515986318482107946680091186649490647957628041082919450968923867867985452774925212973954243837773589034999174040829323034761460263170081995693037455515745933597766053567698362353829992416388545179096698804694827645403136]),
  ([1, 3, 3, 2], [0, 579847304086683648, 33003109215984625857384109219242964549099270051104836062939750989931766587496222621696, 3509924597877875846879873065583161059717889850187189793277596860753995719113650333950588253858252171605077055223048880397024866250443097034247929111764349694643414136310957659525492888947391590208254538100682227633730081895952998350176894318216066556145848613912056190540212934662534485354646677384101274315280233324194512930482288221974995826825429202026743079414150339770447859583822913016561552105862782601541899883719541576368128]),
  ([1, 3, 3, 3], [0, 579847304086683648, 33003109215984625857384109219242964549099270051104836062939750989931766587496222621696, 281175532758969700036370242905231547831055022996058315052703816226205144106719366530207795581909497550216354654043350028455677726233369745574072946479647181875890937535344773755420523258325633809674739751500029009285144708100849452782321696939742385838287370230679701132777363111036571046296903692978829998155227481935974043897102996957263198060125818701103811807724220433773013645921232434674513379988833006748738213434135614206510334275011253878126009504956416])]
theorem table5_ok : (table5.all fun p => checkC p.1 p.2) = true := by decide +kernel
def table6 : List (List Nat × List Nat) := [
  ([2, 1, 1, 1], [0, 579847304086683648, 1760715863732190026555928947999227571914077182003980771009303347200, 1385018082155639915314452420561695675361634955419571759457789426917481340494929590372092210347175101325891729693472039169283181717714931551049460648817194397310734510356352151876325445591708868600332288, 4951763994972304776471303555867738231031593122643331024602884503220485605360694043473596165974531444354660993007616]),
  ([2, 1, 1, 2], [0, 579847304086683648, 7597558335047421114942660622158425813168946661270250007721379239532429770752, 1034380025464089847351168917548765111821260661378863476689006703923640772908148634970530976600615341372897824828425681926141677315841492138249187358796471754560590870812276650470900924146388685881644801025947873330583473840093195543989913773343544638634646265988560154334401290352223256576]),
  ([2, 1, 1, 3], [0, 579847304086683648, 7597558335047421114942660622158425813168946661270250007721379239532429770752, 84414745026111736159707107917323737794261693406182249846889463121842877549506390148530078420093773011710690981829112851279780063693978372631892035857384945692860959583821251187617587147388426411577690422357800294894963850671838702952244319759244165963319686513926406313911173322472616650140873368834801797535919177728]),
  ([2, 1, 2, 1], [0, 579847304086683648, 7618757021069350514752545866148905470664335261508988090887121883246778777600, 1052967691439907446891943018491747081765568525308324834085040944840072903580498040661922514571193774344534887839310618681952639151645522838177900894556549395877780098382953536648800821116738474752738305436157867240354058684828283075116891664768567143464367035788530122673525053639156236288]),
  ([2, 1, 2, 2], [0, 579847304086683648, 32874101895412495131887843115895935182790613688451027961719989165452062639762652463104, 535719918996329812417337927355598705795545506759278764493307481327629115857831357629748106616333213604263338621878309757761078513119523156685320381965202574399713534902576184268018514364085383321968617966124530907965499298647743375524410165689895106679224031621969906142252446200149564757406707022552270810175912497528862356803341613352675325699822143485980387769898024501248]),
  ([2, 1, 2, 3], [0, 579847304086683648, 32874101895412495131887843115895935182790613688451027961719989165452062639762652463104, 43668873689566788993429662746470349388606594124340975634108840612086122119410634206745924082279899689791685010509699313664669383036602705690869068344749192901250691106542732171838368799683072048916854411740918829429739973119678563040724279200174421863563032752616613601248548038139891462090344625039044966812759074820912923855128450323532445689540332168804004418214986792670748312927760114295622915784704]),
  ([2, 1, 3, 1], [0, 579847304086683648, 7618757021069350514752545866148905470664335261508988090887121883246778777600, 84555723363736998124019739342845891267953480143430138938008630364732006818541091710903290898326127527753726229716971231384861675965879452825901460395875432762853996013175645703208919457151161805901677230977836576875347940243606222535576901833567309841508992244792994055799633245441744899848932935022256666374386352128]),
  ([2, 1, 3, 2], [0, 579847304086683648, 32874101895412495131887843115895935182790613688451027961719989165452062639762652463104, 43006591301875616724576274046213878708063483313395722862750249436847166868822017120237872697162865835422573367791545631593529303628430904966768451910009530945918384840295049976418922962594108612380256100749152975253445235671142790329156032116833483190453605286381452317935882364977085084648445296089413393007586612972082958143349290801006685082209017342374657577603968426499616122184782026435996441575424]),
  ([2, 1, 3, 3], [0, 579847304086683648, 32874101895412495131887843115895935182790613688451027961719989165452062639762652463104, 3504369393128354211695793519609160438791795920065204408394803309100351141026645531652728455139933475651949950605730806472695436047045521838499870936044844059682592234986681501301534652113617155607988545808485307345379715321040978952616732574134039495887743659356428325485421693926324480831484350693803368453307120683062558055066045323130734030981809032734791076130579000415336634418111015088248930186245456903535561148384839364706304])]
theorem table6_ok : (table6.all fun p => checkC p.1 p.2) = true := by decide +kernel
def table7 : List (List Nat × List Nat) := [
  ([2, 2, 1, 1], [0, 579847304086683648, 7618756158351057165932072436804422686047265049423291492222596070630120161280, 726869961443840675965757313732112142796612344934423459063957664887192871309182961358109277331212781370026925290087166201977489838126262843258010325397534732207993547992340402154232826809358171652519630624050384054931037107825006579292166099231150259555720667227236659946480950667868569600]),
  ([2, 2, 1, 2], [0, 579847304086683648, 32874101895412495131887843015460774921062477200890892607801087283129828821164913786880, 533353429199465023384857569791867355806500755859786374346489296667836780831952816514488343435607010030246205222443863768569730561058929683114095571599062079552826837161509559945506213342023758346128245312685418690492501913061468851372580764024070969014334306447772435866503462590581842983612279102053807303555908935655191496628829943132505916529082822148570354398179294117888]),
  ([2, 2, 1, 3], [0, 579847304086683648, 32874101895412495131887843015460774921062477200890892607801087283129828821164913786880, 43668873689566788660370750519066398031681545213263966542743782232459245213869667750602693025126551751945847243809278077122199483988988763602556556244333176147964901377293018083090958420685853362183207762560727277086078827461708538546471008798373895016123467766360007402256460615758962213890797286425842013617198509187101220544440384873266812068103623387619539768768082781952630085683915619280964161044480]),
  ([2, 2, 2, 1], [0, 579847304086683648, 32965145853191460405419340352351845927214783439435025093529065774852056176893648306176, 544963997196727491788713621799107139370785611080114893093106199112401253011457375097025532103712380761627441644736599799539455884322111844602456499253009449351710109449817897075288778175213089312320882174974641107308414601906970835730413071698930681299192871609628866912660239900788113302215286727589858138345292978475776219006615841579109082649327490143725901711766287745024]),
  ([2, 2, 2, 2], [0, 579847304086683648, 142236170860637934622144241758746309578325240389816536224892884682441022278840888023899613626368, 275841390510385993874130708712633898357238717792556221210178391487246217844761340104829275569506621369484149481396219278695697261778733092416651248751687375312004168644993000889750789634995770093717185633493137652118423462152241090006333192641087794673201618508219315336105438792402431184060453314588312235745264605733375140144106430587516009850363184074948978878087420127905411066762337269123648901478375896516466354053346816062815070022329526889142502101024768]),
  ([2, 2, 2, 3], [0, 579847304086683648, 142236170860637934622144241758746309578325240389816536224892884682441022278840888023899613626368]),
  ([2, 2, 3, 1], [0, 579847304086683648, 32965145853191460405419340352351845927214783439435025093529065774852056176893648306176, 43738982631831292282626118138984703472887760916678500354852970037961638914914051080813020410497087189384897518388075638806004311983390459241842629984013689380894743678899191858044160242421599753636037049280657806047672431324166435319313574063259940012940030022557445792786852606974540842600870110789855372909291923322270419699846809180785430653948917587725554302100340569863750180828822719726906336215040]),
  ([2, 2, 3, 2], [0, 579847304086683648, 142236170860637934622144241758746309578325240389816536224892884682441022278840888023899613626368]),
  ([2, 2, 3, 3], [0, 579847304086683648, 142236170860637934622144241758746309578325240389816536224892884682441022278840888023899613626368])]
theorem table7_ok : (table7.all fun p => checkC p.1 p.2) = true := by decide +kernel
def table8 : List (List Nat × List Nat) := [
  ([2, 3, 1, 1], [0, 579847304086683648, 7618756158351057165932072436804422686047265049423291492222596070630120161280, 58719599416075927527077382868502285853986891164341884739199005192418080464155228470222139909354276260650598447192900316983322845597376017215347782838879824778232669629198484597384406091981279374081800697949493812227197624027116706920342555537579959241830662368119524808307534466719981901186685125262701379294023843840]),
  ([2, 3, 1, 2], [0, 579847304086683648, 32874101895412495131887843015460774921062477200890892607801087283129828821164913786880, 42819098663661264819208545902442298368615870774947155615156971651393317255193664001491897188281788004248001014190041149038296088452208170048996698332274790312132595982439664811691069970555748680820085908223478935819496961821244808172194603879301519838809591886078919525917588279906065642651987166111956835980117276566209814693461123974037146544125776372633291561366551892307184606263867178043518002593792]),
  ([2, 3, 1, 3], [0, 579847304086683648, 32874101895412495131887843015460774921062477200890892607801087283129828821164913786880, 3504369393128354185308147894832298464993029589266726858276188585795328101038674287097214248599425712286638543723665133640013984634919873004260836023517903892253879089523526139773441614688027120181234565723522692956043473854427474160079327072077207267661118947335119770121020938609386060788866601881404847255725086907170569848457525021461649845738890857496167075370056742495751861777353651745137594411867875983410132927127460331847680]),
  ([2, 3, 2, 1], [0, 579847304086683648, 32965145853191460405419340352351845927214783439435025093529065774852056176893648306176, 43738982631831292282626118138979970421074494055554193400162104751557223111877769974250071784566535605833960732999476485672844883887401108063745074265995839841785507482275204486236804812372744608055114393151928031259613828180648735877814298940095624821285780620533867743028419345962166112593580804814084085140528721667949713386003853691445462416474793271764525787190361290939540592741076179905634081374208]),
  ([2, 3, 2, 2], [0, 579847304086683648, 142236170860637934622144241758746309578325240389816536224892884682441022278840888023899613626368]),
  ([2, 3, 2, 3], [0, 579847304086683648, 142236170860637934622144241758746309578325240389816536224892884682441022278840888023899613626368]),
  ([2, 3, 3, 1], [0, 579847304086683648, 32965145853191460405419340352351845927214783439435025093529065774852056176893648306176, 3509923995799789453894821938471172507348334546837484006509963968373801673581374911865619191769510674218278573318212930201068201168487014275484069981102533606611129181102090275073554923053579604020778045523488217575138652936722938003557980601960955136283615270457714393872168077704649282290881251914728433316326593624202057393537367628448793522830044711433475454087871010910691763259568904151910708347680684545194629206144885644460032]),
  ([2, 3, 3, 2], [0, 579847304086683648, 142236170860637934622144241758746309578325240389816536224892884682441022278840888023899613626368]),
  ([2, 3, 3, 3], [0, 579847304086683648, 142236170860637934622144241758746309578325240389816536224892884682441022278840888023899613626368])]
theorem table8_ok : (table8.all fun p => checkC p.1 p.2) = true := by decide +kernel
def table9 : List (List Nat × List Nat) := [
  ([3, 1, 1, 1], [0, 579847304086683648, 1760715863732190026555928947999227571914077182003980771009303347200, 163080532775812474055112691254070980158117576780503659396744305346900004456564376900722850519920528761127751743582982589228841796656476881214192478627621685740193664710050753090627212133366456495657953978756615505738332722703826944]),
  ([3, 1, 1, 2], [0, 579847304086683648, 7597558335047421114942660622158425813168946661270250007721379239532429770752, 84355811971148802108869609269371133527801184030995498638893122671014320338474551006266090726417075138137330790604097059257301156033562789570442641843032733083028985686761645302690027549569616686258141601935875045066190670293786999703725116041043589612358231594040698338849037405496058291267902068546291567973712199680]),
  ([3, 1, 1, 3], [0, 579847304086683648, 7597558335047421114942660622158425813168946661270250007721379239532429770752, 6761766098903083367491388265217958242909600491036967031959573289499739261783962208783882741570421069533030764364759999951787529540572021911545163495490917619832337946443351416507348377882527338662030776954179882289754876967648877311607818890617006237921767292031992190870152604480077680867596144599302798241922809719740324037966534505167451521024]),
  ([3, 1, 2, 1], [0, 579847304086683648, 7618757021069350514752545866148905470664335261508988090887121883246778777600, 84355837318567142428159293120232185152791603972534297062873088108303329695891427023691965538903501734474733600843293435171638035790028715050557778206625217508593341845865001412023416085621217499169206924286886031013667125940131326495468863515111219455744477531088406032290455261751918565216633520534551770637297451008]),
  ([3, 1, 2, 2], [0, 579847304086683648, 32874101895412495131887843115895935182790613688451027961719989165452062639762652463104, 43639564911941106792512432077136404727538734114550286795126848685451498010114373481718005175189587893167718940180364863266265578937743802680618433365871594232982106521359002464364422963297185338586793502716930234520546612028275293123060537164049105292233781490854046509584571037222059087771519098943644629233986290389395121491861004689388179242885394405935453411119924023220698261949787313154906955120640]),
  ([3, 1, 2, 3], [0, 579847304086683648, 32874101895412495131887843115895935182790613688451027961719989165452062639762652463104, 3496477715061882468883681999603698878010254253678695972740308064638091817040540043115168181571096643202295816619009098434761720840385215751316433056566074862071705351768147366525403477033391113549648928441732607865103652896082875903973896516848203183665341466471777317122220678476744616197535882910354817589831669810050046074298000564645920777556206678225122355153870943439814217288936802736884021885996248516877470976527566620786688]),
  ([3, 1, 3, 1], [0, 579847304086683648, 7618757021069350514752545866148905470664335261508988090887121883246778777600, 6772967257032064812770424176608842460148345337678980774227786586515506844491950739678441547081625515200885082641275812442633740867034586823243852365967427050157145853182635077036689585776125131814750233924406412531901049979024912891337756599312726169182189484886683145151678340251553244057149967487928746521572271592930801261643722988578359083008]),
  ([3, 1, 3, 2], [0, 579847304086683648, 32874101895412495131887843115895935182790613688451027961719989165452062639762652463104, 3502047312531532227809658680668935032785253197451630498916689778724872104196151155223747695164329269067473066485624730533808932414188115677038829669887765551805517855765270896803091884316776558247115786975241376330961473203496389972649207538348601026425629268917233358794050689666347881841216292017475625818501130573741286883776312441009024256479701268738332154368983626626621218029626117882612892646965005959374022236471766511190016]),
  ([3, 1, 3, 3], [0, 579847304086683648, 32874101895412495131887843115895935182790613688451027961719989165452062639762652463104, 280550289606052143211256191529205597870447146078199612087706226211403130255793568074976522643481803940426874477194622271949338780066499898002136096324374053409516668769147614384017500745876069956301742220996137497675293943141930293801868381017844790596214101386944119054797911278629756544531875422381071435418596268148239122952601530617250705338768992895647257907622259647351700386783826880099398368328449261452443108886873420538139503659342695105416271036350464])]
theorem table9_ok : (table9.all fun p => checkC p.1 p.2) = true := by decide +kernel
def table10 : List (List Nat × List Nat) := [
  ([3, 2, 1, 1], [0, 579847304086683648, 7618756158351057165932072436804422686047265049423291492222596070630120161280, 84496816555080109087302873744003671946987154200663017307657077974199200301123098987047765468206155701207216299207202771800810039642420076313179467733451657376064869708589080996485524732544420114230530941064874140911802210396389014771156078982780910776527929186603986764351875777419646594456894766966151507502548844544]),
  ([3, 2, 1, 2], [0, 579847304086683648, 32874101895412495131887843015460774921062477200890892607801087283129828821164913786880, 43639562051030489508090047926011161657554379602466765049651474595142865812344322925744181013262219773846531674369210470525410132135159856710884359937432974828079278493527090478116303425181482364072498231317224033675761850295293454704245121857709871436407444349525476640198691072489517460356888502918243691507706459787991426399800704245904666263978509762892231497399966156352791077658117291180551137853440]),
  ([3, 2, 1, 3], [0, 579847304086683648, 32874101895412495131887843015460774921062477200890892607801087283129828821164913786880, 3496477715061882468883681993459846362683240696414401886064571581907707187614422041455261915309157964096431349637492183876820584382838154331067427090779530708969343328669802355742529426291994105593402255109506934828340039688974336918853769220318259363003952431016077669770617661212193345341509808456335579285634563116440487095673670916202178548840877401050839861077366084881443859284628067140648007614581883375277290965326933709488128]),
  ([3, 2, 2, 1], [0, 579847304086683648, 32965145853191460405419340352351845927214783439435025093529065774852056176893648306176, 43639577517801230432884299780912200451665182996205502374690286146129721220505420627313679316173911257976521666595713064851509124117668104217529991285644816214541865216628583816529430398857227962951274463788922696671578995447528108298607342652684719435523786308145841832837470980888907105287030841296103221207543067809323092922341962203479566003337728722297100807107568170513154477544047282266051682959360]),
  ([3, 2, 2, 2], [0, 579847304086683648, 142236170860637934622144241758746309578325240389816536224892884682441022278840888023899613626368]),
  ([3, 2, 2, 3], [0, 579847304086683648, 142236170860637934622144241758746309578325240389816536224892884682441022278840888023899613626368]),
  ([3, 2, 3, 1], [0, 579847304086683648, 32965145853191460405419340352351845927214783439435025093529065774852056176893648306176, 3502048311270666735673377036132131934792922151588915142247866725749821833212134320641783662868123854073996438574729776370150782313934768726519198533050152634160748987409192262236051699329871185924189826563532991340474168646952274688733587393045829369797781554112565009085700641084185632192814256215591128850260323545440896725945251603385298355429217206729334316795668722803644069175960038894836102671681170042555606239470378730520576]),
  ([3, 2, 3, 2], [0, 579847304086683648, 142236170860637934622144241758746309578325240389816536224892884682441022278840888023899613626368]),
  ([3, 2, 3, 3], [0, 579847304086683648, 142236170860637934622144241758746309578325240389816536224892884682441022278840888023899613626368])]
theorem table10_ok : (table10.all fun p => checkC p.1 p.2) = true := by decide +kernel
def table11 : List (List Nat × List Nat) := [
  ([3, 3, 1, 1], [0, 579847304086683648, 7618756158351057165932072436804422686047265049423291492222596070630120161280, 6784136782893651044021434927351908824704186845953592406900823379756401681494673856034587497306039292740014152964556322145606409938918134038279337943266680244159723395883855067649442080918249585861987714154353273291542945033878732925101406773669945897896937200289583867003757349796762681212131546913036645454522927513147413726844461765204070563840]),
  ([3, 3, 1, 2], [0, 579847304086683648, 32874101895412495131887843015460774921062477200890892607801087283129828821164913786880, 3502047085866840902815138440606944637909121724311302815759331387299872507386096347654083879163859496515981608217638031639716132281900857071757534978746438006999406733173091729811265864939002781916287156695112398277261558145141781889090277070723013490365650612921098886027646482028141738178691197512198666086070865824491444168303725594927803620849094460292690054893121907006695097569464503555939632132571434442947860639542123352752128]),
  ([3, 3, 1, 3], [0, 579847304086683648, 32874101895412495131887843015460774921062477200890892607801087283129828821164913786880, 280550289606052143211256191042439452322446788919992385927419588798934996827296108559589199301595648978317095727514882517215772638494021201865942265317246657454825324051344437592983967607475882828247375708109765767716650355132807480656651910291146356702840453657700285263013755243446985093053357986312235693132939631517314354204172284891599996411573916824136933965929303898623538864850600232731073629793450325551353565104515099655270151156288315942167361704361984]),
  ([3, 3, 2, 1], [0, 579847304086683648, 32965145853191460405419340352351845927214783439435025093529065774852056176893648306176, 3502048311270666735673377036132131934792834842193428201530091887085595434866331273701690052899091569141416533637986766550806041669716514949443572558743320933556405337650053572269101283925516760864730173132185387711213983420398083601546900704517837529987865813287184297575670120827237546349957121491789744466730623490861821329097635171667790399452439694786804570385467211282760131045263525279013503012311801856315348961135433530671104]),
  ([3, 3, 2, 2], [0, 579847304086683648, 142236170860637934622144241758746309578325240389816536224892884682441022278840888023899613626368]),
  ([3, 3, 2, 3], [0, 579847304086683648, 142236170860637934622144241758746309578325240389816536224892884682441022278840888023899613626368]),
  ([3, 3, 3, 1], [0, 579847304086683648, 32965145853191460405419340352351845927214783439435025093529065774852056176893648306176, 280991637707783047892832918029998404826218972236095292105343547991669463909851345180445035924961781894809529310173215251487551771380938628434790004520885042879373264842552910238616104148806526644208306149523833524984491578704628948202980045922899507524380111018516762342416140877489789626207405077079391959140922152630111985334610872677491065045626215456397396225545556037562225312746888262567542195820017927977443144624790490878580420233730971456916699044773888]),
  ([3, 3, 3, 2], [0, 579847304086683648, 142236170860637934622144241758746309578325240389816536224892884682441022278840888023899613626368]),
  ([3, 3, 3, 3], [0, 579847304086683648, 142236170860637934622144241758746309578325240389816536224892884682441022278840888023899613626368])]
theorem table11_ok : (table11.all fun p => checkC p.1 p.2) = true := by decide +kernel
def table : List (List Nat × List Nat) := table0 ++ table1 ++ table2 ++ table3 ++ table4 ++ table5 ++ table6 ++ table7 ++ table8 ++ table9 ++ table10 ++ table11
theorem table_ok : ∀ p ∈ table, checkC p.1 p.2 = true := by
  intro p hp
  unfold table at hp
  simp only [List.mem_append] at hp
  rcases hp with ((((((((((hp | hp) | hp) | hp) | hp) | hp) | hp) | hp) | hp) | hp) | hp) | hp
  · exact List.all_eq_true.mp table0_ok p hp
  · exact List.all_eq_true.mp table1_ok p hp
  · exact List.all_eq_true.mp table2_ok p hp
  · exact List.all_eq_true.mp table3_ok p hp
  · exact List.all_eq_true.mp table4_ok p hp
  · exact List.all_eq_true.mp table5_ok p hp
  · exact List.all_eq_true.mp table6_ok p hp
  · exact List.all_eq_true.mp table7_ok p hp
  · exact List.all_eq_true.mp table8_ok p hp
  · exact List.all_eq_true.mp table9_ok p hp
  · exact List.all_eq_true.mp table10_ok p hp
  · exact List.all_eq_true.mp table11_ok p hp

theorem all3 : ([1, 2, 3].all fun a => [1, 2, 3].all fun b => [1, 2, 3].all fun c => table.any fun p => rowEq p.1 [a, b, c]) = true := by decide +kernel
theorem all4 : ([1, 2, 3].all fun a => [1, 2, 3].all fun b => [1, 2, 3].all fun c => [1, 2, 3].all fun d => table.any fun p => rowEq p.1 [a, b, c, d]) = true := by decide +kernel
end Sd

set_option Elab.async false
set_option linter.all false
set_option maxRecDepth 100000
set_option maxHeartbeats 2000000
/-! Pm3: standings, moves, names. -/
namespace Sd
open PySem PySem.Spec PyProof.Rows L2
/-- a standing of the boxes ns -/
def St (hs : List Nat) (ns : List Str) (t : List (List Str)) : Prop := t.length = hs.length ∧ RowsLe hs t ∧ List.Perm t.flatten ns
theorem getD_set_same {α : Type} {s : List α} {a : Nat} {r d : α} (h : a < s.length) : (s.set a r).getD a d = r := getD_of d (List.getElem?_set_self h)
theorem getD_set_ne {α : Type} {s : List α} {a b : Nat} {r d : α} (h : a ≠ b) : (s.set a r).getD b d = s.getD b d := by
  rw [List.getD_eq_getElem?_getD, List.getElem?_set_ne h, ← List.getD_eq_getElem?_getD]
theorem set_getD_self {α : Type} {s : List α} {a : Nat} {d : α} (h : a < s.length) : s.set a (s.getD a d) = s := by
  rw [getD_of d (List.getElem?_eq_getElem h)]
  exact List.set_getElem_self h
theorem last_split {α : Type} {r : List α} (h : 0 < r.length) : ∃ x, r = r.dropLast ++ [x] ∧ r.drop (r.length - 1) = [x] := by
  have hne : r ≠ [] := List.length_pos_iff.mp h
  refine ⟨r.getLast hne, (List.dropLast_concat_getLast hne).symm, ?_⟩
  rw [List.drop_eq_getElem_cons (by omega : r.length - 1 < r.length), List.getLast_eq_getElem]
  congr 1
  exact List.drop_of_length_le (by omega)
section
variable {hs : List Nat} {ns : List Str} {s : List (List Str)} {a b : Nat}
theorem mv_parts (o : okMv hs s a b) : ∃ x, s.getD a [] = (s.getD a []).dropLast ++ [x] ∧ mv s a b = (s.set a (s.getD a []).dropLast).set b (s.getD b [] ++ [x]) := by
  obtain ⟨x, h1, h2⟩ := last_split o.2.2.1
  exact ⟨x, h1, by unfold mv; rw [h2]⟩
theorem mv_len : (mv s a b).length = s.length := by
  unfold mv
  rw [List.length_set, List.length_set]
theorem mv_st (h : St hs ns s) (o : okMv hs s a b) : St hs ns (mv s a b) := by
  obtain ⟨x, h1, h2⟩ := mv_parts o
  refine ⟨mv_len.trans h.1, fun j => ?_, ?_⟩
  · rw [h2]
    by_cases hb : j = b
    · subst hb
      rw [getD_set_same (by rw [List.length_set]; exact o.1.2), List.length_append, List.length_singleton]
      have := o.2.2.2
      omega
    · rw [getD_set_ne (Ne.symm hb)]
      by_cases ha : j = a
      · subst ha
        rw [getD_set_same o.1.1, List.length_dropLast]
        have := h.2.1 j
        omega
      · rw [getD_set_ne (Ne.symm ha)]
        exact h.2.1 j
  · have hb1 : b < (s.set a (s.getD a []).dropLast).length := by rw [List.length_set]; exact o.1.2
    have ha1 : a < (s.set a (s.getD a []).dropLast).length := by rw [List.length_set]; exact o.1.1
    have p1 := flatten_set_perm (s.set a (s.getD a []).dropLast) b x hb1
    rw [getD_set_ne o.2.1] at p1
    have p2 := flatten_set_perm (s.set a (s.getD a []).dropLast) a x ha1
    rw [getD_set_same o.1.1, List.set_set, ← h1, set_getD_self o.1.1] at p2
    rw [h2]
    exact (p1.trans p2.symm).trans h.2.2
theorem mv_ok_back (h : St hs ns s) (o : okMv hs s a b) : okMv hs (mv s a b) b a := by
  obtain ⟨x, h1, h2⟩ := mv_parts o
  have hl := h.2.1 a
  have h0 := o.2.2.1
  refine ⟨⟨by rw [mv_len]; exact o.1.2, by rw [mv_len]; exact o.1.1⟩, Ne.symm o.2.1, ?_, ?_⟩
  · rw [h2, getD_set_same (by rw [List.length_set]; exact o.1.2), List.length_append, List.length_singleton]
    omega
  · rw [h2, getD_set_ne (Ne.symm o.2.1), getD_set_same o.1.1, List.length_dropLast]
    omega
theorem mv_back (h : St hs ns s) (o : okMv hs s a b) : mv (mv s a b) b a = s := by
  obtain ⟨x, h1, h2⟩ := mv_parts o
  have hb1 : b < (s.set a (s.getD a []).dropLast).length := by rw [List.length_set]; exact o.1.2
  have e1 : (mv s a b).getD b [] = s.getD b [] ++ [x] := by rw [h2, getD_set_same hb1]
  have e2 : (mv s a b).getD a [] = (s.getD a []).dropLast := by rw [h2, getD_set_ne (Ne.symm o.2.1), getD_set_same o.1.1]
  have e3 : (s.getD b [] ++ [x]).drop ((s.getD b [] ++ [x]).length - 1) = [x] := by
    rw [List.length_append, List.length_singleton, Nat.add_sub_cancel, List.drop_left]
  show ((mv s a b).set b ((mv s a b).getD b []).dropLast).set a ((mv s a b).getD a [] ++ ((mv s a b).getD b []).drop (((mv s a b).getD b []).length - 1)) = s
  rw [e1, e2, e3, List.dropLast_concat, h2, List.set_set, ← h1, List.set_comm _ _ (Ne.symm o.2.1), List.set_set, set_getD_self o.1.1, set_getD_self o.1.2]
theorem reach_st {t : List (List Str)} (h : St hs ns s) (r : Reach hs s t) : St hs ns t := by
  induction r with
  | base => exact h
  | step _ o ih => exact mv_st ih o
theorem reach_trans {t u : List (List Str)} (r1 : Reach hs s t) (r2 : Reach hs t u) : Reach hs s u := by
  induction r2 with
  | base => exact r1
  | step _ o ih => exact .step ih o
theorem reach_rev {t : List (List Str)} (h : St hs ns s) (r : Reach hs s t) : Reach hs t s := by
  induction r with
  | base => exact .base
  | step r1 o ih =>
    have ht := reach_st h r1
    have q : Reach hs _ _ := .step (s0 := mv _ _ _) .base (mv_ok_back ht o)
    rw [mv_back ht o] at q
    exact reach_trans q ih
theorem rows_of (h : RowsLe hs s) : ∀ (i : Nat) (r : List Str) (k : Nat), s[i]? = some r → hs[i]? = some k → r.length ≤ k := fun i r k h1 h2 => by
  have := h i
  rw [getD_of [] h1, getD_of 0 h2] at this
  exact this
theorem full_of (h : St hs ns s) (i : Nat) : (dps hs (cnt s)).getD i 0 ≤ (s.getD i []).length := by
  have h1 := rows_full s hs h.1 (rows_of h.2.1) i
  have h2 := rows_le s hs h.1 (rows_of h.2.1)
  rw [dps_getD]
  omega
theorem St.cnt (h : St hs ns s) : cnt s = ns.length := by rw [cnt_flat, h.2.2.length_eq]
theorem take_append_le {α : Type} {r : List α} {x : α} {k : Nat} (h : k ≤ r.length) : (r ++ [x]).take k = r.take k := List.take_append_of_le_length h
/-- a move keeps the deep part -/
theorem mv_deep (h : St hs ns s) (o : okMv hs s a b) : deep hs (mv s a b) = deep hs s := by
  have h' := mv_st h o
  have hc : Sd.cnt (mv s a b) = Sd.cnt s := by rw [h'.cnt, h.cnt]
  obtain ⟨x, h1, h2⟩ := mv_parts o
  apply List.ext_getElem?
  intro j
  by_cases hj : j < hs.length
  · rw [deep_get h'.1 hj, deep_get h.1 hj, hc]
    congr 1
    have f1 := full_of h j
    have f2 := full_of h' j
    rw [hc] at f2
    by_cases hb : j = b
    · subst hb
      rw [h2, getD_set_same (by rw [List.length_set]; exact o.1.2)]
      exact take_append_le f1
    · by_cases ha : j = a
      · subst ha
        have e2 : (mv s j b).getD j [] = (s.getD j []).dropLast := by rw [h2, getD_set_ne (Ne.symm o.2.1), getD_set_same o.1.1]
        rw [e2] at f2 ⊢
        conv => rhs; rw [h1]
        exact (take_append_le f2).symm
      · rw [h2, getD_set_ne (Ne.symm hb), getD_set_ne (Ne.symm ha)]
  · rw [List.getElem?_eq_none (by rw [deep_len h'.1]; omega), List.getElem?_eq_none (by rw [deep_len h.1]; omega)]
theorem reach_deep {t : List (List Str)} (h : St hs ns s) (r : Reach hs s t) : deep hs t = deep hs s := by
  induction r with
  | base => rfl
  | step r1 o ih => rw [mv_deep (reach_st h r1) o, ih]
end
/-! ### labels -/
def rel (L : List Str) (s : NS) : List (List Str) := s.map fun r => r.map fun i => L.getD i ""
theorem getD_map_nil {α β : Type} (f : List α → List β) (hf : f [] = []) (s : List (List α)) (a : Nat) : (s.map f).getD a [] = f (s.getD a []) := by
  rw [List.getD_eq_getElem?_getD, List.getD_eq_getElem?_getD, List.getElem?_map]
  cases s[a]? with
  | none => exact hf.symm
  | some r => rfl
theorem rel_getD (L : List Str) (s : NS) (a : Nat) : (rel L s).getD a [] = (s.getD a []).map fun i => L.getD i "" := getD_map_nil (fun r => r.map fun i => L.getD i "") rfl s a
theorem rel_mv (L : List Str) (s : NS) (a b : Nat) : rel L (gmv s a b) = mv (rel L s) a b := by
  unfold mv
  rw [rel_getD, rel_getD]
  unfold rel gmv
  rw [List.map_set, List.map_set, List.map_append, List.map_drop, List.length_map, List.map_dropLast]
theorem rel_ok {hs : List Nat} {L : List Str} {s : NS} {a b : Nat} (o : gok hs s a b) : okMv hs (rel L s) a b := by
  obtain ⟨⟨o1, o2⟩, o3, o4, o5⟩ := o
  refine ⟨⟨by unfold rel; rw [List.length_map]; exact o1, by unfold rel; rw [List.length_map]; exact o2⟩, o3, ?_, ?_⟩
  · rw [rel_getD, List.length_map]
    exact o4
  · rw [rel_getD, List.length_map]
    exact o5
theorem okStep_of {hs : List Nat} {C : List NS} {cert i : Nat} {u : NS} (h : okStep hs C cert i u = true) : (dig cert i / 2048 = 0 ∧ i = 0) ∨ ∃ a b j, gok hs u a b ∧ C.getD j [] = gmv u a b ∧ dig cert j / 2048 < dig cert i / 2048 := by
  unfold okStep at h
  simp only at h
  split at h
  · rename_i c
    exact .inl ⟨Nat.eq_of_beq_eq_true c, Nat.eq_of_beq_eq_true h⟩
  · simp only [Bool.and_eq_true, Bool.not_eq_true'] at h
    obtain ⟨h1, h2, h3, h4, h5, h6, h7⟩ := h
    refine .inr ⟨_, _, _, ⟨⟨Nat.le_of_ble_eq_true h1, Nat.le_of_ble_eq_true h2⟩, Nat.ne_of_beq_eq_false h3, Nat.le_of_ble_eq_true h4, Nat.le_of_ble_eq_true h5⟩, stEq_eq h7, Nat.le_of_ble_eq_true h6⟩
theorem okAll_of {hs : List Nat} {C : List NS} {cert : Nat} : ∀ (us : List NS) (k : Nat), okAll hs C cert us k = true → ∀ i u, us[i]? = some u → okStep hs C cert (k + i) u = true
  | [], _, _, i, u, h => by simp at h
  | v :: us, k, h, i, u, hi => by
    unfold okAll at h
    rw [Bool.and_eq_true] at h
    cases i with
    | zero =>
      cases hi
      exact h.1
    | succ i =>
      have q := okAll_of us (k + 1) h.2 i u (by simpa using hi)
      rw [show k + (i + 1) = k + 1 + i by omega]
      exact q
/-- every one reaches the first -/
theorem to_first {hs : List Nat} {C : List NS} {cert : Nat} {L : List Str} (h : okAll hs C cert C 0 = true) : ∀ (r i : Nat) (u : NS), C[i]? = some u → dig cert i / 2048 = r → Reach hs (rel L u) (rel L (C.getD 0 [])) := by
  intro r
  induction r using Nat.strongRecOn with
  | ind r ih =>
    intro i u hi hr
    have q := okAll_of C 0 h i u hi
    rw [Nat.zero_add] at q
    rcases okStep_of q with ⟨_, rfl⟩ | ⟨a, b, j, o, e, lt⟩
    · rw [getD_of [] hi]
      exact .base
    · have hj : C[j]? = some (gmv u a b) := by
        cases hz : C[j]? with
        | none =>
          rw [List.getD_eq_getElem?_getD, hz] at e
          have e' : ([] : NS) = gmv u a b := e
          have hl := congrArg List.length e'
          unfold gmv at hl
          rw [List.length_set, List.length_set] at hl
          have := o.1.1
          rw [← hl] at this
          exact absurd this (Nat.not_lt_zero _)
        | some v =>
          rw [List.getD_eq_getElem?_getD, hz] at e
          rw [← e]
          rfl
      have r2 := ih _ (by rw [← hr]; exact lt) j _ hj rfl
      rw [rel_mv] at r2
      exact reach_trans (.step .base (rel_ok o)) r2
/-! ### all standings of labels -/
theorem stacksN_all : ∀ (h : Nat) (ls st rest : List Nat), List.Perm (st ++ rest) ls → st.length ≤ h → ∃ r, (st, r) ∈ stacksN h ls ∧ List.Perm r rest
  | 0, ls, st, rest, p, hl => by
    have : st = [] := List.length_eq_zero_iff.mp (by omega)
    subst this
    exact ⟨ls, by simp [stacksN], p.symm⟩
  | h + 1, ls, [], rest, p, _ => ⟨ls, by simp [stacksN], p.symm⟩
  | h + 1, ls, x :: st, rest, p, hl => by
    have hx : x ∈ ls := p.mem_iff.mp (by simp)
    have p2 : List.Perm (st ++ rest) (ls.erase x) := by
      have q := p.erase x
      rw [List.cons_append, List.erase_cons_head] at q
      exact q
    obtain ⟨r, h1, h2⟩ := stacksN_all h _ st rest p2 (by simpa using hl)
    refine ⟨r, ?_, h2⟩
    unfold stacksN
    exact List.mem_cons_of_mem _ (List.mem_flatMap.mpr ⟨x, hx, List.mem_map.mpr ⟨(st, r), h1, rfl⟩⟩)
theorem standsN_all : ∀ (hs : List Nat) (ls : List Nat) (s : NS), s.length = hs.length → (∀ j, (s.getD j []).length ≤ hs.getD j 0) → List.Perm s.flatten ls → s ∈ standsN hs ls
  | [], ls, [], _, _, p => by
    have : ls = [] := List.Perm.nil_eq p |>.symm
    subst this
    simp [standsN]
  | [], _, _ :: _, e, _, _ => by simp at e
  | _ :: _, _, [], e, _, _ => by simp at e
  | h :: hs, ls, r :: s, e, k, p => by
    obtain ⟨rest, h1, h2⟩ := stacksN_all h ls r s.flatten p (k 0)
    have ih := standsN_all hs rest s (by simpa using e) (fun j => k (j + 1)) h2.symm
    have hle : rest.length ≤ hs.sum := by
      rw [h2.length_eq]
      have key : ∀ (s : NS) (hs : List Nat), s.length = hs.length → (∀ j, (s.getD j []).length ≤ hs.getD j 0) → s.flatten.length ≤ hs.sum := by
        intro s
        induction s with
        | nil => intro hs _ _; exact Nat.zero_le _
        | cons r s ih =>
          intro hs e k
          cases hs with
          | nil => simp at e
          | cons h hs =>
            have h0 := k 0
            have := ih hs (by simpa using e) fun j => k (j + 1)
            rw [List.flatten_cons, List.length_append, List.sum_cons]
            have h0' : r.length ≤ h := h0
            omega
      exact key s hs (by simpa using e) fun j => k (j + 1)
    unfold standsN
    refine List.mem_flatMap.mpr ⟨(r, rest), h1, ?_⟩
    rw [if_pos (Nat.ble_eq_true_of_le hle)]
    exact List.mem_map.mpr ⟨s, ih, rfl⟩
end Sd

set_option Elab.async false
set_option linter.all false
set_option maxRecDepth 100000
set_option maxHeartbeats 2000000
/-! Pm4: standings of one deep part are connected. -/
namespace Sd
open PySem PySem.Spec PyProof.Rows L2
theorem stacksN_sound : ∀ (h : Nat) (ls : List Nat) (p : List Nat × List Nat), p ∈ stacksN h ls → p.1.length ≤ h ∧ List.Perm (p.1 ++ p.2) ls
  | 0, ls, p, hp => by
    simp only [stacksN, List.mem_singleton] at hp
    subst hp
    exact ⟨Nat.le_refl _, List.Perm.refl _⟩
  | h + 1, ls, p, hp => by
    unfold stacksN at hp
    rcases List.mem_cons.mp hp with rfl | hp
    · exact ⟨Nat.zero_le _, List.Perm.refl _⟩
    · obtain ⟨x, hx, hp⟩ := List.mem_flatMap.mp hp
      obtain ⟨q, hq, rfl⟩ := List.mem_map.mp hp
      obtain ⟨h1, h2⟩ := stacksN_sound h _ q hq
      refine ⟨by simpa using h1, ?_⟩
      exact (List.Perm.cons x h2).trans (List.perm_cons_erase hx).symm
theorem standsN_sound : ∀ (hs : List Nat) (ls : List Nat) (s : NS), s ∈ standsN hs ls → s.length = hs.length ∧ (∀ j, (s.getD j []).length ≤ hs.getD j 0) ∧ List.Perm s.flatten ls
  | [], ls, s, h => by
    unfold standsN at h
    split at h
    · rename_i c
      rw [List.mem_singleton.mp h]
      have : ls = [] := List.isEmpty_iff.mp c
      subst this
      exact ⟨rfl, fun j => by simp, List.Perm.refl _⟩
    · cases h
  | k :: hs, ls, s, h => by
    unfold standsN at h
    obtain ⟨p, hp, h⟩ := List.mem_flatMap.mp h
    split at h
    · obtain ⟨t, ht, rfl⟩ := List.mem_map.mp h
      obtain ⟨h1, h2, h3⟩ := standsN_sound hs _ t ht
      obtain ⟨q1, q2⟩ := stacksN_sound _ _ _ hp
      refine ⟨by simp [h1], fun j => ?_, ?_⟩
      · cases j with
        | zero => exact q1
        | succ j => exact h2 j
      · rw [List.flatten_cons]
        exact (List.Perm.append_left _ h3).trans q2
    · cases h
def lab (L : List Str) (t : List (List Str)) : NS := t.map fun r => r.map fun x => L.idxOf x
theorem idx_getD {L : List Str} {x : Str} (h : x ∈ L) : L.getD (L.idxOf x) "" = x := by
  have h1 : L.idxOf x < L.length := List.idxOf_lt_length_of_mem h
  rw [getD_of _ (List.getElem?_eq_getElem h1)]
  exact List.getElem_idxOf h1
theorem rel_lab {L : List Str} {t : List (List Str)} (h : ∀ x ∈ t.flatten, x ∈ L) : rel L (lab L t) = t := by
  unfold rel lab
  rw [List.map_map]
  conv => rhs; rw [← List.map_id t]
  refine List.map_congr_left fun r hr => ?_
  show (r.map fun x => L.idxOf x).map (fun i => L.getD i "") = r
  rw [List.map_map]
  conv => rhs; rw [← List.map_id r]
  exact List.map_congr_left fun x hx => idx_getD (h x (List.mem_flatten.mpr ⟨r, hr, hx⟩))
theorem lab_flat (L : List Str) (t : List (List Str)) : (lab L t).flatten = t.flatten.map fun x => L.idxOf x := by
  unfold lab
  rw [List.map_flatten]
theorem map_idx {L : List Str} (h : L.Nodup) : L.map (fun x => L.idxOf x) = List.range L.length := by
  apply List.ext_getElem
  · simp
  · intro i h1 h2
    rw [List.getElem_map, List.getElem_range]
    exact h.idxOf_getElem i _
theorem lab_perm {L : List Str} {t : List (List Str)} (h : L.Nodup) (p : List.Perm t.flatten L) : List.Perm (lab L t).flatten (List.range L.length) := by
  rw [lab_flat, ← map_idx h]
  exact p.map _
theorem lab_getD (L : List Str) (t : List (List Str)) (a : Nat) : (lab L t).getD a [] = (t.getD a []).map fun x => L.idxOf x := getD_map_nil (fun r => r.map fun x => L.idxOf x) rfl t a
theorem lab_stands {hs : List Nat} {L : List Str} {t : List (List Str)} (hn : L.Nodup) (h : St hs L t) : lab L t ∈ standsN hs (List.range L.length) :=
  standsN_all hs _ _ (by unfold lab; rw [List.length_map]; exact h.1) (fun j => by rw [lab_getD, List.length_map]; exact h.2.1 j) (lab_perm hn h.2.2)
theorem gcnt_lab (L : List Str) (t : List (List Str)) : gcnt (lab L t) = cnt t := by
  unfold gcnt cnt lab
  rw [List.map_map]
  congr 1
  refine List.map_congr_left fun r _ => ?_
  show (r.map _).length = r.length
  rw [List.length_map]
theorem gdeep_lab (hs : List Nat) (L : List Str) (t : List (List Str)) : gdeep hs (lab L t) = lab L (deep hs t) := by
  unfold gdeep
  rw [gcnt_lab]
  unfold deep lab
  generalize hs.sum - cnt t = f
  induction t generalizing hs with
  | nil => rfl
  | cons r t ih =>
    cases hs with
    | nil => rfl
    | cons h hs =>
      rw [List.map_cons, List.zipWith_cons_cons, List.zipWith_cons_cons, List.map_cons, ih, List.map_take]
/-- the rest of a standing -/
def shal (hs : List Nat) (s : List (List Str)) : List (List Str) := List.zipWith (fun (r : List Str) (h : Nat) => r.drop (h - (hs.sum - cnt s))) s hs
theorem deep_shal {hs : List Nat} {s : List (List Str)} (h : s.length = hs.length) : List.Perm ((deep hs s).flatten ++ (shal hs s).flatten) s.flatten := by
  unfold deep shal
  generalize hs.sum - cnt s = f
  induction s generalizing hs with
  | nil => exact List.Perm.refl _
  | cons r s ih =>
    cases hs with
    | nil => simp at h
    | cons k hs =>
      have ih' := ih (hs := hs) (by simpa using h)
      rw [List.zipWith_cons_cons, List.zipWith_cons_cons, List.flatten_cons, List.flatten_cons, List.flatten_cons]
      generalize (List.zipWith (fun (r : List Str) (h : Nat) => r.take (h - f)) s hs).flatten = A at *
      generalize (List.zipWith (fun (r : List Str) (h : Nat) => r.drop (h - f)) s hs).flatten = C at *
      have e : r = r.take (k - f) ++ r.drop (k - f) := (List.take_append_drop _ _).symm
      have p1 : List.Perm (r.take (k - f) ++ A ++ (r.drop (k - f) ++ C)) ((r.take (k - f) ++ r.drop (k - f)) ++ (A ++ C)) := by
        rw [List.append_assoc, List.append_assoc]
        refine List.Perm.append_left _ ?_
        rw [← List.append_assoc, ← List.append_assoc]
        exact List.Perm.append_right _ List.perm_append_comm
      rw [← e] at p1
      exact p1.trans (List.Perm.append_left _ ih')
theorem all_of_check {hs : List Nat} (h : H13 hs) : ∃ cs, checkC hs cs = true := by
  have m : ∀ a, 1 ≤ a ∧ a ≤ 3 → a ∈ [1, 2, 3] := fun a ha => by
    have : a = 1 ∨ a = 2 ∨ a = 3 := by omega
    rcases this with rfl | rfl | rfl <;> simp
  have key : (table.any fun p => rowEq p.1 hs) = true := by
    obtain ⟨hl, hh⟩ := h
    match hs, hl, hh with
    | [a, b, c], _, hh =>
      have q := all3
      rw [List.all_eq_true] at q
      have q := q a (m a (hh a (by simp)))
      rw [List.all_eq_true] at q
      have q := q b (m b (hh b (by simp)))
      rw [List.all_eq_true] at q
      exact q c (m c (hh c (by simp)))
    | [a, b, c, d], _, hh =>
      have q := all4
      rw [List.all_eq_true] at q
      have q := q a (m a (hh a (by simp)))
      rw [List.all_eq_true] at q
      have q := q b (m b (hh b (by simp)))
      rw [List.all_eq_true] at q
      have q := q c (m c (hh c (by simp)))
      rw [List.all_eq_true] at q
      exact q d (m d (hh d (by simp)))
    | [], hl, _ => simp at hl
    | [_], hl, _ => simp at hl
    | [_, _], hl, _ => simp at hl
    | _ :: _ :: _ :: _ :: _ :: _, hl, _ => simp at hl
  rw [List.any_eq_true] at key
  obtain ⟨p, hp, e⟩ := key
  have q := table_ok p hp
  rw [rowEq_eq e] at q
  exact ⟨p.2, q⟩
theorem check_of {hs : List Nat} {n : Nat} (h : H13 hs) (hn : n ≤ hs.sum) (hz : sizeM hs n ≤ 96) : ∃ c, check1 hs n c = true := by
  obtain ⟨cs, q⟩ := all_of_check h
  unfold checkC at q
  rw [List.all_eq_true] at q
  have q := q n (List.mem_range.mpr (by omega))
  rw [decide_eq_true hz] at q
  exact ⟨cs.getD n 0, by simpa using q⟩
section
variable {hs : List Nat} {ns : List Str} {s t : List (List Str)}
theorem few (h : H13 hs) (hn : ns.length ≤ hs.sum) (hz : sizeM hs ns.length ≤ 96) : ns.length ≤ 4 := by
  obtain ⟨c, q⟩ := check_of h hn hz
  unfold check1 at q
  rw [Bool.and_eq_true, Bool.and_eq_true] at q
  exact Nat.le_of_ble_eq_true q.1
/-- few standings in all -/
theorem all_few (h : H13 hs) (hn : ns.length ≤ hs.sum) (hz : sizeM hs ns.length ≤ 96) (hd : ns.Nodup) : ∃ V : List (List (List Str)), V.length ≤ 200 ∧ ∀ t, St hs ns t → t ∈ V := by
  obtain ⟨c, q⟩ := check_of h hn hz
  unfold check1 at q
  rw [Bool.and_eq_true, Bool.and_eq_true] at q
  refine ⟨(standsN hs (List.range ns.length)).map (rel ns), by rw [List.length_map]; exact Nat.le_of_ble_eq_true q.2.1, fun t ht => ?_⟩
  refine List.mem_map.mpr ⟨lab ns t, lab_stands hd ht, rel_lab fun x hx => ht.2.2.mem_iff.mp hx⟩
theorem canon_of {L X : List Str} {D : List (List Str)} (hL : L = D.flatten ++ X) (hd : L.Nodup) (ht : deep hs t = D) : canonOk hs (lab L t) = true := by
  have e : (gdeep hs (lab L t)).flatten = List.range D.flatten.length := by
    rw [gdeep_lab, ht, lab_flat]
    have h1 : D.flatten = L.take D.flatten.length := by rw [hL, List.take_left]
    conv => lhs; rw [h1]
    rw [List.map_take, map_idx hd]
    apply List.ext_getElem
    · rw [List.length_take, List.length_range, List.length_range, hL, List.length_append]
      omega
    · intro i h1 h2
      rw [List.getElem_take, List.getElem_range, List.getElem_range]
  unfold canonOk
  rw [e, List.length_range]
  exact rowEq_refl _
theorem connected (h : H13 hs) (hn : ns.length ≤ hs.sum) (hz : sizeM hs ns.length ≤ 96) (hd : ns.Nodup) (hs1 : St hs ns s) (ht1 : St hs ns t) (he : deep hs t = deep hs s) : Reach hs s t := by
  obtain ⟨c, q⟩ := check_of h hn hz
  unfold check1 at q
  rw [Bool.and_eq_true, Bool.and_eq_true] at q
  have q := q.2.2
  have pL := (deep_shal hs1.1).trans hs1.2.2
  generalize hL : (deep hs s).flatten ++ (shal hs s).flatten = L at pL
  have hLd : L.Nodup := pL.nodup_iff.mpr hd
  have hLl := pL.length_eq
  have sL : St hs L s := ⟨hs1.1, hs1.2.1, hs1.2.2.trans pL.symm⟩
  have tL : St hs L t := ⟨ht1.1, ht1.2.1, ht1.2.2.trans pL.symm⟩
  have ms := List.mem_filter.mpr ⟨lab_stands hLd sL, canon_of hL.symm hLd rfl⟩
  have mt := List.mem_filter.mpr ⟨lab_stands hLd tL, canon_of hL.symm hLd he⟩
  rw [hLl] at ms mt
  have rs : rel L (lab L s) = s := rel_lab fun x hx => sL.2.2.mem_iff.mp hx
  have rt : rel L (lab L t) = t := rel_lab fun x hx => tL.2.2.mem_iff.mp hx
  obtain ⟨i, hi⟩ := List.mem_iff_getElem?.mp ms
  obtain ⟨j, hj⟩ := List.mem_iff_getElem?.mp mt
  have r1 := to_first (L := L) q _ i _ hi rfl
  have r2 := to_first (L := L) q _ j _ hj rfl
  rw [rs] at r1
  rw [rt] at r2
  exact reach_trans r1 (reach_rev ht1 r2)
end
end Sd

set_option Elab.async false
set_option linter.all false
set_option maxRecDepth 100000
set_option maxHeartbeats 2000000
/-! Sp21: shown data; an object made. -/
namespace Sd
open PySem PySem.Spec PyProof.Rows L2
theorem join_len : ∀ (ts : List Str) (k : Nat), (∀ t ∈ ts, t.length ≤ k) → (Str.join ", " ts).length ≤ ts.length * (k + 2)
  | [], k, _ => Nat.zero_le _
  | [x], k, h => by
    have := h x (by simp)
    show x.length ≤ 1 * (k + 2)
    omega
  | x :: y :: r, k, h => by
    have ih := join_len (y :: r) k fun t ht => h t (List.mem_cons_of_mem _ ht)
    have hx := h x (by simp)
    show (x ++ ", " ++ Str.join ", " (y :: r) : Str).length ≤ _
    rw [PySem.Str.length_append, PySem.Str.length_append]
    show x.length + 2 + _ ≤ (r.length + 1 + 1) * (k + 2)
    rw [show (y :: r).length = r.length + 1 from rfl] at ih
    rw [Nat.succ_mul (r.length + 1)]
    omega
theorem tupleText_len (ts : List Str) (k : Nat) (h : ∀ t ∈ ts, t.length ≤ k) : (tupleText ts).length ≤ ts.length * (k + 2) + 3 := by
  have := join_len ts k h
  unfold tupleText
  rw [PySem.Str.length_append, PySem.Str.length_append]
  have e : (PySem.Str.ofString "(").length = 1 := rfl
  rw [e]
  split
  · show 1 + _ + 2 ≤ _
    omega
  · show 1 + _ + 1 ≤ _
    omega
theorem shownAll_map (ds : List PyData) : PyData.shownAll ds = ds.map PyData.shown := by
  induction ds with
  | nil => rfl
  | cons d ds ih => rw [PyData.shownAll, ih, List.map_cons]
theorem shown_row {r : List Str} (h : ∀ x ∈ r, nameOk x = true) (hl : r.length ≤ 100) : (PyData.shown (rD r)).length ≤ 8403 := by
  unfold rD
  rw [PyData.shown, shownAll_map]
  have q := tupleText_len ((r.map PyData.str).map PyData.shown) 82 fun t ht => by
    rw [List.map_map] at ht
    obtain ⟨x, hx, rfl⟩ := List.mem_map.mp ht
    obtain ⟨h1, h2⟩ := name_ok (h x hx)
    show (reprText x).length ≤ 82
    have := StrLaws.reprText_len x fun c hc => Nat.lt_trans (h2 c hc) (by decide)
    omega
  rw [List.length_map, List.length_map] at q
  omega
theorem shown_sD {s : List (List Str)} (h : ∀ r ∈ s, (∀ x ∈ r, nameOk x = true) ∧ r.length ≤ 100) (hl : s.length ≤ 100) : (PyData.shown (sD s)).length ≤ sizeLine := by
  unfold sD
  rw [PyData.shown, shownAll_map]
  have q := tupleText_len ((s.map rD).map PyData.shown) 8403 fun t ht => by
    rw [List.map_map] at ht
    obtain ⟨r, hr, rfl⟩ := List.mem_map.mp ht
    exact shown_row (h r hr).1 (h r hr).2
  rw [List.length_map, List.length_map] at q
  rw [sizeLine_eq]
  omega
theorem showable_row (r : List Str) : PyData.showable (rD r) = true := by
  unfold rD
  rw [PyData.showable]
  induction r with
  | nil => rfl
  | cons x r ih => rw [List.map_cons, PyData.showableAll, ih]; rfl
theorem showable_sD (s : List (List Str)) : PyData.showable (sD s) = true := by
  unfold sD
  rw [PyData.showable]
  induction s with
  | nil => rfl
  | cons x r ih => rw [List.map_cons, PyData.showableAll, ih, showable_row]; rfl
theorem noDict_sD {s : List (List Str)} (h : ∀ r ∈ s, ∀ x ∈ r, smT x) : PyData.hasDict (sD s) = false := by
  have q := shaped_sD h
  exact PyData.hasDict_of_canLay _ (SeqAt.canLay_of_shaped q)
theorem depth_sD (s : List (List Str)) : PyData.depth (sD s) ≤ 10 := by
  have := depth_rows s
  unfold sD
  rw [PyData.depth]
  omega
section
variable {R : Rl} {K : PySem.W.Frag} {env : Env'} {H : Hp} {ta te : TE}
/-- what repr can show -/
def Shw (d : PyData) : Prop := PyData.showable d = true ∧ PyData.hasDict d = false ∧ PyData.depth d ≤ 10 ∧ (PyData.shown d).length ≤ sizeLine
theorem ev_repr {d : PyData} (ha : Ev R ta env H (Pr.d K d)) (h : Shw d) : Ev R (tCB (rReprG K) (tCons ta tNil)) env H (Pr.v (.str (PyData.shown d))) :=
  ev_cb (ea_cons ha ea_nil) fun vs H1 r1 pv Q q => by
    obtain ⟨x, rfl, px⟩ := vs1 pv
    exact ⟨x, d, rfl, px, h.1, h.2.1, h.2.2.1, h.2.2.2, q _ H1 (R.again r1) rfl⟩
theorem shw_none : Shw .none := ⟨rfl, rfl, by decide, show 4 ≤ sizeLine by decide⟩
theorem shw_sD {s : List (List Str)} (h : ∀ r ∈ s, (∀ x ∈ r, nameOk x = true) ∧ r.length ≤ 100) (hl : s.length ≤ 100) : Shw (sD s) := ⟨showable_sD s, noDict_sD fun r hr x hx => (name_ok ((h r hr).1 x hx)).2, depth_sD s, shown_sD h hl⟩
end
end Sd

set_option Elab.async false
set_option linter.all false
set_option maxRecDepth 100000
set_option maxHeartbeats 2000000
/-! Sp22: small tools for the law. -/
namespace Sd
open PySem PySem.Spec PyProof.Rows L2
theorem shown_int_small : ∀ i < 13, (PyData.shown (.int ((i : Nat) : Int))).length ≤ sizeLine := by decide +kernel
theorem shown_pair_small : ∀ i < 13, ∀ j < 13, (PyData.shown (.tuple [.int ((i : Nat) : Int), .int ((j : Nat) : Int)])).length ≤ sizeLine := by decide +kernel
theorem showable_small : ∀ i < 13, PyData.showable (.int ((i : Nat) : Int)) = true := by decide +kernel
theorem shw_int {i : Nat} (h : i < 13) : Shw (.int (i : Nat)) := ⟨showable_small i h, rfl, Nat.zero_le _, shown_int_small i h⟩
theorem shw_m1 : Shw (.int (-1)) := ⟨by decide +kernel, rfl, by decide, by decide +kernel⟩
theorem shw_pair {i j : Nat} (hi : i < 13) (hj : j < 13) : Shw (.tuple [.int (i : Nat), .int (j : Nat)]) := by
  refine ⟨?_, rfl, by simp only [PyData.depth, PyData.depthAll]; decide, shown_pair_small i hi j hj⟩
  rw [PyData.showable, PyData.showableAll, PyData.showableAll, showable_small i hi, showable_small j hj]
  rfl
theorem shw_boxes : Shw (.str "boxes") := ⟨rfl, rfl, by decide, by decide +kernel⟩
theorem shown_boxes : PyData.shown (.str "boxes") = "'boxes'" := by decide +kernel
theorem shown_none : PyData.shown .none = "None" := by decide +kernel
theorem rowDiff_lt : ∀ {a b : List Str} {j : Nat}, rowDiff a b = some j → j < a.length
  | x :: a, y :: b, j, h => by
    unfold rowDiff at h
    split at h
    · cases q : rowDiff a b with
      | none => rw [q] at h; cases h
      | some k =>
        rw [q] at h
        have := rowDiff_lt q
        simp only [Option.map_some, Option.some.injEq] at h
        rw [List.length_cons]
        omega
    · cases h
      exact Nat.succ_pos _
  | [], _, _, h => by simp [rowDiff] at h
  | _ :: _, [], _, h => by simp [rowDiff] at h
theorem pdiff_lt : ∀ {a b : List (List Str)} {i j : Nat}, pdiff a b = some (i, j) → i < a.length ∧ ∃ r ∈ a, j < r.length
  | r :: a, t :: b, i, j, h => by
    unfold pdiff at h
    cases q : rowDiff r t with
    | some k =>
      rw [q] at h
      cases h
      exact ⟨Nat.succ_pos _, r, List.mem_cons_self, rowDiff_lt q⟩
    | none =>
      rw [q] at h
      have h' : (pdiff a b).map (fun p => (p.1 + 1, p.2)) = some (i, j) := h
      cases q2 : pdiff a b with
      | none => rw [q2] at h'; cases h'
      | some p =>
        rw [q2] at h'
        simp only [Option.map_some, Option.some.injEq, Prod.mk.injEq] at h'
        obtain ⟨h1, r', h2, h3⟩ := pdiff_lt (i := p.1) (j := p.2) q2
        refine ⟨by rw [List.length_cons]; omega, r', List.mem_cons_of_mem _ h2, by omega⟩
  | [], _, _, _, h => by simp [pdiff] at h
  | _ :: _, [], _, _, h => by simp [pdiff] at h
theorem deep_row_len {hs : List Nat} {s : List (List Str)} {k : Nat} (h : ∀ x ∈ hs, x ≤ k) : ∀ r ∈ deep hs s, r.length ≤ k := by
  unfold deep
  generalize hs.sum - cnt s = f
  induction s generalizing hs with
  | nil => intro r hr; simp at hr
  | cons x s ih =>
    cases hs with
    | nil => intro r hr; simp at hr
    | cons y hs =>
      intro r hr
      rw [List.zipWith_cons_cons] at hr
      rcases List.mem_cons.mp hr with rfl | hr
      · have := h y List.mem_cons_self
        rw [List.length_take]
        omega
      · exact ih (fun x hx => h x (List.mem_cons_of_mem _ hx)) r hr
/-- what may be shown of a parting -/
theorem shw_pD {hs : List Nat} {s t : List (List Str)} (hl : s.length = hs.length) (h4 : hs.length ≤ 4) (h3 : ∀ x ∈ hs, x ≤ 3) : Shw (pD (pdiff (deep hs s) (deep hs t))) := by
  cases q : pdiff (deep hs s) (deep hs t) with
  | none => exact shw_none
  | some p =>
    obtain ⟨i, j⟩ := p
    obtain ⟨h1, r, h2, h5⟩ := pdiff_lt q
    rw [deep_len hl] at h1
    have := deep_row_len h3 r h2
    exact shw_pair (by omega) (by omega)
theorem bad_place {K : PySem.W.Frag} {H : Hp} {hs : List Nat} {v : V} {a : Int} (h : BadV K H hs v a) : a = -1 ∨ ∃ n : Nat, a = n ∧ n < hs.length := by
  unfold BadV at h
  generalize ho : some a = o at h
  cases h with
  | good => cases ho
  | no _ => cases ho; exact .inl rfl
  | len => cases ho; exact .inl rfl
  | row a xs s0 t k _ _ _ _ _ h6 _ _ _ =>
    cases ho
    exact .inr ⟨_, rfl, (List.getElem?_eq_some_iff.mp h6).1⟩
theorem shw_place {K : PySem.W.Frag} {H : Hp} {hs : List Nat} {v : V} {a : Int} (h : BadV K H hs v a) (h4 : hs.length ≤ 4) : Shw (.int a) := by
  rcases bad_place h with rfl | ⟨n, rfl, hn⟩
  · exact shw_m1
  · exact shw_int (by omega)
section
variable {R : Rl} {K : PySem.W.Frag} {env : Env'} {H : Hp} {te : TE} {σ : L2.St} {B : Adr} {Q : VK} {E : XK} {hs : List Nat}
/-- Yard(e) -/
theorem run_yard (s : Slots σ env H) (r : R.r H H) (he : Ev R te env H (Pr.d K (iD hs))) (hok : HsOk hs) (q : ∀ y H2, R.r H H2 → H y = none → Yd K B H2 y hs → Q (.ref y) H2) : tMake B.C_Yard (sp_Yard_init K B) [] E (tCons te tNil) σ H Q :=
  he σ H r s _ fun v H1 r1 pv => fun x dx hx hdx hne => by
    have hx2 : upd (upd H1 dx (.own x)) x (.ins B.C_Yard dx []) x = some (.ins B.C_Yard dx []) := upd_same
    have e1 : Ex H1 (upd (upd H1 dx (.own x)) x (.ins B.C_Yard dx [])) := fun a o h => by
      rw [upd_ne (ne_of_none h hx), upd_ne (ne_of_none h hdx)]
      exact h
    refine ⟨x, dx, v, hs, rfl, hok, hx2, Tp.mono (Ex.im e1) _ _ pv, fun H' hk im hy => ⟨rfl, q x H' (R.trans r1 (R.ofEx (R.again r1) fun a o h => hk a o (ne_of_none h hx) (e1 a o h))) (R.back r1 hx) hy⟩⟩
end
end Sd

set_option Elab.async false
set_option linter.all false
set_option maxRecDepth 100000
set_option maxHeartbeats 2000000
/-! Sp23: the law's first part: what is dealt. -/
namespace Sd
open PySem PySem.Spec PyProof.Rows L2
/-- what stands when all is dealt -/
structure LSt (K : PySem.W.Frag) (P : Program) (w : World) (B : Adr) (d l y pd pr pl : Addr) (hs : List Nat) (ns : List Str) (F : List (List (List Str))) (H : Hp) : Prop where
  dl : Deal d l H
  yd : Yd K B H y hs
  dp : H pd = some (.lst (intL (dps hs ns.length)))
  lot : H pl = some (.lst (ns.map V.str))
  nd : ND K P w H pr (F.map sk)
  ndp : pd ≠ d ∧ pd ≠ l
  nlot : pl ≠ d ∧ pl ≠ l
  npr : pr ≠ d ∧ pr ≠ l
theorem LSt.xd {K : PySem.W.Frag} {P : Program} {w : World} {B : Adr} {d l y pd pr pl : Addr} {hs : List Nat} {ns : List Str} {F : List (List (List Str))} {H H' : Hp} (s : LSt K P w B d l y pd pr pl hs ns F H) (x : Xd d l H H') : LSt K P w B d l y pd pr pl hs ns F H' :=
  ⟨x.2.1, s.yd.xd x, x.2.2.1 _ _ s.ndp.1 s.ndp.2 s.dp, x.2.2.1 _ _ s.nlot.1 s.nlot.2 s.lot, s.nd.mono x.im fun o h => x.2.2.1 _ _ s.npr.1 s.npr.2 h, s.ndp, s.nlot, s.npr⟩
theorem LSt.ex {K : PySem.W.Frag} {P : Program} {w : World} {B : Adr} {d l y pd pr pl : Addr} {hs : List Nat} {ns : List Str} {F : List (List (List Str))} {H H' : Hp} (s : LSt K P w B d l y pd pr pl hs ns F H) (e : Ex H H') : LSt K P w B d l y pd pr pl hs ns F H' := s.xd (Xd.ofEx s.dl e)
/-- the boxes dealt -/
structure Box (hs : List Nat) (ns : List Str) (sr : Str) (one : List (List Str)) (F : List (List (List Str))) : Prop where
  h : H13 hs
  le : ns.length ≤ hs.sum
  sz : sizeM hs ns.length ≤ 96
  nd : ns.Nodup
  ok : ∀ x ∈ ns, nameOk x = true
  sok : nameOk sr = true
  snew : sr ∉ ns
  st1 : St hs ns one
  F : ∀ s, s ∈ F ↔ Reach hs one s
theorem St.valid {hs : List Nat} {ns : List Str} {s : List (List Str)} (h : St hs ns s) (hn : ns.Nodup) (ho : ∀ x ∈ ns, nameOk x = true) : Valid hs s :=
  ⟨h.1, rows_of h.2.1, fun x hx => ho x (h.2.2.mem_iff.mp hx), h.2.2.nodup_iff.mpr hn⟩
/-- the law's slots from then on -/
def enL (K : PySem.W.Frag) (d y pd pr pl : Addr) (hs : List Nat) (n : Nat) (sr : Str) (one : List (List Str)) : Env' :=
  [none, some (Pr.v (.ref d)), some (Pr.d K (iD hs)), none, some (Pr.v (.int (n : Nat))), none, some (Pr.v (.ref pl)), some (Pr.v (.str sr)), some (Pr.d K (sD one)), some (Pr.v (.ref y)), some (Pr.v (.ref pd)), some (Pr.v (.ref pr)), none, none, none, none, none, none, none, none, none, none]
end Sd

set_option Elab.async false
set_option linter.all false
set_option maxRecDepth 100000
set_option maxHeartbeats 2000000
/-! Sp24: the law's first part walked. -/
namespace Sd
open PySem PySem.Spec PyProof.Rows L2
theorem qrun_asg {te : TE} {i : Nat} {z : TS} {D : Ends} {σ : L2.St} {H : Hp} (h : te σ H fun x H1 => z D (σ.set i (some x)) H1) : tSeq (tAsg te (gName i)) z D σ H := h
theorem size0 : ([1, 2, 3].all fun a => [1, 2, 3].all fun b => [1, 2, 3].all fun c => decide (sizeM [a, b, c] 0 ≤ 96) && [1, 2, 3].all fun d => decide (sizeM [a, b, c, d] 0 ≤ 96)) = true := by decide +kernel
theorem size0_of {hs : List Nat} (h : H13 hs) : sizeM hs 0 ≤ 96 := by
  have m : ∀ a, 1 ≤ a ∧ a ≤ 3 → a ∈ [1, 2, 3] := fun a ha => by
    have : a = 1 ∨ a = 2 ∨ a = 3 := by omega
    rcases this with rfl | rfl | rfl <;> simp
  obtain ⟨hl, hh⟩ := h
  match hs, hl, hh with
  | [a, b, c], _, hh =>
    have q := size0
    rw [List.all_eq_true] at q
    have q := q a (m a (hh a (by simp)))
    rw [List.all_eq_true] at q
    have q := q b (m b (hh b (by simp)))
    rw [List.all_eq_true] at q
    have q := q c (m c (hh c (by simp)))
    rw [Bool.and_eq_true] at q
    exact of_decide_eq_true q.1
  | [a, b, c, d], _, hh =>
    have q := size0
    rw [List.all_eq_true] at q
    have q := q a (m a (hh a (by simp)))
    rw [List.all_eq_true] at q
    have q := q b (m b (hh b (by simp)))
    rw [List.all_eq_true] at q
    have q := q c (m c (hh c (by simp)))
    rw [Bool.and_eq_true, List.all_eq_true] at q
    exact of_decide_eq_true (q.2 d (m d (hh d (by simp))))
  | [], hl, _ => simp at hl
  | [_], hl, _ => simp at hl
  | [_, _], hl, _ => simp at hl
  | _ :: _ :: _ :: _ :: _ :: _, hl, _ => simp at hl
section
variable {R : Rl} {K : PySem.W.Frag} {env : Env'} {H : Hp} {ta tb te : TE} {E : XK}
theorem ev_l_size {hs : List Nat} {n : Nat} (ha : Ev R ta env H (Pr.d K (iD hs))) (hb : Ev R tb env H (Pr.v (.int (n : Nat)))) (hl : hs.length ≤ 1000) (hn : n ≤ 1000) : Ev R (tCall (sp_l_size K) [] E (tCons ta (tCons tb tNil))) env H (Pr.v (.int (sizeM hs n))) :=
  ev_spR (ea_cons ha (ea_cons hb ea_nil)) (hs, n) sub_E rfl (fun vs H1 r1 pv => by
    obtain ⟨x, y, rfl, px, py⟩ := vs2 pv
    rw [show y = .int (n : Nat) from py]
    exact ⟨⟨hl, hn⟩, x, rfl, px⟩) fun v H1 H2 _ _ p => p
end
end Sd

set_option Elab.async false
set_option linter.all false
set_option maxRecDepth 100000
set_option maxHeartbeats 2000000
/-! Sp25: the law's first part walked. -/
namespace Sd
open PySem PySem.Spec PyProof.Rows L2
variable {P : Program} {w : World} {K : PySem.W.Frag} {B : Adr} {z : TS} {D : Ends} {σ : L2.St} {H : Hp}
def nones (n : Nat) : Env' := List.replicate n none
/-- the deal, the heights, the number of boxes -/
theorem law_first {p : Addr} {ns0 : List Int} (s0 : Slots σ (some (Pr.v (.ref p)) :: nones 21) H) (hp : SqL K H p (ns0.map V.int)) (hl : ns0.length ≤ 63)
    (k : ∀ d l hs n σ' H', H13 hs → n ≤ hs.sum → sizeM hs n ≤ 96 → Deal d l H' → Slots σ' [none, some (Pr.v (.ref d)), some (Pr.d K (iD hs)), none, some (Pr.v (.int (n : Nat))), none, none, none, none, none, none, none, none, none, none, none, none, none, none, none, none, none] H' → z D σ' H') :
    tSeq (tAsg (tCall (sp_l_deal K) [] E0 (tCons (tVar 0) (tCons (tC (.int 7)) tNil))) (gName 1))
    (tSeq (tAsg (tCall (sp_l_heights K) [] E0 (tCons (tVar 1) (tCons (tLst (tCons (tC (.int 3)) (tCons (tC (.int 3)) (tCons (tC (.int 4)) tNil)))) (tCons (tC (.int 3)) (tCons (tC (.int 12)) tNil))))) (gName 2))
    (tSeq (tAsg (tLc (iRng1 (tCons (tOp rAddI (tCB (rSumT K) (tCons (tVar 2) tNil)) (tC (.int 1))) tNil)) (gName 19) (tTest (tOp rLeI (tCall (sp_l_size K) [] E0 (tCons (tVar 2) (tCons (tVar 19) tNil))) (tC (.int 96)))) (tVar 19) [19]) (gName 3))
    (tSeq (tAsg (tOp (rIxL K) (tVar 3) (tCB rMax2 (tCons (tC (.int 0)) (tCons (tOp rSubI (tOp rSubI (tCB (rLenSeq K) (tCons (tVar 3) tNil)) (tC (.int 1))) (tCall sp_l_any [] E0 (tCons (tVar 1) (tCons (tC (.int 3)) tNil)))) tNil)))) (gName 4)) z))) D σ H := by
  refine qrun_asg (run_call ?_)
  refine (ea_cons (ev_var (i := 0) rfl) (ea_cons ev_cv ea_nil) : EvA RE _ (some (Pr.v (.ref p)) :: nones 21) H [Pr.v (.ref p), Pr.v (.int 7)]) σ H (Ex.refl _) s0 _ fun vs H1 e1 pv => ?_
  obtain ⟨a, b, rfl, pa, pb⟩ := vs2 pv
  rw [show a = .ref p from pa, show b = .int 7 from pb]
  refine ⟨rfl, ns0, Ex.refl _, ⟨by omega, p, rfl, Ex.sql e1 hp⟩, fun v H2 e2 ⟨d, l, hv, hd, hl2, dl⟩ => ?_⟩
  subst hv
  have s2 := ((s0.mono (Ex.im (Ex.trans e1 e2))).set (i := 1) (P := Pr.v (.ref d)) (v := .ref d) rfl)
  generalize σ.set 1 (some (V.ref d)) = σ2 at s2
  have s2' : Slots σ2 ((some (Pr.v (.ref p)) :: nones 21).set 1 (some (Pr.v (.ref d)))) H2 := s2
  clear s2
  generalize hen2 : (some (Pr.v (.ref p)) :: nones 21).set 1 (some (Pr.v (.ref d))) = en2 at s2'
  have h1 : en2[1]? = some (some (Pr.v (.ref d))) := by rw [← hen2]; rfl
  refine qrun_asg (run_call (run_cons ?_))
  refine ev_var (R := RE) h1 σ2 H2 (Ex.refl _) s2' _ fun vd H3 e3 pd => ?_
  cases (show vd = .ref d from pd)
  refine run_cons ?_
  refine (ev_lst (ea_cons ev_cv (ea_cons ev_cv (ea_cons ev_cv ea_nil))) (show 3 ≤ 100000 by decide) : EvL RE _ en2 H3 (Vs [Pr.v (.int 3), Pr.v (.int 3), Pr.v (.int 4)])) σ2 H3 (Ex.refl _) (s2'.mono (Ex.im e3)) _ fun q xs H4 e4 hq hq4 c4 => ?_
  obtain ⟨x1, x2, x3, rfl, p1, p2, p3⟩ := vs3 c4
  rw [show x1 = .int 3 from p1, show x2 = .int 3 from p2, show x3 = .int 4 from p3] at hq4
  refine (ea_cons ev_cv (ea_cons ev_cv ea_nil) : EvA RE _ en2 H4 [Pr.v (.int 3), Pr.v (.int 12)]) σ2 H4 (Ex.refl _) (s2'.mono (Ex.im (Ex.trans e3 e4))) _ fun vs H5 e5 pv => ?_
  obtain ⟨y1, y2, rfl, q1, q2⟩ := vs2 pv
  rw [show y1 = .int 3 from q1, show y2 = .int 12 from q2]
  have dl5 : Deal d l H5 := dl.of (Ex.trans (Ex.trans e3 e4) e5)
  have hqn : q ≠ d ∧ q ≠ l := ⟨fun z => (dl.of e3).d_some (z ▸ hq), fun z => (dl.of e3).l_some (z ▸ hq)⟩
  refine ⟨rfl, (d, l), Xd.refl dl5, ⟨q, rfl, hqn, e5 _ _ hq4⟩, fun v H6 x6 ⟨hs, hh, hv⟩ => ?_⟩
  have x6' : Xd d l H5 H6 := x6
  have s6 := ((s2'.mono ((Ex.im (Ex.trans (Ex.trans e3 e4) e5)).trans x6'.im)).set (i := 2) (P := Pr.d K (iD hs)) (v := v) hv)
  have s7 : Slots (σ2.set 2 (some v)) [none, some (Pr.v (.ref d)), some (Pr.d K (iD hs)), none, none, none, none, none, none, none, none, none, none, none, none, none, none, none, none, none, none, none] H6 := s6.wk (by
    rw [← hen2]
    exact .n (.s (.s (.s (.s (.s (.s (.s (.s (.s (.s (.s (.s (.s (.s (.s (.s (.s (.s (.s (.s (.s .nil))))))))))))))))))))))
  clear s6
  have hl4 : hs.length ≤ 4 := by rcases hh.1 with h | h <;> omega
  have hsum : hs.sum ≤ 12 := by have := sum_le3 hs hh.2; omega
  have dl6 := x6'.2.1
  -- the numbers of boxes that fit
  have src := sr_rng1 (R := RE) (env := [none, some (Pr.v (.ref d)), some (Pr.d K (iD hs)), none, none, none, none, none, none, none, none, none, none, none, none, none, none, none, none, none, none, none]) (H := H6) (ev_I0 (i := ((hs.sum : Nat) : Int)) (j := 1) (g := fun i j => .int (i + j)) (ev_sumI (K := K) (ev_var (i := 2) rfl)) (ev_cv (v := .int 1))) (by omega) (by omega)
  rw [show (((hs.sum : Nat) : Int) + 1).toNat = hs.sum + 1 by omega] at src
  refine q_asgL (R := RE) s7 (Ex.refl _) (ev_lc (fun i => decide (sizeM hs i ≤ 96)) (fun i => Pr.v (.int (i : Nat))) src (by omega) (fun i => [none, some (Pr.v (.ref d)), some (Pr.d K (iD hs)), none, none, none, none, none, none, none, none, none, none, none, none, none, none, none, none, some (Pr.v (.int (i : Nat))), none, none]) (fun i hi => tg_name (i := 19)) (wp_name (by simp)) (fun i hi => et_test (ev_I0 (g := fun i j => .bl (decide (i ≤ j))) (ev_l_size (ev_var (i := 2) rfl) (ev_var (i := 19) rfl) (by omega) (by omega)) ev_cv)) fun i hi _ => ev_var (i := 19) rfl) fun f xs σ8 H8 e8 hf hf8 c s8 => ?_
  have hx := kept_v c
  have hmem0 : 0 ∈ (List.range (hs.sum + 1)).filter fun i => decide (sizeM hs i ≤ 96) := List.mem_filter.mpr ⟨List.mem_range.mpr (by omega), decide_eq_true (size0_of hh)⟩
  have hmem : ∀ n ∈ (List.range (hs.sum + 1)).filter (fun i => decide (sizeM hs i ≤ 96)), n ≤ hs.sum ∧ sizeM hs n ≤ 96 := fun n hn => by
    obtain ⟨h1, h2⟩ := List.mem_filter.mp hn
    have := List.mem_range.mp h1
    exact ⟨by omega, of_decide_eq_true h2⟩
  have hfl := List.length_filter_le (fun i => decide (sizeM hs i ≤ 96)) (List.range (hs.sum + 1))
  rw [List.length_range] at hfl
  generalize (List.range (hs.sum + 1)).filter (fun i => decide (sizeM hs i ≤ 96)) = fs at *
  subst hx
  have hpos := List.length_pos_of_mem hmem0
  have hfn : f ≠ d ∧ f ≠ l := ⟨fun z => dl6.d_some (z ▸ hf), fun z => dl6.l_some (z ▸ hf)⟩
  have dl8 := dl6.of e8
  refine q_asg (R := RX d l) (P := Pr.p fun v => ∃ n : Nat, v = .int (n : Nat) ∧ (n ≤ hs.sum ∧ sizeM hs n ≤ 96)) s8 (Xd.refl dl8) (ev_op (P := Pr.v (.ref f)) (P' := Pr.p fun v => ∃ j : Nat, v = .int (j : Nat) ∧ j < fs.length) (ev_var (i := 3) rfl) (ev_cb (Ps := [Pr.v (.int 0), Pr.p fun v => ∃ j : Int, v = .int j ∧ j < (fs.length : Nat)]) (ea_cons ev_cv (ea_cons (ev_I0p (A := fun i => i = ((fs.length : Nat) : Int) - 1) (B := fun r => 0 ≤ r ∧ r < 3) (g := fun i j => .int (i - j)) ((ev_I0 (i := (fs.length : Nat)) (j := 1) (g := fun i j => .int (i - j)) ?_ ev_cv).imp fun v H2 _ pv => ⟨_, pv, rfl⟩) (ev_l_any (ev_var (i := 1) rfl) ev_cv (by decide) (by decide)) fun i j hi hj => ⟨i - j, rfl, by omega⟩) ea_nil)) fun vs H9 r9 pv Q q => ?_) fun x y H9 r9 px py Q q => ?_) fun σ9 H9 r9 s9 => ?_
  · have q := ev_lenL (K := K) (R := RX d l) (env := [none, some (Pr.v (.ref d)), some (Pr.d K (iD hs)), some (Pr.v (.ref f)), none, none, none, none, none, none, none, none, none, none, none, none, none, none, none, none, none, none]) (H := H8) (xs := fs.map fun (n : Nat) => V.int (n : Int)) (ev_var (i := 3) rfl) fun H9 x9 => .inl (.inl ((show Xd d l H8 H9 from x9).2.2.1 _ _ hfn.1 hfn.2 hf8))
    rw [List.length_map] at q
    exact q
  · obtain ⟨a, b, rfl, pa, j, rfl, hj⟩ := vs2 pv
    rw [show a = .int 0 from pa]
    refine ⟨0, j, rfl, q _ H9 ((RX d l).again r9) ⟨(if j > 0 then j else 0).toNat, ?_, ?_⟩⟩
    · rw [Int.toNat_of_nonneg (by split <;> omega)]
    · split <;> omega
  · obtain ⟨j, rfl, hj⟩ := py
    rw [show x = .ref f from px]
    refine ⟨f, fs.map fun (n : Nat) => V.int (n : Int), j, .int (fs[j] : Nat), rfl, rfl, .inl (.inl ((show Xd d l H8 H9 from r9).2.2.1 _ _ hfn.1 hfn.2 hf8)), L2.atI_nat (by rw [List.getElem?_map, List.getElem?_eq_getElem hj]; rfl), q _ H9 ((RX d l).again r9) ⟨fs[j], rfl, hmem _ (List.getElem_mem hj)⟩⟩
  · obtain ⟨v, ⟨n, rfl, hn1, hn2⟩, s9⟩ := s9.pin (i := 4) rfl
    exact k d l hs n σ9 H9 hh hn1 hn2 (show Xd d l H8 H9 from r9).2.1 (s9.wk (.s (.s (.s (.n (.s (.s (.s (.s (.s (.s (.s (.s (.s (.s (.s (.s (.s (.s (.s (.s (.s (.s .nil)))))))))))))))))))))))
end Sd

set_option Elab.async false
set_option linter.all false
set_option maxRecDepth 100000
set_option maxHeartbeats 2000000
/-! Sp26: the law's second part: names, a standing, the yard, what is reached. -/
namespace Sd
open PySem PySem.Spec PyProof.Rows L2
variable {P : Program} {w : World} {K : PySem.W.Frag} {B : Adr} {z : TS} {D : Ends} {σ : L2.St} {H : Hp}
theorem qrun_par3 {i j l : Nat} {ta : TA} {z : TS} {D : Ends} {σ : L2.St} {H : Hp} (h : ta σ H fun vs H1 => ∃ u v w, vs = [u, v, w] ∧ z D (((σ.set i (some u)).set j (some v)).set l (some w)) H1) : tSeq (tPar3 i j l ta) z D σ H := h
/-- names: the lot and a stranger -/
theorem law_names {d l : Addr} {hs : List Nat} {n : Nat} (dl : Deal d l H) (hn : n ≤ 12) (s0 : Slots σ [none, some (Pr.v (.ref d)), some (Pr.d K (iD hs)), none, some (Pr.v (.int (n : Nat))), none, none, none, none, none, none, none, none, none, none, none, none, none, none, none, none, none] H)
    (k : ∀ pl (ns : List Str) sr σ' H', Deal d l H' → (pl ≠ d ∧ pl ≠ l) → H' pl = some (.lst (ns.map V.str)) → ns.length = n → ns.Nodup → (∀ x ∈ ns, nameOk x = true) → nameOk sr = true → sr ∉ ns →
      Slots σ' [none, some (Pr.v (.ref d)), some (Pr.d K (iD hs)), none, some (Pr.v (.int (n : Nat))), none, some (Pr.v (.ref pl)), some (Pr.v (.str sr)), none, none, none, none, none, none, none, none, none, none, none, none, none, none] H' → z D σ' H') :
    tSeq (tAsg (tCall sp_l_names [] E0 (tCons (tVar 1) (tCons (tOp rAddI (tVar 4) (tC (.int 1))) tNil))) (gName 5))
    (tSeq (tPar 6 7 (tCons (tSl (rSlL K) (tVar 5) tNoPart (tPart (tUn rNeg (tC (.int 1))))) (tCons (tOp (rIxL K) (tVar 5) (tUn rNeg (tC (.int 1)))) tNil))) z) D σ H := by
  refine q_asgL (R := RX d l) (C := fun xs _ => ∃ ns : List Str, xs = ns.map V.str ∧ ns.length = n + 1 ∧ ns.Nodup ∧ ∀ x ∈ ns, nameOk x = true) s0 (Xd.refl dl) (ev_spRL (ea_cons (ev_var (i := 1) rfl) (ea_cons (ev_I0 (i := (n : Nat)) (j := 1) (g := fun i j => .int (i + j)) (ev_var (i := 4) rfl) ev_cv) ea_nil)) ((d, l), n + 1) sub_X rfl (fun vs H1 r1 pv => ?_) fun v H1 H2 r1 r2 pp => ?_) fun p5 xs σ1 H1 r1 hn1 hp1 c s1 => ?_
  · obtain ⟨a, b, rfl, pa, pb⟩ := vs2 pv
    rw [show a = .ref d from pa, show b = .int ((n : Nat) + 1) from pb]
    exact ⟨show n + 1 ≤ 20 by omega, rfl⟩
  · obtain ⟨p, ns, h1, h2, h3, h4, h5, h6⟩ := pp
    exact ⟨p, _, h1, h2, h3, ns, rfl, h4, h5, h6⟩
  · obtain ⟨ms, rfl, hm1, hm2, hm3⟩ := c
    have x1 : Xd d l H H1 := r1
    obtain ⟨sr, e1, _⟩ := last_split (r := ms) (by omega)
    have hsl := ev_slL (K := K) (R := RE) (env := [none, some (Pr.v (.ref d)), some (Pr.d K (iD hs)), none, some (Pr.v (.int (n : Nat))), some (Pr.v (.ref p5)), none, none, none, none, none, none, none, none, none, none, none, none, none, none, none, none]) (H := H1) (xs := ms.map V.str) (lo := none) (hi := some (-1)) (ev_var (i := 5) rfl) eo_none (eo_some (ev_neg (i := 1) ev_cv)) fun H2 e => .inl (.inl (e _ _ hp1))
    refine qrun_par (run_cons ?_)
    refine hsl σ1 H1 (Ex.refl _) s1 _ fun pl xs H2 e2 hn2 hp2 c2 => ?_
    rw [show xs = _ from c2, cut_butlast, dropLast_map] at hp2
    refine run_cons ?_
    have hix := ev_ixL (K := K) (R := RE) (P := Pr.v (.str sr)) (env := [none, some (Pr.v (.ref d)), some (Pr.d K (iD hs)), none, some (Pr.v (.int (n : Nat))), some (Pr.v (.ref p5)), none, none, none, none, none, none, none, none, none, none, none, none, none, none, none, none]) (H := H2) (xs := ms.map V.str) (i := -1) (x := .str sr) (ev_var (i := 5) rfl) (ev_neg (i := 1) ev_cv) (fun H3 e => .inl (.inl (e _ _ (e2 _ _ hp1)))) (by rw [e1, List.map_append]; exact L2.atI_last _ _) fun _ _ => rfl
    refine hix σ1 H2 (Ex.refl _) (s1.mono (Ex.im e2)) _ fun v H3 e3 pv => ?_
    cases (show v = .str sr from pv)
    refine ⟨_, _, rfl, ?_⟩
    have e13 : Ex H1 H3 := Ex.trans e2 e3
    have hnd := hm2
    rw [e1] at hnd
    obtain ⟨n1, _, n3⟩ := List.nodup_append.mp hnd
    refine k pl ms.dropLast sr _ H3 (x1.2.1.of e13) ⟨fun q => x1.2.1.d_some (q ▸ hn2), fun q => x1.2.1.l_some (q ▸ hn2)⟩ (e3 _ _ hp2) (by rw [List.length_dropLast]; omega) n1 (fun x hx => hm3 x (by rw [e1]; exact List.mem_append_left _ hx)) (hm3 sr (by rw [e1]; simp)) (fun q => n3 sr q sr (by simp) rfl) ?_
    exact (((s1.mono (Ex.im e13)).set (i := 6) (P := Pr.v (.ref pl)) (v := .ref pl) rfl).set (i := 7) (P := Pr.v (.str sr)) (v := .str sr) rfl).wk (.s (.s (.s (.s (.s (.n (.s (.s (.s (.s (.s (.s (.s (.s (.s (.s (.s (.s (.s (.s (.s (.s .nil))))))))))))))))))))))
end Sd

set_option Elab.async false
set_option linter.all false
set_option maxRecDepth 100000
set_option maxHeartbeats 2000000
/-! Sp27: the law's third part: a standing, the yard, depths, what is reached. -/
namespace Sd
open PySem PySem.Spec PyProof.Rows L2
variable {P : Program} {w : World} {K : PySem.W.Frag} {B : Adr} {z : TS} {D : Ends} {σ : L2.St} {H : Hp}
theorem H13.ok {hs : List Nat} (h : H13 hs) : HsOk hs := ⟨by rcases h.1 with e | e <;> omega, fun x hx => by have := h.2 x hx; omega⟩
theorem law_fill {d l pl : Addr} {hs : List Nat} {ns : List Str} {sr : Str} (dl : Deal d l H) (hh : H13 hs) (hle : ns.length ≤ hs.sum) (hz : sizeM hs ns.length ≤ 96) (hnd : ns.Nodup) (hok : ∀ x ∈ ns, nameOk x = true) (hsr : nameOk sr = true) (hnew : sr ∉ ns) (npl : pl ≠ d ∧ pl ≠ l) (hpl : H pl = some (.lst (ns.map V.str)))
    (s0 : Slots σ [none, some (Pr.v (.ref d)), some (Pr.d K (iD hs)), none, some (Pr.v (.int (ns.length : Nat))), none, some (Pr.v (.ref pl)), some (Pr.v (.str sr)), none, none, none, none, none, none, none, none, none, none, none, none, none, none] H)
    (k : ∀ y pd pr one F σ' H', Box hs ns sr one F → LSt K P w B d l y pd pr pl hs ns F H' → Slots σ' (enL K d y pd pr pl hs ns.length sr one) H' → z D σ' H') :
    tSeq (tPar3 8 9 10 (tCons (tCall (sp_l_filled K) [] E0 (tCons (tVar 1) (tCons (tVar 2) (tCons (tVar 6) tNil)))) (tCons (tMake B.C_Yard (sp_Yard_init K B) [] E0 (tCons (tVar 2) tNil)) (tCons (tCall (sp_l_depths K) [] E0 (tCons (tVar 2) (tCons (tVar 4) tNil))) tNil))))
    (tSeq (tAsg (tCall (sp_l_reached K P w) [] E0 (tCons (tVar 2) (tCons (tVar 8) tNil))) (gName 11)) z) D σ H := by
  have few4 := few hh hle hz
  have hl4 : hs.length ≤ 4 := by rcases hh.1 with h | h <;> omega
  refine qrun_par3 (run_cons (run_call ?_))
  refine (ea_cons (ev_var (i := 1) rfl) (ea_cons (ev_var (i := 2) rfl) (ea_cons (ev_var (i := 6) rfl) ea_nil)) : EvA RE _ [none, some (Pr.v (.ref d)), some (Pr.d K (iD hs)), none, some (Pr.v (.int (ns.length : Nat))), none, some (Pr.v (.ref pl)), some (Pr.v (.str sr)), none, none, none, none, none, none, none, none, none, none, none, none, none, none] H [Pr.v (.ref d), Pr.d K (iD hs), Pr.v (.ref pl)]) σ H (Ex.refl _) s0 _ fun vs H1 e1 pv => ?_
  obtain ⟨a, b, c, rfl, pa, pb, pc⟩ := vs3 pv
  rw [show a = .ref d from pa, show c = .ref pl from pc]
  have dl1 := dl.of e1
  refine ⟨rfl, ((d, l), hs, ns), Xd.refl dl1, ⟨⟨show hs.length ≤ 100 by omega, show ns.length ≤ 100 by omega, hle⟩, b, pl, rfl, pb, npl, e1 _ _ hpl⟩, fun v8 H2 x2 ⟨one, t1, t2, t3, t4⟩ => ?_⟩
  have x2' : Xd d l H H2 := (Xd.ofEx dl e1).trans x2
  have hst : St hs ns one := ⟨t2, t3, t4⟩
  refine run_cons ?_
  refine run_yard (R := RE) (s0.mono x2'.im) (Ex.refl _) (ev_var (i := 2) rfl) hh.ok fun y H3 e3 hy0 hy => ?_
  refine run_cons (run_call ?_)
  refine (ea_cons (ev_var (i := 2) rfl) (ea_cons (ev_var (i := 4) rfl) ea_nil) : EvA RE _ [none, some (Pr.v (.ref d)), some (Pr.d K (iD hs)), none, some (Pr.v (.int (ns.length : Nat))), none, some (Pr.v (.ref pl)), some (Pr.v (.str sr)), none, none, none, none, none, none, none, none, none, none, none, none, none, none] H3 [Pr.d K (iD hs), Pr.v (.int (ns.length : Nat))]) σ H3 (Ex.refl _) (s0.mono (x2'.im.trans (Ex.im e3))) _ fun vs H4 e4 pv => ?_
  obtain ⟨a, b, rfl, pa, pb⟩ := vs2 pv
  rw [show b = .int (ns.length : Nat) from pb]
  refine ⟨rfl, (hs, ns.length), Ex.refl _, ⟨⟨hle, show hs.length ≤ 50000 by omega⟩, a, rfl, pa⟩, fun v10 H5 e5 ⟨pd, hv10, hd0, hd5⟩ => ?_⟩
  subst hv10
  refine ⟨_, _, _, rfl, ?_⟩
  have e35 : Ex H2 H5 := Ex.trans (Ex.trans e3 e4) e5
  have x5 : Xd d l H H5 := x2'.trans (Xd.ofEx x2'.2.1 e35)
  have s5 := (((s0.mono x5.im).set (i := 8) (P := Pr.d K (sD one)) (v := v8) (Tp.mono (Ex.im e35) _ _ t1)).set (i := 9) (P := Pr.v (.ref y)) (v := .ref y) rfl).set (i := 10) (P := Pr.v (.ref pd)) (v := .ref pd) rfl
  refine qrun_asg (run_call ?_)
  refine (ea_cons (ev_var (i := 2) rfl) (ea_cons (ev_var (i := 8) rfl) ea_nil) : EvA RE _ [none, some (Pr.v (.ref d)), some (Pr.d K (iD hs)), none, some (Pr.v (.int (ns.length : Nat))), none, some (Pr.v (.ref pl)), some (Pr.v (.str sr)), some (Pr.d K (sD one)), some (Pr.v (.ref y)), some (Pr.v (.ref pd)), none, none, none, none, none, none, none, none, none, none, none] H5 [Pr.d K (iD hs), Pr.d K (sD one)]) _ H5 (Ex.refl _) s5 _ fun vs H6 e6 pv => ?_
  obtain ⟨a, b, rfl, pa, pb⟩ := vs2 pv
  obtain ⟨V, hV1, hV2⟩ := all_few hh hle hz hnd
  refine ⟨rfl, (hs, one, V), Ex.refl _, ⟨⟨hV1, fun s hs' => hV2 s (reach_st hst hs'), fun s hs' => ?_⟩, a, b, rfl, pa, pb⟩, fun v11 H7 e7 ⟨pr, F, hv11, hr0, hr1, hr2⟩ => ?_⟩
  · have h1 := reach_st hst hs'
    have h2 := h1.valid hnd hok
    refine ⟨h1.1, fun r hr => ⟨?_, fun x hx => valid_sm h2.2 r hr x hx⟩⟩
    obtain ⟨i, hi⟩ := List.mem_iff_getElem?.mp hr
    have h3 := h1.2.1 i
    rw [getD_of [] hi] at h3
    have h4 := sum_ge hs i
    have := sum_le3 hs hh.2
    omega
  · subst hv11
    have e57 : Ex H5 H7 := Ex.trans e6 e7
    have dl7 := x5.2.1.of e57
    refine k y pd pr one F _ H7 ⟨hh, hle, hz, hnd, hok, hsr, hnew, hst, hr2⟩ ⟨dl7, hy.ex (Ex.trans (Ex.trans e4 e5) e57), e57 _ _ hd5, e57 _ _ (x5.2.2.1 _ _ npl.1 npl.2 hpl), hr1, ⟨fun q => ?_, fun q => ?_⟩, npl, ⟨fun q => ?_, fun q => ?_⟩⟩ (((s5.mono (Ex.im e57)).set (i := 11) (P := Pr.v (.ref pr)) (v := .ref pr) rfl))
    · exact ((x2'.2.1.of (Ex.trans e3 e4))).d_some (q ▸ hd0)
    · exact ((x2'.2.1.of (Ex.trans e3 e4))).l_some (q ▸ hd0)
    · exact (x5.2.1.of e6).d_some (q ▸ hr0)
    · exact (x5.2.1.of e6).l_some (q ▸ hr0)
end Sd

set_option Elab.async false
set_option linter.all false
set_option maxRecDepth 100000
set_option maxHeartbeats 2000000
/-! Sp28: the law's checks, first. -/
namespace Sd
open PySem PySem.Spec PyProof.Rows L2
section
variable {R : Rl} {K : PySem.W.Frag} {env : Env'} {H : Hp} {ta tb te : TE}
/-- zip(tuple, list) -/
theorem sr_zipTL {ds : List PyData} {ys : List V} {b : Addr} {A B : Nat → Pr} (ha : Ev R ta env H (Pr.d K (.tuple ds))) (hb : Ev R tb env H (Pr.v (.ref b))) (hy : ∀ H', R.r H H' → SqL K H' b ys) (hn : ds.length = ys.length)
    (hI : ∀ i d, ds[i]? = some d → A i = Pr.d K d) (hJ : ∀ i y H', ys[i]? = some y → (B i).P y H') : Sr R (iZipTL K (tCons ta (tCons tb tNil))) env H ds.length (fun i => Pr.pair K (A i) (B i)) := fun σ H1 r1 s RR k =>
  ha σ H1 r1 s _ fun u H2 r2 p1 => hb σ H2 (R.trans r1 r2) (s.mono (R.im r2)) _ fun v H3 r3 p2 => by
    cases (show v = .ref b from p2)
    obtain ⟨a, xs, rfl, hx, ht⟩ := Tp.tup_ ((Pr.d K (.tuple ds)).mo (R.im r3) p1)
    have r13 := R.trans r1 (R.trans r2 r3)
    refine ⟨a, b, xs, ys, rfl, hx, hy H3 r13, k (ItzTL K a b) (fun H' => (SqT K H' a xs ∧ Tps K H' ds xs) ∧ SqL K H' b ys) H3 (R.trans r2 r3) ?_ fun H' r' => ⟨⟨(R.im r').sqt hx, Tps.mono (R.im r') _ _ ht⟩, hy H' (R.trans r13 r')⟩⟩
    have l1 := ht.length
    refine ⟨fun i H' hi g => ?_, fun H' g => ⟨xs, ys, g.1.1, g.2, by omega, by omega, .inl l1.symm⟩, fun i H' z H'' hi g y r => ?_⟩
    · have h1 : i < xs.length := by omega
      have h2 : i < ys.length := by omega
      exact ⟨xs, ys, xs[i], ys[i], g.1.1, g.2, by simp [h1], by simp [h2]⟩
    · obtain ⟨T, x', y', rfl, hT, rfl, hx', hy'⟩ := y
      obtain ⟨d, hd, td⟩ := g.1.2.at_ (hx' xs g.1.1)
      have r5 := R.new (o := .tup [x', y']) r hT
      refine ⟨r5, T, _, _, rfl, .inl (.inl upd_same), ?_, hJ i y' _ (hy' ys g.2)⟩
      rw [hI i d hd]
      exact td.mono (R.im r5) _ _
end
variable {P : Program} {w : World} {K : PySem.W.Frag} {B : Adr} {z : TS} {D : Ends} {σ : L2.St} {H : Hp} {d l y pd pr pl : Addr} {hs : List Nat} {ns : List Str} {sr : Str} {one : List (List Str)} {F : List (List (List Str))}
theorem Box.len4 (b : Box hs ns sr one F) : hs.length ≤ 4 := by rcases b.h.1 with h | h <;> omega
theorem Box.few (b : Box hs ns sr one F) : ns.length ≤ 4 := Sd.few b.h b.le b.sz
theorem Box.val (b : Box hs ns sr one F) {t : List (List Str)} (h : St hs ns t) : Valid hs t ∧ t.flatten.length ≤ 60 := ⟨h.valid b.nd b.ok, by
  rw [h.2.2.length_eq]
  have := b.few
  omega⟩
theorem Box.le3 (b : Box hs ns sr one F) : ∀ x ∈ hs, x ≤ 3 := fun x hx => (b.h.2 x hx).2
theorem Box.shwDeep (b : Box hs ns sr one F) : Shw (sD (deep hs one)) := by
  have hv := b.val b.st1
  refine shw_sD (fun r hr => ⟨fun x hx => ?_, Nat.le_trans (deep_row_len b.le3 r hr) (by decide)⟩) (by rw [deep_len b.st1.1]; have := b.len4; omega)
  refine b.ok x (b.st1.2.2.mem_iff.mp ?_)
  have p := deep_shal b.st1.1
  exact p.mem_iff.mp (List.mem_append_left _ (List.mem_flatten.mpr ⟨r, hr, hx⟩))
/-- the deep part is as the depths say -/
theorem law_repr (b : Box hs ns sr one F) (st : LSt K P w B d l y pd pr pl hs ns F H) (s0 : Slots σ (enL K d y pd pr pl hs ns.length sr one) H) (k : ∀ H', Ex H H' → Slots σ (enL K d y pd pr pl hs ns.length sr one) H' → z D σ H') :
    tSeq (tIfS (tTest (tOp rNe (tCB (rReprG K) (tCons (tCall (sp_deep_part K B) [] E0 (tCons (tVar 9) (tCons (tVar 8) tNil))) tNil)) (tCB (rReprG K) (tCons (tCB (rTupleOf K) (tCons (tLc (iZipTL K (tCons (tVar 8) (tCons (tVar 10) tNil))) (gTup K 2 (gCons (gName 20) (gCons (gName 21) gNil))) tYes (tSl (rSlA K) (tVar 20) tNoPart (tPart (tVar 21))) [20, 21]) tNil)) tNil)))) (tRet (tC (.bl false))) tNext) z D σ H := by
  have hv := b.val b.st1
  have hl4 := b.len4
  have hc : cnt one = ns.length := b.st1.cnt
  have src := sr_zipTL (R := RE) (K := K) (env := enL K d y pd pr pl hs ns.length sr one) (H := H) (ds := one.map rD) (ys := intL (dps hs ns.length)) (b := pd) (A := fun i => Pr.d K (rD (one.getD i []))) (B := fun i => Pr.v (.int ((dps hs ns.length).getD i 0 : Nat))) (ta := tVar 8) (tb := tVar 10) (ev_var (i := 8) rfl) (ev_var (i := 10) rfl) (fun H' e => .inl (.inl (e _ _ st.dp))) (by rw [List.length_map, intL_len, dps_len]; exact b.st1.1) (fun i dd h => by
    obtain ⟨m, hm, rfl⟩ := sD_get h
    rw [getD_of [] hm]) fun i y H' hy => by
    unfold intL at hy
    rw [List.getElem?_map] at hy
    cases hz : (dps hs ns.length)[i]? with
    | none => rw [hz] at hy; cases hy
    | some z =>
      rw [hz] at hy
      cases hy
      show V.int (z : Nat) = _
      rw [getD_of 0 hz]
  rw [List.length_map] at src
  refine q_no (R := RE) s0 (Ex.refl _) (et_is (et_test (ev_neS (x := .str (PyData.shown (sD (deep hs one)))) (y := .str (PyData.shown (sD (deep hs one)))) (ev_repr (ev_deep_part (ev_var (i := 9) rfl) (fun H1 e => st.yd.ex e) (ev_var (i := 8) rfl) (by omega) hv.1 hv.2) b.shwDeep) (ev_repr (ev_tupleN (ds := (deep hs one).map rD) (ev_lc (fun _ => true) (fun i => Pr.d K (.tuple (cut ((one.getD i []).map PyData.str) none (some (((dps hs ns.length).getD i 0 : Nat) : Int))))) src (by have := b.st1.1; omega) (fun i => ((enL K d y pd pr pl hs ns.length sr one).set 20 (some (Pr.d K (rD (one.getD i []))))).set 21 (some (Pr.v (.int ((dps hs ns.length).getD i 0 : Nat))))) (fun i hi => tg_pair (tg_name (i := 20)) (tg_name (i := 21))) (wp_pair2 (by simp) (by simp)) (fun i hi => et_yes) fun i hi _ => ev_slT (ds := (one.getD i []).map PyData.str) (ev_var (i := 20) rfl) eo_none (eo_some (ev_var (i := 21) rfl))) fun xs H1 c => kept_data (by rw [List.length_map, deep_len b.st1.1]; exact b.st1.1) (fun i dd h => ?_) c) b.shwDeep) rfl)) ?_) fun H1 e1 s1 => k H1 e1 s1
  · obtain ⟨m, hm, rfl⟩ := sD_get h
    have hi : i < hs.length := by
      have := (List.getElem?_eq_some_iff.mp hm).1
      rw [deep_len b.st1.1] at this
      exact this
    rw [deep_get b.st1.1 hi, hc] at hm
    cases hm
    rw [cut_to, ← List.map_take]
    rfl
  · rw [decide_eq_true rfl]
    rfl
end Sd

set_option Elab.async false
set_option linter.all false
set_option maxRecDepth 100000
set_option maxHeartbeats 2000000
/-! Sp29: the law's checks, tools. -/
namespace Sd
open PySem PySem.Spec PyProof.Rows L2
section
variable {R : Rl} {K : PySem.W.Frag} {P : Program} {w : World} {env : Env'} {H : Hp} {ta tb te : TE} {Q' : Pr}
/-- a call by keywords -/
theorem ev_callK {sp : Sp} {gV : List V → List V → List V} {E : XK} {t tk : TA} {Ps Qs : List Pr} (ha : EvA R t env H Ps) (hk : EvA R tk env H Qs)
    (hr : ∀ vs zs H1, R.r H H1 → Vs Ps vs H1 → Vs Qs zs H1 → ∀ Q : VK, (∀ z H2, R.r H1 H2 → Q'.P z H2 → Q z H2) → sp (gV vs zs) H1 Q E) : Ev R (tCallK sp gV E t tk) env H Q' := fun σ H1 r1 s Q q =>
  ha σ H1 r1 s _ fun vs H2 r2 px => hk σ H2 (R.trans r1 r2) (s.mono (R.im r2)) _ fun zs H3 r3 pz =>
    hr vs zs H3 (R.trans r1 (R.trans r2 r3)) (Vs.mono (R.im r3) px) pz Q fun z H4 r4 p4 => q z H4 (R.trans r2 (R.trans r3 r4)) p4
theorem vs0 {vs : List V} {H : Hp} (h : Vs [] vs H) : vs = [] := by cases h; rfl
/-- is it among the keys? -/
theorem ev_inN {s : List (List Str)} {F : List (List (List Str))} {p : Addr} (ha : Ev R ta env H (Pr.d K (sD s))) (hb : Ev R tb env H (Pr.v (.ref p))) (hn : ∀ H1, R.r H H1 → ND K P w H1 p (F.map sk)) : Ev R (tOp (rInN K P w) ta tb) env H (Pr.v (.bl (decide (sk s ∈ F.map sk)))) :=
  ev_op ha hb fun x y H1 r1 px py Q q => by
    cases (show y = .ref p from py)
    obtain ⟨a, xs, rfl, _, _⟩ := Tp.tup_ px
    exact ⟨sk s, a, p, _, rfl, rfl, by rw [data_sk]; exact px, depth_sk s, hn H1 r1, ⟨_, rfl⟩, q _ H1 (R.again r1) rfl⟩
theorem ev_isNoneP {o : Option (Nat × Nat)} (ha : Ev R ta env H (Pr.d K (pD o))) : Ev R (tOp rIsNone ta (tC .non)) env H (Pr.v (.bl o.isNone)) :=
  ev_op ha (ev_cv (v := .non)) fun x y H1 r1 px py Q q => ⟨py, by
    cases o with
    | none =>
      cases (show x = .non from Tp.none_ (K := K) (H := H1) px)
      exact q _ H1 (R.again r1) rfl
    | some p =>
      obtain ⟨a, xs, rfl, _, _⟩ := Tp.tup_ px
      exact q _ H1 (R.again r1) rfl⟩
theorem ev_notNoneP {o : Option (Nat × Nat)} (ha : Ev R ta env H (Pr.d K (pD o))) : Ev R (tOp rNotNone ta (tC .non)) env H (Pr.v (.bl (!o.isNone))) :=
  ev_op ha (ev_cv (v := .non)) fun x y H1 r1 px py Q q => ⟨py, by
    cases o with
    | none =>
      cases (show x = .non from Tp.none_ (K := K) (H := H1) px)
      exact q _ H1 (R.again r1) rfl
    | some p =>
      obtain ⟨a, xs, rfl, _, _⟩ := Tp.tup_ px
      exact q _ H1 (R.again r1) rfl⟩
theorem kit_bool (K : PySem.W.Frag) : PySem.W.kitOne K (.type "bool") (.type "bool") = some true := by kernel_rfl
variable {g : TG} {σ : L2.St} {D : Ends} {C : List V → Hp → Prop}
/-- a loop over enumerate(a new list) -/
theorem q_enumN {ts z : TS} (s : Slots σ env H) (r : R.r H H) (h : EvL R te env H C) (k : ∀ p xs H1, R.r H H1 → H p = none → H1 p = some (.lst xs) → C xs H1 → Slots σ env H1 → tSeq (tFor (iEnum K (tCons (tC (.ref p)) tNil)) g ts) z D σ H1) : tSeq (tFor (iEnum K (tCons te tNil)) g ts) z D σ H :=
  h σ H r s _ fun p xs H1 r1 n e c => k p xs H1 r1 n e c (s.mono (R.im r1))
end
section
variable {hs : List Nat} {ns : List Str} {sr : Str} {one t : List (List Str)} {F : List (List (List Str))}
theorem same_perm (h1 : St hs ns one) (h2 : St hs ns t) : SameB one t := fun k => by rw [h1.2.2.mem_iff, h2.2.2.mem_iff]
/-- one class: just what is reached -/
theorem one_iff (b : Box hs ns sr one F) (h : St hs ns t) : oneClass hs one t = decide (sk t ∈ F.map sk) := by
  unfold oneClass
  rw [sameB_iff.mpr (same_perm b.st1 h), Bool.and_true, Bool.eq_iff_iff, decide_eq_true_eq, decide_eq_true_eq, sk_mem, b.F]
  exact ⟨fun e => connected b.h b.le b.sz b.nd b.st1 h e.symm, fun r => (reach_deep b.st1 r).symm⟩
theorem pdiff_deep {s t : List (List Str)} (v1 : Valid hs s) (v2 : Valid hs t) (hc : cnt s = cnt t) : pdiff (deep hs s) (deep hs t) = none ↔ deep hs s = deep hs t := by
  refine pdiff_none _ _ (by rw [deep_len v1.1, deep_len v2.1]) fun i r u h1 h2 => ?_
  have hi : i < hs.length := by
    have := (List.getElem?_eq_some_iff.mp h1).1
    rw [deep_len v1.1] at this
    exact this
  rw [deep_get v1.1 hi] at h1
  rw [deep_get v2.1 hi, ← hc] at h2
  cases h1
  cases h2
  have f1 := deep_full v1 i
  have f2 := deep_full v2 i
  rw [← hc] at f2
  rw [List.length_take, List.length_take]
  omega
theorem one_none (b : Box hs ns sr one F) (h : St hs ns t) : oneClass hs one t = (pdiff (deep hs one) (deep hs t)).isNone := by
  unfold oneClass
  rw [sameB_iff.mpr (same_perm b.st1 h), Bool.and_true, Bool.eq_iff_iff, decide_eq_true_eq, Option.isNone_iff_eq_none, pdiff_deep (b.val b.st1).1 (b.val h).1 (by rw [b.st1.cnt, h.cnt])]
theorem pdiff_self (v : Valid hs one) : pdiff (deep hs one) (deep hs one) = none := (pdiff_deep v v rfl).mpr rfl
end
end Sd

set_option Elab.async false
set_option linter.all false
set_option maxRecDepth 100000
set_option maxHeartbeats 2000000
/-! Sp30: the law's loop over all standings. -/
namespace Sd
open PySem PySem.Spec PyProof.Rows L2
variable {P : Program} {w : World} {K : PySem.W.Frag} {B : Adr} {z : TS} {D : Ends} {σ : L2.St} {H : Hp} {d l y pd pr pl : Addr} {hs : List Nat} {ns : List Str} {sr : Str} {one : List (List Str)} {F : List (List (List Str))}
theorem sD_tup (t : List (List Str)) : Pr.d K (sD t) = Pr.d K (.tuple (t.map rD)) := rfl
theorem law_each (b : Box hs ns sr one F) (st : LSt K P w B d l y pd pr pl hs ns F H) (s0 : Slots σ (enL K d y pd pr pl hs ns.length sr one) H) (k : ∀ σ' H', Ex H H' → Slots σ' (enL K d y pd pr pl hs ns.length sr one) H' → z D σ' H') :
    tSeq (tFor (iEnum K (tCons (tCall (sp_l_all K) [] E0 (tCons (tVar 2) (tCons (tVar 6) tNil))) tNil)) (gTup K 2 (gCons (gName 12) (gCons (gName 13) gNil))) (tSeq (tAsg (tCall (sp_same_class K B) [] E0 (tCons (tVar 9) (tCons (tVar 8) (tCons (tVar 13) tNil)))) (gName 14))
    (tSeq (tIfS (tOr (tNot (tB (tCB (rIsi K) (tCons (tVar 14) (tCons (tC (.ty "bool")) tNil))))) (tTest (tOp rNe (tVar 14) (tOp (rInN K P w) (tVar 13) (tVar 11))))) (tRet (tC (.bl false))) tNext)
    (tSeq (tAsg (tCall (sp_l_parting K) [] E0 (tCons (tVar 10) (tCons (tVar 8) (tCons (tVar 13) tNil)))) (gName 15))
    (tSeq (tIfS (tTest (tOp rNe (tVar 14) (tOp rIsNone (tVar 15) (tC .non)))) (tRet (tC (.bl false))) tNext)
    (tIfS (tAnd (tTest (tOp rLtI (tVar 12) (tC (.int 40)))) (tTest (tOp rNe (tCB (rReprG K) (tCons (tCallK (sp_parting_place K B) gV_parting_place_1_other_one E0 (tCons (tVar 9) tNil) (tCons (tVar 13) (tCons (tVar 8) tNil))) tNil)) (tCB (rReprG K) (tCons (tVar 15) tNil))))) (tRet (tC (.bl false))) tNext)))))) z D σ H := by
  have hl4 := b.len4
  have hl1 : 1 ≤ hs.length := by rcases b.h.1 with h | h <;> omega
  have hv := b.val b.st1
  have hsum : hs.sum ≤ 12 := by have := sum_le3 hs b.h.2; omega
  refine q_enumN (R := RE) (C := fun xs H' => ∃ ss : List (List (List Str)), Tps K H' (ss.map sD) xs ∧ ∀ s ∈ ss, St hs ns s) s0 (Ex.refl _) (ev_spRL (ea_cons (ev_var (i := 2) rfl) (ea_cons (ev_var (i := 6) rfl) ea_nil)) (hs, ns) sub_E rfl (fun vs H1 e1 pv => ?_) fun v H1 H2 _ _ p => ?_) fun p xs H1 e1 hp hp1 c s1 => ?_
  · obtain ⟨u, q, rfl, pu, pq⟩ := vs2 pv
    rw [show q = .ref pl from pq]
    exact ⟨⟨⟨hl1, hl4⟩, b.le3, b.few, b.nd, b.le⟩, u, pl, rfl, pu, (show Ex H H1 from e1) _ _ st.lot⟩
  · obtain ⟨p, xs, ss, h1, h2, h3, h4, h5⟩ := p
    exact ⟨p, xs, h1, h2, h3, ss, h4, h5⟩
  · obtain ⟨ss, ht, hss⟩ := c
    have st1 := st.ex e1
    have hlen : xs.length = ss.length := by rw [ht.length, List.length_map]
    have sq := sq_enumL (K := K) (S := RE) (M := fun _ => False) (A := fun i => Pr.d K (sD (ss.getD i []))) (env := enL K d y pd pr pl hs ns.length sr one) (H := H1) (xs := xs) (p := p) (te := tC (.ref p)) ev_cv (fun H' e => e _ _ hp1) (fun z => z) fun H2 e2 i x H' hx w2 => by
      obtain ⟨dd, hd, td⟩ := ht.at_ hx
      rw [List.getElem?_map] at hd
      cases hz : ss[i]? with
      | none => rw [hz] at hd; cases hd
      | some t =>
        rw [hz] at hd
        cases hd
        show Tp K H' (sD (ss.getD i [])) x
        rw [getD_of [] hz]
        exact Tp.mono ((Ex.im e2).trans w2.1) _ _ td
    refine q_for sq s1 (Ex.refl _) (enL K d y pd pr pl hs ns.length sr one) (.s (.s (.s (.s (.s (.s (.s (.s (.s (.s (.s (.s (.s (.s (.s (.s (.s (.s (.s (.s (.s (.s .nil)))))))))))))))))))))) (fun i => ((enL K d y pd pr pl hs ns.length sr one).set 12 (some (Pr.v (.int (i : Nat))))).set 13 (some (Pr.d K (sD (ss.getD i []))))) (fun i hi => tg_pair (tg_name (i := 12)) (tg_name (i := 13)))
      (fun _ H' => Ex H1 H') (fun H2 e2 => e2) (fun H2 e2 i σ' H3 H4 hi w3 I e4 s4 N hN => ?_) fun H2 e2 σ' H3 w3 s3 I => k σ' H3 (Ex.trans e1 I) s3
    have hst : St hs ns (ss.getD i []) := by
      rw [getD_of [] (List.getElem?_eq_getElem (by omega))]
      exact hss _ (List.getElem_mem (by omega))
    generalize ss.getD i [] = t at *
    have hw := b.val hst
    have st4 := st1.ex (Ex.trans I e4)
    have hone := one_iff b hst
    have hnone := one_none b hst
    generalize hen : ((enL K d y pd pr pl hs ns.length sr one).set 12 (some (Pr.v (.int (i : Nat))))).set 13 (some (Pr.d K (sD t))) = en4 at s4
    have g8 : en4[8]? = some (some (Pr.d K (sD one))) := by rw [← hen]; rfl
    have g9 : en4[9]? = some (some (Pr.v (.ref y))) := by rw [← hen]; rfl
    have g13 : en4[13]? = some (some (Pr.d K (sD t))) := by rw [← hen]; rfl
    refine q_asg (R := RE) s4 (Ex.refl _) (ev_same_class (s := one) (t := t) (ev_var g9) (fun H' e => st4.yd.ex e) (ev_var g8) (ev_var g13) (by omega) hv hw) fun σ5 H5 e5 s5 => ?_
    have st5 := st4.ex e5
    rw [← hen] at s5
    clear g8 g9 g13
    generalize oneClass hs one t = same at *
    have s5' : Slots σ5 [none, some (Pr.v (.ref d)), some (Pr.d K (iD hs)), none, some (Pr.v (.int (ns.length : Nat))), none, some (Pr.v (.ref pl)), some (Pr.v (.str sr)), some (Pr.d K (sD one)), some (Pr.v (.ref y)), some (Pr.v (.ref pd)), some (Pr.v (.ref pr)), some (Pr.v (.int (i : Nat))), some (Pr.d K (sD t)), some (Pr.v (.bl same)), none, none, none, none, none, none, none] H5 := s5
    refine q_no (R := RE) s5' (Ex.refl _) (et_is (et_or (et_not (et_B (ev_isi (d := .bool same) (ev_v_bl (ev_var (i := 14) rfl)) (kit_bool K)))) fun _ => et_test (ev_neS (x := .bl same) (y := .bl (decide (sk t ∈ F.map sk))) (ev_var (i := 14) rfl) (ev_inN (s := t) (ev_var (i := 13) rfl) (ev_var (i := 11) rfl) fun H' e => (st5.ex e).nd) rfl)) (by rw [← hone, decide_eq_true rfl]; rfl)) fun H6 e6 s6 => ?_
    have st6 := st5.ex e6
    refine q_asg (R := RE) (P := Pr.d K (pD (pdiff (deep hs one) (deep hs t)))) s6 (Ex.refl _) (ev_spR (ea_cons (ev_var (i := 10) rfl) (ea_cons (ev_var (i := 8) rfl) (ea_cons (ev_var (i := 13) rfl) ea_nil))) (hs, one, t) sub_E rfl (fun vs H' e pv => ?_) fun v H' H'' _ _ p => p) fun σ7 H7 e7 s7 => ?_
    · obtain ⟨u1, u2, u3, rfl, p1, p2, p3⟩ := vs3 pv
      rw [show u1 = .ref pd from p1]
      refine ⟨⟨show hs.length ≤ 1000 by omega, show hs.sum ≤ 1000 by omega⟩, ⟨hv.1, hw.1, show cnt one = cnt t by rw [b.st1.cnt, hst.cnt]⟩, pd, u2, u3, rfl, ?_, p2, p3⟩
      show H' pd = some (.lst (intL (dps hs (cnt one))))
      rw [b.st1.cnt]
      exact (show Ex H6 H' from e) _ _ st6.dp
    have st7 := st6.ex e7
    have s7' : Slots σ7 [none, some (Pr.v (.ref d)), some (Pr.d K (iD hs)), none, some (Pr.v (.int (ns.length : Nat))), none, some (Pr.v (.ref pl)), some (Pr.v (.str sr)), some (Pr.d K (sD one)), some (Pr.v (.ref y)), some (Pr.v (.ref pd)), some (Pr.v (.ref pr)), some (Pr.v (.int (i : Nat))), some (Pr.d K (sD t)), some (Pr.v (.bl same)), some (Pr.d K (pD (pdiff (deep hs one) (deep hs t)))), none, none, none, none, none, none] H7 := s7
    refine q_no (R := RE) s7' (Ex.refl _) (et_is (et_test (ev_neS (x := .bl same) (y := .bl (pdiff (deep hs one) (deep hs t)).isNone) (ev_var (i := 14) rfl) (ev_isNoneP (ev_var (i := 15) rfl)) rfl)) (by rw [← hnone, decide_eq_true rfl]; rfl)) fun H8 e8 s8 => ?_
    have st8 := st7.ex e8
    have shw := shw_pD (hs := hs) (s := one) (t := t) b.st1.1 hl4 b.le3
    refine s_no (R := RE) s8 (Ex.refl _) (et_is (et_and (et_test (ev_I0 (i := (i : Nat)) (j := 40) (g := fun i j => .bl (decide (i < j))) (ev_var (i := 12) rfl) ev_cv)) fun _ => et_test (ev_neS (x := .str (PyData.shown (pD (pdiff (deep hs one) (deep hs t))))) (y := .str (PyData.shown (pD (pdiff (deep hs one) (deep hs t))))) (ev_repr (ev_callK (Ps := [Pr.v (.ref y)]) (Qs := [Pr.d K (sD t), Pr.d K (sD one)]) (ea_cons (ev_var (i := 9) rfl) ea_nil) (ea_cons (ev_var (i := 13) rfl) (ea_cons (ev_var (i := 8) rfl) ea_nil)) fun vs zs H' e pv pz Q q => ?_) shw) (ev_repr (ev_var (i := 15) rfl) shw) rfl)) (by rw [decide_eq_true (rfl : V.str _ = V.str _)]; simp)) fun H9 e9 s9 => ?_
    · obtain ⟨a, rfl, pa⟩ := vs1 pv
      obtain ⟨u2, u3, rfl, p2, p3⟩ := vs2 pz
      rw [show a = .ref y from pa]
      refine ⟨y, hs, u3, u2, rfl, st8.yd.ex e, show hs.length ≤ 1000 by omega, .inl ⟨one, t, ⟨p3, hv⟩, ⟨p2, hw⟩, .inl ⟨same_perm b.st1 hst, fun v' H'' e' p => q v' H'' e' p⟩⟩⟩
    · have ex : Ex H3 H9 := Ex.trans e4 (Ex.trans e5 (Ex.trans e6 (Ex.trans e7 (Ex.trans e8 e9))))
      exact hN σ7 H9 ex.w (s9.wk (.s (.s (.s (.s (.s (.s (.s (.s (.s (.s (.s (.s (.n (.n (.n (.n (.s (.s (.s (.s (.s (.s .nil))))))))))))))))))))))) (Ex.trans I ex)
end Sd

set_option Elab.async false
set_option linter.all false
set_option maxRecDepth 100000
set_option maxHeartbeats 2000000
/-! Sp31: the law's check with a stranger's box. -/
namespace Sd
open PySem PySem.Spec PyProof.Rows L2
section
variable {R : Rl} {K : PySem.W.Frag} {B : Adr} {env : Env'} {H : Hp} {ta tb tc : TE} {E : XK} {y : Addr} {hs : List Nat} {s t : List (List Str)}
theorem ev_l_refused (ha : Ev R ta env H (Pr.v (.ref y))) (hy : ∀ H1, R.r H H1 → Yd K B H1 y hs) (hb : Ev R tb env H (Pr.d K (sD s))) (hc : Ev R tc env H (Pr.d K (sD t))) (hl : hs.length ≤ 1000) (hv : Valid hs s ∧ s.flatten.length ≤ 60) (hw : Valid hs t ∧ t.flatten.length ≤ 60) :
    Ev R (tCall (sp_l_refused K B) [] E (tCons ta (tCons tb (tCons tc tNil)))) env H (Pr.d K (refD s t)) :=
  ev_spR (ea_cons ha (ea_cons hb (ea_cons hc ea_nil))) (y, hs, s, t) sub_E rfl (fun vs H1 r1 pv => by
    obtain ⟨a, b, c, rfl, pa, pb, pc⟩ := vs3 pv
    rw [show a = .ref y from pa]
    exact ⟨hl, hy H1 r1, b, c, rfl, ⟨pb, hv.1, hv.2⟩, ⟨pc, hw.1, hw.2⟩⟩) fun v H1 H2 _ _ p => p
theorem ev_boxes (ha : Ev R ta env H (Pr.d K (.str "boxes"))) : Ev R (tCB (rReprG K) (tCons ta tNil)) env H (Pr.v (.str "'boxes'")) := by
  have q := ev_repr ha shw_boxes
  rw [shown_boxes] at q
  exact q
/-- the word of a refusal -/
theorem ev_said (hn : ¬ SameB s t) (ha : Ev R ta env H (Pr.d K (refD s t))) : Ev R (tOp rNe (tCB (rReprG K) (tCons ta tNil)) (tC (.str "'boxes'"))) env H (Pr.v (.bl false)) := by
  rw [refD_not hn] at ha
  have q := ev_neS (x := .str "'boxes'") (y := .str "'boxes'") (ev_boxes ha) (ev_cv (v := .str "'boxes'")) rfl
  rw [decide_eq_true rfl] at q
  exact q
end
theorem oneClass_not {hs : List Nat} {s t : List (List Str)} (h : ¬ SameB s t) : oneClass hs s t = false := by
  unfold oneClass
  cases q : sameB s t with
  | false => exact Bool.and_false _
  | true => exact absurd (sameB_iff.mp q) h
theorem SameB.symm {s t : List (List Str)} (h : SameB s t) : SameB t s := fun k => (h k).symm
/-! the changed standing -/
theorem chg_flat (s : List (List Str)) (b n : Str) : (chg s b n).flatten = s.flatten.map fun x => if x = b then n else x := by
  unfold chg
  rw [List.map_flatten]
theorem nodup_chg {b n : Str} : ∀ (l : List Str), l.Nodup → n ∉ l → (l.map fun x => if x = b then n else x).Nodup
  | [], _, _ => List.nodup_nil
  | x :: l, h, hn => by
    rw [List.nodup_cons] at h
    have hn1 : n ≠ x := fun z => hn (by simp [z])
    have hn2 : n ∉ l := fun z => hn (by simp [z])
    rw [List.map_cons, List.nodup_cons]
    refine ⟨fun q => ?_, nodup_chg l h.2 hn2⟩
    obtain ⟨u, hu, e⟩ := List.mem_map.mp q
    by_cases h1 : u = b
    · rw [if_pos h1] at e
      by_cases h2 : x = b
      · rw [h2, ← h1] at h
        exact h.1 hu
      · rw [if_neg h2] at e
        exact hn1 e
    · rw [if_neg h1] at e
      by_cases h2 : x = b
      · rw [if_pos h2] at e
        exact hn2 (e ▸ hu)
      · rw [if_neg h2] at e
        exact h.1 (e ▸ hu)
theorem chg_valid {hs : List Nat} {s : List (List Str)} {b n : Str} (v : Valid hs s) (hn : nameOk n = true) (hm : n ∉ s.flatten) : Valid hs (chg s b n) := by
  refine ⟨by unfold chg; rw [List.length_map]; exact v.1, fun i r h h1 h2 => ?_, fun x hx => ?_, ?_⟩
  · unfold chg at h1
    rw [List.getElem?_map] at h1
    cases q : s[i]? with
    | none => rw [q] at h1; cases h1
    | some r0 =>
      rw [q] at h1
      cases h1
      rw [List.length_map]
      exact v.2.1 i r0 h q h2
  · rw [chg_flat] at hx
    obtain ⟨u, hu, e⟩ := List.mem_map.mp hx
    by_cases h1 : u = b
    · rw [if_pos h1] at e
      exact e ▸ hn
    · rw [if_neg h1] at e
      exact e ▸ v.2.2.1 u hu
  · rw [chg_flat]
    exact nodup_chg _ v.2.2.2 hm
theorem chg_not {s : List (List Str)} {b n : Str} (hb : b ∈ s.flatten) (hm : n ∉ s.flatten) : ¬ SameB s (chg s b n) := fun h => by
  have q := (h b).mp hb
  rw [chg_flat] at q
  obtain ⟨u, hu, e⟩ := List.mem_map.mp q
  by_cases h1 : u = b
  · rw [if_pos h1] at e
    exact hm (e ▸ hb)
  · rw [if_neg h1] at e
    exact h1 e
variable {P : Program} {w : World} {K : PySem.W.Frag} {B : Adr} {z : TS} {D : Ends} {σ : L2.St} {H : Hp} {d l y pd pr pl : Addr} {hs : List Nat} {ns : List Str} {sr : Str} {one : List (List Str)} {F : List (List (List Str))}
theorem law_other (b : Box hs ns sr one F) (st : LSt K P w B d l y pd pr pl hs ns F H) (s0 : Slots σ (enL K d y pd pr pl hs ns.length sr one) H) (k : ∀ σ' H', Xd d l H H' → Slots σ' (enL K d y pd pr pl hs ns.length sr one) H' → z D σ' H') :
    tSeq (tIfS (tTest (tOp rGtI (tVar 4) (tC (.int 0)))) (tSeq (tAsg (tCall (sp_l_changed K) [] E0 (tCons (tVar 8) (tCons (tCall (sp_l_of K) [] E0 (tCons (tVar 1) (tCons (tVar 6) tNil))) (tCons (tVar 7) tNil)))) (gName 13))
    (tSeq (tIfS (tOr (tB (tCall (sp_same_class K B) [] E0 (tCons (tVar 9) (tCons (tVar 8) (tCons (tVar 13) tNil))))) (tB (tCallK (sp_same_class K B) gV_same_class_0_other_one_yard E0 tNil (tCons (tVar 8) (tCons (tVar 13) (tCons (tVar 9) tNil)))))) (tRet (tC (.bl false))) tNext)
    (tIfS (tTest (tOp rNe (tCB (rReprG K) (tCons (tCall (sp_l_refused K B) [] E0 (tCons (tVar 9) (tCons (tVar 8) (tCons (tVar 13) tNil)))) tNil)) (tC (.str "'boxes'")))) (tRet (tC (.bl false))) tNext))) tNext) z D σ H := by
  have hl4 := b.len4
  have hv := b.val b.st1
  have hfew := b.few
  have hsr : sr ∉ one.flatten := fun q => b.snew (b.st1.2.2.mem_iff.mp q)
  refine q_if (R := RE) (b := decide ((0 : Int) < (ns.length : Nat))) s0 (Ex.refl _) (et_test (ev_I0 (i := (ns.length : Nat)) (j := 0) (g := fun i j => .bl (decide (j < i))) (ev_var (i := 4) rfl) ev_cv)) (fun hb H1 e1 s1 => ?_) fun hb H1 e1 s1 => k σ H1 (Xd.ofEx st.dl e1) s1
  have st1 := st.ex e1
  have hpos : 0 < ns.length := by
    have := of_decide_eq_true hb
    omega
  refine q_asg (R := RX d l) (P := Pr.any fun x : { x // x ∈ ns } => Pr.d K (sD (chg one x.1 sr))) s1 (Xd.refl st1.dl) (ev_call (ea_cons (ev_var (i := 8) rfl) (ea_cons (ev_l_of (P' := Pr.p fun v => ∃ x, x ∈ ns ∧ v = .str x) (A := Pr.v (.ref pl)) (ns.map V.str) (ev_var (i := 1) rfl) (ev_var (i := 6) rfl) (fun v H2 x2 pv => ?_) (by rw [List.length_map]; exact hpos) (by rw [List.length_map]; omega) fun v H2 x2 hm => ?_) (ea_cons (ev_var (i := 7) rfl) ea_nil))) fun vs H2 r2 pv Q q => ?_) fun σ3 H3 x3 s3 => ?_
  · rw [show v = .ref pl from pv]
    exact .inl ⟨pl, rfl, st1.nlot, (st1.xd x2).lot⟩
  · obtain ⟨x, hx, rfl⟩ := List.mem_map.mp hm
    exact ⟨x, hx, rfl⟩
  · obtain ⟨u1, u2, u3, rfl, p1, ⟨x, hx, rfl⟩, p3⟩ := vs3 pv
    rw [show u3 = .str sr from p3]
    refine ⟨rfl, (one, x, sr), Ex.refl _, ⟨⟨show one.length ≤ 1000 by rw [b.st1.1]; omega, fun r hr => ?_⟩, u1, rfl, p1⟩, fun v H4 e4 p => q v H4 ((RX d l).ofEx ((RX d l).again r2) e4) ⟨⟨x, hx⟩, p⟩⟩
    obtain ⟨i, hi⟩ := List.mem_iff_getElem?.mp hr
    have h3 := b.st1.2.1 i
    rw [getD_of [] hi] at h3
    have h4 := sum_ge hs i
    have := sum_le3 hs b.h.2
    omega
  · obtain ⟨⟨x, hx⟩, s3⟩ := s3.open_ (i := 13) rfl
    have x3' : Xd d l H1 H3 := x3
    have st3 := st1.xd x3'
    have hxo : x ∈ one.flatten := b.st1.2.2.mem_iff.mpr hx
    have hw : Valid hs (chg one x sr) ∧ (chg one x sr).flatten.length ≤ 60 := ⟨chg_valid hv.1 b.sok hsr, by rw [chg_flat, List.length_map]; exact hv.2⟩
    have hnot : ¬ SameB one (chg one x sr) := chg_not hxo hsr
    generalize chg one x sr = t at *
    have s3' : Slots σ3 [none, some (Pr.v (.ref d)), some (Pr.d K (iD hs)), none, some (Pr.v (.int (ns.length : Nat))), none, some (Pr.v (.ref pl)), some (Pr.v (.str sr)), some (Pr.d K (sD one)), some (Pr.v (.ref y)), some (Pr.v (.ref pd)), some (Pr.v (.ref pr)), none, some (Pr.d K (sD t)), none, none, none, none, none, none, none, none] H3 := s3
    refine q_no (R := RE) s3' (Ex.refl _) (et_is (et_or (et_B (ev_same_class (s := one) (t := t) (ev_var (i := 9) rfl) (fun H' e => st3.yd.ex e) (ev_var (i := 8) rfl) (ev_var (i := 13) rfl) (by omega) hv hw)) fun _ => et_B (b := oneClass hs t one) (ev_callK (Ps := []) (Qs := [Pr.d K (sD one), Pr.d K (sD t), Pr.v (.ref y)]) ea_nil (ea_cons (ev_var (i := 8) rfl) (ea_cons (ev_var (i := 13) rfl) (ea_cons (ev_var (i := 9) rfl) ea_nil))) fun vs zs H' e pv pz Q q => ?_)) (by rw [oneClass_not hnot, oneClass_not fun z => hnot z.symm]; rfl)) fun H4 e4 s4 => ?_
    · cases vs0 pv
      obtain ⟨u1, u2, u3, rfl, p1, p2, p3⟩ := vs3 pz
      rw [show u3 = .ref y from p3]
      exact ⟨y, hs, u2, u1, rfl, st3.yd.ex e, show hs.length ≤ 1000 by omega, .inl ⟨t, one, ⟨p2, hw⟩, ⟨p1, hv⟩, fun H'' e' => q _ H'' e' rfl⟩⟩
    · have st4 := st3.ex e4
      refine s_no (R := RE) s4 (Ex.refl _) (et_test (ev_said hnot (ev_l_refused (ev_var (i := 9) rfl) (fun H' e => st4.yd.ex e) (ev_var (i := 8) rfl) (ev_var (i := 13) rfl) (by omega) hv hw))) fun H5 e5 s5 => ?_
      exact k σ3 H5 ((Xd.ofEx st.dl e1).trans (x3'.trans (Xd.ofEx st3.dl (Ex.trans e4 e5)))) (s5.wk (.s (.s (.s (.s (.s (.s (.s (.s (.s (.s (.s (.s (.s (.n (.s (.s (.s (.s (.s (.s (.s (.s .nil)))))))))))))))))))))))
end Sd

set_option Elab.async false
set_option linter.all false
set_option maxRecDepth 100000
set_option maxHeartbeats 2000000
/-! Sp32: the law's turns with what is no standing. -/
namespace Sd
open PySem PySem.Spec PyProof.Rows L2
theorem NT.xd {d l : Addr} {H H' : Hp} {v : V} (h : NT H v) (x : Xd d l H H') : NT H' v := by
  rcases h with h | h | h | ⟨p, xs, h, hp⟩
  · exact .inl h
  · exact .inr (.inl h)
  · exact .inr (.inr (.inl h))
  · obtain ⟨_, ns, m, _, e1, e2⟩ := x.2.1
    by_cases h1 : p = d
    · subst h1
      exact .inr (.inr (.inr ⟨p, _, h, e1⟩))
    · by_cases h2 : p = l
      · subst h2
        exact .inr (.inr (.inr ⟨p, _, h, e2⟩))
      · exact .inr (.inr (.inr ⟨p, xs, h, x.2.2.1 _ _ h1 h2 hp⟩))
theorem BadRow.xd {d l : Addr} {K : PySem.W.Frag} {H H' : Hp} {h : Nat} {seen : List Str} {t : V} (b : BadRow K H h seen t) (x : Xd d l H H') : BadRow K H' h seen t := by
  rcases b with b | ⟨ds, b1, b2, b3⟩
  · exact .inl (b.xd x)
  · exact .inr ⟨ds, Tp.mono x.im _ _ b1, b2, b3⟩
theorem BadV.xd {d l : Addr} {K : PySem.W.Frag} {H H' : Hp} {hs : List Nat} {v : V} {a : Int} (n : BadV K H hs v a) (x : Xd d l H H') : BadV K H' hs v a := by
  unfold BadV at *
  generalize some a = o at n
  cases n with
  | good s h1 h2 h3 => exact .good s (Tp.mono x.im _ _ h1) h2 h3
  | no h => exact .no (h.xd x)
  | len a xs h1 h2 h3 => exact .len a xs h1 (x.im.sqt h2) h3
  | row a xs s0 t h h1 h2 h3 h4 h5 h6 h7 h8 h9 => exact .row a xs s0 t h h1 (x.im.sqt h2) h3 (Tps.mono x.im _ _ h4) h5 h6 h7 h8 (h9.xd x)
theorem qrun_asgG {te : TE} {g : TG} {z : TS} {D : Ends} {σ : L2.St} {H : Hp} (h : te σ H fun x H1 => g x σ H1 fun σ' H' => z D σ' H') : tSeq (tAsg te g) z D σ H := h
variable {P : Program} {w : World} {K : PySem.W.Frag} {B : Adr} {z : TS} {D : Ends} {σ : L2.St} {H : Hp} {d l y pd pr pl : Addr} {hs : List Nat} {ns : List Str} {sr : Str} {one : List (List Str)} {F : List (List (List Str))}
theorem law_turns (b : Box hs ns sr one F) (st : LSt K P w B d l y pd pr pl hs ns F H) (s0 : Slots σ (enL K d y pd pr pl hs ns.length sr one) H) (k : ∀ σ' H', Xd d l H H' → Slots σ' (enL K d y pd pr pl hs ns.length sr one) H' → z D σ' H') :
    tSeq (tFor (iRng1 (tCons (tC (.int 3)) tNil)) (gName 16) (tSeq (tAsg (tCall (sp_l_bent K) [] E0 (tCons (tVar 1) (tCons (tVar 2) (tCons (tVar 8) tNil)))) (gTup K 2 (gCons (gName 17) (gCons (gName 15) gNil))))
    (tIfS (tTest (tOp rNe (tCB (rReprG K) (tCons (tCall (sp_l_heard K B) [] E0 (tCons (tVar 9) (tCons (tVar 8) (tCons (tVar 17) (tCons (tCall sp_l_any [] E0 (tCons (tVar 1) (tCons (tC (.int 5)) tNil))) tNil))))) tNil)) (tCB (rReprG K) (tCons (tVar 15) tNil)))) (tRet (tC (.bl false))) tNext))) z D σ H := by
  have hl4 := b.len4
  have hl1 : 1 ≤ hs.length := by rcases b.h.1 with h | h <;> omega
  have hv := b.val b.st1
  have sq := sq_rng1 (S := RE) (M := fun a => a = d ∨ a = l) (env := enL K d y pd pr pl hs ns.length sr one) (H := H) (j := 3) (te := tC (.int 3)) ev_cv (by decide) (by decide)
  refine q_for sq s0 (Ex.refl _) (enL K d y pd pr pl hs ns.length sr one) (.s (.s (.s (.s (.s (.s (.s (.s (.s (.s (.s (.s (.s (.s (.s (.s (.s (.s (.s (.s (.s (.s .nil)))))))))))))))))))))) (fun i => (enL K d y pd pr pl hs ns.length sr one).set 16 (some (Pr.v (.int (i : Nat))))) (fun i hi => tg_name (i := 16))
    (fun _ H' => Xd d l H H') (fun H1 e1 => Xd.ofEx st.dl e1) (fun H1 e1 i σ' H3 H4 hi w3 I e4 s4 N hN => ?_) fun H1 e1 σ' H3 w3 s3 I => k σ' H3 I s3
  have x4 : Xd d l H H4 := I.trans (Xd.ofEx I.2.1 e4)
  have st4 := st.xd x4
  refine qrun_asgG (run_call ?_)
  generalize hen : (enL K d y pd pr pl hs ns.length sr one).set 16 (some (Pr.v (.int (i : Nat)))) = en at s4
  have g1 : en[1]? = some (some (Pr.v (.ref d))) := by rw [← hen]; rfl
  have g2 : en[2]? = some (some (Pr.d K (iD hs))) := by rw [← hen]; rfl
  have g8 : en[8]? = some (some (Pr.d K (sD one))) := by rw [← hen]; rfl
  refine (ea_cons (ev_var g1) (ea_cons (ev_var g2) (ea_cons (ev_var g8) ea_nil)) : EvA RE _ en H4 [Pr.v (.ref d), Pr.d K (iD hs), Pr.d K (sD one)]) σ' H4 (Ex.refl _) s4 _ fun vs H5 e5 pv => ?_
  obtain ⟨u1, u2, u3, rfl, p1, p2, p3⟩ := vs3 pv
  rw [show u1 = .ref d from p1]
  have st5 := st4.ex e5
  refine ⟨rfl, ((d, l), hs, one), Xd.refl st5.dl, ⟨⟨⟨hl1, show hs.length ≤ 100 by omega⟩, fun h hh => by have := b.le3 h hh; omega, hv.1, hv.2⟩, u2, u3, rfl, p2, p3⟩, fun v H6 x6 ⟨p, u, j, hp, hp6, hbad⟩ => ?_⟩
  subst hp
  have x6' : Xd d l H5 H6 := x6
  have hbad' : BadV K H6 hs u j := hbad
  have st6 := st5.xd x6'
  refine ⟨p, [u, .int j], rfl, .inl (.inl hp6), rfl, u, [.int j], rfl, .int j, [], rfl, rfl, ?_⟩
  have s6 := ((s4.mono ((Ex.im e5).trans x6'.im)).set (i := 17) (P := Pr.v u) (v := u) rfl).set (i := 15) (P := Pr.d K (.int j)) (v := .int j) (tp_int (K := K) (H := H6))
  rw [← hen] at s6
  have s6' : Slots ((σ'.set 17 (some u)).set 15 (some (.int j))) [none, some (Pr.v (.ref d)), some (Pr.d K (iD hs)), none, some (Pr.v (.int (ns.length : Nat))), none, some (Pr.v (.ref pl)), some (Pr.v (.str sr)), some (Pr.d K (sD one)), some (Pr.v (.ref y)), some (Pr.v (.ref pd)), some (Pr.v (.ref pr)), none, none, none, some (Pr.d K (.int j)), some (Pr.v (.int (i : Nat))), some (Pr.v u), none, none, none, none] H6 := s6
  have shw := shw_place hbad' hl4
  refine s_no (R := RX d l) s6' (Xd.refl st6.dl) (et_is (et_test (ev_neS (x := .str (PyData.shown (.int j))) (y := .str (PyData.shown (.int j))) (ev_repr (ev_spR (ea_cons (ev_var (i := 9) rfl) (ea_cons (ev_var (i := 8) rfl) (ea_cons (ev_var (i := 17) rfl) (ea_cons (ev_l_any (ev_var (i := 1) rfl) ev_cv (by decide) (by decide)) ea_nil)))) (y, hs, one, j) sub_E rfl (fun vs H7 x7 pv => ?_) fun v H7 H8 _ _ p => ?_) shw) (ev_repr (ev_var (i := 15) rfl) shw) rfl)) (by rw [decide_eq_true rfl]; rfl)) fun H7 x7 s7 => ?_
  · obtain ⟨a1, a2, a3, a4, rfl, q1, q2, q3, m, q4, _⟩ := vs4 pv
    rw [show a1 = .ref y from q1, show a3 = u from q3, q4]
    exact ⟨show hs.length ≤ 1000 by omega, (st6.xd x7).yd, a2, u, m, rfl, ⟨q2, hv.1, hv.2⟩, hbad'.xd x7⟩
  · rw [show v = .int j from p]
    exact tp_int (K := K) (H := H8)
  · have x47 : Xd d l H4 H7 := (Xd.ofEx st4.dl e5).trans (x6'.trans x7)
    have x37 : Xd d l H3 H7 := (Xd.ofEx I.2.1 e4).trans x47
    exact hN _ H7 (x37.w (.inl rfl) (.inr rfl)) (s7.wk (.s (.s (.s (.s (.s (.s (.s (.s (.s (.s (.s (.s (.s (.s (.s (.n (.n (.n (.s (.s (.s (.s .nil))))))))))))))))))))))) (I.trans x37)
end Sd

set_option Elab.async false
set_option linter.all false
set_option maxRecDepth 100000
set_option maxHeartbeats 2000000
/-! Sp33: the law's last checks. -/
namespace Sd
open PySem PySem.Spec PyProof.Rows L2
/-! a standing with fewer boxes -/
def fewer (s : List (List Str)) : List (List Str) := s.map List.dropLast
theorem fewer_sub : ∀ (s : List (List Str)), List.Sublist (fewer s).flatten s.flatten
  | [] => List.Sublist.refl _
  | r :: s => by
    show List.Sublist (r.dropLast ++ (fewer s).flatten) (r ++ s.flatten)
    exact List.Sublist.append (List.dropLast_sublist r) (fewer_sub s)
theorem fewer_valid {hs : List Nat} {s : List (List Str)} (v : Valid hs s) : Valid hs (fewer s) := by
  refine ⟨by unfold fewer; rw [List.length_map]; exact v.1, fun i r h h1 h2 => ?_, fun x hx => v.2.2.1 x ((fewer_sub s).subset hx), (fewer_sub s).nodup v.2.2.2⟩
  unfold fewer at h1
  rw [List.getElem?_map] at h1
  cases q : s[i]? with
  | none => rw [q] at h1; cases h1
  | some r0 =>
    rw [q] at h1
    cases h1
    have := v.2.1 i r0 h q h2
    rw [List.length_dropLast]
    omega
theorem fewer_lost : ∀ (s : List (List Str)), s.flatten.Nodup → s.flatten ≠ [] → ∃ x, x ∈ s.flatten ∧ x ∉ (fewer s).flatten
  | [], _, h => absurd rfl h
  | r :: s, hn, h => by
    have hn' : (r ++ s.flatten).Nodup := hn
    obtain ⟨n1, n2, n3⟩ := List.nodup_append.mp hn'
    by_cases hr : r = []
    · subst hr
      obtain ⟨x, h1, h2⟩ := fewer_lost s n2 (by simpa using h)
      exact ⟨x, by simpa using h1, by
        show x ∉ [] ++ (fewer s).flatten
        simpa using h2⟩
    · have e := List.dropLast_concat_getLast hr
      rw [← e] at n1
      obtain ⟨_, _, n4⟩ := List.nodup_append.mp n1
      refine ⟨r.getLast hr, ?_, fun q => ?_⟩
      · show r.getLast hr ∈ r ++ s.flatten
        exact List.mem_append_left _ (List.getLast_mem hr)
      · have q' : r.getLast hr ∈ r.dropLast ++ (fewer s).flatten := q
        rcases List.mem_append.mp q' with q1 | q1
        · exact n4 _ q1 _ (by simp) rfl
        · exact n3 _ (List.getLast_mem hr) _ ((fewer_sub s).subset q1) rfl
theorem fewer_not {s : List (List Str)} (hn : s.flatten.Nodup) (h : s.flatten ≠ []) : ¬ SameB s (fewer s) := fun q => by
  obtain ⟨x, h1, h2⟩ := fewer_lost s hn h
  exact h2 ((q x).mp h1)
variable {P : Program} {w : World} {K : PySem.W.Frag} {B : Adr} {z : TS} {D : Ends} {σ : L2.St} {H : Hp} {d l y pd pr pl : Addr} {hs : List Nat} {ns : List Str} {sr : Str} {one : List (List Str)} {F : List (List (List Str))}
theorem law_self (b : Box hs ns sr one F) (st : LSt K P w B d l y pd pr pl hs ns F H) (s0 : Slots σ (enL K d y pd pr pl hs ns.length sr one) H) (k : ∀ H', Ex H H' → Slots σ (enL K d y pd pr pl hs ns.length sr one) H' → z D σ H') :
    tSeq (tIfS (tOr (tTest (tOp (rNeD K) (tCallK (sp_deep_part K B) gV_deep_part_0_standing_yard E0 tNil (tCons (tVar 8) (tCons (tVar 9) tNil))) (tCall (sp_deep_part K B) [] E0 (tCons (tVar 9) (tCons (tVar 8) tNil))))) (tTest (tOp rNotNone (tCallK (sp_parting_place K B) gV_parting_place_0_one_yard_other E0 tNil (tCons (tVar 8) (tCons (tVar 9) (tCons (tVar 8) tNil)))) (tC .non)))) (tRet (tC (.bl false))) tNext) z D σ H := by
  have hl4 := b.len4
  have hv := b.val b.st1
  have sm := shaped_sD (deep_sm (hs := hs) (valid_sm hv.1.2))
  refine q_no (R := RE) s0 (Ex.refl _) (et_is (et_or (et_test (ev_neD (d := sD (deep hs one)) (e := sD (deep hs one)) (ev_callK (Ps := []) (Qs := [Pr.d K (sD one), Pr.v (.ref y)]) ea_nil (ea_cons (ev_var (i := 8) rfl) (ea_cons (ev_var (i := 9) rfl) ea_nil)) fun vs zs H' e pv pz Q q => ?_) (ev_deep_part (ev_var (i := 9) rfl) (fun H' e => st.yd.ex e) (ev_var (i := 8) rfl) (by omega) hv.1 hv.2) sm sm)) fun _ => et_test (ev_notNoneP (K := K) (o := none) (ev_callK (Ps := []) (Qs := [Pr.d K (sD one), Pr.v (.ref y), Pr.d K (sD one)]) ea_nil (ea_cons (ev_var (i := 8) rfl) (ea_cons (ev_var (i := 9) rfl) (ea_cons (ev_var (i := 8) rfl) ea_nil))) fun vs zs H' e pv pz Q q => ?_))) (by rw [eqv_sD, decide_eq_true rfl]; rfl)) fun H1 e1 s1 => k H1 e1 s1
  · cases vs0 pv
    obtain ⟨u1, u2, rfl, p1, p2⟩ := vs2 pz
    rw [show u2 = .ref y from p2]
    exact ⟨y, hs, u1, rfl, st.yd.ex e, show hs.length ≤ 1000 by omega, .inl ⟨one, ⟨p1, hv⟩, fun v' H'' e' p => q v' H'' e' p⟩⟩
  · cases vs0 pv
    obtain ⟨u1, u2, u3, rfl, p1, p2, p3⟩ := vs3 pz
    rw [show u2 = .ref y from p2]
    refine ⟨y, hs, u1, u3, rfl, st.yd.ex e, show hs.length ≤ 1000 by omega, .inl ⟨one, one, ⟨p1, hv⟩, ⟨p3, hv⟩, .inl ⟨fun _ => Iff.rfl, fun v' H'' e' p => q v' H'' e' ?_⟩⟩⟩
    rw [pdiff_self hv.1] at p
    exact p
/-- the standing with fewer boxes, and the end -/
theorem law_last (b : Box hs ns sr one F) (st : LSt K P w B d l y pd pr pl hs ns F H) (s0 : Slots σ (enL K d y pd pr pl hs ns.length sr one) H) (k : ∀ H', Ex H H' → D.rt (.bl true) H') :
    tSeq (tAsg (tCB (rTupleOf K) (tCons (tLc (iTup K (tVar 8)) (gName 20) tYes (tSl (rSlA K) (tVar 20) tNoPart (tPart (tUn rNeg (tC (.int 1))))) [20]) tNil)) (gName 18))
    (tSeq (tIfS (tAnd (tTest (tOp rGtI (tVar 4) (tC (.int 0)))) (tOr (tB (tCall (sp_same_class K B) [] E0 (tCons (tVar 9) (tCons (tVar 8) (tCons (tVar 18) tNil))))) (tTest (tOp rNe (tCB (rReprG K) (tCons (tCall (sp_l_refused K B) [] E0 (tCons (tVar 9) (tCons (tVar 18) (tCons (tVar 8) tNil)))) tNil)) (tC (.str "'boxes'")))))) (tRet (tC (.bl false))) tNext)
    (tRet (tAndV (tOp rEq (tCB (rReprG K) (tCons (tCall (sp_l_refused K B) [] E0 (tCons (tVar 9) (tCons (tVar 8) (tCons (tVar 8) tNil)))) tNil)) (tC (.str "None"))) (tOp (rInN K P w) (tVar 8) (tVar 11))))) D σ H := by
  have hl4 := b.len4
  have hv := b.val b.st1
  have hone := b.st1.1
  have src := sr_tup (K := K) (R := RE) (H := H) (Iz := fun i => Pr.d K (rD (one.getD i []))) (ev_var (i := 8) rfl : Ev RE (tVar 8) (enL K d y pd pr pl hs ns.length sr one) H (Pr.d K (sD one))) fun i dd h => by
    obtain ⟨m, hm, rfl⟩ := sD_get h
    rw [getD_of [] hm]
  rw [List.length_map] at src
  refine q_asg (R := RE) (P := Pr.d K (sD (fewer one))) s0 (Ex.refl _) (ev_tupleN (ds := (fewer one).map rD) (ev_lc (fun _ => true) (fun i => Pr.d K (.tuple (cut ((one.getD i []).map PyData.str) none (some (-1))))) src (by omega) (fun i => (enL K d y pd pr pl hs ns.length sr one).set 20 (some (Pr.d K (rD (one.getD i []))))) (fun i hi => tg_name (i := 20)) (wp_name (by simp)) (fun i hi => et_yes) fun i hi _ => ev_slT (ds := (one.getD i []).map PyData.str) (ev_var (i := 20) rfl) eo_none (eo_some (ev_neg (i := 1) ev_cv))) fun xs H1 c => kept_data (by unfold fewer; rw [List.length_map, List.length_map]) (fun i dd h => ?_) c) fun σ1 H1 e1 s1 => ?_
  · obtain ⟨m, hm, rfl⟩ := sD_get h
    unfold fewer at hm
    rw [List.getElem?_map] at hm
    cases q : one[i]? with
    | none => rw [q] at hm; cases hm
    | some r0 =>
      rw [q] at hm
      cases hm
      rw [getD_of [] q, cut_butlast, dropLast_map]
      rfl
  · have st1 := st.ex e1
    have hw : Valid hs (fewer one) ∧ (fewer one).flatten.length ≤ 60 := ⟨fewer_valid hv.1, Nat.le_trans (fewer_sub one).length_le hv.2⟩
    have hnot : decide ((0 : Int) < (ns.length : Nat)) = true → ¬ SameB one (fewer one) := fun h => fewer_not hv.1.2.2.2 fun z => by
      have h1 := b.st1.2.2.length_eq
      rw [z] at h1
      have h2 := of_decide_eq_true h
      rw [← h1] at h2
      exact absurd h2 (by decide)
    generalize fewer one = t at *
    have s1' : Slots σ1 [none, some (Pr.v (.ref d)), some (Pr.d K (iD hs)), none, some (Pr.v (.int (ns.length : Nat))), none, some (Pr.v (.ref pl)), some (Pr.v (.str sr)), some (Pr.d K (sD one)), some (Pr.v (.ref y)), some (Pr.v (.ref pd)), some (Pr.v (.ref pr)), none, none, none, none, none, none, some (Pr.d K (sD t)), none, none, none] H1 := s1
    refine q_no (R := RE) s1' (Ex.refl _) (et_is (et_and (b := false) (et_test (ev_I0 (i := (ns.length : Nat)) (j := 0) (g := fun i j => .bl (decide (j < i))) (ev_var (i := 4) rfl) ev_cv)) fun hb => et_is (et_or (et_B (ev_same_class (s := one) (t := t) (ev_var (i := 9) rfl) (fun H' e => st1.yd.ex e) (ev_var (i := 8) rfl) (ev_var (i := 18) rfl) (by omega) hv hw)) fun _ => et_test (ev_said (s := t) (t := one) (fun z => hnot hb z.symm) (ev_l_refused (ev_var (i := 9) rfl) (fun H' e => st1.yd.ex e) (ev_var (i := 18) rfl) (ev_var (i := 8) rfl) (by omega) hw hv))) (by rw [oneClass_not (hnot hb)]; rfl)) (Bool.and_false _)) fun H2 e2 s2 => ?_
    have st2 := st1.ex e2
    refine s_ret (R := RE) (P := Pr.v (.bl true)) s2 (Ex.refl _) ?_ fun v H3 e3 pv => ?_
    · have q1 := ev_l_refused (R := RE) (E := E0) (K := K) (B := B) (hs := hs) (s := one) (t := one) (H := H2) (env := [none, some (Pr.v (.ref d)), some (Pr.d K (iD hs)), none, some (Pr.v (.int (ns.length : Nat))), none, some (Pr.v (.ref pl)), some (Pr.v (.str sr)), some (Pr.d K (sD one)), some (Pr.v (.ref y)), some (Pr.v (.ref pd)), some (Pr.v (.ref pr)), none, none, none, none, none, none, some (Pr.d K (sD t)), none, none, none]) (ev_var (i := 9) rfl) (fun H' e => st2.yd.ex e) (ev_var (i := 8) rfl) (ev_var (i := 8) rfl) (by omega) hv hv
      rw [refD_same fun _ => Iff.rfl] at q1
      have q2 := ev_repr q1 shw_none
      rw [shown_none] at q2
      have q3 := ev_andV (ev_eqS (x := .str "None") (y := .str "None") q2 (ev_cv (v := .str "None")) rfl) fun _ => ev_inN (s := one) (F := F) (p := pr) (ev_var (i := 8) rfl) (ev_var (i := 11) rfl) fun H' e => (st2.ex e).nd
      rw [decide_eq_true (rfl : V.str _ = V.str _), decide_eq_true (sk_mem.mpr ((b.F one).mpr Reach.base))] at q3
      exact q3
    · rw [show v = .bl true from pv]
      exact k H3 (Ex.trans e1 (Ex.trans e2 e3))
end Sd

set_option Elab.async false
set_option linter.all false
set_option maxRecDepth 100000
set_option maxHeartbeats 2000000
/-! Se0: a def entered once, from one caller whose guards are known. -/
namespace Sd
open PySem PySem.Spec PyProof.Rows L2
/-- the def st, called once at this entry: its body's reading t -/
theorem enter_once {CX : CXT} {P : Program} {w : World} {K : PySem.W.Frag} {mg : Str → Option Value} {base : Heap} {B0 : Around} {x qual : Str} {st : Stmt} {f : Addr} {fd : FuncData} {N ps : List Str} {sh : Shared} {H : Hp} {ar : Args} {us : List Value} {vs : List V} {Q : VK} {E : XK} {k : Nat}
    (F : Fun K x qual st f fd) (S : FnScope N ps (defScope st)) (room : Room (k + 1) B0) (e0 : Env0 P w K mg base B0 [] sh H) (hb : BindsTo sh fd ar (ps.zip us)) (rv : Vals vs us) (hl : vs.length = ps.length)
    (hbody : ∀ cdv, Room k (B0.deeper (envOfC qual (defScope st) sh.heap.objs.size f cdv)) → ∃ t, PSs (cxOf CX P w K mg base N qual (defScope st) f cdv B0 [] sh H E) (defBody st) t ∧ t { nx := fun _ H' => Q .non H', rt := Q } (start N vs) H) :
    codeAny (model P w) B0 (.call (.ref f) ar) (CR CX [] P w H sh Q E) sh := by
  obtain ⟨_, _, _, _, _, _, cdv, _, _, rfl, lk, hcd⟩ := F.ex
  have old : ∀ b o, base.get? b = some o → sh.heap.get? b = some o := fun b o q => (e0.bs b o q).1
  have inK : K.In sh.heap := PySem.W.Frag.In.keeps e0.mod.kin old
  have dep := room.depth
  obtain ⟨t, walk, q⟩ := hbody cdv (room.deeper _)
  have kinds : ((ps.zip us).all fun y => (defScope st).names.lookup y.1 == some .local || (defScope st).names.lookup y.1 == some .cell) = true := List.all_eq_true.mpr fun y hy => by
    rcases S.par y.1 (List.of_mem_zip (show (y.1, y.2) ∈ ps.zip us from hy)).1 with z | z <;> rw [z] <;> decide
  refine Att.call_fn inK (e0.mod.nolimit.keeps old) lk hcd dep hb kinds (fun sb ic => ?_) S.co S.gen S.kind
  refine wpAny_mono (walk.run [] sb (start N vs) H { nx := fun _ H' => Q .non H', rt := Q } (inv_start S room.hd e0 hl rv ic) q) (fun fl sc z => ?_) fun e sc z => z
  cases fl with
  | next =>
    obtain ⟨_, H', J, z⟩ := z
    exact ⟨.non, H', J.os, J.bare, J.base, J.hok, rfl, z⟩
  | ret u =>
    obtain ⟨v, _, H', J, r, z⟩ := z
    exact ⟨v, H', J.os, J.bare, J.base, J.hok, r, z⟩
  | brk => exact z.choose_spec.choose_spec.2.elim
  | cont => exact z.choose_spec.choose_spec.2.elim
end Sd

set_option Elab.async false
set_option linter.all false
set_option maxRecDepth 100000
set_option maxHeartbeats 2000000
/-! Se1: the law's end, where its promise is shown for that one caller alone. -/
namespace Sd
open PySem PySem.Spec PyProof.Rows L2
/-- the script's list as an object -/
def scrO (us : List Value) : Obj := { cls := .type "list", data := .seq us.toArray }
/-- what is known at the law's entry: the script, where the text does not hold it itself -/
def scrH (K : PySem.W.Frag) (a : Addr) (us : List Value) (ns : List Int) : Hp := fun b => if b = a ∧ K.lookup a = none then some (.frz (scrO us) (.lst (ns.map V.int))) else none
section
variable {P : Program} {w : World} {K : PySem.W.Frag} {a : Addr} {us : List Value} {ns : List Int} {h : Heap}
theorem scrH_yes (e : K.lookup a = none) : scrH K a us ns a = some (.frz (scrO us) (.lst (ns.map V.int))) := if_pos ⟨rfl, e⟩
theorem scrH_at {b : Addr} {o : HO} (e : scrH K a us ns b = some o) : b = a ∧ K.lookup a = none ∧ o = .frz (scrO us) (.lst (ns.map V.int)) := by
  by_cases c : b = a ∧ K.lookup a = none
  · have q : scrH K a us ns b = some (.frz (scrO us) (.lst (ns.map V.int))) := if_pos c
    rw [q] at e
    cases e
    exact ⟨c.1, c.2, rfl⟩
  · have q : scrH K a us ns b = none := if_neg c
    rw [q] at e
    cases e
theorem scrH_only : Only (scrH K a us ns) := fun b => by
  cases e : scrH K a us ns b with
  | none => exact .inl rfl
  | some o =>
    obtain ⟨_, _, rfl⟩ := scrH_at e
    exact .inr ⟨_, _, rfl⟩
theorem scrH_sql (inK : K.In h) (ha : h.get? a = some (scrO us)) (hi : IntsAre us ns) (hl : ns.length ≤ sizeLine) : SqL K (scrH K a us ns) a (ns.map V.int) := by
  cases e : K.lookup a with
  | none => exact .inl (.inr ⟨_, scrH_yes e⟩)
  | some o =>
    have q := inK a o e
    rw [ha] at q
    cases q
    have rv := vals_ints hi
    exact .inr ⟨_, us.toArray, _, e, rfl, rfl, rfl, by rw [List.size_toArray, hi.length]; exact hl, by simpa using rv⟩
theorem scrH_ok (ha : h.get? a = some (scrO us)) (hi : IntsAre us ns) (hl : ns.length ≤ sizeLine) : HOk P w (scrH K a us ns) h := fun b o e => by
  obtain ⟨rfl, _, rfl⟩ := scrH_at e
  exact ⟨ha, by rw [List.length_map]; exact hl, us, _, vals_ints hi, ha⟩
end
/-- the law called: its run at that one caller is enough -/
theorem law_once {P : Program} {w : World} {K : PySem.W.Frag} {mg mb : Str → Option Value} {CX : CXT} {fa a : Addr} {sh : Shared} {us : List Value} {ns : List Int}
    (inK : K.In sh.heap) (nsM : sh.heap.Ns mainGlobals mg) (nsB : sh.heap.Ns builtinsNs mb) (boot : ∀ x : Str, x ≠ "__name__" → mb x = bootBuiltins x) (lim : sh.heap.NoLimit) (gens : sh.gens = #[])
    (ha : sh.heap.get? a = some (scrO us)) (hi : IntsAre us ns) (hl : ns.length ≤ sizeLine)
    (run : ∀ (base : Heap) (H : Hp), K.In base → base.Ns mainGlobals mg → Only H → SqL K H a (ns.map V.int) → Env0 P w K mg base callerA [] sh H →
      codeAny (model P w) callerA (.call (.ref fa) ⟨[.ref a], []⟩) (CR CX [] P w H sh (fun v _ => v = .bl true) fun _ _ _ => False) sh)
    (noE : ∀ H e s', CX [] H sh (fun _ _ _ => False) e s' → False) :
    codeAny (model P w) callerA (.call (.ref fa) ⟨[.ref a], []⟩) (fun r s' => r = .ok (.ret (.bool true)) ∧ OldK sh.heap s'.heap ∧ s'.os = sh.os ∧ AllBare s'.gens) sh := by
  have ok : HOk P w (scrH K a us ns) sh.heap := scrH_ok ha hi hl
  have only : Only (scrH K a us ns) := scrH_only
  have sql := scrH_sql inK ha hi hl
  have free : ∀ {b : Addr} {o : Obj}, sh.heap.get? b = some o → (b ≠ a ∨ K.lookup a ≠ none) → (hidT sh.heap (scrH K a us ns)).get? b = some o := fun {b o} g n => hidT_get g (by
    cases e : scrH K a us ns b with
    | none => rfl
    | some u =>
      obtain ⟨c1, c2, _⟩ := scrH_at e
      rcases n with n | n
      · exact absurd c1 n
      · exact absurd c2 n)
  have dic : ∀ {b : Addr} {m : Str → Option Value}, sh.heap.Ns b m → (hidT sh.heap (scrH K a us ns)).Ns b m := fun {b m} ⟨o, es, ep, g, dd, r⟩ => ⟨o, es, ep, free g (.inl fun z => by
    subst z
    rw [ha] at g
    cases g
    exact Data.noConfusion (show Data.seq us.toArray _ = Data.dict es ep from dd)), dd, r⟩
  have inB : K.In (hidT sh.heap (scrH K a us ns)) := fun b o g => by
    by_cases c : b = a
    · subst c
      exact free (inK b o g) (.inr (by rw [g]; exact fun z => nomatch z))
    · exact free (inK b o g) (.inl c)
  have md : Mod K mg (hidT sh.heap (scrH K a us ns)) := ⟨inB, dic nsM, ⟨mb, dic nsB, boot⟩, by
    obtain ⟨mc, h1, h2⟩ := lim
    exact ⟨mc, dic h1, h2⟩⟩
  have e0 : Env0 P w K mg (hidT sh.heap (scrH K a us ns)) callerA [] sh (scrH K a us ns) := { frames := rfl, mod := md, bs := fun _ _ g => of_hidT g, bsz := Nat.le_of_eq (hidT_size _ _), funs := trivial, frf := fun b z => (List.not_mem_nil (show b ∈ ([] : List Addr) from z)).elim, hok := ok, bare := .of_eq gens }
  refine codeAny_mono (run _ _ inB (dic nsM) only sql e0) fun r s' z => ?_
  match r, z with
  | .error e, z => exact (noE _ e s' z).elim
  | .ok .next, z => exact z.elim
  | .ok .brk, z => exact z.elim
  | .ok .cont, z => exact z.elim
  | .ok (.ret u), ⟨v, H', os, bare, un, ok', rel, yes⟩ =>
    cases (show v = .bl true from yes)
    cases (show u = Value.bool true from rel)
    refine ⟨rfl, OldK.of_keep fun b o g => ?_, os, bare⟩
    cases e : scrH K a us ns b with
    | none => exact un.keep b o g e (fun z => List.not_mem_nil (show b ∈ ([] : List Addr) from z)) (by simp)
    | some u =>
      obtain ⟨rfl, c2, rfl⟩ := scrH_at e
      have fz := un.frzs _ _ _ e
      rw [ha] at g
      cases g
      exact (ok' _ _ fz).1
/-- the goal that k_head leaves, from such a run -/
theorem walk_once {l : PySem.W.OpenLaw} {n : Nat} {q : Program} {loose : List Str} {XP : (Str → Option Value) → Heap → Prop} {YP : World → Heap → Prop} {d : DefRec} {K : Params → PySem.W.Frag} {CX : World → CXT}
    (hn : l.most = some n) (hn2 : n ≤ sizeLine) (hdf : d.params.defaults = []) (hY : ∀ (w : World) (h : Heap), YP w h → (K w.params).In h)
    (F : ∀ (w : World) (mg : Str → Option Value) (fa : Addr) (h : Heap), (K w.params).In h → h.Ns mainGlobals mg → mg d.name = some (.ref fa) →
      ∀ (sh : Shared) (a : Addr) (ns : List Int) (base : Heap) (H : Hp), ns.length ≤ n → (K w.params).In base → base.Ns mainGlobals mg → Only H → SqL (K w.params) H a (ns.map V.int) → Env0 l.prog w (K w.params) mg base callerA [] sh H →
        codeAny (model l.prog w) callerA (.call (.ref fa) ⟨[.ref a], []⟩) (CR (CX w) [] l.prog w H sh (fun v _ => v = .bl true) fun _ _ _ => False) sh)
    (noE : ∀ (w : World) (H : Hp) (s : Shared) (e : Value) (s' : Shared), CX w [] H s (fun _ _ _ => False) e s' → False) :
    PySem.W.WalkO q loose XP YP l.row.toRowW d [] (fun f vs => PySem.call f vs) := by
  refine Att.attach_call hn hdf fun w s0 s1 mg mb fa o pm cd doc a us ns G Y ho hd hcd hmg hobj hints hlen hg => ?_
  have inK := hY w _ Y
  have run := F w mg fa _ inK G.T.g hmg
  exact law_once (CX := CX w) inK G.T.g G.T.b G.T.builtins G.T.nolimit hg hobj hints (Nat.le_trans hlen hn2) (fun base H b1 b2 b3 b4 b5 => run s1 a ns base H hlen b1 b2 b3 b4 b5) fun H e s' => noE w H s1 e s'
end Sd

set_option Elab.async false
set_option linter.all false
set_option maxRecDepth 100000
set_option maxHeartbeats 4000000
/-! Se2: the law's run. -/
namespace Sd
open PySem PySem.Spec PyProof.Rows L2
variable {P : Program} {w : World} {K : PySem.W.Frag} {B : Adr} {mg : Str → Option Value} {base : Heap}
theorem law_walk {Q : VK} {σ : L2.St} {H : Hp} {p : Addr} {ns0 : List Int} (s0 : Slots σ (some (Pr.v (.ref p)) :: nones 21) H) (hp : SqL K H p (ns0.map V.int)) (hl : ns0.length ≤ 63) (k : ∀ H', Q (.bl true) H') :
    t_law K P w B (sp_l_refused K B) (sp_same_class K B) (sp_deep_part K B) (sp_parting_place K B) (sp_l_heard K B) sp_l_any (sp_l_bent K) (sp_l_changed K) (sp_l_of K) (sp_l_all K) (sp_l_parting K) (sp_l_reached K P w) (sp_l_filled K) (sp_Yard_init K B) (sp_l_depths K) sp_l_names (sp_l_size K) (sp_l_heights K) (sp_l_deal K) { nx := fun _ H' => Q .non H', rt := Q } σ H := by
  unfold t_law
  refine law_first s0 hp hl fun d l hs n σ1 H1 hh hle hz dl s1 => ?_
  have hl4 : hs.length ≤ 4 := by rcases hh.1 with h | h <;> omega
  have hsum : hs.sum ≤ 12 := by have := sum_le3 hs hh.2; omega
  refine law_names dl (by omega) s1 fun pl ns sr σ2 H2 dl2 npl hpl hns hnd hok hsr hnew s2 => ?_
  subst hns
  refine law_fill (P := P) (w := w) (B := B) dl2 hh hle hz hnd hok hsr hnew npl hpl s2 fun y pd pr one F σ3 H3 b st s3 => ?_
  refine law_repr b st s3 fun H4 e4 s4 => ?_
  have st4 := st.ex e4
  refine law_each b st4 s4 fun σ5 H5 e5 s5 => ?_
  have st5 := st4.ex e5
  refine law_other b st5 s5 fun σ6 H6 x6 s6 => ?_
  have st6 := st5.xd x6
  refine law_turns b st6 s6 fun σ7 H7 x7 s7 => ?_
  have st7 := st6.xd x7
  refine law_self b st7 s7 fun H8 e8 s8 => ?_
  exact law_last b (st7.ex e8) s8 fun H9 _ => k H9
/-- the law, called by that one caller -/
theorem law_run (T : Txt P K mg B) {sh : Shared} {H : Hp} {a : Addr} {ns : List Int} (e0 : Env0 P w K mg base callerA [] sh H) (hS : SqL K H a (ns.map V.int)) (hl : ns.length ≤ 63) :
    codeAny (model P w) callerA (.call (.ref B.a_law) ⟨[.ref a], []⟩) (CR CX0 [] P w H sh (fun v _ => v = .bl true) fun _ _ _ => False) sh :=
  enter_once (k := 7) (N := N_law) (ps := ["_law_script"]) (us := [.ref a]) (vs := [.ref a]) T.F_law sc_law ⟨rfl, by decide, by decide⟩ e0 (T.b_law sh [.ref a] (e0.mod.kin.keeps fun b o e => (e0.bs b o e).1) rfl) (.cons rfl .nil) rfl fun cdv hr =>
    ⟨_, (der_law T rfl (ok_l_refused T) (ok_same_class T) (ok_deep_part T) (ok_parting_place T) (ok_l_heard T) (ok_l_any T) (ok_l_bent T) (ok_l_changed T) (ok_l_of T) (ok_l_all T) (ok_l_parting T) (ok_l_reached T) (ok_l_filled T) (ok_Yard_init T) (ok_l_depths T) (ok_l_names T) (ok_l_size T) (ok_l_heights T) (ok_l_deal T) hr).nox,
      law_walk (start_slots (Ps := [Pr.v (.ref a)]) (.cons rfl .nil) rfl) hS hl fun H' => rfl⟩
end Sd

set_option Elab.async false
set_option linter.all false
set_option maxRecDepth 100000
set_option maxHeartbeats 4000000
/-! Se3: what the top has written is the text; the law's run from it. Printed by gen_end.py. -/
namespace Sd
open PySem PySem.W PySem.Calls PyProof.Rows PySem.HandSPX PySem.ESX L2 Sd.Er
/-- a class of errors is met by its own clause -/
theorem own_exm {K : PySem.W.Frag} {S : Addr} (h1 : subIn K (.ref S) (.type "BaseException") = some true) (h2 : isClsIn K S = true) (h3 : typeIn K (.ref S) = some (.type "type")) (h4 : subIn K (.ref S) (.ref S) = some true) : exmOne K (.ref S) (.ref S) = some true := by
  have h2' : (clsIn K S).isSome = true := h2
  have u : exmOne K (.ref S) (.ref S) = if (subIn K (.ref S) (.type "BaseException") == some true) = true then (if ((clsIn K S).isSome && typeIn K (.ref S) == some (.type "type")) = true then subIn K (.ref S) (.ref S) else none) else none := rfl
  rw [u, h1, h2', h3, h4]
  rfl
theorem along_of {K : PySem.W.Frag} {D N : Addr} {n q : PySem.Str} {b : List Value} {s : List PySem.Str} {u : List Value} {a : Bool} {o : Option Bool} {d : Option Addr} {x0 x1 x2 x3 x5 : Option Value} {z : String} {r : Option Value} {y : PySem.Str} (hl : K.lookup D = some (excClassObj n q D N b exTail true s u a o d x0 x1 x2 x3 x5 z)) (hf : findIn K (.ref D) y = some r) : alongIn K y (.ref D :: exTail) = some r := by
  unfold findIn at hf
  simp only [hl] at hf
  exact hf
theorem all_mk {P : Program} {w : World} {K : PySem.W.Frag} {h : Heap} {mg : PySem.Str → Option Value} {fa : Addr} (X : K.In h) (G : h.Ns mainGlobals mg) (hfa : mg "law" = some (.ref fa))
    {f0 : Addr} {od0 an0 : Option Addr} {sl0 : Array (Option Value)} {oc0 kV0 dc0 pm0 cd0 ct0 : Value}
    {f1 : Addr} {od1 an1 : Option Addr} {sl1 : Array (Option Value)} {oc1 kV1 dc1 pm1 cd1 ct1 : Value}
    {f2 : Addr} {od2 an2 : Option Addr} {sl2 : Array (Option Value)} {oc2 kV2 dc2 pm2 cd2 ct2 : Value}
    {f3 : Addr} {od3 an3 : Option Addr} {sl3 : Array (Option Value)} {oc3 kV3 dc3 pm3 cd3 ct3 : Value}
    {f4 : Addr} {od4 an4 : Option Addr} {sl4 : Array (Option Value)} {oc4 kV4 dc4 pm4 cd4 ct4 : Value}
    {f5 : Addr} {od5 an5 : Option Addr} {sl5 : Array (Option Value)} {oc5 kV5 dc5 pm5 cd5 ct5 : Value}
    {f6 : Addr} {od6 an6 : Option Addr} {sl6 : Array (Option Value)} {oc6 kV6 dc6 pm6 cd6 ct6 : Value}
    {f7 : Addr} {od7 an7 : Option Addr} {sl7 : Array (Option Value)} {oc7 kV7 dc7 pm7 cd7 ct7 : Value}
    {f8 : Addr} {od8 an8 : Option Addr} {sl8 : Array (Option Value)} {oc8 kV8 dc8 pm8 cd8 ct8 : Value}
    {f9 : Addr} {od9 an9 : Option Addr} {sl9 : Array (Option Value)} {oc9 kV9 dc9 pm9 cd9 ct9 : Value}
    {f10 : Addr} {od10 an10 : Option Addr} {sl10 : Array (Option Value)} {oc10 kV10 dc10 pm10 cd10 ct10 : Value}
    {f11 : Addr} {od11 an11 : Option Addr} {sl11 : Array (Option Value)} {oc11 kV11 dc11 pm11 cd11 ct11 : Value}
    {f12 : Addr} {od12 an12 : Option Addr} {sl12 : Array (Option Value)} {oc12 kV12 dc12 pm12 cd12 ct12 : Value}
    {f13 : Addr} {od13 an13 : Option Addr} {sl13 : Array (Option Value)} {oc13 kV13 dc13 pm13 cd13 ct13 : Value}
    {f14 : Addr} {od14 an14 : Option Addr} {sl14 : Array (Option Value)} {oc14 kV14 dc14 pm14 cd14 ct14 : Value}
    {f15 : Addr} {od15 an15 : Option Addr} {sl15 : Array (Option Value)} {oc15 kV15 dc15 pm15 cd15 ct15 : Value}
    {f16 : Addr} {od16 an16 : Option Addr} {sl16 : Array (Option Value)} {oc16 kV16 dc16 pm16 cd16 ct16 : Value}
    {f17 : Addr} {od17 an17 : Option Addr} {sl17 : Array (Option Value)} {oc17 kV17 dc17 pm17 cd17 ct17 : Value}
    {f18 : Addr} {od18 an18 : Option Addr} {sl18 : Array (Option Value)} {oc18 kV18 dc18 pm18 cd18 ct18 : Value}
    {f19 : Addr} {od19 an19 : Option Addr} {sl19 : Array (Option Value)} {oc19 kV19 dc19 pm19 cd19 ct19 : Value}
    {f20 : Addr} {od20 an20 : Option Addr} {sl20 : Array (Option Value)} {oc20 kV20 dc20 pm20 cd20 ct20 : Value}
    {f21 : Addr} {od21 an21 : Option Addr} {sl21 : Array (Option Value)} {oc21 kV21 dc21 pm21 cd21 ct21 : Value}
    {f22 : Addr} {od22 an22 : Option Addr} {sl22 : Array (Option Value)} {oc22 kV22 dc22 pm22 cd22 ct22 : Value}
    {f23 : Addr} {od23 an23 : Option Addr} {sl23 : Array (Option Value)} {oc23 kV23 dc23 pm23 cd23 ct23 : Value}
    {f24 : Addr} {od24 an24 : Option Addr} {sl24 : Array (Option Value)} {oc24 kV24 dc24 pm24 cd24 ct24 : Value}
    {f25 : Addr} {od25 an25 : Option Addr} {sl25 : Array (Option Value)} {oc25 kV25 dc25 pm25 cd25 ct25 : Value}
    {f26 : Addr} {od26 an26 : Option Addr} {sl26 : Array (Option Value)} {oc26 kV26 dc26 pm26 cd26 ct26 : Value}
    {f27 : Addr} {od27 an27 : Option Addr} {sl27 : Array (Option Value)} {oc27 kV27 dc27 pm27 cd27 ct27 : Value}
    {f28 : Addr} {od28 an28 : Option Addr} {sl28 : Array (Option Value)} {oc28 kV28 dc28 pm28 cd28 ct28 : Value}
    {f29 : Addr} {od29 an29 : Option Addr} {sl29 : Array (Option Value)} {oc29 kV29 dc29 pm29 cd29 ct29 : Value}
    {f30 : Addr} {od30 an30 : Option Addr} {sl30 : Array (Option Value)} {oc30 kV30 dc30 pm30 cd30 ct30 : Value}
    {f31 : Addr} {od31 an31 : Option Addr} {sl31 : Array (Option Value)} {oc31 kV31 dc31 pm31 cd31 ct31 : Value}
    {f32 : Addr} {od32 an32 : Option Addr} {sl32 : Array (Option Value)} {oc32 kV32 dc32 pm32 cd32 ct32 : Value}
    {f33 : Addr} {od33 an33 : Option Addr} {sl33 : Array (Option Value)} {oc33 kV33 dc33 pm33 cd33 ct33 : Value}
    {CY : Addr} {tL tO tF tM : Tok}
    {Ci Di : Addr} {nmi qi : PySem.Str} {Ni : Addr} {bsi : List Value} {sni : List PySem.Str} {subi : List Value} {abi : Bool} {coli : Option Bool} {ddi : Option Addr} {m0i m1i m2i m3i m5i : Option Value} {fIi cdai cci : Addr}
    {nYi qYi : PySem.Str} {NYi : Addr} {bYi : List Value} {sYi : List PySem.Str} {uYi : List Value} {aYi : Bool} {oYi : Option Bool} {dYi : Option Addr} {x0i x1i x2i x3i x5i : Option Value} {wYi : String}
    {cli : Value} {cldi : Option Addr} {csli : Array (Option Value)} {ccli : Value} {cddi : Option Addr} {vsi : Array Value} {ccsi : Array (Option Value)} {filei : PySem.Str} {tfi : Tok} {oci : Value} {odi : Option Addr} {kVi doci pmi : Value} {ani : Option Addr} {cti : Value} {osli : Array (Option Value)} {p1i p2i A1i A2i A3i A4i A5i A6i B1i B2i B3i B4i : Pos}
    {Cr Dr : Addr} {nmr qr : PySem.Str} {Nr : Addr} {bsr : List Value} {snr : List PySem.Str} {subr : List Value} {abr : Bool} {colr : Option Bool} {ddr : Option Addr} {m0r m1r m2r m3r m5r : Option Value} {fIr cdar ccr : Addr}
    {nYr qYr : PySem.Str} {NYr : Addr} {bYr : List Value} {sYr : List PySem.Str} {uYr : List Value} {aYr : Bool} {oYr : Option Bool} {dYr : Option Addr} {x0r x1r x2r x3r x5r : Option Value} {wYr : String}
    {clr : Value} {cldr : Option Addr} {cslr : Array (Option Value)} {cclr : Value} {cddr : Option Addr} {vsr : Array Value} {ccsr : Array (Option Value)} {filer : PySem.Str} {tfr : Tok} {ocr : Value} {odr : Option Addr} {kVr docr pmr : Value} {anr : Option Addr} {ctr : Value} {oslr : Array (Option Value)} {p1r p2r A1r A2r A3r A4r A5r A6r B1r B2r B3r B4r : Pos}
    (a0 : nsIn K mainGlobals "is_integer" = some (some (.ref f0)))
    (l0 : K.lookup f0 = some ⟨oc0, od0, .func (PySem.W.fnOf "is_integer" "is_integer" (defArgs s_is_integer) (defBody s_is_integer) (defScope s_is_integer) .none kV0 dc0 pm0 an0 cd0 ct0), sl0⟩) (c0 : codeIn K cd0 "is_integer" = true) (k0 : keepIn K (.ref f0) = true)
    (a1 : nsIn K mainGlobals "is_below" = some (some (.ref f1)))
    (l1 : K.lookup f1 = some ⟨oc1, od1, .func (PySem.W.fnOf "is_below" "is_below" (defArgs s_is_below) (defBody s_is_below) (defScope s_is_below) .none kV1 dc1 pm1 an1 cd1 ct1), sl1⟩) (c1 : codeIn K cd1 "is_below" = true) (k1 : keepIn K (.ref f1) = true)
    (a2 : nsIn K mainGlobals "is_text" = some (some (.ref f2)))
    (l2 : K.lookup f2 = some ⟨oc2, od2, .func (PySem.W.fnOf "is_text" "is_text" (defArgs s_is_text) (defBody s_is_text) (defScope s_is_text) .none kV2 dc2 pm2 an2 cd2 ct2), sl2⟩) (c2 : codeIn K cd2 "is_text" = true) (k2 : keepIn K (.ref f2) = true)
    (a3 : nsIn K mainGlobals "is_sequence" = some (some (.ref f3)))
    (l3 : K.lookup f3 = some ⟨oc3, od3, .func (PySem.W.fnOf "is_sequence" "is_sequence" (defArgs s_is_sequence) (defBody s_is_sequence) (defScope s_is_sequence) .none kV3 dc3 pm3 an3 cd3 ct3), sl3⟩) (c3 : codeIn K cd3 "is_sequence" = true) (k3 : keepIn K (.ref f3) = true)
    (a4 : nsIn K mainGlobals "is_name" = some (some (.ref f4)))
    (l4 : K.lookup f4 = some ⟨oc4, od4, .func (PySem.W.fnOf "is_name" "is_name" (defArgs s_is_name) (defBody s_is_name) (defScope s_is_name) .none kV4 dc4 pm4 an4 cd4 ct4), sl4⟩) (c4 : codeIn K cd4 "is_name" = true) (k4 : keepIn K (.ref f4) = true)
    (a5 : nsIn K mainGlobals "need_number" = some (some (.ref f5)))
    (l5 : K.lookup f5 = some ⟨oc5, od5, .func (PySem.W.fnOf "need_number" "need_number" (defArgs s_need_number) (defBody s_need_number) (defScope s_need_number) .none kV5 dc5 pm5 an5 cd5 ct5), sl5⟩) (c5 : codeIn K cd5 "need_number" = true) (k5 : keepIn K (.ref f5) = true)
    (a6 : nsIn K mainGlobals "lot_of" = some (some (.ref f6)))
    (l6 : K.lookup f6 = some ⟨oc6, od6, .func (PySem.W.fnOf "lot_of" "lot_of" (defArgs s_lot_of) (defBody s_lot_of) (defScope s_lot_of) .none kV6 dc6 pm6 an6 cd6 ct6), sl6⟩) (c6 : codeIn K cd6 "lot_of" = true) (k6 : keepIn K (.ref f6) = true)
    (yC : nsIn K mainGlobals "Yard" = some (some (.ref CY))) (yI : findIn K (.ref CY) "__init__" = some (some (.ref f7))) (yF : isFn K (.ref f7) = true)
    (l7 : K.lookup f7 = some ⟨oc7, od7, .func (PySem.W.fnOf "__init__" "Yard.__init__" (defArgs s_Yard_init) (defBody s_Yard_init) (defScope s_Yard_init) .none kV7 dc7 pm7 an7 cd7 ct7), sl7⟩) (c7 : codeIn K cd7 "Yard.__init__" = true) (k7 : keepIn K (.ref f7) = true)
    (a8 : nsIn K mainGlobals "places" = some (some (.ref f8)))
    (l8 : K.lookup f8 = some ⟨oc8, od8, .func (PySem.W.fnOf "places" "places" (defArgs s_places) (defBody s_places) (defScope s_places) .none kV8 dc8 pm8 an8 cd8 ct8), sl8⟩) (c8 : codeIn K cd8 "places" = true) (k8 : keepIn K (.ref f8) = true)
    (a9 : nsIn K mainGlobals "deep_row" = some (some (.ref f9)))
    (l9 : K.lookup f9 = some ⟨oc9, od9, .func (PySem.W.fnOf "deep_row" "deep_row" (defArgs s_deep_row) (defBody s_deep_row) (defScope s_deep_row) .none kV9 dc9 pm9 an9 cd9 ct9), sl9⟩) (c9 : codeIn K cd9 "deep_row" = true) (k9 : keepIn K (.ref f9) = true)
    (a10 : nsIn K mainGlobals "need_standing" = some (some (.ref f10)))
    (l10 : K.lookup f10 = some ⟨oc10, od10, .func (PySem.W.fnOf "need_standing" "need_standing" (defArgs s_need_standing) (defBody s_need_standing) (defScope s_need_standing) .none kV10 dc10 pm10 an10 cd10 ct10), sl10⟩) (c10 : codeIn K cd10 "need_standing" = true) (k10 : keepIn K (.ref f10) = true)
    (a11 : nsIn K mainGlobals "boxes_of" = some (some (.ref f11)))
    (l11 : K.lookup f11 = some ⟨oc11, od11, .func (PySem.W.fnOf "boxes_of" "boxes_of" (defArgs s_boxes_of) (defBody s_boxes_of) (defScope s_boxes_of) .none kV11 dc11 pm11 an11 cd11 ct11), sl11⟩) (c11 : codeIn K cd11 "boxes_of" = true) (k11 : keepIn K (.ref f11) = true)
    (a12 : nsIn K mainGlobals "count_boxes" = some (some (.ref f12)))
    (l12 : K.lookup f12 = some ⟨oc12, od12, .func (PySem.W.fnOf "count_boxes" "count_boxes" (defArgs s_count_boxes) (defBody s_count_boxes) (defScope s_count_boxes) .none kV12 dc12 pm12 an12 cd12 ct12), sl12⟩) (c12 : codeIn K cd12 "count_boxes" = true) (k12 : keepIn K (.ref f12) = true)
    (a13 : nsIn K mainGlobals "deep_part" = some (some (.ref f13)))
    (l13 : K.lookup f13 = some ⟨oc13, od13, .func (PySem.W.fnOf "deep_part" "deep_part" (defArgs s_deep_part) (defBody s_deep_part) (defScope s_deep_part) .none kV13 dc13 pm13 an13 cd13 ct13), sl13⟩) (c13 : codeIn K cd13 "deep_part" = true) (k13 : keepIn K (.ref f13) = true)
    (a14 : nsIn K mainGlobals "same_class" = some (some (.ref f14)))
    (l14 : K.lookup f14 = some ⟨oc14, od14, .func (PySem.W.fnOf "same_class" "same_class" (defArgs s_same_class) (defBody s_same_class) (defScope s_same_class) .none kV14 dc14 pm14 an14 cd14 ct14), sl14⟩) (c14 : codeIn K cd14 "same_class" = true) (k14 : keepIn K (.ref f14) = true)
    (a15 : nsIn K mainGlobals "parting_place" = some (some (.ref f15)))
    (l15 : K.lookup f15 = some ⟨oc15, od15, .func (PySem.W.fnOf "parting_place" "parting_place" (defArgs s_parting_place) (defBody s_parting_place) (defScope s_parting_place) .none kV15 dc15 pm15 an15 cd15 ct15), sl15⟩) (c15 : codeIn K cd15 "parting_place" = true) (k15 : keepIn K (.ref f15) = true)
    (a16 : nsIn K mainGlobals "_law_deal" = some (some (.ref f16)))
    (l16 : K.lookup f16 = some ⟨oc16, od16, .func (PySem.W.fnOf "_law_deal" "_law_deal" (defArgs s_l_deal) (defBody s_l_deal) (defScope s_l_deal) .none kV16 dc16 pm16 an16 cd16 ct16), sl16⟩) (c16 : codeIn K cd16 "_law_deal" = true) (k16 : keepIn K (.ref f16) = true)
    (a17 : nsIn K mainGlobals "_law_any" = some (some (.ref f17)))
    (l17 : K.lookup f17 = some ⟨oc17, od17, .func (PySem.W.fnOf "_law_any" "_law_any" (defArgs s_l_any) (defBody s_l_any) (defScope s_l_any) .none kV17 dc17 pm17 an17 cd17 ct17), sl17⟩) (c17 : codeIn K cd17 "_law_any" = true) (k17 : keepIn K (.ref f17) = true)
    (a18 : nsIn K mainGlobals "_law_of" = some (some (.ref f18)))
    (l18 : K.lookup f18 = some ⟨oc18, od18, .func (PySem.W.fnOf "_law_of" "_law_of" (defArgs s_l_of) (defBody s_l_of) (defScope s_l_of) .none kV18 dc18 pm18 an18 cd18 ct18), sl18⟩) (c18 : codeIn K cd18 "_law_of" = true) (k18 : keepIn K (.ref f18) = true)
    (a19 : nsIn K mainGlobals "_law_mixed" = some (some (.ref f19)))
    (l19 : K.lookup f19 = some ⟨oc19, od19, .func (PySem.W.fnOf "_law_mixed" "_law_mixed" (defArgs s_l_mixed) (defBody s_l_mixed) (defScope s_l_mixed) .none kV19 dc19 pm19 an19 cd19 ct19), sl19⟩) (c19 : codeIn K cd19 "_law_mixed" = true) (k19 : keepIn K (.ref f19) = true)
    (a20 : nsIn K mainGlobals "_law_names" = some (some (.ref f20)))
    (l20 : K.lookup f20 = some ⟨oc20, od20, .func (PySem.W.fnOf "_law_names" "_law_names" (defArgs s_l_names) (defBody s_l_names) (defScope s_l_names) .none kV20 dc20 pm20 an20 cd20 ct20), sl20⟩) (c20 : codeIn K cd20 "_law_names" = true) (k20 : keepIn K (.ref f20) = true)
    (a21 : nsIn K mainGlobals "_law_heights" = some (some (.ref f21)))
    (l21 : K.lookup f21 = some ⟨oc21, od21, .func (PySem.W.fnOf "_law_heights" "_law_heights" (defArgs s_l_heights) (defBody s_l_heights) (defScope s_l_heights) .none kV21 dc21 pm21 an21 cd21 ct21), sl21⟩) (c21 : codeIn K cd21 "_law_heights" = true) (k21 : keepIn K (.ref f21) = true)
    (a22 : nsIn K mainGlobals "_law_filled" = some (some (.ref f22)))
    (l22 : K.lookup f22 = some ⟨oc22, od22, .func (PySem.W.fnOf "_law_filled" "_law_filled" (defArgs s_l_filled) (defBody s_l_filled) (defScope s_l_filled) .none kV22 dc22 pm22 an22 cd22 ct22), sl22⟩) (c22 : codeIn K cd22 "_law_filled" = true) (k22 : keepIn K (.ref f22) = true)
    (a23 : nsIn K mainGlobals "_law_depths" = some (some (.ref f23)))
    (l23 : K.lookup f23 = some ⟨oc23, od23, .func (PySem.W.fnOf "_law_depths" "_law_depths" (defArgs s_l_depths) (defBody s_l_depths) (defScope s_l_depths) .none kV23 dc23 pm23 an23 cd23 ct23), sl23⟩) (c23 : codeIn K cd23 "_law_depths" = true) (k23 : keepIn K (.ref f23) = true)
    (a24 : nsIn K mainGlobals "_law_size" = some (some (.ref f24)))
    (l24 : K.lookup f24 = some ⟨oc24, od24, .func (PySem.W.fnOf "_law_size" "_law_size" (defArgs s_l_size) (defBody s_l_size) (defScope s_l_size) .none kV24 dc24 pm24 an24 cd24 ct24), sl24⟩) (c24 : codeIn K cd24 "_law_size" = true) (k24 : keepIn K (.ref f24) = true)
    (a25 : nsIn K mainGlobals "_law_stacks" = some (some (.ref f25)))
    (l25 : K.lookup f25 = some ⟨oc25, od25, .func (PySem.W.fnOf "_law_stacks" "_law_stacks" (defArgs s_l_stacks) (defBody s_l_stacks) (defScope s_l_stacks) .none kV25 dc25 pm25 an25 cd25 ct25), sl25⟩) (c25 : codeIn K cd25 "_law_stacks" = true) (k25 : keepIn K (.ref f25) = true)
    (a26 : nsIn K mainGlobals "_law_all" = some (some (.ref f26)))
    (l26 : K.lookup f26 = some ⟨oc26, od26, .func (PySem.W.fnOf "_law_all" "_law_all" (defArgs s_l_all) (defBody s_l_all) (defScope s_l_all) .none kV26 dc26 pm26 an26 cd26 ct26), sl26⟩) (c26 : codeIn K cd26 "_law_all" = true) (k26 : keepIn K (.ref f26) = true)
    (a27 : nsIn K mainGlobals "_law_reached" = some (some (.ref f27)))
    (l27 : K.lookup f27 = some ⟨oc27, od27, .func (PySem.W.fnOf "_law_reached" "_law_reached" (defArgs s_l_reached) (defBody s_l_reached) (defScope s_l_reached) .none kV27 dc27 pm27 an27 cd27 ct27), sl27⟩) (c27 : codeIn K cd27 "_law_reached" = true) (k27 : keepIn K (.ref f27) = true)
    (a28 : nsIn K mainGlobals "_law_parting" = some (some (.ref f28)))
    (l28 : K.lookup f28 = some ⟨oc28, od28, .func (PySem.W.fnOf "_law_parting" "_law_parting" (defArgs s_l_parting) (defBody s_l_parting) (defScope s_l_parting) .none kV28 dc28 pm28 an28 cd28 ct28), sl28⟩) (c28 : codeIn K cd28 "_law_parting" = true) (k28 : keepIn K (.ref f28) = true)
    (a29 : nsIn K mainGlobals "_law_changed" = some (some (.ref f29)))
    (l29 : K.lookup f29 = some ⟨oc29, od29, .func (PySem.W.fnOf "_law_changed" "_law_changed" (defArgs s_l_changed) (defBody s_l_changed) (defScope s_l_changed) .none kV29 dc29 pm29 an29 cd29 ct29), sl29⟩) (c29 : codeIn K cd29 "_law_changed" = true) (k29 : keepIn K (.ref f29) = true)
    (a30 : nsIn K mainGlobals "_law_refused" = some (some (.ref f30)))
    (l30 : K.lookup f30 = some ⟨oc30, od30, .func (PySem.W.fnOf "_law_refused" "_law_refused" (defArgs s_l_refused) (defBody s_l_refused) (defScope s_l_refused) .none kV30 dc30 pm30 an30 cd30 ct30), sl30⟩) (c30 : codeIn K cd30 "_law_refused" = true) (k30 : keepIn K (.ref f30) = true)
    (a31 : nsIn K mainGlobals "_law_bent" = some (some (.ref f31)))
    (l31 : K.lookup f31 = some ⟨oc31, od31, .func (PySem.W.fnOf "_law_bent" "_law_bent" (defArgs s_l_bent) (defBody s_l_bent) (defScope s_l_bent) .none kV31 dc31 pm31 an31 cd31 ct31), sl31⟩) (c31 : codeIn K cd31 "_law_bent" = true) (k31 : keepIn K (.ref f31) = true)
    (a32 : nsIn K mainGlobals "_law_heard" = some (some (.ref f32)))
    (l32 : K.lookup f32 = some ⟨oc32, od32, .func (PySem.W.fnOf "_law_heard" "_law_heard" (defArgs s_l_heard) (defBody s_l_heard) (defScope s_l_heard) .none kV32 dc32 pm32 an32 cd32 ct32), sl32⟩) (c32 : codeIn K cd32 "_law_heard" = true) (k32 : keepIn K (.ref f32) = true)
    (a33 : nsIn K mainGlobals "law" = some (some (.ref f33)))
    (l33 : K.lookup f33 = some ⟨oc33, od33, .func (PySem.W.fnOf "law" "law" (defArgs s_law) (defBody s_law) (defScope s_law) .none kV33 dc33 pm33 an33 cd33 ct33), sl33⟩) (c33 : codeIn K cd33 "law" = true) (k33 : keepIn K (.ref f33) = true)
    (z_abs : nsIn K mainGlobals "abs" = some none)
    (z_all : nsIn K mainGlobals "all" = some none)
    (z_bool : nsIn K mainGlobals "bool" = some none)
    (z_enumerate : nsIn K mainGlobals "enumerate" = some none)
    (z_int : nsIn K mainGlobals "int" = some none)
    (z_isinstance : nsIn K mainGlobals "isinstance" = some none)
    (z_len : nsIn K mainGlobals "len" = some none)
    (z_list : nsIn K mainGlobals "list" = some none)
    (z_max : nsIn K mainGlobals "max" = some none)
    (z_range : nsIn K mainGlobals "range" = some none)
    (z_repr : nsIn K mainGlobals "repr" = some none)
    (z_set : nsIn K mainGlobals "set" = some none)
    (z_sorted : nsIn K mainGlobals "sorted" = some none)
    (z_str : nsIn K mainGlobals "str" = some none)
    (z_sum : nsIn K mainGlobals "sum" = some none)
    (z_tuple : nsIn K mainGlobals "tuple" = some none)
    (z_zip : nsIn K mainGlobals "zip" = some none)
    (k_LETTERS : nsIn K mainGlobals "LETTERS" = some (some (.str "abcdefghijklmnopqrstuvwxyz" tL)))
    (k_LONGEST : nsIn K mainGlobals "LONGEST" = some (some (.int 8 tO)))
    (k_FEWEST : nsIn K mainGlobals "FEWEST" = some (some (.int 3 tF)))
    (k_MOST : nsIn K mainGlobals "MOST" = some (some (.int 12 tM)))
    (yM : makesIn K CY = true) (yK : keepIn K (.ref CY) = true) (yG : plainGet K CY Str.empty = true) (yH : hasDictIn K CY = true) (yO : plainOver K CY = true) (yS : findIn K (.ref CY) "__setattr__" = some (some (.builtin "object.__setattr__"))) (yN : findIn K (.ref CY) "heights" = some none)
    (th : nsIn K cStatics "thirdparty.any" = some none) (ms : nsIn K mainGlobals "super" = some none) (htop : (P.main.scope.names.lookup ("super" : PySem.Str)).isSome = false)
    (eiC : nsIn K mainGlobals "InvalidStanding" = some (some (.ref Ci))) (eiL : K.lookup Ci = some (excClassObj nmi qi Ci Ni bsi (.ref Di :: exTail) true sni subi abi coli ddi m0i m1i m2i m3i m5i "Exception.__new__")) (eiX : K.lookup Di = some (excClassObj nYi qYi Di NYi bYi exTail true sYi uYi aYi oYi dYi x0i x1i x2i x3i x5i wYi)) (eiZ : findIn K (.ref Di) "__init__" = some (some (.builtin "Exception.__init__"))) (eiS : findIn K (.ref Ci) "__setattr__" = some (some (.builtin "object.__setattr__"))) (eiN : findIn K (.ref Ci) "at" = some none) (eiK : keepIn K (.ref Ci) = true) (eiB : subIn K (.ref Ci) (.type "BaseException") = some true) (eiE : subIn K (.ref Ci) (.type "Exception") = some true) (eiT : typeIn K (.ref Ci) = some (.type "type")) (eiM : mroIn K Ci (.ref Ci) = some true) (eiI : findIn K (.ref Ci) "__init__" = some (some (.ref fIi))) (eiJ : typeIn K (.ref fIi) = some (.type "function")) (eiF : K.lookup fIi = some ⟨oci, odi, .func (ksFn "__init__" "InvalidStanding.__init__" (eA "at" p1i p2i) (eB "at" "invalid standing" A1i A2i A3i A4i A5i A6i B1i B2i B3i B4i) (eS "at") .none kVi doci pmi ani (.ref cdai) cti cci), osli⟩) (eiP : codeIn K (.ref cdai) "InvalidStanding.__init__" = true) (eiQ : (A3i.endLine == A5i.line) = true) (eic : K.lookup cci = some ⟨cli, cldi, .cell (some (.ref Ci)), csli⟩) (eid : K.lookup cdai = some ⟨ccli, cddi, .fields vsi, ccsi⟩) (eiv : vsi[2]? = some (.str filei tfi)) (eiw : ((P.main.file : PySem.Str) == filei) = true) (eiG : findIn K (.ref Ci) "__getattribute__" = some (some (.builtin "BaseException.__getattribute__"))) (eiH : findIn K (.ref Ci) "__getattr__" = some none) (eiD : hasDictIn K Ci = true) (eiU : isClsIn K Ci = true) (eiV : subIn K (.ref Ci) (.ref Ci) = some true)
    (erC : nsIn K mainGlobals "Refused" = some (some (.ref Cr))) (erL : K.lookup Cr = some (excClassObj nmr qr Cr Nr bsr (.ref Dr :: exTail) true snr subr abr colr ddr m0r m1r m2r m3r m5r "Exception.__new__")) (erX : K.lookup Dr = some (excClassObj nYr qYr Dr NYr bYr exTail true sYr uYr aYr oYr dYr x0r x1r x2r x3r x5r wYr)) (erZ : findIn K (.ref Dr) "__init__" = some (some (.builtin "Exception.__init__"))) (erS : findIn K (.ref Cr) "__setattr__" = some (some (.builtin "object.__setattr__"))) (erN : findIn K (.ref Cr) "word" = some none) (erK : keepIn K (.ref Cr) = true) (erB : subIn K (.ref Cr) (.type "BaseException") = some true) (erE : subIn K (.ref Cr) (.type "Exception") = some true) (erT : typeIn K (.ref Cr) = some (.type "type")) (erM : mroIn K Cr (.ref Cr) = some true) (erI : findIn K (.ref Cr) "__init__" = some (some (.ref fIr))) (erJ : typeIn K (.ref fIr) = some (.type "function")) (erF : K.lookup fIr = some ⟨ocr, odr, .func (ksFn "__init__" "Refused.__init__" (eA "word" p1r p2r) (eB "word" "refused" A1r A2r A3r A4r A5r A6r B1r B2r B3r B4r) (eS "word") .none kVr docr pmr anr (.ref cdar) ctr ccr), oslr⟩) (erP : codeIn K (.ref cdar) "Refused.__init__" = true) (erQ : (A3r.endLine == A5r.line) = true) (erc : K.lookup ccr = some ⟨clr, cldr, .cell (some (.ref Cr)), cslr⟩) (erd : K.lookup cdar = some ⟨cclr, cddr, .fields vsr, ccsr⟩) (erv : vsr[2]? = some (.str filer tfr)) (erw : ((P.main.file : PySem.Str) == filer) = true) (erG : findIn K (.ref Cr) "__getattribute__" = some (some (.builtin "BaseException.__getattribute__"))) (erH : findIn K (.ref Cr) "__getattr__" = some none) (erD : hasDictIn K Cr = true) (erU : isClsIn K Cr = true) (erV : subIn K (.ref Cr) (.ref Cr) = some true) :
    ∀ (sh : Shared) (a : Addr) (ns : List Int) (base : Heap) (H : Hp), ns.length ≤ 63 → K.In base → base.Ns mainGlobals mg → Only H → SqL K H a (ns.map V.int) → Env0 P w K mg base callerA [] sh H →
      codeAny (model P w) callerA (.call (.ref fa) ⟨[.ref a], []⟩) (CR CX0 [] P w H sh (fun v _ => v = .bl true) fun _ _ _ => False) sh := by
  have efa : f33 = fa := by
    cases hfa.symm.trans (mg_of X G a33)
    rfl
  subst efa
  have F0 := fun_mk (st := s_is_integer) l0 c0 k0
  have b0 := F0.binds (ps := ["value"]) fun _ _ _ _ _ _ us hl => match us, hl with | [_], _ => rfl
  have F1 := fun_mk (st := s_is_below) l1 c1 k1
  have b1 := F1.binds (ps := ["value", "bound"]) fun _ _ _ _ _ _ us hl => match us, hl with | [_, _], _ => rfl
  have F2 := fun_mk (st := s_is_text) l2 c2 k2
  have b2 := F2.binds (ps := ["value"]) fun _ _ _ _ _ _ us hl => match us, hl with | [_], _ => rfl
  have F3 := fun_mk (st := s_is_sequence) l3 c3 k3
  have b3 := F3.binds (ps := ["value"]) fun _ _ _ _ _ _ us hl => match us, hl with | [_], _ => rfl
  have F4 := fun_mk (st := s_is_name) l4 c4 k4
  have b4 := F4.binds (ps := ["value"]) fun _ _ _ _ _ _ us hl => match us, hl with | [_], _ => rfl
  have F5 := fun_mk (st := s_need_number) l5 c5 k5
  have b5 := F5.binds (ps := ["value", "bound", "word"]) fun _ _ _ _ _ _ us hl => match us, hl with | [_, _, _], _ => rfl
  have F6 := fun_mk (st := s_lot_of) l6 c6 k6
  have b6 := F6.binds (ps := ["things"]) fun _ _ _ _ _ _ us hl => match us, hl with | [_], _ => rfl
  have F7 := fun_mk (st := s_Yard_init) l7 c7 k7
  have b7 := F7.binds (ps := ["self", "heights"]) fun _ _ _ _ _ _ us hl => match us, hl with | [_, _], _ => rfl
  have F8 := fun_mk (st := s_places) l8 c8 k8
  have b8 := F8.binds (ps := ["yard"]) fun _ _ _ _ _ _ us hl => match us, hl with | [_], _ => rfl
  have F9 := fun_mk (st := s_deep_row) l9 c9 k9
  have b9 := F9.binds (ps := ["yard", "boxes"]) fun _ _ _ _ _ _ us hl => match us, hl with | [_, _], _ => rfl
  have F10 := fun_mk (st := s_need_standing) l10 c10 k10
  have b10 := F10.binds (ps := ["yard", "value"]) fun _ _ _ _ _ _ us hl => match us, hl with | [_, _], _ => rfl
  have F11 := fun_mk (st := s_boxes_of) l11 c11 k11
  have b11 := F11.binds (ps := ["standing"]) fun _ _ _ _ _ _ us hl => match us, hl with | [_], _ => rfl
  have F12 := fun_mk (st := s_count_boxes) l12 c12 k12
  have b12 := F12.binds (ps := ["standing"]) fun _ _ _ _ _ _ us hl => match us, hl with | [_], _ => rfl
  have F13 := fun_mk (st := s_deep_part) l13 c13 k13
  have b13 := F13.binds (ps := ["yard", "standing"]) fun _ _ _ _ _ _ us hl => match us, hl with | [_, _], _ => rfl
  have F14 := fun_mk (st := s_same_class) l14 c14 k14
  have b14 := F14.binds (ps := ["yard", "one", "other"]) fun _ _ _ _ _ _ us hl => match us, hl with | [_, _, _], _ => rfl
  have F15 := fun_mk (st := s_parting_place) l15 c15 k15
  have b15 := F15.binds (ps := ["yard", "one", "other"]) fun _ _ _ _ _ _ us hl => match us, hl with | [_, _, _], _ => rfl
  have F16 := fun_mk (st := s_l_deal) l16 c16 k16
  have b16 := F16.binds (ps := ["_law_script", "_law_base"]) fun _ _ _ _ _ _ us hl => match us, hl with | [_, _], _ => rfl
  have F17 := fun_mk (st := s_l_any) l17 c17 k17
  have b17 := F17.binds (ps := ["_law_deal_here", "_law_bound"]) fun _ _ _ _ _ _ us hl => match us, hl with | [_, _], _ => rfl
  have F18 := fun_mk (st := s_l_of) l18 c18 k18
  have b18 := F18.binds (ps := ["_law_deal_here", "_law_some"]) fun _ _ _ _ _ _ us hl => match us, hl with | [_, _], _ => rfl
  have F19 := fun_mk (st := s_l_mixed) l19 c19 k19
  have b19 := F19.binds (ps := ["_law_deal_here", "_law_some"]) fun _ _ _ _ _ _ us hl => match us, hl with | [_, _], _ => rfl
  have F20 := fun_mk (st := s_l_names) l20 c20 k20
  have b20 := F20.binds (ps := ["_law_deal_here", "_law_many"]) fun _ _ _ _ _ _ us hl => match us, hl with | [_, _], _ => rfl
  have F21 := fun_mk (st := s_l_heights) l21 c21 k21
  have b21 := F21.binds (ps := ["_law_deal_here", "_law_sizes", "_law_tall", "_law_most"]) fun _ _ _ _ _ _ us hl => match us, hl with | [_, _, _, _], _ => rfl
  have F22 := fun_mk (st := s_l_filled) l22 c22 k22
  have b22 := F22.binds (ps := ["_law_deal_here", "_law_rooms", "_law_boxes"]) fun _ _ _ _ _ _ us hl => match us, hl with | [_, _, _], _ => rfl
  have F23 := fun_mk (st := s_l_depths) l23 c23 k23
  have b23 := F23.binds (ps := ["_law_heights_here", "_law_boxes"]) fun _ _ _ _ _ _ us hl => match us, hl with | [_, _], _ => rfl
  have F24 := fun_mk (st := s_l_size) l24 c24 k24
  have b24 := F24.binds (ps := ["_law_rooms", "_law_many"]) fun _ _ _ _ _ _ us hl => match us, hl with | [_, _], _ => rfl
  have F25 := fun_mk (st := s_l_stacks) l25 c25 k25
  have b25 := F25.binds (ps := ["_law_height", "_law_names_here"]) fun _ _ _ _ _ _ us hl => match us, hl with | [_, _], _ => rfl
  have F26 := fun_mk (st := s_l_all) l26 c26 k26
  have b26 := F26.binds (ps := ["_law_heights_here", "_law_names_here"]) fun _ _ _ _ _ _ us hl => match us, hl with | [_, _], _ => rfl
  have F27 := fun_mk (st := s_l_reached) l27 c27 k27
  have b27 := F27.binds (ps := ["_law_heights_here", "_law_standing"]) fun _ _ _ _ _ _ us hl => match us, hl with | [_, _], _ => rfl
  have F28 := fun_mk (st := s_l_parting) l28 c28 k28
  have b28 := F28.binds (ps := ["_law_depths_here", "_law_one", "_law_other"]) fun _ _ _ _ _ _ us hl => match us, hl with | [_, _, _], _ => rfl
  have F29 := fun_mk (st := s_l_changed) l29 c29 k29
  have b29 := F29.binds (ps := ["_law_one", "_law_box", "_law_name"]) fun _ _ _ _ _ _ us hl => match us, hl with | [_, _, _], _ => rfl
  have F30 := fun_mk (st := s_l_refused) l30 c30 k30
  have b30 := F30.binds (ps := ["_law_yard", "_law_one", "_law_other"]) fun _ _ _ _ _ _ us hl => match us, hl with | [_, _, _], _ => rfl
  have F31 := fun_mk (st := s_l_bent) l31 c31 k31
  have b31 := F31.binds (ps := ["_law_deal_here", "_law_heights_here", "_law_one"]) fun _ _ _ _ _ _ us hl => match us, hl with | [_, _, _], _ => rfl
  have F32 := fun_mk (st := s_l_heard) l32 c32 k32
  have b32 := F32.binds (ps := ["_law_yard", "_law_one", "_law_value", "_law_work"]) fun _ _ _ _ _ _ us hl => match us, hl with | [_, _, _, _], _ => rfl
  have F33 := fun_mk (st := s_law) l33 c33 k33
  have b33 := F33.binds (ps := ["_law_script"]) fun _ _ _ _ _ _ us hl => match us, hl with | [_], _ => rfl
  have T : Txt P K mg { a_is_integer := f0, d_is_integer := PySem.W.fnOf "is_integer" "is_integer" (defArgs s_is_integer) (defBody s_is_integer) (defScope s_is_integer) .none kV0 dc0 pm0 an0 cd0 ct0, a_is_below := f1, d_is_below := PySem.W.fnOf "is_below" "is_below" (defArgs s_is_below) (defBody s_is_below) (defScope s_is_below) .none kV1 dc1 pm1 an1 cd1 ct1, a_is_text := f2, d_is_text := PySem.W.fnOf "is_text" "is_text" (defArgs s_is_text) (defBody s_is_text) (defScope s_is_text) .none kV2 dc2 pm2 an2 cd2 ct2, a_is_sequence := f3, d_is_sequence := PySem.W.fnOf "is_sequence" "is_sequence" (defArgs s_is_sequence) (defBody s_is_sequence) (defScope s_is_sequence) .none kV3 dc3 pm3 an3 cd3 ct3, a_is_name := f4, d_is_name := PySem.W.fnOf "is_name" "is_name" (defArgs s_is_name) (defBody s_is_name) (defScope s_is_name) .none kV4 dc4 pm4 an4 cd4 ct4, a_need_number := f5, d_need_number := PySem.W.fnOf "need_number" "need_number" (defArgs s_need_number) (defBody s_need_number) (defScope s_need_number) .none kV5 dc5 pm5 an5 cd5 ct5, a_lot_of := f6, d_lot_of := PySem.W.fnOf "lot_of" "lot_of" (defArgs s_lot_of) (defBody s_lot_of) (defScope s_lot_of) .none kV6 dc6 pm6 an6 cd6 ct6, a_Yard_init := f7, d_Yard_init := PySem.W.fnOf "__init__" "Yard.__init__" (defArgs s_Yard_init) (defBody s_Yard_init) (defScope s_Yard_init) .none kV7 dc7 pm7 an7 cd7 ct7, a_places := f8, d_places := PySem.W.fnOf "places" "places" (defArgs s_places) (defBody s_places) (defScope s_places) .none kV8 dc8 pm8 an8 cd8 ct8, a_deep_row := f9, d_deep_row := PySem.W.fnOf "deep_row" "deep_row" (defArgs s_deep_row) (defBody s_deep_row) (defScope s_deep_row) .none kV9 dc9 pm9 an9 cd9 ct9, a_need_standing := f10, d_need_standing := PySem.W.fnOf "need_standing" "need_standing" (defArgs s_need_standing) (defBody s_need_standing) (defScope s_need_standing) .none kV10 dc10 pm10 an10 cd10 ct10, a_boxes_of := f11, d_boxes_of := PySem.W.fnOf "boxes_of" "boxes_of" (defArgs s_boxes_of) (defBody s_boxes_of) (defScope s_boxes_of) .none kV11 dc11 pm11 an11 cd11 ct11, a_count_boxes := f12, d_count_boxes := PySem.W.fnOf "count_boxes" "count_boxes" (defArgs s_count_boxes) (defBody s_count_boxes) (defScope s_count_boxes) .none kV12 dc12 pm12 an12 cd12 ct12, a_deep_part := f13, d_deep_part := PySem.W.fnOf "deep_part" "deep_part" (defArgs s_deep_part) (defBody s_deep_part) (defScope s_deep_part) .none kV13 dc13 pm13 an13 cd13 ct13, a_same_class := f14, d_same_class := PySem.W.fnOf "same_class" "same_class" (defArgs s_same_class) (defBody s_same_class) (defScope s_same_class) .none kV14 dc14 pm14 an14 cd14 ct14, a_parting_place := f15, d_parting_place := PySem.W.fnOf "parting_place" "parting_place" (defArgs s_parting_place) (defBody s_parting_place) (defScope s_parting_place) .none kV15 dc15 pm15 an15 cd15 ct15, a_l_deal := f16, d_l_deal := PySem.W.fnOf "_law_deal" "_law_deal" (defArgs s_l_deal) (defBody s_l_deal) (defScope s_l_deal) .none kV16 dc16 pm16 an16 cd16 ct16, a_l_any := f17, d_l_any := PySem.W.fnOf "_law_any" "_law_any" (defArgs s_l_any) (defBody s_l_any) (defScope s_l_any) .none kV17 dc17 pm17 an17 cd17 ct17, a_l_of := f18, d_l_of := PySem.W.fnOf "_law_of" "_law_of" (defArgs s_l_of) (defBody s_l_of) (defScope s_l_of) .none kV18 dc18 pm18 an18 cd18 ct18, a_l_mixed := f19, d_l_mixed := PySem.W.fnOf "_law_mixed" "_law_mixed" (defArgs s_l_mixed) (defBody s_l_mixed) (defScope s_l_mixed) .none kV19 dc19 pm19 an19 cd19 ct19, a_l_names := f20, d_l_names := PySem.W.fnOf "_law_names" "_law_names" (defArgs s_l_names) (defBody s_l_names) (defScope s_l_names) .none kV20 dc20 pm20 an20 cd20 ct20, a_l_heights := f21, d_l_heights := PySem.W.fnOf "_law_heights" "_law_heights" (defArgs s_l_heights) (defBody s_l_heights) (defScope s_l_heights) .none kV21 dc21 pm21 an21 cd21 ct21, a_l_filled := f22, d_l_filled := PySem.W.fnOf "_law_filled" "_law_filled" (defArgs s_l_filled) (defBody s_l_filled) (defScope s_l_filled) .none kV22 dc22 pm22 an22 cd22 ct22, a_l_depths := f23, d_l_depths := PySem.W.fnOf "_law_depths" "_law_depths" (defArgs s_l_depths) (defBody s_l_depths) (defScope s_l_depths) .none kV23 dc23 pm23 an23 cd23 ct23, a_l_size := f24, d_l_size := PySem.W.fnOf "_law_size" "_law_size" (defArgs s_l_size) (defBody s_l_size) (defScope s_l_size) .none kV24 dc24 pm24 an24 cd24 ct24, a_l_stacks := f25, d_l_stacks := PySem.W.fnOf "_law_stacks" "_law_stacks" (defArgs s_l_stacks) (defBody s_l_stacks) (defScope s_l_stacks) .none kV25 dc25 pm25 an25 cd25 ct25, a_l_all := f26, d_l_all := PySem.W.fnOf "_law_all" "_law_all" (defArgs s_l_all) (defBody s_l_all) (defScope s_l_all) .none kV26 dc26 pm26 an26 cd26 ct26, a_l_reached := f27, d_l_reached := PySem.W.fnOf "_law_reached" "_law_reached" (defArgs s_l_reached) (defBody s_l_reached) (defScope s_l_reached) .none kV27 dc27 pm27 an27 cd27 ct27, a_l_parting := f28, d_l_parting := PySem.W.fnOf "_law_parting" "_law_parting" (defArgs s_l_parting) (defBody s_l_parting) (defScope s_l_parting) .none kV28 dc28 pm28 an28 cd28 ct28, a_l_changed := f29, d_l_changed := PySem.W.fnOf "_law_changed" "_law_changed" (defArgs s_l_changed) (defBody s_l_changed) (defScope s_l_changed) .none kV29 dc29 pm29 an29 cd29 ct29, a_l_refused := f30, d_l_refused := PySem.W.fnOf "_law_refused" "_law_refused" (defArgs s_l_refused) (defBody s_l_refused) (defScope s_l_refused) .none kV30 dc30 pm30 an30 cd30 ct30, a_l_bent := f31, d_l_bent := PySem.W.fnOf "_law_bent" "_law_bent" (defArgs s_l_bent) (defBody s_l_bent) (defScope s_l_bent) .none kV31 dc31 pm31 an31 cd31 ct31, a_l_heard := f32, d_l_heard := PySem.W.fnOf "_law_heard" "_law_heard" (defArgs s_l_heard) (defBody s_l_heard) (defScope s_l_heard) .none kV32 dc32 pm32 an32 cd32 ct32, a_law := f33, d_law := PySem.W.fnOf "law" "law" (defArgs s_law) (defBody s_law) (defScope s_law) .none kV33 dc33 pm33 an33 cd33 ct33, C_Yard := CY, C_InvalidStanding := Ci, C_Refused := Cr, C_YardError := Di, i_InvalidStanding := fIi, i_Refused := fIr, t_LETTERS := tL, t_LONGEST := tO, t_FEWEST := tF, t_MOST := tM } :=
    { F_is_integer := F0,
      g_is_integer := mg_of X G a0,
      b_is_integer := b0,
      F_is_below := F1,
      g_is_below := mg_of X G a1,
      b_is_below := b1,
      F_is_text := F2,
      g_is_text := mg_of X G a2,
      b_is_text := b2,
      F_is_sequence := F3,
      g_is_sequence := mg_of X G a3,
      b_is_sequence := b3,
      F_is_name := F4,
      g_is_name := mg_of X G a4,
      b_is_name := b4,
      F_need_number := F5,
      g_need_number := mg_of X G a5,
      b_need_number := b5,
      F_lot_of := F6,
      g_lot_of := mg_of X G a6,
      b_lot_of := b6,
      F_Yard_init := F7,
      b_Yard_init := b7,
      F_places := F8,
      g_places := mg_of X G a8,
      b_places := b8,
      F_deep_row := F9,
      g_deep_row := mg_of X G a9,
      b_deep_row := b9,
      F_need_standing := F10,
      g_need_standing := mg_of X G a10,
      b_need_standing := b10,
      F_boxes_of := F11,
      g_boxes_of := mg_of X G a11,
      b_boxes_of := b11,
      F_count_boxes := F12,
      g_count_boxes := mg_of X G a12,
      b_count_boxes := b12,
      F_deep_part := F13,
      g_deep_part := mg_of X G a13,
      b_deep_part := b13,
      F_same_class := F14,
      g_same_class := mg_of X G a14,
      b_same_class := b14,
      F_parting_place := F15,
      g_parting_place := mg_of X G a15,
      b_parting_place := b15,
      F_l_deal := F16,
      g_l_deal := mg_of X G a16,
      b_l_deal := b16,
      F_l_any := F17,
      g_l_any := mg_of X G a17,
      b_l_any := b17,
      F_l_of := F18,
      g_l_of := mg_of X G a18,
      b_l_of := b18,
      F_l_mixed := F19,
      g_l_mixed := mg_of X G a19,
      b_l_mixed := b19,
      F_l_names := F20,
      g_l_names := mg_of X G a20,
      b_l_names := b20,
      F_l_heights := F21,
      g_l_heights := mg_of X G a21,
      b_l_heights := b21,
      F_l_filled := F22,
      g_l_filled := mg_of X G a22,
      b_l_filled := b22,
      F_l_depths := F23,
      g_l_depths := mg_of X G a23,
      b_l_depths := b23,
      F_l_size := F24,
      g_l_size := mg_of X G a24,
      b_l_size := b24,
      F_l_stacks := F25,
      g_l_stacks := mg_of X G a25,
      b_l_stacks := b25,
      F_l_all := F26,
      g_l_all := mg_of X G a26,
      b_l_all := b26,
      F_l_reached := F27,
      g_l_reached := mg_of X G a27,
      b_l_reached := b27,
      F_l_parting := F28,
      g_l_parting := mg_of X G a28,
      b_l_parting := b28,
      F_l_changed := F29,
      g_l_changed := mg_of X G a29,
      b_l_changed := b29,
      F_l_refused := F30,
      g_l_refused := mg_of X G a30,
      b_l_refused := b30,
      F_l_bent := F31,
      g_l_bent := mg_of X G a31,
      b_l_bent := b31,
      F_l_heard := F32,
      g_l_heard := mg_of X G a32,
      b_l_heard := b32,
      F_law := F33,
      g_law := mg_of X G a33,
      b_law := b33,
      z_abs := mg_none_of X G z_abs,
      z_all := mg_none_of X G z_all,
      z_bool := mg_none_of X G z_bool,
      z_enumerate := mg_none_of X G z_enumerate,
      z_int := mg_none_of X G z_int,
      z_isinstance := mg_none_of X G z_isinstance,
      z_len := mg_none_of X G z_len,
      z_list := mg_none_of X G z_list,
      z_max := mg_none_of X G z_max,
      z_range := mg_none_of X G z_range,
      z_repr := mg_none_of X G z_repr,
      z_set := mg_none_of X G z_set,
      z_sorted := mg_none_of X G z_sorted,
      z_str := mg_none_of X G z_str,
      z_sum := mg_none_of X G z_sum,
      z_tuple := mg_none_of X G z_tuple,
      z_zip := mg_none_of X G z_zip,
      c_LETTERS := mg_of X G k_LETTERS,
      c_LONGEST := mg_of X G k_LONGEST,
      c_FEWEST := mg_of X G k_FEWEST,
      c_MOST := mg_of X G k_MOST,
      g_Yard := mg_of X G yC,
      mk_Yard := ⟨yM, yI, yF, yK⟩,
      cl_Yard := ⟨yG, yH, yO, yS⟩,
      no_heights := yN,
      g_InvalidStanding := mg_of X G eiC,
      er_InvalidStanding := { gC := mg_of X G eiC, cls := ⟨Di, _, _, _, _, _, _, _, _, _, _, _, _, _, _, eiL, along_of eiX eiZ⟩, sa := eiS, noN := eiN, kC := eiK, exC := eiB, exE := eiE, tyC := eiT, th := th, ms := mg_none_of X G ms, self := eiM, htop := htop, init := ⟨fIi, cdai, cci, eiI, eiJ, ⟨_, _, _, eic⟩, ⟨_, _, _, _, _, _, eid, eiv, eiw⟩, _, _, _, _, _, _, _, _, _, _, _, _, _, _, _, _, _, _, _, _, eiF, eiP, eiQ⟩ },
      xf_InvalidStanding := ⟨eiG, eiH, eiB, eiD⟩,
      te_InvalidStanding := own_exm eiB eiU eiT eiV,
      g_Refused := mg_of X G erC,
      er_Refused := { gC := mg_of X G erC, cls := ⟨Dr, _, _, _, _, _, _, _, _, _, _, _, _, _, _, erL, along_of erX erZ⟩, sa := erS, noN := erN, kC := erK, exC := erB, exE := erE, tyC := erT, th := th, ms := mg_none_of X G ms, self := erM, htop := htop, init := ⟨fIr, cdar, ccr, erI, erJ, ⟨_, _, _, erc⟩, ⟨_, _, _, _, _, _, erd, erv, erw⟩, _, _, _, _, _, _, _, _, _, _, _, _, _, _, _, _, _, _, _, _, erF, erP, erQ⟩ },
      xf_Refused := ⟨erG, erH, erB, erD⟩,
      te_Refused := own_exm erB erU erT erV }
  exact fun sh a ns base H hl _ _ _ hS e0 => law_run T e0 hS hl
end Sd

open PySem PySem.W PyProof.Rows
set_option maxRecDepth 100000 in
set_option maxHeartbeats 0 in
theorem PySem.Challenge.cw_staysdeep_k07_whole_standings_of_one_cla_holds : PySem.Challenge.rw_staysdeep_k07_whole_standings_of_one_cla.Holds := by
  w_on; o_law; k_head; (case hw => w_witness2)
  k_fill
  refine Sd.walk_once (l := PySem.Challenge.rw_staysdeep_k07_whole_standings_of_one_cla) (n := 63) (CX := fun _ => L2.CX0) rfl (by decide) rfl (fun w h Y => PySem.W.kIn_of Y) ?F (fun _ _ _ _ _ z => z)
  case F =>
    intro w mg fa h KX G hmg
    refine' Sd.all_mk KX G hmg ?a0 ?l0 ?c0 ?k0 ?a1 ?l1 ?c1 ?k1 ?a2 ?l2 ?c2 ?k2 ?a3 ?l3 ?c3 ?k3 ?a4 ?l4 ?c4 ?k4 ?a5 ?l5 ?c5 ?k5 ?a6 ?l6 ?c6 ?k6 ?yC ?yI ?yF ?l7 ?c7 ?k7 ?a8 ?l8 ?c8 ?k8 ?a9 ?l9 ?c9 ?k9 ?a10 ?l10 ?c10 ?k10 ?a11 ?l11 ?c11 ?k11 ?a12 ?l12 ?c12 ?k12 ?a13 ?l13 ?c13 ?k13 ?a14 ?l14 ?c14 ?k14 ?a15 ?l15 ?c15 ?k15 ?a16 ?l16 ?c16 ?k16 ?a17 ?l17 ?c17 ?k17 ?a18 ?l18 ?c18 ?k18 ?a19 ?l19 ?c19 ?k19 ?a20 ?l20 ?c20 ?k20 ?a21 ?l21 ?c21 ?k21 ?a22 ?l22 ?c22 ?k22 ?a23 ?l23 ?c23 ?k23 ?a24 ?l24 ?c24 ?k24 ?a25 ?l25 ?c25 ?k25 ?a26 ?l26 ?c26 ?k26 ?a27 ?l27 ?c27 ?k27 ?a28 ?l28 ?c28 ?k28 ?a29 ?l29 ?c29 ?k29 ?a30 ?l30 ?c30 ?k30 ?a31 ?l31 ?c31 ?k31 ?a32 ?l32 ?c32 ?k32 ?a33 ?l33 ?c33 ?k33 ?z_abs ?z_all ?z_bool ?z_enumerate ?z_int ?z_isinstance ?z_len ?z_list ?z_max ?z_range ?z_repr ?z_set ?z_sorted ?z_str ?z_sum ?z_tuple ?z_zip ?k_LETTERS ?k_LONGEST ?k_FEWEST ?k_MOST ?yM ?yK ?yG ?yH ?yO ?yS ?yN ?th ?ms ?htop ?eiC ?eiL ?eiX ?eiZ ?eiS ?eiN ?eiK ?eiB ?eiE ?eiT ?eiM ?eiI ?eiJ ?eiF ?eiP ?eiQ ?eic ?eid ?eiv ?eiw ?eiG ?eiH ?eiD ?eiU ?eiV ?erC ?erL ?erX ?erZ ?erS ?erN ?erK ?erB ?erE ?erT ?erM ?erI ?erJ ?erF ?erP ?erQ ?erc ?erd ?erv ?erw ?erG ?erH ?erD ?erU ?erV
    (case a0 => k_is)
    (case l0 => k_is)
    (case c0 => k_is)
    (case k0 => k_is)
    (case a1 => k_is)
    (case l1 => k_is)
    (case c1 => k_is)
    (case k1 => k_is)
    (case a2 => k_is)
    (case l2 => k_is)
    (case c2 => k_is)
    (case k2 => k_is)
    (case a3 => k_is)
    (case l3 => k_is)
    (case c3 => k_is)
    (case k3 => k_is)
    (case a4 => k_is)
    (case l4 => k_is)
    (case c4 => k_is)
    (case k4 => k_is)
    (case a5 => k_is)
    (case l5 => k_is)
    (case c5 => k_is)
    (case k5 => k_is)
    (case a6 => k_is)
    (case l6 => k_is)
    (case c6 => k_is)
    (case k6 => k_is)
    (case yC => k_is)
    (case yI => k_is)
    (case yF => k_is)
    (case l7 => k_is)
    (case c7 => k_is)
    (case k7 => k_is)
    (case a8 => k_is)
    (case l8 => k_is)
    (case c8 => k_is)
    (case k8 => k_is)
    (case a9 => k_is)
    (case l9 => k_is)
    (case c9 => k_is)
    (case k9 => k_is)
    (case a10 => k_is)
    (case l10 => k_is)
    (case c10 => k_is)
    (case k10 => k_is)
    (case a11 => k_is)
    (case l11 => k_is)
    (case c11 => k_is)
    (case k11 => k_is)
    (case a12 => k_is)
    (case l12 => k_is)
    (case c12 => k_is)
    (case k12 => k_is)
    (case a13 => k_is)
    (case l13 => k_is)
    (case c13 => k_is)
    (case k13 => k_is)
    (case a14 => k_is)
    (case l14 => k_is)
    (case c14 => k_is)
    (case k14 => k_is)
    (case a15 => k_is)
    (case l15 => k_is)
    (case c15 => k_is)
    (case k15 => k_is)
    (case a16 => k_is)
    (case l16 => k_is)
    (case c16 => k_is)
    (case k16 => k_is)
    (case a17 => k_is)
    (case l17 => k_is)
    (case c17 => k_is)
    (case k17 => k_is)
    (case a18 => k_is)
    (case l18 => k_is)
    (case c18 => k_is)
    (case k18 => k_is)
    (case a19 => k_is)
    (case l19 => k_is)
    (case c19 => k_is)
    (case k19 => k_is)
    (case a20 => k_is)
    (case l20 => k_is)
    (case c20 => k_is)
    (case k20 => k_is)
    (case a21 => k_is)
    (case l21 => k_is)
    (case c21 => k_is)
    (case k21 => k_is)
    (case a22 => k_is)
    (case l22 => k_is)
    (case c22 => k_is)
    (case k22 => k_is)
    (case a23 => k_is)
    (case l23 => k_is)
    (case c23 => k_is)
    (case k23 => k_is)
    (case a24 => k_is)
    (case l24 => k_is)
    (case c24 => k_is)
    (case k24 => k_is)
    (case a25 => k_is)
    (case l25 => k_is)
    (case c25 => k_is)
    (case k25 => k_is)
    (case a26 => k_is)
    (case l26 => k_is)
    (case c26 => k_is)
    (case k26 => k_is)
    (case a27 => k_is)
    (case l27 => k_is)
    (case c27 => k_is)
    (case k27 => k_is)
    (case a28 => k_is)
    (case l28 => k_is)
    (case c28 => k_is)
    (case k28 => k_is)
    (case a29 => k_is)
    (case l29 => k_is)
    (case c29 => k_is)
    (case k29 => k_is)
    (case a30 => k_is)
    (case l30 => k_is)
    (case c30 => k_is)
    (case k30 => k_is)
    (case a31 => k_is)
    (case l31 => k_is)
    (case c31 => k_is)
    (case k31 => k_is)
    (case a32 => k_is)
    (case l32 => k_is)
    (case c32 => k_is)
    (case k32 => k_is)
    (case a33 => k_is)
    (case l33 => k_is)
    (case c33 => k_is)
    (case k33 => k_is)
    (case z_abs => k_is)
    (case z_all => k_is)
    (case z_bool => k_is)
    (case z_enumerate => k_is)
    (case z_int => k_is)
    (case z_isinstance => k_is)
    (case z_len => k_is)
    (case z_list => k_is)
    (case z_max => k_is)
    (case z_range => k_is)
    (case z_repr => k_is)
    (case z_set => k_is)
    (case z_sorted => k_is)
    (case z_str => k_is)
    (case z_sum => k_is)
    (case z_tuple => k_is)
    (case z_zip => k_is)
    (case k_LETTERS => k_is)
    (case k_LONGEST => k_is)
    (case k_FEWEST => k_is)
    (case k_MOST => k_is)
    (case yM => k_is)
    (case yK => k_is)
    (case yG => k_is)
    (case yH => k_is)
    (case yO => k_is)
    (case yS => k_is)
    (case yN => k_is)
    (case th => k_is)
    (case ms => k_is)
    (case htop => first | rfl | decide +kernel)
    (case eiC => k_is)
    (case eiL => k_is)
    (case eiX => k_is)
    (case eiZ => k_is)
    (case eiS => k_is)
    (case eiN => k_is)
    (case eiK => k_is)
    (case eiB => k_is)
    (case eiE => k_is)
    (case eiT => k_is)
    (case eiM => first | rfl | k_is)
    (case eiI => k_is)
    (case eiJ => k_is)
    (case eiF => k_is)
    (case eiP => k_is)
    (case eiQ => first | rfl | decide +kernel)
    (case eic => k_is)
    (case eid => k_is)
    (case eiv => first | rfl | decide +kernel)
    (case eiw => first | rfl | decide +kernel)
    (case eiG => k_is)
    (case eiH => k_is)
    (case eiD => k_is)
    (case eiU => k_is)
    (case eiV => first | rfl | k_is)
    (case erC => k_is)
    (case erL => k_is)
    (case erX => k_is)
    (case erZ => k_is)
    (case erS => k_is)
    (case erN => k_is)
    (case erK => k_is)
    (case erB => k_is)
    (case erE => k_is)
    (case erT => k_is)
    (case erM => first | rfl | k_is)
    (case erI => k_is)
    (case erJ => k_is)
    (case erF => k_is)
    (case erP => k_is)
    (case erQ => first | rfl | decide +kernel)
    (case erc => k_is)
    (case erd => k_is)
    (case erv => first | rfl | decide +kernel)
    (case erw => first | rfl | decide +kernel)
    (case erG => k_is)
    (case erH => k_is)
    (case erD => k_is)
    (case erU => k_is)
    (case erV => first | rfl | k_is)

