import PyProof.Rows.All
import Wide.All
import OpenK.AllK
import Wide.FinOn
import HandS.ForMost
import HandS.Exc
import HandS.ExcOwn
import HandS.WordsExc
import HandS.TryOnly
import HandS.TupAny
import HandS.Text
import KE.SortData
import HandS.FStr
import HandS.IsInst
import KE.GoesEnum
import HandS.TupLen
import HandS.DictComp
import HandS.Small
import PySem.Challenge.RW_fewestheld_k12_kinds_of_a_row
set_option Elab.async false
set_option linter.all false
set_option maxRecDepth 100000
set_option maxHeartbeats 4000000
namespace Fv
open PySem L2

/-! data by value -/
inductive D where
  | non | bl (b : Bool) | int (i : Int) | str (s : Str) | tup (l : List D) | lst (l : List D) | arg (l : List D) | dct (l : List (D × D)) | dcT (l : List (D × D)) | obj (c : Str) (fs : List (Str × D))

inductive R (α : Type) where
  | ok (a : α) | exc (c : Str) (fs : List (Str × D)) | stuck
def R.bind {α β : Type} (x : R α) (f : α → R β) : R β := match x with
  | .ok a => f a | .exc c fs => .exc c fs | .stuck => .stuck
instance : Monad R where
  pure a := .ok a
  bind := R.bind
theorem R.bind_ok {α β : Type} (a : α) (f : α → R β) : (R.ok a >>= f) = f a := rfl
theorem R.bind_exc {α β : Type} (c : Str) (fs : List (Str × D)) (f : α → R β) : ((R.exc c fs : R α) >>= f) = .exc c fs := rfl
theorem R.bind_stuck {α β : Type} (f : α → R β) : ((R.stuck : R α) >>= f) = .stuck := rfl
theorem R.pure_ok {α : Type} (a : α) : (pure a : R α) = .ok a := rfl
def R.of {α : Type} : Option α → R α
  | some a => .ok a | none => .stuck
def R.chk (c : Bool) : R Unit := if c = true then .ok () else .stuck

/-- the written part: classes and constants by name -/
structure G where
  K : PySem.W.Frag
  mg : Str → Option Value
abbrev gx (X : Cx) : G := ⟨X.K, X.mg⟩

def keyD : Key → D
  | .inl i => .int i
  | .inr s => .str s

mutual
inductive Rp (g : G) (H : Hp) : V → D → Prop
  | non : Rp g H .non .non
  | bl (b : Bool) : Rp g H (.bl b) (.bl b)
  | int (i : Int) : Rp g H (.int i) (.int i)
  | str (x : Str) : Rp g H (.str x) (.str x)
  | tup {a : Addr} {xs : List V} {ds : List D} : H a = some (.tup xs) → RpL g H xs ds → Rp g H (.ref a) (.tup ds)
  | lst {a : Addr} {xs : List V} {ds : List D} : Rd H a (.lst xs) → RpL g H xs ds → Rp g H (.ref a) (.lst ds)
  | arg {a : Addr} {xs : List V} {ds : List D} : SqL g.K H a xs → RpL g H xs ds → Rp g H (.ref a) (.arg ds)
  | dK {a : Addr} {kvs : List (Key × V)} {ds : List (D × D)} : Rd H a (.dK kvs) → RpK g H kvs ds → Rp g H (.ref a) (.dct ds)
  | dT {a : Addr} {kvs : List (List Key × V)} {ds : List (D × D)} : Rd H a (.dT kvs) → RpT g H kvs ds → Rp g H (.ref a) (.dcT ds)
  | obj {a C dx : Addr} {c : Str} {fs : List (Str × V)} {ds : List (Str × D)} : g.mg c = some (.ref C) → H a = some (.ins C dx fs) → RpF g H fs ds → Rp g H (.ref a) (.obj c ds)
inductive RpL (g : G) (H : Hp) : List V → List D → Prop
  | nil : RpL g H [] []
  | cons {v : V} {d : D} {vs : List V} {ds : List D} : Rp g H v d → RpL g H vs ds → RpL g H (v :: vs) (d :: ds)
inductive RpK (g : G) (H : Hp) : List (Key × V) → List (D × D) → Prop
  | nil : RpK g H [] []
  | cons {k : Key} {v : V} {d : D} {vs : List (Key × V)} {ds : List (D × D)} : Rp g H v d → RpK g H vs ds → RpK g H ((k, v) :: vs) ((keyD k, d) :: ds)
inductive RpT (g : G) (H : Hp) : List (List Key × V) → List (D × D) → Prop
  | nil : RpT g H [] []
  | cons {k : List Key} {v : V} {d : D} {vs : List (List Key × V)} {ds : List (D × D)} : Rp g H v d → RpT g H vs ds → RpT g H ((k, v) :: vs) ((.tup (k.map keyD), d) :: ds)
inductive RpF (g : G) (H : Hp) : List (Str × V) → List (Str × D) → Prop
  | nil : RpF g H [] []
  | cons {k : Str} {v : V} {d : D} {vs : List (Str × V)} {ds : List (Str × D)} : Rp g H v d → RpF g H vs ds → RpF g H ((k, v) :: vs) ((k, d) :: ds)
end

theorem Same.rd {H H' : Hp} {a : Addr} {u : HO} (e : Same H H') (h : Rd H a u) : Rd H' a u := by
  rcases h with h | ⟨o, h⟩
  · exact .inl (e _ _ h)
  · exact .inr ⟨o, e _ _ h⟩
theorem Same.sqT {K : PySem.W.Frag} {H H' : Hp} {a : Addr} {xs : List V} (e : Same H H') (h : SqT K H a xs) : SqT K H' a xs := by
  rcases h with h | h
  · exact .inl (Same.rd e h)
  · exact .inr h

section
variable {g : G} {H H' : Hp}
mutual
theorem Rp.mono (e : Same H H') : ∀ {v : V} {d : D}, Rp g H v d → Rp g H' v d
  | _, _, .non => .non
  | _, _, .bl b => .bl b
  | _, _, .int i => .int i
  | _, _, .str x => .str x
  | _, _, .tup h r => .tup (e _ _ h) (RpL.mono e r)
  | _, _, .lst h r => .lst (Same.rd e h) (RpL.mono e r)
  | _, _, .arg h r => .arg (e.seq h) (RpL.mono e r)
  | _, _, .dK h r => .dK (Same.rd e h) (RpK.mono e r)
  | _, _, .dT h r => .dT (Same.rd e h) (RpT.mono e r)
  | _, _, .obj m h r => .obj m (e _ _ h) (RpF.mono e r)
theorem RpL.mono (e : Same H H') : ∀ {v : List V} {d : List D}, RpL g H v d → RpL g H' v d
  | _, _, .nil => .nil
  | _, _, .cons h r => .cons (Rp.mono e h) (RpL.mono e r)
theorem RpK.mono (e : Same H H') : ∀ {v : List (Key × V)} {d : List (D × D)}, RpK g H v d → RpK g H' v d
  | _, _, .nil => .nil
  | _, _, .cons h r => .cons (Rp.mono e h) (RpK.mono e r)
theorem RpT.mono (e : Same H H') : ∀ {v : List (List Key × V)} {d : List (D × D)}, RpT g H v d → RpT g H' v d
  | _, _, .nil => .nil
  | _, _, .cons h r => .cons (Rp.mono e h) (RpT.mono e r)
theorem RpF.mono (e : Same H H') : ∀ {v : List (Str × V)} {d : List (Str × D)}, RpF g H v d → RpF g H' v d
  | _, _, .nil => .nil
  | _, _, .cons h r => .cons (Rp.mono e h) (RpF.mono e r)
end
theorem RpL.length {xs : List V} {ds : List D} (r : RpL g H xs ds) : xs.length = ds.length := by
  induction xs generalizing ds with
  | nil => cases r; rfl
  | cons x xs ih => cases r with | cons _ r => simp [ih r]
theorem RpL.get {xs : List V} {ds : List D} (r : RpL g H xs ds) {i : Nat} {d : D} (e : ds[i]? = some d) : ∃ v, xs[i]? = some v ∧ Rp g H v d := by
  induction xs generalizing ds i with
  | nil => cases r; simp at e
  | cons x xs ih =>
    cases r with
    | cons h r =>
      cases i with
      | zero => simp at e; subst e; exact ⟨x, rfl, h⟩
      | succ i => simp at e; simpa using ih r e
theorem RpL.getV {xs : List V} {ds : List D} (r : RpL g H xs ds) {i : Nat} {v : V} (e : xs[i]? = some v) : ∃ d, ds[i]? = some d ∧ Rp g H v d := by
  induction xs generalizing ds i with
  | nil => simp at e
  | cons x xs ih =>
    cases r with
    | cons h r =>
      cases i with
      | zero => simp at e; subst e; exact ⟨_, rfl, h⟩
      | succ i => simp at e; simpa using ih r e
theorem RpL.append {xs ys : List V} {ds es : List D} (r : RpL g H xs ds) (q : RpL g H ys es) : RpL g H (xs ++ ys) (ds ++ es) := by
  induction xs generalizing ds with
  | nil => cases r; exact q
  | cons x xs ih => cases r with | cons h r => exact .cons h (ih r)
theorem RpL.snoc {xs : List V} {ds : List D} {v : V} {d : D} (r : RpL g H xs ds) (q : Rp g H v d) : RpL g H (xs ++ [v]) (ds ++ [d]) := r.append (.cons q .nil)
theorem RpL.take {xs : List V} {ds : List D} (r : RpL g H xs ds) : ∀ n, RpL g H (xs.take n) (ds.take n) := by
  induction xs generalizing ds with
  | nil => cases r; intro n; simp; exact .nil
  | cons x xs ih =>
    cases r with
    | cons h r =>
      intro n
      cases n with
      | zero => exact .nil
      | succ n => exact .cons h (ih r n)
theorem RpL.drop {xs : List V} {ds : List D} (r : RpL g H xs ds) : ∀ n, RpL g H (xs.drop n) (ds.drop n) := by
  induction xs generalizing ds with
  | nil => cases r; intro n; simp; exact .nil
  | cons x xs ih =>
    cases r with
    | cons h r =>
      intro n
      cases n with
      | zero => exact .cons h r
      | succ n => exact ih r n
theorem RpL.reverse {xs : List V} {ds : List D} (r : RpL g H xs ds) : RpL g H xs.reverse ds.reverse := by
  induction xs generalizing ds with
  | nil => cases r; exact .nil
  | cons x xs ih => cases r with | cons h r => rw [List.reverse_cons, List.reverse_cons]; exact (ih r).snoc h
theorem RpL.set {xs : List V} {ds : List D} {v : V} {d : D} (r : RpL g H xs ds) (q : Rp g H v d) (n : Nat) : RpL g H (xs.set n v) (ds.set n d) := by
  induction xs generalizing ds n with
  | nil => cases r; exact .nil
  | cons x xs ih =>
    cases r with
    | cons h r =>
      cases n with
      | zero => exact .cons q r
      | succ n => exact .cons h (ih r n)
theorem RpL.eraseIdx {xs : List V} {ds : List D} (r : RpL g H xs ds) (n : Nat) : RpL g H (xs.eraseIdx n) (ds.eraseIdx n) := by
  induction xs generalizing ds n with
  | nil => cases r; exact .nil
  | cons x xs ih =>
    cases r with
    | cons h r =>
      cases n with
      | zero => exact r
      | succ n => exact .cons h (ih r n)
end

/-! the hidden ones -/
def hide (H : Hp) (ow : List Addr) : Hp := fun b => if b ∈ ow then none else H b
theorem hide_in {H : Hp} {ow : List Addr} {b : Addr} (h : b ∈ ow) : hide H ow b = none := if_pos h
theorem hide_out {H : Hp} {ow : List Addr} {b : Addr} (h : b ∉ ow) : hide H ow b = H b := if_neg h
theorem hide_some {H : Hp} {ow : List Addr} {b : Addr} {o : HO} (h : hide H ow b = some o) : b ∉ ow ∧ H b = some o := by
  by_cases q : b ∈ ow
  · rw [hide_in q] at h; cases h
  · rw [hide_out q] at h; exact ⟨q, h⟩
theorem hide_same (H : Hp) (ow : List Addr) : Same (hide H ow) H := fun _ _ h => (hide_some h).2
theorem hide_mono {H H' : Hp} {ow ow' : List Addr} (e : Same H H') (s : ∀ a ∈ ow', a ∈ ow ∨ H a = none) : Same (hide H ow) (hide H' ow') := fun b o h => by
  obtain ⟨n, q⟩ := hide_some h
  rw [hide_out (fun z => ?_)]
  · exact e _ _ q
  · rcases s b z with y | y
    · exact n y
    · rw [q] at y; cases y
theorem hide_nil (H : Hp) : hide H [] = H := by funext b; exact hide_out (by simp)
/-- a hidden one is changed -/
theorem hide_upd {H : Hp} {ow : List Addr} {a : Addr} {o : HO} (h : a ∈ ow) : hide (upd H a o) ow = hide H ow := by
  funext b
  by_cases q : b ∈ ow
  · rw [hide_in q, hide_in q]
  · rw [hide_out q, hide_out q, upd_ne (fun e => q (by rw [e]; exact h))]
theorem same_new {H : Hp} {p : Addr} {o : HO} (h : H p = none) : Same H (upd H p o) := fun b u e => by rw [upd_ne (ne_of_none e h)]; exact e

/-- the object at a, hidden, bears d; its parts are to be seen -/
def Own (g : G) (H : Hp) (ow : List Addr) (a : Addr) : D → Prop
  | .lst ds => ∃ xs, H a = some (.lst xs) ∧ RpL g (hide H ow) xs ds
  | .dct kds => ∃ kvs, H a = some (.dK kvs) ∧ RpK g (hide H ow) kvs kds
  | .dcT kds => ∃ kvs, H a = some (.dT kvs) ∧ RpT g (hide H ow) kvs kds
  | _ => False
theorem Own.there {g : G} {H : Hp} {ow : List Addr} {a : Addr} {d : D} (h : Own g H ow a d) : ∃ o, H a = some o := by
  cases d with
  | lst ds => obtain ⟨_, e, _⟩ := h; exact ⟨_, e⟩
  | dct ds => obtain ⟨_, e, _⟩ := h; exact ⟨_, e⟩
  | dcT ds => obtain ⟨_, e, _⟩ := h; exact ⟨_, e⟩
  | _ => exact h.elim
theorem Own.mono {g : G} {H H' : Hp} {ow ow' : List Addr} {a : Addr} {d : D} (h : Own g H ow a d) (e : Same H H') (s : ∀ a ∈ ow', a ∈ ow ∨ H a = none) : Own g H' ow' a d := by
  cases d with
  | lst ds => obtain ⟨xs, q, r⟩ := h; exact ⟨xs, e _ _ q, r.mono (hide_mono e s)⟩
  | dct ds => obtain ⟨xs, q, r⟩ := h; exact ⟨xs, e _ _ q, r.mono (hide_mono e s)⟩
  | dcT ds => obtain ⟨xs, q, r⟩ := h; exact ⟨xs, e _ _ q, r.mono (hide_mono e s)⟩
  | _ => exact h.elim
/-- given up: it is to be seen -/
theorem Own.give {g : G} {H : Hp} {ow ow' : List Addr} {a : Addr} {d : D} (h : Own g H ow a d) (n : a ∉ ow') (s : ∀ a ∈ ow', a ∈ ow) : Rp g (hide H ow') (.ref a) d := by
  have e : Same (hide H ow) (hide H ow') := hide_mono (Same.refl H) fun a z => .inl (s a z)
  cases d with
  | lst ds => obtain ⟨xs, q, r⟩ := h; exact .lst (.inl (by rw [hide_out n]; exact q)) (r.mono e)
  | dct ds => obtain ⟨xs, q, r⟩ := h; exact .dK (.inl (by rw [hide_out n]; exact q)) (r.mono e)
  | dcT ds => obtain ⟨xs, q, r⟩ := h; exact .dT (.inl (by rw [hide_out n]; exact q)) (r.mono e)
  | _ => exact h.elim

/-! the slots -/
abbrev Slot := Option (Bool × D)
abbrev Env := List Slot
structure EnvR (g : G) (H : Hp) (ow : List Addr) (σ : St) (ρ : Env) : Prop where
  len : ρ.length = σ.length
  live : ∀ a ∈ ow, ∃ o, H a = some o
  seen : ∀ (i : Nat) (d : D), ρ[i]? = some (some (false, d)) → ∃ v, σ[i]? = some (some v) ∧ Rp g (hide H ow) v d
  own : ∀ (i : Nat) (d : D), ρ[i]? = some (some (true, d)) → ∃ a, σ[i]? = some (some (.ref a)) ∧ a ∈ ow ∧ Own g H ow a d
  sep : ∀ (i j : Nat) (d e : D) (a : Addr), i ≠ j → ρ[i]? = some (some (true, d)) → ρ[j]? = some (some (true, e)) → σ[i]? = some (some (.ref a)) → σ[j]? ≠ some (some (.ref a))
/-- the results -/
def VR (g : G) (H H' : Hp) (ow : List Addr) (v : V) : Bool × D → Prop
  | (false, d) => Rp g (hide H' ow) v d
  | (true, d) => ∃ a, v = .ref a ∧ H a = none ∧ Own g H' (a :: ow) a d
theorem set_hit {α : Type} {l : List α} {i j : Nat} {a b : α} (h : (l.set i a)[j]? = some b) : (i = j ∧ i < l.length ∧ a = b) ∨ (i ≠ j ∧ l[j]? = some b) := by
  by_cases q : i = j
  · subst q
    by_cases z : i < l.length
    · rw [List.getElem?_set_self z] at h
      exact .inl ⟨rfl, z, Option.some.inj h⟩
    · rw [List.getElem?_eq_none (by simpa using z)] at h; cases h
  · rw [List.getElem?_set_ne q] at h
    exact .inr ⟨q, h⟩
section
variable {g : G} {H H' : Hp} {ow ow' : List Addr} {σ : St} {ρ : Env}
theorem EnvR.keep (E : EnvR g H ow σ ρ) (e : Same H H') : EnvR g H' ow σ ρ :=
  ⟨E.len, fun a h => let ⟨o, q⟩ := E.live a h; ⟨o, e _ _ q⟩, fun i d h => let ⟨v, q, r⟩ := E.seen i d h; ⟨v, q, r.mono (hide_mono e fun _ z => .inl z)⟩,
    fun i d h => let ⟨a, q, m, r⟩ := E.own i d h; ⟨a, q, m, r.mono e fun _ z => .inl z⟩, E.sep⟩
theorem mem_more {ow : List Addr} {H : Hp} {p : Addr} (n : H p = none) : ∀ a ∈ p :: ow, a ∈ ow ∨ H a = none := fun a h => by
  rcases List.mem_cons.mp h with rfl | h
  · exact .inr n
  · exact .inl h
/-- a further hidden one -/
theorem EnvR.more (E : EnvR g H ow σ ρ) {p : Addr} {o : HO} (n : H p = none) (e : Same H H') (q : H' p = some o) : EnvR g H' (p :: ow) σ ρ := by
  have s := mem_more (ow := ow) n
  refine ⟨E.len, fun a h => ?_, fun i d h => let ⟨v, q, r⟩ := E.seen i d h; ⟨v, q, r.mono (hide_mono e s)⟩, fun i d h => let ⟨a, q, m, r⟩ := E.own i d h; ⟨a, q, List.mem_cons_of_mem _ m, r.mono e s⟩, E.sep⟩
  rcases List.mem_cons.mp h with rfl | h
  · exact ⟨o, q⟩
  · obtain ⟨o, q⟩ := E.live a h; exact ⟨o, e _ _ q⟩
theorem not_new (E : ∀ a ∈ ow, ∃ o, H a = some o) {p : Addr} (n : H p = none) : p ∉ ow := fun h => by
  obtain ⟨o, q⟩ := E p h
  rw [q] at n; cases n
theorem VR.give {v : V} {x : Bool × D} (h : VR g H H' ow v x) (n : ∀ a ∈ ow, ∃ o, H a = some o) : Rp g (hide H' ow) v x.2 := by
  obtain ⟨b, d⟩ := x
  cases b with
  | false => exact h
  | true =>
    obtain ⟨a, rfl, q, r⟩ := h
    exact r.give (not_new n q) fun b z => List.mem_cons_of_mem _ z
theorem VR.from {H0 : Hp} {v : V} {x : Bool × D} (h : VR g H H' ow v x) (e : Same H0 H) : VR g H0 H' ow v x := by
  obtain ⟨b, d⟩ := x
  cases b with
  | false => exact h
  | true =>
    obtain ⟨a, rfl, q, r⟩ := h
    exact ⟨a, rfl, e.free q, r⟩
theorem VR.less {v : V} {x : Bool × D} (h : VR g H H' ow v x) (s : ∀ a ∈ ow', a ∈ ow) : VR g H H' ow' v x := by
  obtain ⟨b, d⟩ := x
  cases b with
  | false => exact Rp.mono (hide_mono (Same.refl _) fun a z => .inl (s a z)) h
  | true =>
    obtain ⟨a, rfl, q, r⟩ := h
    refine ⟨a, rfl, q, r.mono (Same.refl _) fun b z => ?_⟩
    rcases List.mem_cons.mp z with rfl | z
    · exact .inl List.mem_cons_self
    · exact .inl (List.mem_cons_of_mem _ (s b z))
/-- a new list -/
theorem VR.newL {p : Addr} {xs : List V} {ds : List D} (e : Same H H') (n : H' p = none) (r : RpL g (hide H' ow) xs ds) : VR g H (upd H' p (.lst xs)) ow (.ref p) (true, .lst ds) :=
  ⟨p, rfl, e.free n, xs, upd_same, r.mono (hide_mono (same_new n) (mem_more n))⟩
/-- a new tuple -/
theorem VR.newT {p : Addr} {xs : List V} {ds : List D} (n : H' p = none) (r : RpL g (hide H' ow) xs ds) (o : ∀ a ∈ ow, ∃ o, H' a = some o) : VR g H (upd H' p (.tup xs)) ow (.ref p) (false, .tup ds) :=
  show Rp g (hide (upd H' p (.tup xs)) ow) (.ref p) (.tup ds) from .tup (by rw [hide_out (not_new o n), upd_same]) (r.mono (hide_mono (same_new n) fun a z => .inl z))

/-- storing -/
theorem EnvR.store (E : EnvR g H ow σ ρ) {i : Nat} {v : V} {x : Bool × D} (e : Same H H') (h : VR g H H' ow v x) :
    ∃ ow', EnvR g H' ow' (σ.set i (some v)) (ρ.set i (some x)) ∧ (∀ a ∈ ow, a ∈ ow') ∧ (∀ a ∈ ow', a ∈ ow ∨ H a = none) := by
  obtain ⟨b, d⟩ := x
  have E' := E.keep e
  have hl : (ρ.set i (some (b, d))).length = (σ.set i (some v)).length := by rw [List.length_set, List.length_set]; exact E.len
  cases b with
  | false =>
    refine ⟨ow, ⟨hl, E'.live, fun j d' hj => ?_, fun j d' hj => ?_, fun j k d1 d2 a hne h1 h2 h3 h4 => ?_⟩, fun a h => h, fun a h => .inl h⟩
    · rcases set_hit hj with ⟨rfl, l, q⟩ | ⟨q, hj⟩
      · cases q
        exact ⟨v, List.getElem?_set_self (E.len ▸ l), h⟩
      · obtain ⟨u, r1, r2⟩ := E'.seen j d' hj
        exact ⟨u, by rw [List.getElem?_set_ne q]; exact r1, r2⟩
    · rcases set_hit hj with ⟨rfl, l, q⟩ | ⟨q, hj⟩
      · cases q
      · obtain ⟨u, r1, r2⟩ := E'.own j d' hj
        exact ⟨u, by rw [List.getElem?_set_ne q]; exact r1, r2⟩
    · rcases set_hit h1 with ⟨_, _, q⟩ | ⟨q1, h1⟩
      · cases q
      · rcases set_hit h2 with ⟨_, _, q⟩ | ⟨q2, h2⟩
        · cases q
        · rw [List.getElem?_set_ne q1] at h3
          rw [List.getElem?_set_ne q2] at h4
          exact E.sep j k d1 d2 a hne h1 h2 h3 h4
  | true =>
    obtain ⟨p, rfl, n, r⟩ := h
    obtain ⟨o, ho⟩ := r.there
    have E2 := E.more n e ho
    have np : ∀ (j : Nat) (d : D), ρ[j]? = some (some (true, d)) → σ[j]? ≠ some (some (.ref p)) := fun j d q z => by
      obtain ⟨a, q1, q2, _⟩ := E.own j d q
      rw [q1] at z
      cases z
      exact not_new E.live n q2
    refine ⟨p :: ow, ⟨hl, E2.live, fun j d' hj => ?_, fun j d' hj => ?_, fun j k d1 d2 a hne h1 h2 h3 h4 => ?_⟩, fun a h => List.mem_cons_of_mem _ h, mem_more n⟩
    · rcases set_hit hj with ⟨rfl, l, q⟩ | ⟨q, hj⟩
      · cases q
      · obtain ⟨u, r1, r2⟩ := E2.seen j d' hj
        exact ⟨u, by rw [List.getElem?_set_ne q]; exact r1, r2⟩
    · rcases set_hit hj with ⟨rfl, l, q⟩ | ⟨q, hj⟩
      · cases q
        exact ⟨p, List.getElem?_set_self (E.len ▸ l), List.mem_cons_self, r⟩
      · obtain ⟨u, r1, r2⟩ := E2.own j d' hj
        exact ⟨u, by rw [List.getElem?_set_ne q]; exact r1, r2⟩
    · rcases set_hit h1 with ⟨rfl, l1, q⟩ | ⟨q1, h1⟩
      · rcases set_hit h2 with ⟨rfl, _, q⟩ | ⟨q2, h2⟩
        · exact hne rfl
        · rw [List.getElem?_set_ne q2] at h4
          rw [List.getElem?_set_self (E.len ▸ l1)] at h3
          cases h3
          exact np k d2 h2 h4
      · rcases set_hit h2 with ⟨rfl, l2, q⟩ | ⟨q2, h2⟩
        · rw [List.getElem?_set_ne q1] at h3
          rw [List.getElem?_set_self (E.len ▸ l2)] at h4
          cases h4
          exact np j d1 h1 h3
        · rw [List.getElem?_set_ne q1] at h3
          rw [List.getElem?_set_ne q2] at h4
          exact E.sep j k d1 d2 a hne h1 h2 h3 h4
/-- forgetting -/
theorem EnvR.wipe1 (E : EnvR g H ow σ ρ) (i : Nat) : EnvR g H ow (σ.set i none) (ρ.set i none) := by
  refine ⟨by rw [List.length_set, List.length_set]; exact E.len, E.live, fun j d' hj => ?_, fun j d' hj => ?_, fun j k d1 d2 a hne h1 h2 h3 h4 => ?_⟩
  · rcases set_hit hj with ⟨_, _, q⟩ | ⟨q, hj⟩
    · cases q
    · obtain ⟨u, r1, r2⟩ := E.seen j d' hj
      exact ⟨u, by rw [List.getElem?_set_ne q]; exact r1, r2⟩
  · rcases set_hit hj with ⟨_, _, q⟩ | ⟨q, hj⟩
    · cases q
    · obtain ⟨u, r1, r2⟩ := E.own j d' hj
      exact ⟨u, by rw [List.getElem?_set_ne q]; exact r1, r2⟩
  · rcases set_hit h1 with ⟨_, _, q⟩ | ⟨q1, h1⟩
    · cases q
    · rcases set_hit h2 with ⟨_, _, q⟩ | ⟨q2, h2⟩
      · cases q
      · rw [List.getElem?_set_ne q1] at h3
        rw [List.getElem?_set_ne q2] at h4
        exact E.sep j k d1 d2 a hne h1 h2 h3 h4
def wipeE (ρ : Env) : List Nat → Env
  | [] => ρ
  | v :: vs => (wipeE ρ vs).set v none
theorem EnvR.wipe (E : EnvR g H ow σ ρ) : ∀ vs : List Nat, EnvR g H ow (wipe σ vs) (wipeE ρ vs)
  | [] => E
  | v :: vs => (EnvR.wipe E vs).wipe1 v
/-- one slot is given up -/
def frzS : Slot → Slot
  | some (_, d) => some (false, d)
  | none => none
def frz (i : Nat) (ρ : Env) : Env := ρ.modify i frzS
def frzAll (ρ : Env) : Env := ρ.map frzS
theorem EnvR.frzAll (E : EnvR g H ow σ ρ) (n : ∀ a ∈ ow', a ∈ ow) (q : ∀ (i : Nat) (d : D) (a : Addr), ρ[i]? = some (some (true, d)) → σ[i]? = some (some (.ref a)) → a ∉ ow') : EnvR g H ow' σ (frzAll ρ) := by
  have s : Same (hide H ow) (hide H ow') := hide_mono (Same.refl _) fun a z => .inl (n a z)
  have tr : ∀ (i : Nat) (b : Bool) (d : D), (Fv.frzAll ρ)[i]? = some (some (b, d)) → b = false ∧ ∃ b', ρ[i]? = some (some (b', d)) := fun i b d h => by
    unfold Fv.frzAll at h
    rw [List.getElem?_map] at h
    cases z : ρ[i]? with
    | none => rw [z] at h; cases h
    | some o =>
      rw [z] at h
      cases o with
      | none => cases h
      | some p => obtain ⟨b', d'⟩ := p; cases h; exact ⟨rfl, b', rfl⟩
  refine ⟨by unfold Fv.frzAll; rw [List.length_map]; exact E.len, fun a h => E.live a (n a h), fun i d h => ?_, fun i d h => ?_, fun i j d e a _ h _ _ _ => ?_⟩
  · obtain ⟨_, b', h⟩ := tr _ _ _ h
    cases b' with
    | false =>
      obtain ⟨v, r1, r2⟩ := E.seen i d h
      exact ⟨v, r1, r2.mono s⟩
    | true =>
      obtain ⟨a, r1, r2, r3⟩ := E.own i d h
      exact ⟨_, r1, r3.give (q i d a h r1) n⟩
  · cases (tr _ _ _ h).1
  · cases (tr _ _ _ h).1
theorem frz_get (i j : Nat) (ρ : Env) : (frz i ρ)[j]? = if i = j then (ρ[j]?).map frzS else ρ[j]? := by
  unfold frz
  rw [List.getElem?_modify]
  split <;> simp
theorem EnvR.frz (E : EnvR g H ow σ ρ) (i : Nat) : ∃ ow', EnvR g H ow' σ (frz i ρ) ∧ (∀ a ∈ ow', a ∈ ow) ∧ (∀ a ∈ ow, a ∈ ow' ∨ ∃ d, ρ[i]? = some (some (true, d)) ∧ σ[i]? = some (some (.ref a))) := by
  cases z : ρ[i]? with
  | none =>
    have e : Fv.frz i ρ = ρ := List.ext_getElem? fun j => by
      rw [frz_get]; split
      · rename_i q; subst q; rw [z]; rfl
      · rfl
    exact ⟨ow, by rw [e]; exact E, fun a h => h, fun a h => .inl h⟩
  | some o =>
    match o, z with
    | none, z =>
      have e : Fv.frz i ρ = ρ := List.ext_getElem? fun j => by
        rw [frz_get]; split
        · rename_i q; subst q; rw [z]; rfl
        · rfl
      exact ⟨ow, by rw [e]; exact E, fun a h => h, fun a h => .inl h⟩
    | some (false, d), z =>
      have e : Fv.frz i ρ = ρ := List.ext_getElem? fun j => by
        rw [frz_get]; split
        · rename_i q; subst q; rw [z]; rfl
        · rfl
      exact ⟨ow, by rw [e]; exact E, fun a h => h, fun a h => .inl h⟩
    | some (true, d), z =>
      obtain ⟨p, r1, r2, r3⟩ := E.own i d z
      have n : ∀ a ∈ ow.filter (fun a => decide (a ≠ p)), a ∈ ow := fun a h => (List.mem_filter.mp h).1
      have np : p ∉ ow.filter (fun a => decide (a ≠ p)) := fun h => by simpa using (List.mem_filter.mp h).2
      have s : Same (hide H ow) (hide H (ow.filter fun a => decide (a ≠ p))) := hide_mono (Same.refl _) fun a z => .inl (n a z)
      refine ⟨ow.filter (fun a => decide (a ≠ p)), ⟨by unfold Fv.frz; rw [List.length_modify]; exact E.len, fun a h => E.live a (n a h), fun j d' hj => ?_, fun j d' hj => ?_, fun j k d1 d2 a hne h1 h2 h3 h4 => ?_⟩, n, fun a h => ?_⟩
      · rw [frz_get] at hj
        split at hj
        · rename_i q
          subst q
          rw [z] at hj
          cases hj
          exact ⟨_, r1, r3.give np n⟩
        · obtain ⟨v, q1, q2⟩ := E.seen j d' hj
          exact ⟨v, q1, q2.mono s⟩
      · rw [frz_get] at hj
        split at hj
        · rename_i q
          subst q
          rw [z] at hj
          cases hj
        · rename_i q
          obtain ⟨a, q1, q2, q3⟩ := E.own j d' hj
          have nap : a ≠ p := fun y => by
            subst y
            exact E.sep i j d d' a q z hj r1 q1
          refine ⟨a, q1, List.mem_filter.mpr ⟨q2, by simpa using nap⟩, q3.mono (Same.refl _) fun b y => .inl (n b y)⟩
      · have t : ∀ (j : Nat) (d' : D), (Fv.frz i ρ)[j]? = some (some (true, d')) → ρ[j]? = some (some (true, d')) := fun j d' hj => by
          rw [frz_get] at hj
          split at hj
          · rename_i q
            subst q
            rw [z] at hj
            cases hj
          · exact hj
        exact E.sep j k d1 d2 a hne (t _ _ h1) (t _ _ h2) h3 h4
      · by_cases q : a = p
        · subst q
          exact .inr ⟨d, rfl, r1⟩
        · exact .inl (List.mem_filter.mpr ⟨h, by simpa using q⟩)
/-- an own one is changed in place -/
theorem EnvR.change (E : EnvR g H ow σ ρ) {i : Nat} {d d' : D} {a : Addr} {o : HO} (hi : ρ[i]? = some (some (true, d))) (ha : σ[i]? = some (some (.ref a))) (n : Own g (upd H a o) ow a d') : EnvR g (upd H a o) ow σ (ρ.set i (some (true, d'))) := by
  obtain ⟨a', q1, q2, q3⟩ := E.own i d hi
  rw [ha] at q1
  cases q1
  have hs : hide (upd H a o) ow = hide H ow := hide_upd q2
  refine ⟨by rw [List.length_set]; exact E.len, fun b h => ?_, fun j e hj => ?_, fun j e hj => ?_, fun j k d1 d2 b hne h1 h2 h3 h4 => ?_⟩
  · by_cases q : b = a
    · subst q; exact ⟨o, upd_same⟩
    · obtain ⟨u, y⟩ := E.live b h
      exact ⟨u, by rw [upd_ne q]; exact y⟩
  · rcases set_hit hj with ⟨_, _, q⟩ | ⟨q, hj⟩
    · cases q
    · rw [hs]
      exact E.seen j e hj
  · rcases set_hit hj with ⟨rfl, _, q⟩ | ⟨q, hj⟩
    · cases q
      exact ⟨a, ha, q2, n⟩
    · obtain ⟨b, y1, y2, y3⟩ := E.own j e hj
      have nb : b ≠ a := fun y => by
        subst y
        exact E.sep i j d e b q hi hj ha y1
      refine ⟨b, y1, y2, ?_⟩
      cases e with
      | lst ds =>
        obtain ⟨xs, z1, z2⟩ := y3
        exact ⟨xs, by rw [upd_ne nb]; exact z1, by rw [hs]; exact z2⟩
      | dct ds =>
        obtain ⟨xs, z1, z2⟩ := y3
        exact ⟨xs, by rw [upd_ne nb]; exact z1, by rw [hs]; exact z2⟩
      | dcT ds =>
        obtain ⟨xs, z1, z2⟩ := y3
        exact ⟨xs, by rw [upd_ne nb]; exact z1, by rw [hs]; exact z2⟩
      | _ => exact y3.elim
  · have t : ∀ (j : Nat) (e : D), (ρ.set i (some (true, d')))[j]? = some (some (true, e)) → ∃ e', ρ[j]? = some (some (true, e')) := fun j e hj => by
      rcases set_hit hj with ⟨rfl, _, q⟩ | ⟨q, hj⟩
      · exact ⟨d, hi⟩
      · exact ⟨e, hj⟩
    obtain ⟨e1, h1⟩ := t _ _ h1
    obtain ⟨e2, h2⟩ := t _ _ h2
    exact E.sep j k e1 e2 b hne h1 h2 h3 h4
end

/-! the readings -/
/-- an exception's own fields -/
def XcR (g : G) (H : Hp) (d : Option Addr) (fs : List (Str × D)) : Prop :=
  (d = none ∧ fs = []) ∨ ∃ (dx : Addr) (vs : List (Str × V)), d = some dx ∧ H dx = some (.xd vs) ∧ RpF g H vs fs
def Out {α β : Type} (g : G) (W : WX) (RR : Hp → β → α → Prop) (H : Hp) (σ : St) (Q : β → Hp → Prop) : R α → Prop
  | .ok a => ∀ b H', Same H H' → RR H' b a → Q b H'
  | .exc c fs => ∀ (C : Addr) d H', Same H H' → g.mg c = some (.ref C) → XcR g H' d fs → W (.ref C) d σ H'
  | .stuck => False
theorem Out.bind {α β γ δ : Type} {g : G} {W : WX} {RA : Hp → β → α → Prop} {RC : Hp → δ → γ → Prop} {H : Hp} {σ : St} {Q : δ → Hp → Prop} {Q' : β → Hp → Prop} {x : R α} {k : α → R γ}
    (m : Out g W RC H σ Q (x >>= k)) (cont : ∀ a b H', Same H H' → RA H' b a → Out g W RC H σ Q (k a) → Q' b H') : Out g W RA H σ Q' x := by
  cases x with
  | ok a => exact fun b H' e r => cont a b H' e r m
  | exc c fs => exact m
  | stuck => exact m
abbrev OutE (g : G) (W : WX) (H : Hp) (ow : List Addr) (σ : St) (Q : VK) : R (Bool × D) → Prop := Out g W (fun H' v x => VR g H H' ow v x) H σ Q
abbrev OutT (g : G) (W : WX) (H : Hp) (σ : St) (Q : Bool → Hp → Prop) : R Bool → Prop := Out g W (fun _ b c => b = c) H σ Q
abbrev OutA (g : G) (W : WX) (H : Hp) (ow : List Addr) (σ : St) (Q : List V → Hp → Prop) : R (List D) → Prop := Out g W (fun H' vs ds => RpL g (hide H' ow) vs ds) H σ Q
theorem OutE.from {g : G} {W : WX} {H H1 : Hp} {ow : List Addr} {σ : St} {Q : VK} {r : R (Bool × D)} (m : OutE g W H ow σ Q r) (e : Same H H1) : OutE g W H1 ow σ Q r := by
  cases r with
  | ok x => exact fun v H' e' r => m v H' (e.trans e') (r.from e)
  | exc c fs => exact fun C d H' e' => m C d H' (e.trans e')
  | stuck => exact m
theorem OutT.from {g : G} {W : WX} {H H1 : Hp} {σ : St} {Q : Bool → Hp → Prop} {r : R Bool} (m : OutT g W H σ Q r) (e : Same H H1) : OutT g W H1 σ Q r := by
  cases r with
  | ok x => exact fun v H' e' r => m v H' (e.trans e') r
  | exc c fs => exact fun C d H' e' => m C d H' (e.trans e')
  | stuck => exact m
theorem OutA.from {g : G} {W : WX} {H H1 : Hp} {ow : List Addr} {σ : St} {Q : List V → Hp → Prop} {r : R (List D)} (m : OutA g W H ow σ Q r) (e : Same H H1) : OutA g W H1 ow σ Q r := by
  cases r with
  | ok x => exact fun v H' e' r => m v H' (e.trans e') r
  | exc c fs => exact fun C d H' e' => m C d H' (e.trans e')
  | stuck => exact m
def tE (g : G) (W : WX) (f : Env → R (Bool × D)) : TE := fun σ H Q => ∃ (ρ : Env) (ow : List Addr), EnvR g H ow σ ρ ∧ OutE g W H ow σ Q (f ρ)
def tT (g : G) (W : WX) (f : Env → R Bool) : TT := fun σ H Q => ∃ (ρ : Env) (ow : List Addr), EnvR g H ow σ ρ ∧ OutT g W H σ Q (f ρ)
def tA (g : G) (W : WX) (f : Env → R (List D)) : TA := fun σ H Q => ∃ (ρ : Env) (ow : List Addr), EnvR g H ow σ ρ ∧ OutA g W H ow σ Q (f ρ)
abbrev FE (X : Cx) (W : WX) (e : Expr) (f : Env → R (Bool × D)) : Prop := PE X e (tE (gx X) W f)
abbrev FT (X : Cx) (W : WX) (e : Expr) (f : Env → R Bool) : Prop := PT X e (tT (gx X) W f)
abbrev FA (X : Cx) (W : WX) (es : List Expr) (f : Env → R (List D)) : Prop := PA X es (tA (gx X) W f)

inductive Res where
  | nx (ρ : Env) | brk (ρ : Env) | ct (ρ : Env) | ret (x : Bool × D) | exc (c : Str) (fs : List (Str × D)) (ρ : Env) | stuck
structure SR (g : G) (B H0 : Hp) (ow0 : List Addr) (H : Hp) (ow : List Addr) (σ : St) (ρ : Env) : Prop where
  env : EnvR g H ow σ ρ
  same : Same B (hide H ow)
  ent : Same H0 H
  sub : ∀ a ∈ ow0, a ∈ ow
  olive : ∀ a ∈ ow0, ∃ o, H0 a = some o
  fresh : ∀ (i : Nat) (d : D) (a : Addr), ρ[i]? = some (some (true, d)) → σ[i]? = some (some (.ref a)) → H0 a = none
def EndR (g : G) (W : WX) (D0 : Ends) (B H0 : Hp) (ow0 : List Addr) : Res → Prop
  | .nx ρ => ∀ σ H ow, SR g B H0 ow0 H ow σ ρ → D0.nx σ H
  | .brk ρ => ∀ σ H ow, SR g B H0 ow0 H ow σ ρ → D0.bk σ H
  | .ct ρ => ∀ σ H ow, SR g B H0 ow0 H ow σ ρ → D0.ct σ H
  | .ret x => ∀ v H, Same H0 H → VR g H0 H ow0 v x → D0.rt v H
  | .exc c fs ρ => ∀ (C : Addr) d σ H ow, SR g B H0 ow0 H ow σ ρ → g.mg c = some (.ref C) → XcR g H d fs → W (.ref C) d σ H
  | .stuck => False
def tS (g : G) (W : WX) (f : Env → Res) : TS := fun D0 σ H => ∃ (ρ : Env) (ow : List Addr) (B H0 : Hp) (ow0 : List Addr), SR g B H0 ow0 H ow σ ρ ∧ EndR g W D0 B H0 ow0 (f ρ)
abbrev FS (X : Cx) (W : WX) (st : Stmt) (f : Env → Res) : Prop := PS X st (tS (gx X) W f)
abbrev FSs (X : Cx) (W : WX) (st : List Stmt) (f : Env → Res) : Prop := PSs X st (tS (gx X) W f)

section
variable {g : G} {B B' H0 H H' : Hp} {ow0 ow ow' : List Addr} {σ : St} {ρ : Env} {W : WX} {D0 : Ends}
theorem SR.keep (S : SR g B H0 ow0 H ow σ ρ) (e : Same H H') : SR g B H0 ow0 H' ow σ ρ :=
  ⟨S.env.keep e, S.same.trans (hide_mono e fun _ z => .inl z), S.ent.trans e, S.sub, S.olive, S.fresh⟩
theorem SR.store (S : SR g B H0 ow0 H ow σ ρ) {i : Nat} {v : V} {x : Bool × D} (e : Same H H') (h : VR g H H' ow v x) : ∃ ow', SR g B H0 ow0 H' ow' (σ.set i (some v)) (ρ.set i (some x)) := by
  obtain ⟨ow', E, s1, s2⟩ := S.env.store (i := i) e h
  refine ⟨ow', E, S.same.trans (hide_mono e s2), S.ent.trans e, fun a z => s1 a (S.sub a z), S.olive, fun j d a hj ha => ?_⟩
  rcases set_hit hj with ⟨rfl, l, q⟩ | ⟨q, hj⟩
  · cases q
    obtain ⟨p, rfl, n, _⟩ := h
    rw [List.getElem?_set_self (S.env.len ▸ l)] at ha
    cases ha
    exact S.ent.free n
  · rw [List.getElem?_set_ne q] at ha
    exact S.fresh j d a hj ha
theorem SR.frz (S : SR g B H0 ow0 H ow σ ρ) (i : Nat) : ∃ ow', SR g B H0 ow0 H ow' σ (frz i ρ) := by
  obtain ⟨ow', E, s1, s2⟩ := S.env.frz i
  refine ⟨ow', E, S.same.trans (hide_mono (Same.refl _) fun a z => .inl (s1 a z)), S.ent, fun a z => ?_, S.olive, fun j d a hj ha => ?_⟩
  · rcases s2 a (S.sub a z) with q | ⟨d, q1, q2⟩
    · exact q
    · obtain ⟨o, y⟩ := S.olive a z
      rw [S.fresh i d a q1 q2] at y
      cases y
  · rw [frz_get] at hj
    split at hj
    · rename_i q
      subst q
      cases y : ρ[i]? with
      | none => rw [y] at hj; cases hj
      | some o =>
        rw [y] at hj
        cases o with
        | none => cases hj
        | some p => cases hj
    · exact S.fresh j d a hj ha
end
theorem tupT {K : PySem.W.Frag} {H : Hp} {ow : List Addr} {a : Addr} {xs : List V} (h : hide H ow a = some (.tup xs)) : SqT K H a xs := .inl (.inl (hide_same H ow _ _ h))
end Fv

namespace Fv
open PySem L2
theorem PE.imp {X : Cx} {e : Expr} {t t' : TE} (h : PE X e t) (i : ∀ σ H Q, t' σ H Q → t σ H Q) : PE X e t' := ⟨fun pins s σ H Q I w => h.run pins s σ H Q I (i _ _ _ w)⟩
theorem PT.imp {X : Cx} {e : Expr} {t t' : TT} (h : PT X e t) (i : ∀ σ H Q, t' σ H Q → t σ H Q) : PT X e t' := ⟨fun pins s σ H Q I w => h.run pins s σ H Q I (i _ _ _ w)⟩
theorem PA.imp {X : Cx} {e : List Expr} {t t' : TA} (h : PA X e t) (i : ∀ σ H Q, t' σ H Q → t σ H Q) : PA X e t' := ⟨fun pos pins s σ H Q I w => h.run pos pins s σ H Q I (i _ _ _ w)⟩
theorem PS.imp {X : Cx} {e : Stmt} {t t' : TS} (h : PS X e t) (i : ∀ D0 σ H, t' D0 σ H → t D0 σ H) : PS X e t' := ⟨fun pins s σ H D0 I w => h.run pins s σ H D0 I (i _ _ _ w)⟩
theorem PSs.imp {X : Cx} {e : List Stmt} {t t' : TS} (h : PSs X e t) (i : ∀ D0 σ H, t' D0 σ H → t D0 σ H) : PSs X e t' := ⟨fun pins s σ H D0 I w => h.run pins s σ H D0 I (i _ _ _ w)⟩

abbrev EF := Env → R (Bool × D)
abbrev sh (d : D) : R (Bool × D) := .ok (false, d)
abbrev nw (d : D) : R (Bool × D) := .ok (true, d)
section
variable {X : Cx} {W : WX} {pos : Pos} {a b c e : Expr} {fa fb fc f : EF}

/-! ### names, constants -/
def fVar (i : Nat) : EF := fun ρ => match ρ[i]? with
  | some (some (false, d)) => sh d
  | _ => .stuck
theorem fe_of {t : TE} (h : PE X e t) (i : ∀ ρ ow σ H Q, EnvR (gx X) H ow σ ρ → OutE (gx X) W H ow σ Q (f ρ) → t σ H Q) : FE X W e f :=
  PE.imp h fun σ H Q ⟨ρ, ow, E, m⟩ => i ρ ow σ H Q E m
theorem fe_var (i : Nat) {x : Str} (hN : X.N[i]? = some x := by rfl) (hv : Vis X.env.scope x := by first | exact Or.inl rfl | exact Or.inr (Or.inl rfl) | exact Or.inr (Or.inr rfl)) (hd : (x == ("__debug__" : Str)) = false := by decide)
    (hcd : (x == ("__classdict__" : Str)) = false := by decide) : FE X W (.Name x pos) (fVar i) := by
  refine fe_of (pe_var hN hv hd hcd) fun ρ ow σ H Q E m => ?_
  unfold fVar at m
  split at m
  · rename_i d h
    obtain ⟨v, h1, h2⟩ := E.seen i d h
    exact ⟨v, h1, m v H (Same.refl _) h2⟩
  · exact m.elim
def fC (d : D) : EF := fun _ => sh d
theorem fe_int {i : Int} {j : Nat} : FE X W (.Constant (.int i) j pos) (fC (.int i)) := fe_of pe_int fun _ _ _ H Q _ m => m (.int i) H (Same.refl _) (.int i)
theorem fe_bl {i : Bool} {j : Nat} : FE X W (.Constant (.bool i) j pos) (fC (.bl i)) := fe_of pe_bl fun _ _ _ H Q _ m => m (.bl i) H (Same.refl _) (.bl i)
theorem fe_non {j : Nat} : FE X W (.Constant .none j pos) (fC .non) := fe_of pe_non fun _ _ _ H Q _ m => m .non H (Same.refl _) .non
theorem fe_str {x : Str} {j : Nat} : FE X W (.Constant (.str x) j pos) (fC (.str x)) := fe_of pe_str fun _ _ _ H Q _ m => m (.str x) H (Same.refl _) (.str x)

/-! ### rules by values -/
def Lk1 (g : G) (r : V → Hp → VK → Prop) (o : D → R (Bool × D)) : Prop := ∀ {W : WX} {H : Hp} {ow : List Addr} {σ : St} {Q : VK} {x : V} {dx : D}, (∀ a ∈ ow, ∃ o, H a = some o) → Rp g (hide H ow) x dx → OutE g W H ow σ Q (o dx) → r x H Q
def Lk2 (g : G) (r : R2) (o : D → D → R (Bool × D)) : Prop := ∀ {W : WX} {H : Hp} {ow : List Addr} {σ : St} {Q : VK} {x y : V} {dx dy : D}, (∀ a ∈ ow, ∃ o, H a = some o) → Rp g (hide H ow) x dx → Rp g (hide H ow) y dy → OutE g W H ow σ Q (o dx dy) → r x y H Q
def LkA (g : G) (r : List V → Hp → VK → Prop) (o : List D → R (Bool × D)) : Prop := ∀ {W : WX} {H : Hp} {ow : List Addr} {σ : St} {Q : VK} {xs : List V} {ds : List D}, (∀ a ∈ ow, ∃ o, H a = some o) → RpL g (hide H ow) xs ds → OutE g W H ow σ Q (o ds) → r xs H Q
def fOp (o : D → D → R (Bool × D)) (fa fb : EF) : EF := fun ρ => do
  let x ← fa ρ
  let y ← fb ρ
  o x.2 y.2
def fUn (o : D → R (Bool × D)) (fa : EF) : EF := fun ρ => do
  let x ← fa ρ
  o x.2
/-- two in a row -/
theorem two {R0 : V → V → Hp → Prop} {ρ : Env} {ow : List Addr} {σ : St} {H : Hp} {Q : VK} {o : D → D → R (Bool × D)} (E : EnvR (gx X) H ow σ ρ) (m : OutE (gx X) W H ow σ Q (fOp o fa fb ρ))
    (k : ∀ x y dx dy H2, EnvR (gx X) H2 ow σ ρ → Rp (gx X) (hide H2 ow) x dx → Rp (gx X) (hide H2 ow) y dy → OutE (gx X) W H2 ow σ Q (o dx dy) → R0 x y H2) :
    tE (gx X) W fa σ H fun x H1 => tE (gx X) W fb σ H1 fun y H2 => R0 x y H2 := by
  refine ⟨ρ, ow, E, Out.bind m fun dx x H1 e1 r1 m1 => ?_⟩
  refine ⟨ρ, ow, E.keep e1, Out.bind (OutE.from m1 e1) fun dy y H2 e2 r2 m2 => ?_⟩
  have E2 := (E.keep e1).keep e2
  exact k x y dx.2 dy.2 H2 E2 ((r1.give E.live).mono (hide_mono e2 fun _ z => .inl z)) (r2.give (E.keep e1).live) (OutE.from m2 e2)
theorem fe_bin {op : Operator} {r : R2} {o : D → D → R (Bool × D)} (ho : OpR X (binaryOp op) r) (l : Lk2 (gx X) r o) (ha : FE X W a fa) (hb : FE X W b fb) : FE X W (.BinOp a op b pos) (fOp o fa fb) :=
  fe_of (pe_op ho ha hb) fun ρ ow σ H Q E m => two E m fun x y dx dy H2 E2 r1 r2 m2 => l E2.live r1 r2 m2
theorem fe_un {op : UnaryOp} {r : V → Hp → VK → Prop} {o : D → R (Bool × D)} (ho : UnR X (unaryOp op) r) (l : Lk1 (gx X) r o) (ha : FE X W a fa) : FE X W (.UnaryOp op a pos) (fUn o fa) :=
  fe_of (pe_un ho ha) fun ρ ow σ H Q E m => ⟨ρ, ow, E, Out.bind m fun dx x H1 e1 r1 m1 => l (E.keep e1).live (r1.give E.live) (OutE.from m1 e1)⟩
theorem fe_cmp {op : CmpOp} {r : R2} {o : D → D → R (Bool × D)} (ho : OpR X (compareOp op) r) (l : Lk2 (gx X) r o) (ha : FE X W a fa) (hb : FE X W b fb) (hm : behindInMarks op b = false := by first | exact nomark _ | rfl) : FE X W (.Compare a [op] [b] pos) (fOp o fa fb) :=
  fe_of (pe_cmpR ho ha hb hm) fun ρ ow σ H Q E m => two E m fun x y dx dy H2 E2 r1 r2 m2 => l E2.live r1 r2 m2
theorem fe_ix {r : R2} {o : D → D → R (Bool × D)} (ho : IxR X r) (l : Lk2 (gx X) r o) (ha : FE X W a fa) (hb : FE X W b fb) (hs : PlainIx b := by intro _ _; rfl) : FE X W (.Subscript a b pos) (fOp o fa fb) :=
  fe_of (pe_ix ho ha hb hs) fun ρ ow σ H Q E m => two E m fun x y dx dy H2 E2 r1 r2 m2 => l E2.live r1 r2 m2

/-! ### tests -/
abbrev TF := Env → R Bool
def fTst (f : EF) : TF := fun ρ => do
  let x ← f ρ
  match x.2 with
  | .bl c => .ok c
  | _ => .stuck
theorem Rp.bool {g : G} {H : Hp} {v : V} {c : Bool} (h : Rp g H v (.bl c)) : v = .bl c := by cases h; rfl
theorem Rp.int_ {g : G} {H : Hp} {v : V} {c : Int} (h : Rp g H v (.int c)) : v = .int c := by cases h; rfl
theorem Rp.str_ {g : G} {H : Hp} {v : V} {c : Str} (h : Rp g H v (.str c)) : v = .str c := by cases h; rfl
theorem Rp.non_ {g : G} {H : Hp} {v : V} (h : Rp g H v .non) : v = .non := by cases h; rfl
theorem ft_of {t : TT} {f : TF} (h : PT X e t) (i : ∀ ρ ow σ H Q, EnvR (gx X) H ow σ ρ → OutT (gx X) W H σ Q (f ρ) → t σ H Q) : FT X W e f :=
  PT.imp h fun σ H Q ⟨ρ, ow, E, m⟩ => i ρ ow σ H Q E m
theorem tst {ρ : Env} {ow : List Addr} {σ : St} {H : Hp} {Q : Bool → Hp → Prop} (E : EnvR (gx X) H ow σ ρ) (m : OutT (gx X) W H σ Q (fTst f ρ)) : tE (gx X) W f σ H fun x H1 => ∃ c, x = .bl c ∧ Q c H1 := by
  refine ⟨ρ, ow, E, Out.bind m fun dx x H1 e1 r1 m1 => ?_⟩
  have r := r1.give E.live
  revert r m1
  cases dx.2 with
  | bl c => intro m1 r; exact ⟨c, r.bool, m1 c H1 e1 rfl⟩
  | _ => intro m1 r; exact m1.elim
/-- a value that is a bool -/
theorem ft_val (h : FE X W e f) (he : ∀ whole, isTrue e X.env whole = (do let v ← whole; standAt e.pos; holding [v] (truthy v)) := by intro _; rfl) : FT X W e (fTst f) :=
  ft_of (pt_val h he) fun ρ ow σ H Q E m => tst E m
theorem ft_cmp {op : CmpOp} {r : R2} {o : D → D → R (Bool × D)} (ho : OpR X (compareOp op) r) (l : Lk2 (gx X) r o) (ha : FE X W a fa) (hb : FE X W b fb) (hm : behindInMarks op b = false := by first | exact nomark _ | rfl) : FT X W (.Compare a [op] [b] pos) (fTst (fOp o fa fb)) := by
  refine ft_of (pt_cmpR ho ha hb hm) fun ρ ow σ H Q E m => ?_
  obtain ⟨ρ', ow', E', m'⟩ := tst E m
  exact two E' m' fun x y dx dy H2 E2 r1 r2 m2 => l E2.live r1 r2 m2
def fNotT (f : TF) : TF := fun ρ => do
  let c ← f ρ
  .ok (!c)
theorem ft_not {f : TF} (h : FT X W a f) : FT X W (.UnaryOp .Not a pos) (fNotT f) :=
  ft_of (pt_not h) fun ρ ow σ H Q E m => ⟨ρ, ow, E, Out.bind m fun c b H1 e1 r1 m1 => by subst r1; exact m1 _ H1 e1 rfl⟩
def fAndT (f u : TF) : TF := fun ρ => do
  let c ← f ρ
  if c = true then u ρ else .ok false
def fOrT (f u : TF) : TF := fun ρ => do
  let c ← f ρ
  if c = true then .ok true else u ρ
abbrev FW (X : Cx) (W : WX) (e : Expr) (f : TF) : Prop := PW X e (tT (gx X) W f)
theorem PW.imp {t t' : TT} (h : PW X e t) (i : ∀ σ H Q, t' σ H Q → t σ H Q) : PW X e t' := ⟨fun wh pins s σ H Q I w => h.run wh pins s σ H Q I (i _ _ _ w)⟩
theorem fw_and1 {f : TF} (h : FT X W a f) : FW X W (.BoolOp .And [a] pos) f := pw_and1 h
theorem fw_or1 {f : TF} (h : FT X W a f) : FW X W (.BoolOp .Or [a] pos) f := pw_or1 h
theorem fw_and {rest : List Expr} {f u : TF} (h : FT X W a f) (hr : FW X W (.BoolOp .And (b :: rest) pos) u) : FW X W (.BoolOp .And (a :: b :: rest) pos) (fAndT f u) :=
  PW.imp (pw_and h hr) fun σ H Q ⟨ρ, ow, E, m⟩ => ⟨ρ, ow, E, Out.bind m fun c x H1 e1 r1 m1 => by
    subst r1
    cases x with
    | true => exact ⟨ρ, ow, E.keep e1, OutT.from m1 e1⟩
    | false => exact m1 false H1 e1 rfl⟩
theorem fw_or {rest : List Expr} {f u : TF} (h : FT X W a f) (hr : FW X W (.BoolOp .Or (b :: rest) pos) u) : FW X W (.BoolOp .Or (a :: b :: rest) pos) (fOrT f u) :=
  PW.imp (pw_or h hr) fun σ H Q ⟨ρ, ow, E, m⟩ => ⟨ρ, ow, E, Out.bind m fun c x H1 e1 r1 m1 => by
    subst r1
    cases x with
    | true => exact m1 true H1 e1 rfl
    | false => exact ⟨ρ, ow, E.keep e1, OutT.from m1 e1⟩⟩
theorem ft_w {f : TF} (h : FW X W e f) : FT X W e f := PW.pt h
/-- a if c else b -/
def fIf (t : TF) (fa fb : EF) : EF := fun ρ => do
  let c ← t ρ
  if c = true then fa ρ else fb ρ
theorem fe_if {t : TF} (hc : FT X W c t) (ha : FE X W a fa) (hb : FE X W b fb) : FE X W (.IfExp c a b pos) (fIf t fa fb) :=
  fe_of (pe_ifExp hc ha hb) fun ρ ow σ H Q E m => ⟨ρ, ow, E, Out.bind m fun d x H1 e1 r1 m1 => by
    subst r1
    cases x with
    | true => exact ⟨ρ, ow, E.keep e1, OutE.from m1 e1⟩
    | false => exact ⟨ρ, ow, E.keep e1, OutE.from m1 e1⟩⟩
/-- and, or, not as values of bools -/
def fAnd (fa fb : EF) : EF := fun ρ => do
  let x ← fa ρ
  match x.2 with
  | .bl c => if c = true then fb ρ else sh (.bl false)
  | _ => .stuck
def fOr (fa fb : EF) : EF := fun ρ => do
  let x ← fa ρ
  match x.2 with
  | .bl c => if c = true then sh (.bl true) else fb ρ
  | _ => .stuck
def fNot (fa : EF) : EF := fun ρ => do
  let x ← fa ρ
  match x.2 with
  | .bl c => sh (.bl (!c))
  | _ => .stuck
theorem fe_one {op : BoolOp} (h : FE X W a f) : FE X W (.BoolOp op [a] pos) f := pe_one h
theorem fe_and {rest : List Expr} (ha : FE X W a fa) (hb : FE X W (.BoolOp .And (b :: rest) pos) fb) : FE X W (.BoolOp .And (a :: b :: rest) pos) (fAnd fa fb) :=
  fe_of (pe_and ha hb) fun ρ ow σ H Q E m => ⟨ρ, ow, E, Out.bind m fun dx x H1 e1 r1 m1 => by
    have r := r1.give E.live
    revert r m1
    cases dx.2 with
    | bl c =>
      intro m1 r
      refine ⟨c, r.bool, ?_⟩
      cases c with
      | true => exact ⟨ρ, ow, E.keep e1, OutE.from m1 e1⟩
      | false => exact m1 (.bl false) H1 e1 (.bl false)
    | _ => intro m1 r; exact m1.elim⟩
theorem fe_or {rest : List Expr} (ha : FE X W a fa) (hb : FE X W (.BoolOp .Or (b :: rest) pos) fb) : FE X W (.BoolOp .Or (a :: b :: rest) pos) (fOr fa fb) :=
  fe_of (pe_or ha hb) fun ρ ow σ H Q E m => ⟨ρ, ow, E, Out.bind m fun dx x H1 e1 r1 m1 => by
    have r := r1.give E.live
    revert r m1
    cases dx.2 with
    | bl c =>
      intro m1 r
      refine ⟨c, r.bool, ?_⟩
      cases c with
      | true => exact m1 (.bl true) H1 e1 (.bl true)
      | false => exact ⟨ρ, ow, E.keep e1, OutE.from m1 e1⟩
    | _ => intro m1 r; exact m1.elim⟩
theorem fe_not (ha : FE X W a fa) : FE X W (.UnaryOp .Not a pos) (fNot fa) :=
  fe_of (pe_not ha) fun ρ ow σ H Q E m => ⟨ρ, ow, E, Out.bind m fun dx x H1 e1 r1 m1 => by
    have r := r1.give E.live
    revert r m1
    cases dx.2 with
    | bl c =>
      intro m1 r
      exact ⟨c, r.bool, m1 (.bl (!c)) H1 e1 (.bl (!c))⟩
    | _ => intro m1 r; exact m1.elim⟩

/-! ### argument lists, displays -/
abbrev AF := Env → R (List D)
def fNil : AF := fun _ => .ok []
def fCons (f : EF) (u : AF) : AF := fun ρ => do
  let x ← f ρ
  let xs ← u ρ
  .ok (x.2 :: xs)
theorem fa_nil : FA X W [] fNil := PA.imp pa_nil fun σ H Q ⟨ρ, ow, E, m⟩ => m [] H (Same.refl _) .nil
theorem fa_cons {es : List Expr} {u : AF} (h : FE X W e f) (hr : FA X W es u) (hs : starEach (e :: es) X.env = (false, eval e X.env) :: starEach es X.env := by rfl) : FA X W (e :: es) (fCons f u) :=
  PA.imp (pa_cons h hr hs) fun σ H Q ⟨ρ, ow, E, m⟩ => ⟨ρ, ow, E, Out.bind m fun dx x H1 e1 r1 m1 => ⟨ρ, ow, E.keep e1, Out.bind (OutA.from m1 e1) fun ds xs H2 e2 r2 m2 =>
    m2 (x :: xs) H2 e2 (.cons ((r1.give E.live).mono (hide_mono e2 fun _ z => .inl z)) r2)⟩⟩
def small {α : Type} (l : List α) : Bool := decide (l.length ≤ sizeLine)
def fTup (u : AF) : EF := fun ρ => do
  let ds ← u ρ
  if small ds = true then sh (.tup ds) else .stuck
def fLst (u : AF) : EF := fun ρ => do
  let ds ← u ρ
  if small ds = true then nw (.lst ds) else .stuck
theorem fe_tup {es : List Expr} {u : AF} {k : Nat} (h : FA X W es u) : FE X W (.Tuple es k pos) (fTup u) :=
  fe_of (pe_tup h) fun ρ ow σ H Q E m => ⟨ρ, ow, E, Out.bind m fun ds xs H1 e1 r1 m1 => by
    by_cases q : small ds = true
    · rw [if_pos q] at m1
      refine ⟨by rw [r1.length]; exact of_decide_eq_true q, fun p hp => ?_⟩
      exact m1 _ _ (e1.trans (same_new hp)) (VR.newT (H := H1) hp r1 (E.keep e1).live)
    · rw [if_neg q] at m1
      exact m1.elim⟩
theorem fe_lst {es : List Expr} {u : AF} (h : FA X W es u) : FE X W (.List es pos) (fLst u) :=
  fe_of (pe_lst h) fun ρ ow σ H Q E m => ⟨ρ, ow, E, Out.bind m fun ds xs H1 e1 r1 m1 => by
    by_cases q : small ds = true
    · rw [if_pos q] at m1
      refine ⟨by rw [r1.length]; exact of_decide_eq_true q, fun p hp => ?_⟩
      exact m1 _ _ (e1.trans (same_new hp)) (VR.newL e1 hp r1)
    · rw [if_neg q] at m1
      exact m1.elim⟩

/-! ### built-ins by name -/
def fApp (o : List D → R (Bool × D)) (u : AF) : EF := fun ρ => do
  let ds ← u ρ
  o ds
theorem app {r : List V → Hp → VK → Prop} {o : List D → R (Bool × D)} {u : AF} (l : LkA (gx X) r o) {ρ : Env} {ow : List Addr} {σ : St} {H : Hp} {Q : VK} (E : EnvR (gx X) H ow σ ρ) (m : OutE (gx X) W H ow σ Q (fApp o u ρ)) :
    tA (gx X) W u σ H fun vs H1 => r vs H1 Q :=
  ⟨ρ, ow, E, Out.bind m fun ds xs H1 e1 r1 m1 => l (E.keep e1).live r1 (OutE.from m1 e1)⟩
theorem fe_callB {id : String} {x : Str} {p : Pos} {es : List Expr} {r : List V → Hp → VK → Prop} {o : List D → R (Bool × D)} {u : AF} (hc : CallR X (.builtin id) r) (l : LkA (gx X) r o) (hg : Gl X x) (hm : X.mg x = none) (hv : bootBuiltins x = some (.builtin id)) (ha : FA X W (e :: es) u)
    (hn : x ≠ "__name__" := by decide) (hdb : (x == ("__debug__" : Str)) = false := by decide) (he : starEach (e :: es) X.env = (false, eval e X.env) :: starEach es X.env := by rfl) (hpl : (backTo pos (starEach es X.env)).any (·.1) = false := by rfl) :
    FE X W (.Call (.Name x p) (e :: es) [] pos) (fApp o u) :=
  fe_of (pe_callB hc hg hm hv ha hn hdb he hpl) fun ρ ow σ H Q E m => app l E m
theorem fe_callTy {T : String} {x : Str} {p : Pos} {es : List Expr} {r : List V → Hp → VK → Prop} {o : List D → R (Bool × D)} {u : AF} (hc : CallR X (.type T) r) (l : LkA (gx X) r o) (hg : Gl X x) (hm : X.mg x = none) (hv : bootBuiltins x = some (.type T)) (ha : FA X W (e :: es) u)
    (hn : x ≠ "__name__" := by decide) (hdb : (x == ("__debug__" : Str)) = false := by decide) (he : starEach (e :: es) X.env = (false, eval e X.env) :: starEach es X.env := by rfl) (hpl : (backTo pos (starEach es X.env)).any (·.1) = false := by rfl) :
    FE X W (.Call (.Name x p) (e :: es) [] pos) (fApp o u) :=
  fe_of (pe_callTy hc hg hm hv ha hn hdb he hpl) fun ρ ow σ H Q E m => app l E m
end

/-! ### statements -/
abbrev SF := Env → Res
section
variable {X : Cx} {W : WX} {pos : Pos} {st : Stmt} {sts : List Stmt} {e c : Expr} {f : EF} {s u : SF}
theorem fs_of {t : TS} (h : PS X st t) (i : ∀ ρ ow σ H B H0 ow0 D0, SR (gx X) B H0 ow0 H ow σ ρ → EndR (gx X) W D0 B H0 ow0 (s ρ) → t D0 σ H) : FS X W st s :=
  PS.imp h fun D0 σ H ⟨ρ, ow, B, H0, ow0, S, m⟩ => i ρ ow σ H B H0 ow0 D0 S m
theorem fss_of {t : TS} (h : PSs X sts t) (i : ∀ ρ ow σ H B H0 ow0 D0, SR (gx X) B H0 ow0 H ow σ ρ → EndR (gx X) W D0 B H0 ow0 (s ρ) → t D0 σ H) : FSs X W sts s :=
  PSs.imp h fun D0 σ H ⟨ρ, ow, B, H0, ow0, S, m⟩ => i ρ ow σ H B H0 ow0 D0 S m
def Res.bind (r : Res) (k : Env → Res) : Res := match r with
  | .nx ρ => k ρ
  | r => r
def fSeq (s u : SF) : SF := fun ρ => (s ρ).bind u
def fSkip : SF := .nx
theorem fss_nil : FSs X W [] fSkip := fss_of pss_nil fun ρ ow σ H B H0 ow0 D0 S m => m σ H ow S
theorem fss_cons (h : FS X W st s) (hr : FSs X W sts u) : FSs X W (st :: sts) (fSeq s u) :=
  fss_of (pss_cons h hr) fun ρ ow σ H B H0 ow0 D0 S m => ⟨ρ, ow, B, H0, ow0, S, by
    unfold fSeq Res.bind at m
    revert m
    cases s ρ with
    | nx ρ' => exact fun m σ' H' ow' S' => ⟨ρ', ow', B, H0, ow0, S', m⟩
    | _ => exact fun m => m⟩
theorem fss_one (h : FS X W st s) : FSs X W [st] s := pss_one h
/-- one slot is given up ahead -/
def fFrz (i : Nat) (s : SF) : SF := fun ρ => s (frz i ρ)
theorem fs_frz (i : Nat) (h : FS X W st s) : FS X W st (fFrz i s) :=
  fs_of h fun ρ ow σ H B H0 ow0 D0 S m => by
    obtain ⟨ow', S'⟩ := S.frz i
    exact ⟨frz i ρ, ow', B, H0, ow0, S', m⟩
theorem fss_frz (i : Nat) (h : FSs X W sts s) : FSs X W sts (fFrz i s) :=
  fss_of h fun ρ ow σ H B H0 ow0 D0 S m => by
    obtain ⟨ow', S'⟩ := S.frz i
    exact ⟨frz i ρ, ow', B, H0, ow0, S', m⟩
/-- from an expression within a statement -/
def Res.ofR {α : Type} (ρ : Env) (k : α → Res) : R α → Res
  | .ok a => k a
  | .exc c fs => .exc c fs ρ
  | .stuck => .stuck
theorem outOf {α β : Type} {g : G} {B H0 H : Hp} {ow0 ow : List Addr} {σ : St} {ρ : Env} {D0 : Ends} {RR : Hp → β → α → Prop} {r : R α} {k : α → Res} {Q : β → Hp → Prop} (S : SR g B H0 ow0 H ow σ ρ) (m : EndR g W D0 B H0 ow0 (Res.ofR ρ k r))
    (cont : ∀ a b H', Same H H' → RR H' b a → EndR g W D0 B H0 ow0 (k a) → Q b H') : Out g W RR H σ Q r := by
  cases r with
  | ok a => exact fun b H' e q => cont a b H' e q m
  | exc c fs => exact fun C d H' e h1 h2 => m C d σ H' ow (S.keep e) h1 h2
  | stuck => exact m
def fSet (i : Nat) (f : EF) : SF := fun ρ => Res.ofR ρ (fun x => .nx (ρ.set i (some x))) (f ρ)
theorem setEnd {g : G} {B H0 H : Hp} {ow0 ow : List Addr} {σ : St} {ρ : Env} {D0 : Ends} {i : Nat} (S : SR g B H0 ow0 H ow σ ρ) (m : EndR g W D0 B H0 ow0 (fSet i f ρ)) : tE g W f σ H fun x H1 => gName i x σ H1 D0.nx :=
  ⟨ρ, ow, S.env, outOf S m fun x v H' e r m' => by
    obtain ⟨ow', S'⟩ := S.store (i := i) e r
    exact m' _ _ _ S'⟩
theorem fs_set {i : Nat} {x : Str} {pos' : Pos} (hN : X.N.Nodup) (he : FE X W e f) (hi : X.N[i]? = some x := by rfl) (hx : Loc X.env.scope x := by first | exact .inl rfl | exact .inr rfl) (hs : swapsWith e (some (.Name x pos')) pos.line X.env = pure false := by rfl)
    (hf : X.fn x = true ∨ X.env.scope.names.lookup x = some .local := by first | exact .inl rfl | exact .inr rfl | assumption) : FS X W (.Assign [.Name x pos'] e pos) (fSet i f) :=
  fs_of (ps_set hN hi hx he hs hf) fun ρ ow σ H B H0 ow0 D0 S m => setEnd S m
def fDrop (f : EF) : SF := fun ρ => Res.ofR ρ (fun _ => .nx ρ) (f ρ)
theorem fs_expr (he : FE X W e f) (hs : swapsWith e none pos.line X.env = pure false := by rfl) : FS X W (.Expr e pos) (fDrop f) :=
  fs_of (ps_expr he hs) fun ρ ow σ H B H0 ow0 D0 S m => ⟨ρ, ow, S.env, outOf S m fun x v H' e r m' => m' _ _ _ (S.keep e)⟩
def fRet (f : EF) : SF := fun ρ => Res.ofR ρ (fun x => .ret x) (f ρ)
theorem fs_ret (he : FE X W e f) : FS X W (.Return (some e) pos) (fRet f) :=
  fs_of (ps_ret he) fun ρ ow σ H B H0 ow0 D0 S m => ⟨ρ, ow, S.env, outOf S m fun x v H' e r m' => m' v H' (S.ent.trans e) ((r.from S.ent).less S.sub)⟩
def fRetN : SF := fun _ => .ret (false, .non)
theorem fs_retN : FS X W (.Return none pos) fRetN := fs_of ps_retN fun ρ ow σ H B H0 ow0 D0 S m => m .non H S.ent .non
/-- return x, x an own list: it is handed over -/
def fRetO (i : Nat) : SF := fun ρ => match ρ[i]? with
  | some (some x) => .ret x
  | _ => .stuck
theorem fs_retO (i : Nat) {x : Str} {pos' : Pos} (hN : X.N[i]? = some x := by rfl) (hv : Vis X.env.scope x := by first | exact Or.inl rfl | exact Or.inr (Or.inl rfl) | exact Or.inr (Or.inr rfl)) (hd : (x == ("__debug__" : Str)) = false := by decide)
    (hcd : (x == ("__classdict__" : Str)) = false := by decide) : FS X W (.Return (some (.Name x pos')) pos) (fRetO i) :=
  fs_of (ps_ret (pe_var hN hv hd hcd)) fun ρ ow σ H B H0 ow0 D0 S m => by
    unfold fRetO at m
    split at m
    · rename_i y h
      obtain ⟨b, d⟩ := y
      cases b with
      | false =>
        obtain ⟨v, h1, h2⟩ := S.env.seen i d h
        exact ⟨v, h1, m v H S.ent (VR.less (ow := ow) (x := (false, d)) h2 S.sub)⟩
      | true =>
        obtain ⟨a, h1, h2, h3⟩ := S.env.own i d h
        refine ⟨_, h1, m _ H S.ent ⟨a, rfl, S.fresh i d a h h1, h3.mono (Same.refl _) fun b z => ?_⟩⟩
        rcases List.mem_cons.mp z with rfl | z
        · exact .inl h2
        · exact .inl (S.sub b z)
    · exact m.elim
def fIfS (t : TF) (s u : SF) : SF := fun ρ => Res.ofR ρ (fun c => if c = true then s ρ else u ρ) (t ρ)
theorem fs_if {a b : List Stmt} {t : TF} (hc : FT X W c t) (ha : FSs X W a s) (hb : FSs X W b u) : FS X W (.If c a b pos) (fIfS t s u) :=
  fs_of (ps_if hc ha hb) fun ρ ow σ H B H0 ow0 D0 S m => ⟨ρ, ow, S.env, outOf S m fun x v H' e r m' => by
    subst r
    cases v with
    | true => exact ⟨ρ, ow, B, H0, ow0, S.keep e, m'⟩
    | false => exact ⟨ρ, ow, B, H0, ow0, S.keep e, m'⟩⟩
theorem fs_pass : FS X W (.Pass pos) fSkip := fs_of ps_pass fun ρ ow σ H B H0 ow0 D0 S m => m σ H ow S
def fBrk : SF := .brk
def fCt : SF := .ct
theorem fs_break : FS X W (.Break pos) fBrk := fs_of ps_break fun ρ ow σ H B H0 ow0 D0 S m => m σ H ow S
theorem fs_continue : FS X W (.Continue pos) fCt := fs_of ps_continue fun ρ ow σ H B H0 ow0 D0 S m => m σ H ow S
end
end Fv

namespace Fv
open PySem L2

/-! ### borrowing: all is to be seen while a scalar is reckoned -/
def scal : D → Bool
  | .non => true | .bl _ => true | .int _ => true | .str _ => true | _ => false
theorem scal_any {g : G} {H H' : Hp} {v : V} {d : D} (r : Rp g H v d) (s : scal d = true) : Rp g H' v d := by
  cases r with
  | non => exact .non
  | bl b => exact .bl b
  | int b => exact .int b
  | str b => exact .str b
  | _ => cases s
def fBor (f : EF) : EF := fun ρ => do
  let x ← f (frzAll ρ)
  if scal x.2 = true then sh x.2 else .stuck
def fBorT (t : TF) : TF := fun ρ => t (frzAll ρ)
section
variable {X : Cx} {W : WX} {pos : Pos} {e : Expr} {f : EF} {t : TF} {g : G} {H : Hp} {ow : List Addr} {σ : St} {ρ : Env}
theorem EnvR.seenAll (E : EnvR g H ow σ ρ) : EnvR g H [] σ (Fv.frzAll ρ) := E.frzAll (fun a z => by cases z) fun i d a _ _ z => by cases z
theorem fe_bor (h : FE X W e f) : FE X W e (fBor f) := fe_of h fun ρ ow σ H Q E m => ⟨_, [], E.seenAll, Out.bind m fun x v H1 e1 r1 m1 => by
  have r := r1.give (fun a z => by cases z)
  by_cases q : scal x.2 = true
  · rw [if_pos q] at m1
    exact m1 v H1 e1 (scal_any r q)
  · rw [if_neg q] at m1
    exact m1.elim⟩
theorem ft_bor (h : FT X W e t) : FT X W e (fBorT t) := ft_of h fun ρ ow σ H Q E m => ⟨_, [], E.seenAll, m⟩
end

/-! ### targets -/
/-- the slots outside ix stay -/
def Stay (ix : List Nat) (σ σ' : St) : Prop := σ'.length = σ.length ∧ ∀ j, j ∉ ix → σ'[j]? = σ[j]?
theorem Stay.refl {ix : List Nat} {σ : St} : Stay ix σ σ := ⟨rfl, fun _ _ => rfl⟩
theorem Stay.trans {ix : List Nat} {a b c : St} (x : Stay ix a b) (y : Stay ix b c) : Stay ix a c := ⟨y.1.trans x.1, fun j h => (y.2 j h).trans (x.2 j h)⟩
theorem wipe_get (σ : St) (j : Nat) : ∀ vs : List Nat, (wipe σ vs)[j]? = if j ∈ vs then (if j < σ.length then some none else none) else σ[j]?
  | [] => by simp [wipe]
  | v :: vs => by
    unfold wipe
    by_cases q : v = j
    · subst q
      by_cases z : v < σ.length
      · rw [List.getElem?_set_self (by rw [wipe_length]; exact z)]; simp [z]
      · rw [List.getElem?_eq_none (by rw [List.length_set, wipe_length]; omega)]; simp [z]
    · rw [List.getElem?_set_ne q, wipe_get σ j vs]
      have : (j ∈ v :: vs) ↔ j ∈ vs := by simp [Ne.symm q]
      by_cases y : j ∈ vs
      · rw [if_pos y, if_pos (this.mpr y)]
      · rw [if_neg y, if_neg (fun w => y (this.mp w))]
theorem Stay.wipe {ix : List Nat} {σ σ' : St} {vs : List Nat} (h : Stay ix σ σ') (s : ∀ i ∈ ix, i ∈ vs) : wipe σ' vs = wipe σ vs := by
  refine List.ext_getElem? fun j => ?_
  rw [wipe_get, wipe_get, h.1]
  by_cases q : j ∈ vs
  · rw [if_pos q, if_pos q]
  · rw [if_neg q, if_neg q]; exact h.2 j fun z => q (s j z)
/-- own slots stay own -/
def Less (σ σ' : St) (ρ ρ' : Env) : Prop := ∀ (i : Nat) (d : D), ρ'[i]? = some (some (true, d)) → ρ[i]? = some (some (true, d)) ∧ σ'[i]? = σ[i]?
abbrev GF := D → Env → Option Env
abbrev GFs := List D → Env → Option Env
def tG (g : G) (ix : List Nat) (gf : GF) : TG := fun v σ H Q => ∃ (ρ : Env) (ow : List Addr) (d : D) (ρ' : Env), EnvR g H ow σ ρ ∧ Rp g (hide H ow) v d ∧ gf d ρ = some ρ' ∧
  ∀ σ', EnvR g H ow σ' ρ' → Stay ix σ σ' → Less σ σ' ρ ρ' → Q σ' H
def tGs (g : G) (ix : List Nat) (gf : GFs) : TGs := fun vs σ H Q => ∃ (ρ : Env) (ow : List Addr) (ds : List D) (ρ' : Env), EnvR g H ow σ ρ ∧ RpL g (hide H ow) vs ds ∧ gf ds ρ = some ρ' ∧
  ∀ σ', EnvR g H ow σ' ρ' → Stay ix σ σ' → Less σ σ' ρ ρ' → Q σ' H
abbrev FG (X : Cx) (tg : Expr) (ix : List Nat) (gf : GF) : Prop := PG X tg (tG (gx X) ix gf)
abbrev FGs (X : Cx) (tg : List Expr) (ix : List Nat) (gf : GFs) : Prop := PGs X tg (tGs (gx X) ix gf)
theorem PG.imp {X : Cx} {e : Expr} {t t' : TG} (h : PG X e t) (i : ∀ v σ H Q, t' v σ H Q → t v σ H Q) : PG X e t' := ⟨fun pins s σ H v u Q I r w => h.run pins s σ H v u Q I r (i _ _ _ _ w)⟩
theorem PGs.imp {X : Cx} {e : List Expr} {t t' : TGs} (h : PGs X e t) (i : ∀ v σ H Q, t' v σ H Q → t v σ H Q) : PGs X e t' := ⟨fun pins s σ H v u Q I r w => h.run pins s σ H v u Q I r (i _ _ _ _ w)⟩
def gNm (i : Nat) : GF := fun d ρ => some (ρ.set i (some (false, d)))
def gsNil : GFs := fun ds ρ => if ds.isEmpty then some ρ else none
def gsCons (a : GF) (b : GFs) : GFs := fun ds ρ => match ds with
  | d :: r => (a d ρ).bind fun ρ' => b r ρ'
  | [] => none
def gTp (n : Nat) (b : GFs) : GF := fun d ρ => match d with
  | .tup ds => if ds.length = n then b ds ρ else none
  | _ => none
section
variable {X : Cx} {pos : Pos} {x : Str} {i : Nat}
theorem fg_name (hN : X.N.Nodup) (hi : X.N[i]? = some x := by rfl) (hx : Loc X.env.scope x := by first | exact .inl rfl | exact .inr rfl) (hf : X.fn x = true ∨ X.env.scope.names.lookup x = some .local := by first | exact .inl rfl | exact .inr rfl | assumption) : FG X (.Name x pos) [i] (gNm i) :=
  PG.imp (pg_name hN hi hx hf) fun v σ H Q ⟨ρ, ow, d, ρ', E, r, h, k⟩ => by
    cases h
    obtain ⟨ow', E', s1, s2⟩ := E.store (i := i) (v := v) (x := (false, d)) (Same.refl _) r
    have hl : (ρ.set i (some (false, d))).length = (σ.set i (some v)).length := by rw [List.length_set, List.length_set]; exact E.len
    refine k _ ⟨hl, E.live, fun j d' hj => ?_, fun j d' hj => ?_, fun j k d1 d2 a hne h1 h2 h3 h4 => ?_⟩ ⟨List.length_set, fun j hj => List.getElem?_set_ne (fun q => hj (by rw [← q]; exact List.mem_singleton_self i))⟩ fun j d' hj => ?_
    · rcases set_hit hj with ⟨rfl, l, q⟩ | ⟨q, hj⟩
      · cases q
        exact ⟨v, List.getElem?_set_self (E.len ▸ l), r⟩
      · obtain ⟨u, r1, r2⟩ := E.seen j d' hj
        exact ⟨u, by rw [List.getElem?_set_ne q]; exact r1, r2⟩
    · rcases set_hit hj with ⟨rfl, l, q⟩ | ⟨q, hj⟩
      · cases q
      · obtain ⟨u, r1, r2⟩ := E.own j d' hj
        exact ⟨u, by rw [List.getElem?_set_ne q]; exact r1, r2⟩
    · rcases set_hit h1 with ⟨_, _, q⟩ | ⟨q1, h1⟩
      · cases q
      · rcases set_hit h2 with ⟨_, _, q⟩ | ⟨q2, h2⟩
        · cases q
        · rw [List.getElem?_set_ne q1] at h3
          rw [List.getElem?_set_ne q2] at h4
          exact E.sep j k d1 d2 a hne h1 h2 h3 h4
    · rcases set_hit hj with ⟨rfl, l, q⟩ | ⟨q, hj⟩
      · cases q
      · exact ⟨hj, List.getElem?_set_ne q⟩
theorem fgs_nil : FGs X [] [] gsNil :=
  PGs.imp pgs_nil fun vs σ H Q ⟨ρ, ow, ds, ρ', E, r, h, k⟩ => by
    cases r with
    | nil => cases h; exact ⟨rfl, k σ E Stay.refl fun i d h => ⟨h, rfl⟩⟩
    | cons _ _ => cases h
theorem fgs_cons {e : Expr} {es : List Expr} {ix iy : List Nat} {a : GF} {b : GFs} (h1 : FG X e ix a) (h2 : FGs X es iy b)
    (hs : (assignEach (e :: es) X.env).map (·.2) = assign e X.env :: (assignEach es X.env).map (·.2) := by rfl) : FGs X (e :: es) (ix ++ iy) (gsCons a b) :=
  PGs.imp (pgs_cons h1 h2 hs) fun vs σ H Q ⟨ρ, ow, ds, ρ', E, r, h, k⟩ => by
    cases r with
    | nil => cases h
    | @cons v d vs ds r1 r2 =>
      have h : (a d ρ).bind (fun ρ' => b ds ρ') = some ρ' := h
      cases q : a d ρ with
      | none => rw [q] at h; cases h
      | some ρ1 =>
        rw [q] at h
        refine ⟨v, vs, rfl, ρ, ow, d, ρ1, E, r1, q, fun σ1 E1 S1 L1 => ⟨ρ1, ow, ds, ρ', E1, r2, h, fun σ2 E2 S2 L2 => k σ2 E2 ?_ fun i d' hi => ?_⟩⟩
        · exact ⟨S2.1.trans S1.1, fun j hj => (S2.2 j fun z => hj (List.mem_append_right _ z)).trans (S1.2 j fun z => hj (List.mem_append_left _ z))⟩
        · obtain ⟨z1, z2⟩ := L2 i d' hi
          obtain ⟨z3, z4⟩ := L1 i d' z1
          exact ⟨z3, z2.trans z4⟩
theorem fg_tup {es : List Expr} {k : Nat} {ix : List Nat} {b : GFs} {n : Nat} (hc : X.calm = true) (h : FGs X es ix b)
    (hn : (assignEach es X.env).length = n := by rfl) (hst : (assignEach es X.env).findIdx? (·.1) = none := by rfl) : FG X (.Tuple es k pos) ix (gTp n b) :=
  PG.imp (pg_tup hc h hn hst) fun v σ H Q ⟨ρ, ow, d, ρ', E, r, h, k⟩ => by
    cases r with
    | @tup a xs ds q r =>
      have h : (if ds.length = n then b ds ρ else none) = some ρ' := h
      by_cases z : ds.length = n
      · rw [if_pos z] at h
        exact ⟨a, xs, rfl, tupT q, r.length.trans z, ρ, ow, ds, ρ', E, r, h, k⟩
      · rw [if_neg z] at h; cases h
    | _ => cases h
end
/-- what the state keeps behind a target's assignment -/
theorem SR.assigned {g : G} {B H0 H : Hp} {ow0 ow : List Addr} {σ σ' : St} {ρ ρ' : Env} (S : SR g B H0 ow0 H ow σ ρ) (E : EnvR g H ow σ' ρ') (L : Less σ σ' ρ ρ') : SR g B H0 ow0 H ow σ' ρ' :=
  ⟨E, S.same, S.ent, S.sub, S.olive, fun i d a h1 h2 => by
    obtain ⟨z1, z2⟩ := L i d h1
    exact S.fresh i d a z1 (z2 ▸ h2)⟩
/-- another ground -/
theorem SR.ground {g : G} {B B' H0 H : Hp} {ow0 ow : List Addr} {σ : St} {ρ : Env} (S : SR g B H0 ow0 H ow σ ρ) (e : Same B' (hide H ow)) : SR g B' H0 ow0 H ow σ ρ := ⟨S.env, e, S.ent, S.sub, S.olive, S.fresh⟩

/-! ### what is walked -/
def Walk (g : G) (H1 : Hp) (ow : List Addr) (J : It) (ds : List D) : Prop :=
  ∀ (Hc : Hp) (owc : List Addr), (∀ a ∈ owc, ∃ o, Hc a = some o) → Same (hide H1 ow) (hide Hc owc) → ∀ i : Nat,
    (∀ d, ds[i]? = some d → J.go i Hc ∧ ∀ x H', J.yld i Hc x H' → Same Hc H' ∧ Rp g (hide H' owc) x d) ∧ (ds.length = i → J.stop i Hc)
abbrev IF := Env → R (List D)
abbrev OutI (g : G) (W : WX) (H : Hp) (ow : List Addr) (σ : St) (Q : It → Hp → Prop) : R (List D) → Prop := Out g W (fun H' J ds => Walk g H' ow J ds) H σ Q
def tI (g : G) (W : WX) (f : IF) : TI := fun σ H Q => ∃ (ρ : Env) (ow : List Addr), EnvR g H ow σ ρ ∧ OutI g W H ow σ Q (f ρ)
abbrev FI (X : Cx) (W : WX) (tg e : Expr) (f : IF) : Prop := PI X tg e (tI (gx X) W f)
theorem PI.imp {X : Cx} {tg e : Expr} {t t' : TI} (h : PI X tg e t) (i : ∀ σ H Q, t' σ H Q → t σ H Q) : PI X tg e t' := ⟨fun pins s σ H Q I w => h.run pins s σ H Q I (i _ _ _ w)⟩
theorem fi_of {X : Cx} {W : WX} {tg e : Expr} {f : IF} {t : TI} (h : PI X tg e t) (i : ∀ ρ ow σ H Q, EnvR (gx X) H ow σ ρ → OutI (gx X) W H ow σ Q (f ρ) → t σ H Q) : FI X W tg e f :=
  PI.imp h fun σ H Q ⟨ρ, ow, E, m⟩ => i ρ ow σ H Q E m
theorem walk_list {g : G} {H1 : Hp} {ow : List Addr} {a : Addr} {xs : List V} {ds : List D} (q : SqL g.K (hide H1 ow) a xs) (r : RpL g (hide H1 ow) xs ds) : Walk g H1 ow (Itl g.K a) ds :=
  fun Hc owc lv e i => by
    have q1 : SqL g.K Hc a xs := (hide_same _ _).seq (e.seq q)
    refine ⟨fun d hd => ?_, fun hl => ⟨xs, q1, by rw [r.length]; exact Nat.le_of_eq hl⟩⟩
    obtain ⟨v, hv, rv⟩ := r.get hd
    refine ⟨⟨xs, v, q1, hv⟩, fun x H' ⟨e', y⟩ => ?_⟩
    subst e'
    have z := y xs q1
    rw [hv] at z
    cases z
    exact ⟨Same.refl _, rv.mono e⟩
theorem walk_tup {g : G} {H1 : Hp} {ow : List Addr} {a : Addr} {xs : List V} {ds : List D} (q : SqT g.K (hide H1 ow) a xs) (r : RpL g (hide H1 ow) xs ds) : Walk g H1 ow (Itt g.K a) ds :=
  fun Hc owc lv e i => by
    have q1 : SqT g.K Hc a xs := Same.sqT (hide_same _ _) (Same.sqT e q)
    refine ⟨fun d hd => ?_, fun hl => ⟨xs, q1, by rw [r.length]; exact Nat.le_of_eq hl⟩⟩
    obtain ⟨v, hv, rv⟩ := r.get hd
    refine ⟨⟨xs, v, q1, hv⟩, fun x H' ⟨e', y⟩ => ?_⟩
    subst e'
    have z := y xs q1
    rw [hv] at z
    cases z
    exact ⟨Same.refl _, rv.mono e⟩
theorem walk_range {g : G} {H1 : Hp} {ow : List Addr} (lo : Int) (n : Nat) : Walk g H1 ow (Itr lo n) ((List.range n).map fun (k : Nat) => .int (lo + (k : Int))) :=
  fun Hc owc lv e i => by
    refine ⟨fun d hd => ?_, fun hl => show n ≤ i by simp at hl; omega⟩
    have hi : i < n := by
      by_cases z : i < n
      · exact z
      · rw [List.getElem?_eq_none (by simpa using z)] at hd; cases hd
    rw [List.getElem?_map, List.getElem?_range hi] at hd
    cases hd
    refine ⟨hi, fun x H' ⟨e', y⟩ => ?_⟩
    subst e' y
    exact ⟨Same.refl _, .int _⟩
section
variable {X : Cx} {W : WX} {tg e a b c : Expr} {f : EF} {pos p : Pos} {u : AF}
/-- an iterator's record, just laid -/
theorem laid_it {pins : List (Addr × Obj)} {σ : St} {H : Hp} {s : Shared} {J : It} {R : It → Hp → Prop} {tn : Nat → Heap → Prop} {oit : Obj} (I : Inv X pins σ H s) (T : Turn X.prog X.w X.K tg J [s.heap.objs.size] s.heap.objs.size tn)
    (h0 : tn 0 (s.heap.push oit)) (q : R J H) : PIE X pins σ tg R (.ref s.heap.objs.size) { s with heap := s.heap.push oit } :=
  ⟨_, [s.heap.objs.size], tn, J, H, rfl, I.kept (t' := s.toks) fun _ _ z => Heap.get?_push_of_some _ z, T, h0, fun b hb => by
    rw [List.mem_singleton.mp hb]
    exact I.fpOk (Nat.le_refl _) (I.hok.fresh (Nat.le_refl _)), q⟩
/-- a list, a tuple or a text -/
theorem pi_seq {l : Expr} {tl : TE} (hl : PE X l tl) : PI X tg l (fun σ H R => tl σ H fun x H1 => (∃ a, x = .ref a ∧ (((∃ xs, SqL X.K H1 a xs) ∧ R (Itl X.K a) H1) ∨ ((∃ xs, SqT X.K H1 a xs) ∧ R (Itt X.K a) H1))) ∨ ∃ z, x = .str z ∧ R (Its z) H1) :=
  ⟨fun pins s σ H R I h => thn (hl.run pins s σ H _ I h) fun v s1 ⟨x, H1, I1, r1, z⟩ => by
    rcases z with ⟨a, e, z⟩ | ⟨z, e, q⟩
    · subst e
      obtain rfl : v = Value.ref a := r1
      rcases z with ⟨⟨xs, z⟩, q⟩ | ⟨⟨xs, z⟩, q⟩
      · obtain ⟨its, _, p, _⟩ := I1.list z
        exact wpAny_pyIter_list p.isList (laid_it I1 (turn_list a _) ⟨_, Heap.get?_push_size _ rfl, rfl, rfl⟩ q)
      · obtain ⟨its, _, p, _⟩ := I1.tuple z
        exact wpAny_pyIter_tuple p (laid_it I1 (turn_tuple a _) ⟨_, Heap.get?_push_size _ rfl, rfl, rfl⟩ q)
    · subst e
      obtain ⟨t, rfl⟩ := r1
      cases ha : z.cps.all (· < 128)
      · exact wpAny_pyIter_wide ha (pi_one (tk := s1.toks) I1 _ (turn_str _ z t "str_iterator" (.inr rfl)) ⟨_, Heap.get?_push_size _ rfl, rfl, rfl⟩ q)
      · exact wpAny_pyIter_ascii ha (pi_one (tk := s1.toks) I1 _ (turn_str _ z t "str_ascii_iterator" (.inl rfl)) ⟨_, Heap.get?_push_size _ rfl, rfl, rfl⟩ q)⟩
def seqD0 : D → R (List D)
  | .lst ds => .ok ds
  | .tup ds => .ok ds
  | .arg ds => .ok ds
  | _ => .stuck
def charsD (z : Str) : List D := z.cps.toList.map fun c => .str ⟨#[c]⟩
def seqD : D → R (List D)
  | .str z => .ok (charsD z)
  | x => seqD0 x
def iSeq (f : EF) : IF := fun ρ => do
  let x ← f ρ
  seqD x.2
theorem walk_str {g : G} {H1 : Hp} {ow : List Addr} (z : Str) : Walk g H1 ow (Its z) (charsD z) :=
  fun Hc owc lv e i => by
    refine ⟨fun d hd => ?_, fun hl => show z.cps.size ≤ i by unfold charsD at hl; simp at hl; omega⟩
    unfold charsD at hd
    rw [List.getElem?_map] at hd
    cases q : z.cps.toList[i]? with
    | none => rw [q] at hd; cases hd
    | some c =>
      rw [q] at hd
      cases hd
      have hc : z.cps[i]? = some c := by rw [← q]; simp
      have hi : i < z.cps.size := (Array.getElem?_eq_some_iff.mp hc).1
      refine ⟨hi, fun x H' ⟨e', c', hc', ev⟩ => ?_⟩
      subst e' ev
      rw [hc] at hc'
      cases hc'
      exact ⟨Same.refl _, .str _⟩
theorem fi_seq (h : FE X W e f) : FI X W tg e (iSeq f) :=
  fi_of (pi_seq h) fun ρ ow σ H Q E m => ⟨ρ, ow, E, Out.bind m fun x v H1 e1 r1 m1 => by
    have r := r1.give E.live
    revert r m1
    cases x.2 with
    | lst ds =>
      intro m1 r
      cases r with
      | lst q r => exact .inl ⟨_, rfl, .inl ⟨⟨_, (hide_same _ _).seq (.inl q)⟩, m1 _ H1 e1 (walk_list (.inl q) r)⟩⟩
    | arg ds =>
      intro m1 r
      cases r with
      | arg q r => exact .inl ⟨_, rfl, .inl ⟨⟨_, (hide_same _ _).seq q⟩, m1 _ H1 e1 (walk_list q r)⟩⟩
    | tup ds =>
      intro m1 r
      cases r with
      | tup q r => exact .inl ⟨_, rfl, .inr ⟨⟨_, tupT q⟩, m1 _ H1 e1 (walk_tup (.inl (.inl q)) r)⟩⟩
    | str z =>
      intro m1 r
      exact .inr ⟨z, r.str_, m1 _ H1 e1 (walk_str z)⟩
    | _ => intro m1 r; exact m1.elim⟩
def ints62 (j : Int) : Bool := decide (-(2 ^ 62) ≤ j) && decide (j < 2 ^ 62)
theorem ints62_of {j : Int} (h : ints62 j = true) : -(2 ^ 62) ≤ j ∧ j < 2 ^ 62 := by
  unfold ints62 at h
  simpa using h
def rangeD (lo hi : Int) : List D := (List.range (hi - lo).toNat).map fun (k : Nat) => .int (lo + (k : Int))
def iRange1 (u : AF) : IF := fun ρ => do
  let ds ← u ρ
  match ds with
  | [.int j] => if ints62 j = true then .ok (rangeD 0 j) else .stuck
  | _ => .stuck
def iRange2 (u : AF) : IF := fun ρ => do
  let ds ← u ρ
  match ds with
  | [.int i, .int j] => if (ints62 i && ints62 j) = true then .ok (rangeD i j) else .stuck
  | _ => .stuck
theorem fi_range1 (hg : Gl X "range") (hm : X.mg "range" = none) (ha : FA X W [a] u) (hs : starEach [a] X.env = [(false, eval a X.env)] := by rfl) : FI X W tg (.Call (.Name "range" p) [a] [] pos) (iRange1 u) :=
  fi_of (pi_range1 hg hm ha hs) fun ρ ow σ H Q E m => ⟨ρ, ow, E, Out.bind m fun ds vs H1 e1 r1 m1 => by
    revert m1
    split
    · rename_i j
      intro m1
      by_cases q : ints62 j = true
      · rw [if_pos q] at m1
        obtain ⟨q1, q2⟩ := ints62_of q
        cases r1 with
        | cons h r =>
          cases r
          have e := h.int_
          subst e
          refine ⟨j, rfl, q1, q2, m1 _ H1 e1 ?_⟩
          have w := walk_range (g := gx X) (H1 := H1) (ow := ow) 0 j.toNat
          unfold rangeD
          rw [Int.sub_zero]
          exact w
      · rw [if_neg q] at m1
        exact m1.elim
    · intro m1; exact m1.elim⟩
theorem fi_range2 (hg : Gl X "range") (hm : X.mg "range" = none) (ha : FA X W [a, b] u) (hs : starEach [a, b] X.env = [(false, eval a X.env), (false, eval b X.env)] := by rfl) (hs2 : starEach [b] X.env = [(false, eval b X.env)] := by rfl) : FI X W tg (.Call (.Name "range" p) [a, b] [] pos) (iRange2 u) :=
  fi_of (pi_range2 hg hm ha hs hs2) fun ρ ow σ H Q E m => ⟨ρ, ow, E, Out.bind m fun ds vs H1 e1 r1 m1 => by
    revert m1
    split
    · rename_i i j
      intro m1
      by_cases q : (ints62 i && ints62 j) = true
      · rw [if_pos q] at m1
        rw [Bool.and_eq_true] at q
        obtain ⟨q1, q2⟩ := ints62_of q.1
        obtain ⟨q3, q4⟩ := ints62_of q.2
        cases r1 with
        | cons h r =>
          cases r with
          | cons h' r =>
            cases r
            have e := h.int_
            have e' := h'.int_
            subst e e'
            exact ⟨i, j, rfl, ⟨q1, q2, q3, q4⟩, m1 _ H1 e1 (walk_range i (j - i).toNat)⟩
      · rw [if_neg q] at m1
        exact m1.elim
    · intro m1; exact m1.elim⟩
end
end Fv

namespace Fv
open PySem L2

/-! ### for -/
def forL (gf : GF) (fb : SF) : List D → Env → Res
  | [], ρ => .nx ρ
  | d :: ds, ρ => match gf d ρ with
    | none => .stuck
    | some ρ1 => match fb ρ1 with
      | .nx ρ2 => forL gf fb ds ρ2
      | .ct ρ2 => forL gf fb ds ρ2
      | .brk ρ2 => .nx ρ2
      | r => r
def fFor (fi : IF) (gf : GF) (fb : SF) : SF := fun ρ => Res.ofR ρ (fun ds => forL gf fb ds ρ) (fi ρ)
theorem EndR.ground {g : G} {W : WX} {D0 : Ends} {B B' H0 : Hp} {ow0 : List Addr} {r : Res} (e : Same B B') (m : EndR g W D0 B H0 ow0 r) : EndR g W D0 B' H0 ow0 r := by
  cases r with
  | nx ρ => exact fun σ H ow S => m σ H ow (S.ground (e.trans S.same))
  | brk ρ => exact fun σ H ow S => m σ H ow (S.ground (e.trans S.same))
  | ct ρ => exact fun σ H ow S => m σ H ow (S.ground (e.trans S.same))
  | ret x => exact m
  | exc c fs ρ => exact fun C d σ H ow S => m C d σ H ow (S.ground (e.trans S.same))
  | stuck => exact m
section
variable {X : Cx} {W : WX} {pos : Pos} {tg iter e c : Expr} {body : List Stmt} {fi : IF} {gf : GF} {fb : SF} {ix : List Nat} {t : TF}
theorem fs_for (hp : PassesOwn (model X.prog X.w) X.A X.env X.xe) (hc : X.calm = true) (hi : FI X W tg iter fi) (hg : FG X tg ix gf) (hb : FSs X W body fb)
    (hs : ∀ x, foldedSetIterable iter X.env x = pure x := by intro _; rfl) : FS X W (.For tg iter body [] pos) (fFor fi gf fb) :=
  fs_of (ps_for hp hc hi hg hb hs) fun ρ ow σ H B H0 ow0 D0 S m => ⟨ρ, ow, S.env, outOf S m fun ds J H1 e1 w m1 => by
    have S1 := S.keep e1
    have m2 : EndR (gx X) W D0 (hide H1 ow) H0 ow0 (forL gf fb ds ρ) := m1.ground S1.same
    refine ⟨fun i m σ' H' => m = ds.length - i ∧ i ≤ ds.length ∧ ∃ ρ' ow', SR (gx X) (hide H1 ow) H0 ow0 H' ow' σ' ρ' ∧ EndR (gx X) W D0 (hide H1 ow) H0 ow0 (forL gf fb (ds.drop i) ρ'), ⟨_, rfl, Nat.zero_le _, ρ, ow, S1.ground (Same.refl _), m2⟩, ?_⟩
    rintro i m σ' H' ⟨rfl, hi, ρ', ow', S', m'⟩
    obtain ⟨w1, w2⟩ := w H' ow' S'.env.live S'.same i
    by_cases hlt : i < ds.length
    · have hd : ds[i]? = some ds[i] := by simp [hlt]
      obtain ⟨go, step⟩ := w1 _ hd
      refine .inr ⟨go, fun σ2 H2 => ∃ ρ2 ow2, SR (gx X) (hide H1 ow) H0 ow0 H2 ow2 σ2 ρ2 ∧ EndR (gx X) W D0 (hide H1 ow) H0 ow0 (forL gf fb (ds.drop (i + 1)) ρ2), ?_, ?_⟩
      · rintro σ2 H2 ⟨ρ2, ow2, S2, m2⟩
        exact ⟨ds.length - (i + 1), by omega, rfl, hlt, ρ2, ow2, S2, m2⟩
      · intro x H2 y
        obtain ⟨e2, rx⟩ := step x H2 y
        rw [List.drop_eq_getElem_cons hlt] at m'
        unfold forL at m'
        have S2 := S'.keep e2
        cases q : gf ds[i] ρ' with
        | none => rw [q] at m'; exact m'.elim
        | some ρ1 =>
          rw [q] at m'
          refine ⟨ρ', ow', ds[i], ρ1, S2.env, rx, q, fun σ3 E3 _ L3 => ?_⟩
          refine ⟨ρ1, ow', hide H1 ow, H0, ow0, S2.assigned E3 L3, ?_⟩
          revert m'
          simp only []
          cases fb ρ1 with
          | nx ρ2 => exact fun m' σ4 H4 ow4 S4 => ⟨ρ2, ow4, S4, m'⟩
          | ct ρ2 => exact fun m' σ4 H4 ow4 S4 => ⟨ρ2, ow4, S4, m'⟩
          | brk ρ2 => exact fun m' => m'
          | ret x => exact fun m' => m'
          | exc c fs ρ2 => exact fun m' => m'
          | stuck => exact fun m' => m'
    · have e : i = ds.length := by omega
      subst e
      rw [List.drop_length] at m'
      exact .inl ⟨w2 rfl, m' σ' H' ow' S'⟩⟩
/-! ### while -/
def whileF (t : TF) (fb : SF) : Nat → Env → Res
  | 0, _ => .stuck
  | n + 1, ρ => Res.ofR ρ (fun c => if c = true then (match fb ρ with
      | .nx ρ2 => whileF t fb n ρ2
      | .ct ρ2 => whileF t fb n ρ2
      | .brk ρ2 => .nx ρ2
      | r => r) else .nx ρ) (t ρ)
theorem fs_while (n : Nat) (hp : PassesOwn (model X.prog X.w) X.A X.env X.xe) (hc : FT X W c t) (hb : FSs X W body fb) : FS X W (.While c body [] pos) (whileF t fb n) :=
  fs_of (ps_while hp hc hb) fun ρ ow σ H B H0 ow0 D0 S m => by
    refine ⟨fun m σ' H' => ∃ ρ' ow', SR (gx X) B H0 ow0 H' ow' σ' ρ' ∧ EndR (gx X) W D0 B H0 ow0 (whileF t fb m ρ'), ⟨n, ρ, ow, S, m⟩, ?_⟩
    rintro k σ' H' ⟨ρ', ow', S', m'⟩
    cases k with
    | zero => exact m'.elim
    | succ k =>
      refine ⟨ρ', ow', S'.env, outOf S' m' fun x v H2 e r m2 => ?_⟩
      subst r
      have S2 := S'.keep e
      cases v with
      | false => exact m2 σ' H2 ow' S2
      | true =>
        rw [if_pos rfl] at m2 ⊢
        refine ⟨fun σ3 H3 => ∃ ρ3 ow3, SR (gx X) B H0 ow0 H3 ow3 σ3 ρ3 ∧ EndR (gx X) W D0 B H0 ow0 (whileF t fb k ρ3), fun σ3 H3 h => ⟨k, Nat.lt_succ_self k, h⟩, ρ', ow', B, H0, ow0, S2, ?_⟩
        revert m2
        cases fb ρ' with
        | nx ρ2 => exact fun m' σ4 H4 ow4 S4 => ⟨ρ2, ow4, S4, m'⟩
        | ct ρ2 => exact fun m' σ4 H4 ow4 S4 => ⟨ρ2, ow4, S4, m'⟩
        | brk ρ2 => exact fun m' => m'
        | ret x => exact fun m' => m'
        | exc c fs ρ2 => exact fun m' => m'
        | stuck => exact fun m' => m'
end

/-! ### comprehensions -/
abbrev WN : WX := fun _ _ _ _ => False
def noX {α : Type} : R α → R α
  | .ok a => .ok a
  | _ => .stuck
def lcL (gf : GF) (ft : TF) (fe : EF) (ρ : Env) : List D → R (List D)
  | [] => .ok []
  | d :: ds => do
    let ρ1 ← R.of (gf d ρ)
    let b ← noX (ft ρ1)
    if b = true then do
      let y ← noX (fe ρ1)
      let r ← lcL gf ft fe ρ ds
      .ok (y.2 :: r)
    else lcL gf ft fe ρ ds
def fLc (fi : IF) (gf : GF) (ft : TF) (fe : EF) (vs : List Nat) : EF := fun ρ => do
  let ds ← fi ρ
  if small ds = true then do
    let r ← lcL gf ft fe (wipeE ρ vs) ds
    nw (.lst r)
  else .stuck
def fYes : TF := fun _ => .ok true
theorem noX_bind {α β γ : Type} {g : G} {W : WX} {RA : Hp → β → α → Prop} {H : Hp} {σ : St} {Q' : β → Hp → Prop} {x : R α} {k : α → R γ} {z : γ} (h : (noX x >>= k) = .ok z) (cont : ∀ a b H', x = .ok a → Same H H' → RA H' b a → k a = .ok z → Q' b H') : Out g W RA H σ Q' x := by
  cases x with
  | ok a => exact fun b H' e r => cont a b H' rfl e r h
  | exc c fs => cases h
  | stuck => cases h
section
variable {X : Cx} {W : WX} {pos : Pos} {tg iter elt : Expr} {ifs : List Expr} {scope : Scope} {own : List (Str × Nat)} {fi : IF} {gf : GF} {ft : TF} {fe : EF} {ix : List Nat}
theorem lcL_ok {gf : GF} {ft : TF} {fe : EF} {ρ : Env} {d : D} {ds : List D} {z : List D} (h : lcL gf ft fe ρ (d :: ds) = .ok z) : ∃ ρ1, gf d ρ = some ρ1 ∧
    (noX (ft ρ1) >>= fun b => if b = true then (noX (fe ρ1) >>= fun y => lcL gf ft fe ρ ds >>= fun r => R.ok (y.2 :: r)) else lcL gf ft fe ρ ds) = .ok z := by
  unfold lcL at h
  cases q : gf d ρ with
  | none => rw [q] at h; cases h
  | some ρ1 => rw [q] at h; exact ⟨ρ1, rfl, h⟩
theorem noX_noexc {α β : Type} {x : R α} {k : α → R β} (h : ∀ a c fs, k a ≠ .exc c fs) (c : Str) (fs : List (Str × D)) : (noX x >>= k) ≠ .exc c fs := by
  cases x with
  | ok a => exact h a c fs
  | exc c fs => exact fun z => by cases z
  | stuck => exact fun z => by cases z
theorem lcL_noexc {gf : GF} {ft : TF} {fe : EF} {ρ : Env} : ∀ (ds : List D) (c : Str) (fs : List (Str × D)), lcL gf ft fe ρ ds ≠ .exc c fs
  | [], c, fs => fun z => by cases z
  | d :: ds, c, fs => by
    unfold lcL
    cases q : gf d ρ with
    | none => exact fun z => by cases z
    | some ρ1 =>
      show (noX (ft ρ1) >>= _) ≠ _
      refine noX_noexc (fun b c fs => ?_) c fs
      cases b with
      | false => exact lcL_noexc ds c fs
      | true =>
        rw [if_pos rfl]
        refine noX_noexc (fun y c fs => ?_) c fs
        have := lcL_noexc (gf := gf) (ft := ft) (fe := fe) (ρ := ρ) ds
        revert this
        cases lcL gf ft fe ρ ds with
        | ok r => exact fun _ z => by cases z
        | exc c fs => exact fun h => absurd rfl (h c fs)
        | stuck => exact fun _ z => by cases z
theorem lc_read {g : G} {ds : List D} {J : It} {H H1 : Hp} {ow : List Addr} {σ : St} {ρ : Env} {Q : VK} {vs : List Nat} (hix : ∀ i ∈ ix, i ∈ vs) (E : EnvR g H1 ow σ ρ) (e0 : Same H H1) (w : Walk g H1 ow J ds) (hz : small ds = true) {out : List D} (hl : lcL gf ft fe (wipeE ρ vs) ds = .ok out)
    (k : ∀ a H', Same H H' → VR g H H' ow (.ref a) (true, .lst out) → Q (.ref a) H') (D : Addr) (nD : H1 D = none) :
    ∃ W' : Nat → Nat → Hp → Prop, (∃ m, W' 0 m (upd H1 D (.lst []))) ∧ ∀ i m H, W' i m H →
      (J.stop i H ∧ Q (.ref D) H) ∨ (J.go i H ∧ ∃ Nx : Hp → Prop, (∀ H', Nx H' → ∃ m', m' < m ∧ W' (i + 1) m' H') ∧ ∀ x H', J.yld i H x H' → tG g ix gf x (wipe σ vs) H' fun σ2 H2 => wipe σ2 vs = wipe σ vs ∧ tT g WN ft σ2 H2 fun b H3 =>
        if b = true then tE g WN fe σ2 H3 fun y H4 => ∃ acc, H4 D = some (.lst acc) ∧ acc.length < sizeLine ∧ Nx (upd H4 D (.lst (acc ++ [y]))) else Nx H3) := by
  have hzl : ds.length ≤ sizeLine := of_decide_eq_true hz
  refine ⟨fun i m H' => m = ds.length - i ∧ i ≤ ds.length ∧ Same H1 H' ∧ ∃ acc os rest, H' D = some (.lst acc) ∧ RpL g (hide H' (D :: ow)) acc os ∧ acc.length ≤ i ∧ lcL gf ft fe (wipeE ρ vs) (ds.drop i) = .ok rest ∧ out = os ++ rest, ⟨_, rfl, Nat.zero_le _, same_new nD, [], [], out, upd_same, .nil, Nat.le_refl _, hl, rfl⟩, ?_⟩
  rintro i m H' ⟨rfl, hi, e1, acc, os, rest, hD, ra, hacc, hr, ho⟩
  have E' : EnvR g H' (D :: ow) (wipe σ vs) (wipeE ρ vs) := (E.more nD e1 hD).wipe vs
  have e2 : Same (hide H1 ow) (hide H' (D :: ow)) := hide_mono e1 (mem_more nD)
  obtain ⟨w1, w2⟩ := w H' (D :: ow) E'.live e2 i
  by_cases hlt : i < ds.length
  · have hd : ds[i]? = some ds[i] := by simp [hlt]
    obtain ⟨go, step⟩ := w1 _ hd
    refine .inr ⟨go, fun H2 => Same H1 H2 ∧ ∃ acc os rest, H2 D = some (.lst acc) ∧ RpL g (hide H2 (D :: ow)) acc os ∧ acc.length ≤ i + 1 ∧ lcL gf ft fe (wipeE ρ vs) (ds.drop (i + 1)) = .ok rest ∧ out = os ++ rest, fun H2 h => ⟨ds.length - (i + 1), by omega, rfl, hlt, h⟩, fun x H2 y => ?_⟩
    obtain ⟨e3, rx⟩ := step x H2 y
    rw [List.drop_eq_getElem_cons hlt] at hr
    obtain ⟨ρ1, hg, hr⟩ := lcL_ok hr
    refine ⟨_, D :: ow, ds[i], ρ1, E'.keep e3, rx, hg, fun σ2 E2 st _ => ⟨?_, ?_⟩⟩
    · rw [st.wipe hix]
      refine List.ext_getElem? fun j => ?_
      rw [wipe_get, wipe_get, wipe_length]
      split <;> rfl
    · refine ⟨ρ1, D :: ow, E2, noX_bind hr fun b b' H3 hb e4 r4 hr => ?_⟩
      subst r4
      cases b' with
      | false =>
        rw [if_neg (by simp)] at hr ⊢
        have e5 := e3.trans e4
        exact ⟨e1.trans e5, acc, os, rest, e5 _ _ hD, ra.mono (hide_mono e5 fun _ z => .inl z), Nat.le_succ_of_le hacc, hr, ho⟩
      | true =>
        rw [if_pos rfl] at hr ⊢
        refine ⟨ρ1, D :: ow, E2.keep e4, noX_bind hr fun y v H4 hy e6 r6 hr => ?_⟩
        have e7 := (e3.trans e4).trans e6
        have rv := r6.give (E2.keep e4).live
        cases q : lcL gf ft fe (wipeE ρ vs) (ds.drop (i + 1)) with
        | ok rest' =>
          rw [q] at hr
          cases hr
          have hs : hide (upd H4 D (.lst (acc ++ [v]))) (D :: ow) = hide H4 (D :: ow) := hide_upd List.mem_cons_self
          refine ⟨acc, e7 _ _ hD, by omega, fun b o h => by rw [upd_ne (ne_of_none h nD)]; exact (e1.trans e7) _ _ h, acc ++ [v], os ++ [y.2], rest', upd_same, ?_, by simp; omega, rfl, by rw [ho]; simp⟩
          · rw [hs]
            exact (ra.mono (hide_mono e7 fun _ z => .inl z)).snoc rv
        | exc c fs => rw [q] at hr; cases hr
        | stuck => rw [q] at hr; cases hr
  · have e : i = ds.length := by omega
    subst e
    rw [List.drop_length] at hr
    cases hr
    rw [List.append_nil] at ho
    subst ho
    exact .inl ⟨w2 rfl, k D H' (e0.trans e1) ⟨D, rfl, e0.free nD, acc, hD, ra⟩⟩
theorem fe_lc (hc : X.calm = true) (hN : X.N.Nodup) (hi : FI X W tg iter fi) (ok : BlkOk X.N X.env.scope scope own)
    (hg : ∀ (s : Shared) (H : Hp) (C : Addr) (cl : List (Str × Addr)) (fp : List Addr), FG (X.blk s H scope (compEnvC scope cl C X.env) fp) tg ix gf)
    (ht : ∀ (s : Shared) (H : Hp) (C : Addr) (cl : List (Str × Addr)) (fp : List Addr), PTs (X.blk s H scope (compEnvC scope cl C X.env) fp) ifs (tT (gx X) WN ft))
    (he : ∀ (s : Shared) (H : Hp) (C : Addr) (cl : List (Str × Addr)) (fp : List Addr), FE (X.blk s H scope (compEnvC scope cl C X.env) fp) WN elt fe)
    (hix : ∀ i ∈ ix, i ∈ own.map (·.2) := by decide) (hs : ∀ x, foldedSetIterable iter X.env x = pure x := by intro _; rfl) :
    FE X W (.ListComp elt [⟨tg, iter, ifs, 0⟩] scope pos) (fLc fi gf ft fe (own.map (·.2))) :=
  fe_of (pe_lc (g := tG (gx X) ix gf) (tt := tT (gx X) WN ft) (te := tE (gx X) WN fe) hc hN hi ok hg ht he hs) fun ρ ow σ H Q E m => ⟨ρ, ow, E, Out.bind m fun ds J H1 e1 w m1 => by
    by_cases q : small ds = true
    · rw [if_pos q] at m1
      intro D nD
      cases h : lcL gf ft fe (wipeE ρ (own.map (·.2))) ds with
      | ok r =>
        rw [h] at m1
        exact lc_read (g := gx X) hix (E.keep e1) e1 w q h (fun a H' e r => m1 _ H' e r) D nD
      | exc c fs => exact absurd h (lcL_noexc ds c fs)
      | stuck => rw [h] at m1; exact m1.elim
    · rw [if_neg q] at m1
      exact m1.elim⟩
theorem fs_setLc {i : Nat} {y : Str} {py spos : Pos} (hc : X.calm = true) (hN : X.N.Nodup) (hsw : swapsWith (.ListComp elt [⟨tg, iter, ifs, 0⟩] scope pos) (some (.Name y py)) spos.line X.env = pure true) (hi : FI X W tg iter fi) (ok : BlkOk X.N X.env.scope scope own)
    (hg : ∀ (s : Shared) (H : Hp) (C : Addr) (cl : List (Str × Addr)) (fp : List Addr), FG (X.blk s H scope (compEnvC scope cl C X.env) fp) tg ix gf)
    (ht : ∀ (s : Shared) (H : Hp) (C : Addr) (cl : List (Str × Addr)) (fp : List Addr), PTs (X.blk s H scope (compEnvC scope cl C X.env) fp) ifs (tT (gx X) WN ft))
    (he : ∀ (s : Shared) (H : Hp) (C : Addr) (cl : List (Str × Addr)) (fp : List Addr), FE (X.blk s H scope (compEnvC scope cl C X.env) fp) WN elt fe)
    (hy : X.N[i]? = some y := by rfl) (hyl : X.env.scope.names.lookup y = some .local := by rfl)
    (hix : ∀ i ∈ ix, i ∈ own.map (·.2) := by decide) (hs : ∀ x, foldedSetIterable iter X.env x = pure x := by intro _; rfl) :
    FS X W (.Assign [.Name y py] (.ListComp elt [⟨tg, iter, ifs, 0⟩] scope pos) spos) (fSet i (fLc fi gf ft fe (own.map (·.2)))) :=
  fs_of (ps_setLc (g := tG (gx X) ix gf) (tt := tT (gx X) WN ft) (te := tE (gx X) WN fe) hc hN hy hyl hsw hi ok hg ht he hs) fun ρ ow σ H B H0 ow0 D0 S m => by
    have m : tE (gx X) W (fLc fi gf ft fe (own.map (·.2))) σ H fun x H1 => gName i x σ H1 D0.nx := setEnd S m
    obtain ⟨ρ', ow', E, m⟩ := m
    exact ⟨ρ', ow', E, Out.bind m fun ds J H1 e1 w m1 => by
      by_cases q : small ds = true
      · rw [if_pos q] at m1
        intro D nD
        cases h : lcL gf ft fe (wipeE ρ' (own.map (·.2))) ds with
        | ok r =>
          rw [h] at m1
          exact lc_read (g := gx X) (Q := fun x H1 => gName i x σ H1 D0.nx) hix (E.keep e1) e1 w q h (fun a H' e r => m1 _ H' e r) D nD
        | exc c fs => exact absurd h (lcL_noexc ds c fs)
        | stuck => rw [h] at m1; exact m1.elim
      · rw [if_neg q] at m1
        exact m1.elim⟩
abbrev FTs (X : Cx) (W : WX) (ifs : List Expr) (f : TF) : Prop := PTs X ifs (tT (gx X) W f)
theorem PTs.imp {X : Cx} {e : List Expr} {t t' : TT} (h : PTs X e t) (i : ∀ σ H Q, t' σ H Q → t σ H Q) : PTs X e t' := ⟨fun pins s σ H Q I w => h.run pins s σ H Q I (i _ _ _ w)⟩
theorem fts_nil : FTs X W [] fYes := PTs.imp pts_nil fun σ H Q ⟨ρ, ow, E, m⟩ => m true H (Same.refl _) rfl
theorem fts_one {c : Expr} (h : FT X W c ft) : FTs X W [c] ft := pts_one h
end

/-! ### calls -/
def spF (g : G) (F : List D → R (Bool × D)) (n : Nat) : Sp := fun vs H Q E => vs.length = n ∧ ∃ (ds : List D) (ow : List Addr), (∀ a ∈ ow, ∃ o, H a = some o) ∧ RpL g (hide H ow) vs ds ∧ Out g (fun cls d _ H' => E cls d H') (fun H' v x => VR g H H' ow v x) H [] Q (F ds)
def runD (n m : Nat) (fs : SF) : List D → R (Bool × D) := fun ds => if ds.length = m then (match fs (ds.map (fun d => some (false, d)) ++ List.replicate (n - m) none) with
    | .ret x => .ok x
    | .nx _ => sh .non
    | .exc c fs _ => .exc c fs
    | _ => .stuck) else .stuck
theorem start_env {g : G} {H : Hp} {ow : List Addr} {N : List Str} {vs : List V} {ds : List D} (lv : ∀ a ∈ ow, ∃ o, H a = some o) (r : RpL g (hide H ow) vs ds) : EnvR g H ow (L2.start N vs) (ds.map (fun d => some (false, d)) ++ List.replicate (N.length - ds.length) none) := by
  have tr : ∀ (i : Nat) (b : Bool) (d : D), (ds.map (fun d => (some (false, d) : Slot)) ++ List.replicate (N.length - ds.length) none)[i]? = some (some (b, d)) → b = false ∧ ds[i]? = some d := fun i b d h => by
    by_cases z : i < ds.length
    · rw [List.getElem?_append_left (by simpa using z), List.getElem?_map] at h
      cases y : ds[i]? with
      | none => rw [y] at h; cases h
      | some d' => rw [y] at h; cases h; exact ⟨rfl, rfl⟩
    · rw [List.getElem?_append_right (by simpa using z), List.getElem?_replicate] at h
      split at h <;> cases h
  refine ⟨by unfold L2.start; simp [r.length], lv, fun i d h => ?_, fun i d h => ?_, fun i j d e a _ h _ _ _ => ?_⟩
  · obtain ⟨_, h⟩ := tr _ _ _ h
    obtain ⟨v, hv, rv⟩ := r.get h
    refine ⟨v, ?_, rv⟩
    have hl : i < vs.length := (List.getElem?_eq_some_iff.mp hv).1
    unfold L2.start
    rw [List.getElem?_append_left (by simpa using hl), List.getElem?_map, hv]
    rfl
  · cases (tr _ _ _ h).1
  · cases (tr _ _ _ h).1
theorem runD_len {n m : Nat} {fs : SF} {ds : List D} (h : runD n m fs ds ≠ .stuck) : ds.length = m := by
  by_cases z : ds.length = m
  · exact z
  · unfold runD at h
    rw [if_neg z] at h
    exact absurd rfl h
theorem okF {P : Program} {w : World} {K : PySem.W.Frag} {mg : Str → Option Value} {base : Heap} {x qual : Str} {st : Stmt} {f : Addr} {fd : FuncData} {N ps : List Str} {k : Nat} {fs : SF} (F : Fun K x qual st f fd) (S : FnScope N ps (defScope st))
    (hb : ∀ (cdv : Value) (A : Around) (outer : List PySem.Env) (s : Shared) (H : Hp) (E : XK), Room k (A.deeper (PyProof.Rows.envOfC qual (defScope st) s.heap.objs.size f cdv)) → Takes (cxOf (CX P w) P w K mg base N qual (defScope st) f cdv A outer s H E) (fun cls d _ H' => E cls d H') →
      FSs (cxOf (CX P w) P w K mg base N qual (defScope st) f cdv A outer s H E) (fun cls d _ H' => E cls d H') (defBody st) fs) :
    FnOk P w K mg base (CX P w) (k + 1) f fd ps (spF ⟨K, mg⟩ (runD N.length ps.length fs) ps.length) := by
  refine F.okX S (fun vs H Q E h => h.1) (fun cdv A outer s H vs Q E hr h => ?_)
  refine ⟨_, hb cdv A outer s H E hr (takes_of rfl rfl rfl rfl), ?_⟩
  obtain ⟨hl, ds, ow, lv, r, m⟩ := h
  have hd : ds.length = ps.length := r.length.symm.trans hl
  have En := start_env (N := N) lv r
  refine ⟨_, ow, hide H ow, H, ow, ⟨En, Same.refl _, Same.refl _, fun _ z => z, lv, fun i d a h1 _ => ?_⟩, ?_⟩
  · obtain ⟨b, hb1, hb2, hb3⟩ := En.own i d h1
    exfalso
    by_cases z : i < ds.length
    · rw [List.getElem?_append_left (by simpa using z), List.getElem?_map] at h1
      cases y : ds[i]? with
      | none => rw [y] at h1; cases h1
      | some d' => rw [y] at h1; cases h1
    · rw [List.getElem?_append_right (by simpa using z), List.getElem?_replicate] at h1
      split at h1 <;> cases h1
  · unfold runD at m
    rw [if_pos hd] at m
    rw [← hd] at m
    revert m
    cases fs (ds.map (fun d => some (false, d)) ++ List.replicate (N.length - ds.length) none) with
    | ret x => exact fun m v H' e q => m v H' e q
    | nx ρ => exact fun m σ H' ow' S' => m .non H' S'.ent .non
    | exc c fs ρ => exact fun m C d σ H' ow' S' h1 h2 => m C d H' S'.ent h1 h2
    | brk _ => exact fun m => False.elim m
    | ct _ => exact fun m => False.elim m
    | stuck => exact fun m => False.elim m
section
variable {X : Cx} {W : WX} {pos p : Pos} {e : Expr} {es : List Expr} {u : AF} {k n : Nat} {f : Addr} {fd : FuncData} {ps : List Str} {F : List D → R (Bool × D)} {x : Str}
theorem fe_call (hF : FnOk X.prog X.w X.K X.mg X.base (CX X.prog X.w) k f fd ps (spF (gx X) F n)) (tk : Takes X W) (hr : Room k X.A) (hm : X.mg x = some (.ref f)) (hk : PySem.W.keepIn X.K (.ref f) = true) (hb : Binds X.K fd ps []) (ha : FA X W (e :: es) u) (hn : ∀ ds, F ds ≠ .stuck → ds.length = n := by exact fun ds h => runD_len h) (hg : Gl X x := by rfl)
    (hdb : (x == ("__debug__" : Str)) = false := by decide) (he : starEach (e :: es) X.env = (false, eval e X.env) :: starEach es X.env := by rfl) (hpl : (backTo pos (starEach es X.env)).any (·.1) = false := by rfl) :
    FE X W (.Call (.Name x p) (e :: es) [] pos) (fApp F u) :=
  fe_of (pe_callS hF hr hg hm hk hb (fun σ => passAt tk σ) ha hdb he hpl) fun ρ ow σ H Q E m => ⟨ρ, ow, E, Out.bind m fun ds vs H1 e1 r m1 => by
    refine ⟨?_, ds, ow, (E.keep e1).live, r, ?_⟩
    · rw [r.length]
      refine hn ds fun z => ?_
      rw [z] at m1
      exact m1
    · have m2 := OutE.from m1 e1
      revert m2
      cases F ds with
      | ok x => exact fun m2 => m2
      | exc c fs => exact fun m2 => m2
      | stuck => exact fun m2 => m2⟩
end
end Fv

namespace Fv
open PySem L2

/-! ### plain data -/
mutual
def D.py : D → PyData
  | .non => .none
  | .bl b => .bool b
  | .int i => .int i
  | .str s => .str s
  | .tup l => .tuple (pys l)
  | .lst l => .list (pys l)
  | .arg l => .list (pys l)
  | .dct _ => .none
  | .dcT _ => .none
  | .obj _ _ => .none
def pys : List D → List PyData
  | [] => []
  | d :: ds => d.py :: pys ds
end
mutual
def isDat : D → Bool
  | .tup l => areDat l
  | .lst l => areDat l
  | .arg l => areDat l
  | .dct _ => false
  | .dcT _ => false
  | .obj _ _ => false
  | _ => true
def areDat : List D → Bool
  | [] => true
  | d :: ds => isDat d && areDat ds
end
mutual
theorem Rp.dp {g : G} {H : Hp} : ∀ {v : V} {d : D}, Rp g H v d → isDat d = true → Dp g.K H v d.py
  | _, _, .non, _ => .non
  | _, _, .bl b, _ => .bl b
  | _, _, .int i, _ => .int i
  | _, _, .str x, _ => .str x
  | _, _, .tup h r, q => .tup (.inl (.inl h)) (RpL.dp r q)
  | _, _, .lst h r, q => .lst (.inl h) (RpL.dp r q)
  | _, _, .arg h r, q => .lst h (RpL.dp r q)
  | _, _, .dK h r, q => by cases q
  | _, _, .dT h r, q => by cases q
  | _, _, .obj m h r, q => by cases q
theorem RpL.dp {g : G} {H : Hp} : ∀ {v : List V} {d : List D}, RpL g H v d → areDat d = true → DpAll g.K H v (pys d)
  | _, _, .nil, _ => .nil
  | _, _, .cons h r, q => by
    have q' : (isDat _ && areDat _) = true := q
    rw [Bool.and_eq_true] at q'
    exact .cons (Rp.dp h q'.1) (RpL.dp r q'.2)
end
def cmpOk (x y : D) : Bool := isDat x && isDat y && SeqAt.shaped x.py && SeqAt.shaped y.py
def eqD (x y : D) : R (Bool × D) := match x, y with
  | .str a, .str b => sh (.bl (decide (a = b)))
  | x, y => if cmpOk x y = true then sh (.bl (PyData.eqv x.py y.py)) else .stuck
def neD (x y : D) : R (Bool × D) := match x, y with
  | .str a, .str b => sh (.bl (!decide (a = b)))
  | x, y => if cmpOk x y = true then sh (.bl (!PyData.eqv x.py y.py)) else .stuck
section
variable {X : Cx}
def rEqSS : R2 := fun x y H Q => ∃ i j, x = .str i ∧ y = .str j ∧ Q (.bl (decide (i = j))) H
def rNeSS : R2 := fun x y H Q => ∃ i j, x = .str i ∧ y = .str j ∧ Q (.bl (!decide (i = j))) H
theorem op_eqSS : OpR X (compareOp .Eq) rEqSS := by
  intro pins s σ H x y v u Q I rx ry h
  obtain ⟨i, j, rfl, rfl, q⟩ := h
  refine op_eq pins s σ H _ _ v u Q I rx ry ⟨rfl, ?_⟩
  have e : decide (V.str i = V.str j) = decide (i = j) := by simp
  rw [e]; exact q
theorem op_neSS : OpR X (compareOp .NotEq) rNeSS := by
  intro pins s σ H x y v u Q I rx ry h
  obtain ⟨i, j, rfl, rfl, q⟩ := h
  refine op_ne pins s σ H _ _ v u Q I rx ry ⟨rfl, ?_⟩
  have e : decide (V.str i = V.str j) = decide (i = j) := by simp
  rw [e]; exact q
def rEqAny (K : PySem.W.Frag) : R2 := fun x y H Q => rEqSS x y H Q ∨ rEqD K x y H Q
def rNeAny (K : PySem.W.Frag) : R2 := fun x y H Q => rNeSS x y H Q ∨ rNeD K x y H Q
theorem op_eqAny (hu : X.A.units + 64 < cLine) : OpR X (compareOp .Eq) (rEqAny X.K) := OpR.or (r := rEqSS) op_eqSS (op_eqD hu)
theorem op_neAny (hu : X.A.units + 64 < cLine) : OpR X (compareOp .NotEq) (rNeAny X.K) := OpR.or (r := rNeSS) op_neSS (op_neD hu)
end
theorem cmpOk_of {x y : D} (h : cmpOk x y = true) : isDat x = true ∧ isDat y = true ∧ SeqAt.shaped x.py = true ∧ SeqAt.shaped y.py = true := by
  unfold cmpOk at h
  simp only [Bool.and_eq_true] at h
  exact ⟨h.1.1.1, h.1.1.2, h.1.2, h.2⟩
section
variable {g : G}
theorem lk_eq : Lk2 g (rEqAny g.K) eqD := fun {W H ow σ Q x y dx dy} lv rx ry m => by
  unfold eqD at m
  split at m
  · rename_i i j
    exact .inl ⟨i, j, rx.str_, ry.str_, m _ H (Same.refl _) (.bl _)⟩
  by_cases q : cmpOk dx dy = true
  · rw [if_pos q] at m
    obtain ⟨q1, q2, q3, q4⟩ := cmpOk_of q
    exact .inr ⟨_, _, Rp.dp (rx.mono (hide_same _ _)) q1, Rp.dp (ry.mono (hide_same _ _)) q2, q3, q4, m _ H (Same.refl _) (.bl _)⟩
  · rw [if_neg q] at m; exact m.elim
theorem lk_ne : Lk2 g (rNeAny g.K) neD := fun {W H ow σ Q x y dx dy} lv rx ry m => by
  unfold neD at m
  split at m
  · rename_i i j
    exact .inl ⟨i, j, rx.str_, ry.str_, m _ H (Same.refl _) (.bl _)⟩
  by_cases q : cmpOk dx dy = true
  · rw [if_pos q] at m
    obtain ⟨q1, q2, q3, q4⟩ := cmpOk_of q
    exact .inr ⟨_, _, Rp.dp (rx.mono (hide_same _ _)) q1, Rp.dp (ry.mono (hide_same _ _)) q2, q3, q4, m _ H (Same.refl _) (.bl _)⟩
  · rw [if_neg q] at m; exact m.elim

/-! ### numbers -/
def intD2 (c : Int → Int → Bool) (f : Int → Int → D) (x y : D) : R (Bool × D) := match x, y with
  | .int i, .int j => if c i j = true then sh (f i j) else .stuck
  | _, _ => .stuck
theorem lk_int2 {C : Int → Int → Prop} {c : Int → Int → Bool} {f : Int → Int → D} {h : Int → Int → V} (hc : ∀ i j, c i j = true → C i j) (hf : ∀ H i j, Rp g H (h i j) (f i j)) : Lk2 g (rI C h) (intD2 c f) := fun {W H ow σ Q x y dx dy} lv rx ry m => by
  unfold intD2 at m
  split at m
  · rename_i i j
    by_cases q : c i j = true
    · rw [if_pos q] at m
      exact ⟨i, j, rx.int_, ry.int_, hc i j q, m _ H (Same.refl _) (hf _ i j)⟩
    · rw [if_neg q] at m; exact m.elim
  · exact m.elim
def intD0 (f : Int → Int → D) (x y : D) : R (Bool × D) := match x, y with
  | .int i, .int j => sh (f i j)
  | _, _ => .stuck
theorem lk_int0 {f : Int → Int → D} {h : Int → Int → V} (hf : ∀ H i j, Rp g H (h i j) (f i j)) : Lk2 g (rI0 h) (intD0 f) := fun {W H ow σ Q x y dx dy} lv rx ry m => by
  unfold intD0 at m
  split at m
  · rename_i i j
    exact ⟨i, j, rx.int_, ry.int_, m _ H (Same.refl _) (hf _ i j)⟩
  · exact m.elim
def subD := intD0 fun i j => .int (i - j)
theorem lk_sub : Lk2 g (rI0 fun i j => .int (i - j)) subD := lk_int0 fun _ _ _ => .int _
def cMul (i j : Int) : Bool := (decide (-(2 ^ 64) < i) && decide (i < 2 ^ 64)) || (decide (-(2 ^ 64) < j) && decide (j < 2 ^ 64))
theorem cMul_of {i j : Int} (h : cMul i j = true) : CMul i j := by
  unfold cMul at h
  simpa [CMul] using h
def mulD := intD2 cMul fun i j => .int (i * j)
theorem lk_mul : Lk2 g (rI CMul fun i j => .int (i * j)) mulD := lk_int2 (fun _ _ => cMul_of) fun _ _ _ => .int _
def cDiv (_ j : Int) : Bool := decide (j ≠ 0) && decide (j.natAbs < 1073741824)
def fdivD := intD2 cDiv fun i j => .int (i.fdiv j)
theorem lk_fdiv : Lk2 g (rI CDivN fun i j => .int (i.fdiv j)) fdivD := lk_int2 (fun i j h => by
  unfold cDiv at h
  simpa [CDivN] using h) fun _ _ _ => .int _
def modD := intD2 (fun _ j => decide (j ≠ 0)) fun i j => .int (i.fmod j)
theorem lk_mod : Lk2 g (rI (fun _ j => j ≠ 0) fun i j => .int (i.fmod j)) modD := lk_int2 (fun i j h => of_decide_eq_true h) fun _ _ _ => .int _
def cPow (i j : Int) : Bool := decide (0 ≤ j) && decide (j ≤ 1000000) && decide (i.natAbs < 2 ^ 64)
def powD := intD2 cPow fun i j => .int (i ^ j.toNat)
theorem lk_pow : Lk2 g (rI CPow fun i j => .int (i ^ j.toNat)) powD := lk_int2 (fun i j h => by
  unfold cPow at h
  simp only [Bool.and_eq_true, decide_eq_true_eq] at h
  exact ⟨h.1.1, h.1.2, h.2⟩) fun _ _ _ => .int _
def ltD := intD0 fun i j => .bl (decide (i < j))
def leD := intD0 fun i j => .bl (decide (i ≤ j))
def gtD := intD0 fun i j => .bl (decide (j < i))
def geD := intD0 fun i j => .bl (decide (j ≤ i))
theorem lk_lt : Lk2 g (rI0 fun i j => .bl (decide (i < j))) ltD := lk_int0 fun _ _ _ => .bl _
theorem lk_le : Lk2 g (rI0 fun i j => .bl (decide (i ≤ j))) leD := lk_int0 fun _ _ _ => .bl _
theorem lk_gt : Lk2 g (rI0 fun i j => .bl (decide (j < i))) gtD := lk_int0 fun _ _ _ => .bl _
theorem lk_ge : Lk2 g (rI0 fun i j => .bl (decide (j ≤ i))) geD := lk_int0 fun _ _ _ => .bl _
def negD (x : D) : R (Bool × D) := match x with
  | .int i => sh (.int (-i))
  | _ => .stuck
theorem lk_neg : Lk1 g (rU fun i => .int (-i)) negD := fun {W H ow σ Q x dx} lv rx m => by
  unfold negD at m
  split at m
  · exact ⟨_, rx.int_, m _ H (Same.refl _) (.int _)⟩
  · exact m.elim

/-! ### + -/
def addD (x y : D) : R (Bool × D) := match x, y with
  | .int i, .int j => sh (.int (i + j))
  | .str a, .str b => if a.length + b.length ≤ sizeLine then sh (.str (a ++ b)) else .stuck
  | .tup a, .tup b => if a.length + b.length ≤ sizeLine then sh (.tup (a ++ b)) else .stuck
  | .lst a, .lst b => if a.length + b.length ≤ sizeLine then nw (.lst (a ++ b)) else .stuck
  | _, _ => .stuck
def rCatL (K : PySem.W.Frag) : R2 := fun x y H Q => ∃ l b xs zs, x = .ref l ∧ y = .ref b ∧ SqL K H l xs ∧ SqL K H b zs ∧ xs.length + zs.length ≤ sizeLine ∧ ∀ p, H p = none → Q (.ref p) (upd H p (.lst (xs ++ zs)))
end
end Fv

namespace Fv
open PySem L2
theorem Rd.lists {P : Program} {w : World} {H : Hp} {h : Heap} {a : Addr} {xs : List V} (z : Rd H a (.lst xs)) (x : HOk P w H h) : xs.length ≤ sizeLine ∧ ∃ (its : List Value) (n : Nat), Vals xs its ∧ IsL h a its.toArray n := by
  rcases z with z | ⟨o, z⟩
  · exact x a _ z
  · exact (x a _ z).2
def rCatR : R2 := fun x y H Q => ∃ l b xs zs, x = .ref l ∧ y = .ref b ∧ Rd H l (.lst xs) ∧ Rd H b (.lst zs) ∧ xs.length + zs.length ≤ sizeLine ∧ ∀ p, H p = none → Q (.ref p) (upd H p (.lst (xs ++ zs)))
section
variable {X : Cx}
theorem op_catR : OpR X (binaryOp .Add) rCatR := fun pins s σ H x y v u Q I rx ry ⟨l, b, xs, zs, e1, e2, h1, h2, hz, q⟩ => by
  subst e1 e2
  obtain rfl : v = Value.ref l := rx
  obtain rfl : u = Value.ref b := ry
  obtain ⟨z1, i1, n1, r1, o1⟩ := Rd.lists h1 I.hok
  obtain ⟨z2, i2, n2, r2, o2⟩ := Rd.lists h2 I.hok
  have l1 := r1.length
  have l2 := r2.length
  refine PySem.P.add_list o1 o2 ?_ (by rw [List.size_toArray, List.size_toArray]; omega)
  rw [show i1.toArray ++ i2.toArray = (i1 ++ i2).toArray by simp]
  exact ⟨V.ref s.heap.objs.size, _, I.lnew (t' := s.toks) (r1.append r2) (by rw [List.length_append]; exact hz), rfl, q _ I.fresh⟩
def rAddS : R2 := fun x y H Q => ∃ i j, x = .str i ∧ y = .str j ∧ i.length + j.length ≤ sizeLine ∧ Q (.str (i ++ j)) H
def rAddAny (K : PySem.W.Frag) : R2 := fun x y H Q => rI0 (fun i j => .int (i + j)) x y H Q ∨ rAddS x y H Q ∨ rCatR x y H Q ∨ rCatA K x y H Q
theorem op_addAny : OpR X (binaryOp .Add) (rAddAny X.K) := op_add.or (OpR.or (r := rAddS) op_add_str (op_catR.or op_catA))
end
section
variable {g : G}
theorem lk_add : Lk2 g (rAddAny g.K) addD := fun {W H ow σ Q x y dx dy} lv rx ry m => by
  unfold addD at m
  split at m
  · rename_i i j
    exact .inl ⟨i, j, rx.int_, ry.int_, m _ H (Same.refl _) (.int _)⟩
  · rename_i a b
    split at m
    · rename_i q
      exact .inr (.inl ⟨a, b, rx.str_, ry.str_, q, m _ H (Same.refl _) (.str _)⟩)
    · exact m.elim
  · rename_i a b
    split at m
    · rename_i q
      cases rx with
      | @tup p xs _ h1 r1 =>
        cases ry with
        | @tup p' ys _ h2 r2 =>
          refine .inr (.inr (.inr ⟨p, p', xs, ys, rfl, rfl, tupT h1, tupT h2, by rw [r1.length, r2.length]; exact q, fun e => ?_, fun _ e => ?_, fun _ _ t ht => ?_⟩))
          · subst e
            cases r1
            exact m _ H (Same.refl _) (.tup h2 r2)
          · subst e
            cases r2
            rw [List.append_nil] at m
            exact m _ H (Same.refl _) (.tup h1 r1)
          · exact m _ _ (same_new ht) (VR.newT (H := H) ht (r1.append r2) lv)
    · exact m.elim
  · rename_i a b
    split at m
    · rename_i q
      cases rx with
      | @lst p xs _ h1 r1 =>
        cases ry with
        | @lst p' ys _ h2 r2 =>
          exact .inr (.inr (.inl ⟨p, p', xs, ys, rfl, rfl, Same.rd (hide_same _ _) h1, Same.rd (hide_same _ _) h2, by rw [r1.length, r2.length]; exact q, fun t ht => m _ _ (same_new ht) (VR.newL (Same.refl _) ht (r1.append r2))⟩))
    · exact m.elim
  · exact m.elim

/-! ### an item -/
theorem atI_bear {H : Hp} {xs : List V} {ds : List D} {i : Int} {d : D} (r : RpL g H xs ds) (h : atI ds i = some d) : ∃ v, atI xs i = some v ∧ Rp g H v d := by
  unfold atI at h ⊢
  rw [r.length]
  cases q : ixN ds.length i with
  | none => rw [q] at h; cases h
  | some j => rw [q] at h; exact r.get h
def ofO (o : Option D) : R (Bool × D) := match o with
  | some d => sh d
  | none => .stuck
def ixD (x y : D) : R (Bool × D) := match x, y with
  | .lst l, .int i => ofO (atI l i)
  | .arg l, .int i => ofO (atI l i)
  | .tup l, .int i => ofO (atI l i)
  | .str z, .int i => if z.length ≤ sizeLine then ofO ((atI z.cps.toList i).map fun c => .str ⟨#[c]⟩) else .stuck
  | _, _ => .stuck
theorem lk_ix : Lk2 g (rIx g.K) ixD := fun {W H ow σ Q x y dx dy} lv rx ry m => by
  have li : ∀ {a xs l i}, x = .ref a → SqL g.K (hide H ow) a xs → RpL g (hide H ow) xs l → dy = .int i → OutE g W H ow σ Q (ofO (atI l i)) → rIxL g.K x y H Q := fun {a xs l i} e h r ey m' => by
    subst e ey
    cases q : atI l i with
    | none => rw [q] at m'; exact m'.elim
    | some d =>
      rw [q] at m'
      obtain ⟨v, hv, rv⟩ := atI_bear r q
      exact ⟨a, xs, i, v, rfl, ry.int_, (hide_same _ _).seq h, hv, m' v H (Same.refl _) rv⟩
  unfold ixD at m
  split at m
  · rename_i l i
    cases rx with
    | lst h r => exact .inl (li rfl (.inl h) r rfl m)
  · rename_i l i
    cases rx with
    | arg h r => exact .inl (li rfl h r rfl m)
  · rename_i l i
    cases rx with
    | @tup a xs _ h r =>
      cases q : atI l i with
      | none => rw [q] at m; exact m.elim
      | some d =>
        rw [q] at m
        obtain ⟨v, hv, rv⟩ := atI_bear r q
        exact .inr (.inl ⟨a, xs, i, v, rfl, ry.int_, tupT h, hv, m v H (Same.refl _) rv⟩)
  · rename_i z i
    split at m
    · rename_i hz
      cases q : atI z.cps.toList i with
      | none => rw [q] at m; exact m.elim
      | some c =>
        rw [q] at m
        exact .inr (.inr ⟨z, i, c, rx.str_, ry.int_, hz, q, m _ H (Same.refl _) (.str _)⟩)
    · exact m.elim
  · exact m.elim

/-! ### slices -/
def cutD (l : List D) (lo hi : Option Int) : List D := (l.drop (HT.sIx l.length 0 lo)).take (HT.sIx l.length l.length hi - HT.sIx l.length 0 lo)
theorem cut_bear {H : Hp} {xs : List V} {ds : List D} (r : RpL g H xs ds) (lo hi : Option Int) : RpL g H (cutV xs lo hi) (cutD ds lo hi) := by
  unfold cutV cutD
  rw [r.length]
  exact (r.drop _).take _
def sliceD (x : D) (lo hi : Option Int) : R (Bool × D) := match x with
  | .lst l => nw (.lst (cutD l lo hi))
  | .arg l => nw (.lst (cutD l lo hi))
  | .tup l => sh (.tup (cutD l lo hi))
  | .str z => if z.length ≤ sizeLine then sh (.str (cutS z lo hi)) else .stuck
  | _ => .stuck
def rSlAny (K : PySem.W.Frag) : V → Option Int → Option Int → Hp → VK → Prop := fun x lo hi H Q => rSlL K x lo hi H Q ∨ rSlA K x lo hi H Q ∨ rSlS x lo hi H Q
theorem sl_any {X : Cx} : SlR X (rSlAny X.K) := sl_list.or (sl_tupA.or sl_str)
theorem cut_whole {l : List D} {lo hi : Option Int} (h1 : HT.sIx l.length 0 lo = 0) (h2 : HT.sIx l.length l.length hi = l.length) : cutD l lo hi = l := by
  unfold cutD
  rw [h1, h2]
  simp
theorem lk_slice {W : WX} {H : Hp} {ow : List Addr} {σ : St} {Q : VK} {x : V} {dx : D} {lo hi : Option Int} (lv : ∀ a ∈ ow, ∃ o, H a = some o) (rx : Rp g (hide H ow) x dx) (m : OutE g W H ow σ Q (sliceD dx lo hi)) : rSlAny g.K x lo hi H Q := by
  unfold sliceD at m
  split at m
  · cases rx with
    | lst h r => exact .inl ⟨_, _, rfl, (hide_same _ _).seq (.inl h), fun p hp => m _ _ (same_new hp) (VR.newL (Same.refl _) hp (cut_bear r lo hi))⟩
  · cases rx with
    | arg h r => exact .inl ⟨_, _, rfl, (hide_same _ _).seq h, fun p hp => m _ _ (same_new hp) (VR.newL (Same.refl _) hp (cut_bear r lo hi))⟩
  · cases rx with
    | @tup a xs l h r =>
      refine .inr (.inl ⟨a, xs, rfl, tupT h, fun z => ?_, fun _ p hp => m _ _ (same_new hp) (VR.newT (H := H) hp (cut_bear r lo hi) lv)⟩)
      rw [r.length] at z
      rw [cut_whole z.1 z.2] at m
      exact m _ H (Same.refl _) (.tup h r)
  · rename_i z
    split at m
    · rename_i hz
      exact .inr (.inr ⟨z, rx.str_, hz, m _ H (Same.refl _) (.str _)⟩)
    · exact m.elim
  · exact m.elim
/-- a slice's part -/
abbrev OF := Env → R (Option Int)
abbrev OutO (g : G) (W : WX) (H : Hp) (σ : St) (Q : Option Int → Hp → Prop) : R (Option Int) → Prop := Out g W (fun _ b c => b = c) H σ Q
def tO (g : G) (W : WX) (f : OF) : TO := fun σ H Q => ∃ (ρ : Env) (ow : List Addr), EnvR g H ow σ ρ ∧ OutO g W H σ Q (f ρ)
abbrev FO (X : Cx) (W : WX) (e : Option Expr) (f : OF) : Prop := PO X e (tO (gx X) W f)
theorem PO.imp {X : Cx} {e : Option Expr} {t t' : TO} (h : PO X e t) (i : ∀ σ H Q, t' σ H Q → t σ H Q) : PO X e t' := ⟨fun pins s σ H Q I w => h.run pins s σ H Q I (i _ _ _ w)⟩
def oNone : OF := fun _ => .ok none
def oSome (f : EF) : OF := fun ρ => do
  let x ← f ρ
  match x.2 with
  | .int i => .ok (some i)
  | _ => .stuck
def fSlice (f : EF) (lo hi : OF) : EF := fun ρ => do
  let x ← f ρ
  let a ← lo ρ
  let b ← hi ρ
  sliceD x.2 a b
section
variable {X : Cx} {W : WX} {e : Expr} {f : EF} {lo hi : Option Expr} {a b : OF} {pos p2 : Pos}
theorem fo_none : FO X W none oNone := PO.imp po_none fun σ H Q ⟨ρ, ow, E, m⟩ => m none H (Same.refl _) rfl
theorem fo_some (h : FE X W e f) : FO X W (some e) (oSome f) := PO.imp (po_some h) fun σ H Q ⟨ρ, ow, E, m⟩ => ⟨ρ, ow, E, Out.bind m fun x v H1 e1 r1 m1 => by
  have r := r1.give E.live
  revert r m1
  cases x.2 with
  | int i => intro m1 r; exact ⟨i, r.int_, m1 _ H1 e1 rfl⟩
  | _ => intro m1 r; exact m1.elim⟩
theorem OutAny.from {α β : Type} {g : G} {W : WX} {RR : Hp → β → α → Prop} {H H1 : Hp} {σ : St} {Q : β → Hp → Prop} {r : R α} (m : Out g W RR H σ Q r) (e : Same H H1) : Out g W RR H1 σ Q r := by
  cases r with
  | ok x => exact fun v H' e' r => m v H' (e.trans e') r
  | exc c fs => exact fun C d H' e' => m C d H' (e.trans e')
  | stuck => exact m
theorem fe_slice (h : FE X W e f) (hl : FO X W lo a) (hh : FO X W hi b) : FE X W (.Subscript e (.Slice lo hi none p2) pos) (fSlice f a b) :=
  fe_of (pe_slice sl_any h hl hh) fun ρ ow σ H Q E m => ⟨ρ, ow, E, Out.bind m fun x v H1 e1 r1 m1 => ⟨ρ, ow, E.keep e1, Out.bind (OutE.from m1 e1) fun i i' H2 e2 r2 m2 => by
    subst r2
    refine ⟨ρ, ow, (E.keep e1).keep e2, Out.bind (OutE.from m2 e2) fun j j' H3 e3 r3 m3 => ?_⟩
    subst r3
    have E3 := ((E.keep e1).keep e2).keep e3
    exact lk_slice E3.live ((r1.give E.live).mono (hide_mono (e2.trans e3) fun _ z => .inl z)) (OutE.from m3 e3)⟩⟩
end

/-! ### built-ins -/
def lenD (ds : List D) : R (Bool × D) := match ds with
  | [.lst l] => sh (.int l.length)
  | [.arg l] => sh (.int l.length)
  | [.tup l] => sh (.int l.length)
  | [.str z] => if z.length ≤ sizeLine then sh (.int z.length) else .stuck
  | _ => .stuck
theorem RpL.one {H : Hp} {xs : List V} {d : D} (r : RpL g H xs [d]) : ∃ v, xs = [v] ∧ Rp g H v d := by
  cases r with
  | cons h r => cases r; exact ⟨_, rfl, h⟩
theorem RpL.two {H : Hp} {xs : List V} {d e : D} (r : RpL g H xs [d, e]) : ∃ v u, xs = [v, u] ∧ Rp g H v d ∧ Rp g H u e := by
  cases r with
  | cons h r =>
    obtain ⟨u, rfl, h2⟩ := r.one
    exact ⟨_, _, rfl, h, h2⟩
theorem lk_len : LkA g (fun xs H Q => ∃ x n, xs = [x] ∧ LenV g.K x H n ∧ Q (.int n) H) lenD := fun {W H ow σ Q xs ds} lv r m => by
  unfold lenD at m
  split at m
  · obtain ⟨v, rfl, h⟩ := r.one
    cases h with
    | lst h r => exact ⟨_, _, rfl, .inl ⟨_, (hide_same _ _).seq (.inl h), r.length.symm⟩, m _ H (Same.refl _) (.int _)⟩
  · obtain ⟨v, rfl, h⟩ := r.one
    cases h with
    | arg h r => exact ⟨_, _, rfl, .inl ⟨_, (hide_same _ _).seq h, r.length.symm⟩, m _ H (Same.refl _) (.int _)⟩
  · obtain ⟨v, rfl, h⟩ := r.one
    cases h with
    | tup h r => exact ⟨_, _, rfl, .inr ⟨_, tupT h, r.length.symm⟩, m _ H (Same.refl _) (.int _)⟩
  · obtain ⟨v, rfl, h⟩ := r.one
    split at m
    · rename_i hz
      exact ⟨_, _, rfl, by rw [h.str_]; exact ⟨hz, rfl⟩, m _ H (Same.refl _) (.int _)⟩
    · exact m.elim
  · exact m.elim
def intFn (ds : List D) : R (Bool × D) := match ds with
  | [.int i] => sh (.int i)
  | [.bl k] => sh (.int (if k then 1 else 0))
  | _ => .stuck
theorem lk_intFn : LkA g (fun xs H Q => (∃ i, xs = [.int i] ∧ Q (.int i) H) ∨ ∃ k, xs = [.bl k] ∧ Q (.int (if k then 1 else 0)) H) intFn := fun {W H ow σ Q xs ds} lv r m => by
  unfold intFn at m
  split at m
  · obtain ⟨v, rfl, h⟩ := r.one
    exact .inl ⟨_, by rw [h.int_], m _ H (Same.refl _) (.int _)⟩
  · obtain ⟨v, rfl, h⟩ := r.one
    exact .inr ⟨_, by rw [h.bool], m _ H (Same.refl _) (.int _)⟩
  · exact m.elim
def absFn (ds : List D) : R (Bool × D) := match ds with
  | [.int i] => sh (.int (if i < 0 then -i else i))
  | _ => .stuck
theorem lk_absFn : LkA g (fun xs H Q => ∃ i, xs = [.int i] ∧ Q (.int (if i < 0 then -i else i)) H) absFn := fun {W H ow σ Q xs ds} lv r m => by
  unfold absFn at m
  split at m
  · obtain ⟨v, rfl, h⟩ := r.one
    exact ⟨_, by rw [h.int_], m _ H (Same.refl _) (.int _)⟩
  · exact m.elim
def maxFn (ds : List D) : R (Bool × D) := match ds with
  | [.int i, .int j] => sh (.int (if j > i then j else i))
  | _ => .stuck
theorem lk_maxFn : LkA g (fun xs H Q => ∃ i j, xs = [.int i, .int j] ∧ Q (.int (if j > i then j else i)) H) maxFn := fun {W H ow σ Q xs ds} lv r m => by
  unfold maxFn at m
  split at m
  · obtain ⟨v, u, rfl, h, h2⟩ := r.two
    exact ⟨_, _, by rw [h.int_, h2.int_], m _ H (Same.refl _) (.int _)⟩
  · exact m.elim
def minFn (ds : List D) : R (Bool × D) := match ds with
  | [.int i, .int j] => sh (.int (if j < i then j else i))
  | _ => .stuck
theorem lk_minFn : LkA g (fun xs H Q => ∃ i j, xs = [.int i, .int j] ∧ Q (.int (if j < i then j else i)) H) minFn := fun {W H ow σ Q xs ds} lv r m => by
  unfold minFn at m
  split at m
  · obtain ⟨v, u, rfl, h, h2⟩ := r.two
    exact ⟨_, _, by rw [h.int_, h2.int_], m _ H (Same.refl _) (.int _)⟩
  · exact m.elim
def strFn (ds : List D) : R (Bool × D) := match ds with
  | [.int i] => if i.natAbs.log2 < 1920 then sh (.str (toString i)) else .stuck
  | _ => .stuck
theorem lk_strFn : LkA g (fun xs H Q => ∃ i, xs = [.int i] ∧ i.natAbs.log2 < 1920 ∧ Q (.str (toString i)) H) strFn := fun {W H ow σ Q xs ds} lv r m => by
  unfold strFn at m
  split at m
  · obtain ⟨v, rfl, h⟩ := r.one
    split at m
    · rename_i q
      exact ⟨_, by rw [h.int_], q, m _ H (Same.refl _) (.str _)⟩
    · exact m.elim
  · exact m.elim
def listFn (ds : List D) : R (Bool × D) := match ds with
  | [.lst l] => nw (.lst l)
  | [.arg l] => nw (.lst l)
  | [.tup l] => nw (.lst l)
  | _ => .stuck
theorem lk_listFn : LkA g (fun xs H Q => ∃ p ys, xs = [.ref p] ∧ (SqL g.K H p ys ∨ SqT g.K H p ys) ∧ ∀ l, H l = none → Q (.ref l) (upd H l (.lst ys))) listFn := fun {W H ow σ Q xs ds} lv r m => by
  unfold listFn at m
  split at m
  · obtain ⟨v, rfl, h⟩ := r.one
    cases h with
    | lst h r => exact ⟨_, _, rfl, .inl ((hide_same _ _).seq (.inl h)), fun l hl => m _ _ (same_new hl) (VR.newL (Same.refl _) hl r)⟩
  · obtain ⟨v, rfl, h⟩ := r.one
    cases h with
    | arg h r => exact ⟨_, _, rfl, .inl ((hide_same _ _).seq h), fun l hl => m _ _ (same_new hl) (VR.newL (Same.refl _) hl r)⟩
  · obtain ⟨v, rfl, h⟩ := r.one
    cases h with
    | tup h r => exact ⟨_, _, rfl, .inr (tupT h), fun l hl => m _ _ (same_new hl) (VR.newL (Same.refl _) hl r)⟩
  · exact m.elim
def tupleFn (ds : List D) : R (Bool × D) := match ds with
  | [.lst l] => sh (.tup l)
  | [.arg l] => sh (.tup l)
  | [.tup l] => sh (.tup l)
  | _ => .stuck
theorem lk_tupleFn : LkA g (fun xs H Q => ∃ p ys, xs = [.ref p] ∧ ((SqL g.K H p ys ∧ ∀ l, H l = none → Q (.ref l) (upd H l (.tup ys))) ∨ (SqT g.K H p ys ∧ Q (.ref p) H))) tupleFn := fun {W H ow σ Q xs ds} lv r m => by
  unfold tupleFn at m
  split at m
  · obtain ⟨v, rfl, h⟩ := r.one
    cases h with
    | lst h r => exact ⟨_, _, rfl, .inl ⟨(hide_same _ _).seq (.inl h), fun l hl => m _ _ (same_new hl) (VR.newT (H := H) hl r lv)⟩⟩
  · obtain ⟨v, rfl, h⟩ := r.one
    cases h with
    | arg h r => exact ⟨_, _, rfl, .inl ⟨(hide_same _ _).seq h, fun l hl => m _ _ (same_new hl) (VR.newT (H := H) hl r lv)⟩⟩
  · obtain ⟨v, rfl, h⟩ := r.one
    cases h with
    | tup h r => exact ⟨_, _, rfl, .inr ⟨tupT h, m _ H (Same.refl _) (.tup h r)⟩⟩
  · exact m.elim

/-! ### in, index: scalars -/
def dV : D → V
  | .bl b => .bl b
  | .int i => .int i
  | .str x => .str x
  | _ => .non
theorem dV_of {H : Hp} {v : V} {d : D} (r : Rp g H v d) (s : scal d = true) : v = dV d := by
  cases r <;> first | rfl | cases s
theorem dVs_of {H : Hp} {vs : List V} {ds : List D} (r : RpL g H vs ds) (s : ds.all scal = true) : vs = ds.map dV := by
  induction vs generalizing ds with
  | nil => cases r; rfl
  | cons v vs ih =>
    cases r with
    | cons h r =>
      rw [List.all_cons, Bool.and_eq_true] at s
      rw [List.map_cons, dV_of h s.1, ih r s.2]
theorem flat_dV (d : D) : flatV (dV d) = true := by cases d <;> rfl
theorem flat_dVs (ds : List D) : (ds.map dV).all flatV = true := by
  rw [List.all_map]
  exact List.all_eq_true.mpr fun d _ => flat_dV d
def inD (neg : Bool) (x y : D) : R (Bool × D) :=
  let go : List D → R (Bool × D) := fun l => if (scal x && l.all scal) = true then sh (.bl (if neg then !inV (dV x) (l.map dV) else inV (dV x) (l.map dV))) else .stuck
  match y with
  | .lst l => go l
  | .arg l => go l
  | .tup l => go l
  | .str z => match x with
    | .str w => sh (.bl (if neg then !(!(Builtin.Str.occurrences z w 0 z.length 1).isEmpty) else !(Builtin.Str.occurrences z w 0 z.length 1).isEmpty))
    | _ => .stuck
  | _ => .stuck
def rInS (neg : Bool) : R2 := fun x y H Q => ∃ i j, x = .str i ∧ y = .str j ∧ Q (.bl (if neg then !(!(Builtin.Str.occurrences j i 0 j.length 1).isEmpty) else !(Builtin.Str.occurrences j i 0 j.length 1).isEmpty)) H
def rInAny (K : PySem.W.Frag) (neg : Bool) : R2 := fun x y H Q => rIn K neg x y H Q ∨ rInS neg x y H Q
theorem op_inAny {X : Cx} : OpR X (compareOp .In) (rInAny X.K false) := OpR.or (r' := rInS false) op_in_seq op_in_str
theorem op_notInAny {X : Cx} : OpR X (compareOp .NotIn) (rInAny X.K true) := OpR.or (r' := rInS true) op_notIn_seq op_notIn_str
theorem lk_in (neg : Bool) : Lk2 g (rInAny g.K neg) (inD neg) := fun {W H ow σ Q x y dx dy} lv rx ry m => by
  have sq : ∀ {a ys} {l : List D}, y = .ref a → (SqL g.K H a ys ∨ SqT g.K H a ys) → RpL g (hide H ow) ys l → OutE g W H ow σ Q (if (scal dx && l.all scal) = true then sh (.bl (if neg then !inV (dV dx) (l.map dV) else inV (dV dx) (l.map dV))) else .stuck) → rInAny g.K neg x y H Q := fun {a ys l} e h r m => by
    split at m
    · rename_i q
      rw [Bool.and_eq_true] at q
      subst e
      have e1 := dV_of rx q.1
      have e2 := dVs_of r q.2
      subst e1 e2
      exact .inl ⟨_, _, rfl, h, flat_dV _, flat_dVs _, m _ H (Same.refl _) (.bl _)⟩
    · exact m.elim
  unfold inD at m
  simp only [] at m
  split at m
  · cases ry with
    | lst h r => exact sq rfl (.inl ((hide_same _ _).seq (.inl h))) r m
  · cases ry with
    | arg h r => exact sq rfl (.inl ((hide_same _ _).seq h)) r m
  · cases ry with
    | tup h r => exact sq rfl (.inr (tupT h)) r m
  · split at m
    · exact .inr ⟨_, _, rx.str_, ry.str_, m _ H (Same.refl _) (.bl _)⟩
    · exact m.elim
  · exact m.elim
end
end Fv

namespace Fv
open PySem L2
theorem bt_len : bootBuiltins "len" = some (.builtin "len") := by decide +kernel
theorem bt_int : bootBuiltins "int" = some (.type "int") := by decide +kernel
theorem bt_str : bootBuiltins "str" = some (.type "str") := by decide +kernel
theorem bt_list : bootBuiltins "list" = some (.type "list") := by decide +kernel
theorem bt_tuple : bootBuiltins "tuple" = some (.type "tuple") := by decide +kernel
theorem bt_abs : bootBuiltins "abs" = some (.builtin "abs") := by decide +kernel
theorem bt_max : bootBuiltins "max" = some (.builtin "max") := by decide +kernel
theorem bt_min : bootBuiltins "min" = some (.builtin "min") := by decide +kernel
theorem bt_sorted : bootBuiltins "sorted" = some (.builtin "sorted") := by decide +kernel
theorem bt_repr : bootBuiltins "repr" = some (.builtin "repr") := by decide +kernel
theorem bt_all : bootBuiltins "all" = some (.builtin "all") := by decide +kernel
theorem bt_any : bootBuiltins "any" = some (.builtin "any") := by decide +kernel
theorem bt_sum : bootBuiltins "sum" = some (.builtin "sum") := by decide +kernel
theorem bt_isinstance : bootBuiltins "isinstance" = some (.builtin "isinstance") := by decide +kernel

/-! ### all, any -/
def boolsOf : List D → Option (List Bool)
  | [] => some []
  | .bl b :: r => (boolsOf r).map (b :: ·)
  | _ :: _ => none
def boolFn (f : List Bool → Bool) (ds : List D) : R (Bool × D) := match ds with
  | [.lst l] => match boolsOf l with
    | some bs => sh (.bl (f bs))
    | none => .stuck
  | _ => .stuck
section
variable {g : G}
theorem bools_of {H : Hp} : ∀ {l : List D} {bs : List Bool} {xs : List V}, boolsOf l = some bs → RpL g H xs l → xs = bs.map V.bl
  | [], _, _, h, r => by cases h; cases r; rfl
  | .bl b :: l, bs, _, h, r => by
    unfold boolsOf at h
    cases q : boolsOf l with
    | none => rw [q] at h; cases h
    | some bs' =>
      rw [q] at h
      cases h
      cases r with
      | cons h r => rw [h.bool, bools_of q r]; rfl
theorem lk_bools {f : List Bool → Bool} : LkA g (fun vs H Q => ∃ (a : Addr) (bs : List Bool), vs = [V.ref a] ∧ SqL g.K H a (bs.map V.bl) ∧ Q (.bl (f bs)) H) (boolFn f) := fun {W H ow σ Q xs ds} lv r m => by
  unfold boolFn at m
  split at m
  · obtain ⟨v, rfl, h⟩ := r.one
    split at m
    · rename_i l bs q
      cases h with
      | lst h r =>
        rw [bools_of q r] at h
        exact ⟨_, bs, rfl, (hide_same _ _).seq (.inl h), m _ H (Same.refl _) (.bl _)⟩
    · exact m.elim
  · exact m.elim

/-! ### sorted -/
def sortOk (l : List D) : Bool := l.all isDat && (l.all fun d => l.all fun e => PySem.W.alike d.py e.py) && ((l.all fun d => match d with | .tup (_ :: _) => true | _ => false) || (l.all fun d => match d with | .tup _ => false | .non => false | .dct _ => false | .obj _ _ => false | _ => true)) && (l.all fun d => decide (d.py.depth ≤ 60)) && small l
def sortedFn (ds : List D) : R (Bool × D) := match ds with
  | [.lst l] => if sortOk l = true then nw (.lst (l.mergeSort (PySem.W.dataLe false D.py))) else .stuck
  | _ => .stuck
def rSortD (g : G) : List V → Hp → VK → Prop := fun vs H Q => ∃ (a : Addr) (ys : List V) (l : List D) (Hz : Hp), vs = [.ref a] ∧ Same Hz H ∧ SqL g.K H a ys ∧ RpL g Hz ys l ∧ sortOk l = true ∧ ∀ p zs, H p = none → RpL g Hz zs (l.mergeSort (PySem.W.dataLe false D.py)) → Q (.ref p) (upd H p (.lst zs))
theorem each_of {H : Hp} : ∀ {xs : List V} {ds : List D} {us : List Value}, RpL g H xs ds → Vals xs us → PySem.W.EachIs (fun u d => ∃ x, RelV x u ∧ Rp g H x d) us ds
  | _, _, _, .nil, r => by cases r; exact .nil
  | _, _, _, .cons h r, q => by
    cases q with
    | cons q1 q2 => exact .cons ⟨_, q1, h⟩ (each_of r q2)
theorem of_each {H : Hp} : ∀ {us : List Value} {ds : List D}, PySem.W.EachIs (fun u d => ∃ x, RelV x u ∧ Rp g H x d) us ds → ∃ xs, Vals xs us ∧ RpL g H xs ds
  | _, _, .nil => ⟨[], .nil, .nil⟩
  | _, _, .cons ⟨x, h1, h2⟩ t => by
    obtain ⟨xs, r1, r2⟩ := of_each t
    exact ⟨x :: xs, .cons h1 r1, .cons h2 r2⟩
theorem py_none {d : D} (s : isDat d = true) (h : d ≠ .non) : d.py ≠ .none := by
  cases d with
  | non => exact absurd rfl h
  | dct _ => cases s
  | dcT _ => cases s
  | obj _ _ => cases s
  | _ => exact fun z => by unfold D.py at z; cases z
end
section
variable {X : Cx}
theorem cr_sortD (hu : X.A.units + 64 < cLine) : CallR X (.builtin "sorted") (rSortD (gx X)) := fun pins s σ H xs us Q I r ⟨a, ys, l, Hz, e, ez, hs, rl, ok, q⟩ => by
  subst e
  obtain ⟨u, rfl, ru⟩ := vals1 r
  obtain rfl : u = Value.ref a := ru
  obtain ⟨its, rv, hl, hz⟩ := I.list hs
  unfold sortOk at ok
  simp only [Bool.and_eq_true] at ok
  obtain ⟨⟨⟨⟨o1, o2⟩, o3⟩, o4⟩, o5⟩ := ok
  have dat : ∀ d ∈ l, isDat d = true := fun d hd => List.all_eq_true.mp o1 d hd
  have er := each_of rl rv
  refine PySem.W.sorted_data (vs := its) (bs := l) (enc := D.py) (R := fun u d => ∃ x, RelV x u ∧ Rp (gx X) Hz x d) hl.isList er ?_ ?_ ?_ (of_decide_eq_true o5) (fun b hb => ?_) fun out ho eo => ?_
  · have t : ∀ {us : List Value} {ds : List D}, (∀ d ∈ ds, isDat d = true) → PySem.W.EachIs (fun u d => ∃ x, RelV x u ∧ Rp (gx X) Hz x d) us ds → PySem.W.EachIs (fun v b => ∃ as, Reads s.heap v b.py as) us ds := fun {us ds} hd e => by
      induction e with
      | nil => exact .nil
      | cons h t ih =>
        obtain ⟨x, h1, h2⟩ := h
        exact .cons (Dp.reads I _ _ _ (Rp.dp (h2.mono ez) (hd _ List.mem_cons_self)) h1) (ih fun d z => hd d (List.mem_cons_of_mem _ z))
    exact t dat er
  · intro d hd d' hd'
    obtain ⟨e, he, rfl⟩ := List.mem_map.mp hd
    obtain ⟨e', he', rfl⟩ := List.mem_map.mp hd'
    exact List.all_eq_true.mp (List.all_eq_true.mp o2 e he) e' he'
  · rw [Bool.or_eq_true] at o3
    rcases o3 with o3 | o3
    · refine .inl fun d hd => ?_
      obtain ⟨e, he, rfl⟩ := List.mem_map.mp hd
      have := List.all_eq_true.mp o3 e he
      split at this
      · exact ⟨_, _, rfl⟩
      · cases this
    · refine .inr fun d hd => ?_
      obtain ⟨e, he, rfl⟩ := List.mem_map.mp hd
      have := List.all_eq_true.mp o3 e he
      refine ⟨py_none (dat e he) fun z => ?_, fun xs z => ?_⟩
      · subst z; cases this
      · cases e with
        | tup _ => cases this
        | _ => unfold D.py at z; cases z
  · have := of_decide_eq_true (List.all_eq_true.mp o4 b hb)
    omega
  · obtain ⟨zs, r1, r2⟩ := of_each eo
    obtain ⟨c, hc⟩ := PyProof.Rows.sortedAll_at s.heap its out.toArray
    have hp : s.heap.objs.size ≤ s.heap.objs.size + 1 := Nat.le_succ _
    have hf : H (s.heap.objs.size + 1) = none := I.hok.fresh hp
    refine ⟨V.ref (s.heap.objs.size + 1), upd H (s.heap.objs.size + 1) (.lst zs), I.laid (t' := s.toks) (fun b o e => PyProof.Rows.sortedAll_old e) hp ⟨?_, out, c, r1, hc⟩, rfl, q _ zs hf r2⟩
    rw [r1.length, ho]
    exact of_decide_eq_true o5
theorem lk_sort {g : G} : LkA g (rSortD g) sortedFn := fun {W H ow σ Q xs ds} lv r m => by
  unfold sortedFn at m
  split at m
  · obtain ⟨v, rfl, h⟩ := r.one
    split at m
    · rename_i q
      cases h with
      | lst h r => exact ⟨_, _, _, _, rfl, hide_same _ _, (hide_same _ _).seq (.inl h), r, q, fun p zs hp rz => m _ _ (same_new hp) (VR.newL (Same.refl _) hp rz)⟩
    · exact m.elim
  · exact m.elim

/-! ### repr -/
def reprOk (d : D) : Bool := isDat d && d.py.showable && !d.py.hasDict && decide (d.py.depth ≤ 60) && decide (d.py.shown.length ≤ sizeLine)
def reprFn (ds : List D) : R (Bool × D) := match ds with
  | [d] => if reprOk d = true then sh (.str d.py.shown) else .stuck
  | _ => .stuck
def rRepr (K : PySem.W.Frag) : List V → Hp → VK → Prop := fun vs H Q => ∃ v d, vs = [v] ∧ Dp K H v d ∧ d.showable = true ∧ d.hasDict = false ∧ d.depth ≤ 60 ∧ d.shown.length ≤ sizeLine ∧ Q (.str d.shown) H
theorem cr_repr (hg : X.A.guards = some []) (hu : X.A.units + 64 < cLine) : CallR X (.builtin "repr") (rRepr X.K) := fun pins s σ H xs us Q I r ⟨v, d, e, hd, h1, h2, h3, h4, q⟩ => by
  subst e
  obtain ⟨u, rfl, ru⟩ := vals1 r
  obtain ⟨as, rd⟩ := Dp.reads I d v u hd ru
  cases hd with
  | non =>
    obtain rfl : u = Value.none := ru
    exact P.repr_of_none ⟨V.str _, H, I.tok _, ⟨_, rfl⟩, q⟩
  | bl b =>
    obtain rfl : u = Value.bool b := ru
    exact P.repr_of_bool ⟨V.str _, H, I.tok _, ⟨_, rfl⟩, q⟩
  | int i =>
    obtain ⟨t, rfl⟩ := ru
    exact P.repr_of_int (of_decide_eq_true h1) ⟨V.str _, H, I.tok _, ⟨_, rfl⟩, q⟩
  | str x =>
    obtain ⟨t, rfl⟩ := ru
    exact P.repr_of_str ⟨V.str _, H, I.tok _, ⟨_, rfl⟩, q⟩ h4
  | @lst a xs ds hs ha =>
    obtain rfl : u = Value.ref a := ru
    exact repr_of_reads' rd h1 (fun z => by rw [h2] at z; cases z) hg (by omega) (fun _ _ z => z) (fun h' u tk kp => ⟨V.str _, H, I.kept kp, ⟨_, rfl⟩, q⟩) h4
  | @tup a xs ds hs ha =>
    obtain rfl : u = Value.ref a := ru
    exact repr_of_reads' rd h1 (fun z => by rw [h2] at z; cases z) hg (by omega) (fun _ _ z => z) (fun h' u tk kp => ⟨V.str _, H, I.kept kp, ⟨_, rfl⟩, q⟩) h4
theorem lk_repr {g : G} : LkA g (rRepr g.K) reprFn := fun {W H ow σ Q xs ds} lv r m => by
  unfold reprFn at m
  split at m
  · rename_i d
    obtain ⟨v, rfl, h⟩ := r.one
    split at m
    · rename_i q
      unfold reprOk at q
      simp only [Bool.and_eq_true, Bool.not_eq_true', decide_eq_true_eq] at q
      exact ⟨v, _, rfl, Rp.dp (h.mono (hide_same _ _)) q.1.1.1.1, q.1.1.1.2, q.1.1.2, q.1.2, q.2, m _ H (Same.refl _) (.str _)⟩
    · exact m.elim
  · exact m.elim
end
end Fv

namespace Fv
open PySem L2

/-! ### an own list read at a place, walked by its length: without giving it up -/
def fIxO (i : Nat) (f : EF) : EF := fun ρ => match ρ[i]? with
  | some (some (true, .lst l)) => do
    let x ← f ρ
    match x.2 with
    | .int k => ofO (atI l k)
    | _ => .stuck
  | _ => .stuck
section
variable {X : Cx} {W : WX} {pos p : Pos} {e a b : Expr} {f : EF} {x : Str} {i : Nat}
theorem fe_ixO (i : Nat) (hb : FE X W b f) (hN : X.N[i]? = some x := by rfl) (hv : Vis X.env.scope x := by first | exact Or.inl rfl | exact Or.inr (Or.inl rfl) | exact Or.inr (Or.inr rfl)) (hd : (x == ("__debug__" : Str)) = false := by decide)
    (hcd : (x == ("__classdict__" : Str)) = false := by decide) (hs : PlainIx b := by intro _ _; rfl) : FE X W (.Subscript (.Name x p) b pos) (fIxO i f) :=
  fe_of (pe_ix ix_list (pe_var hN hv hd hcd) hb hs) fun ρ ow σ H Q E m => by
    unfold fIxO at m
    split at m
    · rename_i l hl
      obtain ⟨a, h1, h2, h3⟩ := E.own i _ hl
      refine ⟨_, h1, ρ, ow, E, Out.bind m fun y v H1 e1 r1 m1 => ?_⟩
      have r := r1.give E.live
      revert r m1
      cases y.2 with
      | int k =>
        intro m1 r
        have m1 : OutE (gx X) W H ow σ Q (ofO (atI l k)) := m1
        cases q : atI l k with
        | none => rw [q] at m1; exact m1.elim
        | some d =>
          rw [q] at m1
          obtain ⟨xs, g1, g2⟩ := h3
          obtain ⟨u, hu, ru⟩ := atI_bear g2 q
          exact ⟨a, xs, k, u, rfl, r.int_, SqL.of (e1 _ _ g1), hu, m1 u H1 e1 (ru.mono (hide_mono e1 fun _ z => .inl z))⟩
      | _ => intro m1 r; exact m1.elim
    · exact m.elim
end

/-! ### expressions that change own lists -/
abbrev MF := Env → R (D × Env)
def OutM (g : G) (W : WX) (B H0 : Hp) (ow0 : List Addr) (ow : List Addr) (σ : St) (Q : VK) (H : Hp) : R (D × Env) → Prop
  | .ok (x, ρ') => ∀ v H', SR g B H0 ow0 H' ow σ ρ' → Rp g (hide H' ow) v x → Q v H'
  | .exc c fs => ∀ (C : Addr) d H', Same H H' → g.mg c = some (.ref C) → XcR g H' d fs → W (.ref C) d σ H'
  | .stuck => False
def tM (g : G) (W : WX) (f : MF) : TE := fun σ H Q => ∃ (ρ : Env) (ow : List Addr) (B H0 : Hp) (ow0 : List Addr), SR g B H0 ow0 H ow σ ρ ∧ OutM g W B H0 ow0 ow σ Q H (f ρ)
abbrev FM (X : Cx) (W : WX) (e : Expr) (f : MF) : Prop := PE X e (tM (gx X) W f)
def mLift (f : EF) : MF := fun ρ => do
  let x ← f ρ
  .ok (x.2, ρ)
section
variable {X : Cx} {W : WX} {pos p apos : Pos} {e a b : Expr} {es : List Expr} {f : EF} {fm : MF} {x : Str} {i : Nat}
theorem fm_lift (h : FE X W e f) : FM X W e (mLift f) := PE.imp h fun σ H Q ⟨ρ, ow, B, H0, ow0, S, m⟩ => ⟨ρ, ow, S.env, by
  unfold mLift at m
  revert m
  cases f ρ with
  | ok y => exact fun m v H' e' r => m v H' (S.keep e') (r.give S.env.live)
  | exc c fs => exact fun m => m
  | stuck => exact fun m => m⟩
/-- a method's effect on the items: the answer, the items behind -/
abbrev LM := List D → List D → Option (D × List D)
def LkM (g : G) (r : V → List V → Hp → VK → Prop) (o : LM) : Prop := ∀ {Hz H : Hp} {Q : VK} {l : Addr} {xs vs : List V} {ds as : List D} {y : D} {ds' : List D}, H l = some (.lst xs) → RpL g Hz xs ds → RpL g Hz vs as → o ds as = some (y, ds') →
  (∀ v xs', Rp g Hz v y → RpL g Hz xs' ds' → Q v (upd H l (.lst xs'))) → r (.ref l) vs H Q
def ownL (ρ : Env) (i : Nat) : Option (List D) := match ρ[i]? with
  | some (some (true, .lst l)) => some l
  | _ => none
theorem ownL_of {ρ : Env} {l : List D} (h : ownL ρ i = some l) : ρ[i]? = some (some (true, .lst l)) := by
  unfold ownL at h
  split at h
  · rename_i l' hl; cases h; exact hl
  · cases h
theorem SR.change {g : G} {B H0 H : Hp} {ow0 ow : List Addr} {σ : St} {ρ : Env} (S : SR g B H0 ow0 H ow σ ρ) {d d' : D} {a : Addr} {o : HO} (hi : ρ[i]? = some (some (true, d))) (ha : σ[i]? = some (some (.ref a))) (n : Own g (upd H a o) ow a d') :
    SR g B H0 ow0 (upd H a o) ow σ (ρ.set i (some (true, d'))) := by
  obtain ⟨a', q1, q2, q3⟩ := S.env.own i d hi
  rw [ha] at q1
  cases q1
  have fr := S.fresh i d a hi ha
  refine ⟨S.env.change hi ha n, by rw [hide_upd q2]; exact S.same, fun b u hb => ?_, S.sub, S.olive, fun j e b hj hb => ?_⟩
  · rw [upd_ne (ne_of_none hb fr)]
    exact S.ent b u hb
  · rcases set_hit hj with ⟨rfl, _, q⟩ | ⟨q, hj⟩
    · cases q
      rw [ha] at hb
      cases hb
      exact fr
    · exact S.fresh j e b hj hb
/-- x.m(e), x an own list, e may itself change another one -/
def mMeth (i : Nat) (o : LM) (fm : MF) : MF := fun ρ => match ownL ρ i with
  | some _ => do
    let y ← fm ρ
    match ownL y.2 i with
    | some l => match o l [y.1] with
      | some (z, l') => .ok (z, y.2.set i (some (true, .lst l')))
      | none => .stuck
    | none => .stuck
  | none => .stuck
theorem fm_meth {name : Str} {id : String} {r : V → List V → Hp → VK → Prop} {o : LM} (i : Nat) (slot : PySem.Slot "list" name id) (hty : typeOf (.builtin id) = pure (.type "method_descriptor")) (hm : MtR X id r) (l : LkM (gx X) r o) (he : FM X W e fm)
    (hN : X.N[i]? = some x := by rfl) (hv : Vis X.env.scope x := by first | exact Or.inl rfl | exact Or.inr (Or.inl rfl) | exact Or.inr (Or.inr rfl)) (hd : (x == ("__debug__" : Str)) = false := by decide) (hcd : (x == ("__classdict__" : Str)) = false := by decide)
    (hbase : attributeBase (.Name x p) name X.env (eval (.Name x p) X.env) = eval (.Name x p) X.env := by rfl)
    (hfew : ((backTo pos (starEach [e] X.env)).all (fun x => !x.1) && (backToKw pos (keywordEach [] X.env)).all (fun x => x.1.isSome)
      && decide ([e].length + ([] : List Keyword).length + (if ([] : List Keyword).isEmpty then 0 else 1) < 30)) = true := by rfl)
    (hline : (apos.endLine == pos.line) = true := by rfl) (hs : starEach [e] X.env = (false, eval e X.env) :: starEach [] X.env := by rfl) (hplain : (backTo pos (starEach [] X.env)).any (·.1) = false := by rfl) :
    FM X W (.Call (.Attribute (.Name x p) name apos) [e] [] pos) (mMeth i o fm) :=
  PE.imp (pe_bm PySem.F.plainAttrs_list slot hty hm (pe_var hN hv hd hcd) (pa_cons he pa_nil hs) hbase hfew hline hs hplain) fun σ H Q ⟨ρ, ow, B, H0, ow0, S, m⟩ => by
    unfold mMeth at m
    cases q : ownL ρ i with
    | none => rw [q] at m; exact m.elim
    | some l0 =>
      rw [q] at m
      obtain ⟨a, h1, h2, xs0, h3, _⟩ := S.env.own i _ (ownL_of q)
      refine ⟨_, h1, .inl ⟨rfl, xs0, SqL.of h3⟩, ρ, ow, B, H0, ow0, S, ?_⟩
      simp only [] at m
      revert m
      cases fm ρ with
      | exc c fs => exact fun m => m
      | stuck => exact fun m => m
      | ok y =>
        obtain ⟨y, ρ'⟩ := y
        intro m v H' S' rv
        have m : OutM (gx X) W B H0 ow0 ow σ Q H (match ownL ρ' i with
          | some l => match o l [y] with
            | some (z, l') => .ok (z, ρ'.set i (some (true, .lst l')))
            | none => .stuck
          | none => .stuck) := m
        cases q2 : ownL ρ' i with
        | none => rw [q2] at m; exact m.elim
        | some l1 =>
          rw [q2] at m
          have hi := ownL_of q2
          obtain ⟨a', h4, h5, xs, h6, h7⟩ := S'.env.own i _ hi
          rw [h1] at h4
          cases h4
          simp only [] at m
          cases q3 : o l1 [y] with
          | none => rw [q3] at m; exact m.elim
          | some z =>
            obtain ⟨z, l'⟩ := z
            rw [q3] at m
            refine l h6 h7 (.cons rv .nil) q3 fun u xs' ru rx => ?_
            have hs : hide (upd H' a (.lst xs')) ow = hide H' ow := hide_upd h5
            exact m u _ (S'.change hi h1 ⟨xs', upd_same, by rw [hs]; exact rx⟩) (by rw [hs]; exact ru)
/-- x.m() -/
def mMeth0 (i : Nat) (o : LM) : MF := fun ρ => match ownL ρ i with
  | some l => match o l [] with
    | some (z, l') => .ok (z, ρ.set i (some (true, .lst l')))
    | none => .stuck
  | none => .stuck
theorem fm_meth0 {name : Str} {id : String} {r : V → List V → Hp → VK → Prop} {o : LM} (i : Nat) (slot : PySem.Slot "list" name id) (hty : typeOf (.builtin id) = pure (.type "method_descriptor")) (hm : MtR X id r) (l : LkM (gx X) r o)
    (hN : X.N[i]? = some x := by rfl) (hv : Vis X.env.scope x := by first | exact Or.inl rfl | exact Or.inr (Or.inl rfl) | exact Or.inr (Or.inr rfl)) (hd : (x == ("__debug__" : Str)) = false := by decide) (hcd : (x == ("__classdict__" : Str)) = false := by decide)
    (hbase : attributeBase (.Name x p) name X.env (eval (.Name x p) X.env) = eval (.Name x p) X.env := by rfl) (hline : (apos.endLine == pos.line) = true := by rfl) :
    FM X W (.Call (.Attribute (.Name x p) name apos) [] [] pos) (mMeth0 i o) :=
  PE.imp (pe_bm0 PySem.F.plainAttrs_list slot hty hm (pe_var hN hv hd hcd) hbase hline) fun σ H Q ⟨ρ, ow, B, H0, ow0, S, m⟩ => by
    unfold mMeth0 at m
    cases q : ownL ρ i with
    | none => rw [q] at m; exact m.elim
    | some l1 =>
      rw [q] at m
      have hi := ownL_of q
      obtain ⟨a, h1, h5, xs, h6, h7⟩ := S.env.own i _ hi
      refine ⟨_, h1, .inl ⟨rfl, xs, SqL.of h6⟩, ?_⟩
      simp only [] at m
      cases q3 : o l1 [] with
      | none => rw [q3] at m; exact m.elim
      | some z =>
        obtain ⟨z, l'⟩ := z
        rw [q3] at m
        refine l h6 h7 .nil q3 fun u xs' ru rx => ?_
        have hs : hide (upd H a (.lst xs')) ow = hide H ow := hide_upd h5
        exact m u _ (S.change hi h1 ⟨xs', upd_same, by rw [hs]; exact rx⟩) (by rw [hs]; exact ru)
/-- as statements -/
def fDropM (fm : MF) : SF := fun ρ => Res.ofR ρ (fun y => .nx y.2) (fm ρ)
theorem fs_exprM (he : FM X W e fm) (hs : swapsWith e none pos.line X.env = pure false := by rfl) : FS X W (.Expr e pos) (fDropM fm) :=
  fs_of (ps_expr he hs) fun ρ ow σ H B H0 ow0 D0 S m => ⟨ρ, ow, B, H0, ow0, S, by
    unfold fDropM at m
    revert m
    cases fm ρ with
    | ok y => obtain ⟨y, ρ'⟩ := y; exact fun m v H' S' r => m _ _ _ S'
    | exc c fs => exact fun m C d H' e' h1 h2 => m C d σ H' ow (S.keep e') h1 h2
    | stuck => exact fun m => m⟩
def fSetM (j : Nat) (fm : MF) : SF := fun ρ => Res.ofR ρ (fun y => .nx (y.2.set j (some (false, y.1)))) (fm ρ)
theorem fs_setM {j : Nat} {y : Str} {pos' : Pos} (hN : X.N.Nodup) (he : FM X W e fm) (hi : X.N[j]? = some y := by rfl) (hx : Loc X.env.scope y := by first | exact .inl rfl | exact .inr rfl) (hs : swapsWith e (some (.Name y pos')) pos.line X.env = pure false := by rfl)
    (hf : X.fn y = true ∨ X.env.scope.names.lookup y = some .local := by first | exact .inl rfl | exact .inr rfl | assumption) : FS X W (.Assign [.Name y pos'] e pos) (fSetM j fm) :=
  fs_of (ps_set hN hi hx he hs hf) fun ρ ow σ H B H0 ow0 D0 S m => ⟨ρ, ow, B, H0, ow0, S, by
    unfold fSetM at m
    revert m
    cases fm ρ with
    | ok y =>
      obtain ⟨y, ρ'⟩ := y
      intro m v H' S' r
      obtain ⟨ow', S2⟩ := S'.store (i := j) (x := (false, y)) (Same.refl _) r
      exact m _ _ _ S2
    | exc c fs => exact fun m C d H' e' h1 h2 => m C d σ H' ow (S.keep e') h1 h2
    | stuck => exact fun m => m⟩
end

/-! ### the methods -/
def opAppend : LM := fun l as => match as with
  | [x] => if l.length < sizeLine then some (.non, l ++ [x]) else none
  | _ => none
theorem lk_append {g : G} : LkM g rAppend opAppend := fun {Hz H Q l xs vs ds as y ds'} hl rx ra h k => by
  unfold opAppend at h
  split at h
  · obtain ⟨v, rfl, rv⟩ := ra.one
    split at h
    · rename_i q
      cases h
      exact ⟨l, xs, v, rfl, rfl, hl, by rw [rx.length]; exact q, k _ _ .non (rx.snoc rv)⟩
    · cases h
  · cases h
def popOk (k : Int) : Bool := decide (-(2 ^ 63) ≤ k) && decide (k < 2 ^ 63)
def opPopAt : LM := fun l as => match as with
  | [.int k] => if popOk k = true then (seqIndex? k l.length).bind fun j => (l[j]?).map fun y => (y, l.eraseIdx j) else none
  | _ => none
theorem lk_popAt {g : G} : LkM g rPopAt opPopAt := fun {Hz H Q l xs vs ds as y ds'} hl rx ra h k => by
  unfold opPopAt at h
  split at h
  · rename_i i
    obtain ⟨v, rfl, rv⟩ := ra.one
    split at h
    · rename_i q
      unfold popOk at q
      simp only [Bool.and_eq_true, decide_eq_true_eq] at q
      obtain ⟨j, h1, h2⟩ := Option.bind_eq_some_iff.mp h
      obtain ⟨z, h3, h4⟩ := Option.map_eq_some_iff.mp h2
      cases h4
      obtain ⟨u, hu, ru⟩ := rx.get h3
      refine ⟨l, xs, i, j, u, rfl, by rw [rv.int_], hl, q.1, q.2, by rw [rx.length]; exact h1, hu, k _ _ ru (rx.eraseIdx j)⟩
    · cases h
  · cases h
def opPop : LM := fun l as => match as with
  | [] => (l[l.length - 1]?).map fun y => (y, l.dropLast)
  | _ => none
theorem RpL.dropLast {g : G} {H : Hp} {xs : List V} {ds : List D} (r : RpL g H xs ds) : RpL g H xs.dropLast ds.dropLast := by
  rw [List.dropLast_eq_take, List.dropLast_eq_take, r.length]
  exact r.take _
theorem lk_pop {g : G} : LkM g rPop opPop := fun {Hz H Q l xs vs ds as y ds'} hl rx ra h k => by
  unfold opPop at h
  split at h
  · cases ra
    obtain ⟨z, h3, h4⟩ := Option.map_eq_some_iff.mp h
    cases h4
    obtain ⟨u, hu, ru⟩ := rx.get h3
    exact ⟨l, xs, u, rfl, rfl, hl, by rw [rx.length]; exact hu, k _ _ ru rx.dropLast⟩
  · cases h

/-! ### xs.index(y) of scalars -/
def indexFn (x : D) (ds : List D) : R (Bool × D) := match x, ds with
  | .lst l, [y] => if (scal y && l.all scal) = true then (match (l.map dV).findIdx? fun z => eqV z (dV y) with
      | some j => sh (.int (j : Nat))
      | none => .stuck) else .stuck
  | _, _ => .stuck
def fIndex (f : EF) (u : AF) : EF := fun ρ => do
  let x ← f ρ
  match x.2 with
  | .lst l => do
    let ds ← u ρ
    indexFn (.lst l) ds
  | _ => .stuck
section
variable {X : Cx} {W : WX} {pos apos : Pos} {e o : Expr} {es : List Expr} {f : EF} {u : AF}
theorem fe_index (ho : FE X W o f) (ha : FA X W [e] u) (hbase : attributeBase o "index" X.env (eval o X.env) = eval o X.env := by rfl)
    (hfew : ((backTo pos (starEach [e] X.env)).all (fun x => !x.1) && (backToKw pos (keywordEach [] X.env)).all (fun x => x.1.isSome)
      && decide ([e].length + ([] : List Keyword).length + (if ([] : List Keyword).isEmpty then 0 else 1) < 30)) = true := by rfl)
    (hline : (apos.endLine == pos.line) = true := by rfl) (hs : starEach [e] X.env = (false, eval e X.env) :: starEach [] X.env := by rfl) (hplain : (backTo pos (starEach [] X.env)).any (·.1) = false := by rfl) :
    FE X W (.Call (.Attribute o "index" apos) [e] [] pos) (fIndex f u) :=
  fe_of (pe_bm PySem.F.plainAttrs_list PySem.F.slot_list_index PySem.F.type_list_index mt_index ho ha hbase hfew hline hs hplain) fun ρ ow σ H Q E m => ⟨ρ, ow, E, Out.bind m fun x v H1 e1 r1 m1 => by
    have r := r1.give E.live
    revert r m1
    cases x.2 with
    | lst l =>
      intro m1 r
      cases r with
      | @lst a xs _ h r =>
        refine ⟨.inl ⟨rfl, xs, (hide_same _ _).seq (.inl h)⟩, ρ, ow, E.keep e1, Out.bind (OutE.from m1 e1) fun ds vs H2 e2 r2 m2 => ?_⟩
        unfold indexFn at m2
        split at m2
        · rename_i l' y q1 
          cases q1
          obtain ⟨w, rfl, rw'⟩ := r2.one
          split at m2
          · rename_i q
            rw [Bool.and_eq_true] at q
            have e3 := dV_of rw' q.1
            have e4 := dVs_of r q.2
            subst e3 e4
            split at m2
            · rename_i j hj
              rw [List.findIdx?_eq_some_iff_getElem] at hj
              obtain ⟨hl, h1, h2⟩ := hj
              refine ⟨a, _, _, j, (l.map dV)[j], rfl, rfl, e2.seq ((hide_same _ _).seq (.inl h)), flat_dV _, flat_dVs _, List.getElem?_eq_getElem hl, h1, fun m z' hm hz => ?_, OutE.from m2 e2 |> fun m3 => m3 _ H2 (Same.refl _) (.int _)⟩
              have hml : m < (l.map dV).length := by omega
              rw [List.getElem?_eq_getElem hml] at hz
              have hz' := Option.some.inj hz
              rw [← hz']
              have := h2 m hm
              simpa using this
            · exact m2.elim
          · exact m2.elim
        · exact m2.elim
    | _ => intro m1 r; exact m1.elim⟩
end
end Fv

namespace Fv
open PySem L2

/-! ### a callee, by its name -/
structure Cal (P : Program) (w : World) (K : PySem.W.Frag) (mg : Str → Option Value) (base : Heap) (k : Nat) (x : Str) (n : Nat) (F : List D → R (Bool × D)) : Prop where
  ex : ∃ (f : Addr) (fd : FuncData) (ps : List Str), FnOk P w K mg base (CX P w) k f fd ps (spF ⟨K, mg⟩ F n) ∧ mg x = some (.ref f) ∧ PySem.W.keepIn K (.ref f) = true ∧ Binds K fd ps []
section
variable {X : Cx} {W : WX} {pos p : Pos} {e : Expr} {es : List Expr} {u : AF} {k j n : Nat} {F : List D → R (Bool × D)} {x : Str}
theorem fe_c (c : Cal X.prog X.w X.K X.mg X.base k x n F) (tk : Takes X W) (hr : Room j X.A) (ha : FA X W (e :: es) u) (hk : k ≤ j := by decide) (hn : ∀ ds, F ds ≠ .stuck → ds.length = n := by exact fun ds h => runD_len h) (hg : Gl X x := by rfl)
    (hdb : (x == ("__debug__" : Str)) = false := by decide) (he : starEach (e :: es) X.env = (false, eval e X.env) :: starEach es X.env := by rfl) (hpl : (backTo pos (starEach es X.env)).any (·.1) = false := by rfl) :
    FE X W (.Call (.Name x p) (e :: es) [] pos) (fApp F u) := by
  obtain ⟨f, fd, ps, hF, hm, kp, hb⟩ := c.ex
  exact fe_call hF tk (hr.mono hk) hm kp hb ha hn hg hdb he hpl
end
theorem cal_of {P : Program} {w : World} {K : PySem.W.Frag} {mg : Str → Option Value} {base : Heap} {x qual : Str} {st : Stmt} {f : Addr} {fd : FuncData} {N ps : List Str} {k : Nat} {fs : SF} (F : Fun K x qual st f fd) (hm : mg x = some (.ref f)) (S : FnScope N ps (defScope st)) (hbd : Binds K fd ps [])
    (hb : ∀ (cdv : Value) (A : Around) (outer : List PySem.Env) (s : Shared) (H : Hp) (E : XK), Room k (A.deeper (PyProof.Rows.envOfC qual (defScope st) s.heap.objs.size f cdv)) → Takes (cxOf (CX P w) P w K mg base N qual (defScope st) f cdv A outer s H E) (fun cls d _ H' => E cls d H') →
      PassesOwn (model P w) (cxOf (CX P w) P w K mg base N qual (defScope st) f cdv A outer s H E).A (cxOf (CX P w) P w K mg base N qual (defScope st) f cdv A outer s H E).env (cxOf (CX P w) P w K mg base N qual (defScope st) f cdv A outer s H E).xe →
      FSs (cxOf (CX P w) P w K mg base N qual (defScope st) f cdv A outer s H E) (fun cls d _ H' => E cls d H') (defBody st) fs) : Cal P w K mg base (k + 1) x ps.length (runD N.length ps.length fs) :=
  ⟨f, fd, ps, okF F S fun cdv A outer s H E hr tk => hb cdv A outer s H E hr tk PassesOwn.leaving, hm, F.kp, hbd⟩

/-! ### the law's own entry: what runs around it is known -/
theorem body_at {P : Program} {w : World} {K : PySem.W.Frag} {mg : Str → Option Value} {base : Heap} {f : Addr} {fd : FuncData} {x qual : Str} {st : Stmt} {cdv : Value} {N ps : List Str} {A : Around} {outer : List PySem.Env} {s : Shared} {H : Hp} {args : Args} {us : List Value} {vs : List V} {Q : VK} {E : XK} {t : TS}
    {oc kV doc pm ct : Value} {od an : Option Addr} {osl : Array (Option Value)} (efd : fd = PySem.W.fnOf x qual (defArgs st) (defBody st) (defScope st) .none kV doc pm an cdv ct) (lk : K.lookup f = some ⟨oc, od, .func fd, osl⟩) (hcd : PySem.W.codeIn K cdv qual = true)
    (S : FnScope N ps (defScope st)) (hd : A.handled = none) (dep : A.depth < recursionLimit) (e0 : Env0 P w K mg base A outer s H) (hb : BindsTo s fd args (ps.zip us)) (r : Vals vs us) (hl : vs.length = ps.length)
    (ht : PSs (cxOf (CX P w) P w K mg base N qual (defScope st) f cdv A outer s H E) (defBody st) t) (hq : t { nx := fun _ H' => Q .non H', rt := Q } (L2.start N vs) H) :
    codeAny (model P w) A (.call (.ref f) args) (CR (CX P w) outer P w H s Q E) s := by
  subst efd
  have st0 : ∀ b o, base.get? b = some o → s.heap.get? b = some o := fun b o z => (e0.bs b o z).1
  have KX : K.In s.heap := e0.mod.kin.keeps st0
  refine codeAny_call_function dep (KX _ _ lk) rfl S.co S.gen rfl (PySem.W.codeRec_of KX hcd) (hb _ _ _ _ ?_)
  refine wpAny_newFunctionEnv_cells S.kind (fun y hy => ?_) fun env he s1 z => ?_
  · obtain ⟨n, v⟩ := y
    rcases S.par n (List.of_mem_zip hy).1 with q | q
    · exact .inl q
    · exact .inr ⟨q, PySem.W.cellsFrom_some _ _ _ (.inl q)⟩
  · subst he
    refine ⟨(e0.mod.nolimit.keeps st0).keeps z.toInCall.keep, codeAny_func ?_⟩
    have I : Inv (cxOf (CX P w) P w K mg base N qual (defScope st) f cdv A outer s H E) [] (L2.start N vs) H s1 := inv_start S hd e0 hl r z
    refine wpAny_mono (ht.run [] s1 _ H _ I hq) (fun fl s' h => ?_) fun _ _ h => h
    cases fl with
    | ret u => obtain ⟨v, σ', H', J, rv, q⟩ := h; exact ⟨v, H', J.os, J.bare, J.base, J.hok, rv, q⟩
    | next => obtain ⟨σ', H', J, q⟩ := h; exact ⟨.non, H', J.os, J.bare, J.base, J.hok, rfl, q⟩
    | brk => obtain ⟨_, _, _, q⟩ := h; exact q.elim
    | cont => obtain ⟨_, _, _, q⟩ := h; exact q.elim
/-- what is tracked at the law's entry: the script at most -/
def H1s (a : Addr) (o : Obj) (ns : List Int) (own : Bool) : Hp := fun b => if b = a ∧ own = true then some (.frz o (.lst (ns.map V.int))) else none
theorem H1s_some {a b : Addr} {o : Obj} {ns : List Int} {own : Bool} {u : HO} (h : H1s a o ns own b = some u) : b = a ∧ own = true ∧ u = .frz o (.lst (ns.map V.int)) := by
  unfold H1s at h
  split at h
  · rename_i q; cases h; exact ⟨q.1, q.2, rfl⟩
  · cases h
theorem ints_bear {g : G} {H : Hp} : ∀ ns : List Int, RpL g H (ns.map V.int) (ns.map D.int)
  | [] => .nil
  | n :: ns => .cons (.int n) (ints_bear ns)
theorem law_at {P : Program} {w : World} {K : PySem.W.Frag} {mg mb : Str → Option Value} {fa a : Addr} {st : Stmt} {fd : FuncData} {N : List Str} {p : Str} {s₁ : Shared} {vs : List Value} {ns : List Int} {fs : SF} {b : Bool}
    (KX : K.In s₁.heap) (hns : s₁.heap.Ns mainGlobals mg) (hbn : s₁.heap.Ns builtinsNs mb) (hbb : ∀ x : Str, x ≠ "__name__" → mb x = bootBuiltins x) (hlim : s₁.heap.NoLimit) (hg : s₁.gens = #[])
    (ha : s₁.heap.get? a = some { cls := .type "list", data := .seq vs.toArray }) (hi : PyProof.Rows.IntsAre vs ns) (hl : ns.length ≤ sizeLine)
    (F : Fun K "law" "law" st fa fd) (S : FnScope N [p] (defScope st)) (hbind : ∀ (s : Shared) (u : Value), BindsTo s fd ⟨[u], []⟩ [(p, u)])
    (hb : ∀ (base : Heap) (cdv : Value) (s : Shared) (H : Hp), K.In base → base.Ns mainGlobals mg → FSs (cxOf (CX P w) P w K mg base N "law" (defScope st) fa cdv callerA [] s H fun _ _ _ => False) WN (defBody st) fs)
    (hF : runD N.length 1 fs [.arg (ns.map D.int)] = .ok (b, .bl true)) :
    codeAny (model P w) callerA (.call (.ref fa) ⟨[.ref a], []⟩) (fun r s' => r = .ok (.ret (.bool true)) ∧ OldK s₁.heap s'.heap ∧ s'.os = s₁.os ∧ PyProof.Rows.AllBare s'.gens) s₁ := by
  have rv := vals_ints hi
  obtain ⟨own, hown⟩ : ∃ own : Bool, own = (K.lookup a).isNone := ⟨_, rfl⟩
  obtain ⟨o, ho⟩ : ∃ o : Obj, o = { cls := .type "list", data := .seq vs.toArray } := ⟨_, rfl⟩
  rw [← ho] at ha
  obtain ⟨H, hH⟩ : ∃ H : Hp, H = H1s a o ns own := ⟨_, rfl⟩
  have hs : ∀ {c u}, H c = some u → c = a ∧ own = true ∧ u = .frz o (.lst (ns.map V.int)) := fun {c u} z => H1s_some (by rw [hH] at z; exact z)
  have hok : HOk P w H s₁.heap := fun c u z => by
    obtain ⟨rfl, _, rfl⟩ := hs z
    refine ⟨ha, by rw [List.length_map]; exact hl, vs, 0, rv, ?_⟩
    rw [ha, ho]
  have hSq : SqL K H a (ns.map V.int) := by
    cases q : own with
    | true => exact .inl (.inr ⟨o, by rw [hH]; unfold H1s; rw [if_pos ⟨rfl, q⟩]⟩)
    | false =>
      rw [hown] at q
      cases y : K.lookup a with
      | none => rw [y] at q; cases q
      | some u =>
        have e := KX a u y
        rw [ha] at e
        cases e
        refine .inr ⟨o, vs.toArray, 0, y, by rw [ho], by rw [ho], by rw [ho], ?_, by simpa using rv⟩
        have := rv.length
        rw [List.length_map] at this
        rw [List.size_toArray, ← this]
        exact hl
  have keepD : ∀ {c : Addr} {u : Obj} {es : Array DictEntry} {ep : Nat}, s₁.heap.get? c = some u → u.data = .dict es ep → H c = none := fun {c u es ep} e d => by
    cases q : H c with
    | none => rfl
    | some z =>
      obtain ⟨rfl, _, _⟩ := hs q
      rw [ha] at e
      cases e
      rw [ho] at d
      cases d
  have nsK : ∀ {c : Addr} {m : Str → Option Value}, s₁.heap.Ns c m → (hidT s₁.heap H).Ns c m := fun {c m} ⟨u, es, ep, e, d, r⟩ => ⟨u, es, ep, hidT_get e (keepD e d), d, r⟩
  have hK : K.In (hidT s₁.heap H) := fun c u e => hidT_get (KX c u e) (by
    cases q : H c with
    | none => rfl
    | some z =>
      obtain ⟨rfl, z2, _⟩ := hs q
      rw [hown, e] at z2
      cases z2)
  have e0 : Env0 P w K mg (hidT s₁.heap H) callerA [] s₁ H :=
    ⟨rfl, ⟨hK, nsK hns, ⟨mb, nsK hbn, hbb⟩, let ⟨mc, h1, h2⟩ := hlim; ⟨mc, nsK h1, h2⟩⟩, fun c u e => of_hidT e, Nat.le_of_eq (hidT_size _ _), trivial, fun c z => (nomatch z), hok, .of_eq hg⟩
  obtain ⟨oc, od, kV, doc, pm, an, cdv, ct, osl, efd, lk, hcd⟩ := F.ex
  have run := body_at (E := fun _ _ _ => False) (Q := fun v _ => v = .bl true) efd lk hcd S rfl (by decide) e0 (hbind s₁ (.ref a)) (Paired.cons (show RelV (.ref a) (.ref a) from rfl) .nil) rfl (hb (hidT s₁.heap H) cdv s₁ H hK (nsK hns)) (by
    have r1 : RpL (⟨K, mg⟩ : G) (hide H []) [.ref a] [.arg (ns.map D.int)] := by
      rw [hide_nil]
      exact .cons (.arg hSq (ints_bear ns)) .nil
    have En := start_env (N := N) (fun a z => by cases z) r1
    refine ⟨_, [], hide H [], H, [], ⟨En, Same.refl _, Same.refl _, fun _ z => z, fun a z => (by cases z), fun i d a h1 _ => ?_⟩, ?_⟩
    · exfalso
      by_cases z : i < ([.arg (ns.map D.int)] : List D).length
      · rw [List.getElem?_append_left (by simpa using z), List.getElem?_map] at h1
        cases y : ([.arg (ns.map D.int)] : List D)[i]? with
        | none => rw [y] at h1; cases h1
        | some d' => rw [y] at h1; cases h1
      · rw [List.getElem?_append_right (by simp at z ⊢; omega), List.getElem?_replicate] at h1
        split at h1 <;> cases h1
    · unfold runD at hF
      rw [if_pos (show ([.arg (ns.map D.int)] : List D).length = 1 from rfl)] at hF
      revert hF
      show (match fs (([.arg (ns.map D.int)] : List D).map (fun d => some (false, d)) ++ List.replicate (N.length - 1) none) with
        | .ret x => R.ok x
        | .nx _ => sh .non
        | .exc c fs _ => .exc c fs
        | _ => .stuck) = .ok (b, .bl true) → EndR _ _ _ _ _ _ (fs (([.arg (ns.map D.int)] : List D).map (fun d => some (false, d)) ++ List.replicate (N.length - 1) none))
      cases fs (([.arg (ns.map D.int)] : List D).map (fun d => some (false, d)) ++ List.replicate (N.length - 1) none) with
      | ret x =>
        intro hF
        cases hF
        intro v H' e q
        cases b with
        | false => exact Rp.bool (H := hide H' []) q
        | true => obtain ⟨_, _, _, z⟩ := q; exact z.elim
      | nx ρ => intro hF; cases hF
      | exc c fs ρ => intro hF; cases hF
      | brk ρ => intro hF; cases hF
      | ct ρ => intro hF; cases hF
      | stuck => intro hF; cases hF)
  refine codeAny_mono run fun r s' h => ?_
  cases r with
  | error e =>
    obtain ⟨_, _, _, _, _, _, _, _, _, _, _, _, z⟩ := h
    exact z.elim
  | ok fl =>
    cases fl with
    | next => exact h.elim
    | brk => exact h.elim
    | cont => exact h.elim
    | ret u =>
      obtain ⟨v, H', os, bare, un, hok', r', q⟩ := h
      have q' : v = .bl true := q
      subst q'
      obtain rfl : u = Value.bool true := r'
      refine ⟨rfl, OldK.of_keep fun c u e => ?_, os, bare⟩
      cases q : H c with
      | none => exact un.keep c u e q (by simp [frs]) (by simp)
      | some z =>
        obtain ⟨rfl, _, rfl⟩ := hs q
        have z2 := un.frzs c o _ q
        obtain ⟨e2, _⟩ := hok' c _ z2
        rw [ha] at e
        cases e
        exact e2
theorem law_end {l : PySem.W.OpenLaw} {n : Nat} {q : Program} {loose : List Str} {XP : (Str → Option Value) → Heap → Prop} {YP : World → Heap → Prop} {d : DefRec} {K : Params → PySem.W.Frag} {N : List Str} {p : Str} {st : Stmt} {fs : SF}
    (hn : l.most = some n) (hn2 : n ≤ sizeLine) (hdf : d.params.defaults = []) (hY : ∀ (w : World) (h : Heap), YP w h → (K w.params).In h) (S : FnScope N [p] (defScope st))
    (F : ∀ (w : World) (mg : Str → Option Value) (fa : Addr) (h : Heap), (K w.params).In h → h.Ns mainGlobals mg → mg d.name = some (.ref fa) →
      ∃ fd : FuncData, Fun (K w.params) "law" "law" st fa fd ∧ (∀ (s : Shared) (u : Value), BindsTo s fd ⟨[u], []⟩ [(p, u)]) ∧
        ∀ (base : Heap) (cdv : Value) (s : Shared) (H : Hp), (K w.params).In base → base.Ns mainGlobals mg → FSs (cxOf (CX l.prog w) l.prog w (K w.params) mg base N "law" (defScope st) fa cdv callerA [] s H fun _ _ _ => False) WN (defBody st) fs)
    (hF : ∀ ns : List Int, ns.length ≤ n → ∃ b, runD N.length 1 fs [.arg (ns.map D.int)] = .ok (b, .bl true)) :
    PySem.W.WalkO q loose XP YP l.row.toRowW d [] (fun f vs => PySem.call f vs) := by
  refine Att.attach_call hn hdf fun w s₀ s₁ mg mb fa o pm cd doc a vs ns G Y ho hd hcd hmg hobj hints hlen hg => ?_
  have KX := hY w _ Y
  obtain ⟨fd, h1, h2, h3⟩ := F w mg fa _ KX G.T.g hmg
  obtain ⟨b, hb⟩ := hF ns hlen
  exact law_at KX G.T.g G.T.b G.T.builtins G.T.nolimit hg hobj hints (Nat.le_trans hlen hn2) h1 S h2 h3 hb
end Fv

namespace Fv
open PySem L2

/-! ### an item of a name's value, own or not -/
def fIxV (i : Nat) (f : EF) : EF := fun ρ => match ρ[i]? with
  | some (some (true, .lst l)) => do
    let x ← f ρ
    ixD (.lst l) x.2
  | some (some (false, d)) => do
    let x ← f ρ
    ixD d x.2
  | _ => .stuck
section
variable {X : Cx} {W : WX} {pos p : Pos} {e a b c tg : Expr} {f fa fb fc : EF} {x : Str} {i : Nat}
theorem fe_ixV (i : Nat) (hb : FE X W b f) (hN : X.N[i]? = some x := by rfl) (hv : Vis X.env.scope x := by first | exact Or.inl rfl | exact Or.inr (Or.inl rfl) | exact Or.inr (Or.inr rfl)) (hd : (x == ("__debug__" : Str)) = false := by decide)
    (hcd : (x == ("__classdict__" : Str)) = false := by decide) (hs : PlainIx b := by intro _ _; rfl) : FE X W (.Subscript (.Name x p) b pos) (fIxV i f) :=
  fe_of (pe_ix ix_seq (pe_var hN hv hd hcd) hb hs) fun ρ ow σ H Q E m => by
    unfold fIxV at m
    split at m
    · rename_i l hl
      obtain ⟨a, h1, h2, xs, g1, g2⟩ := E.own i _ hl
      refine ⟨_, h1, ρ, ow, E, Out.bind m fun y v H1 e1 r1 m1 => ?_⟩
      have r := r1.give E.live
      revert r m1
      unfold ixD
      cases y.2 with
      | int k =>
        intro m1 r
        have m1 : OutE (gx X) W H ow σ Q (ofO (atI l k)) := m1
        cases q : atI l k with
        | none => rw [q] at m1; exact m1.elim
        | some d =>
          rw [q] at m1
          obtain ⟨u, hu, ru⟩ := atI_bear g2 q
          exact .inl ⟨a, xs, k, u, rfl, r.int_, SqL.of (e1 _ _ g1), hu, m1 u H1 e1 (ru.mono (hide_mono e1 fun _ z => .inl z))⟩
      | _ => intro m1 r; exact m1.elim
    · rename_i d hl
      obtain ⟨v, h1, h2⟩ := E.seen i d hl
      refine ⟨v, h1, ρ, ow, E, Out.bind m fun y u H1 e1 r1 m1 => ?_⟩
      exact lk_ix (E.keep e1).live (h2.mono (hide_mono e1 fun _ z => .inl z)) (r1.give E.live) (OutE.from m1 e1)
    · exact m.elim

/-! ### a < b < c -/
def fChain (o o' : D → D → R (Bool × D)) (fa fb fc : EF) : EF := fun ρ => do
  let x ← fa ρ
  let y ← fb ρ
  let z ← o x.2 y.2
  match z.2 with
  | .bl k => if k = true then (do
      let w ← fc ρ
      o' y.2 w.2) else sh (.bl false)
  | _ => .stuck
theorem chain_read {r r' : R2} {o o' : D → D → R (Bool × D)} (l : Lk2 (gx X) r o) (l' : Lk2 (gx X) r' o') {ρ : Env} {ow : List Addr} {σ : St} {H : Hp} {Q : VK} (E : EnvR (gx X) H ow σ ρ) (m : OutE (gx X) W H ow σ Q (fChain o o' fa fb fc ρ)) :
    tChain r r' (tE (gx X) W fa) (tE (gx X) W fb) (tE (gx X) W fc) σ H Q := by
  refine ⟨ρ, ow, E, Out.bind m fun dx x H1 e1 r1 m1 => ?_⟩
  refine ⟨ρ, ow, E.keep e1, Out.bind (OutE.from m1 e1) fun dy y H2 e2 r2 m2 => ?_⟩
  have E2 := (E.keep e1).keep e2
  have rx := (r1.give E.live).mono (hide_mono e2 fun _ z => .inl z)
  have ry := r2.give (E.keep e1).live
  refine l (W := W) (σ := σ) E2.live rx ry (Out.bind (OutE.from m2 e2) fun z v H3 e3 r3 m3 => ?_)
  have rz := r3.give E2.live
  revert rz m3
  cases z.2 with
  | bl k =>
    intro m3 rz
    refine ⟨k, rz.bool, ?_⟩
    cases k with
    | false => exact m3 (.bl false) H3 e3 (.bl false)
    | true =>
      have m3 : OutE (gx X) W H2 ow σ Q (fc ρ >>= fun w => o' dy.2 w.2) := m3
      rw [if_pos rfl]
      have E3 := E2.keep e3
      exact ⟨ρ, ow, E3, Out.bind (OutE.from m3 e3) fun dw w H4 e4 r4 m4 => l' (E3.keep e4).live (ry.mono (hide_mono (e3.trans e4) fun _ z => .inl z)) (r4.give E3.live) (OutE.from m4 e4)⟩
  | _ => intro m3 rz; exact m3.elim
theorem fe_chain {op op' : CmpOp} {r r' : R2} {o o' : D → D → R (Bool × D)} (ho : OpR X (compareOp op) r) (l : Lk2 (gx X) r o) (ho' : OpR X (compareOp op') r') (l' : Lk2 (gx X) r' o') (ha : FE X W a fa) (hb : FE X W b fb) (hc : FE X W c fc)
    (hm : lastMarks [op, op'] [b, c] = false := by with_unfolding_all rfl) : FE X W (.Compare a [op, op'] [b, c] pos) (fChain o o' fa fb fc) :=
  fe_of (pe_chain ho ho' ha hb hc hm) fun ρ ow σ H Q E m => chain_read l l' E m
theorem ft_chain {op op' : CmpOp} {r r' : R2} {o o' : D → D → R (Bool × D)} (ho : OpR X (compareOp op) r) (l : Lk2 (gx X) r o) (ho' : OpR X (compareOp op') r') (l' : Lk2 (gx X) r' o') (ha : FE X W a fa) (hb : FE X W b fb) (hc : FE X W c fc)
    (hm : lastMarks [op, op'] [b, c] = false := by with_unfolding_all rfl) : FT X W (.Compare a [op, op'] [b, c] pos) (fTst (fChain o o' fa fb fc)) :=
  ft_of (pt_chain ho ho' ha hb hc hm) fun ρ ow σ H Q E m => by
    obtain ⟨ρ', ow', E', m'⟩ := tst E m
    exact chain_read l l' E' m'

/-! ### truth of any value -/
def truD : D → R Bool
  | .non => .ok false
  | .bl b => .ok b
  | .int i => .ok (i != 0)
  | .str s => if s.length ≤ sizeLine then .ok ((s.length : Int) != 0) else .stuck
  | .lst l => .ok (!l.isEmpty)
  | .arg l => .ok (!l.isEmpty)
  | .tup l => .ok (!l.isEmpty)
  | _ => .stuck
def fTru (f : EF) : TF := fun ρ => do
  let x ← f ρ
  truD x.2
theorem RpL.empty {g : G} {H : Hp} {xs : List V} {ds : List D} (r : RpL g H xs ds) : xs.isEmpty = ds.isEmpty := by
  cases r <;> rfl
theorem ft_tru (h : FE X W e f) (he : ∀ whole, isTrue e X.env whole = (do let v ← whole; standAt e.pos; holding [v] (truthy v)) := by intro _; rfl) : FT X W e (fTru f) :=
  ft_of (pt_truth h he) fun ρ ow σ H Q E m => ⟨ρ, ow, E, Out.bind m fun x v H1 e1 r1 m1 => by
    have r := r1.give E.live
    revert r m1
    cases x.2 with
    | non => intro m1 r; exact ⟨false, by rw [r.non_]; rfl, m1 _ H1 e1 rfl⟩
    | bl b => intro m1 r; exact ⟨b, by rw [r.bool]; rfl, m1 _ H1 e1 rfl⟩
    | int i => intro m1 r; exact ⟨_, by rw [r.int_]; rfl, m1 _ H1 e1 rfl⟩
    | str s =>
      intro m1 r
      have m1 : OutT (gx X) W H σ Q (if s.length ≤ sizeLine then .ok ((s.length : Int) != 0) else .stuck) := m1
      by_cases q : s.length ≤ sizeLine
      · rw [if_pos q] at m1
        exact ⟨_, by rw [r.str_]; exact ⟨q, rfl⟩, m1 _ H1 e1 rfl⟩
      · rw [if_neg q] at m1
        exact m1.elim
    | lst l =>
      intro m1 r
      cases r with
      | lst h r => exact ⟨_, .inl ⟨_, (hide_same _ _).seq (.inl h), by rw [r.empty]⟩, m1 _ H1 e1 rfl⟩
    | arg l =>
      intro m1 r
      cases r with
      | arg h r => exact ⟨_, .inl ⟨_, (hide_same _ _).seq h, by rw [r.empty]⟩, m1 _ H1 e1 rfl⟩
    | tup l =>
      intro m1 r
      cases r with
      | tup h r => exact ⟨_, .inr (.inl ⟨_, tupT h, by rw [r.empty]⟩), m1 _ H1 e1 rfl⟩
    | _ => intro m1 r; exact m1.elim⟩

/-! ### a name of the module -/
theorem fe_glob {x : Str} {v : V} {u : Value} {d : D} (hm : X.mg x = some u) (r : RelV v u) (rd : ∀ H, Rp (gx X) H v d) (hg : Gl X x := by rfl) (hd : (x == ("__debug__" : Str)) = false := by decide) : FE X W (.Name x pos) (fC d) :=
  fe_of (pe_glob hg hm r hd) fun ρ ow σ H Q E m => m v H (Same.refl _) (rd _)

/-! ### further stores -/
variable {g : G} {st : Stmt} {gf : GF} {ix : List Nat}
theorem EnvR.storeS {H : Hp} {ow : List Addr} {σ : St} {ρ : Env} (E : EnvR g H ow σ ρ) {i : Nat} {v : V} {d : D} (r : Rp g (hide H ow) v d) : EnvR g H ow (σ.set i (some v)) (ρ.set i (some (false, d))) := by
  refine ⟨by rw [List.length_set, List.length_set]; exact E.len, E.live, fun j d' hj => ?_, fun j d' hj => ?_, fun j k d1 d2 a hne h1 h2 h3 h4 => ?_⟩
  · rcases set_hit hj with ⟨rfl, l, q⟩ | ⟨q, hj⟩
    · cases q
      exact ⟨v, List.getElem?_set_self (E.len ▸ l), r⟩
    · obtain ⟨u, r1, r2⟩ := E.seen j d' hj
      exact ⟨u, by rw [List.getElem?_set_ne q]; exact r1, r2⟩
  · rcases set_hit hj with ⟨rfl, l, q⟩ | ⟨q, hj⟩
    · cases q
    · obtain ⟨u, r1, r2⟩ := E.own j d' hj
      exact ⟨u, by rw [List.getElem?_set_ne q]; exact r1, r2⟩
  · rcases set_hit h1 with ⟨_, _, q⟩ | ⟨q1, h1⟩
    · cases q
    · rcases set_hit h2 with ⟨_, _, q⟩ | ⟨q2, h2⟩
      · cases q
      · rw [List.getElem?_set_ne q1] at h3
        rw [List.getElem?_set_ne q2] at h4
        exact E.sep j k d1 d2 a hne h1 h2 h3 h4
theorem SR.storeS {B H0 H : Hp} {ow0 ow : List Addr} {σ : St} {ρ : Env} (S : SR g B H0 ow0 H ow σ ρ) {i : Nat} {v : V} {d : D} (r : Rp g (hide H ow) v d) : SR g B H0 ow0 H ow (σ.set i (some v)) (ρ.set i (some (false, d))) :=
  ⟨S.env.storeS r, S.same, S.ent, S.sub, S.olive, fun j e a hj ha => by
    rcases set_hit hj with ⟨_, _, q⟩ | ⟨q, hj⟩
    · cases q
    · rw [List.getElem?_set_ne q] at ha
      exact S.fresh j e a hj ha⟩
/-- the value is to be seen from now on -/
def fSetS (i : Nat) (f : EF) : SF := fun ρ => Res.ofR ρ (fun x => .nx (ρ.set i (some (false, x.2)))) (f ρ)
theorem setEndS {B H0 H : Hp} {ow0 ow : List Addr} {σ : St} {ρ : Env} {D0 : Ends} {i : Nat} (S : SR g B H0 ow0 H ow σ ρ) (m : EndR g W D0 B H0 ow0 (fSetS i f ρ)) : tE g W f σ H fun x H1 => gName i x σ H1 D0.nx :=
  ⟨ρ, ow, S.env, outOf S m fun x v H' e r m' => by
    obtain ⟨ow', S'⟩ := (S.keep e).store (i := i) (x := (false, x.2)) (Same.refl _) (r.give S.env.live)
    exact m' _ _ _ S'⟩
theorem fs_setS {i : Nat} {x : Str} {pos' : Pos} (hN : X.N.Nodup) (he : FE X W e f) (hi : X.N[i]? = some x := by rfl) (hx : L2.Loc X.env.scope x := by first | exact .inl rfl | exact .inr rfl) (hs : swapsWith e (some (.Name x pos')) pos.line X.env = pure false := by rfl)
    (hf : X.fn x = true ∨ X.env.scope.names.lookup x = some .local := by first | exact .inl rfl | exact .inr rfl | assumption) : FS X W (.Assign [.Name x pos'] e pos) (fSetS i f) :=
  fs_of (ps_set hN hi hx he hs hf) fun ρ ow σ H B H0 ow0 D0 S m => setEndS S m
def fAsg (gf : GF) (f : EF) : SF := fun ρ => Res.ofR ρ (fun x => match gf x.2 ρ with
  | some ρ' => .nx ρ'
  | none => .stuck) (f ρ)
theorem fs_asg (he : FE X W e f) (hg : FG X tg ix gf) (hs : swapsWithSole [tg] e pos.line X.env = pure false := by rfl) (hw : swappedStores [tg] e X.env = pure none := by rfl)
    (h1 : (assignEach [tg] X.env).map (·.2) = [assign tg X.env] := by rfl) : FS X W (.Assign [tg] e pos) (fAsg gf f) :=
  fs_of (ps_asg he hg hs hw h1) fun ρ ow σ H B H0 ow0 D0 S m => ⟨ρ, ow, S.env, outOf S m fun x v H' e r m' => by
    cases q : gf x.2 ρ with
    | none => rw [q] at m'; exact m'.elim
    | some ρ' =>
      rw [q] at m'
      have S' := S.keep e
      exact ⟨ρ, ow, x.2, ρ', S'.env, r.give S.env.live, q, fun σ' E' _ L' => m' σ' H' ow (S'.assigned E' L')⟩⟩
def fPar (i j : Nat) (u : AF) : SF := fun ρ => Res.ofR ρ (fun ds => match ds with
  | [a, b] => .nx ((ρ.set i (some (false, a))).set j (some (false, b)))
  | _ => .stuck) (u ρ)
theorem fs_par {i j : Nat} {x y : Str} {u : AF} {px py pt : Pos} {kt k2 : Nat} {pt2 : Pos} (hc : X.calm = true) (hN : X.N.Nodup) (hij : i ≠ j) (ha : FA X W [a, b] u)
    (hw : swappedStores [.Tuple [.Name x px, .Name y py] kt pt] (.Tuple [a, b] k2 pt2) X.env = pure (some [x, y])) (hi : X.N[i]? = some x := by rfl) (hj : X.N[j]? = some y := by rfl)
    (hx : X.env.scope.names.lookup x = some .local := by rfl) (hy : X.env.scope.names.lookup y = some .local := by rfl)
    (hs : swapsWithSole [.Tuple [.Name x px, .Name y py] kt pt] (.Tuple [a, b] k2 pt2) pos.line X.env = pure false := by rfl) :
    FS X W (.Assign [.Tuple [.Name x px, .Name y py] kt pt] (.Tuple [a, b] k2 pt2) pos) (fPar i j u) :=
  fs_of (ps_par hc hN hi hj hij hx hy ha hw hs) fun ρ ow σ H B H0 ow0 D0 S m => ⟨ρ, ow, S.env, outOf S m fun ds vs H' e r m' => by
    revert m'
    split
    · intro m'
      obtain ⟨v, w, rfl, r1, r2⟩ := r.two
      exact ⟨_, _, rfl, m' _ _ _ (((S.keep e).storeS r1).storeS r2)⟩
    · exact fun m' => m'.elim⟩
theorem fs_setLcS {elt iter : Expr} {ifs : List Expr} {scope : Scope} {own : List (Str × Nat)} {fi : IF} {ft : TF} {fe : EF} {i : Nat} {y : Str} {py spos : Pos} (hc : X.calm = true) (hN : X.N.Nodup) (hsw : swapsWith (.ListComp elt [⟨tg, iter, ifs, 0⟩] scope pos) (some (.Name y py)) spos.line X.env = pure true) (hi : FI X W tg iter fi) (ok : BlkOk X.N X.env.scope scope own)
    (hg : ∀ (s : Shared) (H : Hp) (C : Addr) (cl : List (Str × Addr)) (fp : List Addr), FG (X.blk s H scope (compEnvC scope cl C X.env) fp) tg ix gf)
    (ht : ∀ (s : Shared) (H : Hp) (C : Addr) (cl : List (Str × Addr)) (fp : List Addr), PTs (X.blk s H scope (compEnvC scope cl C X.env) fp) ifs (tT (gx X) WN ft))
    (he : ∀ (s : Shared) (H : Hp) (C : Addr) (cl : List (Str × Addr)) (fp : List Addr), FE (X.blk s H scope (compEnvC scope cl C X.env) fp) WN elt fe)
    (hy : X.N[i]? = some y := by rfl) (hyl : X.env.scope.names.lookup y = some .local := by rfl)
    (hix : ∀ i ∈ ix, i ∈ own.map (·.2) := by decide) (hs : ∀ x, foldedSetIterable iter X.env x = pure x := by intro _; rfl) :
    FS X W (.Assign [.Name y py] (.ListComp elt [⟨tg, iter, ifs, 0⟩] scope pos) spos) (fSetS i (fLc fi gf ft fe (own.map (·.2)))) :=
  fs_of (ps_setLc (g := tG (gx X) ix gf) (tt := tT (gx X) WN ft) (te := tE (gx X) WN fe) hc hN hy hyl hsw hi ok hg ht he hs) fun ρ ow σ H B H0 ow0 D0 S m => by
    have m : tE (gx X) W (fLc fi gf ft fe (own.map (·.2))) σ H fun x H1 => gName i x σ H1 D0.nx := setEndS S m
    obtain ⟨ρ', ow', E, m⟩ := m
    exact ⟨ρ', ow', E, Out.bind m fun ds J H1 e1 w m1 => by
      by_cases q : small ds = true
      · rw [if_pos q] at m1
        intro D nD
        cases h : lcL gf ft fe (wipeE ρ' (own.map (·.2))) ds with
        | ok r =>
          rw [h] at m1
          exact lc_read (g := gx X) (Q := fun x H1 => gName i x σ H1 D0.nx) hix (E.keep e1) e1 w q h (fun a H' e r => m1 _ H' e r) D nD
        | exc c fs => exact absurd h (lcL_noexc ds c fs)
        | stuck => rw [h] at m1; exact m1.elim
      · rw [if_neg q] at m1
        exact m1.elim⟩
end
end Fv
namespace Fv
open PySem L2
theorem room_law (env : PySem.Env) : Room 24 (callerA.deeper env) := ⟨rfl, by show callerA.depth + 1 + 3 * 24 + 5 < recursionLimit; decide, by show callerA.units + 3 + 16 * 24 + 200 < cLine; decide⟩
end Fv

namespace Fv
open PySem L2
section
variable {X : Cx} {W : WX} {pos apos p : Pos} {st : Stmt} {sts : List Stmt} {e o tg : Expr} {es : List Expr} {f fo fe : EF} {g : G}

/-! ### what is not come to -/
def fStk : SF := fun _ => .stuck
theorem fs_stk : FS X W st fStk := ⟨fun pins s σ H D0 I ⟨ρ, ow, B, H0, ow0, S, m⟩ => m.elim⟩
theorem fss_stk : FSs X W sts fStk := ⟨fun pins s σ H D0 I ⟨ρ, ow, B, H0, ow0, S, m⟩ => m.elim⟩
def fStkE : EF := fun _ => .stuck
theorem fe_stk : FE X W e fStkE := ⟨fun pins s σ H Q I ⟨ρ, ow, E, m⟩ => m.elim⟩

/-! ### f-strings -/
def fFmt (f : EF) : EF := fun ρ => do
  let x ← f ρ
  match x.2 with
  | .str y => if y.length ≤ sizeLine then sh (.str y) else .stuck
  | .int i => if i.natAbs.log2 < 1920 then sh (.str (toString i)) else .stuck
  | _ => .stuck
theorem fe_fmt (h : FE X W e f) : FE X W (.FormattedValue e (-1) none pos) (fFmt f) :=
  fe_of (pe_fmt h) fun ρ ow σ H Q E m => ⟨ρ, ow, E, Out.bind m fun x v H1 e1 r1 m1 => by
    have r := r1.give E.live
    revert r m1
    cases x.2 with
    | str y =>
      intro m1 r
      by_cases q : y.length ≤ sizeLine
      · simp only [if_pos q] at m1
        exact .inl ⟨y, r.str_, q, m1 _ H1 e1 (.str y)⟩
      · simp only [if_neg q] at m1
        exact m1.elim
    | int i =>
      intro m1 r
      by_cases q : i.natAbs.log2 < 1920
      · simp only [if_pos q] at m1
        exact .inr ⟨i, r.int_, q, m1 _ H1 e1 (.str _)⟩
      · simp only [if_neg q] at m1
        exact m1.elim
    | _ => intro m1 r; exact m1.elim⟩
def joinF : List EF → Str → Env → R Str
  | [], acc, _ => .ok acc
  | f :: fs, acc, ρ => f ρ >>= fun x => match x.2 with
    | .str y => if (acc ++ y).length ≤ sizeLine then joinF fs (acc ++ y) ρ else .stuck
    | _ => .stuck
def fJs (fs : List EF) : EF := fun ρ => do
  let z ← joinF fs Str.empty ρ
  sh (.str z)
abbrev FJ (X : Cx) (W : WX) (es : List Expr) (fs : List EF) : Prop := PJ X es (fs.map (tE (gx X) W))
theorem fj_nil : FJ X W [] [] := .nil
theorem fj_cons {fs : List EF} (h : FE X W e f) (r : FJ X W es fs) : FJ X W (e :: es) (f :: fs) := .cons h r
theorem joinF_run {g : G} {ρ : Env} {ow : List Addr} {σ : St} {k : Str → R (Bool × D)} {Q : VK} {K : Str → Hp → Prop} : ∀ (fs : List EF) (acc : Str) (H : Hp), EnvR g H ow σ ρ → OutE g W H ow σ Q (joinF fs acc ρ >>= k) →
    (∀ z H', Same H H' → OutE g W H' ow σ Q (k z) → K z H') → tJs (fs.map (tE g W)) acc σ H K
  | [], acc, H, E, m, c => c acc H (Same.refl _) m
  | f :: fs, acc, H, E, m, c => by
    have m : OutE g W H ow σ Q ((f ρ >>= fun x => match x.2 with
      | .str y => if (acc ++ y).length ≤ sizeLine then joinF fs (acc ++ y) ρ else .stuck
      | _ => .stuck) >>= k) := m
    refine ⟨ρ, ow, E, ?_⟩
    revert m
    cases f ρ with
    | ok x =>
      intro m v H1 e1 r1
      have m : OutE g W H ow σ Q ((match x.2 with
        | .str y => if (acc ++ y).length ≤ sizeLine then joinF fs (acc ++ y) ρ else .stuck
        | _ => .stuck) >>= k) := m
      have r := r1.give E.live
      revert r m
      cases x.2 with
      | str y =>
        intro m r
        by_cases q : (acc ++ y).length ≤ sizeLine
        · simp only [if_pos q] at m
          exact ⟨y, r.str_, q, joinF_run fs (acc ++ y) H1 (E.keep e1) (OutE.from m e1) fun z H' e' m' => c z H' (e1.trans e') m'⟩
        · simp only [if_neg q] at m
          exact m.elim
      | _ => intro m r; exact m.elim
    | exc c fs => exact fun m => m
    | stuck => exact fun m => m
theorem fe_js {v1 v2 : Expr} {rest : List Expr} {fs : List EF} (h : FJ X W (v1 :: v2 :: rest) fs) : FE X W (.JoinedStr (v1 :: v2 :: rest) pos) (fJs fs) :=
  fe_of (pe_joined h) fun ρ ow σ H Q E m => joinF_run fs Str.empty H E m fun z H' e' m' => m' _ H' (Same.refl _) (.str z)
theorem fe_js1 (h : FE X W e f) : FE X W (.JoinedStr [e] pos) f := pe_joined1 h

/-! ### join, split -/
def strsOf : List D → Option (List Str)
  | [] => some []
  | .str s :: l => (strsOf l).map (s :: ·)
  | _ :: _ => none
theorem strsOf_bear {H : Hp} : ∀ {vs : List V} {ds : List D} {ys : List Str}, RpL g H vs ds → strsOf ds = some ys → vs = ys.map V.str ∧ ds = ys.map D.str
  | [], [], ys, _, h => by cases h; exact ⟨rfl, rfl⟩
  | v :: vs, d :: ds, ys, .cons h1 h2, h => by
    cases d with
    | str s =>
      have h : (strsOf ds).map (s :: ·) = some ys := h
      cases q : strsOf ds with
      | none => rw [q] at h; cases h
      | some zs =>
        rw [q] at h
        cases h
        obtain ⟨e1, e2⟩ := strsOf_bear h2 q
        rw [e1, e2, h1.str_]
        exact ⟨rfl, rfl⟩
    | _ => cases h
def joinOk (a : Str) (l : List D) : R (Bool × D) := match strsOf l with
  | some ys => if (ys.map (·.length)).sum + ys.length * a.length ≤ 16777216 then sh (.str (Txt.join a ys)) else .stuck
  | none => .stuck
/-- a method of texts with one argument -/
def fM1 (k : Str → D → R (Bool × D)) (fo fe : EF) : EF := fun ρ => do
  let x ← fo ρ
  match x.2 with
  | .str a => fe ρ >>= fun y => k a y.2
  | _ => .stuck
def fM0 (k : Str → R (Bool × D)) (fo : EF) : EF := fun ρ => do
  let x ← fo ρ
  match x.2 with
  | .str a => k a
  | _ => .stuck
def LkS (g : G) (r : V → List V → Hp → VK → Prop) (k : Str → D → R (Bool × D)) : Prop := ∀ {W : WX} {H : Hp} {ow : List Addr} {σ : St} {Q : VK} {a : Str} {y : V} {dy : D}, (∀ a ∈ ow, ∃ o, H a = some o) → Rp g (hide H ow) y dy → OutE g W H ow σ Q (k a dy) → r (.str a) [y] H Q
def LkS0 (g : G) (r : V → List V → Hp → VK → Prop) (k : Str → R (Bool × D)) : Prop := ∀ {W : WX} {H : Hp} {ow : List Addr} {σ : St} {Q : VK} {a : Str}, (∀ a ∈ ow, ∃ o, H a = some o) → OutE g W H ow σ Q (k a) → r (.str a) [] H Q
theorem m1_run {r : V → List V → Hp → VK → Prop} {k : Str → D → R (Bool × D)} (l : LkS (gx X) r k) {ρ : Env} {ow : List Addr} {σ : St} {H : Hp} {Q : VK} (E : EnvR (gx X) H ow σ ρ) (m : OutE (gx X) W H ow σ Q (fM1 k fo fe ρ)) :
    tM1 r (tE (gx X) W fo) (tE (gx X) W fe) σ H Q := ⟨ρ, ow, E, Out.bind m fun x v H1 e1 r1 m1 => by
  have r' := r1.give E.live
  have m1 := OutE.from m1 e1
  revert m1 r'
  cases x.2 with
  | str a =>
    intro r' m1
    refine ⟨⟨a, r'.str_⟩, ρ, ow, E.keep e1, Out.bind m1 fun y u H2 e2 r2 m2 => ?_⟩
    rw [r'.str_]
    exact l ((E.keep e1).keep e2).live (r2.give (E.keep e1).live) (OutE.from m2 e2)
  | _ => intro r' m1; exact m1.elim⟩
theorem m0_run {r : V → List V → Hp → VK → Prop} {k : Str → R (Bool × D)} (l : LkS0 (gx X) r k) {ρ : Env} {ow : List Addr} {σ : St} {H : Hp} {Q : VK} (E : EnvR (gx X) H ow σ ρ) (m : OutE (gx X) W H ow σ Q (fM0 k fo ρ)) :
    tM0 r (tE (gx X) W fo) σ H Q := ⟨ρ, ow, E, Out.bind m fun x v H1 e1 r1 m1 => by
  have r' := r1.give E.live
  have m1 := OutE.from m1 e1
  revert m1 r'
  cases x.2 with
  | str a =>
    intro r' m1
    refine ⟨⟨a, r'.str_⟩, ?_⟩
    rw [r'.str_]
    exact l (E.keep e1).live m1
  | _ => intro r' m1; exact m1.elim⟩
def joinD (a : Str) (y : D) : R (Bool × D) := match y with
  | .lst l => joinOk a l
  | .tup l => joinOk a l
  | .arg l => joinOk a l
  | _ => .stuck
theorem fe_join (ho : FE X W o fo) (he : FE X W e fe) (hs : starEach [e] X.env = [(false, eval e X.env)] := by rfl) (hbase : attributeBase o "join" X.env (eval o X.env) = eval o X.env := by rfl) (hline : (apos.endLine == pos.line) = true := by rfl) :
    FE X W (.Call (.Attribute o "join" apos) [e] [] pos) (fM1 joinD fo fe) :=
  fe_of (pe_join ho he hs hbase hline) fun ρ ow σ H Q E m => m1_run (fun {W H ow σ Q a y dy} lv ry m => by
    have go : ∀ {p : Addr} {xs : List V} {l : List D}, y = .ref p → (SqL X.K H p xs ∨ SqT X.K H p xs) → RpL (gx X) (hide H ow) xs l → OutE (gx X) W H ow σ Q (joinOk a l) → ∃ a' p, ∃ ys : List Str, V.str a = .str a' ∧ [y] = [.ref p] ∧ (SqL X.K H p (ys.map V.str) ∨ SqT X.K H p (ys.map V.str)) ∧ (ys.map (·.length)).sum + ys.length * a'.length ≤ 16777216 ∧ Q (.str (Txt.join a' ys)) H := fun {p xs l} e h r m => by
      unfold joinOk at m
      split at m
      · rename_i ys q
        split at m
        · rename_i q2
          obtain ⟨e1, _⟩ := strsOf_bear r q
          subst e1 e
          exact ⟨a, p, ys, rfl, rfl, h, q2, m _ H (Same.refl _) (.str _)⟩
        · exact m.elim
      · exact m.elim
    unfold joinD at m
    split at m
    · cases ry with
      | lst h r => exact go rfl (.inl ((hide_same _ _).seq (.inl h))) r m
    · cases ry with
      | tup h r => exact go rfl (.inr (tupT h)) r m
    · cases ry with
      | arg h r => exact go rfl (.inl ((hide_same _ _).seq h)) r m
    · exact m.elim) E m
theorem strs_bear {H : Hp} : ∀ ys : List Str, RpL g H (ys.map V.str) (ys.map D.str)
  | [] => .nil
  | y :: ys => .cons (.str y) (strs_bear ys)
def splitD (a : Str) (y : D) : R (Bool × D) := match y with
  | .str b => if (!(b.length == 0) && decide (a.length + 2 ≤ sizeLine)) = true then nw (.lst ((Txt.split a b).map .str)) else .stuck
  | _ => .stuck
theorem fe_split (ho : FE X W o fo) (he : FE X W e fe) (hs : starEach [e] X.env = [(false, eval e X.env)] := by rfl) (hbase : attributeBase o "split" X.env (eval o X.env) = eval o X.env := by rfl) (hline : (apos.endLine == pos.line) = true := by rfl) :
    FE X W (.Call (.Attribute o "split" apos) [e] [] pos) (fM1 splitD fo fe) :=
  fe_of (pe_split ho he hs hbase hline) fun ρ ow σ H Q E m => m1_run (fun {W H ow σ Q a y dy} lv ry m => by
    unfold splitD at m
    split at m
    · rename_i b
      split at m
      · rename_i q
        rw [Bool.and_eq_true] at q
        refine ⟨a, b, rfl, by rw [ry.str_], by simpa using q.1, of_decide_eq_true q.2, fun p hp => m _ _ (same_new hp) (VR.newL (Same.refl _) hp (strs_bear _))⟩
      · exact m.elim
    · exact m.elim) E m

/-! ### isinstance(x, T), x of the type T itself -/
def tyD : D → Option String
  | .non => some "NoneType"
  | .bl _ => some "bool"
  | .int _ => some "int"
  | .str _ => some "str"
  | .tup _ => some "tuple"
  | .lst _ => some "list"
  | .arg _ => some "list"
  | _ => none
theorem tyD_is {H : Hp} {ow : List Addr} {v : V} {d : D} {T : String} (r : Rp g (hide H ow) v d) (h : tyD d = some T) : TyX g.K H v (.type T) := by
  cases r with
  | non => cases h; exact .base .non
  | bl b => cases h; exact .base (.bl b)
  | int b => cases h; exact .base (.int b)
  | str b => cases h; exact .base (.str b)
  | tup q _ =>
    cases h
    rcases tupT (K := g.K) q with (q | ⟨o, q⟩) | q
    · exact .base (.tup q)
    · exact .fTuple q
    · obtain ⟨o, _, _, h1, h2, _⟩ := q; exact .kTuple h1 h2
  | lst q _ =>
    cases h
    rcases Same.rd (hide_same _ _) q with q | ⟨o, q⟩
    · exact .base (.lst q)
    · exact .base (.frz q)
  | arg q _ =>
    cases h
    rcases (hide_same _ _).seq q with (q | ⟨o, q⟩) | q
    · exact .base (.lst q)
    · exact .base (.frz q)
    · obtain ⟨o, _, _, h1, h2, _⟩ := q; exact .kList h1 h2
  | _ => cases h
def fIsi (T : String) (f : EF) : EF := fun ρ => do
  let x ← f ρ
  if tyD x.2 = some T then sh (.bl true) else .stuck
theorem fe_isi {T : String} {y : Str} {p2 : Pos} (h : FE X W e f) (hg : Gl X "isinstance") (hm : X.mg "isinstance" = none) (hg2 : Gl X y) (hm2 : X.mg y = none) (hv : bootBuiltins y = some (.type T)) (hn : y ≠ "__name__" := by decide) (hdb : (y == ("__debug__" : Str)) = false := by decide) (hcd : (y == ("__classdict__" : Str)) = false := by decide)
    (hs1 : starEach [e, .Name y p2] X.env = (false, eval e X.env) :: starEach [.Name y p2] X.env := by rfl) (hs2 : starEach [.Name y p2] X.env = (false, eval (.Name y p2) X.env) :: starEach [] X.env := by rfl) (hpl : (backTo pos (starEach [.Name y p2] X.env)).any (·.1) = false := by rfl) :
    FE X W (.Call (.Name "isinstance" p) [e, .Name y p2] [] pos) (fIsi T f) :=
  fe_of (pe_callB call_isi hg hm bt_isinstance (pa_cons h (pa_cons (pe_bltn (v := .ty T) hg2 hm2 hv rfl hn hdb) pa_nil hs2) hs1) (by decide) (by decide) hs1 hpl) fun ρ ow σ H Q E m => ⟨ρ, ow, E, Out.bind m fun x v H1 e1 r1 m1 => by
    have r := r1.give E.live
    split at m1
    · rename_i q
      exact ⟨v, .ty T, .type T, .type T, true, rfl, .ty T, tyD_is r q, if_pos (beq_self_eq_true _), m1 _ H1 e1 (.bl true)⟩
    · exact m1.elim⟩
end

/-! ### enumerate(e, k) -/

def IteCL (K : PySem.W.Frag) (a : Addr) (k : Int) : It :=
  ⟨fun i H => ∃ (xs : List V) (x : V), SqL K H a xs ∧ xs[i]? = some x, fun i H v H' => ∃ T x, v = .ref T ∧ H T = none ∧ H' = upd H T (.tup [.int (k + (i : Nat)), x]) ∧ ∀ xs, SqL K H a xs → xs[i]? = some x, fun i H => ∃ xs : List V, SqL K H a xs ∧ xs.length = i⟩
theorem turn_enumCL {P : Program} {w : World} {K : PySem.W.Frag} {elts : List Expr} {kk : Nat} {tpos : Pos} (a e it : Addr) (k : Int) :
    Turn P w K (.Tuple elts kk tpos) (IteCL K a k) [e, it] e (fun i h => (∃ old, IsEnum h e it (k + ((i : Nat) : Int)) old) ∧ h.IsListIter it a i ∧ e ≠ it) where
  mem := by simp
  obj := fun i h st b hb => by
    obtain ⟨⟨old, he⟩, ⟨o, ho, hc, hd⟩, _⟩ := st
    have e' : b = e ∨ b = it := by simpa using hb
    rcases e' with z | z
    · rw [z]; exact ⟨_, he, fun v q => nomatch q⟩
    · rw [z]; exact ⟨o, ho, fun v q => by rw [hd] at q; cases q⟩
  keep := fun i h h' st kp => let ⟨⟨old, he⟩, hi, hne⟩ := st; ⟨⟨old, kp e (by simp) _ he⟩, hi.at fun o q => kp it (by simp) o q, hne⟩
  item := by
    intro X hP hw hK hc i pins s σ H E I hf st hg
    subst hP hw hK
    obtain ⟨⟨old, he⟩, hit, hne⟩ := st
    obtain ⟨xs, x, hq, hx⟩ := hg
    obtain ⟨its, rv, p, hz⟩ := I.list hq
    obtain ⟨u, hu, ru⟩ := rv.get hx
    have pl : s.heap.IsList a its.toArray := p.isList
    have hel : e < s.heap.objs.size := Heap.lt_size he
    have hil : it < s.heap.objs.size := by obtain ⟨_, q, _⟩ := hit; exact Heap.lt_size q
    have hai : a ≠ it := fun z => by
      obtain ⟨o1, q1, c1, _⟩ := pl
      obtain ⟨o2, q2, c2, _⟩ := hit
      rw [z, q2] at q1
      cases q1
      rw [c2] at c1
      exact absurd (show (Value.type "list_iterator" : Value) = .type "list" from c1) (by decide)
    have hae : a ≠ e := fun z => by
      obtain ⟨o1, q1, c1, _⟩ := pl
      rw [z, he] at q1
      cases q1
      exact absurd (show (Value.type "enumerate" : Value) = .type "list" from c1) (by decide)
    have D : Draws X.prog X.w X.A.in1 it [it, a] its.toArray.size (fun i v => its.toArray[i]? = some v) (fun i h => h.IsListIter it a i ∧ h.IsList a its.toArray) := Draws.list (show X.A.in1.handled = none from I.ok.hd hc) it a hai its.toArray
    have hlt : i < its.toArray.size := by
      have := (List.getElem?_eq_some_iff.mp hu).1
      simpa using this
    refine wpAny_pyNext_enum_itemC D he ⟨hit, pl⟩ hlt hne (by simp [hne, Ne.symm hae]) fun u' h' tk hu' ho hit' hT hsz hk => ?_
    have eu : u' = u := by
      have : its[i]? = some u' := by simpa using hu'
      rw [hu] at this
      exact (Option.some.inj this).symm
    subst eu
    refine ⟨_, rfl, wpAny_letOwnedTupleGo_enum (s := { s with heap := h', toks := tk + 1 }) ho fun h'' he' sb => ?_⟩
    have hT2 : h''.get? s.heap.objs.size = some { cls := .type "tuple", data := .seq #[.int (k + (i : Int)) tk, u'] } := (sb.2 _ (Nat.ne_of_gt hel)).trans hT
    have new : ObjOk X.prog X.w (upd H s.heap.objs.size (.tup [.int (k + (i : Nat)), x])) h'' s.heap.objs.size (.tup [.int (k + (i : Nat)), x]) :=
      ⟨by show 2 ≤ sizeLine; decide, [.int (k + (i : Int)) tk, u'], .cons ⟨_, rfl⟩ (.cons ru .nil), ⟨_, hT2, rfl, _, rfl⟩⟩
    have I1 : Inv X pins σ (upd H s.heap.objs.size (.tup [.int (k + (i : Nat)), x])) { s with heap := h'', toks := tk + 1 } :=
      I.turnedNew (ch := [e, it]) (fun b ob hb q => (sb.2 b (fun z => hb (by simp [z]))).trans (hk b ob (fun z => hb (by simp [z])) (fun z => hb (by simp [z])) q)) hf (Nat.le_refl _) new
    refine ⟨.ref s.heap.objs.size, _, I1, rfl, ⟨_, x, rfl, I.hok.fresh (Nat.le_refl _), rfl, fun ys hy => by rw [I.list_inj hy hq]; exact hx⟩, ⟨⟨u', ?_⟩, hit'.1.at fun o q => (sb.2 it (Ne.symm hne)).trans q, hne⟩, fun b hb => ?_⟩
    · have e1 : k + ((i + 1 : Nat) : Int) = k + (i : Int) + 1 := by omega
      rw [e1]; exact he'
    · have hb' : b < s.heap.objs.size := by
        have e' : b = e ∨ b = it := by simpa using hb
        rcases e' with z | z
        · rw [z]; exact hel
        · rw [z]; exact hil
      rw [upd_ne (Nat.ne_of_lt hb')]
      exact (hf b hb).1
  done := by
    intro X hP hw hK hc i pins s σ H E I hf st hg
    subst hP hw hK
    obtain ⟨⟨old, he⟩, hit, hne⟩ := st
    obtain ⟨xs, hq, hx⟩ := hg
    obtain ⟨its, rv, p, hz⟩ := I.list hq
    have pl : s.heap.IsList a its.toArray := p.isList
    have hai : a ≠ it := fun z => by
      obtain ⟨o1, q1, c1, _⟩ := pl
      obtain ⟨o2, q2, c2, _⟩ := hit
      rw [z, q2] at q1
      cases q1
      rw [c2] at c1
      exact absurd (show (Value.type "list_iterator" : Value) = .type "list" from c1) (by decide)
    have D : Draws X.prog X.w X.A.in1 it [it, a] its.toArray.size (fun i v => its.toArray[i]? = some v) (fun i h => h.IsListIter it a i ∧ h.IsList a its.toArray) := Draws.list (show X.A.in1.handled = none from I.ok.hd hc) it a hai its.toArray
    obtain ⟨f0, f1, f2, f3, f4, f5⟩ := hf it (by simp)
    have hl := rv.length
    have hn : i = its.toArray.size := by simp; omega
    subst hn
    exact wpAny_pyNext_enum_endD D he ⟨hit, pl⟩ fun h' eb => ⟨rfl, I.turned (t' := s.toks) (fun b o hb q => eb b o hb q) f0 f1 f3 f4 f5⟩
  self := fun A i s Q E st h => let ⟨⟨_, he⟩, _⟩ := st; wpAny_pyIter_enum he h

def IteCT (K : PySem.W.Frag) (a : Addr) (k : Int) : It :=
  ⟨fun i H => ∃ (xs : List V) (x : V), SqT K H a xs ∧ xs[i]? = some x, fun i H v H' => ∃ T x, v = .ref T ∧ H T = none ∧ H' = upd H T (.tup [.int (k + (i : Nat)), x]) ∧ ∀ xs, SqT K H a xs → xs[i]? = some x, fun i H => ∃ xs : List V, SqT K H a xs ∧ xs.length = i⟩
theorem turn_enumCT {P : Program} {w : World} {K : PySem.W.Frag} {elts : List Expr} {kk : Nat} {tpos : Pos} (a e it : Addr) (k : Int) :
    Turn P w K (.Tuple elts kk tpos) (IteCT K a k) [e, it] e (fun i h => (∃ old, IsEnum h e it (k + ((i : Nat) : Int)) old) ∧ h.IsTupleIter it a i ∧ e ≠ it) where
  mem := by simp
  obj := fun i h st b hb => by
    obtain ⟨⟨old, he⟩, ⟨o, ho, hc, hd⟩, _⟩ := st
    have e' : b = e ∨ b = it := by simpa using hb
    rcases e' with z | z
    · rw [z]; exact ⟨_, he, fun v q => nomatch q⟩
    · rw [z]; exact ⟨o, ho, fun v q => by rw [hd] at q; cases q⟩
  keep := fun i h h' st kp => let ⟨⟨old, he⟩, hi, hne⟩ := st; ⟨⟨old, kp e (by simp) _ he⟩, hi.at fun o q => kp it (by simp) o q, hne⟩
  item := by
    intro X hP hw hK hc i pins s σ H E I hf st hg
    subst hP hw hK
    obtain ⟨⟨old, he⟩, hit, hne⟩ := st
    obtain ⟨xs, x, hq, hx⟩ := hg
    obtain ⟨its, rv, p, hz⟩ := I.tuple hq
    obtain ⟨u, hu, ru⟩ := rv.get hx
    have pl : s.heap.IsTuple a its.toArray := p
    have hel : e < s.heap.objs.size := Heap.lt_size he
    have hil : it < s.heap.objs.size := by obtain ⟨_, q, _⟩ := hit; exact Heap.lt_size q
    have hai : a ≠ it := fun z => by
      obtain ⟨o1, q1, c1, _⟩ := pl
      obtain ⟨o2, q2, c2, _⟩ := hit
      rw [z, q2] at q1
      cases q1
      rw [c2] at c1
      exact absurd (show (Value.type "tuple_iterator" : Value) = .type "tuple" from c1) (by decide)
    have hae : a ≠ e := fun z => by
      obtain ⟨o1, q1, c1, _⟩ := pl
      rw [z, he] at q1
      cases q1
      exact absurd (show (Value.type "enumerate" : Value) = .type "tuple" from c1) (by decide)
    have D : Draws X.prog X.w X.A.in1 it [it, a] its.toArray.size (fun i v => its.toArray[i]? = some v) (fun i h => h.IsTupleIter it a i ∧ h.IsTuple a its.toArray) := Draws.tuple (show X.A.in1.handled = none from I.ok.hd hc) it a hai its.toArray
    have hlt : i < its.toArray.size := by
      have := (List.getElem?_eq_some_iff.mp hu).1
      simpa using this
    refine wpAny_pyNext_enum_itemC D he ⟨hit, pl⟩ hlt hne (by simp [hne, Ne.symm hae]) fun u' h' tk hu' ho hit' hT hsz hk => ?_
    have eu : u' = u := by
      have : its[i]? = some u' := by simpa using hu'
      rw [hu] at this
      exact (Option.some.inj this).symm
    subst eu
    refine ⟨_, rfl, wpAny_letOwnedTupleGo_enum (s := { s with heap := h', toks := tk + 1 }) ho fun h'' he' sb => ?_⟩
    have hT2 : h''.get? s.heap.objs.size = some { cls := .type "tuple", data := .seq #[.int (k + (i : Int)) tk, u'] } := (sb.2 _ (Nat.ne_of_gt hel)).trans hT
    have new : ObjOk X.prog X.w (upd H s.heap.objs.size (.tup [.int (k + (i : Nat)), x])) h'' s.heap.objs.size (.tup [.int (k + (i : Nat)), x]) :=
      ⟨by show 2 ≤ sizeLine; decide, [.int (k + (i : Int)) tk, u'], .cons ⟨_, rfl⟩ (.cons ru .nil), ⟨_, hT2, rfl, _, rfl⟩⟩
    have I1 : Inv X pins σ (upd H s.heap.objs.size (.tup [.int (k + (i : Nat)), x])) { s with heap := h'', toks := tk + 1 } :=
      I.turnedNew (ch := [e, it]) (fun b ob hb q => (sb.2 b (fun z => hb (by simp [z]))).trans (hk b ob (fun z => hb (by simp [z])) (fun z => hb (by simp [z])) q)) hf (Nat.le_refl _) new
    refine ⟨.ref s.heap.objs.size, _, I1, rfl, ⟨_, x, rfl, I.hok.fresh (Nat.le_refl _), rfl, fun ys hy => by rw [I.tuple_inj hy hq]; exact hx⟩, ⟨⟨u', ?_⟩, hit'.1.at fun o q => (sb.2 it (Ne.symm hne)).trans q, hne⟩, fun b hb => ?_⟩
    · have e1 : k + ((i + 1 : Nat) : Int) = k + (i : Int) + 1 := by omega
      rw [e1]; exact he'
    · have hb' : b < s.heap.objs.size := by
        have e' : b = e ∨ b = it := by simpa using hb
        rcases e' with z | z
        · rw [z]; exact hel
        · rw [z]; exact hil
      rw [upd_ne (Nat.ne_of_lt hb')]
      exact (hf b hb).1
  done := by
    intro X hP hw hK hc i pins s σ H E I hf st hg
    subst hP hw hK
    obtain ⟨⟨old, he⟩, hit, hne⟩ := st
    obtain ⟨xs, hq, hx⟩ := hg
    obtain ⟨its, rv, p, hz⟩ := I.tuple hq
    have pl : s.heap.IsTuple a its.toArray := p
    have hai : a ≠ it := fun z => by
      obtain ⟨o1, q1, c1, _⟩ := pl
      obtain ⟨o2, q2, c2, _⟩ := hit
      rw [z, q2] at q1
      cases q1
      rw [c2] at c1
      exact absurd (show (Value.type "tuple_iterator" : Value) = .type "tuple" from c1) (by decide)
    have D : Draws X.prog X.w X.A.in1 it [it, a] its.toArray.size (fun i v => its.toArray[i]? = some v) (fun i h => h.IsTupleIter it a i ∧ h.IsTuple a its.toArray) := Draws.tuple (show X.A.in1.handled = none from I.ok.hd hc) it a hai its.toArray
    obtain ⟨f0, f1, f2, f3, f4, f5⟩ := hf it (by simp)
    have hl := rv.length
    have hn : i = its.toArray.size := by simp; omega
    subst hn
    exact wpAny_pyNext_enum_endD D he ⟨hit, pl⟩ fun h' eb => ⟨rfl, I.turned (t' := s.toks) (fun b o hb q => eb b o hb q) f0 f1 f3 f4 f5⟩
  self := fun A i s Q E st h => let ⟨⟨_, he⟩, _⟩ := st; wpAny_pyIter_enum he h

def enumD (k : Int) (l : List D) : List D := l.mapIdx fun i d => .tup [.int (k + (i : Nat)), d]
theorem enumD_get {k : Int} {l : List D} {i : Nat} {d : D} (h : (enumD k l)[i]? = some d) : ∃ d0, l[i]? = some d0 ∧ d = .tup [.int (k + (i : Nat)), d0] := by
  unfold enumD at h
  rw [List.getElem?_mapIdx] at h
  cases q : l[i]? with
  | none => rw [q] at h; cases h
  | some d0 => rw [q] at h; cases h; exact ⟨d0, rfl, rfl⟩
theorem walk_enumL {g : G} {H1 : Hp} {ow : List Addr} {a : Addr} {k : Int} {xs : List V} {ds : List D} (q : SqL g.K (hide H1 ow) a xs) (r : RpL g (hide H1 ow) xs ds) : Walk g H1 ow (IteCL g.K a k) (enumD k ds) :=
  fun Hc owc lv e i => by
    have q1 : SqL g.K Hc a xs := (hide_same _ _).seq (e.seq q)
    refine ⟨fun d hd => ?_, fun hl => ⟨xs, q1, by rw [r.length, ← hl]; unfold enumD; simp⟩⟩
    obtain ⟨d0, h0, rfl⟩ := enumD_get hd
    obtain ⟨v, hv, rv⟩ := r.get h0
    refine ⟨⟨xs, v, q1, hv⟩, fun x H' ⟨T, y, e1, nT, e2, e3⟩ => ?_⟩
    have z := e3 xs q1
    rw [hv] at z
    cases z
    subst e1 e2
    exact ⟨same_new nT, VR.newT (H := Hc) (ow := owc) nT (.cons (.int _) (.cons (rv.mono e) .nil)) lv⟩
theorem walk_enumT {g : G} {H1 : Hp} {ow : List Addr} {a : Addr} {k : Int} {xs : List V} {ds : List D} (q : SqT g.K (hide H1 ow) a xs) (r : RpL g (hide H1 ow) xs ds) : Walk g H1 ow (IteCT g.K a k) (enumD k ds) :=
  fun Hc owc lv e i => by
    have q1 : SqT g.K Hc a xs := Same.sqT (hide_same _ _) (Same.sqT e q)
    refine ⟨fun d hd => ?_, fun hl => ⟨xs, q1, by rw [r.length, ← hl]; unfold enumD; simp⟩⟩
    obtain ⟨d0, h0, rfl⟩ := enumD_get hd
    obtain ⟨v, hv, rv⟩ := r.get h0
    refine ⟨⟨xs, v, q1, hv⟩, fun x H' ⟨T, y, e1, nT, e2, e3⟩ => ?_⟩
    have z := e3 xs q1
    rw [hv] at z
    cases z
    subst e1 e2
    exact ⟨same_new nT, VR.newT (H := Hc) (ow := owc) nT (.cons (.int _) (.cons (rv.mono e) .nil)) lv⟩
section
variable {X : Cx} {W : WX} {tg e b : Expr} {u : AF} {p pos tpos : Pos} {elts : List Expr} {kk : Nat}
theorem pi_enum2 {ta : TA} (hg : Gl X "enumerate") (hm : X.mg "enumerate" = none) (ha : PA X [e, b] ta) (hs : starEach [e, b] X.env = [(false, eval e X.env), (false, eval b X.env)]) (hs2 : starEach [b] X.env = [(false, eval b X.env)]) :
    PI X (.Tuple elts kk tpos) (.Call (.Name "enumerate" p) [e, b] [] pos) (fun σ H R => ta σ H fun vs H1 => ∃ a k, vs = [.ref a, .int k] ∧ -(2 ^ 63) ≤ k ∧ k < 2 ^ 63 ∧ ((∃ xs, SqL X.K H1 a xs ∧ R (IteCL X.K a k) H1) ∨ (∃ xs, SqT X.K H1 a xs ∧ R (IteCT X.K a k) H1))) := by
  refine ⟨fun pins s σ H R I h => ?_⟩
  refine PyProof.Rows.Call_ (ld_blt I hg hm PyProof.Rows.boot_enumerate (PyProof.Rows.callWith_type1 (thn (ha.run pos pins s σ H _ I h) fun us s1 ⟨vs, H1, I1, r1, q1⟩ => ?_) (by rw [hs, hs2]) (by rw [hs2]; rfl)))
  obtain ⟨a, k, ex, k0, k1, q⟩ := q1
  subst ex
  obtain ⟨u1, u2, rfl, ra, rk⟩ := vals2 r1
  obtain rfl : u1 = Value.ref a := ra
  obtain ⟨t, rfl⟩ := rk
  have fp : ∀ b ∈ [s1.heap.objs.size + 1, s1.heap.objs.size], s1.heap.objs.size ≤ b := fun b hb => by
    have e' : b = s1.heap.objs.size + 1 ∨ b = s1.heap.objs.size := by simpa using hb
    rcases e' with z | z
    · rw [z]; exact Nat.le_add_right _ _
    · rw [z]; exact Nat.le_refl _
  rcases q with ⟨xs, hq, q⟩ | ⟨xs, hq, q⟩
  · obtain ⟨its, rv, p', hz⟩ := I1.list hq
    refine enum_begins (begins_list a its.toArray) p'.isList k0 k1 fun h' he hit hsz hk => wpAny_pyIter_enum he ?_
    have I2 : Inv X pins σ H1 { s1 with heap := h' } := I1.kept (t' := s1.toks) hk
    refine ⟨s1.heap.objs.size + 1, [s1.heap.objs.size + 1, s1.heap.objs.size], _, _, H1, rfl, I2, turn_enumCL a (s1.heap.objs.size + 1) s1.heap.objs.size k, ⟨⟨.none, ?_⟩, ⟨_, hit, rfl, rfl⟩, Nat.succ_ne_self _⟩, fun b hb => I1.fpOk (fp b hb) (I1.hok.fresh (fp b hb)), q⟩
    simpa using he
  · obtain ⟨its, rv, p', hz⟩ := I1.tuple hq
    refine enum_begins (begins_tuple a its.toArray) p' k0 k1 fun h' he hit hsz hk => wpAny_pyIter_enum he ?_
    have I2 : Inv X pins σ H1 { s1 with heap := h' } := I1.kept (t' := s1.toks) hk
    refine ⟨s1.heap.objs.size + 1, [s1.heap.objs.size + 1, s1.heap.objs.size], _, _, H1, rfl, I2, turn_enumCT a (s1.heap.objs.size + 1) s1.heap.objs.size k, ⟨⟨.none, ?_⟩, ⟨_, hit, rfl, rfl⟩, Nat.succ_ne_self _⟩, fun b hb => I1.fpOk (fp b hb) (I1.hok.fresh (fp b hb)), q⟩
    simpa using he
theorem pi_enum1 {ta : TA} (hg : Gl X "enumerate") (hm : X.mg "enumerate" = none) (ha : PA X [e] ta) (hs : starEach [e] X.env = [(false, eval e X.env)]) :
    PI X (.Tuple elts kk tpos) (.Call (.Name "enumerate" p) [e] [] pos) (fun σ H R => ta σ H fun vs H1 => ∃ a, vs = [.ref a] ∧ (∃ xs, SqL X.K H1 a xs ∧ R (IteCL X.K a 0) H1)) := by
  refine ⟨fun pins s σ H R I h => ?_⟩
  refine PyProof.Rows.Call_ (ld_blt I hg hm PyProof.Rows.boot_enumerate (PyProof.Rows.callWith_type1 (thn (ha.run pos pins s σ H _ I h) fun us s1 ⟨vs, H1, I1, r1, q1⟩ => ?_) hs rfl))
  obtain ⟨a, ex, xs, hq, q⟩ := q1
  subst ex
  obtain ⟨u1, rfl, ra⟩ := vals1 r1
  obtain rfl : u1 = Value.ref a := ra
  have fp : ∀ b ∈ [s1.heap.objs.size + 1, s1.heap.objs.size], s1.heap.objs.size ≤ b := fun b hb => by
    have e' : b = s1.heap.objs.size + 1 ∨ b = s1.heap.objs.size := by simpa using hb
    rcases e' with z | z
    · rw [z]; exact Nat.le_add_right _ _
    · rw [z]; exact Nat.le_refl _
  obtain ⟨its, rv, p', hz⟩ := I1.list hq
  refine call_enumerate_list p'.isList fun h' he hit hsz hk => wpAny_pyIter_enum he ?_
  have I2 : Inv X pins σ H1 { s1 with heap := h' } := I1.kept (t' := s1.toks) hk
  exact ⟨s1.heap.objs.size + 1, [s1.heap.objs.size + 1, s1.heap.objs.size], _, _, H1, rfl, I2, turn_enumCL a (s1.heap.objs.size + 1) s1.heap.objs.size 0, ⟨⟨.none, by simpa using he⟩, hit, Nat.succ_ne_self _⟩, fun b hb => I1.fpOk (fp b hb) (I1.hok.fresh (fp b hb)), q⟩
def iEnum2 (u : AF) : IF := fun ρ => do
  let ds ← u ρ
  match ds with
  | [x, .int k] => if ints62 k = true then (seqD0 x >>= fun l => .ok (enumD k l)) else .stuck
  | _ => .stuck
def iEnum1 (u : AF) : IF := fun ρ => do
  let ds ← u ρ
  match ds with
  | [.lst l] => .ok (enumD 0 l)
  | [.arg l] => .ok (enumD 0 l)
  | _ => .stuck
theorem fi_enum2 (hg : Gl X "enumerate") (hm : X.mg "enumerate" = none) (ha : FA X W [e, b] u) (hs : starEach [e, b] X.env = [(false, eval e X.env), (false, eval b X.env)] := by rfl) (hs2 : starEach [b] X.env = [(false, eval b X.env)] := by rfl) : FI X W (.Tuple elts kk tpos) (.Call (.Name "enumerate" p) [e, b] [] pos) (iEnum2 u) :=
  fi_of (pi_enum2 hg hm ha hs hs2) fun ρ ow σ H Q E m => ⟨ρ, ow, E, Out.bind m fun ds vs H1 e1 r1 m1 => by
    revert m1
    split
    · rename_i x k
      intro m1
      by_cases q : ints62 k = true
      · rw [if_pos q] at m1
        obtain ⟨q1, q2⟩ := ints62_of q
        obtain ⟨v, w, rfl, h1, h2⟩ := r1.two
        rw [h2.int_]
        cases h1 with
        | lst q r => exact ⟨_, _, rfl, by omega, by omega, .inl ⟨_, (hide_same _ _).seq (.inl q), m1 _ H1 e1 (walk_enumL (.inl q) r)⟩⟩
        | arg q r => exact ⟨_, _, rfl, by omega, by omega, .inl ⟨_, (hide_same _ _).seq q, m1 _ H1 e1 (walk_enumL q r)⟩⟩
        | tup q r => exact ⟨_, _, rfl, by omega, by omega, .inr ⟨_, tupT q, m1 _ H1 e1 (walk_enumT (.inl (.inl q)) r)⟩⟩
        | _ => exact m1.elim
      · rw [if_neg q] at m1
        exact m1.elim
    · intro m1; exact m1.elim⟩
theorem fi_enum1 (hg : Gl X "enumerate") (hm : X.mg "enumerate" = none) (ha : FA X W [e] u) (hs : starEach [e] X.env = [(false, eval e X.env)] := by rfl) : FI X W (.Tuple elts kk tpos) (.Call (.Name "enumerate" p) [e] [] pos) (iEnum1 u) :=
  fi_of (pi_enum1 hg hm ha hs) fun ρ ow σ H Q E m => ⟨ρ, ow, E, Out.bind m fun ds vs H1 e1 r1 m1 => by
    revert m1
    split
    · intro m1
      obtain ⟨v, rfl, h1⟩ := r1.one
      cases h1 with
      | lst q r => exact ⟨_, rfl, _, (hide_same _ _).seq (.inl q), m1 _ H1 e1 (walk_enumL (.inl q) r)⟩
    · intro m1
      obtain ⟨v, rfl, h1⟩ := r1.one
      cases h1 with
      | arg q r => exact ⟨_, rfl, _, (hide_same _ _).seq q, m1 _ H1 e1 (walk_enumL q r)⟩
    · intro m1; exact m1.elim⟩
end
section
variable {X : Cx} {W : WX} {pos : Pos} {x : Str}
theorem fe_glI {i : Int} (h : ∃ u, X.mg x = some u ∧ RelV (.int i) u) (hg : Gl X x := by rfl) (hdb : (x == ("__debug__" : Str)) = false := by decide) : FE X W (.Name x pos) (fC (.int i)) :=
  let ⟨_, h1, h2⟩ := h; fe_of (pe_glob hg h1 h2 hdb) fun _ _ _ H Q _ m => m (.int i) H (Same.refl _) (.int i)
theorem fe_glS {i : Str} (h : ∃ u, X.mg x = some u ∧ RelV (.str i) u) (hg : Gl X x := by rfl) (hdb : (x == ("__debug__" : Str)) = false := by decide) : FE X W (.Name x pos) (fC (.str i)) :=
  let ⟨_, h1, h2⟩ := h; fe_of (pe_glob hg h1 h2 hdb) fun _ _ _ H Q _ m => m (.str i) H (Same.refl _) (.str i)
end
end Fv

namespace Fv
open PySem L2

/-! ### keys -/
def kD : D → Option Key
  | .int i => some (.inl i)
  | .str s => some (.inr s)
  | _ => none
theorem kD_key (k : Key) : kD (keyD k) = some k := by cases k <;> rfl
def kTs : List D → Option (List Key)
  | [] => some []
  | d :: l => match kD d, kTs l with
    | some k, some ks => some (k :: ks)
    | _, _ => none
def tD : D → Option (List Key)
  | .tup l => kTs l
  | _ => none
theorem kTs_map : ∀ ks : List Key, kTs (ks.map keyD) = some ks
  | [] => rfl
  | k :: ks => by
    show (match kD (keyD k), kTs (ks.map keyD) with
      | some k, some ks => some (k :: ks)
      | _, _ => none) = _
    rw [kD_key, kTs_map ks]
def keyT (ks : List Key) : D := .tup (ks.map keyD)
theorem tD_key (ks : List Key) : tD (keyT ks) = some ks := kTs_map ks
theorem kD_bear {g : G} {H : Hp} {v : V} {d : D} {k : Key} (r : Rp g H v d) (h : kD d = some k) : v = kV k := by
  cases r with
  | int i => cases h; rfl
  | str i => cases h; rfl
  | _ => cases h
theorem kTs_bear {g : G} {H : Hp} : ∀ {vs : List V} {ds : List D} {ks : List Key}, RpL g H vs ds → kTs ds = some ks → vs = ks.map kV
  | [], [], ks, _, h => by cases h; rfl
  | v :: vs, d :: ds, ks, .cons h1 h2, h => by
    have h : (match kD d, kTs ds with
      | some k, some ks => some (k :: ks)
      | _, _ => none) = some ks := h
    cases q : kD d with
    | none => rw [q] at h; cases h
    | some k =>
      cases q2 : kTs ds with
      | none => rw [q, q2] at h; cases h
      | some ks' =>
        rw [q, q2] at h
        cases h
        rw [kD_bear h1 q, kTs_bear h2 q2]
        rfl

/-! #### a dict's pairs, keys K -/
def findK : List (D × D) → Key → Option D
  | [], _ => none
  | (a, d) :: l, k => if kD a = some k then some d else findK l k
def storeK (l : List (D × D)) (k : Key) (d : D) : List (D × D) := if (findK l k).isSome = true then l.map (fun p => if kD p.1 = some k then (p.1, d) else p) else l ++ [(keyD k, d)]
section
variable {g : G} {H : Hp}
theorem findK_some : ∀ {kvs : List (Key × V)} {ds : List (D × D)} {k : Key} {d : D}, RpK g H kvs ds → findK ds k = some d → ∃ v, valV kvs k = some v ∧ Rp g H v d
  | _, _, k, d, .nil, h => by cases h
  | _, _, k, d, .cons (k := k') (v := v) (vs := vs) h1 h2, h => by
    unfold findK at h
    rw [kD_key] at h
    by_cases q : k' = k
    · subst q
      rw [if_pos rfl] at h
      cases h
      exact ⟨v, by simp [valV], h1⟩
    · rw [if_neg (fun z => q (Option.some.inj z))] at h
      obtain ⟨u, e, r⟩ := findK_some h2 h
      refine ⟨u, ?_, r⟩
      unfold valV at e ⊢
      rw [List.find?_cons_of_neg (by simpa using q)]
      exact e
theorem findK_none : ∀ {kvs : List (Key × V)} {ds : List (D × D)} {k : Key}, RpK g H kvs ds → findK ds k = none → valV kvs k = none
  | _, _, k, .nil, h => rfl
  | _, _, k, .cons (k := k') h1 h2, h => by
    unfold findK at h
    rw [kD_key] at h
    by_cases q : k' = k
    · subst q
      rw [if_pos rfl] at h
      cases h
    · rw [if_neg (fun z => q (Option.some.inj z))] at h
      have e := findK_none h2 h
      unfold valV at e ⊢
      rw [List.find?_cons_of_neg (by simpa using q)]
      exact e
theorem findK_is {kvs : List (Key × V)} {ds : List (D × D)} (r : RpK g H kvs ds) (k : Key) : (kvs.any fun kv => decide (kv.1 = k)) = (findK ds k).isSome := by
  rw [valV_any]
  cases q : findK ds k with
  | none => rw [findK_none r q]; rfl
  | some d =>
    obtain ⟨v, e, _⟩ := findK_some r q
    rw [e]; rfl
theorem RpK.length : ∀ {kvs : List (Key × V)} {ds : List (D × D)}, RpK g H kvs ds → kvs.length = ds.length
  | _, _, .nil => rfl
  | _, _, .cons _ h => by rw [List.length_cons, List.length_cons, RpK.length h]
theorem RpK.snoc : ∀ {kvs : List (Key × V)} {ds : List (D × D)} {k : Key} {v : V} {d : D}, RpK g H kvs ds → Rp g H v d → RpK g H (kvs ++ [(k, v)]) (ds ++ [(keyD k, d)])
  | _, _, _, _, _, .nil, h => .cons h .nil
  | _, _, _, _, _, .cons h1 h2, h => .cons h1 (RpK.snoc h2 h)
theorem RpK.repl : ∀ {kvs : List (Key × V)} {ds : List (D × D)} {k : Key} {v : V} {d : D}, RpK g H kvs ds → Rp g H v d → RpK g H (kvs.map (fun kv => if kv.1 = k then (kv.1, v) else kv)) (ds.map (fun p => if kD p.1 = some k then (p.1, d) else p))
  | _, _, _, _, _, .nil, h => .nil
  | _, _, k, v, d, .cons (k := k') h1 h2, h => by
    rw [List.map_cons, List.map_cons]
    by_cases q : k' = k
    · subst q
      rw [if_pos rfl, if_pos (kD_key _)]
      exact .cons h (RpK.repl h2 h)
    · rw [if_neg q, if_neg (fun z => q (Option.some.inj (((kD_key _)).symm.trans z)))]
      exact .cons h1 (RpK.repl h2 h)
theorem RpK.put {kvs : List (Key × V)} {ds : List (D × D)} {k : Key} {v : V} {d : D} (r : RpK g H kvs ds) (h : Rp g H v d) : RpK g H (putK kvs k v) (storeK ds k d) := by
  unfold putK storeK
  rw [findK_is r k]
  by_cases q : (findK ds k).isSome = true
  · rw [if_pos q, if_pos q]; exact r.repl h
  · rw [if_neg q, if_neg q]; exact r.snoc h
end

/-! #### a dict's pairs, keys T -/
def findT : List (D × D) → List Key → Option D
  | [], _ => none
  | (a, d) :: l, k => if tD a = some k then some d else findT l k
def storeT (l : List (D × D)) (k : List Key) (d : D) : List (D × D) := if (findT l k).isSome = true then l.map (fun p => if tD p.1 = some k then (p.1, d) else p) else l ++ [(keyT k, d)]
section
variable {g : G} {H : Hp}
theorem findT_some : ∀ {kvs : List (List Key × V)} {ds : List (D × D)} {k : List Key} {d : D}, RpT g H kvs ds → findT ds k = some d → ∃ v, valV kvs k = some v ∧ Rp g H v d
  | _, _, k, d, .nil, h => by cases h
  | _, _, k, d, .cons (k := k') (v := v) (vs := vs) h1 h2, h => by
    unfold findT at h
    rw [show tD (.tup (List.map keyD k')) = some k' from tD_key k'] at h
    by_cases q : k' = k
    · subst q
      rw [if_pos rfl] at h
      cases h
      exact ⟨v, by simp [valV], h1⟩
    · rw [if_neg (fun z => q (Option.some.inj z))] at h
      obtain ⟨u, e, r⟩ := findT_some h2 h
      refine ⟨u, ?_, r⟩
      unfold valV at e ⊢
      rw [List.find?_cons_of_neg (by simpa using q)]
      exact e
theorem findT_none : ∀ {kvs : List (List Key × V)} {ds : List (D × D)} {k : List Key}, RpT g H kvs ds → findT ds k = none → valV kvs k = none
  | _, _, k, .nil, h => rfl
  | _, _, k, .cons (k := k') h1 h2, h => by
    unfold findT at h
    rw [show tD (.tup (List.map keyD k')) = some k' from tD_key k'] at h
    by_cases q : k' = k
    · subst q
      rw [if_pos rfl] at h
      cases h
    · rw [if_neg (fun z => q (Option.some.inj z))] at h
      have e := findT_none h2 h
      unfold valV at e ⊢
      rw [List.find?_cons_of_neg (by simpa using q)]
      exact e
theorem findT_is {kvs : List (List Key × V)} {ds : List (D × D)} (r : RpT g H kvs ds) (k : List Key) : (kvs.any fun kv => decide (kv.1 = k)) = (findT ds k).isSome := by
  rw [valV_any]
  cases q : findT ds k with
  | none => rw [findT_none r q]; rfl
  | some d =>
    obtain ⟨v, e, _⟩ := findT_some r q
    rw [e]; rfl
theorem RpT.length : ∀ {kvs : List (List Key × V)} {ds : List (D × D)}, RpT g H kvs ds → kvs.length = ds.length
  | _, _, .nil => rfl
  | _, _, .cons _ h => by rw [List.length_cons, List.length_cons, RpT.length h]
theorem RpT.snoc : ∀ {kvs : List (List Key × V)} {ds : List (D × D)} {k : List Key} {v : V} {d : D}, RpT g H kvs ds → Rp g H v d → RpT g H (kvs ++ [(k, v)]) (ds ++ [(keyT k, d)])
  | _, _, _, _, _, .nil, h => .cons h .nil
  | _, _, _, _, _, .cons h1 h2, h => .cons h1 (RpT.snoc h2 h)
theorem RpT.repl : ∀ {kvs : List (List Key × V)} {ds : List (D × D)} {k : List Key} {v : V} {d : D}, RpT g H kvs ds → Rp g H v d → RpT g H (kvs.map (fun kv => if kv.1 = k then (kv.1, v) else kv)) (ds.map (fun p => if tD p.1 = some k then (p.1, d) else p))
  | _, _, _, _, _, .nil, h => .nil
  | _, _, k, v, d, .cons (k := k') h1 h2, h => by
    rw [List.map_cons, List.map_cons]
    by_cases q : k' = k
    · subst q
      rw [if_pos rfl, if_pos (show tD (D.tup (List.map keyD k')) = some k' from tD_key k')]
      exact .cons h (RpT.repl h2 h)
    · rw [if_neg q, if_neg (show ¬ tD (D.tup (List.map keyD k')) = some k from fun z => q (Option.some.inj ((show tD (D.tup (List.map keyD k')) = some k' from tD_key k').symm.trans z)))]
      exact .cons h1 (RpT.repl h2 h)
theorem RpT.put {kvs : List (List Key × V)} {ds : List (D × D)} {k : List Key} {v : V} {d : D} (r : RpT g H kvs ds) (h : Rp g H v d) : RpT g H (putK kvs k v) (storeT ds k d) := by
  unfold putK storeT
  rw [findT_is r k]
  by_cases q : (findT ds k).isSome = true
  · rw [if_pos q, if_pos q]; exact r.repl h
  · rw [if_neg q, if_neg q]; exact r.snoc h
end

/-! ### d[k] -/
section
variable {X : Cx}
theorem IxR.or' {r r' : R2} (h : IxR X r) (h' : IxR X r') : IxR X (fun x y H Q => r x y H Q ∨ r' x y H Q) := fun value slice pins s σ H x y v u Q I rx ry z hs => z.elim (fun z => h value slice pins s σ H x y v u Q I rx ry z hs) fun z => h' value slice pins s σ H x y v u Q I rx ry z hs
def rIxDc : R2 := fun x y H Q => ∃ a v, x = .ref a ∧ DGet H a y (some v) ∧ Q v H
theorem ix_dct (hu : X.A.units + 64 < cLine) : IxR X rIxDc := by
  intro value slice pins s σ H x y v u Q I rx ry h hs
  obtain ⟨a, w, rfl, gt, q⟩ := h
  obtain rfl : v = Value.ref a := rx
  exact PyProof.Rows.tail_any (dict_typeIs I gt) PySem.F.slot_dict_getitem.lookup (d_getItem (by omega) I gt ry fun w' s3 I3 rw' => ⟨w, H, I3, rw', q⟩) hs
theorem ix_any (hu : X.A.units + 64 < cLine) : IxR X (fun x y H Q => rIx X.K x y H Q ∨ rIxDc x y H Q) := IxR.or' (r := rIx X.K) ix_seq (ix_dct hu)
def rInDc (neg : Bool) : R2 := fun y x H Q => ∃ a o, x = .ref a ∧ DGet H a y o ∧ Q (.bl (if neg then !o.isSome else o.isSome)) H
theorem op_inDc (hu : X.A.units + 64 < cLine) : OpR X (compareOp .In) (rInDc false) := by
  intro pins s σ H y x u v Q I ry rx h
  obtain ⟨a, o, rfl, gt, q⟩ := h
  obtain rfl : v = Value.ref a := rx
  exact d_in (by omega) I gt ry fun s3 I3 => ⟨.bl o.isSome, H, I3, rfl, q⟩
theorem op_notInDc (hu : X.A.units + 64 < cLine) : OpR X (compareOp .NotIn) (rInDc true) := by
  intro pins s σ H y x u v Q I ry rx h
  obtain ⟨a, o, rfl, gt, q⟩ := h
  obtain rfl : v = Value.ref a := rx
  exact d_notIn (by omega) I gt ry fun s3 I3 => ⟨.bl (!o.isSome), H, I3, rfl, q⟩
theorem op_inA (hu : X.A.units + 64 < cLine) : OpR X (compareOp .In) (fun x y H Q => rInAny X.K false x y H Q ∨ rInDc false x y H Q) := OpR.or (r := rInAny X.K false) op_inAny (op_inDc hu)
theorem op_notInA (hu : X.A.units + 64 < cLine) : OpR X (compareOp .NotIn) (fun x y H Q => rInAny X.K true x y H Q ∨ rInDc true x y H Q) := OpR.or (r := rInAny X.K true) op_notInAny (op_notInDc hu)
end
/-- what a dict holds at a key: none for what is no dict or no such key -/
def getD (x y : D) : Option (Option D) := match x with
  | .dct l => (kD y).map (findK l)
  | .dcT l => (tD y).map (findT l)
  | _ => none
theorem getD_bear {g : G} {H : Hp} {ow : List Addr} {x y : V} {dx dy : D} {o : Option D} (rx : Rp g (hide H ow) x dx) (ry : Rp g (hide H ow) y dy) (h : getD dx dy = some o) : ∃ a, x = .ref a ∧ ((∃ v d, o = some d ∧ DGet H a y (some v) ∧ Rp g (hide H ow) v d) ∨ (o = none ∧ DGet H a y none)) := by
  cases rx with
  | @dK a kvs ds h1 r =>
    have h : (kD dy).map (findK ds) = some o := h
    cases q : kD dy with
    | none => rw [q] at h; cases h
    | some k =>
      rw [q] at h
      cases h
      have h1 := Same.rd (hide_same _ _) h1
      refine ⟨a, rfl, ?_⟩
      cases q2 : findK ds k with
      | none => exact .inr ⟨rfl, .inl ⟨kvs, k, h1, kD_bear ry q, (findK_none r q2).symm⟩⟩
      | some d =>
        obtain ⟨v, e, rv⟩ := findK_some r q2
        exact .inl ⟨v, d, rfl, .inl ⟨kvs, k, h1, kD_bear ry q, e.symm⟩, rv⟩
  | @dT a kvs ds h1 r =>
    have h : (tD dy).map (findT ds) = some o := h
    cases q : tD dy with
    | none => rw [q] at h; cases h
    | some k =>
      rw [q] at h
      cases h
      have h1 := Same.rd (hide_same _ _) h1
      cases ry with
      | @tup b xs es hb rb =>
        have e := kTs_bear rb q
        subst e
        have hb := hide_same _ _ _ _ hb
        refine ⟨a, rfl, ?_⟩
        cases q2 : findT ds k with
        | none => exact .inr ⟨rfl, .inr ⟨kvs, k, b, h1, rfl, hb, (findT_none r q2).symm⟩⟩
        | some d =>
          obtain ⟨v, e, rv⟩ := findT_some r q2
          exact .inl ⟨v, d, rfl, .inr ⟨kvs, k, b, h1, rfl, hb, e.symm⟩, rv⟩
      | _ => cases q
  | _ => cases h
/-- x[y], whatever x is -/
def ixA (x y : D) : R (Bool × D) := match getD x y with
  | some (some d) => sh d
  | some none => .stuck
  | none => ixD x y
theorem lk_ixA {g : G} : Lk2 g (fun x y H Q => rIx g.K x y H Q ∨ rIxDc x y H Q) ixA := fun {W H ow σ Q x y dx dy} lv rx ry m => by
  unfold ixA at m
  split at m
  · rename_i d q
    obtain ⟨a, e, ⟨v, d', e', h, rv⟩ | ⟨e', _⟩⟩ := getD_bear rx ry q
    · cases e'
      exact .inr ⟨a, v, e, h, m v H (Same.refl _) rv⟩
    · cases e'
  · exact m.elim
  · exact .inl (lk_ix lv rx ry m)
def inA (neg : Bool) (x y : D) : R (Bool × D) := match getD y x with
  | some o => sh (.bl (if neg then !o.isSome else o.isSome))
  | none => inD neg x y
theorem lk_inA {g : G} (neg : Bool) : Lk2 g (fun x y H Q => rInAny g.K neg x y H Q ∨ rInDc neg x y H Q) (inA neg) := fun {W H ow σ Q x y dx dy} lv rx ry m => by
  unfold inA at m
  split at m
  · rename_i o q
    obtain ⟨a, e, ⟨v, d', e', h, rv⟩ | ⟨e', h⟩⟩ := getD_bear ry rx q
    · subst e'
      exact .inr ⟨a, some v, e, h, m _ H (Same.refl _) (.bl _)⟩
    · subst e'
      exact .inr ⟨a, none, e, h, m _ H (Same.refl _) (.bl _)⟩
  · exact .inl (lk_in neg lv rx ry m)

/-! ### displays, len, list, dict, get -/
section
variable {X : Cx} {W : WX} {pos apos cpos p : Pos} {e o f : Expr} {fo fe ff : EF} {g : G}
def fDcK : EF := fun _ => nw (.dct [])
def fDcT : EF := fun _ => nw (.dcT [])
theorem fe_dnewK : FE X W (.Dict [] [] pos) fDcK := fe_of pe_dnewK fun ρ ow σ H Q E m p hp => m _ _ (same_new hp) ⟨p, rfl, hp, [], upd_same, .nil⟩
theorem fe_dnewT : FE X W (.Dict [] [] pos) fDcT := fe_of pe_dnewT fun ρ ow σ H Q E m p hp => m _ _ (same_new hp) ⟨p, rfl, hp, [], upd_same, .nil⟩
def rLenA (K : PySem.W.Frag) : List V → Hp → VK → Prop := fun xs H Q => (∃ x n, xs = [x] ∧ LenV K x H n ∧ Q (.int n) H) ∨ (∃ a kvs, xs = [V.ref a] ∧ Rd H a (.dK kvs) ∧ Q (.int kvs.length) H) ∨ (∃ a kvs, xs = [V.ref a] ∧ Rd H a (.dT kvs) ∧ Q (.int kvs.length) H)
theorem call_lenA : CallR X (.builtin "len") (rLenA X.K) := by
  intro pins s σ H xs us Q I r h
  rcases h with h | ⟨a, kvs, rfl, hp, q⟩ | ⟨a, kvs, rfl, hp, q⟩
  · exact call_len pins s σ H xs us Q I r h
  · obtain ⟨u, rfl, rx⟩ := vals1 r
    obtain rfl : u = Value.ref a := rx
    exact d_len I hp fun t s' I' => ⟨.int kvs.length, H, I', ⟨t, rfl⟩, q⟩
  · obtain ⟨u, rfl, rx⟩ := vals1 r
    obtain rfl : u = .ref a := rx
    obtain ⟨z, hd, ys, rel, dd⟩ := dt_rd I.hok hp
    have hl : kvs.length = ys.length := Paired.length rel
    refine call_len_dictH hd dd (by rw [← hl]; rw [sizeLine_eq] at z; omega) ?_
    rw [← hl]
    exact ⟨.int kvs.length, H, (I.tok _).tok _, ⟨_, rfl⟩, q⟩
def lenA (ds : List D) : R (Bool × D) := match ds with
  | [.dct l] => sh (.int l.length)
  | [.dcT l] => sh (.int l.length)
  | ds => lenD ds
theorem lk_lenA : LkA g (rLenA g.K) lenA := fun {W H ow σ Q xs ds} lv r m => by
  unfold lenA at m
  split at m
  · obtain ⟨v, rfl, h⟩ := r.one
    cases h with
    | dK h r => exact .inr (.inl ⟨_, _, rfl, Same.rd (hide_same _ _) h, by rw [r.length]; exact m _ H (Same.refl _) (.int _)⟩)
  · obtain ⟨v, rfl, h⟩ := r.one
    cases h with
    | dT h r => exact .inr (.inr ⟨_, _, rfl, Same.rd (hide_same _ _) h, by rw [r.length]; exact m _ H (Same.refl _) (.int _)⟩)
  · exact .inl (lk_len lv r m)

def listA (ds : List D) : R (Bool × D) := match ds with
  | [.dct l] => nw (.lst (l.map (·.1)))
  | ds => listFn ds
theorem RpK.keys {H : Hp} : ∀ {kvs : List (Key × V)} {ds : List (D × D)}, RpK g H kvs ds → RpL g H (kvs.map fun kv => kV kv.1) (ds.map (·.1))
  | _, _, .nil => .nil
  | _, _, .cons (k := k) h1 h2 => .cons (by cases k <;> constructor) (RpK.keys h2)
theorem lk_listA : LkA g (fun xs H Q => (∃ p ys, xs = [.ref p] ∧ (SqL g.K H p ys ∨ SqT g.K H p ys) ∧ ∀ l, H l = none → Q (.ref l) (upd H l (.lst ys))) ∨ ∃ (a : Addr) (kvs : List (Key × V)), xs = [.ref a] ∧ Rd H a (.dK kvs) ∧ ∀ p, H p = none → Q (.ref p) (upd H p (.lst (kvs.map fun kv => kV kv.1)))) listA := fun {W H ow σ Q xs ds} lv r m => by
  unfold listA at m
  split at m
  · obtain ⟨v, rfl, h⟩ := r.one
    cases h with
    | dK h r => exact .inr ⟨_, _, rfl, Same.rd (hide_same _ _) h, fun p hp => m _ _ (same_new hp) (VR.newL (Same.refl _) hp r.keys)⟩
  · exact .inl (lk_listFn lv r m)
theorem call_listA (hc : X.calm = true) : CallR X (.type "list") (fun xs H Q => (∃ p ys, xs = [.ref p] ∧ (SqL X.K H p ys ∨ SqT X.K H p ys) ∧ ∀ l, H l = none → Q (.ref l) (upd H l (.lst ys))) ∨ ∃ (a : Addr) (kvs : List (Key × V)), xs = [.ref a] ∧ Rd H a (.dK kvs) ∧ ∀ p, H p = none → Q (.ref p) (upd H p (.lst (kvs.map fun kv => kV kv.1)))) := CallR.or call_list_of (call_listD hc)
def dictFn (ds : List D) : R (Bool × D) := match ds with
  | [.dct l] => nw (.dct l)
  | _ => .stuck
theorem lk_dictFn : LkA g (fun xs H Q => ∃ (a : Addr) (kvs : List (Key × V)), xs = [.ref a] ∧ Rd H a (.dK kvs) ∧ ∀ p, H p = none → Q (.ref p) (upd H p (.dK kvs))) dictFn := fun {W H ow σ Q xs ds} lv r m => by
  unfold dictFn at m
  split at m
  · obtain ⟨v, rfl, h⟩ := r.one
    cases h with
    | dK h r => exact ⟨_, _, rfl, Same.rd (hide_same _ _) h, fun p hp => m _ _ (same_new hp) ⟨p, rfl, hp, _, upd_same, r.mono (hide_mono (same_new hp) (mem_more hp))⟩⟩
  · exact m.elim
theorem bt_bool : bootBuiltins "bool" = some (.type "bool") := by decide +kernel
theorem bt_dict : bootBuiltins "dict" = some (.type "dict") := by decide +kernel
/-- d.get(k) -/
def fGet1 (fo fe : EF) : EF := fun ρ => do
  let x ← fo ρ
  match x.2 with
  | .dct l => fe ρ >>= fun y => match getD (.dct l) y.2 with
    | some (some d) => sh d
    | some none => sh .non
    | none => .stuck
  | .dcT l => fe ρ >>= fun y => match getD (.dcT l) y.2 with
    | some (some d) => sh d
    | some none => sh .non
    | none => .stuck
  | _ => .stuck
def fGet2 (fo fe ff : EF) : EF := fun ρ => do
  let x ← fo ρ
  match x.2 with
  | .dct l => fe ρ >>= fun y => ff ρ >>= fun z => match getD (.dct l) y.2 with
    | some (some d) => sh d
    | some none => sh z.2
    | none => .stuck
  | .dcT l => fe ρ >>= fun y => ff ρ >>= fun z => match getD (.dcT l) y.2 with
    | some (some d) => sh d
    | some none => sh z.2
    | none => .stuck
  | _ => .stuck
theorem fe_get2 (hu : X.A.units + 64 < cLine) (ho : FE X W o fo) (he : FE X W e fe) (hf : FE X W f ff) (m : M2 X o "get" apos e f cpos := by exact ⟨rfl, rfl, rfl, rfl⟩) : FE X W (.Call (.Attribute o "get" apos) [e, f] [] cpos) (fGet2 fo fe ff) :=
  fe_of (pe_dget2 (by omega) ho he hf m) fun ρ ow σ H Q E m => ⟨ρ, ow, E, Out.bind m fun x v H1 e1 r1 m1 => by
    have r := r1.give E.live
    have go : ∀ {dx : D}, Rp (gx X) (hide H1 ow) v dx → OutE (gx X) W H ow σ Q (fe ρ >>= fun y => ff ρ >>= fun z => match getD dx y.2 with
      | some (some d) => sh d
      | some none => sh z.2
      | none => .stuck) → ∀ a, v = .ref a → tE (gx X) W fe σ H1 fun y H2 => tE (gx X) W ff σ H2 fun z H3 => ∃ o, DGet H3 a y o ∧ Q (o.getD z) H3 := fun {dx} r m a ev => by
      have m := OutE.from m e1
      refine ⟨ρ, ow, E.keep e1, Out.bind m fun y w H2 e2 r2 m2 => ?_⟩
      have E2 := (E.keep e1).keep e2
      refine ⟨ρ, ow, E2, Out.bind (OutE.from m2 e2) fun z u H3 e3 r3 m3 => ?_⟩
      have E3 := E2.keep e3
      have ry := (r2.give (E.keep e1).live).mono (hide_mono e3 fun _ z => .inl z)
      have rz := r3.give E2.live
      have rx := r.mono (hide_mono (e2.trans e3) fun _ z => .inl z)
      have m3 := OutE.from m3 e3
      cases q : getD dx y.2 with
      | none => rw [q] at m3; exact m3.elim
      | some o =>
        obtain ⟨a', ea, ⟨v', d', e', h, rv⟩ | ⟨e', h⟩⟩ := getD_bear rx ry q
        · subst e'
          rw [ev] at ea
          cases ea
          rw [q] at m3
          exact ⟨some v', h, m3 v' H3 (Same.refl _) rv⟩
        · subst e'
          rw [ev] at ea
          cases ea
          rw [q] at m3
          exact ⟨none, h, m3 u H3 (Same.refl _) rz⟩
    revert r m1
    cases x.2 with
    | dct l =>
      intro m1 r
      cases r with
      | dK h r' => exact ⟨_, rfl, .inl ⟨_, Same.rd (hide_same _ _) h⟩, go (.dK h r') m1 _ rfl⟩
    | dcT l =>
      intro m1 r
      cases r with
      | dT h r' => exact ⟨_, rfl, .inr ⟨_, Same.rd (hide_same _ _) h⟩, go (.dT h r') m1 _ rfl⟩
    | _ => intro m1 r; exact m1.elim⟩
end

/-! ### {k: v for ..} -/
def dcL (gf : GF) (ft : TF) (fk fe : EF) (ρ : Env) : List D → List (D × D) → R (List (D × D))
  | [], acc => .ok acc
  | d :: ds, acc => do
    let ρ1 ← R.of (gf d ρ)
    let b ← noX (ft ρ1)
    if b = true then do
      let k ← noX (fk ρ1)
      let y ← noX (fe ρ1)
      match kD k.2 with
      | some key => dcL gf ft fk fe ρ ds (storeK acc key y.2)
      | none => .stuck
    else dcL gf ft fk fe ρ ds acc
def fDc (fi : IF) (gf : GF) (ft : TF) (fk fe : EF) (vs : List Nat) : EF := fun ρ => do
  let ds ← fi ρ
  if small ds = true then
    (match dcL gf ft fk fe (wipeE ρ vs) ds [] with
    | .ok r => nw (.dct r)
    | _ => .stuck)
  else .stuck
theorem storeK_len (l : List (D × D)) (k : Key) (d : D) : (storeK l k d).length ≤ l.length + 1 := by
  unfold storeK
  split <;> simp
section
variable {X : Cx} {W : WX} {pos : Pos} {tg iter kx elt : Expr} {ifs : List Expr} {scope : Scope} {own : List (Str × Nat)} {fi : IF} {gf : GF} {ft : TF} {fk fe : EF} {ix : List Nat}
theorem dc_read {g : G} {ds : List D} {J : It} {H H1 : Hp} {ow : List Addr} {σ : St} {ρ : Env} {Q : VK} {vs : List Nat} (hix : ∀ i ∈ ix, i ∈ vs) (E : EnvR g H1 ow σ ρ) (e0 : Same H H1) (w : Walk g H1 ow J ds) (hz : small ds = true) {out : List (D × D)} (hl : dcL gf ft fk fe (wipeE ρ vs) ds [] = .ok out)
    (k : ∀ a H', Same H H' → VR g H H' ow (.ref a) (true, .dct out) → Q (.ref a) H') (D : Addr) (nD : H1 D = none) :
    ∃ W' : Nat → Nat → Hp → Prop, (∃ m, W' 0 m (upd H1 D (.dK []))) ∧ ∀ i m H, W' i m H →
      (J.stop i H ∧ Q (.ref D) H) ∨ (J.go i H ∧ ∃ Nx : Hp → Prop, (∀ H', Nx H' → ∃ m', m' < m ∧ W' (i + 1) m' H') ∧ ∀ x H', J.yld i H x H' → tG g ix gf x (wipe σ vs) H' fun σ2 H2 => wipe σ2 vs = wipe σ vs ∧ tT g WN ft σ2 H2 fun b H3 =>
        if b = true then tE g WN fk σ2 H3 fun y H4 => tE g WN fe σ2 H4 fun z H5 => ∃ kvs k, y = kV k ∧ H5 D = some (.dK kvs) ∧ kvs.length < sizeLine ∧ Nx (upd H5 D (.dK (putK kvs k z))) else Nx H3) := by
  have hzl : ds.length ≤ sizeLine := of_decide_eq_true hz
  refine ⟨fun i m H' => m = ds.length - i ∧ i ≤ ds.length ∧ Same H1 H' ∧ ∃ kvs os, H' D = some (.dK kvs) ∧ RpK g (hide H' (D :: ow)) kvs os ∧ os.length ≤ i ∧ dcL gf ft fk fe (wipeE ρ vs) (ds.drop i) os = .ok out, ⟨_, rfl, Nat.zero_le _, same_new nD, [], [], upd_same, .nil, Nat.le_refl _, hl⟩, ?_⟩
  rintro i m H' ⟨rfl, hi, e1, kvs, os, hD, ra, hacc, hr⟩
  have E' : EnvR g H' (D :: ow) (wipe σ vs) (wipeE ρ vs) := (E.more nD e1 hD).wipe vs
  have e2 : Same (hide H1 ow) (hide H' (D :: ow)) := hide_mono e1 (mem_more nD)
  obtain ⟨w1, w2⟩ := w H' (D :: ow) E'.live e2 i
  by_cases hlt : i < ds.length
  · have hd : ds[i]? = some ds[i] := by simp [hlt]
    obtain ⟨go, step⟩ := w1 _ hd
    refine .inr ⟨go, fun H2 => Same H1 H2 ∧ ∃ kvs os, H2 D = some (.dK kvs) ∧ RpK g (hide H2 (D :: ow)) kvs os ∧ os.length ≤ i + 1 ∧ dcL gf ft fk fe (wipeE ρ vs) (ds.drop (i + 1)) os = .ok out, fun H2 h => ⟨ds.length - (i + 1), by omega, rfl, hlt, h⟩, fun x H2 y => ?_⟩
    obtain ⟨e3, rx⟩ := step x H2 y
    rw [List.drop_eq_getElem_cons hlt] at hr
    unfold dcL at hr
    cases hg : gf ds[i] (wipeE ρ vs) with
    | none => rw [hg] at hr; cases hr
    | some ρ1 =>
      rw [hg] at hr
      refine ⟨_, D :: ow, ds[i], ρ1, E'.keep e3, rx, hg, fun σ2 E2 st _ => ⟨?_, ?_⟩⟩
      · rw [st.wipe hix]
        refine List.ext_getElem? fun j => ?_
        rw [wipe_get, wipe_get, wipe_length]
        split <;> rfl
      · refine ⟨ρ1, D :: ow, E2, noX_bind hr fun b b' H3 hb e4 r4 hr => ?_⟩
        subst r4
        cases b' with
        | false =>
          rw [if_neg (by simp)] at hr ⊢
          have e5 := e3.trans e4
          exact ⟨e1.trans e5, kvs, os, e5 _ _ hD, ra.mono (hide_mono e5 fun _ z => .inl z), Nat.le_succ_of_le hacc, hr⟩
        | true =>
          rw [if_pos rfl] at hr ⊢
          refine ⟨ρ1, D :: ow, E2.keep e4, noX_bind hr fun y v H4 hy e6 r6 hr => ?_⟩
          have E4 := (E2.keep e4).keep e6
          refine ⟨ρ1, D :: ow, E4, noX_bind hr fun z u H5 hz5 e8 r8 hr => ?_⟩
          have e7 := ((e3.trans e4).trans e6).trans e8
          have rk := (r6.give (E2.keep e4).live)
          have rv := r8.give E4.live
          cases q : kD y.2 with
          | none => rw [q] at hr; cases hr
          | some key =>
            rw [q] at hr
            have hs : hide (upd H5 D (.dK (putK kvs key u))) (D :: ow) = hide H5 (D :: ow) := hide_upd List.mem_cons_self
            have rkv := ra.mono (hide_mono e7 fun _ z => .inl z)
            refine ⟨kvs, key, kD_bear rk q, e7 _ _ hD, by rw [ra.length]; omega, fun b o h => by rw [upd_ne (ne_of_none h nD)]; exact (e1.trans e7) _ _ h, putK kvs key u, storeK os key z.2, upd_same, ?_, Nat.le_trans (storeK_len _ _ _) (Nat.succ_le_succ hacc), hr⟩
            rw [hs]
            exact rkv.put rv
  · have e : i = ds.length := by omega
    subst e
    rw [List.drop_length] at hr
    cases hr
    exact .inl ⟨w2 rfl, k D H' (e0.trans e1) ⟨D, rfl, e0.free nD, kvs, hD, ra⟩⟩
theorem fe_dc (hc : X.calm = true) (hN : X.N.Nodup) (hi : FI X W tg iter fi) (ok : BlkOk X.N X.env.scope scope own)
    (hg : ∀ (s : Shared) (H : Hp) (C : Addr) (cl : List (Str × Addr)) (fp : List Addr), FG (X.blk s H scope (compEnvC scope cl C X.env) fp) tg ix gf)
    (ht : ∀ (s : Shared) (H : Hp) (C : Addr) (cl : List (Str × Addr)) (fp : List Addr), PTs (X.blk s H scope (compEnvC scope cl C X.env) fp) ifs (tT (gx X) WN ft))
    (hk : ∀ (s : Shared) (H : Hp) (C : Addr) (cl : List (Str × Addr)) (fp : List Addr), FE (X.blk s H scope (compEnvC scope cl C X.env) fp) WN kx fk)
    (he : ∀ (s : Shared) (H : Hp) (C : Addr) (cl : List (Str × Addr)) (fp : List Addr), FE (X.blk s H scope (compEnvC scope cl C X.env) fp) WN elt fe)
    (hix : ∀ i ∈ ix, i ∈ own.map (·.2) := by decide) (hs : ∀ x, foldedSetIterable iter X.env x = pure x := by intro _; rfl) :
    FE X W (.DictComp kx elt [⟨tg, iter, ifs, 0⟩] scope pos) (fDc fi gf ft fk fe (own.map (·.2))) :=
  fe_of (pe_dc (g := tG (gx X) ix gf) (tt := tT (gx X) WN ft) (tk := tE (gx X) WN fk) (tv := tE (gx X) WN fe) hc hN hi ok hg ht hk he hs) fun ρ ow σ H Q E m => ⟨ρ, ow, E, Out.bind m fun ds J H1 e1 w m1 => by
    by_cases q : small ds = true
    · rw [if_pos q] at m1
      intro D nD
      cases h : dcL gf ft fk fe (wipeE ρ (own.map (·.2))) ds [] with
      | ok r =>
        rw [h] at m1
        exact dc_read (g := gx X) hix (E.keep e1) e1 w q h (fun a H' e r => m1 _ H' e r) D nD
      | exc c fs => rw [h] at m1; exact m1.elim
      | stuck => rw [h] at m1; exact m1.elim
    · rw [if_neg q] at m1
      exact m1.elim⟩
end
end Fv

namespace Fv
open PySem L2
/-! ### x[k] = v, x an own list or dict -/
def putO (x k v : D) : Option D := match x with
  | .dct l => match kD k with
    | some key => if l.length < sizeLine then some (.dct (storeK l key v)) else none
    | none => none
  | .dcT l => match tD k with
    | some key => if l.length < sizeLine then some (.dcT (storeT l key v)) else none
    | none => none
  | .lst l => match k with
    | .int i => (ixN l.length i).map fun j => .lst (l.set j v)
    | _ => none
  | _ => none
theorem PSet.or {X : Cx} {t t' : TSet} (h : PSet X t) (h' : PSet X t') : PSet X (fun o i v H Q => t o i v H Q ∨ t' o i v H Q) := fun pins s σ H o i v ov iv u Q I ro ri rv z => z.elim (fun z => h pins s σ H o i v ov iv u Q I ro ri rv z) fun z => h' pins s σ H o i v ov iv u Q I ro ri rv z
def fPut (i : Nat) (fk fv : EF) : SF := fun ρ => match ρ[i]? with
  | some (some (true, d)) => Res.ofR ρ (fun v => Res.ofR ρ (fun k => match putO d k.2 v.2 with
    | some d' => .nx (ρ.set i (some (true, d')))
    | none => .stuck) (fk ρ)) (fv ρ)
  | _ => .stuck
theorem putO_run {g : G} {H : Hp} {ow : List Addr} {a : Addr} {d k v d' : D} {y u : V} {Q : Hp → Prop} (n : Own g H ow a d) (ha : a ∈ ow) (rk : Rp g (hide H ow) y k) (rv : Rp g (hide H ow) u v) (h : putO d k v = some d') (q : ∀ o, Own g (upd H a o) ow a d' → Q (upd H a o)) :
    rSetL (.ref a) y u H Q ∨ rSetD (.ref a) y u H Q := by
  have hs : ∀ o, hide (upd H a o) ow = hide H ow := fun o => hide_upd ha
  cases d with
  | dct l =>
    obtain ⟨kvs, e, r⟩ := n
    have h : (match kD k with
      | some key => if l.length < sizeLine then some (D.dct (storeK l key v)) else none
      | none => none) = some d' := h
    split at h
    · rename_i key hk
      split at h
      · rename_i hl
        cases h
        rw [kD_bear rk hk]
        exact .inr ⟨a, _, rfl, DPut.k e (by rw [r.length]; exact hl), q _ ⟨_, upd_same, by rw [hs]; exact r.put rv⟩⟩
      · cases h
    · cases h
  | dcT l =>
    obtain ⟨kvs, e, r⟩ := n
    have h : (match tD k with
      | some key => if l.length < sizeLine then some (D.dcT (storeT l key v)) else none
      | none => none) = some d' := h
    split at h
    · rename_i key hk
      split at h
      · rename_i hl
        cases h
        cases rk with
        | @tup b xs es hb rb =>
          have ek := kTs_bear rb hk
          subst ek
          have hb := hide_same _ _ _ _ hb
          exact .inr ⟨a, _, rfl, DPut.t e hb (by rw [r.length]; exact hl), q _ ⟨_, upd_same, by rw [hs]; exact r.put rv⟩⟩
        | _ => cases hk
      · cases h
    · cases h
  | lst l =>
    obtain ⟨xs, e, r⟩ := n
    cases k with
    | int i =>
      have h : (ixN l.length i).map (fun j => D.lst (l.set j v)) = some d' := h
      cases hj : ixN l.length i with
      | none => rw [hj] at h; cases h
      | some j =>
        rw [hj] at h
        cases h
        exact .inl ⟨a, xs, i, j, rfl, rk.int_, e, by rw [r.length]; exact hj, q _ ⟨_, upd_same, by rw [hs]; exact r.set rv j⟩⟩
    | _ => cases h
  | _ => cases h
section
variable {X : Cx} {W : WX} {pos p p' : Pos} {e ke : Expr} {fk fv : EF} {x : Str}
theorem fs_put (i : Nat) (hu : X.A.units + 64 < cLine) (hv : FE X W e fv) (hk : FE X W ke fk) (hN : X.N[i]? = some x := by rfl) (hvi : Vis X.env.scope x := by first | exact Or.inl rfl | exact Or.inr (Or.inl rfl) | exact Or.inr (Or.inr rfl)) (hd : (x == ("__debug__" : Str)) = false := by decide)
    (hcd : (x == ("__classdict__" : Str)) = false := by decide)
    (ha : ∀ v, assign (.Subscript (.Name x p) ke p') X.env v = (do
      let ov ← holding [v] (eval (.Name x p) X.env)
      let iv ← holding [v, ov] (eval ke X.env)
      standAt p'
      holding [v, ov, iv] (setItem ov iv v)
      release [v, ov, iv] []) := by intro _; rfl)
    (hs : swapsWithSole [.Subscript (.Name x p) ke p'] e pos.line X.env = pure false := by rfl) (hw : swappedStores [.Subscript (.Name x p) ke p'] e X.env = pure none := by rfl)
    (h1 : (assignEach [.Subscript (.Name x p) ke p'] X.env).map (·.2) = [assign (.Subscript (.Name x p) ke p') X.env] := by rfl) : FS X W (.Assign [.Subscript (.Name x p) ke p'] e pos) (fPut i fk fv) :=
  fs_of (ps_asg hv (pg_sub (pe_var hN hvi hd hcd) hk (PSet.or set_list (set_dict (by omega))) ha) hs hw h1) fun ρ ow σ H B H0 ow0 D0 S m => by
    unfold fPut at m
    split at m
    · rename_i d hi
      refine ⟨ρ, ow, S.env, outOf S m fun y u H1 e1 r1 m1 => ?_⟩
      have S1 := S.keep e1
      obtain ⟨a, q1, q2, q3⟩ := S1.env.own i d hi
      refine ⟨_, q1, ρ, ow, S1.env, outOf S1 m1 fun z w H2 e2 r2 m2 => ?_⟩
      have S2 := S1.keep e2
      split at m2
      · rename_i d' hp
        exact putO_run (q3.mono e2 fun _ z => .inl z) q2 (r2.give S1.env.live) ((r1.give S.env.live).mono (hide_mono e2 fun _ z => .inl z)) hp fun o n => m2 _ _ _ (S2.change hi q1 n)
      · exact m2.elim
    · exact m.elim
end
end Fv

namespace Fv
open PySem L2

/-! ## reckoning with the mirrors -/
@[simp] theorem r_bind {α β : Type} (a : α) (f : α → R β) : (R.ok a >>= f) = f a := (rfl)
@[simp] theorem r_bindS {α β : Type} (f : α → R β) : ((R.stuck : R α) >>= f) = .stuck := (rfl)
@[simp] theorem r_bindX {α β : Type} (c : Str) (fs : List (Str × D)) (f : α → R β) : ((R.exc c fs : R α) >>= f) = .exc c fs := (rfl)
@[simp] theorem bind_nx (ρ : Env) (k : SF) : (Res.nx ρ).bind k = k ρ := (rfl)
@[simp] theorem bind_ret (x : Bool × D) (k : SF) : (Res.ret x).bind k = .ret x := (rfl)
@[simp] theorem bind_brk (ρ : Env) (k : SF) : (Res.brk ρ).bind k = .brk ρ := (rfl)
@[simp] theorem bind_ct (ρ : Env) (k : SF) : (Res.ct ρ).bind k = .ct ρ := (rfl)
@[simp] theorem bind_stuck (k : SF) : (Res.stuck).bind k = .stuck := (rfl)
@[simp] theorem bind_exc (c : Str) (fs : List (Str × D)) (ρ : Env) (k : SF) : (Res.exc c fs ρ).bind k = .exc c fs ρ := (rfl)
@[simp] theorem fSeq_e (s u : SF) (ρ : Env) : fSeq s u ρ = (s ρ).bind u := (rfl)
@[simp] theorem fSkip_e (ρ : Env) : fSkip ρ = .nx ρ := (rfl)
@[simp] theorem ofR_ok {α : Type} (ρ : Env) (k : α → Res) (a : α) : Res.ofR ρ k (.ok a) = k a := (rfl)
@[simp] theorem ofR_exc {α : Type} (ρ : Env) (k : α → Res) (c : Str) (fs : List (Str × D)) : Res.ofR ρ k (.exc c fs) = .exc c fs ρ := (rfl)
@[simp] theorem ofR_stuck {α : Type} (ρ : Env) (k : α → Res) : Res.ofR ρ k .stuck = .stuck := (rfl)
@[simp] theorem fSet_e (i : Nat) (f : EF) (ρ : Env) : fSet i f ρ = Res.ofR ρ (fun x => .nx (ρ.set i (some x))) (f ρ) := (rfl)
@[simp] theorem fSetS_e (i : Nat) (f : EF) (ρ : Env) : fSetS i f ρ = Res.ofR ρ (fun x => .nx (ρ.set i (some (false, x.2)))) (f ρ) := (rfl)
@[simp] theorem fRet_e (f : EF) (ρ : Env) : fRet f ρ = Res.ofR ρ (fun x => .ret x) (f ρ) := (rfl)
@[simp] theorem fIfS_e (t : TF) (s u : SF) (ρ : Env) : fIfS t s u ρ = Res.ofR ρ (fun c => if c = true then s ρ else u ρ) (t ρ) := (rfl)
@[simp] theorem fFor_e (fi : IF) (gf : GF) (fb : SF) (ρ : Env) : fFor fi gf fb ρ = Res.ofR ρ (fun ds => forL gf fb ds ρ) (fi ρ) := (rfl)
@[simp] theorem fFrz_e (i : Nat) (s : SF) (ρ : Env) : fFrz i s ρ = s (frz i ρ) := (rfl)
@[simp] theorem fDropM_e (fm : MF) (ρ : Env) : fDropM fm ρ = Res.ofR ρ (fun y => .nx y.2) (fm ρ) := (rfl)
@[simp] theorem fSetM_e (j : Nat) (fm : MF) (ρ : Env) : fSetM j fm ρ = Res.ofR ρ (fun y => .nx (y.2.set j (some (false, y.1)))) (fm ρ) := (rfl)
@[simp] theorem fAsg_e (gf : GF) (f : EF) (ρ : Env) : fAsg gf f ρ = Res.ofR ρ (fun x => match gf x.2 ρ with
  | some ρ' => .nx ρ'
  | none => .stuck) (f ρ) := (rfl)
@[simp] theorem fVar_0 (d : D) (ρ : Env) : fVar 0 (some (false, d) :: ρ) = sh d := (rfl)
@[simp] theorem fVar_s (n : Nat) (a : Slot) (ρ : Env) : fVar (n + 1) (a :: ρ) = fVar n ρ := (rfl)
@[simp] theorem fC_e (d : D) (ρ : Env) : fC d ρ = sh d := (rfl)
@[simp] theorem fOp_e (o : D → D → R (Bool × D)) (fa fb : EF) (ρ : Env) : fOp o fa fb ρ = (fa ρ >>= fun x => fb ρ >>= fun y => o x.2 y.2) := (rfl)
@[simp] theorem fUn_e (o : D → R (Bool × D)) (fa : EF) (ρ : Env) : fUn o fa ρ = (fa ρ >>= fun x => o x.2) := (rfl)
@[simp] theorem fNil_e (ρ : Env) : fNil ρ = .ok [] := (rfl)
@[simp] theorem fCons_e (f : EF) (u : AF) (ρ : Env) : fCons f u ρ = (f ρ >>= fun x => u ρ >>= fun xs => .ok (x.2 :: xs)) := (rfl)
@[simp] theorem fTup_e (u : AF) (ρ : Env) : fTup u ρ = (u ρ >>= fun ds => if small ds = true then sh (.tup ds) else .stuck) := (rfl)
@[simp] theorem fLst_e (u : AF) (ρ : Env) : fLst u ρ = (u ρ >>= fun ds => if small ds = true then nw (.lst ds) else .stuck) := (rfl)
@[simp] theorem fApp_e (o : List D → R (Bool × D)) (u : AF) (ρ : Env) : fApp o u ρ = (u ρ >>= fun ds => o ds) := (rfl)
@[simp] theorem fBor_e (f : EF) (ρ : Env) : fBor f ρ = (f (frzAll ρ) >>= fun x => if scal x.2 = true then sh x.2 else .stuck) := (rfl)
@[simp] theorem fBorT_e (t : TF) (ρ : Env) : fBorT t ρ = t (frzAll ρ) := (rfl)
@[simp] theorem frzAll_nil : frzAll [] = [] := (rfl)
@[simp] theorem frzAll_some (b : Bool) (d : D) (ρ : Env) : frzAll (some (b, d) :: ρ) = some (false, d) :: frzAll ρ := (rfl)
@[simp] theorem frzAll_none (ρ : Env) : frzAll (none :: ρ) = none :: frzAll ρ := (rfl)
@[simp] theorem frz_0 (b : Bool) (d : D) (ρ : Env) : frz 0 (some (b, d) :: ρ) = some (false, d) :: ρ := (rfl)
@[simp] theorem frz_s (n : Nat) (a : Slot) (ρ : Env) : frz (n + 1) (a :: ρ) = a :: frz n ρ := (rfl)
@[simp] theorem fTst_e (f : EF) (ρ : Env) : fTst f ρ = (f ρ >>= fun x => match x.2 with
  | .bl c => .ok c
  | _ => .stuck) := (rfl)
@[simp] theorem fAndT_e (f u : TF) (ρ : Env) : fAndT f u ρ = (f ρ >>= fun c => if c = true then u ρ else .ok false) := (rfl)
@[simp] theorem fOrT_e (f u : TF) (ρ : Env) : fOrT f u ρ = (f ρ >>= fun c => if c = true then .ok true else u ρ) := (rfl)
@[simp] theorem fNotT_e (f : TF) (ρ : Env) : fNotT f ρ = (f ρ >>= fun c => .ok (!c)) := (rfl)
@[simp] theorem fYes_e (ρ : Env) : fYes ρ = .ok true := (rfl)
@[simp] theorem fTru_e (f : EF) (ρ : Env) : fTru f ρ = (f ρ >>= fun x => truD x.2) := (rfl)
@[simp] theorem iSeq_e (f : EF) (ρ : Env) : iSeq f ρ = (f ρ >>= fun x => seqD x.2) := (rfl)
@[simp] theorem seqD_l (l : List D) : seqD (.lst l) = .ok l := (rfl)
@[simp] theorem seqD_t (l : List D) : seqD (.tup l) = .ok l := (rfl)
@[simp] theorem seqD_a (l : List D) : seqD (.arg l) = .ok l := (rfl)
@[simp] theorem iRange1_e (u : AF) (ρ : Env) : iRange1 u ρ = (u ρ >>= fun ds => match ds with
  | [.int j] => if ints62 j = true then .ok (rangeD 0 j) else .stuck
  | _ => .stuck) := (rfl)
@[simp] theorem iRange2_e (u : AF) (ρ : Env) : iRange2 u ρ = (u ρ >>= fun ds => match ds with
  | [.int i, .int j] => if (ints62 i && ints62 j) = true then .ok (rangeD i j) else .stuck
  | _ => .stuck) := (rfl)
@[simp] theorem addD_i (i j : Int) : addD (.int i) (.int j) = sh (.int (i + j)) := (rfl)
@[simp] theorem subD_i (i j : Int) : subD (.int i) (.int j) = sh (.int (i - j)) := (rfl)
@[simp] theorem mulD_i (i j : Int) : mulD (.int i) (.int j) = if cMul i j = true then sh (.int (i * j)) else .stuck := (rfl)
@[simp] theorem modD_i (i j : Int) : modD (.int i) (.int j) = if decide (j ≠ 0) = true then sh (.int (i.fmod j)) else .stuck := (rfl)
@[simp] theorem fdivD_i (i j : Int) : fdivD (.int i) (.int j) = if cDiv i j = true then sh (.int (i.fdiv j)) else .stuck := (rfl)
@[simp] theorem powD_i (i j : Int) : powD (.int i) (.int j) = if cPow i j = true then sh (.int (i ^ j.toNat)) else .stuck := (rfl)
@[simp] theorem ltD_i (i j : Int) : ltD (.int i) (.int j) = sh (.bl (decide (i < j))) := (rfl)
@[simp] theorem leD_i (i j : Int) : leD (.int i) (.int j) = sh (.bl (decide (i ≤ j))) := (rfl)
@[simp] theorem gtD_i (i j : Int) : gtD (.int i) (.int j) = sh (.bl (decide (j < i))) := (rfl)
@[simp] theorem geD_i (i j : Int) : geD (.int i) (.int j) = sh (.bl (decide (j ≤ i))) := (rfl)
@[simp] theorem negD_i (i : Int) : negD (.int i) = sh (.int (-i)) := (rfl)
@[simp] theorem absFn_i (i : Int) : absFn [.int i] = sh (.int (if i < 0 then -i else i)) := (rfl)
@[simp] theorem intFn_i (i : Int) : intFn [.int i] = sh (.int i) := (rfl)
@[simp] theorem maxFn_i (i j : Int) : maxFn [.int i, .int j] = sh (.int (if j > i then j else i)) := (rfl)
@[simp] theorem minFn_i (i j : Int) : minFn [.int i, .int j] = sh (.int (if j < i then j else i)) := (rfl)
@[simp] theorem lenD_l (l : List D) : lenD [.lst l] = sh (.int l.length) := (rfl)
@[simp] theorem lenD_a (l : List D) : lenD [.arg l] = sh (.int l.length) := (rfl)
@[simp] theorem lenD_t (l : List D) : lenD [.tup l] = sh (.int l.length) := (rfl)
@[simp] theorem tupleFn_l (l : List D) : tupleFn [.lst l] = sh (.tup l) := (rfl)
@[simp] theorem tupleFn_t (l : List D) : tupleFn [.tup l] = sh (.tup l) := (rfl)
@[simp] theorem listFn_l (l : List D) : listFn [.lst l] = nw (.lst l) := (rfl)
@[simp] theorem listFn_t (l : List D) : listFn [.tup l] = nw (.lst l) := (rfl)
@[simp] theorem ixD_l (l : List D) (i : Int) : ixD (.lst l) (.int i) = ofO (atI l i) := (rfl)
@[simp] theorem ixD_t (l : List D) (i : Int) : ixD (.tup l) (.int i) = ofO (atI l i) := (rfl)
@[simp] theorem lenA_l (l : List D) : lenA [.lst l] = sh (.int l.length) := (rfl)
@[simp] theorem lenA_a (l : List D) : lenA [.arg l] = sh (.int l.length) := (rfl)
@[simp] theorem lenA_t (l : List D) : lenA [.tup l] = sh (.int l.length) := (rfl)
@[simp] theorem lenA_d (l : List (D × D)) : lenA [.dct l] = sh (.int l.length) := (rfl)
@[simp] theorem lenA_dT (l : List (D × D)) : lenA [.dcT l] = sh (.int l.length) := (rfl)
@[simp] theorem listA_l (l : List D) : listA [.lst l] = nw (.lst l) := (rfl)
@[simp] theorem listA_t (l : List D) : listA [.tup l] = nw (.lst l) := (rfl)
@[simp] theorem listA_d (l : List (D × D)) : listA [.dct l] = nw (.lst (l.map (·.1))) := (rfl)
@[simp] theorem ixA_l (l : List D) (i : Int) : ixA (.lst l) (.int i) = ofO (atI l i) := (rfl)
@[simp] theorem ixA_t (l : List D) (i : Int) : ixA (.tup l) (.int i) = ofO (atI l i) := (rfl)
@[simp] theorem ixA_di (l : List (D × D)) (i : Int) : ixA (.dct l) (.int i) = (match findK l (.inl i) with
  | some d => sh d
  | none => .stuck) := by
  show (match some (findK l (.inl i)) with
    | some (some d) => sh d
    | some none => .stuck
    | none => ixD (.dct l) (.int i)) = _
  cases findK l (.inl i) <;> rfl
@[simp] theorem ixA_ds (l : List (D × D)) (i : Str) : ixA (.dct l) (.str i) = (match findK l (.inr i) with
  | some d => sh d
  | none => .stuck) := by
  show (match some (findK l (.inr i)) with
    | some (some d) => sh d
    | some none => .stuck
    | none => ixD (.dct l) (.str i)) = _
  cases findK l (.inr i) <;> rfl
@[simp] theorem ofO_s (d : D) : ofO (some d) = sh d := (rfl)
@[simp] theorem scal_i (i : Int) : scal (.int i) = true := (rfl)
@[simp] theorem scal_b (i : Bool) : scal (.bl i) = true := (rfl)
@[simp] theorem scal_s (i : Str) : scal (.str i) = true := (rfl)
@[simp] theorem scal_n : scal .non = true := (rfl)
@[simp] theorem mLift_e (f : EF) (ρ : Env) : mLift f ρ = (f ρ >>= fun x => .ok (x.2, ρ)) := (rfl)
@[simp] theorem ownL_0 (l : List D) (ρ : Env) : ownL (some (true, .lst l) :: ρ) 0 = some l := (rfl)
@[simp] theorem ownL_s (n : Nat) (a : Slot) (ρ : Env) : ownL (a :: ρ) (n + 1) = ownL ρ n := (rfl)
@[simp] theorem mMeth_e (i : Nat) (o : LM) (fm : MF) (ρ : Env) : mMeth i o fm ρ = match ownL ρ i with
  | some _ => fm ρ >>= fun y => match ownL y.2 i with
    | some l => match o l [y.1] with
      | some (z, l') => .ok (z, y.2.set i (some (true, .lst l')))
      | none => .stuck
    | none => .stuck
  | none => .stuck := (rfl)
@[simp] theorem opAppend_e (l : List D) (x : D) : opAppend l [x] = if l.length < sizeLine then some (.non, l ++ [x]) else none := (rfl)
@[simp] theorem gNm_e (i : Nat) (d : D) (ρ : Env) : gNm i d ρ = some (ρ.set i (some (false, d))) := (rfl)
@[simp] theorem gTp_e (n : Nat) (b : GFs) (l : List D) (ρ : Env) : gTp n b (.tup l) ρ = if l.length = n then b l ρ else none := (rfl)
@[simp] theorem gsCons_e (a : GF) (b : GFs) (d : D) (r : List D) (ρ : Env) : gsCons a b (d :: r) ρ = (a d ρ).bind fun ρ' => b r ρ' := (rfl)
@[simp] theorem gsNil_e (ρ : Env) : gsNil [] ρ = some ρ := (rfl)
@[simp] theorem wipeE_nil (ρ : Env) : wipeE ρ [] = ρ := (rfl)
@[simp] theorem wipeE_cons (v : Nat) (vs : List Nat) (ρ : Env) : wipeE ρ (v :: vs) = (wipeE ρ vs).set v none := (rfl)
@[simp] theorem fLc_e (fi : IF) (gf : GF) (ft : TF) (fe : EF) (vs : List Nat) (ρ : Env) : fLc fi gf ft fe vs ρ = (fi ρ >>= fun ds => if small ds = true then (lcL gf ft fe (wipeE ρ vs) ds >>= fun r => nw (.lst r)) else .stuck) := (rfl)
@[simp] theorem oNone_e (ρ : Env) : oNone ρ = .ok none := (rfl)
@[simp] theorem oSome_e (f : EF) (ρ : Env) : oSome f ρ = (f ρ >>= fun x => match x.2 with
  | .int i => .ok (some i)
  | _ => .stuck) := (rfl)
@[simp] theorem fSlice_e (f : EF) (lo hi : OF) (ρ : Env) : fSlice f lo hi ρ = (f ρ >>= fun x => lo ρ >>= fun a => hi ρ >>= fun b => sliceD x.2 a b) := (rfl)
@[simp] theorem sliceD_l (l : List D) (lo hi : Option Int) : sliceD (.lst l) lo hi = nw (.lst (cutD l lo hi)) := (rfl)
@[simp] theorem sliceD_a (l : List D) (lo hi : Option Int) : sliceD (.arg l) lo hi = nw (.lst (cutD l lo hi)) := (rfl)
@[simp] theorem sliceD_t (l : List D) (lo hi : Option Int) : sliceD (.tup l) lo hi = sh (.tup (cutD l lo hi)) := (rfl)
theorem small_of {α : Type} {l : List α} (h : l.length ≤ 16777216) : small l = true := by
  unfold small
  rw [sizeLine_eq]
  exact decide_eq_true h
@[simp] theorem small_nil {α : Type} : small ([] : List α) = true := small_of (by simp)
@[simp] theorem small_1 {α : Type} (a : α) : small [a] = true := small_of (Nat.le_of_ble_eq_true rfl)
@[simp] theorem small_2 {α : Type} (a b : α) : small [a, b] = true := small_of (Nat.le_of_ble_eq_true rfl)
@[simp] theorem small_3 {α : Type} (a b c : α) : small [a, b, c] = true := small_of (Nat.le_of_ble_eq_true rfl)
@[simp] theorem small_4 {α : Type} (a b c d : α) : small [a, b, c, d] = true := small_of (Nat.le_of_ble_eq_true rfl)
@[simp] theorem small_5 {α : Type} (a b c d e : α) : small [a, b, c, d, e] = true := small_of (Nat.le_of_ble_eq_true rfl)
@[simp] theorem small_6 {α : Type} (a b c d e f : α) : small [a, b, c, d, e, f] = true := small_of (Nat.le_of_ble_eq_true rfl)
@[simp] theorem small_7 {α : Type} (a b c d e f g : α) : small [a, b, c, d, e, f, g] = true := small_of (Nat.le_of_ble_eq_true rfl)
@[simp] theorem small_8 {α : Type} (a b c d e f g h : α) : small [a, b, c, d, e, f, g, h] = true := small_of (Nat.le_of_ble_eq_true rfl)
theorem ints62_of' {j : Int} (h1 : -4611686018427387904 ≤ j) (h2 : j < 4611686018427387904) : ints62 j = true := by
  unfold ints62
  simp only [Bool.and_eq_true, decide_eq_true_eq]
  exact ⟨by omega, by omega⟩

/-! ### loops -/
/-- a block goes on, with P behind it -/
def GoesD (r : Res) (P : Env → Prop) : Prop := match r with
  | .nx ρ => P ρ
  | .ct ρ => P ρ
  | _ => False
structure Goes (r : Res) (P : Env → Prop) : Prop where
  out : GoesD r P
@[simp] theorem goes_nx (ρ : Env) (P : Env → Prop) : Goes (.nx ρ) P = P ρ := propext ⟨fun h => h.out, fun h => ⟨h⟩⟩
@[simp] theorem goes_ct (ρ : Env) (P : Env → Prop) : Goes (.ct ρ) P = P ρ := propext ⟨fun h => h.out, fun h => ⟨h⟩⟩
structure TurnO (fb : SF) (o : Option Env) (P : Env → Prop) : Prop where
  out : ∃ ρ, o = some ρ ∧ Goes (fb ρ) P
@[simp] theorem turnO_e (fb : SF) (ρ : Env) (P : Env → Prop) : TurnO fb (some ρ) P = Goes (fb ρ) P := propext ⟨fun ⟨_, e, h⟩ => by cases e; exact h, fun h => ⟨_, rfl, h⟩⟩
def Turn1 (gf : GF) (fb : SF) (d : D) (ρ : Env) (P : Env → Prop) : Prop := TurnO fb (gf d ρ) P
@[simp] theorem turn1_e (gf : GF) (fb : SF) (d : D) (ρ : Env) (P : Env → Prop) : Turn1 gf fb d ρ P = TurnO fb (gf d ρ) P := (rfl)
theorem forL_inv {α : Type} {gf : GF} {fb : SF} (enc : α → D) (P : List α → Env → Prop) : ∀ (l pre : List α) (ρ : Env), P pre ρ →
    (∀ pre' a post, pre ++ l = pre' ++ a :: post → ∀ ρ, P pre' ρ → Turn1 gf fb (enc a) ρ (P (pre' ++ [a]))) →
    ∃ ρ', forL gf fb (l.map enc) ρ = .nx ρ' ∧ P (pre ++ l) ρ'
  | [], pre, ρ, h, _ => ⟨ρ, rfl, by rw [List.append_nil]; exact h⟩
  | a :: l, pre, ρ, h, st => by
    have h1 := st pre a l rfl ρ h
    have go : ∀ ρ2, P (pre ++ [a]) ρ2 → ∃ ρ', forL gf fb (l.map enc) ρ2 = .nx ρ' ∧ P (pre ++ a :: l) ρ' := fun ρ2 h3 => by
      obtain ⟨ρ', h4, h5⟩ := forL_inv enc P l (pre ++ [a]) ρ2 h3 fun pre' b post e => st pre' b post (by rw [← e]; simp)
      exact ⟨ρ', h4, by simpa using h5⟩
    obtain ⟨ρ1, q, h1⟩ := h1
    replace h1 := h1.out
    rw [List.map_cons]
    unfold forL
    rw [q]
    · simp only []
      revert h1
      cases fb ρ1 with
      | nx ρ2 => exact fun h1 => go ρ2 h1
      | ct ρ2 => exact fun h1 => go ρ2 h1
      | brk _ => exact fun h1 => False.elim h1
      | ret _ => exact fun h1 => False.elim h1
      | exc _ _ _ => exact fun h1 => False.elim h1
      | stuck => exact fun h1 => False.elim h1
/-- a for by what holds of the part gone through -/
theorem forL_post {α : Type} {gf : GF} {fb k : SF} {Q : Res → Prop} {enc : α → D} {l : List α} {ρ : Env} (P : List α → Env → Prop) (h0 : P [] ρ) (st : ∀ pre a post, l = pre ++ a :: post → ∀ ρ, P pre ρ → Turn1 gf fb (enc a) ρ (P (pre ++ [a])))
    (done : ∀ ρ', P l ρ' → Q (k ρ')) : Q ((forL gf fb (l.map enc) ρ).bind k) := by
  obtain ⟨ρ', h1, h2⟩ := forL_inv enc P l [] ρ h0 st
  rw [h1]
  exact done ρ' h2
theorem forL_post1 {α : Type} {gf : GF} {fb : SF} {Q : Res → Prop} {enc : α → D} {l : List α} {ρ : Env} (P : List α → Env → Prop) (h0 : P [] ρ) (st : ∀ pre a post, l = pre ++ a :: post → ∀ ρ, P pre ρ → Turn1 gf fb (enc a) ρ (P (pre ++ [a])))
    (done : ∀ ρ', P l ρ' → Q (.nx ρ')) : Q (forL gf fb (l.map enc) ρ) := by
  obtain ⟨ρ', h1, h2⟩ := forL_inv enc P l [] ρ h0 st
  rw [h1]
  exact done ρ' h2
theorem while_post {t : TF} {fb k : SF} {Q : Res → Prop} {n : Nat} {ρ : Env} (P : Env → Prop) (μ : Env → Nat) (h0 : P ρ) (hm : μ ρ < n) (st : ∀ ρ, P ρ → ∃ c, t ρ = .ok c ∧ (c = true → Goes (fb ρ) fun ρ2 => P ρ2 ∧ μ ρ2 < μ ρ))
    (done : ∀ ρ', P ρ' → t ρ' = .ok false → Q (k ρ')) : Q ((whileF t fb n ρ).bind k) := by
  have go : ∀ (n : Nat) (ρ : Env), P ρ → μ ρ < n → ∃ ρ', whileF t fb n ρ = .nx ρ' ∧ P ρ' ∧ t ρ' = .ok false := by
    intro n
    induction n with
    | zero => exact fun _ _ h => absurd h (Nat.not_lt_zero _)
    | succ n ih =>
      intro ρ h hm
      obtain ⟨c, h1, h2⟩ := st ρ h
      unfold whileF
      rw [h1]
      cases c with
      | false => exact ⟨ρ, rfl, h, h1⟩
      | true =>
        have h3 := (h2 rfl).out
        show ∃ ρ', (match fb ρ with
          | .nx ρ2 => whileF t fb n ρ2
          | .ct ρ2 => whileF t fb n ρ2
          | .brk ρ2 => .nx ρ2
          | r => r) = .nx ρ' ∧ _
        revert h3
        cases fb ρ with
        | nx ρ2 => exact fun h3 => ih ρ2 h3.1 (by have := h3.2; omega)
        | ct ρ2 => exact fun h3 => ih ρ2 h3.1 (by have := h3.2; omega)
        | brk _ => exact fun h1 => False.elim h1
        | ret _ => exact fun h1 => False.elim h1
        | exc _ _ _ => exact fun h1 => False.elim h1
        | stuck => exact fun h1 => False.elim h1
  obtain ⟨ρ', h1, h2, h3⟩ := go n ρ h0 hm
  rw [h1]
  exact done ρ' h2 h3
theorem lcL_map {α : Type} {gf : GF} {ft : TF} {fe : EF} {ρ : Env} (enc h : α → D) : ∀ l : List α, (∀ a ∈ l, ∃ ρ1 b, gf (enc a) ρ = some ρ1 ∧ ft ρ1 = .ok true ∧ fe ρ1 = .ok (b, h a)) → lcL gf ft fe ρ (l.map enc) = .ok (l.map h)
  | [], _ => rfl
  | a :: l, st => by
    obtain ⟨ρ1, b, h1, h2, h3⟩ := st a List.mem_cons_self
    rw [List.map_cons]
    unfold lcL
    rw [h1]
    show (noX (ft ρ1) >>= _) = _
    rw [h2]
    show (noX (fe ρ1) >>= _) = _
    rw [h3]
    show (lcL gf ft fe ρ (l.map enc) >>= _) = _
    rw [lcL_map enc h l fun a z => st a (List.mem_cons_of_mem _ z)]
    rfl
theorem lcL_filter {α : Type} {gf : GF} {ft : TF} {fe : EF} {ρ : Env} (enc h : α → D) (p : α → Bool) : ∀ l : List α, (∀ a ∈ l, ∃ ρ1 b, gf (enc a) ρ = some ρ1 ∧ ft ρ1 = .ok (p a) ∧ (p a = true → fe ρ1 = .ok (b, h a))) → lcL gf ft fe ρ (l.map enc) = .ok ((l.filter p).map h)
  | [], _ => rfl
  | a :: l, st => by
    obtain ⟨ρ1, b, h1, h2, h3⟩ := st a List.mem_cons_self
    rw [List.map_cons]
    unfold lcL
    rw [h1]
    show (noX (ft ρ1) >>= _) = _
    rw [h2]
    cases q : p a with
    | true =>
      show (noX (fe ρ1) >>= _) = _
      rw [h3 q]
      show (lcL gf ft fe ρ (l.map enc) >>= _) = _
      rw [lcL_filter enc h p l fun a z => st a (List.mem_cons_of_mem _ z), List.filter_cons_of_pos q]
      rfl
    | false =>
      show lcL gf ft fe ρ (l.map enc) = _
      rw [lcL_filter enc h p l fun a z => st a (List.mem_cons_of_mem _ z), List.filter_cons_of_neg (by rw [q]; simp)]
theorem atI_map {α : Type} (f : α → D) (l : List α) (i : Int) : atI (l.map f) i = (atI l i).map f := by
  unfold atI
  rw [List.length_map]
  cases ixN l.length i with
  | none => rfl
  | some j => simp
theorem atI_ok {α : Type} {l : List α} {i : Int} (h0 : 0 ≤ i) (h1 : i < l.length) : atI l i = some (l[i.toNat]'(by omega)) := by
  unfold atI ixN
  rw [if_pos h0, if_pos h1]
  simp
end Fv
namespace Fv
open PySem L2
def RetD (Q : R (Bool × D) → Prop) (r : Res) : Prop := match r with
  | .ret x => Q (.ok x)
  | .nx _ => Q (sh .non)
  | .exc c fs _ => Q (.exc c fs)
  | _ => Q .stuck
structure RetQ (Q : R (Bool × D) → Prop) (r : Res) : Prop where
  out : RetD Q r
@[simp] theorem retQ_ret (Q : R (Bool × D) → Prop) (x : Bool × D) : RetQ Q (.ret x) = Q (.ok x) := propext ⟨fun h => h.out, fun h => ⟨h⟩⟩
@[simp] theorem retQ_nx (Q : R (Bool × D) → Prop) (ρ : Env) : RetQ Q (.nx ρ) = Q (sh .non) := propext ⟨fun h => h.out, fun h => ⟨h⟩⟩
@[simp] theorem retQ_exc (Q : R (Bool × D) → Prop) (c : Str) (fs : List (Str × D)) (ρ : Env) : RetQ Q (.exc c fs ρ) = Q (.exc c fs) := propext ⟨fun h => h.out, fun h => ⟨h⟩⟩
theorem runD_post {n m : Nat} {fs : SF} {ds : List D} {Q : R (Bool × D) → Prop} (hl : ds.length = m) (h : RetQ Q (fs (ds.map (fun d => some (false, d)) ++ List.replicate (n - m) none))) : Q (runD n m fs ds) := by
  unfold runD
  rw [if_pos hl]
  replace h := h.out
  revert h
  cases fs (ds.map (fun d => some (false, d)) ++ List.replicate (n - m) none) <;> exact fun h => h
@[simp] theorem fRetO_0 (x : Bool × D) (ρ : Env) : fRetO 0 (some x :: ρ) = .ret x := (rfl)
theorem fRetO_e (i : Nat) (ρ : Env) : fRetO i ρ = match ρ[i]? with
  | some (some x) => .ret x
  | _ => .stuck := rfl
end Fv

namespace Fv
open PySem L2

/-! ## the law's own numbers -/
abbrev N_law_row : List Str := ["_law_cell", "_law_many", "_law_row_here", "_law_rest", "_law_mixed", "_law_k"]
abbrev P_law_row : List Str := ["_law_cell", "_law_many"]
def m_law_row_b1 : SF :=
  (fSeq (fSetS 4 (fOp modD (fApp intFn (fCons (fOp addD (fOp mulD (fVar 4) (fC (.int 16807))) (fOp mulD (fC (.int 271)) (fOp addD (fVar 5) (fC (.int 3))))) fNil)) (fC (.int 2147483629))))
    (fIfS (fBorT (fTst (fOp geD (fApp absFn (fCons (fVar 0) fNil)) (fOp powD (fC (.int 10)) (fC (.int 18)))))) (fSeq (fDropM (mMeth 2 opAppend (mLift (fOp modD (fApp intFn (fCons (fVar 3) fNil)) (fC (.int 1009))))))
    (fSetS 3 (fOp fdivD (fVar 3) (fC (.int 1009))))) (fDropM (mMeth 2 opAppend (mLift (fOp modD (fApp intFn (fCons (fOp fdivD (fVar 4) (fC (.int 7))) fNil)) (fC (.int 1009))))))))
def m_law_row : SF :=
  (fSeq (fSet 2 (fLst fNil))
    (fSeq (fSetS 3 (fApp absFn (fCons (fVar 0) fNil)))
    (fSeq (fSetS 4 (fOp modD (fApp intFn (fCons (fOp addD (fOp mulD (fVar 3) (fC (.int 48271))) (fC (.int 69621))) fNil)) (fC (.int 2147483647))))
    (fSeq (fFor (iRange1 (fCons (fVar 1) fNil)) (gNm 5) m_law_row_b1)
    (fRetO 2)))))
def F_law_row : List D → R (Bool × D) := runD 6 2 m_law_row
abbrev N_law_numbers : List Str := ["_law_script", "_law_many", "_law_cells", "_law_each", "_law_numbers_here", "_law_cell", "_law_number"]
abbrev P_law_numbers : List Str := ["_law_script", "_law_many"]
def m_law_numbers_b1 : SF :=
  (fDropM (mMeth 4 opAppend (mLift (fVar 6))))
def m_law_numbers_b2 : SF :=
  (fFor (iSeq (fApp F_law_row (fCons (fVar 5) (fCons (fVar 3) fNil)))) (gNm 6) m_law_numbers_b1)
def m_law_numbers_b3 : SF :=
  (fDropM (mMeth 4 opAppend (mLift (fC (.int 0)))))
def m_law_numbers : SF :=
  (fSeq (fSetS 2 (fSlice (fVar 0) oNone (oSome (fC (.int 63)))))
    (fSeq (fSetS 3 (fOp addD (fC (.int 1)) (fOp fdivD (fVar 1) (fApp maxFn (fCons (fC (.int 1)) (fCons (fApp lenA (fCons (fVar 2) fNil)) fNil))))))
    (fSeq (fSet 4 (fLst fNil))
    (fSeq (fFor (iSeq (fVar 2)) (gNm 5) m_law_numbers_b2)
    (fSeq (whileF (fBorT (fTst (fOp ltD (fApp lenA (fCons (fVar 4) fNil)) (fVar 1)))) m_law_numbers_b3 1000000)
    (fFrz 4 (fRet (fSlice (fVar 4) oNone (oSome (fVar 1))))))))))
def F_law_numbers : List D → R (Bool × D) := runD 7 2 m_law_numbers

def Cells (l : List Int) : Prop := ∀ x ∈ l, 0 ≤ x ∧ x < 1009
theorem Cells.nil : Cells [] := fun x h => by cases h
theorem Cells.snoc {l : List Int} {x : Int} (h : Cells l) (h0 : 0 ≤ x) (h1 : x < 1009) : Cells (l ++ [x]) := fun y hy => by
  rcases List.mem_append.mp hy with hy | hy
  · exact h y hy
  · rw [List.mem_singleton] at hy; subst hy; exact ⟨h0, h1⟩
theorem Cells.app {l m : List Int} (h : Cells l) (h1 : Cells m) : Cells (l ++ m) := fun y hy => by
  rcases List.mem_append.mp hy with hy | hy
  · exact h y hy
  · exact h1 y hy
theorem fmod_cell (i : Int) : 0 ≤ i.fmod 1009 ∧ i.fmod 1009 < 1009 := ⟨Int.fmod_nonneg_of_pos i (by decide), Int.fmod_lt_of_pos i (by decide)⟩
theorem cMul_r (i j : Int) (h1 : -(2 ^ 64) < j) (h2 : j < 2 ^ 64) : cMul i j = true := by
  unfold cMul
  rw [decide_eq_true h1, decide_eq_true h2]
  simp
theorem cMul_l (i j : Int) (h1 : -(2 ^ 64) < i) (h2 : i < 2 ^ 64) : cMul i j = true := by
  unfold cMul
  rw [decide_eq_true h1, decide_eq_true h2]
  simp
theorem lt_line {n : Nat} (h : n < 16777216) : n < sizeLine := by rw [sizeLine_eq]; exact h
theorem le_line {n : Nat} (h : n ≤ 16777216) : n ≤ sizeLine := by rw [sizeLine_eq]; exact h
def RowP (c n : Int) (k : Nat) (ρ : Env) : Prop := ∃ (l : List Int) (r mx : Int) (j : Slot), ρ = [some (false, .int c), some (false, .int n), some (true, .lst (l.map .int)), some (false, .int r), some (false, .int mx), j] ∧ l.length = k ∧ Cells l
theorem law_row_ok (c n : Int) (h0 : 0 ≤ n) (hn : n ≤ 10000) : ∃ l : List Int, F_law_row [.int c, .int n] = .ok (true, .lst (l.map .int)) ∧ (l.length : Int) = n ∧ Cells l := by
  have hr : ints62 n = true := ints62_of' (by omega) (by omega)
  have m1 : ∀ i : Int, cMul i 48271 = true := fun i => cMul_r i _ (by decide) (by decide)
  have m2 : ∀ i : Int, cMul i 16807 = true := fun i => cMul_r i _ (by decide) (by decide)
  have m3 : ∀ i : Int, cMul 271 i = true := fun i => cMul_l _ i (by decide) (by decide)
  have d1 : ∀ i : Int, cDiv i 1009 = true := fun i => by unfold cDiv; decide
  have d2 : ∀ i : Int, cDiv i 7 = true := fun i => by unfold cDiv; decide
  have p1 : cPow 10 18 = true := by decide
  unfold F_law_row
  refine runD_post (Q := fun r => ∃ l : List Int, r = .ok (true, .lst (l.map .int)) ∧ (l.length : Int) = n ∧ Cells l) rfl ?_
  simp [m_law_row, m1, hr]
  unfold rangeD
  refine forL_post (fun pre ρ => RowP c n pre.length ρ)
    ⟨[], _, _, _, rfl, rfl, Cells.nil⟩ (fun pre a post e ρ ⟨l, r, mx, k, e1, e2, e3⟩ => ?_) fun ρ ⟨l, r, mx, k, e1, e2, e3⟩ => ?_
  · have hl : l.length < sizeLine := by
      have := congrArg List.length e
      simp at this
      exact lt_line (by omega)
    subst e1
    obtain ⟨v, hv⟩ : ∃ v, (if c < 0 then -c else c) = v := ⟨_, rfl⟩
    by_cases hc : (1000000000000000000 : Int) ≤ v
    · simp [m_law_row_b1, m2, m3, p1, hl, hv, hc, d1]
      exact ⟨l ++ [r.fmod 1009], _, _, _, by simp; exact ⟨rfl, rfl, rfl⟩, by simp [e2], e3.snoc (fmod_cell _).1 (fmod_cell _).2⟩
    · simp [m_law_row_b1, m2, m3, p1, hl, hv, hc, d2]
      exact ⟨l ++ [(((mx * 16807 + 271 * ((a : Int) + 3)).fmod 2147483629).fdiv 7).fmod 1009], _, _, _, by simp; exact ⟨rfl, rfl, rfl⟩, by simp [e2], e3.snoc (fmod_cell _).1 (fmod_cell _).2⟩
  · subst e1
    refine ⟨l, rfl, ?_, e3⟩
    rw [e2]
    simp
    omega
theorem cutD_take (l : List D) (k : Nat) : cutD l none (some (k : Int)) = l.take k := by
  unfold cutD
  rw [HT.sIx_none, HT.sIx_nat]
  simp [List.take_eq_take_iff]
def NumP (ns : List Int) (many each : Int) (k : Nat) (ρ : Env) : Prop := ∃ (l : List Int) (j j' : Slot), ρ = [some (false, .arg (ns.map .int)), some (false, .int many), some (false, .lst (ns.map .int)), some (false, .int each), some (true, .lst (l.map .int)), j, j'] ∧ l.length = k ∧ Cells l
def NumW (ns : List Int) (many each : Int) (ρ : Env) : Prop := ∃ (l : List Int) (j j' : Slot), ρ = [some (false, .arg (ns.map .int)), some (false, .int many), some (false, .lst (ns.map .int)), some (false, .int each), some (true, .lst (l.map .int)), j, j'] ∧ l.length ≤ 1000000 ∧ Cells l
def lenAt4 (many : Int) (ρ : Env) : Nat := match ρ[4]? with
  | some (some (_, D.lst l)) => many.toNat - l.length
  | _ => 0
theorem Cells.take {l : List Int} (h : Cells l) (k : Nat) : Cells (l.take k) := fun x hx => h x (List.mem_of_mem_take hx)
theorem law_numbers_ok (ns : List Int) (many : Int) (hl : ns.length ≤ 63) (h0 : 0 ≤ many) (hn : many ≤ 9999) :
    ∃ l : List Int, F_law_numbers [.arg (ns.map .int), .int many] = .ok (true, .lst (l.map .int)) ∧ (l.length : Int) = many ∧ Cells l := by
  obtain ⟨mx, hmx⟩ : ∃ mx : Int, (if (ns.length : Int) > 1 then (ns.length : Int) else 1) = mx := ⟨_, rfl⟩
  have hmx1 : 1 ≤ mx ∧ mx ≤ 63 := by
    split at hmx <;> omega
  have d1 : cDiv many mx = true := by
    unfold cDiv
    simp only [Bool.and_eq_true, decide_eq_true_eq]
    omega
  obtain ⟨each, he⟩ : ∃ e : Int, 1 + many.fdiv mx = e := ⟨_, rfl⟩
  have he1 : 1 ≤ each ∧ each ≤ 10000 := by
    rw [Int.fdiv_eq_ediv_of_nonneg _ (by omega)] at he
    have h1 : 0 ≤ many / mx := Int.ediv_nonneg h0 (by omega)
    have h2 : many / mx ≤ many := Int.ediv_le_self _ h0
    omega
  have hcut : cutD (ns.map .int) none (some 63) = ns.map .int := by
    have := cutD_take (ns.map .int) 63
    rw [List.take_of_length_le (by simpa using hl)] at this
    exact this
  unfold F_law_numbers
  refine runD_post (Q := fun r => ∃ l : List Int, r = .ok (true, .lst (l.map .int)) ∧ (l.length : Int) = many ∧ Cells l) rfl ?_
  simp [m_law_numbers, hcut, hmx, d1, he]
  refine forL_post (enc := D.int) (l := ns) (fun pre ρ => NumP ns many each (pre.length * each.toNat) ρ) ⟨[], none, none, rfl, by simp, Cells.nil⟩ (fun pre a post e ρ ⟨l, j, j', e1, e2, e3⟩ => ?_) fun ρ ⟨l, j, j', e1, e2, e3⟩ => ?_
  · subst e1
    obtain ⟨row, h1, h2, h3⟩ := law_row_ok a each (by omega) (by omega)
    have hp : pre.length < ns.length := by rw [e]; simp
    have hb : l.length ≤ 63 * 10000 := by
      rw [e2]
      exact Nat.mul_le_mul (by omega) (by omega)
    simp [m_law_numbers_b2, h1]
    refine forL_post1 (Q := fun r => Goes r (NumP ns many each ((pre.length + 1) * each.toNat))) (enc := D.int) (l := row) (fun q ρ => NumP ns many each (l.length + q.length) ρ) ⟨l, _, _, rfl, rfl, e3⟩ (fun q b r e4 ρ ⟨l', i, i', e5, e6, e7⟩ => ?_) fun ρ ⟨l', i, i', e5, e6, e7⟩ => ?_
    · subst e5
      have hq : q.length < row.length := by rw [e4]; simp
      have hl' : l'.length < sizeLine := lt_line (by omega)
      have hbc : 0 ≤ b ∧ b < 1009 := h3 b (by rw [e4]; simp)
      simp [m_law_numbers_b1, hl']
      exact ⟨l' ++ [b], _, _, by simp; exact ⟨rfl, rfl⟩, by simp; omega, e7.snoc hbc.1 hbc.2⟩
    · subst e5
      refine ⟨l', _, _, rfl, ?_, e7⟩
      rw [e6, e2, Nat.add_mul]
      omega
  · subst e1
    have hb : l.length ≤ 63 * 10000 := by
      rw [e2]
      exact Nat.mul_le_mul hl (by omega)
    refine while_post (NumW ns many each) (lenAt4 many) ⟨l, j, j', rfl, by omega, e3⟩ ?_ (fun ρ ⟨l', i, i', e5, e6, e7⟩ => ?_) fun ρ ⟨l', i, i', e5, e6, e7⟩ => ?_
    · simp [lenAt4]
      omega
    · subst e5
      obtain ⟨c, hc⟩ : ∃ c, decide ((l'.length : Int) < many) = c := ⟨_, rfl⟩
      refine ⟨c, ?_, fun h => ?_⟩
      · cases i <;> cases i' <;> simp [hc]
      · subst h
        have hc := of_decide_eq_true hc
        have hl' : l'.length < sizeLine := lt_line (by omega)
        simp [m_law_numbers_b3, hl']
        refine ⟨⟨l' ++ [0], i, i', by simp, by simp; omega, e7.snoc (by omega) (by omega)⟩, ?_⟩
        simp [lenAt4]
        omega
    · subst e5
      intro h
      have hc : ¬ ((l'.length : Int) < many) := by
        cases i <;> cases i' <;> simp at h <;> omega
      have hcut2 := cutD_take (l'.map .int) many.toNat
      rw [Int.toNat_of_nonneg h0] at hcut2
      simp [hcut2]
      refine ⟨l'.take many.toNat, by rw [List.map_take], ?_, e7.take _⟩
      rw [List.length_take]
      omega
end Fv

namespace Fv
open PySem L2

/-! ## data that are shown and compared -/
def ascii (s : Str) : Prop := ∀ c ∈ s.cps.toList, c < 128
structure Fine (k w : Nat) (d : D) : Prop where
  dat : isDat d = true
  sh : d.py.showable = true
  nd : d.py.hasDict = false
  lay : d.py.canLay0 = true
  dep : d.py.depth ≤ k
  len : d.py.shown.length ≤ w
theorem Fine.mono {k k' w w' : Nat} {d : D} (h : Fine k w d) (h1 : k ≤ k') (h2 : w ≤ w') : Fine k' w' d := ⟨h.dat, h.sh, h.nd, h.lay, Nat.le_trans h.dep h1, Nat.le_trans h.len h2⟩
theorem fine_int {i : Int} (h : i.natAbs < 10 ^ 18) : Fine 0 20 (.int i) := by
  refine ⟨rfl, ?_, rfl, rfl, Nat.le_refl _, ?_⟩
  · have : i.natAbs.log2 < 1920 := by
      by_cases z : i.natAbs = 0
      · rw [z]; decide
      · exact Nat.lt_trans ((Nat.log2_lt (k := 60) z).mpr (Nat.lt_of_lt_of_le h (by decide))) (by decide)
    exact decide_eq_true this
  · have := int_text_length_le10 (a := i) (k := 18) (by decide) h
    have e : (D.py (.int i)).shown.length = (toString i).length := by
      show (Str.ofString (toString i)).length = _
      exact ofString_length _
    rw [e]
    omega
theorem fine_str {s : Str} (h : ascii s) : Fine 0 (10 * s.length + 2) (.str s) := by
  refine ⟨rfl, rfl, rfl, ?_, Nat.le_refl _, StrLaws.reprText_len s fun c hc => Nat.lt_of_lt_of_le (h c hc) (by decide)⟩
  show PyData.strOk s = true
  unfold PyData.strOk
  rw [← Array.all_toList, List.all_eq_true]
  intro c hc
  exact decide_eq_true (Nat.lt_of_lt_of_le (h c hc) (by decide))
theorem fine_non : Fine 0 4 .non := ⟨rfl, rfl, rfl, rfl, Nat.le_refl _, by decide⟩
theorem fine_bl {b : Bool} : Fine 0 5 (.bl b) := ⟨rfl, rfl, rfl, rfl, Nat.le_refl _, by cases b <;> decide⟩
structure Fines (k w : Nat) (l : List D) : Prop where
  dat : areDat l = true
  sh : PyData.showableAll (pys l) = true
  nd : PyData.hasDictAll (pys l) = false
  lay : PyData.canLayAll0 (pys l) = true
  dep : PyData.depthAll (pys l) ≤ k
  len : ∀ t ∈ PyData.shownAll (pys l), t.length ≤ w
  num : (PyData.shownAll (pys l)).length = l.length
theorem fines {k w : Nat} : ∀ {l : List D}, (∀ x ∈ l, Fine k w x) → Fines k w l
  | [], _ => ⟨rfl, rfl, rfl, rfl, Nat.zero_le _, fun t h => (by cases h), rfl⟩
  | x :: l, h => by
    have h1 := h x List.mem_cons_self
    have h2 := fines fun y z => h y (List.mem_cons_of_mem _ z)
    refine ⟨?_, ?_, ?_, ?_, ?_, fun t ht => ?_, ?_⟩
    · show (isDat x && areDat l) = true
      rw [h1.dat, h2.dat]; rfl
    · show (x.py.showable && PyData.showableAll (pys l)) = true
      rw [h1.sh, h2.sh]; rfl
    · show (x.py.hasDict || PyData.hasDictAll (pys l)) = false
      rw [h1.nd, h2.nd]; rfl
    · show (x.py.canLay0 && PyData.canLayAll0 (pys l)) = true
      rw [h1.lay, h2.lay]; rfl
    · show max x.py.depth (PyData.depthAll (pys l)) ≤ k
      have := h1.dep
      have := h2.dep
      omega
    · have ht : t ∈ x.py.shown :: PyData.shownAll (pys l) := ht
      rcases List.mem_cons.mp ht with rfl | ht
      · exact h1.len
      · exact h2.len t ht
    · show (x.py.shown :: PyData.shownAll (pys l)).length = (x :: l).length
      rw [List.length_cons, List.length_cons, h2.num]
theorem piled_le {w : Nat} : ∀ {ts : List Str}, (∀ t ∈ ts, t.length ≤ w) → piled ts ≤ ts.length * (w + 2)
  | [], _ => by simp [piled]
  | t :: ts, h => by
    have h1 := h t List.mem_cons_self
    have h2 := piled_le fun u z => h u (List.mem_cons_of_mem _ z)
    rw [piled_cons, List.length_cons, Nat.add_mul]
    omega
theorem join_le {w : Nat} {ts : List Str} (h : ∀ t ∈ ts, t.length ≤ w) : (Str.join ", " ts).length ≤ ts.length * (w + 2) := by
  by_cases e : ts = []
  · subst e; exact Nat.zero_le _
  · have h1 := join_length_add ts e
    have h2 := piled_le h
    omega
theorem textFrom_le {w : Nat} : ∀ {ts : List Str} {k : Nat} {acc : Str}, (∀ t ∈ ts, t.length ≤ w) → (textFrom k acc ts).length ≤ acc.length + ts.length * (w + 2)
  | [], _, _, _ => by simp [textFrom]
  | t :: ts, k, acc, h => by
    have h1 := h t List.mem_cons_self
    have h2 := textFrom_le (ts := ts) (k := k + 1) (acc := acc ++ (if k > 0 then ", " else "" : String) ++ t) fun u z => h u (List.mem_cons_of_mem _ z)
    have e : (acc ++ (if k > 0 then ", " else "" : String) ++ t : Str).length ≤ acc.length + 2 + t.length := by
      rw [strLen_append, strLen_append]
      split
      · exact Nat.le_refl _
      · exact Nat.add_le_add_right (Nat.add_le_add_left (Nat.zero_le 2) _) _
    show (textFrom (k + 1) _ ts).length ≤ _
    rw [List.length_cons, Nat.add_mul]
    omega
theorem fine_tup {k w : Nat} {l : List D} (h : ∀ x ∈ l, Fine k w x) : Fine (k + 1) (l.length * (w + 2) + 3) (.tup l) := by
  have f := fines h
  refine ⟨f.dat, f.sh, f.nd, f.lay, Nat.add_le_add_right f.dep 1, ?_⟩
  show (tupleText (PyData.shownAll (pys l))).length ≤ _
  unfold tupleText
  rw [strLen_append, strLen_append]
  have h1 := join_le f.len
  rw [f.num] at h1
  have h2 : ((if (PyData.shownAll (pys l)).length == 1 then ",)" else ")" : String) : Str).length ≤ 2 := by split <;> decide
  have h3 : ((("(" : String)) : Str).length = 1 := rfl
  omega
theorem fine_lst {k w : Nat} {l : List D} (h : ∀ x ∈ l, Fine k w x) : Fine (k + 1) (l.length * (w + 2) + 3) (.lst l) := by
  have f := fines h
  refine ⟨f.dat, f.sh, f.nd, f.lay, Nat.add_le_add_right f.dep 1, ?_⟩
  show (textFrom 0 ("[" : String) (PyData.shownAll (pys l)) ++ ("]" : String) : Str).length ≤ _
  rw [strLen_append]
  have h1 := textFrom_le (k := 0) (acc := (("[" : String) : Str)) f.len
  rw [f.num] at h1
  have h3 : ((("[" : String)) : Str).length = 1 := rfl
  have h4 : ((("]" : String)) : Str).length = 1 := rfl
  omega
theorem reprOk_of {k w : Nat} {d : D} (h : Fine k w d) (hk : k ≤ 60) (hw : w ≤ 16777216) : reprOk d = true := by
  unfold reprOk
  rw [h.dat, h.sh, h.nd, decide_eq_true (Nat.le_trans h.dep hk), decide_eq_true (le_line (Nat.le_trans h.len hw))]
  rfl
theorem cmpOk_of' {k w k' w' : Nat} {d e : D} (h : Fine k w d) (h' : Fine k' w' e) (hk : k ≤ 64) (hk' : k' ≤ 64) : cmpOk d e = true := by
  unfold cmpOk SeqAt.shaped
  rw [h.dat, h'.dat, h.lay, h'.lay, decide_eq_true (Nat.le_trans h.dep hk), decide_eq_true (Nat.le_trans h'.dep hk')]
  rfl

/-! ## == of data: equal where they are the same, and only there (no number beside a truth value) -/
mutual
theorem eqv_refl' : ∀ d : D, isDat d = true → PyData.eqv d.py d.py = true
  | .non, _ => rfl
  | .bl b, _ => by show (b == b) = true; simp
  | .int i, _ => by show (i == i) = true; simp
  | .str s, _ => by show (s == s) = true; simp
  | .tup l, h => eqvAll_refl' l h
  | .lst l, h => eqvAll_refl' l h
  | .arg l, h => eqvAll_refl' l h
  | .dct _, h => by cases h
  | .dcT _, h => by cases h
  | .obj _ _, h => by cases h
theorem eqvAll_refl' : ∀ l : List D, areDat l = true → PyData.eqvAll (pys l) (pys l) = true
  | [], _ => rfl
  | d :: l, h => by
    have h : (isDat d && areDat l) = true := h
    rw [Bool.and_eq_true] at h
    show (PyData.eqv d.py d.py && PyData.eqvAll (pys l) (pys l)) = true
    rw [eqv_refl' d h.1, eqvAll_refl' l h.2]
    rfl
end
@[simp] theorem eqD_same {d : D} (h : cmpOk d d = true) : eqD d d = .ok (false, .bl true) := by
  unfold eqD
  split
  · simp
  · rw [if_pos h, eqv_refl' d (cmpOk_of h).1]
@[simp] theorem neD_same {d : D} (h : cmpOk d d = true) : neD d d = .ok (false, .bl false) := by
  unfold neD
  split
  · simp
  · rw [if_pos h, eqv_refl' d (cmpOk_of h).1]
    rfl
@[simp] theorem eqD_ss (a b : Str) : eqD (.str a) (.str b) = .ok (false, .bl (decide (a = b))) := (rfl)
@[simp] theorem neD_ss (a b : Str) : neD (.str a) (.str b) = .ok (false, .bl (!decide (a = b))) := (rfl)
theorem ascii_app {s t : Str} (h : ascii s) (h' : ascii t) : ascii (s ++ t) := fun c hc => by
  have : (s ++ t).cps.toList = s.cps.toList ++ t.cps.toList := Array.toList_append
  rw [this] at hc
  rcases List.mem_append.mp hc with hc | hc
  · exact h c hc
  · exact h' c hc

/-! ## pairs in order -/
abbrev pairD (p : Int × Int) : D := .tup [.int p.1, .int p.2]
def leP (p q : Int × Int) : Bool := decide (p.1 < q.1 ∨ (p.1 = q.1 ∧ p.2 ≤ q.2))
def ltP (p q : Int × Int) : Prop := p.1 < q.1 ∨ (p.1 = q.1 ∧ p.2 < q.2)
theorem ltP_uniq : ∀ {l m : List (Int × Int)}, l.Pairwise ltP → m.Pairwise ltP → (∀ p, p ∈ l ↔ p ∈ m) → l = m
  | [], [], _, _, _ => rfl
  | [], b :: m, _, _, h => absurd ((h b).mpr List.mem_cons_self) (by simp)
  | a :: l, [], _, _, h => absurd ((h a).mp List.mem_cons_self) (by simp)
  | a :: l, b :: m, hl, hm, h => by
    obtain ⟨h1, h2⟩ := List.pairwise_cons.mp hl
    obtain ⟨h3, h4⟩ := List.pairwise_cons.mp hm
    have irr : ∀ p q : Int × Int, ltP p q → ltP q p → False := fun p q x y => by
      unfold ltP at x y; omega
    have ne : ∀ p q : Int × Int, ltP p q → p ≠ q := fun p q x y => by subst y; exact irr p p x x
    have e : a = b := by
      rcases List.mem_cons.mp ((h a).mp List.mem_cons_self) with e | e
      · exact e
      · rcases List.mem_cons.mp ((h b).mpr List.mem_cons_self) with e' | e'
        · exact e'.symm
        · exact absurd (h1 b e') fun z => irr a b z (h3 a e)
    subst e
    rw [ltP_uniq h2 h4 fun p => ⟨fun hp => ?_, fun hp => ?_⟩]
    · rcases List.mem_cons.mp ((h p).mp (List.mem_cons_of_mem _ hp)) with e | e
      · subst e; exact absurd rfl (ne _ _ (h1 p hp))
      · exact e
    · rcases List.mem_cons.mp ((h p).mpr (List.mem_cons_of_mem _ hp)) with e | e
      · subst e; exact absurd rfl (ne _ _ (h3 p hp))
      · exact e
theorem leP_trans (a b c : Int × Int) (h : leP a b = true) (h' : leP b c = true) : leP a c = true := by
  unfold leP at *
  simp only [decide_eq_true_eq] at *
  omega
theorem leP_total (a b : Int × Int) : (leP a b || leP b a) = true := by
  unfold leP
  simp only [Bool.or_eq_true, decide_eq_true_eq]
  omega
def sortP (l : List (Int × Int)) : List (Int × Int) := l.mergeSort leP
theorem sortP_mem {l : List (Int × Int)} {p : Int × Int} : p ∈ sortP l ↔ p ∈ l := List.mem_mergeSort
theorem sortP_lt {l : List (Int × Int)} (h : l.Nodup) : (sortP l).Pairwise ltP := by
  have h1 := List.pairwise_mergeSort (le := leP) (fun a b c => leP_trans a b c) leP_total l
  have h2 : (sortP l).Nodup := (List.mergeSort_perm l leP).nodup_iff.mpr h
  have h3 := List.Pairwise.and h1 h2
  refine List.Pairwise.imp (fun {a b} h => ?_) h3
  obtain ⟨x, y⟩ := h
  unfold leP at x
  have x := of_decide_eq_true x
  unfold ltP
  by_cases e : a.1 = b.1
  · by_cases e2 : a.2 = b.2
    · exact absurd (Prod.ext e e2) y
    · omega
  · omega
theorem sortedFn_pairs {l : List (Int × Int)} (hl : l.length ≤ 16777216) : sortedFn [.lst (l.map pairD)] = .ok (true, .lst ((sortP l).map pairD)) := by
  have ok : sortOk (l.map pairD) = true := by
    unfold sortOk
    simp only [Bool.and_eq_true, List.all_eq_true]
    refine ⟨⟨⟨⟨fun d hd => ?_, fun d hd e he => ?_⟩, ?_⟩, fun d hd => ?_⟩, small_of (by simpa using hl)⟩
    · obtain ⟨p, _, rfl⟩ := List.mem_map.mp hd; rfl
    · obtain ⟨p, _, rfl⟩ := List.mem_map.mp hd
      obtain ⟨q, _, rfl⟩ := List.mem_map.mp he
      rfl
    · rw [Bool.or_eq_true]
      refine .inl ?_
      rw [List.all_eq_true]
      intro d hd
      obtain ⟨p, _, rfl⟩ := List.mem_map.mp hd; rfl
    · obtain ⟨p, _, rfl⟩ := List.mem_map.mp hd
      exact decide_eq_true (show (max 0 (max 0 0) + 1 : Nat) ≤ 60 by decide)
  show (if sortOk (l.map pairD) = true then nw (.lst ((l.map pairD).mergeSort (PySem.W.dataLe false D.py))) else .stuck) = _
  rw [if_pos ok]
  unfold sortP
  rw [← PySem.W.sort_maps (r := leP) (s := PySem.W.dataLe false D.py) pairD (l := l)]
  intro a _ b _
  have := congrFun (congrFun (PySem.W.dataLe_ii (β := Int × Int) (fun p => p.1) (fun p => p.2)) a) b
  exact this.symm
end Fv

namespace Fv
open PySem L2
/-! ## lists of texts -/
theorem all_scal_str (l : List Str) : (l.map D.str).all scal = true := by
  rw [List.all_map]
  exact List.all_eq_true.mpr fun _ _ => rfl
theorem dV_strs (l : List Str) : (l.map D.str).map dV = l.map V.str := by rw [List.map_map]; rfl
theorem eqV_str (a b : Str) : eqV (.str a) (.str b) = decide (a = b) := by
  show (a == b) = _
  by_cases h : a = b
  · subst h; simp
  · rw [decide_eq_false h]; simpa using h
theorem inV_strs (x : Str) (l : List Str) : inV (.str x) (l.map V.str) = decide (x ∈ l) := by
  unfold inV
  induction l with
  | nil => rfl
  | cons a l ih =>
    rw [List.map_cons, List.any_cons, ih, eqV_str]
    by_cases h : a = x
    · subst h; simp
    · have h' : ¬ x = a := fun e => h e.symm
      simp [h, h']
@[simp] theorem inD_strs (x : Str) (l : List Str) : inD false (.str x) (.lst (l.map D.str)) = sh (.bl (decide (x ∈ l))) := by
  unfold inD
  simp only [all_scal_str, dV_strs]
  rw [if_pos (show (scal (.str x) && true) = true from rfl)]
  show sh (.bl (inV (.str x) (l.map V.str))) = _
  rw [inV_strs]
@[simp] theorem notInD_strs (x : Str) (l : List Str) : inD true (.str x) (.lst (l.map D.str)) = sh (.bl (!decide (x ∈ l))) := by
  unfold inD
  simp only [all_scal_str, dV_strs]
  rw [if_pos (show (scal (.str x) && true) = true from rfl)]
  simp only [if_true]
  show sh (.bl (!inV (.str x) (l.map V.str))) = _
  rw [inV_strs]
@[simp] theorem inD_strsT (x : Str) (l : List Str) : inD false (.str x) (.tup (l.map D.str)) = sh (.bl (decide (x ∈ l))) := inD_strs x l
@[simp] theorem notInD_strsT (x : Str) (l : List Str) : inD true (.str x) (.tup (l.map D.str)) = sh (.bl (!decide (x ∈ l))) := notInD_strs x l
@[simp] theorem inA_strs (x : Str) (l : List Str) : inA false (.str x) (.lst (l.map D.str)) = sh (.bl (decide (x ∈ l))) := inD_strs x l
@[simp] theorem notInA_strs (x : Str) (l : List Str) : inA true (.str x) (.lst (l.map D.str)) = sh (.bl (!decide (x ∈ l))) := notInD_strs x l
@[simp] theorem inA_strsT (x : Str) (l : List Str) : inA false (.str x) (.tup (l.map D.str)) = sh (.bl (decide (x ∈ l))) := inD_strs x l
@[simp] theorem notInA_strsT (x : Str) (l : List Str) : inA true (.str x) (.tup (l.map D.str)) = sh (.bl (!decide (x ∈ l))) := notInD_strs x l
theorem indexFn_strs {x : Str} {l : List Str} (h : x ∈ l) : indexFn (.lst (l.map D.str)) [.str x] = sh (.int (l.idxOf x : Nat)) := by
  unfold indexFn
  simp only [all_scal_str, dV_strs]
  rw [if_pos (show (scal (.str x) && true) = true from rfl)]
  have e : (l.map V.str).findIdx? (fun z => eqV z (dV (.str x))) = some (l.idxOf x) := by
    have hl : l.idxOf x < l.length := List.idxOf_lt_length_of_mem h
    rw [List.findIdx?_map, List.findIdx?_eq_some_iff_getElem]
    refine ⟨hl, ?_, fun j hj => ?_⟩
    · show eqV (.str (l[l.idxOf x]'hl)) (.str x) = true
      rw [eqV_str, List.getElem_idxOf]
      simp
    · have hj2 : j < l.length := Nat.lt_trans hj hl
      show ¬ eqV (.str (l[j]'hj2)) (.str x) = true
      rw [eqV_str]
      simp only [decide_eq_true_eq]
      intro e
      have h3 : ((l[j]'hj2) == x) = false := List.not_of_lt_findIdx (p := (· == x)) hj
      rw [e] at h3
      simp at h3
  rw [e]
theorem popAt_map {α : Type} {f : α → D} {l : List α} {k : Int} (h0 : 0 ≤ k) (h1 : k < l.length) (h2 : l.length ≤ 16777216) : opPopAt (l.map f) [.int k] = some (f (l[k.toNat]'(by omega)), (l.eraseIdx k.toNat).map f) := by
  unfold opPopAt popOk seqIndex?
  have e1 : decide (-(2 ^ 63) ≤ k) = true := decide_eq_true (by omega)
  have e2 : decide (k < 2 ^ 63) = true := decide_eq_true (by omega)
  have e3 : ¬ k < 0 := by omega
  have e4 : (decide (0 ≤ k) && decide (k < ((l.map f).length : Int))) = true := by simp; omega
  have hk : k.toNat < l.length := by omega
  simp only [e1, e2, Bool.and_self, if_true, if_neg e3, e4]
  simp [hk, List.eraseIdx_eq_take_drop_succ, List.map_take, List.map_drop]
theorem opPopAt_len {α : Type} {f : α → D} {l : List α} {k : Int} (h0 : 0 ≤ k) (h1 : k < l.length) (h2 : l.length ≤ 16777216) : ∃ a l', opPopAt (l.map f) [.int k] = some (f a, l'.map f) ∧ l.Perm (a :: l') := by
  refine ⟨_, _, popAt_map h0 h1 h2, ?_⟩
  have hk : k.toNat < l.length := by omega
  have e : l = l.take k.toNat ++ l[k.toNat] :: l.drop (k.toNat + 1) := by
    rw [← List.drop_eq_getElem_cons hk, List.take_append_drop]
  rw [List.eraseIdx_eq_take_drop_succ]
  conv => lhs; rw [e]
  exact List.perm_middle
end Fv
namespace Fv
open PySem L2
theorem ix_cell {l : List Int} {i : Int} (hc : Cells l) (h0 : 0 ≤ i) (h1 : i < l.length) : ∃ x, atI (l.map D.int) i = some (.int x) ∧ 0 ≤ x ∧ x < 1009 := by
  refine ⟨_, by rw [atI_map, atI_ok h0 h1]; rfl, hc _ (List.getElem_mem _)⟩
theorem Int.fmod_pos_bounds (a : Int) {b : Int} (h : 0 < b) : 0 ≤ a.fmod b ∧ a.fmod b < b := ⟨Int.fmod_nonneg_of_pos a h, Int.fmod_lt_of_pos a h⟩
theorem fdiv_pos {a b : Int} (ha : 0 ≤ a) (hb : 0 < b) : 0 ≤ a.fdiv b ∧ a.fdiv b ≤ a := by
  rw [Int.fdiv_eq_ediv_of_nonneg _ (by omega)]
  exact ⟨Int.ediv_nonneg ha (by omega), Int.ediv_le_self _ ha⟩
theorem rangeD_eq (lo hi : Int) : rangeD lo hi = (List.range (hi - lo).toNat).map fun (k : Nat) => .int (lo + (k : Int)) := rfl
end Fv

namespace Fv
open PySem L2
theorem range_pre {n : Nat} {pre post : List Nat} {a : Nat} (e : List.range n = pre ++ a :: post) : pre.length < n ∧ a = pre.length := by
  have h1 := congrArg List.length e
  simp at h1
  have h2 : (List.range n)[pre.length]? = some a := by rw [e]; simp
  rw [List.getElem?_range (by omega)] at h2
  cases h2
  omega
@[simp] theorem eqD_ii (i j : Int) : eqD (.int i) (.int j) = sh (.bl (decide (i = j))) := by
  show sh (.bl (i == j)) = _
  by_cases h : i = j
  · subst h; simp
  · simp [h]
@[simp] theorem neD_ii (i j : Int) : neD (.int i) (.int j) = sh (.bl (!decide (i = j))) := by
  show sh (.bl (!(i == j))) = _
  by_cases h : i = j
  · subst h; simp
  · simp [h]
/-! ## relations between numbers, as sorted lists of pairs -/
abbrev PL := List (Int × Int)
def Fun1 (l : PL) : Prop := l.Pairwise (fun p q => p.1 < q.1)
theorem Fun1.lt {l : PL} (h : Fun1 l) : l.Pairwise ltP := h.imp fun h => .inl h
theorem ltP_nodup {l : PL} (h : l.Pairwise ltP) : l.Nodup := h.imp fun {a b} h e => by subst e; unfold ltP at h; omega
theorem sortP_same {l : PL} (h : l.Pairwise ltP) : sortP l = l := ltP_uniq (sortP_lt (ltP_nodup h)) h fun _ => sortP_mem
theorem sortP_len (l : PL) : (sortP l).length = l.length := (List.mergeSort_perm l leP).length_eq
def swapP (p : Int × Int) : Int × Int := (p.2, p.1)
theorem swap_mem {l : PL} {a b : Int} : (a, b) ∈ l.map swapP ↔ (b, a) ∈ l := by
  rw [List.mem_map]
  constructor
  · rintro ⟨⟨x, y⟩, h, e⟩; cases e; exact h
  · exact fun h => ⟨_, h, rfl⟩
theorem swap_nodup {l : PL} (h : l.Nodup) : (l.map swapP).Nodup := List.nodup_iff_pairwise_ne.mpr (List.pairwise_map.mpr (h.imp fun {a b} h e => h (by
  obtain ⟨x, y⟩ := a; obtain ⟨z, w⟩ := b
  cases e; rfl)))
def turnP (l : PL) : PL := sortP (l.map swapP)
theorem turnP_eq {l m : PL} (hl : l.Nodup) (hm : m.Pairwise ltP) (h : ∀ a b, (a, b) ∈ m ↔ (b, a) ∈ l) : turnP l = m :=
  ltP_uniq (sortP_lt (swap_nodup hl)) hm fun ⟨a, b⟩ => by
    show (a, b) ∈ sortP _ ↔ _
    rw [sortP_mem, swap_mem, h]
def compRow (m : PL) (p : Int × Int) : PL := (m.filter fun q => decide (p.2 = q.1)).map fun q => (p.1, q.2)
def compP (l m : PL) : PL := l.flatMap (compRow m)
theorem comp_mem {l m : PL} {a c : Int} : (a, c) ∈ compP l m ↔ ∃ b, (a, b) ∈ l ∧ (b, c) ∈ m := by
  unfold compP compRow
  simp only [List.mem_flatMap, List.mem_map, List.mem_filter, decide_eq_true_eq]
  constructor
  · rintro ⟨⟨x, y⟩, h, ⟨z, w⟩, ⟨h2, h3⟩, e⟩
    simp only [Prod.mk.injEq] at e h3
    obtain ⟨rfl, rfl⟩ := e
    subst h3
    exact ⟨_, h, h2⟩
  · rintro ⟨b, h, h2⟩
    exact ⟨_, h, _, ⟨h2, rfl⟩, rfl⟩
theorem comp_lt {l m : PL} (hl : Fun1 l) (hm : m.Pairwise ltP) : (compP l m).Pairwise ltP := by
  unfold compP
  induction l with
  | nil => exact List.Pairwise.nil
  | cons p l ih =>
    obtain ⟨h1, h2⟩ := List.pairwise_cons.mp hl
    rw [List.flatMap_cons, List.pairwise_append]
    refine ⟨?_, ih h2, ?_⟩
    · unfold compRow
      rw [List.pairwise_map]
      refine List.Pairwise.imp_of_mem ?_ (hm.filter _)
      intro x y hx hy h
      have hx := (List.mem_filter.mp hx).2
      have hy := (List.mem_filter.mp hy).2
      simp only [decide_eq_true_eq] at hx hy
      have h : x.1 < y.1 ∨ (x.1 = y.1 ∧ x.2 < y.2) := h
      exact .inr ⟨rfl, by show x.2 < y.2; omega⟩
    · rintro ⟨a, c⟩ hx ⟨a', c'⟩ hy
      obtain ⟨q, hq, e⟩ := List.mem_map.mp hx
      cases e
      obtain ⟨b, hb, _⟩ := comp_mem.mp hy
      exact .inl (h1 (a', b) hb)
theorem comp_len (l m : PL) : (compP l m).length ≤ l.length * m.length := by
  unfold compP
  induction l with
  | nil => simp
  | cons p l ih =>
    rw [List.flatMap_cons, List.length_append, List.length_cons, Nat.add_mul]
    have : (compRow m p).length ≤ m.length := by
      unfold compRow
      rw [List.length_map]
      exact List.length_filter_le _ _
    omega
/-! ## short runs -/
@[simp] theorem noX_ok {α : Type} (a : α) : noX (.ok a) = .ok a := (rfl)
@[simp] theorem rof_some {α : Type} (a : α) : R.of (some a) = .ok a := (rfl)
@[simp] theorem lcL_nil (gf : GF) (ft : TF) (fe : EF) (ρ : Env) : lcL gf ft fe ρ [] = .ok [] := (rfl)
theorem lcL_cons (gf : GF) (ft : TF) (fe : EF) (ρ : Env) (d : D) (ds : List D) : lcL gf ft fe ρ (d :: ds) = (R.of (gf d ρ) >>= fun ρ1 => noX (ft ρ1) >>= fun b => if b = true then (noX (fe ρ1) >>= fun y => lcL gf ft fe ρ ds >>= fun r => .ok (y.2 :: r)) else lcL gf ft fe ρ ds) := (rfl)
@[simp] theorem forL_nil (gf : GF) (fb : SF) (ρ : Env) : forL gf fb [] ρ = .nx ρ := (rfl)
theorem rangeD_0_0 : rangeD 0 0 = [] := (rfl)
theorem rangeD_0_1 : rangeD 0 1 = [.int 0] := (rfl)
theorem rangeD_0_2 : rangeD 0 2 = [.int 0, .int 1] := (rfl)
theorem rangeD_0_3 : rangeD 0 3 = [.int 0, .int 1, .int 2] := (rfl)
theorem rangeD_0_4 : rangeD 0 4 = [.int 0, .int 1, .int 2, .int 3] := (rfl)
theorem rangeD_0_5 : rangeD 0 5 = [.int 0, .int 1, .int 2, .int 3, .int 4] := (rfl)
@[simp] theorem atI_0 {α : Type} (a : α) (l : List α) : atI (a :: l) 0 = some a := by
  rw [atI_ok (by decide) (by simp <;> omega)]; rfl
@[simp] theorem atI_1 {α : Type} (a b : α) (l : List α) : atI (a :: b :: l) 1 = some b := by
  rw [atI_ok (by decide) (by simp <;> omega)]; rfl
@[simp] theorem atI_2 {α : Type} (a b c : α) (l : List α) : atI (a :: b :: c :: l) 2 = some c := by
  rw [atI_ok (by decide) (by simp <;> omega)]; rfl
@[simp] theorem atI_3 {α : Type} (a b c d : α) (l : List α) : atI (a :: b :: c :: d :: l) 3 = some d := by
  rw [atI_ok (by decide) (by simp <;> omega)]; rfl
@[simp] theorem atI_4 {α : Type} (a b c d e : α) (l : List α) : atI (a :: b :: c :: d :: e :: l) 4 = some e := by
  rw [atI_ok (by decide) (by simp <;> omega)]; rfl
def TrueR (r : R (Bool × D)) : Prop := ∃ b, r = .ok (b, .bl true)
@[simp] theorem trueR_e (b c : Bool) : TrueR (.ok (b, .bl c)) = (c = true) := propext ⟨fun ⟨b', e⟩ => by cases e; rfl, fun h => by subst h; exact ⟨b, rfl⟩⟩
end Fv

namespace Fv
open PySem L2
/-! ## texts -/
@[simp] theorem fChain_e (o o' : D → D → R (Bool × D)) (fa fb fc : EF) (ρ : Env) : fChain o o' fa fb fc ρ = (fa ρ >>= fun x => fb ρ >>= fun y => o x.2 y.2 >>= fun z => match z.2 with
  | .bl k => if k = true then (fc ρ >>= fun w => o' y.2 w.2) else sh (.bl false)
  | _ => .stuck) := (rfl)
@[simp] theorem fM1_e (k : Str → D → R (Bool × D)) (fo fe : EF) (ρ : Env) : fM1 k fo fe ρ = (fo ρ >>= fun x => match x.2 with
  | .str a => fe ρ >>= fun y => k a y.2
  | _ => .stuck) := (rfl)
@[simp] theorem fIsi_e (T : String) (f : EF) (ρ : Env) : fIsi T f ρ = (f ρ >>= fun x => if tyD x.2 = some T then sh (.bl true) else .stuck) := (rfl)
@[simp] theorem truD_b (b : Bool) : truD (.bl b) = .ok b := (rfl)
@[simp] theorem fAnd_e (fa fb : EF) (ρ : Env) : fAnd fa fb ρ = (fa ρ >>= fun x => match x.2 with
  | .bl c => if c = true then fb ρ else sh (.bl false)
  | _ => .stuck) := (rfl)
@[simp] theorem fOr_e (fa fb : EF) (ρ : Env) : fOr fa fb ρ = (fa ρ >>= fun x => match x.2 with
  | .bl c => if c = true then sh (.bl true) else fb ρ
  | _ => .stuck) := (rfl)
@[simp] theorem fNot_e (fa : EF) (ρ : Env) : fNot fa ρ = (fa ρ >>= fun x => match x.2 with
  | .bl c => sh (.bl (!c))
  | _ => .stuck) := (rfl)
@[simp] theorem fFmt_e (f : EF) (ρ : Env) : fFmt f ρ = (f ρ >>= fun x => match x.2 with
  | .str y => if y.length ≤ sizeLine then sh (.str y) else .stuck
  | .int i => if i.natAbs.log2 < 1920 then sh (.str (toString i)) else .stuck
  | _ => .stuck) := (rfl)
@[simp] theorem fJs_e (fs : List EF) (ρ : Env) : fJs fs ρ = (joinF fs Str.empty ρ >>= fun z => sh (.str z)) := (rfl)
@[simp] theorem joinF_nil (acc : Str) (ρ : Env) : joinF [] acc ρ = .ok acc := (rfl)
@[simp] theorem joinF_cons (f : EF) (fs : List EF) (acc : Str) (ρ : Env) : joinF (f :: fs) acc ρ = (f ρ >>= fun x => match x.2 with
  | .str y => if (acc ++ y).length ≤ sizeLine then joinF fs (acc ++ y) ρ else .stuck
  | _ => .stuck) := (rfl)
@[simp] theorem iEnum2_e (u : AF) (ρ : Env) : iEnum2 u ρ = (u ρ >>= fun ds => match ds with
  | [x, .int k] => if ints62 k = true then (seqD0 x >>= fun l => .ok (enumD k l)) else .stuck
  | _ => .stuck) := (rfl)
@[simp] theorem iEnum1_e (u : AF) (ρ : Env) : iEnum1 u ρ = (u ρ >>= fun ds => match ds with
  | [.lst l] => .ok (enumD 0 l)
  | [.arg l] => .ok (enumD 0 l)
  | _ => .stuck) := (rfl)
@[simp] theorem seqD0_l (l : List D) : seqD0 (.lst l) = .ok l := (rfl)
@[simp] theorem seqD0_t (l : List D) : seqD0 (.tup l) = .ok l := (rfl)
@[simp] theorem seqD_s (z : Str) : seqD (.str z) = .ok (charsD z) := (rfl)
@[simp] theorem fCt_e (ρ : Env) : fCt ρ = .ct ρ := (rfl)
@[simp] theorem fBrk_e (ρ : Env) : fBrk ρ = .brk ρ := (rfl)
@[simp] theorem lenD_s (z : Str) : lenD [.str z] = if z.length ≤ sizeLine then sh (.int z.length) else .stuck := (rfl)
@[simp] theorem lenA_s (z : Str) : lenA [.str z] = if z.length ≤ sizeLine then sh (.int z.length) else .stuck := (rfl)
@[simp] theorem ixA_s (z : Str) (i : Int) : ixA (.str z) (.int i) = if z.length ≤ sizeLine then ofO ((atI z.cps.toList i).map fun c => .str ⟨#[c]⟩) else .stuck := (rfl)
@[simp] theorem addD_s (a b : Str) : addD (.str a) (.str b) = if a.length + b.length ≤ sizeLine then sh (.str (a ++ b)) else .stuck := (rfl)
@[simp] theorem addD_l (a b : List D) : addD (.lst a) (.lst b) = if a.length + b.length ≤ sizeLine then nw (.lst (a ++ b)) else .stuck := (rfl)
@[simp] theorem addD_t (a b : List D) : addD (.tup a) (.tup b) = if a.length + b.length ≤ sizeLine then sh (.tup (a ++ b)) else .stuck := (rfl)
@[simp] theorem ixD_s (z : Str) (i : Int) : ixD (.str z) (.int i) = if z.length ≤ sizeLine then ofO ((atI z.cps.toList i).map fun c => .str ⟨#[c]⟩) else .stuck := (rfl)
@[simp] theorem inD_ch (c : Nat) (y : Str) : inD false (.str ⟨#[c]⟩) (.str y) = sh (.bl (decide (c ∈ y.cps.toList))) := by
  show sh (.bl (!(Builtin.Str.occurrences y ⟨#[c]⟩ 0 y.length 1).isEmpty)) = _
  rw [StrLaws.found_one]
@[simp] theorem inA_ch (c : Nat) (y : Str) : inA false (.str ⟨#[c]⟩) (.str y) = sh (.bl (decide (c ∈ y.cps.toList))) := inD_ch c y
theorem boolsOf_map : ∀ l : List Bool, boolsOf (l.map .bl) = some l
  | [] => rfl
  | b :: l => by
    show (boolsOf (l.map .bl)).map (b :: ·) = _
    rw [boolsOf_map l]; rfl
@[simp] theorem boolFn_map (f : List Bool → Bool) (l : List Bool) : boolFn f [.lst (l.map .bl)] = sh (.bl (f l)) := by
  show (match boolsOf (l.map .bl) with
    | some bs => sh (.bl (f bs))
    | none => .stuck) = _
  rw [boolsOf_map]
@[simp] theorem splitD_s (a b : Str) : splitD a (.str b) = if (!(b.length == 0) && decide (a.length + 2 ≤ sizeLine)) = true then nw (.lst ((Txt.split a b).map .str)) else .stuck := (rfl)
@[simp] theorem joinD_l (a : Str) (l : List D) : joinD a (.lst l) = joinOk a l := (rfl)
@[simp] theorem joinD_t (a : Str) (l : List D) : joinD a (.tup l) = joinOk a l := (rfl)
@[simp] theorem frzAll_c (a : Slot) (ρ : Env) : frzAll (a :: ρ) = frzS a :: frzAll ρ := (rfl)
@[simp] theorem frzS_s (b : Bool) (d : D) : frzS (some (b, d)) = some (false, d) := (rfl)
@[simp] theorem frzS_n : frzS none = none := (rfl)
@[simp] theorem tyD_s (x : Str) : tyD (.str x) = some "str" := (rfl)
@[simp] theorem tyD_i (x : Int) : tyD (.int x) = some "int" := (rfl)
@[simp] theorem tyD_b (x : Bool) : tyD (.bl x) = some "bool" := (rfl)
@[simp] theorem tyD_l (x : List D) : tyD (.lst x) = some "list" := (rfl)
@[simp] theorem tyD_t (x : List D) : tyD (.tup x) = some "tuple" := (rfl)
/-- lcL over the signs of a text -/
theorem lcL_chars {gf : GF} {ft : TF} {fe : EF} {ρ : Env} (h : Nat → D) (z : Str) (st : ∀ c ∈ z.cps.toList, ∃ ρ1 b, gf (.str ⟨#[c]⟩) ρ = some ρ1 ∧ ft ρ1 = .ok true ∧ fe ρ1 = .ok (b, h c)) : lcL gf ft fe ρ (charsD z) = .ok (z.cps.toList.map h) :=
  lcL_map (fun c => D.str ⟨#[c]⟩) h _ st

/-! ### is_name -/
abbrev Nis_name : List Str := ["text", "char"]
abbrev Pis_name : List Str := ["text"]
def mis_name : SF :=
  (fSeq (fIfS (fBorT (fOrT (fNotT (fTst (fChain leD leD (fC (.int 1)) (fApp lenA (fCons (fVar 0) fNil)) (fC (.int 12))))) (fTst (fOp (inA false) (fOp ixA (fVar 0) (fC (.int 0))) (fC (.str "0123456789")))))) (fRet (fC (.bl false))) fSkip)
    (fRet (fApp (boolFn fun bs => bs.all id) (fCons (fLc (iSeq (fVar 0)) (gNm 1) fYes (fOp (inA false) (fVar 1) (fC (.str "abcdefghijklmnopqrstuvwxyz0123456789"))) [1]) fNil))))
def Fis_name : List D → R (Bool × D) := runD 2 1 mis_name
def digC : Str := "0123456789"
def nameC : Str := "abcdefghijklmnopqrstuvwxyz0123456789"
def headOk (l : List Nat) : Bool := match l with
  | c :: _ => !decide (c ∈ digC.cps.toList)
  | [] => false
def nameOk (z : Str) : Bool := decide (1 ≤ z.length ∧ z.length ≤ 12) && (headOk z.cps.toList && z.cps.toList.all fun c => decide (c ∈ nameC.cps.toList))
theorem digC_eq : (Str.ofString "0123456789") = digC := rfl
theorem nameC_eq : (Str.ofString "abcdefghijklmnopqrstuvwxyz0123456789") = nameC := rfl
theorem is_name_ok (z : Str) (hz : z.length ≤ 1000000) : Fis_name [.str z] = .ok (false, .bl (nameOk z)) := by
  unfold Fis_name
  refine runD_post (Q := fun r => r = .ok (false, .bl (nameOk z))) rfl ?_
  have h1 : z.length ≤ sizeLine := le_line (by omega)
  have hlen : z.cps.toList.length = z.length := by simp [Str.length]
  have e : lcL (gNm 1) fYes (fOp (inA false) (fVar 1) (fC (.str nameC))) [some (false, .str z), none] (charsD z) = .ok ((z.cps.toList.map fun c => decide (c ∈ nameC.cps.toList)).map .bl) := by
    rw [List.map_map]
    exact lcL_chars (fun c => D.bl (decide (c ∈ nameC.cps.toList))) z fun c _ => ⟨_, false, rfl, rfl, by simp⟩
  obtain ⟨bs, hbs⟩ : ∃ bs, bs = z.cps.toList.map fun c => decide (c ∈ nameC.cps.toList) := ⟨_, rfl⟩
  rw [← hbs] at e
  have hall : bs.all id = z.cps.toList.all fun c => decide (c ∈ nameC.cps.toList) := by rw [hbs, List.all_map]; rfl
  have hs : small (charsD z) = true := small_of (by unfold charsD; rw [List.length_map, hlen]; omega)
  unfold mis_name
  rw [digC_eq, nameC_eq]
  by_cases c1 : 1 ≤ z.length ∧ z.length ≤ 12
  · cases hl : z.cps.toList with
    | nil => rw [hl] at hlen; simp at hlen; omega
    | cons c cs =>
      have c1a : (1 : Int) ≤ z.length := by omega
      have c1b : (z.length : Int) ≤ 12 := by omega
      by_cases c2 : c ∈ digC.cps.toList
      · simp [h1, c1a, c1b, hl, c2, nameOk, headOk]
      · have hn : nameOk z = bs.all id := by unfold nameOk headOk; rw [hall, hl]; simp [c1, c2]
        rw [hn]
        simp [h1, c1a, c1b, hl, c2, e, hs]
  · have c1' : ¬ ((1 : Int) ≤ z.length ∧ (z.length : Int) ≤ 12) := by omega
    by_cases d1 : (1 : Int) ≤ z.length
    · have d2 : ¬ (z.length : Int) ≤ 12 := by omega
      simp [h1, d1, d2, nameOk, c1]
    · simp [h1, d1, nameOk, c1]
end Fv

namespace Fv
open PySem L2
/-! ## rows: names in the order of their first reading, kinds -/
abbrev Ncheck_names : List Str := ["row", "_", "name"]
abbrev Pcheck_names : List Str := ["row"]
def mcheck_names : SF :=
  (fIfS (fBorT (fNotT (fTru (fApp (boolFn fun bs => bs.all id) (fCons (fLc (iSeq (fVar 0)) (gTp 2 (gsCons (gNm 1) (gsCons (gNm 2) gsNil))) fYes (fApp Fis_name (fCons (fVar 2) fNil)) [1, 2]) fNil))))) fStk fSkip)
def Fcheck_names : List D → R (Bool × D) := runD 3 1 mcheck_names
abbrev Nnames_of : List Str := ["row", "_", "name"]
abbrev Pnames_of : List Str := ["row"]
def mnames_of : SF :=
  (fSeq (fDropM (mLift (fApp Fcheck_names (fCons (fVar 0) fNil))))
    (fRet (fApp listA (fCons (fDc (iSeq (fVar 0)) (gTp 2 (gsCons (gNm 1) (gsCons (gNm 2) gsNil))) fYes (fVar 2) (fC (.bl true)) [1, 2]) fNil))))
def Fnames_of : List D → R (Bool × D) := runD 3 1 mnames_of
abbrev Nkind_of : List Str := ["row", "numbers", "number", "name", "word"]
abbrev Pkind_of : List Str := ["row"]
def mkind_of : SF :=
  (fSeq (fSetS 1 (fDc (iEnum1 (fCons (fApp Fnames_of (fCons (fVar 0) fNil)) fNil)) (gTp 2 (gsCons (gNm 2) (gsCons (gNm 3) gsNil))) fYes (fVar 3) (fOp addD (fVar 2) (fC (.int 1))) [2, 3]))
    (fRet (fLc (iSeq (fVar 0)) (gTp 2 (gsCons (gNm 4) (gsCons (gNm 3) gsNil))) fYes (fTup (fCons (fVar 4) (fCons (fJs [(fC (.str "a")), (fFmt (fOp ixA (fVar 1) (fVar 3)))]) fNil))) [4, 3])))
def Fkind_of : List D → R (Bool × D) := runD 5 1 mkind_of
abbrev Nsame_kind : List Str := ["one", "other"]
abbrev Psame_kind : List Str := ["one", "other"]
def msame_kind : SF :=
  (fRet (fOp eqD (fApp Fkind_of (fCons (fVar 0) fNil)) (fApp Fkind_of (fCons (fVar 1) fNil))))
def Fsame_kind : List D → R (Bool × D) := runD 2 2 msame_kind
theorem snoc_ind {α : Type} {P : List α → Prop} (h0 : P []) (h1 : ∀ l x, P l → P (l ++ [x])) (l : List α) : P l := by
  have : ∀ m : List α, P m.reverse := by
    intro m
    induction m with
    | nil => exact h0
    | cons a m ih => rw [List.reverse_cons]; exact h1 _ _ ih
  have h := this l.reverse
  rwa [List.reverse_reverse] at h
@[simp] theorem retQ_stuck (Q : R (Bool × D) → Prop) : RetQ Q .stuck = Q .stuck := propext ⟨fun h => h.out, fun h => ⟨h⟩⟩
def stepF (known : List Str) (x : Str) : List Str := if x ∈ known then known else known ++ [x]
def firsts (l : List Str) : List Str := l.foldl stepF []
theorem firsts_snoc (l : List Str) (x : Str) : firsts (l ++ [x]) = stepF (firsts l) x := by unfold firsts; rw [List.foldl_append]; rfl
theorem fold_pre : ∀ (m a : List Str), ∃ e, m.foldl stepF a = a ++ e
  | [], a => ⟨[], by simp⟩
  | x :: m, a => by
    obtain ⟨e, h⟩ := fold_pre m (stepF a x)
    rw [List.foldl_cons, h]
    unfold stepF
    split
    · exact ⟨e, rfl⟩
    · exact ⟨x :: e, by simp⟩
theorem firsts_pre (l m : List Str) : ∃ e, firsts (l ++ m) = firsts l ++ e := by
  unfold firsts
  rw [List.foldl_append]
  exact fold_pre m _
theorem stepF_mem {k : List Str} {x y : Str} : y ∈ stepF k x ↔ y ∈ k ∨ y = x := by
  unfold stepF
  split
  · rename_i h
    constructor
    · exact .inl
    · rintro (h1 | rfl)
      · exact h1
      · exact h
  · simp
theorem firsts_mem : ∀ (l : List Str) (y : Str), y ∈ firsts l ↔ y ∈ l := by
  refine snoc_ind (fun y => Iff.rfl) fun l x ih y => ?_
  rw [firsts_snoc, stepF_mem, ih]; simp
theorem firsts_nodup (l : List Str) : (firsts l).Nodup := by
  revert l
  refine snoc_ind List.nodup_nil fun l x ih => ?_
  rw [firsts_snoc]
  unfold stepF
  split
  · exact ih
  · rename_i h
    rw [List.nodup_append]
    refine ⟨ih, by simp, fun a ha b hb e => ?_⟩
    rw [List.mem_singleton] at hb
    subst e hb
    exact h ha
theorem firsts_len (l : List Str) : (firsts l).length ≤ l.length := by
  revert l
  refine snoc_ind (Nat.le_refl _) fun l x ih => ?_
  rw [firsts_snoc]
  unfold stepF
  split <;> simp <;> omega
def tag (k : List Str) (x : Str) : Str := ("a" : String) ++ (Str.ofString (toString ((k.idxOf x : Int) + 1)))
abbrev SP := Str × Str
abbrev pairS (p : SP) : D := .tup [.str p.1, .str p.2]
def namesL (l : List SP) : List Str := firsts (l.map (·.2))
def kindL (l : List SP) : List SP := l.map fun p => (p.1, tag (namesL l) p.2)
def OkRow (l : List SP) : Prop := l.length ≤ 1000 ∧ ∀ p ∈ l, nameOk p.2 = true
theorem nameOk_len {z : Str} (h : nameOk z = true) : 1 ≤ z.length ∧ z.length ≤ 12 := by
  unfold nameOk at h
  rw [Bool.and_eq_true] at h
  exact of_decide_eq_true h.1
@[simp] theorem fDc_e (fi : IF) (gf : GF) (ft : TF) (fk fe : EF) (vs : List Nat) (ρ : Env) : fDc fi gf ft fk fe vs ρ = (fi ρ >>= fun ds => if small ds = true then (match dcL gf ft fk fe (wipeE ρ vs) ds [] with
  | .ok r => nw (.dct r)
  | _ => .stuck) else .stuck) := (rfl)
/-- a dict comprehension by what the pairs are behind each turn -/
theorem dcL_run {α : Type} {gf : GF} {ft : TF} {fk fe : EF} {ρ : Env} (enc : α → D) (acc : List α → List (D × D)) : ∀ (l pre : List α), (∀ pre' a post, pre ++ l = pre' ++ a :: post → ∃ ρ1 b b' k y key, gf (enc a) ρ = some ρ1 ∧ ft ρ1 = .ok true ∧ fk ρ1 = .ok (b, k) ∧ fe ρ1 = .ok (b', y) ∧ kD k = some key ∧ storeK (acc pre') key y = acc (pre' ++ [a])) → dcL gf ft fk fe ρ (l.map enc) (acc pre) = .ok (acc (pre ++ l))
  | [], pre, _ => by rw [List.append_nil]; rfl
  | a :: l, pre, st => by
    obtain ⟨ρ1, b, b', k, y, key, h1, h2, h3, h4, h5, h6⟩ := st pre a l rfl
    rw [List.map_cons]
    unfold dcL
    rw [h1]
    show (noX (ft ρ1) >>= _) = _
    rw [h2]
    show (noX (fk ρ1) >>= _) = _
    rw [h3]
    show (noX (fe ρ1) >>= _) = _
    rw [h4]
    show (match kD k with
      | some key => dcL gf ft fk fe ρ (l.map enc) (storeK (acc pre) key y)
      | none => .stuck) = _
    rw [h5]
    show dcL gf ft fk fe ρ (l.map enc) (storeK (acc pre) key y) = _
    rw [h6, dcL_run enc acc l (pre ++ [a]) fun pre' c post e => st pre' c post (by rw [← e]; simp)]
    simp
theorem check_names_ok {l : List SP} (h : OkRow l) : Fcheck_names [.lst (l.map pairS)] = .ok (false, .non) := by
  unfold Fcheck_names
  refine runD_post (Q := fun r => r = .ok (false, .non)) rfl ?_
  have e : lcL (gTp 2 (gsCons (gNm 1) (gsCons (gNm 2) gsNil))) fYes (fApp Fis_name (fCons (fVar 2) fNil)) [some (false, .lst (l.map pairS)), none, none] (l.map pairS) = .ok ((l.map fun _ => true).map .bl) := by
    rw [List.map_map]
    refine lcL_map pairS (fun _ => D.bl true) l fun a ha => ⟨_, false, rfl, rfl, ?_⟩
    have hn := h.2 a ha
    have := is_name_ok a.2 (by have := nameOk_len hn; omega)
    rw [hn] at this
    simp [this]
  have hs : small (l.map pairS) = true := small_of (by rw [List.length_map]; have := h.1; omega)
  have ha : (l.map fun _ => true).all id = true := by simp
  obtain ⟨bs, hbs⟩ : ∃ bs, bs = l.map fun _ => true := ⟨_, rfl⟩
  rw [← hbs] at e ha
  have e2 : boolFn (fun bs => bs.all id) [.lst (bs.map .bl)] = sh (.bl true) := by rw [boolFn_map, ha]
  simp only [mcheck_names]
  simp [e, hs, e2, ha]

theorem findK_strs (f : Str → D) (k : List Str) (x : Str) : findK (k.map fun y => (D.str y, f y)) (.inr x) = if x ∈ k then some (f x) else none := by
  induction k with
  | nil => rfl
  | cons y k ih =>
    show (if kD (.str y) = some (.inr x) then some (f y) else findK (k.map fun y => (D.str y, f y)) (.inr x)) = _
    by_cases e : y = x
    · subst e
      rw [if_pos (show kD (.str y) = some (.inr y) from rfl), if_pos List.mem_cons_self]
    · rw [if_neg (show ¬ kD (.str y) = some (.inr x) from fun z => e (by cases z; rfl)), ih]
      by_cases m : x ∈ k
      · rw [if_pos m, if_pos (List.mem_cons_of_mem _ m)]
      · rw [if_neg m, if_neg (fun z => by
          rcases List.mem_cons.mp z with z | z
          · exact e z.symm
          · exact m z)]
theorem storeK_strs (d : D) (k : List Str) (x : Str) : storeK (k.map fun y => (D.str y, d)) (.inr x) d = (stepF k x).map fun y => (D.str y, d) := by
  unfold storeK stepF
  rw [findK_strs (fun _ => d)]
  by_cases m : x ∈ k
  · rw [if_pos m, if_pos m]
    show (if true = true then _ else _) = _
    rw [if_pos rfl, List.map_map]
    refine List.map_congr_left fun y _ => ?_
    show (if kD (.str y) = some (.inr x) then (D.str y, d) else (D.str y, d)) = _
    split <;> rfl
  · rw [if_neg m, if_neg m]
    show (if false = true then _ else _) = _
    rw [if_neg (by simp), List.map_append]
    rfl
theorem names_of_ok {l : List SP} (h : OkRow l) : Fnames_of [.lst (l.map pairS)] = .ok (true, .lst ((namesL l).map .str)) := by
  unfold Fnames_of
  refine runD_post (Q := fun r => r = .ok (true, .lst ((namesL l).map .str))) rfl ?_
  have e : dcL (gTp 2 (gsCons (gNm 1) (gsCons (gNm 2) gsNil))) fYes (fVar 2) (fC (.bl true)) [some (false, .lst (l.map pairS)), none, none] (l.map pairS) [] = .ok ((namesL l).map fun y => (D.str y, D.bl true)) := by
    refine dcL_run pairS (fun pre => (namesL pre).map fun y => (D.str y, D.bl true)) l [] fun pre a post e => ⟨_, false, false, _, _, .inr a.2, rfl, rfl, rfl, rfl, rfl, ?_⟩
    rw [storeK_strs]
    unfold namesL
    rw [List.map_append, List.map_cons, List.map_nil, firsts_snoc]
  have hs : small (l.map pairS) = true := small_of (by rw [List.length_map]; have := h.1; omega)
  have c := check_names_ok h
  simp [mnames_of, c, e, hs]
theorem tag_pos (k : List Str) (x : Str) : (if x ∈ k then true else false) = decide (x ∈ k) := by by_cases h : x ∈ k <;> simp [h]
theorem findK_app (a b : List (D × D)) (k : Key) : findK (a ++ b) k = (match findK a k with
  | some d => some d
  | none => findK b k) := by
  induction a with
  | nil => rfl
  | cons p a ih =>
    obtain ⟨x, d⟩ := p
    show (if kD x = some k then some d else findK (a ++ b) k) = (match (if kD x = some k then some d else findK a k) with
      | some d => some d
      | none => findK b k)
    split
    · rfl
    · exact ih
def numD (l : List (Str × Nat)) : List (D × D) := l.map fun p => (D.str p.1, D.int ((p.2 : Int) + 1))
theorem findK_numD (k : List Str) (n : Nat) (x : Str) : findK (numD (k.zipIdx n)) (.inr x) = if x ∈ k then some (.int (((n + k.idxOf x : Nat) : Int) + 1)) else none := by
  induction k generalizing n with
  | nil => rfl
  | cons y k ih =>
    rw [List.zipIdx_cons]
    show (if kD (.str y) = some (.inr x) then some (D.int ((n : Int) + 1)) else findK (numD (k.zipIdx (n + 1))) (.inr x)) = _
    by_cases e : y = x
    · subst e
      rw [if_pos (show kD (.str y) = some (.inr y) from rfl), if_pos List.mem_cons_self, List.idxOf_cons_self]
      rfl
    · have hi : (y :: k).idxOf x = k.idxOf x + 1 := by
        have hb : (y == x) = false := by simpa using e
        rw [List.idxOf_cons, hb]; rfl
      rw [if_neg (show ¬ kD (.str y) = some (.inr x) from fun z => e (by cases z; rfl)), ih, hi]
      by_cases m : x ∈ k
      · rw [if_pos m, if_pos (List.mem_cons_of_mem _ m)]
        have : n + 1 + k.idxOf x = n + (k.idxOf x + 1) := by omega
        rw [this]
      · rw [if_neg m, if_neg (fun z => by
          rcases List.mem_cons.mp z with z | z
          · exact e z.symm
          · exact m z)]
theorem enumD_zip (k : Int) (l : List Str) : enumD k (l.map .str) = l.zipIdx.map fun p => .tup [.int (k + (p.2 : Nat)), .str p.1] := by
  refine List.ext_getElem? fun i => ?_
  unfold enumD
  rw [List.getElem?_mapIdx, List.getElem?_map, List.getElem?_map, List.getElem?_zipIdx]
  cases l[i]? with
  | none => rfl
  | some a => simp
theorem zip_pre {l : List Str} {pre post : List (Str × Nat)} {a : Str × Nat} (e : l.zipIdx = pre ++ a :: post) : a.2 = pre.length ∧ l[pre.length]? = some a.1 ∧ pre = (l.take pre.length).zipIdx := by
  have h : l.zipIdx[pre.length]? = some a := by rw [e]; simp
  refine ⟨?_, ?_, ?_⟩
  · rw [List.getElem?_zipIdx] at h
    cases q : l[pre.length]? with
    | none => rw [q] at h; cases h
    | some x => rw [q] at h; cases h; simp
  · rw [List.getElem?_zipIdx] at h
    cases q : l[pre.length]? with
    | none => rw [q] at h; cases h
    | some x => rw [q] at h; cases h; rfl
  · have h2 : l.zipIdx.take pre.length = pre := by rw [e]; simp
    refine List.ext_getElem? fun i => ?_
    have h3 : pre[i]? = (l.zipIdx.take pre.length)[i]? := by rw [h2]
    rw [h3, List.getElem?_take, List.getElem?_zipIdx, List.getElem?_zipIdx, List.getElem?_take]
    split <;> simp
theorem numbers_ok {k : List Str} (nd : k.Nodup) {gf : GF} {ft : TF} {fk fe : EF} {ρ : Env} (st : ∀ (x : Str) (n : Nat), ∃ ρ1 b b', gf (.tup [.int (0 + (n : Int)), .str x]) ρ = some ρ1 ∧ ft ρ1 = .ok true ∧ fk ρ1 = .ok (b, .str x) ∧ fe ρ1 = .ok (b', .int ((n : Int) + 1))) :
    dcL gf ft fk fe ρ (enumD 0 (k.map .str)) [] = .ok (numD k.zipIdx) := by
  rw [enumD_zip]
  refine dcL_run (fun p : Str × Nat => .tup [.int (0 + (p.2 : Nat)), .str p.1]) numD k.zipIdx [] fun pre a post e => ?_
  obtain ⟨ρ1, b, b', h1, h2, h3, h4⟩ := st a.1 a.2
  refine ⟨ρ1, b, b', _, _, .inr a.1, h1, h2, h3, h4, rfl, ?_⟩
  rw [List.nil_append] at e
  obtain ⟨e1, e2, e3⟩ := zip_pre e
  have hn : a.1 ∉ k.take pre.length := fun z => by
    obtain ⟨i, hi, ei⟩ := List.mem_iff_getElem.mp z
    rw [List.length_take] at hi
    rw [List.getElem_take] at ei
    obtain ⟨hp, ep⟩ := List.getElem?_eq_some_iff.mp e2
    have hlt : i < pre.length := by omega
    exact absurd (ei.trans ep.symm) (List.pairwise_iff_getElem.mp nd i pre.length (by omega) hp hlt)
  have : findK (numD pre) (.inr a.1) = none := by
    rw [e3, findK_numD, if_neg hn]
  unfold storeK
  rw [this]
  show (if false = true then _ else _) = _
  rw [if_neg (by simp)]
  unfold numD
  rw [List.map_append]
  rfl

theorem tag_js (k : Int) : (Str.empty ++ ("a" : String) : Str) ++ Str.ofString (toString k) = ("a" : String) ++ Str.ofString (toString k) := rfl
theorem log2_le {n : Nat} (h : n < 1000000) : n.log2 < 1920 := by
  by_cases z : n = 0
  · rw [z]; decide
  · exact Nat.lt_trans ((Nat.log2_lt (k := 60) z).mpr (Nat.lt_of_lt_of_le h (by decide))) (by decide)
theorem tagtext_len {n : Nat} (h : n < 1000000) : (Str.ofString (toString (n : Int))).length ≤ 20 := by
  have := int_text_length_le10 (a := (n : Int)) (k := 18) (by decide) (Nat.lt_of_lt_of_le (show (n : Int).natAbs < 1000000 by omega) (by decide))
  rw [ofString_length]
  omega
theorem kind_of_ok {l : List SP} (h : OkRow l) : Fkind_of [.lst (l.map pairS)] = .ok (true, .lst ((kindL l).map pairS)) := by
  unfold Fkind_of
  refine runD_post (Q := fun r => r = .ok (true, .lst ((kindL l).map pairS))) rfl ?_
  have n1 := names_of_ok h
  have nd : (namesL l).Nodup := firsts_nodup _
  have nl : (namesL l).length ≤ 1000 := Nat.le_trans (firsts_len _) (by rw [List.length_map]; exact h.1)
  have e1 : dcL (gTp 2 (gsCons (gNm 2) (gsCons (gNm 3) gsNil))) fYes (fVar 3) (fOp addD (fVar 2) (fC (.int 1))) [some (false, .lst (l.map pairS)), none, none, none, none] (enumD 0 ((namesL l).map .str)) [] = .ok (numD (namesL l).zipIdx) :=
    numbers_ok nd fun x n => ⟨_, false, false, rfl, rfl, rfl, by simp⟩
  have hs : small (enumD 0 ((namesL l).map .str)) = true := small_of (by unfold enumD; simp; omega)
  have hs2 : small (l.map pairS) = true := small_of (by rw [List.length_map]; have := h.1; omega)
  have e2 : lcL (gTp 2 (gsCons (gNm 4) (gsCons (gNm 3) gsNil))) fYes (fTup (fCons (fVar 4) (fCons (fJs [(fC (.str "a")), (fFmt (fOp ixA (fVar 1) (fVar 3)))]) fNil))) [some (false, .lst (l.map pairS)), some (false, .dct (numD (namesL l).zipIdx)), none, none, none] (l.map pairS) = .ok ((kindL l).map pairS) := by
    unfold kindL
    rw [List.map_map]
    refine lcL_map pairS (fun p => pairS (p.1, tag (namesL l) p.2)) l fun p hp => ⟨_, false, rfl, rfl, ?_⟩
    have hm : p.2 ∈ namesL l := (firsts_mem _ _).mpr (List.mem_map.mpr ⟨p, hp, rfl⟩)
    have hf : findK (numD (namesL l).zipIdx) (.inr p.2) = some (.int ((((namesL l).idxOf p.2 : Nat) : Int) + 1)) := by
      rw [findK_numD, if_pos hm, Nat.zero_add]
    have hi : (namesL l).idxOf p.2 < (namesL l).length := List.idxOf_lt_length_of_mem hm
    obtain ⟨k, hk⟩ : ∃ k : Nat, k = (namesL l).idxOf p.2 + 1 := ⟨_, rfl⟩
    have hk2 : (((namesL l).idxOf p.2 : Nat) : Int) + 1 = (k : Int) := by omega
    have ht : tag (namesL l) p.2 = ("a" : String) ++ Str.ofString (toString (k : Int)) := by unfold tag; rw [hk2]
    have h1 : (k : Int).natAbs.log2 < 1920 := log2_le (by omega)
    have h2 : (Str.empty ++ ("a" : String) : Str).length ≤ sizeLine := le_line (show 1 ≤ 16777216 by decide)
    have h3 : ((Str.empty ++ ("a" : String) : Str) ++ Str.ofString (toString (k : Int))).length ≤ sizeLine := by
      have := tagtext_len (n := k) (by omega)
      rw [strLen_append]
      exact le_line (by have e : (Str.empty ++ ("a" : String) : Str).length = 1 := rfl; omega)
    rw [hk2] at hf
    simp [hf]
    rw [ht]
    have h1' : k.log2 < 1920 := by simpa using h1
    have h3' : (Str.empty ++ Str.ofString "a" ++ Str.ofString (k : Int).repr : Str).length ≤ sizeLine := h3
    simp [h1', h2, h3']
    rfl
  simp [mkind_of, n1, e1, hs, e2, hs2]
theorem same_kind_ok {l m : List SP} (h : OkRow l) (h' : OkRow m) : Fsame_kind [.lst (l.map pairS), .lst (m.map pairS)] = eqD (.lst ((kindL l).map pairS)) (.lst ((kindL m).map pairS)) := by
  have e1 := kind_of_ok h
  have e2 := kind_of_ok h'
  unfold Fsame_kind
  refine runD_post (Q := fun r => r = eqD (.lst ((kindL l).map pairS)) (.lst ((kindL m).map pairS))) rfl ?_
  simp [msame_kind, e1, e2]
  cases eqD (.lst ((kindL l).map pairS)) (.lst ((kindL m).map pairS)) <;> simp

theorem lcL_ex {α β : Type} {gf : GF} {ft : TF} {fe : EF} {ρ : Env} (enc : α → D) (enc' : β → D) (P : α → β → Prop) : ∀ l : List α, (∀ a ∈ l, ∃ ρ1 b r, gf (enc a) ρ = some ρ1 ∧ ft ρ1 = .ok true ∧ fe ρ1 = .ok (b, enc' r) ∧ P a r) → ∃ rs : List β, lcL gf ft fe ρ (l.map enc) = .ok (rs.map enc') ∧ rs.length = l.length ∧ ∀ r ∈ rs, ∃ a ∈ l, P a r
  | [], _ => ⟨[], rfl, rfl, fun r h => by cases h⟩
  | a :: l, st => by
    obtain ⟨ρ1, b, r, h1, h2, h3, h4⟩ := st a List.mem_cons_self
    obtain ⟨rs, e1, e2, e3⟩ := lcL_ex enc enc' P l fun a z => st a (List.mem_cons_of_mem _ z)
    refine ⟨r :: rs, ?_, by simp [e2], fun x hx => ?_⟩
    · rw [List.map_cons, lcL_cons, h1]
      show (noX (ft ρ1) >>= _) = _
      rw [h2]
      show (noX (fe ρ1) >>= _) = _
      rw [h3]
      show (lcL gf ft fe ρ (l.map enc) >>= _) = _
      rw [e1]
      rfl
    · rcases List.mem_cons.mp hx with rfl | hx
      · exact ⟨a, List.mem_cons_self, h4⟩
      · obtain ⟨c, hc, h⟩ := e3 x hx
        exact ⟨c, List.mem_cons_of_mem _ hc, h⟩
theorem strsOf_map : ∀ l : List Str, strsOf (l.map .str) = some l
  | [] => rfl
  | b :: l => by
    show (strsOf (l.map .str)).map (b :: ·) = _
    rw [strsOf_map l]; rfl
/-! ### texts of signs -/
def chS (c : Nat) : Str := ⟨#[c]⟩
theorem joinL_nil : ∀ l : List (List Nat), TL.joinL [] l = l.flatten
  | [] => rfl
  | [p] => by simp [TL.joinL]
  | p :: q :: r => by
    show p ++ ([] ++ TL.joinL [] (q :: r)) = _
    rw [joinL_nil (q :: r)]
    rfl
theorem join_chars (cs : List Nat) : Txt.join (Str.ofString "") (cs.map chS) = ⟨cs.toArray⟩ := by
  refine TL.ext_tl ?_
  rw [TL.join_eq, TL.tl_join]
  show TL.joinL [] _ = _
  rw [joinL_nil, List.map_map]
  show _ = cs
  induction cs with
  | nil => rfl
  | cons c cs ih => rw [List.map_cons, List.flatten_cons, ih]; rfl
theorem sum_one (cs : List Nat) : ((cs.map chS).map (·.length)).sum = cs.length := by
  induction cs with
  | nil => rfl
  | cons c cs ih =>
    rw [List.map_cons, List.map_cons, List.sum_cons, ih, List.length_cons]
    show 1 + _ = _
    omega
theorem join_chars_ok {cs : List Nat} (h : cs.length ≤ 1000) : joinOk (Str.ofString "") ((cs.map chS).map .str) = sh (.str ⟨cs.toArray⟩) := by
  unfold joinOk
  rw [strsOf_map]
  have e : Str.length (Str.ofString "") = 0 := rfl
  have h4 : ((cs.map chS).map (·.length)).sum + (cs.map chS).length * Str.length (Str.ofString "") ≤ 16777216 := by
    rw [sum_one, e]; omega
  show (if ((cs.map chS).map (·.length)).sum + (cs.map chS).length * Str.length (Str.ofString "") ≤ 16777216 then sh (.str (Txt.join (Str.ofString "") (cs.map chS))) else .stuck) = _
  rw [if_pos h4, join_chars]
/-- all signs are signs of names -/
def OkT (z : Str) : Prop := ∀ c ∈ z.cps.toList, c ∈ nameC.cps.toList
theorem cutS_mem {z : Str} {lo hi : Option Int} {c : Nat} (h : c ∈ (cutS z lo hi).cps.toList) : c ∈ z.cps.toList := by
  unfold cutS at h
  exact List.mem_of_mem_drop (List.mem_of_mem_take (by simpa using h))
theorem OkT.cut {z : Str} (h : OkT z) (lo hi : Option Int) : OkT (cutS z lo hi) := fun c hc => h c (cutS_mem hc)
theorem OkT.app {z y : Str} (h : OkT z) (h' : OkT y) : OkT (z ++ y) := fun c hc => by
  have : (z ++ y).cps.toList = z.cps.toList ++ y.cps.toList := Array.toList_append
  rw [this] at hc
  rcases List.mem_append.mp hc with hc | hc
  · exact h c hc
  · exact h' c hc
theorem cutS_len (z : Str) (lo hi : Option Int) : (cutS z lo hi).length ≤ z.length := by
  unfold cutS
  show (List.toArray _).size ≤ _
  have hz : z.cps.size = z.length := rfl
  simp
  omega
theorem cutS_two (z : Str) (k : Nat) : (cutS z none (some (k : Int))).length + (cutS z (some (k : Int)) none).length ≤ z.length := by
  have hz : z.cps.toList.length = z.length := by simp [Str.length]
  unfold cutS
  rw [HT.sIx_none, HT.sIx_none, HT.sIx_nat, HT.sIx_nat]
  show (List.toArray _).size + (List.toArray _).size ≤ _
  have hz2 : z.cps.size = z.length := rfl
  simp
  omega
theorem letter_at {i : Int} (h0 : 0 ≤ i) (h1 : i < 36) : ∃ c, atI nameC.cps.toList i = some c ∧ c ∈ nameC.cps.toList ∧ (i < 26 → ¬ c ∈ digC.cps.toList) := by
  have hl : i < (nameC.cps.toList.length : Int) := h1
  refine ⟨_, atI_ok h0 hl, List.getElem_mem _, fun h => ?_⟩
  have key : ∀ k, (hk : k < 26) → ¬ nameC.cps.toList[k]'(Nat.lt_trans hk (by decide)) ∈ digC.cps.toList := by decide +kernel
  exact key i.toNat (by omega)
theorem chS_ok {c : Nat} (h : c ∈ nameC.cps.toList) : OkT (chS c) := fun d hd => by
  have : d = c := by simpa [chS] using hd
  rw [this]; exact h
theorem nameOk_of {c : Nat} {z : Str} (hc : c ∈ nameC.cps.toList) (hd : ¬ c ∈ digC.cps.toList) (hz : OkT z) (hl : z.length ≤ 11) : nameOk (chS c ++ z) = true := by
  have e : (chS c ++ z).cps.toList = c :: z.cps.toList := by
    show (#[c] ++ z.cps).toList = _
    simp
  have el : (chS c ++ z).length = 1 + z.length := by rw [strLen_append]; rfl
  unfold nameOk
  rw [el, e]
  simp only [headOk, Bool.and_eq_true, decide_eq_true_eq, List.all_cons, List.all_eq_true, Bool.not_eq_true', decide_eq_false_iff_not]
  exact ⟨by omega, hd, hc, fun d hd => hz d hd⟩
end Fv

namespace Fv
open PySem L2
def topS (i : Nat) : Stmt := PySem.Challenge.pw_fewestheld_k12_kinds_of_a_row.main.body.getD i (.Pass ⟨0, 0, 0, 0⟩)
abbrev s_law_row : Stmt := topS 13
theorem sc_law_row : FnScope N_law_row P_law_row (defScope s_law_row) := ⟨rfl, rfl, rfl, by decide +kernel, rfl, by decide +kernel, by decide +kernel⟩
abbrev s_law_numbers : Stmt := topS 14
theorem sc_law_numbers : FnScope N_law_numbers P_law_numbers (defScope s_law_numbers) := ⟨rfl, rfl, rfl, by decide +kernel, rfl, by decide +kernel, by decide +kernel⟩
abbrev s_law_names : Stmt := topS 15
abbrev N_law_names : List Str := ["_law_number", "_law_many", "_law_letters", "_law_size", "_law_rest", "_law_place", "_law_names_here", "_law_k", "_law_own", "_law_spot", "_law_step"]
abbrev P_law_names : List Str := ["_law_number", "_law_many"]
theorem sc_law_names : FnScope N_law_names P_law_names (defScope s_law_names) := ⟨rfl, rfl, rfl, by decide +kernel, rfl, by decide +kernel, by decide +kernel⟩
def m_law_names_b1 : SF :=
  (fSeq (fSetS 8 (fVar 4))
    (fSeq (fIfS (fBorT (fTst (fOp eqD (fOp modD (fApp intFn (fCons (fOp addD (fOp fdivD (fVar 0) (fC (.int 121))) (fVar 7)) fNil)) (fC (.int 3))) (fC (.int 0))))) (fSetS 8 (fSlice (fVar 4) (oSome (fC (.int 1))) oNone)) fSkip)
    (fSeq (fSetS 9 (fApp minFn (fCons (fVar 5) (fCons (fApp lenA (fCons (fVar 8) fNil)) fNil))))
    (fSeq (fSetS 10 (fC (.int 5)))
    (fSeq (fIfS (fBorT (fTst (fOp eqD (fOp modD (fApp intFn (fCons (fOp fdivD (fVar 0) (fC (.int 363))) fNil)) (fC (.int 2))) (fC (.int 1))))) (fSetS 10 (fC (.int 31))) fSkip)
    (fDropM (mMeth 6 opAppend (mLift (fOp addD (fOp addD (fOp addD (fOp ixA (fVar 2) (fOp modD (fApp intFn (fCons (fOp addD (fVar 0) (fOp mulD (fC (.int 3)) (fVar 7))) fNil)) (fC (.int 26)))) (fSlice (fVar 8) oNone (oSome (fVar 9)))) (fOp ixA (fVar 2) (fOp modD (fApp intFn (fCons (fOp addD (fVar 0) (fOp mulD (fVar 10) (fVar 7))) fNil)) (fC (.int 36))))) (fSlice (fVar 8) (oSome (fVar 9)) oNone))))))))))
def m_law_names : SF :=
  (fSeq (fSetS 2 (fC (.str "abcdefghijklmnopqrstuvwxyz0123456789")))
    (fSeq (fSetS 3 (fOp modD (fApp intFn (fCons (fVar 0) fNil)) (fC (.int 11))))
    (fSeq (fSetS 4 (fM1 joinD (fC (.str "")) (fLc (iRange1 (fCons (fVar 3) fNil)) (gNm 7) fYes (fOp ixA (fVar 2) (fOp modD (fApp intFn (fCons (fOp addD (fVar 0) (fOp mulD (fOp mulD (fC (.int 7)) (fVar 7)) (fVar 7))) fNil)) (fC (.int 36)))) [7])))
    (fSeq (fSetS 5 (fOp modD (fApp intFn (fCons (fOp fdivD (fVar 0) (fC (.int 11))) fNil)) (fOp addD (fVar 3) (fC (.int 1)))))
    (fSeq (fSet 6 (fLst fNil))
    (fSeq (fFor (iRange1 (fCons (fVar 1) fNil)) (gNm 7) m_law_names_b1)
    (fRetO 6)))))))
def F_law_names : List D → R (Bool × D) := runD 11 2 m_law_names
abbrev s_law_drawn : Stmt := topS 16
abbrev N_law_drawn : List Str := ["_law_numbers_here", "_law_at", "_law_many", "_law_names_here", "_law_k"]
abbrev P_law_drawn : List Str := ["_law_numbers_here", "_law_at", "_law_many", "_law_names_here"]
theorem sc_law_drawn : FnScope N_law_drawn P_law_drawn (defScope s_law_drawn) := ⟨rfl, rfl, rfl, by decide +kernel, rfl, by decide +kernel, by decide +kernel⟩
def m_law_drawn : SF :=
  (fRet (fLc (iRange1 (fCons (fVar 2) fNil)) (gNm 4) fYes (fTup (fCons (fOp ixA (fLst (fCons (fC (.str "in")) (fCons (fC (.str "out")) fNil))) (fOp modD (fApp intFn (fCons (fOp ixA (fVar 0) (fOp addD (fVar 1) (fOp mulD (fC (.int 2)) (fVar 4)))) fNil)) (fC (.int 2)))) (fCons (fOp ixA (fVar 3) (fOp modD (fApp intFn (fCons (fOp ixA (fVar 0) (fOp addD (fOp addD (fVar 1) (fOp mulD (fC (.int 2)) (fVar 4))) (fC (.int 1)))) fNil)) (fC (.int 5)))) fNil))) [4]))
def F_law_drawn : List D → R (Bool × D) := runD 5 4 m_law_drawn
abbrev s_law_kind : Stmt := topS 17
abbrev N_law_kind : List Str := ["_law_row_here", "_law_known", "_law_found", "_law_word", "_law_name"]
abbrev P_law_kind : List Str := ["_law_row_here"]
theorem sc_law_kind : FnScope N_law_kind P_law_kind (defScope s_law_kind) := ⟨rfl, rfl, rfl, by decide +kernel, rfl, by decide +kernel, by decide +kernel⟩
def m_law_kind_b1 : SF :=
  (fSeq (fIfS (fBorT (fTst (fOp (inA true) (fVar 4) (fVar 1)))) (fDropM (mMeth 1 opAppend (mLift (fVar 4)))) fSkip)
    (fDropM (mMeth 2 opAppend (mLift (fTup (fCons (fVar 3) (fCons (fOp addD (fC (.str "a")) (fBor (fApp strFn (fCons (fOp addD (fIndex (fVar 1) (fCons (fVar 4) fNil)) (fC (.int 1))) fNil)))) fNil)))))))
def m_law_kind : SF :=
  (fSeq (fSet 1 (fLst fNil))
    (fSeq (fSet 2 (fLst fNil))
    (fSeq (fFor (iSeq (fVar 0)) (gTp 2 (gsCons (gNm 3) (gsCons (gNm 4) gsNil))) m_law_kind_b1)
    (fFrz 2 (fFrz 1 (fRet (fTup (fCons (fVar 1) (fCons (fVar 2) fNil)))))))))
def F_law_kind : List D → R (Bool × D) := runD 5 1 m_law_kind
abbrev sis_name : Stmt := topS 6
theorem scis_name : FnScope Nis_name Pis_name (defScope sis_name) := ⟨rfl, rfl, rfl, by decide +kernel, rfl, by decide +kernel, by decide +kernel⟩
abbrev scheck_names : Stmt := topS 8
theorem sccheck_names : FnScope Ncheck_names Pcheck_names (defScope scheck_names) := ⟨rfl, rfl, rfl, by decide +kernel, rfl, by decide +kernel, by decide +kernel⟩
abbrev snames_of : Stmt := topS 9
theorem scnames_of : FnScope Nnames_of Pnames_of (defScope snames_of) := ⟨rfl, rfl, rfl, by decide +kernel, rfl, by decide +kernel, by decide +kernel⟩
abbrev skind_of : Stmt := topS 10
theorem sckind_of : FnScope Nkind_of Pkind_of (defScope skind_of) := ⟨rfl, rfl, rfl, by decide +kernel, rfl, by decide +kernel, by decide +kernel⟩
abbrev ssame_kind : Stmt := topS 11
theorem scsame_kind : FnScope Nsame_kind Psame_kind (defScope ssame_kind) := ⟨rfl, rfl, rfl, by decide +kernel, rfl, by decide +kernel, by decide +kernel⟩
abbrev slaw : Stmt := topS 18
abbrev Nlaw : List Str := ["_law_script", "_law_numbers_here", "_law_names_here", "_law_one", "_law_other", "_law_turn", "_law_place", "_law_handed", "_law_k", "_law_known", "_law_found", "_law_told", "_law_word", "_law_name"]
abbrev Plaw : List Str := ["_law_script"]
theorem sclaw : FnScope Nlaw Plaw (defScope slaw) := ⟨rfl, rfl, rfl, by decide +kernel, rfl, by decide +kernel, by decide +kernel⟩
def mlaw_b1 : SF :=
  (fSeq (fFrz 4 (fAsg (gTp 2 (gsCons (gNm 9) (gsCons (gNm 10) gsNil))) (fApp F_law_kind (fCons (fOp ixA (fLst (fCons (fVar 3) (fCons (fVar 4) fNil))) (fVar 8)) fNil))))
    (fIfS (fBorT (fOrT (fTst (fOp neD (fApp Fnames_of (fCons (fOp ixA (fVar 7) (fVar 8)) fNil)) (fVar 9))) (fTst (fOp neD (fApp reprFn (fCons (fApp Fkind_of (fCons (fOp ixA (fVar 7) (fVar 8)) fNil)) fNil)) (fApp reprFn (fCons (fVar 10) fNil)))))) (fRet (fC (.bl false))) fSkip))
def mlaw : SF :=
  (fSeq (fSetS 1 (fApp F_law_numbers (fCons (fVar 0) (fCons (fC (.int 60)) fNil))))
    (fSeq (fSetS 2 (fApp F_law_names (fCons (fOp ixA (fVar 1) (fC (.int 0))) (fCons (fC (.int 12)) fNil))))
    (fSeq (fSetS 3 (fApp F_law_drawn (fCons (fVar 1) (fCons (fC (.int 10)) (fCons (fOp modD (fApp intFn (fCons (fOp ixA (fVar 1) (fC (.int 1))) fNil)) (fC (.int 10))) (fCons (fSlice (fVar 2) oNone (oSome (fC (.int 5)))) fNil))))))
    (fSeq (fSet 4 (fApp F_law_drawn (fCons (fVar 1) (fCons (fC (.int 30)) (fCons (fOp modD (fApp intFn (fCons (fOp ixA (fVar 1) (fC (.int 2))) fNil)) (fC (.int 10))) (fCons (fSlice (fVar 2) (oSome (fC (.int 4))) (oSome (fC (.int 9)))) fNil))))))
    (fSeq (fIfS (fBorT (fTst (fOp eqD (fOp modD (fApp intFn (fCons (fOp ixA (fVar 1) (fC (.int 3))) fNil)) (fC (.int 2))) (fC (.int 1))))) (fSeq (fSetS 5 (fOp modD (fApp intFn (fCons (fOp ixA (fVar 1) (fC (.int 4))) fNil)) (fC (.int 5))))
    (fSeq (fSet 4 (fLc (iSeq (fVar 3)) (gTp 2 (gsCons (gNm 12) (gsCons (gNm 13) gsNil))) fYes (fTup (fCons (fVar 12) (fCons (fOp ixA (fVar 2) (fOp addD (fC (.int 3)) (fOp modD (fApp intFn (fCons (fOp addD (fIndex (fVar 2) (fCons (fVar 13) fNil)) (fVar 5)) fNil)) (fC (.int 5))))) fNil))) [12, 13]))
    (fIfS (fBorT (fAndT (fTst (fOp eqD (fOp modD (fApp intFn (fCons (fOp ixA (fVar 1) (fC (.int 5))) fNil)) (fC (.int 3))) (fC (.int 1)))) (fTst (fOp gtD (fApp lenA (fCons (fVar 4) fNil)) (fC (.int 0)))))) (fSeq (fSetS 6 (fBor (fOp modD (fApp intFn (fCons (fOp ixA (fVar 1) (fC (.int 6))) fNil)) (fApp lenA (fCons (fVar 4) fNil)))))
    (fPut 4 (fVar 6) (fTup (fCons (fOp ixA (fIxV 4 (fVar 6)) (fC (.int 0))) (fCons (fOp ixA (fVar 2) (fOp addD (fC (.int 3)) (fOp modD (fApp intFn (fCons (fOp ixA (fVar 1) (fC (.int 7))) fNil)) (fC (.int 5))))) fNil))))) fSkip))) fSkip)
    (fSeq (fFrz 4 (fSetS 7 (fLst (fCons (fApp listA (fCons (fVar 3) fNil)) (fCons (fApp listA (fCons (fVar 4) fNil)) fNil)))))
    (fSeq (fFor (iRange1 (fCons (fC (.int 2)) fNil)) (gNm 8) mlaw_b1)
    (fSeq (fSetS 11 (fApp Fsame_kind (fCons (fOp ixA (fVar 7) (fC (.int 0))) (fCons (fOp ixA (fVar 7) (fC (.int 1))) fNil))))
    (fSeq (fIfS (fBorT (fOrT (fNotT (fTru (fIsi "bool" (fVar 11)))) (fTst (fOp neD (fVar 11) (fOp eqD (fOp ixA (fApp F_law_kind (fCons (fVar 3) fNil)) (fC (.int 1))) (fOp ixA (fApp F_law_kind (fCons (fVar 4) fNil)) (fC (.int 1)))))))) (fRet (fC (.bl false))) fSkip)
    (fRet (fBor (fOp eqD (fVar 7) (fLst (fCons (fVar 3) (fCons (fVar 4) fNil)))))))))))))))
def Flaw : List D → R (Bool × D) := runD 14 1 mlaw
structure Txt (mg : Str → Option Value) : Prop where
  b_abs : mg "abs" = none
  b_int : mg "int" = none
  b_range : mg "range" = none
  b_max : mg "max" = none
  b_len : mg "len" = none
  b_min : mg "min" = none
  b_str : mg "str" = none
  b_all : mg "all" = none
  b_list : mg "list" = none
  b_enumerate : mg "enumerate" = none
  b_repr : mg "repr" = none
  b_isinstance : mg "isinstance" = none
  b_bool : mg "bool" = none
  g_MOST_NAME_CHARS : ∃ u, mg "MOST_NAME_CHARS" = some u ∧ RelV (.int 12) u
  g_NAME_CHARS : ∃ u, mg "NAME_CHARS" = some u ∧ RelV (.str "abcdefghijklmnopqrstuvwxyz0123456789") u
section
variable {P : Program} {w : World} {K : PySem.W.Frag} {mg : Str → Option Value} {base : Heap}
theorem cal_law_row {f : Addr} {fd : FuncData} (F : Fun K "_law_row" "_law_row" s_law_row f fd) (hm : mg "_law_row" = some (.ref f)) (bd : Binds K fd P_law_row []) (T : Txt mg) : Cal P w K mg base 1 "_law_row" 2 F_law_row :=
  have nd := sc_law_row.nd
  cal_of (N := N_law_row) (ps := P_law_row) (fs := m_law_row) F hm sc_law_row bd fun cdv A outer s H E hr tk po =>
    (fss_cons (fs_set nd (fe_lst fa_nil))
    (fss_cons (fs_setS nd (fe_callB call_abs lk_absFn (by rfl) T.b_abs bt_abs (fa_cons (fe_var 0) fa_nil)))
    (fss_cons (fs_setS nd (fe_bin op_modN lk_mod (fe_callTy call_int1 lk_intFn (by rfl) T.b_int bt_int (fa_cons (fe_bin op_addAny lk_add (fe_bin op_mul lk_mul (fe_var 3) fe_int) fe_int) fa_nil)) fe_int))
    (fss_cons (fs_for po rfl (fi_range1 (by rfl) T.b_range (fa_cons (fe_var 1) fa_nil)) (fg_name nd) (fss_cons (fs_setS nd (fe_bin op_modN lk_mod (fe_callTy call_int1 lk_intFn (by rfl) T.b_int bt_int (fa_cons (fe_bin op_addAny lk_add (fe_bin op_mul lk_mul (fe_var 4) fe_int) (fe_bin op_mul lk_mul fe_int (fe_bin op_addAny lk_add (fe_var 5) fe_int))) fa_nil)) fe_int))
    (fss_one (fs_if (ft_bor (ft_cmp (op_ge) lk_ge (fe_callB call_abs lk_absFn (by rfl) T.b_abs bt_abs (fa_cons (fe_var 0) fa_nil)) (fe_bin op_pow lk_pow fe_int fe_int))) (fss_cons (fs_exprM (fm_meth 2 PySem.F.slot_list_append PySem.F.type_list_append mt_append lk_append (fm_lift (fe_bin op_modN lk_mod (fe_callTy call_int1 lk_intFn (by rfl) T.b_int bt_int (fa_cons (fe_var 3) fa_nil)) fe_int))))
    (fss_one (fs_setS nd (fe_bin op_fdivN lk_fdiv (fe_var 3) fe_int)))) (fss_one (fs_exprM (fm_meth 2 PySem.F.slot_list_append PySem.F.type_list_append mt_append lk_append (fm_lift (fe_bin op_modN lk_mod (fe_callTy call_int1 lk_intFn (by rfl) T.b_int bt_int (fa_cons (fe_bin op_fdivN lk_fdiv (fe_var 4) fe_int) fa_nil)) fe_int)))))))))
    (fss_one (fs_retO 2))))))
theorem cal_law_numbers {f : Addr} {fd : FuncData} (F : Fun K "_law_numbers" "_law_numbers" s_law_numbers f fd) (hm : mg "_law_numbers" = some (.ref f)) (bd : Binds K fd P_law_numbers []) (T : Txt mg) (c_law_row : Cal P w K mg base 1 "_law_row" 2 F_law_row) : Cal P w K mg base 2 "_law_numbers" 2 F_law_numbers :=
  have nd := sc_law_numbers.nd
  cal_of (N := N_law_numbers) (ps := P_law_numbers) (fs := m_law_numbers) F hm sc_law_numbers bd fun cdv A outer s H E hr tk po =>
    (fss_cons (fs_setS nd (fe_slice (fe_var 0) fo_none (fo_some fe_int)))
    (fss_cons (fs_setS nd (fe_bin op_addAny lk_add fe_int (fe_bin op_fdivN lk_fdiv (fe_var 1) (fe_callB (call_max2 rfl) lk_maxFn (by rfl) T.b_max bt_max (fa_cons fe_int (fa_cons (fe_callB call_lenA lk_lenA (by rfl) T.b_len bt_len (fa_cons (fe_var 2) fa_nil)) fa_nil))))))
    (fss_cons (fs_set nd (fe_lst fa_nil))
    (fss_cons (fs_for po rfl (fi_seq (fe_var 2)) (fg_name nd) (fss_one (fs_for po rfl (fi_seq (fe_c c_law_row tk hr (fa_cons (fe_var 5) (fa_cons (fe_var 3) fa_nil)))) (fg_name nd) (fss_one (fs_exprM (fm_meth 4 PySem.F.slot_list_append PySem.F.type_list_append mt_append lk_append (fm_lift (fe_var 6))))))))
    (fss_cons (fs_while 1000000 po (ft_bor (ft_cmp (op_lt) lk_lt (fe_callB call_lenA lk_lenA (by rfl) T.b_len bt_len (fa_cons (fe_var 4) fa_nil)) (fe_var 1))) (fss_one (fs_exprM (fm_meth 4 PySem.F.slot_list_append PySem.F.type_list_append mt_append lk_append (fm_lift fe_int)))))
    (fss_one (fs_frz 4 (fs_ret (fe_slice (fe_var 4) fo_none (fo_some (fe_var 1)))))))))))
theorem cal_law_names {f : Addr} {fd : FuncData} (F : Fun K "_law_names" "_law_names" s_law_names f fd) (hm : mg "_law_names" = some (.ref f)) (bd : Binds K fd P_law_names []) (T : Txt mg) : Cal P w K mg base 1 "_law_names" 2 F_law_names :=
  have nd := sc_law_names.nd
  cal_of (N := N_law_names) (ps := P_law_names) (fs := m_law_names) F hm sc_law_names bd fun cdv A outer s H E hr tk po =>
    (fss_cons (fs_setS nd fe_str)
    (fss_cons (fs_setS nd (fe_bin op_modN lk_mod (fe_callTy call_int1 lk_intFn (by rfl) T.b_int bt_int (fa_cons (fe_var 0) fa_nil)) fe_int))
    (fss_cons (fs_setS nd (fe_join fe_str (fe_lc (own := [("_law_k", 7)]) rfl nd (fi_range1 (by rfl) T.b_range (fa_cons (fe_var 3) fa_nil)) (blkOk_by (N := N_law_names) (sc := defScope s_law_names) (by decide +kernel)) (fun _ _ _ _ _ => (fg_name nd)) (fun _ _ _ _ _ => fts_nil) (fun _ _ _ _ _ => (fe_ix (ix_any (hr.units)) lk_ixA (fe_var 2) (fe_bin op_modN lk_mod (fe_callTy call_int1 lk_intFn (by rfl) T.b_int bt_int (fa_cons (fe_bin op_addAny lk_add (fe_var 0) (fe_bin op_mul lk_mul (fe_bin op_mul lk_mul fe_int (fe_var 7)) (fe_var 7))) fa_nil)) fe_int))))))
    (fss_cons (fs_setS nd (fe_bin op_modN lk_mod (fe_callTy call_int1 lk_intFn (by rfl) T.b_int bt_int (fa_cons (fe_bin op_fdivN lk_fdiv (fe_var 0) fe_int) fa_nil)) (fe_bin op_addAny lk_add (fe_var 3) fe_int)))
    (fss_cons (fs_set nd (fe_lst fa_nil))
    (fss_cons (fs_for po rfl (fi_range1 (by rfl) T.b_range (fa_cons (fe_var 1) fa_nil)) (fg_name nd) (fss_cons (fs_setS nd (fe_var 4))
    (fss_cons (fs_if (ft_bor (ft_cmp (op_eqAny (hr.units)) lk_eq (fe_bin op_modN lk_mod (fe_callTy call_int1 lk_intFn (by rfl) T.b_int bt_int (fa_cons (fe_bin op_addAny lk_add (fe_bin op_fdivN lk_fdiv (fe_var 0) fe_int) (fe_var 7)) fa_nil)) fe_int) fe_int)) (fss_one (fs_setS nd (fe_slice (fe_var 4) (fo_some fe_int) fo_none))) fss_nil)
    (fss_cons (fs_setS nd (fe_callB (call_min2 rfl) lk_minFn (by rfl) T.b_min bt_min (fa_cons (fe_var 5) (fa_cons (fe_callB call_lenA lk_lenA (by rfl) T.b_len bt_len (fa_cons (fe_var 8) fa_nil)) fa_nil))))
    (fss_cons (fs_setS nd fe_int)
    (fss_cons (fs_if (ft_bor (ft_cmp (op_eqAny (hr.units)) lk_eq (fe_bin op_modN lk_mod (fe_callTy call_int1 lk_intFn (by rfl) T.b_int bt_int (fa_cons (fe_bin op_fdivN lk_fdiv (fe_var 0) fe_int) fa_nil)) fe_int) fe_int)) (fss_one (fs_setS nd fe_int)) fss_nil)
    (fss_one (fs_exprM (fm_meth 6 PySem.F.slot_list_append PySem.F.type_list_append mt_append lk_append (fm_lift (fe_bin op_addAny lk_add (fe_bin op_addAny lk_add (fe_bin op_addAny lk_add (fe_ix (ix_any (hr.units)) lk_ixA (fe_var 2) (fe_bin op_modN lk_mod (fe_callTy call_int1 lk_intFn (by rfl) T.b_int bt_int (fa_cons (fe_bin op_addAny lk_add (fe_var 0) (fe_bin op_mul lk_mul fe_int (fe_var 7))) fa_nil)) fe_int)) (fe_slice (fe_var 8) fo_none (fo_some (fe_var 9)))) (fe_ix (ix_any (hr.units)) lk_ixA (fe_var 2) (fe_bin op_modN lk_mod (fe_callTy call_int1 lk_intFn (by rfl) T.b_int bt_int (fa_cons (fe_bin op_addAny lk_add (fe_var 0) (fe_bin op_mul lk_mul (fe_var 10) (fe_var 7))) fa_nil)) fe_int))) (fe_slice (fe_var 8) (fo_some (fe_var 9)) fo_none))))))))))))
    (fss_one (fs_retO 6))))))))
theorem cal_law_drawn {f : Addr} {fd : FuncData} (F : Fun K "_law_drawn" "_law_drawn" s_law_drawn f fd) (hm : mg "_law_drawn" = some (.ref f)) (bd : Binds K fd P_law_drawn []) (T : Txt mg) : Cal P w K mg base 1 "_law_drawn" 4 F_law_drawn :=
  have nd := sc_law_drawn.nd
  cal_of (N := N_law_drawn) (ps := P_law_drawn) (fs := m_law_drawn) F hm sc_law_drawn bd fun cdv A outer s H E hr tk po =>
    (fss_one (fs_ret (fe_lc (own := [("_law_k", 4)]) rfl nd (fi_range1 (by rfl) T.b_range (fa_cons (fe_var 2) fa_nil)) (blkOk_by (N := N_law_drawn) (sc := defScope s_law_drawn) (by decide +kernel)) (fun _ _ _ _ _ => (fg_name nd)) (fun _ _ _ _ _ => fts_nil) (fun _ _ _ _ _ => (fe_tup (fa_cons (fe_ix (ix_any (hr.units)) lk_ixA (fe_lst (fa_cons fe_str (fa_cons fe_str fa_nil))) (fe_bin op_modN lk_mod (fe_callTy call_int1 lk_intFn (by rfl) T.b_int bt_int (fa_cons (fe_ix (ix_any (hr.units)) lk_ixA (fe_var 0) (fe_bin op_addAny lk_add (fe_var 1) (fe_bin op_mul lk_mul fe_int (fe_var 4)))) fa_nil)) fe_int)) (fa_cons (fe_ix (ix_any (hr.units)) lk_ixA (fe_var 3) (fe_bin op_modN lk_mod (fe_callTy call_int1 lk_intFn (by rfl) T.b_int bt_int (fa_cons (fe_ix (ix_any (hr.units)) lk_ixA (fe_var 0) (fe_bin op_addAny lk_add (fe_bin op_addAny lk_add (fe_var 1) (fe_bin op_mul lk_mul fe_int (fe_var 4))) fe_int)) fa_nil)) fe_int)) fa_nil)))))))
theorem cal_law_kind {f : Addr} {fd : FuncData} (F : Fun K "_law_kind" "_law_kind" s_law_kind f fd) (hm : mg "_law_kind" = some (.ref f)) (bd : Binds K fd P_law_kind []) (T : Txt mg) : Cal P w K mg base 1 "_law_kind" 1 F_law_kind :=
  have nd := sc_law_kind.nd
  cal_of (N := N_law_kind) (ps := P_law_kind) (fs := m_law_kind) F hm sc_law_kind bd fun cdv A outer s H E hr tk po =>
    (fss_cons (fs_set nd (fe_lst fa_nil))
    (fss_cons (fs_set nd (fe_lst fa_nil))
    (fss_cons (fs_for po rfl (fi_seq (fe_var 0)) (fg_tup rfl (fgs_cons (fg_name nd) (fgs_cons (fg_name nd) fgs_nil))) (fss_cons (fs_if (ft_bor (ft_cmp (op_notInA (hr.units)) (lk_inA true) (fe_var 4) (fe_var 1))) (fss_one (fs_exprM (fm_meth 1 PySem.F.slot_list_append PySem.F.type_list_append mt_append lk_append (fm_lift (fe_var 4))))) fss_nil)
    (fss_one (fs_exprM (fm_meth 2 PySem.F.slot_list_append PySem.F.type_list_append mt_append lk_append (fm_lift (fe_tup (fa_cons (fe_var 3) (fa_cons (fe_bin op_addAny lk_add fe_str (fe_bor (fe_callTy call_str_int lk_strFn (by rfl) T.b_str bt_str (fa_cons (fe_bin op_addAny lk_add (fe_index (fe_var 1) (fa_cons (fe_var 4) fa_nil)) fe_int) fa_nil)))) fa_nil)))))))))
    (fss_one (fs_frz 2 (fs_frz 1 (fs_ret (fe_tup (fa_cons (fe_var 1) (fa_cons (fe_var 2) fa_nil))))))))))
theorem calis_name {f : Addr} {fd : FuncData} (F : Fun K "is_name" "is_name" sis_name f fd) (hm : mg "is_name" = some (.ref f)) (bd : Binds K fd Pis_name []) (T : Txt mg) : Cal P w K mg base 1 "is_name" 1 Fis_name :=
  have nd := scis_name.nd
  cal_of (N := Nis_name) (ps := Pis_name) (fs := mis_name) F hm scis_name bd fun cdv A outer s H E hr tk po =>
    (fss_cons (fs_if (ft_bor (ft_w (fw_or (ft_not (ft_chain (op_le) lk_le (op_le) lk_le fe_int (fe_callB call_lenA lk_lenA (by rfl) T.b_len bt_len (fa_cons (fe_var 0) fa_nil)) (fe_glI T.g_MOST_NAME_CHARS))) (fw_or1 (ft_cmp (op_inA (hr.units)) (lk_inA false) (fe_ix (ix_any (hr.units)) lk_ixA (fe_var 0) fe_int) fe_str))))) (fss_one (fs_ret fe_bl)) fss_nil)
    (fss_one (fs_ret (fe_callB (cr_all rfl) lk_bools (by rfl) T.b_all bt_all (fa_cons (fe_lc (own := [("char", 1)]) rfl nd (fi_seq (fe_var 0)) (blkOk_by (N := Nis_name) (sc := defScope sis_name) (by decide +kernel)) (fun _ _ _ _ _ => (fg_name nd)) (fun _ _ _ _ _ => fts_nil) (fun _ _ _ _ _ => (fe_cmp (op_inA (hr.units)) (lk_inA false) (fe_var 1) (fe_glS T.g_NAME_CHARS)))) fa_nil)))))
theorem calcheck_names {f : Addr} {fd : FuncData} (F : Fun K "check_names" "check_names" scheck_names f fd) (hm : mg "check_names" = some (.ref f)) (bd : Binds K fd Pcheck_names []) (T : Txt mg) (cis_name : Cal P w K mg base 1 "is_name" 1 Fis_name) : Cal P w K mg base 2 "check_names" 1 Fcheck_names :=
  have nd := sccheck_names.nd
  cal_of (N := Ncheck_names) (ps := Pcheck_names) (fs := mcheck_names) F hm sccheck_names bd fun cdv A outer s H E hr tk po =>
    (fss_one (fs_if (ft_bor (ft_not (ft_tru (fe_callB (cr_all rfl) lk_bools (by rfl) T.b_all bt_all (fa_cons (fe_lc (own := [("_", 1), ("name", 2)]) rfl nd (fi_seq (fe_var 0)) (blkOk_by (N := Ncheck_names) (sc := defScope scheck_names) (by decide +kernel)) (fun _ _ _ _ _ => (fg_tup rfl (fgs_cons (fg_name nd) (fgs_cons (fg_name nd) fgs_nil)))) (fun _ _ _ _ _ => fts_nil) (fun _ _ _ _ _ => (fe_c cis_name takes0 hr (fa_cons (fe_var 2) fa_nil)))) fa_nil))))) (fss_one fs_stk) fss_nil))
theorem calnames_of {f : Addr} {fd : FuncData} (F : Fun K "names_of" "names_of" snames_of f fd) (hm : mg "names_of" = some (.ref f)) (bd : Binds K fd Pnames_of []) (T : Txt mg) (ccheck_names : Cal P w K mg base 2 "check_names" 1 Fcheck_names) : Cal P w K mg base 3 "names_of" 1 Fnames_of :=
  have nd := scnames_of.nd
  cal_of (N := Nnames_of) (ps := Pnames_of) (fs := mnames_of) F hm scnames_of bd fun cdv A outer s H E hr tk po =>
    (fss_cons (fs_exprM (fm_lift (fe_c ccheck_names tk hr (fa_cons (fe_var 0) fa_nil))))
    (fss_one (fs_ret (fe_callTy (call_listA rfl) lk_listA (by rfl) T.b_list bt_list (fa_cons (fe_dc (own := [("_", 1), ("name", 2)]) rfl nd (fi_seq (fe_var 0)) (blkOk_by (N := Nnames_of) (sc := defScope snames_of) (by decide +kernel)) (fun _ _ _ _ _ => (fg_tup rfl (fgs_cons (fg_name nd) (fgs_cons (fg_name nd) fgs_nil)))) (fun _ _ _ _ _ => fts_nil) (fun _ _ _ _ _ => (fe_var 2)) (fun _ _ _ _ _ => fe_bl)) fa_nil)))))
theorem calkind_of {f : Addr} {fd : FuncData} (F : Fun K "kind_of" "kind_of" skind_of f fd) (hm : mg "kind_of" = some (.ref f)) (bd : Binds K fd Pkind_of []) (T : Txt mg) (cnames_of : Cal P w K mg base 3 "names_of" 1 Fnames_of) : Cal P w K mg base 4 "kind_of" 1 Fkind_of :=
  have nd := sckind_of.nd
  cal_of (N := Nkind_of) (ps := Pkind_of) (fs := mkind_of) F hm sckind_of bd fun cdv A outer s H E hr tk po =>
    (fss_cons (fs_setS nd (fe_dc (own := [("number", 2), ("name", 3)]) rfl nd (fi_enum1 (by rfl) T.b_enumerate (fa_cons (fe_c cnames_of tk hr (fa_cons (fe_var 0) fa_nil)) fa_nil)) (blkOk_by (N := Nkind_of) (sc := defScope skind_of) (by decide +kernel)) (fun _ _ _ _ _ => (fg_tup rfl (fgs_cons (fg_name nd) (fgs_cons (fg_name nd) fgs_nil)))) (fun _ _ _ _ _ => fts_nil) (fun _ _ _ _ _ => (fe_var 3)) (fun _ _ _ _ _ => (fe_bin op_addAny lk_add (fe_var 2) fe_int))))
    (fss_one (fs_ret (fe_lc (own := [("word", 4), ("name", 3)]) rfl nd (fi_seq (fe_var 0)) (blkOk_by (N := Nkind_of) (sc := defScope skind_of) (by decide +kernel)) (fun _ _ _ _ _ => (fg_tup rfl (fgs_cons (fg_name nd) (fgs_cons (fg_name nd) fgs_nil)))) (fun _ _ _ _ _ => fts_nil) (fun _ _ _ _ _ => (fe_tup (fa_cons (fe_var 4) (fa_cons (fe_js (fj_cons fe_str (fj_cons (fe_fmt (fe_ix (ix_any (hr.units)) lk_ixA (fe_var 1) (fe_var 3))) fj_nil))) fa_nil))))))))
theorem calsame_kind {f : Addr} {fd : FuncData} (F : Fun K "same_kind" "same_kind" ssame_kind f fd) (hm : mg "same_kind" = some (.ref f)) (bd : Binds K fd Psame_kind []) (T : Txt mg) (ckind_of : Cal P w K mg base 4 "kind_of" 1 Fkind_of) : Cal P w K mg base 5 "same_kind" 2 Fsame_kind :=
  have nd := scsame_kind.nd
  cal_of (N := Nsame_kind) (ps := Psame_kind) (fs := msame_kind) F hm scsame_kind bd fun cdv A outer s H E hr tk po =>
    (fss_one (fs_ret (fe_cmp (op_eqAny (hr.units)) lk_eq (fe_c ckind_of tk hr (fa_cons (fe_var 0) fa_nil)) (fe_c ckind_of tk hr (fa_cons (fe_var 1) fa_nil)))))
theorem fss_law {f : Addr} (T : Txt mg) (c_law_numbers : Cal P w K mg base 2 "_law_numbers" 2 F_law_numbers) (c_law_names : Cal P w K mg base 1 "_law_names" 2 F_law_names) (c_law_drawn : Cal P w K mg base 1 "_law_drawn" 4 F_law_drawn) (c_law_kind : Cal P w K mg base 1 "_law_kind" 1 F_law_kind) (cnames_of : Cal P w K mg base 3 "names_of" 1 Fnames_of) (ckind_of : Cal P w K mg base 4 "kind_of" 1 Fkind_of) (csame_kind : Cal P w K mg base 5 "same_kind" 2 Fsame_kind) (cdv : Value) (s : Shared) (H : Hp) : FSs (cxOf (CX P w) P w K mg base Nlaw "law" (defScope slaw) f cdv callerA [] s H fun _ _ _ => False) WN (defBody slaw) mlaw :=
  have nd := sclaw.nd
  have hr : Room 5 (callerA.deeper (PyProof.Rows.envOfC "law" (defScope slaw) s.heap.objs.size f cdv)) := (room_law _).mono (by decide)
  have hgd : (callerA.deeper (PyProof.Rows.envOfC "law" (defScope slaw) s.heap.objs.size f cdv)).guards = some [] := rfl
  have tk : Takes (cxOf (CX P w) P w K mg base Nlaw "law" (defScope slaw) f cdv callerA [] s H fun _ _ _ => False) WN := takes0
  have po : PassesOwn (model P w) (cxOf (CX P w) P w K mg base Nlaw "law" (defScope slaw) f cdv callerA [] s H fun _ _ _ => False).A (cxOf (CX P w) P w K mg base Nlaw "law" (defScope slaw) f cdv callerA [] s H fun _ _ _ => False).env (cxOf (CX P w) P w K mg base Nlaw "law" (defScope slaw) f cdv callerA [] s H fun _ _ _ => False).xe := PassesOwn.leaving
  (fss_cons (fs_setS nd (fe_c c_law_numbers tk hr (fa_cons (fe_var 0) (fa_cons fe_int fa_nil))))
    (fss_cons (fs_setS nd (fe_c c_law_names tk hr (fa_cons (fe_ix (ix_any (hr.units)) lk_ixA (fe_var 1) fe_int) (fa_cons fe_int fa_nil))))
    (fss_cons (fs_setS nd (fe_c c_law_drawn tk hr (fa_cons (fe_var 1) (fa_cons fe_int (fa_cons (fe_bin op_modN lk_mod (fe_callTy call_int1 lk_intFn (by rfl) T.b_int bt_int (fa_cons (fe_ix (ix_any (hr.units)) lk_ixA (fe_var 1) fe_int) fa_nil)) fe_int) (fa_cons (fe_slice (fe_var 2) fo_none (fo_some fe_int)) fa_nil))))))
    (fss_cons (fs_set nd (fe_c c_law_drawn tk hr (fa_cons (fe_var 1) (fa_cons fe_int (fa_cons (fe_bin op_modN lk_mod (fe_callTy call_int1 lk_intFn (by rfl) T.b_int bt_int (fa_cons (fe_ix (ix_any (hr.units)) lk_ixA (fe_var 1) fe_int) fa_nil)) fe_int) (fa_cons (fe_slice (fe_var 2) (fo_some fe_int) (fo_some fe_int)) fa_nil))))))
    (fss_cons (fs_if (ft_bor (ft_cmp (op_eqAny (hr.units)) lk_eq (fe_bin op_modN lk_mod (fe_callTy call_int1 lk_intFn (by rfl) T.b_int bt_int (fa_cons (fe_ix (ix_any (hr.units)) lk_ixA (fe_var 1) fe_int) fa_nil)) fe_int) fe_int)) (fss_cons (fs_setS nd (fe_bin op_modN lk_mod (fe_callTy call_int1 lk_intFn (by rfl) T.b_int bt_int (fa_cons (fe_ix (ix_any (hr.units)) lk_ixA (fe_var 1) fe_int) fa_nil)) fe_int))
    (fss_cons (fs_setLc (own := [("_law_word", 12), ("_law_name", 13)]) rfl nd (sw_true rfl rfl rfl (by decide +kernel)) (fi_seq (fe_var 3)) (blkOk_by (N := Nlaw) (sc := defScope slaw) (by decide +kernel)) (fun _ _ _ _ _ => (fg_tup rfl (fgs_cons (fg_name nd) (fgs_cons (fg_name nd) fgs_nil)))) (fun _ _ _ _ _ => fts_nil) (fun _ _ _ _ _ => (fe_tup (fa_cons (fe_var 12) (fa_cons (fe_ix (ix_any (hr.units)) lk_ixA (fe_var 2) (fe_bin op_addAny lk_add fe_int (fe_bin op_modN lk_mod (fe_callTy call_int1 lk_intFn (by rfl) T.b_int bt_int (fa_cons (fe_bin op_addAny lk_add (fe_index (fe_var 2) (fa_cons (fe_var 13) fa_nil)) (fe_var 5)) fa_nil)) fe_int))) fa_nil)))))
    (fss_one (fs_if (ft_bor (ft_w (fw_and (ft_cmp (op_eqAny (hr.units)) lk_eq (fe_bin op_modN lk_mod (fe_callTy call_int1 lk_intFn (by rfl) T.b_int bt_int (fa_cons (fe_ix (ix_any (hr.units)) lk_ixA (fe_var 1) fe_int) fa_nil)) fe_int) fe_int) (fw_and1 (ft_cmp (op_gt) lk_gt (fe_callB call_lenA lk_lenA (by rfl) T.b_len bt_len (fa_cons (fe_var 4) fa_nil)) fe_int))))) (fss_cons (fs_setS nd (fe_bor (fe_bin op_modN lk_mod (fe_callTy call_int1 lk_intFn (by rfl) T.b_int bt_int (fa_cons (fe_ix (ix_any (hr.units)) lk_ixA (fe_var 1) fe_int) fa_nil)) (fe_callB call_lenA lk_lenA (by rfl) T.b_len bt_len (fa_cons (fe_var 4) fa_nil)))))
    (fss_one (fs_put 4 (hr.units) (fe_tup (fa_cons (fe_ix (ix_any (hr.units)) lk_ixA (fe_ixV 4 (fe_var 6)) fe_int) (fa_cons (fe_ix (ix_any (hr.units)) lk_ixA (fe_var 2) (fe_bin op_addAny lk_add fe_int (fe_bin op_modN lk_mod (fe_callTy call_int1 lk_intFn (by rfl) T.b_int bt_int (fa_cons (fe_ix (ix_any (hr.units)) lk_ixA (fe_var 1) fe_int) fa_nil)) fe_int))) fa_nil))) (fe_var 6)))) fss_nil)))) fss_nil)
    (fss_cons (fs_frz 4 (fs_setS nd (fe_lst (fa_cons (fe_callTy (call_listA rfl) lk_listA (by rfl) T.b_list bt_list (fa_cons (fe_var 3) fa_nil)) (fa_cons (fe_callTy (call_listA rfl) lk_listA (by rfl) T.b_list bt_list (fa_cons (fe_var 4) fa_nil)) fa_nil)))))
    (fss_cons (fs_for po rfl (fi_range1 (by rfl) T.b_range (fa_cons fe_int fa_nil)) (fg_name nd) (fss_cons (fs_frz 4 (fs_asg (fe_c c_law_kind tk hr (fa_cons (fe_ix (ix_any (hr.units)) lk_ixA (fe_lst (fa_cons (fe_var 3) (fa_cons (fe_var 4) fa_nil))) (fe_var 8)) fa_nil)) (fg_tup rfl (fgs_cons (fg_name nd) (fgs_cons (fg_name nd) fgs_nil)))))
    (fss_one (fs_if (ft_bor (ft_w (fw_or (ft_cmp (op_neAny (hr.units)) lk_ne (fe_c cnames_of tk hr (fa_cons (fe_ix (ix_any (hr.units)) lk_ixA (fe_var 7) (fe_var 8)) fa_nil)) (fe_var 9)) (fw_or1 (ft_cmp (op_neAny (hr.units)) lk_ne (fe_callB (cr_repr hgd hr.units) lk_repr (by rfl) T.b_repr bt_repr (fa_cons (fe_c ckind_of tk hr (fa_cons (fe_ix (ix_any (hr.units)) lk_ixA (fe_var 7) (fe_var 8)) fa_nil)) fa_nil)) (fe_callB (cr_repr hgd hr.units) lk_repr (by rfl) T.b_repr bt_repr (fa_cons (fe_var 10) fa_nil))))))) (fss_one (fs_ret fe_bl)) fss_nil))))
    (fss_cons (fs_setS nd (fe_c csame_kind tk hr (fa_cons (fe_ix (ix_any (hr.units)) lk_ixA (fe_var 7) fe_int) (fa_cons (fe_ix (ix_any (hr.units)) lk_ixA (fe_var 7) fe_int) fa_nil))))
    (fss_cons (fs_if (ft_bor (ft_w (fw_or (ft_not (ft_tru (fe_isi (fe_var 11) (by rfl) T.b_isinstance (by rfl) T.b_bool bt_bool))) (fw_or1 (ft_cmp (op_neAny (hr.units)) lk_ne (fe_var 11) (fe_cmp (op_eqAny (hr.units)) lk_eq (fe_ix (ix_any (hr.units)) lk_ixA (fe_c c_law_kind tk hr (fa_cons (fe_var 3) fa_nil)) fe_int) (fe_ix (ix_any (hr.units)) lk_ixA (fe_c c_law_kind tk hr (fa_cons (fe_var 4) fa_nil)) fe_int))))))) (fss_one (fs_ret fe_bl)) fss_nil)
    (fss_one (fs_ret (fe_bor (fe_cmp (op_eqAny (hr.units)) lk_eq (fe_var 7) (fe_lst (fa_cons (fe_var 3) (fa_cons (fe_var 4) fa_nil))))))))))))))))
end
theorem all_mk {l : PySem.W.OpenLaw} {w : World} {K : PySem.W.Frag} {h : Heap} {mg : Str → Option Value} {fa f0 f1 f2 f3 f4 f5 f6 f7 f8 f9 f10 : Addr} (X : K.In h) (G : h.Ns mainGlobals mg) (hfa : mg "law" = some (.ref fa))
    {oc0 kV0 dc0 pm0 cd0 ct0 : Value} {od0 an0 : Option Addr} {sl0 : Array (Option Value)} {oc1 kV1 dc1 pm1 cd1 ct1 : Value} {od1 an1 : Option Addr} {sl1 : Array (Option Value)} {oc2 kV2 dc2 pm2 cd2 ct2 : Value} {od2 an2 : Option Addr} {sl2 : Array (Option Value)} {oc3 kV3 dc3 pm3 cd3 ct3 : Value} {od3 an3 : Option Addr} {sl3 : Array (Option Value)} {oc4 kV4 dc4 pm4 cd4 ct4 : Value} {od4 an4 : Option Addr} {sl4 : Array (Option Value)} {oc5 kV5 dc5 pm5 cd5 ct5 : Value} {od5 an5 : Option Addr} {sl5 : Array (Option Value)} {oc6 kV6 dc6 pm6 cd6 ct6 : Value} {od6 an6 : Option Addr} {sl6 : Array (Option Value)} {oc7 kV7 dc7 pm7 cd7 ct7 : Value} {od7 an7 : Option Addr} {sl7 : Array (Option Value)} {oc8 kV8 dc8 pm8 cd8 ct8 : Value} {od8 an8 : Option Addr} {sl8 : Array (Option Value)} {oc9 kV9 dc9 pm9 cd9 ct9 : Value} {od9 an9 : Option Addr} {sl9 : Array (Option Value)} {oc10 kV10 dc10 pm10 cd10 ct10 : Value} {od10 an10 : Option Addr} {sl10 : Array (Option Value)} {u_MOST_NAME_CHARS : Value} {u_NAME_CHARS : Value}
    (a0 : PySem.W.nsIn K mainGlobals "_law_row" = some (some (.ref f0)))
    (l0 : K.lookup f0 = some ⟨oc0, od0, .func (PySem.W.fnOf "_law_row" "_law_row" (defArgs s_law_row) (defBody s_law_row) (defScope s_law_row) .none kV0 dc0 pm0 an0 cd0 ct0), sl0⟩)
    (c0 : PySem.W.codeIn K cd0 "_law_row" = true)
    (k0 : PySem.W.keepIn K (.ref f0) = true)
    (a1 : PySem.W.nsIn K mainGlobals "_law_numbers" = some (some (.ref f1)))
    (l1 : K.lookup f1 = some ⟨oc1, od1, .func (PySem.W.fnOf "_law_numbers" "_law_numbers" (defArgs s_law_numbers) (defBody s_law_numbers) (defScope s_law_numbers) .none kV1 dc1 pm1 an1 cd1 ct1), sl1⟩)
    (c1 : PySem.W.codeIn K cd1 "_law_numbers" = true)
    (k1 : PySem.W.keepIn K (.ref f1) = true)
    (a2 : PySem.W.nsIn K mainGlobals "_law_names" = some (some (.ref f2)))
    (l2 : K.lookup f2 = some ⟨oc2, od2, .func (PySem.W.fnOf "_law_names" "_law_names" (defArgs s_law_names) (defBody s_law_names) (defScope s_law_names) .none kV2 dc2 pm2 an2 cd2 ct2), sl2⟩)
    (c2 : PySem.W.codeIn K cd2 "_law_names" = true)
    (k2 : PySem.W.keepIn K (.ref f2) = true)
    (a3 : PySem.W.nsIn K mainGlobals "_law_drawn" = some (some (.ref f3)))
    (l3 : K.lookup f3 = some ⟨oc3, od3, .func (PySem.W.fnOf "_law_drawn" "_law_drawn" (defArgs s_law_drawn) (defBody s_law_drawn) (defScope s_law_drawn) .none kV3 dc3 pm3 an3 cd3 ct3), sl3⟩)
    (c3 : PySem.W.codeIn K cd3 "_law_drawn" = true)
    (k3 : PySem.W.keepIn K (.ref f3) = true)
    (a4 : PySem.W.nsIn K mainGlobals "_law_kind" = some (some (.ref f4)))
    (l4 : K.lookup f4 = some ⟨oc4, od4, .func (PySem.W.fnOf "_law_kind" "_law_kind" (defArgs s_law_kind) (defBody s_law_kind) (defScope s_law_kind) .none kV4 dc4 pm4 an4 cd4 ct4), sl4⟩)
    (c4 : PySem.W.codeIn K cd4 "_law_kind" = true)
    (k4 : PySem.W.keepIn K (.ref f4) = true)
    (a5 : PySem.W.nsIn K mainGlobals "is_name" = some (some (.ref f5)))
    (l5 : K.lookup f5 = some ⟨oc5, od5, .func (PySem.W.fnOf "is_name" "is_name" (defArgs sis_name) (defBody sis_name) (defScope sis_name) .none kV5 dc5 pm5 an5 cd5 ct5), sl5⟩)
    (c5 : PySem.W.codeIn K cd5 "is_name" = true)
    (k5 : PySem.W.keepIn K (.ref f5) = true)
    (a6 : PySem.W.nsIn K mainGlobals "check_names" = some (some (.ref f6)))
    (l6 : K.lookup f6 = some ⟨oc6, od6, .func (PySem.W.fnOf "check_names" "check_names" (defArgs scheck_names) (defBody scheck_names) (defScope scheck_names) .none kV6 dc6 pm6 an6 cd6 ct6), sl6⟩)
    (c6 : PySem.W.codeIn K cd6 "check_names" = true)
    (k6 : PySem.W.keepIn K (.ref f6) = true)
    (a7 : PySem.W.nsIn K mainGlobals "names_of" = some (some (.ref f7)))
    (l7 : K.lookup f7 = some ⟨oc7, od7, .func (PySem.W.fnOf "names_of" "names_of" (defArgs snames_of) (defBody snames_of) (defScope snames_of) .none kV7 dc7 pm7 an7 cd7 ct7), sl7⟩)
    (c7 : PySem.W.codeIn K cd7 "names_of" = true)
    (k7 : PySem.W.keepIn K (.ref f7) = true)
    (a8 : PySem.W.nsIn K mainGlobals "kind_of" = some (some (.ref f8)))
    (l8 : K.lookup f8 = some ⟨oc8, od8, .func (PySem.W.fnOf "kind_of" "kind_of" (defArgs skind_of) (defBody skind_of) (defScope skind_of) .none kV8 dc8 pm8 an8 cd8 ct8), sl8⟩)
    (c8 : PySem.W.codeIn K cd8 "kind_of" = true)
    (k8 : PySem.W.keepIn K (.ref f8) = true)
    (a9 : PySem.W.nsIn K mainGlobals "same_kind" = some (some (.ref f9)))
    (l9 : K.lookup f9 = some ⟨oc9, od9, .func (PySem.W.fnOf "same_kind" "same_kind" (defArgs ssame_kind) (defBody ssame_kind) (defScope ssame_kind) .none kV9 dc9 pm9 an9 cd9 ct9), sl9⟩)
    (c9 : PySem.W.codeIn K cd9 "same_kind" = true)
    (k9 : PySem.W.keepIn K (.ref f9) = true)
    (a10 : PySem.W.nsIn K mainGlobals "law" = some (some (.ref f10)))
    (l10 : K.lookup f10 = some ⟨oc10, od10, .func (PySem.W.fnOf "law" "law" (defArgs slaw) (defBody slaw) (defScope slaw) .none kV10 dc10 pm10 an10 cd10 ct10), sl10⟩)
    (c10 : PySem.W.codeIn K cd10 "law" = true)
    (k10 : PySem.W.keepIn K (.ref f10) = true)
    (z_abs : PySem.W.nsIn K mainGlobals "abs" = some none)
    (z_int : PySem.W.nsIn K mainGlobals "int" = some none)
    (z_range : PySem.W.nsIn K mainGlobals "range" = some none)
    (z_max : PySem.W.nsIn K mainGlobals "max" = some none)
    (z_len : PySem.W.nsIn K mainGlobals "len" = some none)
    (z_min : PySem.W.nsIn K mainGlobals "min" = some none)
    (z_str : PySem.W.nsIn K mainGlobals "str" = some none)
    (z_all : PySem.W.nsIn K mainGlobals "all" = some none)
    (z_list : PySem.W.nsIn K mainGlobals "list" = some none)
    (z_enumerate : PySem.W.nsIn K mainGlobals "enumerate" = some none)
    (z_repr : PySem.W.nsIn K mainGlobals "repr" = some none)
    (z_isinstance : PySem.W.nsIn K mainGlobals "isinstance" = some none)
    (z_bool : PySem.W.nsIn K mainGlobals "bool" = some none)
    (y_MOST_NAME_CHARS : PySem.W.nsIn K mainGlobals "MOST_NAME_CHARS" = some (some u_MOST_NAME_CHARS))
    (r_MOST_NAME_CHARS : RelV (.int 12) u_MOST_NAME_CHARS)
    (y_NAME_CHARS : PySem.W.nsIn K mainGlobals "NAME_CHARS" = some (some u_NAME_CHARS))
    (r_NAME_CHARS : RelV (.str "abcdefghijklmnopqrstuvwxyz0123456789") u_NAME_CHARS)
    : ∃ fd : FuncData, Fun K "law" "law" slaw fa fd ∧ (∀ (s : Shared) (u : Value), BindsTo s fd ⟨[u], []⟩ [("_law_script", u)]) ∧ ∀ (base : Heap) (cdv : Value) (s : Shared) (H : Hp), K.In base → base.Ns mainGlobals mg → FSs (cxOf (CX l.prog w) l.prog w K mg base Nlaw "law" (defScope slaw) fa cdv callerA [] s H fun _ _ _ => False) WN (defBody slaw) mlaw := by
  have e := hfa.symm.trans (PySem.W.mg_of X G a10)
  cases e
  have T : Txt mg := ⟨PySem.W.mg_none_of X G z_abs, PySem.W.mg_none_of X G z_int, PySem.W.mg_none_of X G z_range, PySem.W.mg_none_of X G z_max, PySem.W.mg_none_of X G z_len, PySem.W.mg_none_of X G z_min, PySem.W.mg_none_of X G z_str, PySem.W.mg_none_of X G z_all, PySem.W.mg_none_of X G z_list, PySem.W.mg_none_of X G z_enumerate, PySem.W.mg_none_of X G z_repr, PySem.W.mg_none_of X G z_isinstance, PySem.W.mg_none_of X G z_bool, ⟨_, PySem.W.mg_of X G y_MOST_NAME_CHARS, r_MOST_NAME_CHARS⟩, ⟨_, PySem.W.mg_of X G y_NAME_CHARS, r_NAME_CHARS⟩⟩
  refine ⟨_, fun_mk (st := slaw) l10 c10 k10, fun s v => .of_eq rfl, fun base cdv s H _ _ => ?_⟩
  have b0 := (fun_mk (st := s_law_row) l0 c0 k0).binds (ps := P_law_row) fun _ _ _ _ _ _ us hl => match us, hl with | [_, _], _ => rfl
  have C_law_row := cal_law_row (P := l.prog) (w := w) (base := base) (fun_mk (st := s_law_row) l0 c0 k0) (PySem.W.mg_of X G a0) b0 T 
  have b1 := (fun_mk (st := s_law_numbers) l1 c1 k1).binds (ps := P_law_numbers) fun _ _ _ _ _ _ us hl => match us, hl with | [_, _], _ => rfl
  have C_law_numbers := cal_law_numbers (P := l.prog) (w := w) (base := base) (fun_mk (st := s_law_numbers) l1 c1 k1) (PySem.W.mg_of X G a1) b1 T C_law_row
  have b2 := (fun_mk (st := s_law_names) l2 c2 k2).binds (ps := P_law_names) fun _ _ _ _ _ _ us hl => match us, hl with | [_, _], _ => rfl
  have C_law_names := cal_law_names (P := l.prog) (w := w) (base := base) (fun_mk (st := s_law_names) l2 c2 k2) (PySem.W.mg_of X G a2) b2 T 
  have b3 := (fun_mk (st := s_law_drawn) l3 c3 k3).binds (ps := P_law_drawn) fun _ _ _ _ _ _ us hl => match us, hl with | [_, _, _, _], _ => rfl
  have C_law_drawn := cal_law_drawn (P := l.prog) (w := w) (base := base) (fun_mk (st := s_law_drawn) l3 c3 k3) (PySem.W.mg_of X G a3) b3 T 
  have b4 := (fun_mk (st := s_law_kind) l4 c4 k4).binds (ps := P_law_kind) fun _ _ _ _ _ _ us hl => match us, hl with | [_], _ => rfl
  have C_law_kind := cal_law_kind (P := l.prog) (w := w) (base := base) (fun_mk (st := s_law_kind) l4 c4 k4) (PySem.W.mg_of X G a4) b4 T 
  have b5 := (fun_mk (st := sis_name) l5 c5 k5).binds (ps := Pis_name) fun _ _ _ _ _ _ us hl => match us, hl with | [_], _ => rfl
  have Cis_name := calis_name (P := l.prog) (w := w) (base := base) (fun_mk (st := sis_name) l5 c5 k5) (PySem.W.mg_of X G a5) b5 T 
  have b6 := (fun_mk (st := scheck_names) l6 c6 k6).binds (ps := Pcheck_names) fun _ _ _ _ _ _ us hl => match us, hl with | [_], _ => rfl
  have Ccheck_names := calcheck_names (P := l.prog) (w := w) (base := base) (fun_mk (st := scheck_names) l6 c6 k6) (PySem.W.mg_of X G a6) b6 T Cis_name
  have b7 := (fun_mk (st := snames_of) l7 c7 k7).binds (ps := Pnames_of) fun _ _ _ _ _ _ us hl => match us, hl with | [_], _ => rfl
  have Cnames_of := calnames_of (P := l.prog) (w := w) (base := base) (fun_mk (st := snames_of) l7 c7 k7) (PySem.W.mg_of X G a7) b7 T Ccheck_names
  have b8 := (fun_mk (st := skind_of) l8 c8 k8).binds (ps := Pkind_of) fun _ _ _ _ _ _ us hl => match us, hl with | [_], _ => rfl
  have Ckind_of := calkind_of (P := l.prog) (w := w) (base := base) (fun_mk (st := skind_of) l8 c8 k8) (PySem.W.mg_of X G a8) b8 T Cnames_of
  have b9 := (fun_mk (st := ssame_kind) l9 c9 k9).binds (ps := Psame_kind) fun _ _ _ _ _ _ us hl => match us, hl with | [_, _], _ => rfl
  have Csame_kind := calsame_kind (P := l.prog) (w := w) (base := base) (fun_mk (st := ssame_kind) l9 c9 k9) (PySem.W.mg_of X G a9) b9 T Ckind_of
  exact fss_law T C_law_numbers C_law_names C_law_drawn C_law_kind Cnames_of Ckind_of Csame_kind cdv s H
-- a0 l0 c0 k0 a1 l1 c1 k1 a2 l2 c2 k2 a3 l3 c3 k3 a4 l4 c4 k4 a5 l5 c5 k5 a6 l6 c6 k6 a7 l7 c7 k7 a8 l8 c8 k8 a9 l9 c9 k9 a10 l10 c10 k10 z_abs z_int z_range z_max z_len z_min z_str z_all z_list z_enumerate z_repr z_isinstance z_bool y_MOST_NAME_CHARS r_MOST_NAME_CHARS y_NAME_CHARS r_NAME_CHARS
end Fv

namespace Fv
open PySem L2
/-! ### the drawn names -/
def NamP (n many : Int) (rest : Str) (place : Int) (size : Int) (k : Nat) (ρ : Env) : Prop := ∃ (l : List Str) (j7 j8 j9 j10 : Slot), ρ = [some (false, .int n), some (false, .int many), some (false, .str nameC), some (false, .int size), some (false, .str rest), some (false, .int place), some (true, .lst (l.map .str)), j7, j8, j9, j10] ∧ l.length = k ∧ ∀ x ∈ l, nameOk x = true
theorem name_built {c d : Nat} {own : Str} {spot : Nat} (hc : c ∈ nameC.cps.toList) (hd : ¬ c ∈ digC.cps.toList) (hd2 : d ∈ nameC.cps.toList) (ho : OkT own) (hl : own.length ≤ 10) : nameOk (chS c ++ cutS own none (some (spot : Int)) ++ chS d ++ cutS own (some (spot : Int)) none) = true := by
  have e : chS c ++ cutS own none (some (spot : Int)) ++ chS d ++ cutS own (some (spot : Int)) none = chS c ++ (cutS own none (some (spot : Int)) ++ chS d ++ cutS own (some (spot : Int)) none) := by
    refine TL.ext_tl ?_
    simp [TL.tl_append, List.append_assoc]
  rw [e]
  refine nameOk_of hc hd (((ho.cut _ _).app (chS_ok hd2)).app (ho.cut _ _)) ?_
  have := cutS_two own spot
  have h1 : (chS d).length = 1 := rfl
  rw [strLen_append, strLen_append, h1]
  omega
@[simp] theorem sliceD_s (z : Str) (lo hi : Option Int) : sliceD (.str z) lo hi = if z.length ≤ sizeLine then sh (.str (cutS z lo hi)) else .stuck := (rfl)
theorem chS_e (c : Nat) : ({ cps := #[c] } : Str) = chS c := rfl
theorem piece {own : Str} (ho : OkT own) (hl : own.length ≤ 10) {place n : Int} (p0 : 0 ≤ place) (k : Nat) (step : Int) : ∃ (c d : Nat) (s : Nat), atI nameC.cps.toList ((n + 3 * (k : Int)).fmod 26) = some c ∧ atI nameC.cps.toList ((n + step * (k : Int)).fmod 36) = some d ∧
    (if (own.length : Int) < place then (own.length : Int) else place) = (s : Int) ∧ nameOk (chS c ++ cutS own none (some (s : Int)) ++ chS d ++ cutS own (some (s : Int)) none) = true ∧ 1 + (cutS own none (some (s : Int))).length ≤ sizeLine ∧ 1 + (cutS own none (some (s : Int))).length + 1 ≤ sizeLine ∧ 1 + (cutS own none (some (s : Int))).length + 1 + (cutS own (some (s : Int)) none).length ≤ sizeLine := by
  have b1 := Int.fmod_pos_bounds (n + 3 * (k : Int)) (b := 26) (by decide)
  have b2 := Int.fmod_pos_bounds (n + step * (k : Int)) (b := 36) (by decide)
  obtain ⟨c, h1, h2, h3⟩ := letter_at b1.1 (by omega)
  obtain ⟨d, g1, g2, _⟩ := letter_at b2.1 b2.2
  obtain ⟨s, hs⟩ : ∃ s : Nat, (if (own.length : Int) < place then (own.length : Int) else place) = (s : Int) := ⟨(if (own.length : Int) < place then (own.length : Int) else place).toNat, by split <;> omega⟩
  have l1 := cutS_len own none (some (s : Int))
  have l2 := cutS_len own (some (s : Int)) none
  exact ⟨c, d, s, h1, g1, hs, name_built h2 (h3 b1.2) g2 ho hl, le_line (by omega), le_line (by omega), le_line (by omega)⟩
theorem law_names_ok (n many : Int) (n0 : 0 ≤ n) (n1 : n < 1009) (m0 : 0 ≤ many) (m1 : many ≤ 100) : ∃ l : List Str, F_law_names [.int n, .int many] = .ok (true, .lst (l.map .str)) ∧ (l.length : Int) = many ∧ ∀ x ∈ l, nameOk x = true := by
  unfold F_law_names
  refine runD_post (Q := fun r => ∃ l : List Str, r = .ok (true, .lst (l.map .str)) ∧ (l.length : Int) = many ∧ ∀ x ∈ l, nameOk x = true) rfl ?_
  obtain ⟨size, hsz⟩ : ∃ y, n.fmod 11 = y := ⟨_, rfl⟩
  have sb := Int.fmod_pos_bounds n (b := 11) (by decide)
  rw [hsz] at sb
  have r1 : ints62 size = true := ints62_of' (by omega) (by omega)
  have r2 : ints62 many = true := ints62_of' (by omega) (by omega)
  have d1 : ∀ i : Int, cDiv i 11 = true := fun i => by unfold cDiv; decide
  have d2 : ∀ i : Int, cDiv i 121 = true := fun i => by unfold cDiv; decide
  have d3 : ∀ i : Int, cDiv i 363 = true := fun i => by unfold cDiv; decide
  obtain ⟨cs, e1, e2, e3⟩ : ∃ cs : List Nat, lcL (gNm 7) fYes (fOp ixA (fVar 2) (fOp modD (fApp intFn (fCons (fOp addD (fVar 0) (fOp mulD (fOp mulD (fC (.int 7)) (fVar 7)) (fVar 7))) fNil)) (fC (.int 36)))) [some (false, .int n), some (false, .int many), some (false, .str nameC), some (false, .int size), none, none, none, none, none, none, none] (rangeD 0 size) = .ok (cs.map fun c => .str (chS c)) ∧ cs.length = (List.range (size - 0).toNat).length ∧ ∀ c ∈ cs, ∃ a ∈ List.range (size - 0).toNat, c ∈ nameC.cps.toList := by
    rw [rangeD_eq]
    refine lcL_ex _ (fun c => .str (chS c)) (fun _ c => c ∈ nameC.cps.toList) _ fun a ha => ?_
    have b := Int.fmod_pos_bounds (n + 7 * (0 + (a : Int)) * (0 + (a : Int))) (b := 36) (by decide)
    obtain ⟨c, h1, h2, _⟩ := letter_at b.1 b.2
    have hm1 : cMul 7 (0 + (a : Int)) = true := cMul_l _ _ (by decide) (by decide)
    have ha2 : a < 11 := by have := List.mem_range.mp ha; omega
    have hm2 : cMul (7 * (0 + (a : Int))) (0 + (a : Int)) = true := cMul_r _ _ (by omega) (by omega)
    have hl : nameC.length ≤ sizeLine := le_line (by decide)
    refine ⟨_, false, c, rfl, rfl, ?_, h2⟩
    simp only [Int.zero_add] at hm1 hm2 h1
    simp [hm1, hm2, h1, hl, chS]
  have hcs : cs.length ≤ 10 := by rw [e2, List.length_range]; omega
  obtain ⟨rest, hrest⟩ : ∃ rest : Str, rest = ⟨cs.toArray⟩ := ⟨_, rfl⟩
  have hro : OkT rest := fun c hc => by
    rw [hrest] at hc
    obtain ⟨_, _, h⟩ := e3 c (by simpa using hc)
    exact h
  have hrl : rest.length ≤ 10 := by rw [hrest]; show cs.toArray.size ≤ 10; simpa using hcs
  have ej := join_chars_ok (cs := cs) (by omega)
  rw [List.map_map] at ej
  have ej2 : joinOk (Str.ofString "") (cs.map fun c => D.str (chS c)) = sh (.str rest) := by rw [hrest]; exact ej
  have hs : small (rangeD 0 size) = true := small_of (by rw [rangeD_eq, List.length_map, List.length_range]; omega)
  obtain ⟨place, hpl⟩ : ∃ y, (n.fdiv 11).fmod (size + 1) = y := ⟨_, rfl⟩
  have pb := Int.fmod_pos_bounds (n.fdiv 11) (b := size + 1) (by omega)
  rw [hpl] at pb
  have hne : size + 1 ≠ 0 := by omega
  unfold m_law_names
  rw [nameC_eq]
  simp [hsz, r1, r2, d1, hs, e1, ej2, hne, hpl]
  rw [rangeD_eq]
  refine forL_post (fun pre ρ => NamP n many rest place size pre.length ρ) ⟨[], none, none, none, none, rfl, rfl, fun x h => by cases h⟩ (fun pre a post e ρ ⟨l, j7, j8, j9, j10, h1, h2, h3⟩ => ?_) fun ρ ⟨l, j7, j8, j9, j10, h1, h2, h3⟩ => ?_
  · obtain ⟨hp, rfl⟩ := range_pre e
    subst h1
    have hnl : nameC.length ≤ sizeLine := le_line (by decide)
    have hsl : l.length < sizeLine := lt_line (by omega)
    have hrs : rest.length ≤ sizeLine := le_line (by omega)
    have hcl := cutS_len rest (some 1) none
    have hcs2 : (cutS rest (some 1) none).length ≤ sizeLine := le_line (by omega)
    have hm3 : cMul 3 (pre.length : Int) = true := cMul_l _ _ (by decide) (by decide)
    have hm5 : cMul 5 (pre.length : Int) = true := cMul_l _ _ (by decide) (by decide)
    have hm31 : cMul 31 (pre.length : Int) = true := cMul_l _ _ (by decide) (by decide)
    have ch1 : ∀ c, Str.length (chS c) = 1 := fun _ => rfl
    have fin : ∀ x : Str, nameOk x = true → ∀ (j7 j8 j9 j10 : Slot), NamP n many rest place size (pre.length + 1) [some (false, .int n), some (false, .int many), some (false, .str nameC), some (false, .int size), some (false, .str rest), some (false, .int place), some (true, .lst (l.map .str ++ [.str x])), j7, j8, j9, j10] := fun x hx j7 j8 j9 j10 => ⟨l ++ [x], j7, j8, j9, j10, by simp, by simp [h2], fun y hy => by
      rcases List.mem_append.mp hy with hy | hy
      · exact h3 y hy
      · rw [List.mem_singleton] at hy; subst hy; exact hx⟩
    by_cases q1 : (n.fdiv 121 + (pre.length : Int)).fmod 3 = 0
    · by_cases q2 : (n.fdiv 363).fmod 2 = 1
      · obtain ⟨c, d, s, f1, f2, f3, f4, f5, f6, f7⟩ := piece (hro.cut (some 1) none) (Nat.le_trans hcl hrl) (n := n) pb.1 pre.length 31
        simp [m_law_names_b1, d2, d3, q1, q2, hrs, hcs2, hm3, hm31, f1, f2, f3, hnl, hsl]
        simp [chS_e, strLen_append, ch1, f5, f6, f7, hsl]
        exact fin _ f4 _ _ _ _
      · obtain ⟨c, d, s, f1, f2, f3, f4, f5, f6, f7⟩ := piece (hro.cut (some 1) none) (Nat.le_trans hcl hrl) (n := n) pb.1 pre.length 5
        simp [m_law_names_b1, d2, d3, q1, q2, hrs, hcs2, hm3, hm5, f1, f2, f3, hnl, hsl]
        simp [chS_e, strLen_append, ch1, f5, f6, f7, hsl]
        exact fin _ f4 _ _ _ _
    · by_cases q2 : (n.fdiv 363).fmod 2 = 1
      · obtain ⟨c, d, s, f1, f2, f3, f4, f5, f6, f7⟩ := piece hro hrl (n := n) pb.1 pre.length 31
        simp [m_law_names_b1, d2, d3, q1, q2, hrs, hm3, hm31, f1, f2, f3, hnl, hsl]
        simp [chS_e, strLen_append, ch1, f5, f6, f7, hsl]
        exact fin _ f4 _ _ _ _
      · obtain ⟨c, d, s, f1, f2, f3, f4, f5, f6, f7⟩ := piece hro hrl (n := n) pb.1 pre.length 5
        simp [m_law_names_b1, d2, d3, q1, q2, hrs, hm3, hm5, f1, f2, f3, hnl, hsl]
        simp [chS_e, strLen_append, ch1, f5, f6, f7, hsl]
        exact fin _ f4 _ _ _ _
  · subst h1
    rw [List.length_range] at h2
    exact ⟨l, by simp [fRetO_e], by omega, h3⟩
end Fv

namespace Fv
open PySem L2
def W2 : List Str := ["in", "out"]
theorem W2_lst : (.lst [.str "in", .str "out"] : D) = .lst (W2.map .str) := rfl
def GoodP (ns : List Str) (p : SP) : Prop := p.1 ∈ W2 ∧ p.2 ∈ ns
theorem ix_strs {l : List Str} {i : Int} (h0 : 0 ≤ i) (h1 : i < l.length) : ∃ x, atI (l.map D.str) i = some (.str x) ∧ x ∈ l :=
  ⟨_, by rw [atI_map, atI_ok h0 h1]; rfl, List.getElem_mem _⟩
theorem drawn_ok {nums : List Int} {ns : List Str} {at_ many : Int} (hc : Cells nums) (hl : nums.length = 60) (hn : ns.length = 5) (a0 : 0 ≤ at_) (a1 : at_ ≤ 30) (m0 : 0 ≤ many) (m1 : many < 10) :
    ∃ l : List SP, F_law_drawn [.lst (nums.map .int), .int at_, .int many, .lst (ns.map .str)] = .ok (true, .lst (l.map pairS)) ∧ (l.length : Int) = many ∧ ∀ p ∈ l, GoodP ns p := by
  unfold F_law_drawn
  refine runD_post (Q := fun r => ∃ l : List SP, r = .ok (true, .lst (l.map pairS)) ∧ (l.length : Int) = many ∧ ∀ p ∈ l, GoodP ns p) rfl ?_
  have r1 : ints62 many = true := ints62_of' (by omega) (by omega)
  have hs : small (rangeD 0 many) = true := small_of (by rw [rangeD_eq, List.length_map, List.length_range]; omega)
  obtain ⟨l, e1, e2, e3⟩ : ∃ l : List SP, lcL (gNm 4) fYes (fTup (fCons (fOp ixA (fLst (fCons (fC (.str "in")) (fCons (fC (.str "out")) fNil))) (fOp modD (fApp intFn (fCons (fOp ixA (fVar 0) (fOp addD (fVar 1) (fOp mulD (fC (.int 2)) (fVar 4)))) fNil)) (fC (.int 2)))) (fCons (fOp ixA (fVar 3) (fOp modD (fApp intFn (fCons (fOp ixA (fVar 0) (fOp addD (fOp addD (fVar 1) (fOp mulD (fC (.int 2)) (fVar 4))) (fC (.int 1)))) fNil)) (fC (.int 5)))) fNil))) [some (false, .lst (nums.map .int)), some (false, .int at_), some (false, .int many), some (false, .lst (ns.map .str)), none] (rangeD 0 many) = .ok (l.map pairS) ∧ l.length = (List.range (many - 0).toNat).length ∧ ∀ p ∈ l, ∃ a ∈ List.range (many - 0).toNat, GoodP ns p := by
    rw [rangeD_eq]
    refine lcL_ex _ pairS (fun _ p => GoodP ns p) _ fun a ha => ?_
    have ha2 : (a : Int) < 10 := by have := List.mem_range.mp ha; omega
    obtain ⟨x, hx, _⟩ := ix_cell hc (i := at_ + 2 * (a : Int)) (by omega) (by omega)
    obtain ⟨y, hy, _⟩ := ix_cell hc (i := at_ + 2 * (a : Int) + 1) (by omega) (by omega)
    have b1 := Int.fmod_pos_bounds x (b := 2) (by decide)
    have b2 := Int.fmod_pos_bounds y (b := 5) (by decide)
    obtain ⟨w, hw, mw⟩ := ix_strs (l := W2) b1.1 b1.2
    obtain ⟨v, hv, mv⟩ := ix_strs (l := ns) b2.1 (by omega)
    have cm : cMul 2 (a : Int) = true := cMul_l _ _ (by decide) (by decide)
    refine ⟨_, false, (w, v), rfl, rfl, ?_, mw, mv⟩
    simp [cm, hx, hy, W2_lst, hw, hv]
  simp [m_law_drawn, r1, hs, e1]
  refine ⟨l, rfl, by rw [e2, List.length_range]; omega, ?_⟩
  intro a b hp
  obtain ⟨_, _, h⟩ := e3 (a, b) hp
  exact h
def KinP (d : D) (l : List SP) (pre : List SP) (ρ : Env) : Prop := ∃ j j' : Slot, ρ = [some (false, d), some (true, .lst ((namesL pre).map .str)), some (true, .lst ((pre.map fun p => (p.1, tag (namesL l) p.2)).map pairS)), j, j']
theorem law_kind_ok {l : List SP} (h : OkRow l) (d : D) (hd : seqD d = .ok (l.map pairS)) : F_law_kind [d] = .ok (false, .tup [.lst ((namesL l).map .str), .lst ((kindL l).map pairS)]) := by
  unfold F_law_kind
  refine runD_post (Q := fun r => r = .ok (false, .tup [.lst ((namesL l).map .str), .lst ((kindL l).map pairS)])) rfl ?_
  simp [m_law_kind, hd]
  refine forL_post (enc := pairS) (fun pre ρ => KinP d l pre ρ) ⟨none, none, rfl⟩ (fun pre a post e ρ ⟨j, j', e1⟩ => ?_) fun ρ ⟨j, j', e1⟩ => ?_
  · subst e1
    have hlen := h.1
    have hp : pre.length < l.length := by rw [e]; simp
    have nl : (namesL pre).length ≤ pre.length := Nat.le_trans (firsts_len _) (by rw [List.length_map]; exact Nat.le_refl _)
    have hs1 : (namesL pre).length < sizeLine := lt_line (by omega)
    have hs2 : pre.length < sizeLine := lt_line (by omega)
    have hn : namesL (pre ++ [a]) = stepF (namesL pre) a.2 := by unfold namesL; rw [List.map_append, List.map_cons, List.map_nil, firsts_snoc]
    have hm : a.2 ∈ stepF (namesL pre) a.2 := stepF_mem.mpr (.inr rfl)
    obtain ⟨ex, hex⟩ : ∃ ex, namesL l = stepF (namesL pre) a.2 ++ ex := by
      obtain ⟨ex, h1⟩ := firsts_pre ((pre ++ [a]).map (·.2)) (post.map (·.2))
      refine ⟨ex, ?_⟩
      have h2 : l.map (·.2) = (pre ++ [a]).map (·.2) ++ post.map (·.2) := by rw [e]; simp
      rw [← hn]
      unfold namesL
      rw [h2]
      exact h1
    have hix : (namesL l).idxOf a.2 = (stepF (namesL pre) a.2).idxOf a.2 := by rw [hex, List.idxOf_append, if_pos hm]
    obtain ⟨k, hk⟩ : ∃ k : Nat, k = (namesL l).idxOf a.2 + 1 := ⟨_, rfl⟩
    have hlt := List.idxOf_lt_length_of_mem (show a.2 ∈ namesL l from by rw [hex]; exact List.mem_append_left _ hm)
    have nl2 : (namesL l).length ≤ l.length := Nat.le_trans (firsts_len _) (by rw [List.length_map]; exact Nat.le_refl _)
    have hk2 : (((stepF (namesL pre) a.2).idxOf a.2 : Nat) : Int) + 1 = (k : Int) := by rw [← hix]; omega
    have hk3 : (((namesL l).idxOf a.2 : Nat) : Int) + 1 = (k : Int) := by omega
    have ht : tag (namesL l) a.2 = ("a" : String) ++ Str.ofString (toString (k : Int)) := by unfold tag; rw [hk3]
    have hf := indexFn_strs hm
    have tl := tagtext_len (n := k) (by omega)
    have h1 : (k : Int).natAbs.log2 < 1920 := log2_le (by omega)
    have h1' : k.log2 < 1920 := by simpa using h1
    have h3 : 1 + (Str.ofString (toString (k : Int))).length ≤ sizeLine := le_line (by omega)
    have h3' : 1 + (Str.ofString (k : Int).repr).length ≤ sizeLine := h3
    have hA : Str.length ("a" : String) = 1 := rfl
    by_cases c : a.2 ∈ namesL pre
    · have hst : stepF (namesL pre) a.2 = namesL pre := if_pos c
      rw [hst] at hf hk2
      simp [m_law_kind_b1, c, fIndex, hf, hk2, strFn, h1', hA, h3', hs2]
      refine ⟨some (false, .str a.1), some (false, .str a.2), ?_⟩
      rw [hn, hst]
      simp [ht]
    · have hst : stepF (namesL pre) a.2 = namesL pre ++ [a.2] := if_neg c
      rw [hst] at hf hk2
      rw [List.map_append, List.map_cons, List.map_nil] at hf
      simp [m_law_kind_b1, c, fIndex, hs1, hf, hk2, strFn, h1', hA, h3', hs2]
      refine ⟨some (false, .str a.1), some (false, .str a.2), ?_⟩
      rw [hn, hst]
      simp [ht]
  · subst e1
    simp [kindL]
end Fv

namespace Fv
open PySem L2
def m_tail : SF :=
  (fSeq (fFrz 4 (fSetS 7 (fLst (fCons (fApp listA (fCons (fVar 3) fNil)) (fCons (fApp listA (fCons (fVar 4) fNil)) fNil)))))
    (fSeq (fFor (iRange1 (fCons (fC (.int 2)) fNil)) (gNm 8) mlaw_b1)
    (fSeq (fSetS 11 (fApp Fsame_kind (fCons (fOp ixA (fVar 7) (fC (.int 0))) (fCons (fOp ixA (fVar 7) (fC (.int 1))) fNil))))
    (fSeq (fIfS (fBorT (fOrT (fNotT (fTru (fIsi "bool" (fVar 11)))) (fTst (fOp neD (fVar 11) (fOp eqD (fOp ixA (fApp F_law_kind (fCons (fVar 3) fNil)) (fC (.int 1))) (fOp ixA (fApp F_law_kind (fCons (fVar 4) fNil)) (fC (.int 1)))))))) (fRet (fC (.bl false))) fSkip)
    (fRet (fBor (fOp eqD (fVar 7) (fLst (fCons (fVar 3) (fCons (fVar 4) fNil))))))))))
def m_if2 : SF :=
  (fIfS (fBorT (fAndT (fTst (fOp eqD (fOp modD (fApp intFn (fCons (fOp ixA (fVar 1) (fC (.int 5))) fNil)) (fC (.int 3))) (fC (.int 1)))) (fTst (fOp gtD (fApp lenA (fCons (fVar 4) fNil)) (fC (.int 0)))))) (fSeq (fSetS 6 (fBor (fOp modD (fApp intFn (fCons (fOp ixA (fVar 1) (fC (.int 6))) fNil)) (fApp lenA (fCons (fVar 4) fNil)))))
    (fPut 4 (fVar 6) (fTup (fCons (fOp ixA (fIxV 4 (fVar 6)) (fC (.int 0))) (fCons (fOp ixA (fVar 2) (fOp addD (fC (.int 3)) (fOp modD (fApp intFn (fCons (fOp ixA (fVar 1) (fC (.int 7))) fNil)) (fC (.int 5))))) fNil))))) fSkip)
def m_if : SF :=
  (fIfS (fBorT (fTst (fOp eqD (fOp modD (fApp intFn (fCons (fOp ixA (fVar 1) (fC (.int 3))) fNil)) (fC (.int 2))) (fC (.int 1))))) (fSeq (fSetS 5 (fOp modD (fApp intFn (fCons (fOp ixA (fVar 1) (fC (.int 4))) fNil)) (fC (.int 5))))
    (fSeq (fSet 4 (fLc (iSeq (fVar 3)) (gTp 2 (gsCons (gNm 12) (gsCons (gNm 13) gsNil))) fYes (fTup (fCons (fVar 12) (fCons (fOp ixA (fVar 2) (fOp addD (fC (.int 3)) (fOp modD (fApp intFn (fCons (fOp addD (fIndex (fVar 2) (fCons (fVar 13) fNil)) (fVar 5)) fNil)) (fC (.int 5))))) fNil))) [12, 13]))
    m_if2)) fSkip)
theorem mlaw_eq : mlaw = (fSeq (fSetS 1 (fApp F_law_numbers (fCons (fVar 0) (fCons (fC (.int 60)) fNil))))
    (fSeq (fSetS 2 (fApp F_law_names (fCons (fOp ixA (fVar 1) (fC (.int 0))) (fCons (fC (.int 12)) fNil))))
    (fSeq (fSetS 3 (fApp F_law_drawn (fCons (fVar 1) (fCons (fC (.int 10)) (fCons (fOp modD (fApp intFn (fCons (fOp ixA (fVar 1) (fC (.int 1))) fNil)) (fC (.int 10))) (fCons (fSlice (fVar 2) oNone (oSome (fC (.int 5)))) fNil))))))
    (fSeq (fSet 4 (fApp F_law_drawn (fCons (fVar 1) (fCons (fC (.int 30)) (fCons (fOp modD (fApp intFn (fCons (fOp ixA (fVar 1) (fC (.int 2))) fNil)) (fC (.int 10))) (fCons (fSlice (fVar 2) (oSome (fC (.int 4))) (oSome (fC (.int 9)))) fNil))))))
    (fSeq m_if
    m_tail))))) := rfl
theorem name_ascii {z : Str} (h : nameOk z = true) : ascii z := fun c hc => by
  unfold nameOk at h
  rw [Bool.and_eq_true, Bool.and_eq_true] at h
  have := of_decide_eq_true (List.all_eq_true.mp h.2.2 c hc)
  exact (show ∀ c ∈ nameC.cps.toList, c < 128 by decide +kernel) c this
theorem W2_ascii : ∀ x ∈ W2, ascii x := by unfold ascii; decide +kernel
theorem W2_len : ∀ x ∈ W2, x.length ≤ 12 := by decide +kernel
theorem text_ascii (i : Int) : ascii (Str.ofString (toString i)) := fun c hc => by
  by_cases h : c < 128
  · exact h
  · exact absurd hc (PyProof.Rows.int_text_free' c ⟨by omega, .inr (by omega)⟩ i)
/-- short plain texts -/
def Plain (l : List SP) : Prop := l.length ≤ 1000 ∧ ∀ p ∈ l, (ascii p.1 ∧ p.1.length ≤ 30) ∧ ascii p.2 ∧ p.2.length ≤ 30
theorem fine_rows {l : List SP} (h : Plain l) : Fine 2 1000000 (.lst (l.map pairS)) := by
  refine (fine_lst (k := 1) (w := 700) (l := l.map pairS) fun d hd => ?_).mono (by omega) (by rw [List.length_map]; have := h.1; omega)
  obtain ⟨p, hp, rfl⟩ := List.mem_map.mp hd
  obtain ⟨⟨a1, a2⟩, a3, a4⟩ := h.2 p hp
  refine (fine_tup (k := 0) (w := 302) (l := [.str p.1, .str p.2]) fun d hd => ?_).mono (by omega) (by simp)
  rcases List.mem_cons.mp hd with rfl | hd
  · exact (fine_str a1).mono (by omega) (by omega)
  · rw [List.mem_singleton] at hd
    subst hd
    exact (fine_str a3).mono (by omega) (by omega)
theorem fine_names {l : List Str} (hl : l.length ≤ 1000) (h : ∀ x ∈ l, nameOk x = true) : Fine 2 1000000 (.lst (l.map .str)) := by
  refine (fine_lst (k := 0) (w := 200) (l := l.map .str) fun d hd => ?_).mono (by omega) (by rw [List.length_map]; omega)
  obtain ⟨p, hp, rfl⟩ := List.mem_map.mp hd
  have := nameOk_len (h p hp)
  exact (fine_str (name_ascii (h p hp))).mono (by omega) (by omega)
/-- a row of the law -/
def LRow (l : List SP) : Prop := l.length ≤ 9 ∧ ∀ p ∈ l, p.1 ∈ W2 ∧ nameOk p.2 = true
theorem LRow.ok {l : List SP} (h : LRow l) : OkRow l := ⟨by have := h.1; omega, fun p hp => (h.2 p hp).2⟩
theorem LRow.plain {l : List SP} (h : LRow l) : Plain l := ⟨by have := h.1; omega, fun p hp => ⟨⟨W2_ascii _ (h.2 p hp).1, Nat.le_trans (W2_len _ (h.2 p hp).1) (by decide)⟩, name_ascii (h.2 p hp).2, by have := nameOk_len (h.2 p hp).2; omega⟩⟩
theorem names_mem {l : List SP} (h : LRow l) : ∀ x ∈ namesL l, nameOk x = true := fun x hx => by
  obtain ⟨p, hp, rfl⟩ := List.mem_map.mp ((firsts_mem _ _).mp hx)
  exact (h.2 p hp).2
theorem names_len {l : List SP} (h : LRow l) : (namesL l).length ≤ 9 := Nat.le_trans (firsts_len _) (by rw [List.length_map]; exact h.1)
theorem kind_plain {l : List SP} (h : LRow l) : Plain (kindL l) := by
  refine ⟨by unfold kindL; rw [List.length_map]; have := h.1; omega, fun q hq => ?_⟩
  obtain ⟨p, hp, rfl⟩ := List.mem_map.mp hq
  have hm : p.2 ∈ namesL l := (firsts_mem _ _).mpr (List.mem_map.mpr ⟨p, hp, rfl⟩)
  have hi := List.idxOf_lt_length_of_mem hm
  have hn := names_len h
  refine ⟨⟨W2_ascii _ (h.2 p hp).1, Nat.le_trans (W2_len _ (h.2 p hp).1) (by decide)⟩, ?_, ?_⟩
  · unfold tag
    exact ascii_app (show ascii (Str.ofString "a") by unfold ascii; decide +kernel) (text_ascii _)
  · unfold tag
    obtain ⟨k, hk⟩ : ∃ k : Nat, k = (namesL l).idxOf p.2 + 1 := ⟨_, rfl⟩
    have hk2 : (((namesL l).idxOf p.2 : Nat) : Int) + 1 = (k : Int) := by omega
    rw [hk2, strLen_append]
    have := tagtext_len (n := k) (by omega)
    have e : Str.length (Str.ofString "a") = 1 := rfl
    omega
theorem reprFn_e (d : D) (h : reprOk d = true) : reprFn [d] = sh (.str d.py.shown) := by
  unfold reprFn
  simp [h]
theorem eqD_ll {a b : List D} (h : cmpOk (.lst a) (.lst b) = true) : ∃ c, eqD (.lst a) (.lst b) = .ok (false, .bl c) := by
  refine ⟨PyData.eqv (D.lst a).py (D.lst b).py, ?_⟩
  show (if cmpOk (.lst a) (.lst b) = true then sh (.bl (PyData.eqv (D.lst a).py (D.lst b).py)) else .stuck) = _
  rw [if_pos h]
theorem neD_bb (a : Bool) : neD (.bl a) (.bl a) = .ok (false, .bl false) := by cases a <;> rfl
theorem forL_cons (gf : GF) (fb : SF) (d : D) (ds : List D) (ρ : Env) : forL gf fb (d :: ds) ρ = (match gf d ρ with
  | none => .stuck
  | some ρ1 => match fb ρ1 with
    | .nx ρ2 => forL gf fb ds ρ2
    | .ct ρ2 => forL gf fb ds ρ2
    | .brk ρ2 => .nx ρ2
    | r => r) := (rfl)
theorem tail_ok {l m : List SP} (hl : LRow l) (hm : LRow m) (s0 s1 s2 s5 s6 s8 s9 s10 s11 s12 s13 : Slot) (b4 : Bool) : RetQ TrueR (m_tail [s0, s1, s2, some (false, .lst (l.map pairS)), some (b4, .lst (m.map pairS)), s5, s6, none, s8, s9, s10, s11, s12, s13]) := by
  have i2 : ints62 2 = true := by decide
  have k1 := law_kind_ok hl.ok (.lst (l.map pairS)) rfl
  have k2 := law_kind_ok hm.ok (.lst (m.map pairS)) rfl
  have n1 := names_of_ok hl.ok
  have n2 := names_of_ok hm.ok
  have q1 := kind_of_ok hl.ok
  have q2 := kind_of_ok hm.ok
  have sk := same_kind_ok hl.ok hm.ok
  have f1 := fine_rows hl.plain
  have f2 := fine_rows hm.plain
  have g1 := fine_rows (kind_plain hl)
  have g2 := fine_rows (kind_plain hm)
  have h1 := fine_names (l := namesL l) (by have := names_len hl; omega) (names_mem hl)
  have h2 := fine_names (l := namesL m) (by have := names_len hm; omega) (names_mem hm)
  have e1 := neD_same (cmpOk_of' h1 h1 (by decide) (by decide))
  have e2 := neD_same (cmpOk_of' h2 h2 (by decide) (by decide))
  have r1 := reprFn_e _ (reprOk_of g1 (by decide) (by decide))
  have r2 := reprFn_e _ (reprOk_of g2 (by decide) (by decide))
  obtain ⟨c, hc⟩ := eqD_ll (cmpOk_of' g1 g2 (by decide) (by decide))
  rw [hc] at sk
  have fh : Fine 3 2100000 (.lst [.lst (l.map pairS), .lst (m.map pairS)]) := by
    refine (fine_lst (k := 2) (w := 1000000) fun d hd => ?_).mono (by omega) (by simp)
    rcases List.mem_cons.mp hd with rfl | hd
    · exact f1
    · rw [List.mem_singleton] at hd
      subst hd
      exact f2
  have e3 := eqD_same (cmpOk_of' fh fh (by decide) (by decide))
  generalize hA : (.lst (l.map pairS) : D) = A at *
  generalize hB : (.lst (m.map pairS) : D) = B at *
  generalize hKA : (.lst ((kindL l).map pairS) : D) = KA at *
  generalize hKB : (.lst ((kindL m).map pairS) : D) = KB at *
  generalize hNA : (.lst ((namesL l).map .str) : D) = NA at *
  generalize hNB : (.lst ((namesL m).map .str) : D) = NB at *
  have lA : listA [A] = nw A := by rw [← hA]; rfl
  have lB : listA [B] = nw B := by rw [← hB]; rfl
  simp [m_tail, i2, lA, lB, rangeD_0_2, forL_cons, mlaw_b1, k1, k2, n1, n2, q1, q2, e1, e2, r1, r2, sk, hc, neD_bb, e3]
end Fv

namespace Fv
open PySem L2
@[simp] theorem fPut_e (i : Nat) (fk fv : EF) (ρ : Env) : fPut i fk fv ρ = (match ρ[i]? with
  | some (some (true, d)) => Res.ofR ρ (fun v => Res.ofR ρ (fun k => match putO d k.2 v.2 with
    | some d' => .nx (ρ.set i (some (true, d')))
    | none => .stuck) (fk ρ)) (fv ρ)
  | _ => .stuck) := (rfl)
@[simp] theorem putO_l (l : List D) (i : Int) (v : D) : putO (.lst l) (.int i) v = (ixN l.length i).map fun j => .lst (l.set j v) := (rfl)
theorem cutD_mid (l : List D) (a b : Nat) (hb : b ≤ l.length) : cutD l (some (a : Int)) (some (b : Int)) = (l.drop a).take (b - a) := by
  unfold cutD
  rw [HT.sIx_nat, HT.sIx_nat]
  by_cases h : a ≤ l.length
  · have e1 : min a l.length = a := by omega
    have e2 : min b l.length = b := by omega
    rw [e1, e2]
  · have e1 : min a l.length = l.length := by omega
    have e2 : min b l.length = b := by omega
    rw [e1, e2, List.drop_of_length_le (Nat.le_refl _), List.drop_of_length_le (by omega)]
    simp
theorem map_ok {l : List SP} {ns : List Str} {turn : Int} (hl : LRow l) (hn : ns.length = 12) (hok : ∀ x ∈ ns, nameOk x = true) (hm : ∀ p ∈ l, p.2 ∈ ns) (s0 s1 s4 s6 s7 s8 s9 s10 s11 : Slot) :
    ∃ m : List SP, lcL (gTp 2 (gsCons (gNm 12) (gsCons (gNm 13) gsNil))) fYes (fTup (fCons (fVar 12) (fCons (fOp ixA (fVar 2) (fOp addD (fC (.int 3)) (fOp modD (fApp intFn (fCons (fOp addD (fIndex (fVar 2) (fCons (fVar 13) fNil)) (fVar 5)) fNil)) (fC (.int 5))))) fNil))) [s0, s1, some (false, .lst (ns.map .str)), some (false, .lst (l.map pairS)), s4, some (false, .int turn), s6, s7, s8, s9, s10, s11, none, none] (l.map pairS) = .ok (m.map pairS) ∧ LRow m := by
  obtain ⟨m, e1, e2, e3⟩ := lcL_ex (gf := gTp 2 (gsCons (gNm 12) (gsCons (gNm 13) gsNil))) (ft := fYes) (fe := fTup (fCons (fVar 12) (fCons (fOp ixA (fVar 2) (fOp addD (fC (.int 3)) (fOp modD (fApp intFn (fCons (fOp addD (fIndex (fVar 2) (fCons (fVar 13) fNil)) (fVar 5)) fNil)) (fC (.int 5))))) fNil))) (ρ := [s0, s1, some (false, .lst (ns.map .str)), some (false, .lst (l.map pairS)), s4, some (false, .int turn), s6, s7, s8, s9, s10, s11, none, none]) pairS pairS (fun _ q => q.1 ∈ W2 ∧ nameOk q.2 = true) l fun p hp => by
    have hf := indexFn_strs (hm p hp)
    have b := Int.fmod_pos_bounds (((ns.idxOf p.2 : Nat) : Int) + turn) (b := 5) (by decide)
    obtain ⟨w, hw, mw⟩ := ix_strs (l := ns) (i := 3 + (((ns.idxOf p.2 : Nat) : Int) + turn).fmod 5) (by omega) (by omega)
    refine ⟨_, false, (p.1, w), rfl, rfl, ?_, (hl.2 p hp).1, hok w mw⟩
    simp [fIndex, hf, hw]
  exact ⟨m, e1, by rw [e2]; exact hl.1, fun q hq => let ⟨_, _, h⟩ := e3 q hq; h⟩
theorem law_math (ns : List Int) (hl : ns.length ≤ 63) : ∃ b, runD Nlaw.length 1 mlaw [.arg (ns.map D.int)] = .ok (b, .bl true) := by
  obtain ⟨nums, n1, n2, n3⟩ := law_numbers_ok ns 60 hl (by decide) (by decide)
  have n2' : nums.length = 60 := by omega
  show TrueR _
  refine runD_post (Q := TrueR) rfl ?_
  obtain ⟨x0, hx0, x01, x02⟩ := ix_cell n3 (i := 0) (by decide) (by omega)
  obtain ⟨x1, hx1, _⟩ := ix_cell n3 (i := 1) (by decide) (by omega)
  obtain ⟨x2, hx2, _⟩ := ix_cell n3 (i := 2) (by decide) (by omega)
  obtain ⟨x3, hx3, _⟩ := ix_cell n3 (i := 3) (by decide) (by omega)
  obtain ⟨x4, hx4, _⟩ := ix_cell n3 (i := 4) (by decide) (by omega)
  obtain ⟨x5, hx5, _⟩ := ix_cell n3 (i := 5) (by decide) (by omega)
  obtain ⟨x6, hx6, _⟩ := ix_cell n3 (i := 6) (by decide) (by omega)
  obtain ⟨x7, hx7, _⟩ := ix_cell n3 (i := 7) (by decide) (by omega)
  have b1 := Int.fmod_pos_bounds x1 (b := 10) (by decide)
  have b2 := Int.fmod_pos_bounds x2 (b := 10) (by decide)
  have b7 := Int.fmod_pos_bounds x7 (b := 5) (by decide)
  obtain ⟨names, l1, l2, l3⟩ := law_names_ok x0 12 x01 x02 (by decide) (by decide)
  have l2' : names.length = 12 := by omega
  have c1 : cutD (names.map D.str) none (some 5) = (names.take 5).map .str := by
    have := cutD_take (names.map D.str) 5
    rw [List.map_take]; exact this
  have c2 : cutD (names.map D.str) (some 4) (some 9) = ((names.drop 4).take 5).map .str := by
    have := cutD_mid (names.map D.str) 4 9 (by rw [List.length_map]; omega)
    rw [List.map_take, List.map_drop]; exact this
  obtain ⟨one, o1, o2, o3⟩ := drawn_ok (ns := names.take 5) (at_ := 10) (many := x1.fmod 10) n3 n2' (by rw [List.length_take]; omega) (by decide) (by decide) b1.1 b1.2
  obtain ⟨oth, p1, p2, p3⟩ := drawn_ok (ns := (names.drop 4).take 5) (at_ := 30) (many := x2.fmod 10) n3 n2' (by rw [List.length_take, List.length_drop]; omega) (by decide) (by decide) b2.1 b2.2
  have r1 : LRow one := ⟨by omega, fun p hp => ⟨(o3 p hp).1, l3 _ (List.mem_of_mem_take (o3 p hp).2)⟩⟩
  have r2 : LRow oth := ⟨by omega, fun p hp => ⟨(p3 p hp).1, l3 _ (List.mem_of_mem_drop (List.mem_of_mem_take (p3 p hp).2))⟩⟩
  have hm : ∀ p ∈ one, p.2 ∈ names := fun p hp => List.mem_of_mem_take (o3 p hp).2
  rw [List.map_take] at o1 c1
  rw [List.map_take, List.map_drop] at p1 c2
  rw [mlaw_eq]
  simp [n1, hx0, hx1, hx2, l1, c1, c2, o1, p1]
  by_cases d1 : x3.fmod 2 = 1
  · obtain ⟨m, e1, e2⟩ := map_ok (turn := x4.fmod 5) r1 l2' l3 hm (some (false, .arg (ns.map .int))) (some (false, .lst (nums.map .int))) (some (true, .lst (oth.map pairS))) none none none none none none
    have hs : small (one.map pairS) = true := small_of (by rw [List.length_map]; have := r1.1; omega)
    by_cases d2 : x5.fmod 3 = 1 ∧ (0 : Int) < m.length
    · obtain ⟨j, hj⟩ : ∃ j, x6.fmod (m.length : Int) = j := ⟨_, rfl⟩
      have bj := Int.fmod_pos_bounds x6 (b := (m.length : Int)) d2.2
      rw [hj] at bj
      obtain ⟨w, hw, mw⟩ := ix_strs (l := names) (i := 3 + x7.fmod 5) (by omega) (by omega)
      have hq : atI (m.map pairS) j = some (pairS (m[j.toNat]'(by omega))) := by rw [atI_map, atI_ok bj.1 bj.2]; rfl
      obtain ⟨q, hqq⟩ : ∃ q, m[j.toNat]'(by omega) = q := ⟨_, rfl⟩
      rw [hqq] at hq
      have hqm : q ∈ m := by rw [← hqq]; exact List.getElem_mem _
      have hix : ixN m.length j = some j.toNat := by
        unfold ixN
        rw [if_pos bj.1, if_pos bj.2]
      have r3 : LRow (m.set j.toNat (q.1, w)) := ⟨by rw [List.length_set]; exact e2.1, fun p hp => by
        rcases List.mem_or_eq_of_mem_set hp with h | h
        · exact e2.2 p h
        · subst h; exact ⟨(e2.2 q hqm).1, l3 w mw⟩⟩
      have hne : m ≠ [] := fun z => by rw [z] at d2; simp at d2
      have hne2 : (m.length : Int) ≠ 0 := by omega
      have hpos : 0 < m.length := by omega
      simp [m_if, m_if2, hx3, hx4, hx5, d1, d2.1, hpos, e1, hs, hx6, hx7, hj, hne, hne2, fIxV, hq, hw, hix]
      have ht := tail_ok r1 r3 (some (false, .arg (ns.map .int))) (some (false, .lst (nums.map .int))) (some (false, .lst (names.map .str))) (some (false, .int (x4.fmod 5))) (some (false, .int j)) none none none none none none true
      rw [List.map_set] at ht
      exact ht
    · have ht := tail_ok r1 e2 (some (false, .arg (ns.map .int))) (some (false, .lst (nums.map .int))) (some (false, .lst (names.map .str))) (some (false, .int (x4.fmod 5))) none none none none none none none true
      by_cases d3 : x5.fmod 3 = 1
      · have hz : m = [] := by
          cases m with
          | nil => rfl
          | cons a m => exact absurd ⟨d3, by simp⟩ d2
        subst hz
        simp [m_if, m_if2, hx3, hx4, hx5, d1, d3, e1, hs]
        exact ht
      · simp [m_if, m_if2, hx3, hx4, hx5, d1, d3, e1, hs]
        exact ht
  · simp [m_if, hx3, d1]
    exact tail_ok r1 r2 _ _ _ _ _ _ _ _ _ _ _ _
end Fv

open PySem PySem.W PyProof.Rows in
set_option maxRecDepth 100000 in
set_option maxHeartbeats 0 in
theorem PySem.Challenge.cw_fewestheld_k12_kinds_of_a_row_holds : PySem.Challenge.rw_fewestheld_k12_kinds_of_a_row.Holds := by
  w_on; o_law; k_head; (case hw => w_witness2)
  k_fill
  refine Fv.law_end (l := PySem.Challenge.rw_fewestheld_k12_kinds_of_a_row) (N := Fv.Nlaw) (p := "_law_script") (st := Fv.slaw) (fs := Fv.mlaw) rfl (by decide) rfl (fun w h Y => PySem.W.kIn_of Y) Fv.sclaw ?F ?hF
  case hF => exact Fv.law_math
  case F =>
    intro w mg fa h KX G hmg
    refine' Fv.all_mk KX G hmg ?a0 ?l0 ?c0 ?k0 ?a1 ?l1 ?c1 ?k1 ?a2 ?l2 ?c2 ?k2 ?a3 ?l3 ?c3 ?k3 ?a4 ?l4 ?c4 ?k4 ?a5 ?l5 ?c5 ?k5 ?a6 ?l6 ?c6 ?k6 ?a7 ?l7 ?c7 ?k7 ?a8 ?l8 ?c8 ?k8 ?a9 ?l9 ?c9 ?k9 ?a10 ?l10 ?c10 ?k10 ?z_abs ?z_int ?z_range ?z_max ?z_len ?z_min ?z_str ?z_all ?z_list ?z_enumerate ?z_repr ?z_isinstance ?z_bool ?y_MOST_NAME_CHARS ?r_MOST_NAME_CHARS ?y_NAME_CHARS ?r_NAME_CHARS
    (case a0 => k_is)
    (case l0 => k_is)
    (case c0 => k_is)
    (case k0 => k_is)
    (case a1 => k_is)
    (case l1 => k_is)
    (case c1 => k_is)
    (case k1 => k_is)
    (case a2 => k_is)
    (case l2 => k_is)
    (case c2 => k_is)
    (case k2 => k_is)
    (case a3 => k_is)
    (case l3 => k_is)
    (case c3 => k_is)
    (case k3 => k_is)
    (case a4 => k_is)
    (case l4 => k_is)
    (case c4 => k_is)
    (case k4 => k_is)
    (case a5 => k_is)
    (case l5 => k_is)
    (case c5 => k_is)
    (case k5 => k_is)
    (case a6 => k_is)
    (case l6 => k_is)
    (case c6 => k_is)
    (case k6 => k_is)
    (case a7 => k_is)
    (case l7 => k_is)
    (case c7 => k_is)
    (case k7 => k_is)
    (case a8 => k_is)
    (case l8 => k_is)
    (case c8 => k_is)
    (case k8 => k_is)
    (case a9 => k_is)
    (case l9 => k_is)
    (case c9 => k_is)
    (case k9 => k_is)
    (case a10 => k_is)
    (case l10 => k_is)
    (case c10 => k_is)
    (case k10 => k_is)
    (case z_abs => k_is)
    (case z_int => k_is)
    (case z_range => k_is)
    (case z_max => k_is)
    (case z_len => k_is)
    (case z_min => k_is)
    (case z_str => k_is)
    (case z_all => k_is)
    (case z_list => k_is)
    (case z_enumerate => k_is)
    (case z_repr => k_is)
    (case z_isinstance => k_is)
    (case z_bool => k_is)
    (case y_MOST_NAME_CHARS => k_is)
    (case r_MOST_NAME_CHARS => exact ⟨_, rfl⟩)
    (case y_NAME_CHARS => k_is)
    (case r_NAME_CHARS => exact ⟨_, rfl⟩)

