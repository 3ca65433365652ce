import PyProof.Rows.All
import Wide.All
import OpenK.AllK
import Wide.FinOn
import HandS.ForMost
import HandS.IsInst
import HandS.Deep
import HandS.TupAny
import HandS.Style
import HandS.SortInts
import KE.OsSort
import HandS.FStr
import PySem.Challenge.RW_partwares_k05_parts_paid_down
set_option Elab.async false
set_option linter.all false
set_option maxRecDepth 100000
namespace DL
open PySem L2

/-! ### heaps -/
abbrev Fg := PySem.W.Frag
/-- places that no data knows (h), and of these those that may be written (w) -/
structure Ms where
  h : List Addr
  w : List Addr
  sub : ∀ a, a ∈ w → a ∈ h
/-- nothing is written -/
def Ms.pure (M : Ms) : Ms := ⟨M.h, [], fun _ m => nomatch m⟩
/-- these alone are written -/
def Ms.only (M : Ms) (l : List Addr) (s : ∀ a, a ∈ l → a ∈ M.h) : Ms := ⟨M.h, l, s⟩
/-- one more, written -/
def Ms.add (M : Ms) (p : Addr) : Ms := ⟨p :: M.h, p :: M.w, fun a m => by
  rcases List.mem_cons.mp m with e | e
  · exact List.mem_cons.mpr (.inl e)
  · exact List.mem_cons.mpr (.inr (M.sub a e))⟩
def Ms.nil : Ms := ⟨[], [], fun _ m => nomatch m⟩
def hid (M : Ms) (H : Hp) : Hp := fun a => if a ∈ M.h then none else H a
/-- the layer's word for «all that was tracked stands» -/
abbrev Ex : Hp → Hp → Prop := L2.Same
/-- all but the places of M stays -/
def Go (M : Ms) (H H' : Hp) : Prop := (∀ a o, a ∉ M.w → H a = some o → H' a = some o) ∧ ∀ a o, H a = some o → ∃ o', H' a = some o'
def Md (M : Ms) (H : Hp) : Prop := ∀ a, a ∈ M.h → ∃ o, H a = some o
theorem Ex.refl (H : Hp) : Ex H H := L2.Same.refl H
theorem Ex.trans {F G J : Hp} (p : Ex F G) (q : Ex G J) : Ex F J := L2.Same.trans p q
theorem Ex.new {G : Hp} {q : Addr} {u : HO} (free : G q = none) : Ex G (upd G q u) := fun b w there => (upd_ne (ne_of_none there free)).trans there
theorem Ex.go {M : Ms} {H H' : Hp} (e : Ex H H') : Go M H H' := ⟨fun a o _ h => e a o h, fun a o h => ⟨o, e a o h⟩⟩
theorem Go.refl (M : Ms) (H : Hp) : Go M H H := (Ex.refl H).go
theorem Go.trans {M : Ms} {H H1 H2 : Hp} (a : Go M H H1) (b : Go M H1 H2) : Go M H H2 :=
  ⟨fun x o n h => b.1 x o n (a.1 x o n h), fun x o h => by obtain ⟨o', h'⟩ := a.2 x o h; exact b.2 x o' h'⟩
theorem Go.sub {M N : Ms} {H H' : Hp} (s : ∀ a, a ∈ M.w → a ∈ N.w) (g : Go M H H') : Go N H H' := ⟨fun a o n h => g.1 a o (fun m => n (s a m)) h, g.2⟩
theorem Go.ex {M : Ms} {H H' : Hp} (g : Go M H H') : Ex (hid M H) (hid M H') := fun a o h => by
  unfold hid at h ⊢
  by_cases m : a ∈ M.h
  · rw [if_pos m] at h; cases h
  · rw [if_neg m] at h ⊢; exact g.1 a o (fun q => m (M.sub a q)) h
theorem Md.go {M N : Ms} {H H' : Hp} (d : Md M H) (g : Go N H H') : Md M H' := fun a m => by obtain ⟨o, h⟩ := d a m; exact g.2 a o h
theorem Md.ex {M : Ms} {H H' : Hp} (d : Md M H) (e : Ex H H') : Md M H' := d.go (e.go (M := Ms.nil))
theorem Go.pure {M : Ms} {H H' : Hp} (g : Go M.pure H H') : Ex H H' := fun a o h => g.1 a o (fun m => nomatch m) h
theorem Md.pure {M : Ms} {H : Hp} (d : Md M H) : Md M.pure H := d
theorem Md.add {M : Ms} {H : Hp} {p : Addr} {o : HO} (d : Md M H) (h : H p = some o) : Md (M.add p) H := fun a m => by
  rcases List.mem_cons.mp m with e | e
  · exact ⟨o, e ▸ h⟩
  · exact d a e
theorem Md.fresh {M : Ms} {H : Hp} (d : Md M H) {p : Addr} (h : H p = none) : p ∉ M.h := fun m => by obtain ⟨o, e⟩ := d p m; rw [h] at e; cases e
theorem hid_le (M : Ms) (H : Hp) : Ex (hid M H) H := fun a o h => by
  unfold hid at h
  by_cases m : a ∈ M.h
  · rw [if_pos m] at h; cases h
  · rw [if_neg m] at h; exact h
theorem hid_ne {M : Ms} {H : Hp} {a : Addr} (h : a ∉ M.h) : hid M H a = H a := if_neg h
theorem Md.nil (H : Hp) : Md Ms.nil H := fun _ m => nomatch m
theorem fresh_back {F G : Hp} {q : Addr} (k : Ex F G) (free : G q = none) : F q = none := L2.Same.free k free
theorem go_back {M : Ms} {H H' : Hp} {p : Addr} (e : Go M H H') (h : H' p = none) : H p = none := by
  cases h1 : H p with
  | none => rfl
  | some o => obtain ⟨o', e'⟩ := e.2 p o h1; rw [e'] at h; cases h
/-- a place of M is written -/
theorem Go.mut {M : Ms} {H : Hp} {p : Addr} {o : HO} (m : p ∈ M.w) : Go M H (upd H p o) := ⟨fun a u n h => by
  have q : a ≠ p := fun e => n (e ▸ m)
  rw [upd_ne q]; exact h, fun a u h => by
  by_cases q : a = p
  · subst q; exact ⟨o, upd_same⟩
  · exact ⟨u, by rw [upd_ne q]; exact h⟩⟩

/-! ### data -/
mutual
/-- v holds the data d (a list that may be read as it stands; a tuple also of the written part) -/
inductive Dq (K : Fg) (H : Hp) : V → PyData → Prop
  | non : Dq K H .non .none
  | bl (b : Bool) : Dq K H (.bl b) (.bool b)
  | int (i : Int) : Dq K H (.int i) (.int i)
  | str (x : Str) : Dq K H (.str x) (.str x)
  | lst {a : Addr} {xs : List V} {ds : List PyData} : SqL K H a xs → DqAll K H xs ds → Dq K H (.ref a) (.list ds)
  | tup {a : Addr} {xs : List V} {ds : List PyData} : SqT K H a xs → DqAll K H xs ds → Dq K H (.ref a) (.tuple ds)
inductive DqAll (K : Fg) (H : Hp) : List V → List PyData → Prop
  | nil : DqAll K H [] []
  | cons {v : V} {vs : List V} {d : PyData} {ds : List PyData} : Dq K H v d → DqAll K H vs ds → DqAll K H (v :: vs) (d :: ds)
end
mutual
theorem Dq.dp {K : Fg} {H : Hp} : ∀ (d : PyData) (v : V), Dq K H v d → Dp K H v d
  | _, _, .non => .non
  | _, _, .bl b => .bl b
  | _, _, .int i => .int i
  | _, _, .str x => .str x
  | .list ds, _, .lst (xs := xs) s a => .lst s (DqAll.dp ds xs a)
  | .tuple ds, _, .tup (xs := xs) s a => .tup s (DqAll.dp ds xs a)
theorem DqAll.dp {K : Fg} {H : Hp} : ∀ (ds : List PyData) (vs : List V), DqAll K H vs ds → DpAll K H vs ds
  | [], _, .nil => .nil
  | d :: ds, v :: vs, .cons h t => .cons (Dq.dp d v h) (DqAll.dp ds vs t)
end
theorem ex_l {K : Fg} {F G : Hp} {q : Addr} {vs : List V} (k : Ex F G) (h : SqL K F q vs) : SqL K G q vs := L2.Same.seq k h
theorem ex_t {K : Fg} {F G : Hp} {q : Addr} {vs : List V} (k : Ex F G) : SqT K F q vs → SqT K G q vs
  | .inl (.inl h) => .inl (.inl (k q _ h))
  | .inl (.inr ⟨ob, h⟩) => .inl (.inr ⟨ob, k q _ h⟩)
  | .inr h => .inr h
mutual
theorem dp_ex {K : Fg} {H H' : Hp} (e : Ex H H') : ∀ (d : PyData) (v : V), Dq K H v d → Dq K H' v d
  | _, _, .non => .non
  | _, _, .bl b => .bl b
  | _, _, .int i => .int i
  | _, _, .str x => .str x
  | .list ds, _, .lst (xs := xs) s a => .lst (ex_l e s) (dps_ex e ds xs a)
  | .tuple ds, _, .tup (xs := xs) s a => .tup (ex_t e s) (dps_ex e ds xs a)
theorem dps_ex {K : Fg} {H H' : Hp} (e : Ex H H') : ∀ (ds : List PyData) (vs : List V), DqAll K H vs ds → DqAll K H' vs ds
  | [], _, .nil => .nil
  | d :: ds, v :: vs, .cons h t => .cons (dp_ex e d v h) (dps_ex e ds vs t)
end
/-- v holds the data d, in H but the places of M -/
abbrev Da (K : Fg) (M : Ms) (H : Hp) (v : V) (d : PyData) : Prop := Dq K (hid M H) v d
abbrev Das (K : Fg) (M : Ms) (H : Hp) (vs : List V) (ds : List PyData) : Prop := DqAll K (hid M H) vs ds
theorem Da.go {K : Fg} {M : Ms} {H H' : Hp} {v : V} {d : PyData} (h : Da K M H v d) (g : Go M H H') : Da K M H' v d := dp_ex g.ex d v h
theorem Das.go {K : Fg} {M : Ms} {H H' : Hp} {v : List V} {d : List PyData} (h : Das K M H v d) (g : Go M H H') : Das K M H' v d := dps_ex g.ex d v h
theorem Da.ex {K : Fg} {M : Ms} {H H' : Hp} {v : V} {d : PyData} (h : Da K M H v d) (g : Ex H H') : Da K M H' v d := h.go g.go
theorem Das.ex {K : Fg} {M : Ms} {H H' : Hp} {v : List V} {d : List PyData} (h : Das K M H v d) (g : Ex H H') : Das K M H' v d := h.go g.go
theorem Da.dq {K : Fg} {M : Ms} {H : Hp} {v : V} {d : PyData} (h : Da K M H v d) : Dq K H v d := dp_ex (hid_le M H) d v h
theorem Da.dp {K : Fg} {M : Ms} {H : Hp} {v : V} {d : PyData} (h : Da K M H v d) : Dp K H v d := Dq.dp d v h.dq
theorem Das.dq {K : Fg} {M : Ms} {H : Hp} {v : List V} {d : List PyData} (h : Das K M H v d) : DqAll K H v d := dps_ex (hid_le M H) d v h
theorem Das.dp {K : Fg} {M : Ms} {H : Hp} {v : List V} {d : List PyData} (h : Das K M H v d) : DpAll K H v d := DqAll.dp d v h.dq
theorem Das.len {K : Fg} {H : Hp} : ∀ {vs : List V} {ds : List PyData}, DqAll K H vs ds → vs.length = ds.length
  | _, _, .nil => rfl
  | _, _, .cons _ t => by rw [List.length_cons, List.length_cons, Das.len t]
theorem Das.get {K : Fg} {H : Hp} : ∀ {vs : List V} {ds : List PyData} {i : Nat} {d : PyData}, DqAll K H vs ds → ds[i]? = some d → ∃ v, vs[i]? = some v ∧ Dq K H v d
  | _, _, _, _, .nil, e => by simp at e
  | _, _, 0, d, .cons h _, e => by simp at e; subst e; exact ⟨_, rfl, h⟩
  | _, _, i + 1, d, .cons _ t, e => by simpa using Das.get (i := i) t (by simpa using e)
theorem Das.get' {K : Fg} {H : Hp} : ∀ {vs : List V} {ds : List PyData} {i : Nat} {v : V}, DqAll K H vs ds → vs[i]? = some v → ∃ d, ds[i]? = some d ∧ Dq K H v d
  | _, _, _, _, .nil, e => by simp at e
  | _, _, 0, d, .cons h _, e => by simp at e; subst e; exact ⟨_, rfl, h⟩
  | _, _, i + 1, d, .cons _ t, e => by simpa using Das.get' (i := i) t (by simpa using e)
theorem Das.app {K : Fg} {H : Hp} : ∀ {vs : List V} {ds : List PyData} {us : List V} {es : List PyData}, DqAll K H vs ds → DqAll K H us es → DqAll K H (vs ++ us) (ds ++ es)
  | _, _, _, _, .nil, h => h
  | _, _, _, _, .cons a t, h => .cons a (Das.app t h)
theorem Das.take {K : Fg} {H : Hp} : ∀ {vs : List V} {ds : List PyData} (n : Nat), DqAll K H vs ds → DqAll K H (vs.take n) (ds.take n)
  | _, _, 0, _ => .nil
  | _, _, _ + 1, .nil => .nil
  | _, _, n + 1, .cons a t => .cons a (Das.take n t)
theorem Das.drop {K : Fg} {H : Hp} : ∀ {vs : List V} {ds : List PyData} (n : Nat), DqAll K H vs ds → DqAll K H (vs.drop n) (ds.drop n)
  | _, _, 0, h => h
  | _, _, _ + 1, .nil => .nil
  | _, _, n + 1, .cons _ t => Das.drop n t
theorem Das.set {K : Fg} {H : Hp} {v : V} {d : PyData} (h : Dq K H v d) : ∀ {vs : List V} {ds : List PyData} (n : Nat), DqAll K H vs ds → DqAll K H (vs.set n v) (ds.set n d)
  | _, _, _, .nil => .nil
  | _, _, 0, .cons _ t => .cons h t
  | _, _, n + 1, .cons a t => .cons a (Das.set h n t)
theorem Das.rev {K : Fg} {H : Hp} {vs : List V} {ds : List PyData} (h : DqAll K H vs ds) : DqAll K H vs.reverse ds.reverse := by
  induction ds generalizing vs with
  | nil => cases h; exact .nil
  | cons d ds ih =>
    cases h with
    | cons a t => rw [List.reverse_cons, List.reverse_cons]; exact Das.app (ih t) (.cons a .nil)
theorem Das.rep {K : Fg} {H : Hp} {vs : List V} {ds : List PyData} (h : DqAll K H vs ds) : ∀ n : Nat, DqAll K H (List.replicate n vs).flatten (List.replicate n ds).flatten
  | 0 => .nil
  | n + 1 => by rw [List.replicate_succ, List.replicate_succ, List.flatten_cons, List.flatten_cons]; exact Das.app h (Das.rep h n)
theorem Das.ints {K : Fg} {H : Hp} : ∀ {vs : List V} {ns : List Int}, DqAll K H vs (ns.map PyData.int) → vs = ns.map V.int
  | _, [], .nil => rfl
  | _, n :: ns, .cons h t => by cases h; rw [Das.ints t]; rfl
theorem Das.strs {K : Fg} {H : Hp} : ∀ {vs : List V} {ns : List Str}, DqAll K H vs (ns.map PyData.str) → vs = ns.map V.str
  | _, [], .nil => rfl
  | _, n :: ns, .cons h t => by cases h; rw [Das.strs t]; rfl
theorem Das.bls {K : Fg} {H : Hp} : ∀ {vs : List V} {ns : List Bool}, DqAll K H vs (ns.map PyData.bool) → vs = ns.map V.bl
  | _, [], .nil => rfl
  | _, n :: ns, .cons h t => by cases h; rw [Das.bls t]; rfl
theorem Das.of_ints {K : Fg} {H : Hp} : ∀ (ns : List Int), DqAll K H (ns.map V.int) (ns.map PyData.int)
  | [] => .nil
  | n :: ns => .cons (.int n) (Das.of_ints ns)
theorem Das.of_strs {K : Fg} {H : Hp} : ∀ (ns : List Str), DqAll K H (ns.map V.str) (ns.map PyData.str)
  | [] => .nil
  | n :: ns => .cons (.str n) (Das.of_strs ns)
theorem Das.of_bls {K : Fg} {H : Hp} : ∀ (ns : List Bool), DqAll K H (ns.map V.bl) (ns.map PyData.bool)
  | [] => .nil
  | n :: ns => .cons (.bl n) (Das.of_bls ns)
/-- a list that is tracked outside of M is data -/
theorem Da.lst {K : Fg} {M : Ms} {H : Hp} {p : Addr} {xs : List V} {ds : List PyData} (m : p ∉ M.h) (h : H p = some (.lst xs)) (a : Das K M H xs ds) : Da K M H (.ref p) (.list ds) := Dq.lst (Or.inl (Or.inl (by rw [hid_ne m]; exact h))) a
theorem Da.tup {K : Fg} {M : Ms} {H : Hp} {p : Addr} {xs : List V} {ds : List PyData} (m : p ∉ M.h) (h : H p = some (.tup xs)) (a : Das K M H xs ds) : Da K M H (.ref p) (.tuple ds) := Dq.tup (Or.inl (Or.inl (by rw [hid_ne m]; exact h))) a
theorem Da.new_lst {K : Fg} {M : Ms} {H : Hp} {p : Addr} {xs : List V} {ds : List PyData} (d : Md M H) (n : H p = none) (a : Das K M H xs ds) : Da K M (upd H p (.lst xs)) (.ref p) (.list ds) :=
  Da.lst (d.fresh n) upd_same (a.ex (Ex.new n))
theorem Da.new_tup {K : Fg} {M : Ms} {H : Hp} {p : Addr} {xs : List V} {ds : List PyData} (d : Md M H) (n : H p = none) (a : Das K M H xs ds) : Da K M (upd H p (.tup xs)) (.ref p) (.tuple ds) :=
  Da.tup (d.fresh n) upd_same (a.ex (Ex.new n))

/-- data of less is data of more -/
theorem hid_mono {M N : Ms} (s : ∀ a, a ∈ M.h → a ∈ N.h) (H : Hp) : Ex (hid N H) (hid M H) := fun a o h => by
  unfold hid at h ⊢
  by_cases m : a ∈ N.h
  · rw [if_pos m] at h; cases h
  · rw [if_neg m] at h; rw [if_neg (fun q => m (s a q))]; exact h
theorem Da.mono {K : Fg} {M N : Ms} {H : Hp} {v : V} {d : PyData} (s : ∀ a, a ∈ M.h → a ∈ N.h) (h : Da K N H v d) : Da K M H v d := dp_ex (hid_mono s H) d v h
theorem Das.mono {K : Fg} {M N : Ms} {H : Hp} {v : List V} {d : List PyData} (s : ∀ a, a ∈ M.h → a ∈ N.h) (h : Das K N H v d) : Das K M H v d := dps_ex (hid_mono s H) d v h
/-- a new place is hidden -/
theorem hid_add {M : Ms} {H : Hp} {p : Addr} {o : HO} (n : H p = none) : Ex (hid M H) (hid (M.add p) (upd H p o)) := fun a u h => by
  have q : a ≠ p := fun e => by
    have := hid_le M H a u h
    rw [e, n] at this; cases this
  unfold hid at h ⊢
  by_cases m : a ∈ M.h
  · rw [if_pos m] at h; cases h
  · rw [if_neg m] at h
    rw [if_neg (fun z => by rcases List.mem_cons.mp z with e | e; exact q e; exact m e), upd_ne q]; exact h
/-! ### slots -/
inductive Sl where
  | d (x : PyData)
  | v (x : V)
def Rl (K : Fg) (M : Ms) (H : Hp) (v : V) : Sl → Prop
  | .d x => Da K M H v x
  | .v w => v = w
theorem Rl.go {K : Fg} {M : Ms} {H H' : Hp} {v : V} {s : Sl} (h : Rl K M H v s) (g : Go M H H') : Rl K M H' v s := by
  cases s with
  | d x => exact Da.go h g
  | v w => exact h
theorem Rl.ex {K : Fg} {M : Ms} {H H' : Hp} {v : V} {s : Sl} (h : Rl K M H v s) (g : Ex H H') : Rl K M H' v s := h.go g.go
abbrev Ro := List (Option Sl)
def Env (K : Fg) (M : Ms) (H : Hp) (σ : L2.St) (ρ : Ro) : Prop := σ.length = ρ.length ∧ ∀ (i : Nat) (s : Sl), ρ[i]? = some (some s) → ∃ v, σ[i]? = some (some v) ∧ Rl K M H v s
theorem Rl.mono {K : Fg} {M N : Ms} {H : Hp} {v : V} {t : Sl} (s : ∀ a, a ∈ M.h → a ∈ N.h) (h : Rl K N H v t) : Rl K M H v t := by
  cases t with
  | d x => exact Da.mono s h
  | v w => exact h
theorem Env.mono {K : Fg} {M N : Ms} {H : Hp} {σ : L2.St} {ρ : Ro} (s : ∀ a, a ∈ M.h → a ∈ N.h) (e : Env K N H σ ρ) : Env K M H σ ρ := ⟨e.1, fun i t h => by obtain ⟨v, h1, h2⟩ := e.2 i t h; exact ⟨v, h1, h2.mono s⟩⟩
section
variable {K : Fg} {M : Ms} {H H' : Hp} {σ : L2.St} {ρ : Ro}
theorem Env.new {p : Addr} {o : HO} (e : Env K M H σ ρ) (n : H p = none) : Env K (M.add p) (upd H p o) σ ρ := ⟨e.1, fun i t h => by
  obtain ⟨v, h1, h2⟩ := e.2 i t h
  refine ⟨v, h1, ?_⟩
  cases t with
  | d x => exact dp_ex (hid_add n) x v h2
  | v w => exact h2⟩
theorem Env.go (e : Env K M H σ ρ) (g : Go M H H') : Env K M H' σ ρ := ⟨e.1, fun i s h => by obtain ⟨v, h1, h2⟩ := e.2 i s h; exact ⟨v, h1, h2.go g⟩⟩
theorem Env.ex (e : Env K M H σ ρ) (g : Ex H H') : Env K M H' σ ρ := e.go g.go
theorem Env.set (e : Env K M H σ ρ) {i : Nat} {v : V} {s : Sl} (h : Rl K M H v s) : Env K M H (σ.set i (some v)) (ρ.set i (some s)) := by
  refine ⟨by rw [List.length_set, List.length_set]; exact e.1, fun j t q => ?_⟩
  by_cases hj : i = j
  · subst hj
    by_cases hl : i < ρ.length
    · rw [List.getElem?_set_self hl] at q
      injection q with q; injection q with q; subst q
      exact ⟨v, List.getElem?_set_self (by rw [e.1]; exact hl), h⟩
    · rw [List.getElem?_eq_none (by rw [List.length_set]; omega)] at q; cases q
  · rw [List.getElem?_set_ne hj] at q ⊢
    exact e.2 j t q
/-- any value: the slot is forgotten -/
theorem Env.set0 (e : Env K M H σ ρ) {i : Nat} {v : Option V} : Env K M H (σ.set i v) (ρ.set i none) := by
  refine ⟨by rw [List.length_set, List.length_set]; exact e.1, fun j t q => ?_⟩
  by_cases hj : i = j
  · subst hj
    by_cases hl : i < ρ.length
    · rw [List.getElem?_set_self hl] at q; cases q
    · rw [List.getElem?_eq_none (by rw [List.length_set]; omega)] at q; cases q
  · rw [List.getElem?_set_ne hj] at q ⊢
    exact e.2 j t q
/-- less is known -/
def Le : Ro → Ro → Prop
  | [], [] => True
  | a :: r, b :: q => (b = none ∨ a = b) ∧ Le r q
  | _, _ => False
theorem Le.refl : ∀ ρ : Ro, Le ρ ρ
  | [] => trivial
  | _ :: r => ⟨.inr rfl, Le.refl r⟩
theorem Le.len : ∀ {ρ ρ' : Ro}, Le ρ ρ' → ρ.length = ρ'.length
  | [], [], _ => rfl
  | _ :: r, _ :: q, h => by rw [List.length_cons, List.length_cons, Le.len h.2]
theorem Le.get : ∀ {ρ ρ' : Ro} {i : Nat} {s : Sl}, Le ρ ρ' → ρ'[i]? = some (some s) → ρ[i]? = some (some s)
  | [], [], _, _, _, e => by simp at e
  | a :: r, b :: q, 0, s, h, e => by
    simp at e
    rcases h.1 with h1 | h1
    · rw [h1] at e; cases e
    · rw [h1, e]; rfl
  | a :: r, b :: q, i + 1, s, h, e => by simpa using Le.get (i := i) h.2 (by simpa using e)
theorem Env.le {ρ' : Ro} (e : Env K M H σ ρ) (h : Le ρ ρ') : Env K M H σ ρ' := ⟨e.1.trans h.len, fun i s q => e.2 i s (h.get q)⟩
theorem Env.start {N : List Str} {vs : List V} {ds : List Sl} (h : vs.length = ds.length) (r : ∀ (i : Nat) v s, vs[i]? = some v → ds[i]? = some s → Rl K M H v s) (hl : vs.length ≤ N.length) :
    Env K M H (L2.start N vs) (ds.map some ++ List.replicate (N.length - ds.length) none) := by
  unfold L2.start
  refine ⟨by simp [h], fun i s q => ?_⟩
  by_cases hi : i < ds.length
  · rw [List.getElem?_append_left (by simpa using hi), List.getElem?_map] at q
    cases e : ds[i]? with
    | none => rw [e] at q; cases q
    | some t =>
      rw [e] at q
      have q' : t = s := by injection q with q; injection q
      subst q'
      have hv : i < vs.length := by omega
      refine ⟨vs[i], ?_, r i _ _ (List.getElem?_eq_getElem hv) e⟩
      rw [List.getElem?_append_left (by simpa using hv), List.getElem?_map, List.getElem?_eq_getElem hv]; rfl
  · rw [List.getElem?_append_right (by simp; omega)] at q
    have := List.mem_of_getElem? q
    simp at this
end
def wipeR (ρ : Ro) : List Nat → Ro
  | [] => ρ
  | v :: vs => (wipeR ρ vs).set v none
theorem Env.wipe {K : Fg} {M : Ms} {H : Hp} {σ : L2.St} {ρ : Ro} (e : Env K M H σ ρ) : ∀ vs : List Nat, Env K M H (L2.wipe σ vs) (wipeR ρ vs)
  | [] => e
  | v :: vs => by unfold L2.wipe wipeR; exact (Env.wipe e vs).set0
end DL
set_option maxRecDepth 100000
namespace DL
open PySem L2
section
variable {K : Fg} {M : Ms} {H H' : Hp}

/-! ### what is there, as data -/
theorem Da.int_inv {x : V} {i : Int} (h : Da K M H x (.int i)) : x = .int i := by cases h; rfl
theorem Da.str_inv {x : V} {i : Str} (h : Da K M H x (.str i)) : x = .str i := by cases h; rfl
theorem Da.bl_inv {x : V} {i : Bool} (h : Da K M H x (.bool i)) : x = .bl i := by cases h; rfl
theorem Da.non_inv {x : V} (h : Da K M H x .none) : x = .non := by cases h; rfl
theorem hid_l {a : Addr} {xs : List V} (h : SqL K (hid M H) a xs) : SqL K H a xs := ex_l (hid_le M H) h
theorem hid_t {a : Addr} {xs : List V} (h : SqT K (hid M H) a xs) : SqT K H a xs := ex_t (hid_le M H) h

/-! ### operators on data, by relations -/
def rB (K : Fg) (g : PyData → PyData → PyData → Prop) : R2 := fun x y H Q => ∃ M d e z, Md M H ∧ Da K M H x d ∧ Da K M H y e ∧ g d e z ∧ ∀ v H', Ex H H' → Da K M H' v z → Q v H'
def rU1 (K : Fg) (g : PyData → PyData → Prop) : V → Hp → VK → Prop := fun x H Q => ∃ M d z, Md M H ∧ Da K M H x d ∧ g d z ∧ ∀ v H', Ex H H' → Da K M H' v z → Q v H'
/-- a call of a built-in on data -/
def rC (K : Fg) (g : List PyData → PyData → Prop) : List V → Hp → VK → Prop := fun vs H Q => ∃ M ds z, Md M H ∧ Das K M H vs ds ∧ g ds z ∧ ∀ v H', Ex H H' → Da K M H' v z → Q v H'
/-- a method that reads -/
def rM (K : Fg) (g : PyData → List PyData → PyData → Prop) : V → List V → Hp → VK → Prop := fun x vs H Q => ∃ M d ds z, Md M H ∧ Da K M H x d ∧ Das K M H vs ds ∧ g d ds z ∧ ∀ v H', Ex H H' → Da K M H' v z → Q v H'
/-- a slice -/
def rSl (K : Fg) (g : PyData → Option Int → Option Int → PyData → Prop) : V → Option Int → Option Int → Hp → VK → Prop := fun x lo hi H Q => ∃ M d z, Md M H ∧ Da K M H x d ∧ g d lo hi z ∧ ∀ v H', Ex H H' → Da K M H' v z → Q v H'

def AddD : PyData → PyData → PyData → Prop
  | .int i, .int j, z => z = .int (i + j)
  | .str a, .str b, z => a.length + b.length ≤ sizeLine ∧ z = .str (a ++ b)
  | .list a, .list b, z => a.length + b.length ≤ sizeLine ∧ z = .list (a ++ b)
  | .tuple a, .tuple b, z => a.length + b.length ≤ sizeLine ∧ z = .tuple (a ++ b)
  | _, _, _ => False
def SubD : PyData → PyData → PyData → Prop
  | .int i, .int j, z => z = .int (i - j)
  | _, _, _ => False
def MulD : PyData → PyData → PyData → Prop
  | .int i, .int j, z => CMul i j ∧ z = .int (i * j)
  | .list a, .int k, z => -(2 ^ 63) ≤ k ∧ k < 2 ^ 63 ∧ a.length * k.toNat ≤ sizeLine ∧ z = .list (List.replicate k.toNat a).flatten
  | _, _, _ => False
def DivD : PyData → PyData → PyData → Prop
  | .int i, .int j, z => CDiv i j ∧ z = .int (i / j)
  | _, _, _ => False
def ModD : PyData → PyData → PyData → Prop
  | .int i, .int j, z => 0 < j ∧ z = .int (i % j)
  | _, _, _ => False
def PowD : PyData → PyData → PyData → Prop
  | .int i, .int j, z => CPow i j ∧ z = .int (i ^ j.toNat)
  | _, _, _ => False
def LtD : PyData → PyData → PyData → Prop
  | .int i, .int j, z => z = .bool (decide (i < j))
  | .str a, .str b, z => z = .bool (decide (a.cps.toList < b.cps.toList))
  | _, _, _ => False
def LeD : PyData → PyData → PyData → Prop
  | .int i, .int j, z => z = .bool (decide (i ≤ j))
  | .str a, .str b, z => z = .bool (!decide (b.cps.toList < a.cps.toList))
  | _, _, _ => False
def GtD : PyData → PyData → PyData → Prop
  | .int i, .int j, z => z = .bool (decide (j < i))
  | .str a, .str b, z => z = .bool (decide (b.cps.toList < a.cps.toList))
  | _, _, _ => False
def GeD : PyData → PyData → PyData → Prop
  | .int i, .int j, z => z = .bool (decide (j ≤ i))
  | .str a, .str b, z => z = .bool (!decide (a.cps.toList < b.cps.toList))
  | _, _, _ => False
/-- what == compares: no dicts, texts of known signs, not too deep -/
abbrev Shp (d : PyData) : Prop := SeqAt.shaped d = true
def EqD (d e z : PyData) : Prop := Shp d ∧ Shp e ∧ z = .bool (PyData.eqv d e)
def NeD (d e z : PyData) : Prop := Shp d ∧ Shp e ∧ z = .bool (!PyData.eqv d e)
/-- flat things -/
def flatD : PyData → Bool
  | .none | .bool _ | .int _ | .str _ => true
  | _ => false
def InD : PyData → PyData → PyData → Prop
  | .str c, .str t, z => (∃ k, c = ⟨#[k]⟩ ∧ z = .bool (decide (k ∈ t.cps.toList)))
  | d, .list ds, z => Shp d ∧ Shp (.list ds) ∧ z = .bool (ds.any fun y => PyData.eqv y d)
  | d, .tuple ds, z => flatD d = true ∧ ds.all flatD = true ∧ z = .bool (ds.any fun y => PyData.eqv y d)
  | _, _, _ => False
def NotInD : PyData → PyData → PyData → Prop
  | .str c, .str t, z => (∃ k, c = ⟨#[k]⟩ ∧ z = .bool (!decide (k ∈ t.cps.toList)))
  | d, .list ds, z => Shp d ∧ Shp (.list ds) ∧ z = .bool (!ds.any fun y => PyData.eqv y d)
  | d, .tuple ds, z => flatD d = true ∧ ds.all flatD = true ∧ z = .bool (!ds.any fun y => PyData.eqv y d)
  | _, _, _ => False
def isNoneD : PyData → Bool
  | .none => true
  | _ => false
end
section
variable {X : Cx}
theorem Da.list_inv {K : Fg} {M : Ms} {H : Hp} {x : V} {ds : List PyData} (h : Da K M H x (.list ds)) : ∃ a xs, x = .ref a ∧ SqL K (hid M H) a xs ∧ Das K M H xs ds := by cases h with | lst s a => exact ⟨_, _, rfl, s, a⟩
theorem Da.tup_inv {K : Fg} {M : Ms} {H : Hp} {x : V} {ds : List PyData} (h : Da K M H x (.tuple ds)) : ∃ a xs, x = .ref a ∧ SqT K (hid M H) a xs ∧ Das K M H xs ds := by cases h with | tup s a => exact ⟨_, _, rfl, s, a⟩
/-- a list of the heap or of the written part, as the machine has it -/
theorem list_obj {pins : List (Addr × Obj)} {σ : L2.St} {H : Hp} {s : Shared} {l : Addr} {xs : List V} (I : Inv X pins σ H s) (h : SqL X.K H l xs) :
    ∃ (its : List Value) (n : Nat) (dd : Option Addr) (sl : Array (Option Value)), Vals xs its ∧ its.length = xs.length ∧ s.heap.get? l = some { cls := .type "list", dict := dd, data := .seq its.toArray n, slots := sl } := by
  obtain ⟨its, r, ⟨ob, n, at_l, is_list, no_dict, dat⟩, _⟩ := I.list h
  refine ⟨its, n, ob.dict, ob.slots, r, r.length.symm, ?_⟩
  rw [at_l]
  cases ob
  cases is_list
  cases dat
  rfl
def rCatR (K : Fg) : R2 := fun x y H Q => ∃ l b xs zs, x = .ref l ∧ y = .ref b ∧ SqL K H l xs ∧ SqL K H b zs ∧ xs.length + zs.length ≤ sizeLine ∧ ∀ p, H p = none → Q (.ref p) (upd H p (.lst (xs ++ zs)))
theorem op_catR : OpR X (binaryOp .Add) (rCatR X.K) := by
  rintro pins s σ H _ _ v u Q I rx ry ⟨l, b, xs, zs, rfl, rfl, left, right, room, done⟩
  obtain ⟨us, n1, d1, sl1, r1, e1, o1⟩ := list_obj I left
  obtain ⟨ws, n2, d2, sl2, r2, e2, o2⟩ := list_obj I right
  cases rx
  cases ry
  have fits : us.toArray.size + ws.toArray.size ≤ sizeLine := by simpa [e1, e2] using room
  have both : us.toArray ++ ws.toArray = (us ++ ws).toArray := List.append_toArray us ws
  have sum := PyProof.Rows.list_addW l b us.toArray ws.toArray n1 n2 d1 d2 sl1 sl2 fits
  refine concat_meets ⟨_, o1, rfl⟩ ⟨_, o2, rfl⟩ noFill_list_add seq_list_add PySem.F.slot_list_add PySem.F.entry_list_add (PySem.F.args_list_add_2 _ _) sum ⟨o1, o2, ?_⟩
  rw [both]
  have made := I.lnew (t' := s.toks) (r1.append r2) (by rw [List.length_append]; exact room)
  exact ⟨V.ref _, _, made, rfl, done _ I.fresh⟩
theorem op_addD : OpR X (binaryOp .Add) (rB X.K AddD) := by
  intro pins s σ H x y v u Q I rx ry h
  obtain ⟨M, d, e, z, hM, hd, he, g, q⟩ := h
  cases d <;> cases e <;> try exact g.elim
  · have e1 := hd.int_inv; have e2 := he.int_inv; subst e1; subst e2
    exact op_add pins s σ H _ _ v u Q I rx ry ⟨_, _, rfl, rfl, q _ H (Ex.refl H) (by rw [show z = _ from g]; exact .int _)⟩
  · have e1 := hd.str_inv; have e2 := he.str_inv; subst e1; subst e2
    exact op_add_str pins s σ H _ _ v u Q I rx ry ⟨_, _, rfl, rfl, g.1, q _ H (Ex.refl H) (by rw [g.2]; exact .str _)⟩
  · obtain ⟨a, xs, rfl, ha, hx⟩ := hd.list_inv
    obtain ⟨b, ys, rfl, hb, hy⟩ := he.list_inv
    have l1 := Das.len hx; have l2 := Das.len hy
    exact op_catR pins s σ H _ _ v u Q I rx ry ⟨a, b, xs, ys, rfl, rfl, hid_l ha, hid_l hb, by rw [l1, l2]; exact g.1, fun p hp => q _ _ (Ex.new hp) (by rw [g.2]; exact Da.new_lst hM hp (Das.app hx hy))⟩
  · obtain ⟨a, xs, rfl, ha, hx⟩ := hd.tup_inv
    obtain ⟨b, ys, rfl, hb, hy⟩ := he.tup_inv
    have l1 := Das.len hx; have l2 := Das.len hy
    refine op_catA pins s σ H _ _ v u Q I rx ry ⟨a, b, xs, ys, rfl, rfl, hid_t ha, hid_t hb, by rw [l1, l2]; exact g.1, fun e => ?_, fun _ e => ?_, fun _ _ p hp => q _ _ (Ex.new hp) (by rw [g.2]; exact Da.new_tup hM hp (Das.app hx hy))⟩
    · subst e; cases hx
      exact q _ H (Ex.refl H) (by rw [g.2]; exact Dq.tup hb hy)
    · subst e; cases hy
      exact q _ H (Ex.refl H) (by rw [g.2, List.append_nil]; exact Dq.tup ha hx)
theorem op_subD : OpR X (binaryOp .Sub) (rB X.K SubD) := by
  intro pins s σ H x y v u Q I rx ry h
  obtain ⟨M, d, e, z, hM, hd, he, g, q⟩ := h
  cases d <;> cases e <;> try exact g.elim
  have e1 := hd.int_inv; have e2 := he.int_inv; subst e1; subst e2
  exact op_sub pins s σ H _ _ v u Q I rx ry ⟨_, _, rfl, rfl, q _ H (Ex.refl H) (by rw [show z = _ from g]; exact .int _)⟩
def rRepR (K : Fg) : R2 := fun x y H Q => ∃ l k xs, x = .ref l ∧ y = .int k ∧ SqL K H l xs ∧ (-(2 ^ 63) ≤ k ∧ k < 2 ^ 63) ∧ xs.length * k.toNat ≤ sizeLine ∧ ∀ p, H p = none → Q (.ref p) (upd H p (.lst (List.replicate k.toNat xs).flatten))
theorem op_repR : OpR X (binaryOp .Mult) (rRepR X.K) := by
  intro pins s σ H _ _ v _ Q I rx ry h
  obtain ⟨l, k, xs, rfl, rfl, there, ⟨lo, hi⟩, room, done⟩ := h
  obtain ⟨t, rfl⟩ := ry
  obtain ⟨us, n, dd, sl, r, e, ob⟩ := list_obj I there
  cases rx
  have many : us.toArray.size * k.toNat ≤ sizeLine := by simpa [e] using room
  have c1 : ¬ (!Builtin.List.listFitsIndex k) = true := by simp [PySem.fitsIndex_both lo hi]
  have c2 : ¬ us.toArray.size * k.toNat > (2 ^ 63 - 1) / 8 := Nat.not_lt.mpr (Nat.le_trans many (by decide))
  have c3 : ¬ Builtin.List.listTooLong (us.toArray.size * k.toNat) = true := by
    rw [notLongL many]; exact Bool.false_ne_true
  have times := lm_list_mul_any l us.toArray n dd sl k t c1 c2 c3
  have turned := lm_int_rmul_list_any k t l us.toArray n dd sl
  refine wpAny_binaryOp_repeat_ref (T := "list") (U := "int") (by decide) ⟨_, ob, rfl⟩ (fun s' => typeIs_int s' k t) noFill_list_mul F.fills_int_mul F.slot_int_rmul repeat_list F.slot_int_index.lookup ?_
  have made := I.lnew (t' := s.toks) (r.rep k.toNat) (by simpa [PyProof.Rows.lm_len_rep_flat, Nat.mul_comm] using room)
  refine call_meets F.slot_int_rmul (typeIs_int s k t) F.entry_int_rmul (F.args_int_rmul_2 _ _) turned ⟨ob, rfl, ⟨_, ob, rfl⟩, call_meets F.slot_list_mul ⟨_, ob, rfl⟩ F.entry_list_mul (F.args_list_mul_2 _ _) times ⟨ob, ?_⟩⟩
  rw [PyProof.Rows.listMul_foldl_if]
  exact ⟨.ref _, _, made, rfl, done _ I.fresh⟩
theorem op_mulD : OpR X (binaryOp .Mult) (rB X.K MulD) := by
  intro pins s σ H x y v u Q I rx ry h
  obtain ⟨M, d, e, z, hM, hd, he, g, q⟩ := h
  cases d <;> cases e <;> try exact g.elim
  · have e1 := hd.int_inv; have e2 := he.int_inv; subst e1; subst e2
    exact op_mul pins s σ H _ _ v u Q I rx ry ⟨_, _, rfl, rfl, g.1, q _ H (Ex.refl H) (by rw [g.2]; exact .int _)⟩
  · obtain ⟨a, xs, rfl, ha, hx⟩ := hd.list_inv
    have e2 := he.int_inv; subst e2
    have l1 := Das.len hx
    exact op_repR pins s σ H _ _ v u Q I rx ry ⟨a, _, xs, rfl, rfl, hid_l ha, ⟨g.1, g.2.1⟩, by rw [l1]; exact g.2.2.1, fun p hp => q _ _ (Ex.new hp) (by rw [g.2.2.2]; exact Da.new_lst hM hp (Das.rep hx _))⟩
theorem op_divD : OpR X (binaryOp .FloorDiv) (rB X.K DivD) := by
  intro pins s σ H x y v u Q I rx ry h
  obtain ⟨M, d, e, z, hM, hd, he, g, q⟩ := h
  cases d <;> cases e <;> try exact g.elim
  have e1 := hd.int_inv; have e2 := he.int_inv; subst e1; subst e2
  exact op_fdiv pins s σ H _ _ v u Q I rx ry ⟨_, _, rfl, rfl, g.1, q _ H (Ex.refl H) (by rw [g.2]; exact .int _)⟩
theorem op_modD : OpR X (binaryOp .Mod) (rB X.K ModD) := by
  intro pins s σ H x y v u Q I rx ry h
  obtain ⟨M, d, e, z, hM, hd, he, g, q⟩ := h
  cases d <;> cases e <;> try exact g.elim
  have e1 := hd.int_inv; have e2 := he.int_inv; subst e1; subst e2
  exact op_mod pins s σ H _ _ v u Q I rx ry ⟨_, _, rfl, rfl, g.1, q _ H (Ex.refl H) (by rw [g.2]; exact .int _)⟩
theorem op_powD : OpR X (binaryOp .Pow) (rB X.K PowD) := by
  intro pins s σ H x y v u Q I rx ry h
  obtain ⟨M, d, e, z, hM, hd, he, g, q⟩ := h
  cases d <;> cases e <;> try exact g.elim
  have e1 := hd.int_inv; have e2 := he.int_inv; subst e1; subst e2
  exact op_pow pins s σ H _ _ v u Q I rx ry ⟨_, _, rfl, rfl, g.1, q _ H (Ex.refl H) (by rw [g.2]; exact .int _)⟩
theorem op_ltD : OpR X (compareOp .Lt) (rB X.K LtD) := by
  intro pins s σ H x y v u Q I rx ry h
  obtain ⟨M, d, e, z, hM, hd, he, g, q⟩ := h
  cases d <;> cases e <;> try exact g.elim
  · have e1 := hd.int_inv; have e2 := he.int_inv; subst e1; subst e2
    exact op_lt pins s σ H _ _ v u Q I rx ry ⟨_, _, rfl, rfl, q _ H (Ex.refl H) (by rw [show z = _ from g]; exact .bl _)⟩
  · have e1 := hd.str_inv; have e2 := he.str_inv; subst e1; subst e2
    exact op_lt_str pins s σ H _ _ v u Q I rx ry ⟨_, _, rfl, rfl, q _ H (Ex.refl H) (by rw [show z = _ from g]; exact .bl _)⟩
theorem op_leD : OpR X (compareOp .LtE) (rB X.K LeD) := by
  intro pins s σ H x y v u Q I rx ry h
  obtain ⟨M, d, e, z, hM, hd, he, g, q⟩ := h
  cases d <;> cases e <;> try exact g.elim
  · have e1 := hd.int_inv; have e2 := he.int_inv; subst e1; subst e2
    exact op_le pins s σ H _ _ v u Q I rx ry ⟨_, _, rfl, rfl, q _ H (Ex.refl H) (by rw [show z = _ from g]; exact .bl _)⟩
  · have e1 := hd.str_inv; have e2 := he.str_inv; subst e1; subst e2
    exact op_le_str pins s σ H _ _ v u Q I rx ry ⟨_, _, rfl, rfl, q _ H (Ex.refl H) (by rw [show z = _ from g]; exact .bl _)⟩
theorem op_gtD : OpR X (compareOp .Gt) (rB X.K GtD) := by
  intro pins s σ H x y v u Q I rx ry h
  obtain ⟨M, d, e, z, hM, hd, he, g, q⟩ := h
  cases d <;> cases e <;> try exact g.elim
  · have e1 := hd.int_inv; have e2 := he.int_inv; subst e1; subst e2
    exact op_gt pins s σ H _ _ v u Q I rx ry ⟨_, _, rfl, rfl, q _ H (Ex.refl H) (by rw [show z = _ from g]; exact .bl _)⟩
  · have e1 := hd.str_inv; have e2 := he.str_inv; subst e1; subst e2
    exact op_gt_str pins s σ H _ _ v u Q I rx ry ⟨_, _, rfl, rfl, q _ H (Ex.refl H) (by rw [show z = _ from g]; exact .bl _)⟩
theorem op_geD : OpR X (compareOp .GtE) (rB X.K GeD) := by
  intro pins s σ H x y v u Q I rx ry h
  obtain ⟨M, d, e, z, hM, hd, he, g, q⟩ := h
  cases d <;> cases e <;> try exact g.elim
  · have e1 := hd.int_inv; have e2 := he.int_inv; subst e1; subst e2
    exact op_ge pins s σ H _ _ v u Q I rx ry ⟨_, _, rfl, rfl, q _ H (Ex.refl H) (by rw [show z = _ from g]; exact .bl _)⟩
  · have e1 := hd.str_inv; have e2 := he.str_inv; subst e1; subst e2
    exact op_ge_str pins s σ H _ _ v u Q I rx ry ⟨_, _, rfl, rfl, q _ H (Ex.refl H) (by rw [show z = _ from g]; exact .bl _)⟩
theorem op_eqDD (hu : X.A.units + 64 < cLine) : OpR X (compareOp .Eq) (rB X.K EqD) := by
  intro pins s σ H x y v u Q I rx ry h
  obtain ⟨M, d, e, z, hM, hd, he, g, q⟩ := h
  exact op_eqD hu pins s σ H _ _ v u Q I rx ry ⟨d, e, hd.dp, he.dp, g.1, g.2.1, q _ H (Ex.refl H) (by rw [g.2.2]; exact .bl _)⟩
theorem op_neDD (hu : X.A.units + 64 < cLine) : OpR X (compareOp .NotEq) (rB X.K NeD) := by
  intro pins s σ H x y v u Q I rx ry h
  obtain ⟨M, d, e, z, hM, hd, he, g, q⟩ := h
  exact op_neD hu pins s σ H _ _ v u Q I rx ry ⟨d, e, hd.dp, he.dp, g.1, g.2.1, q _ H (Ex.refl H) (by rw [g.2.2]; exact .bl _)⟩
theorem flat_of {K : Fg} {M : Ms} {H : Hp} {x : V} {d : PyData} (h : Da K M H x d) (f : flatD d = true) : flatV x = true := by
  cases h <;> first | rfl | cases f
theorem flats_of {K : Fg} {M : Ms} {H : Hp} : ∀ {xs : List V} {ds : List PyData}, Das K M H xs ds → ds.all flatD = true → xs.all flatV = true
  | _, _, .nil, _ => rfl
  | _, _, .cons h t, f => by
    rw [List.all_cons, Bool.and_eq_true] at f
    rw [List.all_cons, flat_of h f.1, flats_of t f.2]; rfl
theorem eqv_of {K : Fg} {M : Ms} {H : Hp} {x y : V} {d e : PyData} (h : Da K M H x d) (h' : Da K M H y e) (f : flatD d = true) (f' : flatD e = true) : eqV x y = PyData.eqv d e := by
  cases h <;> cases h' <;> first | rfl | (cases f; done) | (cases f'; done) | (unfold PyData.eqv eqV; first | rfl | simp)
theorem inV_of {K : Fg} {M : Ms} {H : Hp} {y : V} {e : PyData} (h' : Da K M H y e) (f' : flatD e = true) : ∀ {xs : List V} {ds : List PyData}, Das K M H xs ds → ds.all flatD = true → inV y xs = ds.any fun z => PyData.eqv z e
  | _, _, .nil, _ => rfl
  | _, _, .cons (v := v) (vs := vs) h t, f => by
    rw [List.all_cons, Bool.and_eq_true] at f
    have ih := inV_of h' f' t f.2
    show (eqV v y || inV y vs) = _
    rw [ih, eqv_of h h' f.1 f', List.any_cons]
theorem op_inDD (hu : X.A.units + 65 < cLine) : OpR X (compareOp .In) (rB X.K InD) := by
  intro pins s σ H x y v u Q I rx ry h
  obtain ⟨M, d, e, z, hM, hd, he, g, q⟩ := h
  cases e with
  | str t =>
    cases d <;> try exact g.elim
    obtain ⟨k, rfl, g⟩ := g
    have e1 := hd.str_inv; have e2 := he.str_inv; subst e1; subst e2
    exact op_in_sign pins s σ H _ _ v u Q I rx ry ⟨_, _, rfl, rfl, q _ H (Ex.refl H) (by rw [g]; exact .bl _)⟩
  | list ds =>
    have g : Shp d ∧ Shp (.list ds) ∧ z = .bool (ds.any fun y => PyData.eqv y d) := by cases d <;> exact g
    exact op_inD hu pins s σ H _ _ v u Q I rx ry ⟨d, ds, hd.dp, he.dp, g.1, g.2.1, q _ H (Ex.refl H) (by rw [g.2.2]; exact .bl _)⟩
  | tuple ds =>
    have g : flatD d = true ∧ ds.all flatD = true ∧ z = .bool (ds.any fun y => PyData.eqv y d) := by cases d <;> exact g
    obtain ⟨a, xs, rfl, ha, hx⟩ := he.tup_inv
    refine op_in_seq pins s σ H _ _ v u Q I rx ry ⟨a, xs, rfl, .inr (hid_t ha), flat_of hd g.1, flats_of hx g.2.1, q _ H (Ex.refl H) ?_⟩
    rw [g.2.2, ← inV_of hd g.1 hx g.2.1]; exact .bl _
  | none => cases d <;> exact g.elim
  | bool b => cases d <;> exact g.elim
  | int b => cases d <;> exact g.elim
  | dict b => cases d <;> exact g.elim
theorem op_notInDD (hu : X.A.units + 65 < cLine) : OpR X (compareOp .NotIn) (rB X.K NotInD) := by
  intro pins s σ H x y v u Q I rx ry h
  obtain ⟨M, d, e, z, hM, hd, he, g, q⟩ := h
  cases e with
  | str t =>
    cases d <;> try exact g.elim
    obtain ⟨k, rfl, g⟩ := g
    have e1 := hd.str_inv; have e2 := he.str_inv; subst e1; subst e2
    exact op_notIn_sign pins s σ H _ _ v u Q I rx ry ⟨_, _, rfl, rfl, q _ H (Ex.refl H) (by rw [g]; exact .bl _)⟩
  | list ds =>
    have g : Shp d ∧ Shp (.list ds) ∧ z = .bool (!ds.any fun y => PyData.eqv y d) := by cases d <;> exact g
    exact op_notInD hu pins s σ H _ _ v u Q I rx ry ⟨d, ds, hd.dp, he.dp, g.1, g.2.1, q _ H (Ex.refl H) (by rw [g.2.2]; exact .bl _)⟩
  | tuple ds =>
    have g : flatD d = true ∧ ds.all flatD = true ∧ z = .bool (!ds.any fun y => PyData.eqv y d) := by cases d <;> exact g
    obtain ⟨a, xs, rfl, ha, hx⟩ := he.tup_inv
    refine op_notIn_seq pins s σ H _ _ v u Q I rx ry ⟨a, xs, rfl, .inr (hid_t ha), flat_of hd g.1, flats_of hx g.2.1, q _ H (Ex.refl H) ?_⟩
    rw [g.2.2, ← inV_of hd g.1 hx g.2.1]; exact .bl _
  | none => cases d <;> exact g.elim
  | bool b => cases d <;> exact g.elim
  | int b => cases d <;> exact g.elim
  | dict b => cases d <;> exact g.elim
/-- x is None, of any value -/
def rIsNone : R2 := fun x y H Q => y = .non ∧ Q (.bl (decide (x = .non))) H
def rNotNone : R2 := fun x y H Q => y = .non ∧ Q (.bl (!decide (x = .non))) H
theorem op_isNoneD : OpR X (compareOp .Is) rIsNone := op_isN
theorem op_notNoneD : OpR X (compareOp .IsNot) rNotNone := op_notN
theorem un_negD : UnR X (unaryOp .USub) (rU1 X.K fun d z => ∃ i, d = .int i ∧ z = .int (-i)) := by
  intro pins s σ H x v Q I rx h
  obtain ⟨M, d, z, hM, hd, ⟨i, rfl, rfl⟩, q⟩ := h
  have e1 := hd.int_inv; subst e1
  exact un_neg pins s σ H _ v Q I rx ⟨i, rfl, q _ H (Ex.refl H) (.int _)⟩
/-! ### subscripts -/
def IxD : PyData → PyData → PyData → Prop
  | .list ds, .int i, z => atI ds i = some z
  | .tuple ds, .int i, z => atI ds i = some z
  | .str x, .int i, z => x.length ≤ sizeLine ∧ ∃ c, atI x.cps.toList i = some c ∧ z = .str ⟨#[c]⟩
  | _, _, _ => False
theorem atI_das {K : Fg} {H : Hp} {xs : List V} {ds : List PyData} {i : Int} {z : PyData} (h : DqAll K H xs ds) (e : atI ds i = some z) : ∃ v, atI xs i = some v ∧ Dq K H v z := by
  unfold atI at e ⊢
  rw [Das.len h]
  cases q : ixN ds.length i with
  | none => rw [q] at e; cases e
  | some j => rw [q] at e; exact Das.get h e
theorem ix_D : IxR X (rB X.K IxD) := by
  intro value slice pins s σ H x y v u Q I rx ry h hp
  obtain ⟨M, d, e, z, hM, hd, he, g, q⟩ := h
  cases d <;> cases e <;> try exact g.elim
  · have e1 := hd.str_inv; have e2 := he.int_inv; subst e1; subst e2
    obtain ⟨g1, c, g2, rfl⟩ := g
    exact ix_str value slice pins s σ H _ _ v u Q I rx ry ⟨_, _, c, rfl, rfl, g1, g2, q _ H (Ex.refl H) (.str _)⟩ hp
  · obtain ⟨a, xs, rfl, ha, hx⟩ := hd.list_inv
    have e2 := he.int_inv; subst e2
    obtain ⟨w, h1, h2⟩ := atI_das hx g
    exact ix_list value slice pins s σ H _ _ v u Q I rx ry ⟨a, xs, _, w, rfl, rfl, (hid_l ha), h1, q _ H (Ex.refl H) h2⟩ hp
  · obtain ⟨a, xs, rfl, ha, hx⟩ := hd.tup_inv
    have e2 := he.int_inv; subst e2
    obtain ⟨w, h1, h2⟩ := atI_das hx g
    exact ix_tup value slice pins s σ H _ _ v u Q I rx ry ⟨a, xs, _, w, rfl, rfl, hid_t ha, h1, q _ H (Ex.refl H) h2⟩ hp
def cutD (xs : List PyData) (lo hi : Option Int) : List PyData := (xs.drop (HT.sIx xs.length 0 lo)).take (HT.sIx xs.length xs.length hi - HT.sIx xs.length 0 lo)
def SlD : PyData → Option Int → Option Int → PyData → Prop
  | .list ds, lo, hi, z => z = .list (cutD ds lo hi)
  | .tuple ds, lo, hi, z => z = .tuple (cutD ds lo hi)
  | .str x, lo, hi, z => x.length ≤ sizeLine ∧ z = .str (cutS x lo hi)
  | _, _, _, _ => False
theorem das_cut {K : Fg} {H : Hp} {xs : List V} {ds : List PyData} (h : DqAll K H xs ds) (lo hi : Option Int) : DqAll K H (cutV xs lo hi) (cutD ds lo hi) := by
  unfold cutV cutD
  rw [Das.len h]
  exact Das.take _ (Das.drop _ h)
theorem sl_D : SlR X (rSl X.K SlD) := by
  intro pins s σ H x v vl vu lo hi sl Q I rx hs pl pu h
  obtain ⟨M, d, z, hM, hd, g, q⟩ := h
  cases d <;> try exact g.elim
  · have e1 := hd.str_inv; subst e1
    exact sl_str pins s σ H _ v vl vu lo hi sl Q I rx hs pl pu ⟨_, rfl, g.1, q _ H (Ex.refl H) (by rw [g.2]; exact .str _)⟩
  · obtain ⟨a, xs, rfl, ha, hx⟩ := hd.list_inv
    exact sl_list pins s σ H _ v vl vu lo hi sl Q I rx hs pl pu ⟨a, xs, rfl, (hid_l ha), fun p hp => q _ _ (Ex.new hp) (by rw [show z = _ from g]; exact Da.new_lst hM hp (das_cut hx lo hi))⟩
  · obtain ⟨a, xs, rfl, ha, hx⟩ := hd.tup_inv
    have e := das_cut hx lo hi
    refine sl_tupA pins s σ H _ v vl vu lo hi sl Q I rx hs pl pu ⟨a, xs, rfl, hid_t ha, fun w => ?_, fun _ p hp => q _ _ (Ex.new hp) (by rw [show z = _ from g]; exact Da.new_tup hM hp e)⟩
    refine q _ H (Ex.refl H) ?_
    rw [show z = _ from g]
    have e2 : cutV xs lo hi = xs := by
      unfold cutV; rw [w.1, w.2]; simp
    rw [e2] at e
    exact Dq.tup ha e
/-! ### built-ins on data -/
def LenD : List PyData → PyData → Prop
  | [.str x], z => x.length ≤ sizeLine ∧ z = .int x.length
  | [.list ds], z => z = .int ds.length
  | [.tuple ds], z => z = .int ds.length
  | _, _ => False
theorem Das.one {K : Fg} {H : Hp} {vs : List V} {d : PyData} (h : DqAll K H vs [d]) : ∃ v, vs = [v] ∧ Dq K H v d := by
  cases h with | cons a t => cases t; exact ⟨_, rfl, a⟩
theorem Das.two {K : Fg} {H : Hp} {vs : List V} {d e : PyData} (h : DqAll K H vs [d, e]) : ∃ v u, vs = [v, u] ∧ Dq K H v d ∧ Dq K H u e := by
  cases h with | cons a t => obtain ⟨u, rfl, b⟩ := Das.one t; exact ⟨_, _, rfl, a, b⟩
theorem call_lenD : CallR X (.builtin "len") (rC X.K LenD) := by
  intro pins s σ H xs us Q I rx h
  obtain ⟨M, ds, z, hM, hd, g, q⟩ := h
  match ds, g with
  | [.str x], g =>
    obtain ⟨v, rfl, h1⟩ := Das.one hd
    have e1 := Da.str_inv h1; subst e1
    exact call_len_str pins s σ H _ us Q I rx ⟨x, rfl, g.1, q _ H (Ex.refl H) (by rw [g.2]; exact .int _)⟩
  | [.list ds], g =>
    obtain ⟨v, rfl, h1⟩ := Das.one hd
    obtain ⟨a, xs, rfl, ha, hx⟩ := Da.list_inv h1
    exact call_len_seq pins s σ H _ us Q I rx ⟨a, xs, rfl, .inl (hid_l ha), q _ H (Ex.refl H) (by rw [show z = _ from g, Das.len hx]; exact .int _)⟩
  | [.tuple ds], g =>
    obtain ⟨v, rfl, h1⟩ := Das.one hd
    obtain ⟨a, xs, rfl, ha, hx⟩ := Da.tup_inv h1
    exact call_len_seq pins s σ H _ us Q I rx ⟨a, xs, rfl, .inr (hid_t ha), q _ H (Ex.refl H) (by rw [show z = _ from g, Das.len hx]; exact .int _)⟩
def SumD : List PyData → PyData → Prop
  | [.list ds], z => ∃ ns : List Int, ds = ns.map PyData.int ∧ z = .int ns.sum
  | _, _ => False
theorem call_sumD (hc : X.calm = true) : CallR X (.builtin "sum") (rC X.K SumD) := by
  intro pins s σ H xs us Q I rx h
  obtain ⟨M, ds, z, hM, hd, g, q⟩ := h
  match ds, g with
  | [.list ds], g =>
    obtain ⟨v, rfl, h1⟩ := Das.one hd
    obtain ⟨a, xs, rfl, ha, hx⟩ := Da.list_inv h1
    obtain ⟨ns, rfl, g⟩ := g
    have e := Das.ints hx; subst e
    exact cr_sum hc pins s σ H _ us Q I rx ⟨a, ns, rfl, (hid_l ha), q _ H (Ex.refl H) (by rw [g]; exact .int _)⟩
def AllD : List PyData → PyData → Prop
  | [.list ds], z => ∃ ns : List Bool, ds = ns.map PyData.bool ∧ z = .bool (ns.all id)
  | _, _ => False
def AnyD : List PyData → PyData → Prop
  | [.list ds], z => ∃ ns : List Bool, ds = ns.map PyData.bool ∧ z = .bool (ns.any id)
  | _, _ => False
theorem call_allD (hc : X.calm = true) : CallR X (.builtin "all") (rC X.K AllD) := by
  intro pins s σ H xs us Q I rx h
  obtain ⟨M, ds, z, hM, hd, g, q⟩ := h
  match ds, g with
  | [.list ds], g =>
    obtain ⟨v, rfl, h1⟩ := Das.one hd
    obtain ⟨a, xs, rfl, ha, hx⟩ := Da.list_inv h1
    obtain ⟨ns, rfl, g⟩ := g
    have e := Das.bls hx; subst e
    exact cr_all hc pins s σ H _ us Q I rx ⟨a, ns, rfl, (hid_l ha), q _ H (Ex.refl H) (by rw [g]; exact .bl _)⟩
theorem call_anyD (hc : X.calm = true) : CallR X (.builtin "any") (rC X.K AnyD) := by
  intro pins s σ H xs us Q I rx h
  obtain ⟨M, ds, z, hM, hd, g, q⟩ := h
  match ds, g with
  | [.list ds], g =>
    obtain ⟨v, rfl, h1⟩ := Das.one hd
    obtain ⟨a, xs, rfl, ha, hx⟩ := Da.list_inv h1
    obtain ⟨ns, rfl, g⟩ := g
    have e := Das.bls hx; subst e
    exact cr_any hc pins s σ H _ us Q I rx ⟨a, ns, rfl, (hid_l ha), q _ H (Ex.refl H) (by rw [g]; exact .bl _)⟩
def Min2D : List PyData → PyData → Prop
  | [.int i, .int j], z => z = .int (min i j)
  | _, _ => False
def Max2D : List PyData → PyData → Prop
  | [.int i, .int j], z => z = .int (max i j)
  | _, _ => False
theorem call_min2D (hc : X.calm = true) : CallR X (.builtin "min") (rC X.K Min2D) := by
  intro pins s σ H xs us Q I rx h
  obtain ⟨M, ds, z, hM, hd, g, q⟩ := h
  match ds, g with
  | [.int i, .int j], g =>
    obtain ⟨v, u, rfl, h1, h2⟩ := Das.two hd
    have e1 := Da.int_inv h1; have e2 := Da.int_inv h2; subst e1; subst e2
    have e : (if j < i then j else i) = min i j := by omega
    exact call_min2 hc pins s σ H _ us Q I rx ⟨i, j, rfl, q _ H (Ex.refl H) (by rw [show z = _ from g, e]; exact .int _)⟩
theorem call_max2D (hc : X.calm = true) : CallR X (.builtin "max") (rC X.K Max2D) := by
  intro pins s σ H xs us Q I rx h
  obtain ⟨M, ds, z, hM, hd, g, q⟩ := h
  match ds, g with
  | [.int i, .int j], g =>
    obtain ⟨v, u, rfl, h1, h2⟩ := Das.two hd
    have e1 := Da.int_inv h1; have e2 := Da.int_inv h2; subst e1; subst e2
    have e : (if j > i then j else i) = max i j := by omega
    exact call_max2 hc pins s σ H _ us Q I rx ⟨i, j, rfl, q _ H (Ex.refl H) (by rw [show z = _ from g, e]; exact .int _)⟩
def AbsD : List PyData → PyData → Prop
  | [.int i], z => z = .int (if i < 0 then -i else i)
  | _, _ => False
theorem call_absD : CallR X (.builtin "abs") (rC X.K AbsD) := by
  intro pins s σ H xs us Q I rx h
  obtain ⟨M, ds, z, hM, hd, g, q⟩ := h
  match ds, g with
  | [.int i], g =>
    obtain ⟨v, rfl, h1⟩ := Das.one hd
    have e1 := Da.int_inv h1; subst e1
    exact call_abs pins s σ H _ us Q I rx ⟨i, rfl, q _ H (Ex.refl H) (by rw [show z = _ from g]; exact .int _)⟩
def IntD : List PyData → PyData → Prop
  | [.int i], z => z = .int i
  | [.bool b], z => z = .int (if b then 1 else 0)
  | [.str x], z => ∃ n, PySem.intText? x = some n ∧ x.length ≤ 640 ∧ z = .int n
  | _, _ => False
theorem call_intD : CallR X (.type "int") (rC X.K IntD) := by
  intro pins s σ H xs us Q I rx h
  obtain ⟨M, ds, z, hM, hd, g, q⟩ := h
  match ds, g with
  | [.int i], g =>
    obtain ⟨v, rfl, h1⟩ := Das.one hd
    have e1 := Da.int_inv h1; subst e1
    exact call_int1 pins s σ H _ us Q I rx (.inl ⟨i, rfl, q _ H (Ex.refl H) (by rw [show z = _ from g]; exact .int _)⟩)
  | [.bool i], g =>
    obtain ⟨v, rfl, h1⟩ := Das.one hd
    have e1 := Da.bl_inv h1; subst e1
    exact call_int1 pins s σ H _ us Q I rx (.inr ⟨i, rfl, q _ H (Ex.refl H) (by rw [show z = _ from g]; exact .int _)⟩)
  | [.str i], g =>
    obtain ⟨v, rfl, h1⟩ := Das.one hd
    have e1 := Da.str_inv h1; subst e1
    obtain ⟨n, g1, g2, g3⟩ := g
    exact call_int_str pins s σ H _ us Q I rx ⟨i, n, rfl, g1, g2, q _ H (Ex.refl H) (by rw [g3]; exact .int _)⟩
def StrD : List PyData → PyData → Prop
  | [.int i], z => i.natAbs.log2 < 1920 ∧ z = .str (toString i)
  | _, _ => False
theorem call_strD : CallR X (.type "str") (rC X.K StrD) := by
  intro pins s σ H xs us Q I rx h
  obtain ⟨M, ds, z, hM, hd, g, q⟩ := h
  match ds, g with
  | [.int i], g =>
    obtain ⟨v, rfl, h1⟩ := Das.one hd
    have e1 := Da.int_inv h1; subst e1
    exact call_str_int pins s σ H _ us Q I rx ⟨i, rfl, g.1, q _ H (Ex.refl H) (by rw [g.2]; exact .str _)⟩
def ListD : List PyData → PyData → Prop
  | [.list ds], z => z = .list ds
  | [.tuple ds], z => z = .list ds
  | _, _ => False
theorem call_listD : CallR X (.type "list") (rC X.K ListD) := by
  intro pins s σ H xs us Q I rx h
  obtain ⟨M, ds, z, hM, hd, g, q⟩ := h
  match ds, g with
  | [.list ds], g =>
    obtain ⟨v, rfl, h1⟩ := Das.one hd
    obtain ⟨a, xs, rfl, ha, hx⟩ := Da.list_inv h1
    exact call_list_of pins s σ H _ us Q I rx ⟨a, xs, rfl, .inl (hid_l ha), fun p hp => q _ _ (Ex.new hp) (by rw [show z = _ from g]; exact Da.new_lst hM hp hx)⟩
  | [.tuple ds], g =>
    obtain ⟨v, rfl, h1⟩ := Das.one hd
    obtain ⟨a, xs, rfl, ha, hx⟩ := Da.tup_inv h1
    exact call_list_of pins s σ H _ us Q I rx ⟨a, xs, rfl, .inr (hid_t ha), fun p hp => q _ _ (Ex.new hp) (by rw [show z = _ from g]; exact Da.new_lst hM hp hx)⟩
def TupleD : List PyData → PyData → Prop
  | [.list ds], z => z = .tuple ds
  | [.tuple ds], z => z = .tuple ds
  | _, _ => False
theorem call_tupleD : CallR X (.type "tuple") (rC X.K TupleD) := by
  intro pins s σ H xs us Q I rx h
  obtain ⟨M, ds, z, hM, hd, g, q⟩ := h
  match ds, g with
  | [.list ds], g =>
    obtain ⟨v, rfl, h1⟩ := Das.one hd
    obtain ⟨a, xs, rfl, ha, hx⟩ := Da.list_inv h1
    exact call_tuple_of pins s σ H _ us Q I rx ⟨a, xs, rfl, .inl ⟨(hid_l ha), fun p hp => q _ _ (Ex.new hp) (by rw [show z = _ from g]; exact Da.new_tup hM hp hx)⟩⟩
  | [.tuple ds], g =>
    obtain ⟨v, rfl, h1⟩ := Das.one hd
    have h0 := h1
    obtain ⟨a, xs, rfl, ha, hx⟩ := Da.tup_inv h1
    exact call_tuple_of pins s σ H _ us Q I rx ⟨a, xs, rfl, .inr ⟨hid_t ha, q _ H (Ex.refl H) (by rw [show z = _ from g]; exact h0)⟩⟩
end
end DL
set_option maxRecDepth 100000
namespace DL
open PySem L2

/-! ### pure evaluation -/
def EvR (K : Fg) (te : TE) (ρ : Ro) (M : Ms) (H : Hp) (s : Sl) : Prop :=
  ∀ H1 σ, Ex H H1 → Md M H1 → Env K M H1 σ ρ → ∀ Q : VK, (∀ v H2, Ex H1 H2 → Rl K M H2 v s → Q v H2) → te σ H1 Q
abbrev EvD (K : Fg) (te : TE) (ρ : Ro) (M : Ms) (H : Hp) (d : PyData) : Prop := EvR K te ρ M H (.d d)
def EvB (K : Fg) (tt : TT) (ρ : Ro) (M : Ms) (H : Hp) (b : Bool) : Prop :=
  ∀ H1 σ, Ex H H1 → Md M H1 → Env K M H1 σ ρ → ∀ Q : Bool → Hp → Prop, (∀ H2, Ex H1 H2 → Q b H2) → tt σ H1 Q
def Rls (K : Fg) (M : Ms) (H : Hp) : List V → List Sl → Prop
  | [], [] => True
  | v :: vs, s :: ss => Rl K M H v s ∧ Rls K M H vs ss
  | _, _ => False
theorem Rls.go {K : Fg} {M : Ms} {H H' : Hp} (g : Go M H H') : ∀ {vs : List V} {ss : List Sl}, Rls K M H vs ss → Rls K M H' vs ss
  | [], [], h => h
  | _ :: _, _ :: _, h => ⟨h.1.go g, Rls.go g h.2⟩
theorem Rls.mono {K : Fg} {M N : Ms} {H : Hp} (g : ∀ a, a ∈ M.h → a ∈ N.h) : ∀ {vs : List V} {ss : List Sl}, Rls K N H vs ss → Rls K M H vs ss
  | [], [], h => h
  | _ :: _, _ :: _, h => ⟨h.1.mono g, Rls.mono g h.2⟩
theorem Rls.das {K : Fg} {M : Ms} {H : Hp} : ∀ {vs : List V} {ds : List PyData}, Rls K M H vs (ds.map Sl.d) → Das K M H vs ds
  | [], [], _ => .nil
  | v :: vs, d :: ds, h => .cons h.1 (Rls.das h.2)
theorem Rls.len {K : Fg} {M : Ms} {H : Hp} : ∀ {vs : List V} {ss : List Sl}, Rls K M H vs ss → vs.length = ss.length
  | [], [], _ => rfl
  | v :: vs, d :: ds, h => by rw [List.length_cons, List.length_cons, Rls.len h.2]
theorem Rls.get {K : Fg} {M : Ms} {H : Hp} : ∀ {vs : List V} {ss : List Sl} {i : Nat} {v s}, Rls K M H vs ss → vs[i]? = some v → ss[i]? = some s → Rl K M H v s
  | [], [], _, _, _, _, e, _ => by simp at e
  | w :: vs, t :: ss, 0, v, s, h, e, e' => by simp at e e'; subst e; subst e'; exact h.1
  | w :: vs, t :: ss, i + 1, v, s, h, e, e' => Rls.get (i := i) h.2 (by simpa using e) (by simpa using e')
def EvA (K : Fg) (ta : TA) (ρ : Ro) (M : Ms) (H : Hp) (ss : List Sl) : Prop :=
  ∀ H1 σ, Ex H H1 → Md M H1 → Env K M H1 σ ρ → ∀ Q : List V → Hp → Prop, (∀ vs H2, Ex H1 H2 → Rls K M H2 vs ss → Q vs H2) → ta σ H1 Q
def EvAD (K : Fg) (ta : TA) (ρ : Ro) (M : Ms) (H : Hp) (ds : List PyData) : Prop :=
  ∀ H1 σ, Ex H H1 → Md M H1 → Env K M H1 σ ρ → ∀ Q : List V → Hp → Prop, (∀ vs H2, Ex H1 H2 → Das K M H2 vs ds → Q vs H2) → ta σ H1 Q
def EvO (K : Fg) (to : TO) (ρ : Ro) (M : Ms) (H : Hp) (o : Option Int) : Prop :=
  ∀ H1 σ, Ex H H1 → Md M H1 → Env K M H1 σ ρ → ∀ Q : Option Int → Hp → Prop, (∀ H2, Ex H1 H2 → Q o H2) → to σ H1 Q
section
variable {K : Fg} {ρ : Ro} {M : Ms} {H H' : Hp} {ta tb tc te : TE} {t u : TT} {s : Sl} {d e z : PyData} {b : Bool}
theorem EvR.ex (x : Ex H H') (h : EvR K te ρ M H s) : EvR K te ρ M H' s := fun H1 σ a => h H1 σ (x.trans a)
theorem EvB.ex (x : Ex H H') (h : EvB K t ρ M H b) : EvB K t ρ M H' b := fun H1 σ a => h H1 σ (x.trans a)
theorem EvR.is {s' : Sl} (h : EvR K te ρ M H s) (e : s = s') : EvR K te ρ M H s' := e ▸ h
theorem EvD.is {d' : PyData} (h : EvD K te ρ M H d) (e : d = d') : EvD K te ρ M H d' := e ▸ h
theorem EvB.is {b' : Bool} (h : EvB K t ρ M H b) (e : b = b') : EvB K t ρ M H b' := e ▸ h
theorem ev_var {i : Nat} (h : ρ[i]? = some (some s)) : EvR K (tVar i) ρ M H s := fun H1 σ _ _ en Q q => by
  obtain ⟨v, e1, r⟩ := en.2 i s h
  exact ⟨v, e1, q v H1 (Ex.refl _) r⟩
theorem ev_int {i : Int} : EvD K (tC (.int i)) ρ M H (.int i) := fun H1 σ _ _ _ Q q => q _ H1 (Ex.refl _) (Dq.int i)
theorem ev_str {i : Str} : EvD K (tC (.str i)) ρ M H (.str i) := fun H1 σ _ _ _ Q q => q _ H1 (Ex.refl _) (Dq.str i)
theorem ev_bl {i : Bool} : EvD K (tC (.bl i)) ρ M H (.bool i) := fun H1 σ _ _ _ Q q => q _ H1 (Ex.refl _) (Dq.bl i)
theorem ev_non : EvD K (tC .non) ρ M H .none := fun H1 σ _ _ _ Q q => q _ H1 (Ex.refl _) Dq.non
theorem ev_ty {n : String} : EvR K (tC (.ty n)) ρ M H (.v (.ty n)) := fun H1 σ _ _ _ Q q => q _ H1 (Ex.refl _) rfl
theorem ev_ref {a : Addr} : EvR K (tC (.ref a)) ρ M H (.v (.ref a)) := fun H1 σ _ _ _ Q q => q _ H1 (Ex.refl _) rfl
/-- a constant of the module that is data of the written part -/
theorem ev_kon {v : V} (h : ∀ H, Dq K (hid M H) v d) : EvD K (tC v) ρ M H d := fun H1 σ _ _ _ Q q => q _ H1 (Ex.refl _) (h _)
theorem ev_bin {g : PyData → PyData → PyData → Prop} (ha : EvD K ta ρ M H d) (hb : EvD K tb ρ M H e) (hg : g d e z) : EvD K (tOp (rB K g) ta tb) ρ M H z := fun H1 σ x m en Q q =>
  ha H1 σ x m en _ fun v H2 x2 r => hb H2 σ (x.trans x2) (m.ex x2) (en.ex x2) _ fun w H3 x3 r3 =>
    ⟨M, d, e, z, m.ex (x2.trans x3), r.ex x3, r3, hg, fun v' H4 x4 r4 => q v' H4 ((x2.trans x3).trans x4) r4⟩
theorem ev_un {g : PyData → PyData → Prop} (ha : EvD K ta ρ M H d) (hg : g d z) : EvD K (tUn (rU1 K g) ta) ρ M H z := fun H1 σ x m en Q q =>
  ha H1 σ x m en _ fun v H2 x2 r => ⟨M, d, z, m.ex x2, r, hg, fun v' H4 x4 r4 => q v' H4 (x2.trans x4) r4⟩
theorem ev_isN (ha : EvD K ta ρ M H d) : EvD K (tOp rIsNone ta (tC .non)) ρ M H (.bool (isNoneD d)) := fun H1 σ x m en Q q =>
  ha H1 σ x m en _ fun v H2 x2 r => ⟨rfl, q _ H2 x2 (by
    have e : decide (v = .non) = isNoneD d := by cases r <;> rfl
    rw [e]; exact Dq.bl _)⟩
theorem ev_notN (ha : EvD K ta ρ M H d) : EvD K (tOp rNotNone ta (tC .non)) ρ M H (.bool (!isNoneD d)) := fun H1 σ x m en Q q =>
  ha H1 σ x m en _ fun v H2 x2 r => ⟨rfl, q _ H2 x2 (by
    have e : decide (v = .non) = isNoneD d := by cases r <;> rfl
    rw [e]; exact Dq.bl _)⟩
theorem ead_nil : EvAD K tNil ρ M H [] := fun H1 σ _ _ _ Q q => q _ H1 (Ex.refl _) .nil
theorem ead_cons {tr : TA} {ds : List PyData} (h : EvD K ta ρ M H d) (hr : EvAD K tr ρ M H ds) : EvAD K (tCons ta tr) ρ M H (d :: ds) := fun H1 σ x m en Q q =>
  h H1 σ x m en _ fun v H2 x2 r => hr H2 σ (x.trans x2) (m.ex x2) (en.ex x2) _ fun vs H3 x3 r3 => q _ H3 (x2.trans x3) (.cons (Da.ex r x3) r3)
theorem ea_nil : EvA K tNil ρ M H [] := fun H1 σ _ _ _ Q q => q _ H1 (Ex.refl _) trivial
theorem ea_cons {tr : TA} {ss : List Sl} (h : EvR K ta ρ M H s) (hr : EvA K tr ρ M H ss) : EvA K (tCons ta tr) ρ M H (s :: ss) := fun H1 σ x m en Q q =>
  h H1 σ x m en _ fun v H2 x2 r => hr H2 σ (x.trans x2) (m.ex x2) (en.ex x2) _ fun vs H3 x3 r3 => q _ H3 (x2.trans x3) ⟨r.ex x3, r3⟩
theorem ev_cb {g : List PyData → PyData → Prop} {tl : TA} {ds : List PyData} (ha : EvAD K tl ρ M H ds) (hg : g ds z) : EvD K (tCB (rC K g) tl) ρ M H z := fun H1 σ x m en Q q =>
  ha H1 σ x m en _ fun vs H2 x2 r => ⟨M, ds, z, m.ex x2, r, hg, fun v' H4 x4 r4 => q v' H4 (x2.trans x4) r4⟩
theorem ev_lst {tl : TA} {ds : List PyData} (ha : EvAD K tl ρ M H ds) (hl : Nat.ble ds.length 100000 = true := by rfl) : EvD K (tLst tl) ρ M H (.list ds) := fun H1 σ x m en Q q =>
  ha H1 σ x m en _ fun vs H2 x2 r => ⟨by rw [Das.len r]; exact Nat.le_trans (Nat.le_of_ble_eq_true hl) (by decide), fun p hp => q _ _ (x2.trans (Ex.new hp)) (Da.new_lst (m.ex x2) hp r)⟩
theorem ev_tup {tl : TA} {ds : List PyData} (ha : EvAD K tl ρ M H ds) (hl : Nat.ble ds.length 100000 = true := by rfl) : EvD K (tTup tl) ρ M H (.tuple ds) := fun H1 σ x m en Q q =>
  ha H1 σ x m en _ fun vs H2 x2 r => ⟨by rw [Das.len r]; exact Nat.le_trans (Nat.le_of_ble_eq_true hl) (by decide), fun p hp => q _ _ (x2.trans (Ex.new hp)) (Da.new_tup (m.ex x2) hp r)⟩
theorem eo_none : EvO K tNoPart ρ M H none := fun H1 σ _ _ _ Q q => q H1 (Ex.refl _)
theorem eo_some {i : Int} (h : EvD K te ρ M H (.int i)) : EvO K (tPart te) ρ M H (some i) := fun H1 σ x m en Q q =>
  h H1 σ x m en _ fun v H2 x2 r => ⟨i, Da.int_inv r, q H2 x2⟩
theorem ev_sl {g : PyData → Option Int → Option Int → PyData → Prop} {tl th : TO} {lo hi : Option Int} (h : EvD K te ρ M H d) (h1 : EvO K tl ρ M H lo) (h2 : EvO K th ρ M H hi) (hg : g d lo hi z) : EvD K (tSl (rSl K g) te tl th) ρ M H z := fun H1 σ x m en Q q =>
  h H1 σ x m en _ fun v H2 x2 r => h1 H2 σ (x.trans x2) (m.ex x2) (en.ex x2) _ fun H3 x3 => h2 H3 σ ((x.trans x2).trans x3) (m.ex (x2.trans x3)) (en.ex (x2.trans x3)) _ fun H4 x4 =>
    ⟨M, d, z, m.ex ((x2.trans x3).trans x4), r.ex (x3.trans x4), hg, fun v' H5 x5 r5 => q v' H5 (((x2.trans x3).trans x4).trans x5) r5⟩
theorem ev_if (h : EvB K t ρ M H b) (h1 : b = true → EvR K ta ρ M H s) (h2 : b = false → EvR K tb ρ M H s) : EvR K (tIf t ta tb) ρ M H s := fun H1 σ x m en Q q =>
  h H1 σ x m en _ fun H2 x2 => by
    cases b with
    | true => exact h1 rfl H2 σ (x.trans x2) (m.ex x2) (en.ex x2) Q fun v H3 x3 r => q v H3 (x2.trans x3) r
    | false => exact h2 rfl H2 σ (x.trans x2) (m.ex x2) (en.ex x2) Q fun v H3 x3 r => q v H3 (x2.trans x3) r
theorem ev_ifD {x y : PyData} (h : EvB K t ρ M H b) (h1 : b = true → EvD K ta ρ M H x) (h2 : b = false → EvD K tb ρ M H y) : EvD K (tIf t ta tb) ρ M H (if b = true then x else y) :=
  ev_if h (fun e => by rw [if_pos e]; exact h1 e) (fun e => by rw [if_neg (by rw [e]; exact Bool.false_ne_true)]; exact h2 e)
theorem ev_andV {a b : Bool} (h1 : EvD K ta ρ M H (.bool a)) (h2 : a = true → EvD K tb ρ M H (.bool b)) : EvD K (tAndV ta tb) ρ M H (.bool (a && b)) := fun H1 σ x m en Q q =>
  h1 H1 σ x m en _ fun v H2 x2 r => ⟨a, Da.bl_inv r, by
    cases a with
    | true => exact h2 rfl H2 σ (x.trans x2) (m.ex x2) (en.ex x2) Q fun v H3 x3 r => q v H3 (x2.trans x3) r
    | false => exact q _ H2 x2 (Dq.bl _)⟩
theorem ev_orV {a b : Bool} (h1 : EvD K ta ρ M H (.bool a)) (h2 : a = false → EvD K tb ρ M H (.bool b)) : EvD K (tOrV ta tb) ρ M H (.bool (a || b)) := fun H1 σ x m en Q q =>
  h1 H1 σ x m en _ fun v H2 x2 r => ⟨a, Da.bl_inv r, by
    cases a with
    | false => exact h2 rfl H2 σ (x.trans x2) (m.ex x2) (en.ex x2) Q fun v H3 x3 r => q v H3 (x2.trans x3) r
    | true => exact q _ H2 x2 (Dq.bl _)⟩
theorem ev_notV {a : Bool} (h1 : EvD K ta ρ M H (.bool a)) : EvD K (tNotV ta) ρ M H (.bool (!a)) := fun H1 σ x m en Q q =>
  h1 H1 σ x m en _ fun v H2 x2 r => ⟨a, Da.bl_inv r, q _ H2 x2 (Dq.bl _)⟩
/-- a < b < c -/
theorem ev_chain {g g' : PyData → PyData → PyData → Prop} {d e c : PyData} {k : Bool} {k' : Bool} (ha : EvD K ta ρ M H d) (hb : EvD K tb ρ M H e) (hc : k = true → EvD K tc ρ M H c) (hg : g d e (.bool k)) (hg' : k = true → g' e c (.bool k')) :
    EvD K (tChain (rB K g) (rB K g') ta tb tc) ρ M H (.bool (k && k')) := fun H1 σ x m en Q q =>
  ha H1 σ x m en _ fun v H2 x2 r => hb H2 σ (x.trans x2) (m.ex x2) (en.ex x2) _ fun w H3 x3 r3 =>
    ⟨M, d, e, .bool k, m.ex (x2.trans x3), r.ex x3, r3, hg, fun v' H4 x4 r4 => ⟨k, Da.bl_inv r4, by
      have X4 := (x2.trans x3).trans x4
      cases k with
      | true =>
        rw [if_pos rfl]
        exact hc rfl H4 σ (x.trans X4) (m.ex X4) (en.ex X4) _ fun w' H5 x5 r5 => ⟨M, e, c, .bool k', m.ex (X4.trans x5), r3.ex (x4.trans x5), r5, hg' rfl, fun v5 H6 x6 r6 => q v5 H6 ((X4.trans x5).trans x6) r6⟩
      | false =>
        rw [if_neg Bool.false_ne_true]
        exact q _ H4 X4 (Dq.bl _)⟩⟩
/-! ### tests -/
theorem eb_test (h : EvD K te ρ M H (.bool b)) : EvB K (tTest te) ρ M H b := fun H1 σ x m en Q q => h H1 σ x m en _ fun v H2 x2 r => ⟨b, Da.bl_inv r, q H2 x2⟩
theorem eb_B (h : EvD K te ρ M H (.bool b)) : EvB K (tB te) ρ M H b := fun H1 σ x m en Q q => h H1 σ x m en _ fun v H2 x2 r => ⟨b, Da.bl_inv r, q H2 x2⟩
theorem eb_and {a b : Bool} (h1 : EvB K t ρ M H a) (h2 : a = true → EvB K u ρ M H b) : EvB K (tAnd t u) ρ M H (a && b) := fun H1 σ x m en Q q => h1 H1 σ x m en _ fun H2 x2 => by
  cases a with
  | true => exact h2 rfl H2 σ (x.trans x2) (m.ex x2) (en.ex x2) Q fun H3 x3 => q H3 (x2.trans x3)
  | false => exact q H2 x2
theorem eb_or {a b : Bool} (h1 : EvB K t ρ M H a) (h2 : a = false → EvB K u ρ M H b) : EvB K (tOr t u) ρ M H (a || b) := fun H1 σ x m en Q q => h1 H1 σ x m en _ fun H2 x2 => by
  cases a with
  | true => exact q H2 x2
  | false => exact h2 rfl H2 σ (x.trans x2) (m.ex x2) (en.ex x2) Q fun H3 x3 => q H3 (x2.trans x3)
theorem eb_not {a : Bool} (h1 : EvB K t ρ M H a) : EvB K (tNot t) ρ M H (!a) := fun H1 σ x m en Q q => h1 H1 σ x m en _ fun H2 x2 => q H2 x2
/-- truth of data -/
def truD : PyData → Bool
  | .none => false
  | .bool b => b
  | .int i => i != 0
  | .str x => x.length != 0
  | .list ds => !ds.isEmpty
  | .tuple ds => !ds.isEmpty
  | .dict ds => !ds.isEmpty
end

/-! ### evaluation that changes the places of M -/
def EvE (K : Fg) (te : TE) (ρ : Ro) (M : Ms) (H : Hp) (P : Sl → Hp → Prop) : Prop :=
  Md M H → ∀ σ, Env K M H σ ρ → ∀ Q : VK, (∀ v H2 s, Go M H H2 → Rl K M H2 v s → P s H2 → Q v H2) → te σ H Q
def EvEB (K : Fg) (tt : TT) (ρ : Ro) (M : Ms) (H : Hp) (P : Bool → Hp → Prop) : Prop :=
  Md M H → ∀ σ, Env K M H σ ρ → ∀ Q : Bool → Hp → Prop, (∀ b H2, Go M H H2 → P b H2 → Q b H2) → tt σ H Q
def EvEA (K : Fg) (ta : TA) (ρ : Ro) (M : Ms) (H : Hp) (P : List Sl → Hp → Prop) : Prop :=
  Md M H → ∀ σ, Env K M H σ ρ → ∀ Q : List V → Hp → Prop, (∀ vs H2 ss, Go M H H2 → Rls K M H2 vs ss → P ss H2 → Q vs H2) → ta σ H Q
section
variable {K : Fg} {ρ : Ro} {M : Ms} {H H' : Hp} {ta tb tc te : TE} {t u : TT} {s : Sl} {d e z : PyData} {b : Bool} {P : Sl → Hp → Prop} {PB : Bool → Hp → Prop}
theorem ee_p (h : EvR K te ρ M H s) (p : ∀ H1, Ex H H1 → P s H1) : EvE K te ρ M H P := fun m σ en Q q => h H σ (Ex.refl _) m en _ fun v H2 x r => q v H2 s x.go r (p H2 x)
theorem eeb_p (h : EvB K t ρ M H b) (p : ∀ H1, Ex H H1 → PB b H1) : EvEB K t ρ M H PB := fun m σ en Q q => h H σ (Ex.refl _) m en _ fun H2 x => q b H2 x.go (p H2 x)
theorem eea_p {ta : TA} {ss : List Sl} {P : List Sl → Hp → Prop} (h : EvA K ta ρ M H ss) (p : ∀ H1, Ex H H1 → P ss H1) : EvEA K ta ρ M H P := fun m σ en Q q => h H σ (Ex.refl _) m en _ fun vs H2 x r => q vs H2 ss x.go r (p H2 x)
theorem eea_nil {P : List Sl → Hp → Prop} (p : P [] H) : EvEA K tNil ρ M H P := fun m σ en Q q => q [] H [] (Go.refl _ _) trivial p
theorem eea_cons {tr : TA} {P : List Sl → Hp → Prop} (h : EvE K ta ρ M H fun s H1 => EvEA K tr ρ M H1 fun ss H2 => P (s :: ss) H2) : EvEA K (tCons ta tr) ρ M H P := fun m σ en Q q =>
  h m σ en _ fun v H2 s g r p => p (m.go g) σ (en.go g) _ fun vs H3 ss g3 r3 p3 => q _ H3 (s :: ss) (g.trans g3) ⟨r.go g3, r3⟩ p3
/-- an operator, its operands maybe changing the places of M -/
theorem ee_bin {g : PyData → PyData → PyData → Prop} (h : EvE K ta ρ M H fun s H1 => ∃ d, s = .d d ∧ EvE K tb ρ M H1 fun s' H2 => ∃ e z, s' = .d e ∧ g d e z ∧ ∀ H3, Ex H2 H3 → P (.d z) H3) : EvE K (tOp (rB K g) ta tb) ρ M H P := fun m σ en Q q =>
  h m σ en _ fun v H2 s g2 r ⟨d, es, p⟩ => by
    subst es
    exact p (m.go g2) σ (en.go g2) _ fun w H3 s' g3 r3 ⟨e, z, es, hg, p3⟩ => by
      subst es
      exact ⟨M, d, e, z, (m.go g2).go g3, Da.go r g3, r3, hg, fun v' H4 x4 r4 => q v' H4 (.d z) ((g2.trans g3).trans x4.go) r4 (p3 H4 x4)⟩
theorem ee_cb {g : List PyData → PyData → Prop} {tl : TA} (h : EvEA K tl ρ M H fun ss H1 => ∃ ds z, ss = ds.map Sl.d ∧ g ds z ∧ ∀ H2, Ex H1 H2 → P (.d z) H2) : EvE K (tCB (rC K g) tl) ρ M H P := fun m σ en Q q =>
  h m σ en _ fun vs H2 ss g2 r ⟨ds, z, es, hg, p⟩ => by
    subst es
    exact ⟨M, ds, z, m.go g2, r.das, hg, fun v' H4 x4 r4 => q v' H4 (.d z) (g2.trans x4.go) r4 (p H4 x4)⟩
theorem ee_lst {tl : TA} (h : EvEA K tl ρ M H fun ss H1 => ∃ ds, ss = ds.map Sl.d ∧ ds.length ≤ 100000 ∧ ∀ H2, Ex H1 H2 → P (.d (.list ds)) H2) : EvE K (tLst tl) ρ M H P := fun m σ en Q q =>
  h m σ en _ fun vs H2 ss g2 r ⟨ds, es, hl, p⟩ => by
    subst es
    exact ⟨by rw [Das.len r.das]; exact Nat.le_trans hl (by decide), fun a ha => q _ _ (.d (.list ds)) (g2.trans (Ex.new ha).go) (Da.new_lst (m.go g2) ha r.das) (p _ (Ex.new ha))⟩
theorem ee_tup {tl : TA} (h : EvEA K tl ρ M H fun ss H1 => ∃ ds, ss = ds.map Sl.d ∧ ds.length ≤ 100000 ∧ ∀ H2, Ex H1 H2 → P (.d (.tuple ds)) H2) : EvE K (tTup tl) ρ M H P := fun m σ en Q q =>
  h m σ en _ fun vs H2 ss g2 r ⟨ds, es, hl, p⟩ => by
    subst es
    exact ⟨by rw [Das.len r.das]; exact Nat.le_trans hl (by decide), fun a ha => q _ _ (.d (.tuple ds)) (g2.trans (Ex.new ha).go) (Da.new_tup (m.go g2) ha r.das) (p _ (Ex.new ha))⟩
theorem ee_if (h : EvEB K t ρ M H fun b H1 => if b = true then EvE K ta ρ M H1 P else EvE K tb ρ M H1 P) : EvE K (tIf t ta tb) ρ M H P := fun m σ en Q q =>
  h m σ en _ fun b H2 g2 p => by
    cases b with
    | true => rw [if_pos rfl] at p ⊢; exact p (m.go g2) σ (en.go g2) Q fun v H3 s g3 r p3 => q v H3 s (g2.trans g3) r p3
    | false => rw [if_neg Bool.false_ne_true] at p ⊢; exact p (m.go g2) σ (en.go g2) Q fun v H3 s g3 r p3 => q v H3 s (g2.trans g3) r p3
theorem eeb_test (h : EvE K te ρ M H fun s H1 => ∃ b, s = .d (.bool b) ∧ PB b H1) : EvEB K (tTest te) ρ M H PB := fun m σ en Q q =>
  h m σ en _ fun v H2 s g2 r ⟨b, es, p⟩ => by subst es; exact ⟨b, Da.bl_inv r, q b H2 g2 p⟩
theorem eeb_B (h : EvE K te ρ M H fun s H1 => ∃ b, s = .d (.bool b) ∧ PB b H1) : EvEB K (tB te) ρ M H PB := fun m σ en Q q =>
  h m σ en _ fun v H2 s g2 r ⟨b, es, p⟩ => by subst es; exact ⟨b, Da.bl_inv r, q b H2 g2 p⟩
theorem eeb_and (h : EvEB K t ρ M H fun a H1 => if a = true then EvEB K u ρ M H1 PB else PB false H1) : EvEB K (tAnd t u) ρ M H PB := fun m σ en Q q =>
  h m σ en _ fun a H2 g2 p => by
    cases a with
    | true => rw [if_pos rfl] at p ⊢; exact p (m.go g2) σ (en.go g2) Q fun b H3 g3 p3 => q b H3 (g2.trans g3) p3
    | false => rw [if_neg Bool.false_ne_true] at p ⊢; exact q _ H2 g2 p
theorem eeb_or (h : EvEB K t ρ M H fun a H1 => if a = true then PB true H1 else EvEB K u ρ M H1 PB) : EvEB K (tOr t u) ρ M H PB := fun m σ en Q q =>
  h m σ en _ fun a H2 g2 p => by
    cases a with
    | false => rw [if_neg Bool.false_ne_true] at p ⊢; exact p (m.go g2) σ (en.go g2) Q fun b H3 g3 p3 => q b H3 (g2.trans g3) p3
    | true => rw [if_pos rfl] at p ⊢; exact q _ H2 g2 p
theorem eeb_not (h : EvEB K t ρ M H fun a H1 => PB (!a) H1) : EvEB K (tNot t) ρ M H PB := fun m σ en Q q =>
  h m σ en _ fun a H2 g2 p => q _ H2 g2 p
end

/-! ### promises: how a call goes, A (arguments) (M) (heap) (what is wanted) -/
abbrev Pm := List Sl → Ms → Hp → (Sl → Hp → Prop) → Prop
def spG (K : Fg) (A : Pm) : Sp := fun vs H Q _ => ∃ M ss R, Md M H ∧ Rls K M H vs ss ∧ A ss M H R ∧ ∀ v H' s, Go M H H' → Rl K M H' v s → R s H' → Q v H'
/-- a function of data -/
def pmD (pre : List PyData → Prop) (f : List PyData → PyData) : Pm := fun ss M H R => ∃ ds, ss = ds.map Sl.d ∧ pre ds ∧ ∀ H', Ex H H' → R (.d (f ds)) H'
section
variable {K : Fg} {ρ : Ro} {M : Ms} {H H' : Hp} {ta : TA} {P : Sl → Hp → Prop}
/-- a call that may write the places l alone -/
theorem ee_call {A : Pm} {E : XK} (l : List Addr) (hl : ∀ a, a ∈ l → a ∈ M.w) (h : EvEA K ta ρ M H fun ss H1 => A ss (M.only l fun a q => M.sub a (hl a q)) H1 fun s H2 => Go (M.only l fun a q => M.sub a (hl a q)) H1 H2 → P s H2) : EvE K (tCall (spG K A) [] E ta) ρ M H P := fun m σ en Q q =>
  h m σ en _ fun vs H2 ss g2 r p => by
    rw [List.append_nil]
    exact ⟨M.only l fun a q => M.sub a (hl a q), ss, _, m.go g2, Rls.mono (M := M.only l fun a q => M.sub a (hl a q)) (N := M) (fun a q => q) r, p, fun v H' s g' r' p' => q v H' s (g2.trans (g'.sub hl)) r' (p' g')⟩
end
end DL
set_option maxRecDepth 100000
namespace DL
open PySem L2
section
variable {K : Fg} {ρ : Ro} {M : Ms} {H H' : Hp} {ta tb tc te : TE} {t u : TT} {s : Sl} {d e z : PyData} {b : Bool} {P : Sl → Hp → Prop} {PB : Bool → Hp → Prop}
/-- a call of a def that is a function of data -/
theorem ev_call {pre : List PyData → Prop} {f : List PyData → PyData} {E : XK} {tl : TA} {ds : List PyData} (ha : EvAD K tl ρ M H ds) (hp : pre ds) : EvD K (tCall (spG K (pmD pre f)) [] E tl) ρ M H (f ds) := fun H1 σ x m en Q q =>
  ha H1 σ x m en _ fun vs H2 x2 r => by
    rw [List.append_nil]
    refine ⟨M.pure, ds.map Sl.d, fun s H' => Ex H2 H' ∧ s = .d (f ds), m.ex x2, ?_, ⟨ds, rfl, hp, fun H' x' => ⟨x', rfl⟩⟩, fun v H' s g r' p' => ?_⟩
    · clear hp q ha
      induction ds generalizing vs with
      | nil => cases r; exact trivial
      | cons d ds ih => cases r with | cons a t => exact ⟨a, ih _ t⟩
    · obtain ⟨x', es⟩ := p'
      subst es
      exact q v H' (x2.trans g.pure) r'

/-! ### what changes, read as data -/
def Ms.del (M : Ms) (p : Addr) : Ms := ⟨M.h.filter (fun a => decide (a ≠ p)), M.w.filter (fun a => decide (a ≠ p)), fun a m => by
  rw [List.mem_filter] at m ⊢; exact ⟨M.sub a m.1, m.2⟩⟩
theorem Ms.del_sub (M : Ms) (p : Addr) : ∀ a, a ∈ (M.del p).h → a ∈ M.h := fun a m => (List.mem_filter.mp m).1
theorem Ms.del_not (M : Ms) (p : Addr) : p ∉ (M.del p).h := fun m => by have := (List.mem_filter.mp m).2; simp at this
def scalD : PyData → Bool
  | .none | .bool _ | .int _ | .str _ => true
  | _ => false
theorem Da.scal {N : Ms} {v : V} (h : Da K N H v d) (s : scalD d = true) : Da K M H v d := by
  cases h <;> first | (cases s; done) | constructor
theorem Env.re {σ : L2.St} (en : Env K M H σ ρ) {i : Nat} {v : V} (h1 : σ[i]? = some (some v)) (h2 : Rl K M H v s) : Env K M H σ (ρ.set i (some s)) := by
  refine ⟨by rw [List.length_set]; exact en.1, fun j t q => ?_⟩
  by_cases hj : i = j
  · subst hj
    by_cases hl : i < ρ.length
    · rw [List.getElem?_set_self hl] at q
      injection q with q; injection q with q; subst q
      exact ⟨v, h1, h2⟩
    · rw [List.getElem?_eq_none (by rw [List.length_set]; omega)] at q; cases q
  · rw [List.getElem?_set_ne hj] at q
    exact en.2 j t q
theorem Env.open {σ : L2.St} {i : Nat} {p : Addr} {xs : List V} {ds : List PyData} (en : Env K M H σ ρ) (hi : ρ[i]? = some (some (.v (.ref p)))) (hp : H p = some (.lst xs)) (hx : Das K (M.del p) H xs ds) :
    Env K (M.del p) H σ (ρ.set i (some (.d (.list ds)))) := by
  obtain ⟨v, h1, h2⟩ := en.2 i _ hi
  cases h2
  exact (en.mono (M.del_sub p)).re h1 (Da.lst (M.del_not p) hp hx)
theorem ev_rd {i : Nat} {p : Addr} {xs : List V} {ds : List PyData} (hi : ρ[i]? = some (some (.v (.ref p)))) (hp : H p = some (.lst xs)) (hx : Das K (M.del p) H xs ds) (h : EvD K te (ρ.set i (some (.d (.list ds)))) (M.del p) H d) (hs : scalD d = true) : EvD K te ρ M H d := fun H1 σ x m en Q q =>
  h H1 σ x (fun a k => m a (M.del_sub p a k)) (en.open hi (x p _ hp) (hx.ex x)) Q fun v H2 x2 r => q v H2 x2 (Da.scal r hs)
theorem eb_rd {i : Nat} {p : Addr} {xs : List V} {ds : List PyData} (hi : ρ[i]? = some (some (.v (.ref p)))) (hp : H p = some (.lst xs)) (hx : Das K (M.del p) H xs ds) (h : EvB K t (ρ.set i (some (.d (.list ds)))) (M.del p) H b) : EvB K t ρ M H b := fun H1 σ x m en Q q =>
  h H1 σ x (fun a k => m a (M.del_sub p a k)) (en.open hi (x p _ hp) (hx.ex x)) Q q
end

/-! ### statements -/
/-- from one point to another: what may be written then was so, or is new -/
structure Stp (M : Ms) (H : Hp) (M' : Ms) (H' : Hp) : Prop where
  md : Md M' H'
  go : Go M H H'
  nw : ∀ a, a ∈ M'.w → a ∈ M.w ∨ H a = none
theorem Stp.of {M : Ms} {H H' : Hp} (m : Md M H) (g : Go M H H') : Stp M H M H' := ⟨m.go g, g, fun _ h => .inl h⟩
theorem Stp.trans {M M1 M2 : Ms} {H H1 H2 : Hp} (a : Stp M H M1 H1) (b : Stp M1 H1 M2 H2) : Stp M H M2 H2 := by
  refine ⟨b.md, ⟨fun x o n h => ?_, fun x o h => by obtain ⟨o', h'⟩ := a.go.2 x o h; exact b.go.2 x o' h'⟩, fun x m => ?_⟩
  · refine b.go.1 x o (fun m => ?_) (a.go.1 x o n h)
    rcases a.nw x m with k | k
    · exact n k
    · rw [h] at k; cases k
  · rcases b.nw x m with k | k
    · exact a.nw x k
    · exact .inr (go_back a.go k)
/-- what is wanted behind -/
structure Po where
  N : Ro → Ms → Hp → Prop
  R : Sl → Hp → Prop
  B : Ro → Ms → Hp → Prop := fun _ _ _ => False
  C : Ro → Ms → Hp → Prop := fun _ _ _ => False
abbrev Sub (B : List Addr) (M : Ms) : Prop := ∀ a, a ∈ B → a ∈ M.h
structure Dn (K : Fg) (B0 : List Addr) (M : Ms) (H : Hp) (P : Po) (D : Ends) : Prop where
  nx : ∀ σ' H' ρ' M', Stp M H M' H' → Sub B0 M' → Env K M' H' σ' ρ' → P.N ρ' M' H' → D.nx σ' H'
  rt : ∀ v H' s M', Stp M H M' H' → Sub B0 M' → Rl K M' H' v s → P.R s H' → D.rt v H'
  bk : ∀ σ' H' ρ' M', Stp M H M' H' → Sub B0 M' → Env K M' H' σ' ρ' → P.B ρ' M' H' → D.bk σ' H'
  ct : ∀ σ' H' ρ' M', Stp M H M' H' → Sub B0 M' → Env K M' H' σ' ρ' → P.C ρ' M' H' → D.ct σ' H'
def Rn (K : Fg) (B0 : List Addr) (ts : TS) (ρ : Ro) (M : Ms) (H : Hp) (P : Po) : Prop :=
  Md M H → Sub B0 M → ∀ σ, Env K M H σ ρ → ∀ D : Ends, Dn K B0 M H P D → ts D σ H
theorem Dn.step {K : Fg} {B0 : List Addr} {M M1 : Ms} {H H1 : Hp} {P : Po} {D : Ends} (d : Dn K B0 M H P D) (s : Stp M H M1 H1) : Dn K B0 M1 H1 P D :=
  ⟨fun σ' H' ρ' M' t => d.nx σ' H' ρ' M' (s.trans t), fun v H' x M' t => d.rt v H' x M' (s.trans t), fun σ' H' ρ' M' t => d.bk σ' H' ρ' M' (s.trans t), fun σ' H' ρ' M' t => d.ct σ' H' ρ' M' (s.trans t)⟩
section
variable {K : Fg} {B0 : List Addr} {ρ : Ro} {M : Ms} {H H' : Hp} {ta tb tc te : TE} {tt : TT} {t u : TS} {s : Sl} {d e z : PyData} {b : Bool} {P : Po}
theorem r_seq (h : Rn K B0 t ρ M H { P with N := fun ρ' M' H' => Rn K B0 u ρ' M' H' P }) : Rn K B0 (tSeq t u) ρ M H P := fun m sb σ en D dn =>
  h m sb σ en { D with nx := u D } ⟨fun σ' H' ρ' M' st sb' en' p => p st.md sb' σ' en' D (dn.step st), dn.rt, dn.bk, dn.ct⟩
theorem r_next (h : P.N ρ M H) : Rn K B0 tNext ρ M H P := fun m sb σ en D dn => dn.nx σ H ρ M (.of m (Go.refl _ _)) sb en h
theorem r_break (h : P.B ρ M H) : Rn K B0 tBreak ρ M H P := fun m sb σ en D dn => dn.bk σ H ρ M (.of m (Go.refl _ _)) sb en h
theorem r_cont (h : P.C ρ M H) : Rn K B0 tCont ρ M H P := fun m sb σ en D dn => dn.ct σ H ρ M (.of m (Go.refl _ _)) sb en h
theorem r_asg {i : Nat} (h : EvR K te ρ M H s) (k : ∀ H1, Ex H H1 → P.N (ρ.set i (some s)) M H1) : Rn K B0 (tAsg te (gName i)) ρ M H P := fun m sb σ en D dn =>
  h H σ (Ex.refl _) m en _ fun v H2 x r => dn.nx _ H2 _ M (.of m x.go) sb ((en.ex x).set r) (k H2 x)
theorem r_asgE {i : Nat} (h : EvE K te ρ M H fun s H1 => P.N (ρ.set i (some s)) M H1) : Rn K B0 (tAsg te (gName i)) ρ M H P := fun m sb σ en D dn =>
  h m σ en _ fun v H2 s g r p => dn.nx _ H2 _ M (.of m g) sb ((en.go g).set r) p
theorem r_ret (h : EvR K te ρ M H s) (k : ∀ H1, Ex H H1 → P.R s H1) : Rn K B0 (tRet te) ρ M H P := fun m sb σ en D dn =>
  h H σ (Ex.refl _) m en _ fun v H2 x r => dn.rt v H2 s M (.of m x.go) sb r (k H2 x)
theorem r_retE (h : EvE K te ρ M H P.R) : Rn K B0 (tRet te) ρ M H P := fun m sb σ en D dn =>
  h m σ en _ fun v H2 s g r p => dn.rt v H2 s M (.of m g) sb r p
theorem r_drop (h : EvE K te ρ M H fun _ H1 => P.N ρ M H1) : Rn K B0 (tDrop te) ρ M H P := fun m sb σ en D dn =>
  h m σ en _ fun v H2 s g r p => dn.nx σ H2 ρ M (.of m g) sb (en.go g) p
theorem r_if (h : EvB K tt ρ M H b) (h1 : b = true → ∀ H1, Ex H H1 → Rn K B0 t ρ M H1 P) (h2 : b = false → ∀ H1, Ex H H1 → Rn K B0 u ρ M H1 P) : Rn K B0 (tIfS tt t u) ρ M H P := fun m sb σ en D dn =>
  h H σ (Ex.refl _) m en _ fun H2 x => by
    cases b with
    | true => exact h1 rfl H2 x (m.ex x) sb σ (en.ex x) D (dn.step (.of m x.go))
    | false => exact h2 rfl H2 x (m.ex x) sb σ (en.ex x) D (dn.step (.of m x.go))
theorem r_ifE (h : EvEB K tt ρ M H fun b H1 => if b = true then Rn K B0 t ρ M H1 P else Rn K B0 u ρ M H1 P) : Rn K B0 (tIfS tt t u) ρ M H P := fun m sb σ en D dn =>
  h m σ en _ fun b H2 g p => by
    cases b with
    | true => rw [if_pos rfl] at p ⊢; exact p (m.go g) sb σ (en.go g) D (dn.step (.of m g))
    | false => rw [if_neg Bool.false_ne_true] at p ⊢; exact p (m.go g) sb σ (en.go g) D (dn.step (.of m g))
/-- less is known -/
theorem r_le {ρ' : Ro} (l : Le ρ ρ') (h : Rn K B0 t ρ' M H P) : Rn K B0 t ρ M H P := fun m sb σ en D dn => h m sb σ (en.le l) D dn
theorem r_mono {Q : Po} (h : Rn K B0 t ρ M H P) (n : ∀ ρ' M' H', P.N ρ' M' H' → Q.N ρ' M' H') (r : ∀ s H', P.R s H' → Q.R s H') (b : ∀ ρ' M' H', P.B ρ' M' H' → Q.B ρ' M' H') (c : ∀ ρ' M' H', P.C ρ' M' H' → Q.C ρ' M' H') : Rn K B0 t ρ M H Q := fun m sb σ en D dn =>
  h m sb σ en D ⟨fun σ' H' ρ' M' st sb' en' p => dn.nx σ' H' ρ' M' st sb' en' (n _ _ _ p), fun v H' s M' st sb' rl p => dn.rt v H' s M' st sb' rl (r _ _ p), fun σ' H' ρ' M' st sb' en' p => dn.bk σ' H' ρ' M' st sb' en' (b _ _ _ p), fun σ' H' ρ' M' st sb' en' p => dn.ct σ' H' ρ' M' st sb' en' (c _ _ _ p)⟩
/-- a, b = a tuple of data -/
theorem g_names {σ : L2.St} : ∀ {is : List Nat} {vs : List V} {ds : List PyData} {ρ : Ro} {σ : L2.St} {H : Hp}, Das K M H vs ds → is.length = ds.length → Env K M H σ ρ →
    ∃ σ', Env K M H σ' ((is.zip ds).foldl (fun r p => r.set p.1 (some (.d p.2))) ρ) ∧ ∀ Q : L2.St → Hp → Prop, Q σ' H → (is.foldr (fun i t => gCons (gName i) t) gNil) vs σ H Q
  | [], _, [], ρ, σ, H, .nil, _, en => ⟨σ, en, fun Q q => ⟨rfl, q⟩⟩
  | i :: is, _, d :: ds, ρ, σ, H, .cons (v := v) (vs := vs) a t, hl, en => by
    obtain ⟨σ', en', k⟩ := g_names (σ := σ) (is := is) t (by simpa using hl) (en.set (i := i) (s := .d d) a)
    exact ⟨σ', en', fun Q q => ⟨v, vs, rfl, k Q q⟩⟩
/-- the targets of a tuple's names -/
abbrev gNames (K : Fg) (is : List Nat) : TG := gTup K is.length (is.foldr (fun i t => gCons (gName i) t) gNil)
theorem r_asgT {is : List Nat} {ds : List PyData} (h : EvD K te ρ M H (.tuple ds)) (hl : is.length = ds.length) (k : ∀ H1, Ex H H1 → P.N ((is.zip ds).foldl (fun r p => r.set p.1 (some (.d p.2))) ρ) M H1) : Rn K B0 (tAsg te (gNames K is)) ρ M H P := fun m sb σ en D dn =>
  h H σ (Ex.refl _) m en _ fun v H2 x r => by
    obtain ⟨a, xs, rfl, ha, hx⟩ := Da.tup_inv r
    obtain ⟨σ', en', kk⟩ := g_names (σ := σ) (is := is) hx hl (en.ex x)
    exact ⟨a, xs, rfl, hid_t ha, (Das.len hx).trans hl.symm, kk _ (dn.nx σ' H2 _ M (.of m x.go) sb en' (k H2 x))⟩
theorem r_asgTE {is : List Nat} (h : EvE K te ρ M H fun s H1 => ∃ ds, s = .d (.tuple ds) ∧ is.length = ds.length ∧ P.N ((is.zip ds).foldl (fun r p => r.set p.1 (some (.d p.2))) ρ) M H1) : Rn K B0 (tAsg te (gNames K is)) ρ M H P := fun m sb σ en D dn =>
  h m σ en _ fun v H2 s g r ⟨ds, es, hl, p⟩ => by
    subst es
    obtain ⟨a, xs, rfl, ha, hx⟩ := Da.tup_inv r
    obtain ⟨σ', en', kk⟩ := g_names (σ := σ) (is := is) hx hl (en.go g)
    exact ⟨a, xs, rfl, hid_t ha, (Das.len hx).trans hl.symm, kk _ (dn.nx σ' H2 _ M (.of m g) sb en' p)⟩
/-- a, b = e1, e2 with plain local names -/
theorem r_parE {i j : Nat} {tl : TA} (h : EvEA K tl ρ M H fun ss H1 => ∃ s t, ss = [s, t] ∧ P.N ((ρ.set i (some s)).set j (some t)) M H1) : Rn K B0 (tPar i j tl) ρ M H P := fun m sb σ en D dn =>
  h m σ en _ fun vs H2 ss g r ⟨s, t, es, p⟩ => by
    subst es
    match vs, r with
    | [v, w], r => exact ⟨v, w, rfl, dn.nx _ H2 _ M (.of m g) sb (((en.go g).set r.1).set r.2.1) p⟩

/-! ### places that change -/
/-- at p, that may be written, a list of data -/
structure LAt (K : Fg) (M : Ms) (H : Hp) (p : Addr) (ds : List PyData) : Prop where
  w : p ∈ M.w
  ex : ∃ xs, H p = some (.lst xs) ∧ Das K M H xs ds
theorem LAt.go {p : Addr} {ds : List PyData} {N : Ms} (l : LAt K M H p ds) (g : Go N H H') (s : ∀ a, a ∈ N.w → a ∈ M.w) (n : p ∉ N.w) : LAt K M H' p ds := by
  obtain ⟨xs, h, a⟩ := l.ex
  exact ⟨l.w, xs, g.1 p _ n h, Das.go a (g.sub s)⟩
theorem LAt.x {p : Addr} {ds : List PyData} (l : LAt K M H p ds) (x : Ex H H') : LAt K M H' p ds := by
  obtain ⟨xs, h, a⟩ := l.ex
  exact ⟨l.w, xs, x p _ h, a.ex x⟩
theorem ev_rdL {i : Nat} {p : Addr} {ds : List PyData} (hi : ρ[i]? = some (some (.v (.ref p)))) (l : LAt K M H p ds) (h : EvD K te (ρ.set i (some (.d (.list ds)))) (M.del p) H d) (hs : scalD d = true) : EvD K te ρ M H d := by
  obtain ⟨xs, hp, hx⟩ := l.ex
  exact ev_rd hi hp (hx.mono (M.del_sub p)) h hs
theorem eb_rdL {i : Nat} {p : Addr} {ds : List PyData} (hi : ρ[i]? = some (some (.v (.ref p)))) (l : LAt K M H p ds) (h : EvB K tt (ρ.set i (some (.d (.list ds)))) (M.del p) H b) : EvB K tt ρ M H b := by
  obtain ⟨xs, hp, hx⟩ := l.ex
  exact eb_rd hi hp (hx.mono (M.del_sub p)) h
/-- x = [..], that will change -/
theorem r_asgL {i : Nat} {tl : TA} {ds : List PyData} (h : EvAD K tl ρ M H ds) (hl : ds.length ≤ 100000) (k : ∀ p H1, H p = none → p ∉ M.h → Ex H H1 → LAt K (M.add p) H1 p ds → P.N (ρ.set i (some (.v (.ref p)))) (M.add p) H1) : Rn K B0 (tAsg (tLst tl) (gName i)) ρ M H P := fun m sb σ en D dn =>
  h H σ (Ex.refl _) m en _ fun vs H2 x r => ⟨by rw [Das.len r]; exact Nat.le_trans hl (by decide), fun p hp => by
    have en2 : Env K (M.add p) (upd H2 p (.lst vs)) σ ρ := (en.ex x).new hp
    have x2 : Ex H (upd H2 p (.lst vs)) := x.trans (Ex.new hp)
    refine dn.nx _ _ _ (M.add p) ⟨?_, x2.go, fun a q => ?_⟩ (fun a q => List.mem_cons.mpr (.inr (sb a q))) (en2.set (s := .v (.ref p)) rfl) (k p _ (fresh_back x hp) (m.fresh (fresh_back x hp)) x2 ⟨List.mem_cons.mpr (.inl rfl), vs, upd_same, ?_⟩)
    · exact Md.add (m.ex x2) upd_same
    · rcases List.mem_cons.mp q with e | e
      · exact .inr (e ▸ fresh_back x hp)
      · exact .inl e
    · exact dps_ex (hid_add hp) _ _ r⟩
/-- from now on it's data -/
theorem r_freeze {i : Nat} {p : Addr} {ds : List PyData} (hi : ρ[i]? = some (some (.v (.ref p)))) (l : LAt K (M.add p) H p ds) (np : p ∉ M.h) (nb : p ∉ B0) (h : Rn K B0 t (ρ.set i (some (.d (.list ds)))) M H P) : Rn K B0 t ρ (M.add p) H P := fun m sb σ en D dn => by
  obtain ⟨xs, hp, hx⟩ := l.ex
  obtain ⟨v, h1, h2⟩ := en.2 i _ hi
  cases h2
  have sM : ∀ a, a ∈ M.h → a ∈ (M.add p).h := fun a q => List.mem_cons.mpr (.inr q)
  have mM : Md M H := fun a q => m a (sM a q)
  have sb' : Sub B0 M := fun a q => by
    rcases List.mem_cons.mp (sb a q) with e | e
    · exact absurd (e ▸ q) nb
    · exact e
  exact h mM sb' σ ((en.mono sM).re h1 (Da.lst np hp (hx.mono sM))) D (dn.step ⟨mM, Go.refl _ _, fun a q => .inl (List.mem_cons.mpr (.inr q))⟩)
/-- xs.append(e) -/
theorem r_append {i : Nat} {p : Addr} {ds0 : List PyData} (hi : ρ[i]? = some (some (.v (.ref p)))) (l0 : LAt K M H p ds0) (h : EvE K te ρ M H fun s H1 => ∃ d ds, s = .d d ∧ LAt K M H1 p ds ∧ ds.length < 100000 ∧ ∀ H2, Go M H1 H2 → LAt K M H2 p (ds ++ [d]) → (∀ a, a ≠ p → H2 a = H1 a) → P.N ρ M H2) :
    Rn K B0 (tDrop (tBM K "list" rAppend (tVar i) (tCons te tNil))) ρ M H P := fun m sb σ en D dn => by
  obtain ⟨v, h1, h2⟩ := en.2 i _ hi
  cases h2
  obtain ⟨xs0, hp0, hx0⟩ := l0.ex
  refine ⟨_, h1, ?_⟩
  refine ⟨Or.inl ⟨rfl, _, Or.inl (Or.inl hp0)⟩, h m σ en _ fun w H2 s g r ⟨d, ds, es, l, hl, k⟩ => ?_⟩
  subst es
  obtain ⟨xs, hp, hx⟩ := l.ex
  have g3 : Go M H2 (upd H2 p (.lst (xs ++ [w]))) := Go.mut l.w
  refine ⟨p, xs, w, rfl, rfl, hp, by rw [Das.len hx]; exact Nat.lt_of_lt_of_le hl (by decide), ?_⟩
  exact dn.nx σ _ ρ M (.of m (g.trans g3)) sb ((en.go g).go g3) (k _ g3 ⟨l.w, _, upd_same, Das.go (Das.app hx (.cons r .nil)) g3⟩ fun a q => upd_ne q)
/-- xs[k] = e -/
theorem r_setitem {i : Nat} {p : Addr} {ti : TE} {k : Int} (hi : ρ[i]? = some (some (.v (.ref p)))) (h : EvE K te ρ M H fun s H1 => ∃ d, s = .d d ∧ ∃ ds j, EvD K ti ρ M H1 (.int k) ∧ ixN ds.length k = some j ∧ LAt K M H1 p ds ∧ ∀ H2, Go M H1 H2 → LAt K M H2 p (ds.set j d) → (∀ a o, a ≠ p → H1 a = some o → H2 a = some o) → P.N ρ M H2) :
    Rn K B0 (tAsg te (gSub (tVar i) ti rSetL)) ρ M H P := fun m sb σ en D dn => by
  refine h m σ en _ fun w H2 s g r ⟨d, es, ds, j, hk, hj, l, kk⟩ => ?_
  subst es
  obtain ⟨v, h1, h2⟩ := (en.go g).2 i _ hi
  cases h2
  refine ⟨_, h1, ?_⟩
  refine hk H2 σ (Ex.refl _) (m.go g) (en.go g) _ fun u H3 x3 r3 => ?_
  have e3 := Da.int_inv r3
  subst e3
  obtain ⟨xs, hp, hx⟩ := l.ex
  have g4 : Go M H3 (upd H3 p (.lst (xs.set j w))) := Go.mut l.w
  refine ⟨p, xs, k, j, rfl, rfl, x3 p _ hp, by rw [Das.len hx]; exact hj, ?_⟩
  have g34 : Go M H2 (upd H3 p (.lst (xs.set j w))) := x3.go.trans g4
  exact dn.nx σ _ ρ M (.of m (g.trans g34)) sb ((en.go g).go g34) (kk _ g34 ⟨l.w, _, upd_same, Das.go (Das.set r j hx) g34⟩ fun a o q e => by rw [upd_ne q]; exact x3 a o e)

/-! ### what is walked -/
/-- J yields the data ds, one by one -/
def Yld (K : Fg) (M : Ms) (J : It) (ds : List PyData) (H : Hp) : Prop := ∀ H', Go M H H' → Md M H' → (∀ (i : Nat) d, ds[i]? = some d → J.go i H' ∧ ∀ x H'', J.yld i H' x H'' → Ex H' H'' ∧ Da K M H'' x d) ∧ J.stop ds.length H'
theorem Yld.go {J : It} {ds : List PyData} (y : Yld K M J ds H) (g : Go M H H') : Yld K M J ds H' := fun H2 g2 m => y H2 (g.trans g2) m
def EvI (K : Fg) (wi : TI) (ρ : Ro) (M : Ms) (H : Hp) (ds : List PyData) : Prop :=
  ∀ H1 σ, Ex H H1 → Md M H1 → Env K M H1 σ ρ → ∀ R : It → Hp → Prop, (∀ J H2, Ex H1 H2 → (∀ (N : Ms) (H3 : Hp), Md N H3 → (∀ v d, Da K M H2 v d → Da K N H3 v d) → Yld K N J ds H3) → R J H2) → wi σ H1 R
end
end DL
set_option maxRecDepth 100000
namespace DL
open PySem L2
section
variable {K : Fg} {B0 : List Addr} {ρ : Ro} {M : Ms} {H H' : Hp} {ta tb tc te : TE} {tl : TA} {tt : TT} {t u : TS} {s : Sl} {d e z : PyData} {b : Bool} {P : Po}
/-! ### what may be walked -/
/-- the items of data: a list's, a tuple's, a text's signs -/
def itD : PyData → Option (List PyData)
  | .list ds => some ds
  | .tuple ds => some ds
  | .str x => some (x.cps.toList.map fun c => .str ⟨#[c]⟩)
  | _ => none
/-- a list, a tuple or a text is walked -/
def iSeq (K : Fg) (tl : TE) : TI := fun σ H R => tl σ H fun x H1 => (∃ a, x = .ref a ∧ (∃ xs, SqL K H1 a xs) ∧ R (Itl K a) H1) ∨ (∃ a, x = .ref a ∧ (∃ xs, SqT K H1 a xs) ∧ R (Itt K a) H1) ∨ (∃ z, x = .str z ∧ R (Its z) H1)
theorem yld_list {a : Addr} {ds : List PyData} (h : Da K M H (.ref a) (.list ds)) : Yld K M (Itl K a) ds H := fun H' g m => by
  obtain ⟨a', xs, e, hr, hx⟩ := Da.list_inv (Da.go h g)
  cases e
  have sq : SqL K H' a xs := hid_l hr
  refine ⟨fun i d hd => ?_, xs, sq, by rw [Das.len hx]; exact Nat.le_refl _⟩
  obtain ⟨v, hv, dv⟩ := Das.get hx hd
  refine ⟨⟨xs, v, sq, hv⟩, fun x H'' hy => ?_⟩
  obtain ⟨rfl, hy⟩ := hy
  have := (hy xs sq).symm.trans hv
  cases this
  exact ⟨Ex.refl _, dv⟩
theorem yld_tup {a : Addr} {ds : List PyData} (h : Da K M H (.ref a) (.tuple ds)) : Yld K M (Itt K a) ds H := fun H' g m => by
  obtain ⟨a', xs, e, hr, hx⟩ := Da.tup_inv (Da.go h g)
  cases e
  have sq : SqT K H' a xs := hid_t hr
  refine ⟨fun i d hd => ?_, xs, sq, by rw [Das.len hx]; exact Nat.le_refl _⟩
  obtain ⟨v, hv, dv⟩ := Das.get hx hd
  refine ⟨⟨xs, v, sq, hv⟩, fun x H'' hy => ?_⟩
  obtain ⟨rfl, hy⟩ := hy
  have := (hy xs sq).symm.trans hv
  cases this
  exact ⟨Ex.refl _, dv⟩
theorem yld_str {x : Str} : Yld K M (Its x) (x.cps.toList.map fun c => .str ⟨#[c]⟩) H := fun H' g m => by
  refine ⟨fun i d hd => ?_, by show x.cps.size ≤ _; simp⟩
  rw [List.getElem?_map] at hd
  cases e : x.cps.toList[i]? with
  | none => rw [e] at hd; cases hd
  | some c =>
    rw [e] at hd
    have hd' : PyData.str ⟨#[c]⟩ = d := by injection hd
    subst hd'
    have e' : x.cps[i]? = some c := by simpa using e
    refine ⟨by show i < x.cps.size; exact (Array.getElem?_eq_some_iff.mp e').1, fun y H'' hy => ?_⟩
    obtain ⟨rfl, c', h1, rfl⟩ := hy
    rw [e'] at h1; cases h1
    exact ⟨Ex.refl _, .str _⟩
theorem yld_rng {lo : Int} {n : Nat} : Yld K M (Itr lo n) ((List.range n).map fun (k : Nat) => .int (lo + (k : Int))) H := fun H' g m => by
  refine ⟨fun i d hd => ?_, by show n ≤ _; simp⟩
  rw [List.getElem?_map] at hd
  by_cases hi : i < n
  · rw [List.getElem?_range hi] at hd
    have hd' : PyData.int (lo + (i : Int)) = d := by injection hd
    subst hd'
    refine ⟨hi, fun y H'' hy => ?_⟩
    obtain ⟨rfl, rfl⟩ := hy
    exact ⟨Ex.refl _, .int _⟩
  · rw [List.getElem?_eq_none (by simp; omega)] at hd; cases hd
theorem ei_seq {ds : List PyData} (h : EvD K te ρ M H d) (hi : itD d = some ds) : EvI K (iSeq K te) ρ M H ds := fun H1 σ x m en R q =>
  h H1 σ x m en _ fun v H2 x2 r => by
    cases d <;> try (cases hi; done)
    · cases hi
      have e := Da.str_inv r; subst e
      exact .inr (.inr ⟨_, rfl, q _ H2 x2 fun N H3 _ _ => yld_str⟩)
    · cases hi
      have r0 := r
      obtain ⟨a, xs, rfl, ha, hx⟩ := Da.list_inv r
      exact .inl ⟨a, rfl, ⟨xs, (hid_l ha)⟩, q _ H2 x2 fun N H3 _ k => yld_list (k _ _ r0)⟩
    · cases hi
      have r0 := r
      obtain ⟨a, xs, rfl, ha, hx⟩ := Da.tup_inv r
      exact .inr (.inl ⟨a, rfl, ⟨xs, hid_t ha⟩, q _ H2 x2 fun N H3 _ k => yld_tup (k _ _ r0)⟩)
/-- range(n), range(a, b) -/
theorem ei_rng1 {n : Int} (h : EvAD K tl ρ M H [.int n]) (hn : n < 2 ^ 62) (h0 : -(2 ^ 62) ≤ n) : EvI K (iRng1 tl) ρ M H ((List.range n.toNat).map fun (k : Nat) => .int (0 + (k : Int))) := fun H1 σ x m en R q =>
  h H1 σ x m en _ fun vs H2 x2 r => by
    obtain ⟨v, rfl, h1⟩ := Das.one r
    have e := Da.int_inv h1; subst e
    exact ⟨n, rfl, h0, hn, q _ H2 x2 fun N H3 _ _ => yld_rng⟩
theorem ei_rng2 {a n : Int} (h : EvAD K tl ρ M H [.int a, .int n]) (hb : -(2 ^ 62) ≤ a ∧ a < 2 ^ 62 ∧ -(2 ^ 62) ≤ n ∧ n < 2 ^ 62) : EvI K (iRng2 tl) ρ M H ((List.range (n - a).toNat).map fun (k : Nat) => .int (a + (k : Int))) := fun H1 σ x m en R q =>
  h H1 σ x m en _ fun vs H2 x2 r => by
    obtain ⟨v, w, rfl, h1, h2⟩ := Das.two r
    have e := Da.int_inv h1; subst e
    have e := Da.int_inv h2; subst e
    exact ⟨a, n, rfl, hb, q _ H2 x2 fun N H3 _ _ => yld_rng⟩
/-! ### targets -/
/-- the target g, given d, leads from ρ to ρ' -/
def Tg (K : Fg) (g : TG) (d : PyData) (ρ ρ' : Ro) : Prop := ∀ (M : Ms) (x : V) (σ : L2.St) (H : Hp), Da K M H x d → Env K M H σ ρ → ∃ σ', Env K M H σ' ρ' ∧ ∀ Q : L2.St → Hp → Prop, Q σ' H → g x σ H Q
theorem tg_name {j : Nat} : Tg K (gName j) d ρ (ρ.set j (some (.d d))) := fun M x σ H h en => ⟨_, en.set (s := .d d) h, fun Q q => q⟩
theorem tg_names {is : List Nat} {ds : List PyData} (hl : is.length = ds.length) : Tg K (gNames K is) (.tuple ds) ρ ((is.zip ds).foldl (fun r p => r.set p.1 (some (.d p.2))) ρ) := fun M x σ H h en => by
  obtain ⟨a, xs, rfl, ha, hx⟩ := Da.tup_inv h
  obtain ⟨σ', en', kk⟩ := g_names (σ := σ) (is := is) hx hl en
  exact ⟨σ', en', fun Q q => ⟨a, xs, rfl, hid_t ha, (Das.len hx).trans hl.symm, kk Q q⟩⟩

/-! ### for -/
theorem r_for {wi : TI} {g : TG} {ds : List PyData} (hI : EvI K wi ρ M H ds) (Inv : Nat → Ro → Hp → Prop) (h0 : ∀ H1, Ex H H1 → Inv 0 ρ H1)
    (hs : ∀ (i : Nat) d ρ' H', ds[i]? = some d → Inv i ρ' H' → Go M H H' → Md M H' → ∃ ρ2, Tg K g d ρ' ρ2 ∧ ∀ H'', Ex H' H'' →
      Rn K B0 t ρ2 M H'' { N := fun r M' H3 => Sub M.h M' ∧ Inv (i + 1) r H3, R := P.R, B := P.N, C := fun r M' H3 => Sub M.h M' ∧ Inv (i + 1) r H3 })
    (hd : ∀ ρ' H', Inv ds.length ρ' H' → Go M H H' → P.N ρ' M H') : Rn K B0 (tFor wi g t) ρ M H P := fun m sb σ en D dn => by
  refine hI H σ (Ex.refl _) m en _ fun J H1 x1 hy => ?_
  have Y := hy M H1 (m.ex x1) (fun _ _ h => h)
  refine ⟨fun i k σ' H' => k = ds.length - i ∧ i ≤ ds.length ∧ Go M H1 H' ∧ Md M H' ∧ ∃ ρ', Env K M H' σ' ρ' ∧ Inv i ρ' H', ⟨ds.length, by simp, Nat.zero_le _, Go.refl _ _, m.ex x1, ρ, en.ex x1, h0 H1 x1⟩, ?_⟩
  rintro i k σ' H' ⟨rfl, hi, g1, m1, ρ', en', iv⟩
  have g01 : Go M H H' := x1.go.trans g1
  obtain ⟨y1, y2⟩ := Y H' g1 m1
  by_cases hlt : i < ds.length
  · have hdi := List.getElem?_eq_getElem hlt
    obtain ⟨go, yy⟩ := y1 i _ hdi
    refine .inr ⟨go, fun σ2 H2 => i + 1 ≤ ds.length ∧ Go M H1 H2 ∧ Md M H2 ∧ ∃ ρ', Env K M H2 σ2 ρ' ∧ Inv (i + 1) ρ' H2, fun σ2 H2 q => ⟨ds.length - (i + 1), by omega, rfl, q⟩, fun x H'' hyl => ?_⟩
    obtain ⟨x2, dx⟩ := yy x H'' hyl
    obtain ⟨ρ2, tg, body⟩ := hs i _ ρ' H' hdi iv g01 m1
    obtain ⟨σ2, en2, kk⟩ := tg M x σ' H'' dx (en'.ex x2)
    refine kk _ ?_
    have bd := body H'' x2
    have st0 : Stp M H M H'' := .of m (g01.trans x2.go)
    refine bd (m1.ex x2) sb σ2 en2 _ ⟨?_, ?_, ?_, ?_⟩
    · intro σ3 H3 ρ3 M3 st sb3 en3 ⟨sm, iv3⟩
      exact ⟨hlt, (g1.trans x2.go).trans st.go, (m1.ex x2).go st.go, ρ3, en3.mono sm, iv3⟩
    · intro v H3 s M3 st sb3 rl p
      exact dn.rt v H3 s M3 (st0.trans st) sb3 rl p
    · intro σ3 H3 ρ3 M3 st sb3 en3 p
      exact dn.nx σ3 H3 ρ3 M3 (st0.trans st) sb3 en3 p
    · intro σ3 H3 ρ3 M3 st sb3 en3 ⟨sm, iv3⟩
      exact ⟨hlt, (g1.trans x2.go).trans st.go, (m1.ex x2).go st.go, ρ3, en3.mono sm, iv3⟩
  · have e : i = ds.length := by omega
    subst e
    exact .inl ⟨y2, dn.nx σ' H' ρ' M (.of m g01) sb en' (hd ρ' H' iv g01)⟩

/-! ### while -/
theorem r_while (Inv : Ro → Hp → Prop) (μ : Ro → Hp → Nat → Prop) (n0 : Nat) (h0 : Inv ρ H) (m0 : μ ρ H n0)
    (hs : ∀ ρ' H' n, Inv ρ' H' → μ ρ' H' n → Go M H H' → Md M H' → ∃ b, EvB K tt ρ' M H' b ∧ (b = true → ∀ H'', Ex H' H'' → Rn K B0 t ρ' M H'' { N := fun r M' H3 => Sub M.h M' ∧ Inv r H3 ∧ ∃ n', n' < n ∧ μ r H3 n', R := P.R, B := P.N, C := fun r M' H3 => Sub M.h M' ∧ Inv r H3 ∧ ∃ n', n' < n ∧ μ r H3 n' }) ∧
      (b = false → ∀ H'', Ex H' H'' → P.N ρ' M H'')) : Rn K B0 (tWhile tt t) ρ M H P := fun m sb σ en D dn => by
  refine ⟨fun n σ' H' => Go M H H' ∧ Md M H' ∧ ∃ ρ', Env K M H' σ' ρ' ∧ Inv ρ' H' ∧ μ ρ' H' n, ⟨n0, Go.refl _ _, m, ρ, en, h0, m0⟩, ?_⟩
  rintro n σ' H' ⟨g1, m1, ρ', en', iv, mu⟩
  obtain ⟨b, hb, h1, h2⟩ := hs ρ' H' n iv mu g1 m1
  refine hb H' σ' (Ex.refl _) m1 en' _ fun H'' x => ?_
  have st0 : Stp M H M H'' := .of m (g1.trans x.go)
  cases b with
  | false =>
    rw [if_neg Bool.false_ne_true]
    exact dn.nx σ' H'' ρ' M st0 sb (en'.ex x) (h2 rfl H'' x)
  | true =>
    rw [if_pos rfl]
    refine ⟨fun σ2 H2 => ∃ n', n' < n ∧ Go M H H2 ∧ Md M H2 ∧ ∃ ρ', Env K M H2 σ2 ρ' ∧ Inv ρ' H2 ∧ μ ρ' H2 n', fun σ2 H2 q => q, ?_⟩
    refine h1 rfl H'' x (m1.ex x) sb σ' (en'.ex x) _ ⟨?_, ?_, ?_, ?_⟩
    · intro σ3 H3 ρ3 M3 st sb3 en3 ⟨sm, iv3, n', hn, mu'⟩
      exact ⟨n', hn, (g1.trans x.go).trans st.go, (m1.ex x).go st.go, ρ3, en3.mono sm, iv3, mu'⟩
    · intro v H3 s M3 st sb3 rl p
      exact dn.rt v H3 s M3 (st0.trans st) sb3 rl p
    · intro σ3 H3 ρ3 M3 st sb3 en3 p
      exact dn.nx σ3 H3 ρ3 M3 (st0.trans st) sb3 en3 p
    · intro σ3 H3 ρ3 M3 st sb3 en3 ⟨sm, iv3, n', hn, mu'⟩
      exact ⟨n', hn, (g1.trans x.go).trans st.go, (m1.ex x).go st.go, ρ3, en3.mono sm, iv3, mu'⟩
end
end DL
set_option maxRecDepth 100000
namespace DL
open PySem L2
theorem wipe_get (σ : L2.St) (k : Nat) : ∀ vs : List Nat, (L2.wipe σ vs)[k]? = if k ∈ vs then (σ[k]?).map (fun _ => none) else σ[k]?
  | [] => by simp [L2.wipe]
  | v :: vs => by
    unfold L2.wipe
    by_cases h : v = k
    · subst h
      rw [if_pos (List.mem_cons_self)]
      by_cases hl : v < (L2.wipe σ vs).length
      · rw [List.getElem?_set_self hl]
        rw [wipe_length] at hl
        rw [List.getElem?_eq_getElem hl]; rfl
      · rw [List.getElem?_eq_none (by rw [List.length_set]; omega)]
        rw [wipe_length] at hl
        rw [List.getElem?_eq_none (by omega)]; rfl
    · rw [List.getElem?_set_ne h, wipe_get σ k vs]
      by_cases m : k ∈ vs
      · rw [if_pos m, if_pos (List.mem_cons.mpr (.inr m))]
      · rw [if_neg m, if_neg (fun z => by rcases List.mem_cons.mp z with e | e; exact h e.symm; exact m e)]
theorem wipe_set {σ : L2.St} {j : Nat} {x : Option V} {vs : List Nat} (h : j ∈ vs) : L2.wipe ((L2.wipe σ vs).set j x) vs = L2.wipe σ vs := by
  apply List.ext_getElem?
  intro k
  rw [wipe_get, wipe_get]
  by_cases m : k ∈ vs
  · rw [if_pos m, if_pos m]
    have e : ((L2.wipe σ vs).set j x)[k]?.isSome = σ[k]?.isSome := by
      by_cases hk : k < σ.length
      · rw [List.getElem?_eq_getElem (by rw [List.length_set, wipe_length]; exact hk), List.getElem?_eq_getElem hk]; rfl
      · rw [List.getElem?_eq_none (by rw [List.length_set, wipe_length]; omega), List.getElem?_eq_none (by omega)]
    cases h1 : ((L2.wipe σ vs).set j x)[k]? <;> cases h2 : σ[k]? <;> rw [h1, h2] at e <;> first | rfl | cases e
  · rw [if_neg m, if_neg m]
    have hj : j ≠ k := fun e => m (e ▸ h)
    rw [List.getElem?_set_ne hj, wipe_get, if_neg m]
theorem wipe_wipe {σ : L2.St} {vs : List Nat} : L2.wipe (L2.wipe σ vs) vs = L2.wipe σ vs := by
  apply List.ext_getElem?
  intro k
  rw [wipe_get]
  by_cases m : k ∈ vs
  · rw [if_pos m, wipe_get, if_pos m]
    cases σ[k]? <;> rfl
  · rw [if_neg m]
section
variable {K : Fg} {B0 : List Addr} {ρ : Ro} {M : Ms} {H H' : Hp} {ta tb tc te : TE} {tl : TA} {tt : TT} {s : Sl} {d e z : PyData} {b : Bool} {P : Po}
/-- a comprehension's target -/
def Tc (K : Fg) (g : TG) (d : PyData) (vs : List Nat) (ρ ρ' : Ro) : Prop := ∀ (M : Ms) (x : V) (σ : L2.St) (H : Hp), Da K M H x d → Env K M H (L2.wipe σ vs) ρ → ∃ σ', Env K M H σ' ρ' ∧ L2.wipe σ' vs = L2.wipe σ vs ∧ ∀ Q : L2.St → Hp → Prop, Q σ' H → g x (L2.wipe σ vs) H Q
theorem tc_name {j : Nat} {vs : List Nat} (hj : j ∈ vs := by decide) : Tc K (gName j) d vs ρ (ρ.set j (some (.d d))) := fun M x σ H h en => ⟨_, en.set (s := .d d) h, wipe_set hj, fun Q q => q⟩
theorem g_names_w {vs : List Nat} : ∀ {is : List Nat} {xs : List V} {ds : List PyData} {ρ : Ro} {σ : L2.St} {H : Hp}, Das K M H xs ds → is.length = ds.length → (∀ i ∈ is, i ∈ vs) → Env K M H σ ρ → L2.wipe σ vs = σ0 →
    ∃ σ', Env K M H σ' ((is.zip ds).foldl (fun r p => r.set p.1 (some (.d p.2))) ρ) ∧ L2.wipe σ' vs = σ0 ∧ ∀ Q : L2.St → Hp → Prop, Q σ' H → (is.foldr (fun i t => gCons (gName i) t) gNil) xs σ H Q
  | [], _, [], ρ, σ, H, .nil, _, _, en, hw => ⟨σ, en, hw, fun Q q => ⟨rfl, q⟩⟩
  | i :: is, _, d :: ds, ρ, σ, H, .cons (v := v) (vs := xs) a t, hl, hm, en, hw => by
    have hw' : L2.wipe (σ.set i (some v)) vs = σ0 := by
      rw [← hw]
      apply List.ext_getElem?
      intro k
      rw [wipe_get, wipe_get]
      have hi := hm i List.mem_cons_self
      by_cases m : k ∈ vs
      · rw [if_pos m, if_pos m]
        by_cases e : i = k
        · subst e
          by_cases hk : i < σ.length
          · rw [List.getElem?_set_self hk, List.getElem?_eq_getElem hk]; rfl
          · rw [List.getElem?_eq_none (by rw [List.length_set]; omega), List.getElem?_eq_none (by omega)]
        · rw [List.getElem?_set_ne e]
      · rw [if_neg m, if_neg m, List.getElem?_set_ne (fun (e : i = k) => m (e ▸ hi))]
    obtain ⟨σ', en', w', k⟩ := g_names_w (is := is) t (by simpa using hl) (fun j hj => hm j (List.mem_cons.mpr (.inr hj))) (en.set (i := i) (s := .d d) a) hw'
    exact ⟨σ', en', w', fun Q q => ⟨v, xs, rfl, k Q q⟩⟩
theorem tc_names {is vs : List Nat} {ds : List PyData} (hl : is.length = ds.length) (hm : ∀ i ∈ is, i ∈ vs := by decide) : Tc K (gNames K is) (.tuple ds) vs ρ ((is.zip ds).foldl (fun r p => r.set p.1 (some (.d p.2))) ρ) := fun M x σ H h en => by
  obtain ⟨a, xs, rfl, ha, hx⟩ := Da.tup_inv h
  obtain ⟨σ', en', w', kk⟩ := g_names_w (is := is) hx hl hm en wipe_wipe
  exact ⟨σ', en', w', fun Q q => ⟨a, xs, rfl, hid_t ha, (Das.len hx).trans hl.symm, kk Q q⟩⟩
theorem take_more {α : Type} : ∀ {l : List α} {i : Nat} {x : α}, l[i]? = some x → l.take (i + 1) = l.take i ++ [x]
  | [], i, x, h => by simp at h
  | a :: l, 0, x, h => by have e : a = x := Option.some.inj h; subst e; rfl
  | a :: l, i + 1, x, h => by
    have ih := take_more (l := l) (i := i) (x := x) h
    show a :: l.take (i + 1) = a :: l.take i ++ [x]
    rw [ih]; rfl
/-- a comprehension over data that changes nothing: xs, as they are read (enc), which are kept (p), what they give (q) -/
theorem ev_lc {α : Type} {wi : TI} {g : TG} {vs : List Nat} {xs : List α} {enc : α → PyData} (p : α → Bool) (q : α → PyData) (hI : EvI K wi ρ M H (xs.map enc)) (hz : xs.length ≤ 100000)
    (hs : ∀ (i : Nat) a, xs[i]? = some a → ∃ ρ2, Tc K g (enc a) vs (wipeR ρ vs) ρ2 ∧ ∀ N H', Sub M.h N → Ex H H' → EvB K tt ρ2 N H' (p a) ∧ (p a = true → EvD K te ρ2 N H' (q a))) :
    EvD K (tLc wi g tt te vs) ρ M H (.list ((xs.filter p).map q)) := fun H1 σ x m en Q k => by
  refine hI H1 σ x m en _ fun J H2 x2 hy D hD => ?_
  have x02 : Ex H H2 := x.trans x2
  have m2 : Md M H2 := m.ex x2
  have nD : D ∉ M.h := m2.fresh hD
  have mD : Md (M.add D) (upd H2 D (.lst [])) := Md.add (m2.ex (Ex.new hD)) upd_same
  have Y := hy (M.add D) (upd H2 D (.lst [])) mD (fun v d h => dp_ex (hid_add hD) _ _ h)
  have en2 : Env K (M.add D) (upd H2 D (.lst [])) (L2.wipe σ vs) (wipeR ρ vs) := ((en.ex x2).new hD).wipe vs
  refine ⟨fun i n H' => n = xs.length - i ∧ i ≤ xs.length ∧ Go (M.add D) (upd H2 D (.lst [])) H' ∧ Md (M.add D) H' ∧ Ex H2 H' ∧ ∃ ys, H' D = some (.lst ys) ∧ Das K (M.add D) H' ys (((xs.take i).filter p).map q),
    ⟨xs.length, by simp, Nat.zero_le _, Go.refl _ _, mD, Ex.new hD, [], upd_same, by simp; exact .nil⟩, ?_⟩
  rintro i n H' ⟨rfl, hi, g1, m1, e1, ys, hys, dys⟩
  obtain ⟨y1, y2⟩ := Y H' g1 m1
  by_cases hlt : i < xs.length
  · have hxi := List.getElem?_eq_getElem hlt
    obtain ⟨go, yy⟩ := y1 i (enc xs[i]) (by rw [List.getElem?_map, hxi]; rfl)
    refine .inr ⟨go, fun H'' => i + 1 ≤ xs.length ∧ Go (M.add D) (upd H2 D (.lst [])) H'' ∧ Md (M.add D) H'' ∧ Ex H2 H'' ∧ ∃ ys, H'' D = some (.lst ys) ∧ Das K (M.add D) H'' ys (((xs.take (i + 1)).filter p).map q), fun H'' z => ⟨xs.length - (i + 1), by omega, rfl, z⟩, fun v H'' hyl => ?_⟩
    obtain ⟨x3, dx⟩ := yy v H'' hyl
    obtain ⟨ρ2, tg, body⟩ := hs i _ hxi
    obtain ⟨σ2, en3, hw, kk⟩ := tg (M.add D) v σ H'' dx (en2.go (g1.trans x3.go))
    refine kk _ ⟨hw, ?_⟩
    obtain ⟨hb, he⟩ := body (M.add D) H'' (fun a q => List.mem_cons.mpr (.inr q)) (x02.trans (e1.trans x3))
    refine hb H'' σ2 (Ex.refl _) (m1.ex x3) en3 _ fun H3 x4 => ?_
    have X3 : Ex H' H3 := x3.trans x4
    have tk := take_more hxi
    cases hp : p xs[i] with
    | true =>
      rw [if_pos rfl]
      refine he hp H3 σ2 x4 (m1.ex X3) (en3.ex x4) _ fun w H4 x5 r => ?_
      have X4 : Ex H' H4 := X3.trans x5
      have hD4 : H4 D = some (.lst ys) := X4 D _ hys
      have gD : Go (M.add D) H4 (upd H4 D (.lst (ys ++ [w]))) := Go.mut (List.mem_cons_self)
      have ll : ys.length ≤ 100000 := by
        rw [Das.len dys, List.length_map]
        exact Nat.le_trans (List.length_filter_le _ _) (Nat.le_trans (by rw [List.length_take]; exact Nat.min_le_right _ _) hz)
      refine ⟨ys, hD4, Nat.lt_of_le_of_lt ll (by decide), hlt, (g1.trans X4.go).trans gD, (m1.ex X4).go gD, fun a o h => ?_, ys ++ [w], upd_same, ?_⟩
      · rw [upd_ne (ne_of_none h hD)]
        exact X4 a o (e1 a o h)
      · rw [tk, List.filter_append, List.map_append, List.filter_cons, if_pos hp]
        exact Das.go (Das.app (dys.ex X4) (.cons r .nil)) gD
    | false =>
      rw [if_neg Bool.false_ne_true]
      refine ⟨hlt, g1.trans X3.go, m1.ex X3, e1.trans X3, ys, X3 D _ hys, ?_⟩
      rw [tk, List.filter_append, List.map_append, List.filter_cons, if_neg (by rw [hp]; exact Bool.false_ne_true)]
      have e : List.map q (List.filter p []) = [] := rfl
      rw [e, List.append_nil]
      exact dys.ex X3
  · have e : i = xs.length := by omega
    subst e
    refine .inl ⟨by rw [List.length_map] at y2; exact y2, k _ H' (x2.trans e1) ?_⟩
    rw [List.take_length] at dys
    exact Da.lst nD hys (dys.mono fun a q => List.mem_cons.mpr (.inr q))
theorem eb_yes : EvB K tYes ρ M H true := fun H1 σ _ _ _ Q q => q H1 (Ex.refl _)
/-- without a test -/
theorem ev_lc1 {α : Type} {wi : TI} {g : TG} {vs : List Nat} {xs : List α} {enc : α → PyData} (q : α → PyData) (hI : EvI K wi ρ M H (xs.map enc)) (hz : xs.length ≤ 100000)
    (hs : ∀ (i : Nat) a, xs[i]? = some a → ∃ ρ2, Tc K g (enc a) vs (wipeR ρ vs) ρ2 ∧ ∀ N H', Sub M.h N → Ex H H' → EvD K te ρ2 N H' (q a)) :
    EvD K (tLc wi g tYes te vs) ρ M H (.list (xs.map q)) := by
  have h := ev_lc (K := K) (te := te) (tt := tYes) (g := g) (vs := vs) (fun _ => true) q hI hz (fun i a ha => by
    obtain ⟨ρ2, h1, h2⟩ := hs i a ha
    exact ⟨ρ2, h1, fun N H' s x => ⟨eb_yes, fun _ => h2 N H' s x⟩⟩)
  rw [List.filter_eq_self.mpr (fun _ _ => rfl)] at h
  exact h
/-- a comprehension whose element may change the places of M: an invariant over what is made so far -/
theorem ee_lc {wi : TI} {g : TG} {vs : List Nat} {ds : List PyData} {P : Sl → Hp → Prop} (hI : EvI K wi ρ M H ds) (hz : ds.length ≤ 100000) (Inv : Nat → List PyData → Hp → Prop)
    (hst : ∀ i acc H H', (∀ a, a ∈ M.h → H' a = H a) → Inv i acc H → Inv i acc H') (h0 : ∀ H1, Ex H H1 → Inv 0 [] H1)
    (hs : ∀ (i : Nat) d acc, ds[i]? = some d → acc.length ≤ i → ∃ ρ2, Tc K g d vs (wipeR ρ vs) ρ2 ∧ ∀ D H', D ∉ M.h → Go (M.add D) H H' → Inv i acc H' → EvEB K tt ρ2 (M.add D) H' fun b H3 => if b = true then EvE K te ρ2 (M.add D) H3 fun s H4 => H4 D = H' D ∧ ∃ d', s = .d d' ∧ Inv (i + 1) (acc ++ [d']) H4 else H3 D = H' D ∧ Inv (i + 1) acc H3)
    (hd : ∀ acc H1, acc.length ≤ ds.length → Inv ds.length acc H1 → Go M H H1 → P (.d (.list acc)) H1) : EvE K (tLc wi g tt te vs) ρ M H P := fun m σ en Q k => by
  refine hI H σ (Ex.refl _) m en _ fun J H2 x2 hy D hD => ?_
  have m2 : Md M H2 := m.ex x2
  have nD : D ∉ M.h := m2.fresh hD
  have nDw : D ∉ M.w := fun q => nD (M.sub D q)
  have mD : Md (M.add D) (upd H2 D (.lst [])) := Md.add (m2.ex (Ex.new hD)) upd_same
  have Y := hy (M.add D) (upd H2 D (.lst [])) mD (fun v d h => dp_ex (hid_add hD) _ _ h)
  have en2 : Env K (M.add D) (upd H2 D (.lst [])) (L2.wipe σ vs) (wipeR ρ vs) := ((en.ex x2).new hD).wipe vs
  have hMD : ∀ {Ha : Hp} {o : HO} (a : Addr), a ∈ M.h → upd Ha D o a = Ha a := fun a q => upd_ne (fun e => nD (e ▸ q))
  have g02 : Go (M.add D) H (upd H2 D (.lst [])) := ((x2.trans (Ex.new hD)).go)
  refine ⟨fun i n H' => n = ds.length - i ∧ i ≤ ds.length ∧ Go (M.add D) (upd H2 D (.lst [])) H' ∧ Md (M.add D) H' ∧ ∃ ys acc, H' D = some (.lst ys) ∧ Das K (M.add D) H' ys acc ∧ acc.length ≤ i ∧ Inv i acc H',
    ⟨ds.length, by simp, Nat.zero_le _, Go.refl _ _, mD, [], [], upd_same, .nil, Nat.le_refl _, hst _ _ _ _ (fun a q => hMD a q) (h0 H2 x2)⟩, ?_⟩
  rintro i n H' ⟨rfl, hi, g1, m1, ys, acc, hys, dys, hl, iv⟩
  obtain ⟨y1, y2⟩ := Y H' g1 m1
  have gM : ∀ {Hz : Hp}, Go (M.add D) (upd H2 D (.lst [])) Hz → Go M H Hz := fun {Hz} gz => ⟨fun a o n h => by
    have nz : a ≠ D := fun e => by rw [e] at h; rw [x2 D o h] at hD; cases hD
    refine gz.1 a o (fun q => ?_) (by rw [upd_ne nz]; exact x2 a o h)
    rcases List.mem_cons.mp q with e | e
    · exact nz e
    · exact n e, (g02.trans gz).2⟩
  by_cases hlt : i < ds.length
  · have hxi := List.getElem?_eq_getElem hlt
    obtain ⟨go, yy⟩ := y1 i _ hxi
    refine .inr ⟨go, fun H'' => i + 1 ≤ ds.length ∧ Go (M.add D) (upd H2 D (.lst [])) H'' ∧ Md (M.add D) H'' ∧ ∃ ys acc, H'' D = some (.lst ys) ∧ Das K (M.add D) H'' ys acc ∧ acc.length ≤ i + 1 ∧ Inv (i + 1) acc H'', fun H'' z => ⟨ds.length - (i + 1), by omega, rfl, z⟩, fun v H'' hyl => ?_⟩
    obtain ⟨x3, dx⟩ := yy v H'' hyl
    obtain ⟨ρ2, tg, body⟩ := hs i _ acc hxi hl
    obtain ⟨σ2, en3, hw, kk⟩ := tg (M.add D) v σ H'' dx (en2.go (g1.trans x3.go))
    refine kk _ ⟨hw, ?_⟩
    have eM : ∀ a, a ∈ M.h → H'' a = H' a := fun a q => by
      obtain ⟨o, ho⟩ := m1 a (List.mem_cons.mpr (.inr q))
      rw [x3 a o ho, ho]
    refine body D H'' nD (g02.trans (g1.trans x3.go)) (hst _ _ _ _ eM iv) (m1.ex x3) σ2 en3 _ fun b H3 g3 pb => ?_
    cases b with
    | true =>
      rw [if_pos rfl] at pb ⊢
      refine pb ((m1.ex x3).go g3) σ2 (en3.go g3) _ fun w H4 s g4 r ⟨e4, d', es, iv'⟩ => ?_
      subst es
      have G : Go (M.add D) H' H4 := x3.go.trans (g3.trans g4)
      have hD4 : H4 D = some (.lst ys) := by rw [e4]; exact x3 D _ hys
      have gD : Go (M.add D) H4 (upd H4 D (.lst (ys ++ [w]))) := Go.mut (List.mem_cons_self)
      refine ⟨ys, hD4, Nat.lt_of_le_of_lt (by rw [Das.len dys]; omega : ys.length ≤ 100000) (by decide), hlt, (g1.trans G).trans gD, (m1.go G).go gD, ys ++ [w], acc ++ [d'], upd_same, Das.go (Das.app (Das.go dys G) (.cons r .nil)) gD, by rw [List.length_append]; simpa using hl, hst _ _ _ _ (fun a q => hMD a q) iv'⟩
    | false =>
      rw [if_neg Bool.false_ne_true] at pb ⊢
      have G : Go (M.add D) H' H3 := x3.go.trans g3
      exact ⟨hlt, g1.trans G, m1.go G, ys, acc, by rw [pb.1]; exact x3 D _ hys, Das.go dys G, Nat.le_succ_of_le hl, pb.2⟩
  · have e : i = ds.length := by omega
    subst e
    exact .inl ⟨y2, k _ H' (.d (.list acc)) (gM g1) (Da.lst nD hys (dys.mono fun a q => List.mem_cons.mpr (.inr q))) (hd acc H' hl iv (gM g1))⟩
end
end DL
set_option maxRecDepth 100000
namespace DL
open PySem L2
theorem u64 {k : Nat} {A : Around} (hr : Room k A) : A.units + 64 < cLine := hr.units
theorem u65 {k : Nat} {A : Around} (hr : Room k A) : A.units + 65 < cLine := by have := hr.un; omega
section
variable {X : Cx}
def NegD (d z : PyData) : Prop := ∃ i, d = .int i ∧ z = .int (-i)
theorem un_negDD : UnR X (unaryOp .USub) (rU1 X.K NegD) := un_negD
def IsBD (d e z : PyData) : Prop := ∃ a b, d = .bool a ∧ e = .bool b ∧ z = .bool (decide (a = b))
def NotBD (d e z : PyData) : Prop := ∃ a b, d = .bool a ∧ e = .bool b ∧ z = .bool (!decide (a = b))
theorem op_isBD : OpR X (compareOp .Is) (rB X.K IsBD) := by
  intro pins s σ H x y v u Q I rx ry h
  obtain ⟨M, d, e, z, hM, hd, he, ⟨a, b, rfl, rfl, rfl⟩, q⟩ := h
  have e1 := hd.bl_inv; have e2 := he.bl_inv; subst e1; subst e2
  exact op_isBl pins s σ H _ _ v u Q I rx ry ⟨a, b, rfl, rfl, q _ H (Ex.refl H) (.bl _)⟩
theorem op_notBD : OpR X (compareOp .IsNot) (rB X.K NotBD) := by
  intro pins s σ H x y v u Q I rx ry h
  obtain ⟨M, d, e, z, hM, hd, he, ⟨a, b, rfl, rfl, rfl⟩, q⟩ := h
  have e1 := hd.bl_inv; have e2 := he.bl_inv; subst e1; subst e2
  exact op_notBl pins s σ H _ _ v u Q I rx ry ⟨a, b, rfl, rfl, q _ H (Ex.refl H) (.bl _)⟩
/-! ### isinstance -/
def tyD : PyData → String
  | .none => "NoneType"
  | .bool _ => "bool"
  | .int _ => "int"
  | .str _ => "str"
  | .list _ => "list"
  | .tuple _ => "tuple"
  | .dict _ => "dict"
theorem ty_of {K : Fg} {M : Ms} {H : Hp} {v : V} {d : PyData} (h : Da K M H v d) : TyX K H v (.type (tyD d)) := by
  cases h with
  | non => exact .base .non
  | bl b => exact .base (.bl b)
  | int i => exact .base (.int i)
  | str x => exact .base (.str x)
  | lst s a =>
    rcases hid_l s with (s | ⟨o, s⟩) | ⟨o, its, n, hk, hc, _⟩
    · exact .base (.lst s)
    · exact .base (.frz s)
    · exact .kList hk hc
  | tup s a =>
    rcases hid_t s with (s | ⟨o, s⟩) | ⟨o, its, n, hk, hc, _⟩
    · exact .base (.tup s)
    · exact .fTuple s
    · exact .kTuple hk hc
def isN (T n : String) : Bool := n == T || (n == "bool" && T == "int")
/-- isinstance(d, T), T one of int, str, bool, list, tuple -/
def isD (T : String) (d : PyData) : Bool := isN T (tyD d)
def goodT : List String := ["int", "str", "bool", "list", "tuple"]
def allT : List String := ["NoneType", "bool", "int", "str", "list", "tuple", "dict"]
theorem kit_all : ∀ T ∈ goodT, ∀ n ∈ allT, kitB n T = some (isN T n) := by decide +kernel
theorem ty_all (d : PyData) : tyD d ∈ allT := by cases d <;> simp [tyD, allT]
theorem kit_isD {T : String} (h : T ∈ goodT) (d : PyData) : kitB (tyD d) T = some (isD T d) := kit_all T h _ (ty_all d)
def rIsD (K : Fg) : List V → Hp → VK → Prop := fun vs H Q => ∃ M v d T, vs = [v, .ty T] ∧ T ∈ goodT ∧ Md M H ∧ Da K M H v d ∧ Q (.bl (isD T d)) H
theorem call_isiD : CallR X (.builtin "isinstance") (rIsD X.K) := by
  intro pins s σ H xs us Q I rx h
  obtain ⟨M, v, d, T, rfl, hT, hM, hd, q⟩ := h
  exact call_isi pins s σ H _ us Q I rx ⟨v, .ty T, _, _, _, rfl, .ty T, ty_of hd, kit_ty (kit_isD hT d), q⟩
def rIsTD (K : Fg) : List V → Hp → VK → Prop := fun vs H Q => ∃ (M : Ms) (v : V) (d : PyData) (tp : Addr) (Ts : List String), vs = [v, .ref tp] ∧ H tp = some (.tup (Ts.map V.ty)) ∧ (∀ T ∈ Ts, T ∈ goodT) ∧ Md M H ∧ Da K M H v d ∧ Q (.bl (Ts.any fun T => isD T d)) H
theorem kit_any {K : Fg} {d : PyData} : ∀ {Ts : List String}, (∀ T ∈ Ts, T ∈ goodT) → PySem.W.kitAny K (.type (tyD d)) (Ts.map Value.type) = some (Ts.any fun T => isD T d)
  | [], _ => kitAny_nil
  | T :: Ts, h => by
    have ih := kit_any (K := K) (d := d) (Ts := Ts) fun T' m => h T' (List.mem_cons.mpr (.inr m))
    rw [List.map_cons, List.any_cons]
    exact kitAny_cons (kit_ty (kit_isD (h T List.mem_cons_self) d)) (fun e => by rw [e, Bool.false_or]; exact ih) (fun e => by rw [e, Bool.true_or])
theorem cls_tys : ∀ Ts : List String, Paired ClsV (Ts.map V.ty) (Ts.map Value.type)
  | [] => .nil
  | T :: Ts => .cons (.ty T) (cls_tys Ts)
theorem call_isiTD : CallR X (.builtin "isinstance") (rIsTD X.K) := by
  intro pins s σ H xs us Q I rx h
  obtain ⟨M, v, d, tp, Ts, rfl, ht, hT, hM, hd, q⟩ := h
  exact call_isiT pins s σ H _ us Q I rx ⟨v, tp, _, _, _, _, rfl, ht, cls_tys Ts, ty_of hd, kit_any hT, q⟩
/-! ### divmod, sorted, reversed -/
def DivmodD : List PyData → PyData → Prop
  | [.int i, .int j], z => CDiv i j ∧ z = .tuple [.int (i / j), .int (i % j)]
  | _, _ => False
theorem call_divmodD : CallR X (.builtin "divmod") (rC X.K DivmodD) := by
  intro pins s σ H xs us Q I rx h
  obtain ⟨M, ds, z, hM, hd, g, q⟩ := h
  match ds, g with
  | [.int i, .int j], g =>
    obtain ⟨v, u, rfl, h1, h2⟩ := Das.two hd
    have e1 := Da.int_inv h1; have e2 := Da.int_inv h2; subst e1; subst e2
    exact call_divmod pins s σ H _ us Q I rx ⟨i, j, rfl, g.1, fun p hp => q _ _ (Ex.new hp) (by rw [g.2]; exact Da.new_tup hM hp (.cons (.int _) (.cons (.int _) .nil)))⟩
def isort (ns : List Int) : List Int := ns.mergeSort (fun x y => decide (x ≤ y))
def SortedD : List PyData → PyData → Prop
  | [.list ds], z => ∃ ns : List Int, ds = ns.map PyData.int ∧ z = .list ((isort ns).map PyData.int)
  | _, _ => False
theorem call_sortedD (hc : X.calm = true) : CallR X (.builtin "sorted") (rC X.K SortedD) := by
  intro pins s σ H xs us Q I rx h
  obtain ⟨M, ds, z, hM, hd, g, q⟩ := h
  match ds, g with
  | [.list ds], g =>
    obtain ⟨v, rfl, h1⟩ := Das.one hd
    obtain ⟨a, xs, rfl, ha, hx⟩ := Da.list_inv h1
    obtain ⟨ns, rfl, g⟩ := g
    have e := Das.ints hx; subst e
    refine cr_sortedI pins s σ H _ us Q I rx ⟨a, ns, rfl, (hid_l ha), fun ns' p hp hs hn => q _ _ (Ex.new hn) ?_⟩
    have e : ns' = isort ns := PySem.W.os_sorted_mergeSort hp hs
    subst e
    rw [g]
    exact Da.new_lst hM hn (Das.of_ints _)
end
section
variable {K : Fg} {B0 : List Addr} {ρ : Ro} {M : Ms} {H H' : Hp} {ta tb tc te : TE} {tl : TA} {tt : TT} {t u : TS} {s : Sl} {d e z : PyData} {b : Bool} {P : Po}
theorem ev_isi {T : String} (h : EvD K ta ρ M H d) (hT : T ∈ goodT := by decide) : EvD K (tCB (rIsD K) (tCons ta (tCons (tC (.ty T)) tNil))) ρ M H (.bool (isD T d)) := fun H1 σ x m en Q q =>
  h H1 σ x m en _ fun v H2 x2 r => ⟨M, v, d, T, rfl, hT, m.ex x2, r, q _ H2 x2 (Dq.bl _)⟩
/-- the display of classes -/
def tTys : List String → TA
  | [] => tNil
  | T :: Ts => tCons (tC (.ty T)) (tTys Ts)
theorem tys_ev : ∀ (Ts : List String) (σ : L2.St) (H : Hp) (Q : List V → Hp → Prop), Q (Ts.map V.ty) H → tTys Ts σ H Q
  | [], σ, H, Q, q => q
  | T :: Ts, σ, H, Q, q => tys_ev Ts σ H (fun vs H' => Q (.ty T :: vs) H') q
theorem ev_isiT (Ts : List String) (h : EvD K ta ρ M H d) (hT : ∀ T ∈ Ts, T ∈ goodT := by decide) (hl : Ts.length ≤ 100000 := by decide) : EvD K (tCB (rIsTD K) (tCons ta (tCons (tTup (tTys Ts)) tNil))) ρ M H (.bool (Ts.any fun T => isD T d)) := fun H1 σ x m en Q q =>
  h H1 σ x m en _ fun v H2 x2 r => tys_ev Ts σ H2 _ ⟨by rw [List.length_map]; exact Nat.le_trans hl (by decide), fun p hp =>
    ⟨M, v, d, p, Ts, rfl, upd_same, hT, m.ex (x2.trans (Ex.new hp)), r.ex (Ex.new hp), q _ _ (x2.trans (Ex.new hp)) (Dq.bl _)⟩⟩
theorem ev_revL {ds : List PyData} (h : EvD K te ρ M H (.list ds)) : EvD K (tRevL K te) ρ M H (.list ds.reverse) := fun H1 σ x m en Q q =>
  h H1 σ x m en _ fun v H2 x2 r => by
    obtain ⟨a, xs, rfl, ha, hx⟩ := Da.list_inv r
    exact ⟨a, xs, rfl, (hid_l ha), fun p hp => q _ _ (x2.trans (Ex.new hp)) (Da.new_lst (m.ex x2) hp (Das.rev hx))⟩
end
/-! ### a def keeps its promise -/
section
variable {Pr : Program} {w : World} {K : Fg} {mg : Str → Option Value} {base : Heap}
def ro0 (N : List Str) (ss : List Sl) : Ro := ss.map some ++ List.replicate (N.length - ss.length) none
/-- what a body is to show -/
def Sem (K : Fg) (N : List Str) (np : Nat) (A : Pm) (ts : TS) : Prop := ∀ M ss H R, Md M H → A ss M H R → ss.length = np ∧ np ≤ N.length ∧ Rn K M.h ts (ro0 N ss) M H { N := fun _ _ H' => R (.d .none) H', R := R }
theorem Rls.gets {M : Ms} {H : Hp} {vs : List V} {ss : List Sl} (h : Rls K M H vs ss) : ∀ (i : Nat) v s, vs[i]? = some v → ss[i]? = some s → Rl K M H v s := fun i v s e e' => Rls.get h e e'
theorem mk_ok {x qual : Str} {st : Stmt} {f : Addr} {fd : FuncData} {N ps : List Str} {k : Nat} {A : Pm} {ts : TS} (F : Fun K x qual st f fd) (S : FnScope N ps (defScope st)) (sem : Sem K N ps.length A ts)
    (der : ∀ (cdv : Value) (A' : Around) (outer : List PySem.Env) (s : Shared) (H : Hp) (E : XK), Room k (A'.deeper (PyProof.Rows.envOfC qual (defScope st) s.heap.objs.size f cdv)) → PSs (cxOf CX0 Pr w K mg base N qual (defScope st) f cdv A' outer s H E).nox (defBody st) ts) :
    FnOk Pr w K mg base CX0 (k + 1) f fd ps (spG K A) := by
  refine F.ok S (fun vs H Q E h => ?_) (fun cdv A' outer s H vs Q E hr h => ⟨ts, der cdv A' outer s H E hr, ?_⟩)
  · obtain ⟨M, ss, R, m, r, a, q⟩ := h
    rw [Rls.len r]
    exact (sem M ss H R m a).1
  · obtain ⟨M, ss, R, m, r, a, q⟩ := h
    obtain ⟨h1, h2, rn⟩ := sem M ss H R m a
    have hl := Rls.len r
    refine rn m (fun _ h => h) (L2.start N vs) (Env.start hl (Rls.gets r) (by omega)) _ ⟨fun σ' H' ρ' M' st sb en p => ?_, fun v H' s M' st sb rl p => ?_, fun _ _ _ _ _ _ _ p => p.elim, fun _ _ _ _ _ _ _ p => p.elim⟩
    · exact q .non H' (.d .none) st.go Dq.non p
    · exact q v H' s st.go (rl.mono sb) p
end
end DL
set_option maxRecDepth 100000
namespace DL
open PySem L2
section
variable {i j : Int} {a b : Str} {xs ys : List PyData} {p q : Bool}
theorem g_add : AddD (.int i) (.int j) (.int (i + j)) := rfl
theorem g_addS (h : a.length + b.length ≤ sizeLine) : AddD (.str a) (.str b) (.str (a ++ b)) := ⟨h, rfl⟩
theorem g_addL (h : xs.length + ys.length ≤ sizeLine) : AddD (.list xs) (.list ys) (.list (xs ++ ys)) := ⟨h, rfl⟩
theorem g_addT (h : xs.length + ys.length ≤ sizeLine) : AddD (.tuple xs) (.tuple ys) (.tuple (xs ++ ys)) := ⟨h, rfl⟩
theorem g_sub : SubD (.int i) (.int j) (.int (i - j)) := rfl
theorem g_mul (h : CMul i j) : MulD (.int i) (.int j) (.int (i * j)) := ⟨h, rfl⟩
theorem g_mulL (h : -(2 ^ 63) ≤ i ∧ i < 2 ^ 63 ∧ xs.length * i.toNat ≤ sizeLine) : MulD (.list xs) (.int i) (.list (List.replicate i.toNat xs).flatten) := ⟨h.1, h.2.1, h.2.2, rfl⟩
theorem g_div (h : CDiv i j) : DivD (.int i) (.int j) (.int (i / j)) := ⟨h, rfl⟩
theorem g_mod (h : 0 < j) : ModD (.int i) (.int j) (.int (i % j)) := ⟨h, rfl⟩
theorem g_pow (h : CPow i j) : PowD (.int i) (.int j) (.int (i ^ j.toNat)) := ⟨h, rfl⟩
theorem g_lt : LtD (.int i) (.int j) (.bool (decide (i < j))) := rfl
theorem g_le : LeD (.int i) (.int j) (.bool (decide (i ≤ j))) := rfl
theorem g_gt : GtD (.int i) (.int j) (.bool (decide (j < i))) := rfl
theorem g_ge : GeD (.int i) (.int j) (.bool (decide (j ≤ i))) := rfl
theorem g_ltS : LtD (.str a) (.str b) (.bool (decide (a.cps.toList < b.cps.toList))) := rfl
theorem g_leS : LeD (.str a) (.str b) (.bool (!decide (b.cps.toList < a.cps.toList))) := rfl
theorem eqv_int : PyData.eqv (.int i) (.int j) = decide (i = j) := by unfold PyData.eqv; exact Bool.beq_eq_decide_eq i j
theorem eqv_bool : PyData.eqv (.bool p) (.bool q) = decide (p = q) := by unfold PyData.eqv; cases p <;> cases q <;> rfl
theorem eqv_str : PyData.eqv (.str a) (.str b) = decide (a = b) := by
  unfold PyData.eqv
  by_cases h : a = b
  · subst h; simp
  · rw [decide_eq_false h]; exact beq_eq_false_iff_ne.mpr h
theorem shp_int : Shp (.int i) := by show SeqAt.shaped _ = true; simp [SeqAt.shaped, PyData.canLay0, PyData.depth]
theorem shp_bool : Shp (.bool p) := by show SeqAt.shaped _ = true; simp [SeqAt.shaped, PyData.canLay0, PyData.depth]
theorem shp_none : Shp .none := by show SeqAt.shaped _ = true; simp [SeqAt.shaped, PyData.canLay0, PyData.depth]
theorem g_eq : EqD (.int i) (.int j) (.bool (decide (i = j))) := ⟨shp_int, shp_int, by rw [eqv_int]⟩
theorem g_ne : NeD (.int i) (.int j) (.bool (!decide (i = j))) := ⟨shp_int, shp_int, by rw [eqv_int]⟩
theorem g_eqB : EqD (.bool p) (.bool q) (.bool (decide (p = q))) := ⟨shp_bool, shp_bool, by rw [eqv_bool]⟩
theorem g_neB : NeD (.bool p) (.bool q) (.bool (!decide (p = q))) := ⟨shp_bool, shp_bool, by rw [eqv_bool]⟩
theorem g_neg : NegD (.int i) (.int (-i)) := ⟨i, rfl, rfl⟩
theorem g_isB : IsBD (.bool p) (.bool q) (.bool (decide (p = q))) := ⟨p, q, rfl, rfl, rfl⟩
theorem g_notB : NotBD (.bool p) (.bool q) (.bool (!decide (p = q))) := ⟨p, q, rfl, rfl, rfl⟩
theorem g_ixL {z : PyData} (h : atI xs i = some z) : IxD (.list xs) (.int i) z := h
theorem g_ixT {z : PyData} (h : atI xs i = some z) : IxD (.tuple xs) (.int i) z := h
theorem g_len : LenD [.list xs] (.int (xs.length : Int)) := rfl
theorem g_lenT : LenD [.tuple xs] (.int (xs.length : Int)) := rfl
theorem g_lenS (h : a.length ≤ sizeLine) : LenD [.str a] (.int (a.length : Int)) := ⟨h, rfl⟩
theorem g_sum {ns : List Int} : SumD [.list (ns.map .int)] (.int ns.sum) := ⟨ns, rfl, rfl⟩
theorem g_all {ns : List Bool} : AllD [.list (ns.map .bool)] (.bool (ns.all id)) := ⟨ns, rfl, rfl⟩
theorem g_any {ns : List Bool} : AnyD [.list (ns.map .bool)] (.bool (ns.any id)) := ⟨ns, rfl, rfl⟩
theorem g_min : Min2D [.int i, .int j] (.int (min i j)) := rfl
theorem g_max : Max2D [.int i, .int j] (.int (max i j)) := rfl
theorem g_abs : AbsD [.int i] (.int (if i < 0 then -i else i)) := rfl
theorem g_int : IntD [.int i] (.int i) := rfl
theorem g_intB : IntD [.bool p] (.int (if p then 1 else 0)) := rfl
theorem g_str (h : i.natAbs.log2 < 1920) : StrD [.int i] (.str (toString i)) := ⟨h, rfl⟩
theorem g_list : ListD [.list xs] (.list xs) := rfl
theorem g_listT : ListD [.tuple xs] (.list xs) := rfl
theorem g_tuple : TupleD [.list xs] (.tuple xs) := rfl
theorem g_tupleT : TupleD [.tuple xs] (.tuple xs) := rfl
theorem g_divmod (h : CDiv i j) : DivmodD [.int i, .int j] (.tuple [.int (i / j), .int (i % j)]) := ⟨h, rfl⟩
theorem g_sorted {ns : List Int} : SortedD [.list (ns.map .int)] (.list ((isort ns).map .int)) := ⟨ns, rfl, rfl⟩
end
end DL
set_option maxRecDepth 100000
namespace DL
open PySem L2
section
variable {K : Fg} {B0 : List Addr} {ρ : Ro} {M : Ms} {H H' : Hp} {ta tb tc te : TE} {tl : TA} {tt : TT} {t u : TS} {s : Sl} {d e z : PyData} {b : Bool} {P : Po}
theorem hid_new {p : Addr} (x : Ex H H') (n : H p = none) : Ex (hid M H) (hid (M.add p) H') := fun a u h => by
  have h0 := hid_le M H a u h
  have q : a ≠ p := fun e => by rw [e, n] at h0; cases h0
  unfold hid at h ⊢
  by_cases m : a ∈ M.h
  · rw [if_pos m] at h; cases h
  · rw [if_neg (fun z => by rcases List.mem_cons.mp z with e | e; exact q e; exact m e)]; exact x a u h0
theorem Env.newx {σ : L2.St} {p : Addr} (en : Env K M H σ ρ) (x : Ex H H') (n : H p = none) : Env K (M.add p) H' σ ρ := ⟨en.1, fun i t h => by
  obtain ⟨v, h1, h2⟩ := en.2 i t h
  refine ⟨v, h1, ?_⟩
  cases t with
  | d y => exact dp_ex (hid_new x n) y v h2
  | v w => exact h2⟩
/-- a new list is handed out, to be changed -/
theorem r_retL {ds : List PyData} (h : EvAD K tl ρ M H ds) (hl : ds.length ≤ 100000) (k : ∀ p H1 vs, H p = none → Ex H H1 → H1 p = some (.lst vs) → Das K M H1 vs ds → P.R (.v (.ref p)) H1) : Rn K B0 (tRet (tLst tl)) ρ M H P := fun m sb σ en D dn =>
  h H σ (Ex.refl _) m en _ fun vs H2 x r => ⟨by rw [Das.len r]; exact Nat.le_trans hl (by decide), fun p hp => by
    have x2 : Ex H (upd H2 p (.lst vs)) := x.trans (Ex.new hp)
    exact dn.rt (.ref p) _ (.v (.ref p)) M (.of m x2.go) sb rfl (k p _ vs (fresh_back x hp) x2 upd_same (r.ex (Ex.new hp)))⟩
/-- x = f(..), f giving a new object that will change -/
theorem r_asgN {A : Pm} {E : XK} {i : Nat} {ss : List Sl} (h : EvA K tl ρ M H ss) (k : ∀ H1, Ex H H1 → A ss M.pure H1 fun s H2 => Ex H1 H2 → ∃ p o, s = .v (.ref p) ∧ H p = none ∧ H2 p = some o ∧ P.N (ρ.set i (some (.v (.ref p)))) (M.add p) H2) :
    Rn K B0 (tAsg (tCall (spG K A) [] E tl) (gName i)) ρ M H P := fun m sb σ en D dn =>
  h H σ (Ex.refl _) m en _ fun vs H1 x r => by
    rw [List.append_nil]
    refine ⟨M.pure, ss, _, m.ex x, Rls.mono (M := M.pure) (N := M) (fun a q => q) r, k H1 x, fun v H2 s g rl pp => ?_⟩
    obtain ⟨p, o, rfl, hn, ho, pn⟩ := pp g.pure
    have rl : v = .ref p := rl
    subst rl
    have x2 : Ex H H2 := x.trans g.pure
    refine dn.nx _ _ _ (M.add p) ⟨Md.add (m.ex x2) ho, x2.go, fun a q => ?_⟩ (fun a q => List.mem_cons.mpr (.inr (sb a q))) ((en.newx x2 hn).set (s := .v (.ref p)) rfl) pn
    rcases List.mem_cons.mp q with e | e
    · exact .inr (e ▸ hn)
    · exact .inl e
end
/-! ### the box from which a law draws -/
def Bx (H : Hp) (p : Addr) (n : Nat) : Prop := ∃ a b c : Int, H p = some (.lst [.int a, .int b, .int c]) ∧ 0 ≤ a ∧ 0 ≤ b ∧ b ≤ 1000000000000 ∧ 0 ≤ c ∧ c ≤ n
theorem Bx.at {K : Fg} {M : Ms} {H : Hp} {p : Addr} {a b c : Int} (h : H p = some (.lst [.int a, .int b, .int c])) (w : p ∈ M.w) : LAt K M H p [.int a, .int b, .int c] := ⟨w, _, h, .cons (.int _) (.cons (.int _) (.cons (.int _) .nil))⟩
theorem Bx.of {K : Fg} {M : Ms} {H : Hp} {p : Addr} {a b c : Int} {n : Nat} (l : LAt K M H p [.int a, .int b, .int c]) (h0 : 0 ≤ a) (h1 : 0 ≤ b) (h2 : b ≤ 1000000000000) (h3 : 0 ≤ c) (h4 : c ≤ n) : Bx H p n := by
  obtain ⟨xs, h, hx⟩ := l.ex
  refine ⟨a, b, c, ?_, h0, h1, h2, h3, h4⟩
  have e := Das.ints (ns := [a, b, c]) hx
  rw [h, e]; rfl
theorem Bx.x {H H' : Hp} {p : Addr} {n : Nat} (h : Bx H p n) (x : Ex H H') : Bx H' p n := by obtain ⟨a, b, c, e, k⟩ := h; exact ⟨a, b, c, x p _ e, k⟩
theorem Bx.mono {H : Hp} {p : Addr} {n m : Nat} (h : Bx H p n) (l : n ≤ m) : Bx H p m := by obtain ⟨a, b, c, e, k0, k1, k2, k3, k4⟩ := h; exact ⟨a, b, c, e, k0, k1, k2, k3, by omega⟩
theorem Bx.some {H : Hp} {p : Addr} {n : Nat} (h : Bx H p n) : ∃ o, H p = some o := by obtain ⟨a, b, c, e, _⟩ := h; exact ⟨_, e⟩
theorem Bx.same {H H' : Hp} {p : Addr} {n : Nat} (h : Bx H p n) (e : H' p = H p) : Bx H' p n := by obtain ⟨a, b, c, e', k⟩ := h; exact ⟨a, b, c, by rw [e]; exact e', k⟩
/-- a draw below m: any number; the box counts one more -/
def pm__law_take : Pm := fun ss M H R => ∃ p m n, ss = [.v (.ref p), .d (.int m)] ∧ p ∈ M.w ∧ Bx H p n ∧ n ≤ 1000000000 ∧ 0 < m ∧ m < 1073741824 ∧ ∀ r H', 0 ≤ r → r < m → Go M H H' → Bx H' p (n + 1) → R (.d (.int r)) H'
def pm__law_box : Pm := fun ss M H R => ∃ (ns : List Int) (k : Int), ss = [.d (.list (ns.map .int)), .d (.int k)] ∧ ns.length ≤ 63 ∧ 0 ≤ k ∧ k ≤ 1000 ∧ ∀ p H', H p = none → Ex H H' → Bx H' p 0 → R (.v (.ref p)) H'
end DL
set_option maxRecDepth 100000
namespace DL
open PySem L2
theorem atI_in {α : Type} {xs : List α} {i : Int} (h0 : 0 ≤ i) (h1 : i < xs.length) : atI xs i = some (xs[i.toNat]'(by omega)) := by
  have e : ((i.toNat : Nat) : Int) = i := by omega
  have h := atI_nat (List.getElem?_eq_getElem (l := xs) (i := i.toNat) (by omega))
  rw [e] at h
  exact h
theorem atI_mem {α : Type} {xs : List α} {i : Int} (h0 : 0 ≤ i) (h1 : i < xs.length) : ∃ x, atI xs i = some x ∧ x ∈ xs := ⟨_, atI_in h0 h1, List.getElem_mem _⟩
theorem atI_ints {ns : List Int} {i : Int} (h0 : 0 ≤ i) (h1 : i < ns.length) : ∃ n, atI (ns.map PyData.int) i = some (.int n) ∧ atI ns i = some n := by
  refine ⟨ns[i.toNat]'(by omega), ?_, atI_in h0 h1⟩
  rw [atI_in h0 (by rw [List.length_map]; exact h1)]
  simp
section
variable {K : Fg} {B0 : List Addr} {ρ : Ro} {M : Ms} {H H' : Hp} {ta tb tc te tm : TE} {tl : TA} {tt : TT} {t u : TS} {s : Sl} {d e z : PyData} {b : Bool} {P : Sl → Hp → Prop} {Q : Po}
theorem ee_int {i : Int} (p : P (.d (.int i)) H) : EvE K (tC (.int i)) ρ M H P := fun m σ en Q q => q _ H (.d (.int i)) (Go.refl _ _) (Dq.int i) p
theorem ee_str {i : Str} (p : P (.d (.str i)) H) : EvE K (tC (.str i)) ρ M H P := fun m σ en Q q => q _ H (.d (.str i)) (Go.refl _ _) (Dq.str i) p
theorem ee_bl {i : Bool} (p : P (.d (.bool i)) H) : EvE K (tC (.bl i)) ρ M H P := fun m σ en Q q => q _ H (.d (.bool i)) (Go.refl _ _) (Dq.bl i) p
theorem ee_non (p : P (.d .none) H) : EvE K (tC .non) ρ M H P := fun m σ en Q q => q _ H (.d .none) (Go.refl _ _) Dq.non p
theorem ee_var {i : Nat} (h : ρ[i]? = some (some s)) (p : P s H) : EvE K (tVar i) ρ M H P := fun m σ en Q q => by
  obtain ⟨v, e1, r⟩ := en.2 i s h
  exact ⟨v, e1, q v H s (Go.refl _ _) r p⟩
/-- the draw -/
theorem ee_take {i : Nat} {p : Addr} {n : Nat} {m : Int} (hi : ρ[i]? = some (some (.v (.ref p)))) (hw : p ∈ M.w) (hb : Bx H p n) (hn : n ≤ 1000000000) (hm : EvE K tm ρ M H fun s H1 => s = .d (.int m) ∧ Ex H H1) (h0 : 0 < m) (h1 : m < 1073741824)
    (k : ∀ r H1, 0 ≤ r → r < m → Go M H H1 → (∀ a o, a ≠ p → H a = some o → H1 a = some o) → Bx H1 p (n + 1) → P (.d (.int r)) H1) : EvE K (tCall (spG K pm__law_take) [] E0 (tCons (tVar i) (tCons tm tNil))) ρ M H P := by
  refine ee_call [p] (fun a q => by rw [List.mem_singleton] at q; exact q ▸ hw) (eea_cons (ee_var hi (eea_cons (fun md σ en Q q => hm md σ en Q fun v H2 s g r pp => q v H2 s g r ?_))))
  obtain ⟨rfl, x⟩ := pp
  refine eea_nil ⟨p, m, n, rfl, List.mem_singleton.mpr rfl, hb.x x, hn, h0, h1, fun r H3 r0 r1 g3 b3 g3' => ?_⟩
  refine k r H3 r0 r1 ?_ (fun a o ne ha => g3.1 a o (fun q => ne (List.mem_singleton.mp q)) (x a o ha)) b3
  exact x.go.trans (g3.sub fun a q => by have := List.mem_singleton.mp q; exact this ▸ hw)
theorem ee_const {i : Int} : EvE K (tC (.int i)) ρ M H fun s H1 => s = .d (.int i) ∧ Ex H H1 := ee_int ⟨rfl, Ex.refl _⟩
theorem ee_pure {i : Int} (h : EvD K te ρ M H (.int i)) : EvE K te ρ M H fun s H1 => s = .d (.int i) ∧ Ex H H1 := ee_p h fun H1 x => ⟨rfl, x⟩
end
end DL
set_option maxRecDepth 100000
namespace DL
open PySem L2
theorem lay_ints : ∀ ns : List Int, PyData.canLayAll0 (ns.map PyData.int) = true
  | [] => by simp [PyData.canLayAll0]
  | n :: ns => by simp [PyData.canLayAll0, PyData.canLay0, lay_ints ns]
theorem dep_ints : ∀ ns : List Int, PyData.depthAll (ns.map PyData.int) ≤ 1
  | [] => by simp [PyData.depthAll]
  | n :: ns => by have := dep_ints ns; simp [PyData.depthAll, PyData.depth]; omega
theorem lay_bools : ∀ ns : List Bool, PyData.canLayAll0 (ns.map PyData.bool) = true
  | [] => by simp [PyData.canLayAll0]
  | n :: ns => by simp [PyData.canLayAll0, PyData.canLay0, lay_bools ns]
theorem dep_bools : ∀ ns : List Bool, PyData.depthAll (ns.map PyData.bool) ≤ 1
  | [] => by simp [PyData.depthAll]
  | n :: ns => by have := dep_bools ns; simp [PyData.depthAll, PyData.depth]; omega
theorem shp_ints (ns : List Int) : Shp (.list (ns.map .int)) := by
  have h1 := lay_ints ns; have h2 := dep_ints ns
  show SeqAt.shaped _ = true
  simp [SeqAt.shaped, PyData.canLay0, h1, PyData.depth]; omega
theorem shp_bools (ns : List Bool) : Shp (.list (ns.map .bool)) := by
  have h1 := lay_bools ns; have h2 := dep_bools ns
  show SeqAt.shaped _ = true
  simp [SeqAt.shaped, PyData.canLay0, h1, PyData.depth]; omega
theorem eqvAll_ints : ∀ xs ys : List Int, PyData.eqvAll (xs.map .int) (ys.map .int) = decide (xs = ys)
  | [], [] => by simp [PyData.eqvAll]
  | [], y :: ys => by simp [PyData.eqvAll]
  | x :: xs, [] => by simp [PyData.eqvAll]
  | x :: xs, y :: ys => by
    rw [List.map_cons, List.map_cons, PyData.eqvAll, eqv_int, eqvAll_ints xs ys]
    by_cases h : x = y <;> by_cases h' : xs = ys <;> simp [h, h']
theorem eqvAll_bools : ∀ xs ys : List Bool, PyData.eqvAll (xs.map .bool) (ys.map .bool) = decide (xs = ys)
  | [], [] => by simp [PyData.eqvAll]
  | [], y :: ys => by simp [PyData.eqvAll]
  | x :: xs, [] => by simp [PyData.eqvAll]
  | x :: xs, y :: ys => by
    rw [List.map_cons, List.map_cons, PyData.eqvAll, eqv_bool, eqvAll_bools xs ys]
    by_cases h : x = y <;> by_cases h' : xs = ys <;> simp [h, h']
theorem g_eqL {xs ys : List Int} : EqD (.list (xs.map .int)) (.list (ys.map .int)) (.bool (decide (xs = ys))) := ⟨shp_ints _, shp_ints _, by rw [PyData.eqv, eqvAll_ints]⟩
theorem g_neL {xs ys : List Int} : NeD (.list (xs.map .int)) (.list (ys.map .int)) (.bool (!decide (xs = ys))) := ⟨shp_ints _, shp_ints _, by rw [PyData.eqv, eqvAll_ints]⟩
theorem g_eqLB {xs ys : List Bool} : EqD (.list (xs.map .bool)) (.list (ys.map .bool)) (.bool (decide (xs = ys))) := ⟨shp_bools _, shp_bools _, by rw [PyData.eqv, eqvAll_bools]⟩
theorem flat_ints : ∀ ns : List Int, (ns.map PyData.int).all flatD = true
  | [] => rfl
  | n :: ns => by rw [List.map_cons, List.all_cons, flat_ints ns]; rfl
theorem g_inTI {i : Int} {ns : List Int} : InD (.int i) (.tuple (ns.map .int)) (.bool (ns.any fun n => decide (n = i))) := ⟨rfl, flat_ints ns, by
  rw [List.any_map]
  have e : ((fun y => PyData.eqv y (.int i)) ∘ PyData.int) = fun n => decide (n = i) := by funext n; exact eqv_int
  rw [e]⟩
section
variable {K : Fg} {B0 : List Addr} {ρ : Ro} {M : Ms} {H H' : Hp} {ta tb tc te tm : TE} {tl : TA} {tt : TT} {t u : TS} {s : Sl} {d e z : PyData} {b : Bool} {P : Po}
theorem r_ifF (h : EvB K tt ρ M H b) (e : b = false) (h2 : ∀ H1, Ex H H1 → Rn K B0 u ρ M H1 P) : Rn K B0 (tIfS tt t u) ρ M H P := r_if h (fun e' => by rw [e] at e'; cases e') fun _ => h2
theorem r_ifT (h : EvB K tt ρ M H b) (e : b = true) (h2 : ∀ H1, Ex H H1 → Rn K B0 t ρ M H1 P) : Rn K B0 (tIfS tt t u) ρ M H P := r_if h (fun _ => h2) fun e' => by rw [e] at e'; cases e'
theorem eb_andU {t u : TT} {a : Bool} (h1 : EvB K t ρ M H a) (h2 : EvB K u ρ M H b) : EvB K (tAnd t u) ρ M H (a && b) := eb_and h1 fun _ => h2
theorem eb_orU {t u : TT} {a : Bool} (h1 : EvB K t ρ M H a) (h2 : EvB K u ρ M H b) : EvB K (tOr t u) ρ M H (a || b) := eb_or h1 fun _ => h2
theorem ev_andU {a : Bool} (h1 : EvD K ta ρ M H (.bool a)) (h2 : EvD K tb ρ M H (.bool b)) : EvD K (tAndV ta tb) ρ M H (.bool (a && b)) := ev_andV h1 fun _ => h2
theorem ev_orU {a : Bool} (h1 : EvD K ta ρ M H (.bool a)) (h2 : EvD K tb ρ M H (.bool b)) : EvD K (tOrV ta tb) ρ M H (.bool (a || b)) := ev_orV h1 fun _ => h2
theorem ev_chainU {g g' : PyData → PyData → PyData → Prop} {d e c : PyData} {k k' : Bool} (ha : EvD K ta ρ M H d) (hb : EvD K tb ρ M H e) (hc : EvD K tc ρ M H c) (hg : g d e (.bool k)) (hg' : g' e c (.bool k')) :
    EvD K (tChain (rB K g) (rB K g') ta tb tc) ρ M H (.bool (k && k')) := ev_chain ha hb (fun _ => hc) hg fun _ => hg'
theorem ev_lcI {α : Type} {wi : TI} {g : TG} {vs : List Nat} {xs : List α} {enc : α → PyData} (q : α → Int) (hI : EvI K wi ρ M H (xs.map enc)) (hz : xs.length ≤ 100000)
    (hs : ∀ (i : Nat) a, xs[i]? = some a → ∃ ρ2, Tc K g (enc a) vs (wipeR ρ vs) ρ2 ∧ ∀ N H', Sub M.h N → Ex H H' → EvD K te ρ2 N H' (.int (q a))) :
    EvD K (tLc wi g tYes te vs) ρ M H (.list ((xs.map q).map .int)) := by
  have h := ev_lc1 (K := K) (te := te) (g := g) (vs := vs) (fun a => PyData.int (q a)) hI hz hs
  rw [List.map_map]; exact h
theorem ev_lcB {α : Type} {wi : TI} {g : TG} {vs : List Nat} {xs : List α} {enc : α → PyData} (q : α → Bool) (hI : EvI K wi ρ M H (xs.map enc)) (hz : xs.length ≤ 100000)
    (hs : ∀ (i : Nat) a, xs[i]? = some a → ∃ ρ2, Tc K g (enc a) vs (wipeR ρ vs) ρ2 ∧ ∀ N H', Sub M.h N → Ex H H' → EvD K te ρ2 N H' (.bool (q a))) :
    EvD K (tLc wi g tYes te vs) ρ M H (.list ((xs.map q).map .bool)) := by
  have h := ev_lc1 (K := K) (te := te) (g := g) (vs := vs) (fun a => PyData.bool (q a)) hI hz hs
  rw [List.map_map]; exact h
theorem ei_list {ds : List PyData} (h : EvD K te ρ M H (.list ds)) : EvI K (iSeq K te) ρ M H ds := ei_seq h rfl
theorem ei_tuple {ds : List PyData} (h : EvD K te ρ M H (.tuple ds)) : EvI K (iSeq K te) ρ M H ds := ei_seq h rfl
theorem ei_text {x : Str} (h : EvD K te ρ M H (.str x)) : EvI K (iSeq K te) ρ M H (x.cps.toList.map fun c => .str ⟨#[c]⟩) := ei_seq h rfl
end
end DL
set_option maxRecDepth 100000
namespace DL
open PySem L2
section
variable {X : Cx} {tg : Expr}
/-- an iterator was laid at the heap's end: its turns are known, so the walk may start -/
theorem laid_it {pins : List (Addr × Obj)} {σ : L2.St} {H : Hp} {s : Shared} {o : Obj} {J : It} {tn : Nat → Heap → Prop} {R : It → Hp → Prop} (I : Inv X pins σ H s) (T : Turn X.prog X.w X.K tg J [s.heap.objs.size] s.heap.objs.size tn)
    (st : tn 0 (s.heap.push o)) (q : R J H) : PIE X pins σ tg R (.ref s.heap.objs.size) { s with heap := s.heap.push o } := by
  have keep := I.kept (t' := s.toks) (fun _ _ e => Heap.get?_push_of_some o e)
  have free := I.fpOk (Nat.le_refl _) I.fresh
  exact ⟨_, [_], tn, J, H, rfl, keep, T, st, fun b hb => List.mem_singleton.mp hb ▸ free, q⟩
/-- a list, a tuple or a text is walked -/
theorem pi_seq {l : Expr} {tl : TE} (hl : PE X l tl) : PI X tg l (iSeq X.K tl) := by
  constructor
  intro pins s σ H R I h
  have run := hl.run pins s σ H _ I h
  refine thn run ?_
  rintro v s1 ⟨x, H1, I1, r1, ⟨a, rfl, ⟨xs, hq⟩, q⟩ | ⟨a, rfl, ⟨xs, hq⟩, q⟩ | ⟨z, rfl, q⟩⟩
  · obtain ⟨us, rv, p, sz⟩ := I1.list hq
    cases r1
    exact wpAny_pyIter_list p.isList (laid_it I1 (turn_list a _) ⟨_, Heap.get?_push_size _ rfl, rfl, rfl⟩ q)
  · obtain ⟨us, rv, p, sz⟩ := I1.tuple hq
    cases r1
    have tup : s1.heap.IsTuple a us.toArray := p
    exact wpAny_pyIter_tuple tup (laid_it I1 (turn_tuple a _) ⟨_, Heap.get?_push_size _ rfl, rfl, rfl⟩ q)
  · obtain ⟨t, rfl⟩ := r1
    rcases kind : z.cps.all (· < 128) with _ | _
    · exact wpAny_pyIter_wide kind (laid_it I1 (turn_str _ z t "str_iterator" (Or.inr rfl)) ⟨_, Heap.get?_push_size _ rfl, rfl, rfl⟩ q)
    · exact wpAny_pyIter_ascii kind (laid_it I1 (turn_str _ z t "str_ascii_iterator" (Or.inl rfl)) ⟨_, Heap.get?_push_size _ rfl, rfl, rfl⟩ q)
end
end DL
set_option maxRecDepth 100000
namespace DL
open PySem L2
/-! lists that come new and are changed afterwards -/
section
variable {K : Fg} {ρ : Ro} {M : Ms} {H : Hp} {P : Po} {B0 : List Addr} {te ta tb : TE} {t : TS}
theorem r_clear {i : Nat} {p : Addr} {ds : List PyData} (hi : ρ[i]? = some (some (.v (.ref p)))) (l : LAt K M H p ds) (k : ∀ H2, Go M H H2 → LAt K M H2 p [] → (∀ a, a ≠ p → H2 a = H a) → P.N ρ M H2) :
    Rn K B0 (tDrop (tBM0 K "list" rClear (tVar i))) ρ M H P := fun m sb σ en D dn => by
  obtain ⟨v, h1, h2⟩ := en.2 i _ hi
  cases h2
  obtain ⟨xs, hp, hx⟩ := l.ex
  have g : Go M H (upd H p (.lst [])) := Go.mut l.w
  refine ⟨_, h1, Or.inl ⟨rfl, _, Or.inl (Or.inl hp)⟩, p, xs, rfl, rfl, hp, ?_⟩
  exact dn.nx σ _ ρ M (.of m g) sb (en.go g) (k _ g ⟨l.w, _, upd_same, .nil⟩ fun a q => upd_ne q)
/-- a value that is a list made just now -/
def EvF (K : Fg) (te : TE) (ρ : Ro) (M : Ms) (H : Hp) (ds : List PyData) : Prop :=
  ∀ H1 σ, Ex H H1 → Md M H1 → Env K M H1 σ ρ → ∀ Q : VK, (∀ p H2 vs, H1 p = none → Ex H1 H2 → H2 p = some (.lst vs) → Das K M H2 vs ds → Q (.ref p) H2) → te σ H1 Q
theorem EvF.is {ds es : List PyData} (h : EvF K te ρ M H ds) (e : ds = es) : EvF K te ρ M H es := e ▸ h
theorem ef_cat {xs ys : List PyData} (ha : EvD K ta ρ M H (.list xs)) (hb : EvD K tb ρ M H (.list ys)) (hl : xs.length + ys.length ≤ sizeLine) : EvF K (tOp (rCatR K) ta tb) ρ M H (xs ++ ys) := fun H1 σ x m en Q q =>
  ha H1 σ x m en _ fun v H2 x2 r => hb H2 σ (x.trans x2) (m.ex x2) (en.go (x2.go (M := M))) _ fun u H3 x3 r3 => by
    obtain ⟨a, vs, rfl, pa, da⟩ := Da.list_inv r
    obtain ⟨b, ws, rfl, pb, db⟩ := Da.list_inv r3
    have l1 := Das.len da; have l2 := Das.len db
    exact ⟨a, b, vs, ws, rfl, rfl, ex_l x3 (hid_l pa), hid_l pb, by rw [l1, l2]; exact hl, fun p hp =>
      q p _ _ (fresh_back (x2.trans x3) hp) ((x2.trans x3).trans (Ex.new hp)) upd_same (Das.ex (Das.app (Das.ex da x3) db) (Ex.new hp))⟩
theorem ef_lst {tl : TA} {ds : List PyData} (ha : EvAD K tl ρ M H ds) (hl : Nat.ble ds.length 100000 = true := by rfl) : EvF K (tLst tl) ρ M H ds := fun H1 σ x m en Q q =>
  ha H1 σ x m en _ fun vs H2 x2 r => ⟨by rw [Das.len r]; exact Nat.le_trans (Nat.le_of_ble_eq_true hl) (by decide), fun p hp => q p _ vs (fresh_back x2 hp) (x2.trans (Ex.new hp)) upd_same (r.ex (Ex.new hp))⟩
/-- it may be read as data -/
theorem EvF.ev {ds : List PyData} (h : EvF K te ρ M H ds) : EvD K te ρ M H (.list ds) := fun H1 σ x m en Q q =>
  h H1 σ x m en _ fun p H2 vs n x2 e r => q _ H2 x2 (Dq.lst (by
    have : hid M H2 p = some (.lst vs) := by rw [hid_ne (Md.fresh m n)]; exact e
    exact Or.inl (Or.inl this)) r)
theorem r_retF {ds : List PyData} (h : EvF K te ρ M H ds) (k : ∀ p H1 vs, H p = none → Ex H H1 → H1 p = some (.lst vs) → Das K M H1 vs ds → P.R (.v (.ref p)) H1) : Rn K B0 (tRet te) ρ M H P := fun m sb σ en D dn =>
  h H σ (Ex.refl _) m en _ fun p H2 vs n x2 e r => dn.rt (.ref p) H2 (.v (.ref p)) M (.of m x2.go) sb rfl (k p H2 vs n x2 e r)
/-- a call that writes nothing and gives what it gives -/
theorem ev_callA {A : Pm} {E : XK} {tl : TA} {ss : List Sl} {s : Sl} (ha : EvA K tl ρ M H ss) (hA : ∀ H1 (R : Sl → Hp → Prop), Ex H H1 → (∀ H2, Ex H1 H2 → R s H2) → A ss M.pure H1 R) : EvR K (tCall (spG K A) [] E tl) ρ M H s := fun H1 σ x m en Q q =>
  ha H1 σ x m en _ fun vs H2 x2 r => by
    rw [List.append_nil]
    refine ⟨M.pure, ss, fun s' H' => Ex H2 H' ∧ s' = s, m.ex x2, Rls.mono (M := M.pure) (N := M) (fun a q => q) r, hA H2 _ (x.trans x2) fun H' x' => ⟨x', rfl⟩, fun v H' s' g r' p' => ?_⟩
    obtain ⟨x', rfl⟩ := p'
    exact q v H' (x2.trans g.pure) r'
end
end DL
set_option maxRecDepth 100000
set_option maxHeartbeats 60000
namespace DL
open PySem L2
local macro_rules | `(tactic| walk_at "dl_g") => `(tactic| with_reducible first
  | exact g_add | exact g_sub | exact g_lt | exact g_le | exact g_gt | exact g_ge | exact g_eq | exact g_ne | exact g_eqB | exact g_eqL | exact g_neL | exact g_eqLB | exact g_neB | exact g_neg | exact g_isB | exact g_notB | exact g_len | exact g_lenT | exact g_sum | exact g_all | exact g_any
  | exact g_min | exact g_max | exact g_abs | exact g_int | exact g_intB | exact g_list | exact g_listT | exact g_tuple | exact g_tupleT | exact g_sorted | exact g_ltS | exact g_leS
  | apply g_mul | apply g_mulL | apply g_div | apply g_mod | apply g_pow | apply g_divmod | apply g_str | apply g_addS | apply g_addL | apply g_addT | apply g_lenS)
local macro_rules | `(tactic| walk_at "dl_e1") => `(tactic| first
  | with_reducible first | exact ev_int | exact ev_str | exact ev_bl | exact ev_non | exact ev_ty | exact ead_nil | exact ea_nil | exact eo_none | exact eb_yes
    | apply ead_cons | apply ea_cons | apply ev_bin | apply ev_cb | apply ev_un | apply ev_isN | apply ev_notN | apply ev_lst | apply ev_tup | apply ev_isi | apply ev_sl | apply eo_some
    | apply eb_test | apply eb_B | apply eb_not | apply eb_orU | apply eb_andU | apply ev_andU | apply ev_orU | apply ev_notV | apply ev_revL | apply ev_chainU
  | ((with_reducible apply ev_var); rfl)
  | ((with_reducible first | apply g_ixL | apply g_ixT); first | exact rfl | skip)
  | ((with_reducible show Nat.ble _ _ = true); rfl)
  | ((with_reducible show _ ∈ goodT); decide)
  | walk_at "dl_g")
local macro_rules | `(tactic| walk_at "dl_ev") => `(tactic| repeat' (walk_at "dl_e1"))
local macro_rules | `(tactic| walk_at "dl_s") => `(tactic| first | omega | (refine ⟨?_, ?_⟩ <;> omega) | decide)
def partsOf (p m : Int) : List Int := List.replicate (p % m).toNat (p / m + 1) ++ List.replicate (m - p % m).toNat (p / m)
theorem rep1 {α : Type} (n : Nat) (a : α) : (List.replicate n [a]).flatten = List.replicate n a := by
  induction n with
  | zero => rfl
  | succ n ih => rw [List.replicate_succ, List.flatten_cons, ih, List.replicate_succ]; rfl
def t_parts_of (K : Fg) : TS := (tSeq (tAsg (tCB (rC K DivmodD) (tCons (tVar 0) (tCons (tVar 1) tNil))) (gNames K [2, 3]))
    (tRet (tOp (rCatR K) (tOp (rB K MulD) (tLst (tCons (tOp (rB K AddD) (tVar 2) (tC (.int 1))) tNil)) (tVar 3)) (tOp (rB K MulD) (tLst (tCons (tVar 2) tNil)) (tOp (rB K SubD) (tVar 1) (tVar 3))))))
def N_parts_of : List Str := ["pence", "many", "least", "more"]
def pm_parts_of : Pm := fun ss M H R => ∃ p m : Int, ss = [.d (.int p), .d (.int m)] ∧ 1 ≤ m ∧ m ≤ 12 ∧ ((∀ H', Ex H H' → R (.d (.list ((partsOf p m).map .int))) H') ∨ (∀ q H', H q = none → Ex H H' → H' q = some (.lst ((partsOf p m).map .int)) → R (.v (.ref q)) H'))
theorem ef_parts {K : Fg} {M : Ms} {H : Hp} {p q : Int} (h1 : 1 ≤ q) (h2 : q ≤ 12) : EvF K (tOp (rCatR K) (tOp (rB K MulD) (tLst (tCons (tOp (rB K AddD) (tVar 2) (tC (.int 1))) tNil)) (tVar 3)) (tOp (rB K MulD) (tLst (tCons (tVar 2) tNil)) (tOp (rB K SubD) (tVar 1) (tVar 3))))
    [some (.d (.int p)), some (.d (.int q)), some (.d (.int (p / q))), some (.d (.int (p % q)))] M H ((partsOf p q).map .int) := by
  have m1 : 0 ≤ p % q := Int.emod_nonneg _ (by omega)
  have m2 : p % q < q := Int.emod_lt_of_pos _ (by omega)
  refine EvF.is (ds := (List.replicate (p % q).toNat [PyData.int (p / q + 1)]).flatten ++ (List.replicate (q - p % q).toNat [PyData.int (p / q)]).flatten) (ef_cat ?_ ?_ ?_) ?_
  · walk_at "dl_ev"
    refine ⟨by omega, by omega, ?_⟩
    rw [sizeLine_eq, List.length_singleton]; omega
  · walk_at "dl_ev"
    refine ⟨by omega, by omega, ?_⟩
    rw [sizeLine_eq, List.length_singleton]; omega
  · rw [rep1, rep1, List.length_replicate, List.length_replicate, sizeLine_eq]; omega
  · rw [rep1, rep1]; unfold partsOf; rw [List.map_append, List.map_replicate, List.map_replicate]
theorem sem_parts_of (K : Fg) : Sem K N_parts_of 2 pm_parts_of (t_parts_of K) := by
  rintro M ss H R m ⟨p, q, rfl, h1, h2, k⟩
  refine ⟨rfl, by decide, ?_⟩
  show Rn K M.h (t_parts_of K) [some (.d (.int p)), some (.d (.int q)), none, none] M H _
  refine r_seq (r_asgT (by walk_at "dl_ev"; exact ⟨by omega, by omega⟩) rfl fun H1 x1 => ?_)
  dsimp only [List.zip, List.zipWith, List.foldl, List.set]
  rcases k with k | k
  · exact r_ret (ef_parts h1 h2).ev fun H2 x2 => k _ (x1.trans x2)
  · refine r_retF (ef_parts h1 h2) fun a H2 vs n2 x2 e2 d2 => k _ _ (fresh_back x1 n2) (x1.trans x2) ?_
    rw [e2, Das.ints d2]
theorem ev_parts_of {K : Fg} {ρ : Ro} {M : Ms} {H : Hp} {ta tb : TE} {p q : Int} {E : XK} (ha : EvD K ta ρ M H (.int p)) (hb : EvD K tb ρ M H (.int q)) (h1 : 1 ≤ q) (h2 : q ≤ 12) : EvD K (tCall (spG K pm_parts_of) [] E (tCons ta (tCons tb tNil))) ρ M H (.list ((partsOf p q).map .int)) :=
  ev_callA (ea_cons ha (ea_cons hb ea_nil)) fun H1 R x k => ⟨p, q, rfl, h1, h2, .inl k⟩
theorem sum_rep (n : Nat) (a : Int) : (List.replicate n a).sum = n * a := by
  induction n with
  | zero => simp
  | succ n ih => rw [List.replicate_succ, List.sum_cons, ih, Int.natCast_succ, Int.add_mul]; omega
theorem parts_len (p q : Int) (h1 : 1 ≤ q) : ((partsOf p q).length : Int) = q := by
  have m1 : 0 ≤ p % q := Int.emod_nonneg _ (by omega)
  have m2 : p % q < q := Int.emod_lt_of_pos _ (by omega)
  unfold partsOf
  rw [List.length_append, List.length_replicate, List.length_replicate]; omega
theorem parts_sum (p q : Int) (h1 : 1 ≤ q) : (partsOf p q).sum = p := by
  have m1 : 0 ≤ p % q := Int.emod_nonneg _ (by omega)
  have m2 : p % q < q := Int.emod_lt_of_pos _ (by omega)
  have e := Int.mul_ediv_add_emod p q
  unfold partsOf
  rw [List.sum_append, sum_rep, sum_rep, Int.toNat_of_nonneg m1, Int.toNat_of_nonneg (by omega), Int.mul_add, Int.sub_mul]
  omega
theorem atI_map {α β : Type} {f : α → β} {xs : List α} {i : Int} {z : α} (h : atI xs i = some z) : atI (xs.map f) i = some (f z) := by
  unfold atI at h ⊢
  rw [List.length_map]
  cases e : ixN xs.length i with
  | none => rw [e] at h; cases h
  | some j =>
    rw [e] at h
    have h : xs[j]? = some z := h
    show (xs.map f)[j]? = some (f z)
    rw [List.getElem?_map, h]; rfl
theorem parts_step (p q : Int) (h1 : 1 ≤ q) (hp : 0 ≤ p) : ∃ z, atI (partsOf p q) 0 = some z ∧ 0 ≤ z ∧ z ≤ p ∧ (q = 1 → z = p) ∧ (2 ≤ q → partsOf p q = z :: partsOf (p - z) (q - 1)) := by
  have m1 : 0 ≤ p % q := Int.emod_nonneg _ (by omega)
  have m2 : p % q < q := Int.emod_lt_of_pos _ (by omega)
  have e := Int.mul_ediv_add_emod p q
  have d0 : 0 ≤ p / q := Int.ediv_nonneg hp (by omega)
  generalize hA : p / q = A at *
  generalize hB : p % q = B at *
  have qA : 0 ≤ (q - 1) * A := Int.mul_nonneg (by omega) d0
  have qe : q * A = (q - 1) * A + A := by rw [Int.sub_mul]; omega
  have one : q = 1 → A = p ∧ B = 0 := by
    intro h; subst h
    constructor <;> omega
  by_cases hb : B = 0
  · refine ⟨A, ?_, d0, by omega, fun h => (one h).1, fun h => ?_⟩
    · unfold partsOf
      rw [hA, hB, hb]
      rw [show (q - 0).toNat = (q.toNat - 1) + 1 by omega, List.replicate_succ]
      exact atI_in (by decide) (by simp)
    · unfold partsOf
      have ed : (p - A) / (q - 1) = A := by
        rw [show p - A = (q - 1) * A by omega]; exact Int.mul_ediv_cancel_left _ (by omega)
      have em : (p - A) % (q - 1) = 0 := by
        rw [show p - A = (q - 1) * A by omega]; exact Int.mul_emod_right _ _
      rw [hA, hB, hb, ed, em]
      show List.replicate (q - 0).toNat A = A :: List.replicate (q - 1 - 0).toNat A
      rw [show (q - 0).toNat = (q - 1 - 0).toNat + 1 by omega, List.replicate_succ]
  · refine ⟨A + 1, ?_, by omega, by omega, fun h => absurd (one h).2 hb, fun h => ?_⟩
    · unfold partsOf
      rw [hA, hB]
      rw [show B.toNat = (B.toNat - 1) + 1 by omega, List.replicate_succ]
      exact atI_in (by decide) (by simp; omega)
    · unfold partsOf
      have e1 : p - (A + 1) = (q - 1) * A + (B - 1) := by omega
      have ed : (p - (A + 1)) / (q - 1) = A := by
        rw [e1, Int.mul_add_ediv_left _ _ (by omega), Int.ediv_eq_zero_of_lt (by omega) (by omega)]; omega
      have em : (p - (A + 1)) % (q - 1) = B - 1 := by
        rw [e1, Int.mul_add_emod_self_left, Int.emod_eq_of_lt (by omega) (by omega)]
      rw [hA, hB, ed, em]
      rw [show B.toNat = (B - 1).toNat + 1 by omega, List.replicate_succ, show (q - B).toNat = (q - 1 - (B - 1)).toNat by omega]
      rfl
def t__law_take (K : Fg) : TS := (tSeq (tIfS (tTest (tOp (rB K GtD) (tOp (rB K IxD) (tVar 0) (tC (.int 0))) (tC (.int 0)))) (tSeq (tAsg (tOp (rB K ModD) (tOp (rB K IxD) (tVar 0) (tC (.int 0))) (tVar 1)) (gName 2))
    (tSeq (tAsg (tOp (rB K DivD) (tOp (rB K IxD) (tVar 0) (tC (.int 0))) (tVar 1)) (gSub (tVar 0) (tC (.int 0)) rSetL))
    (tRet (tVar 2)))) tNext)
    (tSeq (tAsg (tOp (rB K AddD) (tOp (rB K IxD) (tVar 0) (tC (.int 2))) (tC (.int 1))) (gSub (tVar 0) (tC (.int 2)) rSetL))
    (tSeq (tAsg (tOp (rB K ModD) (tOp (rB K PowD) (tOp (rB K AddD) (tOp (rB K IxD) (tVar 0) (tC (.int 1))) (tOp (rB K MulD) (tC (.int 39373)) (tOp (rB K IxD) (tVar 0) (tC (.int 2))))) (tC (.int 5))) (tC (.int 2147483647))) (gName 3))
    (tRet (tOp (rB K ModD) (tOp (rB K DivD) (tOp (rB K ModD) (tOp (rB K AddD) (tOp (rB K MulD) (tVar 3) (tOp (rB K AddD) (tOp (rB K ModD) (tVar 3) (tC (.int 40009))) (tC (.int 7)))) (tOp (rB K MulD) (tOp (rB K IxD) (tVar 0) (tC (.int 2))) (tC (.int 7919)))) (tC (.int 2147483629))) (tC (.int 64))) (tVar 1))))))
def N__law_take : List Str := ["_law_box_here", "_law_many", "_law_found", "_law_once"]
theorem sem__law_take (K : Fg) : Sem K N__law_take 2 pm__law_take (t__law_take K) := by
  rintro M ss H R m ⟨p, q, n, rfl, hw, ⟨a, b, c, hb, ha, hb0, hb1, hc0, hc1⟩, hn, hq0, hq1, k⟩
  refine ⟨rfl, by decide, ?_⟩
  show Rn K M.h (t__law_take K) [some (.v (.ref p)), some (.d (.int q)), none, none] M H _
  have l : LAt K M H p [.int a, .int b, .int c] := Bx.at hb hw
  refine r_seq (r_if (b := decide (0 < a)) ?_ (fun e H1 x1 => ?_) (fun e H1 x1 => ?_))
  · refine eb_rdL (i := 0) rfl l ?_
    walk_at "dl_ev"
  · have l1 := l.x x1
    refine r_seq (r_asg (s := .d (.int (a % q))) (ev_rdL (i := 0) rfl l1 ?_ rfl) fun H2 x2 => ?_)
    · walk_at "dl_ev"
      exact hq0
    have l2 := l1.x x2
    have e' : 0 < a := of_decide_eq_true e
    dsimp only [List.set]
    refine r_seq (r_setitem (i := 0) (k := 0) rfl (ee_p (s := .d (.int (a / q))) (ev_rdL (i := 0) rfl l2 ?_ rfl) fun H3 x3 => ⟨_, rfl, _, 0, ev_int, rfl, l2.x x3, fun H4 g4 l4 _ => ?_⟩))
    · walk_at "dl_ev"
      exact ⟨hq0, hq1⟩
    refine r_ret (ev_var rfl) fun H5 x5 => k _ _ (Int.emod_nonneg _ (by omega)) (Int.emod_lt_of_pos _ hq0) ?_ ?_
    · exact (x1.trans (x2.trans x3)).go.trans (g4.trans x5.go)
    · exact (Bx.of (n := n + 1) l4 (Int.ediv_nonneg ha (by omega)) hb0 hb1 hc0 (by omega)).x x5
  · refine r_next ?_
    have l1 := l.x x1
    refine r_seq (r_setitem (i := 0) (k := 2) rfl (ee_p (s := .d (.int (c + 1))) (ev_rdL (i := 0) rfl l1 ?_ rfl) fun H3 x3 => ⟨_, rfl, _, 2, ev_int, rfl, l1.x x3, fun H4 g4 l4 _ => ?_⟩))
    · walk_at "dl_ev"
    dsimp only [List.set] at l4
    have g14 : Go M H H4 := (x1.trans x3).go.trans g4
    have n1 : 0 ≤ (b + 39373 * (c + 1)) ^ (5 : Int).toNat % 2147483647 := Int.emod_nonneg _ (by decide)
    have n2 : (b + 39373 * (c + 1)) ^ (5 : Int).toNat % 2147483647 < 2147483647 := Int.emod_lt_of_pos _ (by decide)
    refine r_seq (r_asg (s := .d (.int ((b + 39373 * (c + 1)) ^ (5 : Int).toNat % 2147483647))) (ev_rdL (i := 0) rfl l4 ?_ rfl) fun H5 x5 => ?_)
    · walk_at "dl_ev"
      · exact .inl (by omega)
      · exact ⟨by decide, by decide, by omega⟩
      · decide
    dsimp only [List.set]
    generalize (b + 39373 * (c + 1)) ^ (5 : Int).toNat % 2147483647 = o at *
    have l5 := l4.x x5
    have o1 : 0 ≤ o % 40009 := Int.emod_nonneg _ (by decide)
    have o2 : o % 40009 < 40009 := Int.emod_lt_of_pos _ (by decide)
    refine r_ret (s := .d (.int ((o * (o % 40009 + 7) + (c + 1) * 7919) % 2147483629 / 64 % q))) (ev_rdL (i := 0) rfl l5 ?_ rfl) fun H6 x6 => k _ _ (Int.emod_nonneg _ (by omega)) (Int.emod_lt_of_pos _ hq0) ?_ ?_
    · walk_at "dl_ev"
      · decide
      · exact .inl (by omega)
      · exact .inr (by decide)
      · decide
      · exact ⟨by decide, by decide⟩
      · exact hq0
    · exact g14.trans (x5.trans x6).go
    · exact (Bx.of (n := n + 1) l5 ha hb0 hb1 (by omega) (by omega)).x x6
def t__law_box (K : Fg) : TS := (tSeq (tAsg (tC (.int 0)) (gName 2))
    (tSeq (tIfS (tTest (tOp (rB K LtD) (tVar 1) (tCB (rC K LenD) (tCons (tVar 0) tNil)))) (tAsg (tOp (rB K IxD) (tVar 0) (tVar 1)) (gName 2)) tNext)
    (tRet (tLst (tCons (tOp (rB K MulD) (tCB (rC K AbsD) (tCons (tVar 2) tNil)) (tCB (rC K IntD) (tCons (tOp (rB K GeD) (tCB (rC K AbsD) (tCons (tVar 2) tNil)) (tOp (rB K PowD) (tC (.int 10)) (tC (.int 18)))) tNil))) (tCons (tOp (rB K AddD) (tOp (rB K AddD) (tOp (rB K ModD) (tVar 2) (tC (.int 2147483629))) (tOp (rB K MulD) (tC (.int 7919)) (tVar 1))) (tC (.int 11))) (tCons (tC (.int 0)) tNil)))))))
def N__law_box : List Str := ["_law_script", "_law_k", "_law_cell"]

theorem sem__law_box (K : Fg) : Sem K N__law_box 2 pm__law_box (t__law_box K) := by
  rintro M ss H R m ⟨ns, q, rfl, hl, h0, h1, k⟩
  refine ⟨rfl, by decide, ?_⟩
  show Rn K M.h (t__law_box K) [some (.d (.list (ns.map .int))), some (.d (.int q)), none] M H _
  have rest : ∀ c H', Ex H H' → Rn K M.h (tRet (tLst (tCons (tOp (rB K MulD) (tCB (rC K AbsD) (tCons (tVar 2) tNil)) (tCB (rC K IntD) (tCons (tOp (rB K GeD) (tCB (rC K AbsD) (tCons (tVar 2) tNil)) (tOp (rB K PowD) (tC (.int 10)) (tC (.int 18)))) tNil))) (tCons (tOp (rB K AddD) (tOp (rB K AddD) (tOp (rB K ModD) (tVar 2) (tC (.int 2147483629))) (tOp (rB K MulD) (tC (.int 7919)) (tVar 1))) (tC (.int 11))) (tCons (tC (.int 0)) tNil)))))
      [some (.d (.list (ns.map .int))), some (.d (.int q)), some (.d (.int c))] M H' { N := fun _ _ H' => R (.d .none) H', R := R } := by
    intro c H' x
    refine r_retL (ds := ([(if c < 0 then -c else c) * (if decide ((10 : Int) ^ (18 : Int).toNat ≤ (if c < 0 then -c else c)) then 1 else 0), c % 2147483629 + 7919 * q + 11, 0] : List Int).map .int) ?_ (by simp) fun p H1 vs hp x1 hv dv => k p H1 (fresh_back x hp) (x.trans x1) ?_
    · show EvAD K _ _ M H' [_, _, _]
      walk_at "dl_ev"
      · exact ⟨by decide, by decide, by decide⟩
      · exact .inr (by split <;> (try split) <;> decide)
      · decide
      · exact .inl (by decide)
    · have e := Das.ints dv
      subst e
      refine ⟨_, _, _, hv, ?_, ?_, ?_, by decide, by decide⟩
      · refine Int.mul_nonneg (by split <;> omega) (by split <;> (try split) <;> decide)
      · have := Int.emod_nonneg c (show (2147483629 : Int) ≠ 0 by decide); omega
      · have := Int.emod_lt_of_pos c (show (0 : Int) < 2147483629 by decide); omega
  refine r_seq (r_asg ev_int fun H1 x1 => ?_)
  dsimp only [List.set]
  refine r_seq (r_if (b := decide (q < ((ns.map PyData.int).length : Int))) (by walk_at "dl_ev") (fun e H2 x2 => ?_) (fun e H2 x2 => ?_))
  · obtain ⟨c, hc, _⟩ := atI_ints (ns := ns) h0 (by have := of_decide_eq_true e; rw [List.length_map] at this; exact this)
    refine r_asg (s := .d (.int c)) (by walk_at "dl_ev"; exact hc) fun H3 x3 => ?_
    exact rest c H3 (x1.trans (x2.trans x3))
  · exact r_next (rest 0 H2 (x1.trans x2))
def shareUp (p c : Int) : Int := -(-p * c / 100)
def pm_share_up : Pm := pmD (fun ds => ∃ p c : Int, ds = [.int p, .int c] ∧ 0 ≤ p ∧ p ≤ 1000000000000 ∧ 0 ≤ c ∧ c ≤ 100) (fun ds => match ds with | [.int p, .int c] => .int (shareUp p c) | _ => .none)
def t_share_up (K : Fg) : TS := (tRet (tUn (rU1 K NegD) (tOp (rB K DivD) (tOp (rB K MulD) (tUn (rU1 K NegD) (tVar 0)) (tVar 1)) (tC (.int 100)))))
def N_share_up : List Str := ["pence", "percent"]

theorem sem_share_up (K : Fg) : Sem K N_share_up 2 pm_share_up (t_share_up K) := by
  rintro M ss H R m ⟨ds, rfl, ⟨p, c, rfl, h0, h1, h2, h3⟩, k⟩
  refine ⟨rfl, by decide, ?_⟩
  show Rn K M.h (t_share_up K) [some (.d (.int p)), some (.d (.int c))] M H _
  refine r_ret (s := .d (.int (shareUp p c))) ?_ fun H1 x1 => k _ x1
  unfold shareUp
  walk_at "dl_ev"
  · exact .inl (by omega)
  · exact ⟨by decide, by decide⟩
theorem ev_share_up {K : Fg} {ρ : Ro} {M : Ms} {H : Hp} {ta tb : TE} {p c : Int} {E : XK} (ha : EvD K ta ρ M H (.int p)) (hb : EvD K tb ρ M H (.int c)) (h0 : 0 ≤ p ∧ p ≤ 1000000000000) (h1 : 0 ≤ c ∧ c ≤ 100) : EvD K (tCall (spG K pm_share_up) [] E (tCons ta (tCons tb tNil))) ρ M H (.int (shareUp p c)) :=
  ev_call (ead_cons ha (ead_cons hb ead_nil)) ⟨p, c, rfl, h0.1, h0.2, h1.1, h1.2⟩
def t__law_paid (K : Fg) : TS := (tSeq (tAsg (tVar 1) (gName 4))
    (tSeq (tAsg (tCall (spG K pm_parts_of) [] E0 (tCons (tVar 1) (tCons (tVar 2) tNil))) (gName 5))
    (tSeq (tFor (iRng1 (tCons (tVar 2) tNil)) (gName 6) (tSeq (tAsg (tCall (spG K pm_parts_of) [] E0 (tCons (tVar 4) (tCons (tOp (rB K SubD) (tVar 2) (tVar 6)) tNil))) (gName 7))
    (tSeq (tIfS (tOr (tTest (tOp (rB K NeD) (tCB (rC K LenD) (tCons (tVar 7) tNil)) (tOp (rB K SubD) (tVar 2) (tVar 6)))) (tOr (tTest (tOp (rB K NeD) (tCB (rC K SumD) (tCons (tVar 7) tNil)) (tVar 4))) (tAnd (tNot (tB (tVar 3))) (tTest (tOp (rB K NeD) (tVar 7) (tSl (rSl K SlD) (tVar 5) (tPart (tVar 6)) tNoPart)))))) (tRet (tC (.bl false))) tNext)
    (tSeq (tAsg (tOp (rB K IxD) (tVar 7) (tC (.int 0))) (gName 8))
    (tSeq (tDrop (tBM0 K "list" rClear (tVar 7)))
    (tSeq (tAsg (tOp (rB K SubD) (tVar 4) (tVar 8)) (gName 4))
    (tIfS (tAnd (tB (tVar 3)) (tTest (tOp (rB K EqD) (tOp (rB K ModD) (tVar 6) (tC (.int 2))) (tC (.int 0))))) (tAsg (tOp (rB K SubD) (tVar 4) (tCall (spG K pm__law_take) [] E0 (tCons (tVar 0) (tCons (tOp (rB K AddD) (tVar 4) (tC (.int 1))) tNil)))) (gName 4)) tNext)))))))
    (tRet (tAndV (tOp (rB K EqD) (tVar 4) (tC (.int 0))) (tOp (rB K EqD) (tCB (rC K SumD) (tCons (tVar 5) tNil)) (tVar 1)))))))
def N__law_paid : List Str := ["_law_box_here", "_law_pence", "_law_many", "_law_falls", "_law_left", "_law_whole", "_law_k", "_law_told", "_law_first"]
theorem cut_from (xs : List PyData) (i : Nat) (h : i ≤ xs.length) (hz : xs.length ≤ 1000) : cutD xs (some (i : Int)) none = xs.drop i := by
  unfold cutD
  rw [HT.sIx_nat, Nat.min_eq_left h, HT.sIx_none, ← List.length_drop, List.take_length]
def pm__law_paid : Pm := fun ss M H R => ∃ b n p m f, ss = [.v (.ref b), .d (.int p), .d (.int m), .d (.bool f)] ∧ b ∈ M.w ∧ Bx H b n ∧ n ≤ 100000000 ∧ 0 ≤ p ∧ p ≤ 1000000000 ∧ 1 ≤ m ∧ m ≤ 12 ∧ ∀ H', Go M H H' → Bx H' b (n + 12) → R (.d (.bool true)) H'
theorem sem__law_paid (K : Fg) : Sem K N__law_paid 4 pm__law_paid (t__law_paid K) := by
  rintro M ss H R md ⟨b, n, p, m, f, rfl, hw, hb, hn, p0, p1, m1, m2, k⟩
  refine ⟨rfl, by decide, ?_⟩
  show Rn K M.h (t__law_paid K) [some (.v (.ref b)), some (.d (.int p)), some (.d (.int m)), some (.d (.bool f)), none, none, none, none, none] M H _
  refine r_seq (r_asg (ev_var rfl) fun H1 x1 => ?_)
  dsimp only [List.set]
  refine r_seq (r_asg (ev_parts_of (ev_var rfl) (ev_var rfl) m1 m2) fun H2 x2 => ?_)
  dsimp only [List.set]
  have wl := parts_len p m m1
  refine r_seq (r_for (ei_rng1 (n := m) (by walk_at "dl_ev") (by omega) (by omega)) (fun i ρ' H' => Bx H' b (n + i) ∧ ∃ (l : Int) (u v w : Option Sl), ρ' = [some (.v (.ref b)), some (.d (.int p)), some (.d (.int m)), some (.d (.bool f)), some (.d (.int l)), some (.d (.list ((partsOf p m).map .int))), u, v, w] ∧ 0 ≤ l ∧ l ≤ 1000000000 ∧ ((i : Int) = m → l = 0) ∧ ((i : Int) < m → f = false → partsOf l (m - i) = (partsOf p m).drop i)) (fun H3 x3 => ⟨(hb.x (x1.trans (x2.trans x3))), p, _, _, _, rfl, p0, p1, fun e => by omega, fun _ _ => by simp⟩) ?_ ?_)
  · rintro i d ρ' H3 hd ⟨b3, l, u, v, w, rfl, l0, l1, _, le⟩ g3 md3
    refine ⟨_, tg_name, fun H4 x4 => ?_⟩
    obtain ⟨hi, rfl⟩ : (i : Int) < m ∧ d = .int (i : Int) := by
      rw [List.getElem?_map] at hd
      by_cases hi : i < m.toNat
      · rw [List.getElem?_range hi] at hd
        exact ⟨by omega, by have := (Option.some.inj hd).symm; rw [this]; show PyData.int (0 + (i : Int)) = _; rw [Int.zero_add]⟩
      · rw [List.getElem?_eq_none (by simpa using hi)] at hd; cases hd
    dsimp only [List.set]
    have le := le hi
    obtain ⟨z, hz, z0, z1, zl, zs⟩ := parts_step l (m - i) (by omega) l0
    have ll := parts_len l (m - i) (by omega)
    have ls := parts_sum l (m - i) (by omega)
    refine r_seq (r_asgN (ss := [.d (.int l), .d (.int (m - i))]) (ea_cons (ev_var rfl) (ea_cons (ev_bin (ev_var rfl) (ev_var rfl) g_sub) ea_nil)) fun H5 x5 => ⟨l, m - i, rfl, by omega, by omega, .inr fun q H6 qn x6 q6 _ => ?_⟩)
    have qn4 : H4 q = none := fresh_back x5 qn
    refine ⟨q, _, rfl, qn4, q6, ?_⟩
    dsimp only [List.set]
    have qb : q ≠ b := fun e => by
      obtain ⟨o, ho⟩ := (b3.x x4).some
      rw [e, ho] at qn4; cases qn4
    have la : LAt K (M.add q) H6 q ((partsOf l (m - i)).map .int) := ⟨List.mem_cons_self, _, q6, Das.of_ints _⟩
    have b6 := b3.x (x4.trans (x5.trans x6))
    refine r_seq (r_ifF (b := (!decide (((List.map PyData.int (partsOf l (m - i))).length : Int) = m - i)) || ((!decide ((partsOf l (m - i)).sum = l)) || (!f && !decide (partsOf l (m - i) = (partsOf p m).drop i)))) ?_ ?_ fun H7 x7 => r_next ?_)
    · refine eb_rdL (i := 7) rfl la ?_
      dsimp only [List.set]
      refine eb_orU (by walk_at "dl_ev") (eb_orU (by walk_at "dl_ev") (eb_andU (by walk_at "dl_ev") (eb_test (ev_bin (ev_var rfl) (ev_sl (z := .list (((partsOf p m).drop i).map .int)) (ev_var rfl) (eo_some (ev_var rfl)) eo_none ?_) g_neL))))
      show _ = _
      rw [cut_from _ _ (by rw [List.length_map]; omega) (by rw [List.length_map]; omega), List.map_drop]
    · rw [List.length_map, ll, ls]
      cases f with
      | true => simp
      | false => rw [le rfl]; simp
    have la7 := la.x x7
    refine r_seq (r_asg (s := .d (.int z)) (ev_rdL (i := 7) rfl la7 ?_ rfl) fun H8 x8 => ?_)
    · walk_at "dl_ev"
      exact g_ixL (atI_map hz)
    dsimp only [List.set]
    have la8 := la7.x x8
    refine r_seq (r_clear (i := 7) (p := q) rfl la8 fun H9 g9 la9 o9 => ?_)
    have b9 : Bx H9 b (n + i) := (b6.x (x7.trans x8)).same (o9 b (Ne.symm qb))
    refine r_seq (r_asg (ev_bin (ev_var rfl) (ev_var rfl) g_sub) fun H10 x10 => ?_)
    dsimp only [List.set]
    have nxt : ∀ l' : Int, 0 ≤ l' → l' ≤ l - z → (f = false → l' = l - z) → (((i + 1 : Nat) : Int) = m → l' = 0) ∧ (((i + 1 : Nat) : Int) < m → f = false → partsOf l' (m - ((i + 1 : Nat) : Int)) = (partsOf p m).drop (i + 1)) := by
      intro l' a1 a2 a3
      refine ⟨fun e => ?_, fun e ef => ?_⟩
      · have := zl (by omega); omega
      · rw [a3 ef]
        have h1 := zs (by omega)
        have h2 := le ef
        rw [h1] at h2
        have h3 := congrArg List.tail h2
        rw [List.tail_cons, List.tail_drop] at h3
        rw [← h3]
        congr 1
        omega
    have hs : ∀ a, a ∈ M.h → a ∈ (M.add q).h := fun a s => List.mem_cons.mpr (.inr s)
    refine r_ifE (eeb_p (b := f && decide ((i : Int) % 2 = 0)) ?_ fun H11 x11 => ?_)
    · exact eb_andU (by walk_at "dl_ev") (by walk_at "dl_ev"; decide)
    split
    · rename_i ht
      refine r_asgE (ee_bin (ee_var rfl ⟨_, rfl, ee_take (m := l - z + 1) rfl (List.mem_cons.mpr (.inr hw)) ((b9.x x10).x x11) (by omega) (ee_pure (ev_bin (ev_var rfl) ev_int g_add)) (by omega) (by omega) fun r H12 r0 r1 g12 _ b12 => ⟨_, _, rfl, g_sub, fun H13 x13 => ?_⟩⟩))
      dsimp only [List.set]
      have := nxt (l - z - r) (by omega) (by omega) (fun e => by subst e; cases ht)
      exact ⟨hs, b12.x x13, l - z - r, _, _, _, rfl, by omega, by omega, this⟩
    · have := nxt (l - z) (by omega) (by omega) (fun e => rfl)
      exact r_next ⟨hs, (((b9.x x10).x x11)).mono (by omega), l - z, _, _, _, rfl, by omega, by omega, this⟩
  · rintro ρ' H3 ⟨b3, l, u, v, w, rfl, l0, l1, le, _⟩ g3
    rw [List.length_map, List.length_range] at b3 le
    have e := le (by omega)
    subst e
    refine r_ret (s := .d (.bool true)) (EvD.is (ev_andU (ev_bin (ev_var rfl) ev_int g_eq) (ev_bin (ev_cb (ead_cons (ev_var rfl) ead_nil) g_sum) (ev_var rfl) g_eq)) ?_) fun H4 x4 => k _ ?_ ?_
    · rw [parts_sum p m m1]; simp
    · exact (x1.trans x2).go.trans (g3.trans x4.go)
    · exact (b3.x x4).mono (by omega)
def t_law (K : Fg) : TS := (tSeq (tFor (iRng1 (tCons (tOp (rB K AddD) (tC (.int 1)) (tCB (rC K Min2D) (tCons (tC (.int 6)) (tCons (tCB (rC K LenD) (tCons (tVar 0) tNil)) tNil)))) tNil)) (gName 1) (tSeq (tAsg (tCall (spG K pm__law_box) [] E0 (tCons (tVar 0) (tCons (tVar 1) tNil))) (gName 2))
    (tFor (iRng1 (tCons (tC (.int 6)) tNil)) (gName 3) (tSeq (tAsg (tOp (rB K IxD) (tLst (tCons (tCall (spG K pm__law_take) [] E0 (tCons (tVar 2) (tCons (tC (.int 40)) tNil))) (tCons (tCall (spG K pm__law_take) [] E0 (tCons (tVar 2) (tCons (tOp (rB K AddD) (tOp (rB K PowD) (tC (.int 10)) (tC (.int 6))) (tC (.int 1))) tNil))) (tCons (tCall (spG K pm__law_take) [] E0 (tCons (tVar 2) (tCons (tOp (rB K AddD) (tOp (rB K PowD) (tC (.int 10)) (tC (.int 9))) (tC (.int 1))) tNil))) tNil)))) (tCall (spG K pm__law_take) [] E0 (tCons (tVar 2) (tCons (tC (.int 3)) tNil)))) (gName 4))
    (tSeq (tAsg (tTup (tCons (tOp (rB K IxD) (tLst (tCons (tC (.int 12)) (tCons (tOp (rB K AddD) (tC (.int 1)) (tCall (spG K pm__law_take) [] E0 (tCons (tVar 2) (tCons (tC (.int 12)) tNil)))) tNil))) (tCall (spG K pm__law_take) [] E0 (tCons (tVar 2) (tCons (tC (.int 2)) tNil)))) (tCons (tCall (spG K pm__law_take) [] E0 (tCons (tVar 2) (tCons (tC (.int 101)) tNil))) tNil))) (gNames K [5, 6]))
    (tSeq (tIfS (tNot (tB (tCall (spG K pm__law_paid) [] E0 (tCons (tVar 2) (tCons (tVar 4) (tCons (tVar 5) (tCons (tOp (rB K EqD) (tCall (spG K pm__law_take) [] E0 (tCons (tVar 2) (tCons (tC (.int 3)) tNil))) (tC (.int 0))) tNil))))))) (tRet (tC (.bl false))) tNext)
    (tSeq (tAsg (tCB (rC K SumD) (tCons (tLc (iSeq K (tCall (spG K pm_parts_of) [] E0 (tCons (tVar 4) (tCons (tVar 5) tNil)))) (gName 7) tYes (tCall (spG K pm_share_up) [] E0 (tCons (tVar 7) (tCons (tVar 6) tNil))) [7]) tNil)) (gName 8))
    (tIfS (tNot (tTest (tChain (rB K LeD) (rB K LtD) (tC (.int 0)) (tOp (rB K SubD) (tVar 8) (tCall (spG K pm_share_up) [] E0 (tCons (tVar 4) (tCons (tVar 6) tNil)))) (tVar 5)))) (tRet (tC (.bl false))) tNext))))))))
    (tRet (tC (.bl true))))
def N_law : List Str := ["_law_script", "_law_k", "_law_box_here", "_law_turn", "_law_pence", "_law_many", "_law_percent", "_law_part", "_law_told"]
theorem share_sum (c : Int) (h0 : 0 ≤ c) : ∀ xs : List Int, xs.sum * c ≤ 100 * (xs.map fun x => shareUp x c).sum ∧ 100 * (xs.map fun x => shareUp x c).sum ≤ xs.sum * c + 99 * xs.length
  | [] => by simp
  | x :: xs => by
    have ih := share_sum c h0 xs
    rw [List.map_cons, List.sum_cons, List.sum_cons, List.length_cons, Int.add_mul]
    have e : shareUp x c = -(-(x * c) / 100) := by unfold shareUp; rw [Int.neg_mul]
    rw [e]
    generalize x * c = y at *
    generalize xs.sum * c = w at *
    generalize (xs.map fun x => shareUp x c).sum = v at *
    omega
def pm_law : Pm := fun ss M H R => ∃ ns : List Int, ss = [.d (.list (ns.map .int))] ∧ ns.length ≤ 63 ∧ ∀ H', R (.d (.bool true)) H'
theorem parts_mem {p q x : Int} (h1 : 1 ≤ q) (hp : 0 ≤ p) (h : x ∈ partsOf p q) : 0 ≤ x ∧ x ≤ p + 1 := by
  have d0 : 0 ≤ p / q := Int.ediv_nonneg hp (by omega)
  have d1 : p / q ≤ p := Int.ediv_le_self _ hp
  unfold partsOf at h
  rcases List.mem_append.mp h with k | k <;> rw [(List.mem_replicate.mp k).2] <;> omega
theorem sem_law (K : Fg) : Sem K N_law 1 pm_law (t_law K) := by
  rintro M ss H R m ⟨ns, rfl, hl, k⟩
  refine ⟨rfl, by decide, ?_⟩
  show Rn K M.h (t_law K) [some (.d (.list (ns.map .int))), none, none, none, none, none, none, none, none] M H _
  refine r_seq (r_for (ei_rng1 (n := 1 + min 6 ((ns.map PyData.int).length : Int)) (by walk_at "dl_ev") (by omega) (by omega)) (fun i ρ' H' => ∃ a b c d e f g h, ρ' = [some (.d (.list (ns.map .int))), a, b, c, d, e, f, g, h]) (fun _ _ => ⟨_, _, _, _, _, _, _, _, rfl⟩) ?_ fun ρ' H' ⟨a, b, c, d, e, f, g, h, hh⟩ _ => ?_)
  · rintro i d ρ' H' hd ⟨a, b, c, d', e, f, g, h, rfl⟩ g1 m1
    refine ⟨_, tg_name, fun H2 x2 => ?_⟩
    obtain ⟨j, hj, rfl⟩ : ∃ j : Nat, j < 10 ∧ d = .int (0 + (j : Int)) := by
      rw [List.getElem?_map] at hd
      by_cases hi : i < (1 + min 6 ((ns.map PyData.int).length : Int)).toNat
      · rw [List.getElem?_range hi] at hd
        exact ⟨i, by omega, (Option.some.inj hd).symm⟩
      · rw [List.getElem?_eq_none (by simpa using hi)] at hd; cases hd
    dsimp only [List.set]
    refine r_seq (r_asgN (ss := [.d (.list (ns.map .int)), .d (.int (0 + (j : Int)))]) (by walk_at "dl_ev") fun H3 x3 => ⟨ns, _, rfl, hl, by omega, by omega, fun p H4 hp x4 b4 _ => ?_⟩)
    obtain ⟨o, ho⟩ := b4.some
    refine ⟨p, o, rfl, fresh_back x3 hp, ho, ?_⟩
    dsimp only [List.set]
    have hw : p ∈ (M.add p).w := List.mem_cons_self
    refine r_for (ei_rng1 (n := 6) (by walk_at "dl_ev") (by decide) (by decide)) (fun i ρ' H' => Bx H' p (20 * i) ∧ ∃ a c d e f g h, ρ' = [some (.d (.list (ns.map .int))), a, some (.v (.ref p)), c, d, e, f, g, h]) (fun H5 x5 => ⟨b4.x x5, _, _, _, _, _, _, _, rfl⟩) ?_ fun ρ' H' ⟨_, a, c, d, e, f, g, h, hh⟩ _ => ⟨fun a q => List.mem_cons.mpr (.inr q), _, _, _, _, _, _, _, _, hh⟩
    rintro i2 d2 ρ2 H5 hd2 ⟨b5, a, c, d, e, f, g, h, rfl⟩ g5 m5
    refine ⟨_, tg_name, fun H6 x6 => ?_⟩
    have hi2 : i2 < 6 := by
      have := (List.getElem?_eq_some_iff.mp hd2).1
      simpa using this
    dsimp only [List.set]
    have e6 : (10 : Int) ^ (6 : Int).toNat = 1000000 := by decide
    have e9 : (10 : Int) ^ (9 : Int).toNat = 1000000000 := by decide
    -- the sum
    refine r_seq (r_asgE (ee_bin (ee_lst (eea_cons (ee_take rfl hw (b5.x x6) (by omega) ee_const (by decide) (by decide) fun r1 H7 r10 r11 _ _ b7 => ?_)))))
    refine eea_cons (ee_take (m := 10 ^ (6 : Int).toNat + 1) rfl hw b7 (by omega) (ee_pure (by walk_at "dl_ev"; exact ⟨by decide, by decide, by decide⟩)) (by decide) (by decide) fun r2 H8 r20 r21 _ _ b8 => ?_)
    refine eea_cons (ee_take (m := 10 ^ (9 : Int).toNat + 1) rfl hw b8 (by omega) (ee_pure (by walk_at "dl_ev"; exact ⟨by decide, by decide, by decide⟩)) (by decide) (by decide) fun r3 H9 r30 r31 _ _ b9 => ?_)
    rw [e6] at r21
    rw [e9] at r31
    refine eea_nil ⟨[_, _, _], rfl, Nat.le_of_ble_eq_true rfl, fun H10 x10 => ⟨_, rfl, ?_⟩⟩
    refine ee_take rfl hw (b9.x x10) (by omega) ee_const (by decide) (by decide) fun y H11 y0 y1 _ _ b11 => ?_
    obtain ⟨z, hz, mz⟩ := atI_mem (xs := ([r1, r2, r3] : List Int)) (i := y) y0 (by simpa using y1)
    have hz1 : 0 ≤ z ∧ z ≤ 1000000000 := by
      simp only [List.mem_cons, List.not_mem_nil, or_false] at mz
      omega
    refine ⟨_, _, rfl, g_ixL (atI_map (f := PyData.int) hz), fun H12 x12 => ?_⟩
    dsimp only [List.set]
    -- the parts, the percent
    refine r_seq (r_asgTE (ee_tup (eea_cons (ee_bin (ee_lst (eea_cons (ee_int (eea_cons (ee_bin (ee_int ⟨_, rfl, ee_take rfl hw (b11.x x12) (by omega) ee_const (by decide) (by decide) fun u H13 u0 u1 _ _ b13 => ⟨_, _, rfl, g_add, fun H14 x14 => ?_⟩⟩))))))))))
    refine eea_nil ⟨[_, _], rfl, Nat.le_of_ble_eq_true rfl, fun H15 x15 => ⟨_, rfl, ?_⟩⟩
    refine ee_take rfl hw (b13.x (x14.trans x15)) (by omega) ee_const (by decide) (by decide) fun y2 H16 y20 y21 _ _ b16 => ?_
    obtain ⟨q, hq, mq⟩ := atI_mem (xs := ([12, 1 + u] : List Int)) (i := y2) y20 (by simpa using y21)
    have hq1 : 1 ≤ q ∧ q ≤ 12 := by
      simp only [List.mem_cons, List.not_mem_nil, or_false] at mq
      omega
    refine ⟨_, _, rfl, g_ixL (atI_map (f := PyData.int) hq), fun H17 x17 => ?_⟩
    refine eea_cons (ee_take rfl hw (b16.x x17) (by omega) ee_const (by decide) (by decide) fun w H18 w0 w1 _ _ b18 => ?_)
    refine eea_nil ⟨[_, _], rfl, Nat.le_of_ble_eq_true rfl, fun H19 x19 => ⟨[.int q, .int w], rfl, rfl, ?_⟩⟩
    dsimp only [List.zip, List.zipWith, List.foldl, List.set]
    -- paid one by one
    refine r_seq (r_ifE (eeb_not (eeb_B (ee_call [p] (fun a q => by rw [List.mem_singleton] at q; exact q ▸ hw) (eea_cons (ee_var rfl (eea_cons (ee_var rfl (eea_cons (ee_var rfl (eea_cons (ee_bin (ee_take rfl (List.mem_cons_self) (b18.x x19) (by omega) ee_const (by decide) (by decide) fun v H20 v0 v1 _ _ b20 => ⟨_, rfl, ee_int ⟨_, _, rfl, g_eq, fun H21 x21 => ?_⟩⟩)))))))))))))
    refine eea_nil ⟨p, _, z, q, decide (v = 0), rfl, List.mem_singleton.mpr rfl, b20.x x21, by omega, hz1.1, hz1.2, hq1.1, hq1.2, fun H22 g22 b22 _ => ⟨true, rfl, ?_⟩⟩
    refine r_next ?_
    have tot := share_sum w w0 (partsOf z q)
    rw [parts_sum z q hq1.1, parts_len z q hq1.1] at tot
    have lq := parts_len z q hq1.1
    refine r_seq (r_asg (s := .d (.int ((partsOf z q).map fun x => shareUp x w).sum)) (ev_cb (ead_cons (ev_lcI (enc := .int) (fun x => shareUp x w) (ei_list (ev_parts_of (ev_var rfl) (ev_var rfl) hq1.1 hq1.2)) (by omega) fun i x hx => ⟨_, tc_name, fun N H' s x' => ?_⟩) ead_nil) g_sum) fun H23 x23 => ?_)
    · have := parts_mem hq1.1 hz1.1 (List.mem_of_getElem? hx)
      exact ev_share_up (ev_var rfl) (ev_var rfl) ⟨this.1, by omega⟩ ⟨w0, by omega⟩
    dsimp only [List.set]
    refine r_ifF (eb_not (eb_test (ev_chainU ev_int (ev_bin (ev_var rfl) (ev_share_up (ev_var rfl) (ev_var rfl) ⟨hz1.1, by omega⟩ ⟨w0, by omega⟩) g_sub) (ev_var rfl) g_le g_lt))) ?_ fun H24 x24 => r_next ⟨fun a q => q, (b22.mono (by omega)).x (x23.trans x24), _, _, _, _, _, _, _, rfl⟩
    have e : shareUp z w = -(-(z * w) / 100) := by unfold shareUp; rw [Int.neg_mul]
    rw [e]
    generalize z * w = y at *
    generalize ((partsOf z q).map fun x => shareUp x w).sum = v at *
    simp only [Bool.not_eq_false', Bool.and_eq_true, decide_eq_true_eq]
    omega
  · subst hh
    exact r_ret ev_bl fun H1 x1 => k H1
end DL

namespace KL
open PySem L2 DL
def top (i : Nat) : Stmt := PySem.Challenge.pw_partwares_k05_parts_paid_down.main.body.getD i (.Pass ⟨0, 0, 0, 0⟩)
abbrev s_parts_of : Stmt := top 2
abbrev s_share_up : Stmt := top 3
abbrev s__law_box : Stmt := top 5
abbrev s__law_take : Stmt := top 6
abbrev s__law_paid : Stmt := top 7
abbrev s_law : Stmt := top 8
theorem sc_parts_of : FnScope N_parts_of ["pence", "many"] (defScope s_parts_of) := ⟨rfl, rfl, rfl, by decide +kernel, rfl, by decide +kernel, by decide +kernel⟩
theorem sc_share_up : FnScope N_share_up ["pence", "percent"] (defScope s_share_up) := ⟨rfl, rfl, rfl, by decide +kernel, rfl, by decide +kernel, by decide +kernel⟩
theorem sc__law_box : FnScope N__law_box ["_law_script", "_law_k"] (defScope s__law_box) := ⟨rfl, rfl, rfl, by decide +kernel, rfl, by decide +kernel, by decide +kernel⟩
theorem sc__law_take : FnScope N__law_take ["_law_box_here", "_law_many"] (defScope s__law_take) := ⟨rfl, rfl, rfl, by decide +kernel, rfl, by decide +kernel, by decide +kernel⟩
theorem sc__law_paid : FnScope N__law_paid ["_law_box_here", "_law_pence", "_law_many", "_law_falls"] (defScope s__law_paid) := ⟨rfl, rfl, rfl, by decide +kernel, rfl, by decide +kernel, by decide +kernel⟩
theorem sc_law : FnScope N_law ["_law_script"] (defScope s_law) := ⟨rfl, rfl, rfl, by decide +kernel, rfl, by decide +kernel, by decide +kernel⟩
structure Tx (K : Fg) (mg : Str → Option Value) where
  n_divmod : mg "divmod" = none
  n_len : mg "len" = none
  n_abs : mg "abs" = none
  n_int : mg "int" = none
  n_range : mg "range" = none
  n_sum : mg "sum" = none
  n_min : mg "min" = none
  k_HUNDRED : Tok
  c_HUNDRED : mg "HUNDRED" = some (.int 100 k_HUNDRED)
  a_parts_of : Addr
  d_parts_of : FuncData
  m_parts_of : mg "parts_of" = some (.ref a_parts_of)
  F_parts_of : Fun K "parts_of" "parts_of" s_parts_of a_parts_of d_parts_of
  b_parts_of : Binds K d_parts_of ["pence", "many"] []
  a_share_up : Addr
  d_share_up : FuncData
  m_share_up : mg "share_up" = some (.ref a_share_up)
  F_share_up : Fun K "share_up" "share_up" s_share_up a_share_up d_share_up
  b_share_up : Binds K d_share_up ["pence", "percent"] []
  a__law_box : Addr
  d__law_box : FuncData
  m__law_box : mg "_law_box" = some (.ref a__law_box)
  F__law_box : Fun K "_law_box" "_law_box" s__law_box a__law_box d__law_box
  b__law_box : Binds K d__law_box ["_law_script", "_law_k"] []
  a__law_take : Addr
  d__law_take : FuncData
  m__law_take : mg "_law_take" = some (.ref a__law_take)
  F__law_take : Fun K "_law_take" "_law_take" s__law_take a__law_take d__law_take
  b__law_take : Binds K d__law_take ["_law_box_here", "_law_many"] []
  a__law_paid : Addr
  d__law_paid : FuncData
  m__law_paid : mg "_law_paid" = some (.ref a__law_paid)
  F__law_paid : Fun K "_law_paid" "_law_paid" s__law_paid a__law_paid d__law_paid
  b__law_paid : Binds K d__law_paid ["_law_box_here", "_law_pence", "_law_many", "_law_falls"] []
  a_law : Addr
  d_law : FuncData
  m_law : mg "law" = some (.ref a_law)
  F_law : Fun K "law" "law" s_law a_law d_law
  b_law : Binds K d_law ["_law_script"] []
section
variable {P : Program} {w : World} {K : Fg} {mg : Str → Option Value} {base : Heap}
theorem ok_parts_of (T : Tx K mg) : FnOk P w K mg base CX0 1 T.a_parts_of T.d_parts_of ["pence", "many"] (spG K pm_parts_of) := by
  refine mk_ok (k := 0) T.F_parts_of sc_parts_of (sem_parts_of K) (fun cdv A' outer s H E hr => ?_)
  have nd : N_parts_of.Nodup := sc_parts_of.nd
  exact (pss_cons (ps_asg (pe_callB call_divmodD (by rfl) T.n_divmod (by decide +kernel) (pa_cons (pv 0) (pa_cons (pv 1) pa_nil))) (pg_tup rfl (pgs_cons (pg_name (i := 2) nd rfl (Or.inl rfl)) (pgs_cons (pg_name (i := 3) nd rfl (Or.inl rfl)) pgs_nil))))
      (pss_one (ps_ret (pe_op op_catR (pe_op op_mulD (pe_lst (pa_cons (pe_op op_addD (pv 2) pe_int) pa_nil)) (pv 3)) (pe_op op_mulD (pe_lst (pa_cons (pv 2) pa_nil)) (pe_op op_subD (pv 1) (pv 3)))))))
theorem ok_share_up (T : Tx K mg) : FnOk P w K mg base CX0 1 T.a_share_up T.d_share_up ["pence", "percent"] (spG K pm_share_up) := by
  refine mk_ok (k := 0) T.F_share_up sc_share_up (sem_share_up K) (fun cdv A' outer s H E hr => ?_)
  have nd : N_share_up.Nodup := sc_share_up.nd
  exact (pss_one (ps_ret (pe_un un_negDD (pe_op op_divD (pe_op op_mulD (pe_un un_negDD (pv 0)) (pv 1)) (pe_glob rfl T.c_HUNDRED ⟨_, rfl⟩)))))
theorem ok__law_box (T : Tx K mg) : FnOk P w K mg base CX0 1 T.a__law_box T.d__law_box ["_law_script", "_law_k"] (spG K pm__law_box) := by
  refine mk_ok (k := 0) T.F__law_box sc__law_box (sem__law_box K) (fun cdv A' outer s H E hr => ?_)
  have nd : N__law_box.Nodup := sc__law_box.nd
  exact (pss_cons (ps_set (i := 2) nd rfl (Or.inl rfl) pe_int)
      (pss_cons (ps_if (pt_cmpR op_ltD (pv 1) (pe_callB call_lenD (by rfl) T.n_len (by decide +kernel) (pa_cons (pv 0) pa_nil)) (nomark _)) (pss_one (ps_set (i := 2) nd rfl (Or.inl rfl) (pe_ix ix_D (pv 0) (pv 1) (fun _ _ => rfl)))) pss_nil)
      (pss_one (ps_ret (pe_lst (pa_cons (pe_op op_mulD (pe_callB call_absD (by rfl) T.n_abs (by decide +kernel) (pa_cons (pv 2) pa_nil)) (pe_callTy call_intD (by rfl) T.n_int (by decide +kernel) (pa_cons (pe_cmpR op_geD (pe_callB call_absD (by rfl) T.n_abs (by decide +kernel) (pa_cons (pv 2) pa_nil)) (pe_op op_powD pe_int pe_int) (nomark _)) pa_nil))) (pa_cons (pe_op op_addD (pe_op op_addD (pe_op op_modD (pv 2) pe_int) (pe_op op_mulD pe_int (pv 1))) pe_int) (pa_cons pe_int pa_nil))))))))
theorem ok__law_take (T : Tx K mg) : FnOk P w K mg base CX0 1 T.a__law_take T.d__law_take ["_law_box_here", "_law_many"] (spG K pm__law_take) := by
  refine mk_ok (k := 0) T.F__law_take sc__law_take (sem__law_take K) (fun cdv A' outer s H E hr => ?_)
  have nd : N__law_take.Nodup := sc__law_take.nd
  exact (pss_cons (ps_if (pt_cmpR op_gtD (pe_ix ix_D (pv 0) pe_int (fun _ _ => rfl)) pe_int (nomark _)) (pss_cons (ps_set (i := 2) nd rfl (Or.inl rfl) (pe_op op_modD (pe_ix ix_D (pv 0) pe_int (fun _ _ => rfl)) (pv 1)))
      (pss_cons (ps_asg (pe_op op_divD (pe_ix ix_D (pv 0) pe_int (fun _ _ => rfl)) (pv 1)) (pg_sub (pv 0) pe_int set_list))
      (pss_one (ps_ret (pv 2))))) pss_nil)
      (pss_cons (ps_asg (pe_op op_addD (pe_ix ix_D (pv 0) pe_int (fun _ _ => rfl)) pe_int) (pg_sub (pv 0) pe_int set_list))
      (pss_cons (ps_set (i := 3) nd rfl (Or.inl rfl) (pe_op op_modD (pe_op op_powD (pe_op op_addD (pe_ix ix_D (pv 0) pe_int (fun _ _ => rfl)) (pe_op op_mulD pe_int (pe_ix ix_D (pv 0) pe_int (fun _ _ => rfl)))) pe_int) pe_int))
      (pss_one (ps_ret (pe_op op_modD (pe_op op_divD (pe_op op_modD (pe_op op_addD (pe_op op_mulD (pv 3) (pe_op op_addD (pe_op op_modD (pv 3) pe_int) pe_int)) (pe_op op_mulD (pe_ix ix_D (pv 0) pe_int (fun _ _ => rfl)) pe_int)) pe_int) pe_int) (pv 1)))))))
theorem ok__law_paid (T : Tx K mg) : FnOk P w K mg base CX0 2 T.a__law_paid T.d__law_paid ["_law_box_here", "_law_pence", "_law_many", "_law_falls"] (spG K pm__law_paid) := by
  have G_parts_of := ok_parts_of (P := P) (w := w) (base := base) T
  have G__law_take := ok__law_take (P := P) (w := w) (base := base) T
  refine mk_ok (k := 1) T.F__law_paid sc__law_paid (sem__law_paid K) (fun cdv A' outer s H E hr => ?_)
  have nd : N__law_paid.Nodup := sc__law_paid.nd
  exact (pss_cons (ps_set (i := 4) nd rfl (Or.inl rfl) (pv 1))
      (pss_cons (ps_set (i := 5) nd rfl (Or.inl rfl) (pe_call G_parts_of (hr.mono (by decide)) rfl T.m_parts_of T.F_parts_of.kp T.b_parts_of .nil pass0 (pa_cons (pv 1) (pa_cons (pv 2) pa_nil))))
      (pss_cons (ps_for PassesOwn.never rfl (pi_range1 rfl T.n_range (pa_cons (pv 2) pa_nil)) (pg_name (i := 6) nd rfl (Or.inl rfl)) (pss_cons (ps_set (i := 7) nd rfl (Or.inl rfl) (pe_call G_parts_of (hr.mono (by decide)) rfl T.m_parts_of T.F_parts_of.kp T.b_parts_of .nil pass0 (pa_cons (pv 4) (pa_cons (pe_op op_subD (pv 2) (pv 6)) pa_nil))))
      (pss_cons (ps_if (PW.pt (pw_or (pt_cmpR (op_neDD (u64 hr)) (pe_callB call_lenD (by rfl) T.n_len (by decide +kernel) (pa_cons (pv 7) pa_nil)) (pe_op op_subD (pv 2) (pv 6)) (nomark _)) (pw_or (pt_cmpR (op_neDD (u64 hr)) (pe_callB (call_sumD rfl) (by rfl) T.n_sum (by decide +kernel) (pa_cons (pv 7) pa_nil)) (pv 4) (nomark _)) (pw_or1 (PW.pt (pw_and (pt_not (pt_val (pv 3))) (pw_and1 (pt_cmpR (op_neDD (u64 hr)) (pv 7) (pe_slice sl_D (pv 5) (po_some (pv 6)) po_none) (nomark _))))))))) (pss_one (ps_ret pe_bl)) pss_nil)
      (pss_cons (ps_set (i := 8) nd rfl (Or.inl rfl) (pe_ix ix_D (pv 7) pe_int (fun _ _ => rfl)))
      (pss_cons (ps_expr (pe_bm0 PySem.F.plainAttrs_list PySem.F.slot_list_clear PySem.F.type_list_clear mt_clear (pv 7)))
      (pss_cons (ps_set (i := 4) nd rfl (Or.inl rfl) (pe_op op_subD (pv 4) (pv 8)))
      (pss_one (ps_if (PW.pt (pw_and (pt_val (pv 3)) (pw_and1 (pt_cmpR (op_eqDD (u64 hr)) (pe_op op_modD (pv 6) pe_int) pe_int (nomark _))))) (pss_one (ps_set (i := 4) nd rfl (Or.inl rfl) (pe_op op_subD (pv 4) (pe_call G__law_take (hr.mono (by decide)) rfl T.m__law_take T.F__law_take.kp T.b__law_take .nil pass0 (pa_cons (pv 0) (pa_cons (pe_op op_addD (pv 4) pe_int) pa_nil)))))) pss_nil))))))))
      (pss_one (ps_ret (pe_and (pe_cmpR (op_eqDD (u64 hr)) (pv 4) pe_int (nomark _)) (pe_one (pe_cmpR (op_eqDD (u64 hr)) (pe_callB (call_sumD rfl) (by rfl) T.n_sum (by decide +kernel) (pa_cons (pv 5) pa_nil)) (pv 1) (nomark _)))))))))
theorem ok_law (T : Tx K mg) : FnOk P w K mg base CX0 3 T.a_law T.d_law ["_law_script"] (spG K pm_law) := by
  have G__law_box := ok__law_box (P := P) (w := w) (base := base) T
  have G__law_take := ok__law_take (P := P) (w := w) (base := base) T
  have G__law_paid := ok__law_paid (P := P) (w := w) (base := base) T
  have G_parts_of := ok_parts_of (P := P) (w := w) (base := base) T
  have G_share_up := ok_share_up (P := P) (w := w) (base := base) T
  refine mk_ok (k := 2) T.F_law sc_law (sem_law K) (fun cdv A' outer s H E hr => ?_)
  have nd : N_law.Nodup := sc_law.nd
  exact (pss_cons (ps_for PassesOwn.never rfl (pi_range1 rfl T.n_range (pa_cons (pe_op op_addD pe_int (pe_callB (call_min2D rfl) (by rfl) T.n_min (by decide +kernel) (pa_cons pe_int (pa_cons (pe_callB call_lenD (by rfl) T.n_len (by decide +kernel) (pa_cons (pv 0) pa_nil)) pa_nil)))) pa_nil)) (pg_name (i := 1) nd rfl (Or.inl rfl)) (pss_cons (ps_set (i := 2) nd rfl (Or.inl rfl) (pe_call G__law_box (hr.mono (by decide)) rfl T.m__law_box T.F__law_box.kp T.b__law_box .nil pass0 (pa_cons (pv 0) (pa_cons (pv 1) pa_nil))))
      (pss_one (ps_for PassesOwn.never rfl (pi_range1 rfl T.n_range (pa_cons pe_int pa_nil)) (pg_name (i := 3) nd rfl (Or.inl rfl)) (pss_cons (ps_set (i := 4) nd rfl (Or.inl rfl) (pe_ix ix_D (pe_lst (pa_cons (pe_call G__law_take (hr.mono (by decide)) rfl T.m__law_take T.F__law_take.kp T.b__law_take .nil pass0 (pa_cons (pv 2) (pa_cons pe_int pa_nil))) (pa_cons (pe_call G__law_take (hr.mono (by decide)) rfl T.m__law_take T.F__law_take.kp T.b__law_take .nil pass0 (pa_cons (pv 2) (pa_cons (pe_op op_addD (pe_op op_powD pe_int pe_int) pe_int) pa_nil))) (pa_cons (pe_call G__law_take (hr.mono (by decide)) rfl T.m__law_take T.F__law_take.kp T.b__law_take .nil pass0 (pa_cons (pv 2) (pa_cons (pe_op op_addD (pe_op op_powD pe_int pe_int) pe_int) pa_nil))) pa_nil)))) (pe_call G__law_take (hr.mono (by decide)) rfl T.m__law_take T.F__law_take.kp T.b__law_take .nil pass0 (pa_cons (pv 2) (pa_cons pe_int pa_nil))) (fun _ _ => rfl)))
      (pss_cons (ps_asg (pe_tup (pa_cons (pe_ix ix_D (pe_lst (pa_cons pe_int (pa_cons (pe_op op_addD pe_int (pe_call G__law_take (hr.mono (by decide)) rfl T.m__law_take T.F__law_take.kp T.b__law_take .nil pass0 (pa_cons (pv 2) (pa_cons pe_int pa_nil)))) pa_nil))) (pe_call G__law_take (hr.mono (by decide)) rfl T.m__law_take T.F__law_take.kp T.b__law_take .nil pass0 (pa_cons (pv 2) (pa_cons pe_int pa_nil))) (fun _ _ => rfl)) (pa_cons (pe_call G__law_take (hr.mono (by decide)) rfl T.m__law_take T.F__law_take.kp T.b__law_take .nil pass0 (pa_cons (pv 2) (pa_cons pe_int pa_nil))) pa_nil))) (pg_tup rfl (pgs_cons (pg_name (i := 5) nd rfl (Or.inl rfl)) (pgs_cons (pg_name (i := 6) nd rfl (Or.inr rfl)) pgs_nil))))
      (pss_cons (ps_if (pt_not (pt_val (pe_call G__law_paid (hr.mono (by decide)) rfl T.m__law_paid T.F__law_paid.kp T.b__law_paid .nil pass0 (pa_cons (pv 2) (pa_cons (pv 4) (pa_cons (pv 5) (pa_cons (pe_cmpR (op_eqDD (u64 hr)) (pe_call G__law_take (hr.mono (by decide)) rfl T.m__law_take T.F__law_take.kp T.b__law_take .nil pass0 (pa_cons (pv 2) (pa_cons pe_int pa_nil))) pe_int (nomark _)) pa_nil))))))) (pss_one (ps_ret pe_bl)) pss_nil)
      (pss_cons (ps_set (i := 8) nd rfl (Or.inl rfl) (pe_callB (call_sumD rfl) (by rfl) T.n_sum (by decide +kernel) (pa_cons (pe_lc (own := [("_law_part", 7)]) (g := (gName 7)) (tt := tYes) rfl nd (pi_seq (pe_call G_parts_of (hr.mono (by decide)) rfl T.m_parts_of T.F_parts_of.kp T.b_parts_of .nil pass0 (pa_cons (pv 4) (pa_cons (pv 5) pa_nil)))) (blkOk_by (own := [("_law_part", 7)]) (N := N_law) (sc := defScope s_law) (by decide +kernel)) (fun _ _ _ _ _ => (pg_name (i := 7) nd rfl (Or.inl rfl))) (fun _ _ _ _ _ => pts_nil) (fun _ _ _ _ _ => (pe_call G_share_up (hr.mono (by decide)) rfl T.m_share_up T.F_share_up.kp T.b_share_up .nil pass0 (pa_cons (pv 7) (pa_cons (pv 6) pa_nil))))) pa_nil)))
      (pss_one (ps_if (pt_not (pt_chain op_leD op_ltD pe_int (pe_op op_subD (pv 8) (pe_call G_share_up (hr.mono (by decide)) rfl T.m_share_up T.F_share_up.kp T.b_share_up .nil pass0 (pa_cons (pv 4) (pa_cons (pv 6) pa_nil)))) (pv 5))) (pss_one (ps_ret pe_bl)) pss_nil))))))))))
      (pss_one (ps_ret pe_bl)))
end
theorem law_start {K : Fg} {H : Hp} {a : Addr} {ns : List Int} (hl : ns.length ≤ 63) (hS : SqL K H a (ns.map V.int)) : spG K pm_law [.ref a] H (fun v _ => v = .bl true) fun _ _ _ => False := by
  refine ⟨Ms.nil, [.d (.list (ns.map .int))], fun s _ => s = .d (.bool true), Md.nil H, ⟨?_, trivial⟩, ⟨ns, rfl, hl, fun _ => rfl⟩, fun v H' s g r e => ?_⟩
  · exact Dq.lst (by
      have e : hid Ms.nil H = H := by funext a; exact if_neg (fun m => nomatch m)
      rw [e]; exact hS) (Das.of_ints ns)
  · subst e; exact Da.bl_inv r
theorem all_mk {l : PySem.W.OpenLaw} {w : World} {K : PySem.W.Frag} {h : Heap} {mg : Str → Option Value} {fa : Addr} (X : K.In h) (G : h.Ns mainGlobals mg) (hfa : mg "law" = some (.ref fa))
    {od0 an0 : Option Addr} {sl0 : Array (Option Value)} {oc0 kV0 dc0 pm0 cd0 ct0 : Value} {f0 : Addr}
    {od1 an1 : Option Addr} {sl1 : Array (Option Value)} {oc1 kV1 dc1 pm1 cd1 ct1 : Value} {f1 : Addr}
    {od2 an2 : Option Addr} {sl2 : Array (Option Value)} {oc2 kV2 dc2 pm2 cd2 ct2 : Value} {f2 : Addr}
    {od3 an3 : Option Addr} {sl3 : Array (Option Value)} {oc3 kV3 dc3 pm3 cd3 ct3 : Value} {f3 : Addr}
    {od4 an4 : Option Addr} {sl4 : Array (Option Value)} {oc4 kV4 dc4 pm4 cd4 ct4 : Value} {f4 : Addr}
    {od5 an5 : Option Addr} {sl5 : Array (Option Value)} {oc5 kV5 dc5 pm5 cd5 ct5 : Value} {f5 : Addr}
    {t0 : Tok}
    (a0 : PySem.W.nsIn K mainGlobals "parts_of" = some (some (.ref f0))) (l0 : K.lookup f0 = some ⟨oc0, od0, .func (PySem.W.fnOf "parts_of" "parts_of" (defArgs s_parts_of) (defBody s_parts_of) (defScope s_parts_of) .none kV0 dc0 pm0 an0 cd0 ct0), sl0⟩) (c0 : PySem.W.codeIn K cd0 "parts_of" = true) (k0 : PySem.W.keepIn K (.ref f0) = true)
    (a1 : PySem.W.nsIn K mainGlobals "share_up" = some (some (.ref f1))) (l1 : K.lookup f1 = some ⟨oc1, od1, .func (PySem.W.fnOf "share_up" "share_up" (defArgs s_share_up) (defBody s_share_up) (defScope s_share_up) .none kV1 dc1 pm1 an1 cd1 ct1), sl1⟩) (c1 : PySem.W.codeIn K cd1 "share_up" = true) (k1 : PySem.W.keepIn K (.ref f1) = true)
    (a2 : PySem.W.nsIn K mainGlobals "_law_box" = some (some (.ref f2))) (l2 : K.lookup f2 = some ⟨oc2, od2, .func (PySem.W.fnOf "_law_box" "_law_box" (defArgs s__law_box) (defBody s__law_box) (defScope s__law_box) .none kV2 dc2 pm2 an2 cd2 ct2), sl2⟩) (c2 : PySem.W.codeIn K cd2 "_law_box" = true) (k2 : PySem.W.keepIn K (.ref f2) = true)
    (a3 : PySem.W.nsIn K mainGlobals "_law_take" = some (some (.ref f3))) (l3 : K.lookup f3 = some ⟨oc3, od3, .func (PySem.W.fnOf "_law_take" "_law_take" (defArgs s__law_take) (defBody s__law_take) (defScope s__law_take) .none kV3 dc3 pm3 an3 cd3 ct3), sl3⟩) (c3 : PySem.W.codeIn K cd3 "_law_take" = true) (k3 : PySem.W.keepIn K (.ref f3) = true)
    (a4 : PySem.W.nsIn K mainGlobals "_law_paid" = some (some (.ref f4))) (l4 : K.lookup f4 = some ⟨oc4, od4, .func (PySem.W.fnOf "_law_paid" "_law_paid" (defArgs s__law_paid) (defBody s__law_paid) (defScope s__law_paid) .none kV4 dc4 pm4 an4 cd4 ct4), sl4⟩) (c4 : PySem.W.codeIn K cd4 "_law_paid" = true) (k4 : PySem.W.keepIn K (.ref f4) = true)
    (a5 : PySem.W.nsIn K mainGlobals "law" = some (some (.ref f5))) (l5 : K.lookup f5 = some ⟨oc5, od5, .func (PySem.W.fnOf "law" "law" (defArgs s_law) (defBody s_law) (defScope s_law) .none kV5 dc5 pm5 an5 cd5 ct5), sl5⟩) (c5 : PySem.W.codeIn K cd5 "law" = true) (k5 : PySem.W.keepIn K (.ref f5) = true)
    (z0 : PySem.W.nsIn K mainGlobals "divmod" = some none)
    (z1 : PySem.W.nsIn K mainGlobals "len" = some none)
    (z2 : PySem.W.nsIn K mainGlobals "abs" = some none)
    (z3 : PySem.W.nsIn K mainGlobals "int" = some none)
    (z4 : PySem.W.nsIn K mainGlobals "range" = some none)
    (z5 : PySem.W.nsIn K mainGlobals "sum" = some none)
    (z6 : PySem.W.nsIn K mainGlobals "min" = some none)
    (hg0 : PySem.W.nsIn K mainGlobals "HUNDRED" = some (some (.int 100 t0))) :
    ∃ fd : FuncData, (∀ (s : Shared) (v : Value), BindsTo s fd ⟨[v], []⟩ [("_law_script", v)]) ∧ ∀ base : Heap, K.In base → base.Ns mainGlobals mg → FnOk l.prog w K mg base CX0 3 fa fd ["_law_script"] (spG K pm_law) := by
  have e := hfa.symm.trans (PySem.W.mg_of X G a5)
  cases e
  have F0 := fun_mk (st := s_parts_of) l0 c0 k0
  have b0 := F0.binds (ps := ["pence", "many"]) fun _ _ _ _ _ _ us hl => match us, hl with | [_, _], _ => rfl
  have F1 := fun_mk (st := s_share_up) l1 c1 k1
  have b1 := F1.binds (ps := ["pence", "percent"]) fun _ _ _ _ _ _ us hl => match us, hl with | [_, _], _ => rfl
  have F2 := fun_mk (st := s__law_box) l2 c2 k2
  have b2 := F2.binds (ps := ["_law_script", "_law_k"]) fun _ _ _ _ _ _ us hl => match us, hl with | [_, _], _ => rfl
  have F3 := fun_mk (st := s__law_take) l3 c3 k3
  have b3 := F3.binds (ps := ["_law_box_here", "_law_many"]) fun _ _ _ _ _ _ us hl => match us, hl with | [_, _], _ => rfl
  have F4 := fun_mk (st := s__law_paid) l4 c4 k4
  have b4 := F4.binds (ps := ["_law_box_here", "_law_pence", "_law_many", "_law_falls"]) fun _ _ _ _ _ _ us hl => match us, hl with | [_, _, _, _], _ => rfl
  have F5 := fun_mk (st := s_law) l5 c5 k5
  have b5 := F5.binds (ps := ["_law_script"]) fun _ _ _ _ _ _ us hl => match us, hl with | [_], _ => rfl
  let T : Tx K mg := { n_divmod := PySem.W.mg_none_of X G z0, n_len := PySem.W.mg_none_of X G z1, n_abs := PySem.W.mg_none_of X G z2, n_int := PySem.W.mg_none_of X G z3, n_range := PySem.W.mg_none_of X G z4, n_sum := PySem.W.mg_none_of X G z5, n_min := PySem.W.mg_none_of X G z6, k_HUNDRED := t0, c_HUNDRED := PySem.W.mg_of X G hg0, a_parts_of := f0, d_parts_of := _, m_parts_of := PySem.W.mg_of X G a0, F_parts_of := F0, b_parts_of := b0, a_share_up := f1, d_share_up := _, m_share_up := PySem.W.mg_of X G a1, F_share_up := F1, b_share_up := b1, a__law_box := f2, d__law_box := _, m__law_box := PySem.W.mg_of X G a2, F__law_box := F2, b__law_box := b2, a__law_take := f3, d__law_take := _, m__law_take := PySem.W.mg_of X G a3, F__law_take := F3, b__law_take := b3, a__law_paid := f4, d__law_paid := _, m__law_paid := PySem.W.mg_of X G a4, F__law_paid := F4, b__law_paid := b4, a_law := fa, d_law := _, m_law := PySem.W.mg_of X G a5, F_law := F5, b_law := b5 }
  exact ⟨PySem.W.fnOf "law" "law" (defArgs s_law) (defBody s_law) (defScope s_law) .none kV5 dc5 pm5 an5 cd5 ct5, fun s v => .of_eq rfl, fun base _ _ => ok_law T⟩
theorem walk {l : PySem.W.OpenLaw} {q : Program} {loose : List Str} {XP : (Str → Option Value) → Heap → Prop} {YP : World → Heap → Prop} {d : DefRec} {K : Params → PySem.W.Frag} (hn : l.most = some 63) (hdf : d.params.defaults = [])
    (hY : ∀ (w : World) (h : Heap), YP w h → (K w.params).In h)
    (F : ∀ (w : World) (mg : Str → Option Value) (fa : Addr) (h : Heap), (K w.params).In h → h.Ns mainGlobals mg → mg d.name = some (.ref fa) →
      ∃ fd : FuncData, (∀ (s : Shared) (u : Value), BindsTo s fd ⟨[u], []⟩ [("_law_script", u)]) ∧ ∀ base : Heap, (K w.params).In base → base.Ns mainGlobals mg → FnOk l.prog w (K w.params) mg base CX0 3 fa fd ["_law_script"] (spG (K w.params) pm_law)) :
    PySem.W.WalkO q loose XP YP l.row.toRowW d [] (fun f vs => PySem.call f vs) :=
  L2.walk_of (n := 63) (k := 3) (x := "_law_script") (CX := fun _ => CX0) (sp := fun w => spG (K w.params) pm_law) hn (by decide) hdf ⟨rfl, by decide, by decide⟩ hY F (fun _ _ a ns hl _ hS => law_start hl hS) fun _ _ _ _ _ z => z
end KL
open PySem PySem.W PyProof.Rows in
set_option maxRecDepth 100000 in
set_option maxHeartbeats 0 in
theorem PySem.Challenge.cw_partwares_k05_parts_paid_down_holds : PySem.Challenge.rw_partwares_k05_parts_paid_down.Holds := by
  w_on; o_law; k_head; (case hw => w_witness2)
  k_fill
  refine KL.walk (l := PySem.Challenge.rw_partwares_k05_parts_paid_down) rfl rfl (fun w h Y => PySem.W.kIn_of Y) ?F
  case F =>
    intro w mg fa h KX G hmg
    refine' KL.all_mk KX G hmg ?a0 ?l0 ?c0 ?k0 ?a1 ?l1 ?c1 ?k1 ?a2 ?l2 ?c2 ?k2 ?a3 ?l3 ?c3 ?k3 ?a4 ?l4 ?c4 ?k4 ?a5 ?l5 ?c5 ?k5 ?z0 ?z1 ?z2 ?z3 ?z4 ?z5 ?z6 ?hg0
    (case a0 => k_is)
    (case l0 => k_is)
    (case c0 => k_is)
    (case k0 => k_is)
    (case a1 => k_is)
    (case l1 => k_is)
    (case c1 => k_is)
    (case k1 => k_is)
    (case a2 => k_is)
    (case l2 => k_is)
    (case c2 => k_is)
    (case k2 => k_is)
    (case a3 => k_is)
    (case l3 => k_is)
    (case c3 => k_is)
    (case k3 => k_is)
    (case a4 => k_is)
    (case l4 => k_is)
    (case c4 => k_is)
    (case k4 => k_is)
    (case a5 => k_is)
    (case l5 => k_is)
    (case c5 => k_is)
    (case k5 => k_is)
    (case z0 => k_is)
    (case z1 => k_is)
    (case z2 => k_is)
    (case z3 => k_is)
    (case z4 => k_is)
    (case z5 => k_is)
    (case z6 => k_is)
    (case hg0 => k_is)
