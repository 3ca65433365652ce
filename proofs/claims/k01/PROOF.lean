import PyProof.Rows.All
import Wide.All
import OpenK.AllK
import Wide.FinOn
import HandS.ForMost
import HandS.IsInst
import HandS.Deep
import HandS.TupAny
import HandS.Style
import HandS.SortInts
import KE.OsSort
import HandS.FStr
import HandS.Text
import HandS.StrMore
import HandS.StrSplit
import HandS.NoneIn
import PyProof.ReprRoads
import PySem.Challenge.RW_partwares_k01_names
set_option Elab.async false
set_option linter.all false
set_option maxRecDepth 100000
namespace DL
open PySem L2

/-! ### heaps -/
abbrev Fg := PySem.W.Frag
/-- places that no data knows (h), and of these those that may be written (w) -/
structure Ms where
  h : List Addr
  w : List Addr
  sub : ∀ a, a ∈ w → a ∈ h
/-- nothing is written -/
def Ms.pure (M : Ms) : Ms := ⟨M.h, [], fun _ m => nomatch m⟩
/-- these alone are written -/
def Ms.only (M : Ms) (l : List Addr) (s : ∀ a, a ∈ l → a ∈ M.h) : Ms := ⟨M.h, l, s⟩
/-- one more, written -/
def Ms.add (M : Ms) (p : Addr) : Ms := ⟨p :: M.h, p :: M.w, fun a m => by
  rcases List.mem_cons.mp m with e | e
  · exact List.mem_cons.mpr (.inl e)
  · exact List.mem_cons.mpr (.inr (M.sub a e))⟩
def Ms.nil : Ms := ⟨[], [], fun _ m => nomatch m⟩
def hid (M : Ms) (H : Hp) : Hp := fun a => if a ∈ M.h then none else H a
/-- the layer's word for «all that was tracked stands» -/
abbrev Ex : Hp → Hp → Prop := L2.Same
/-- all but the places of M stays -/
def Go (M : Ms) (H H' : Hp) : Prop := (∀ a o, a ∉ M.w → H a = some o → H' a = some o) ∧ ∀ a o, H a = some o → ∃ o', H' a = some o'
def Md (M : Ms) (H : Hp) : Prop := ∀ a, a ∈ M.h → ∃ o, H a = some o
theorem Ex.refl (H : Hp) : Ex H H := L2.Same.refl H
theorem Ex.trans {F G J : Hp} (p : Ex F G) (q : Ex G J) : Ex F J := L2.Same.trans p q
theorem Ex.new {G : Hp} {q : Addr} {u : HO} (free : G q = none) : Ex G (upd G q u) := fun b w there => (upd_ne (ne_of_none there free)).trans there
theorem Ex.go {M : Ms} {H H' : Hp} (e : Ex H H') : Go M H H' := ⟨fun a o _ h => e a o h, fun a o h => ⟨o, e a o h⟩⟩
theorem Go.refl (M : Ms) (H : Hp) : Go M H H := (Ex.refl H).go
theorem Go.trans {M : Ms} {H H1 H2 : Hp} (a : Go M H H1) (b : Go M H1 H2) : Go M H H2 :=
  ⟨fun x o n h => b.1 x o n (a.1 x o n h), fun x o h => by obtain ⟨o', h'⟩ := a.2 x o h; exact b.2 x o' h'⟩
theorem Go.sub {M N : Ms} {H H' : Hp} (s : ∀ a, a ∈ M.w → a ∈ N.w) (g : Go M H H') : Go N H H' := ⟨fun a o n h => g.1 a o (fun m => n (s a m)) h, g.2⟩
theorem Go.ex {M : Ms} {H H' : Hp} (g : Go M H H') : Ex (hid M H) (hid M H') := fun a o h => by
  unfold hid at h ⊢
  by_cases m : a ∈ M.h
  · rw [if_pos m] at h; cases h
  · rw [if_neg m] at h ⊢; exact g.1 a o (fun q => m (M.sub a q)) h
theorem Md.go {M N : Ms} {H H' : Hp} (d : Md M H) (g : Go N H H') : Md M H' := fun a m => by obtain ⟨o, h⟩ := d a m; exact g.2 a o h
theorem Md.ex {M : Ms} {H H' : Hp} (d : Md M H) (e : Ex H H') : Md M H' := d.go (e.go (M := Ms.nil))
theorem Go.pure {M : Ms} {H H' : Hp} (g : Go M.pure H H') : Ex H H' := fun a o h => g.1 a o (fun m => nomatch m) h
theorem Md.pure {M : Ms} {H : Hp} (d : Md M H) : Md M.pure H := d
theorem Md.add {M : Ms} {H : Hp} {p : Addr} {o : HO} (d : Md M H) (h : H p = some o) : Md (M.add p) H := fun a m => by
  rcases List.mem_cons.mp m with e | e
  · exact ⟨o, e ▸ h⟩
  · exact d a e
theorem Md.fresh {M : Ms} {H : Hp} (d : Md M H) {p : Addr} (h : H p = none) : p ∉ M.h := fun m => by obtain ⟨o, e⟩ := d p m; rw [h] at e; cases e
theorem hid_le (M : Ms) (H : Hp) : Ex (hid M H) H := fun a o h => by
  unfold hid at h
  by_cases m : a ∈ M.h
  · rw [if_pos m] at h; cases h
  · rw [if_neg m] at h; exact h
theorem hid_ne {M : Ms} {H : Hp} {a : Addr} (h : a ∉ M.h) : hid M H a = H a := if_neg h
theorem Md.nil (H : Hp) : Md Ms.nil H := fun _ m => nomatch m
theorem fresh_back {F G : Hp} {q : Addr} (k : Ex F G) (free : G q = none) : F q = none := L2.Same.free k free
theorem go_back {M : Ms} {H H' : Hp} {p : Addr} (e : Go M H H') (h : H' p = none) : H p = none := by
  cases h1 : H p with
  | none => rfl
  | some o => obtain ⟨o', e'⟩ := e.2 p o h1; rw [e'] at h; cases h
/-- a place of M is written -/
theorem Go.mut {M : Ms} {H : Hp} {p : Addr} {o : HO} (m : p ∈ M.w) : Go M H (upd H p o) := ⟨fun a u n h => by
  have q : a ≠ p := fun e => n (e ▸ m)
  rw [upd_ne q]; exact h, fun a u h => by
  by_cases q : a = p
  · subst q; exact ⟨o, upd_same⟩
  · exact ⟨u, by rw [upd_ne q]; exact h⟩⟩

/-! ### data -/
mutual
/-- v holds the data d (a list that may be read as it stands; a tuple also of the written part) -/
inductive Dq (K : Fg) (H : Hp) : V → PyData → Prop
  | non : Dq K H .non .none
  | bl (b : Bool) : Dq K H (.bl b) (.bool b)
  | int (i : Int) : Dq K H (.int i) (.int i)
  | str (x : Str) : Dq K H (.str x) (.str x)
  | lst {a : Addr} {xs : List V} {ds : List PyData} : SqL K H a xs → DqAll K H xs ds → Dq K H (.ref a) (.list ds)
  | tup {a : Addr} {xs : List V} {ds : List PyData} : SqT K H a xs → DqAll K H xs ds → Dq K H (.ref a) (.tuple ds)
inductive DqAll (K : Fg) (H : Hp) : List V → List PyData → Prop
  | nil : DqAll K H [] []
  | cons {v : V} {vs : List V} {d : PyData} {ds : List PyData} : Dq K H v d → DqAll K H vs ds → DqAll K H (v :: vs) (d :: ds)
end
mutual
theorem Dq.dp {K : Fg} {H : Hp} : ∀ (d : PyData) (v : V), Dq K H v d → Dp K H v d
  | _, _, .non => .non
  | _, _, .bl b => .bl b
  | _, _, .int i => .int i
  | _, _, .str x => .str x
  | .list ds, _, .lst (xs := xs) s a => .lst s (DqAll.dp ds xs a)
  | .tuple ds, _, .tup (xs := xs) s a => .tup s (DqAll.dp ds xs a)
theorem DqAll.dp {K : Fg} {H : Hp} : ∀ (ds : List PyData) (vs : List V), DqAll K H vs ds → DpAll K H vs ds
  | [], _, .nil => .nil
  | d :: ds, v :: vs, .cons h t => .cons (Dq.dp d v h) (DqAll.dp ds vs t)
end
theorem ex_l {K : Fg} {F G : Hp} {q : Addr} {vs : List V} (k : Ex F G) (h : SqL K F q vs) : SqL K G q vs := L2.Same.seq k h
theorem ex_t {K : Fg} {F G : Hp} {q : Addr} {vs : List V} (k : Ex F G) : SqT K F q vs → SqT K G q vs
  | .inl (.inl h) => .inl (.inl (k q _ h))
  | .inl (.inr ⟨ob, h⟩) => .inl (.inr ⟨ob, k q _ h⟩)
  | .inr h => .inr h
mutual
theorem dp_ex {K : Fg} {H H' : Hp} (e : Ex H H') : ∀ (d : PyData) (v : V), Dq K H v d → Dq K H' v d
  | _, _, .non => .non
  | _, _, .bl b => .bl b
  | _, _, .int i => .int i
  | _, _, .str x => .str x
  | .list ds, _, .lst (xs := xs) s a => .lst (ex_l e s) (dps_ex e ds xs a)
  | .tuple ds, _, .tup (xs := xs) s a => .tup (ex_t e s) (dps_ex e ds xs a)
theorem dps_ex {K : Fg} {H H' : Hp} (e : Ex H H') : ∀ (ds : List PyData) (vs : List V), DqAll K H vs ds → DqAll K H' vs ds
  | [], _, .nil => .nil
  | d :: ds, v :: vs, .cons h t => .cons (dp_ex e d v h) (dps_ex e ds vs t)
end
/-- v holds the data d, in H but the places of M -/
abbrev Da (K : Fg) (M : Ms) (H : Hp) (v : V) (d : PyData) : Prop := Dq K (hid M H) v d
abbrev Das (K : Fg) (M : Ms) (H : Hp) (vs : List V) (ds : List PyData) : Prop := DqAll K (hid M H) vs ds
theorem Da.go {K : Fg} {M : Ms} {H H' : Hp} {v : V} {d : PyData} (h : Da K M H v d) (g : Go M H H') : Da K M H' v d := dp_ex g.ex d v h
theorem Das.go {K : Fg} {M : Ms} {H H' : Hp} {v : List V} {d : List PyData} (h : Das K M H v d) (g : Go M H H') : Das K M H' v d := dps_ex g.ex d v h
theorem Da.ex {K : Fg} {M : Ms} {H H' : Hp} {v : V} {d : PyData} (h : Da K M H v d) (g : Ex H H') : Da K M H' v d := h.go g.go
theorem Das.ex {K : Fg} {M : Ms} {H H' : Hp} {v : List V} {d : List PyData} (h : Das K M H v d) (g : Ex H H') : Das K M H' v d := h.go g.go
theorem Da.dq {K : Fg} {M : Ms} {H : Hp} {v : V} {d : PyData} (h : Da K M H v d) : Dq K H v d := dp_ex (hid_le M H) d v h
theorem Da.dp {K : Fg} {M : Ms} {H : Hp} {v : V} {d : PyData} (h : Da K M H v d) : Dp K H v d := Dq.dp d v h.dq
theorem Das.dq {K : Fg} {M : Ms} {H : Hp} {v : List V} {d : List PyData} (h : Das K M H v d) : DqAll K H v d := dps_ex (hid_le M H) d v h
theorem Das.dp {K : Fg} {M : Ms} {H : Hp} {v : List V} {d : List PyData} (h : Das K M H v d) : DpAll K H v d := DqAll.dp d v h.dq
theorem Das.len {K : Fg} {H : Hp} : ∀ {vs : List V} {ds : List PyData}, DqAll K H vs ds → vs.length = ds.length
  | _, _, .nil => rfl
  | _, _, .cons _ t => by rw [List.length_cons, List.length_cons, Das.len t]
theorem Das.get {K : Fg} {H : Hp} : ∀ {vs : List V} {ds : List PyData} {i : Nat} {d : PyData}, DqAll K H vs ds → ds[i]? = some d → ∃ v, vs[i]? = some v ∧ Dq K H v d
  | _, _, _, _, .nil, e => by simp at e
  | _, _, 0, d, .cons h _, e => by simp at e; subst e; exact ⟨_, rfl, h⟩
  | _, _, i + 1, d, .cons _ t, e => by simpa using Das.get (i := i) t (by simpa using e)
theorem Das.get' {K : Fg} {H : Hp} : ∀ {vs : List V} {ds : List PyData} {i : Nat} {v : V}, DqAll K H vs ds → vs[i]? = some v → ∃ d, ds[i]? = some d ∧ Dq K H v d
  | _, _, _, _, .nil, e => by simp at e
  | _, _, 0, d, .cons h _, e => by simp at e; subst e; exact ⟨_, rfl, h⟩
  | _, _, i + 1, d, .cons _ t, e => by simpa using Das.get' (i := i) t (by simpa using e)
theorem Das.app {K : Fg} {H : Hp} : ∀ {vs : List V} {ds : List PyData} {us : List V} {es : List PyData}, DqAll K H vs ds → DqAll K H us es → DqAll K H (vs ++ us) (ds ++ es)
  | _, _, _, _, .nil, h => h
  | _, _, _, _, .cons a t, h => .cons a (Das.app t h)
theorem Das.take {K : Fg} {H : Hp} : ∀ {vs : List V} {ds : List PyData} (n : Nat), DqAll K H vs ds → DqAll K H (vs.take n) (ds.take n)
  | _, _, 0, _ => .nil
  | _, _, _ + 1, .nil => .nil
  | _, _, n + 1, .cons a t => .cons a (Das.take n t)
theorem Das.drop {K : Fg} {H : Hp} : ∀ {vs : List V} {ds : List PyData} (n : Nat), DqAll K H vs ds → DqAll K H (vs.drop n) (ds.drop n)
  | _, _, 0, h => h
  | _, _, _ + 1, .nil => .nil
  | _, _, n + 1, .cons _ t => Das.drop n t
theorem Das.set {K : Fg} {H : Hp} {v : V} {d : PyData} (h : Dq K H v d) : ∀ {vs : List V} {ds : List PyData} (n : Nat), DqAll K H vs ds → DqAll K H (vs.set n v) (ds.set n d)
  | _, _, _, .nil => .nil
  | _, _, 0, .cons _ t => .cons h t
  | _, _, n + 1, .cons a t => .cons a (Das.set h n t)
theorem Das.rev {K : Fg} {H : Hp} {vs : List V} {ds : List PyData} (h : DqAll K H vs ds) : DqAll K H vs.reverse ds.reverse := by
  induction ds generalizing vs with
  | nil => cases h; exact .nil
  | cons d ds ih =>
    cases h with
    | cons a t => rw [List.reverse_cons, List.reverse_cons]; exact Das.app (ih t) (.cons a .nil)
theorem Das.rep {K : Fg} {H : Hp} {vs : List V} {ds : List PyData} (h : DqAll K H vs ds) : ∀ n : Nat, DqAll K H (List.replicate n vs).flatten (List.replicate n ds).flatten
  | 0 => .nil
  | n + 1 => by rw [List.replicate_succ, List.replicate_succ, List.flatten_cons, List.flatten_cons]; exact Das.app h (Das.rep h n)
theorem Das.ints {K : Fg} {H : Hp} : ∀ {vs : List V} {ns : List Int}, DqAll K H vs (ns.map PyData.int) → vs = ns.map V.int
  | _, [], .nil => rfl
  | _, n :: ns, .cons h t => by cases h; rw [Das.ints t]; rfl
theorem Das.strs {K : Fg} {H : Hp} : ∀ {vs : List V} {ns : List Str}, DqAll K H vs (ns.map PyData.str) → vs = ns.map V.str
  | _, [], .nil => rfl
  | _, n :: ns, .cons h t => by cases h; rw [Das.strs t]; rfl
theorem Das.bls {K : Fg} {H : Hp} : ∀ {vs : List V} {ns : List Bool}, DqAll K H vs (ns.map PyData.bool) → vs = ns.map V.bl
  | _, [], .nil => rfl
  | _, n :: ns, .cons h t => by cases h; rw [Das.bls t]; rfl
theorem Das.of_ints {K : Fg} {H : Hp} : ∀ (ns : List Int), DqAll K H (ns.map V.int) (ns.map PyData.int)
  | [] => .nil
  | n :: ns => .cons (.int n) (Das.of_ints ns)
theorem Das.of_strs {K : Fg} {H : Hp} : ∀ (ns : List Str), DqAll K H (ns.map V.str) (ns.map PyData.str)
  | [] => .nil
  | n :: ns => .cons (.str n) (Das.of_strs ns)
theorem Das.of_bls {K : Fg} {H : Hp} : ∀ (ns : List Bool), DqAll K H (ns.map V.bl) (ns.map PyData.bool)
  | [] => .nil
  | n :: ns => .cons (.bl n) (Das.of_bls ns)
/-- a list that is tracked outside of M is data -/
theorem Da.lst {K : Fg} {M : Ms} {H : Hp} {p : Addr} {xs : List V} {ds : List PyData} (m : p ∉ M.h) (h : H p = some (.lst xs)) (a : Das K M H xs ds) : Da K M H (.ref p) (.list ds) := Dq.lst (Or.inl (Or.inl (by rw [hid_ne m]; exact h))) a
theorem Da.tup {K : Fg} {M : Ms} {H : Hp} {p : Addr} {xs : List V} {ds : List PyData} (m : p ∉ M.h) (h : H p = some (.tup xs)) (a : Das K M H xs ds) : Da K M H (.ref p) (.tuple ds) := Dq.tup (Or.inl (Or.inl (by rw [hid_ne m]; exact h))) a
theorem Da.new_lst {K : Fg} {M : Ms} {H : Hp} {p : Addr} {xs : List V} {ds : List PyData} (d : Md M H) (n : H p = none) (a : Das K M H xs ds) : Da K M (upd H p (.lst xs)) (.ref p) (.list ds) :=
  Da.lst (d.fresh n) upd_same (a.ex (Ex.new n))
theorem Da.new_tup {K : Fg} {M : Ms} {H : Hp} {p : Addr} {xs : List V} {ds : List PyData} (d : Md M H) (n : H p = none) (a : Das K M H xs ds) : Da K M (upd H p (.tup xs)) (.ref p) (.tuple ds) :=
  Da.tup (d.fresh n) upd_same (a.ex (Ex.new n))

/-- data of less is data of more -/
theorem hid_mono {M N : Ms} (s : ∀ a, a ∈ M.h → a ∈ N.h) (H : Hp) : Ex (hid N H) (hid M H) := fun a o h => by
  unfold hid at h ⊢
  by_cases m : a ∈ N.h
  · rw [if_pos m] at h; cases h
  · rw [if_neg m] at h; rw [if_neg (fun q => m (s a q))]; exact h
theorem Da.mono {K : Fg} {M N : Ms} {H : Hp} {v : V} {d : PyData} (s : ∀ a, a ∈ M.h → a ∈ N.h) (h : Da K N H v d) : Da K M H v d := dp_ex (hid_mono s H) d v h
theorem Das.mono {K : Fg} {M N : Ms} {H : Hp} {v : List V} {d : List PyData} (s : ∀ a, a ∈ M.h → a ∈ N.h) (h : Das K N H v d) : Das K M H v d := dps_ex (hid_mono s H) d v h
/-- a new place is hidden -/
theorem hid_add {M : Ms} {H : Hp} {p : Addr} {o : HO} (n : H p = none) : Ex (hid M H) (hid (M.add p) (upd H p o)) := fun a u h => by
  have q : a ≠ p := fun e => by
    have := hid_le M H a u h
    rw [e, n] at this; cases this
  unfold hid at h ⊢
  by_cases m : a ∈ M.h
  · rw [if_pos m] at h; cases h
  · rw [if_neg m] at h
    rw [if_neg (fun z => by rcases List.mem_cons.mp z with e | e; exact q e; exact m e), upd_ne q]; exact h
/-! ### slots -/
inductive Sl where
  | d (x : PyData)
  | v (x : V)
def Rl (K : Fg) (M : Ms) (H : Hp) (v : V) : Sl → Prop
  | .d x => Da K M H v x
  | .v w => v = w
theorem Rl.go {K : Fg} {M : Ms} {H H' : Hp} {v : V} {s : Sl} (h : Rl K M H v s) (g : Go M H H') : Rl K M H' v s := by
  cases s with
  | d x => exact Da.go h g
  | v w => exact h
theorem Rl.ex {K : Fg} {M : Ms} {H H' : Hp} {v : V} {s : Sl} (h : Rl K M H v s) (g : Ex H H') : Rl K M H' v s := h.go g.go
abbrev Ro := List (Option Sl)
def Env (K : Fg) (M : Ms) (H : Hp) (σ : L2.St) (ρ : Ro) : Prop := σ.length = ρ.length ∧ ∀ (i : Nat) (s : Sl), ρ[i]? = some (some s) → ∃ v, σ[i]? = some (some v) ∧ Rl K M H v s
theorem Rl.mono {K : Fg} {M N : Ms} {H : Hp} {v : V} {t : Sl} (s : ∀ a, a ∈ M.h → a ∈ N.h) (h : Rl K N H v t) : Rl K M H v t := by
  cases t with
  | d x => exact Da.mono s h
  | v w => exact h
theorem Env.mono {K : Fg} {M N : Ms} {H : Hp} {σ : L2.St} {ρ : Ro} (s : ∀ a, a ∈ M.h → a ∈ N.h) (e : Env K N H σ ρ) : Env K M H σ ρ := ⟨e.1, fun i t h => by obtain ⟨v, h1, h2⟩ := e.2 i t h; exact ⟨v, h1, h2.mono s⟩⟩
section
variable {K : Fg} {M : Ms} {H H' : Hp} {σ : L2.St} {ρ : Ro}
theorem Env.new {p : Addr} {o : HO} (e : Env K M H σ ρ) (n : H p = none) : Env K (M.add p) (upd H p o) σ ρ := ⟨e.1, fun i t h => by
  obtain ⟨v, h1, h2⟩ := e.2 i t h
  refine ⟨v, h1, ?_⟩
  cases t with
  | d x => exact dp_ex (hid_add n) x v h2
  | v w => exact h2⟩
theorem Env.go (e : Env K M H σ ρ) (g : Go M H H') : Env K M H' σ ρ := ⟨e.1, fun i s h => by obtain ⟨v, h1, h2⟩ := e.2 i s h; exact ⟨v, h1, h2.go g⟩⟩
theorem Env.ex (e : Env K M H σ ρ) (g : Ex H H') : Env K M H' σ ρ := e.go g.go
theorem Env.set (e : Env K M H σ ρ) {i : Nat} {v : V} {s : Sl} (h : Rl K M H v s) : Env K M H (σ.set i (some v)) (ρ.set i (some s)) := by
  refine ⟨by rw [List.length_set, List.length_set]; exact e.1, fun j t q => ?_⟩
  by_cases hj : i = j
  · subst hj
    by_cases hl : i < ρ.length
    · rw [List.getElem?_set_self hl] at q
      injection q with q; injection q with q; subst q
      exact ⟨v, List.getElem?_set_self (by rw [e.1]; exact hl), h⟩
    · rw [List.getElem?_eq_none (by rw [List.length_set]; omega)] at q; cases q
  · rw [List.getElem?_set_ne hj] at q ⊢
    exact e.2 j t q
/-- any value: the slot is forgotten -/
theorem Env.set0 (e : Env K M H σ ρ) {i : Nat} {v : Option V} : Env K M H (σ.set i v) (ρ.set i none) := by
  refine ⟨by rw [List.length_set, List.length_set]; exact e.1, fun j t q => ?_⟩
  by_cases hj : i = j
  · subst hj
    by_cases hl : i < ρ.length
    · rw [List.getElem?_set_self hl] at q; cases q
    · rw [List.getElem?_eq_none (by rw [List.length_set]; omega)] at q; cases q
  · rw [List.getElem?_set_ne hj] at q ⊢
    exact e.2 j t q
/-- less is known -/
def Le : Ro → Ro → Prop
  | [], [] => True
  | a :: r, b :: q => (b = none ∨ a = b) ∧ Le r q
  | _, _ => False
theorem Le.refl : ∀ ρ : Ro, Le ρ ρ
  | [] => trivial
  | _ :: r => ⟨.inr rfl, Le.refl r⟩
theorem Le.len : ∀ {ρ ρ' : Ro}, Le ρ ρ' → ρ.length = ρ'.length
  | [], [], _ => rfl
  | _ :: r, _ :: q, h => by rw [List.length_cons, List.length_cons, Le.len h.2]
theorem Le.get : ∀ {ρ ρ' : Ro} {i : Nat} {s : Sl}, Le ρ ρ' → ρ'[i]? = some (some s) → ρ[i]? = some (some s)
  | [], [], _, _, _, e => by simp at e
  | a :: r, b :: q, 0, s, h, e => by
    simp at e
    rcases h.1 with h1 | h1
    · rw [h1] at e; cases e
    · rw [h1, e]; rfl
  | a :: r, b :: q, i + 1, s, h, e => by simpa using Le.get (i := i) h.2 (by simpa using e)
theorem Env.le {ρ' : Ro} (e : Env K M H σ ρ) (h : Le ρ ρ') : Env K M H σ ρ' := ⟨e.1.trans h.len, fun i s q => e.2 i s (h.get q)⟩
theorem Env.start {N : List Str} {vs : List V} {ds : List Sl} (h : vs.length = ds.length) (r : ∀ (i : Nat) v s, vs[i]? = some v → ds[i]? = some s → Rl K M H v s) (hl : vs.length ≤ N.length) :
    Env K M H (L2.start N vs) (ds.map some ++ List.replicate (N.length - ds.length) none) := by
  unfold L2.start
  refine ⟨by simp [h], fun i s q => ?_⟩
  by_cases hi : i < ds.length
  · rw [List.getElem?_append_left (by simpa using hi), List.getElem?_map] at q
    cases e : ds[i]? with
    | none => rw [e] at q; cases q
    | some t =>
      rw [e] at q
      have q' : t = s := by injection q with q; injection q
      subst q'
      have hv : i < vs.length := by omega
      refine ⟨vs[i], ?_, r i _ _ (List.getElem?_eq_getElem hv) e⟩
      rw [List.getElem?_append_left (by simpa using hv), List.getElem?_map, List.getElem?_eq_getElem hv]; rfl
  · rw [List.getElem?_append_right (by simp; omega)] at q
    have := List.mem_of_getElem? q
    simp at this
end
def wipeR (ρ : Ro) : List Nat → Ro
  | [] => ρ
  | v :: vs => (wipeR ρ vs).set v none
theorem Env.wipe {K : Fg} {M : Ms} {H : Hp} {σ : L2.St} {ρ : Ro} (e : Env K M H σ ρ) : ∀ vs : List Nat, Env K M H (L2.wipe σ vs) (wipeR ρ vs)
  | [] => e
  | v :: vs => by unfold L2.wipe wipeR; exact (Env.wipe e vs).set0
end DL
set_option maxRecDepth 100000
namespace DL
open PySem L2
section
variable {K : Fg} {M : Ms} {H H' : Hp}

/-! ### what is there, as data -/
theorem Da.int_inv {x : V} {i : Int} (h : Da K M H x (.int i)) : x = .int i := by cases h; rfl
theorem Da.str_inv {x : V} {i : Str} (h : Da K M H x (.str i)) : x = .str i := by cases h; rfl
theorem Da.bl_inv {x : V} {i : Bool} (h : Da K M H x (.bool i)) : x = .bl i := by cases h; rfl
theorem Da.non_inv {x : V} (h : Da K M H x .none) : x = .non := by cases h; rfl
theorem hid_l {a : Addr} {xs : List V} (h : SqL K (hid M H) a xs) : SqL K H a xs := ex_l (hid_le M H) h
theorem hid_t {a : Addr} {xs : List V} (h : SqT K (hid M H) a xs) : SqT K H a xs := ex_t (hid_le M H) h

/-! ### operators on data, by relations -/
def rB (K : Fg) (g : PyData → PyData → PyData → Prop) : R2 := fun x y H Q => ∃ M d e z, Md M H ∧ Da K M H x d ∧ Da K M H y e ∧ g d e z ∧ ∀ v H', Ex H H' → Da K M H' v z → Q v H'
def rU1 (K : Fg) (g : PyData → PyData → Prop) : V → Hp → VK → Prop := fun x H Q => ∃ M d z, Md M H ∧ Da K M H x d ∧ g d z ∧ ∀ v H', Ex H H' → Da K M H' v z → Q v H'
/-- a call of a built-in on data -/
def rC (K : Fg) (g : List PyData → PyData → Prop) : List V → Hp → VK → Prop := fun vs H Q => ∃ M ds z, Md M H ∧ Das K M H vs ds ∧ g ds z ∧ ∀ v H', Ex H H' → Da K M H' v z → Q v H'
/-- a method that reads -/
def rM (K : Fg) (g : PyData → List PyData → PyData → Prop) : V → List V → Hp → VK → Prop := fun x vs H Q => ∃ M d ds z, Md M H ∧ Da K M H x d ∧ Das K M H vs ds ∧ g d ds z ∧ ∀ v H', Ex H H' → Da K M H' v z → Q v H'
/-- a slice -/
def rSl (K : Fg) (g : PyData → Option Int → Option Int → PyData → Prop) : V → Option Int → Option Int → Hp → VK → Prop := fun x lo hi H Q => ∃ M d z, Md M H ∧ Da K M H x d ∧ g d lo hi z ∧ ∀ v H', Ex H H' → Da K M H' v z → Q v H'

def AddD : PyData → PyData → PyData → Prop
  | .int i, .int j, z => z = .int (i + j)
  | .str a, .str b, z => a.length + b.length ≤ sizeLine ∧ z = .str (a ++ b)
  | .list a, .list b, z => a.length + b.length ≤ sizeLine ∧ z = .list (a ++ b)
  | .tuple a, .tuple b, z => a.length + b.length ≤ sizeLine ∧ z = .tuple (a ++ b)
  | _, _, _ => False
def SubD : PyData → PyData → PyData → Prop
  | .int i, .int j, z => z = .int (i - j)
  | _, _, _ => False
/-- a text so many times -/
def repS (x : Str) (k : Int) : Str := if k < 1 then Str.empty else if (k == 1 || x.length == 0) = true then x else ⟨(List.replicate k.toNat x.cps).foldl (· ++ ·) #[]⟩
def MulD : PyData → PyData → PyData → Prop
  | .int i, .int j, z => CMul i j ∧ z = .int (i * j)
  | .list a, .int k, z => -(2 ^ 63) ≤ k ∧ k < 2 ^ 63 ∧ a.length * k.toNat ≤ sizeLine ∧ z = .list (List.replicate k.toNat a).flatten
  | .str x, .int k, z => -(2 ^ 63) ≤ k ∧ k < 100000 ∧ x.length ≤ 100 ∧ z = .str (repS x k)
  | _, _, _ => False
def DivD : PyData → PyData → PyData → Prop
  | .int i, .int j, z => CDiv i j ∧ z = .int (i / j)
  | _, _, _ => False
def ModD : PyData → PyData → PyData → Prop
  | .int i, .int j, z => 0 < j ∧ z = .int (i % j)
  | _, _, _ => False
def PowD : PyData → PyData → PyData → Prop
  | .int i, .int j, z => CPow i j ∧ z = .int (i ^ j.toNat)
  | _, _, _ => False
def LtD : PyData → PyData → PyData → Prop
  | .int i, .int j, z => z = .bool (decide (i < j))
  | .str a, .str b, z => z = .bool (decide (a.cps.toList < b.cps.toList))
  | _, _, _ => False
def LeD : PyData → PyData → PyData → Prop
  | .int i, .int j, z => z = .bool (decide (i ≤ j))
  | .str a, .str b, z => z = .bool (!decide (b.cps.toList < a.cps.toList))
  | _, _, _ => False
def GtD : PyData → PyData → PyData → Prop
  | .int i, .int j, z => z = .bool (decide (j < i))
  | .str a, .str b, z => z = .bool (decide (b.cps.toList < a.cps.toList))
  | _, _, _ => False
def GeD : PyData → PyData → PyData → Prop
  | .int i, .int j, z => z = .bool (decide (j ≤ i))
  | .str a, .str b, z => z = .bool (!decide (a.cps.toList < b.cps.toList))
  | _, _, _ => False
/-- what == compares: no dicts, texts of known signs, not too deep -/
abbrev Shp (d : PyData) : Prop := SeqAt.shaped d = true
def strD : PyData → Bool
  | .str _ => true
  | _ => false
/-- x is one that == looks through, or both are texts -/
def Shr (d e x : PyData) : Prop := Shp x ∨ (strD d = true ∧ strD e = true)
def EqD (d e z : PyData) : Prop := Shr d e d ∧ Shr d e e ∧ z = .bool (PyData.eqv d e)
def NeD (d e z : PyData) : Prop := Shr d e d ∧ Shr d e e ∧ z = .bool (!PyData.eqv d e)
/-- flat things -/
def flatD : PyData → Bool
  | .none | .bool _ | .int _ | .str _ => true
  | _ => false
def InD : PyData → PyData → PyData → Prop
  | .str c, .str t, z => (∃ k, c = ⟨#[k]⟩ ∧ z = .bool (decide (k ∈ t.cps.toList)))
  | d, .list ds, z => Shp d ∧ Shp (.list ds) ∧ z = .bool (ds.any fun y => PyData.eqv y d)
  | d, .tuple ds, z => flatD d = true ∧ ds.all flatD = true ∧ z = .bool (ds.any fun y => PyData.eqv y d)
  | _, _, _ => False
def NotInD : PyData → PyData → PyData → Prop
  | .str c, .str t, z => (∃ k, c = ⟨#[k]⟩ ∧ z = .bool (!decide (k ∈ t.cps.toList)))
  | d, .list ds, z => Shp d ∧ Shp (.list ds) ∧ z = .bool (!ds.any fun y => PyData.eqv y d)
  | d, .tuple ds, z => flatD d = true ∧ ds.all flatD = true ∧ z = .bool (!ds.any fun y => PyData.eqv y d)
  | _, _, _ => False
def isNoneD : PyData → Bool
  | .none => true
  | _ => false
end
section
variable {X : Cx}
theorem Da.list_inv {K : Fg} {M : Ms} {H : Hp} {x : V} {ds : List PyData} (h : Da K M H x (.list ds)) : ∃ a xs, x = .ref a ∧ SqL K (hid M H) a xs ∧ Das K M H xs ds := by cases h with | lst s a => exact ⟨_, _, rfl, s, a⟩
theorem Da.tup_inv {K : Fg} {M : Ms} {H : Hp} {x : V} {ds : List PyData} (h : Da K M H x (.tuple ds)) : ∃ a xs, x = .ref a ∧ SqT K (hid M H) a xs ∧ Das K M H xs ds := by cases h with | tup s a => exact ⟨_, _, rfl, s, a⟩
/-- a list of the heap or of the written part, as the machine has it -/
theorem list_obj {pins : List (Addr × Obj)} {σ : L2.St} {H : Hp} {s : Shared} {l : Addr} {xs : List V} (I : Inv X pins σ H s) (h : SqL X.K H l xs) :
    ∃ (its : List Value) (n : Nat) (dd : Option Addr) (sl : Array (Option Value)), Vals xs its ∧ its.length = xs.length ∧ s.heap.get? l = some { cls := .type "list", dict := dd, data := .seq its.toArray n, slots := sl } := by
  obtain ⟨its, r, ⟨ob, n, at_l, is_list, no_dict, dat⟩, _⟩ := I.list h
  refine ⟨its, n, ob.dict, ob.slots, r, r.length.symm, ?_⟩
  rw [at_l]
  cases ob
  cases is_list
  cases dat
  rfl
def rCatR (K : Fg) : R2 := fun x y H Q => ∃ l b xs zs, x = .ref l ∧ y = .ref b ∧ SqL K H l xs ∧ SqL K H b zs ∧ xs.length + zs.length ≤ sizeLine ∧ ∀ p, H p = none → Q (.ref p) (upd H p (.lst (xs ++ zs)))
theorem op_catR : OpR X (binaryOp .Add) (rCatR X.K) := by
  rintro pins s σ H _ _ v u Q I rx ry ⟨l, b, xs, zs, rfl, rfl, left, right, room, done⟩
  obtain ⟨us, n1, d1, sl1, r1, e1, o1⟩ := list_obj I left
  obtain ⟨ws, n2, d2, sl2, r2, e2, o2⟩ := list_obj I right
  cases rx
  cases ry
  have fits : us.toArray.size + ws.toArray.size ≤ sizeLine := by simpa [e1, e2] using room
  have both : us.toArray ++ ws.toArray = (us ++ ws).toArray := List.append_toArray us ws
  have sum := PyProof.Rows.list_addW l b us.toArray ws.toArray n1 n2 d1 d2 sl1 sl2 fits
  refine concat_meets ⟨_, o1, rfl⟩ ⟨_, o2, rfl⟩ noFill_list_add seq_list_add PySem.F.slot_list_add PySem.F.entry_list_add (PySem.F.args_list_add_2 _ _) sum ⟨o1, o2, ?_⟩
  rw [both]
  have made := I.lnew (t' := s.toks) (r1.append r2) (by rw [List.length_append]; exact room)
  exact ⟨V.ref _, _, made, rfl, done _ I.fresh⟩
theorem op_addD : OpR X (binaryOp .Add) (rB X.K AddD) := by
  intro pins s σ H x y v u Q I rx ry h
  obtain ⟨M, d, e, z, hM, hd, he, g, q⟩ := h
  cases d <;> cases e <;> try exact g.elim
  · have e1 := hd.int_inv; have e2 := he.int_inv; subst e1; subst e2
    exact op_add pins s σ H _ _ v u Q I rx ry ⟨_, _, rfl, rfl, q _ H (Ex.refl H) (by rw [show z = _ from g]; exact .int _)⟩
  · have e1 := hd.str_inv; have e2 := he.str_inv; subst e1; subst e2
    exact op_add_str pins s σ H _ _ v u Q I rx ry ⟨_, _, rfl, rfl, g.1, q _ H (Ex.refl H) (by rw [g.2]; exact .str _)⟩
  · obtain ⟨a, xs, rfl, ha, hx⟩ := hd.list_inv
    obtain ⟨b, ys, rfl, hb, hy⟩ := he.list_inv
    have l1 := Das.len hx; have l2 := Das.len hy
    exact op_catR pins s σ H _ _ v u Q I rx ry ⟨a, b, xs, ys, rfl, rfl, hid_l ha, hid_l hb, by rw [l1, l2]; exact g.1, fun p hp => q _ _ (Ex.new hp) (by rw [g.2]; exact Da.new_lst hM hp (Das.app hx hy))⟩
  · obtain ⟨a, xs, rfl, ha, hx⟩ := hd.tup_inv
    obtain ⟨b, ys, rfl, hb, hy⟩ := he.tup_inv
    have l1 := Das.len hx; have l2 := Das.len hy
    refine op_catA pins s σ H _ _ v u Q I rx ry ⟨a, b, xs, ys, rfl, rfl, hid_t ha, hid_t hb, by rw [l1, l2]; exact g.1, fun e => ?_, fun _ e => ?_, fun _ _ p hp => q _ _ (Ex.new hp) (by rw [g.2]; exact Da.new_tup hM hp (Das.app hx hy))⟩
    · subst e; cases hx
      exact q _ H (Ex.refl H) (by rw [g.2]; exact Dq.tup hb hy)
    · subst e; cases hy
      exact q _ H (Ex.refl H) (by rw [g.2, List.append_nil]; exact Dq.tup ha hx)
theorem op_subD : OpR X (binaryOp .Sub) (rB X.K SubD) := by
  intro pins s σ H x y v u Q I rx ry h
  obtain ⟨M, d, e, z, hM, hd, he, g, q⟩ := h
  cases d <;> cases e <;> try exact g.elim
  have e1 := hd.int_inv; have e2 := he.int_inv; subst e1; subst e2
  exact op_sub pins s σ H _ _ v u Q I rx ry ⟨_, _, rfl, rfl, q _ H (Ex.refl H) (by rw [show z = _ from g]; exact .int _)⟩
def rRepR (K : Fg) : R2 := fun x y H Q => ∃ l k xs, x = .ref l ∧ y = .int k ∧ SqL K H l xs ∧ (-(2 ^ 63) ≤ k ∧ k < 2 ^ 63) ∧ xs.length * k.toNat ≤ sizeLine ∧ ∀ p, H p = none → Q (.ref p) (upd H p (.lst (List.replicate k.toNat xs).flatten))
theorem op_repR : OpR X (binaryOp .Mult) (rRepR X.K) := by
  intro pins s σ H _ _ v _ Q I rx ry h
  obtain ⟨l, k, xs, rfl, rfl, there, ⟨lo, hi⟩, room, done⟩ := h
  obtain ⟨t, rfl⟩ := ry
  obtain ⟨us, n, dd, sl, r, e, ob⟩ := list_obj I there
  cases rx
  have many : us.toArray.size * k.toNat ≤ sizeLine := by simpa [e] using room
  have c1 : ¬ (!Builtin.List.listFitsIndex k) = true := by simp [PySem.fitsIndex_both lo hi]
  have c2 : ¬ us.toArray.size * k.toNat > (2 ^ 63 - 1) / 8 := Nat.not_lt.mpr (Nat.le_trans many (by decide))
  have c3 : ¬ Builtin.List.listTooLong (us.toArray.size * k.toNat) = true := by
    rw [notLongL many]; exact Bool.false_ne_true
  have times := lm_list_mul_any l us.toArray n dd sl k t c1 c2 c3
  have turned := lm_int_rmul_list_any k t l us.toArray n dd sl
  refine wpAny_binaryOp_repeat_ref (T := "list") (U := "int") (by decide) ⟨_, ob, rfl⟩ (fun s' => typeIs_int s' k t) noFill_list_mul F.fills_int_mul F.slot_int_rmul repeat_list F.slot_int_index.lookup ?_
  have made := I.lnew (t' := s.toks) (r.rep k.toNat) (by simpa [PyProof.Rows.lm_len_rep_flat, Nat.mul_comm] using room)
  refine call_meets F.slot_int_rmul (typeIs_int s k t) F.entry_int_rmul (F.args_int_rmul_2 _ _) turned ⟨ob, rfl, ⟨_, ob, rfl⟩, call_meets F.slot_list_mul ⟨_, ob, rfl⟩ F.entry_list_mul (F.args_list_mul_2 _ _) times ⟨ob, ?_⟩⟩
  rw [PyProof.Rows.listMul_foldl_if]
  exact ⟨.ref _, _, made, rfl, done _ I.fresh⟩
theorem op_repS : OpR X (binaryOp .Mult) (fun x y H Q => ∃ a k, x = .str a ∧ y = .int k ∧ -(2 ^ 63) ≤ k ∧ k < 100000 ∧ a.length ≤ 100 ∧ Q (.str (repS a k)) H) := by
  intro pins s σ H x y v u Q I rx ry h
  obtain ⟨a, k, rfl, rfl, lo, hi, room, done⟩ := h
  obtain ⟨t, rfl⟩ := rx
  obtain ⟨t', rfl⟩ := ry
  have long : Builtin.Str.tooLong (a.length * k.toNat) = false := by
    have e1 : a.length * k.toNat ≤ 100 * 100000 := Nat.mul_le_mul room (by omega)
    exact PyProof.Rows.short24 (by omega)
  refine PySem.P.mul_str (by simp; omega) (fun h1 h2 => ?_) (fun h1 h2 => long) ?_
  · have e1 : (92233720368547 : Int) ≤ (2 ^ 63 - 1) / k := by
      rw [Int.le_ediv_iff_mul_le (by omega)]; omega
    omega
  · unfold repS at done
    split
    · rename_i c; rw [if_pos c] at done
      exact ⟨by first | exact Nat.zero_le _ | exact fits_reps (x := a) long, .str _, H, I.tok _, ⟨_, rfl⟩, done⟩
    · rename_i c; rw [if_neg c] at done
      split
      · rename_i c'; rw [if_pos c'] at done
        exact ⟨.str _, H, I, ⟨_, rfl⟩, done⟩
      · rename_i c'; rw [if_neg c'] at done
        exact ⟨by first | exact Nat.zero_le _ | exact fits_reps (x := a) long, .str _, H, I.tok _, ⟨_, rfl⟩, done⟩
theorem op_mulD : OpR X (binaryOp .Mult) (rB X.K MulD) := by
  intro pins s σ H x y v u Q I rx ry h
  obtain ⟨M, d, e, z, hM, hd, he, g, q⟩ := h
  cases d <;> cases e <;> try exact g.elim
  · have e1 := hd.int_inv; have e2 := he.int_inv; subst e1; subst e2
    exact op_mul pins s σ H _ _ v u Q I rx ry ⟨_, _, rfl, rfl, g.1, q _ H (Ex.refl H) (by rw [g.2]; exact .int _)⟩
  · have e1 := hd.str_inv; have e2 := he.int_inv; subst e1; subst e2
    exact op_repS pins s σ H _ _ v u Q I rx ry ⟨_, _, rfl, rfl, g.1, g.2.1, g.2.2.1, q _ H (Ex.refl H) (by rw [g.2.2.2]; exact .str _)⟩
  · obtain ⟨a, xs, rfl, ha, hx⟩ := hd.list_inv
    have e2 := he.int_inv; subst e2
    have l1 := Das.len hx
    exact op_repR pins s σ H _ _ v u Q I rx ry ⟨a, _, xs, rfl, rfl, hid_l ha, ⟨g.1, g.2.1⟩, by rw [l1]; exact g.2.2.1, fun p hp => q _ _ (Ex.new hp) (by rw [g.2.2.2]; exact Da.new_lst hM hp (Das.rep hx _))⟩
theorem op_divD : OpR X (binaryOp .FloorDiv) (rB X.K DivD) := by
  intro pins s σ H x y v u Q I rx ry h
  obtain ⟨M, d, e, z, hM, hd, he, g, q⟩ := h
  cases d <;> cases e <;> try exact g.elim
  have e1 := hd.int_inv; have e2 := he.int_inv; subst e1; subst e2
  exact op_fdiv pins s σ H _ _ v u Q I rx ry ⟨_, _, rfl, rfl, g.1, q _ H (Ex.refl H) (by rw [g.2]; exact .int _)⟩
theorem op_modD : OpR X (binaryOp .Mod) (rB X.K ModD) := by
  intro pins s σ H x y v u Q I rx ry h
  obtain ⟨M, d, e, z, hM, hd, he, g, q⟩ := h
  cases d <;> cases e <;> try exact g.elim
  have e1 := hd.int_inv; have e2 := he.int_inv; subst e1; subst e2
  exact op_mod pins s σ H _ _ v u Q I rx ry ⟨_, _, rfl, rfl, g.1, q _ H (Ex.refl H) (by rw [g.2]; exact .int _)⟩
theorem op_powD : OpR X (binaryOp .Pow) (rB X.K PowD) := by
  intro pins s σ H x y v u Q I rx ry h
  obtain ⟨M, d, e, z, hM, hd, he, g, q⟩ := h
  cases d <;> cases e <;> try exact g.elim
  have e1 := hd.int_inv; have e2 := he.int_inv; subst e1; subst e2
  exact op_pow pins s σ H _ _ v u Q I rx ry ⟨_, _, rfl, rfl, g.1, q _ H (Ex.refl H) (by rw [g.2]; exact .int _)⟩
theorem op_ltD : OpR X (compareOp .Lt) (rB X.K LtD) := by
  intro pins s σ H x y v u Q I rx ry h
  obtain ⟨M, d, e, z, hM, hd, he, g, q⟩ := h
  cases d <;> cases e <;> try exact g.elim
  · have e1 := hd.int_inv; have e2 := he.int_inv; subst e1; subst e2
    exact op_lt pins s σ H _ _ v u Q I rx ry ⟨_, _, rfl, rfl, q _ H (Ex.refl H) (by rw [show z = _ from g]; exact .bl _)⟩
  · have e1 := hd.str_inv; have e2 := he.str_inv; subst e1; subst e2
    exact op_lt_str pins s σ H _ _ v u Q I rx ry ⟨_, _, rfl, rfl, q _ H (Ex.refl H) (by rw [show z = _ from g]; exact .bl _)⟩
theorem op_leD : OpR X (compareOp .LtE) (rB X.K LeD) := by
  intro pins s σ H x y v u Q I rx ry h
  obtain ⟨M, d, e, z, hM, hd, he, g, q⟩ := h
  cases d <;> cases e <;> try exact g.elim
  · have e1 := hd.int_inv; have e2 := he.int_inv; subst e1; subst e2
    exact op_le pins s σ H _ _ v u Q I rx ry ⟨_, _, rfl, rfl, q _ H (Ex.refl H) (by rw [show z = _ from g]; exact .bl _)⟩
  · have e1 := hd.str_inv; have e2 := he.str_inv; subst e1; subst e2
    exact op_le_str pins s σ H _ _ v u Q I rx ry ⟨_, _, rfl, rfl, q _ H (Ex.refl H) (by rw [show z = _ from g]; exact .bl _)⟩
theorem op_gtD : OpR X (compareOp .Gt) (rB X.K GtD) := by
  intro pins s σ H x y v u Q I rx ry h
  obtain ⟨M, d, e, z, hM, hd, he, g, q⟩ := h
  cases d <;> cases e <;> try exact g.elim
  · have e1 := hd.int_inv; have e2 := he.int_inv; subst e1; subst e2
    exact op_gt pins s σ H _ _ v u Q I rx ry ⟨_, _, rfl, rfl, q _ H (Ex.refl H) (by rw [show z = _ from g]; exact .bl _)⟩
  · have e1 := hd.str_inv; have e2 := he.str_inv; subst e1; subst e2
    exact op_gt_str pins s σ H _ _ v u Q I rx ry ⟨_, _, rfl, rfl, q _ H (Ex.refl H) (by rw [show z = _ from g]; exact .bl _)⟩
theorem op_geD : OpR X (compareOp .GtE) (rB X.K GeD) := by
  intro pins s σ H x y v u Q I rx ry h
  obtain ⟨M, d, e, z, hM, hd, he, g, q⟩ := h
  cases d <;> cases e <;> try exact g.elim
  · have e1 := hd.int_inv; have e2 := he.int_inv; subst e1; subst e2
    exact op_ge pins s σ H _ _ v u Q I rx ry ⟨_, _, rfl, rfl, q _ H (Ex.refl H) (by rw [show z = _ from g]; exact .bl _)⟩
  · have e1 := hd.str_inv; have e2 := he.str_inv; subst e1; subst e2
    exact op_ge_str pins s σ H _ _ v u Q I rx ry ⟨_, _, rfl, rfl, q _ H (Ex.refl H) (by rw [show z = _ from g]; exact .bl _)⟩
theorem Shr.both {d e : PyData} (h1 : Shr d e d) (h2 : Shr d e e) : (Shp d ∧ Shp e) ∨ ∃ a b, d = .str a ∧ e = .str b := by
  have two : strD d = true ∧ strD e = true → ∃ a b, d = PyData.str a ∧ e = PyData.str b := fun ⟨p, q⟩ => by
    cases d <;> cases e <;> first | exact ⟨_, _, rfl, rfl⟩ | exact absurd p Bool.false_ne_true | exact absurd q Bool.false_ne_true
  rcases h1 with h1 | h1
  · rcases h2 with h2 | h2
    · exact .inl ⟨h1, h2⟩
    · exact .inr (two h2)
  · exact .inr (two h1)
theorem eqv_strs {a b : Str} : decide (V.str a = V.str b) = PyData.eqv (.str a) (.str b) := by
  unfold PyData.eqv; exact dec_str
theorem op_eqDD (hu : X.A.units + 64 < cLine) : OpR X (compareOp .Eq) (rB X.K EqD) := by
  intro pins s σ H x y v u Q I rx ry h
  obtain ⟨M, d, e, z, hM, hd, he, g, q⟩ := h
  rcases Shr.both g.1 g.2.1 with ⟨s1, s2⟩ | ⟨a, b, rfl, rfl⟩
  · exact op_eqD hu pins s σ H _ _ v u Q I rx ry ⟨d, e, hd.dp, he.dp, s1, s2, q _ H (Ex.refl H) (by rw [g.2.2]; exact .bl _)⟩
  · have e1 := hd.str_inv; have e2 := he.str_inv; subst e1; subst e2
    exact op_eq pins s σ H _ _ v u Q I rx ry ⟨rfl, q _ H (Ex.refl H) (by rw [g.2.2, eqv_strs]; exact .bl _)⟩
theorem op_neDD (hu : X.A.units + 64 < cLine) : OpR X (compareOp .NotEq) (rB X.K NeD) := by
  intro pins s σ H x y v u Q I rx ry h
  obtain ⟨M, d, e, z, hM, hd, he, g, q⟩ := h
  rcases Shr.both g.1 g.2.1 with ⟨s1, s2⟩ | ⟨a, b, rfl, rfl⟩
  · exact op_neD hu pins s σ H _ _ v u Q I rx ry ⟨d, e, hd.dp, he.dp, s1, s2, q _ H (Ex.refl H) (by rw [g.2.2]; exact .bl _)⟩
  · have e1 := hd.str_inv; have e2 := he.str_inv; subst e1; subst e2
    exact op_ne pins s σ H _ _ v u Q I rx ry ⟨rfl, q _ H (Ex.refl H) (by rw [g.2.2, eqv_strs]; exact .bl _)⟩
theorem flat_of {K : Fg} {M : Ms} {H : Hp} {x : V} {d : PyData} (h : Da K M H x d) (f : flatD d = true) : flatV x = true := by
  cases h <;> first | rfl | cases f
theorem flats_of {K : Fg} {M : Ms} {H : Hp} : ∀ {xs : List V} {ds : List PyData}, Das K M H xs ds → ds.all flatD = true → xs.all flatV = true
  | _, _, .nil, _ => rfl
  | _, _, .cons h t, f => by
    rw [List.all_cons, Bool.and_eq_true] at f
    rw [List.all_cons, flat_of h f.1, flats_of t f.2]; rfl
theorem eqv_of {K : Fg} {M : Ms} {H : Hp} {x y : V} {d e : PyData} (h : Da K M H x d) (h' : Da K M H y e) (f : flatD d = true) (f' : flatD e = true) : eqV x y = PyData.eqv d e := by
  cases h <;> cases h' <;> first | rfl | (cases f; done) | (cases f'; done) | (unfold PyData.eqv eqV; first | rfl | simp)
theorem inV_of {K : Fg} {M : Ms} {H : Hp} {y : V} {e : PyData} (h' : Da K M H y e) (f' : flatD e = true) : ∀ {xs : List V} {ds : List PyData}, Das K M H xs ds → ds.all flatD = true → inV y xs = ds.any fun z => PyData.eqv z e
  | _, _, .nil, _ => rfl
  | _, _, .cons (v := v) (vs := vs) h t, f => by
    rw [List.all_cons, Bool.and_eq_true] at f
    have ih := inV_of h' f' t f.2
    show (eqV v y || inV y vs) = _
    rw [ih, eqv_of h h' f.1 f', List.any_cons]
theorem op_inDD (hu : X.A.units + 65 < cLine) : OpR X (compareOp .In) (rB X.K InD) := by
  intro pins s σ H x y v u Q I rx ry h
  obtain ⟨M, d, e, z, hM, hd, he, g, q⟩ := h
  cases e with
  | str t =>
    cases d <;> try exact g.elim
    obtain ⟨k, rfl, g⟩ := g
    have e1 := hd.str_inv; have e2 := he.str_inv; subst e1; subst e2
    exact op_in_sign pins s σ H _ _ v u Q I rx ry ⟨_, _, rfl, rfl, q _ H (Ex.refl H) (by rw [g]; exact .bl _)⟩
  | list ds =>
    have g : Shp d ∧ Shp (.list ds) ∧ z = .bool (ds.any fun y => PyData.eqv y d) := by cases d <;> exact g
    exact op_inD hu pins s σ H _ _ v u Q I rx ry ⟨d, ds, hd.dp, he.dp, g.1, g.2.1, q _ H (Ex.refl H) (by rw [g.2.2]; exact .bl _)⟩
  | tuple ds =>
    have g : flatD d = true ∧ ds.all flatD = true ∧ z = .bool (ds.any fun y => PyData.eqv y d) := by cases d <;> exact g
    obtain ⟨a, xs, rfl, ha, hx⟩ := he.tup_inv
    refine op_in_seq pins s σ H _ _ v u Q I rx ry ⟨a, xs, rfl, .inr (hid_t ha), flat_of hd g.1, flats_of hx g.2.1, q _ H (Ex.refl H) ?_⟩
    rw [g.2.2, ← inV_of hd g.1 hx g.2.1]; exact .bl _
  | none => cases d <;> exact g.elim
  | bool b => cases d <;> exact g.elim
  | int b => cases d <;> exact g.elim
  | dict b => cases d <;> exact g.elim
theorem op_notInDD (hu : X.A.units + 65 < cLine) : OpR X (compareOp .NotIn) (rB X.K NotInD) := by
  intro pins s σ H x y v u Q I rx ry h
  obtain ⟨M, d, e, z, hM, hd, he, g, q⟩ := h
  cases e with
  | str t =>
    cases d <;> try exact g.elim
    obtain ⟨k, rfl, g⟩ := g
    have e1 := hd.str_inv; have e2 := he.str_inv; subst e1; subst e2
    exact op_notIn_sign pins s σ H _ _ v u Q I rx ry ⟨_, _, rfl, rfl, q _ H (Ex.refl H) (by rw [g]; exact .bl _)⟩
  | list ds =>
    have g : Shp d ∧ Shp (.list ds) ∧ z = .bool (!ds.any fun y => PyData.eqv y d) := by cases d <;> exact g
    exact op_notInD hu pins s σ H _ _ v u Q I rx ry ⟨d, ds, hd.dp, he.dp, g.1, g.2.1, q _ H (Ex.refl H) (by rw [g.2.2]; exact .bl _)⟩
  | tuple ds =>
    have g : flatD d = true ∧ ds.all flatD = true ∧ z = .bool (!ds.any fun y => PyData.eqv y d) := by cases d <;> exact g
    obtain ⟨a, xs, rfl, ha, hx⟩ := he.tup_inv
    refine op_notIn_seq pins s σ H _ _ v u Q I rx ry ⟨a, xs, rfl, .inr (hid_t ha), flat_of hd g.1, flats_of hx g.2.1, q _ H (Ex.refl H) ?_⟩
    rw [g.2.2, ← inV_of hd g.1 hx g.2.1]; exact .bl _
  | none => cases d <;> exact g.elim
  | bool b => cases d <;> exact g.elim
  | int b => cases d <;> exact g.elim
  | dict b => cases d <;> exact g.elim
/-- x is None, of any value -/
def rIsNone : R2 := fun x y H Q => y = .non ∧ Q (.bl (decide (x = .non))) H
def rNotNone : R2 := fun x y H Q => y = .non ∧ Q (.bl (!decide (x = .non))) H
theorem op_isNoneD : OpR X (compareOp .Is) rIsNone := op_isN
theorem op_notNoneD : OpR X (compareOp .IsNot) rNotNone := op_notN
theorem un_negD : UnR X (unaryOp .USub) (rU1 X.K fun d z => ∃ i, d = .int i ∧ z = .int (-i)) := by
  intro pins s σ H x v Q I rx h
  obtain ⟨M, d, z, hM, hd, ⟨i, rfl, rfl⟩, q⟩ := h
  have e1 := hd.int_inv; subst e1
  exact un_neg pins s σ H _ v Q I rx ⟨i, rfl, q _ H (Ex.refl H) (.int _)⟩
/-! ### subscripts -/
def IxD : PyData → PyData → PyData → Prop
  | .list ds, .int i, z => atI ds i = some z
  | .tuple ds, .int i, z => atI ds i = some z
  | .str x, .int i, z => x.length ≤ sizeLine ∧ ∃ c, atI x.cps.toList i = some c ∧ z = .str ⟨#[c]⟩
  | _, _, _ => False
theorem atI_das {K : Fg} {H : Hp} {xs : List V} {ds : List PyData} {i : Int} {z : PyData} (h : DqAll K H xs ds) (e : atI ds i = some z) : ∃ v, atI xs i = some v ∧ Dq K H v z := by
  unfold atI at e ⊢
  rw [Das.len h]
  cases q : ixN ds.length i with
  | none => rw [q] at e; cases e
  | some j => rw [q] at e; exact Das.get h e
theorem ix_D : IxR X (rB X.K IxD) := by
  intro value slice pins s σ H x y v u Q I rx ry h hp
  obtain ⟨M, d, e, z, hM, hd, he, g, q⟩ := h
  cases d <;> cases e <;> try exact g.elim
  · have e1 := hd.str_inv; have e2 := he.int_inv; subst e1; subst e2
    obtain ⟨g1, c, g2, rfl⟩ := g
    exact ix_str value slice pins s σ H _ _ v u Q I rx ry ⟨_, _, c, rfl, rfl, g1, g2, q _ H (Ex.refl H) (.str _)⟩ hp
  · obtain ⟨a, xs, rfl, ha, hx⟩ := hd.list_inv
    have e2 := he.int_inv; subst e2
    obtain ⟨w, h1, h2⟩ := atI_das hx g
    exact ix_list value slice pins s σ H _ _ v u Q I rx ry ⟨a, xs, _, w, rfl, rfl, (hid_l ha), h1, q _ H (Ex.refl H) h2⟩ hp
  · obtain ⟨a, xs, rfl, ha, hx⟩ := hd.tup_inv
    have e2 := he.int_inv; subst e2
    obtain ⟨w, h1, h2⟩ := atI_das hx g
    exact ix_tup value slice pins s σ H _ _ v u Q I rx ry ⟨a, xs, _, w, rfl, rfl, hid_t ha, h1, q _ H (Ex.refl H) h2⟩ hp
def cutD (xs : List PyData) (lo hi : Option Int) : List PyData := (xs.drop (HT.sIx xs.length 0 lo)).take (HT.sIx xs.length xs.length hi - HT.sIx xs.length 0 lo)
def SlD : PyData → Option Int → Option Int → PyData → Prop
  | .list ds, lo, hi, z => z = .list (cutD ds lo hi)
  | .tuple ds, lo, hi, z => z = .tuple (cutD ds lo hi)
  | .str x, lo, hi, z => x.length ≤ sizeLine ∧ z = .str (cutS x lo hi)
  | _, _, _, _ => False
theorem das_cut {K : Fg} {H : Hp} {xs : List V} {ds : List PyData} (h : DqAll K H xs ds) (lo hi : Option Int) : DqAll K H (cutV xs lo hi) (cutD ds lo hi) := by
  unfold cutV cutD
  rw [Das.len h]
  exact Das.take _ (Das.drop _ h)
theorem sl_D : SlR X (rSl X.K SlD) := by
  intro pins s σ H x v vl vu lo hi sl Q I rx hs pl pu h
  obtain ⟨M, d, z, hM, hd, g, q⟩ := h
  cases d <;> try exact g.elim
  · have e1 := hd.str_inv; subst e1
    exact sl_str pins s σ H _ v vl vu lo hi sl Q I rx hs pl pu ⟨_, rfl, g.1, q _ H (Ex.refl H) (by rw [g.2]; exact .str _)⟩
  · obtain ⟨a, xs, rfl, ha, hx⟩ := hd.list_inv
    exact sl_list pins s σ H _ v vl vu lo hi sl Q I rx hs pl pu ⟨a, xs, rfl, (hid_l ha), fun p hp => q _ _ (Ex.new hp) (by rw [show z = _ from g]; exact Da.new_lst hM hp (das_cut hx lo hi))⟩
  · obtain ⟨a, xs, rfl, ha, hx⟩ := hd.tup_inv
    have e := das_cut hx lo hi
    refine sl_tupA pins s σ H _ v vl vu lo hi sl Q I rx hs pl pu ⟨a, xs, rfl, hid_t ha, fun w => ?_, fun _ p hp => q _ _ (Ex.new hp) (by rw [show z = _ from g]; exact Da.new_tup hM hp e)⟩
    refine q _ H (Ex.refl H) ?_
    rw [show z = _ from g]
    have e2 : cutV xs lo hi = xs := by
      unfold cutV; rw [w.1, w.2]; simp
    rw [e2] at e
    exact Dq.tup ha e
/-! ### built-ins on data -/
def LenD : List PyData → PyData → Prop
  | [.str x], z => x.length ≤ sizeLine ∧ z = .int x.length
  | [.list ds], z => z = .int ds.length
  | [.tuple ds], z => z = .int ds.length
  | _, _ => False
theorem Das.one {K : Fg} {H : Hp} {vs : List V} {d : PyData} (h : DqAll K H vs [d]) : ∃ v, vs = [v] ∧ Dq K H v d := by
  cases h with | cons a t => cases t; exact ⟨_, rfl, a⟩
theorem Das.two {K : Fg} {H : Hp} {vs : List V} {d e : PyData} (h : DqAll K H vs [d, e]) : ∃ v u, vs = [v, u] ∧ Dq K H v d ∧ Dq K H u e := by
  cases h with | cons a t => obtain ⟨u, rfl, b⟩ := Das.one t; exact ⟨_, _, rfl, a, b⟩
theorem call_lenD : CallR X (.builtin "len") (rC X.K LenD) := by
  intro pins s σ H xs us Q I rx h
  obtain ⟨M, ds, z, hM, hd, g, q⟩ := h
  match ds, g with
  | [.str x], g =>
    obtain ⟨v, rfl, h1⟩ := Das.one hd
    have e1 := Da.str_inv h1; subst e1
    exact call_len_str pins s σ H _ us Q I rx ⟨x, rfl, g.1, q _ H (Ex.refl H) (by rw [g.2]; exact .int _)⟩
  | [.list ds], g =>
    obtain ⟨v, rfl, h1⟩ := Das.one hd
    obtain ⟨a, xs, rfl, ha, hx⟩ := Da.list_inv h1
    exact call_len_seq pins s σ H _ us Q I rx ⟨a, xs, rfl, .inl (hid_l ha), q _ H (Ex.refl H) (by rw [show z = _ from g, Das.len hx]; exact .int _)⟩
  | [.tuple ds], g =>
    obtain ⟨v, rfl, h1⟩ := Das.one hd
    obtain ⟨a, xs, rfl, ha, hx⟩ := Da.tup_inv h1
    exact call_len_seq pins s σ H _ us Q I rx ⟨a, xs, rfl, .inr (hid_t ha), q _ H (Ex.refl H) (by rw [show z = _ from g, Das.len hx]; exact .int _)⟩
def SumD : List PyData → PyData → Prop
  | [.list ds], z => ∃ ns : List Int, ds = ns.map PyData.int ∧ z = .int ns.sum
  | _, _ => False
theorem call_sumD (hc : X.calm = true) : CallR X (.builtin "sum") (rC X.K SumD) := by
  intro pins s σ H xs us Q I rx h
  obtain ⟨M, ds, z, hM, hd, g, q⟩ := h
  match ds, g with
  | [.list ds], g =>
    obtain ⟨v, rfl, h1⟩ := Das.one hd
    obtain ⟨a, xs, rfl, ha, hx⟩ := Da.list_inv h1
    obtain ⟨ns, rfl, g⟩ := g
    have e := Das.ints hx; subst e
    exact cr_sum hc pins s σ H _ us Q I rx ⟨a, ns, rfl, (hid_l ha), q _ H (Ex.refl H) (by rw [g]; exact .int _)⟩
def AllD : List PyData → PyData → Prop
  | [.list ds], z => ∃ ns : List Bool, ds = ns.map PyData.bool ∧ z = .bool (ns.all id)
  | _, _ => False
def AnyD : List PyData → PyData → Prop
  | [.list ds], z => ∃ ns : List Bool, ds = ns.map PyData.bool ∧ z = .bool (ns.any id)
  | _, _ => False
theorem call_allD (hc : X.calm = true) : CallR X (.builtin "all") (rC X.K AllD) := by
  intro pins s σ H xs us Q I rx h
  obtain ⟨M, ds, z, hM, hd, g, q⟩ := h
  match ds, g with
  | [.list ds], g =>
    obtain ⟨v, rfl, h1⟩ := Das.one hd
    obtain ⟨a, xs, rfl, ha, hx⟩ := Da.list_inv h1
    obtain ⟨ns, rfl, g⟩ := g
    have e := Das.bls hx; subst e
    exact cr_all hc pins s σ H _ us Q I rx ⟨a, ns, rfl, (hid_l ha), q _ H (Ex.refl H) (by rw [g]; exact .bl _)⟩
theorem call_anyD (hc : X.calm = true) : CallR X (.builtin "any") (rC X.K AnyD) := by
  intro pins s σ H xs us Q I rx h
  obtain ⟨M, ds, z, hM, hd, g, q⟩ := h
  match ds, g with
  | [.list ds], g =>
    obtain ⟨v, rfl, h1⟩ := Das.one hd
    obtain ⟨a, xs, rfl, ha, hx⟩ := Da.list_inv h1
    obtain ⟨ns, rfl, g⟩ := g
    have e := Das.bls hx; subst e
    exact cr_any hc pins s σ H _ us Q I rx ⟨a, ns, rfl, (hid_l ha), q _ H (Ex.refl H) (by rw [g]; exact .bl _)⟩
def Min2D : List PyData → PyData → Prop
  | [.int i, .int j], z => z = .int (min i j)
  | _, _ => False
def Max2D : List PyData → PyData → Prop
  | [.int i, .int j], z => z = .int (max i j)
  | _, _ => False
theorem call_min2D (hc : X.calm = true) : CallR X (.builtin "min") (rC X.K Min2D) := by
  intro pins s σ H xs us Q I rx h
  obtain ⟨M, ds, z, hM, hd, g, q⟩ := h
  match ds, g with
  | [.int i, .int j], g =>
    obtain ⟨v, u, rfl, h1, h2⟩ := Das.two hd
    have e1 := Da.int_inv h1; have e2 := Da.int_inv h2; subst e1; subst e2
    have e : (if j < i then j else i) = min i j := by omega
    exact call_min2 hc pins s σ H _ us Q I rx ⟨i, j, rfl, q _ H (Ex.refl H) (by rw [show z = _ from g, e]; exact .int _)⟩
theorem call_max2D (hc : X.calm = true) : CallR X (.builtin "max") (rC X.K Max2D) := by
  intro pins s σ H xs us Q I rx h
  obtain ⟨M, ds, z, hM, hd, g, q⟩ := h
  match ds, g with
  | [.int i, .int j], g =>
    obtain ⟨v, u, rfl, h1, h2⟩ := Das.two hd
    have e1 := Da.int_inv h1; have e2 := Da.int_inv h2; subst e1; subst e2
    have e : (if j > i then j else i) = max i j := by omega
    exact call_max2 hc pins s σ H _ us Q I rx ⟨i, j, rfl, q _ H (Ex.refl H) (by rw [show z = _ from g, e]; exact .int _)⟩
def AbsD : List PyData → PyData → Prop
  | [.int i], z => z = .int (if i < 0 then -i else i)
  | _, _ => False
theorem call_absD : CallR X (.builtin "abs") (rC X.K AbsD) := by
  intro pins s σ H xs us Q I rx h
  obtain ⟨M, ds, z, hM, hd, g, q⟩ := h
  match ds, g with
  | [.int i], g =>
    obtain ⟨v, rfl, h1⟩ := Das.one hd
    have e1 := Da.int_inv h1; subst e1
    exact call_abs pins s σ H _ us Q I rx ⟨i, rfl, q _ H (Ex.refl H) (by rw [show z = _ from g]; exact .int _)⟩
def IntD : List PyData → PyData → Prop
  | [.int i], z => z = .int i
  | [.bool b], z => z = .int (if b then 1 else 0)
  | [.str x], z => ∃ n, PySem.intText? x = some n ∧ x.length ≤ 640 ∧ z = .int n
  | _, _ => False
theorem call_intD : CallR X (.type "int") (rC X.K IntD) := by
  intro pins s σ H xs us Q I rx h
  obtain ⟨M, ds, z, hM, hd, g, q⟩ := h
  match ds, g with
  | [.int i], g =>
    obtain ⟨v, rfl, h1⟩ := Das.one hd
    have e1 := Da.int_inv h1; subst e1
    exact call_int1 pins s σ H _ us Q I rx (.inl ⟨i, rfl, q _ H (Ex.refl H) (by rw [show z = _ from g]; exact .int _)⟩)
  | [.bool i], g =>
    obtain ⟨v, rfl, h1⟩ := Das.one hd
    have e1 := Da.bl_inv h1; subst e1
    exact call_int1 pins s σ H _ us Q I rx (.inr ⟨i, rfl, q _ H (Ex.refl H) (by rw [show z = _ from g]; exact .int _)⟩)
  | [.str i], g =>
    obtain ⟨v, rfl, h1⟩ := Das.one hd
    have e1 := Da.str_inv h1; subst e1
    obtain ⟨n, g1, g2, g3⟩ := g
    exact call_int_str pins s σ H _ us Q I rx ⟨i, n, rfl, g1, g2, q _ H (Ex.refl H) (by rw [g3]; exact .int _)⟩
def StrD : List PyData → PyData → Prop
  | [.int i], z => i.natAbs.log2 < 1920 ∧ z = .str (toString i)
  | _, _ => False
theorem call_strD : CallR X (.type "str") (rC X.K StrD) := by
  intro pins s σ H xs us Q I rx h
  obtain ⟨M, ds, z, hM, hd, g, q⟩ := h
  match ds, g with
  | [.int i], g =>
    obtain ⟨v, rfl, h1⟩ := Das.one hd
    have e1 := Da.int_inv h1; subst e1
    exact call_str_int pins s σ H _ us Q I rx ⟨i, rfl, g.1, q _ H (Ex.refl H) (by rw [g.2]; exact .str _)⟩
def ListD : List PyData → PyData → Prop
  | [.list ds], z => z = .list ds
  | [.tuple ds], z => z = .list ds
  | _, _ => False
theorem call_listD : CallR X (.type "list") (rC X.K ListD) := by
  intro pins s σ H xs us Q I rx h
  obtain ⟨M, ds, z, hM, hd, g, q⟩ := h
  match ds, g with
  | [.list ds], g =>
    obtain ⟨v, rfl, h1⟩ := Das.one hd
    obtain ⟨a, xs, rfl, ha, hx⟩ := Da.list_inv h1
    exact call_list_of pins s σ H _ us Q I rx ⟨a, xs, rfl, .inl (hid_l ha), fun p hp => q _ _ (Ex.new hp) (by rw [show z = _ from g]; exact Da.new_lst hM hp hx)⟩
  | [.tuple ds], g =>
    obtain ⟨v, rfl, h1⟩ := Das.one hd
    obtain ⟨a, xs, rfl, ha, hx⟩ := Da.tup_inv h1
    exact call_list_of pins s σ H _ us Q I rx ⟨a, xs, rfl, .inr (hid_t ha), fun p hp => q _ _ (Ex.new hp) (by rw [show z = _ from g]; exact Da.new_lst hM hp hx)⟩
def TupleD : List PyData → PyData → Prop
  | [.list ds], z => z = .tuple ds
  | [.tuple ds], z => z = .tuple ds
  | _, _ => False
theorem call_tupleD : CallR X (.type "tuple") (rC X.K TupleD) := by
  intro pins s σ H xs us Q I rx h
  obtain ⟨M, ds, z, hM, hd, g, q⟩ := h
  match ds, g with
  | [.list ds], g =>
    obtain ⟨v, rfl, h1⟩ := Das.one hd
    obtain ⟨a, xs, rfl, ha, hx⟩ := Da.list_inv h1
    exact call_tuple_of pins s σ H _ us Q I rx ⟨a, xs, rfl, .inl ⟨(hid_l ha), fun p hp => q _ _ (Ex.new hp) (by rw [show z = _ from g]; exact Da.new_tup hM hp hx)⟩⟩
  | [.tuple ds], g =>
    obtain ⟨v, rfl, h1⟩ := Das.one hd
    have h0 := h1
    obtain ⟨a, xs, rfl, ha, hx⟩ := Da.tup_inv h1
    exact call_tuple_of pins s σ H _ us Q I rx ⟨a, xs, rfl, .inr ⟨hid_t ha, q _ H (Ex.refl H) (by rw [show z = _ from g]; exact h0)⟩⟩
end
end DL
set_option maxRecDepth 100000
namespace DL
open PySem L2

/-! ### pure evaluation -/
def EvR (K : Fg) (te : TE) (ρ : Ro) (M : Ms) (H : Hp) (s : Sl) : Prop :=
  ∀ H1 σ, Ex H H1 → Md M H1 → Env K M H1 σ ρ → ∀ Q : VK, (∀ v H2, Ex H1 H2 → Rl K M H2 v s → Q v H2) → te σ H1 Q
abbrev EvD (K : Fg) (te : TE) (ρ : Ro) (M : Ms) (H : Hp) (d : PyData) : Prop := EvR K te ρ M H (.d d)
def EvB (K : Fg) (tt : TT) (ρ : Ro) (M : Ms) (H : Hp) (b : Bool) : Prop :=
  ∀ H1 σ, Ex H H1 → Md M H1 → Env K M H1 σ ρ → ∀ Q : Bool → Hp → Prop, (∀ H2, Ex H1 H2 → Q b H2) → tt σ H1 Q
def Rls (K : Fg) (M : Ms) (H : Hp) : List V → List Sl → Prop
  | [], [] => True
  | v :: vs, s :: ss => Rl K M H v s ∧ Rls K M H vs ss
  | _, _ => False
theorem Rls.go {K : Fg} {M : Ms} {H H' : Hp} (g : Go M H H') : ∀ {vs : List V} {ss : List Sl}, Rls K M H vs ss → Rls K M H' vs ss
  | [], [], h => h
  | _ :: _, _ :: _, h => ⟨h.1.go g, Rls.go g h.2⟩
theorem Rls.mono {K : Fg} {M N : Ms} {H : Hp} (g : ∀ a, a ∈ M.h → a ∈ N.h) : ∀ {vs : List V} {ss : List Sl}, Rls K N H vs ss → Rls K M H vs ss
  | [], [], h => h
  | _ :: _, _ :: _, h => ⟨h.1.mono g, Rls.mono g h.2⟩
theorem Rls.das {K : Fg} {M : Ms} {H : Hp} : ∀ {vs : List V} {ds : List PyData}, Rls K M H vs (ds.map Sl.d) → Das K M H vs ds
  | [], [], _ => .nil
  | v :: vs, d :: ds, h => .cons h.1 (Rls.das h.2)
theorem Rls.len {K : Fg} {M : Ms} {H : Hp} : ∀ {vs : List V} {ss : List Sl}, Rls K M H vs ss → vs.length = ss.length
  | [], [], _ => rfl
  | v :: vs, d :: ds, h => by rw [List.length_cons, List.length_cons, Rls.len h.2]
theorem Rls.get {K : Fg} {M : Ms} {H : Hp} : ∀ {vs : List V} {ss : List Sl} {i : Nat} {v s}, Rls K M H vs ss → vs[i]? = some v → ss[i]? = some s → Rl K M H v s
  | [], [], _, _, _, _, e, _ => by simp at e
  | w :: vs, t :: ss, 0, v, s, h, e, e' => by simp at e e'; subst e; subst e'; exact h.1
  | w :: vs, t :: ss, i + 1, v, s, h, e, e' => Rls.get (i := i) h.2 (by simpa using e) (by simpa using e')
def EvA (K : Fg) (ta : TA) (ρ : Ro) (M : Ms) (H : Hp) (ss : List Sl) : Prop :=
  ∀ H1 σ, Ex H H1 → Md M H1 → Env K M H1 σ ρ → ∀ Q : List V → Hp → Prop, (∀ vs H2, Ex H1 H2 → Rls K M H2 vs ss → Q vs H2) → ta σ H1 Q
def EvAD (K : Fg) (ta : TA) (ρ : Ro) (M : Ms) (H : Hp) (ds : List PyData) : Prop :=
  ∀ H1 σ, Ex H H1 → Md M H1 → Env K M H1 σ ρ → ∀ Q : List V → Hp → Prop, (∀ vs H2, Ex H1 H2 → Das K M H2 vs ds → Q vs H2) → ta σ H1 Q
def EvO (K : Fg) (to : TO) (ρ : Ro) (M : Ms) (H : Hp) (o : Option Int) : Prop :=
  ∀ H1 σ, Ex H H1 → Md M H1 → Env K M H1 σ ρ → ∀ Q : Option Int → Hp → Prop, (∀ H2, Ex H1 H2 → Q o H2) → to σ H1 Q
section
variable {K : Fg} {ρ : Ro} {M : Ms} {H H' : Hp} {ta tb tc te : TE} {t u : TT} {s : Sl} {d e z : PyData} {b : Bool}
theorem EvR.ex (x : Ex H H') (h : EvR K te ρ M H s) : EvR K te ρ M H' s := fun H1 σ a => h H1 σ (x.trans a)
theorem EvB.ex (x : Ex H H') (h : EvB K t ρ M H b) : EvB K t ρ M H' b := fun H1 σ a => h H1 σ (x.trans a)
theorem EvR.is {s' : Sl} (h : EvR K te ρ M H s) (e : s = s') : EvR K te ρ M H s' := e ▸ h
theorem EvD.is {d' : PyData} (h : EvD K te ρ M H d) (e : d = d') : EvD K te ρ M H d' := e ▸ h
theorem EvB.is {b' : Bool} (h : EvB K t ρ M H b) (e : b = b') : EvB K t ρ M H b' := e ▸ h
theorem ev_var {i : Nat} (h : ρ[i]? = some (some s)) : EvR K (tVar i) ρ M H s := fun H1 σ _ _ en Q q => by
  obtain ⟨v, e1, r⟩ := en.2 i s h
  exact ⟨v, e1, q v H1 (Ex.refl _) r⟩
theorem ev_int {i : Int} : EvD K (tC (.int i)) ρ M H (.int i) := fun H1 σ _ _ _ Q q => q _ H1 (Ex.refl _) (Dq.int i)
theorem ev_str {i : Str} : EvD K (tC (.str i)) ρ M H (.str i) := fun H1 σ _ _ _ Q q => q _ H1 (Ex.refl _) (Dq.str i)
theorem ev_bl {i : Bool} : EvD K (tC (.bl i)) ρ M H (.bool i) := fun H1 σ _ _ _ Q q => q _ H1 (Ex.refl _) (Dq.bl i)
theorem ev_non : EvD K (tC .non) ρ M H .none := fun H1 σ _ _ _ Q q => q _ H1 (Ex.refl _) Dq.non
theorem ev_ty {n : String} : EvR K (tC (.ty n)) ρ M H (.v (.ty n)) := fun H1 σ _ _ _ Q q => q _ H1 (Ex.refl _) rfl
theorem ev_ref {a : Addr} : EvR K (tC (.ref a)) ρ M H (.v (.ref a)) := fun H1 σ _ _ _ Q q => q _ H1 (Ex.refl _) rfl
/-- a constant of the module that is data of the written part -/
theorem ev_kon {v : V} (h : ∀ H, Dq K (hid M H) v d) : EvD K (tC v) ρ M H d := fun H1 σ _ _ _ Q q => q _ H1 (Ex.refl _) (h _)
theorem ev_bin {g : PyData → PyData → PyData → Prop} (ha : EvD K ta ρ M H d) (hb : EvD K tb ρ M H e) (hg : g d e z) : EvD K (tOp (rB K g) ta tb) ρ M H z := fun H1 σ x m en Q q =>
  ha H1 σ x m en _ fun v H2 x2 r => hb H2 σ (x.trans x2) (m.ex x2) (en.ex x2) _ fun w H3 x3 r3 =>
    ⟨M, d, e, z, m.ex (x2.trans x3), r.ex x3, r3, hg, fun v' H4 x4 r4 => q v' H4 ((x2.trans x3).trans x4) r4⟩
theorem ev_un {g : PyData → PyData → Prop} (ha : EvD K ta ρ M H d) (hg : g d z) : EvD K (tUn (rU1 K g) ta) ρ M H z := fun H1 σ x m en Q q =>
  ha H1 σ x m en _ fun v H2 x2 r => ⟨M, d, z, m.ex x2, r, hg, fun v' H4 x4 r4 => q v' H4 (x2.trans x4) r4⟩
theorem ev_isN (ha : EvD K ta ρ M H d) : EvD K (tOp rIsNone ta (tC .non)) ρ M H (.bool (isNoneD d)) := fun H1 σ x m en Q q =>
  ha H1 σ x m en _ fun v H2 x2 r => ⟨rfl, q _ H2 x2 (by
    have e : decide (v = .non) = isNoneD d := by cases r <;> rfl
    rw [e]; exact Dq.bl _)⟩
theorem ev_notN (ha : EvD K ta ρ M H d) : EvD K (tOp rNotNone ta (tC .non)) ρ M H (.bool (!isNoneD d)) := fun H1 σ x m en Q q =>
  ha H1 σ x m en _ fun v H2 x2 r => ⟨rfl, q _ H2 x2 (by
    have e : decide (v = .non) = isNoneD d := by cases r <;> rfl
    rw [e]; exact Dq.bl _)⟩
theorem ead_nil : EvAD K tNil ρ M H [] := fun H1 σ _ _ _ Q q => q _ H1 (Ex.refl _) .nil
theorem ead_cons {tr : TA} {ds : List PyData} (h : EvD K ta ρ M H d) (hr : EvAD K tr ρ M H ds) : EvAD K (tCons ta tr) ρ M H (d :: ds) := fun H1 σ x m en Q q =>
  h H1 σ x m en _ fun v H2 x2 r => hr H2 σ (x.trans x2) (m.ex x2) (en.ex x2) _ fun vs H3 x3 r3 => q _ H3 (x2.trans x3) (.cons (Da.ex r x3) r3)
theorem ea_nil : EvA K tNil ρ M H [] := fun H1 σ _ _ _ Q q => q _ H1 (Ex.refl _) trivial
theorem ea_cons {tr : TA} {ss : List Sl} (h : EvR K ta ρ M H s) (hr : EvA K tr ρ M H ss) : EvA K (tCons ta tr) ρ M H (s :: ss) := fun H1 σ x m en Q q =>
  h H1 σ x m en _ fun v H2 x2 r => hr H2 σ (x.trans x2) (m.ex x2) (en.ex x2) _ fun vs H3 x3 r3 => q _ H3 (x2.trans x3) ⟨r.ex x3, r3⟩
theorem ev_cb {g : List PyData → PyData → Prop} {tl : TA} {ds : List PyData} (ha : EvAD K tl ρ M H ds) (hg : g ds z) : EvD K (tCB (rC K g) tl) ρ M H z := fun H1 σ x m en Q q =>
  ha H1 σ x m en _ fun vs H2 x2 r => ⟨M, ds, z, m.ex x2, r, hg, fun v' H4 x4 r4 => q v' H4 (x2.trans x4) r4⟩
theorem ev_lst {tl : TA} {ds : List PyData} (ha : EvAD K tl ρ M H ds) (hl : Nat.ble ds.length 100000 = true := by rfl) : EvD K (tLst tl) ρ M H (.list ds) := fun H1 σ x m en Q q =>
  ha H1 σ x m en _ fun vs H2 x2 r => ⟨by rw [Das.len r]; exact Nat.le_trans (Nat.le_of_ble_eq_true hl) (by decide), fun p hp => q _ _ (x2.trans (Ex.new hp)) (Da.new_lst (m.ex x2) hp r)⟩
theorem ev_tup {tl : TA} {ds : List PyData} (ha : EvAD K tl ρ M H ds) (hl : Nat.ble ds.length 100000 = true := by rfl) : EvD K (tTup tl) ρ M H (.tuple ds) := fun H1 σ x m en Q q =>
  ha H1 σ x m en _ fun vs H2 x2 r => ⟨by rw [Das.len r]; exact Nat.le_trans (Nat.le_of_ble_eq_true hl) (by decide), fun p hp => q _ _ (x2.trans (Ex.new hp)) (Da.new_tup (m.ex x2) hp r)⟩
theorem eo_none : EvO K tNoPart ρ M H none := fun H1 σ _ _ _ Q q => q H1 (Ex.refl _)
theorem eo_some {i : Int} (h : EvD K te ρ M H (.int i)) : EvO K (tPart te) ρ M H (some i) := fun H1 σ x m en Q q =>
  h H1 σ x m en _ fun v H2 x2 r => ⟨i, Da.int_inv r, q H2 x2⟩
theorem ev_sl {g : PyData → Option Int → Option Int → PyData → Prop} {tl th : TO} {lo hi : Option Int} (h : EvD K te ρ M H d) (h1 : EvO K tl ρ M H lo) (h2 : EvO K th ρ M H hi) (hg : g d lo hi z) : EvD K (tSl (rSl K g) te tl th) ρ M H z := fun H1 σ x m en Q q =>
  h H1 σ x m en _ fun v H2 x2 r => h1 H2 σ (x.trans x2) (m.ex x2) (en.ex x2) _ fun H3 x3 => h2 H3 σ ((x.trans x2).trans x3) (m.ex (x2.trans x3)) (en.ex (x2.trans x3)) _ fun H4 x4 =>
    ⟨M, d, z, m.ex ((x2.trans x3).trans x4), r.ex (x3.trans x4), hg, fun v' H5 x5 r5 => q v' H5 (((x2.trans x3).trans x4).trans x5) r5⟩
theorem ev_if (h : EvB K t ρ M H b) (h1 : b = true → EvR K ta ρ M H s) (h2 : b = false → EvR K tb ρ M H s) : EvR K (tIf t ta tb) ρ M H s := fun H1 σ x m en Q q =>
  h H1 σ x m en _ fun H2 x2 => by
    cases b with
    | true => exact h1 rfl H2 σ (x.trans x2) (m.ex x2) (en.ex x2) Q fun v H3 x3 r => q v H3 (x2.trans x3) r
    | false => exact h2 rfl H2 σ (x.trans x2) (m.ex x2) (en.ex x2) Q fun v H3 x3 r => q v H3 (x2.trans x3) r
theorem ev_ifD {x y : PyData} (h : EvB K t ρ M H b) (h1 : b = true → EvD K ta ρ M H x) (h2 : b = false → EvD K tb ρ M H y) : EvD K (tIf t ta tb) ρ M H (if b = true then x else y) :=
  ev_if h (fun e => by rw [if_pos e]; exact h1 e) (fun e => by rw [if_neg (by rw [e]; exact Bool.false_ne_true)]; exact h2 e)
theorem ev_andV {a b : Bool} (h1 : EvD K ta ρ M H (.bool a)) (h2 : a = true → EvD K tb ρ M H (.bool b)) : EvD K (tAndV ta tb) ρ M H (.bool (a && b)) := fun H1 σ x m en Q q =>
  h1 H1 σ x m en _ fun v H2 x2 r => ⟨a, Da.bl_inv r, by
    cases a with
    | true => exact h2 rfl H2 σ (x.trans x2) (m.ex x2) (en.ex x2) Q fun v H3 x3 r => q v H3 (x2.trans x3) r
    | false => exact q _ H2 x2 (Dq.bl _)⟩
theorem ev_orV {a b : Bool} (h1 : EvD K ta ρ M H (.bool a)) (h2 : a = false → EvD K tb ρ M H (.bool b)) : EvD K (tOrV ta tb) ρ M H (.bool (a || b)) := fun H1 σ x m en Q q =>
  h1 H1 σ x m en _ fun v H2 x2 r => ⟨a, Da.bl_inv r, by
    cases a with
    | false => exact h2 rfl H2 σ (x.trans x2) (m.ex x2) (en.ex x2) Q fun v H3 x3 r => q v H3 (x2.trans x3) r
    | true => exact q _ H2 x2 (Dq.bl _)⟩
theorem ev_notV {a : Bool} (h1 : EvD K ta ρ M H (.bool a)) : EvD K (tNotV ta) ρ M H (.bool (!a)) := fun H1 σ x m en Q q =>
  h1 H1 σ x m en _ fun v H2 x2 r => ⟨a, Da.bl_inv r, q _ H2 x2 (Dq.bl _)⟩
/-- a < b < c -/
theorem ev_chain {g g' : PyData → PyData → PyData → Prop} {d e c : PyData} {k : Bool} {k' : Bool} (ha : EvD K ta ρ M H d) (hb : EvD K tb ρ M H e) (hc : k = true → EvD K tc ρ M H c) (hg : g d e (.bool k)) (hg' : k = true → g' e c (.bool k')) :
    EvD K (tChain (rB K g) (rB K g') ta tb tc) ρ M H (.bool (k && k')) := fun H1 σ x m en Q q =>
  ha H1 σ x m en _ fun v H2 x2 r => hb H2 σ (x.trans x2) (m.ex x2) (en.ex x2) _ fun w H3 x3 r3 =>
    ⟨M, d, e, .bool k, m.ex (x2.trans x3), r.ex x3, r3, hg, fun v' H4 x4 r4 => ⟨k, Da.bl_inv r4, by
      have X4 := (x2.trans x3).trans x4
      cases k with
      | true =>
        rw [if_pos rfl]
        exact hc rfl H4 σ (x.trans X4) (m.ex X4) (en.ex X4) _ fun w' H5 x5 r5 => ⟨M, e, c, .bool k', m.ex (X4.trans x5), r3.ex (x4.trans x5), r5, hg' rfl, fun v5 H6 x6 r6 => q v5 H6 ((X4.trans x5).trans x6) r6⟩
      | false =>
        rw [if_neg Bool.false_ne_true]
        exact q _ H4 X4 (Dq.bl _)⟩⟩
/-! ### tests -/
theorem eb_test (h : EvD K te ρ M H (.bool b)) : EvB K (tTest te) ρ M H b := fun H1 σ x m en Q q => h H1 σ x m en _ fun v H2 x2 r => ⟨b, Da.bl_inv r, q H2 x2⟩
theorem eb_B (h : EvD K te ρ M H (.bool b)) : EvB K (tB te) ρ M H b := fun H1 σ x m en Q q => h H1 σ x m en _ fun v H2 x2 r => ⟨b, Da.bl_inv r, q H2 x2⟩
theorem eb_and {a b : Bool} (h1 : EvB K t ρ M H a) (h2 : a = true → EvB K u ρ M H b) : EvB K (tAnd t u) ρ M H (a && b) := fun H1 σ x m en Q q => h1 H1 σ x m en _ fun H2 x2 => by
  cases a with
  | true => exact h2 rfl H2 σ (x.trans x2) (m.ex x2) (en.ex x2) Q fun H3 x3 => q H3 (x2.trans x3)
  | false => exact q H2 x2
theorem eb_or {a b : Bool} (h1 : EvB K t ρ M H a) (h2 : a = false → EvB K u ρ M H b) : EvB K (tOr t u) ρ M H (a || b) := fun H1 σ x m en Q q => h1 H1 σ x m en _ fun H2 x2 => by
  cases a with
  | true => exact q H2 x2
  | false => exact h2 rfl H2 σ (x.trans x2) (m.ex x2) (en.ex x2) Q fun H3 x3 => q H3 (x2.trans x3)
theorem eb_not {a : Bool} (h1 : EvB K t ρ M H a) : EvB K (tNot t) ρ M H (!a) := fun H1 σ x m en Q q => h1 H1 σ x m en _ fun H2 x2 => q H2 x2
/-- truth of data -/
def truD : PyData → Bool
  | .none => false
  | .bool b => b
  | .int i => i != 0
  | .str x => x.length != 0
  | .list ds => !ds.isEmpty
  | .tuple ds => !ds.isEmpty
  | .dict ds => !ds.isEmpty
end

/-! ### evaluation that changes the places of M -/
def EvE (K : Fg) (te : TE) (ρ : Ro) (M : Ms) (H : Hp) (P : Sl → Hp → Prop) : Prop :=
  Md M H → ∀ σ, Env K M H σ ρ → ∀ Q : VK, (∀ v H2 s, Go M H H2 → Rl K M H2 v s → P s H2 → Q v H2) → te σ H Q
def EvEB (K : Fg) (tt : TT) (ρ : Ro) (M : Ms) (H : Hp) (P : Bool → Hp → Prop) : Prop :=
  Md M H → ∀ σ, Env K M H σ ρ → ∀ Q : Bool → Hp → Prop, (∀ b H2, Go M H H2 → P b H2 → Q b H2) → tt σ H Q
def EvEA (K : Fg) (ta : TA) (ρ : Ro) (M : Ms) (H : Hp) (P : List Sl → Hp → Prop) : Prop :=
  Md M H → ∀ σ, Env K M H σ ρ → ∀ Q : List V → Hp → Prop, (∀ vs H2 ss, Go M H H2 → Rls K M H2 vs ss → P ss H2 → Q vs H2) → ta σ H Q
section
variable {K : Fg} {ρ : Ro} {M : Ms} {H H' : Hp} {ta tb tc te : TE} {t u : TT} {s : Sl} {d e z : PyData} {b : Bool} {P : Sl → Hp → Prop} {PB : Bool → Hp → Prop}
theorem ee_p (h : EvR K te ρ M H s) (p : ∀ H1, Ex H H1 → P s H1) : EvE K te ρ M H P := fun m σ en Q q => h H σ (Ex.refl _) m en _ fun v H2 x r => q v H2 s x.go r (p H2 x)
theorem eeb_p (h : EvB K t ρ M H b) (p : ∀ H1, Ex H H1 → PB b H1) : EvEB K t ρ M H PB := fun m σ en Q q => h H σ (Ex.refl _) m en _ fun H2 x => q b H2 x.go (p H2 x)
theorem eea_p {ta : TA} {ss : List Sl} {P : List Sl → Hp → Prop} (h : EvA K ta ρ M H ss) (p : ∀ H1, Ex H H1 → P ss H1) : EvEA K ta ρ M H P := fun m σ en Q q => h H σ (Ex.refl _) m en _ fun vs H2 x r => q vs H2 ss x.go r (p H2 x)
theorem eea_nil {P : List Sl → Hp → Prop} (p : P [] H) : EvEA K tNil ρ M H P := fun m σ en Q q => q [] H [] (Go.refl _ _) trivial p
theorem eea_cons {tr : TA} {P : List Sl → Hp → Prop} (h : EvE K ta ρ M H fun s H1 => EvEA K tr ρ M H1 fun ss H2 => P (s :: ss) H2) : EvEA K (tCons ta tr) ρ M H P := fun m σ en Q q =>
  h m σ en _ fun v H2 s g r p => p (m.go g) σ (en.go g) _ fun vs H3 ss g3 r3 p3 => q _ H3 (s :: ss) (g.trans g3) ⟨r.go g3, r3⟩ p3
/-- an operator, its operands maybe changing the places of M -/
theorem ee_bin {g : PyData → PyData → PyData → Prop} (h : EvE K ta ρ M H fun s H1 => ∃ d, s = .d d ∧ EvE K tb ρ M H1 fun s' H2 => ∃ e z, s' = .d e ∧ g d e z ∧ ∀ H3, Ex H2 H3 → P (.d z) H3) : EvE K (tOp (rB K g) ta tb) ρ M H P := fun m σ en Q q =>
  h m σ en _ fun v H2 s g2 r ⟨d, es, p⟩ => by
    subst es
    exact p (m.go g2) σ (en.go g2) _ fun w H3 s' g3 r3 ⟨e, z, es, hg, p3⟩ => by
      subst es
      exact ⟨M, d, e, z, (m.go g2).go g3, Da.go r g3, r3, hg, fun v' H4 x4 r4 => q v' H4 (.d z) ((g2.trans g3).trans x4.go) r4 (p3 H4 x4)⟩
theorem ee_cb {g : List PyData → PyData → Prop} {tl : TA} (h : EvEA K tl ρ M H fun ss H1 => ∃ ds z, ss = ds.map Sl.d ∧ g ds z ∧ ∀ H2, Ex H1 H2 → P (.d z) H2) : EvE K (tCB (rC K g) tl) ρ M H P := fun m σ en Q q =>
  h m σ en _ fun vs H2 ss g2 r ⟨ds, z, es, hg, p⟩ => by
    subst es
    exact ⟨M, ds, z, m.go g2, r.das, hg, fun v' H4 x4 r4 => q v' H4 (.d z) (g2.trans x4.go) r4 (p H4 x4)⟩
theorem ee_lst {tl : TA} (h : EvEA K tl ρ M H fun ss H1 => ∃ ds, ss = ds.map Sl.d ∧ ds.length ≤ 100000 ∧ ∀ H2, Ex H1 H2 → P (.d (.list ds)) H2) : EvE K (tLst tl) ρ M H P := fun m σ en Q q =>
  h m σ en _ fun vs H2 ss g2 r ⟨ds, es, hl, p⟩ => by
    subst es
    exact ⟨by rw [Das.len r.das]; exact Nat.le_trans hl (by decide), fun a ha => q _ _ (.d (.list ds)) (g2.trans (Ex.new ha).go) (Da.new_lst (m.go g2) ha r.das) (p _ (Ex.new ha))⟩
theorem ee_tup {tl : TA} (h : EvEA K tl ρ M H fun ss H1 => ∃ ds, ss = ds.map Sl.d ∧ ds.length ≤ 100000 ∧ ∀ H2, Ex H1 H2 → P (.d (.tuple ds)) H2) : EvE K (tTup tl) ρ M H P := fun m σ en Q q =>
  h m σ en _ fun vs H2 ss g2 r ⟨ds, es, hl, p⟩ => by
    subst es
    exact ⟨by rw [Das.len r.das]; exact Nat.le_trans hl (by decide), fun a ha => q _ _ (.d (.tuple ds)) (g2.trans (Ex.new ha).go) (Da.new_tup (m.go g2) ha r.das) (p _ (Ex.new ha))⟩
theorem ee_if (h : EvEB K t ρ M H fun b H1 => if b = true then EvE K ta ρ M H1 P else EvE K tb ρ M H1 P) : EvE K (tIf t ta tb) ρ M H P := fun m σ en Q q =>
  h m σ en _ fun b H2 g2 p => by
    cases b with
    | true => rw [if_pos rfl] at p ⊢; exact p (m.go g2) σ (en.go g2) Q fun v H3 s g3 r p3 => q v H3 s (g2.trans g3) r p3
    | false => rw [if_neg Bool.false_ne_true] at p ⊢; exact p (m.go g2) σ (en.go g2) Q fun v H3 s g3 r p3 => q v H3 s (g2.trans g3) r p3
theorem eeb_test (h : EvE K te ρ M H fun s H1 => ∃ b, s = .d (.bool b) ∧ PB b H1) : EvEB K (tTest te) ρ M H PB := fun m σ en Q q =>
  h m σ en _ fun v H2 s g2 r ⟨b, es, p⟩ => by subst es; exact ⟨b, Da.bl_inv r, q b H2 g2 p⟩
theorem eeb_B (h : EvE K te ρ M H fun s H1 => ∃ b, s = .d (.bool b) ∧ PB b H1) : EvEB K (tB te) ρ M H PB := fun m σ en Q q =>
  h m σ en _ fun v H2 s g2 r ⟨b, es, p⟩ => by subst es; exact ⟨b, Da.bl_inv r, q b H2 g2 p⟩
theorem eeb_and (h : EvEB K t ρ M H fun a H1 => if a = true then EvEB K u ρ M H1 PB else PB false H1) : EvEB K (tAnd t u) ρ M H PB := fun m σ en Q q =>
  h m σ en _ fun a H2 g2 p => by
    cases a with
    | true => rw [if_pos rfl] at p ⊢; exact p (m.go g2) σ (en.go g2) Q fun b H3 g3 p3 => q b H3 (g2.trans g3) p3
    | false => rw [if_neg Bool.false_ne_true] at p ⊢; exact q _ H2 g2 p
theorem eeb_or (h : EvEB K t ρ M H fun a H1 => if a = true then PB true H1 else EvEB K u ρ M H1 PB) : EvEB K (tOr t u) ρ M H PB := fun m σ en Q q =>
  h m σ en _ fun a H2 g2 p => by
    cases a with
    | false => rw [if_neg Bool.false_ne_true] at p ⊢; exact p (m.go g2) σ (en.go g2) Q fun b H3 g3 p3 => q b H3 (g2.trans g3) p3
    | true => rw [if_pos rfl] at p ⊢; exact q _ H2 g2 p
theorem eeb_not (h : EvEB K t ρ M H fun a H1 => PB (!a) H1) : EvEB K (tNot t) ρ M H PB := fun m σ en Q q =>
  h m σ en _ fun a H2 g2 p => q _ H2 g2 p
end

/-! ### promises: how a call goes, A (arguments) (M) (heap) (what is wanted) -/
abbrev Pm := List Sl → Ms → Hp → (Sl → Hp → Prop) → Prop
def spG (K : Fg) (A : Pm) : Sp := fun vs H Q _ => ∃ M ss R, Md M H ∧ Rls K M H vs ss ∧ A ss M H R ∧ ∀ v H' s, Go M H H' → Rl K M H' v s → R s H' → Q v H'
/-- a function of data -/
def pmD (pre : List PyData → Prop) (f : List PyData → PyData) : Pm := fun ss M H R => ∃ ds, ss = ds.map Sl.d ∧ pre ds ∧ ∀ H', Ex H H' → R (.d (f ds)) H'
section
variable {K : Fg} {ρ : Ro} {M : Ms} {H H' : Hp} {ta : TA} {P : Sl → Hp → Prop}
/-- a call that may write the places l alone -/
theorem ee_call {A : Pm} {E : XK} (l : List Addr) (hl : ∀ a, a ∈ l → a ∈ M.w) (h : EvEA K ta ρ M H fun ss H1 => A ss (M.only l fun a q => M.sub a (hl a q)) H1 fun s H2 => Go (M.only l fun a q => M.sub a (hl a q)) H1 H2 → P s H2) : EvE K (tCall (spG K A) [] E ta) ρ M H P := fun m σ en Q q =>
  h m σ en _ fun vs H2 ss g2 r p => by
    rw [List.append_nil]
    exact ⟨M.only l fun a q => M.sub a (hl a q), ss, _, m.go g2, Rls.mono (M := M.only l fun a q => M.sub a (hl a q)) (N := M) (fun a q => q) r, p, fun v H' s g' r' p' => q v H' s (g2.trans (g'.sub hl)) r' (p' g')⟩
end
end DL
set_option maxRecDepth 100000
namespace DL
open PySem L2
section
variable {K : Fg} {ρ : Ro} {M : Ms} {H H' : Hp} {ta tb tc te : TE} {t u : TT} {s : Sl} {d e z : PyData} {b : Bool} {P : Sl → Hp → Prop} {PB : Bool → Hp → Prop}
/-- a call of a def that is a function of data -/
theorem ev_call {pre : List PyData → Prop} {f : List PyData → PyData} {E : XK} {tl : TA} {ds : List PyData} (ha : EvAD K tl ρ M H ds) (hp : pre ds) : EvD K (tCall (spG K (pmD pre f)) [] E tl) ρ M H (f ds) := fun H1 σ x m en Q q =>
  ha H1 σ x m en _ fun vs H2 x2 r => by
    rw [List.append_nil]
    refine ⟨M.pure, ds.map Sl.d, fun s H' => Ex H2 H' ∧ s = .d (f ds), m.ex x2, ?_, ⟨ds, rfl, hp, fun H' x' => ⟨x', rfl⟩⟩, fun v H' s g r' p' => ?_⟩
    · clear hp q ha
      induction ds generalizing vs with
      | nil => cases r; exact trivial
      | cons d ds ih => cases r with | cons a t => exact ⟨a, ih _ t⟩
    · obtain ⟨x', es⟩ := p'
      subst es
      exact q v H' (x2.trans g.pure) r'

/-! ### what changes, read as data -/
def Ms.del (M : Ms) (p : Addr) : Ms := ⟨M.h.filter (fun a => decide (a ≠ p)), M.w.filter (fun a => decide (a ≠ p)), fun a m => by
  rw [List.mem_filter] at m ⊢; exact ⟨M.sub a m.1, m.2⟩⟩
theorem Ms.del_sub (M : Ms) (p : Addr) : ∀ a, a ∈ (M.del p).h → a ∈ M.h := fun a m => (List.mem_filter.mp m).1
theorem Ms.del_not (M : Ms) (p : Addr) : p ∉ (M.del p).h := fun m => by have := (List.mem_filter.mp m).2; simp at this
def scalD : PyData → Bool
  | .none | .bool _ | .int _ | .str _ => true
  | _ => false
theorem Da.scal {N : Ms} {v : V} (h : Da K N H v d) (s : scalD d = true) : Da K M H v d := by
  cases h <;> first | (cases s; done) | constructor
theorem Env.re {σ : L2.St} (en : Env K M H σ ρ) {i : Nat} {v : V} (h1 : σ[i]? = some (some v)) (h2 : Rl K M H v s) : Env K M H σ (ρ.set i (some s)) := by
  refine ⟨by rw [List.length_set]; exact en.1, fun j t q => ?_⟩
  by_cases hj : i = j
  · subst hj
    by_cases hl : i < ρ.length
    · rw [List.getElem?_set_self hl] at q
      injection q with q; injection q with q; subst q
      exact ⟨v, h1, h2⟩
    · rw [List.getElem?_eq_none (by rw [List.length_set]; omega)] at q; cases q
  · rw [List.getElem?_set_ne hj] at q
    exact en.2 j t q
theorem Env.open {σ : L2.St} {i : Nat} {p : Addr} {xs : List V} {ds : List PyData} (en : Env K M H σ ρ) (hi : ρ[i]? = some (some (.v (.ref p)))) (hp : H p = some (.lst xs)) (hx : Das K (M.del p) H xs ds) :
    Env K (M.del p) H σ (ρ.set i (some (.d (.list ds)))) := by
  obtain ⟨v, h1, h2⟩ := en.2 i _ hi
  cases h2
  exact (en.mono (M.del_sub p)).re h1 (Da.lst (M.del_not p) hp hx)
theorem ev_rd {i : Nat} {p : Addr} {xs : List V} {ds : List PyData} (hi : ρ[i]? = some (some (.v (.ref p)))) (hp : H p = some (.lst xs)) (hx : Das K (M.del p) H xs ds) (h : EvD K te (ρ.set i (some (.d (.list ds)))) (M.del p) H d) (hs : scalD d = true) : EvD K te ρ M H d := fun H1 σ x m en Q q =>
  h H1 σ x (fun a k => m a (M.del_sub p a k)) (en.open hi (x p _ hp) (hx.ex x)) Q fun v H2 x2 r => q v H2 x2 (Da.scal r hs)
theorem eb_rd {i : Nat} {p : Addr} {xs : List V} {ds : List PyData} (hi : ρ[i]? = some (some (.v (.ref p)))) (hp : H p = some (.lst xs)) (hx : Das K (M.del p) H xs ds) (h : EvB K t (ρ.set i (some (.d (.list ds)))) (M.del p) H b) : EvB K t ρ M H b := fun H1 σ x m en Q q =>
  h H1 σ x (fun a k => m a (M.del_sub p a k)) (en.open hi (x p _ hp) (hx.ex x)) Q q
end

/-! ### statements -/
/-- from one point to another: what may be written then was so, or is new -/
structure Stp (M : Ms) (H : Hp) (M' : Ms) (H' : Hp) : Prop where
  md : Md M' H'
  go : Go M H H'
  nw : ∀ a, a ∈ M'.w → a ∈ M.w ∨ H a = none
theorem Stp.of {M : Ms} {H H' : Hp} (m : Md M H) (g : Go M H H') : Stp M H M H' := ⟨m.go g, g, fun _ h => .inl h⟩
theorem Stp.trans {M M1 M2 : Ms} {H H1 H2 : Hp} (a : Stp M H M1 H1) (b : Stp M1 H1 M2 H2) : Stp M H M2 H2 := by
  refine ⟨b.md, ⟨fun x o n h => ?_, fun x o h => by obtain ⟨o', h'⟩ := a.go.2 x o h; exact b.go.2 x o' h'⟩, fun x m => ?_⟩
  · refine b.go.1 x o (fun m => ?_) (a.go.1 x o n h)
    rcases a.nw x m with k | k
    · exact n k
    · rw [h] at k; cases k
  · rcases b.nw x m with k | k
    · exact a.nw x k
    · exact .inr (go_back a.go k)
/-- what is wanted behind -/
structure Po where
  N : Ro → Ms → Hp → Prop
  R : Sl → Hp → Prop
  B : Ro → Ms → Hp → Prop := fun _ _ _ => False
  C : Ro → Ms → Hp → Prop := fun _ _ _ => False
abbrev Sub (B : List Addr) (M : Ms) : Prop := ∀ a, a ∈ B → a ∈ M.h
structure Dn (K : Fg) (B0 : List Addr) (M : Ms) (H : Hp) (P : Po) (D : Ends) : Prop where
  nx : ∀ σ' H' ρ' M', Stp M H M' H' → Sub B0 M' → Env K M' H' σ' ρ' → P.N ρ' M' H' → D.nx σ' H'
  rt : ∀ v H' s M', Stp M H M' H' → Sub B0 M' → Rl K M' H' v s → P.R s H' → D.rt v H'
  bk : ∀ σ' H' ρ' M', Stp M H M' H' → Sub B0 M' → Env K M' H' σ' ρ' → P.B ρ' M' H' → D.bk σ' H'
  ct : ∀ σ' H' ρ' M', Stp M H M' H' → Sub B0 M' → Env K M' H' σ' ρ' → P.C ρ' M' H' → D.ct σ' H'
def Rn (K : Fg) (B0 : List Addr) (ts : TS) (ρ : Ro) (M : Ms) (H : Hp) (P : Po) : Prop :=
  Md M H → Sub B0 M → ∀ σ, Env K M H σ ρ → ∀ D : Ends, Dn K B0 M H P D → ts D σ H
theorem Dn.step {K : Fg} {B0 : List Addr} {M M1 : Ms} {H H1 : Hp} {P : Po} {D : Ends} (d : Dn K B0 M H P D) (s : Stp M H M1 H1) : Dn K B0 M1 H1 P D :=
  ⟨fun σ' H' ρ' M' t => d.nx σ' H' ρ' M' (s.trans t), fun v H' x M' t => d.rt v H' x M' (s.trans t), fun σ' H' ρ' M' t => d.bk σ' H' ρ' M' (s.trans t), fun σ' H' ρ' M' t => d.ct σ' H' ρ' M' (s.trans t)⟩
section
variable {K : Fg} {B0 : List Addr} {ρ : Ro} {M : Ms} {H H' : Hp} {ta tb tc te : TE} {tt : TT} {t u : TS} {s : Sl} {d e z : PyData} {b : Bool} {P : Po}
theorem r_seq (h : Rn K B0 t ρ M H { P with N := fun ρ' M' H' => Rn K B0 u ρ' M' H' P }) : Rn K B0 (tSeq t u) ρ M H P := fun m sb σ en D dn =>
  h m sb σ en { D with nx := u D } ⟨fun σ' H' ρ' M' st sb' en' p => p st.md sb' σ' en' D (dn.step st), dn.rt, dn.bk, dn.ct⟩
theorem r_next (h : P.N ρ M H) : Rn K B0 tNext ρ M H P := fun m sb σ en D dn => dn.nx σ H ρ M (.of m (Go.refl _ _)) sb en h
theorem r_break (h : P.B ρ M H) : Rn K B0 tBreak ρ M H P := fun m sb σ en D dn => dn.bk σ H ρ M (.of m (Go.refl _ _)) sb en h
theorem r_cont (h : P.C ρ M H) : Rn K B0 tCont ρ M H P := fun m sb σ en D dn => dn.ct σ H ρ M (.of m (Go.refl _ _)) sb en h
theorem r_asg {i : Nat} (h : EvR K te ρ M H s) (k : ∀ H1, Ex H H1 → P.N (ρ.set i (some s)) M H1) : Rn K B0 (tAsg te (gName i)) ρ M H P := fun m sb σ en D dn =>
  h H σ (Ex.refl _) m en _ fun v H2 x r => dn.nx _ H2 _ M (.of m x.go) sb ((en.ex x).set r) (k H2 x)
theorem r_asgE {i : Nat} (h : EvE K te ρ M H fun s H1 => P.N (ρ.set i (some s)) M H1) : Rn K B0 (tAsg te (gName i)) ρ M H P := fun m sb σ en D dn =>
  h m σ en _ fun v H2 s g r p => dn.nx _ H2 _ M (.of m g) sb ((en.go g).set r) p
theorem r_ret (h : EvR K te ρ M H s) (k : ∀ H1, Ex H H1 → P.R s H1) : Rn K B0 (tRet te) ρ M H P := fun m sb σ en D dn =>
  h H σ (Ex.refl _) m en _ fun v H2 x r => dn.rt v H2 s M (.of m x.go) sb r (k H2 x)
theorem r_retE (h : EvE K te ρ M H P.R) : Rn K B0 (tRet te) ρ M H P := fun m sb σ en D dn =>
  h m σ en _ fun v H2 s g r p => dn.rt v H2 s M (.of m g) sb r p
theorem r_drop (h : EvE K te ρ M H fun _ H1 => P.N ρ M H1) : Rn K B0 (tDrop te) ρ M H P := fun m sb σ en D dn =>
  h m σ en _ fun v H2 s g r p => dn.nx σ H2 ρ M (.of m g) sb (en.go g) p
theorem r_if (h : EvB K tt ρ M H b) (h1 : b = true → ∀ H1, Ex H H1 → Rn K B0 t ρ M H1 P) (h2 : b = false → ∀ H1, Ex H H1 → Rn K B0 u ρ M H1 P) : Rn K B0 (tIfS tt t u) ρ M H P := fun m sb σ en D dn =>
  h H σ (Ex.refl _) m en _ fun H2 x => by
    cases b with
    | true => exact h1 rfl H2 x (m.ex x) sb σ (en.ex x) D (dn.step (.of m x.go))
    | false => exact h2 rfl H2 x (m.ex x) sb σ (en.ex x) D (dn.step (.of m x.go))
theorem r_ifE (h : EvEB K tt ρ M H fun b H1 => if b = true then Rn K B0 t ρ M H1 P else Rn K B0 u ρ M H1 P) : Rn K B0 (tIfS tt t u) ρ M H P := fun m sb σ en D dn =>
  h m σ en _ fun b H2 g p => by
    cases b with
    | true => rw [if_pos rfl] at p ⊢; exact p (m.go g) sb σ (en.go g) D (dn.step (.of m g))
    | false => rw [if_neg Bool.false_ne_true] at p ⊢; exact p (m.go g) sb σ (en.go g) D (dn.step (.of m g))
/-- less is known -/
theorem r_le {ρ' : Ro} (l : Le ρ ρ') (h : Rn K B0 t ρ' M H P) : Rn K B0 t ρ M H P := fun m sb σ en D dn => h m sb σ (en.le l) D dn
theorem r_mono {Q : Po} (h : Rn K B0 t ρ M H P) (n : ∀ ρ' M' H', P.N ρ' M' H' → Q.N ρ' M' H') (r : ∀ s H', P.R s H' → Q.R s H') (b : ∀ ρ' M' H', P.B ρ' M' H' → Q.B ρ' M' H') (c : ∀ ρ' M' H', P.C ρ' M' H' → Q.C ρ' M' H') : Rn K B0 t ρ M H Q := fun m sb σ en D dn =>
  h m sb σ en D ⟨fun σ' H' ρ' M' st sb' en' p => dn.nx σ' H' ρ' M' st sb' en' (n _ _ _ p), fun v H' s M' st sb' rl p => dn.rt v H' s M' st sb' rl (r _ _ p), fun σ' H' ρ' M' st sb' en' p => dn.bk σ' H' ρ' M' st sb' en' (b _ _ _ p), fun σ' H' ρ' M' st sb' en' p => dn.ct σ' H' ρ' M' st sb' en' (c _ _ _ p)⟩
/-- a, b = a tuple of data -/
theorem g_names {σ : L2.St} : ∀ {is : List Nat} {vs : List V} {ds : List PyData} {ρ : Ro} {σ : L2.St} {H : Hp}, Das K M H vs ds → is.length = ds.length → Env K M H σ ρ →
    ∃ σ', Env K M H σ' ((is.zip ds).foldl (fun r p => r.set p.1 (some (.d p.2))) ρ) ∧ ∀ Q : L2.St → Hp → Prop, Q σ' H → (is.foldr (fun i t => gCons (gName i) t) gNil) vs σ H Q
  | [], _, [], ρ, σ, H, .nil, _, en => ⟨σ, en, fun Q q => ⟨rfl, q⟩⟩
  | i :: is, _, d :: ds, ρ, σ, H, .cons (v := v) (vs := vs) a t, hl, en => by
    obtain ⟨σ', en', k⟩ := g_names (σ := σ) (is := is) t (by simpa using hl) (en.set (i := i) (s := .d d) a)
    exact ⟨σ', en', fun Q q => ⟨v, vs, rfl, k Q q⟩⟩
/-- the targets of a tuple's names -/
abbrev gNames (K : Fg) (is : List Nat) : TG := gTup K is.length (is.foldr (fun i t => gCons (gName i) t) gNil)
theorem r_asgT {is : List Nat} {ds : List PyData} (h : EvD K te ρ M H (.tuple ds)) (hl : is.length = ds.length) (k : ∀ H1, Ex H H1 → P.N ((is.zip ds).foldl (fun r p => r.set p.1 (some (.d p.2))) ρ) M H1) : Rn K B0 (tAsg te (gNames K is)) ρ M H P := fun m sb σ en D dn =>
  h H σ (Ex.refl _) m en _ fun v H2 x r => by
    obtain ⟨a, xs, rfl, ha, hx⟩ := Da.tup_inv r
    obtain ⟨σ', en', kk⟩ := g_names (σ := σ) (is := is) hx hl (en.ex x)
    exact ⟨a, xs, rfl, hid_t ha, (Das.len hx).trans hl.symm, kk _ (dn.nx σ' H2 _ M (.of m x.go) sb en' (k H2 x))⟩
theorem r_asgTE {is : List Nat} (h : EvE K te ρ M H fun s H1 => ∃ ds, s = .d (.tuple ds) ∧ is.length = ds.length ∧ P.N ((is.zip ds).foldl (fun r p => r.set p.1 (some (.d p.2))) ρ) M H1) : Rn K B0 (tAsg te (gNames K is)) ρ M H P := fun m sb σ en D dn =>
  h m σ en _ fun v H2 s g r ⟨ds, es, hl, p⟩ => by
    subst es
    obtain ⟨a, xs, rfl, ha, hx⟩ := Da.tup_inv r
    obtain ⟨σ', en', kk⟩ := g_names (σ := σ) (is := is) hx hl (en.go g)
    exact ⟨a, xs, rfl, hid_t ha, (Das.len hx).trans hl.symm, kk _ (dn.nx σ' H2 _ M (.of m g) sb en' p)⟩
/-- a, b = e1, e2 with plain local names -/
theorem r_parE {i j : Nat} {tl : TA} (h : EvEA K tl ρ M H fun ss H1 => ∃ s t, ss = [s, t] ∧ P.N ((ρ.set i (some s)).set j (some t)) M H1) : Rn K B0 (tPar i j tl) ρ M H P := fun m sb σ en D dn =>
  h m σ en _ fun vs H2 ss g r ⟨s, t, es, p⟩ => by
    subst es
    match vs, r with
    | [v, w], r => exact ⟨v, w, rfl, dn.nx _ H2 _ M (.of m g) sb (((en.go g).set r.1).set r.2.1) p⟩

/-! ### places that change -/
/-- at p, that may be written, a list of data -/
structure LAt (K : Fg) (M : Ms) (H : Hp) (p : Addr) (ds : List PyData) : Prop where
  w : p ∈ M.w
  ex : ∃ xs, H p = some (.lst xs) ∧ Das K M H xs ds
theorem LAt.go {p : Addr} {ds : List PyData} {N : Ms} (l : LAt K M H p ds) (g : Go N H H') (s : ∀ a, a ∈ N.w → a ∈ M.w) (n : p ∉ N.w) : LAt K M H' p ds := by
  obtain ⟨xs, h, a⟩ := l.ex
  exact ⟨l.w, xs, g.1 p _ n h, Das.go a (g.sub s)⟩
theorem LAt.x {p : Addr} {ds : List PyData} (l : LAt K M H p ds) (x : Ex H H') : LAt K M H' p ds := by
  obtain ⟨xs, h, a⟩ := l.ex
  exact ⟨l.w, xs, x p _ h, a.ex x⟩
theorem ev_rdL {i : Nat} {p : Addr} {ds : List PyData} (hi : ρ[i]? = some (some (.v (.ref p)))) (l : LAt K M H p ds) (h : EvD K te (ρ.set i (some (.d (.list ds)))) (M.del p) H d) (hs : scalD d = true) : EvD K te ρ M H d := by
  obtain ⟨xs, hp, hx⟩ := l.ex
  exact ev_rd hi hp (hx.mono (M.del_sub p)) h hs
theorem eb_rdL {i : Nat} {p : Addr} {ds : List PyData} (hi : ρ[i]? = some (some (.v (.ref p)))) (l : LAt K M H p ds) (h : EvB K tt (ρ.set i (some (.d (.list ds)))) (M.del p) H b) : EvB K tt ρ M H b := by
  obtain ⟨xs, hp, hx⟩ := l.ex
  exact eb_rd hi hp (hx.mono (M.del_sub p)) h
/-- x = [..], that will change -/
theorem r_asgL {i : Nat} {tl : TA} {ds : List PyData} (h : EvAD K tl ρ M H ds) (hl : ds.length ≤ 100000) (k : ∀ p H1, H p = none → p ∉ M.h → Ex H H1 → LAt K (M.add p) H1 p ds → P.N (ρ.set i (some (.v (.ref p)))) (M.add p) H1) : Rn K B0 (tAsg (tLst tl) (gName i)) ρ M H P := fun m sb σ en D dn =>
  h H σ (Ex.refl _) m en _ fun vs H2 x r => ⟨by rw [Das.len r]; exact Nat.le_trans hl (by decide), fun p hp => by
    have en2 : Env K (M.add p) (upd H2 p (.lst vs)) σ ρ := (en.ex x).new hp
    have x2 : Ex H (upd H2 p (.lst vs)) := x.trans (Ex.new hp)
    refine dn.nx _ _ _ (M.add p) ⟨?_, x2.go, fun a q => ?_⟩ (fun a q => List.mem_cons.mpr (.inr (sb a q))) (en2.set (s := .v (.ref p)) rfl) (k p _ (fresh_back x hp) (m.fresh (fresh_back x hp)) x2 ⟨List.mem_cons.mpr (.inl rfl), vs, upd_same, ?_⟩)
    · exact Md.add (m.ex x2) upd_same
    · rcases List.mem_cons.mp q with e | e
      · exact .inr (e ▸ fresh_back x hp)
      · exact .inl e
    · exact dps_ex (hid_add hp) _ _ r⟩
/-- from now on it's data -/
theorem r_freeze {i : Nat} {p : Addr} {ds : List PyData} (hi : ρ[i]? = some (some (.v (.ref p)))) (l : LAt K (M.add p) H p ds) (np : p ∉ M.h) (nb : p ∉ B0) (h : Rn K B0 t (ρ.set i (some (.d (.list ds)))) M H P) : Rn K B0 t ρ (M.add p) H P := fun m sb σ en D dn => by
  obtain ⟨xs, hp, hx⟩ := l.ex
  obtain ⟨v, h1, h2⟩ := en.2 i _ hi
  cases h2
  have sM : ∀ a, a ∈ M.h → a ∈ (M.add p).h := fun a q => List.mem_cons.mpr (.inr q)
  have mM : Md M H := fun a q => m a (sM a q)
  have sb' : Sub B0 M := fun a q => by
    rcases List.mem_cons.mp (sb a q) with e | e
    · exact absurd (e ▸ q) nb
    · exact e
  exact h mM sb' σ ((en.mono sM).re h1 (Da.lst np hp (hx.mono sM))) D (dn.step ⟨mM, Go.refl _ _, fun a q => .inl (List.mem_cons.mpr (.inr q))⟩)
/-- xs.append(e) -/
theorem r_append {i : Nat} {p : Addr} {ds0 : List PyData} (hi : ρ[i]? = some (some (.v (.ref p)))) (l0 : LAt K M H p ds0) (h : EvE K te ρ M H fun s H1 => ∃ d ds, s = .d d ∧ LAt K M H1 p ds ∧ ds.length < 100000 ∧ ∀ H2, Go M H1 H2 → LAt K M H2 p (ds ++ [d]) → (∀ a, a ≠ p → H2 a = H1 a) → P.N ρ M H2) :
    Rn K B0 (tDrop (tBM K "list" rAppend (tVar i) (tCons te tNil))) ρ M H P := fun m sb σ en D dn => by
  obtain ⟨v, h1, h2⟩ := en.2 i _ hi
  cases h2
  obtain ⟨xs0, hp0, hx0⟩ := l0.ex
  refine ⟨_, h1, ?_⟩
  refine ⟨Or.inl ⟨rfl, _, Or.inl (Or.inl hp0)⟩, h m σ en _ fun w H2 s g r ⟨d, ds, es, l, hl, k⟩ => ?_⟩
  subst es
  obtain ⟨xs, hp, hx⟩ := l.ex
  have g3 : Go M H2 (upd H2 p (.lst (xs ++ [w]))) := Go.mut l.w
  refine ⟨p, xs, w, rfl, rfl, hp, by rw [Das.len hx]; exact Nat.lt_of_lt_of_le hl (by decide), ?_⟩
  exact dn.nx σ _ ρ M (.of m (g.trans g3)) sb ((en.go g).go g3) (k _ g3 ⟨l.w, _, upd_same, Das.go (Das.app hx (.cons r .nil)) g3⟩ fun a q => upd_ne q)
/-- xs[k] = e -/
theorem r_setitem {i : Nat} {p : Addr} {ti : TE} {k : Int} (hi : ρ[i]? = some (some (.v (.ref p)))) (h : EvE K te ρ M H fun s H1 => ∃ d, s = .d d ∧ ∃ ds j, EvD K ti ρ M H1 (.int k) ∧ ixN ds.length k = some j ∧ LAt K M H1 p ds ∧ ∀ H2, Go M H1 H2 → LAt K M H2 p (ds.set j d) → (∀ a o, a ≠ p → H1 a = some o → H2 a = some o) → P.N ρ M H2) :
    Rn K B0 (tAsg te (gSub (tVar i) ti rSetL)) ρ M H P := fun m sb σ en D dn => by
  refine h m σ en _ fun w H2 s g r ⟨d, es, ds, j, hk, hj, l, kk⟩ => ?_
  subst es
  obtain ⟨v, h1, h2⟩ := (en.go g).2 i _ hi
  cases h2
  refine ⟨_, h1, ?_⟩
  refine hk H2 σ (Ex.refl _) (m.go g) (en.go g) _ fun u H3 x3 r3 => ?_
  have e3 := Da.int_inv r3
  subst e3
  obtain ⟨xs, hp, hx⟩ := l.ex
  have g4 : Go M H3 (upd H3 p (.lst (xs.set j w))) := Go.mut l.w
  refine ⟨p, xs, k, j, rfl, rfl, x3 p _ hp, by rw [Das.len hx]; exact hj, ?_⟩
  have g34 : Go M H2 (upd H3 p (.lst (xs.set j w))) := x3.go.trans g4
  exact dn.nx σ _ ρ M (.of m (g.trans g34)) sb ((en.go g).go g34) (kk _ g34 ⟨l.w, _, upd_same, Das.go (Das.set r j hx) g34⟩ fun a o q e => by rw [upd_ne q]; exact x3 a o e)

/-! ### what is walked -/
/-- J yields the data ds, one by one -/
def Yld (K : Fg) (M : Ms) (J : It) (ds : List PyData) (H : Hp) : Prop := ∀ H', Go M H H' → Md M H' → (∀ (i : Nat) d, ds[i]? = some d → J.go i H' ∧ ∀ x H'', J.yld i H' x H'' → Ex H' H'' ∧ Da K M H'' x d) ∧ J.stop ds.length H'
theorem Yld.go {J : It} {ds : List PyData} (y : Yld K M J ds H) (g : Go M H H') : Yld K M J ds H' := fun H2 g2 m => y H2 (g.trans g2) m
def EvI (K : Fg) (wi : TI) (ρ : Ro) (M : Ms) (H : Hp) (ds : List PyData) : Prop :=
  ∀ H1 σ, Ex H H1 → Md M H1 → Env K M H1 σ ρ → ∀ R : It → Hp → Prop, (∀ J H2, Ex H1 H2 → (∀ (N : Ms) (H3 : Hp), Md N H3 → (∀ v d, Da K M H2 v d → Da K N H3 v d) → Yld K N J ds H3) → R J H2) → wi σ H1 R
end
end DL
set_option maxRecDepth 100000
namespace DL
open PySem L2
section
variable {K : Fg} {B0 : List Addr} {ρ : Ro} {M : Ms} {H H' : Hp} {ta tb tc te : TE} {tl : TA} {tt : TT} {t u : TS} {s : Sl} {d e z : PyData} {b : Bool} {P : Po}
/-! ### what may be walked -/
/-- the items of data: a list's, a tuple's, a text's signs -/
def itD : PyData → Option (List PyData)
  | .list ds => some ds
  | .tuple ds => some ds
  | .str x => some (x.cps.toList.map fun c => .str ⟨#[c]⟩)
  | _ => none
/-- a list, a tuple or a text is walked -/
def iSeq (K : Fg) (tl : TE) : TI := fun σ H R => tl σ H fun x H1 => (∃ a, x = .ref a ∧ (∃ xs, SqL K H1 a xs) ∧ R (Itl K a) H1) ∨ (∃ a, x = .ref a ∧ (∃ xs, SqT K H1 a xs) ∧ R (Itt K a) H1) ∨ (∃ z, x = .str z ∧ R (Its z) H1)
theorem yld_list {a : Addr} {ds : List PyData} (h : Da K M H (.ref a) (.list ds)) : Yld K M (Itl K a) ds H := fun H' g m => by
  obtain ⟨a', xs, e, hr, hx⟩ := Da.list_inv (Da.go h g)
  cases e
  have sq : SqL K H' a xs := hid_l hr
  refine ⟨fun i d hd => ?_, xs, sq, by rw [Das.len hx]; exact Nat.le_refl _⟩
  obtain ⟨v, hv, dv⟩ := Das.get hx hd
  refine ⟨⟨xs, v, sq, hv⟩, fun x H'' hy => ?_⟩
  obtain ⟨rfl, hy⟩ := hy
  have := (hy xs sq).symm.trans hv
  cases this
  exact ⟨Ex.refl _, dv⟩
theorem yld_tup {a : Addr} {ds : List PyData} (h : Da K M H (.ref a) (.tuple ds)) : Yld K M (Itt K a) ds H := fun H' g m => by
  obtain ⟨a', xs, e, hr, hx⟩ := Da.tup_inv (Da.go h g)
  cases e
  have sq : SqT K H' a xs := hid_t hr
  refine ⟨fun i d hd => ?_, xs, sq, by rw [Das.len hx]; exact Nat.le_refl _⟩
  obtain ⟨v, hv, dv⟩ := Das.get hx hd
  refine ⟨⟨xs, v, sq, hv⟩, fun x H'' hy => ?_⟩
  obtain ⟨rfl, hy⟩ := hy
  have := (hy xs sq).symm.trans hv
  cases this
  exact ⟨Ex.refl _, dv⟩
theorem yld_str {x : Str} : Yld K M (Its x) (x.cps.toList.map fun c => .str ⟨#[c]⟩) H := fun H' g m => by
  refine ⟨fun i d hd => ?_, by show x.cps.size ≤ _; simp⟩
  rw [List.getElem?_map] at hd
  cases e : x.cps.toList[i]? with
  | none => rw [e] at hd; cases hd
  | some c =>
    rw [e] at hd
    have hd' : PyData.str ⟨#[c]⟩ = d := by injection hd
    subst hd'
    have e' : x.cps[i]? = some c := by simpa using e
    refine ⟨by show i < x.cps.size; exact (Array.getElem?_eq_some_iff.mp e').1, fun y H'' hy => ?_⟩
    obtain ⟨rfl, c', h1, rfl⟩ := hy
    rw [e'] at h1; cases h1
    exact ⟨Ex.refl _, .str _⟩
theorem yld_rng {lo : Int} {n : Nat} : Yld K M (Itr lo n) ((List.range n).map fun (k : Nat) => .int (lo + (k : Int))) H := fun H' g m => by
  refine ⟨fun i d hd => ?_, by show n ≤ _; simp⟩
  rw [List.getElem?_map] at hd
  by_cases hi : i < n
  · rw [List.getElem?_range hi] at hd
    have hd' : PyData.int (lo + (i : Int)) = d := by injection hd
    subst hd'
    refine ⟨hi, fun y H'' hy => ?_⟩
    obtain ⟨rfl, rfl⟩ := hy
    exact ⟨Ex.refl _, .int _⟩
  · rw [List.getElem?_eq_none (by simp; omega)] at hd; cases hd
theorem ei_seq {ds : List PyData} (h : EvD K te ρ M H d) (hi : itD d = some ds) : EvI K (iSeq K te) ρ M H ds := fun H1 σ x m en R q =>
  h H1 σ x m en _ fun v H2 x2 r => by
    cases d <;> try (cases hi; done)
    · cases hi
      have e := Da.str_inv r; subst e
      exact .inr (.inr ⟨_, rfl, q _ H2 x2 fun N H3 _ _ => yld_str⟩)
    · cases hi
      have r0 := r
      obtain ⟨a, xs, rfl, ha, hx⟩ := Da.list_inv r
      exact .inl ⟨a, rfl, ⟨xs, (hid_l ha)⟩, q _ H2 x2 fun N H3 _ k => yld_list (k _ _ r0)⟩
    · cases hi
      have r0 := r
      obtain ⟨a, xs, rfl, ha, hx⟩ := Da.tup_inv r
      exact .inr (.inl ⟨a, rfl, ⟨xs, hid_t ha⟩, q _ H2 x2 fun N H3 _ k => yld_tup (k _ _ r0)⟩)
/-- range(n), range(a, b) -/
theorem ei_rng1 {n : Int} (h : EvAD K tl ρ M H [.int n]) (hn : n < 2 ^ 62) (h0 : -(2 ^ 62) ≤ n) : EvI K (iRng1 tl) ρ M H ((List.range n.toNat).map fun (k : Nat) => .int (0 + (k : Int))) := fun H1 σ x m en R q =>
  h H1 σ x m en _ fun vs H2 x2 r => by
    obtain ⟨v, rfl, h1⟩ := Das.one r
    have e := Da.int_inv h1; subst e
    exact ⟨n, rfl, h0, hn, q _ H2 x2 fun N H3 _ _ => yld_rng⟩
theorem ei_rng2 {a n : Int} (h : EvAD K tl ρ M H [.int a, .int n]) (hb : -(2 ^ 62) ≤ a ∧ a < 2 ^ 62 ∧ -(2 ^ 62) ≤ n ∧ n < 2 ^ 62) : EvI K (iRng2 tl) ρ M H ((List.range (n - a).toNat).map fun (k : Nat) => .int (a + (k : Int))) := fun H1 σ x m en R q =>
  h H1 σ x m en _ fun vs H2 x2 r => by
    obtain ⟨v, w, rfl, h1, h2⟩ := Das.two r
    have e := Da.int_inv h1; subst e
    have e := Da.int_inv h2; subst e
    exact ⟨a, n, rfl, hb, q _ H2 x2 fun N H3 _ _ => yld_rng⟩
/-! ### targets -/
/-- the target g, given d, leads from ρ to ρ' -/
def Tg (K : Fg) (g : TG) (d : PyData) (ρ ρ' : Ro) : Prop := ∀ (M : Ms) (x : V) (σ : L2.St) (H : Hp), Da K M H x d → Env K M H σ ρ → ∃ σ', Env K M H σ' ρ' ∧ ∀ Q : L2.St → Hp → Prop, Q σ' H → g x σ H Q
theorem tg_name {j : Nat} : Tg K (gName j) d ρ (ρ.set j (some (.d d))) := fun M x σ H h en => ⟨_, en.set (s := .d d) h, fun Q q => q⟩
theorem tg_names {is : List Nat} {ds : List PyData} (hl : is.length = ds.length) : Tg K (gNames K is) (.tuple ds) ρ ((is.zip ds).foldl (fun r p => r.set p.1 (some (.d p.2))) ρ) := fun M x σ H h en => by
  obtain ⟨a, xs, rfl, ha, hx⟩ := Da.tup_inv h
  obtain ⟨σ', en', kk⟩ := g_names (σ := σ) (is := is) hx hl en
  exact ⟨σ', en', fun Q q => ⟨a, xs, rfl, hid_t ha, (Das.len hx).trans hl.symm, kk Q q⟩⟩

/-! ### for -/
theorem r_for {wi : TI} {g : TG} {ds : List PyData} (hI : EvI K wi ρ M H ds) (Inv : Nat → Ro → Hp → Prop) (h0 : ∀ H1, Ex H H1 → Inv 0 ρ H1)
    (hs : ∀ (i : Nat) d ρ' H', ds[i]? = some d → Inv i ρ' H' → Go M H H' → Md M H' → ∃ ρ2, Tg K g d ρ' ρ2 ∧ ∀ H'', Ex H' H'' →
      Rn K B0 t ρ2 M H'' { N := fun r M' H3 => Sub M.h M' ∧ Inv (i + 1) r H3, R := P.R, B := P.N, C := fun r M' H3 => Sub M.h M' ∧ Inv (i + 1) r H3 })
    (hd : ∀ ρ' H', Inv ds.length ρ' H' → Go M H H' → P.N ρ' M H') : Rn K B0 (tFor wi g t) ρ M H P := fun m sb σ en D dn => by
  refine hI H σ (Ex.refl _) m en _ fun J H1 x1 hy => ?_
  have Y := hy M H1 (m.ex x1) (fun _ _ h => h)
  refine ⟨fun i k σ' H' => k = ds.length - i ∧ i ≤ ds.length ∧ Go M H1 H' ∧ Md M H' ∧ ∃ ρ', Env K M H' σ' ρ' ∧ Inv i ρ' H', ⟨ds.length, by simp, Nat.zero_le _, Go.refl _ _, m.ex x1, ρ, en.ex x1, h0 H1 x1⟩, ?_⟩
  rintro i k σ' H' ⟨rfl, hi, g1, m1, ρ', en', iv⟩
  have g01 : Go M H H' := x1.go.trans g1
  obtain ⟨y1, y2⟩ := Y H' g1 m1
  by_cases hlt : i < ds.length
  · have hdi := List.getElem?_eq_getElem hlt
    obtain ⟨go, yy⟩ := y1 i _ hdi
    refine .inr ⟨go, fun σ2 H2 => i + 1 ≤ ds.length ∧ Go M H1 H2 ∧ Md M H2 ∧ ∃ ρ', Env K M H2 σ2 ρ' ∧ Inv (i + 1) ρ' H2, fun σ2 H2 q => ⟨ds.length - (i + 1), by omega, rfl, q⟩, fun x H'' hyl => ?_⟩
    obtain ⟨x2, dx⟩ := yy x H'' hyl
    obtain ⟨ρ2, tg, body⟩ := hs i _ ρ' H' hdi iv g01 m1
    obtain ⟨σ2, en2, kk⟩ := tg M x σ' H'' dx (en'.ex x2)
    refine kk _ ?_
    have bd := body H'' x2
    have st0 : Stp M H M H'' := .of m (g01.trans x2.go)
    refine bd (m1.ex x2) sb σ2 en2 _ ⟨?_, ?_, ?_, ?_⟩
    · intro σ3 H3 ρ3 M3 st sb3 en3 ⟨sm, iv3⟩
      exact ⟨hlt, (g1.trans x2.go).trans st.go, (m1.ex x2).go st.go, ρ3, en3.mono sm, iv3⟩
    · intro v H3 s M3 st sb3 rl p
      exact dn.rt v H3 s M3 (st0.trans st) sb3 rl p
    · intro σ3 H3 ρ3 M3 st sb3 en3 p
      exact dn.nx σ3 H3 ρ3 M3 (st0.trans st) sb3 en3 p
    · intro σ3 H3 ρ3 M3 st sb3 en3 ⟨sm, iv3⟩
      exact ⟨hlt, (g1.trans x2.go).trans st.go, (m1.ex x2).go st.go, ρ3, en3.mono sm, iv3⟩
  · have e : i = ds.length := by omega
    subst e
    exact .inl ⟨y2, dn.nx σ' H' ρ' M (.of m g01) sb en' (hd ρ' H' iv g01)⟩

/-! ### while -/
theorem r_while (Inv : Ro → Hp → Prop) (μ : Ro → Hp → Nat → Prop) (n0 : Nat) (h0 : Inv ρ H) (m0 : μ ρ H n0)
    (hs : ∀ ρ' H' n, Inv ρ' H' → μ ρ' H' n → Go M H H' → Md M H' → ∃ b, EvB K tt ρ' M H' b ∧ (b = true → ∀ H'', Ex H' H'' → Rn K B0 t ρ' M H'' { N := fun r M' H3 => Sub M.h M' ∧ Inv r H3 ∧ ∃ n', n' < n ∧ μ r H3 n', R := P.R, B := P.N, C := fun r M' H3 => Sub M.h M' ∧ Inv r H3 ∧ ∃ n', n' < n ∧ μ r H3 n' }) ∧
      (b = false → ∀ H'', Ex H' H'' → P.N ρ' M H'')) : Rn K B0 (tWhile tt t) ρ M H P := fun m sb σ en D dn => by
  refine ⟨fun n σ' H' => Go M H H' ∧ Md M H' ∧ ∃ ρ', Env K M H' σ' ρ' ∧ Inv ρ' H' ∧ μ ρ' H' n, ⟨n0, Go.refl _ _, m, ρ, en, h0, m0⟩, ?_⟩
  rintro n σ' H' ⟨g1, m1, ρ', en', iv, mu⟩
  obtain ⟨b, hb, h1, h2⟩ := hs ρ' H' n iv mu g1 m1
  refine hb H' σ' (Ex.refl _) m1 en' _ fun H'' x => ?_
  have st0 : Stp M H M H'' := .of m (g1.trans x.go)
  cases b with
  | false =>
    rw [if_neg Bool.false_ne_true]
    exact dn.nx σ' H'' ρ' M st0 sb (en'.ex x) (h2 rfl H'' x)
  | true =>
    rw [if_pos rfl]
    refine ⟨fun σ2 H2 => ∃ n', n' < n ∧ Go M H H2 ∧ Md M H2 ∧ ∃ ρ', Env K M H2 σ2 ρ' ∧ Inv ρ' H2 ∧ μ ρ' H2 n', fun σ2 H2 q => q, ?_⟩
    refine h1 rfl H'' x (m1.ex x) sb σ' (en'.ex x) _ ⟨?_, ?_, ?_, ?_⟩
    · intro σ3 H3 ρ3 M3 st sb3 en3 ⟨sm, iv3, n', hn, mu'⟩
      exact ⟨n', hn, (g1.trans x.go).trans st.go, (m1.ex x).go st.go, ρ3, en3.mono sm, iv3, mu'⟩
    · intro v H3 s M3 st sb3 rl p
      exact dn.rt v H3 s M3 (st0.trans st) sb3 rl p
    · intro σ3 H3 ρ3 M3 st sb3 en3 p
      exact dn.nx σ3 H3 ρ3 M3 (st0.trans st) sb3 en3 p
    · intro σ3 H3 ρ3 M3 st sb3 en3 ⟨sm, iv3, n', hn, mu'⟩
      exact ⟨n', hn, (g1.trans x.go).trans st.go, (m1.ex x).go st.go, ρ3, en3.mono sm, iv3, mu'⟩
end
end DL
set_option maxRecDepth 100000
namespace DL
open PySem L2
theorem wipe_get (σ : L2.St) (k : Nat) : ∀ vs : List Nat, (L2.wipe σ vs)[k]? = if k ∈ vs then (σ[k]?).map (fun _ => none) else σ[k]?
  | [] => by simp [L2.wipe]
  | v :: vs => by
    unfold L2.wipe
    by_cases h : v = k
    · subst h
      rw [if_pos (List.mem_cons_self)]
      by_cases hl : v < (L2.wipe σ vs).length
      · rw [List.getElem?_set_self hl]
        rw [wipe_length] at hl
        rw [List.getElem?_eq_getElem hl]; rfl
      · rw [List.getElem?_eq_none (by rw [List.length_set]; omega)]
        rw [wipe_length] at hl
        rw [List.getElem?_eq_none (by omega)]; rfl
    · rw [List.getElem?_set_ne h, wipe_get σ k vs]
      by_cases m : k ∈ vs
      · rw [if_pos m, if_pos (List.mem_cons.mpr (.inr m))]
      · rw [if_neg m, if_neg (fun z => by rcases List.mem_cons.mp z with e | e; exact h e.symm; exact m e)]
theorem wipe_set {σ : L2.St} {j : Nat} {x : Option V} {vs : List Nat} (h : j ∈ vs) : L2.wipe ((L2.wipe σ vs).set j x) vs = L2.wipe σ vs := by
  apply List.ext_getElem?
  intro k
  rw [wipe_get, wipe_get]
  by_cases m : k ∈ vs
  · rw [if_pos m, if_pos m]
    have e : ((L2.wipe σ vs).set j x)[k]?.isSome = σ[k]?.isSome := by
      by_cases hk : k < σ.length
      · rw [List.getElem?_eq_getElem (by rw [List.length_set, wipe_length]; exact hk), List.getElem?_eq_getElem hk]; rfl
      · rw [List.getElem?_eq_none (by rw [List.length_set, wipe_length]; omega), List.getElem?_eq_none (by omega)]
    cases h1 : ((L2.wipe σ vs).set j x)[k]? <;> cases h2 : σ[k]? <;> rw [h1, h2] at e <;> first | rfl | cases e
  · rw [if_neg m, if_neg m]
    have hj : j ≠ k := fun e => m (e ▸ h)
    rw [List.getElem?_set_ne hj, wipe_get, if_neg m]
theorem wipe_wipe {σ : L2.St} {vs : List Nat} : L2.wipe (L2.wipe σ vs) vs = L2.wipe σ vs := by
  apply List.ext_getElem?
  intro k
  rw [wipe_get]
  by_cases m : k ∈ vs
  · rw [if_pos m, wipe_get, if_pos m]
    cases σ[k]? <;> rfl
  · rw [if_neg m]
section
variable {K : Fg} {B0 : List Addr} {ρ : Ro} {M : Ms} {H H' : Hp} {ta tb tc te : TE} {tl : TA} {tt : TT} {s : Sl} {d e z : PyData} {b : Bool} {P : Po}
/-- a comprehension's target -/
def Tc (K : Fg) (g : TG) (d : PyData) (vs : List Nat) (ρ ρ' : Ro) : Prop := ∀ (M : Ms) (x : V) (σ : L2.St) (H : Hp), Da K M H x d → Env K M H (L2.wipe σ vs) ρ → ∃ σ', Env K M H σ' ρ' ∧ L2.wipe σ' vs = L2.wipe σ vs ∧ ∀ Q : L2.St → Hp → Prop, Q σ' H → g x (L2.wipe σ vs) H Q
theorem tc_name {j : Nat} {vs : List Nat} (hj : j ∈ vs := by decide) : Tc K (gName j) d vs ρ (ρ.set j (some (.d d))) := fun M x σ H h en => ⟨_, en.set (s := .d d) h, wipe_set hj, fun Q q => q⟩
theorem g_names_w {vs : List Nat} : ∀ {is : List Nat} {xs : List V} {ds : List PyData} {ρ : Ro} {σ : L2.St} {H : Hp}, Das K M H xs ds → is.length = ds.length → (∀ i ∈ is, i ∈ vs) → Env K M H σ ρ → L2.wipe σ vs = σ0 →
    ∃ σ', Env K M H σ' ((is.zip ds).foldl (fun r p => r.set p.1 (some (.d p.2))) ρ) ∧ L2.wipe σ' vs = σ0 ∧ ∀ Q : L2.St → Hp → Prop, Q σ' H → (is.foldr (fun i t => gCons (gName i) t) gNil) xs σ H Q
  | [], _, [], ρ, σ, H, .nil, _, _, en, hw => ⟨σ, en, hw, fun Q q => ⟨rfl, q⟩⟩
  | i :: is, _, d :: ds, ρ, σ, H, .cons (v := v) (vs := xs) a t, hl, hm, en, hw => by
    have hw' : L2.wipe (σ.set i (some v)) vs = σ0 := by
      rw [← hw]
      apply List.ext_getElem?
      intro k
      rw [wipe_get, wipe_get]
      have hi := hm i List.mem_cons_self
      by_cases m : k ∈ vs
      · rw [if_pos m, if_pos m]
        by_cases e : i = k
        · subst e
          by_cases hk : i < σ.length
          · rw [List.getElem?_set_self hk, List.getElem?_eq_getElem hk]; rfl
          · rw [List.getElem?_eq_none (by rw [List.length_set]; omega), List.getElem?_eq_none (by omega)]
        · rw [List.getElem?_set_ne e]
      · rw [if_neg m, if_neg m, List.getElem?_set_ne (fun (e : i = k) => m (e ▸ hi))]
    obtain ⟨σ', en', w', k⟩ := g_names_w (is := is) t (by simpa using hl) (fun j hj => hm j (List.mem_cons.mpr (.inr hj))) (en.set (i := i) (s := .d d) a) hw'
    exact ⟨σ', en', w', fun Q q => ⟨v, xs, rfl, k Q q⟩⟩
theorem tc_names {is vs : List Nat} {ds : List PyData} (hl : is.length = ds.length) (hm : ∀ i ∈ is, i ∈ vs := by decide) : Tc K (gNames K is) (.tuple ds) vs ρ ((is.zip ds).foldl (fun r p => r.set p.1 (some (.d p.2))) ρ) := fun M x σ H h en => by
  obtain ⟨a, xs, rfl, ha, hx⟩ := Da.tup_inv h
  obtain ⟨σ', en', w', kk⟩ := g_names_w (is := is) hx hl hm en wipe_wipe
  exact ⟨σ', en', w', fun Q q => ⟨a, xs, rfl, hid_t ha, (Das.len hx).trans hl.symm, kk Q q⟩⟩
theorem take_more {α : Type} : ∀ {l : List α} {i : Nat} {x : α}, l[i]? = some x → l.take (i + 1) = l.take i ++ [x]
  | [], i, x, h => by simp at h
  | a :: l, 0, x, h => by have e : a = x := Option.some.inj h; subst e; rfl
  | a :: l, i + 1, x, h => by
    have ih := take_more (l := l) (i := i) (x := x) h
    show a :: l.take (i + 1) = a :: l.take i ++ [x]
    rw [ih]; rfl
/-- a comprehension over data that changes nothing: xs, as they are read (enc), which are kept (p), what they give (q) -/
theorem ev_lc {α : Type} {wi : TI} {g : TG} {vs : List Nat} {xs : List α} {enc : α → PyData} (p : α → Bool) (q : α → PyData) (hI : EvI K wi ρ M H (xs.map enc)) (hz : xs.length ≤ 100000)
    (hs : ∀ (i : Nat) a, xs[i]? = some a → ∃ ρ2, Tc K g (enc a) vs (wipeR ρ vs) ρ2 ∧ ∀ N H', Sub M.h N → Ex H H' → EvB K tt ρ2 N H' (p a) ∧ (p a = true → EvD K te ρ2 N H' (q a))) :
    EvD K (tLc wi g tt te vs) ρ M H (.list ((xs.filter p).map q)) := fun H1 σ x m en Q k => by
  refine hI H1 σ x m en _ fun J H2 x2 hy D hD => ?_
  have x02 : Ex H H2 := x.trans x2
  have m2 : Md M H2 := m.ex x2
  have nD : D ∉ M.h := m2.fresh hD
  have mD : Md (M.add D) (upd H2 D (.lst [])) := Md.add (m2.ex (Ex.new hD)) upd_same
  have Y := hy (M.add D) (upd H2 D (.lst [])) mD (fun v d h => dp_ex (hid_add hD) _ _ h)
  have en2 : Env K (M.add D) (upd H2 D (.lst [])) (L2.wipe σ vs) (wipeR ρ vs) := ((en.ex x2).new hD).wipe vs
  refine ⟨fun i n H' => n = xs.length - i ∧ i ≤ xs.length ∧ Go (M.add D) (upd H2 D (.lst [])) H' ∧ Md (M.add D) H' ∧ Ex H2 H' ∧ ∃ ys, H' D = some (.lst ys) ∧ Das K (M.add D) H' ys (((xs.take i).filter p).map q),
    ⟨xs.length, by simp, Nat.zero_le _, Go.refl _ _, mD, Ex.new hD, [], upd_same, by simp; exact .nil⟩, ?_⟩
  rintro i n H' ⟨rfl, hi, g1, m1, e1, ys, hys, dys⟩
  obtain ⟨y1, y2⟩ := Y H' g1 m1
  by_cases hlt : i < xs.length
  · have hxi := List.getElem?_eq_getElem hlt
    obtain ⟨go, yy⟩ := y1 i (enc xs[i]) (by rw [List.getElem?_map, hxi]; rfl)
    refine .inr ⟨go, fun H'' => i + 1 ≤ xs.length ∧ Go (M.add D) (upd H2 D (.lst [])) H'' ∧ Md (M.add D) H'' ∧ Ex H2 H'' ∧ ∃ ys, H'' D = some (.lst ys) ∧ Das K (M.add D) H'' ys (((xs.take (i + 1)).filter p).map q), fun H'' z => ⟨xs.length - (i + 1), by omega, rfl, z⟩, fun v H'' hyl => ?_⟩
    obtain ⟨x3, dx⟩ := yy v H'' hyl
    obtain ⟨ρ2, tg, body⟩ := hs i _ hxi
    obtain ⟨σ2, en3, hw, kk⟩ := tg (M.add D) v σ H'' dx (en2.go (g1.trans x3.go))
    refine kk _ ⟨hw, ?_⟩
    obtain ⟨hb, he⟩ := body (M.add D) H'' (fun a q => List.mem_cons.mpr (.inr q)) (x02.trans (e1.trans x3))
    refine hb H'' σ2 (Ex.refl _) (m1.ex x3) en3 _ fun H3 x4 => ?_
    have X3 : Ex H' H3 := x3.trans x4
    have tk := take_more hxi
    cases hp : p xs[i] with
    | true =>
      rw [if_pos rfl]
      refine he hp H3 σ2 x4 (m1.ex X3) (en3.ex x4) _ fun w H4 x5 r => ?_
      have X4 : Ex H' H4 := X3.trans x5
      have hD4 : H4 D = some (.lst ys) := X4 D _ hys
      have gD : Go (M.add D) H4 (upd H4 D (.lst (ys ++ [w]))) := Go.mut (List.mem_cons_self)
      have ll : ys.length ≤ 100000 := by
        rw [Das.len dys, List.length_map]
        exact Nat.le_trans (List.length_filter_le _ _) (Nat.le_trans (by rw [List.length_take]; exact Nat.min_le_right _ _) hz)
      refine ⟨ys, hD4, Nat.lt_of_le_of_lt ll (by decide), hlt, (g1.trans X4.go).trans gD, (m1.ex X4).go gD, fun a o h => ?_, ys ++ [w], upd_same, ?_⟩
      · rw [upd_ne (ne_of_none h hD)]
        exact X4 a o (e1 a o h)
      · rw [tk, List.filter_append, List.map_append, List.filter_cons, if_pos hp]
        exact Das.go (Das.app (dys.ex X4) (.cons r .nil)) gD
    | false =>
      rw [if_neg Bool.false_ne_true]
      refine ⟨hlt, g1.trans X3.go, m1.ex X3, e1.trans X3, ys, X3 D _ hys, ?_⟩
      rw [tk, List.filter_append, List.map_append, List.filter_cons, if_neg (by rw [hp]; exact Bool.false_ne_true)]
      have e : List.map q (List.filter p []) = [] := rfl
      rw [e, List.append_nil]
      exact dys.ex X3
  · have e : i = xs.length := by omega
    subst e
    refine .inl ⟨by rw [List.length_map] at y2; exact y2, k _ H' (x2.trans e1) ?_⟩
    rw [List.take_length] at dys
    exact Da.lst nD hys (dys.mono fun a q => List.mem_cons.mpr (.inr q))
theorem eb_yes : EvB K tYes ρ M H true := fun H1 σ _ _ _ Q q => q H1 (Ex.refl _)
/-- without a test -/
theorem ev_lc1 {α : Type} {wi : TI} {g : TG} {vs : List Nat} {xs : List α} {enc : α → PyData} (q : α → PyData) (hI : EvI K wi ρ M H (xs.map enc)) (hz : xs.length ≤ 100000)
    (hs : ∀ (i : Nat) a, xs[i]? = some a → ∃ ρ2, Tc K g (enc a) vs (wipeR ρ vs) ρ2 ∧ ∀ N H', Sub M.h N → Ex H H' → EvD K te ρ2 N H' (q a)) :
    EvD K (tLc wi g tYes te vs) ρ M H (.list (xs.map q)) := by
  have h := ev_lc (K := K) (te := te) (tt := tYes) (g := g) (vs := vs) (fun _ => true) q hI hz (fun i a ha => by
    obtain ⟨ρ2, h1, h2⟩ := hs i a ha
    exact ⟨ρ2, h1, fun N H' s x => ⟨eb_yes, fun _ => h2 N H' s x⟩⟩)
  rw [List.filter_eq_self.mpr (fun _ _ => rfl)] at h
  exact h
/-- a comprehension whose element may change the places of M: an invariant over what is made so far -/
theorem ee_lc {wi : TI} {g : TG} {vs : List Nat} {ds : List PyData} {P : Sl → Hp → Prop} (hI : EvI K wi ρ M H ds) (hz : ds.length ≤ 100000) (Inv : Nat → List PyData → Hp → Prop)
    (hst : ∀ i acc H H', (∀ a, a ∈ M.h → H' a = H a) → Inv i acc H → Inv i acc H') (h0 : ∀ H1, Ex H H1 → Inv 0 [] H1)
    (hs : ∀ (i : Nat) d acc, ds[i]? = some d → acc.length ≤ i → ∃ ρ2, Tc K g d vs (wipeR ρ vs) ρ2 ∧ ∀ D H', D ∉ M.h → Go (M.add D) H H' → Inv i acc H' → EvEB K tt ρ2 (M.add D) H' fun b H3 => if b = true then EvE K te ρ2 (M.add D) H3 fun s H4 => H4 D = H' D ∧ ∃ d', s = .d d' ∧ Inv (i + 1) (acc ++ [d']) H4 else H3 D = H' D ∧ Inv (i + 1) acc H3)
    (hd : ∀ acc H1, acc.length ≤ ds.length → Inv ds.length acc H1 → Go M H H1 → P (.d (.list acc)) H1) : EvE K (tLc wi g tt te vs) ρ M H P := fun m σ en Q k => by
  refine hI H σ (Ex.refl _) m en _ fun J H2 x2 hy D hD => ?_
  have m2 : Md M H2 := m.ex x2
  have nD : D ∉ M.h := m2.fresh hD
  have nDw : D ∉ M.w := fun q => nD (M.sub D q)
  have mD : Md (M.add D) (upd H2 D (.lst [])) := Md.add (m2.ex (Ex.new hD)) upd_same
  have Y := hy (M.add D) (upd H2 D (.lst [])) mD (fun v d h => dp_ex (hid_add hD) _ _ h)
  have en2 : Env K (M.add D) (upd H2 D (.lst [])) (L2.wipe σ vs) (wipeR ρ vs) := ((en.ex x2).new hD).wipe vs
  have hMD : ∀ {Ha : Hp} {o : HO} (a : Addr), a ∈ M.h → upd Ha D o a = Ha a := fun a q => upd_ne (fun e => nD (e ▸ q))
  have g02 : Go (M.add D) H (upd H2 D (.lst [])) := ((x2.trans (Ex.new hD)).go)
  refine ⟨fun i n H' => n = ds.length - i ∧ i ≤ ds.length ∧ Go (M.add D) (upd H2 D (.lst [])) H' ∧ Md (M.add D) H' ∧ ∃ ys acc, H' D = some (.lst ys) ∧ Das K (M.add D) H' ys acc ∧ acc.length ≤ i ∧ Inv i acc H',
    ⟨ds.length, by simp, Nat.zero_le _, Go.refl _ _, mD, [], [], upd_same, .nil, Nat.le_refl _, hst _ _ _ _ (fun a q => hMD a q) (h0 H2 x2)⟩, ?_⟩
  rintro i n H' ⟨rfl, hi, g1, m1, ys, acc, hys, dys, hl, iv⟩
  obtain ⟨y1, y2⟩ := Y H' g1 m1
  have gM : ∀ {Hz : Hp}, Go (M.add D) (upd H2 D (.lst [])) Hz → Go M H Hz := fun {Hz} gz => ⟨fun a o n h => by
    have nz : a ≠ D := fun e => by rw [e] at h; rw [x2 D o h] at hD; cases hD
    refine gz.1 a o (fun q => ?_) (by rw [upd_ne nz]; exact x2 a o h)
    rcases List.mem_cons.mp q with e | e
    · exact nz e
    · exact n e, (g02.trans gz).2⟩
  by_cases hlt : i < ds.length
  · have hxi := List.getElem?_eq_getElem hlt
    obtain ⟨go, yy⟩ := y1 i _ hxi
    refine .inr ⟨go, fun H'' => i + 1 ≤ ds.length ∧ Go (M.add D) (upd H2 D (.lst [])) H'' ∧ Md (M.add D) H'' ∧ ∃ ys acc, H'' D = some (.lst ys) ∧ Das K (M.add D) H'' ys acc ∧ acc.length ≤ i + 1 ∧ Inv (i + 1) acc H'', fun H'' z => ⟨ds.length - (i + 1), by omega, rfl, z⟩, fun v H'' hyl => ?_⟩
    obtain ⟨x3, dx⟩ := yy v H'' hyl
    obtain ⟨ρ2, tg, body⟩ := hs i _ acc hxi hl
    obtain ⟨σ2, en3, hw, kk⟩ := tg (M.add D) v σ H'' dx (en2.go (g1.trans x3.go))
    refine kk _ ⟨hw, ?_⟩
    have eM : ∀ a, a ∈ M.h → H'' a = H' a := fun a q => by
      obtain ⟨o, ho⟩ := m1 a (List.mem_cons.mpr (.inr q))
      rw [x3 a o ho, ho]
    refine body D H'' nD (g02.trans (g1.trans x3.go)) (hst _ _ _ _ eM iv) (m1.ex x3) σ2 en3 _ fun b H3 g3 pb => ?_
    cases b with
    | true =>
      rw [if_pos rfl] at pb ⊢
      refine pb ((m1.ex x3).go g3) σ2 (en3.go g3) _ fun w H4 s g4 r ⟨e4, d', es, iv'⟩ => ?_
      subst es
      have G : Go (M.add D) H' H4 := x3.go.trans (g3.trans g4)
      have hD4 : H4 D = some (.lst ys) := by rw [e4]; exact x3 D _ hys
      have gD : Go (M.add D) H4 (upd H4 D (.lst (ys ++ [w]))) := Go.mut (List.mem_cons_self)
      refine ⟨ys, hD4, Nat.lt_of_le_of_lt (by rw [Das.len dys]; omega : ys.length ≤ 100000) (by decide), hlt, (g1.trans G).trans gD, (m1.go G).go gD, ys ++ [w], acc ++ [d'], upd_same, Das.go (Das.app (Das.go dys G) (.cons r .nil)) gD, by rw [List.length_append]; simpa using hl, hst _ _ _ _ (fun a q => hMD a q) iv'⟩
    | false =>
      rw [if_neg Bool.false_ne_true] at pb ⊢
      have G : Go (M.add D) H' H3 := x3.go.trans g3
      exact ⟨hlt, g1.trans G, m1.go G, ys, acc, by rw [pb.1]; exact x3 D _ hys, Das.go dys G, Nat.le_succ_of_le hl, pb.2⟩
  · have e : i = ds.length := by omega
    subst e
    exact .inl ⟨y2, k _ H' (.d (.list acc)) (gM g1) (Da.lst nD hys (dys.mono fun a q => List.mem_cons.mpr (.inr q))) (hd acc H' hl iv (gM g1))⟩
end
end DL
set_option maxRecDepth 100000
namespace DL
open PySem L2
theorem u64 {k : Nat} {A : Around} (hr : Room k A) : A.units + 64 < cLine := hr.units
theorem u65 {k : Nat} {A : Around} (hr : Room k A) : A.units + 65 < cLine := by have := hr.un; omega
section
variable {X : Cx}
def NegD (d z : PyData) : Prop := ∃ i, d = .int i ∧ z = .int (-i)
theorem un_negDD : UnR X (unaryOp .USub) (rU1 X.K NegD) := un_negD
def IsBD (d e z : PyData) : Prop := ∃ a b, d = .bool a ∧ e = .bool b ∧ z = .bool (decide (a = b))
def NotBD (d e z : PyData) : Prop := ∃ a b, d = .bool a ∧ e = .bool b ∧ z = .bool (!decide (a = b))
theorem op_isBD : OpR X (compareOp .Is) (rB X.K IsBD) := by
  intro pins s σ H x y v u Q I rx ry h
  obtain ⟨M, d, e, z, hM, hd, he, ⟨a, b, rfl, rfl, rfl⟩, q⟩ := h
  have e1 := hd.bl_inv; have e2 := he.bl_inv; subst e1; subst e2
  exact op_isBl pins s σ H _ _ v u Q I rx ry ⟨a, b, rfl, rfl, q _ H (Ex.refl H) (.bl _)⟩
theorem op_notBD : OpR X (compareOp .IsNot) (rB X.K NotBD) := by
  intro pins s σ H x y v u Q I rx ry h
  obtain ⟨M, d, e, z, hM, hd, he, ⟨a, b, rfl, rfl, rfl⟩, q⟩ := h
  have e1 := hd.bl_inv; have e2 := he.bl_inv; subst e1; subst e2
  exact op_notBl pins s σ H _ _ v u Q I rx ry ⟨a, b, rfl, rfl, q _ H (Ex.refl H) (.bl _)⟩
/-! ### isinstance -/
def tyD : PyData → String
  | .none => "NoneType"
  | .bool _ => "bool"
  | .int _ => "int"
  | .str _ => "str"
  | .list _ => "list"
  | .tuple _ => "tuple"
  | .dict _ => "dict"
theorem ty_of {K : Fg} {M : Ms} {H : Hp} {v : V} {d : PyData} (h : Da K M H v d) : TyX K H v (.type (tyD d)) := by
  cases h with
  | non => exact .base .non
  | bl b => exact .base (.bl b)
  | int i => exact .base (.int i)
  | str x => exact .base (.str x)
  | lst s a =>
    rcases hid_l s with (s | ⟨o, s⟩) | ⟨o, its, n, hk, hc, _⟩
    · exact .base (.lst s)
    · exact .base (.frz s)
    · exact .kList hk hc
  | tup s a =>
    rcases hid_t s with (s | ⟨o, s⟩) | ⟨o, its, n, hk, hc, _⟩
    · exact .base (.tup s)
    · exact .fTuple s
    · exact .kTuple hk hc
def isN (T n : String) : Bool := n == T || (n == "bool" && T == "int")
/-- isinstance(d, T), T one of int, str, bool, list, tuple -/
def isD (T : String) (d : PyData) : Bool := isN T (tyD d)
def goodT : List String := ["int", "str", "bool", "list", "tuple"]
def allT : List String := ["NoneType", "bool", "int", "str", "list", "tuple", "dict"]
theorem kit_all : ∀ T ∈ goodT, ∀ n ∈ allT, kitB n T = some (isN T n) := by decide +kernel
theorem ty_all (d : PyData) : tyD d ∈ allT := by cases d <;> simp [tyD, allT]
theorem kit_isD {T : String} (h : T ∈ goodT) (d : PyData) : kitB (tyD d) T = some (isD T d) := kit_all T h _ (ty_all d)
def rIsD (K : Fg) : List V → Hp → VK → Prop := fun vs H Q => ∃ M v d T, vs = [v, .ty T] ∧ T ∈ goodT ∧ Md M H ∧ Da K M H v d ∧ Q (.bl (isD T d)) H
theorem call_isiD : CallR X (.builtin "isinstance") (rIsD X.K) := by
  intro pins s σ H xs us Q I rx h
  obtain ⟨M, v, d, T, rfl, hT, hM, hd, q⟩ := h
  exact call_isi pins s σ H _ us Q I rx ⟨v, .ty T, _, _, _, rfl, .ty T, ty_of hd, kit_ty (kit_isD hT d), q⟩
def rIsTD (K : Fg) : List V → Hp → VK → Prop := fun vs H Q => ∃ (M : Ms) (v : V) (d : PyData) (tp : Addr) (Ts : List String), vs = [v, .ref tp] ∧ H tp = some (.tup (Ts.map V.ty)) ∧ (∀ T ∈ Ts, T ∈ goodT) ∧ Md M H ∧ Da K M H v d ∧ Q (.bl (Ts.any fun T => isD T d)) H
theorem kit_any {K : Fg} {d : PyData} : ∀ {Ts : List String}, (∀ T ∈ Ts, T ∈ goodT) → PySem.W.kitAny K (.type (tyD d)) (Ts.map Value.type) = some (Ts.any fun T => isD T d)
  | [], _ => kitAny_nil
  | T :: Ts, h => by
    have ih := kit_any (K := K) (d := d) (Ts := Ts) fun T' m => h T' (List.mem_cons.mpr (.inr m))
    rw [List.map_cons, List.any_cons]
    exact kitAny_cons (kit_ty (kit_isD (h T List.mem_cons_self) d)) (fun e => by rw [e, Bool.false_or]; exact ih) (fun e => by rw [e, Bool.true_or])
theorem cls_tys : ∀ Ts : List String, Paired ClsV (Ts.map V.ty) (Ts.map Value.type)
  | [] => .nil
  | T :: Ts => .cons (.ty T) (cls_tys Ts)
theorem call_isiTD : CallR X (.builtin "isinstance") (rIsTD X.K) := by
  intro pins s σ H xs us Q I rx h
  obtain ⟨M, v, d, tp, Ts, rfl, ht, hT, hM, hd, q⟩ := h
  exact call_isiT pins s σ H _ us Q I rx ⟨v, tp, _, _, _, _, rfl, ht, cls_tys Ts, ty_of hd, kit_any hT, q⟩
/-! ### divmod, sorted, reversed -/
def DivmodD : List PyData → PyData → Prop
  | [.int i, .int j], z => CDiv i j ∧ z = .tuple [.int (i / j), .int (i % j)]
  | _, _ => False
theorem call_divmodD : CallR X (.builtin "divmod") (rC X.K DivmodD) := by
  intro pins s σ H xs us Q I rx h
  obtain ⟨M, ds, z, hM, hd, g, q⟩ := h
  match ds, g with
  | [.int i, .int j], g =>
    obtain ⟨v, u, rfl, h1, h2⟩ := Das.two hd
    have e1 := Da.int_inv h1; have e2 := Da.int_inv h2; subst e1; subst e2
    exact call_divmod pins s σ H _ us Q I rx ⟨i, j, rfl, g.1, fun p hp => q _ _ (Ex.new hp) (by rw [g.2]; exact Da.new_tup hM hp (.cons (.int _) (.cons (.int _) .nil)))⟩
def isort (ns : List Int) : List Int := ns.mergeSort (fun x y => decide (x ≤ y))
def SortedD : List PyData → PyData → Prop
  | [.list ds], z => ∃ ns : List Int, ds = ns.map PyData.int ∧ z = .list ((isort ns).map PyData.int)
  | _, _ => False
theorem call_sortedD (hc : X.calm = true) : CallR X (.builtin "sorted") (rC X.K SortedD) := by
  intro pins s σ H xs us Q I rx h
  obtain ⟨M, ds, z, hM, hd, g, q⟩ := h
  match ds, g with
  | [.list ds], g =>
    obtain ⟨v, rfl, h1⟩ := Das.one hd
    obtain ⟨a, xs, rfl, ha, hx⟩ := Da.list_inv h1
    obtain ⟨ns, rfl, g⟩ := g
    have e := Das.ints hx; subst e
    refine cr_sortedI pins s σ H _ us Q I rx ⟨a, ns, rfl, (hid_l ha), fun ns' p hp hs hn => q _ _ (Ex.new hn) ?_⟩
    have e : ns' = isort ns := PySem.W.os_sorted_mergeSort hp hs
    subst e
    rw [g]
    exact Da.new_lst hM hn (Das.of_ints _)
end
section
variable {K : Fg} {B0 : List Addr} {ρ : Ro} {M : Ms} {H H' : Hp} {ta tb tc te : TE} {tl : TA} {tt : TT} {t u : TS} {s : Sl} {d e z : PyData} {b : Bool} {P : Po}
theorem ev_isi {T : String} (h : EvD K ta ρ M H d) (hT : T ∈ goodT := by decide) : EvD K (tCB (rIsD K) (tCons ta (tCons (tC (.ty T)) tNil))) ρ M H (.bool (isD T d)) := fun H1 σ x m en Q q =>
  h H1 σ x m en _ fun v H2 x2 r => ⟨M, v, d, T, rfl, hT, m.ex x2, r, q _ H2 x2 (Dq.bl _)⟩
/-- the display of classes -/
def tTys : List String → TA
  | [] => tNil
  | T :: Ts => tCons (tC (.ty T)) (tTys Ts)
theorem tys_ev : ∀ (Ts : List String) (σ : L2.St) (H : Hp) (Q : List V → Hp → Prop), Q (Ts.map V.ty) H → tTys Ts σ H Q
  | [], σ, H, Q, q => q
  | T :: Ts, σ, H, Q, q => tys_ev Ts σ H (fun vs H' => Q (.ty T :: vs) H') q
theorem ev_isiT (Ts : List String) (h : EvD K ta ρ M H d) (hT : ∀ T ∈ Ts, T ∈ goodT := by decide) (hl : Ts.length ≤ 100000 := by decide) : EvD K (tCB (rIsTD K) (tCons ta (tCons (tTup (tTys Ts)) tNil))) ρ M H (.bool (Ts.any fun T => isD T d)) := fun H1 σ x m en Q q =>
  h H1 σ x m en _ fun v H2 x2 r => tys_ev Ts σ H2 _ ⟨by rw [List.length_map]; exact Nat.le_trans hl (by decide), fun p hp =>
    ⟨M, v, d, p, Ts, rfl, upd_same, hT, m.ex (x2.trans (Ex.new hp)), r.ex (Ex.new hp), q _ _ (x2.trans (Ex.new hp)) (Dq.bl _)⟩⟩
theorem ev_revL {ds : List PyData} (h : EvD K te ρ M H (.list ds)) : EvD K (tRevL K te) ρ M H (.list ds.reverse) := fun H1 σ x m en Q q =>
  h H1 σ x m en _ fun v H2 x2 r => by
    obtain ⟨a, xs, rfl, ha, hx⟩ := Da.list_inv r
    exact ⟨a, xs, rfl, (hid_l ha), fun p hp => q _ _ (x2.trans (Ex.new hp)) (Da.new_lst (m.ex x2) hp (Das.rev hx))⟩
end
/-! ### a def keeps its promise -/
section
variable {Pr : Program} {w : World} {K : Fg} {mg : Str → Option Value} {base : Heap}
def ro0 (N : List Str) (ss : List Sl) : Ro := ss.map some ++ List.replicate (N.length - ss.length) none
/-- what a body is to show -/
def Sem (K : Fg) (N : List Str) (np : Nat) (A : Pm) (ts : TS) : Prop := ∀ M ss H R, Md M H → A ss M H R → ss.length = np ∧ np ≤ N.length ∧ Rn K M.h ts (ro0 N ss) M H { N := fun _ _ H' => R (.d .none) H', R := R }
theorem Rls.gets {M : Ms} {H : Hp} {vs : List V} {ss : List Sl} (h : Rls K M H vs ss) : ∀ (i : Nat) v s, vs[i]? = some v → ss[i]? = some s → Rl K M H v s := fun i v s e e' => Rls.get h e e'
theorem mk_ok {x qual : Str} {st : Stmt} {f : Addr} {fd : FuncData} {N ps : List Str} {k : Nat} {A : Pm} {ts : TS} (F : Fun K x qual st f fd) (S : FnScope N ps (defScope st)) (sem : Sem K N ps.length A ts)
    (der : ∀ (cdv : Value) (A' : Around) (outer : List PySem.Env) (s : Shared) (H : Hp) (E : XK), Room k (A'.deeper (PyProof.Rows.envOfC qual (defScope st) s.heap.objs.size f cdv)) → PSs (cxOf CX0 Pr w K mg base N qual (defScope st) f cdv A' outer s H E).nox (defBody st) ts) :
    FnOk Pr w K mg base CX0 (k + 1) f fd ps (spG K A) := by
  refine F.ok S (fun vs H Q E h => ?_) (fun cdv A' outer s H vs Q E hr h => ⟨ts, der cdv A' outer s H E hr, ?_⟩)
  · obtain ⟨M, ss, R, m, r, a, q⟩ := h
    rw [Rls.len r]
    exact (sem M ss H R m a).1
  · obtain ⟨M, ss, R, m, r, a, q⟩ := h
    obtain ⟨h1, h2, rn⟩ := sem M ss H R m a
    have hl := Rls.len r
    refine rn m (fun _ h => h) (L2.start N vs) (Env.start hl (Rls.gets r) (by omega)) _ ⟨fun σ' H' ρ' M' st sb en p => ?_, fun v H' s M' st sb rl p => ?_, fun _ _ _ _ _ _ _ p => p.elim, fun _ _ _ _ _ _ _ p => p.elim⟩
    · exact q .non H' (.d .none) st.go Dq.non p
    · exact q v H' s st.go (rl.mono sb) p
end
end DL
set_option maxRecDepth 100000
namespace DL
open PySem L2
section
variable {i j : Int} {a b : Str} {xs ys : List PyData} {p q : Bool}
theorem g_add : AddD (.int i) (.int j) (.int (i + j)) := rfl
theorem g_addS (h : a.length + b.length ≤ sizeLine) : AddD (.str a) (.str b) (.str (a ++ b)) := ⟨h, rfl⟩
theorem g_addL (h : xs.length + ys.length ≤ sizeLine) : AddD (.list xs) (.list ys) (.list (xs ++ ys)) := ⟨h, rfl⟩
theorem g_addT (h : xs.length + ys.length ≤ sizeLine) : AddD (.tuple xs) (.tuple ys) (.tuple (xs ++ ys)) := ⟨h, rfl⟩
theorem g_sub : SubD (.int i) (.int j) (.int (i - j)) := rfl
theorem g_mul (h : CMul i j) : MulD (.int i) (.int j) (.int (i * j)) := ⟨h, rfl⟩
theorem g_mulL (h : -(2 ^ 63) ≤ i ∧ i < 2 ^ 63 ∧ xs.length * i.toNat ≤ sizeLine) : MulD (.list xs) (.int i) (.list (List.replicate i.toNat xs).flatten) := ⟨h.1, h.2.1, h.2.2, rfl⟩
theorem g_div (h : CDiv i j) : DivD (.int i) (.int j) (.int (i / j)) := ⟨h, rfl⟩
theorem g_mod (h : 0 < j) : ModD (.int i) (.int j) (.int (i % j)) := ⟨h, rfl⟩
theorem g_pow (h : CPow i j) : PowD (.int i) (.int j) (.int (i ^ j.toNat)) := ⟨h, rfl⟩
theorem g_lt : LtD (.int i) (.int j) (.bool (decide (i < j))) := rfl
theorem g_le : LeD (.int i) (.int j) (.bool (decide (i ≤ j))) := rfl
theorem g_gt : GtD (.int i) (.int j) (.bool (decide (j < i))) := rfl
theorem g_ge : GeD (.int i) (.int j) (.bool (decide (j ≤ i))) := rfl
theorem g_ltS : LtD (.str a) (.str b) (.bool (decide (a.cps.toList < b.cps.toList))) := rfl
theorem g_leS : LeD (.str a) (.str b) (.bool (!decide (b.cps.toList < a.cps.toList))) := rfl
theorem eqv_int : PyData.eqv (.int i) (.int j) = decide (i = j) := by unfold PyData.eqv; exact Bool.beq_eq_decide_eq i j
theorem eqv_bool : PyData.eqv (.bool p) (.bool q) = decide (p = q) := by unfold PyData.eqv; cases p <;> cases q <;> rfl
theorem eqv_str : PyData.eqv (.str a) (.str b) = decide (a = b) := by
  unfold PyData.eqv
  by_cases h : a = b
  · subst h; simp
  · rw [decide_eq_false h]; exact beq_eq_false_iff_ne.mpr h
theorem shp_int : Shp (.int i) := by show SeqAt.shaped _ = true; simp [SeqAt.shaped, PyData.canLay0, PyData.depth]
theorem shp_bool : Shp (.bool p) := by show SeqAt.shaped _ = true; simp [SeqAt.shaped, PyData.canLay0, PyData.depth]
theorem shp_none : Shp .none := by show SeqAt.shaped _ = true; simp [SeqAt.shaped, PyData.canLay0, PyData.depth]
theorem g_eq : EqD (.int i) (.int j) (.bool (decide (i = j))) := ⟨.inl shp_int, .inl shp_int, by rw [eqv_int]⟩
theorem g_ne : NeD (.int i) (.int j) (.bool (!decide (i = j))) := ⟨.inl shp_int, .inl shp_int, by rw [eqv_int]⟩
theorem g_eqB : EqD (.bool p) (.bool q) (.bool (decide (p = q))) := ⟨.inl shp_bool, .inl shp_bool, by rw [eqv_bool]⟩
theorem g_neB : NeD (.bool p) (.bool q) (.bool (!decide (p = q))) := ⟨.inl shp_bool, .inl shp_bool, by rw [eqv_bool]⟩
theorem g_neg : NegD (.int i) (.int (-i)) := ⟨i, rfl, rfl⟩
theorem g_isB : IsBD (.bool p) (.bool q) (.bool (decide (p = q))) := ⟨p, q, rfl, rfl, rfl⟩
theorem g_notB : NotBD (.bool p) (.bool q) (.bool (!decide (p = q))) := ⟨p, q, rfl, rfl, rfl⟩
theorem g_ixL {z : PyData} (h : atI xs i = some z) : IxD (.list xs) (.int i) z := h
theorem g_ixT {z : PyData} (h : atI xs i = some z) : IxD (.tuple xs) (.int i) z := h
theorem g_len : LenD [.list xs] (.int (xs.length : Int)) := rfl
theorem g_lenT : LenD [.tuple xs] (.int (xs.length : Int)) := rfl
theorem g_lenS (h : a.length ≤ sizeLine) : LenD [.str a] (.int (a.length : Int)) := ⟨h, rfl⟩
theorem g_sum {ns : List Int} : SumD [.list (ns.map .int)] (.int ns.sum) := ⟨ns, rfl, rfl⟩
theorem g_all {ns : List Bool} : AllD [.list (ns.map .bool)] (.bool (ns.all id)) := ⟨ns, rfl, rfl⟩
theorem g_any {ns : List Bool} : AnyD [.list (ns.map .bool)] (.bool (ns.any id)) := ⟨ns, rfl, rfl⟩
theorem g_min : Min2D [.int i, .int j] (.int (min i j)) := rfl
theorem g_max : Max2D [.int i, .int j] (.int (max i j)) := rfl
theorem g_abs : AbsD [.int i] (.int (if i < 0 then -i else i)) := rfl
theorem g_int : IntD [.int i] (.int i) := rfl
theorem g_intB : IntD [.bool p] (.int (if p then 1 else 0)) := rfl
theorem g_str (h : i.natAbs.log2 < 1920) : StrD [.int i] (.str (toString i)) := ⟨h, rfl⟩
theorem g_list : ListD [.list xs] (.list xs) := rfl
theorem g_listT : ListD [.tuple xs] (.list xs) := rfl
theorem g_tuple : TupleD [.list xs] (.tuple xs) := rfl
theorem g_tupleT : TupleD [.tuple xs] (.tuple xs) := rfl
theorem g_divmod (h : CDiv i j) : DivmodD [.int i, .int j] (.tuple [.int (i / j), .int (i % j)]) := ⟨h, rfl⟩
theorem g_sorted {ns : List Int} : SortedD [.list (ns.map .int)] (.list ((isort ns).map .int)) := ⟨ns, rfl, rfl⟩
end
end DL
set_option maxRecDepth 100000
namespace DL
open PySem L2
section
variable {K : Fg} {B0 : List Addr} {ρ : Ro} {M : Ms} {H H' : Hp} {ta tb tc te : TE} {tl : TA} {tt : TT} {t u : TS} {s : Sl} {d e z : PyData} {b : Bool} {P : Po}
theorem hid_new {p : Addr} (x : Ex H H') (n : H p = none) : Ex (hid M H) (hid (M.add p) H') := fun a u h => by
  have h0 := hid_le M H a u h
  have q : a ≠ p := fun e => by rw [e, n] at h0; cases h0
  unfold hid at h ⊢
  by_cases m : a ∈ M.h
  · rw [if_pos m] at h; cases h
  · rw [if_neg (fun z => by rcases List.mem_cons.mp z with e | e; exact q e; exact m e)]; exact x a u h0
theorem Env.newx {σ : L2.St} {p : Addr} (en : Env K M H σ ρ) (x : Ex H H') (n : H p = none) : Env K (M.add p) H' σ ρ := ⟨en.1, fun i t h => by
  obtain ⟨v, h1, h2⟩ := en.2 i t h
  refine ⟨v, h1, ?_⟩
  cases t with
  | d y => exact dp_ex (hid_new x n) y v h2
  | v w => exact h2⟩
/-- a new list is handed out, to be changed -/
theorem r_retL {ds : List PyData} (h : EvAD K tl ρ M H ds) (hl : ds.length ≤ 100000) (k : ∀ p H1 vs, H p = none → Ex H H1 → H1 p = some (.lst vs) → Das K M H1 vs ds → P.R (.v (.ref p)) H1) : Rn K B0 (tRet (tLst tl)) ρ M H P := fun m sb σ en D dn =>
  h H σ (Ex.refl _) m en _ fun vs H2 x r => ⟨by rw [Das.len r]; exact Nat.le_trans hl (by decide), fun p hp => by
    have x2 : Ex H (upd H2 p (.lst vs)) := x.trans (Ex.new hp)
    exact dn.rt (.ref p) _ (.v (.ref p)) M (.of m x2.go) sb rfl (k p _ vs (fresh_back x hp) x2 upd_same (r.ex (Ex.new hp)))⟩
/-- x = f(..), f giving a new object that will change -/
theorem r_asgN {A : Pm} {E : XK} {i : Nat} {ss : List Sl} (h : EvA K tl ρ M H ss) (k : ∀ H1, Ex H H1 → A ss M.pure H1 fun s H2 => Ex H1 H2 → ∃ p o, s = .v (.ref p) ∧ H p = none ∧ H2 p = some o ∧ P.N (ρ.set i (some (.v (.ref p)))) (M.add p) H2) :
    Rn K B0 (tAsg (tCall (spG K A) [] E tl) (gName i)) ρ M H P := fun m sb σ en D dn =>
  h H σ (Ex.refl _) m en _ fun vs H1 x r => by
    rw [List.append_nil]
    refine ⟨M.pure, ss, _, m.ex x, Rls.mono (M := M.pure) (N := M) (fun a q => q) r, k H1 x, fun v H2 s g rl pp => ?_⟩
    obtain ⟨p, o, rfl, hn, ho, pn⟩ := pp g.pure
    have rl : v = .ref p := rl
    subst rl
    have x2 : Ex H H2 := x.trans g.pure
    refine dn.nx _ _ _ (M.add p) ⟨Md.add (m.ex x2) ho, x2.go, fun a q => ?_⟩ (fun a q => List.mem_cons.mpr (.inr (sb a q))) ((en.newx x2 hn).set (s := .v (.ref p)) rfl) pn
    rcases List.mem_cons.mp q with e | e
    · exact .inr (e ▸ hn)
    · exact .inl e
end
/-! ### the box from which a law draws -/
def Bx (H : Hp) (p : Addr) (n : Nat) : Prop := ∃ a b c : Int, H p = some (.lst [.int a, .int b, .int c]) ∧ 0 ≤ a ∧ 0 ≤ b ∧ b ≤ 1000000000000 ∧ 0 ≤ c ∧ c ≤ n
theorem Bx.at {K : Fg} {M : Ms} {H : Hp} {p : Addr} {a b c : Int} (h : H p = some (.lst [.int a, .int b, .int c])) (w : p ∈ M.w) : LAt K M H p [.int a, .int b, .int c] := ⟨w, _, h, .cons (.int _) (.cons (.int _) (.cons (.int _) .nil))⟩
theorem Bx.of {K : Fg} {M : Ms} {H : Hp} {p : Addr} {a b c : Int} {n : Nat} (l : LAt K M H p [.int a, .int b, .int c]) (h0 : 0 ≤ a) (h1 : 0 ≤ b) (h2 : b ≤ 1000000000000) (h3 : 0 ≤ c) (h4 : c ≤ n) : Bx H p n := by
  obtain ⟨xs, h, hx⟩ := l.ex
  refine ⟨a, b, c, ?_, h0, h1, h2, h3, h4⟩
  have e := Das.ints (ns := [a, b, c]) hx
  rw [h, e]; rfl
theorem Bx.x {H H' : Hp} {p : Addr} {n : Nat} (h : Bx H p n) (x : Ex H H') : Bx H' p n := by obtain ⟨a, b, c, e, k⟩ := h; exact ⟨a, b, c, x p _ e, k⟩
theorem Bx.mono {H : Hp} {p : Addr} {n m : Nat} (h : Bx H p n) (l : n ≤ m) : Bx H p m := by obtain ⟨a, b, c, e, k0, k1, k2, k3, k4⟩ := h; exact ⟨a, b, c, e, k0, k1, k2, k3, by omega⟩
theorem Bx.some {H : Hp} {p : Addr} {n : Nat} (h : Bx H p n) : ∃ o, H p = some o := by obtain ⟨a, b, c, e, _⟩ := h; exact ⟨_, e⟩
theorem Bx.same {H H' : Hp} {p : Addr} {n : Nat} (h : Bx H p n) (e : H' p = H p) : Bx H' p n := by obtain ⟨a, b, c, e', k⟩ := h; exact ⟨a, b, c, by rw [e]; exact e', k⟩
/-- a draw below m: any number; the box counts one more -/
def pm__law_take : Pm := fun ss M H R => ∃ p m n, ss = [.v (.ref p), .d (.int m)] ∧ p ∈ M.w ∧ Bx H p n ∧ n ≤ 1000000000 ∧ 0 < m ∧ m < 1073741824 ∧ ∀ r H', 0 ≤ r → r < m → Go M H H' → Bx H' p (n + 1) → R (.d (.int r)) H'
def pm__law_box : Pm := fun ss M H R => ∃ (ns : List Int) (k : Int), ss = [.d (.list (ns.map .int)), .d (.int k)] ∧ ns.length ≤ 63 ∧ 0 ≤ k ∧ k ≤ 1000 ∧ ∀ p H', H p = none → Ex H H' → Bx H' p 0 → R (.v (.ref p)) H'
end DL
set_option maxRecDepth 100000
namespace DL
open PySem L2
theorem atI_in {α : Type} {xs : List α} {i : Int} (h0 : 0 ≤ i) (h1 : i < xs.length) : atI xs i = some (xs[i.toNat]'(by omega)) := by
  have e : ((i.toNat : Nat) : Int) = i := by omega
  have h := atI_nat (List.getElem?_eq_getElem (l := xs) (i := i.toNat) (by omega))
  rw [e] at h
  exact h
theorem atI_mem {α : Type} {xs : List α} {i : Int} (h0 : 0 ≤ i) (h1 : i < xs.length) : ∃ x, atI xs i = some x ∧ x ∈ xs := ⟨_, atI_in h0 h1, List.getElem_mem _⟩
theorem atI_ints {ns : List Int} {i : Int} (h0 : 0 ≤ i) (h1 : i < ns.length) : ∃ n, atI (ns.map PyData.int) i = some (.int n) ∧ atI ns i = some n := by
  refine ⟨ns[i.toNat]'(by omega), ?_, atI_in h0 h1⟩
  rw [atI_in h0 (by rw [List.length_map]; exact h1)]
  simp
section
variable {K : Fg} {B0 : List Addr} {ρ : Ro} {M : Ms} {H H' : Hp} {ta tb tc te tm : TE} {tl : TA} {tt : TT} {t u : TS} {s : Sl} {d e z : PyData} {b : Bool} {P : Sl → Hp → Prop} {Q : Po}
theorem ee_int {i : Int} (p : P (.d (.int i)) H) : EvE K (tC (.int i)) ρ M H P := fun m σ en Q q => q _ H (.d (.int i)) (Go.refl _ _) (Dq.int i) p
theorem ee_str {i : Str} (p : P (.d (.str i)) H) : EvE K (tC (.str i)) ρ M H P := fun m σ en Q q => q _ H (.d (.str i)) (Go.refl _ _) (Dq.str i) p
theorem ee_bl {i : Bool} (p : P (.d (.bool i)) H) : EvE K (tC (.bl i)) ρ M H P := fun m σ en Q q => q _ H (.d (.bool i)) (Go.refl _ _) (Dq.bl i) p
theorem ee_non (p : P (.d .none) H) : EvE K (tC .non) ρ M H P := fun m σ en Q q => q _ H (.d .none) (Go.refl _ _) Dq.non p
theorem ee_var {i : Nat} (h : ρ[i]? = some (some s)) (p : P s H) : EvE K (tVar i) ρ M H P := fun m σ en Q q => by
  obtain ⟨v, e1, r⟩ := en.2 i s h
  exact ⟨v, e1, q v H s (Go.refl _ _) r p⟩
/-- the draw -/
theorem ee_take {i : Nat} {p : Addr} {n : Nat} {m : Int} (hi : ρ[i]? = some (some (.v (.ref p)))) (hw : p ∈ M.w) (hb : Bx H p n) (hn : n ≤ 1000000000) (hm : EvE K tm ρ M H fun s H1 => s = .d (.int m) ∧ Ex H H1) (h0 : 0 < m) (h1 : m < 1073741824)
    (k : ∀ r H1, 0 ≤ r → r < m → Go M H H1 → (∀ a o, a ≠ p → H a = some o → H1 a = some o) → Bx H1 p (n + 1) → P (.d (.int r)) H1) : EvE K (tCall (spG K pm__law_take) [] E0 (tCons (tVar i) (tCons tm tNil))) ρ M H P := by
  refine ee_call [p] (fun a q => by rw [List.mem_singleton] at q; exact q ▸ hw) (eea_cons (ee_var hi (eea_cons (fun md σ en Q q => hm md σ en Q fun v H2 s g r pp => q v H2 s g r ?_))))
  obtain ⟨rfl, x⟩ := pp
  refine eea_nil ⟨p, m, n, rfl, List.mem_singleton.mpr rfl, hb.x x, hn, h0, h1, fun r H3 r0 r1 g3 b3 g3' => ?_⟩
  refine k r H3 r0 r1 ?_ (fun a o ne ha => g3.1 a o (fun q => ne (List.mem_singleton.mp q)) (x a o ha)) b3
  exact x.go.trans (g3.sub fun a q => by have := List.mem_singleton.mp q; exact this ▸ hw)
theorem ee_const {i : Int} : EvE K (tC (.int i)) ρ M H fun s H1 => s = .d (.int i) ∧ Ex H H1 := ee_int ⟨rfl, Ex.refl _⟩
theorem ee_pure {i : Int} (h : EvD K te ρ M H (.int i)) : EvE K te ρ M H fun s H1 => s = .d (.int i) ∧ Ex H H1 := ee_p h fun H1 x => ⟨rfl, x⟩
end
end DL
set_option maxRecDepth 100000
namespace DL
open PySem L2
theorem lay_ints : ∀ ns : List Int, PyData.canLayAll0 (ns.map PyData.int) = true
  | [] => by simp [PyData.canLayAll0]
  | n :: ns => by simp [PyData.canLayAll0, PyData.canLay0, lay_ints ns]
theorem dep_ints : ∀ ns : List Int, PyData.depthAll (ns.map PyData.int) ≤ 1
  | [] => by simp [PyData.depthAll]
  | n :: ns => by have := dep_ints ns; simp [PyData.depthAll, PyData.depth]; omega
theorem lay_bools : ∀ ns : List Bool, PyData.canLayAll0 (ns.map PyData.bool) = true
  | [] => by simp [PyData.canLayAll0]
  | n :: ns => by simp [PyData.canLayAll0, PyData.canLay0, lay_bools ns]
theorem dep_bools : ∀ ns : List Bool, PyData.depthAll (ns.map PyData.bool) ≤ 1
  | [] => by simp [PyData.depthAll]
  | n :: ns => by have := dep_bools ns; simp [PyData.depthAll, PyData.depth]; omega
theorem shp_ints (ns : List Int) : Shp (.list (ns.map .int)) := by
  have h1 := lay_ints ns; have h2 := dep_ints ns
  show SeqAt.shaped _ = true
  simp [SeqAt.shaped, PyData.canLay0, h1, PyData.depth]; omega
theorem shp_bools (ns : List Bool) : Shp (.list (ns.map .bool)) := by
  have h1 := lay_bools ns; have h2 := dep_bools ns
  show SeqAt.shaped _ = true
  simp [SeqAt.shaped, PyData.canLay0, h1, PyData.depth]; omega
theorem eqvAll_ints : ∀ xs ys : List Int, PyData.eqvAll (xs.map .int) (ys.map .int) = decide (xs = ys)
  | [], [] => by simp [PyData.eqvAll]
  | [], y :: ys => by simp [PyData.eqvAll]
  | x :: xs, [] => by simp [PyData.eqvAll]
  | x :: xs, y :: ys => by
    rw [List.map_cons, List.map_cons, PyData.eqvAll, eqv_int, eqvAll_ints xs ys]
    by_cases h : x = y <;> by_cases h' : xs = ys <;> simp [h, h']
theorem eqvAll_bools : ∀ xs ys : List Bool, PyData.eqvAll (xs.map .bool) (ys.map .bool) = decide (xs = ys)
  | [], [] => by simp [PyData.eqvAll]
  | [], y :: ys => by simp [PyData.eqvAll]
  | x :: xs, [] => by simp [PyData.eqvAll]
  | x :: xs, y :: ys => by
    rw [List.map_cons, List.map_cons, PyData.eqvAll, eqv_bool, eqvAll_bools xs ys]
    by_cases h : x = y <;> by_cases h' : xs = ys <;> simp [h, h']
theorem g_eqL {xs ys : List Int} : EqD (.list (xs.map .int)) (.list (ys.map .int)) (.bool (decide (xs = ys))) := ⟨.inl (shp_ints _), .inl (shp_ints _), by rw [PyData.eqv, eqvAll_ints]⟩
theorem g_neL {xs ys : List Int} : NeD (.list (xs.map .int)) (.list (ys.map .int)) (.bool (!decide (xs = ys))) := ⟨.inl (shp_ints _), .inl (shp_ints _), by rw [PyData.eqv, eqvAll_ints]⟩
theorem g_eqLB {xs ys : List Bool} : EqD (.list (xs.map .bool)) (.list (ys.map .bool)) (.bool (decide (xs = ys))) := ⟨.inl (shp_bools _), .inl (shp_bools _), by rw [PyData.eqv, eqvAll_bools]⟩
theorem flat_ints : ∀ ns : List Int, (ns.map PyData.int).all flatD = true
  | [] => rfl
  | n :: ns => by rw [List.map_cons, List.all_cons, flat_ints ns]; rfl
theorem g_inTI {i : Int} {ns : List Int} : InD (.int i) (.tuple (ns.map .int)) (.bool (ns.any fun n => decide (n = i))) := ⟨rfl, flat_ints ns, by
  rw [List.any_map]
  have e : ((fun y => PyData.eqv y (.int i)) ∘ PyData.int) = fun n => decide (n = i) := by funext n; exact eqv_int
  rw [e]⟩
section
variable {K : Fg} {B0 : List Addr} {ρ : Ro} {M : Ms} {H H' : Hp} {ta tb tc te tm : TE} {tl : TA} {tt : TT} {t u : TS} {s : Sl} {d e z : PyData} {b : Bool} {P : Po}
theorem r_ifF (h : EvB K tt ρ M H b) (e : b = false) (h2 : ∀ H1, Ex H H1 → Rn K B0 u ρ M H1 P) : Rn K B0 (tIfS tt t u) ρ M H P := r_if h (fun e' => by rw [e] at e'; cases e') fun _ => h2
theorem r_ifT (h : EvB K tt ρ M H b) (e : b = true) (h2 : ∀ H1, Ex H H1 → Rn K B0 t ρ M H1 P) : Rn K B0 (tIfS tt t u) ρ M H P := r_if h (fun _ => h2) fun e' => by rw [e] at e'; cases e'
theorem eb_andU {t u : TT} {a : Bool} (h1 : EvB K t ρ M H a) (h2 : EvB K u ρ M H b) : EvB K (tAnd t u) ρ M H (a && b) := eb_and h1 fun _ => h2
theorem eb_orU {t u : TT} {a : Bool} (h1 : EvB K t ρ M H a) (h2 : EvB K u ρ M H b) : EvB K (tOr t u) ρ M H (a || b) := eb_or h1 fun _ => h2
theorem ev_andU {a : Bool} (h1 : EvD K ta ρ M H (.bool a)) (h2 : EvD K tb ρ M H (.bool b)) : EvD K (tAndV ta tb) ρ M H (.bool (a && b)) := ev_andV h1 fun _ => h2
theorem ev_orU {a : Bool} (h1 : EvD K ta ρ M H (.bool a)) (h2 : EvD K tb ρ M H (.bool b)) : EvD K (tOrV ta tb) ρ M H (.bool (a || b)) := ev_orV h1 fun _ => h2
theorem ev_chainU {g g' : PyData → PyData → PyData → Prop} {d e c : PyData} {k k' : Bool} (ha : EvD K ta ρ M H d) (hb : EvD K tb ρ M H e) (hc : EvD K tc ρ M H c) (hg : g d e (.bool k)) (hg' : g' e c (.bool k')) :
    EvD K (tChain (rB K g) (rB K g') ta tb tc) ρ M H (.bool (k && k')) := ev_chain ha hb (fun _ => hc) hg fun _ => hg'
theorem ev_lcI {α : Type} {wi : TI} {g : TG} {vs : List Nat} {xs : List α} {enc : α → PyData} (q : α → Int) (hI : EvI K wi ρ M H (xs.map enc)) (hz : xs.length ≤ 100000)
    (hs : ∀ (i : Nat) a, xs[i]? = some a → ∃ ρ2, Tc K g (enc a) vs (wipeR ρ vs) ρ2 ∧ ∀ N H', Sub M.h N → Ex H H' → EvD K te ρ2 N H' (.int (q a))) :
    EvD K (tLc wi g tYes te vs) ρ M H (.list ((xs.map q).map .int)) := by
  have h := ev_lc1 (K := K) (te := te) (g := g) (vs := vs) (fun a => PyData.int (q a)) hI hz hs
  rw [List.map_map]; exact h
theorem ev_lcB {α : Type} {wi : TI} {g : TG} {vs : List Nat} {xs : List α} {enc : α → PyData} (q : α → Bool) (hI : EvI K wi ρ M H (xs.map enc)) (hz : xs.length ≤ 100000)
    (hs : ∀ (i : Nat) a, xs[i]? = some a → ∃ ρ2, Tc K g (enc a) vs (wipeR ρ vs) ρ2 ∧ ∀ N H', Sub M.h N → Ex H H' → EvD K te ρ2 N H' (.bool (q a))) :
    EvD K (tLc wi g tYes te vs) ρ M H (.list ((xs.map q).map .bool)) := by
  have h := ev_lc1 (K := K) (te := te) (g := g) (vs := vs) (fun a => PyData.bool (q a)) hI hz hs
  rw [List.map_map]; exact h
theorem ei_list {ds : List PyData} (h : EvD K te ρ M H (.list ds)) : EvI K (iSeq K te) ρ M H ds := ei_seq h rfl
theorem ei_tuple {ds : List PyData} (h : EvD K te ρ M H (.tuple ds)) : EvI K (iSeq K te) ρ M H ds := ei_seq h rfl
theorem ei_text {x : Str} (h : EvD K te ρ M H (.str x)) : EvI K (iSeq K te) ρ M H (x.cps.toList.map fun c => .str ⟨#[c]⟩) := ei_seq h rfl
end
end DL
set_option maxRecDepth 100000
namespace DL
open PySem L2
section
variable {X : Cx} {tg : Expr}
/-- an iterator was laid at the heap's end: its turns are known, so the walk may start -/
theorem laid_it {pins : List (Addr × Obj)} {σ : L2.St} {H : Hp} {s : Shared} {o : Obj} {J : It} {tn : Nat → Heap → Prop} {R : It → Hp → Prop} (I : Inv X pins σ H s) (T : Turn X.prog X.w X.K tg J [s.heap.objs.size] s.heap.objs.size tn)
    (st : tn 0 (s.heap.push o)) (q : R J H) : PIE X pins σ tg R (.ref s.heap.objs.size) { s with heap := s.heap.push o } := by
  have keep := I.kept (t' := s.toks) (fun _ _ e => Heap.get?_push_of_some o e)
  have free := I.fpOk (Nat.le_refl _) I.fresh
  exact ⟨_, [_], tn, J, H, rfl, keep, T, st, fun b hb => List.mem_singleton.mp hb ▸ free, q⟩
/-- a list, a tuple or a text is walked -/
theorem pi_seq {l : Expr} {tl : TE} (hl : PE X l tl) : PI X tg l (iSeq X.K tl) := by
  constructor
  intro pins s σ H R I h
  have run := hl.run pins s σ H _ I h
  refine thn run ?_
  rintro v s1 ⟨x, H1, I1, r1, ⟨a, rfl, ⟨xs, hq⟩, q⟩ | ⟨a, rfl, ⟨xs, hq⟩, q⟩ | ⟨z, rfl, q⟩⟩
  · obtain ⟨us, rv, p, sz⟩ := I1.list hq
    cases r1
    exact wpAny_pyIter_list p.isList (laid_it I1 (turn_list a _) ⟨_, Heap.get?_push_size _ rfl, rfl, rfl⟩ q)
  · obtain ⟨us, rv, p, sz⟩ := I1.tuple hq
    cases r1
    have tup : s1.heap.IsTuple a us.toArray := p
    exact wpAny_pyIter_tuple tup (laid_it I1 (turn_tuple a _) ⟨_, Heap.get?_push_size _ rfl, rfl, rfl⟩ q)
  · obtain ⟨t, rfl⟩ := r1
    rcases kind : z.cps.all (· < 128) with _ | _
    · exact wpAny_pyIter_wide kind (laid_it I1 (turn_str _ z t "str_iterator" (Or.inr rfl)) ⟨_, Heap.get?_push_size _ rfl, rfl, rfl⟩ q)
    · exact wpAny_pyIter_ascii kind (laid_it I1 (turn_str _ z t "str_ascii_iterator" (Or.inl rfl)) ⟨_, Heap.get?_push_size _ rfl, rfl, rfl⟩ q)
end
end DL
set_option maxRecDepth 100000
namespace DL
open PySem L2
/-! lists that come new and are changed afterwards -/
section
variable {K : Fg} {ρ : Ro} {M : Ms} {H : Hp} {P : Po} {B0 : List Addr} {te ta tb : TE} {t : TS}
theorem r_clear {i : Nat} {p : Addr} {ds : List PyData} (hi : ρ[i]? = some (some (.v (.ref p)))) (l : LAt K M H p ds) (k : ∀ H2, Go M H H2 → LAt K M H2 p [] → (∀ a, a ≠ p → H2 a = H a) → P.N ρ M H2) :
    Rn K B0 (tDrop (tBM0 K "list" rClear (tVar i))) ρ M H P := fun m sb σ en D dn => by
  obtain ⟨v, h1, h2⟩ := en.2 i _ hi
  cases h2
  obtain ⟨xs, hp, hx⟩ := l.ex
  have g : Go M H (upd H p (.lst [])) := Go.mut l.w
  refine ⟨_, h1, Or.inl ⟨rfl, _, Or.inl (Or.inl hp)⟩, p, xs, rfl, rfl, hp, ?_⟩
  exact dn.nx σ _ ρ M (.of m g) sb (en.go g) (k _ g ⟨l.w, _, upd_same, .nil⟩ fun a q => upd_ne q)
/-- a value that is a list made just now -/
def EvF (K : Fg) (te : TE) (ρ : Ro) (M : Ms) (H : Hp) (ds : List PyData) : Prop :=
  ∀ H1 σ, Ex H H1 → Md M H1 → Env K M H1 σ ρ → ∀ Q : VK, (∀ p H2 vs, H1 p = none → Ex H1 H2 → H2 p = some (.lst vs) → Das K (M.add p) H2 vs ds → Q (.ref p) H2) → te σ H1 Q
theorem EvF.is {ds es : List PyData} (h : EvF K te ρ M H ds) (e : ds = es) : EvF K te ρ M H es := e ▸ h
theorem ef_cat {xs ys : List PyData} (ha : EvD K ta ρ M H (.list xs)) (hb : EvD K tb ρ M H (.list ys)) (hl : xs.length + ys.length ≤ sizeLine) : EvF K (tOp (rCatR K) ta tb) ρ M H (xs ++ ys) := fun H1 σ x m en Q q =>
  ha H1 σ x m en _ fun v H2 x2 r => hb H2 σ (x.trans x2) (m.ex x2) (en.go (x2.go (M := M))) _ fun u H3 x3 r3 => by
    obtain ⟨a, vs, rfl, pa, da⟩ := Da.list_inv r
    obtain ⟨b, ws, rfl, pb, db⟩ := Da.list_inv r3
    have l1 := Das.len da; have l2 := Das.len db
    exact ⟨a, b, vs, ws, rfl, rfl, ex_l x3 (hid_l pa), hid_l pb, by rw [l1, l2]; exact hl, fun p hp =>
      q p _ _ (fresh_back (x2.trans x3) hp) ((x2.trans x3).trans (Ex.new hp)) upd_same (dps_ex (hid_add hp) _ _ (Das.app (Das.ex da x3) db))⟩
theorem ef_lst {tl : TA} {ds : List PyData} (ha : EvAD K tl ρ M H ds) (hl : Nat.ble ds.length 100000 = true := by rfl) : EvF K (tLst tl) ρ M H ds := fun H1 σ x m en Q q =>
  ha H1 σ x m en _ fun vs H2 x2 r => ⟨by rw [Das.len r]; exact Nat.le_trans (Nat.le_of_ble_eq_true hl) (by decide), fun p hp => q p _ vs (fresh_back x2 hp) (x2.trans (Ex.new hp)) upd_same (dps_ex (hid_add hp) _ _ r)⟩
/-- it may be read as data -/
theorem EvF.ev {ds : List PyData} (h : EvF K te ρ M H ds) : EvD K te ρ M H (.list ds) := fun H1 σ x m en Q q =>
  h H1 σ x m en _ fun p H2 vs n x2 e r => q _ H2 x2 (Dq.lst (by
    have : hid M H2 p = some (.lst vs) := by rw [hid_ne (Md.fresh m n)]; exact e
    exact Or.inl (Or.inl this)) (Das.mono (fun a q => List.mem_cons.mpr (.inr q)) r))
theorem r_retF {ds : List PyData} (h : EvF K te ρ M H ds) (k : ∀ p H1 vs, H p = none → Ex H H1 → H1 p = some (.lst vs) → Das K M H1 vs ds → P.R (.v (.ref p)) H1) : Rn K B0 (tRet te) ρ M H P := fun m sb σ en D dn =>
  h H σ (Ex.refl _) m en _ fun p H2 vs n x2 e r => dn.rt (.ref p) H2 (.v (.ref p)) M (.of m x2.go) sb rfl (k p H2 vs n x2 e (Das.mono (fun a q => List.mem_cons.mpr (.inr q)) r))
/-- a call that writes nothing and gives what it gives -/
theorem ev_callA {A : Pm} {E : XK} {tl : TA} {ss : List Sl} {s : Sl} (ha : EvA K tl ρ M H ss) (hA : ∀ H1 (R : Sl → Hp → Prop), Ex H H1 → (∀ H2, Ex H1 H2 → R s H2) → A ss M.pure H1 R) : EvR K (tCall (spG K A) [] E tl) ρ M H s := fun H1 σ x m en Q q =>
  ha H1 σ x m en _ fun vs H2 x2 r => by
    rw [List.append_nil]
    refine ⟨M.pure, ss, fun s' H' => Ex H2 H' ∧ s' = s, m.ex x2, Rls.mono (M := M.pure) (N := M) (fun a q => q) r, hA H2 _ (x.trans x2) fun H' x' => ⟨x', rfl⟩, fun v H' s' g r' p' => ?_⟩
    obtain ⟨x', rfl⟩ := p'
    exact q v H' (x2.trans g.pure) r'
end
end DL
set_option maxRecDepth 100000
namespace DL
open PySem L2
/-! texts -/
def JoinD : PyData → List PyData → PyData → Prop
  | .str a, [.list ds], z => ∃ ys : List Str, ds = ys.map PyData.str ∧ (ys.map (·.length)).sum + ys.length * a.length ≤ 16777216 ∧ z = .str (Txt.join a ys)
  | _, _, _ => False
def CountD : PyData → List PyData → PyData → Prop
  | .str a, [.str b], z => z = .int (Txt.count a b)
  | _, _, _ => False
def UpperD : PyData → List PyData → PyData → Prop
  | .str a, [], z => a.length ≤ 5592405 ∧ z = .str (Txt.upper a)
  | _, _, _ => False
def SplitD : PyData → List PyData → PyData → Prop
  | .str a, [.str b], z => (b.length == 0) = false ∧ a.length + 2 ≤ sizeLine ∧ z = .list ((Txt.split a b).map PyData.str)
  | _, _, _ => False
def PartD : PyData → List PyData → PyData → Prop
  | .str a, [.str b], z => (b.length == 0) = false ∧ a.length ≤ sizeLine ∧ z = .tuple [.str (Txt.partition a b).1, .str (Txt.partition a b).2.1, .str (Txt.partition a b).2.2]
  | _, _, _ => False
def RpartD : PyData → List PyData → PyData → Prop
  | .str a, [.str b], z => (b.length == 0) = false ∧ a.length ≤ sizeLine ∧ z = .tuple [.str (Txt.rpartition a b).1, .str (Txt.rpartition a b).2.1, .str (Txt.rpartition a b).2.2]
  | _, _, _ => False
def ZfillD : PyData → List PyData → PyData → Prop
  | .str a, [.int i], z => PadOk i = true ∧ z = .str (Txt.zfill a i)
  | _, _, _ => False
def StripD : PyData → List PyData → PyData → Prop
  | .str a, [], z => a.length ≤ sizeLine ∧ z = .str (Txt.strip a)
  | _, _, _ => False
/-- the place of a text in a text, where it stands there -/
def IndexD : PyData → List PyData → PyData → Prop
  | .str a, [.str b], z => ∃ k rest, Builtin.Str.occurrences a b 0 a.length 1 = k :: rest ∧ z = .int (k : Nat)
  | _, _, _ => False
section
variable {X : Cx}
theorem mt_joinD : MtR X "str.join" (rM X.K JoinD) := by
  intro pins s σ H x vs v us Q I rx rv h
  obtain ⟨M, d, ds, z, hM, hd, hds, g, q⟩ := h
  match d, ds, g with
  | .str a, [.list es], g =>
    obtain ⟨ys, rfl, room, rfl⟩ := g
    have e := hd.str_inv; subst e
    obtain ⟨y, rfl, h1⟩ := Das.one hds
    obtain ⟨p, xs, rfl, hp, hx⟩ := Da.list_inv h1
    have e2 := Das.strs hx; subst e2
    exact mt_join pins s σ H _ _ v us Q I rx rv ⟨a, p, ys, rfl, rfl, .inl (hid_l hp), room, q _ H (Ex.refl H) (.str _)⟩
theorem mt_countD : MtR X "str.count" (rM X.K CountD) := by
  intro pins s σ H x vs v us Q I rx rv h
  obtain ⟨M, d, ds, z, hM, hd, hds, g, q⟩ := h
  match d, ds, g with
  | .str a, [.str b], g =>
    have e := hd.str_inv; subst e
    obtain ⟨y, rfl, h1⟩ := Das.one hds
    have e1 := Da.str_inv h1; subst e1
    exact mt_count pins s σ H _ _ v us Q I rx rv ⟨a, b, rfl, rfl, q _ H (Ex.refl H) (by rw [show z = _ from g]; exact .int _)⟩
theorem mt_upperD : MtR X "str.upper" (rM X.K UpperD) := by
  intro pins s σ H x vs v us Q I rx rv h
  obtain ⟨M, d, ds, z, hM, hd, hds, g, q⟩ := h
  match d, ds, g with
  | .str a, [], g =>
    have e := hd.str_inv; subst e
    cases hds
    exact mt_upper pins s σ H _ _ v us Q I rx rv ⟨a, rfl, rfl, g.1, q _ H (Ex.refl H) (by rw [g.2]; exact .str _)⟩
theorem mt_stripD : MtR X "str.strip" (rM X.K StripD) := by
  intro pins s σ H x vs v us Q I rx rv h
  obtain ⟨M, d, ds, z, hM, hd, hds, g, q⟩ := h
  match d, ds, g with
  | .str a, [], g =>
    have e := hd.str_inv; subst e
    cases hds
    exact mt_strip pins s σ H _ _ v us Q I rx rv ⟨a, rfl, rfl, g.1, q _ H (Ex.refl H) (by rw [g.2]; exact .str _)⟩
theorem mt_splitD : MtR X "str.split" (rM X.K SplitD) := by
  intro pins s σ H x vs v us Q I rx rv h
  obtain ⟨M, d, ds, z, hM, hd, hds, g, q⟩ := h
  match d, ds, g with
  | .str a, [.str b], g =>
    have e := hd.str_inv; subst e
    obtain ⟨y, rfl, h1⟩ := Das.one hds
    have e1 := Da.str_inv h1; subst e1
    exact mt_split pins s σ H _ _ v us Q I rx rv ⟨a, b, rfl, rfl, g.1, g.2.1, fun p hp => q _ _ (Ex.new hp) (by rw [g.2.2]; exact Da.new_lst hM hp (Das.of_strs _))⟩
theorem mt_partD : MtR X "str.partition" (rM X.K PartD) := by
  intro pins s σ H x vs v us Q I rx rv h
  obtain ⟨M, d, ds, z, hM, hd, hds, g, q⟩ := h
  match d, ds, g with
  | .str a, [.str b], g =>
    have e := hd.str_inv; subst e
    obtain ⟨y, rfl, h1⟩ := Das.one hds
    have e1 := Da.str_inv h1; subst e1
    exact mt_partition pins s σ H _ _ v us Q I rx rv ⟨a, b, rfl, rfl, g.1, g.2.1, fun p hp => q _ _ (Ex.new hp) (by rw [g.2.2]; exact Da.new_tup hM hp (Das.of_strs [_, _, _]))⟩
theorem mt_rpartD : MtR X "str.rpartition" (rM X.K RpartD) := by
  intro pins s σ H x vs v us Q I rx rv h
  obtain ⟨M, d, ds, z, hM, hd, hds, g, q⟩ := h
  match d, ds, g with
  | .str a, [.str b], g =>
    have e := hd.str_inv; subst e
    obtain ⟨y, rfl, h1⟩ := Das.one hds
    have e1 := Da.str_inv h1; subst e1
    obtain ⟨t, rfl⟩ := rx
    obtain ⟨u, rfl, t2, rfl⟩ := rv.one
    have fin : ∀ p, H p = none → Q (.ref p) (upd H p (.tup [.str (Txt.rpartition a b).1, .str (Txt.rpartition a b).2.1, .str (Txt.rpartition a b).2.2])) := fun p hp => q _ _ (Ex.new hp) (by rw [g.2.2]; exact Da.new_tup hM hp (Das.of_strs [_, _, _]))
    refine call_meets PySem.F.slot_str_rpartition (typeIs_str _ _ _) PySem.F.entry_str_rpartition (PySem.F.args_str_rpartition_2 _ _) (meets_str_rpartition a b t t2 g.1 g.2.1) ?_
    unfold Txt.rpartition at fin
    revert fin
    cases Builtin.Str.lastOccurrence a b 0 a.length <;> exact fun fin => laid_parts I fin
theorem mt_zfillD : MtR X "str.zfill" (rM X.K ZfillD) := by
  intro pins s σ H x vs v us Q I rx rv h
  obtain ⟨M, d, ds, z, hM, hd, hds, g, q⟩ := h
  match d, ds, g with
  | .str a, [.int i], g =>
    have e := hd.str_inv; subst e
    obtain ⟨y, rfl, h1⟩ := Das.one hds
    have e1 := Da.int_inv h1; subst e1
    exact mt_zfill pins s σ H _ _ v us Q I rx rv ⟨a, i, rfl, rfl, g.1, q _ H (Ex.refl H) (by rw [g.2]; exact .str _)⟩
theorem mt_indexD : MtR X "str.index" (rM X.K IndexD) := by
  intro pins s σ H x vs v us Q I rx rv h
  obtain ⟨M, d, ds, z, hM, hd, hds, g, q⟩ := h
  match d, ds, g with
  | .str a, [.str b], g =>
    obtain ⟨k, rest, hk, rfl⟩ := g
    have e := hd.str_inv; subst e
    obtain ⟨y, rfl, h1⟩ := Das.one hds
    have e1 := Da.str_inv h1; subst e1
    obtain ⟨t, rfl⟩ := rx
    obtain ⟨u, rfl, t2, rfl⟩ := rv.one
    exact PySem.SC.index hk ⟨.int (k : Nat), H, I.tok _, ⟨_, rfl⟩, q _ H (Ex.refl H) (.int _)⟩
end
section
variable {K : Fg} {ρ : Ro} {M : Ms} {H : Hp} {te : TE} {d z : PyData}
/-- a method of a text -/
theorem ev_bm {g : PyData → List PyData → PyData → Prop} {tl : TA} {ds : List PyData} {y : Str} (h : EvD K te ρ M H (.str y)) (ha : EvAD K tl ρ M H ds) (hg : g (.str y) ds z) : EvD K (tBM K "str" (rM K g) te tl) ρ M H z := fun H1 σ x m en Q q =>
  h H1 σ x m en _ fun v H2 x2 r => by
    have e := Da.str_inv r; subst e
    exact ⟨rfl, ha H2 σ (x.trans x2) (m.ex x2) (en.ex x2) _ fun vs H3 x3 r3 => ⟨M, _, ds, z, m.ex (x2.trans x3), .str y, r3, hg, fun v' H4 x4 r4 => q v' H4 ((x2.trans x3).trans x4) r4⟩⟩
theorem ev_bm0 {g : PyData → List PyData → PyData → Prop} {y : Str} (h : EvD K te ρ M H (.str y)) (hg : g (.str y) [] z) : EvD K (tBM0 K "str" (rM K g) te) ρ M H z := fun H1 σ x m en Q q =>
  h H1 σ x m en _ fun v H2 x2 r => by
    have e := Da.str_inv r; subst e
    exact ⟨rfl, M, _, [], z, m.ex x2, .str y, .nil, hg, fun v' H4 x4 r4 => q v' H4 (x2.trans x4) r4⟩
/-! f-strings -/
def tFs (ts : List TE) : TE := fun σ H Q => tJs ts Str.empty σ H fun out H1 => Q (.str out) H1
def EvJ (K : Fg) (ts : List TE) (ρ : Ro) (M : Ms) (H : Hp) (acc out : Str) : Prop :=
  ∀ H1 σ, Ex H H1 → Md M H1 → Env K M H1 σ ρ → ∀ Q : Str → Hp → Prop, (∀ H2, Ex H1 H2 → Q out H2) → tJs ts acc σ H1 Q
theorem ej_nil {acc : Str} : EvJ K [] ρ M H acc acc := fun H1 σ x m en Q q => q H1 (Ex.refl _)
theorem ej_cons {ts : List TE} {acc out y : Str} (h : EvD K te ρ M H (.str y)) (hl : (acc ++ y).length ≤ sizeLine) (hr : EvJ K ts ρ M H (acc ++ y) out) : EvJ K (te :: ts) ρ M H acc out := fun H1 σ x m en Q q =>
  h H1 σ x m en _ fun v H2 x2 r => ⟨y, Da.str_inv r, hl, hr H2 σ (x.trans x2) (m.ex x2) (en.ex x2) Q fun H3 x3 => q H3 (x2.trans x3)⟩
theorem ev_fs {ts : List TE} {out : Str} (h : EvJ K ts ρ M H Str.empty out) : EvD K (tFs ts) ρ M H (.str out) := fun H1 σ x m en Q q =>
  h H1 σ x m en _ fun H2 x2 => q _ H2 x2 (.str out)
theorem ev_fmtS {y : Str} (h : EvD K te ρ M H (.str y)) (hl : y.length ≤ sizeLine) : EvD K (tFmt te) ρ M H (.str y) := fun H1 σ x m en Q q =>
  h H1 σ x m en _ fun v H2 x2 r => .inl ⟨y, Da.str_inv r, hl, q _ H2 x2 (.str y)⟩
theorem ev_fmtI {i : Int} (h : EvD K te ρ M H (.int i)) (hl : i.natAbs.log2 < 1920) : EvD K (tFmt te) ρ M H (.str (toString i)) := fun H1 σ x m en Q q =>
  h H1 σ x m en _ fun v H2 x2 r => .inr ⟨i, Da.int_inv r, hl, q _ H2 x2 (.str _)⟩
variable {P : Po} {B0 : List Addr}
/-- a list's names -/
abbrev gNamesU (K : Fg) (is : List Nat) : TG := gUnl K is.length (is.foldr (fun i t => gCons (gName i) t) gNil)
theorem r_asgU {is : List Nat} {ds : List PyData} (h : EvD K te ρ M H (.list ds)) (hl : is.length = ds.length) (k : ∀ H1, Ex H H1 → P.N ((is.zip ds).foldl (fun r p => r.set p.1 (some (.d p.2))) ρ) M H1) : Rn K B0 (tAsg te (gNamesU K is)) ρ M H P := fun m sb σ en D dn =>
  h H σ (Ex.refl _) m en _ fun v H2 x r => by
    obtain ⟨a, xs, rfl, ha, hx⟩ := Da.list_inv r
    obtain ⟨σ', en', kk⟩ := g_names (σ := σ) (is := is) hx hl (en.ex x)
    exact ⟨a, xs, rfl, hid_l ha, (Das.len hx).trans hl.symm, kk _ (dn.nx σ' H2 _ M (.of m x.go) sb en' (k H2 x))⟩
/-- x, y = f(..), None with f giving a new object that will change -/
theorem r_parNon {A : Pm} {E : XK} {i j : Nat} {tl : TA} {ss : List Sl} (h : EvA K tl ρ M H ss) (k : ∀ H1, Ex H H1 → A ss M.pure H1 fun s H2 => Ex H1 H2 → ∃ p o, s = .v (.ref p) ∧ H p = none ∧ H2 p = some o ∧ P.N ((ρ.set i (some (.v (.ref p)))).set j (some (.d .none))) (M.add p) H2) :
    Rn K B0 (tPar i j (tCons (tCall (spG K A) [] E tl) (tCons (tC .non) tNil))) ρ M H P := fun m sb σ en D dn =>
  h H σ (Ex.refl _) m en _ fun vs H1 x r => by
    rw [List.append_nil]
    refine ⟨M.pure, ss, _, m.ex x, Rls.mono (M := M.pure) (N := M) (fun a q => q) r, k H1 x, fun v H2 s g rl pp => ?_⟩
    obtain ⟨p, o, rfl, hn, ho, pn⟩ := pp g.pure
    have rl : v = .ref p := rl
    subst rl
    have x2 : Ex H H2 := x.trans g.pure
    refine ⟨.ref p, .non, rfl, dn.nx _ _ _ (M.add p) ⟨Md.add (m.ex x2) ho, x2.go, fun a q => ?_⟩ (fun a q => List.mem_cons.mpr (.inr (sb a q))) (((en.newx x2 hn).set (s := .v (.ref p)) rfl).set (s := .d .none) Dq.non) pn⟩
    rcases List.mem_cons.mp q with e | e
    · exact .inr (e ▸ hn)
    · exact .inl e
theorem shp_str {a : Str} (h : PyData.strOk a = true) : Shp (.str a) := by show SeqAt.shaped _ = true; simp [SeqAt.shaped, PyData.canLay0, PyData.depth, h]
theorem g_eqS {a b : Str} (ha : PyData.strOk a = true) (hb : PyData.strOk b = true) : EqD (.str a) (.str b) (.bool (decide (a = b))) := ⟨.inl (shp_str ha), .inl (shp_str hb), by rw [eqv_str]⟩
theorem g_neS {a b : Str} (ha : PyData.strOk a = true) (hb : PyData.strOk b = true) : NeD (.str a) (.str b) (.bool (!decide (a = b))) := ⟨.inl (shp_str ha), .inl (shp_str hb), by rw [eqv_str]⟩
theorem g_eqT {a b : Str} : EqD (.str a) (.str b) (.bool (decide (a = b))) := ⟨.inr ⟨rfl, rfl⟩, .inr ⟨rfl, rfl⟩, by rw [eqv_str]⟩
theorem g_neT {a b : Str} : NeD (.str a) (.str b) (.bool (!decide (a = b))) := ⟨.inr ⟨rfl, rfl⟩, .inr ⟨rfl, rfl⟩, by rw [eqv_str]⟩
end
end DL
set_option maxRecDepth 100000
namespace DL
open PySem L2
/-! pence as texts: what the words come to, sign by sign -/
abbrev tl := TL.tl
abbrev numL := TL.numL
def z2 (r : Nat) : List Nat := if r < 10 then [48, 48 + r] else [48 + r / 10, 48 + r % 10]
def penceL (p : Nat) : List Nat := numL (p / 60) ++ 47 :: z2 (p % 60)
def mkS (l : List Nat) : Str := ⟨l.toArray⟩
theorem tl_mkS (l : List Nat) : tl (mkS l) = l := rfl
theorem mkS_tl (x : Str) : mkS (tl x) = x := TL.mk_tl x
theorem tl_app (x y : Str) : tl (x ++ y) = tl x ++ tl y := TL.tl_append x y
theorem numL60 {r : Nat} (h : r < 100) (h2 : 10 ≤ r) : numL r = [48 + r / 10, 48 + r % 10] := by
  rw [show numL r = _ from TL.numL_step h2, TL.numL_lt (n := r / 10) (by omega)]; rfl
theorem zfill2 {r : Nat} (h : r < 100) : tl (Txt.zfill (Str.ofString (toString ((r : Nat) : Int))) 2) = z2 r := by
  have e : tl (Str.ofString (toString ((r : Nat) : Int))) = numL r := TL.tl_num r
  have el : (Str.ofString (toString ((r : Nat) : Int))).length = (numL r).length := by rw [TL.len_tl]; exact congrArg _ e
  generalize Str.ofString (toString ((r : Nat) : Int)) = x at *
  unfold Txt.zfill z2
  by_cases c : r < 10
  · have e1 : numL r = [48 + r] := TL.numL_lt c
    rw [e1] at e el
    rw [if_pos c, el]
    rw [if_neg (by simp)]
    unfold zfilled
    have g : x.cps[0]? = some (48 + r) := by
      rw [← Array.getElem?_toList]
      have e : x.cps.toList = [48 + r] := e
      rw [e]; rfl
    rw [g]
    have hp : ∀ k : Nat, tl (Builtin.Str.padded x k 0 48) = List.replicate k 48 ++ [48 + r] := fun k => by
      have := PyProof.Rows.padded_list x k 0 48
      have e : x.cps.toList = [48 + r] := e
      rw [e] at this
      simpa using this
    split
    · rename_i q; have := Option.some.inj q; omega
    · rename_i q; have := Option.some.inj q; omega
    · exact hp 1
  · have e1 := numL60 h (by omega)
    rw [e1] at e el
    rw [if_neg c, el, if_pos (by simp)]
    exact e
def isDig (c : Nat) : Bool := 48 ≤ c && c ≤ 57
def digL : List Nat := [48, 49, 50, 51, 52, 53, 54, 55, 56, 57]
theorem mem_dig (c : Nat) : decide (c ∈ digL) = isDig c := by
  unfold digL isDig
  rw [← Bool.decide_and]
  refine decide_eq_decide.mpr ⟨fun h => ?_, fun h => ?_⟩
  · simp only [List.mem_cons, List.not_mem_nil, or_false] at h; omega
  · simp only [List.mem_cons, List.not_mem_nil, or_false]; omega
/-- the number that figures write -/
def figV (w : List Nat) : Option Nat := if (decide (1 ≤ w.length) && decide (w.length ≤ 10)) && w.all isDig then some (NumText.digitsVal w) else none
def optD : Option Nat → PyData
  | some n => .int (n : Int)
  | none => .none
/-- behind the last stroke, and ahead of it -/
def aft (l : List Nat) : List Nat := (l.reverse.takeWhile (· != 47)).reverse
def fore (l : List Nat) : List Nat := ((l.reverse.dropWhile (· != 47)).drop 1).reverse
def penceV (l : List Nat) : Option Nat := match figV (fore l), figV (aft l) with
  | some a, some b => if 60 * a + b ≤ 1000000000 ∧ penceL (60 * a + b) = l then some (60 * a + b) else none
  | _, _ => none
theorem tw_all {p : Nat → Bool} : ∀ {l : List Nat}, (∀ c ∈ l, p c = true) → l.takeWhile p = l ∧ l.dropWhile p = []
  | [], _ => ⟨rfl, rfl⟩
  | c :: l, h => by
    have ih := tw_all (p := p) (l := l) fun a m => h a (List.mem_cons_of_mem _ m)
    have hc := h c List.mem_cons_self
    rw [List.takeWhile_cons_of_pos hc, List.dropWhile_cons_of_pos hc, ih.1, ih.2]; exact ⟨rfl, rfl⟩
theorem no_rev {l : List Nat} (h : 47 ∉ l) : ∀ c ∈ l.reverse, (c != 47) = true := fun c hc => by
  have : c ≠ 47 := fun e => h (e ▸ List.mem_reverse.mp hc)
  simpa using this
theorem aft_app {a b : List Nat} (h : 47 ∉ b) : aft (a ++ 47 :: b) = b := by
  unfold aft
  rw [List.reverse_append, List.reverse_cons, List.append_assoc, List.takeWhile_append_of_pos]
  · rw [List.singleton_append, List.takeWhile_cons_of_neg (by simp), List.append_nil, List.reverse_reverse]
  · intro c hc
    have : c ≠ 47 := fun e => h (e ▸ List.mem_reverse.mp hc)
    simpa using this
theorem fore_app {a b : List Nat} (h : 47 ∉ b) : fore (a ++ 47 :: b) = a := by
  unfold fore
  rw [List.reverse_append, List.reverse_cons, List.append_assoc, List.dropWhile_append_of_pos]
  · rw [List.singleton_append, List.dropWhile_cons_of_neg (by simp), List.drop_one, List.tail_cons, List.reverse_reverse]
  · intro c hc
    have : c ≠ 47 := fun e => h (e ▸ List.mem_reverse.mp hc)
    simpa using this
theorem aft_none {l : List Nat} (h : 47 ∉ l) : aft l = l := by
  unfold aft
  rw [(tw_all (no_rev h)).1, List.reverse_reverse]
theorem fore_none {l : List Nat} (h : 47 ∉ l) : fore l = [] := by
  unfold fore
  rw [(tw_all (no_rev h)).2]; rfl
theorem figV_num {n : Nat} (h : n < 10 ^ 10) : figV (numL n) = some n := by
  unfold figV
  have h1 : (numL n).length ≤ 10 := TL.numL_len (by decide) h
  have h2 : 1 ≤ (numL n).length := List.length_pos_iff.mpr (TL.numL_ne n)
  have h3 : (numL n).all isDig = true := List.all_eq_true.mpr fun c hc => by
    have := TL.numL_digits n c hc
    unfold isDig; simp; omega
  rw [h3, decide_eq_true h1, decide_eq_true h2]
  exact congrArg some (TL.numL_val n)
theorem z2_val : ∀ r, r < 60 → figV (z2 r) = some r := by decide
theorem z2_free : ∀ r, r < 60 → 47 ∉ z2 r := by decide
theorem penceV_L {p : Nat} (h : p ≤ 1000000000) : penceV (penceL p) = some p := by
  have m : p % 60 < 60 := Nat.mod_lt _ (by decide)
  have e : 60 * (p / 60) + p % 60 = p := Nat.div_add_mod p 60
  unfold penceV
  have a1 : aft (penceL p) = z2 (p % 60) := aft_app (z2_free _ m)
  have a2 : fore (penceL p) = numL (p / 60) := fore_app (z2_free _ m)
  rw [a1, a2, z2_val _ m, figV_num (by omega)]
  show (if _ ∧ _ then _ else _) = _
  rw [e, if_pos ⟨h, rfl⟩]
theorem penceL_inj {p q : Nat} (hp : p ≤ 1000000000) (hq : q ≤ 1000000000) (h : penceL p = penceL q) : p = q := by
  have a := penceV_L hp; have b := penceV_L hq
  rw [h, b] at a
  exact (Option.some.inj a).symm
/-- the last stroke of a text -/
theorem rpart {x y : Str} (hy : tl y = [47]) : (47 ∉ tl x ∧ Txt.rpartition x y = (Str.empty, Str.empty, x)) ∨ ∃ a b, tl x = tl a ++ 47 :: tl b ∧ 47 ∉ tl b ∧ Txt.rpartition x y = (a, y, b) := by
  have ne : TL.tl y ≠ [] := by rw [show TL.tl y = [47] from hy]; simp
  have hpre : ∀ i, TL.pre (TL.tl y) ((tl x).drop i) = true ↔ (tl x)[i]? = some 47 := fun i => by
    rw [show TL.tl y = [47] from hy]
    unfold TL.pre
    cases e : (tl x).drop i with
    | nil =>
      have : (tl x)[i]? = none := by rw [List.getElem?_eq_none_iff]; exact List.drop_eq_nil_iff.mp e
      rw [this]; simp
    | cons c r =>
      have : (tl x)[i]? = some c := by
        have := congrArg (·[0]?) e
        simpa using this
      rw [this]; simp
  unfold Txt.rpartition
  have hl : y.length = 1 := by rw [TL.len_tl, show TL.tl y = [47] from hy]; rfl
  rcases StrLaws.last_spec x y with ⟨h1, h2⟩ | ⟨i, h1, h2, h3⟩
  · refine .inl ⟨fun hm => ?_, by rw [h1]⟩
    obtain ⟨i, hi, e⟩ := List.mem_iff_getElem.mp hm
    exact h2 i ((TL.at_iff ne i).mpr ((hpre i).mpr (by rw [List.getElem?_eq_getElem hi, e])))
  · have e := (hpre i).mp ((TL.at_iff ne i).mp h2)
    obtain ⟨hi, e'⟩ := List.getElem?_eq_some_iff.mp e
    refine .inr ⟨Builtin.Str.strSub x 0 i, Builtin.Str.strSub x (i + y.length) x.length, ?_, fun hm => ?_, by rw [h1]⟩
    · rw [show tl (Builtin.Str.strSub x 0 i) = _ from TL.tl_strSub x 0 i, show tl (Builtin.Str.strSub x (i + y.length) x.length) = _ from TL.tl_strSub_end x _, hl]
      simp only [List.drop_zero, Nat.sub_zero]
      rw [← e', ← List.drop_eq_getElem_cons hi, List.take_append_drop]
    · rw [show tl (Builtin.Str.strSub x (i + y.length) x.length) = _ from TL.tl_strSub_end x _, hl] at hm
      obtain ⟨k, hk, ek⟩ := List.mem_iff_getElem.mp hm
      rw [List.getElem_drop] at ek
      rw [List.length_drop] at hk
      have hk : k < (tl x).length - (i + 1) := hk
      exact h3 (i + 1 + k) (by omega) ((TL.at_iff ne _).mpr ((hpre _).mpr (by rw [List.getElem?_eq_getElem (by omega)]; exact congrArg some ek)))
end DL
set_option maxRecDepth 100000
set_option maxHeartbeats 60000
namespace DL
open PySem L2
local macro_rules | `(tactic| walk_at "dl_g") => `(tactic| with_reducible first
  | exact g_add | exact g_sub | exact g_lt | exact g_le | exact g_gt | exact g_ge | exact g_eq | exact g_ne | exact g_eqB | exact g_eqL | exact g_neL | exact g_eqLB | exact g_neB | exact g_neg | exact g_isB | exact g_notB | exact g_len | exact g_lenT | exact g_sum | exact g_all | exact g_any
  | exact g_min | exact g_max | exact g_abs | exact g_int | exact g_intB | exact g_list | exact g_listT | exact g_tuple | exact g_tupleT | exact g_sorted | exact g_ltS | exact g_leS
  | apply g_mul | apply g_mulL | apply g_div | apply g_mod | apply g_pow | apply g_divmod | apply g_str | apply g_addS | apply g_addL | apply g_addT | apply g_lenS)
local macro_rules | `(tactic| walk_at "dl_e1") => `(tactic| first
  | with_reducible first | exact ev_int | exact ev_str | exact ev_bl | exact ev_non | exact ev_ty | exact ead_nil | exact ea_nil | exact eo_none | exact eb_yes
    | apply ead_cons | apply ea_cons | apply ev_bin | apply ev_cb | apply ev_un | apply ev_isN | apply ev_notN | apply ev_lst | apply ev_tup | apply ev_isi | apply ev_sl | apply eo_some
    | apply eb_test | apply eb_B | apply eb_not | apply eb_orU | apply eb_andU | apply ev_andU | apply ev_orU | apply ev_notV | apply ev_revL | apply ev_chainU
  | ((with_reducible apply ev_var); rfl)
  | ((with_reducible first | apply g_ixL | apply g_ixT); first | exact rfl | skip)
  | ((with_reducible show Nat.ble _ _ = true); rfl)
  | ((with_reducible show _ ∈ goodT); decide)
  | walk_at "dl_g")
local macro_rules | `(tactic| walk_at "dl_ev") => `(tactic| repeat' (walk_at "dl_e1"))
local macro_rules | `(tactic| walk_at "dl_s") => `(tactic| first | omega | (refine ⟨?_, ?_⟩ <;> omega) | decide)
theorem log_ok {n : Nat} (h : n ≤ 1000000000000000000) : n.log2 < 1920 := by
  by_cases z : n = 0
  · subst z; decide
  · have : n.log2 < 60 := (Nat.log2_lt z).mpr (Nat.lt_of_le_of_lt h (by decide))
    omega
theorem len_num {n : Nat} (h : n < 10 ^ 19) : (Str.ofString (toString ((n : Nat) : Int))).length ≤ 19 := by
  rw [TL.len_tl, TL.tl_num]; exact TL.numL_len (by decide) h
theorem len_app (x y : Str) : (x ++ y).length = x.length + y.length := by
  rw [TL.len_tl, TL.len_tl x, TL.len_tl y, TL.tl_append, List.length_append]
theorem tl_num' (n : Nat) : tl (Str.ofString (toString ((n : Nat) : Int))) = numL n := TL.tl_num n
def t_pence_text (K : Fg) : TS := (tSeq (tAsg (tCB (rC K DivmodD) (tCons (tVar 0) (tCons (tC (.int 60)) tNil))) (gNames K [1, 2]))
    (tRet (tOp (rB K AddD) (tFs [(tFmt (tVar 1)), (tC (.str "/"))]) (tBM K "str" (rM K ZfillD) (tCB (rC K StrD) (tCons (tVar 2) tNil)) (tCons (tC (.int 2)) tNil)))))
def N_pence_text : List Str := ["pence", "crowns", "left"]
def pm_pence_text : Pm := pmD (fun ds => ∃ p : Nat, ds = [.int (p : Int)] ∧ p ≤ 2000000000) (fun ds => match ds with | [.int p] => .str (mkS (penceL p.toNat)) | _ => .none)
theorem sem_pence_text (K : Fg) : Sem K N_pence_text 1 pm_pence_text (t_pence_text K) := by
  rintro M ss H R m ⟨ds, rfl, ⟨p, rfl, hp⟩, k⟩
  refine ⟨rfl, by decide, ?_⟩
  show Rn K M.h (t_pence_text K) [some (.d (.int (p : Int))), none, none] M H _
  refine r_seq (r_asgT (ds := [.int ((p / 60 : Nat) : Int), .int ((p % 60 : Nat) : Int)]) (EvD.is (by walk_at "dl_ev"; exact ⟨by decide, by decide⟩) (by rw [show (p : Int) / 60 = ((p / 60 : Nat) : Int) by omega, show (p : Int) % 60 = ((p % 60 : Nat) : Int) by omega])) rfl fun H1 x1 => ?_)
  dsimp only [List.zip, List.zipWith, List.foldl, List.set]
  have z : tl (Txt.zfill (Str.ofString (toString ((p % 60 : Nat) : Int))) 2) = z2 (p % 60) := zfill2 (by omega)
  have lz : (Txt.zfill (Str.ofString (toString ((p % 60 : Nat) : Int))) 2).length = 2 := by
    rw [TL.len_tl]; rw [show TL.tl _ = _ from z]; unfold z2; split <;> rfl
  have l1 := len_num (n := p / 60) (by omega)
  refine r_ret (s := .d (.str (mkS (penceL p)))) (EvD.is (ev_bin (ev_fs (ej_cons (ev_fmtI (ev_var rfl) (log_ok (by omega))) ?_ (ej_cons ev_str ?_ ej_nil))) (ev_bm (ev_cb (ead_cons (ev_var rfl) ead_nil) (g_str (log_ok (by omega)))) (ead_cons ev_int ead_nil) ⟨by decide, rfl⟩) ⟨?_, rfl⟩) ?_) fun H2 x2 => k _ (x1.trans x2)
  · rw [len_app, sizeLine_eq]; show 0 + _ ≤ _; omega
  · rw [len_app, len_app, sizeLine_eq]; show 0 + _ + 1 ≤ _; omega
  · rw [len_app, len_app, lz, sizeLine_eq]; show 0 + _ + 1 + 2 ≤ _; omega
  · refine congrArg PyData.str (TL.ext_tl ?_)
    show tl _ = tl (mkS _)
    rw [tl_app, tl_app, tl_app, z, tl_num', tl_mkS]
    show ([] ++ numL (p / 60) ++ [47]) ++ z2 (p % 60) = _
    rw [List.nil_append, List.append_assoc]; rfl
theorem ev_pence_text {K : Fg} {ρ : Ro} {M : Ms} {H : Hp} {ta : TE} {p : Nat} {E : XK} (ha : EvD K ta ρ M H (.int (p : Int))) (h : p ≤ 2000000000) : EvD K (tCall (spG K pm_pence_text) [] E (tCons ta tNil)) ρ M H (.str (mkS (penceL p))) :=
  ev_call (ead_cons ha ead_nil) ⟨p, rfl, h⟩
def t_figures_in (K : Fg) : TS := (tSeq (tIfS (tOr (tNot (tTest (tChain (rB K LeD) (rB K LeD) (tC (.int 1)) (tCB (rC K LenD) (tCons (tVar 0) tNil)) (tC (.int 10))))) (tNot (tB (tCB (rC K AllD) (tCons (tLc (iSeq K (tVar 0)) (gName 1) tYes (tOp (rB K InD) (tVar 1) (tC (.str "0123456789"))) [1]) tNil))))) (tRet (tC .non)) tNext)
    (tRet (tCB (rC K IntD) (tCons (tVar 0) tNil))))
def N_figures_in : List Str := ["word", "sign"]
def pm_figures_in : Pm := pmD (fun ds => ∃ w : Str, ds = [.str w] ∧ w.length ≤ 1000) (fun ds => match ds with | [.str w] => optD (figV (tl w)) | _ => .none)
theorem sem_figures_in (K : Fg) : Sem K N_figures_in 1 pm_figures_in (t_figures_in K) := by
  rintro M ss H R m ⟨ds, rfl, ⟨w, rfl, hw⟩, k⟩
  refine ⟨rfl, by decide, ?_⟩
  have k : ∀ H', Ex H H' → R (.d (optD (figV (tl w)))) H' := k
  show Rn K M.h (t_figures_in K) [some (.d (.str w)), none] M H _
  have hl : w.length = (tl w).length := TL.len_tl w
  refine r_seq (r_if (b := !(decide ((1 : Int) ≤ (w.length : Int)) && decide ((w.length : Int) ≤ 10)) || !((tl w).map fun c => decide (c ∈ digL)).all id) ?_ (fun e H1 x1 => ?_) (fun e H1 x1 => r_next ?_))
  · refine eb_orU (eb_not (eb_test (ev_chainU ev_int (ev_cb (ead_cons (ev_var rfl) ead_nil) (g_lenS (by rw [sizeLine_eq]; omega))) ev_int g_le g_le))) (eb_not (eb_B (ev_cb (ead_cons (ev_lcB (enc := fun c => .str ⟨#[c]⟩) (fun c => decide (c ∈ digL)) (ei_text (ev_var rfl)) (by show (tl w).length ≤ _; omega) fun i c hc => ⟨_, tc_name, fun N H' s x => ?_⟩) ead_nil) g_all)))
    exact ev_bin (ev_var rfl) ev_str ⟨c, rfl, rfl⟩
  · refine r_ret (s := .d .none) ev_non fun H2 x2 => ?_
    have f : figV (tl w) = none := by
      unfold figV
      rw [if_neg]
      intro q
      simp only [Bool.and_eq_true, decide_eq_true_eq] at q
      have a : ((tl w).map fun c => decide (c ∈ digL)).all id = true := by
        rw [List.all_map]; exact List.all_eq_true.mpr fun c hc => by
          show decide (c ∈ digL) = true
          rw [mem_dig]; exact List.all_eq_true.mp q.2 c hc
      rw [a, decide_eq_true (by omega), decide_eq_true (by omega)] at e
      cases e
    have := k H2 (x1.trans x2)
    rw [show optD (figV (tl w)) = .none by rw [f]; rfl] at this
    exact this
  · simp only [Bool.or_eq_false_iff, Bool.not_eq_false', Bool.and_eq_true, decide_eq_true_eq] at e
    have a : (tl w).all isDig = true := by
      have := e.2
      rw [List.all_map] at this
      exact List.all_eq_true.mpr fun c hc => by rw [← mem_dig]; exact List.all_eq_true.mp this c hc
    have f : figV (tl w) = some (NumText.digitsVal (tl w)) := by
      unfold figV
      rw [a, decide_eq_true (by omega), decide_eq_true (by omega)]; rfl
    refine r_ret (s := .d (.int ((NumText.digitsVal (tl w) : Nat) : Int))) (ev_cb (ead_cons (ev_var rfl) ead_nil) ⟨_, intText_digits (x := w) (fun c hc => ?_) (fun q => ?_) (by omega), by omega, rfl⟩) fun H2 x2 => ?_
    · have := List.all_eq_true.mp a c hc
      unfold isDig at this
      rw [Bool.and_eq_true, decide_eq_true_eq, decide_eq_true_eq] at this
      exact this
    · have : (tl w).length = 0 := by rw [show tl w = [] from q]; rfl
      omega
    have := k H2 (x1.trans x2)
    rw [f] at this
    exact this
theorem ev_figures_in {K : Fg} {ρ : Ro} {M : Ms} {H : Hp} {ta : TE} {w : Str} {E : XK} (ha : EvD K ta ρ M H (.str w)) (h : w.length ≤ 1000) : EvD K (tCall (spG K pm_figures_in) [] E (tCons ta tNil)) ρ M H (optD (figV (tl w))) :=
  ev_call (ead_cons ha ead_nil) ⟨w, rfl, h⟩
def t_pence_in (K : Fg) : TS := (tSeq (tAsg (tBM K "str" (rM K RpartD) (tVar 0) (tCons (tC (.str "/")) tNil)) (gNames K [1, 2, 3]))
    (tSeq (tAsg (tTup (tCons (tCall (spG K pm_figures_in) [] E0 (tCons (tVar 1) tNil)) (tCons (tCall (spG K pm_figures_in) [] E0 (tCons (tVar 3) tNil)) tNil))) (gName 4))
    (tSeq (tIfS (tTest (tOp (rB K InD) (tC .non) (tVar 4))) (tRet (tC .non)) tNext)
    (tSeq (tAsg (tOp (rB K AddD) (tOp (rB K MulD) (tC (.int 60)) (tOp (rB K IxD) (tVar 4) (tC (.int 0)))) (tOp (rB K IxD) (tVar 4) (tC (.int 1)))) (gName 5))
    (tRet (tIf (tAnd (tTest (tOp (rB K LeD) (tVar 5) (tC (.int 1000000000)))) (tTest (tOp (rB K EqD) (tCall (spG K pm_pence_text) [] E0 (tCons (tVar 5) tNil)) (tVar 0)))) (tVar 5) (tC .non)))))))
def N_pence_in : List Str := ["text", "crowns", "stroke", "left", "numbers", "found"]
def pm_pence_in : Pm := pmD (fun ds => ∃ w : Str, ds = [.str w] ∧ w.length ≤ 1000 ∧ PyData.strOk w = true) (fun ds => match ds with | [.str w] => optD (penceV (tl w)) | _ => .none)
theorem flat_opt (o : Option Nat) : flatD (optD o) = true := by cases o <;> rfl
theorem ok_mk {l : List Nat} (h : ∀ c ∈ l, c < 1114112) : PyData.strOk (mkS l) = true := by
  unfold PyData.strOk mkS
  rw [← Array.all_toList]
  exact List.all_eq_true.mpr fun c hc => decide_eq_true (h c hc)
theorem penceL_small (p : Nat) : ∀ c ∈ penceL p, 47 ≤ c ∧ c ≤ 57 := by
  intro c hc
  unfold penceL at hc
  rcases List.mem_append.mp hc with h | h
  · have := TL.numL_digits _ c h; omega
  · rcases List.mem_cons.mp h with h | h
    · omega
    · unfold z2 at h
      have m : p % 60 < 60 := Nat.mod_lt _ (by decide)
      split at h <;> simp only [List.mem_cons, List.not_mem_nil, or_false] at h <;> omega
theorem ok_pence (p : Nat) : PyData.strOk (mkS (penceL p)) = true := ok_mk fun c hc => by have := penceL_small p c hc; omega
theorem mkS_eq {l : List Nat} {w : Str} : (mkS l = w) ↔ l = tl w := ⟨fun h => by rw [← h]; rfl, fun h => by rw [h]; exact mkS_tl w⟩
theorem fig_bound {l : List Nat} {n : Nat} (h : figV l = some n) : n < 10000000000 := by
  unfold figV at h
  split at h
  · rename_i q
    simp only [Bool.and_eq_true, decide_eq_true_eq] at q
    cases h
    have key : ∀ (l : List Nat) (a : Nat), l.all isDig = true → l.foldl (fun acc c => acc * 10 + (c - 48)) a < (a + 1) * 10 ^ l.length := by
      intro l
      induction l with
      | nil => intro a _; simp
      | cons c l ih =>
        intro a hd
        rw [List.all_cons, Bool.and_eq_true] at hd
        have hc := hd.1
        unfold isDig at hc
        simp only [Bool.and_eq_true, decide_eq_true_eq] at hc
        rw [List.foldl_cons, List.length_cons]
        have := ih (a * 10 + (c - 48)) hd.2
        have e : (a * 10 + (c - 48) + 1) * 10 ^ l.length ≤ (a + 1) * 10 ^ (l.length + 1) := by
          rw [Nat.pow_succ, Nat.mul_comm (10 ^ l.length) 10, ← Nat.mul_assoc]
          exact Nat.mul_le_mul_right _ (by omega)
        omega
    have k := key l 0 q.2
    have e : 10 ^ l.length ≤ 10 ^ 10 := Nat.pow_le_pow_right (by decide) q.1.2
    unfold NumText.digitsVal
    omega
  · cases h
theorem sem_pence_in (K : Fg) : Sem K N_pence_in 1 pm_pence_in (t_pence_in K) := by
  rintro M ss H R m ⟨ds, rfl, ⟨w, rfl, hw, ok⟩, k⟩
  refine ⟨rfl, by decide, ?_⟩
  have k : ∀ H', Ex H H' → R (.d (optD (penceV (tl w)))) H' := k
  show Rn K M.h (t_pence_in K) [some (.d (.str w)), none, none, none, none, none] M H _
  have hl : w.length = (tl w).length := TL.len_tl w
  obtain ⟨a, b, c, er, ea, ec, la, lc⟩ : ∃ a b c : Str, Txt.rpartition w ("/" : Str) = (a, b, c) ∧ tl a = fore (tl w) ∧ tl c = aft (tl w) ∧ a.length ≤ 1000 ∧ c.length ≤ 1000 := by
    rcases rpart (x := w) (y := ("/" : Str)) rfl with ⟨h1, h2⟩ | ⟨a, b, h1, h2, h3⟩
    · exact ⟨_, _, _, h2, by rw [fore_none h1]; rfl, by rw [aft_none h1], by decide, hw⟩
    · have e := congrArg List.length h1
      rw [List.length_append, List.length_cons] at e
      refine ⟨_, _, _, h3, by rw [h1, fore_app h2], by rw [h1, aft_app h2], ?_, ?_⟩
      · rw [TL.len_tl]; show (tl a).length ≤ _; omega
      · rw [TL.len_tl]; show (tl b).length ≤ _; omega
  refine r_seq (r_asgT (ds := [.str a, .str b, .str c]) (ev_bm (ev_var rfl) (ead_cons ev_str ead_nil) ⟨rfl, by rw [sizeLine_eq]; omega, by rw [er]⟩) rfl fun H1 x1 => ?_)
  dsimp only [List.zip, List.zipWith, List.foldl, List.set]
  refine r_seq (r_asg (s := .d (.tuple [optD (figV (fore (tl w))), optD (figV (aft (tl w)))])) (ev_tup (ead_cons (EvD.is (ev_figures_in (ev_var rfl) la) (by rw [ea])) (ead_cons (EvD.is (ev_figures_in (ev_var rfl) lc) (by rw [ec])) ead_nil))) fun H2 x2 => ?_)
  dsimp only [List.set]
  have bad : penceV (tl w) = none → ∀ (P : Po), P.R = R → ∀ H3, Ex H2 H3 → Rn K M.h (tRet (tC .non)) [some (.d (.str w)), some (.d (.str a)), some (.d (.str b)), some (.d (.str c)), some (.d (.tuple [optD (figV (fore (tl w))), optD (figV (aft (tl w)))])), none] M H3 P := fun hv P hP H3 x3 => r_ret (s := .d .none) ev_non fun H4 x4 => by
    rw [hP]
    have := k H4 (x1.trans (x2.trans (x3.trans x4)))
    rw [hv] at this; exact this
  cases ha : figV (fore (tl w)) with
  | none =>
    rw [ha] at bad
    refine r_seq (r_if (b := true) (eb_test (ev_bin (z := .bool true) ev_non (ev_var rfl) ⟨rfl, by simp [flat_opt], by simp [PyData.eqv, optD]⟩)) (fun _ H3 x3 => bad (by unfold penceV; rw [ha]) _ rfl H3 x3) fun e => by cases e)
  | some p =>
    cases hb : figV (aft (tl w)) with
    | none =>
      rw [ha, hb] at bad
      refine r_seq (r_if (b := true) (eb_test (ev_bin (z := .bool true) ev_non (ev_var rfl) ⟨rfl, by simp [flat_opt], by simp [PyData.eqv, optD]⟩)) (fun _ H3 x3 => bad (by unfold penceV; rw [ha, hb]) _ rfl H3 x3) fun e => by cases e)
    | some q =>
      have pb := fig_bound ha
      have qb := fig_bound hb
      refine r_seq (r_ifF (b := false) (eb_test (ev_bin (z := .bool false) ev_non (ev_var rfl) ⟨rfl, rfl, by simp [PyData.eqv, optD]⟩)) rfl fun H3 x3 => r_next ?_)
      refine r_seq (r_asg (s := .d (.int ((60 * p + q : Nat) : Int))) (EvD.is (ev_bin (ev_bin ev_int (ev_bin (ev_var rfl) ev_int (g_ixT (z := .int (p : Int)) rfl)) (g_mul (.inl (by decide)))) (ev_bin (ev_var rfl) ev_int (g_ixT (z := .int (q : Int)) rfl)) g_add) (by rw [show (60 : Int) * (p : Int) + (q : Int) = ((60 * p + q : Nat) : Int) by omega])) fun H4 x4 => ?_)
      dsimp only [List.set]
      have fin : penceV (tl w) = if 60 * p + q ≤ 1000000000 ∧ penceL (60 * p + q) = tl w then some (60 * p + q) else none := by
        unfold penceV; rw [ha, hb]
      refine r_ret (s := .d (optD (penceV (tl w)))) ?_ fun H5 x5 => k _ (x1.trans (x2.trans (x3.trans (x4.trans x5))))
      refine EvD.is (ev_ifD (x := .int ((60 * p + q : Nat) : Int)) (y := .none) (eb_and (eb_test (ev_bin (ev_var rfl) ev_int g_le)) (b := decide (mkS (penceL (60 * p + q)) = w)) fun e => eb_test (ev_bin (ev_pence_text (ev_var rfl) ?_) (ev_var rfl) (g_eqS (ok_pence _) ok))) (fun _ => ev_var rfl) fun _ => ev_non) ?_
      · have := of_decide_eq_true e; omega
      · by_cases c1 : 60 * p + q ≤ 1000000000
        · have e1 : decide (((60 * p + q : Nat) : Int) ≤ 1000000000) = true := decide_eq_true (by omega)
          by_cases c2 : penceL (60 * p + q) = tl w
          · rw [e1, decide_eq_true (mkS_eq.mpr c2), fin]; show PyData.int _ = optD (if _ then _ else _); rw [if_pos ⟨c1, c2⟩]; rfl
          · rw [e1, decide_eq_false (p := mkS _ = w) (fun h => c2 (mkS_eq.mp h)), fin]; show PyData.none = optD (if _ then _ else _); rw [if_neg (fun h => c2 h.2)]; rfl
        · have e1 : decide (((60 * p + q : Nat) : Int) ≤ 1000000000) = false := decide_eq_false (by omega)
          rw [e1, fin]; show PyData.none = optD (if _ then _ else _); rw [if_neg (fun h => c1 h.1)]; rfl
theorem ev_pence_in {K : Fg} {ρ : Ro} {M : Ms} {H : Hp} {ta : TE} {w : Str} {E : XK} (ha : EvD K ta ρ M H (.str w)) (h : w.length ≤ 1000) (ok : PyData.strOk w = true) : EvD K (tCall (spG K pm_pence_in) [] E (tCons ta tNil)) ρ M H (optD (penceV (tl w))) :=
  ev_call (ead_cons ha ead_nil) ⟨w, rfl, h, ok⟩
end DL
set_option maxRecDepth 100000
namespace DL
open PySem L2
/-! a text backwards -/
def revT (x : Str) : Str := ⟨((Builtin.Str.strSliceIndices none none (-1) x.length).filterMap (x.cps[·]?)).toArray⟩
theorem revT_all {p : Nat → Prop} {x : Str} (h : ∀ c ∈ tl x, p c) : ∀ c ∈ tl (revT x), p c := fun c hc => by
  obtain ⟨i, _, e⟩ := List.mem_filterMap.mp hc
  refine h c ?_
  rw [← Array.getElem?_toList] at e
  exact List.mem_of_getElem? e
theorem revT_len (x : Str) : (revT x).length ≤ x.length := by
  have h : (revT x).length ≤ (Builtin.Str.strSliceIndices none none (-1) x.length).length := by
    show (List.filterMap _ _).toArray.size ≤ _
    rw [List.size_toArray]; exact List.length_filterMap_le _ _
  rw [PyProof.Rows.picked_rev, List.length_map, List.length_range] at h
  exact h
def tRevS (te : TE) : TE := fun σ H Q => te σ H fun x H1 => ∃ y, x = .str y ∧ y.length ≤ sizeLine ∧ Q (.str (revT y)) H1
section
variable {X : Cx} {e : Expr} {te : TE}
theorem pe_revS {k : Nat} {p1 p2 p3 pos : Pos} (he : PE X e te) : PE X (.Subscript e (.Slice none none (some (.UnaryOp .USub (.Constant (.int 1) k p1) p2)) p3) pos) (tRevS te) := by
  constructor
  intro pins s σ H Q I h
  refine PyProof.Rows.Subscript_ (thn (he.run pins s σ H _ I h) ?_)
  rintro v s1 ⟨x, H1, I1, r1, y, rfl, room, done⟩
  obtain ⟨tk, rfl⟩ := r1
  have back : PO X (some (.UnaryOp .USub (.Constant (.int 1) k p1) p2)) (tPart (tUn (rU fun i => .int (-i)) (tC (.int 1)))) := po_some (pe_un un_neg pe_int)
  have open_ : PO X none tNoPart := po_none
  refine wpAny_Slice (thn (open_.run pins s1 σ H1 (fun o J => o = none ∧ J = H1) I1 ⟨rfl, rfl⟩) ?_)
  rintro vl s2 ⟨_, _, I2, pl, rfl, rfl⟩
  refine thn (open_.run pins s2 σ _ (fun o J => o = none ∧ J = _) I2 ⟨rfl, rfl⟩) ?_
  rintro vu s3 ⟨_, _, I3, pu, rfl, rfl⟩
  refine thn (back.run pins s3 σ _ (fun o J => o = some (-1) ∧ J = _) I3 ⟨1, rfl, -1, rfl, rfl, rfl⟩) ?_
  rintro vs s4 ⟨_, _, I4, ps, rfl, rfl⟩
  obtain ⟨l, rfl, el⟩ := IsPart.raw pl
  obtain ⟨u, rfl, eu⟩ := IsPart.raw pu
  obtain ⟨st, rfl, es⟩ := IsPart.raw ps
  have I5 := I4.kept (h' := s4.heap.push { cls := .type "slice", data := .fields #[partValue l, partValue u, partValue st] }) (t' := s4.toks) fun b ob q => Heap.get?_push_of_some _ q
  refine PyProof.Rows.tail_any (s := { s4 with heap := s4.heap.push { cls := .type "slice", data := .fields #[partValue l, partValue u, partValue st] } }) (ops := [.ref s4.heap.objs.size, .str y tk]) (typeIs_str _ _ _) PySem.F.slot_str_getitem.lookup ?_ (by with_unfolding_all rfl)
  refine wpAny_getItem_str_slice (l := l) (u := u) (st := st) ⟨_, Heap.get?_push_size _ rfl, rfl, rfl⟩ (by rw [es]; rfl) ?_
  unfold sliceMade slicePicked
  rw [el, eu, es]
  rw [if_neg (by simp)]
  refine ⟨?_, .str _, _, I5.tok _, ⟨_, rfl⟩, done⟩
  exact Nat.le_trans (revT_len y) room
end
section
variable {K : Fg} {ρ : Ro} {M : Ms} {H : Hp} {te ta tb : TE} {P : Po} {B0 : List Addr} {t : TS}
theorem ev_revS {y : Str} (h : EvD K te ρ M H (.str y)) (hl : y.length ≤ sizeLine) : EvD K (tRevS te) ρ M H (.str (revT y)) := fun H1 σ x m en Q q =>
  h H1 σ x m en _ fun v H2 x2 r => ⟨y, Da.str_inv r, hl, q _ H2 x2 (.str _)⟩
/-! list(xs), to be changed -/
def rListF (K : Fg) : List V → Hp → VK → Prop := fun vs H Q => ∃ p ys, vs = [.ref p] ∧ (SqL K H p ys ∨ SqT K H p ys) ∧ ∀ l, H l = none → Q (.ref l) (upd H l (.lst ys))
theorem call_listF {X : Cx} : CallR X (.type "list") (rListF X.K) := call_list_of
theorem ef_list {ds : List PyData} (h : EvD K te ρ M H (.list ds)) : EvF K (tCB (rListF K) (tCons te tNil)) ρ M H ds := fun H1 σ x m en Q q =>
  h H1 σ x m en _ fun v H2 x2 r => by
    obtain ⟨a, vs, rfl, pa, da⟩ := Da.list_inv r
    exact ⟨a, vs, rfl, .inl (hid_l pa), fun p hp => q p _ _ (fresh_back x2 hp) (x2.trans (Ex.new hp)) upd_same (dps_ex (hid_add hp) _ _ da)⟩
theorem ef_listT {ds : List PyData} (h : EvD K te ρ M H (.tuple ds)) : EvF K (tCB (rListF K) (tCons te tNil)) ρ M H ds := fun H1 σ x m en Q q =>
  h H1 σ x m en _ fun v H2 x2 r => by
    obtain ⟨a, vs, rfl, pa, da⟩ := Da.tup_inv r
    exact ⟨a, vs, rfl, .inr (hid_t pa), fun p hp => q p _ _ (fresh_back x2 hp) (x2.trans (Ex.new hp)) upd_same (dps_ex (hid_add hp) _ _ da)⟩
/-- i, j = e, a new list -/
theorem r_parF {i j : Nat} {s : Sl} {ds : List PyData} (ha : EvR K ta ρ M H s) (hb : EvF K tb ρ M H ds) (k : ∀ p H1, H p = none → p ∉ M.h → Ex H H1 → LAt K (M.add p) H1 p ds → P.N ((ρ.set i (some s)).set j (some (.v (.ref p)))) (M.add p) H1) :
    Rn K B0 (tPar i j (tCons ta (tCons tb tNil))) ρ M H P := fun m sb σ en D dn =>
  ha H σ (Ex.refl _) m en _ fun v H1 x1 r1 => hb H1 σ x1 (m.ex x1) (en.ex x1) _ fun p H2 vs n x2 e dv => by
    have x02 : Ex H H2 := x1.trans x2
    have np : H p = none := fresh_back x1 n
    have no : p ∉ M.h := Md.fresh m np
    refine ⟨v, .ref p, rfl, dn.nx _ H2 _ (M.add p) ⟨Md.add (m.ex x02) e, x02.go, fun a q => ?_⟩ (fun a q => List.mem_cons.mpr (.inr (sb a q))) (((en.newx x02 np).set (s := s) ?_).set (s := .v (.ref p)) rfl) (k p H2 np no x02 ⟨List.mem_cons_self, vs, e, ?_⟩)⟩
    · rcases List.mem_cons.mp q with h | h
      · exact .inr (h ▸ np)
      · exact .inl h
    · cases s with
      | d y => exact dp_ex (hid_new x2 n) y v r1
      | v w => exact r1
    · exact dv
end
end DL
set_option maxRecDepth 100000
namespace DL
open PySem L2
/-! defs whose callers' frames hold no guard: what repr of a list or tuple wants to know -/
structure FnG (P : Program) (w : World) (K : Fg) (mg : Str → Option Value) (base : Heap) (CX : CXT) (k : Nat) (f : Addr) (fd : FuncData) (ps : List Str) (sp : Sp) : Prop where
  many : ∀ vs H Q E, sp vs H Q E → vs.length = ps.length
  run : ∀ (A : Around), A.guards = some [] → Room k A → ∀ (outer : List PySem.Env) (s : Shared) (H : Hp), Env0 P w K mg base A outer s H → ∀ (args : Args) (us : List Value) (vs : List V), BindsTo s fd args (ps.zip us) → Vals vs us →
    ∀ (Q : VK) (E : XK), sp vs H Q E → codeAny (model P w) A (.call (.ref f) args) (CR CX outer P w H s Q E) s
section
variable {P : Program} {w : World} {K : Fg} {mg : Str → Option Value} {base : Heap} {CX : CXT} {j k : Nat} {f : Addr} {fd : FuncData} {ps : List Str} {sp : Sp}
theorem FnG.up (F : FnG P w K mg base CX j f fd ps sp) (h : j ≤ k) : FnG P w K mg base CX k f fd ps sp :=
  ⟨F.many, fun A g r => F.run A g (r.mono h)⟩
/-- a def by its body -/
theorem fng {x qual : Str} {st : Stmt} {N : List Str} (D : Fun K x qual st f fd) (S : FnScope N ps (defScope st)) (many : ∀ vs H Q E, sp vs H Q E → vs.length = ps.length)
    (body : ∀ (cdv : Value) (A : Around) (outer : List PySem.Env) (s : Shared) (H : Hp) (vs : List V) (Q : VK) (E : XK), A.guards = some [] → Room k (A.deeper (PyProof.Rows.envOfC qual (defScope st) s.heap.objs.size f cdv)) → sp vs H Q E →
      ∃ t, PSs (cxOf CX P w K mg base N qual (defScope st) f cdv A outer s H E) (defBody st) t ∧ t { nx := fun _ H' => Q .non H', rt := Q } (L2.start N vs) H) : FnG P w K mg base CX (k + 1) f fd ps sp := by
  obtain ⟨oc, od, kV, doc, pm, an, cdv, ct, osl, rfl, lk, hcd⟩ := D.ex
  constructor
  · exact many
  intro A hg room outer s H e0 args us vs bind vals Q E promise
  have long := many _ _ _ _ promise
  have inK : K.In s.heap := e0.mod.kin.keeps fun b o e => (e0.bs b o e).1
  have lim : s.heap.NoLimit := e0.mod.nolimit.keeps fun b o e => (e0.bs b o e).1
  refine codeAny_call_function room.depth (inK _ _ lk) rfl S.co S.gen rfl (PySem.W.codeRec_of inK hcd) (bind _ _ _ _ ?_)
  have kinds : ∀ y ∈ ps.zip us, (defScope st).names.lookup y.1 = some .local ∨ ((defScope st).names.lookup y.1 = some .cell ∧ ((cellsFrom (s.heap.objs.size + 1) (defScope st).names []).lookup y.1).isSome = true) := by
    rintro ⟨n, v⟩ hy
    exact (S.par n (List.of_mem_zip hy).1).imp id fun q => ⟨q, PySem.W.cellsFrom_some _ _ _ (.inl q)⟩
  refine PySem.wpAny_newFunctionEnv_cells S.kind kinds ?_
  rintro env rfl s1 born
  refine ⟨lim.keeps born.toInCall.keep, codeAny_func ?_⟩
  obtain ⟨t, derived, reads⟩ := body cdv A outer s H vs Q E hg (room.deeper _) promise
  have I : L2.Inv (cxOf CX P w K mg base N qual (defScope st) f cdv A outer s H E) [] (L2.start N vs) H s1 := inv_start S room.hd e0 long vals born
  refine wpAny_mono (derived.run [] s1 (L2.start N vs) H _ I reads) ?_ fun _ _ z => z
  rintro (_ | _ | _ | u) s' z
  · obtain ⟨σ', H', J, q⟩ := z
    exact ⟨.non, H', J.os, J.bare, J.base, J.hok, rfl, q⟩
  · obtain ⟨_, _, _, q⟩ := z; exact q.elim
  · obtain ⟨_, _, _, q⟩ := z; exact q.elim
  · obtain ⟨v, σ', H', J, r, q⟩ := z
    exact ⟨v, H', J.os, J.bare, J.base, J.hok, r, q⟩
end
section
variable {X : Cx} {CX : CXT} {k : Nat} {f : Addr} {fd : FuncData} {ps : List Str} {sp : Sp} {dvs : List V} {ds : List Value} {E : XK} {x : Str} {p pos : Pos} {e : Expr} {es : List Expr} {t : TA}
theorem runG {pins : List (Addr × Obj)} {σ : L2.St} {H : Hp} {s : Shared} {Q : VK} {us : List Value} {vs : List V} (F : FnG X.prog X.w X.K X.mg X.base CX k f fd ps sp) (hG : X.A.guards = some []) (hr : Room k X.A) (hb : Binds X.K fd ps ds) (hd : Vals dvs ds) (hx : Passes CX X E)
    (I : L2.Inv X pins σ H s) (r : Vals vs us) (h : sp (vs ++ dvs) H Q E) : wpAny (model X.prog X.w) X.A (call (.ref f) us) (EP X pins σ Q) X.xe s := by
  have both : Vals (vs ++ dvs) (us ++ ds) := r.append hd
  have hl : (us ++ ds).length = ps.length := both.length.symm.trans (F.many _ _ _ _ h)
  have ran := F.run X.A hG hr X.stack s H I.env0 ⟨us, []⟩ (us ++ ds) (vs ++ dvs) (hb s us I.kIn hl) both Q E h
  refine wpAny_call (codeAny_mono ran ?_)
  rintro (er | _ | _ | _ | u) s' z
  · exact hx pins σ H s er s' I z
  · exact False.elim z
  · exact False.elim z
  · exact False.elim z
  · exact I.after z
theorem pe_callG (F : FnG X.prog X.w X.K X.mg X.base CX k f fd ps sp) (hG : X.A.guards = some []) (hr : Room k X.A) (hg : Gl X x) (hm : X.mg x = some (.ref f)) (hk : PySem.W.keepIn X.K (.ref f) = true) (hb : Binds X.K fd ps ds) (hd : Vals dvs ds) (hx : Passes CX X E)
    (ha : PA X (e :: es) t) (hdb : (x == ("__debug__" : Str)) = false := by decide) (he : starEach (e :: es) X.env = (false, eval e X.env) :: starEach es X.env := by rfl) (hpl : (backTo pos (starEach es X.env)).any (·.1) = false := by rfl) :
    PE X (.Call (.Name x p) (e :: es) [] pos) (tCall sp dvs E t) := by
  constructor
  intro pins s σ H Q I h
  refine wpAny_Call_Name_kw (ld_glob I hg hm (PySem.W.callWith_K (h₀ := X.base) I.ok.mod.kin hk (thn (ha.run pos pins s σ H _ I h) ?_) he hpl) hdb)
  rintro us s1 ⟨vs, H1, I1, r, q⟩
  exact ⟨I1.kIn, runG F hG hr hb hd hx I1 r q⟩
end
/-! the law's own call -/
/-- what is tracked at the start: the script, unless the module itself has it -/
theorem script_heap {P : Program} {w : World} {K : Fg} {h : Heap} {a : Addr} {vs : List Value} {ns : List Int} (inK : K.In h) (there : h.get? a = some { cls := .type "list", data := .seq vs.toArray }) (nums : PyProof.Rows.IntsAre vs ns) (few : ns.length ≤ sizeLine) :
    ∃ H : Hp, Only H ∧ SqL K H a (ns.map V.int) ∧ HOk P w H h ∧ ∀ b, H b ≠ none → b = a ∧ K.lookup a = none := by
  have vals := vals_ints nums
  have same := nums.length
  cases found : K.lookup a with
  | some o =>
    have e := inK a o found
    rw [there] at e
    cases e
    exact ⟨fun _ => none, fun _ => .inl rfl, .inr ⟨_, vs.toArray, _, found, rfl, rfl, rfl, by rw [List.size_toArray, same]; exact few, by simpa using vals⟩, (fun b u z => by have z2 : (none : Option HO) = some u := z; cases z2), fun b z => absurd rfl z⟩
  | none =>
    refine ⟨fun b => if b = a then some (.frz { cls := .type "list", data := .seq vs.toArray } (.lst (ns.map V.int))) else none, fun b => ?_, .inl (.inr ⟨{ cls := .type "list", data := .seq vs.toArray }, if_pos rfl⟩), fun b u z => ?_, fun b z => ?_⟩
    · by_cases c : b = a
      · exact .inr ⟨_, _, if_pos c⟩
      · exact .inl (if_neg c)
    · by_cases c : b = a
      · subst c
        have z := (if_pos rfl).symm.trans z
        cases z
        exact ⟨there, by rw [List.length_map]; exact few, vs, _, vals, there⟩
      · have z := (if_neg c).symm.trans z
        cases z
    · by_cases c : b = a
      · exact ⟨c, rfl⟩
      · exact absurd (if_neg c) z
theorem law_callG {P : Program} {w : World} {K : Fg} {mg mb : Str → Option Value} {CX : CXT} {k : Nat} {fa a : Addr} {fd : FuncData} {x : Str} {sp : Sp} {s : Shared} {vs : List Value} {ns : List Int}
    (inK : K.In s.heap) (top : s.heap.Ns mainGlobals mg) (blt : s.heap.Ns builtinsNs mb) (boot : ∀ x : Str, x ≠ "__name__" → mb x = bootBuiltins x) (lim : s.heap.NoLimit) (gens : s.gens = #[])
    (there : s.heap.get? a = some { cls := .type "list", data := .seq vs.toArray }) (nums : PyProof.Rows.IntsAre vs ns) (few : ns.length ≤ sizeLine) (room : Room k callerA)
    (F : ∀ base : Heap, K.In base → base.Ns mainGlobals mg → FnG P w K mg base CX k fa fd [x] sp) (bind : ∀ (s : Shared) (u : Value), BindsTo s fd ⟨[u], []⟩ [(x, u)])
    (promise : ∀ H : Hp, Only H → SqL K H a (ns.map V.int) → sp [.ref a] H (fun v _ => v = .bl true) fun _ _ _ => False) (calm : ∀ H e s', CX [] H s (fun _ _ _ => False) e s' → False) :
    codeAny (model P w) callerA (.call (.ref fa) ⟨[.ref a], []⟩) (fun r s' => r = .ok (.ret (.bool true)) ∧ OldK s.heap s'.heap ∧ s'.os = s.os ∧ PyProof.Rows.AllBare s'.gens) s := by
  obtain ⟨H, only, seq, ok, own⟩ := script_heap (P := P) (w := w) inK there nums few
  have still : ∀ {b : Addr} {o : Obj}, s.heap.get? b = some o → H b = none → (hidT s.heap H).get? b = some o := fun e n => hidT_get e n
  have noDict : ∀ {b : Addr} {o : Obj} {es : Array DictEntry} {n : Nat}, s.heap.get? b = some o → o.data = .dict es n → H b = none := by
    intro b o es n e d
    refine Classical.byContradiction fun z => ?_
    obtain ⟨rfl, _⟩ := own b z
    rw [there] at e; cases e; cases d
  have names : ∀ {b : Addr} {m : Str → Option Value}, s.heap.Ns b m → (hidT s.heap H).Ns b m := by
    rintro b m ⟨o, es, n, e, d, r⟩
    exact ⟨o, es, n, still e (noDict e d), d, r⟩
  have inB : K.In (hidT s.heap H) := fun b o e => still (inK b o e) (Classical.byContradiction fun z => by
    obtain ⟨rfl, q⟩ := own b z
    rw [q] at e; cases e)
  have md : Mod K mg (hidT s.heap H) := ⟨inB, names top, ⟨mb, names blt, boot⟩, by obtain ⟨mc, h1, h2⟩ := lim; exact ⟨mc, names h1, h2⟩⟩
  have e0 : Env0 P w K mg (hidT s.heap H) callerA [] s H := ⟨rfl, md, fun b o e => of_hidT e, Nat.le_of_eq (hidT_size _ _), trivial, fun b hb => absurd (show b ∈ ([] : List Addr) from hb) (by simp), ok, PyProof.Rows.AllBare.of_eq gens⟩
  refine codeAny_mono ((F _ inB (names top)).run callerA rfl room [] s H e0 ⟨[.ref a], []⟩ [.ref a] [.ref a] (bind s (.ref a)) (.cons rfl .nil) _ _ (promise H only seq)) ?_
  rintro (er | _ | _ | _ | u) s' z
  · exact (calm H er s' z).elim
  · exact False.elim z
  · exact False.elim z
  · exact False.elim z
  · obtain ⟨v, H', os, bare, un, ok', r, q⟩ := z
    have q : v = .bl true := q
    subst q
    obtain rfl : u = Value.bool true := r
    refine ⟨rfl, OldK.of_keep fun b o e => ?_, os, bare⟩
    rcases only b with n | ⟨ob, xs, n⟩
    · exact un.keep b o e n (fun z => absurd (show b ∈ ([] : List Addr) from z) (by simp)) (by simp)
    · obtain ⟨e1, _⟩ := ok b _ n
      obtain ⟨e2, _⟩ := ok' b _ (un.frzs b ob _ n)
      rw [e] at e1; cases e1
      exact e2
section
variable {Pr : Program} {w : World} {K : Fg} {mg : Str → Option Value} {base : Heap}
/-- a def keeps its promise, no guard around it -/
theorem mk_okG {x qual : Str} {st : Stmt} {f : Addr} {fd : FuncData} {N ps : List Str} {k : Nat} {A : Pm} {ts : TS} (F : Fun K x qual st f fd) (S : FnScope N ps (defScope st)) (sem : Sem K N ps.length A ts)
    (der : ∀ (cdv : Value) (A' : Around) (outer : List PySem.Env) (s : Shared) (H : Hp) (E : XK), A'.guards = some [] → Room k (A'.deeper (PyProof.Rows.envOfC qual (defScope st) s.heap.objs.size f cdv)) → PSs (cxOf CX0 Pr w K mg base N qual (defScope st) f cdv A' outer s H E).nox (defBody st) ts) :
    FnG Pr w K mg base CX0 (k + 1) f fd ps (spG K A) := by
  refine fng F S ?_ ?_
  · rintro vs H Q E ⟨M, ss, R, m, r, a, q⟩
    exact (Rls.len r).trans (sem M ss H R m a).1
  · rintro cdv A' outer s H vs Q E hG hr ⟨M, ss, R, m, r, a, q⟩
    obtain ⟨h1, h2, rn⟩ := sem M ss H R m a
    have hl := Rls.len r
    refine ⟨ts, (der cdv A' outer s H E hG hr).nox, ?_⟩
    refine rn m (fun _ h => h) (L2.start N vs) (Env.start hl (Rls.gets r) (by omega)) _ ⟨fun σ' H' ρ' M' st sb en p => ?_, fun v H' s M' st sb rl p => ?_, fun _ _ _ _ _ _ _ p => p.elim, fun _ _ _ _ _ _ _ p => p.elim⟩
    · exact q .non H' (.d .none) st.go Dq.non p
    · exact q v H' s st.go (rl.mono sb) p
end
/-- the law's walk -/
theorem walk_ofG {l : PySem.W.OpenLaw} {n k : Nat} {q : Program} {loose : List Str} {XP : (Str → Option Value) → Heap → Prop} {YP : World → Heap → Prop} {d : DefRec} {K : Params → Fg} {CX : World → CXT} {sp : World → Sp} {x : Str}
    (hn : l.most = some n) (hn2 : n ≤ sizeLine) (hdf : d.params.defaults = []) (hr : Room k callerA) (hY : ∀ (w : World) (h : Heap), YP w h → (K w.params).In h)
    (F : ∀ (w : World) (mg : Str → Option Value) (fa : Addr) (h : Heap), (K w.params).In h → h.Ns mainGlobals mg → mg d.name = some (.ref fa) →
      ∃ fd : FuncData, (∀ (s : Shared) (u : Value), BindsTo s fd ⟨[u], []⟩ [(x, u)]) ∧ ∀ base : Heap, (K w.params).In base → base.Ns mainGlobals mg → FnG l.prog w (K w.params) mg base (CX w) k fa fd [x] (sp w))
    (hsp : ∀ (w : World) (H : Hp) (a : Addr) (ns : List Int), ns.length ≤ n → Only H → SqL (K w.params) H a (ns.map V.int) → sp w [.ref a] H (fun v _ => v = .bl true) fun _ _ _ => False)
    (hCX : ∀ (w : World) (H : Hp) (s : Shared) (e : Value) (s' : Shared), CX w [] H s (fun _ _ _ => False) e s' → False) :
    PySem.W.WalkO q loose XP YP l.row.toRowW d [] (fun f vs => PySem.call f vs) := by
  refine Att.attach_call hn hdf ?_
  intro w s₀ s₁ mg mb fa o pm cd doc a vs ns G Y ho hd hcd hmg hobj nums few gens
  have inK := hY w _ Y
  obtain ⟨fd, bind, made⟩ := F w mg fa _ inK G.T.g hmg
  exact law_callG inK G.T.g G.T.b G.T.builtins G.T.nolimit gens hobj nums (Nat.le_trans few hn2) hr made bind (fun H only seq => hsp w H a ns few only seq) fun H e s' => hCX w H s₁ e s'
/-! repr of data -/
def ReprD : List PyData → PyData → Prop
  | [d], z => d.showable = true ∧ d.hasDict = false ∧ d.depth ≤ 60 ∧ d.shown.length ≤ sizeLine ∧ z = .str d.shown
  | _, _ => False
theorem call_reprD {X : Cx} (hG : X.A.guards = some []) (hu : X.A.units + 64 < cLine) : CallR X (.builtin "repr") (rC X.K ReprD) := by
  intro pins s σ H xs us Q I rx h
  obtain ⟨M, ds, z, hM, hd, g, q⟩ := h
  match ds, g with
  | [d], g =>
    obtain ⟨show1, noD, deep, room, rfl⟩ := g
    obtain ⟨x, rfl, h1⟩ := Das.one hd
    obtain ⟨u, rfl, r1⟩ := rx.one
    have done : ∀ (h' : Heap) (k : Nat), (∀ b o, s.heap.get? b = some o → h'.get? b = some o) → ∀ v, RelV (.str d.shown) v → EP X pins σ Q v { s with heap := h', toks := k } := fun h' k keep v rv => ⟨_, H, I.kept (t' := k) keep, rv, q _ H (Ex.refl H) (.str _)⟩
    have flat : ∀ (k : Nat) v, RelV (.str d.shown) v → EP X pins σ Q v { s with toks := k } := fun k v rv => done s.heap k (fun _ _ e => e) v rv
    have deepR : ∀ a, u = .ref a → wpAny (model X.prog X.w) X.A (call (.builtin "repr") [u]) (EP X pins σ Q) X.xe s := fun a e => by
      subst e
      obtain ⟨as, rd⟩ := Dp.reads I d x _ (Da.dp h1) r1
      exact PySem.repr_of_reads' rd show1 (PyData.noDict_hsm noD) hG (by omega) (fun _ _ e => e) (fun h' t k keep => done h' k keep _ ⟨_, rfl⟩) room
    cases d with
    | none =>
      cases h1
      obtain rfl : u = .none := r1
      exact PySem.P.repr_of_none (flat _ _ ⟨_, rfl⟩)
    | bool b =>
      cases h1
      obtain rfl : u = .bool b := r1
      exact PySem.P.repr_of_bool (flat _ _ ⟨_, by cases b <;> rfl⟩)
    | int i =>
      cases h1
      obtain ⟨t, rfl⟩ := r1
      exact PySem.P.repr_of_int (of_decide_eq_true show1) (flat _ _ ⟨_, rfl⟩)
    | str y =>
      cases h1
      obtain ⟨t, rfl⟩ := r1
      exact PySem.P.repr_of_str (flat _ _ ⟨_, rfl⟩) room
    | list ys =>
      obtain ⟨a, vs, rfl, _, _⟩ := Da.list_inv h1
      exact deepR a r1
    | tuple ys =>
      obtain ⟨a, vs, rfl, _, _⟩ := Da.tup_inv h1
      exact deepR a r1
    | dict kvs => cases h1
end DL
set_option maxRecDepth 100000
namespace DL
open PySem L2
theorem ok_all {w : Str} (h : PyData.strOk w = true) : ∀ c ∈ tl w, c < 1114112 := by
  unfold PyData.strOk at h
  rw [← Array.all_toList] at h
  exact fun c hc => of_decide_eq_true (List.all_eq_true.mp h c hc)
def GS (n : Nat) (x : Str) : Prop := PyData.strOk x = true ∧ x.length ≤ n
theorem ok_of {x : Str} (h : ∀ c ∈ tl x, c < 1114112) : PyData.strOk x = true := by
  have := ok_mk h
  rwa [mkS_tl] at this
theorem GS.app {n m : Nat} {x y : Str} (a : GS n x) (b : GS m y) : GS (n + m) (x ++ y) := ⟨ok_of fun c hc => by
  rw [tl_app] at hc
  rcases List.mem_append.mp hc with h | h
  · exact ok_all a.1 c h
  · exact ok_all b.1 c h, by rw [len_app]; have := a.2; have := b.2; omega⟩
theorem GS.cut {n : Nat} {x : Str} (a : GS n x) (lo hi : Option Int) : GS n (cutS x lo hi) := ⟨ok_of fun c hc => ok_all a.1 c (List.mem_of_mem_drop (List.mem_of_mem_take hc)), Nat.le_trans (cutS_length _ _ _) a.2⟩
theorem GS.rev {n : Nat} {x : Str} (a : GS n x) : GS n (revT x) := ⟨ok_of (revT_all (ok_all a.1)), Nat.le_trans (revT_len x) a.2⟩
theorem GS.mono {n m : Nat} {x : Str} (a : GS n x) (h : n ≤ m) : GS m x := ⟨a.1, Nat.le_trans a.2 h⟩
theorem cut60 (x : Str) : (cutS x none (some 60)).length ≤ 60 := by
  unfold cutS
  show (List.toArray _).size ≤ 60
  rw [List.size_toArray, List.length_take, show (60 : Int) = ((60 : Nat) : Int) from rfl, HT.sIx_nat]
  omega
section
variable {K : Fg} {ρ : Ro} {M : Ms} {H : Hp} {te ta tb : TE} {P : Po} {B0 : List Addr}
/-- a text of so many signs -/
def EvG (K : Fg) (te : TE) (ρ : Ro) (M : Ms) (H : Hp) (n : Nat) : Prop := ∃ x, GS n x ∧ EvD K te ρ M H (.str x)
theorem eg_app {n m : Nat} (a : EvG K ta ρ M H n) (b : EvG K tb ρ M H m) (h : n + m ≤ 10000 := by decide) : EvG K (tOp (rB K AddD) ta tb) ρ M H (n + m) := by
  obtain ⟨x, gx, ex⟩ := a
  obtain ⟨y, gy, ey⟩ := b
  exact ⟨_, gx.app gy, ev_bin ex ey ⟨by rw [sizeLine_eq]; have := gx.2; have := gy.2; omega, rfl⟩⟩
theorem eg_cut {n : Nat} {tl' th : TO} {lo hi : Option Int} (a : EvG K ta ρ M H n) (h1 : EvO K tl' ρ M H lo) (h2 : EvO K th ρ M H hi) (h : n ≤ 10000 := by decide) : EvG K (tSl (rSl K SlD) ta tl' th) ρ M H n := by
  obtain ⟨x, gx, ex⟩ := a
  exact ⟨_, gx.cut lo hi, ev_sl ex h1 h2 ⟨by rw [sizeLine_eq]; have := gx.2; omega, rfl⟩⟩
theorem eg_rev {n : Nat} (a : EvG K ta ρ M H n) (h : n ≤ 10000 := by decide) : EvG K (tRevS ta) ρ M H n := by
  obtain ⟨x, gx, ex⟩ := a
  exact ⟨_, gx.rev, ev_revS ex (by rw [sizeLine_eq]; have := gx.2; omega)⟩
theorem r_par3E {i j l : Nat} {tl : TA} (h : EvEA K tl ρ M H fun ss H1 => ∃ s t u, ss = [s, t, u] ∧ P.N (((ρ.set i (some s)).set j (some t)).set l (some u)) M H1) : Rn K B0 (tPar3 i j l tl) ρ M H P := fun m sb σ en D dn =>
  h m σ en _ fun vs H2 ss g r ⟨s, t, u, es, p⟩ => by
    subst es
    match vs, r with
    | [v, w, y], r => exact ⟨v, w, y, rfl, dn.nx _ H2 _ M (.of m g) sb ((((en.go g).set r.1).set r.2.1).set r.2.2.1) p⟩
end
theorem ee_bm {K : Fg} {ρ : Ro} {M : Ms} {H : Hp} {te : TE} {tl : TA} {P : Sl → Hp → Prop} {g : PyData → List PyData → PyData → Prop} (h : EvE K te ρ M H fun s H1 => ∃ y, s = .d (.str y) ∧ EvEA K tl ρ M H1 fun ss H2 => ∃ ds z, ss = ds.map Sl.d ∧ g (.str y) ds z ∧ ∀ H3, Ex H2 H3 → P (.d z) H3) : EvE K (tBM K "str" (rM K g) te tl) ρ M H P := fun m σ en Q q =>
  h m σ en _ fun v H1 s g1 r1 ⟨y, es, h2⟩ => by
    subst es
    have e := Da.str_inv r1; subst e
    refine ⟨rfl, h2 (m.go g1) σ (en.go g1) _ fun vs H2 ss g2 r2 ⟨ds, z, ess, hg, k⟩ => ?_⟩
    subst ess
    exact ⟨M, .str y, ds, z, (m.go g1).go g2, .str y, Rls.das r2, hg, fun v' H3 x3 r3 => q v' H3 (.d z) ((g1.trans g2).trans x3.go) r3 (k H3 x3)⟩
end DL
set_option maxRecDepth 100000
set_option maxHeartbeats 60000
namespace DL
open PySem L2
local macro_rules | `(tactic| walk_at "dl_g") => `(tactic| with_reducible first
  | exact g_add | exact g_sub | exact g_lt | exact g_le | exact g_gt | exact g_ge | exact g_eq | exact g_ne | exact g_eqB | exact g_eqL | exact g_neL | exact g_eqLB | exact g_neB | exact g_neg | exact g_isB | exact g_notB | exact g_len | exact g_lenT | exact g_sum | exact g_all | exact g_any
  | exact g_min | exact g_max | exact g_abs | exact g_int | exact g_intB | exact g_list | exact g_listT | exact g_tuple | exact g_tupleT | exact g_sorted | exact g_ltS | exact g_leS
  | apply g_mul | apply g_mulL | apply g_div | apply g_mod | apply g_pow | apply g_divmod | apply g_str | apply g_addS | apply g_addL | apply g_addT | apply g_lenS)
local macro_rules | `(tactic| walk_at "dl_e1") => `(tactic| first
  | with_reducible first | exact ev_int | exact ev_str | exact ev_bl | exact ev_non | exact ev_ty | exact ead_nil | exact ea_nil | exact eo_none | exact eb_yes
    | apply ead_cons | apply ea_cons | apply ev_bin | apply ev_cb | apply ev_un | apply ev_isN | apply ev_notN | apply ev_lst | apply ev_tup | apply ev_isi | apply ev_sl | apply eo_some
    | apply eb_test | apply eb_B | apply eb_not | apply eb_orU | apply eb_andU | apply ev_andU | apply ev_orU | apply ev_notV | apply ev_revL | apply ev_chainU
  | ((with_reducible apply ev_var); rfl)
  | ((with_reducible first | apply g_ixL | apply g_ixT); first | exact rfl | skip)
  | ((with_reducible show Nat.ble _ _ = true); rfl)
  | ((with_reducible show _ ∈ goodT); decide)
  | walk_at "dl_g")
local macro_rules | `(tactic| walk_at "dl_ev") => `(tactic| repeat' (walk_at "dl_e1"))
local macro_rules | `(tactic| walk_at "dl_s") => `(tactic| first | omega | (refine ⟨?_, ?_⟩ <;> omega) | decide)
theorem atI_map {α β : Type} {f : α → β} {xs : List α} {i : Int} {z : α} (h : atI xs i = some z) : atI (xs.map f) i = some (f z) := by
  unfold atI at h ⊢
  rw [List.length_map]
  cases e : ixN xs.length i with
  | none => rw [e] at h; cases h
  | some j =>
    rw [e] at h
    have h : xs[j]? = some z := h
    show (xs.map f)[j]? = some (f z)
    rw [List.getElem?_map, h]; rfl
def t__law_take (K : Fg) : TS := (tSeq (tIfS (tTest (tOp (rB K GtD) (tOp (rB K IxD) (tVar 0) (tC (.int 0))) (tC (.int 0)))) (tSeq (tAsg (tOp (rB K ModD) (tOp (rB K IxD) (tVar 0) (tC (.int 0))) (tVar 1)) (gName 2))
    (tSeq (tAsg (tOp (rB K DivD) (tOp (rB K IxD) (tVar 0) (tC (.int 0))) (tVar 1)) (gSub (tVar 0) (tC (.int 0)) rSetL))
    (tRet (tVar 2)))) tNext)
    (tSeq (tAsg (tOp (rB K AddD) (tOp (rB K IxD) (tVar 0) (tC (.int 2))) (tC (.int 1))) (gSub (tVar 0) (tC (.int 2)) rSetL))
    (tSeq (tAsg (tOp (rB K ModD) (tOp (rB K PowD) (tOp (rB K AddD) (tOp (rB K IxD) (tVar 0) (tC (.int 1))) (tOp (rB K MulD) (tC (.int 39373)) (tOp (rB K IxD) (tVar 0) (tC (.int 2))))) (tC (.int 5))) (tC (.int 2147483647))) (gName 3))
    (tRet (tOp (rB K ModD) (tOp (rB K DivD) (tOp (rB K ModD) (tOp (rB K AddD) (tOp (rB K MulD) (tVar 3) (tOp (rB K AddD) (tOp (rB K ModD) (tVar 3) (tC (.int 40009))) (tC (.int 7)))) (tOp (rB K MulD) (tOp (rB K IxD) (tVar 0) (tC (.int 2))) (tC (.int 7919)))) (tC (.int 2147483629))) (tC (.int 64))) (tVar 1))))))
def N__law_take : List Str := ["_law_box_here", "_law_many", "_law_found", "_law_once"]
theorem sem__law_take (K : Fg) : Sem K N__law_take 2 pm__law_take (t__law_take K) := by
  rintro M ss H R m ⟨p, q, n, rfl, hw, ⟨a, b, c, hb, ha, hb0, hb1, hc0, hc1⟩, hn, hq0, hq1, k⟩
  refine ⟨rfl, by decide, ?_⟩
  show Rn K M.h (t__law_take K) [some (.v (.ref p)), some (.d (.int q)), none, none] M H _
  have l : LAt K M H p [.int a, .int b, .int c] := Bx.at hb hw
  refine r_seq (r_if (b := decide (0 < a)) ?_ (fun e H1 x1 => ?_) (fun e H1 x1 => ?_))
  · refine eb_rdL (i := 0) rfl l ?_
    walk_at "dl_ev"
  · have l1 := l.x x1
    refine r_seq (r_asg (s := .d (.int (a % q))) (ev_rdL (i := 0) rfl l1 ?_ rfl) fun H2 x2 => ?_)
    · walk_at "dl_ev"
      exact hq0
    have l2 := l1.x x2
    have e' : 0 < a := of_decide_eq_true e
    dsimp only [List.set]
    refine r_seq (r_setitem (i := 0) (k := 0) rfl (ee_p (s := .d (.int (a / q))) (ev_rdL (i := 0) rfl l2 ?_ rfl) fun H3 x3 => ⟨_, rfl, _, 0, ev_int, rfl, l2.x x3, fun H4 g4 l4 _ => ?_⟩))
    · walk_at "dl_ev"
      exact ⟨hq0, hq1⟩
    refine r_ret (ev_var rfl) fun H5 x5 => k _ _ (Int.emod_nonneg _ (by omega)) (Int.emod_lt_of_pos _ hq0) ?_ ?_
    · exact (x1.trans (x2.trans x3)).go.trans (g4.trans x5.go)
    · exact (Bx.of (n := n + 1) l4 (Int.ediv_nonneg ha (by omega)) hb0 hb1 hc0 (by omega)).x x5
  · refine r_next ?_
    have l1 := l.x x1
    refine r_seq (r_setitem (i := 0) (k := 2) rfl (ee_p (s := .d (.int (c + 1))) (ev_rdL (i := 0) rfl l1 ?_ rfl) fun H3 x3 => ⟨_, rfl, _, 2, ev_int, rfl, l1.x x3, fun H4 g4 l4 _ => ?_⟩))
    · walk_at "dl_ev"
    dsimp only [List.set] at l4
    have g14 : Go M H H4 := (x1.trans x3).go.trans g4
    have n1 : 0 ≤ (b + 39373 * (c + 1)) ^ (5 : Int).toNat % 2147483647 := Int.emod_nonneg _ (by decide)
    have n2 : (b + 39373 * (c + 1)) ^ (5 : Int).toNat % 2147483647 < 2147483647 := Int.emod_lt_of_pos _ (by decide)
    refine r_seq (r_asg (s := .d (.int ((b + 39373 * (c + 1)) ^ (5 : Int).toNat % 2147483647))) (ev_rdL (i := 0) rfl l4 ?_ rfl) fun H5 x5 => ?_)
    · walk_at "dl_ev"
      · exact .inl (by omega)
      · exact ⟨by decide, by decide, by omega⟩
      · decide
    dsimp only [List.set]
    generalize (b + 39373 * (c + 1)) ^ (5 : Int).toNat % 2147483647 = o at *
    have l5 := l4.x x5
    have o1 : 0 ≤ o % 40009 := Int.emod_nonneg _ (by decide)
    have o2 : o % 40009 < 40009 := Int.emod_lt_of_pos _ (by decide)
    refine r_ret (s := .d (.int ((o * (o % 40009 + 7) + (c + 1) * 7919) % 2147483629 / 64 % q))) (ev_rdL (i := 0) rfl l5 ?_ rfl) fun H6 x6 => k _ _ (Int.emod_nonneg _ (by omega)) (Int.emod_lt_of_pos _ hq0) ?_ ?_
    · walk_at "dl_ev"
      · decide
      · exact .inl (by omega)
      · exact .inr (by decide)
      · decide
      · exact ⟨by decide, by decide⟩
      · exact hq0
    · exact g14.trans (x5.trans x6).go
    · exact (Bx.of (n := n + 1) l5 ha hb0 hb1 (by omega) (by omega)).x x6
def t__law_box (K : Fg) : TS := (tSeq (tAsg (tC (.int 0)) (gName 2))
    (tSeq (tIfS (tTest (tOp (rB K LtD) (tVar 1) (tCB (rC K LenD) (tCons (tVar 0) tNil)))) (tAsg (tOp (rB K IxD) (tVar 0) (tVar 1)) (gName 2)) tNext)
    (tRet (tLst (tCons (tOp (rB K MulD) (tCB (rC K AbsD) (tCons (tVar 2) tNil)) (tCB (rC K IntD) (tCons (tOp (rB K GeD) (tCB (rC K AbsD) (tCons (tVar 2) tNil)) (tOp (rB K PowD) (tC (.int 10)) (tC (.int 18)))) tNil))) (tCons (tOp (rB K AddD) (tOp (rB K AddD) (tOp (rB K ModD) (tVar 2) (tC (.int 2147483629))) (tOp (rB K MulD) (tC (.int 7919)) (tVar 1))) (tC (.int 11))) (tCons (tC (.int 0)) tNil)))))))
def N__law_box : List Str := ["_law_script", "_law_k", "_law_cell"]

theorem sem__law_box (K : Fg) : Sem K N__law_box 2 pm__law_box (t__law_box K) := by
  rintro M ss H R m ⟨ns, q, rfl, hl, h0, h1, k⟩
  refine ⟨rfl, by decide, ?_⟩
  show Rn K M.h (t__law_box K) [some (.d (.list (ns.map .int))), some (.d (.int q)), none] M H _
  have rest : ∀ c H', Ex H H' → Rn K M.h (tRet (tLst (tCons (tOp (rB K MulD) (tCB (rC K AbsD) (tCons (tVar 2) tNil)) (tCB (rC K IntD) (tCons (tOp (rB K GeD) (tCB (rC K AbsD) (tCons (tVar 2) tNil)) (tOp (rB K PowD) (tC (.int 10)) (tC (.int 18)))) tNil))) (tCons (tOp (rB K AddD) (tOp (rB K AddD) (tOp (rB K ModD) (tVar 2) (tC (.int 2147483629))) (tOp (rB K MulD) (tC (.int 7919)) (tVar 1))) (tC (.int 11))) (tCons (tC (.int 0)) tNil)))))
      [some (.d (.list (ns.map .int))), some (.d (.int q)), some (.d (.int c))] M H' { N := fun _ _ H' => R (.d .none) H', R := R } := by
    intro c H' x
    refine r_retL (ds := ([(if c < 0 then -c else c) * (if decide ((10 : Int) ^ (18 : Int).toNat ≤ (if c < 0 then -c else c)) then 1 else 0), c % 2147483629 + 7919 * q + 11, 0] : List Int).map .int) ?_ (by simp) fun p H1 vs hp x1 hv dv => k p H1 (fresh_back x hp) (x.trans x1) ?_
    · show EvAD K _ _ M H' [_, _, _]
      walk_at "dl_ev"
      · exact ⟨by decide, by decide, by decide⟩
      · exact .inr (by split <;> (try split) <;> decide)
      · decide
      · exact .inl (by decide)
    · have e := Das.ints dv
      subst e
      refine ⟨_, _, _, hv, ?_, ?_, ?_, by decide, by decide⟩
      · refine Int.mul_nonneg (by split <;> omega) (by split <;> (try split) <;> decide)
      · have := Int.emod_nonneg c (show (2147483629 : Int) ≠ 0 by decide); omega
      · have := Int.emod_lt_of_pos c (show (0 : Int) < 2147483629 by decide); omega
  refine r_seq (r_asg ev_int fun H1 x1 => ?_)
  dsimp only [List.set]
  refine r_seq (r_if (b := decide (q < ((ns.map PyData.int).length : Int))) (by walk_at "dl_ev") (fun e H2 x2 => ?_) (fun e H2 x2 => ?_))
  · obtain ⟨c, hc, _⟩ := atI_ints (ns := ns) h0 (by have := of_decide_eq_true e; rw [List.length_map] at this; exact this)
    refine r_asg (s := .d (.int c)) (by walk_at "dl_ev"; exact hc) fun H3 x3 => ?_
    exact rest c H3 (x1.trans (x2.trans x3))
  · exact r_next (rest 0 H2 (x1.trans x2))
def t_is_name (K : Fg) : TS := (tSeq (tIfS (tOr (tNot (tB (tCB (rIsD K) (tCons (tVar 0) (tCons (tC (.ty "str")) tNil))))) (tNot (tTest (tChain (rB K LeD) (rB K LeD) (tC (.int 1)) (tCB (rC K LenD) (tCons (tVar 0) tNil)) (tC (.int 8)))))) (tRet (tC (.bl false))) tNext)
    (tRet (tCB (rC K AllD) (tCons (tLc (iSeq K (tVar 0)) (gName 1) tYes (tOp (rB K InD) (tVar 1) (tC (.str "abcdefghijklmnopqrstuvwxyz"))) [1]) tNil))))
def N_is_name : List Str := ["thing", "sign"]
def LT : List Nat := [97, 98, 99, 100, 101, 102, 103, 104, 105, 106, 107, 108, 109, 110, 111, 112, 113, 114, 115, 116, 117, 118, 119, 120, 121, 122]
def isNm : PyData → Bool
  | .str x => (decide (1 ≤ x.length) && decide (x.length ≤ 8)) && (tl x).all fun c => decide (c ∈ LT)
  | _ => false
def shortD (d : PyData) : Prop := ∀ x, d = .str x → x.length ≤ 1000
def enc1 (c : Nat) : PyData := .str ⟨#[c]⟩
def pm_is_name : Pm := pmD (fun ds => ∃ d, ds = [d] ∧ shortD d) (fun ds => match ds with | [d] => .bool (isNm d) | _ => .none)
theorem no_str {d : PyData} (h : isD "str" d = false) : isNm d = false := by
  cases d <;> first | rfl | cases h
theorem is_str {d : PyData} (h : isD "str" d = true) : ∃ x, d = .str x := by
  cases d <;> first | exact ⟨_, rfl⟩ | cases h
theorem sem_is_name (K : Fg) : Sem K N_is_name 1 pm_is_name (t_is_name K) := by
  rintro M ss H R m ⟨ds, rfl, ⟨d, rfl, sh⟩, k⟩
  refine ⟨rfl, by decide, ?_⟩
  have k : ∀ H', Ex H H' → R (.d (.bool (isNm d))) H' := k
  show Rn K M.h (t_is_name K) [some (.d d), none] M H _
  cases hs : isD "str" d with
  | false =>
    refine r_seq (r_ifT (b := true) (eb_or (a := true) (b := false) (EvB.is (eb_not (eb_B (ev_isi (ev_var rfl) (by decide)))) (by rw [hs]; rfl)) fun e => by cases e) rfl fun H1 x1 => ?_)
    refine r_ret (s := .d (.bool false)) ev_bl fun H2 x2 => ?_
    have := k H2 (x1.trans x2)
    rwa [no_str hs] at this
  | true =>
    obtain ⟨x, rfl⟩ := is_str hs
    have lx := sh x rfl
    have hl : x.length = (tl x).length := TL.len_tl x
    refine r_seq (r_if (b := (!true) || !(decide ((1 : Int) ≤ (x.length : Int)) && decide ((x.length : Int) ≤ 8))) (eb_orU (eb_not (eb_B (EvD.is (ev_isi (ev_var rfl) (by decide)) rfl))) (eb_not (eb_test (ev_chainU ev_int (ev_cb (ead_cons (ev_var rfl) ead_nil) (g_lenS (by rw [sizeLine_eq]; omega))) ev_int g_le g_le)))) (fun e H1 x1 => ?_) (fun e H1 x1 => r_next ?_))
    · refine r_ret (s := .d (.bool false)) ev_bl fun H2 x2 => ?_
      have := k H2 (x1.trans x2)
      have f : isNm (.str x) = false := by
        unfold isNm
        simp only [Bool.not_true, Bool.false_or, Bool.not_eq_true', Bool.and_eq_false_iff, decide_eq_false_iff_not] at e
        rw [Bool.and_eq_false_iff, Bool.and_eq_false_iff, decide_eq_false_iff_not, decide_eq_false_iff_not]
        left; rcases e with e | e
        · left; omega
        · right; omega
      rwa [f] at this
    · simp only [Bool.not_true, Bool.false_or, Bool.not_eq_false', Bool.and_eq_true, decide_eq_true_eq] at e
      refine r_ret (s := .d (.bool (isNm (.str x)))) (EvD.is (ev_cb (ead_cons (ev_lcB (enc := enc1) (fun c => decide (c ∈ LT)) (ei_text (ev_var rfl)) (by show (tl x).length ≤ _; omega) fun i c hc => ⟨_, tc_name, fun N H' s xx => ?_⟩) ead_nil) g_all) ?_) fun H2 x2 => k _ (x1.trans x2)
      · exact ev_bin (ev_var rfl) ev_str ⟨c, rfl, rfl⟩
      · show PyData.bool _ = PyData.bool ((decide _ && decide _) && List.all (tl x) _)
        rw [decide_eq_true (show 1 ≤ x.length by omega), decide_eq_true (show x.length ≤ 8 by omega), List.all_map]; rfl
theorem ev_is_name {K : Fg} {ρ : Ro} {M : Ms} {H : Hp} {ta : TE} {d : PyData} {E : XK} (ha : EvD K ta ρ M H d) (h : shortD d) : EvD K (tCall (spG K pm_is_name) [] E (tCons ta tNil)) ρ M H (.bool (isNm d)) :=
  ev_call (ead_cons ha ead_nil) ⟨d, rfl, h⟩
def t__law_is (K : Fg) : TS := (tSeq (tIfS (tNot (tB (tCB (rIsD K) (tCons (tVar 0) (tCons (tC (.ty "str")) tNil))))) (tRet (tC (.bl false))) tNext)
    (tSeq (tAsg (tCB (rC K SumD) (tCons (tLc (iSeq K (tC (.str "abcdefghijklmnopqrstuvwxyz"))) (gName 1) tYes (tBM K "str" (rM K CountD) (tVar 0) (tCons (tVar 1) tNil)) [1]) tNil)) (gName 2))
    (tRet (tAndV (tChain (rB K LtD) (rB K LtD) (tC (.int 0)) (tVar 2) (tC (.int 9))) (tOp (rB K EqD) (tVar 2) (tCB (rC K LenD) (tCons (tVar 0) tNil)))))))
def N__law_is : List Str := ["_law_thing", "_law_letter", "_law_many"]
theorem sum_two {α : Type} (f g : α → Int) : ∀ L : List α, (L.map fun c => f c + g c).sum = (L.map f).sum + (L.map g).sum
  | [] => rfl
  | c :: L => by rw [List.map_cons, List.map_cons, List.map_cons, List.sum_cons, List.sum_cons, List.sum_cons, sum_two f g L]; omega
theorem one_in (a : Nat) : ∀ L : List Nat, L.Nodup → (L.map fun c => (if a = c then (1 : Int) else 0)).sum = if a ∈ L then 1 else 0
  | [], _ => by simp
  | c :: L, h => by
    have hn := List.nodup_cons.mp h
    rw [List.map_cons, List.sum_cons, one_in a L hn.2]
    by_cases e : a = c
    · subst e
      rw [if_pos rfl, if_neg hn.1, if_pos List.mem_cons_self]; rfl
    · rw [if_neg e]
      by_cases q : a ∈ L
      · rw [if_pos q, if_pos (List.mem_cons_of_mem _ q)]; try rfl
      · rw [if_neg q, if_neg (fun z => by rcases List.mem_cons.mp z with z | z; exact e z; exact q z)]; rfl
theorem tally : ∀ l : List Nat, (LT.map fun c => PyProof.Rows.cnt c l).sum = ((l.countP (fun c => decide (c ∈ LT)) : Nat) : Int)
  | [] => by
    rw [List.countP_nil]
    have : (LT.map fun c => PyProof.Rows.cnt c []) = LT.map fun _ => (0 : Int) := rfl
    rw [this]; decide
  | a :: l => by
    have e : (LT.map fun c => PyProof.Rows.cnt c (a :: l)) = LT.map fun c => (if a = c then (1 : Int) else 0) + PyProof.Rows.cnt c l := List.map_congr_left fun c _ => PyProof.Rows.cnt_cons c a l
    rw [e, sum_two, tally l, one_in a LT (by decide), List.countP_cons]
    by_cases q : a ∈ LT
    · rw [if_pos q, decide_eq_true q, if_pos rfl]; omega
    · rw [if_neg q, decide_eq_false q, if_neg Bool.false_ne_true]; omega
theorem all_tally (l : List Nat) : (l.all fun c => decide (c ∈ LT)) = decide (l.countP (fun c => decide (c ∈ LT)) = l.length) := by
  rw [Bool.eq_iff_iff, decide_eq_true_eq, List.countP_eq_length, List.all_eq_true]
def pm__law_is : Pm := pmD (fun ds => ∃ d, ds = [d] ∧ shortD d) (fun ds => match ds with | [d] => .bool (isNm d) | _ => .none)
theorem sem__law_is (K : Fg) : Sem K N__law_is 1 pm__law_is (t__law_is K) := by
  rintro M ss H R m ⟨ds, rfl, ⟨d, rfl, sh⟩, k⟩
  refine ⟨rfl, by decide, ?_⟩
  have k : ∀ H', Ex H H' → R (.d (.bool (isNm d))) H' := k
  show Rn K M.h (t__law_is K) [some (.d d), none, none] M H _
  cases hs : isD "str" d with
  | false =>
    refine r_seq (r_ifT (b := true) (EvB.is (eb_not (eb_B (ev_isi (ev_var rfl) (by decide)))) (by rw [hs]; rfl)) rfl fun H1 x1 => ?_)
    refine r_ret (s := .d (.bool false)) ev_bl fun H2 x2 => ?_
    have := k H2 (x1.trans x2)
    rwa [no_str hs] at this
  | true =>
    obtain ⟨x, rfl⟩ := is_str hs
    have lx := sh x rfl
    have hl : x.length = (tl x).length := TL.len_tl x
    refine r_seq (r_ifF (b := !true) (eb_not (eb_B (EvD.is (ev_isi (ev_var rfl) (by decide)) rfl))) rfl fun H1 x1 => r_next ?_)
    refine r_seq (r_asg (s := .d (.int (((tl x).countP (fun c => decide (c ∈ LT)) : Nat) : Int))) (EvD.is (ev_cb (ead_cons (ev_lcI (xs := LT) (enc := enc1) (fun c => PyProof.Rows.cnt c (tl x)) (ei_text ev_str) (by decide) fun i c hc => ⟨_, tc_name, fun N H' s xx => ?_⟩) ead_nil) g_sum) (by rw [tally])) fun H2 x2 => ?_)
    · exact ev_bm (ev_var rfl) (ead_cons (d := .str ⟨#[c]⟩) (ev_var rfl) ead_nil) (by
        show PyData.int _ = PyData.int _
        rw [← PyProof.Rows.count_cnt])
    dsimp only [List.set]
    refine r_ret (EvD.is (ev_andU (ev_chainU ev_int (ev_var rfl) ev_int g_lt g_lt) (ev_bin (ev_var rfl) (ev_cb (ead_cons (ev_var rfl) ead_nil) (g_lenS (by rw [sizeLine_eq]; omega))) g_eq)) ?_) fun H3 x3 => k _ (x1.trans (x2.trans x3))
    show PyData.bool _ = PyData.bool ((decide _ && decide _) && List.all (tl x) _)
    rw [all_tally, ← hl]
    generalize (tl x).countP _ = n
    refine congrArg PyData.bool ?_
    rw [Bool.eq_iff_iff]
    simp only [Bool.and_eq_true, decide_eq_true_eq]
    omega
theorem ev__law_is {K : Fg} {ρ : Ro} {M : Ms} {H : Hp} {ta : TE} {d : PyData} {E : XK} (ha : EvD K ta ρ M H d) (h : shortD d) : EvD K (tCall (spG K pm__law_is) [] E (tCons ta tNil)) ρ M H (.bool (isNm d)) :=
  ev_call (ead_cons ha ead_nil) ⟨d, rfl, h⟩
def t__law_right (K : Fg) : TS := (tSeq (tAsg (tCB (rC K ReprD) (tCons (tVar 0) tNil)) (gName 1))
    (tSeq (tAsg (tLst (tCons (tCall (spG K pm_is_name) [] E0 (tCons (tVar 0) tNil)) (tCons (tCall (spG K pm_is_name) [] E0 (tCons (tVar 0) tNil)) tNil))) (gName 2))
    (tRet (tAndV (tOp (rB K EqD) (tVar 2) (tOp (rB K MulD) (tLst (tCons (tCall (spG K pm__law_is) [] E0 (tCons (tVar 0) tNil)) tNil)) (tC (.int 2)))) (tAndV (tCB (rC K AllD) (tCons (tLc (iSeq K (tVar 2)) (gName 3) tYes (tCB (rIsD K) (tCons (tVar 3) (tCons (tC (.ty "bool")) tNil))) [3]) tNil)) (tOp (rB K EqD) (tCB (rC K ReprD) (tCons (tVar 0) tNil)) (tVar 1)))))))
def N__law_right : List Str := ["_law_thing", "_law_kept", "_law_found", "_law_one"]
def okT (d : PyData) : Prop := shortD d ∧ d.showable = true ∧ d.hasDict = false ∧ d.depth ≤ 60 ∧ d.shown.length ≤ sizeLine
def pm__law_right : Pm := pmD (fun ds => ∃ d, ds = [d] ∧ okT d) (fun ds => .bool true)
theorem sem__law_right (K : Fg) : Sem K N__law_right 1 pm__law_right (t__law_right K) := by
  rintro M ss H R m ⟨ds, rfl, ⟨d, rfl, sh, o1, o2, o3, o4⟩, k⟩
  refine ⟨rfl, by decide, ?_⟩
  show Rn K M.h (t__law_right K) [some (.d d), none, none, none] M H _
  have rp : ReprD [d] (.str d.shown) := ⟨o1, o2, o3, o4, rfl⟩
  refine r_seq (r_asg (ev_cb (ead_cons (ev_var rfl) ead_nil) rp) fun H1 x1 => ?_)
  dsimp only [List.set]
  refine r_seq (r_asg (s := .d (.list ([isNm d, isNm d].map .bool))) (ev_lst (ead_cons (ev_is_name (ev_var rfl) sh) (ead_cons (ev_is_name (ev_var rfl) sh) ead_nil))) fun H2 x2 => ?_)
  dsimp only [List.set]
  refine r_ret (s := .d (.bool true)) (EvD.is (ev_andU (ev_bin (ev_var rfl) (EvD.is (d' := .list ([isNm d, isNm d].map .bool)) (ev_bin (ev_lst (ead_cons (ev__law_is (ev_var rfl) sh) ead_nil)) ev_int (g_mulL (by rw [sizeLine_eq]; exact ⟨by decide, by decide, by show 1 * 2 ≤ _; decide⟩))) rfl) g_eqLB) (ev_andU (ev_cb (ead_cons (ev_lcB (xs := [isNm d, isNm d]) (enc := .bool) (fun _ => true) (ei_list (ev_var rfl)) (by simp) fun i b hb => ⟨_, tc_name, fun N H' s xx => EvD.is (ev_isi (ev_var rfl) (by decide)) rfl⟩) ead_nil) g_all) (ev_bin (ev_cb (ead_cons (ev_var rfl) ead_nil) rp) (ev_var rfl) g_eqT))) ?_) fun H3 x3 => k _ (x1.trans (x2.trans x3))
  simp
theorem ev__law_right {K : Fg} {ρ : Ro} {M : Ms} {H : Hp} {ta : TE} {d : PyData} {E : XK} (ha : EvD K ta ρ M H d) (h : okT d) : EvD K (tCall (spG K pm__law_right) [] E (tCons ta tNil)) ρ M H (.bool true) :=
  ev_call (ead_cons ha ead_nil) ⟨d, rfl, h⟩
def t__law_name (K : Fg) : TS := (tSeq (tAsg (tC (.str "abcdefghijklmnopqrstuvwxyz")) (gName 1))
    (tSeq (tAsg (tOp (rB K IxD) (tLst (tCons (tC (.int 1)) (tCons (tC (.int 8)) (tCons (tOp (rB K AddD) (tC (.int 1)) (tCall (spG K pm__law_take) [] E0 (tCons (tVar 0) (tCons (tC (.int 8)) tNil)))) tNil)))) (tCall (spG K pm__law_take) [] E0 (tCons (tVar 0) (tCons (tC (.int 3)) tNil)))) (gName 2))
    (tRet (tBM K "str" (rM K JoinD) (tC (.str "")) (tCons (tLc (iRng1 (tCons (tVar 2) tNil)) (gName 3) tYes (tOp (rB K IxD) (tVar 1) (tCall (spG K pm__law_take) [] E0 (tCons (tVar 0) (tCons (tC (.int 26)) tNil)))) [3]) tNil)))))
def N__law_name : List Str := ["_law_box_here", "_law_letters", "_law_size", "_law_k"]
def low (x : Str) : Prop := (∀ c ∈ tl x, c ∈ LT) ∧ 1 ≤ x.length ∧ x.length ≤ 8
def pm__law_name : Pm := fun ss M H R => ∃ p n, ss = [.v (.ref p)] ∧ p ∈ M.w ∧ Bx H p n ∧ n ≤ 100000000 ∧ ∀ x H', low x → Go M H H' → Bx H' p (n + 10) → R (.d (.str x)) H'
theorem joined : ∀ xs : List Nat, tl (Txt.join Str.empty (xs.map fun c => (⟨#[c]⟩ : Str))) = xs := by
  intro xs
  rw [TL.join_eq, show tl (Str.join Str.empty _) = _ from TL.tl_join _ _]
  have key : ∀ xs : List Nat, TL.joinL [] ((xs.map fun c => (⟨#[c]⟩ : Str)).map TL.tl) = xs := by
    intro xs
    induction xs with
    | nil => rfl
    | cons c t ih =>
      cases t with
      | nil => rfl
      | cons d u =>
        show [c] ++ ([] ++ TL.joinL [] (((d :: u).map fun c => (⟨#[c]⟩ : Str)).map TL.tl)) = _
        rw [ih]; rfl
  exact key xs
theorem sum_ones : ∀ xs : List Nat, ((xs.map fun c => (⟨#[c]⟩ : Str)).map (·.length)).sum = xs.length
  | [] => rfl
  | c :: xs => by
    rw [List.map_cons, List.map_cons, List.sum_cons, sum_ones xs, List.length_cons]
    show 1 + xs.length = xs.length + 1
    omega
theorem sem__law_name (K : Fg) : Sem K N__law_name 1 pm__law_name (t__law_name K) := by
  rintro M ss H R m ⟨p, n, rfl, hw, hb, hn, k⟩
  refine ⟨rfl, by decide, ?_⟩
  show Rn K M.h (t__law_name K) [some (.v (.ref p)), none, none, none] M H _
  refine r_seq (r_asg ev_str fun H1 x1 => ?_)
  dsimp only [List.set]
  refine r_seq (r_asgE (ee_bin (ee_lst (eea_cons (ee_int (eea_cons (ee_int (eea_cons (ee_bin (ee_int ⟨_, rfl, ee_take rfl hw (hb.x x1) (by omega) ee_const (by decide) (by decide) fun u H2 u0 u1 g2 _ b2 => ⟨_, _, rfl, g_add, fun H3 x3 => ?_⟩⟩))))))))))
  refine eea_nil ⟨[_, _, _], rfl, Nat.le_of_ble_eq_true rfl, fun H4 x4 => ⟨_, rfl, ?_⟩⟩
  refine ee_take rfl hw (b2.x (x3.trans x4)) (by omega) ee_const (by decide) (by decide) fun y H5 y0 y1 g5 _ b5 => ?_
  obtain ⟨z, hz, mz⟩ := atI_mem (xs := ([1, 8, 1 + u] : List Int)) (i := y) y0 (by simpa using y1)
  have hz1 : 1 ≤ z ∧ z ≤ 8 := by
    simp only [List.mem_cons, List.not_mem_nil, or_false] at mz
    omega
  refine ⟨_, _, rfl, g_ixL (atI_map (f := PyData.int) hz), fun H6 x6 => ?_⟩
  dsimp only [List.set]
  have g16 : Go M H H6 := x1.go.trans (g2.trans ((x3.trans x4).go.trans (g5.trans x6.go)))
  refine r_retE (ee_bm (ee_str ⟨Str.empty, rfl, eea_cons (ee_lc (ds := (List.range z.toNat).map fun (k : Nat) => .int (0 + (k : Int))) (ei_rng1 (n := z) (ead_cons (ev_var rfl) ead_nil) (by omega) (by omega)) (by simp; omega) (fun i acc H' => Bx H' p (n + 2 + i) ∧ ∃ xs : List Nat, acc = xs.map enc1 ∧ (∀ c ∈ xs, c ∈ LT) ∧ xs.length = i) ?_ ?_ ?_ ?_)⟩))
  · rintro i acc Ha Hb hs ⟨b, q⟩
    exact ⟨b.same (hs p (M.sub p hw)), q⟩
  · intro H7 x7
    exact ⟨(b5.x (x6.trans x7)).mono (by omega), [], rfl, by simp, rfl⟩
  · rintro i d acc hd hl
    refine ⟨_, tc_name, fun D H7 nD g7 iv md σ en Q q => ?_⟩
    obtain ⟨o, ho⟩ := md D List.mem_cons_self
    have Dp : D ≠ p := fun e => nD (e ▸ M.sub p hw)
    obtain ⟨b7, xs, rfl, hx, hlen⟩ := iv
    have hi : i < z.toNat := by
      have := (List.getElem?_eq_some_iff.mp hd).1
      simpa using this
    refine eeb_p eb_yes (fun H8 x8 => ?_) md σ en Q q
    rw [if_pos rfl]
    refine ee_bin (ee_var rfl ⟨_, rfl, ee_take rfl (List.mem_cons_of_mem _ hw) (b7.x x8) (by omega) ee_const (by decide) (by decide) fun r H9 r0 r1 g9 f9 b9 => ?_⟩)
    obtain ⟨c, hc, mc⟩ := atI_mem (xs := LT) (i := r) r0 (by have : LT.length = 26 := rfl; omega)
    refine ⟨_, _, rfl, ⟨by decide, c, hc, rfl⟩, fun H10 x10 => ⟨?_, enc1 c, rfl, (b9.x x10).mono (by omega), xs ++ [c], by rw [List.map_append]; rfl, fun a ha => ?_, by rw [List.length_append, hlen]; rfl⟩⟩
    · rw [x10 D o (f9 D o Dp (x8 D o ho)), ho]
    · rcases List.mem_append.mp ha with h | h
      · exact hx a h
      · rw [List.mem_singleton.mp h]; exact mc
  · rintro acc H7 _ ⟨b7, xs, rfl, hx, hlen⟩ g7
    rw [List.length_map, List.length_range] at hlen b7
    refine eea_nil ⟨[.list (xs.map enc1)], _, rfl, ⟨xs.map fun c => (⟨#[c]⟩ : Str), by rw [List.map_map]; rfl, by rw [sum_ones, List.length_map]; show xs.length + xs.length * 0 ≤ _; omega, rfl⟩, fun H8 x8 => ?_⟩
    have ej := joined xs
    refine k _ _ ⟨fun c hc => ?_, ?_, ?_⟩ (g16.trans (g7.trans x8.go)) ((b7.x x8).mono (by omega))
    · rw [ej] at hc; exact hx c hc
    · rw [TL.len_tl, show TL.tl _ = _ from ej]; omega
    · rw [TL.len_tl, show TL.tl _ = _ from ej]; omega
def t__law_bent (K : Fg) : TS := (tSeq (tAsg (tC (.str " !\"#$&'()*+,-./0123456789:;<=>?@ABCDEFGHIJKLMNOPQRSTUVWXYZ[\\]^_`abcdefghijklmnopqrstuvwxyz{|}~\n\t")) (gName 2))
    (tSeq (tPar 3 4 (tCons (tOp (rB K IxD) (tVar 2) (tCall (spG K pm__law_take) [] E0 (tCons (tVar 0) (tCons (tCB (rC K LenD) (tCons (tVar 2) tNil)) tNil)))) (tCons (tCall (spG K pm__law_take) [] E0 (tCons (tVar 0) (tCons (tOp (rB K AddD) (tCB (rC K LenD) (tCons (tVar 1) tNil)) (tC (.int 1))) tNil))) tNil)))
    (tSeq (tPar 5 6 (tCons (tSl (rSl K SlD) (tVar 1) tNoPart (tPart (tVar 4))) (tCons (tSl (rSl K SlD) (tVar 1) (tPart (tVar 4)) tNoPart) tNil)))
    (tSeq (tAsg (tLst (tCons (tOp (rB K AddD) (tOp (rB K AddD) (tVar 5) (tVar 3)) (tVar 6)) (tCons (tOp (rB K AddD) (tOp (rB K AddD) (tVar 5) (tVar 3)) (tSl (rSl K SlD) (tVar 6) (tPart (tC (.int 1))) tNoPart)) (tCons (tOp (rB K AddD) (tVar 5) (tSl (rSl K SlD) (tVar 6) (tPart (tC (.int 1))) tNoPart)) (tCons (tOp (rB K AddD) (tOp (rB K AddD) (tVar 5) (tSl (rSl K SlD) (tVar 6) tNoPart (tPart (tC (.int 1))))) (tVar 6)) tNil))))) (gName 7))
    (tRet (tOp (rB K IxD) (tOp (rB K AddD) (tVar 7) (tLst (tCons (tBM0 K "str" (rM K UpperD) (tVar 1)) (tCons (tOp (rB K AddD) (tVar 1) (tVar 3)) tNil)))) (tCall (spG K pm__law_take) [] E0 (tCons (tVar 0) (tCons (tC (.int 6)) tNil)))))))))
def N__law_bent : List Str := ["_law_box_here", "_law_name_here", "_law_signs", "_law_sign", "_law_at", "_law_ahead", "_law_behind", "_law_some"]
def GA (n : Nat) (x : Str) : Prop := (∀ c ∈ tl x, c < 128) ∧ x.length ≤ n
theorem GA.app {n m : Nat} {x y : Str} (a : GA n x) (b : GA m y) : GA (n + m) (x ++ y) := ⟨fun c hc => by
  rw [tl_app] at hc
  rcases List.mem_append.mp hc with h | h
  · exact a.1 c h
  · exact b.1 c h, by rw [len_app]; have := a.2; have := b.2; omega⟩
theorem GA.cut {n : Nat} {x : Str} (a : GA n x) (lo hi : Option Int) : GA n (cutS x lo hi) := ⟨fun c hc => a.1 c (List.mem_of_mem_drop (List.mem_of_mem_take hc)), Nat.le_trans (cutS_length _ _ _) a.2⟩
theorem GA.up {n : Nat} {x : Str} (a : GA n x) : GA n (Txt.upper x) := by
  rw [PyProof.Rows.upper_ascii a.1]
  refine ⟨fun c hc => ?_, by show (x.cps.map _).size ≤ n; rw [Array.size_map]; exact a.2⟩
  have hc : c ∈ (x.cps.map PyProof.Rows.up1).toList := hc
  rw [Array.toList_map] at hc
  obtain ⟨b, hb, rfl⟩ := List.mem_map.mp hc
  have := a.1 b hb
  unfold PyProof.Rows.up1
  split <;> omega
theorem GA.mono {n m : Nat} {x : Str} (a : GA n x) (h : n ≤ m) : GA m x := ⟨a.1, Nat.le_trans a.2 h⟩
section
variable {K : Fg} {ρ : Ro} {M : Ms} {H : Hp} {te ta tb : TE}
def EvH (K : Fg) (te : TE) (ρ : Ro) (M : Ms) (H : Hp) (n : Nat) : Prop := ∃ x, GA n x ∧ EvD K te ρ M H (.str x)
theorem eh_app {n m : Nat} (a : EvH K ta ρ M H n) (b : EvH K tb ρ M H m) (h : n + m ≤ 10000 := by omega) : EvH K (tOp (rB K AddD) ta tb) ρ M H (n + m) := by
  obtain ⟨x, gx, ex⟩ := a
  obtain ⟨y, gy, ey⟩ := b
  exact ⟨_, gx.app gy, ev_bin ex ey ⟨by rw [sizeLine_eq]; have := gx.2; have := gy.2; omega, rfl⟩⟩
theorem eh_cut {n : Nat} {tl' th : TO} {lo hi : Option Int} (a : EvH K ta ρ M H n) (h1 : EvO K tl' ρ M H lo) (h2 : EvO K th ρ M H hi) (h : n ≤ 10000 := by omega) : EvH K (tSl (rSl K SlD) ta tl' th) ρ M H n := by
  obtain ⟨x, gx, ex⟩ := a
  exact ⟨_, gx.cut lo hi, ev_sl ex h1 h2 ⟨by rw [sizeLine_eq]; have := gx.2; omega, rfl⟩⟩
theorem eh_up {n : Nat} (a : EvH K ta ρ M H n) (h : n ≤ 10000 := by omega) : EvH K (tBM0 K "str" (rM K UpperD) ta) ρ M H n := by
  obtain ⟨x, gx, ex⟩ := a
  exact ⟨_, gx.up, ev_bm0 ex ⟨by have := gx.2; omega, rfl⟩⟩
end
def signs : Str := " !\"#$&'()*+,-./0123456789:;<=>?@ABCDEFGHIJKLMNOPQRSTUVWXYZ[\\]^_`abcdefghijklmnopqrstuvwxyz{|}~\n\t"
theorem signs_ok : (tl signs).length = 96 ∧ ∀ c ∈ tl signs, c < 128 := by
  have h : (decide ((tl signs).length = 96) && (tl signs).all fun c => decide (c < 128)) = true := by decide +kernel
  rw [Bool.and_eq_true, decide_eq_true_eq] at h
  exact ⟨h.1, fun c hc => of_decide_eq_true (List.all_eq_true.mp h.2 c hc)⟩
def pm__law_bent : Pm := fun ss M H R => ∃ p n w k, ss = [.v (.ref p), .d (.str w)] ∧ p ∈ M.w ∧ Bx H p n ∧ n ≤ 100000000 ∧ GA k w ∧ k ≤ 100 ∧ ∀ y H', GA (3 * k + 1) y → Go M H H' → Bx H' p (n + 3) → R (.d (.str y)) H'
theorem sem__law_bent (K : Fg) : Sem K N__law_bent 2 pm__law_bent (t__law_bent K) := by
  rintro M ss H R m ⟨p, n, w, q, rfl, hw, hb, hn, gw, hq, k⟩
  refine ⟨rfl, by decide, ?_⟩
  show Rn K M.h (t__law_bent K) [some (.v (.ref p)), some (.d (.str w)), none, none, none, none, none, none] M H _
  have lw := gw.2
  have so := signs_ok
  have sl : signs.length = 96 := by rw [TL.len_tl]; exact so.1
  refine r_seq (r_asg (s := .d (.str signs)) ev_str fun H1 x1 => ?_)
  dsimp only [List.set]
  generalize hS : signs = sg at *
  refine r_seq (r_parE (eea_cons (ee_bin (ee_var rfl ⟨_, rfl, ee_take (m := 96) rfl hw (hb.x x1) (by omega) (ee_pure (EvD.is (ev_cb (ead_cons (ev_var rfl) ead_nil) (g_lenS (by rw [sl, sizeLine_eq]; omega))) (by rw [sl]; rfl))) (by decide) (by decide) fun at_ H2 a0 a1 g2 _ b2 => ?_⟩))))
  obtain ⟨ch, hch, mch⟩ := atI_mem (xs := tl sg) (i := at_) a0 (by rw [so.1]; exact a1)
  refine ⟨_, _, rfl, ⟨by rw [sl, sizeLine_eq]; omega, ch, hch, rfl⟩, fun H3 x3 => ?_⟩
  refine eea_cons (ee_take (m := (w.length : Int) + 1) rfl hw (b2.x x3) (by omega) (ee_pure (ev_bin (ev_cb (ead_cons (ev_var rfl) ead_nil) (g_lenS (by rw [sizeLine_eq]; omega))) ev_int g_add)) (by omega) (by omega) fun pos H4 p0 p1 g4 _ b4 => eea_nil ⟨_, _, rfl, ?_⟩)
  dsimp only [List.set]
  have gs : GA 1 (⟨#[ch]⟩ : Str) := ⟨fun c hc => by
    have : c = ch := by simpa using (show c ∈ [ch] from hc)
    rw [this]; exact so.2 ch mch, Nat.le_refl _⟩
  have ga : GA q (cutS w none (some pos)) := gw.cut _ _
  have gb : GA q (cutS w (some pos) none) := gw.cut _ _
  refine r_seq (r_parE (eea_cons (ee_p (ev_sl (ev_var rfl) eo_none (eo_some (ev_var rfl)) ⟨by rw [sizeLine_eq]; omega, rfl⟩) fun H5 x5 => eea_cons (ee_p (ev_sl (ev_var rfl) (eo_some (ev_var rfl)) eo_none ⟨by rw [sizeLine_eq]; omega, rfl⟩) fun H6 x6 => eea_nil ⟨_, _, rfl, ?_⟩))))
  dsimp only [List.set]
  generalize cutS w none (some pos) = A at *
  generalize cutS w (some pos) none = B at *
  have v1 : ∀ {x : Option Sl} {J : Hp}, EvH K (tVar 1) [some (.v (.ref p)), some (.d (.str w)), some (.d (.str sg)), some (.d (.str ⟨#[ch]⟩)), some (.d (.int pos)), some (.d (.str A)), some (.d (.str B)), x] M J q := ⟨w, gw, ev_var rfl⟩
  have v3 : ∀ {x : Option Sl} {J : Hp}, EvH K (tVar 3) [some (.v (.ref p)), some (.d (.str w)), some (.d (.str sg)), some (.d (.str ⟨#[ch]⟩)), some (.d (.int pos)), some (.d (.str A)), some (.d (.str B)), x] M J 1 := ⟨_, gs, ev_var rfl⟩
  have v5 : ∀ {x : Option Sl} {J : Hp}, EvH K (tVar 5) [some (.v (.ref p)), some (.d (.str w)), some (.d (.str sg)), some (.d (.str ⟨#[ch]⟩)), some (.d (.int pos)), some (.d (.str A)), some (.d (.str B)), x] M J q := ⟨_, ga, ev_var rfl⟩
  have v6 : ∀ {x : Option Sl} {J : Hp}, EvH K (tVar 6) [some (.v (.ref p)), some (.d (.str w)), some (.d (.str sg)), some (.d (.str ⟨#[ch]⟩)), some (.d (.int pos)), some (.d (.str A)), some (.d (.str B)), x] M J q := ⟨_, gb, ev_var rfl⟩
  have i1 : ∀ {ρ : Ro} {J : Hp}, EvO K (tPart (tC (.int 1))) ρ M J (some 1) := eo_some ev_int
  obtain ⟨e1, q1, d1⟩ := eh_app (eh_app (v5 (x := none) (J := H6)) v3) v6
  obtain ⟨e2, q2, d2⟩ := eh_app (eh_app (v5 (x := none) (J := H6)) v3) (eh_cut v6 i1 eo_none)
  obtain ⟨e3, q3, d3⟩ := eh_app (v5 (x := none) (J := H6)) (eh_cut v6 i1 eo_none)
  obtain ⟨e4, q4, d4⟩ := eh_app (eh_app (v5 (x := none) (J := H6)) (eh_cut v6 eo_none i1)) v6
  refine r_seq (r_asg (ev_lst (ead_cons d1 (ead_cons d2 (ead_cons d3 (ead_cons d4 ead_nil))))) fun H7 x7 => ?_)
  dsimp only [List.set]
  have gg : Go M H H7 := x1.go.trans (g2.trans (x3.go.trans (g4.trans (x5.trans (x6.trans x7)).go)))
  have b7 : Bx H7 p (n + 2) := b4.x (x5.trans (x6.trans x7))
  obtain ⟨e5, q5, d5⟩ := eh_up (v1 (x := some (.d (.list [.str e1, .str e2, .str e3, .str e4]))) (J := H7))
  obtain ⟨e6, q6, d6⟩ := eh_app (v1 (x := some (.d (.list [.str e1, .str e2, .str e3, .str e4]))) (J := H7)) v3
  refine r_retE (ee_bin (ee_p (ev_bin (ev_var rfl) (ev_lst (ead_cons d5 (ead_cons d6 ead_nil))) (g_addL (by rw [sizeLine_eq]; simp))) fun H8 x8 => ⟨_, rfl, ee_take rfl hw (b7.x x8) (by omega) ee_const (by decide) (by decide) fun y H9 y0 y1 g9 _ b9 => ?_⟩))
  obtain ⟨z, hz, mz⟩ := atI_mem (xs := [e1, e2, e3, e4, e5, e6]) (i := y) y0 (by simpa using y1)
  have gz : GA (3 * q + 1) z := by
    simp only [List.mem_cons, List.not_mem_nil, or_false] at mz
    rcases mz with rfl | rfl | rfl | rfl | rfl | rfl
    · exact q1.mono (by omega)
    · exact q2.mono (by omega)
    · exact q3.mono (by omega)
    · exact q4.mono (by omega)
    · exact q5.mono (by omega)
    · exact q6.mono (by omega)
  exact ⟨_, _, rfl, g_ixL (atI_map (f := PyData.str) hz), fun H10 x10 => k z _ gz (gg.trans (x8.go.trans (g9.trans x10.go))) (b9.x x10)⟩
def t_law (K : Fg) : TS := (tSeq (tFor (iRng1 (tCons (tOp (rB K AddD) (tC (.int 1)) (tCB (rC K Min2D) (tCons (tC (.int 12)) (tCons (tCB (rC K LenD) (tCons (tVar 0) tNil)) tNil)))) tNil)) (gName 1) (tSeq (tAsg (tCall (spG K pm__law_box) [] E0 (tCons (tVar 0) (tCons (tVar 1) tNil))) (gName 2))
    (tSeq (tAsg (tCall (spG K pm__law_name) [] E0 (tCons (tVar 2) tNil)) (gName 3))
    (tSeq (tAsg (tLst (tCons (tVar 3) (tCons (tC (.str "")) (tCons (tOp (rB K AddD) (tVar 3) (tC (.str "abcdefgh"))) (tCons (tOp (rB K MulD) (tVar 3) (tC (.int 7))) (tCons (tLst (tCons (tVar 3) tNil)) (tCons (tTup (tCons (tVar 3) tNil)) (tCons (tTup (tCons (tVar 3) (tCons (tVar 3) tNil))) (tCons (tC .non) (tCons (tC (.bl true)) (tCons (tC (.bl false)) (tCons (tC (.int 0)) (tCons (tC (.int 7)) (tCons (tLst tNil) tNil)))))))))))))) (gName 4))
    (tSeq (tFor (iRng1 (tCons (tC (.int 10)) tNil)) (gName 5) (tDrop (tBM K "list" rAppend (tVar 4) (tCons (tCall (spG K pm__law_bent) [] E0 (tCons (tVar 2) (tCons (tIf (tAnd (tTest (tOp (rB K EqD) (tOp (rB K ModD) (tVar 5) (tC (.int 3))) (tC (.int 2)))) (tB (tCB (rIsD K) (tCons (tOp (rB K IxD) (tVar 4) (tUn (rU1 K NegD) (tC (.int 1)))) (tCons (tC (.ty "str")) tNil))))) (tOp (rB K IxD) (tVar 4) (tUn (rU1 K NegD) (tC (.int 1)))) (tVar 3)) tNil))) tNil))))
    (tIfS (tOr (tNot (tB (tCB (rC K AllD) (tCons (tLc (iSeq K (tVar 4)) (gName 6) tYes (tCall (spG K pm__law_right) [] E0 (tCons (tVar 6) tNil)) [6]) tNil)))) (tTest (tOp (rB K NotBD) (tCall (spG K pm_is_name) [] E0 (tCons (tVar 3) tNil)) (tC (.bl true))))) (tRet (tC (.bl false))) tNext))))))
    (tRet (tC (.bl true))))
def N_law : List Str := ["_law_script", "_law_k", "_law_box_here", "_law_name_here", "_law_things", "_law_turn", "_law_thing"]
theorem repS_tl (x : Str) (k : Nat) : tl (repS x (k : Int)) = (List.replicate k (tl x)).flatten := by
  unfold repS
  split
  · have : k = 0 := by omega
    subst this; rfl
  · split
    · rename_i h1 h
      rw [Bool.or_eq_true] at h
      rcases h with h | h
      · have : k = 1 := by have := of_decide_eq_true h; omega
        subst this; simp
      · have h0 : (tl x).length = 0 := by
          have := of_decide_eq_true h
          rw [← this]; exact (TL.len_tl x).symm
        have : tl x = [] := List.length_eq_zero_iff.mp h0
        rw [this]; simp
    · show ((List.replicate (k : Int).toNat x.cps).foldl (· ++ ·) #[]).toList = _
      rw [Int.toNat_natCast]
      have key : ∀ (n : Nat) (acc : Array Nat), ((List.replicate n x.cps).foldl (· ++ ·) acc).toList = acc.toList ++ (List.replicate n x.cps.toList).flatten := by
        intro n
        induction n with
        | zero => intro acc; simp
        | succ n ih => intro acc; rw [List.replicate_succ, List.foldl_cons, ih, List.replicate_succ, List.flatten_cons, Array.toList_append, List.append_assoc]
      rw [key]; rfl
theorem rep7 (x : Str) : tl (repS x 7) = (List.replicate 7 (tl x)).flatten := repS_tl x 7
theorem ok_text {y : Str} (g : GA 100 y) : okT (.str y) := by
  refine ⟨fun x h => by cases h; have := g.2; omega, rfl, rfl, by simp [PyData.depth], ?_⟩
  have := StrLaws.reprText_len y fun c hc => Nat.lt_of_lt_of_le (g.1 c hc) (by decide)
  rw [sizeLine_eq]
  show (reprText y).length ≤ _
  have := g.2
  omega
theorem rt_len {y : Str} (g : GA 100 y) : (reprText y).length ≤ 1002 := by
  have := StrLaws.reprText_len y fun c hc => Nat.lt_of_lt_of_le (g.1 c hc) (by decide)
  have := g.2
  omega
theorem low_GA {x : Str} (h : low x) : GA 8 x := ⟨fun c hc => by
  have := h.1 c hc
  have key : ∀ c ∈ LT, c < 128 := by decide
  exact key c this, h.2.2⟩
theorem low_nm {x : Str} (h : low x) : isNm (.str x) = true := by
  show ((decide _ && decide _) && List.all (tl x) _) = true
  rw [decide_eq_true h.2.1, decide_eq_true h.2.2, List.all_eq_true.mpr fun c hc => decide_eq_true (h.1 c hc)]; rfl
def things (x : Str) : List PyData := [.str x, .str "", .str (x ++ "abcdefgh"), .str (repS x 7), .list [.str x], .tuple [.str x], .tuple [.str x, .str x], .none, .bool true, .bool false, .int 0, .int 7, .list []]
theorem rep_GA {x : Str} (g : GA 8 x) : GA 100 (repS x 7) := by
  have e : tl (repS x 7) = (List.replicate 7 (tl x)).flatten := rep7 x
  have hl := TL.len_tl x
  have g2 := g.2
  refine ⟨fun c hc => ?_, ?_⟩
  · rw [e] at hc
    obtain ⟨l, h1, h2⟩ := List.mem_flatten.mp hc
    rw [(List.mem_replicate.mp h1).2] at h2
    exact g.1 c h2
  · rw [TL.len_tl, show TL.tl (repS x 7) = _ from e]
    show (tl x ++ (tl x ++ (tl x ++ (tl x ++ (tl x ++ (tl x ++ (tl x ++ []))))))).length ≤ _
    simp only [List.length_append, List.length_nil]
    have : (tl x).length = x.length := hl.symm
    omega
theorem things_ok {x : Str} (h : low x) : ∀ d ∈ things x, okT d := by
  have g := low_GA h
  have r := rt_len (g.mono (by decide))
  have ns : ∀ d : PyData, isD "str" d = false → shortD d := fun d e x hx => by subst hx; cases e
  intro d hd
  simp only [things, List.mem_cons, List.not_mem_nil, or_false] at hd
  rcases hd with rfl | rfl | rfl | rfl | rfl | rfl | rfl | rfl | rfl | rfl | rfl | rfl | rfl
  · exact ok_text (g.mono (by decide))
  · exact ok_text ⟨(fun c hc => by have h0 : c ∈ ([] : List Nat) := hc; cases h0), by decide⟩
  · exact ok_text ((g.app (m := 8) (y := "abcdefgh") ⟨by
      show ∀ c ∈ [97, 98, 99, 100, 101, 102, 103, 104], c < 128
      decide, by decide⟩).mono (by decide))
  · exact ok_text (rep_GA g)
  · refine ⟨ns _ rfl, rfl, rfl, by simp [PyData.depth, PyData.depthAll], ?_⟩
    have := listText_len_le [reprText x]
    show (listText [reprText x]).length ≤ _
    rw [sizeLine_eq]
    simp at this; omega
  · refine ⟨ns _ rfl, rfl, rfl, by simp [PyData.depth, PyData.depthAll], ?_⟩
    have := tupleText_len_le [reprText x]
    show (tupleText [reprText x]).length ≤ _
    rw [sizeLine_eq]
    simp at this; omega
  · refine ⟨ns _ rfl, rfl, rfl, by simp [PyData.depth, PyData.depthAll], ?_⟩
    have := tupleText_len_le [reprText x, reprText x]
    show (tupleText [reprText x, reprText x]).length ≤ _
    rw [sizeLine_eq]
    simp at this; omega
  all_goals exact ⟨ns _ rfl, by decide, rfl, by decide, by rw [sizeLine_eq]; decide +kernel⟩
def pm_law : Pm := fun ss M H R => ∃ ns : List Int, ss = [.d (.list (ns.map .int))] ∧ ns.length ≤ 63 ∧ ∀ H', R (.d (.bool true)) H'
theorem LAt.ne {K : Fg} {M : Ms} {H H' : Hp} {p q : Addr} {ds : List PyData} (l : LAt K M H q ds) (f : ∀ a o, a ≠ p → H a = some o → H' a = some o) (n : q ≠ p) (hp : p ∈ M.h) : LAt K M H' q ds := by
  obtain ⟨xs, e, d⟩ := l.ex
  refine ⟨l.w, xs, f q _ n e, dps_ex (fun a o h => ?_) _ _ d⟩
  have m : a ∉ M.h := fun z => by unfold hid at h; rw [if_pos z] at h; cases h
  rw [hid_ne m] at h ⊢
  exact f a o (fun z => m (z ▸ hp)) h
theorem sem_law (K : Fg) : Sem K N_law 1 pm_law (t_law K) := by
  rintro M ss H R m ⟨ns, rfl, hl, k⟩
  refine ⟨rfl, by decide, ?_⟩
  show Rn K M.h (t_law K) [some (.d (.list (ns.map .int))), none, none, none, none, none, none] M H _
  refine r_seq (r_for (ei_rng1 (n := 1 + min 12 ((ns.map PyData.int).length : Int)) (by walk_at "dl_ev") (by omega) (by omega)) (fun i ρ' H' => ∃ a b c d e f, ρ' = [some (.d (.list (ns.map .int))), a, b, c, d, e, f]) (fun _ _ => ⟨_, _, _, _, _, _, rfl⟩) ?_ fun ρ' H' ⟨a, b, c, d, e, f, hh⟩ _ => ?_)
  · rintro i d ρ' H' hd ⟨a, b, c, d', e, f, rfl⟩ g1 m1
    refine ⟨_, tg_name, fun H2 x2 => ?_⟩
    obtain ⟨j, hj, rfl⟩ : ∃ j : Nat, j < 14 ∧ d = .int (0 + (j : Int)) := by
      rw [List.getElem?_map] at hd
      by_cases hi : i < (1 + min 12 ((ns.map PyData.int).length : Int)).toNat
      · rw [List.getElem?_range hi] at hd
        exact ⟨i, by omega, (Option.some.inj hd).symm⟩
      · rw [List.getElem?_eq_none (by simpa using hi)] at hd; cases hd
    dsimp only [List.set]
    refine r_seq (r_asgN (ss := [.d (.list (ns.map .int)), .d (.int (0 + (j : Int)))]) (by walk_at "dl_ev") fun H3 x3 => ⟨ns, _, rfl, hl, by omega, by omega, fun p H4 hp x4 b4 _ => ?_⟩)
    obtain ⟨o, ho⟩ := b4.some
    refine ⟨p, o, rfl, fresh_back x3 hp, ho, ?_⟩
    dsimp only [List.set]
    have hw : p ∈ (M.add p).w := List.mem_cons_self
    refine r_seq (r_asgE (ee_call [p] (fun a q => by rw [List.mem_singleton] at q; exact q ▸ hw) (eea_cons (ee_var rfl (eea_nil ⟨p, _, rfl, List.mem_singleton.mpr rfl, b4, by omega, fun x H5 lx _ b5 _ => ?_⟩)))))
    dsimp only [List.set]
    have gx := low_GA lx
    have lx8 := gx.2
    refine r_seq (r_asgL (ds := things x) (ead_cons (ev_var rfl) (ead_cons ev_str (ead_cons (ev_bin (ev_var rfl) ev_str ⟨by rw [sizeLine_eq]; show x.length + 8 ≤ _; omega, rfl⟩) (ead_cons (ev_bin (ev_var rfl) ev_int ⟨by decide, by decide, by omega, rfl⟩) (ead_cons (ev_lst (ead_cons (ev_var rfl) ead_nil)) (ead_cons (ev_tup (ead_cons (ev_var rfl) ead_nil)) (ead_cons (ev_tup (ead_cons (ev_var rfl) (ead_cons (ev_var rfl) ead_nil))) (ead_cons ev_non (ead_cons ev_bl (ead_cons ev_bl (ead_cons ev_int (ead_cons ev_int (ead_cons (ev_lst ead_nil) ead_nil))))))))))))) (by show 13 ≤ _; decide) fun q H6 nq nm6 x6 l6 => ?_)
    dsimp only [List.set]
    have qp : q ≠ p := fun e => nm6 (by rw [e]; exact List.mem_cons_self)
    have hw2 : p ∈ ((M.add p).add q).w := List.mem_cons.mpr (.inr hw)
    have hh2 : p ∈ ((M.add p).add q).h := List.mem_cons.mpr (.inr List.mem_cons_self)
    refine r_seq (r_for (ei_rng1 (n := 10) (by walk_at "dl_ev") (by decide) (by decide)) (fun i ρ' H' => Bx H' p (10 + 3 * i) ∧ ∃ ds a b c, ρ' = [some (.d (.list (ns.map .int))), a, some (.v (.ref p)), some (.d (.str x)), some (.v (.ref q)), b, c] ∧ LAt K ((M.add p).add q) H' q ds ∧ (∀ d ∈ ds, okT d) ∧ ds.length ≤ 13 + i ∧ (i % 3 = 2 → ∃ y, GA 25 y ∧ atI ds (-1) = some (.str y))) (fun H7 x7 => ⟨(b5.x (x6.trans x7)).mono (by omega), things x, _, _, _, rfl, l6.x x7, things_ok lx, Nat.le_refl _, fun h => by cases h⟩) ?_ ?_)
    · rintro i2 d2 ρ2 H7 hd2 ⟨b7, ds, a, b, c, rfl, l7, od, dl, last⟩ g7 m7
      refine ⟨_, tg_name, fun H8 x8 => ?_⟩
      have hi2 : i2 < 10 := by
        have := (List.getElem?_eq_some_iff.mp hd2).1
        simpa using this
      obtain rfl : d2 = .int (0 + (i2 : Int)) := by
        rw [List.getElem?_map, List.getElem?_range (by simpa using hi2)] at hd2
        exact (Option.some.inj hd2).symm
      dsimp only [List.set]
      have l8 := l7.x x8
      obtain ⟨w, kk, gw, hk, ew⟩ : ∃ w kk, GA kk w ∧ (kk = 8 ∨ (kk = 25 ∧ i2 % 3 = 2)) ∧ EvD K (tIf (tAnd (tTest (tOp (rB K EqD) (tOp (rB K ModD) (tVar 5) (tC (.int 3))) (tC (.int 2)))) (tB (tCB (rIsD K) (tCons (tOp (rB K IxD) (tVar 4) (tUn (rU1 K NegD) (tC (.int 1)))) (tCons (tC (.ty "str")) tNil))))) (tOp (rB K IxD) (tVar 4) (tUn (rU1 K NegD) (tC (.int 1)))) (tVar 3)) [some (.d (.list (ns.map .int))), a, some (.v (.ref p)), some (.d (.str x)), some (.v (.ref q)), some (.d (.int (0 + (i2 : Int)))), c] ((M.add p).add q) H8 (.str w) := by
        by_cases h3 : i2 % 3 = 2
        · obtain ⟨y, gy, hy⟩ := last h3
          have lst : EvD K (tOp (rB K IxD) (tVar 4) (tUn (rU1 K NegD) (tC (.int 1)))) [some (.d (.list (ns.map .int))), a, some (.v (.ref p)), some (.d (.str x)), some (.v (.ref q)), some (.d (.int (0 + (i2 : Int)))), c] ((M.add p).add q) H8 (.str y) := ev_rdL (i := 4) rfl l8 (ev_bin (ev_var rfl) (ev_un ev_int g_neg) (g_ixL hy)) rfl
          exact ⟨y, 25, gy, .inr ⟨rfl, h3⟩, ev_if (b := true) (EvB.is (eb_andU (eb_test (ev_bin (ev_bin (ev_var rfl) ev_int (g_mod (by decide))) ev_int g_eq)) (eb_B (ev_isi lst (by decide)))) (by rw [decide_eq_true (show ((0 : Int) + (i2 : Int)) % 3 = 2 by omega)]; rfl)) (fun _ => lst) fun e => by cases e⟩
        · exact ⟨x, 8, gx, .inl rfl, ev_if (b := false) (eb_and (a := false) (b := false) (eb_test (EvD.is (ev_bin (ev_bin (ev_var rfl) ev_int (g_mod (by decide))) ev_int g_eq) (by rw [decide_eq_false (show ¬ ((0 : Int) + (i2 : Int)) % 3 = 2 by omega)]))) fun e => by cases e) (fun e => by cases e) fun _ => ev_var rfl⟩
      refine r_append (i := 4) rfl l8 (ee_call [p] (fun a q' => by rw [List.mem_singleton] at q'; exact q' ▸ hw2) (eea_cons (ee_var rfl (eea_cons (ee_p ew fun H9 x9 => eea_nil ⟨p, _, w, kk, rfl, List.mem_singleton.mpr rfl, b7.x (x8.trans x9), by omega, gw, by omega, fun y H10 gy _ b10 g10 => ⟨.str y, ds, rfl, (l8.x x9).ne (fun a o n h => g10.1 a o (fun z => n (List.mem_singleton.mp z)) h) qp hh2, by omega, fun H11 g11 l11 f11 => ?_⟩⟩)))))
      refine ⟨fun a q => q, b10.same (f11 p (Ne.symm qp)) |>.mono (by omega), ds ++ [.str y], _, _, _, rfl, l11, fun d hd => ?_, by rw [List.length_append, List.length_singleton]; omega, fun h => ⟨y, gy.mono (by omega), atI_last _ _⟩⟩
      rcases List.mem_append.mp hd with h | h
      · exact od d h
      · rw [List.mem_singleton.mp h]; exact ok_text (gy.mono (by omega))
    · rintro ρ2 H7 ⟨b7, ds, a, b, c, rfl, l7, od, dl, _⟩ g7
      refine r_freeze (i := 4) rfl l7 nm6 (fun h => nm6 (List.mem_cons.mpr (.inr h))) ?_
      dsimp only [List.set]
      rw [List.length_map, List.length_range] at dl
      refine r_ifF (b := (!((ds.map fun _ => true).all id)) || (!decide (isNm (.str x) = true))) (eb_orU (eb_not (eb_B (ev_cb (ead_cons (ev_lcB (xs := ds) (enc := id) (fun _ => true) (by rw [List.map_id]; exact ei_list (ev_var rfl)) (by omega) fun i d hd => ⟨_, tc_name, fun N H' s xx => ev__law_right (ev_var rfl) (od d (List.mem_of_getElem? hd))⟩) ead_nil) g_all))) (eb_test (ev_bin (ev_is_name (ev_var rfl) (fun y hy => by cases hy; omega)) ev_bl g_notB))) (by rw [low_nm lx]; simp) fun H8 x8 => r_next ⟨fun a q => List.mem_cons.mpr (.inr q), _, _, _, _, _, _, rfl⟩
  · subst hh
    exact r_ret ev_bl fun H1 x1 => k H1
end DL

namespace KL
open PySem L2 DL
def top (i : Nat) : Stmt := PySem.Challenge.pw_partwares_k01_names.main.body.getD i (.Pass ⟨0, 0, 0, 0⟩)
abbrev s_is_name : Stmt := top 3
abbrev s__law_box : Stmt := top 5
abbrev s__law_take : Stmt := top 6
abbrev s__law_is : Stmt := top 7
abbrev s__law_right : Stmt := top 8
abbrev s__law_name : Stmt := top 9
abbrev s__law_bent : Stmt := top 10
abbrev s_law : Stmt := top 11
theorem sc_is_name : FnScope N_is_name ["thing"] (defScope s_is_name) := ⟨rfl, rfl, rfl, by decide +kernel, rfl, by decide +kernel, by decide +kernel⟩
theorem sc__law_box : FnScope N__law_box ["_law_script", "_law_k"] (defScope s__law_box) := ⟨rfl, rfl, rfl, by decide +kernel, rfl, by decide +kernel, by decide +kernel⟩
theorem sc__law_take : FnScope N__law_take ["_law_box_here", "_law_many"] (defScope s__law_take) := ⟨rfl, rfl, rfl, by decide +kernel, rfl, by decide +kernel, by decide +kernel⟩
theorem sc__law_is : FnScope N__law_is ["_law_thing"] (defScope s__law_is) := ⟨rfl, rfl, rfl, by decide +kernel, rfl, by decide +kernel, by decide +kernel⟩
theorem sc__law_right : FnScope N__law_right ["_law_thing"] (defScope s__law_right) := ⟨rfl, rfl, rfl, by decide +kernel, rfl, by decide +kernel, by decide +kernel⟩
theorem sc__law_name : FnScope N__law_name ["_law_box_here"] (defScope s__law_name) := ⟨rfl, rfl, rfl, by decide +kernel, rfl, by decide +kernel, by decide +kernel⟩
theorem sc__law_bent : FnScope N__law_bent ["_law_box_here", "_law_name_here"] (defScope s__law_bent) := ⟨rfl, rfl, rfl, by decide +kernel, rfl, by decide +kernel, by decide +kernel⟩
theorem sc_law : FnScope N_law ["_law_script"] (defScope s_law) := ⟨rfl, rfl, rfl, by decide +kernel, rfl, by decide +kernel, by decide +kernel⟩
structure Tx (K : Fg) (mg : Str → Option Value) where
  n_isinstance : mg "isinstance" = none
  n_str : mg "str" = none
  n_len : mg "len" = none
  n_all : mg "all" = none
  n_abs : mg "abs" = none
  n_int : mg "int" = none
  n_sum : mg "sum" = none
  n_repr : mg "repr" = none
  n_bool : mg "bool" = none
  n_range : mg "range" = none
  n_min : mg "min" = none
  k_LONGEST : Tok
  c_LONGEST : mg "LONGEST" = some (.int 8 k_LONGEST)
  k_LETTERS : Tok
  c_LETTERS : mg "LETTERS" = some (.str "abcdefghijklmnopqrstuvwxyz" k_LETTERS)
  a_is_name : Addr
  d_is_name : FuncData
  m_is_name : mg "is_name" = some (.ref a_is_name)
  F_is_name : Fun K "is_name" "is_name" s_is_name a_is_name d_is_name
  b_is_name : Binds K d_is_name ["thing"] []
  a__law_box : Addr
  d__law_box : FuncData
  m__law_box : mg "_law_box" = some (.ref a__law_box)
  F__law_box : Fun K "_law_box" "_law_box" s__law_box a__law_box d__law_box
  b__law_box : Binds K d__law_box ["_law_script", "_law_k"] []
  a__law_take : Addr
  d__law_take : FuncData
  m__law_take : mg "_law_take" = some (.ref a__law_take)
  F__law_take : Fun K "_law_take" "_law_take" s__law_take a__law_take d__law_take
  b__law_take : Binds K d__law_take ["_law_box_here", "_law_many"] []
  a__law_is : Addr
  d__law_is : FuncData
  m__law_is : mg "_law_is" = some (.ref a__law_is)
  F__law_is : Fun K "_law_is" "_law_is" s__law_is a__law_is d__law_is
  b__law_is : Binds K d__law_is ["_law_thing"] []
  a__law_right : Addr
  d__law_right : FuncData
  m__law_right : mg "_law_right" = some (.ref a__law_right)
  F__law_right : Fun K "_law_right" "_law_right" s__law_right a__law_right d__law_right
  b__law_right : Binds K d__law_right ["_law_thing"] []
  a__law_name : Addr
  d__law_name : FuncData
  m__law_name : mg "_law_name" = some (.ref a__law_name)
  F__law_name : Fun K "_law_name" "_law_name" s__law_name a__law_name d__law_name
  b__law_name : Binds K d__law_name ["_law_box_here"] []
  a__law_bent : Addr
  d__law_bent : FuncData
  m__law_bent : mg "_law_bent" = some (.ref a__law_bent)
  F__law_bent : Fun K "_law_bent" "_law_bent" s__law_bent a__law_bent d__law_bent
  b__law_bent : Binds K d__law_bent ["_law_box_here", "_law_name_here"] []
  a_law : Addr
  d_law : FuncData
  m_law : mg "law" = some (.ref a_law)
  F_law : Fun K "law" "law" s_law a_law d_law
  b_law : Binds K d_law ["_law_script"] []
section
variable {P : Program} {w : World} {K : Fg} {mg : Str → Option Value} {base : Heap}
theorem ok_is_name (T : Tx K mg) : FnG P w K mg base CX0 1 T.a_is_name T.d_is_name ["thing"] (spG K pm_is_name) := by
  refine mk_okG (k := 0) T.F_is_name sc_is_name (sem_is_name K) (fun cdv A' outer s H E hG hr => ?_)
  have nd : N_is_name.Nodup := sc_is_name.nd
  exact (pss_cons (ps_if (PW.pt (pw_or (pt_not (pt_val (pe_callB call_isiD (by rfl) T.n_isinstance (by decide +kernel) (pa_cons (pv 0) (pa_cons (pe_bltn (by rfl) T.n_str (by decide +kernel) rfl) pa_nil))))) (pw_or1 (pt_not (pt_chain op_leD op_leD pe_int (pe_callB call_lenD (by rfl) T.n_len (by decide +kernel) (pa_cons (pv 0) pa_nil)) (pe_glob rfl T.c_LONGEST ⟨_, rfl⟩)))))) (pss_one (ps_ret pe_bl)) pss_nil)
      (pss_one (ps_ret (pe_callB (call_allD rfl) (by rfl) T.n_all (by decide +kernel) (pa_cons (pe_lc (own := [("sign", 1)]) (g := (gName 1)) (tt := tYes) rfl nd (pi_seq (pv 0)) (blkOk_by (own := [("sign", 1)]) (N := N_is_name) (sc := defScope s_is_name) (by decide +kernel)) (fun _ _ _ _ _ => (pg_name (i := 1) nd rfl (Or.inl rfl))) (fun _ _ _ _ _ => pts_nil) (fun _ _ _ _ _ => (pe_cmpR (op_inDD (u65 hr)) (pv 1) (pe_glob rfl T.c_LETTERS ⟨_, rfl⟩) rfl))) pa_nil)))))
theorem ok__law_box (T : Tx K mg) : FnG P w K mg base CX0 1 T.a__law_box T.d__law_box ["_law_script", "_law_k"] (spG K pm__law_box) := by
  refine mk_okG (k := 0) T.F__law_box sc__law_box (sem__law_box K) (fun cdv A' outer s H E hG hr => ?_)
  have nd : N__law_box.Nodup := sc__law_box.nd
  exact (pss_cons (ps_set (i := 2) nd rfl (Or.inl rfl) pe_int)
      (pss_cons (ps_if (pt_cmpR op_ltD (pv 1) (pe_callB call_lenD (by rfl) T.n_len (by decide +kernel) (pa_cons (pv 0) pa_nil)) (nomark _)) (pss_one (ps_set (i := 2) nd rfl (Or.inl rfl) (pe_ix ix_D (pv 0) (pv 1) (fun _ _ => rfl)))) pss_nil)
      (pss_one (ps_ret (pe_lst (pa_cons (pe_op op_mulD (pe_callB call_absD (by rfl) T.n_abs (by decide +kernel) (pa_cons (pv 2) pa_nil)) (pe_callTy call_intD (by rfl) T.n_int (by decide +kernel) (pa_cons (pe_cmpR op_geD (pe_callB call_absD (by rfl) T.n_abs (by decide +kernel) (pa_cons (pv 2) pa_nil)) (pe_op op_powD pe_int pe_int) (nomark _)) pa_nil))) (pa_cons (pe_op op_addD (pe_op op_addD (pe_op op_modD (pv 2) pe_int) (pe_op op_mulD pe_int (pv 1))) pe_int) (pa_cons pe_int pa_nil))))))))
theorem ok__law_take (T : Tx K mg) : FnG P w K mg base CX0 1 T.a__law_take T.d__law_take ["_law_box_here", "_law_many"] (spG K pm__law_take) := by
  refine mk_okG (k := 0) T.F__law_take sc__law_take (sem__law_take K) (fun cdv A' outer s H E hG hr => ?_)
  have nd : N__law_take.Nodup := sc__law_take.nd
  exact (pss_cons (ps_if (pt_cmpR op_gtD (pe_ix ix_D (pv 0) pe_int (fun _ _ => rfl)) pe_int (nomark _)) (pss_cons (ps_set (i := 2) nd rfl (Or.inl rfl) (pe_op op_modD (pe_ix ix_D (pv 0) pe_int (fun _ _ => rfl)) (pv 1)))
      (pss_cons (ps_asg (pe_op op_divD (pe_ix ix_D (pv 0) pe_int (fun _ _ => rfl)) (pv 1)) (pg_sub (pv 0) pe_int set_list))
      (pss_one (ps_ret (pv 2))))) pss_nil)
      (pss_cons (ps_asg (pe_op op_addD (pe_ix ix_D (pv 0) pe_int (fun _ _ => rfl)) pe_int) (pg_sub (pv 0) pe_int set_list))
      (pss_cons (ps_set (i := 3) nd rfl (Or.inl rfl) (pe_op op_modD (pe_op op_powD (pe_op op_addD (pe_ix ix_D (pv 0) pe_int (fun _ _ => rfl)) (pe_op op_mulD pe_int (pe_ix ix_D (pv 0) pe_int (fun _ _ => rfl)))) pe_int) pe_int))
      (pss_one (ps_ret (pe_op op_modD (pe_op op_divD (pe_op op_modD (pe_op op_addD (pe_op op_mulD (pv 3) (pe_op op_addD (pe_op op_modD (pv 3) pe_int) pe_int)) (pe_op op_mulD (pe_ix ix_D (pv 0) pe_int (fun _ _ => rfl)) pe_int)) pe_int) pe_int) (pv 1)))))))
theorem ok__law_is (T : Tx K mg) : FnG P w K mg base CX0 1 T.a__law_is T.d__law_is ["_law_thing"] (spG K pm__law_is) := by
  refine mk_okG (k := 0) T.F__law_is sc__law_is (sem__law_is K) (fun cdv A' outer s H E hG hr => ?_)
  have nd : N__law_is.Nodup := sc__law_is.nd
  exact (pss_cons (ps_if (pt_not (pt_val (pe_callB call_isiD (by rfl) T.n_isinstance (by decide +kernel) (pa_cons (pv 0) (pa_cons (pe_bltn (by rfl) T.n_str (by decide +kernel) rfl) pa_nil))))) (pss_one (ps_ret pe_bl)) pss_nil)
      (pss_cons (ps_set (i := 2) nd rfl (Or.inl rfl) (pe_callB (call_sumD rfl) (by rfl) T.n_sum (by decide +kernel) (pa_cons (pe_lc (own := [("_law_letter", 1)]) (g := (gName 1)) (tt := tYes) rfl nd (pi_seq pe_str) (blkOk_by (own := [("_law_letter", 1)]) (N := N__law_is) (sc := defScope s__law_is) (by decide +kernel)) (fun _ _ _ _ _ => (pg_name (i := 1) nd rfl (Or.inl rfl))) (fun _ _ _ _ _ => pts_nil) (fun _ _ _ _ _ => (pe_bm PySem.F.plainAttrs_str PySem.F.slot_str_count PySem.F.type_str_count mt_countD (pv 0) (pa_cons (pv 1) pa_nil)))) pa_nil)))
      (pss_one (ps_ret (pe_and (pe_chain op_ltD op_ltD pe_int (pv 2) pe_int) (pe_one (pe_cmpR (op_eqDD (u64 hr)) (pv 2) (pe_callB call_lenD (by rfl) T.n_len (by decide +kernel) (pa_cons (pv 0) pa_nil)) (nomark _))))))))
theorem ok__law_right (T : Tx K mg) : FnG P w K mg base CX0 2 T.a__law_right T.d__law_right ["_law_thing"] (spG K pm__law_right) := by
  have G_is_name := ok_is_name (P := P) (w := w) (base := base) T
  have G__law_is := ok__law_is (P := P) (w := w) (base := base) T
  refine mk_okG (k := 1) T.F__law_right sc__law_right (sem__law_right K) (fun cdv A' outer s H E hG hr => ?_)
  have nd : N__law_right.Nodup := sc__law_right.nd
  exact (pss_cons (ps_set (i := 1) nd rfl (Or.inl rfl) (pe_callB (call_reprD hG (u64 hr)) (by rfl) T.n_repr (by decide +kernel) (pa_cons (pv 0) pa_nil)))
      (pss_cons (ps_set (i := 2) nd rfl (Or.inl rfl) (pe_lst (pa_cons (pe_callG G_is_name hG (hr.mono (by decide)) rfl T.m_is_name T.F_is_name.kp T.b_is_name .nil pass0 (pa_cons (pv 0) pa_nil)) (pa_cons (pe_callG G_is_name hG (hr.mono (by decide)) rfl T.m_is_name T.F_is_name.kp T.b_is_name .nil pass0 (pa_cons (pv 0) pa_nil)) pa_nil))))
      (pss_one (ps_ret (pe_and (pe_cmpR (op_eqDD (u64 hr)) (pv 2) (pe_op op_mulD (pe_lst (pa_cons (pe_callG G__law_is hG (hr.mono (by decide)) rfl T.m__law_is T.F__law_is.kp T.b__law_is .nil pass0 (pa_cons (pv 0) pa_nil)) pa_nil)) pe_int) (nomark _)) (pe_and (pe_callB (call_allD rfl) (by rfl) T.n_all (by decide +kernel) (pa_cons (pe_lc (own := [("_law_one", 3)]) (g := (gName 3)) (tt := tYes) rfl nd (pi_seq (pv 2)) (blkOk_by (own := [("_law_one", 3)]) (N := N__law_right) (sc := defScope s__law_right) (by decide +kernel)) (fun _ _ _ _ _ => (pg_name (i := 3) nd rfl (Or.inl rfl))) (fun _ _ _ _ _ => pts_nil) (fun _ _ _ _ _ => (pe_callB call_isiD (by rfl) T.n_isinstance (by decide +kernel) (pa_cons (pv 3) (pa_cons (pe_bltn (by rfl) T.n_bool (by decide +kernel) rfl) pa_nil))))) pa_nil)) (pe_one (pe_cmpR (op_eqDD (u64 hr)) (pe_callB (call_reprD hG (u64 hr)) (by rfl) T.n_repr (by decide +kernel) (pa_cons (pv 0) pa_nil)) (pv 1) (nomark _)))))))))
theorem ok__law_name (T : Tx K mg) : FnG P w K mg base CX0 2 T.a__law_name T.d__law_name ["_law_box_here"] (spG K pm__law_name) := by
  have G__law_take := ok__law_take (P := P) (w := w) (base := base) T
  refine mk_okG (k := 1) T.F__law_name sc__law_name (sem__law_name K) (fun cdv A' outer s H E hG hr => ?_)
  have nd : N__law_name.Nodup := sc__law_name.nd
  exact (pss_cons (ps_set (i := 1) nd rfl (Or.inr rfl) pe_str)
      (pss_cons (ps_set (i := 2) nd rfl (Or.inl rfl) (pe_ix ix_D (pe_lst (pa_cons pe_int (pa_cons pe_int (pa_cons (pe_op op_addD pe_int (pe_callG G__law_take hG (hr.mono (by decide)) rfl T.m__law_take T.F__law_take.kp T.b__law_take .nil pass0 (pa_cons (pv 0) (pa_cons pe_int pa_nil)))) pa_nil)))) (pe_callG G__law_take hG (hr.mono (by decide)) rfl T.m__law_take T.F__law_take.kp T.b__law_take .nil pass0 (pa_cons (pv 0) (pa_cons pe_int pa_nil))) (fun _ _ => rfl)))
      (pss_one (ps_ret (pe_bm PySem.F.plainAttrs_str PySem.F.slot_str_join PySem.F.type_str_join mt_joinD pe_str (pa_cons (pe_lc (own := [("_law_k", 3)]) (g := (gName 3)) (tt := tYes) rfl nd (pi_range1 rfl T.n_range (pa_cons (pv 2) pa_nil)) (blkOk_by (own := [("_law_k", 3)]) (N := N__law_name) (sc := defScope s__law_name) (by decide +kernel)) (fun _ _ _ _ _ => (pg_name (i := 3) nd rfl (Or.inl rfl))) (fun _ _ _ _ _ => pts_nil) (fun _ _ _ _ _ => (pe_ix ix_D (pv 1) (pe_callG G__law_take hG (hr.mono (by decide)) rfl T.m__law_take T.F__law_take.kp T.b__law_take .nil pass0 (pa_cons (pv 0) (pa_cons pe_int pa_nil))) (fun _ _ => rfl)))) pa_nil))))))
theorem ok__law_bent (T : Tx K mg) : FnG P w K mg base CX0 2 T.a__law_bent T.d__law_bent ["_law_box_here", "_law_name_here"] (spG K pm__law_bent) := by
  have G__law_take := ok__law_take (P := P) (w := w) (base := base) T
  refine mk_okG (k := 1) T.F__law_bent sc__law_bent (sem__law_bent K) (fun cdv A' outer s H E hG hr => ?_)
  have nd : N__law_bent.Nodup := sc__law_bent.nd
  exact (pss_cons (ps_set (i := 2) nd rfl (Or.inl rfl) pe_str)
      (pss_cons (ps_par (i := 3) (j := 4) (by rfl) nd rfl rfl (by decide) rfl rfl (pa_cons (pe_ix ix_D (pv 2) (pe_callG G__law_take hG (hr.mono (by decide)) rfl T.m__law_take T.F__law_take.kp T.b__law_take .nil pass0 (pa_cons (pv 0) (pa_cons (pe_callB call_lenD (by rfl) T.n_len (by decide +kernel) (pa_cons (pv 2) pa_nil)) pa_nil))) (fun _ _ => rfl)) (pa_cons (pe_callG G__law_take hG (hr.mono (by decide)) rfl T.m__law_take T.F__law_take.kp T.b__law_take .nil pass0 (pa_cons (pv 0) (pa_cons (pe_op op_addD (pe_callB call_lenD (by rfl) T.n_len (by decide +kernel) (pa_cons (pv 1) pa_nil)) pe_int) pa_nil))) pa_nil)) (by rfl))
      (pss_cons (ps_par (i := 5) (j := 6) (by rfl) nd rfl rfl (by decide) rfl rfl (pa_cons (pe_slice sl_D (pv 1) po_none (po_some (pv 4))) (pa_cons (pe_slice sl_D (pv 1) (po_some (pv 4)) po_none) pa_nil)) (by rfl))
      (pss_cons (ps_set (i := 7) nd rfl (Or.inl rfl) (pe_lst (pa_cons (pe_op op_addD (pe_op op_addD (pv 5) (pv 3)) (pv 6)) (pa_cons (pe_op op_addD (pe_op op_addD (pv 5) (pv 3)) (pe_slice sl_D (pv 6) (po_some pe_int) po_none)) (pa_cons (pe_op op_addD (pv 5) (pe_slice sl_D (pv 6) (po_some pe_int) po_none)) (pa_cons (pe_op op_addD (pe_op op_addD (pv 5) (pe_slice sl_D (pv 6) po_none (po_some pe_int))) (pv 6)) pa_nil))))))
      (pss_one (ps_ret (pe_ix ix_D (pe_op op_addD (pv 7) (pe_lst (pa_cons (pe_bm0 PySem.F.plainAttrs_str PySem.F.slot_str_upper PySem.F.type_str_upper mt_upperD (pv 1)) (pa_cons (pe_op op_addD (pv 1) (pv 3)) pa_nil)))) (pe_callG G__law_take hG (hr.mono (by decide)) rfl T.m__law_take T.F__law_take.kp T.b__law_take .nil pass0 (pa_cons (pv 0) (pa_cons pe_int pa_nil))) (fun _ _ => rfl))))))))
theorem ok_law (T : Tx K mg) : FnG P w K mg base CX0 3 T.a_law T.d_law ["_law_script"] (spG K pm_law) := by
  have G__law_box := ok__law_box (P := P) (w := w) (base := base) T
  have G__law_name := ok__law_name (P := P) (w := w) (base := base) T
  have G__law_bent := ok__law_bent (P := P) (w := w) (base := base) T
  have G__law_right := ok__law_right (P := P) (w := w) (base := base) T
  have G_is_name := ok_is_name (P := P) (w := w) (base := base) T
  refine mk_okG (k := 2) T.F_law sc_law (sem_law K) (fun cdv A' outer s H E hG hr => ?_)
  have nd : N_law.Nodup := sc_law.nd
  exact (pss_cons (ps_for PassesOwn.never rfl (pi_range1 rfl T.n_range (pa_cons (pe_op op_addD pe_int (pe_callB (call_min2D rfl) (by rfl) T.n_min (by decide +kernel) (pa_cons pe_int (pa_cons (pe_callB call_lenD (by rfl) T.n_len (by decide +kernel) (pa_cons (pv 0) pa_nil)) pa_nil)))) pa_nil)) (pg_name (i := 1) nd rfl (Or.inl rfl)) (pss_cons (ps_set (i := 2) nd rfl (Or.inl rfl) (pe_callG G__law_box hG (hr.mono (by decide)) rfl T.m__law_box T.F__law_box.kp T.b__law_box .nil pass0 (pa_cons (pv 0) (pa_cons (pv 1) pa_nil))))
      (pss_cons (ps_set (i := 3) nd rfl (Or.inl rfl) (pe_callG G__law_name hG (hr.mono (by decide)) rfl T.m__law_name T.F__law_name.kp T.b__law_name .nil pass0 (pa_cons (pv 2) pa_nil)))
      (pss_cons (ps_set (i := 4) nd rfl (Or.inl rfl) (pe_lst (pa_cons (pv 3) (pa_cons pe_str (pa_cons (pe_op op_addD (pv 3) pe_str) (pa_cons (pe_op op_mulD (pv 3) pe_int) (pa_cons (pe_lst (pa_cons (pv 3) pa_nil)) (pa_cons (pe_tup (pa_cons (pv 3) pa_nil)) (pa_cons (pe_tup (pa_cons (pv 3) (pa_cons (pv 3) pa_nil))) (pa_cons pe_non (pa_cons pe_bl (pa_cons pe_bl (pa_cons pe_int (pa_cons pe_int (pa_cons (pe_lst pa_nil) pa_nil)))))))))))))))
      (pss_cons (ps_for PassesOwn.never rfl (pi_range1 rfl T.n_range (pa_cons pe_int pa_nil)) (pg_name (i := 5) nd rfl (Or.inl rfl)) (pss_one (ps_expr (pe_bm PySem.F.plainAttrs_list PySem.F.slot_list_append PySem.F.type_list_append mt_append (pv 4) (pa_cons (pe_callG G__law_bent hG (hr.mono (by decide)) rfl T.m__law_bent T.F__law_bent.kp T.b__law_bent .nil pass0 (pa_cons (pv 2) (pa_cons (pe_ifExp (PW.pt (pw_and (pt_cmpR (op_eqDD (u64 hr)) (pe_op op_modD (pv 5) pe_int) pe_int (nomark _)) (pw_and1 (pt_val (pe_callB call_isiD (by rfl) T.n_isinstance (by decide +kernel) (pa_cons (pe_ix ix_D (pv 4) (pe_un un_negDD pe_int) (fun _ _ => rfl)) (pa_cons (pe_bltn (by rfl) T.n_str (by decide +kernel) rfl) pa_nil))))))) (pe_ix ix_D (pv 4) (pe_un un_negDD pe_int) (fun _ _ => rfl)) (pv 3)) pa_nil))) pa_nil)))))
      (pss_one (ps_if (PW.pt (pw_or (pt_not (pt_val (pe_callB (call_allD rfl) (by rfl) T.n_all (by decide +kernel) (pa_cons (pe_lc (own := [("_law_thing", 6)]) (g := (gName 6)) (tt := tYes) rfl nd (pi_seq (pv 4)) (blkOk_by (own := [("_law_thing", 6)]) (N := N_law) (sc := defScope s_law) (by decide +kernel)) (fun _ _ _ _ _ => (pg_name (i := 6) nd rfl (Or.inl rfl))) (fun _ _ _ _ _ => pts_nil) (fun _ _ _ _ _ => (pe_callG G__law_right hG (hr.mono (by decide)) rfl T.m__law_right T.F__law_right.kp T.b__law_right .nil pass0 (pa_cons (pv 6) pa_nil)))) pa_nil)))) (pw_or1 (pt_cmpR op_notBD (pe_callG G_is_name hG (hr.mono (by decide)) rfl T.m_is_name T.F_is_name.kp T.b_is_name .nil pass0 (pa_cons (pv 3) pa_nil)) pe_bl (nomark _))))) (pss_one (ps_ret pe_bl)) pss_nil)))))))
      (pss_one (ps_ret pe_bl)))
end
theorem law_start {K : Fg} {H : Hp} {a : Addr} {ns : List Int} (hl : ns.length ≤ 63) (hS : SqL K H a (ns.map V.int)) : spG K pm_law [.ref a] H (fun v _ => v = .bl true) fun _ _ _ => False := by
  refine ⟨Ms.nil, [.d (.list (ns.map .int))], fun s _ => s = .d (.bool true), Md.nil H, ⟨?_, trivial⟩, ⟨ns, rfl, hl, fun _ => rfl⟩, fun v H' s g r e => ?_⟩
  · exact Dq.lst (by
      have e : hid Ms.nil H = H := by funext a; exact if_neg (fun m => nomatch m)
      rw [e]; exact hS) (Das.of_ints ns)
  · subst e; exact Da.bl_inv r
set_option maxHeartbeats 4000000 in
theorem all_mk {l : PySem.W.OpenLaw} {w : World} {K : PySem.W.Frag} {h : Heap} {mg : Str → Option Value} {fa : Addr} (X : K.In h) (G : h.Ns mainGlobals mg) (hfa : mg "law" = some (.ref fa))
    {od0 an0 : Option Addr} {sl0 : Array (Option Value)} {oc0 kV0 dc0 pm0 cd0 ct0 : Value} {f0 : Addr}
    {od1 an1 : Option Addr} {sl1 : Array (Option Value)} {oc1 kV1 dc1 pm1 cd1 ct1 : Value} {f1 : Addr}
    {od2 an2 : Option Addr} {sl2 : Array (Option Value)} {oc2 kV2 dc2 pm2 cd2 ct2 : Value} {f2 : Addr}
    {od3 an3 : Option Addr} {sl3 : Array (Option Value)} {oc3 kV3 dc3 pm3 cd3 ct3 : Value} {f3 : Addr}
    {od4 an4 : Option Addr} {sl4 : Array (Option Value)} {oc4 kV4 dc4 pm4 cd4 ct4 : Value} {f4 : Addr}
    {od5 an5 : Option Addr} {sl5 : Array (Option Value)} {oc5 kV5 dc5 pm5 cd5 ct5 : Value} {f5 : Addr}
    {od6 an6 : Option Addr} {sl6 : Array (Option Value)} {oc6 kV6 dc6 pm6 cd6 ct6 : Value} {f6 : Addr}
    {od7 an7 : Option Addr} {sl7 : Array (Option Value)} {oc7 kV7 dc7 pm7 cd7 ct7 : Value} {f7 : Addr}
    {t0 : Tok}
    {t1 : Tok}
    (a0 : PySem.W.nsIn K mainGlobals "is_name" = some (some (.ref f0))) (l0 : K.lookup f0 = some ⟨oc0, od0, .func (PySem.W.fnOf "is_name" "is_name" (defArgs s_is_name) (defBody s_is_name) (defScope s_is_name) .none kV0 dc0 pm0 an0 cd0 ct0), sl0⟩) (c0 : PySem.W.codeIn K cd0 "is_name" = true) (k0 : PySem.W.keepIn K (.ref f0) = true)
    (a1 : PySem.W.nsIn K mainGlobals "_law_box" = some (some (.ref f1))) (l1 : K.lookup f1 = some ⟨oc1, od1, .func (PySem.W.fnOf "_law_box" "_law_box" (defArgs s__law_box) (defBody s__law_box) (defScope s__law_box) .none kV1 dc1 pm1 an1 cd1 ct1), sl1⟩) (c1 : PySem.W.codeIn K cd1 "_law_box" = true) (k1 : PySem.W.keepIn K (.ref f1) = true)
    (a2 : PySem.W.nsIn K mainGlobals "_law_take" = some (some (.ref f2))) (l2 : K.lookup f2 = some ⟨oc2, od2, .func (PySem.W.fnOf "_law_take" "_law_take" (defArgs s__law_take) (defBody s__law_take) (defScope s__law_take) .none kV2 dc2 pm2 an2 cd2 ct2), sl2⟩) (c2 : PySem.W.codeIn K cd2 "_law_take" = true) (k2 : PySem.W.keepIn K (.ref f2) = true)
    (a3 : PySem.W.nsIn K mainGlobals "_law_is" = some (some (.ref f3))) (l3 : K.lookup f3 = some ⟨oc3, od3, .func (PySem.W.fnOf "_law_is" "_law_is" (defArgs s__law_is) (defBody s__law_is) (defScope s__law_is) .none kV3 dc3 pm3 an3 cd3 ct3), sl3⟩) (c3 : PySem.W.codeIn K cd3 "_law_is" = true) (k3 : PySem.W.keepIn K (.ref f3) = true)
    (a4 : PySem.W.nsIn K mainGlobals "_law_right" = some (some (.ref f4))) (l4 : K.lookup f4 = some ⟨oc4, od4, .func (PySem.W.fnOf "_law_right" "_law_right" (defArgs s__law_right) (defBody s__law_right) (defScope s__law_right) .none kV4 dc4 pm4 an4 cd4 ct4), sl4⟩) (c4 : PySem.W.codeIn K cd4 "_law_right" = true) (k4 : PySem.W.keepIn K (.ref f4) = true)
    (a5 : PySem.W.nsIn K mainGlobals "_law_name" = some (some (.ref f5))) (l5 : K.lookup f5 = some ⟨oc5, od5, .func (PySem.W.fnOf "_law_name" "_law_name" (defArgs s__law_name) (defBody s__law_name) (defScope s__law_name) .none kV5 dc5 pm5 an5 cd5 ct5), sl5⟩) (c5 : PySem.W.codeIn K cd5 "_law_name" = true) (k5 : PySem.W.keepIn K (.ref f5) = true)
    (a6 : PySem.W.nsIn K mainGlobals "_law_bent" = some (some (.ref f6))) (l6 : K.lookup f6 = some ⟨oc6, od6, .func (PySem.W.fnOf "_law_bent" "_law_bent" (defArgs s__law_bent) (defBody s__law_bent) (defScope s__law_bent) .none kV6 dc6 pm6 an6 cd6 ct6), sl6⟩) (c6 : PySem.W.codeIn K cd6 "_law_bent" = true) (k6 : PySem.W.keepIn K (.ref f6) = true)
    (a7 : PySem.W.nsIn K mainGlobals "law" = some (some (.ref f7))) (l7 : K.lookup f7 = some ⟨oc7, od7, .func (PySem.W.fnOf "law" "law" (defArgs s_law) (defBody s_law) (defScope s_law) .none kV7 dc7 pm7 an7 cd7 ct7), sl7⟩) (c7 : PySem.W.codeIn K cd7 "law" = true) (k7 : PySem.W.keepIn K (.ref f7) = true)
    (z0 : PySem.W.nsIn K mainGlobals "isinstance" = some none)
    (z1 : PySem.W.nsIn K mainGlobals "str" = some none)
    (z2 : PySem.W.nsIn K mainGlobals "len" = some none)
    (z3 : PySem.W.nsIn K mainGlobals "all" = some none)
    (z4 : PySem.W.nsIn K mainGlobals "abs" = some none)
    (z5 : PySem.W.nsIn K mainGlobals "int" = some none)
    (z6 : PySem.W.nsIn K mainGlobals "sum" = some none)
    (z7 : PySem.W.nsIn K mainGlobals "repr" = some none)
    (z8 : PySem.W.nsIn K mainGlobals "bool" = some none)
    (z9 : PySem.W.nsIn K mainGlobals "range" = some none)
    (z10 : PySem.W.nsIn K mainGlobals "min" = some none)
    (hg0 : PySem.W.nsIn K mainGlobals "LONGEST" = some (some (.int 8 t0)))
    (hg1 : PySem.W.nsIn K mainGlobals "LETTERS" = some (some (.str "abcdefghijklmnopqrstuvwxyz" t1))) :
    ∃ fd : FuncData, (∀ (s : Shared) (v : Value), BindsTo s fd ⟨[v], []⟩ [("_law_script", v)]) ∧ ∀ base : Heap, K.In base → base.Ns mainGlobals mg → FnG l.prog w K mg base CX0 3 fa fd ["_law_script"] (spG K pm_law) := by
  have e := hfa.symm.trans (PySem.W.mg_of X G a7)
  cases e
  have F0 := fun_mk (st := s_is_name) l0 c0 k0
  have b0 := F0.binds (ps := ["thing"]) fun _ _ _ _ _ _ us hl => match us, hl with | [_], _ => rfl
  have F1 := fun_mk (st := s__law_box) l1 c1 k1
  have b1 := F1.binds (ps := ["_law_script", "_law_k"]) fun _ _ _ _ _ _ us hl => match us, hl with | [_, _], _ => rfl
  have F2 := fun_mk (st := s__law_take) l2 c2 k2
  have b2 := F2.binds (ps := ["_law_box_here", "_law_many"]) fun _ _ _ _ _ _ us hl => match us, hl with | [_, _], _ => rfl
  have F3 := fun_mk (st := s__law_is) l3 c3 k3
  have b3 := F3.binds (ps := ["_law_thing"]) fun _ _ _ _ _ _ us hl => match us, hl with | [_], _ => rfl
  have F4 := fun_mk (st := s__law_right) l4 c4 k4
  have b4 := F4.binds (ps := ["_law_thing"]) fun _ _ _ _ _ _ us hl => match us, hl with | [_], _ => rfl
  have F5 := fun_mk (st := s__law_name) l5 c5 k5
  have b5 := F5.binds (ps := ["_law_box_here"]) fun _ _ _ _ _ _ us hl => match us, hl with | [_], _ => rfl
  have F6 := fun_mk (st := s__law_bent) l6 c6 k6
  have b6 := F6.binds (ps := ["_law_box_here", "_law_name_here"]) fun _ _ _ _ _ _ us hl => match us, hl with | [_, _], _ => rfl
  have F7 := fun_mk (st := s_law) l7 c7 k7
  have b7 := F7.binds (ps := ["_law_script"]) fun _ _ _ _ _ _ us hl => match us, hl with | [_], _ => rfl
  let T : Tx K mg := { n_isinstance := PySem.W.mg_none_of X G z0, n_str := PySem.W.mg_none_of X G z1, n_len := PySem.W.mg_none_of X G z2, n_all := PySem.W.mg_none_of X G z3, n_abs := PySem.W.mg_none_of X G z4, n_int := PySem.W.mg_none_of X G z5, n_sum := PySem.W.mg_none_of X G z6, n_repr := PySem.W.mg_none_of X G z7, n_bool := PySem.W.mg_none_of X G z8, n_range := PySem.W.mg_none_of X G z9, n_min := PySem.W.mg_none_of X G z10, k_LONGEST := t0, c_LONGEST := PySem.W.mg_of X G hg0, k_LETTERS := t1, c_LETTERS := PySem.W.mg_of X G hg1, a_is_name := f0, d_is_name := _, m_is_name := PySem.W.mg_of X G a0, F_is_name := F0, b_is_name := b0, a__law_box := f1, d__law_box := _, m__law_box := PySem.W.mg_of X G a1, F__law_box := F1, b__law_box := b1, a__law_take := f2, d__law_take := _, m__law_take := PySem.W.mg_of X G a2, F__law_take := F2, b__law_take := b2, a__law_is := f3, d__law_is := _, m__law_is := PySem.W.mg_of X G a3, F__law_is := F3, b__law_is := b3, a__law_right := f4, d__law_right := _, m__law_right := PySem.W.mg_of X G a4, F__law_right := F4, b__law_right := b4, a__law_name := f5, d__law_name := _, m__law_name := PySem.W.mg_of X G a5, F__law_name := F5, b__law_name := b5, a__law_bent := f6, d__law_bent := _, m__law_bent := PySem.W.mg_of X G a6, F__law_bent := F6, b__law_bent := b6, a_law := fa, d_law := _, m_law := PySem.W.mg_of X G a7, F_law := F7, b_law := b7 }
  exact ⟨PySem.W.fnOf "law" "law" (defArgs s_law) (defBody s_law) (defScope s_law) .none kV7 dc7 pm7 an7 cd7 ct7, fun s v => .of_eq rfl, fun base _ _ => ok_law T⟩
theorem walk {l : PySem.W.OpenLaw} {q : Program} {loose : List Str} {XP : (Str → Option Value) → Heap → Prop} {YP : World → Heap → Prop} {d : DefRec} {K : Params → PySem.W.Frag} (hn : l.most = some 63) (hdf : d.params.defaults = [])
    (hY : ∀ (w : World) (h : Heap), YP w h → (K w.params).In h)
    (F : ∀ (w : World) (mg : Str → Option Value) (fa : Addr) (h : Heap), (K w.params).In h → h.Ns mainGlobals mg → mg d.name = some (.ref fa) →
      ∃ fd : FuncData, (∀ (s : Shared) (u : Value), BindsTo s fd ⟨[u], []⟩ [("_law_script", u)]) ∧ ∀ base : Heap, (K w.params).In base → base.Ns mainGlobals mg → FnG l.prog w (K w.params) mg base CX0 3 fa fd ["_law_script"] (spG (K w.params) pm_law)) :
    PySem.W.WalkO q loose XP YP l.row.toRowW d [] (fun f vs => PySem.call f vs) :=
  DL.walk_ofG (n := 63) (k := 3) (x := "_law_script") (CX := fun _ => CX0) (sp := fun w => spG (K w.params) pm_law) hn (by decide) hdf ⟨rfl, by decide, by decide⟩ hY F (fun _ _ a ns hl _ hS => law_start hl hS) fun _ _ _ _ _ z => z
end KL
open PySem PySem.W PyProof.Rows in
set_option maxRecDepth 100000 in
set_option maxHeartbeats 0 in
theorem PySem.Challenge.cw_partwares_k01_names_holds : PySem.Challenge.rw_partwares_k01_names.Holds := by
  w_on; o_law; k_head; (case hw => w_witness2)
  k_fill
  refine KL.walk (l := PySem.Challenge.rw_partwares_k01_names) rfl rfl (fun w h Y => PySem.W.kIn_of Y) ?F
  case F =>
    intro w mg fa h KX G hmg
    refine' KL.all_mk KX G hmg ?a0 ?l0 ?c0 ?k0 ?a1 ?l1 ?c1 ?k1 ?a2 ?l2 ?c2 ?k2 ?a3 ?l3 ?c3 ?k3 ?a4 ?l4 ?c4 ?k4 ?a5 ?l5 ?c5 ?k5 ?a6 ?l6 ?c6 ?k6 ?a7 ?l7 ?c7 ?k7 ?z0 ?z1 ?z2 ?z3 ?z4 ?z5 ?z6 ?z7 ?z8 ?z9 ?z10 ?hg0 ?hg1
    (case a0 => k_is)
    (case l0 => k_is)
    (case c0 => k_is)
    (case k0 => k_is)
    (case a1 => k_is)
    (case l1 => k_is)
    (case c1 => k_is)
    (case k1 => k_is)
    (case a2 => k_is)
    (case l2 => k_is)
    (case c2 => k_is)
    (case k2 => k_is)
    (case a3 => k_is)
    (case l3 => k_is)
    (case c3 => k_is)
    (case k3 => k_is)
    (case a4 => k_is)
    (case l4 => k_is)
    (case c4 => k_is)
    (case k4 => k_is)
    (case a5 => k_is)
    (case l5 => k_is)
    (case c5 => k_is)
    (case k5 => k_is)
    (case a6 => k_is)
    (case l6 => k_is)
    (case c6 => k_is)
    (case k6 => k_is)
    (case a7 => k_is)
    (case l7 => k_is)
    (case c7 => k_is)
    (case k7 => k_is)
    (case z0 => k_is)
    (case z1 => k_is)
    (case z2 => k_is)
    (case z3 => k_is)
    (case z4 => k_is)
    (case z5 => k_is)
    (case z6 => k_is)
    (case z7 => k_is)
    (case z8 => k_is)
    (case z9 => k_is)
    (case z10 => k_is)
    (case hg0 => k_is)
    (case hg1 => k_is)
