import PyProof.Rows.All
import Wide.All
import OpenK.AllK
import Wide.FinOn
import HandS.ForMost
import HandS.IsInst
import HandS.Deep
import HandS.TupAny
import HandS.Style
import HandS.SortInts
import KE.OsSort
import HandS.FStr
import HandS.Text
import HandS.StrMore
import HandS.StrSplit
import HandS.NoneIn
import PyProof.ReprRoads
import HandS.Zip
import HandS.More
import HandS.Strs
import HandS.SortKw
import PySem.Challenge.RW_partwares_k30_least_in_stretches_of_days
set_option Elab.async false
set_option linter.all false
set_option maxRecDepth 100000
namespace DL
open PySem L2

/-! ### heaps -/
abbrev Fg := PySem.W.Frag
/-- places that no data knows (h), and of these those that may be written (w) -/
structure Ms where
  h : List Addr
  w : List Addr
  sub : ∀ a, a ∈ w → a ∈ h
/-- nothing is written -/
def Ms.pure (M : Ms) : Ms := ⟨M.h, [], fun _ m => nomatch m⟩
/-- these alone are written -/
def Ms.only (M : Ms) (l : List Addr) (s : ∀ a, a ∈ l → a ∈ M.h) : Ms := ⟨M.h, l, s⟩
/-- one more, written -/
def Ms.add (M : Ms) (p : Addr) : Ms := ⟨p :: M.h, p :: M.w, fun a m => by
  rcases List.mem_cons.mp m with e | e
  · exact List.mem_cons.mpr (.inl e)
  · exact List.mem_cons.mpr (.inr (M.sub a e))⟩
def Ms.nil : Ms := ⟨[], [], fun _ m => nomatch m⟩
def hid (M : Ms) (H : Hp) : Hp := fun a => if a ∈ M.h then none else H a
/-- the layer's word for «all that was tracked stands» -/
abbrev Ex : Hp → Hp → Prop := L2.Same
/-- all but the places of M stays -/
def Go (M : Ms) (H H' : Hp) : Prop := (∀ a o, a ∉ M.w → H a = some o → H' a = some o) ∧ ∀ a o, H a = some o → ∃ o', H' a = some o'
def Md (M : Ms) (H : Hp) : Prop := ∀ a, a ∈ M.h → ∃ o, H a = some o
theorem Ex.refl (H : Hp) : Ex H H := L2.Same.refl H
theorem Ex.trans {F G J : Hp} (p : Ex F G) (q : Ex G J) : Ex F J := L2.Same.trans p q
theorem Ex.new {G : Hp} {q : Addr} {u : HO} (free : G q = none) : Ex G (upd G q u) := fun b w there => (upd_ne (ne_of_none there free)).trans there
theorem Ex.go {M : Ms} {H H' : Hp} (e : Ex H H') : Go M H H' := ⟨fun a o _ h => e a o h, fun a o h => ⟨o, e a o h⟩⟩
theorem Go.refl (M : Ms) (H : Hp) : Go M H H := (Ex.refl H).go
theorem Go.trans {M : Ms} {H H1 H2 : Hp} (a : Go M H H1) (b : Go M H1 H2) : Go M H H2 :=
  ⟨fun x o n h => b.1 x o n (a.1 x o n h), fun x o h => by obtain ⟨o', h'⟩ := a.2 x o h; exact b.2 x o' h'⟩
theorem Go.sub {M N : Ms} {H H' : Hp} (s : ∀ a, a ∈ M.w → a ∈ N.w) (g : Go M H H') : Go N H H' := ⟨fun a o n h => g.1 a o (fun m => n (s a m)) h, g.2⟩
theorem Go.ex {M : Ms} {H H' : Hp} (g : Go M H H') : Ex (hid M H) (hid M H') := fun a o h => by
  unfold hid at h ⊢
  by_cases m : a ∈ M.h
  · rw [if_pos m] at h; cases h
  · rw [if_neg m] at h ⊢; exact g.1 a o (fun q => m (M.sub a q)) h
theorem Md.go {M N : Ms} {H H' : Hp} (d : Md M H) (g : Go N H H') : Md M H' := fun a m => by obtain ⟨o, h⟩ := d a m; exact g.2 a o h
theorem Md.ex {M : Ms} {H H' : Hp} (d : Md M H) (e : Ex H H') : Md M H' := d.go (e.go (M := Ms.nil))
theorem Go.pure {M : Ms} {H H' : Hp} (g : Go M.pure H H') : Ex H H' := fun a o h => g.1 a o (fun m => nomatch m) h
theorem Md.pure {M : Ms} {H : Hp} (d : Md M H) : Md M.pure H := d
theorem Md.add {M : Ms} {H : Hp} {p : Addr} {o : HO} (d : Md M H) (h : H p = some o) : Md (M.add p) H := fun a m => by
  rcases List.mem_cons.mp m with e | e
  · exact ⟨o, e ▸ h⟩
  · exact d a e
theorem Md.fresh {M : Ms} {H : Hp} (d : Md M H) {p : Addr} (h : H p = none) : p ∉ M.h := fun m => by obtain ⟨o, e⟩ := d p m; rw [h] at e; cases e
theorem hid_le (M : Ms) (H : Hp) : Ex (hid M H) H := fun a o h => by
  unfold hid at h
  by_cases m : a ∈ M.h
  · rw [if_pos m] at h; cases h
  · rw [if_neg m] at h; exact h
theorem hid_ne {M : Ms} {H : Hp} {a : Addr} (h : a ∉ M.h) : hid M H a = H a := if_neg h
theorem Md.nil (H : Hp) : Md Ms.nil H := fun _ m => nomatch m
theorem fresh_back {F G : Hp} {q : Addr} (k : Ex F G) (free : G q = none) : F q = none := L2.Same.free k free
theorem go_back {M : Ms} {H H' : Hp} {p : Addr} (e : Go M H H') (h : H' p = none) : H p = none := by
  cases h1 : H p with
  | none => rfl
  | some o => obtain ⟨o', e'⟩ := e.2 p o h1; rw [e'] at h; cases h
/-- a place of M is written -/
theorem Go.mut {M : Ms} {H : Hp} {p : Addr} {o : HO} (m : p ∈ M.w) : Go M H (upd H p o) := ⟨fun a u n h => by
  have q : a ≠ p := fun e => n (e ▸ m)
  rw [upd_ne q]; exact h, fun a u h => by
  by_cases q : a = p
  · subst q; exact ⟨o, upd_same⟩
  · exact ⟨u, by rw [upd_ne q]; exact h⟩⟩

/-! ### data -/
mutual
/-- v holds the data d (a list that may be read as it stands; a tuple also of the written part) -/
inductive Dq (K : Fg) (H : Hp) : V → PyData → Prop
  | non : Dq K H .non .none
  | bl (b : Bool) : Dq K H (.bl b) (.bool b)
  | int (i : Int) : Dq K H (.int i) (.int i)
  | str (x : Str) : Dq K H (.str x) (.str x)
  | lst {a : Addr} {xs : List V} {ds : List PyData} : SqL K H a xs → DqAll K H xs ds → Dq K H (.ref a) (.list ds)
  | tup {a : Addr} {xs : List V} {ds : List PyData} : SqT K H a xs → DqAll K H xs ds → Dq K H (.ref a) (.tuple ds)
inductive DqAll (K : Fg) (H : Hp) : List V → List PyData → Prop
  | nil : DqAll K H [] []
  | cons {v : V} {vs : List V} {d : PyData} {ds : List PyData} : Dq K H v d → DqAll K H vs ds → DqAll K H (v :: vs) (d :: ds)
end
mutual
theorem Dq.dp {K : Fg} {H : Hp} : ∀ (d : PyData) (v : V), Dq K H v d → Dp K H v d
  | _, _, .non => .non
  | _, _, .bl b => .bl b
  | _, _, .int i => .int i
  | _, _, .str x => .str x
  | .list ds, _, .lst (xs := xs) s a => .lst s (DqAll.dp ds xs a)
  | .tuple ds, _, .tup (xs := xs) s a => .tup s (DqAll.dp ds xs a)
theorem DqAll.dp {K : Fg} {H : Hp} : ∀ (ds : List PyData) (vs : List V), DqAll K H vs ds → DpAll K H vs ds
  | [], _, .nil => .nil
  | d :: ds, v :: vs, .cons h t => .cons (Dq.dp d v h) (DqAll.dp ds vs t)
end
theorem ex_l {K : Fg} {F G : Hp} {q : Addr} {vs : List V} (k : Ex F G) (h : SqL K F q vs) : SqL K G q vs := L2.Same.seq k h
theorem ex_t {K : Fg} {F G : Hp} {q : Addr} {vs : List V} (k : Ex F G) : SqT K F q vs → SqT K G q vs
  | .inl (.inl h) => .inl (.inl (k q _ h))
  | .inl (.inr ⟨ob, h⟩) => .inl (.inr ⟨ob, k q _ h⟩)
  | .inr h => .inr h
mutual
theorem dp_ex {K : Fg} {H H' : Hp} (e : Ex H H') : ∀ (d : PyData) (v : V), Dq K H v d → Dq K H' v d
  | _, _, .non => .non
  | _, _, .bl b => .bl b
  | _, _, .int i => .int i
  | _, _, .str x => .str x
  | .list ds, _, .lst (xs := xs) s a => .lst (ex_l e s) (dps_ex e ds xs a)
  | .tuple ds, _, .tup (xs := xs) s a => .tup (ex_t e s) (dps_ex e ds xs a)
theorem dps_ex {K : Fg} {H H' : Hp} (e : Ex H H') : ∀ (ds : List PyData) (vs : List V), DqAll K H vs ds → DqAll K H' vs ds
  | [], _, .nil => .nil
  | d :: ds, v :: vs, .cons h t => .cons (dp_ex e d v h) (dps_ex e ds vs t)
end
/-- v holds the data d, in H but the places of M -/
abbrev Da (K : Fg) (M : Ms) (H : Hp) (v : V) (d : PyData) : Prop := Dq K (hid M H) v d
abbrev Das (K : Fg) (M : Ms) (H : Hp) (vs : List V) (ds : List PyData) : Prop := DqAll K (hid M H) vs ds
theorem Da.go {K : Fg} {M : Ms} {H H' : Hp} {v : V} {d : PyData} (h : Da K M H v d) (g : Go M H H') : Da K M H' v d := dp_ex g.ex d v h
theorem Das.go {K : Fg} {M : Ms} {H H' : Hp} {v : List V} {d : List PyData} (h : Das K M H v d) (g : Go M H H') : Das K M H' v d := dps_ex g.ex d v h
theorem Da.ex {K : Fg} {M : Ms} {H H' : Hp} {v : V} {d : PyData} (h : Da K M H v d) (g : Ex H H') : Da K M H' v d := h.go g.go
theorem Das.ex {K : Fg} {M : Ms} {H H' : Hp} {v : List V} {d : List PyData} (h : Das K M H v d) (g : Ex H H') : Das K M H' v d := h.go g.go
theorem Da.dq {K : Fg} {M : Ms} {H : Hp} {v : V} {d : PyData} (h : Da K M H v d) : Dq K H v d := dp_ex (hid_le M H) d v h
theorem Da.dp {K : Fg} {M : Ms} {H : Hp} {v : V} {d : PyData} (h : Da K M H v d) : Dp K H v d := Dq.dp d v h.dq
theorem Das.dq {K : Fg} {M : Ms} {H : Hp} {v : List V} {d : List PyData} (h : Das K M H v d) : DqAll K H v d := dps_ex (hid_le M H) d v h
theorem Das.dp {K : Fg} {M : Ms} {H : Hp} {v : List V} {d : List PyData} (h : Das K M H v d) : DpAll K H v d := DqAll.dp d v h.dq
theorem Das.len {K : Fg} {H : Hp} : ∀ {vs : List V} {ds : List PyData}, DqAll K H vs ds → vs.length = ds.length
  | _, _, .nil => rfl
  | _, _, .cons _ t => by rw [List.length_cons, List.length_cons, Das.len t]
theorem Das.get {K : Fg} {H : Hp} : ∀ {vs : List V} {ds : List PyData} {i : Nat} {d : PyData}, DqAll K H vs ds → ds[i]? = some d → ∃ v, vs[i]? = some v ∧ Dq K H v d
  | _, _, _, _, .nil, e => by simp at e
  | _, _, 0, d, .cons h _, e => by simp at e; subst e; exact ⟨_, rfl, h⟩
  | _, _, i + 1, d, .cons _ t, e => by simpa using Das.get (i := i) t (by simpa using e)
theorem Das.get' {K : Fg} {H : Hp} : ∀ {vs : List V} {ds : List PyData} {i : Nat} {v : V}, DqAll K H vs ds → vs[i]? = some v → ∃ d, ds[i]? = some d ∧ Dq K H v d
  | _, _, _, _, .nil, e => by simp at e
  | _, _, 0, d, .cons h _, e => by simp at e; subst e; exact ⟨_, rfl, h⟩
  | _, _, i + 1, d, .cons _ t, e => by simpa using Das.get' (i := i) t (by simpa using e)
theorem Das.app {K : Fg} {H : Hp} : ∀ {vs : List V} {ds : List PyData} {us : List V} {es : List PyData}, DqAll K H vs ds → DqAll K H us es → DqAll K H (vs ++ us) (ds ++ es)
  | _, _, _, _, .nil, h => h
  | _, _, _, _, .cons a t, h => .cons a (Das.app t h)
theorem Das.take {K : Fg} {H : Hp} : ∀ {vs : List V} {ds : List PyData} (n : Nat), DqAll K H vs ds → DqAll K H (vs.take n) (ds.take n)
  | _, _, 0, _ => .nil
  | _, _, _ + 1, .nil => .nil
  | _, _, n + 1, .cons a t => .cons a (Das.take n t)
theorem Das.drop {K : Fg} {H : Hp} : ∀ {vs : List V} {ds : List PyData} (n : Nat), DqAll K H vs ds → DqAll K H (vs.drop n) (ds.drop n)
  | _, _, 0, h => h
  | _, _, _ + 1, .nil => .nil
  | _, _, n + 1, .cons _ t => Das.drop n t
theorem Das.set {K : Fg} {H : Hp} {v : V} {d : PyData} (h : Dq K H v d) : ∀ {vs : List V} {ds : List PyData} (n : Nat), DqAll K H vs ds → DqAll K H (vs.set n v) (ds.set n d)
  | _, _, _, .nil => .nil
  | _, _, 0, .cons _ t => .cons h t
  | _, _, n + 1, .cons a t => .cons a (Das.set h n t)
theorem Das.rev {K : Fg} {H : Hp} {vs : List V} {ds : List PyData} (h : DqAll K H vs ds) : DqAll K H vs.reverse ds.reverse := by
  induction ds generalizing vs with
  | nil => cases h; exact .nil
  | cons d ds ih =>
    cases h with
    | cons a t => rw [List.reverse_cons, List.reverse_cons]; exact Das.app (ih t) (.cons a .nil)
theorem Das.rep {K : Fg} {H : Hp} {vs : List V} {ds : List PyData} (h : DqAll K H vs ds) : ∀ n : Nat, DqAll K H (List.replicate n vs).flatten (List.replicate n ds).flatten
  | 0 => .nil
  | n + 1 => by rw [List.replicate_succ, List.replicate_succ, List.flatten_cons, List.flatten_cons]; exact Das.app h (Das.rep h n)
theorem Das.ints {K : Fg} {H : Hp} : ∀ {vs : List V} {ns : List Int}, DqAll K H vs (ns.map PyData.int) → vs = ns.map V.int
  | _, [], .nil => rfl
  | _, n :: ns, .cons h t => by cases h; rw [Das.ints t]; rfl
theorem Das.strs {K : Fg} {H : Hp} : ∀ {vs : List V} {ns : List Str}, DqAll K H vs (ns.map PyData.str) → vs = ns.map V.str
  | _, [], .nil => rfl
  | _, n :: ns, .cons h t => by cases h; rw [Das.strs t]; rfl
theorem Das.bls {K : Fg} {H : Hp} : ∀ {vs : List V} {ns : List Bool}, DqAll K H vs (ns.map PyData.bool) → vs = ns.map V.bl
  | _, [], .nil => rfl
  | _, n :: ns, .cons h t => by cases h; rw [Das.bls t]; rfl
theorem Das.of_ints {K : Fg} {H : Hp} : ∀ (ns : List Int), DqAll K H (ns.map V.int) (ns.map PyData.int)
  | [] => .nil
  | n :: ns => .cons (.int n) (Das.of_ints ns)
theorem Das.of_strs {K : Fg} {H : Hp} : ∀ (ns : List Str), DqAll K H (ns.map V.str) (ns.map PyData.str)
  | [] => .nil
  | n :: ns => .cons (.str n) (Das.of_strs ns)
theorem Das.of_bls {K : Fg} {H : Hp} : ∀ (ns : List Bool), DqAll K H (ns.map V.bl) (ns.map PyData.bool)
  | [] => .nil
  | n :: ns => .cons (.bl n) (Das.of_bls ns)
/-- a list that is tracked outside of M is data -/
theorem Da.lst {K : Fg} {M : Ms} {H : Hp} {p : Addr} {xs : List V} {ds : List PyData} (m : p ∉ M.h) (h : H p = some (.lst xs)) (a : Das K M H xs ds) : Da K M H (.ref p) (.list ds) := Dq.lst (Or.inl (Or.inl (by rw [hid_ne m]; exact h))) a
theorem Da.tup {K : Fg} {M : Ms} {H : Hp} {p : Addr} {xs : List V} {ds : List PyData} (m : p ∉ M.h) (h : H p = some (.tup xs)) (a : Das K M H xs ds) : Da K M H (.ref p) (.tuple ds) := Dq.tup (Or.inl (Or.inl (by rw [hid_ne m]; exact h))) a
theorem Da.new_lst {K : Fg} {M : Ms} {H : Hp} {p : Addr} {xs : List V} {ds : List PyData} (d : Md M H) (n : H p = none) (a : Das K M H xs ds) : Da K M (upd H p (.lst xs)) (.ref p) (.list ds) :=
  Da.lst (d.fresh n) upd_same (a.ex (Ex.new n))
theorem Da.new_tup {K : Fg} {M : Ms} {H : Hp} {p : Addr} {xs : List V} {ds : List PyData} (d : Md M H) (n : H p = none) (a : Das K M H xs ds) : Da K M (upd H p (.tup xs)) (.ref p) (.tuple ds) :=
  Da.tup (d.fresh n) upd_same (a.ex (Ex.new n))

/-- data of less is data of more -/
theorem hid_mono {M N : Ms} (s : ∀ a, a ∈ M.h → a ∈ N.h) (H : Hp) : Ex (hid N H) (hid M H) := fun a o h => by
  unfold hid at h ⊢
  by_cases m : a ∈ N.h
  · rw [if_pos m] at h; cases h
  · rw [if_neg m] at h; rw [if_neg (fun q => m (s a q))]; exact h
theorem Da.mono {K : Fg} {M N : Ms} {H : Hp} {v : V} {d : PyData} (s : ∀ a, a ∈ M.h → a ∈ N.h) (h : Da K N H v d) : Da K M H v d := dp_ex (hid_mono s H) d v h
theorem Das.mono {K : Fg} {M N : Ms} {H : Hp} {v : List V} {d : List PyData} (s : ∀ a, a ∈ M.h → a ∈ N.h) (h : Das K N H v d) : Das K M H v d := dps_ex (hid_mono s H) d v h
/-- a new place is hidden -/
theorem hid_add {M : Ms} {H : Hp} {p : Addr} {o : HO} (n : H p = none) : Ex (hid M H) (hid (M.add p) (upd H p o)) := fun a u h => by
  have q : a ≠ p := fun e => by
    have := hid_le M H a u h
    rw [e, n] at this; cases this
  unfold hid at h ⊢
  by_cases m : a ∈ M.h
  · rw [if_pos m] at h; cases h
  · rw [if_neg m] at h
    rw [if_neg (fun z => by rcases List.mem_cons.mp z with e | e; exact q e; exact m e), upd_ne q]; exact h
end DL
set_option maxRecDepth 100000
namespace DL
open PySem L2
section
variable {K : Fg} {M : Ms} {H H' : Hp}

/-! ### what is there, as data -/
theorem Da.int_inv {x : V} {i : Int} (h : Da K M H x (.int i)) : x = .int i := by cases h; rfl
theorem Da.str_inv {x : V} {i : Str} (h : Da K M H x (.str i)) : x = .str i := by cases h; rfl
theorem Da.bl_inv {x : V} {i : Bool} (h : Da K M H x (.bool i)) : x = .bl i := by cases h; rfl
theorem Da.non_inv {x : V} (h : Da K M H x .none) : x = .non := by cases h; rfl
theorem hid_l {a : Addr} {xs : List V} (h : SqL K (hid M H) a xs) : SqL K H a xs := ex_l (hid_le M H) h
theorem hid_t {a : Addr} {xs : List V} (h : SqT K (hid M H) a xs) : SqT K H a xs := ex_t (hid_le M H) h

/-- v is the data d; where d is a list, v's own place may be one that changes -/
inductive Dt (K : Fg) (M : Ms) (H : Hp) : V → PyData → Prop
  | da {v : V} {d : PyData} : Da K M H v d → Dt K M H v d
  | op {a : Addr} {xs : List V} {ds : List PyData} : SqL K H a xs → Das K M H xs ds → Dt K M H (.ref a) (.list ds)
inductive Dts (K : Fg) (M : Ms) (H : Hp) : List V → List PyData → Prop
  | nil : Dts K M H [] []
  | cons {v : V} {vs : List V} {d : PyData} {ds : List PyData} : Dt K M H v d → Dts K M H vs ds → Dts K M H (v :: vs) (d :: ds)
theorem hid_nil {H : Hp} : hid Ms.nil H = H := by funext a; exact if_neg (fun m => nomatch m)
theorem Dt.int_inv {x : V} {i : Int} (h : Dt K M H x (.int i)) : x = .int i := by cases h with | da h => exact Da.int_inv h
theorem Dt.str_inv {x : V} {i : Str} (h : Dt K M H x (.str i)) : x = .str i := by cases h with | da h => exact Da.str_inv h
theorem Dt.bl_inv {x : V} {i : Bool} (h : Dt K M H x (.bool i)) : x = .bl i := by cases h with | da h => exact Da.bl_inv h
theorem Dt.non_inv {x : V} (h : Dt K M H x .none) : x = .non := by cases h with | da h => exact Da.non_inv h
theorem Dt.dp {x : V} {d : PyData} (h : Dt K M H x d) : Dp K H x d := by
  cases h with
  | da h => exact Da.dp h
  | op s a => exact .lst s (Das.dp a)
theorem Dt.list_inv {x : V} {ds : List PyData} (h : Dt K M H x (.list ds)) : ∃ a xs, x = .ref a ∧ SqL K (hid Ms.nil H) a xs ∧ Das K M H xs ds := by
  rw [hid_nil]
  cases h with
  | da h => cases h with | lst s a => exact ⟨_, _, rfl, hid_l s, a⟩
  | op s a => exact ⟨_, _, rfl, s, a⟩
theorem Dt.tup_inv {x : V} {ds : List PyData} (h : Dt K M H x (.tuple ds)) : ∃ a xs, x = .ref a ∧ SqT K (hid M H) a xs ∧ Das K M H xs ds := by
  cases h with
  | da h => cases h with | tup s a => exact ⟨_, _, rfl, s, a⟩
theorem Dts.len : ∀ {vs : List V} {ds : List PyData}, Dts K M H vs ds → vs.length = ds.length
  | _, _, .nil => rfl
  | _, _, .cons _ t => by rw [List.length_cons, List.length_cons, Dts.len t]
theorem Dts.one {vs : List V} {d : PyData} (h : Dts K M H vs [d]) : ∃ v, vs = [v] ∧ Dt K M H v d := by
  cases h with | cons a t => cases t; exact ⟨_, rfl, a⟩
theorem Dts.two {vs : List V} {d e : PyData} (h : Dts K M H vs [d, e]) : ∃ v u, vs = [v, u] ∧ Dt K M H v d ∧ Dt K M H u e := by
  cases h with | cons a t => obtain ⟨u, rfl, b⟩ := Dts.one t; exact ⟨_, _, rfl, a, b⟩
/-! ### operators on data, by relations -/
def rB (K : Fg) (g : PyData → PyData → PyData → Prop) : R2 := fun x y H Q => ∃ M d e z, Md M H ∧ Dt K M H x d ∧ Dt K M H y e ∧ g d e z ∧ ∀ v H', Ex H H' → Da K M H' v z → Q v H'
def rU1 (K : Fg) (g : PyData → PyData → Prop) : V → Hp → VK → Prop := fun x H Q => ∃ M d z, Md M H ∧ Dt K M H x d ∧ g d z ∧ ∀ v H', Ex H H' → Da K M H' v z → Q v H'
/-- a call of a built-in on data -/
def rC (K : Fg) (g : List PyData → PyData → Prop) : List V → Hp → VK → Prop := fun vs H Q => ∃ M ds z, Md M H ∧ Dts K M H vs ds ∧ g ds z ∧ ∀ v H', Ex H H' → Da K M H' v z → Q v H'
/-- a method that reads -/
def rM (K : Fg) (g : PyData → List PyData → PyData → Prop) : V → List V → Hp → VK → Prop := fun x vs H Q => ∃ M d ds z, Md M H ∧ Dt K M H x d ∧ Dts K M H vs ds ∧ g d ds z ∧ ∀ v H', Ex H H' → Da K M H' v z → Q v H'
/-- a slice -/
def rSl (K : Fg) (g : PyData → Option Int → Option Int → PyData → Prop) : V → Option Int → Option Int → Hp → VK → Prop := fun x lo hi H Q => ∃ M d z, Md M H ∧ Dt K M H x d ∧ g d lo hi z ∧ ∀ v H', Ex H H' → Da K M H' v z → Q v H'

def AddD : PyData → PyData → PyData → Prop
  | .int i, .int j, z => z = .int (i + j)
  | .str a, .str b, z => a.length + b.length ≤ sizeLine ∧ z = .str (a ++ b)
  | .list a, .list b, z => a.length + b.length ≤ sizeLine ∧ z = .list (a ++ b)
  | .tuple a, .tuple b, z => a.length + b.length ≤ sizeLine ∧ z = .tuple (a ++ b)
  | _, _, _ => False
def SubD : PyData → PyData → PyData → Prop
  | .int i, .int j, z => z = .int (i - j)
  | _, _, _ => False
/-- a text so many times -/
def repS (x : Str) (k : Int) : Str := if k < 1 then Str.empty else if (k == 1 || x.length == 0) = true then x else ⟨(List.replicate k.toNat x.cps).foldl (· ++ ·) #[]⟩
def MulD : PyData → PyData → PyData → Prop
  | .int i, .int j, z => CMul i j ∧ z = .int (i * j)
  | .list a, .int k, z => -(2 ^ 63) ≤ k ∧ k < 2 ^ 63 ∧ a.length * k.toNat ≤ sizeLine ∧ z = .list (List.replicate k.toNat a).flatten
  | .str x, .int k, z => -(2 ^ 63) ≤ k ∧ k < 100000 ∧ x.length ≤ 100 ∧ z = .str (repS x k)
  | _, _, _ => False
def DivD : PyData → PyData → PyData → Prop
  | .int i, .int j, z => CDiv i j ∧ z = .int (i / j)
  | _, _, _ => False
def ModD : PyData → PyData → PyData → Prop
  | .int i, .int j, z => 0 < j ∧ z = .int (i % j)
  | _, _, _ => False
def PowD : PyData → PyData → PyData → Prop
  | .int i, .int j, z => CPow i j ∧ z = .int (i ^ j.toNat)
  | _, _, _ => False
def LtD : PyData → PyData → PyData → Prop
  | .int i, .int j, z => z = .bool (decide (i < j))
  | .str a, .str b, z => z = .bool (decide (a.cps.toList < b.cps.toList))
  | _, _, _ => False
def LeD : PyData → PyData → PyData → Prop
  | .int i, .int j, z => z = .bool (decide (i ≤ j))
  | .str a, .str b, z => z = .bool (!decide (b.cps.toList < a.cps.toList))
  | _, _, _ => False
def GtD : PyData → PyData → PyData → Prop
  | .int i, .int j, z => z = .bool (decide (j < i))
  | .str a, .str b, z => z = .bool (decide (b.cps.toList < a.cps.toList))
  | _, _, _ => False
def GeD : PyData → PyData → PyData → Prop
  | .int i, .int j, z => z = .bool (decide (j ≤ i))
  | .str a, .str b, z => z = .bool (!decide (a.cps.toList < b.cps.toList))
  | _, _, _ => False
/-- what == compares: no dicts, texts of known signs, not too deep -/
abbrev Shp (d : PyData) : Prop := SeqAt.shaped d = true
def strD : PyData → Bool
  | .str _ => true
  | _ => false
/-- x is one that == looks through, or both are texts -/
def Shr (d e x : PyData) : Prop := Shp x ∨ (strD d = true ∧ strD e = true)
def EqD (d e z : PyData) : Prop := Shr d e d ∧ Shr d e e ∧ z = .bool (PyData.eqv d e)
def NeD (d e z : PyData) : Prop := Shr d e d ∧ Shr d e e ∧ z = .bool (!PyData.eqv d e)
/-- flat things -/
def flatD : PyData → Bool
  | .none | .bool _ | .int _ | .str _ => true
  | _ => false
def InD : PyData → PyData → PyData → Prop
  | .str c, .str t, z => (∃ k, c = ⟨#[k]⟩ ∧ z = .bool (decide (k ∈ t.cps.toList)))
  | d, .list ds, z => ((Shp d ∧ Shp (.list ds)) ∨ (flatD d = true ∧ ds.all flatD = true)) ∧ z = .bool (ds.any fun y => PyData.eqv y d)
  | d, .tuple ds, z => flatD d = true ∧ ds.all flatD = true ∧ z = .bool (ds.any fun y => PyData.eqv y d)
  | _, _, _ => False
def NotInD : PyData → PyData → PyData → Prop
  | .str c, .str t, z => (∃ k, c = ⟨#[k]⟩ ∧ z = .bool (!decide (k ∈ t.cps.toList)))
  | d, .list ds, z => ((Shp d ∧ Shp (.list ds)) ∨ (flatD d = true ∧ ds.all flatD = true)) ∧ z = .bool (!ds.any fun y => PyData.eqv y d)
  | d, .tuple ds, z => flatD d = true ∧ ds.all flatD = true ∧ z = .bool (!ds.any fun y => PyData.eqv y d)
  | _, _, _ => False
def isNoneD : PyData → Bool
  | .none => true
  | _ => false
end
section
variable {X : Cx}
theorem Da.list_inv {K : Fg} {M : Ms} {H : Hp} {x : V} {ds : List PyData} (h : Da K M H x (.list ds)) : ∃ a xs, x = .ref a ∧ SqL K (hid M H) a xs ∧ Das K M H xs ds := by cases h with | lst s a => exact ⟨_, _, rfl, s, a⟩
theorem Da.tup_inv {K : Fg} {M : Ms} {H : Hp} {x : V} {ds : List PyData} (h : Da K M H x (.tuple ds)) : ∃ a xs, x = .ref a ∧ SqT K (hid M H) a xs ∧ Das K M H xs ds := by cases h with | tup s a => exact ⟨_, _, rfl, s, a⟩
/-- a list of the heap or of the written part, as the machine has it -/
theorem list_obj {pins : List (Addr × Obj)} {σ : L2.St} {H : Hp} {s : Shared} {l : Addr} {xs : List V} (I : Inv X pins σ H s) (h : SqL X.K H l xs) :
    ∃ (its : List Value) (n : Nat) (dd : Option Addr) (sl : Array (Option Value)), Vals xs its ∧ its.length = xs.length ∧ s.heap.get? l = some { cls := .type "list", dict := dd, data := .seq its.toArray n, slots := sl } := by
  obtain ⟨its, r, ⟨ob, n, at_l, is_list, no_dict, dat⟩, _⟩ := I.list h
  refine ⟨its, n, ob.dict, ob.slots, r, r.length.symm, ?_⟩
  rw [at_l]
  cases ob
  cases is_list
  cases dat
  rfl
def rCatR (K : Fg) : R2 := fun x y H Q => ∃ l b xs zs, x = .ref l ∧ y = .ref b ∧ SqL K H l xs ∧ SqL K H b zs ∧ xs.length + zs.length ≤ sizeLine ∧ ∀ p, H p = none → Q (.ref p) (upd H p (.lst (xs ++ zs)))
theorem op_catR : OpR X (binaryOp .Add) (rCatR X.K) := by
  rintro pins s σ H _ _ v u Q I rx ry ⟨l, b, xs, zs, rfl, rfl, left, right, room, done⟩
  obtain ⟨us, n1, d1, sl1, r1, e1, o1⟩ := list_obj I left
  obtain ⟨ws, n2, d2, sl2, r2, e2, o2⟩ := list_obj I right
  cases rx
  cases ry
  have fits : us.toArray.size + ws.toArray.size ≤ sizeLine := by simpa [e1, e2] using room
  have both : us.toArray ++ ws.toArray = (us ++ ws).toArray := List.append_toArray us ws
  have sum := PyProof.Rows.list_addW l b us.toArray ws.toArray n1 n2 d1 d2 sl1 sl2 fits
  refine concat_meets ⟨_, o1, rfl⟩ ⟨_, o2, rfl⟩ noFill_list_add seq_list_add PySem.F.slot_list_add PySem.F.entry_list_add (PySem.F.args_list_add_2 _ _) sum ⟨o1, o2, ?_⟩
  rw [both]
  have made := I.lnew (t' := s.toks) (r1.append r2) (by rw [List.length_append]; exact room)
  exact ⟨V.ref _, _, made, rfl, done _ I.fresh⟩
theorem op_addD : OpR X (binaryOp .Add) (rB X.K AddD) := by
  intro pins s σ H x y v u Q I rx ry h
  obtain ⟨M, d, e, z, hM, hd, he, g, q⟩ := h
  cases d <;> cases e <;> try exact g.elim
  · have e1 := hd.int_inv; have e2 := he.int_inv; subst e1; subst e2
    exact op_add pins s σ H _ _ v u Q I rx ry ⟨_, _, rfl, rfl, q _ H (Ex.refl H) (by rw [show z = _ from g]; exact .int _)⟩
  · have e1 := hd.str_inv; have e2 := he.str_inv; subst e1; subst e2
    exact op_add_str pins s σ H _ _ v u Q I rx ry ⟨_, _, rfl, rfl, g.1, q _ H (Ex.refl H) (by rw [g.2]; exact .str _)⟩
  · obtain ⟨a, xs, rfl, ha, hx⟩ := hd.list_inv
    obtain ⟨b, ys, rfl, hb, hy⟩ := he.list_inv
    have l1 := Das.len hx; have l2 := Das.len hy
    exact op_catR pins s σ H _ _ v u Q I rx ry ⟨a, b, xs, ys, rfl, rfl, hid_l ha, hid_l hb, by rw [l1, l2]; exact g.1, fun p hp => q _ _ (Ex.new hp) (by rw [g.2]; exact Da.new_lst hM hp (Das.app hx hy))⟩
  · obtain ⟨a, xs, rfl, ha, hx⟩ := hd.tup_inv
    obtain ⟨b, ys, rfl, hb, hy⟩ := he.tup_inv
    have l1 := Das.len hx; have l2 := Das.len hy
    refine op_catA pins s σ H _ _ v u Q I rx ry ⟨a, b, xs, ys, rfl, rfl, hid_t ha, hid_t hb, by rw [l1, l2]; exact g.1, fun e => ?_, fun _ e => ?_, fun _ _ p hp => q _ _ (Ex.new hp) (by rw [g.2]; exact Da.new_tup hM hp (Das.app hx hy))⟩
    · subst e; cases hx
      exact q _ H (Ex.refl H) (by rw [g.2]; exact Dq.tup hb hy)
    · subst e; cases hy
      exact q _ H (Ex.refl H) (by rw [g.2, List.append_nil]; exact Dq.tup ha hx)
theorem op_subD : OpR X (binaryOp .Sub) (rB X.K SubD) := by
  intro pins s σ H x y v u Q I rx ry h
  obtain ⟨M, d, e, z, hM, hd, he, g, q⟩ := h
  cases d <;> cases e <;> try exact g.elim
  have e1 := hd.int_inv; have e2 := he.int_inv; subst e1; subst e2
  exact op_sub pins s σ H _ _ v u Q I rx ry ⟨_, _, rfl, rfl, q _ H (Ex.refl H) (by rw [show z = _ from g]; exact .int _)⟩
def rRepR (K : Fg) : R2 := fun x y H Q => ∃ l k xs, x = .ref l ∧ y = .int k ∧ SqL K H l xs ∧ (-(2 ^ 63) ≤ k ∧ k < 2 ^ 63) ∧ xs.length * k.toNat ≤ sizeLine ∧ ∀ p, H p = none → Q (.ref p) (upd H p (.lst (List.replicate k.toNat xs).flatten))
theorem op_repR : OpR X (binaryOp .Mult) (rRepR X.K) := by
  intro pins s σ H _ _ v _ Q I rx ry h
  obtain ⟨l, k, xs, rfl, rfl, there, ⟨lo, hi⟩, room, done⟩ := h
  obtain ⟨t, rfl⟩ := ry
  obtain ⟨us, n, dd, sl, r, e, ob⟩ := list_obj I there
  cases rx
  have many : us.toArray.size * k.toNat ≤ sizeLine := by simpa [e] using room
  have c1 : ¬ (!Builtin.List.listFitsIndex k) = true := by simp [PySem.fitsIndex_both lo hi]
  have c2 : ¬ us.toArray.size * k.toNat > (2 ^ 63 - 1) / 8 := Nat.not_lt.mpr (Nat.le_trans many (by decide))
  have c3 : ¬ Builtin.List.listTooLong (us.toArray.size * k.toNat) = true := by
    rw [notLongL many]; exact Bool.false_ne_true
  have times := lm_list_mul_any l us.toArray n dd sl k t c1 c2 c3
  have turned := lm_int_rmul_list_any k t l us.toArray n dd sl
  refine wpAny_binaryOp_repeat_ref (T := "list") (U := "int") (by decide) ⟨_, ob, rfl⟩ (fun s' => typeIs_int s' k t) noFill_list_mul F.fills_int_mul F.slot_int_rmul repeat_list F.slot_int_index.lookup ?_
  have made := I.lnew (t' := s.toks) (r.rep k.toNat) (by simpa [PyProof.Rows.lm_len_rep_flat, Nat.mul_comm] using room)
  refine call_meets F.slot_int_rmul (typeIs_int s k t) F.entry_int_rmul (F.args_int_rmul_2 _ _) turned ⟨ob, rfl, ⟨_, ob, rfl⟩, call_meets F.slot_list_mul ⟨_, ob, rfl⟩ F.entry_list_mul (F.args_list_mul_2 _ _) times ⟨ob, ?_⟩⟩
  rw [PyProof.Rows.listMul_foldl_if]
  exact ⟨.ref _, _, made, rfl, done _ I.fresh⟩
theorem op_repS : OpR X (binaryOp .Mult) (fun x y H Q => ∃ a k, x = .str a ∧ y = .int k ∧ -(2 ^ 63) ≤ k ∧ k < 100000 ∧ a.length ≤ 100 ∧ Q (.str (repS a k)) H) := by
  intro pins s σ H x y v u Q I rx ry h
  obtain ⟨a, k, rfl, rfl, lo, hi, room, done⟩ := h
  obtain ⟨t, rfl⟩ := rx
  obtain ⟨t', rfl⟩ := ry
  have long : Builtin.Str.tooLong (a.length * k.toNat) = false := by
    have e1 : a.length * k.toNat ≤ 100 * 100000 := Nat.mul_le_mul room (by omega)
    exact PyProof.Rows.short24 (by omega)
  refine PySem.P.mul_str (by simp; omega) (fun h1 h2 => ?_) (fun h1 h2 => long) ?_
  · have e1 : (92233720368547 : Int) ≤ (2 ^ 63 - 1) / k := by
      rw [Int.le_ediv_iff_mul_le (by omega)]; omega
    omega
  · unfold repS at done
    split
    · rename_i c; rw [if_pos c] at done
      exact ⟨by first | exact Nat.zero_le _ | exact fits_reps (x := a) long, .str _, H, I.tok _, ⟨_, rfl⟩, done⟩
    · rename_i c; rw [if_neg c] at done
      split
      · rename_i c'; rw [if_pos c'] at done
        exact ⟨.str _, H, I, ⟨_, rfl⟩, done⟩
      · rename_i c'; rw [if_neg c'] at done
        exact ⟨by first | exact Nat.zero_le _ | exact fits_reps (x := a) long, .str _, H, I.tok _, ⟨_, rfl⟩, done⟩
theorem op_mulD : OpR X (binaryOp .Mult) (rB X.K MulD) := by
  intro pins s σ H x y v u Q I rx ry h
  obtain ⟨M, d, e, z, hM, hd, he, g, q⟩ := h
  cases d <;> cases e <;> try exact g.elim
  · have e1 := hd.int_inv; have e2 := he.int_inv; subst e1; subst e2
    exact op_mul pins s σ H _ _ v u Q I rx ry ⟨_, _, rfl, rfl, g.1, q _ H (Ex.refl H) (by rw [g.2]; exact .int _)⟩
  · have e1 := hd.str_inv; have e2 := he.int_inv; subst e1; subst e2
    exact op_repS pins s σ H _ _ v u Q I rx ry ⟨_, _, rfl, rfl, g.1, g.2.1, g.2.2.1, q _ H (Ex.refl H) (by rw [g.2.2.2]; exact .str _)⟩
  · obtain ⟨a, xs, rfl, ha, hx⟩ := hd.list_inv
    have e2 := he.int_inv; subst e2
    have l1 := Das.len hx
    exact op_repR pins s σ H _ _ v u Q I rx ry ⟨a, _, xs, rfl, rfl, hid_l ha, ⟨g.1, g.2.1⟩, by rw [l1]; exact g.2.2.1, fun p hp => q _ _ (Ex.new hp) (by rw [g.2.2.2]; exact Da.new_lst hM hp (Das.rep hx _))⟩
theorem op_divD : OpR X (binaryOp .FloorDiv) (rB X.K DivD) := by
  intro pins s σ H x y v u Q I rx ry h
  obtain ⟨M, d, e, z, hM, hd, he, g, q⟩ := h
  cases d <;> cases e <;> try exact g.elim
  have e1 := hd.int_inv; have e2 := he.int_inv; subst e1; subst e2
  exact op_fdiv pins s σ H _ _ v u Q I rx ry ⟨_, _, rfl, rfl, g.1, q _ H (Ex.refl H) (by rw [g.2]; exact .int _)⟩
theorem op_modD : OpR X (binaryOp .Mod) (rB X.K ModD) := by
  intro pins s σ H x y v u Q I rx ry h
  obtain ⟨M, d, e, z, hM, hd, he, g, q⟩ := h
  cases d <;> cases e <;> try exact g.elim
  have e1 := hd.int_inv; have e2 := he.int_inv; subst e1; subst e2
  exact op_mod pins s σ H _ _ v u Q I rx ry ⟨_, _, rfl, rfl, g.1, q _ H (Ex.refl H) (by rw [g.2]; exact .int _)⟩
theorem op_powD : OpR X (binaryOp .Pow) (rB X.K PowD) := by
  intro pins s σ H x y v u Q I rx ry h
  obtain ⟨M, d, e, z, hM, hd, he, g, q⟩ := h
  cases d <;> cases e <;> try exact g.elim
  have e1 := hd.int_inv; have e2 := he.int_inv; subst e1; subst e2
  exact op_pow pins s σ H _ _ v u Q I rx ry ⟨_, _, rfl, rfl, g.1, q _ H (Ex.refl H) (by rw [g.2]; exact .int _)⟩
theorem op_ltD : OpR X (compareOp .Lt) (rB X.K LtD) := by
  intro pins s σ H x y v u Q I rx ry h
  obtain ⟨M, d, e, z, hM, hd, he, g, q⟩ := h
  cases d <;> cases e <;> try exact g.elim
  · have e1 := hd.int_inv; have e2 := he.int_inv; subst e1; subst e2
    exact op_lt pins s σ H _ _ v u Q I rx ry ⟨_, _, rfl, rfl, q _ H (Ex.refl H) (by rw [show z = _ from g]; exact .bl _)⟩
  · have e1 := hd.str_inv; have e2 := he.str_inv; subst e1; subst e2
    exact op_lt_str pins s σ H _ _ v u Q I rx ry ⟨_, _, rfl, rfl, q _ H (Ex.refl H) (by rw [show z = _ from g]; exact .bl _)⟩
theorem op_leD : OpR X (compareOp .LtE) (rB X.K LeD) := by
  intro pins s σ H x y v u Q I rx ry h
  obtain ⟨M, d, e, z, hM, hd, he, g, q⟩ := h
  cases d <;> cases e <;> try exact g.elim
  · have e1 := hd.int_inv; have e2 := he.int_inv; subst e1; subst e2
    exact op_le pins s σ H _ _ v u Q I rx ry ⟨_, _, rfl, rfl, q _ H (Ex.refl H) (by rw [show z = _ from g]; exact .bl _)⟩
  · have e1 := hd.str_inv; have e2 := he.str_inv; subst e1; subst e2
    exact op_le_str pins s σ H _ _ v u Q I rx ry ⟨_, _, rfl, rfl, q _ H (Ex.refl H) (by rw [show z = _ from g]; exact .bl _)⟩
theorem op_gtD : OpR X (compareOp .Gt) (rB X.K GtD) := by
  intro pins s σ H x y v u Q I rx ry h
  obtain ⟨M, d, e, z, hM, hd, he, g, q⟩ := h
  cases d <;> cases e <;> try exact g.elim
  · have e1 := hd.int_inv; have e2 := he.int_inv; subst e1; subst e2
    exact op_gt pins s σ H _ _ v u Q I rx ry ⟨_, _, rfl, rfl, q _ H (Ex.refl H) (by rw [show z = _ from g]; exact .bl _)⟩
  · have e1 := hd.str_inv; have e2 := he.str_inv; subst e1; subst e2
    exact op_gt_str pins s σ H _ _ v u Q I rx ry ⟨_, _, rfl, rfl, q _ H (Ex.refl H) (by rw [show z = _ from g]; exact .bl _)⟩
theorem op_geD : OpR X (compareOp .GtE) (rB X.K GeD) := by
  intro pins s σ H x y v u Q I rx ry h
  obtain ⟨M, d, e, z, hM, hd, he, g, q⟩ := h
  cases d <;> cases e <;> try exact g.elim
  · have e1 := hd.int_inv; have e2 := he.int_inv; subst e1; subst e2
    exact op_ge pins s σ H _ _ v u Q I rx ry ⟨_, _, rfl, rfl, q _ H (Ex.refl H) (by rw [show z = _ from g]; exact .bl _)⟩
  · have e1 := hd.str_inv; have e2 := he.str_inv; subst e1; subst e2
    exact op_ge_str pins s σ H _ _ v u Q I rx ry ⟨_, _, rfl, rfl, q _ H (Ex.refl H) (by rw [show z = _ from g]; exact .bl _)⟩
theorem Shr.both {d e : PyData} (h1 : Shr d e d) (h2 : Shr d e e) : (Shp d ∧ Shp e) ∨ ∃ a b, d = .str a ∧ e = .str b := by
  have two : strD d = true ∧ strD e = true → ∃ a b, d = PyData.str a ∧ e = PyData.str b := fun ⟨p, q⟩ => by
    cases d <;> cases e <;> first | exact ⟨_, _, rfl, rfl⟩ | exact absurd p Bool.false_ne_true | exact absurd q Bool.false_ne_true
  rcases h1 with h1 | h1
  · rcases h2 with h2 | h2
    · exact .inl ⟨h1, h2⟩
    · exact .inr (two h2)
  · exact .inr (two h1)
theorem eqv_strs {a b : Str} : decide (V.str a = V.str b) = PyData.eqv (.str a) (.str b) := by
  unfold PyData.eqv; exact dec_str
theorem op_eqDD (hu : X.A.units + 64 < cLine) : OpR X (compareOp .Eq) (rB X.K EqD) := by
  intro pins s σ H x y v u Q I rx ry h
  obtain ⟨M, d, e, z, hM, hd, he, g, q⟩ := h
  rcases Shr.both g.1 g.2.1 with ⟨s1, s2⟩ | ⟨a, b, rfl, rfl⟩
  · exact op_eqD hu pins s σ H _ _ v u Q I rx ry ⟨d, e, hd.dp, he.dp, s1, s2, q _ H (Ex.refl H) (by rw [g.2.2]; exact .bl _)⟩
  · have e1 := hd.str_inv; have e2 := he.str_inv; subst e1; subst e2
    exact op_eq pins s σ H _ _ v u Q I rx ry ⟨rfl, q _ H (Ex.refl H) (by rw [g.2.2, eqv_strs]; exact .bl _)⟩
theorem op_neDD (hu : X.A.units + 64 < cLine) : OpR X (compareOp .NotEq) (rB X.K NeD) := by
  intro pins s σ H x y v u Q I rx ry h
  obtain ⟨M, d, e, z, hM, hd, he, g, q⟩ := h
  rcases Shr.both g.1 g.2.1 with ⟨s1, s2⟩ | ⟨a, b, rfl, rfl⟩
  · exact op_neD hu pins s σ H _ _ v u Q I rx ry ⟨d, e, hd.dp, he.dp, s1, s2, q _ H (Ex.refl H) (by rw [g.2.2]; exact .bl _)⟩
  · have e1 := hd.str_inv; have e2 := he.str_inv; subst e1; subst e2
    exact op_ne pins s σ H _ _ v u Q I rx ry ⟨rfl, q _ H (Ex.refl H) (by rw [g.2.2, eqv_strs]; exact .bl _)⟩
theorem Dt.fl {K : Fg} {M : Ms} {H : Hp} {x : V} {d : PyData} (h : Dt K M H x d) (f : flatD d = true) : Da K M H x d := by
  cases h with
  | da h => exact h
  | op s a => cases f
theorem flat_of {K : Fg} {M : Ms} {H : Hp} {x : V} {d : PyData} (h : Da K M H x d) (f : flatD d = true) : flatV x = true := by
  cases h <;> first | rfl | cases f
theorem flats_of {K : Fg} {M : Ms} {H : Hp} : ∀ {xs : List V} {ds : List PyData}, Das K M H xs ds → ds.all flatD = true → xs.all flatV = true
  | _, _, .nil, _ => rfl
  | _, _, .cons h t, f => by
    rw [List.all_cons, Bool.and_eq_true] at f
    rw [List.all_cons, flat_of h f.1, flats_of t f.2]; rfl
theorem eqv_of {K : Fg} {M : Ms} {H : Hp} {x y : V} {d e : PyData} (h : Da K M H x d) (h' : Da K M H y e) (f : flatD d = true) (f' : flatD e = true) : eqV x y = PyData.eqv d e := by
  cases h <;> cases h' <;> first | rfl | (cases f; done) | (cases f'; done) | (unfold PyData.eqv eqV; first | rfl | simp)
theorem inV_of {K : Fg} {M : Ms} {H : Hp} {y : V} {e : PyData} (h' : Da K M H y e) (f' : flatD e = true) : ∀ {xs : List V} {ds : List PyData}, Das K M H xs ds → ds.all flatD = true → inV y xs = ds.any fun z => PyData.eqv z e
  | _, _, .nil, _ => rfl
  | _, _, .cons (v := v) (vs := vs) h t, f => by
    rw [List.all_cons, Bool.and_eq_true] at f
    have ih := inV_of h' f' t f.2
    show (eqV v y || inV y vs) = _
    rw [ih, eqv_of h h' f.1 f', List.any_cons]
theorem op_inDD (hu : X.A.units + 65 < cLine) : OpR X (compareOp .In) (rB X.K InD) := by
  intro pins s σ H x y v u Q I rx ry h
  obtain ⟨M, d, e, z, hM, hd, he, g, q⟩ := h
  cases e with
  | str t =>
    cases d <;> try exact g.elim
    obtain ⟨k, rfl, g⟩ := g
    have e1 := hd.str_inv; have e2 := he.str_inv; subst e1; subst e2
    exact op_in_sign pins s σ H _ _ v u Q I rx ry ⟨_, _, rfl, rfl, q _ H (Ex.refl H) (by rw [g]; exact .bl _)⟩
  | list ds =>
    have g : ((Shp d ∧ Shp (.list ds)) ∨ (flatD d = true ∧ ds.all flatD = true)) ∧ z = .bool (ds.any fun y => PyData.eqv y d) := by cases d <;> exact g
    rcases g.1 with g1 | g1
    · exact op_inD hu pins s σ H _ _ v u Q I rx ry ⟨d, ds, hd.dp, he.dp, g1.1, g1.2, q _ H (Ex.refl H) (by rw [g.2]; exact .bl _)⟩
    · obtain ⟨a, xs, rfl, ha, hx⟩ := he.list_inv
      refine op_in_seq pins s σ H _ _ v u Q I rx ry ⟨a, xs, rfl, .inl (hid_l ha), flat_of (hd.fl g1.1) g1.1, flats_of hx g1.2, q _ H (Ex.refl H) ?_⟩
      rw [g.2, ← inV_of (hd.fl g1.1) g1.1 hx g1.2]; exact .bl _
  | tuple ds =>
    have g : flatD d = true ∧ ds.all flatD = true ∧ z = .bool (ds.any fun y => PyData.eqv y d) := by cases d <;> exact g
    obtain ⟨a, xs, rfl, ha, hx⟩ := he.tup_inv
    refine op_in_seq pins s σ H _ _ v u Q I rx ry ⟨a, xs, rfl, .inr (hid_t ha), flat_of (hd.fl g.1) g.1, flats_of hx g.2.1, q _ H (Ex.refl H) ?_⟩
    rw [g.2.2, ← inV_of (hd.fl g.1) g.1 hx g.2.1]; exact .bl _
  | none => cases d <;> exact g.elim
  | bool b => cases d <;> exact g.elim
  | int b => cases d <;> exact g.elim
  | dict b => cases d <;> exact g.elim
theorem op_notInDD (hu : X.A.units + 65 < cLine) : OpR X (compareOp .NotIn) (rB X.K NotInD) := by
  intro pins s σ H x y v u Q I rx ry h
  obtain ⟨M, d, e, z, hM, hd, he, g, q⟩ := h
  cases e with
  | str t =>
    cases d <;> try exact g.elim
    obtain ⟨k, rfl, g⟩ := g
    have e1 := hd.str_inv; have e2 := he.str_inv; subst e1; subst e2
    exact op_notIn_sign pins s σ H _ _ v u Q I rx ry ⟨_, _, rfl, rfl, q _ H (Ex.refl H) (by rw [g]; exact .bl _)⟩
  | list ds =>
    have g : ((Shp d ∧ Shp (.list ds)) ∨ (flatD d = true ∧ ds.all flatD = true)) ∧ z = .bool (!ds.any fun y => PyData.eqv y d) := by cases d <;> exact g
    rcases g.1 with g1 | g1
    · exact op_notInD hu pins s σ H _ _ v u Q I rx ry ⟨d, ds, hd.dp, he.dp, g1.1, g1.2, q _ H (Ex.refl H) (by rw [g.2]; exact .bl _)⟩
    · obtain ⟨a, xs, rfl, ha, hx⟩ := he.list_inv
      refine op_notIn_seq pins s σ H _ _ v u Q I rx ry ⟨a, xs, rfl, .inl (hid_l ha), flat_of (hd.fl g1.1) g1.1, flats_of hx g1.2, q _ H (Ex.refl H) ?_⟩
      rw [g.2, ← inV_of (hd.fl g1.1) g1.1 hx g1.2]; exact .bl _
  | tuple ds =>
    have g : flatD d = true ∧ ds.all flatD = true ∧ z = .bool (!ds.any fun y => PyData.eqv y d) := by cases d <;> exact g
    obtain ⟨a, xs, rfl, ha, hx⟩ := he.tup_inv
    refine op_notIn_seq pins s σ H _ _ v u Q I rx ry ⟨a, xs, rfl, .inr (hid_t ha), flat_of (hd.fl g.1) g.1, flats_of hx g.2.1, q _ H (Ex.refl H) ?_⟩
    rw [g.2.2, ← inV_of (hd.fl g.1) g.1 hx g.2.1]; exact .bl _
  | none => cases d <;> exact g.elim
  | bool b => cases d <;> exact g.elim
  | int b => cases d <;> exact g.elim
  | dict b => cases d <;> exact g.elim
/-- x is None, of any value -/
def rIsNone : R2 := fun x y H Q => y = .non ∧ Q (.bl (decide (x = .non))) H
def rNotNone : R2 := fun x y H Q => y = .non ∧ Q (.bl (!decide (x = .non))) H
theorem op_isNoneD : OpR X (compareOp .Is) rIsNone := op_isN
theorem op_notNoneD : OpR X (compareOp .IsNot) rNotNone := op_notN
theorem un_negD : UnR X (unaryOp .USub) (rU1 X.K fun d z => ∃ i, d = .int i ∧ z = .int (-i)) := by
  intro pins s σ H x v Q I rx h
  obtain ⟨M, d, z, hM, hd, ⟨i, rfl, rfl⟩, q⟩ := h
  have e1 := hd.int_inv; subst e1
  exact un_neg pins s σ H _ v Q I rx ⟨i, rfl, q _ H (Ex.refl H) (.int _)⟩
/-! ### subscripts -/
def IxD : PyData → PyData → PyData → Prop
  | .list ds, .int i, z => atI ds i = some z
  | .tuple ds, .int i, z => atI ds i = some z
  | .str x, .int i, z => x.length ≤ sizeLine ∧ ∃ c, atI x.cps.toList i = some c ∧ z = .str ⟨#[c]⟩
  | _, _, _ => False
theorem atI_das {K : Fg} {H : Hp} {xs : List V} {ds : List PyData} {i : Int} {z : PyData} (h : DqAll K H xs ds) (e : atI ds i = some z) : ∃ v, atI xs i = some v ∧ Dq K H v z := by
  unfold atI at e ⊢
  rw [Das.len h]
  cases q : ixN ds.length i with
  | none => rw [q] at e; cases e
  | some j => rw [q] at e; exact Das.get h e
theorem ix_D : IxR X (rB X.K IxD) := by
  intro value slice pins s σ H x y v u Q I rx ry h hp
  obtain ⟨M, d, e, z, hM, hd, he, g, q⟩ := h
  cases d <;> cases e <;> try exact g.elim
  · have e1 := hd.str_inv; have e2 := he.int_inv; subst e1; subst e2
    obtain ⟨g1, c, g2, rfl⟩ := g
    exact ix_str value slice pins s σ H _ _ v u Q I rx ry ⟨_, _, c, rfl, rfl, g1, g2, q _ H (Ex.refl H) (.str _)⟩ hp
  · obtain ⟨a, xs, rfl, ha, hx⟩ := hd.list_inv
    have e2 := he.int_inv; subst e2
    obtain ⟨w, h1, h2⟩ := atI_das hx g
    exact ix_list value slice pins s σ H _ _ v u Q I rx ry ⟨a, xs, _, w, rfl, rfl, (hid_l ha), h1, q _ H (Ex.refl H) h2⟩ hp
  · obtain ⟨a, xs, rfl, ha, hx⟩ := hd.tup_inv
    have e2 := he.int_inv; subst e2
    obtain ⟨w, h1, h2⟩ := atI_das hx g
    exact ix_tup value slice pins s σ H _ _ v u Q I rx ry ⟨a, xs, _, w, rfl, rfl, hid_t ha, h1, q _ H (Ex.refl H) h2⟩ hp
def cutD (xs : List PyData) (lo hi : Option Int) : List PyData := (xs.drop (HT.sIx xs.length 0 lo)).take (HT.sIx xs.length xs.length hi - HT.sIx xs.length 0 lo)
def SlD : PyData → Option Int → Option Int → PyData → Prop
  | .list ds, lo, hi, z => z = .list (cutD ds lo hi)
  | .tuple ds, lo, hi, z => z = .tuple (cutD ds lo hi)
  | .str x, lo, hi, z => x.length ≤ sizeLine ∧ z = .str (cutS x lo hi)
  | _, _, _, _ => False
theorem das_cut {K : Fg} {H : Hp} {xs : List V} {ds : List PyData} (h : DqAll K H xs ds) (lo hi : Option Int) : DqAll K H (cutV xs lo hi) (cutD ds lo hi) := by
  unfold cutV cutD
  rw [Das.len h]
  exact Das.take _ (Das.drop _ h)
theorem sl_D : SlR X (rSl X.K SlD) := by
  intro pins s σ H x v vl vu lo hi sl Q I rx hs pl pu h
  obtain ⟨M, d, z, hM, hd, g, q⟩ := h
  cases d <;> try exact g.elim
  · have e1 := hd.str_inv; subst e1
    exact sl_str pins s σ H _ v vl vu lo hi sl Q I rx hs pl pu ⟨_, rfl, g.1, q _ H (Ex.refl H) (by rw [g.2]; exact .str _)⟩
  · obtain ⟨a, xs, rfl, ha, hx⟩ := hd.list_inv
    exact sl_list pins s σ H _ v vl vu lo hi sl Q I rx hs pl pu ⟨a, xs, rfl, (hid_l ha), fun p hp => q _ _ (Ex.new hp) (by rw [show z = _ from g]; exact Da.new_lst hM hp (das_cut hx lo hi))⟩
  · obtain ⟨a, xs, rfl, ha, hx⟩ := hd.tup_inv
    have e := das_cut hx lo hi
    refine sl_tupA pins s σ H _ v vl vu lo hi sl Q I rx hs pl pu ⟨a, xs, rfl, hid_t ha, fun w => ?_, fun _ p hp => q _ _ (Ex.new hp) (by rw [show z = _ from g]; exact Da.new_tup hM hp e)⟩
    refine q _ H (Ex.refl H) ?_
    rw [show z = _ from g]
    have e2 : cutV xs lo hi = xs := by
      unfold cutV; rw [w.1, w.2]; simp
    rw [e2] at e
    exact Dq.tup ha e
/-! ### built-ins on data -/
def LenD : List PyData → PyData → Prop
  | [.str x], z => x.length ≤ sizeLine ∧ z = .int x.length
  | [.list ds], z => z = .int ds.length
  | [.tuple ds], z => z = .int ds.length
  | _, _ => False
theorem Das.one {K : Fg} {H : Hp} {vs : List V} {d : PyData} (h : DqAll K H vs [d]) : ∃ v, vs = [v] ∧ Dq K H v d := by
  cases h with | cons a t => cases t; exact ⟨_, rfl, a⟩
theorem Das.two {K : Fg} {H : Hp} {vs : List V} {d e : PyData} (h : DqAll K H vs [d, e]) : ∃ v u, vs = [v, u] ∧ Dq K H v d ∧ Dq K H u e := by
  cases h with | cons a t => obtain ⟨u, rfl, b⟩ := Das.one t; exact ⟨_, _, rfl, a, b⟩
theorem call_lenD : CallR X (.builtin "len") (rC X.K LenD) := by
  intro pins s σ H xs us Q I rx h
  obtain ⟨M, ds, z, hM, hd, g, q⟩ := h
  match ds, g with
  | [.str x], g =>
    obtain ⟨v, rfl, h1⟩ := Dts.one hd
    have e1 := Dt.str_inv h1; subst e1
    exact call_len_str pins s σ H _ us Q I rx ⟨x, rfl, g.1, q _ H (Ex.refl H) (by rw [g.2]; exact .int _)⟩
  | [.list ds], g =>
    obtain ⟨v, rfl, h1⟩ := Dts.one hd
    obtain ⟨a, xs, rfl, ha, hx⟩ := Dt.list_inv h1
    exact call_len_seq pins s σ H _ us Q I rx ⟨a, xs, rfl, .inl (hid_l ha), q _ H (Ex.refl H) (by rw [show z = _ from g, Das.len hx]; exact .int _)⟩
  | [.tuple ds], g =>
    obtain ⟨v, rfl, h1⟩ := Dts.one hd
    obtain ⟨a, xs, rfl, ha, hx⟩ := Dt.tup_inv h1
    exact call_len_seq pins s σ H _ us Q I rx ⟨a, xs, rfl, .inr (hid_t ha), q _ H (Ex.refl H) (by rw [show z = _ from g, Das.len hx]; exact .int _)⟩
def SumD : List PyData → PyData → Prop
  | [.list ds], z => ∃ ns : List Int, ds = ns.map PyData.int ∧ z = .int ns.sum
  | _, _ => False
theorem call_sumD (hc : X.calm = true) : CallR X (.builtin "sum") (rC X.K SumD) := by
  intro pins s σ H xs us Q I rx h
  obtain ⟨M, ds, z, hM, hd, g, q⟩ := h
  match ds, g with
  | [.list ds], g =>
    obtain ⟨v, rfl, h1⟩ := Dts.one hd
    obtain ⟨a, xs, rfl, ha, hx⟩ := Dt.list_inv h1
    obtain ⟨ns, rfl, g⟩ := g
    have e := Das.ints hx; subst e
    exact cr_sum hc pins s σ H _ us Q I rx ⟨a, ns, rfl, (hid_l ha), q _ H (Ex.refl H) (by rw [g]; exact .int _)⟩
def AllD : List PyData → PyData → Prop
  | [.list ds], z => ∃ ns : List Bool, ds = ns.map PyData.bool ∧ z = .bool (ns.all id)
  | _, _ => False
def AnyD : List PyData → PyData → Prop
  | [.list ds], z => ∃ ns : List Bool, ds = ns.map PyData.bool ∧ z = .bool (ns.any id)
  | _, _ => False
theorem call_allD (hc : X.calm = true) : CallR X (.builtin "all") (rC X.K AllD) := by
  intro pins s σ H xs us Q I rx h
  obtain ⟨M, ds, z, hM, hd, g, q⟩ := h
  match ds, g with
  | [.list ds], g =>
    obtain ⟨v, rfl, h1⟩ := Dts.one hd
    obtain ⟨a, xs, rfl, ha, hx⟩ := Dt.list_inv h1
    obtain ⟨ns, rfl, g⟩ := g
    have e := Das.bls hx; subst e
    exact cr_all hc pins s σ H _ us Q I rx ⟨a, ns, rfl, (hid_l ha), q _ H (Ex.refl H) (by rw [g]; exact .bl _)⟩
theorem call_anyD (hc : X.calm = true) : CallR X (.builtin "any") (rC X.K AnyD) := by
  intro pins s σ H xs us Q I rx h
  obtain ⟨M, ds, z, hM, hd, g, q⟩ := h
  match ds, g with
  | [.list ds], g =>
    obtain ⟨v, rfl, h1⟩ := Dts.one hd
    obtain ⟨a, xs, rfl, ha, hx⟩ := Dt.list_inv h1
    obtain ⟨ns, rfl, g⟩ := g
    have e := Das.bls hx; subst e
    exact cr_any hc pins s σ H _ us Q I rx ⟨a, ns, rfl, (hid_l ha), q _ H (Ex.refl H) (by rw [g]; exact .bl _)⟩
def Min2D : List PyData → PyData → Prop
  | [.int i, .int j], z => z = .int (min i j)
  | _, _ => False
def Max2D : List PyData → PyData → Prop
  | [.int i, .int j], z => z = .int (max i j)
  | _, _ => False
theorem call_min2D (hc : X.calm = true) : CallR X (.builtin "min") (rC X.K Min2D) := by
  intro pins s σ H xs us Q I rx h
  obtain ⟨M, ds, z, hM, hd, g, q⟩ := h
  match ds, g with
  | [.int i, .int j], g =>
    obtain ⟨v, u, rfl, h1, h2⟩ := Dts.two hd
    have e1 := Dt.int_inv h1; have e2 := Dt.int_inv h2; subst e1; subst e2
    have e : (if j < i then j else i) = min i j := by omega
    exact call_min2 hc pins s σ H _ us Q I rx ⟨i, j, rfl, q _ H (Ex.refl H) (by rw [show z = _ from g, e]; exact .int _)⟩
theorem call_max2D (hc : X.calm = true) : CallR X (.builtin "max") (rC X.K Max2D) := by
  intro pins s σ H xs us Q I rx h
  obtain ⟨M, ds, z, hM, hd, g, q⟩ := h
  match ds, g with
  | [.int i, .int j], g =>
    obtain ⟨v, u, rfl, h1, h2⟩ := Dts.two hd
    have e1 := Dt.int_inv h1; have e2 := Dt.int_inv h2; subst e1; subst e2
    have e : (if j > i then j else i) = max i j := by omega
    exact call_max2 hc pins s σ H _ us Q I rx ⟨i, j, rfl, q _ H (Ex.refl H) (by rw [show z = _ from g, e]; exact .int _)⟩
def AbsD : List PyData → PyData → Prop
  | [.int i], z => z = .int (if i < 0 then -i else i)
  | _, _ => False
theorem call_absD : CallR X (.builtin "abs") (rC X.K AbsD) := by
  intro pins s σ H xs us Q I rx h
  obtain ⟨M, ds, z, hM, hd, g, q⟩ := h
  match ds, g with
  | [.int i], g =>
    obtain ⟨v, rfl, h1⟩ := Dts.one hd
    have e1 := Dt.int_inv h1; subst e1
    exact call_abs pins s σ H _ us Q I rx ⟨i, rfl, q _ H (Ex.refl H) (by rw [show z = _ from g]; exact .int _)⟩
def IntD : List PyData → PyData → Prop
  | [.int i], z => z = .int i
  | [.bool b], z => z = .int (if b then 1 else 0)
  | [.str x], z => ∃ n, PySem.intText? x = some n ∧ x.length ≤ 640 ∧ z = .int n
  | _, _ => False
theorem call_intD : CallR X (.type "int") (rC X.K IntD) := by
  intro pins s σ H xs us Q I rx h
  obtain ⟨M, ds, z, hM, hd, g, q⟩ := h
  match ds, g with
  | [.int i], g =>
    obtain ⟨v, rfl, h1⟩ := Dts.one hd
    have e1 := Dt.int_inv h1; subst e1
    exact call_int1 pins s σ H _ us Q I rx (.inl ⟨i, rfl, q _ H (Ex.refl H) (by rw [show z = _ from g]; exact .int _)⟩)
  | [.bool i], g =>
    obtain ⟨v, rfl, h1⟩ := Dts.one hd
    have e1 := Dt.bl_inv h1; subst e1
    exact call_int1 pins s σ H _ us Q I rx (.inr ⟨i, rfl, q _ H (Ex.refl H) (by rw [show z = _ from g]; exact .int _)⟩)
  | [.str i], g =>
    obtain ⟨v, rfl, h1⟩ := Dts.one hd
    have e1 := Dt.str_inv h1; subst e1
    obtain ⟨n, g1, g2, g3⟩ := g
    exact call_int_str pins s σ H _ us Q I rx ⟨i, n, rfl, g1, g2, q _ H (Ex.refl H) (by rw [g3]; exact .int _)⟩
def StrD : List PyData → PyData → Prop
  | [.int i], z => i.natAbs.log2 < 1920 ∧ z = .str (toString i)
  | _, _ => False
theorem call_strD : CallR X (.type "str") (rC X.K StrD) := by
  intro pins s σ H xs us Q I rx h
  obtain ⟨M, ds, z, hM, hd, g, q⟩ := h
  match ds, g with
  | [.int i], g =>
    obtain ⟨v, rfl, h1⟩ := Dts.one hd
    have e1 := Dt.int_inv h1; subst e1
    exact call_str_int pins s σ H _ us Q I rx ⟨i, rfl, g.1, q _ H (Ex.refl H) (by rw [g.2]; exact .str _)⟩
def ListD : List PyData → PyData → Prop
  | [.list ds], z => z = .list ds
  | [.tuple ds], z => z = .list ds
  | _, _ => False
theorem call_listD : CallR X (.type "list") (rC X.K ListD) := by
  intro pins s σ H xs us Q I rx h
  obtain ⟨M, ds, z, hM, hd, g, q⟩ := h
  match ds, g with
  | [.list ds], g =>
    obtain ⟨v, rfl, h1⟩ := Dts.one hd
    obtain ⟨a, xs, rfl, ha, hx⟩ := Dt.list_inv h1
    exact call_list_of pins s σ H _ us Q I rx ⟨a, xs, rfl, .inl (hid_l ha), fun p hp => q _ _ (Ex.new hp) (by rw [show z = _ from g]; exact Da.new_lst hM hp hx)⟩
  | [.tuple ds], g =>
    obtain ⟨v, rfl, h1⟩ := Dts.one hd
    obtain ⟨a, xs, rfl, ha, hx⟩ := Dt.tup_inv h1
    exact call_list_of pins s σ H _ us Q I rx ⟨a, xs, rfl, .inr (hid_t ha), fun p hp => q _ _ (Ex.new hp) (by rw [show z = _ from g]; exact Da.new_lst hM hp hx)⟩
def TupleD : List PyData → PyData → Prop
  | [.list ds], z => z = .tuple ds
  | [.tuple ds], z => z = .tuple ds
  | _, _ => False
theorem call_tupleD : CallR X (.type "tuple") (rC X.K TupleD) := by
  intro pins s σ H xs us Q I rx h
  obtain ⟨M, ds, z, hM, hd, g, q⟩ := h
  match ds, g with
  | [.list ds], g =>
    obtain ⟨v, rfl, h1⟩ := Dts.one hd
    obtain ⟨a, xs, rfl, ha, hx⟩ := Dt.list_inv h1
    exact call_tuple_of pins s σ H _ us Q I rx ⟨a, xs, rfl, .inl ⟨(hid_l ha), fun p hp => q _ _ (Ex.new hp) (by rw [show z = _ from g]; exact Da.new_tup hM hp hx)⟩⟩
  | [.tuple ds], g =>
    obtain ⟨v, rfl, h1⟩ := Dts.one hd
    have h0 := h1
    obtain ⟨a, xs, rfl, ha, hx⟩ := Dt.tup_inv h1
    exact call_tuple_of pins s σ H _ us Q I rx ⟨a, xs, rfl, .inr ⟨hid_t ha, q _ H (Ex.refl H) (by rw [show z = _ from g]; exact Dq.tup ha hx)⟩⟩
end
end DL
set_option maxRecDepth 100000
namespace DL
open PySem L2

theorem u64 {k : Nat} {A : Around} (hr : Room k A) : A.units + 64 < cLine := hr.units
theorem u65 {k : Nat} {A : Around} (hr : Room k A) : A.units + 65 < cLine := by have := hr.un; omega
section
variable {X : Cx}
def NegD (d z : PyData) : Prop := ∃ i, d = .int i ∧ z = .int (-i)
theorem un_negDD : UnR X (unaryOp .USub) (rU1 X.K NegD) := un_negD
def IsBD (d e z : PyData) : Prop := ∃ a b, d = .bool a ∧ e = .bool b ∧ z = .bool (decide (a = b))
def NotBD (d e z : PyData) : Prop := ∃ a b, d = .bool a ∧ e = .bool b ∧ z = .bool (!decide (a = b))
theorem op_isBD : OpR X (compareOp .Is) (rB X.K IsBD) := by
  intro pins s σ H x y v u Q I rx ry h
  obtain ⟨M, d, e, z, hM, hd, he, ⟨a, b, rfl, rfl, rfl⟩, q⟩ := h
  have e1 := hd.bl_inv; have e2 := he.bl_inv; subst e1; subst e2
  exact op_isBl pins s σ H _ _ v u Q I rx ry ⟨a, b, rfl, rfl, q _ H (Ex.refl H) (.bl _)⟩
theorem op_notBD : OpR X (compareOp .IsNot) (rB X.K NotBD) := by
  intro pins s σ H x y v u Q I rx ry h
  obtain ⟨M, d, e, z, hM, hd, he, ⟨a, b, rfl, rfl, rfl⟩, q⟩ := h
  have e1 := hd.bl_inv; have e2 := he.bl_inv; subst e1; subst e2
  exact op_notBl pins s σ H _ _ v u Q I rx ry ⟨a, b, rfl, rfl, q _ H (Ex.refl H) (.bl _)⟩
/-! ### isinstance -/
def tyD : PyData → String
  | .none => "NoneType"
  | .bool _ => "bool"
  | .int _ => "int"
  | .str _ => "str"
  | .list _ => "list"
  | .tuple _ => "tuple"
  | .dict _ => "dict"
theorem ty_of {K : Fg} {M : Ms} {H : Hp} {v : V} {d : PyData} (h : Da K M H v d) : TyX K H v (.type (tyD d)) := by
  cases h with
  | non => exact .base .non
  | bl b => exact .base (.bl b)
  | int i => exact .base (.int i)
  | str x => exact .base (.str x)
  | lst s a =>
    rcases hid_l s with (s | ⟨o, s⟩) | ⟨o, its, n, hk, hc, _⟩
    · exact .base (.lst s)
    · exact .base (.frz s)
    · exact .kList hk hc
  | tup s a =>
    rcases hid_t s with (s | ⟨o, s⟩) | ⟨o, its, n, hk, hc, _⟩
    · exact .base (.tup s)
    · exact .fTuple s
    · exact .kTuple hk hc
def isN (T n : String) : Bool := n == T || (n == "bool" && T == "int")
/-- isinstance(d, T), T one of int, str, bool, list, tuple -/
def isD (T : String) (d : PyData) : Bool := isN T (tyD d)
def goodT : List String := ["int", "str", "bool", "list", "tuple"]
def allT : List String := ["NoneType", "bool", "int", "str", "list", "tuple", "dict"]
theorem kit_all : ∀ T ∈ goodT, ∀ n ∈ allT, kitB n T = some (isN T n) := by decide +kernel
theorem ty_all (d : PyData) : tyD d ∈ allT := by cases d <;> simp [tyD, allT]
theorem kit_isD {T : String} (h : T ∈ goodT) (d : PyData) : kitB (tyD d) T = some (isD T d) := kit_all T h _ (ty_all d)
theorem ty_ofT {K : Fg} {M : Ms} {H : Hp} {v : V} {d : PyData} (h : Dt K M H v d) : TyX K H v (.type (tyD d)) := by
  cases h with
  | da h => exact ty_of h
  | op s a =>
    rcases s with (s | ⟨o, s⟩) | ⟨o, its, n, hk, hc, _⟩
    · exact .base (.lst s)
    · exact .base (.frz s)
    · exact .kList hk hc
def rIsD (K : Fg) : List V → Hp → VK → Prop := fun vs H Q => ∃ M v d T, vs = [v, .ty T] ∧ T ∈ goodT ∧ Md M H ∧ Dt K M H v d ∧ Q (.bl (isD T d)) H
theorem call_isiD : CallR X (.builtin "isinstance") (rIsD X.K) := by
  intro pins s σ H xs us Q I rx h
  obtain ⟨M, v, d, T, rfl, hT, hM, hd, q⟩ := h
  exact call_isi pins s σ H _ us Q I rx ⟨v, .ty T, _, _, _, rfl, .ty T, ty_ofT hd, kit_ty (kit_isD hT d), q⟩
def rIsTD (K : Fg) : List V → Hp → VK → Prop := fun vs H Q => ∃ (M : Ms) (v : V) (d : PyData) (tp : Addr) (Ts : List String), vs = [v, .ref tp] ∧ H tp = some (.tup (Ts.map V.ty)) ∧ (∀ T ∈ Ts, T ∈ goodT) ∧ Md M H ∧ Dt K M H v d ∧ Q (.bl (Ts.any fun T => isD T d)) H
theorem kit_any {K : Fg} {d : PyData} : ∀ {Ts : List String}, (∀ T ∈ Ts, T ∈ goodT) → PySem.W.kitAny K (.type (tyD d)) (Ts.map Value.type) = some (Ts.any fun T => isD T d)
  | [], _ => kitAny_nil
  | T :: Ts, h => by
    have ih := kit_any (K := K) (d := d) (Ts := Ts) fun T' m => h T' (List.mem_cons.mpr (.inr m))
    rw [List.map_cons, List.any_cons]
    exact kitAny_cons (kit_ty (kit_isD (h T List.mem_cons_self) d)) (fun e => by rw [e, Bool.false_or]; exact ih) (fun e => by rw [e, Bool.true_or])
theorem cls_tys : ∀ Ts : List String, Paired ClsV (Ts.map V.ty) (Ts.map Value.type)
  | [] => .nil
  | T :: Ts => .cons (.ty T) (cls_tys Ts)
theorem call_isiTD : CallR X (.builtin "isinstance") (rIsTD X.K) := by
  intro pins s σ H xs us Q I rx h
  obtain ⟨M, v, d, tp, Ts, rfl, ht, hT, hM, hd, q⟩ := h
  exact call_isiT pins s σ H _ us Q I rx ⟨v, tp, _, _, _, _, rfl, ht, cls_tys Ts, ty_ofT hd, kit_any hT, q⟩
/-! ### divmod, sorted, reversed -/
def DivmodD : List PyData → PyData → Prop
  | [.int i, .int j], z => CDiv i j ∧ z = .tuple [.int (i / j), .int (i % j)]
  | _, _ => False
theorem call_divmodD : CallR X (.builtin "divmod") (rC X.K DivmodD) := by
  intro pins s σ H xs us Q I rx h
  obtain ⟨M, ds, z, hM, hd, g, q⟩ := h
  match ds, g with
  | [.int i, .int j], g =>
    obtain ⟨v, u, rfl, h1, h2⟩ := Dts.two hd
    have e1 := Dt.int_inv h1; have e2 := Dt.int_inv h2; subst e1; subst e2
    exact call_divmod pins s σ H _ us Q I rx ⟨i, j, rfl, g.1, fun p hp => q _ _ (Ex.new hp) (by rw [g.2]; exact Da.new_tup hM hp (.cons (.int _) (.cons (.int _) .nil)))⟩
def isort (ns : List Int) : List Int := ns.mergeSort (fun x y => decide (x ≤ y))
def SortedD : List PyData → PyData → Prop
  | [.list ds], z => ∃ ns : List Int, ds = ns.map PyData.int ∧ z = .list ((isort ns).map PyData.int)
  | _, _ => False
theorem call_sortedD (hc : X.calm = true) : CallR X (.builtin "sorted") (rC X.K SortedD) := by
  intro pins s σ H xs us Q I rx h
  obtain ⟨M, ds, z, hM, hd, g, q⟩ := h
  match ds, g with
  | [.list ds], g =>
    obtain ⟨v, rfl, h1⟩ := Dts.one hd
    obtain ⟨a, xs, rfl, ha, hx⟩ := Dt.list_inv h1
    obtain ⟨ns, rfl, g⟩ := g
    have e := Das.ints hx; subst e
    refine cr_sortedI pins s σ H _ us Q I rx ⟨a, ns, rfl, (hid_l ha), fun ns' p hp hs hn => q _ _ (Ex.new hn) ?_⟩
    have e : ns' = isort ns := PySem.W.os_sorted_mergeSort hp hs
    subst e
    rw [g]
    exact Da.new_lst hM hn (Das.of_ints _)
end

/-- truth of data -/
def truD : PyData → Bool
  | .none => false
  | .bool b => b
  | .int i => i != 0
  | .str x => x.length != 0
  | .list ds => !ds.isEmpty
  | .tuple ds => !ds.isEmpty
  | .dict ds => !ds.isEmpty

/-! texts -/
def JoinD : PyData → List PyData → PyData → Prop
  | .str a, [.list ds], z => ∃ ys : List Str, ds = ys.map PyData.str ∧ (ys.map (·.length)).sum + ys.length * a.length ≤ 16777216 ∧ z = .str (Txt.join a ys)
  | _, _, _ => False
def CountD : PyData → List PyData → PyData → Prop
  | .str a, [.str b], z => z = .int (Txt.count a b)
  | _, _, _ => False
def UpperD : PyData → List PyData → PyData → Prop
  | .str a, [], z => a.length ≤ 5592405 ∧ z = .str (Txt.upper a)
  | _, _, _ => False
def SplitD : PyData → List PyData → PyData → Prop
  | .str a, [.str b], z => (b.length == 0) = false ∧ a.length + 2 ≤ sizeLine ∧ z = .list ((Txt.split a b).map PyData.str)
  | _, _, _ => False
def PartD : PyData → List PyData → PyData → Prop
  | .str a, [.str b], z => (b.length == 0) = false ∧ a.length ≤ sizeLine ∧ z = .tuple [.str (Txt.partition a b).1, .str (Txt.partition a b).2.1, .str (Txt.partition a b).2.2]
  | _, _, _ => False
def RpartD : PyData → List PyData → PyData → Prop
  | .str a, [.str b], z => (b.length == 0) = false ∧ a.length ≤ sizeLine ∧ z = .tuple [.str (Txt.rpartition a b).1, .str (Txt.rpartition a b).2.1, .str (Txt.rpartition a b).2.2]
  | _, _, _ => False
def ZfillD : PyData → List PyData → PyData → Prop
  | .str a, [.int i], z => PadOk i = true ∧ z = .str (Txt.zfill a i)
  | _, _, _ => False
def StripD : PyData → List PyData → PyData → Prop
  | .str a, [], z => a.length ≤ sizeLine ∧ z = .str (Txt.strip a)
  | _, _, _ => False
/-- the place of a text in a text, where it stands there -/
def IndexD : PyData → List PyData → PyData → Prop
  | .str a, [.str b], z => ∃ k rest, Builtin.Str.occurrences a b 0 a.length 1 = k :: rest ∧ z = .int (k : Nat)
  | _, _, _ => False
section
variable {X : Cx}
theorem mt_joinD : MtR X "str.join" (rM X.K JoinD) := by
  intro pins s σ H x vs v us Q I rx rv h
  obtain ⟨M, d, ds, z, hM, hd, hds, g, q⟩ := h
  match d, ds, g with
  | .str a, [.list es], g =>
    obtain ⟨ys, rfl, room, rfl⟩ := g
    have e := hd.str_inv; subst e
    obtain ⟨y, rfl, h1⟩ := Dts.one hds
    obtain ⟨p, xs, rfl, hp, hx⟩ := Dt.list_inv h1
    have e2 := Das.strs hx; subst e2
    exact mt_join pins s σ H _ _ v us Q I rx rv ⟨a, p, ys, rfl, rfl, .inl (hid_l hp), room, q _ H (Ex.refl H) (.str _)⟩
theorem mt_countD : MtR X "str.count" (rM X.K CountD) := by
  intro pins s σ H x vs v us Q I rx rv h
  obtain ⟨M, d, ds, z, hM, hd, hds, g, q⟩ := h
  match d, ds, g with
  | .str a, [.str b], g =>
    have e := hd.str_inv; subst e
    obtain ⟨y, rfl, h1⟩ := Dts.one hds
    have e1 := Dt.str_inv h1; subst e1
    exact mt_count pins s σ H _ _ v us Q I rx rv ⟨a, b, rfl, rfl, q _ H (Ex.refl H) (by rw [show z = _ from g]; exact .int _)⟩
theorem mt_upperD : MtR X "str.upper" (rM X.K UpperD) := by
  intro pins s σ H x vs v us Q I rx rv h
  obtain ⟨M, d, ds, z, hM, hd, hds, g, q⟩ := h
  match d, ds, g with
  | .str a, [], g =>
    have e := hd.str_inv; subst e
    cases hds
    exact mt_upper pins s σ H _ _ v us Q I rx rv ⟨a, rfl, rfl, g.1, q _ H (Ex.refl H) (by rw [g.2]; exact .str _)⟩
theorem mt_stripD : MtR X "str.strip" (rM X.K StripD) := by
  intro pins s σ H x vs v us Q I rx rv h
  obtain ⟨M, d, ds, z, hM, hd, hds, g, q⟩ := h
  match d, ds, g with
  | .str a, [], g =>
    have e := hd.str_inv; subst e
    cases hds
    exact mt_strip pins s σ H _ _ v us Q I rx rv ⟨a, rfl, rfl, g.1, q _ H (Ex.refl H) (by rw [g.2]; exact .str _)⟩
theorem mt_splitD : MtR X "str.split" (rM X.K SplitD) := by
  intro pins s σ H x vs v us Q I rx rv h
  obtain ⟨M, d, ds, z, hM, hd, hds, g, q⟩ := h
  match d, ds, g with
  | .str a, [.str b], g =>
    have e := hd.str_inv; subst e
    obtain ⟨y, rfl, h1⟩ := Dts.one hds
    have e1 := Dt.str_inv h1; subst e1
    exact mt_split pins s σ H _ _ v us Q I rx rv ⟨a, b, rfl, rfl, g.1, g.2.1, fun p hp => q _ _ (Ex.new hp) (by rw [g.2.2]; exact Da.new_lst hM hp (Das.of_strs _))⟩
theorem mt_partD : MtR X "str.partition" (rM X.K PartD) := by
  intro pins s σ H x vs v us Q I rx rv h
  obtain ⟨M, d, ds, z, hM, hd, hds, g, q⟩ := h
  match d, ds, g with
  | .str a, [.str b], g =>
    have e := hd.str_inv; subst e
    obtain ⟨y, rfl, h1⟩ := Dts.one hds
    have e1 := Dt.str_inv h1; subst e1
    exact mt_partition pins s σ H _ _ v us Q I rx rv ⟨a, b, rfl, rfl, g.1, g.2.1, fun p hp => q _ _ (Ex.new hp) (by rw [g.2.2]; exact Da.new_tup hM hp (Das.of_strs [_, _, _]))⟩
theorem mt_rpartD : MtR X "str.rpartition" (rM X.K RpartD) := by
  intro pins s σ H x vs v us Q I rx rv h
  obtain ⟨M, d, ds, z, hM, hd, hds, g, q⟩ := h
  match d, ds, g with
  | .str a, [.str b], g =>
    have e := hd.str_inv; subst e
    obtain ⟨y, rfl, h1⟩ := Dts.one hds
    have e1 := Dt.str_inv h1; subst e1
    obtain ⟨t, rfl⟩ := rx
    obtain ⟨u, rfl, t2, rfl⟩ := rv.one
    have fin : ∀ p, H p = none → Q (.ref p) (upd H p (.tup [.str (Txt.rpartition a b).1, .str (Txt.rpartition a b).2.1, .str (Txt.rpartition a b).2.2])) := fun p hp => q _ _ (Ex.new hp) (by rw [g.2.2]; exact Da.new_tup hM hp (Das.of_strs [_, _, _]))
    refine call_meets PySem.F.slot_str_rpartition (typeIs_str _ _ _) PySem.F.entry_str_rpartition (PySem.F.args_str_rpartition_2 _ _) (meets_str_rpartition a b t t2 g.1 g.2.1) ?_
    unfold Txt.rpartition at fin
    revert fin
    cases Builtin.Str.lastOccurrence a b 0 a.length <;> exact fun fin => laid_parts I fin
theorem mt_zfillD : MtR X "str.zfill" (rM X.K ZfillD) := by
  intro pins s σ H x vs v us Q I rx rv h
  obtain ⟨M, d, ds, z, hM, hd, hds, g, q⟩ := h
  match d, ds, g with
  | .str a, [.int i], g =>
    have e := hd.str_inv; subst e
    obtain ⟨y, rfl, h1⟩ := Dts.one hds
    have e1 := Dt.int_inv h1; subst e1
    exact mt_zfill pins s σ H _ _ v us Q I rx rv ⟨a, i, rfl, rfl, g.1, q _ H (Ex.refl H) (by rw [g.2]; exact .str _)⟩
theorem mt_indexD : MtR X "str.index" (rM X.K IndexD) := by
  intro pins s σ H x vs v us Q I rx rv h
  obtain ⟨M, d, ds, z, hM, hd, hds, g, q⟩ := h
  match d, ds, g with
  | .str a, [.str b], g =>
    obtain ⟨k, rest, hk, rfl⟩ := g
    have e := hd.str_inv; subst e
    obtain ⟨y, rfl, h1⟩ := Dts.one hds
    have e1 := Dt.str_inv h1; subst e1
    obtain ⟨t, rfl⟩ := rx
    obtain ⟨u, rfl, t2, rfl⟩ := rv.one
    exact PySem.SC.index hk ⟨.int (k : Nat), H, I.tok _, ⟨_, rfl⟩, q _ H (Ex.refl H) (.int _)⟩
end

def tFs (ts : List TE) : TE := fun σ H Q => tJs ts Str.empty σ H fun out H1 => Q (.str out) H1
/-- a text's signs -/
abbrev tl (x : Str) : List Nat := x.cps.toList
/-! a text backwards -/
def revT (x : Str) : Str := ⟨((Builtin.Str.strSliceIndices none none (-1) x.length).filterMap (x.cps[·]?)).toArray⟩
theorem revT_all {p : Nat → Prop} {x : Str} (h : ∀ c ∈ tl x, p c) : ∀ c ∈ tl (revT x), p c := fun c hc => by
  obtain ⟨i, _, e⟩ := List.mem_filterMap.mp hc
  refine h c ?_
  rw [← Array.getElem?_toList] at e
  exact List.mem_of_getElem? e
theorem revT_len (x : Str) : (revT x).length ≤ x.length := by
  have h : (revT x).length ≤ (Builtin.Str.strSliceIndices none none (-1) x.length).length := by
    show (List.filterMap _ _).toArray.size ≤ _
    rw [List.size_toArray]; exact List.length_filterMap_le _ _
  rw [PyProof.Rows.picked_rev, List.length_map, List.length_range] at h
  exact h
def tRevS (te : TE) : TE := fun σ H Q => te σ H fun x H1 => ∃ y, x = .str y ∧ y.length ≤ sizeLine ∧ Q (.str (revT y)) H1
section
variable {X : Cx} {e : Expr} {te : TE}
theorem pe_revS {k : Nat} {p1 p2 p3 pos : Pos} (he : PE X e te) : PE X (.Subscript e (.Slice none none (some (.UnaryOp .USub (.Constant (.int 1) k p1) p2)) p3) pos) (tRevS te) := by
  constructor
  intro pins s σ H Q I h
  refine PyProof.Rows.Subscript_ (thn (he.run pins s σ H _ I h) ?_)
  rintro v s1 ⟨x, H1, I1, r1, y, rfl, room, done⟩
  obtain ⟨tk, rfl⟩ := r1
  have back : PO X (some (.UnaryOp .USub (.Constant (.int 1) k p1) p2)) (tPart (tUn (rU fun i => .int (-i)) (tC (.int 1)))) := po_some (pe_un un_neg pe_int)
  have open_ : PO X none tNoPart := po_none
  refine wpAny_Slice (thn (open_.run pins s1 σ H1 (fun o J => o = none ∧ J = H1) I1 ⟨rfl, rfl⟩) ?_)
  rintro vl s2 ⟨_, _, I2, pl, rfl, rfl⟩
  refine thn (open_.run pins s2 σ _ (fun o J => o = none ∧ J = _) I2 ⟨rfl, rfl⟩) ?_
  rintro vu s3 ⟨_, _, I3, pu, rfl, rfl⟩
  refine thn (back.run pins s3 σ _ (fun o J => o = some (-1) ∧ J = _) I3 ⟨1, rfl, -1, rfl, rfl, rfl⟩) ?_
  rintro vs s4 ⟨_, _, I4, ps, rfl, rfl⟩
  obtain ⟨l, rfl, el⟩ := IsPart.raw pl
  obtain ⟨u, rfl, eu⟩ := IsPart.raw pu
  obtain ⟨st, rfl, es⟩ := IsPart.raw ps
  have I5 := I4.kept (h' := s4.heap.push { cls := .type "slice", data := .fields #[partValue l, partValue u, partValue st] }) (t' := s4.toks) fun b ob q => Heap.get?_push_of_some _ q
  refine PyProof.Rows.tail_any (s := { s4 with heap := s4.heap.push { cls := .type "slice", data := .fields #[partValue l, partValue u, partValue st] } }) (ops := [.ref s4.heap.objs.size, .str y tk]) (typeIs_str _ _ _) PySem.F.slot_str_getitem.lookup ?_ (by with_unfolding_all rfl)
  refine wpAny_getItem_str_slice (l := l) (u := u) (st := st) ⟨_, Heap.get?_push_size _ rfl, rfl, rfl⟩ (by rw [es]; rfl) ?_
  unfold sliceMade slicePicked
  rw [el, eu, es]
  rw [if_neg (by simp)]
  refine ⟨?_, .str _, _, I5.tok _, ⟨_, rfl⟩, done⟩
  exact Nat.le_trans (revT_len y) room
end

/-- the items of data: a list's, a tuple's, a text's signs -/
def itD : PyData → Option (List PyData)
  | .list ds => some ds
  | .tuple ds => some ds
  | .str x => some (x.cps.toList.map fun c => .str ⟨#[c]⟩)
  | _ => none
/-- a list, a tuple or a text is walked -/
def iSeq (K : Fg) (tl : TE) : TI := fun σ H R => tl σ H fun x H1 => (∃ a, x = .ref a ∧ (∃ xs, SqL K H1 a xs) ∧ R (Itl K a) H1) ∨ (∃ a, x = .ref a ∧ (∃ xs, SqT K H1 a xs) ∧ R (Itt K a) H1) ∨ (∃ z, x = .str z ∧ R (Its z) H1)

section
variable {X : Cx} {tg : Expr}
/-- an iterator was laid at the heap's end: its turns are known, so the walk may start -/
theorem laid_it {pins : List (Addr × Obj)} {σ : L2.St} {H : Hp} {s : Shared} {o : Obj} {J : It} {tn : Nat → Heap → Prop} {R : It → Hp → Prop} (I : Inv X pins σ H s) (T : Turn X.prog X.w X.K tg J [s.heap.objs.size] s.heap.objs.size tn)
    (st : tn 0 (s.heap.push o)) (q : R J H) : PIE X pins σ tg R (.ref s.heap.objs.size) { s with heap := s.heap.push o } := by
  have keep := I.kept (t' := s.toks) (fun _ _ e => Heap.get?_push_of_some o e)
  have free := I.fpOk (Nat.le_refl _) I.fresh
  exact ⟨_, [_], tn, J, H, rfl, keep, T, st, fun b hb => List.mem_singleton.mp hb ▸ free, q⟩
/-- a list, a tuple or a text is walked -/
theorem pi_seq {l : Expr} {tl : TE} (hl : PE X l tl) : PI X tg l (iSeq X.K tl) := by
  constructor
  intro pins s σ H R I h
  have run := hl.run pins s σ H _ I h
  refine thn run ?_
  rintro v s1 ⟨x, H1, I1, r1, ⟨a, rfl, ⟨xs, hq⟩, q⟩ | ⟨a, rfl, ⟨xs, hq⟩, q⟩ | ⟨z, rfl, q⟩⟩
  · obtain ⟨us, rv, p, sz⟩ := I1.list hq
    cases r1
    exact wpAny_pyIter_list p.isList (laid_it I1 (turn_list a _) ⟨_, Heap.get?_push_size _ rfl, rfl, rfl⟩ q)
  · obtain ⟨us, rv, p, sz⟩ := I1.tuple hq
    cases r1
    have tup : s1.heap.IsTuple a us.toArray := p
    exact wpAny_pyIter_tuple tup (laid_it I1 (turn_tuple a _) ⟨_, Heap.get?_push_size _ rfl, rfl, rfl⟩ q)
  · obtain ⟨t, rfl⟩ := r1
    rcases kind : z.cps.all (· < 128) with _ | _
    · exact wpAny_pyIter_wide kind (laid_it I1 (turn_str _ z t "str_iterator" (Or.inr rfl)) ⟨_, Heap.get?_push_size _ rfl, rfl, rfl⟩ q)
    · exact wpAny_pyIter_ascii kind (laid_it I1 (turn_str _ z t "str_ascii_iterator" (Or.inl rfl)) ⟨_, Heap.get?_push_size _ rfl, rfl, rfl⟩ q)
end

theorem wipe_get (σ : L2.St) (k : Nat) : ∀ vs : List Nat, (L2.wipe σ vs)[k]? = if k ∈ vs then (σ[k]?).map (fun _ => none) else σ[k]?
  | [] => by simp [L2.wipe]
  | v :: vs => by
    unfold L2.wipe
    by_cases h : v = k
    · subst h
      rw [if_pos (List.mem_cons_self)]
      by_cases hl : v < (L2.wipe σ vs).length
      · rw [List.getElem?_set_self hl]
        rw [wipe_length] at hl
        rw [List.getElem?_eq_getElem hl]; rfl
      · rw [List.getElem?_eq_none (by rw [List.length_set]; omega)]
        rw [wipe_length] at hl
        rw [List.getElem?_eq_none (by omega)]; rfl
    · rw [List.getElem?_set_ne h, wipe_get σ k vs]
      by_cases m : k ∈ vs
      · rw [if_pos m, if_pos (List.mem_cons.mpr (.inr m))]
      · rw [if_neg m, if_neg (fun z => by rcases List.mem_cons.mp z with e | e; exact h e.symm; exact m e)]
theorem wipe_set {σ : L2.St} {j : Nat} {x : Option V} {vs : List Nat} (h : j ∈ vs) : L2.wipe ((L2.wipe σ vs).set j x) vs = L2.wipe σ vs := by
  apply List.ext_getElem?
  intro k
  rw [wipe_get, wipe_get]
  by_cases m : k ∈ vs
  · rw [if_pos m, if_pos m]
    have e : ((L2.wipe σ vs).set j x)[k]?.isSome = σ[k]?.isSome := by
      by_cases hk : k < σ.length
      · rw [List.getElem?_eq_getElem (by rw [List.length_set, wipe_length]; exact hk), List.getElem?_eq_getElem hk]; rfl
      · rw [List.getElem?_eq_none (by rw [List.length_set, wipe_length]; omega), List.getElem?_eq_none (by omega)]
    cases h1 : ((L2.wipe σ vs).set j x)[k]? <;> cases h2 : σ[k]? <;> rw [h1, h2] at e <;> first | rfl | cases e
  · rw [if_neg m, if_neg m]
    have hj : j ≠ k := fun e => m (e ▸ h)
    rw [List.getElem?_set_ne hj, wipe_get, if_neg m]
theorem wipe_wipe {σ : L2.St} {vs : List Nat} : L2.wipe (L2.wipe σ vs) vs = L2.wipe σ vs := by
  apply List.ext_getElem?
  intro k
  rw [wipe_get]
  by_cases m : k ∈ vs
  · rw [if_pos m, wipe_get, if_pos m]
    cases σ[k]? <;> rfl
  · rw [if_neg m]

theorem take_more {α : Type} : ∀ {l : List α} {i : Nat} {x : α}, l[i]? = some x → l.take (i + 1) = l.take i ++ [x]
  | [], i, x, h => by simp at h
  | a :: l, 0, x, h => by have e : a = x := Option.some.inj h; subst e; rfl
  | a :: l, i + 1, x, h => by
    have ih := take_more (l := l) (i := i) (x := x) h
    show a :: l.take (i + 1) = a :: l.take i ++ [x]
    rw [ih]; rfl

/-! defs whose callers' frames hold no guard: what repr of a list or tuple wants to know -/
structure FnG (P : Program) (w : World) (K : Fg) (mg : Str → Option Value) (base : Heap) (CX : CXT) (k : Nat) (f : Addr) (fd : FuncData) (ps : List Str) (sp : Sp) : Prop where
  many : ∀ vs H Q E, sp vs H Q E → vs.length = ps.length
  run : ∀ (A : Around), A.guards = some [] → Room k A → ∀ (outer : List PySem.Env) (s : Shared) (H : Hp), Env0 P w K mg base A outer s H → ∀ (args : Args) (us : List Value) (vs : List V), BindsTo s fd args (ps.zip us) → Vals vs us →
    ∀ (Q : VK) (E : XK), sp vs H Q E → codeAny (model P w) A (.call (.ref f) args) (CR CX outer P w H s Q E) s
section
variable {P : Program} {w : World} {K : Fg} {mg : Str → Option Value} {base : Heap} {CX : CXT} {j k : Nat} {f : Addr} {fd : FuncData} {ps : List Str} {sp : Sp}
theorem FnG.up (F : FnG P w K mg base CX j f fd ps sp) (h : j ≤ k) : FnG P w K mg base CX k f fd ps sp :=
  ⟨F.many, fun A g r => F.run A g (r.mono h)⟩
/-- a def by its body -/
theorem fng {x qual : Str} {st : Stmt} {N : List Str} (D : Fun K x qual st f fd) (S : FnScope N ps (defScope st)) (many : ∀ vs H Q E, sp vs H Q E → vs.length = ps.length)
    (body : ∀ (cdv : Value) (A : Around) (outer : List PySem.Env) (s : Shared) (H : Hp) (vs : List V) (Q : VK) (E : XK), A.guards = some [] → Room k (A.deeper (PyProof.Rows.envOfC qual (defScope st) s.heap.objs.size f cdv)) → sp vs H Q E →
      ∃ t, PSs (cxOf CX P w K mg base N qual (defScope st) f cdv A outer s H E) (defBody st) t ∧ t { nx := fun _ H' => Q .non H', rt := Q } (L2.start N vs) H) : FnG P w K mg base CX (k + 1) f fd ps sp := by
  obtain ⟨oc, od, kV, doc, pm, an, cdv, ct, osl, rfl, lk, hcd⟩ := D.ex
  constructor
  · exact many
  intro A hg room outer s H e0 args us vs bind vals Q E promise
  have long := many _ _ _ _ promise
  have inK : K.In s.heap := e0.mod.kin.keeps fun b o e => (e0.bs b o e).1
  have lim : s.heap.NoLimit := e0.mod.nolimit.keeps fun b o e => (e0.bs b o e).1
  refine codeAny_call_function room.depth (inK _ _ lk) rfl S.co S.gen rfl (PySem.W.codeRec_of inK hcd) (bind _ _ _ _ ?_)
  have kinds : ∀ y ∈ ps.zip us, (defScope st).names.lookup y.1 = some .local ∨ ((defScope st).names.lookup y.1 = some .cell ∧ ((cellsFrom (s.heap.objs.size + 1) (defScope st).names []).lookup y.1).isSome = true) := by
    rintro ⟨n, v⟩ hy
    exact (S.par n (List.of_mem_zip hy).1).imp id fun q => ⟨q, PySem.W.cellsFrom_some _ _ _ (.inl q)⟩
  refine PySem.wpAny_newFunctionEnv_cells S.kind kinds ?_
  rintro env rfl s1 born
  refine ⟨lim.keeps born.toInCall.keep, codeAny_func ?_⟩
  obtain ⟨t, derived, reads⟩ := body cdv A outer s H vs Q E hg (room.deeper _) promise
  have I : L2.Inv (cxOf CX P w K mg base N qual (defScope st) f cdv A outer s H E) [] (L2.start N vs) H s1 := inv_start S room.hd e0 long vals born
  refine wpAny_mono (derived.run [] s1 (L2.start N vs) H _ I reads) ?_ fun _ _ z => z
  rintro (_ | _ | _ | u) s' z
  · obtain ⟨σ', H', J, q⟩ := z
    exact ⟨.non, H', J.os, J.bare, J.base, J.hok, rfl, q⟩
  · obtain ⟨_, _, _, q⟩ := z; exact q.elim
  · obtain ⟨_, _, _, q⟩ := z; exact q.elim
  · obtain ⟨v, σ', H', J, r, q⟩ := z
    exact ⟨v, H', J.os, J.bare, J.base, J.hok, r, q⟩
end
section
variable {X : Cx} {CX : CXT} {k : Nat} {f : Addr} {fd : FuncData} {ps : List Str} {sp : Sp} {dvs : List V} {ds : List Value} {E : XK} {x : Str} {p pos : Pos} {e : Expr} {es : List Expr} {t : TA}
theorem runG {pins : List (Addr × Obj)} {σ : L2.St} {H : Hp} {s : Shared} {Q : VK} {us : List Value} {vs : List V} (F : FnG X.prog X.w X.K X.mg X.base CX k f fd ps sp) (hG : X.A.guards = some []) (hr : Room k X.A) (hb : Binds X.K fd ps ds) (hd : Vals dvs ds) (hx : Passes CX X E)
    (I : L2.Inv X pins σ H s) (r : Vals vs us) (h : sp (vs ++ dvs) H Q E) : wpAny (model X.prog X.w) X.A (call (.ref f) us) (EP X pins σ Q) X.xe s := by
  have both : Vals (vs ++ dvs) (us ++ ds) := r.append hd
  have hl : (us ++ ds).length = ps.length := both.length.symm.trans (F.many _ _ _ _ h)
  have ran := F.run X.A hG hr X.stack s H I.env0 ⟨us, []⟩ (us ++ ds) (vs ++ dvs) (hb s us I.kIn hl) both Q E h
  refine wpAny_call (codeAny_mono ran ?_)
  rintro (er | _ | _ | _ | u) s' z
  · exact hx pins σ H s er s' I z
  · exact False.elim z
  · exact False.elim z
  · exact False.elim z
  · exact I.after z
theorem pe_callG (F : FnG X.prog X.w X.K X.mg X.base CX k f fd ps sp) (hG : X.A.guards = some []) (hr : Room k X.A) (hg : Gl X x) (hm : X.mg x = some (.ref f)) (hk : PySem.W.keepIn X.K (.ref f) = true) (hb : Binds X.K fd ps ds) (hd : Vals dvs ds) (hx : Passes CX X E)
    (ha : PA X (e :: es) t) (hdb : (x == ("__debug__" : Str)) = false := by decide) (he : starEach (e :: es) X.env = (false, eval e X.env) :: starEach es X.env := by rfl) (hpl : (backTo pos (starEach es X.env)).any (·.1) = false := by rfl) :
    PE X (.Call (.Name x p) (e :: es) [] pos) (tCall sp dvs E t) := by
  constructor
  intro pins s σ H Q I h
  refine wpAny_Call_Name_kw (ld_glob I hg hm (PySem.W.callWith_K (h₀ := X.base) I.ok.mod.kin hk (thn (ha.run pos pins s σ H _ I h) ?_) he hpl) hdb)
  rintro us s1 ⟨vs, H1, I1, r, q⟩
  exact ⟨I1.kIn, runG F hG hr hb hd hx I1 r q⟩
end
/-! the law's own call -/
/-- what is tracked at the start: the script, unless the module itself has it -/
theorem script_heap {P : Program} {w : World} {K : Fg} {h : Heap} {a : Addr} {vs : List Value} {ns : List Int} (inK : K.In h) (there : h.get? a = some { cls := .type "list", data := .seq vs.toArray }) (nums : PyProof.Rows.IntsAre vs ns) (few : ns.length ≤ sizeLine) :
    ∃ H : Hp, Only H ∧ SqL K H a (ns.map V.int) ∧ HOk P w H h ∧ ∀ b, H b ≠ none → b = a ∧ K.lookup a = none := by
  have vals := vals_ints nums
  have same := nums.length
  cases found : K.lookup a with
  | some o =>
    have e := inK a o found
    rw [there] at e
    cases e
    exact ⟨fun _ => none, fun _ => .inl rfl, .inr ⟨_, vs.toArray, _, found, rfl, rfl, rfl, by rw [List.size_toArray, same]; exact few, by simpa using vals⟩, (fun b u z => by have z2 : (none : Option HO) = some u := z; cases z2), fun b z => absurd rfl z⟩
  | none =>
    refine ⟨fun b => if b = a then some (.frz { cls := .type "list", data := .seq vs.toArray } (.lst (ns.map V.int))) else none, fun b => ?_, .inl (.inr ⟨{ cls := .type "list", data := .seq vs.toArray }, if_pos rfl⟩), fun b u z => ?_, fun b z => ?_⟩
    · by_cases c : b = a
      · exact .inr ⟨_, _, if_pos c⟩
      · exact .inl (if_neg c)
    · by_cases c : b = a
      · subst c
        have z := (if_pos rfl).symm.trans z
        cases z
        exact ⟨there, by rw [List.length_map]; exact few, vs, _, vals, there⟩
      · have z := (if_neg c).symm.trans z
        cases z
    · by_cases c : b = a
      · exact ⟨c, rfl⟩
      · exact absurd (if_neg c) z
theorem law_callG {P : Program} {w : World} {K : Fg} {mg mb : Str → Option Value} {CX : CXT} {k : Nat} {fa a : Addr} {fd : FuncData} {x : Str} {sp : Sp} {s : Shared} {vs : List Value} {ns : List Int}
    (inK : K.In s.heap) (top : s.heap.Ns mainGlobals mg) (blt : s.heap.Ns builtinsNs mb) (boot : ∀ x : Str, x ≠ "__name__" → mb x = bootBuiltins x) (lim : s.heap.NoLimit) (gens : s.gens = #[])
    (there : s.heap.get? a = some { cls := .type "list", data := .seq vs.toArray }) (nums : PyProof.Rows.IntsAre vs ns) (few : ns.length ≤ sizeLine) (room : Room k callerA)
    (F : ∀ base : Heap, K.In base → base.Ns mainGlobals mg → FnG P w K mg base CX k fa fd [x] sp) (bind : ∀ (s : Shared) (u : Value), BindsTo s fd ⟨[u], []⟩ [(x, u)])
    (promise : ∀ H : Hp, Only H → SqL K H a (ns.map V.int) → sp [.ref a] H (fun v _ => v = .bl true) fun _ _ _ => False) (calm : ∀ H e s', CX [] H s (fun _ _ _ => False) e s' → False) :
    codeAny (model P w) callerA (.call (.ref fa) ⟨[.ref a], []⟩) (fun r s' => r = .ok (.ret (.bool true)) ∧ OldK s.heap s'.heap ∧ s'.os = s.os ∧ PyProof.Rows.AllBare s'.gens) s := by
  obtain ⟨H, only, seq, ok, own⟩ := script_heap (P := P) (w := w) inK there nums few
  have still : ∀ {b : Addr} {o : Obj}, s.heap.get? b = some o → H b = none → (hidT s.heap H).get? b = some o := fun e n => hidT_get e n
  have noDict : ∀ {b : Addr} {o : Obj} {es : Array DictEntry} {n : Nat}, s.heap.get? b = some o → o.data = .dict es n → H b = none := by
    intro b o es n e d
    refine Classical.byContradiction fun z => ?_
    obtain ⟨rfl, _⟩ := own b z
    rw [there] at e; cases e; cases d
  have names : ∀ {b : Addr} {m : Str → Option Value}, s.heap.Ns b m → (hidT s.heap H).Ns b m := by
    rintro b m ⟨o, es, n, e, d, r⟩
    exact ⟨o, es, n, still e (noDict e d), d, r⟩
  have inB : K.In (hidT s.heap H) := fun b o e => still (inK b o e) (Classical.byContradiction fun z => by
    obtain ⟨rfl, q⟩ := own b z
    rw [q] at e; cases e)
  have md : Mod K mg (hidT s.heap H) := ⟨inB, names top, ⟨mb, names blt, boot⟩, by obtain ⟨mc, h1, h2⟩ := lim; exact ⟨mc, names h1, h2⟩⟩
  have e0 : Env0 P w K mg (hidT s.heap H) callerA [] s H := ⟨rfl, md, fun b o e => of_hidT e, Nat.le_of_eq (hidT_size _ _), trivial, fun b hb => absurd (show b ∈ ([] : List Addr) from hb) (by simp), ok, PyProof.Rows.AllBare.of_eq gens⟩
  refine codeAny_mono ((F _ inB (names top)).run callerA rfl room [] s H e0 ⟨[.ref a], []⟩ [.ref a] [.ref a] (bind s (.ref a)) (.cons rfl .nil) _ _ (promise H only seq)) ?_
  rintro (er | _ | _ | _ | u) s' z
  · exact (calm H er s' z).elim
  · exact False.elim z
  · exact False.elim z
  · exact False.elim z
  · obtain ⟨v, H', os, bare, un, ok', r, q⟩ := z
    have q : v = .bl true := q
    subst q
    obtain rfl : u = Value.bool true := r
    refine ⟨rfl, OldK.of_keep fun b o e => ?_, os, bare⟩
    rcases only b with n | ⟨ob, xs, n⟩
    · exact un.keep b o e n (fun z => absurd (show b ∈ ([] : List Addr) from z) (by simp)) (by simp)
    · obtain ⟨e1, _⟩ := ok b _ n
      obtain ⟨e2, _⟩ := ok' b _ (un.frzs b ob _ n)
      rw [e] at e1; cases e1
      exact e2

/-- the law's walk -/
theorem walk_ofG {l : PySem.W.OpenLaw} {n k : Nat} {q : Program} {loose : List Str} {XP : (Str → Option Value) → Heap → Prop} {YP : World → Heap → Prop} {d : DefRec} {K : Params → Fg} {CX : World → CXT} {sp : World → Sp} {x : Str}
    (hn : l.most = some n) (hn2 : n ≤ sizeLine) (hdf : d.params.defaults = []) (hr : Room k callerA) (hY : ∀ (w : World) (h : Heap), YP w h → (K w.params).In h)
    (F : ∀ (w : World) (mg : Str → Option Value) (fa : Addr) (h : Heap), (K w.params).In h → h.Ns mainGlobals mg → mg d.name = some (.ref fa) →
      ∃ fd : FuncData, (∀ (s : Shared) (u : Value), BindsTo s fd ⟨[u], []⟩ [(x, u)]) ∧ ∀ base : Heap, (K w.params).In base → base.Ns mainGlobals mg → FnG l.prog w (K w.params) mg base (CX w) k fa fd [x] (sp w))
    (hsp : ∀ (w : World) (H : Hp) (a : Addr) (ns : List Int), ns.length ≤ n → Only H → SqL (K w.params) H a (ns.map V.int) → sp w [.ref a] H (fun v _ => v = .bl true) fun _ _ _ => False)
    (hCX : ∀ (w : World) (H : Hp) (s : Shared) (e : Value) (s' : Shared), CX w [] H s (fun _ _ _ => False) e s' → False) :
    PySem.W.WalkO q loose XP YP l.row.toRowW d [] (fun f vs => PySem.call f vs) := by
  refine Att.attach_call hn hdf ?_
  intro w s₀ s₁ mg mb fa o pm cd doc a vs ns G Y ho hd hcd hmg hobj nums few gens
  have inK := hY w _ Y
  obtain ⟨fd, bind, made⟩ := F w mg fa _ inK G.T.g hmg
  exact law_callG inK G.T.g G.T.b G.T.builtins G.T.nolimit gens hobj nums (Nat.le_trans few hn2) hr made bind (fun H only seq => hsp w H a ns few only seq) fun H e s' => hCX w H s₁ e s'
/-! repr of data -/
def ReprD : List PyData → PyData → Prop
  | [d], z => d.showable = true ∧ d.hasDict = false ∧ d.depth ≤ 60 ∧ d.shown.length ≤ sizeLine ∧ z = .str d.shown
  | _, _ => False
theorem call_reprD {X : Cx} (hG : X.A.guards = some []) (hu : X.A.units + 64 < cLine) : CallR X (.builtin "repr") (rC X.K ReprD) := by
  intro pins s σ H xs us Q I rx h
  obtain ⟨M, ds, z, hM, hd, g, q⟩ := h
  match ds, g with
  | [d], g =>
    obtain ⟨show1, noD, deep, room, rfl⟩ := g
    obtain ⟨x, rfl, h1⟩ := Dts.one hd
    obtain ⟨u, rfl, r1⟩ := rx.one
    have done : ∀ (h' : Heap) (k : Nat), (∀ b o, s.heap.get? b = some o → h'.get? b = some o) → ∀ v, RelV (.str d.shown) v → EP X pins σ Q v { s with heap := h', toks := k } := fun h' k keep v rv => ⟨_, H, I.kept (t' := k) keep, rv, q _ H (Ex.refl H) (.str _)⟩
    have flat : ∀ (k : Nat) v, RelV (.str d.shown) v → EP X pins σ Q v { s with toks := k } := fun k v rv => done s.heap k (fun _ _ e => e) v rv
    have deepR : ∀ a, u = .ref a → wpAny (model X.prog X.w) X.A (call (.builtin "repr") [u]) (EP X pins σ Q) X.xe s := fun a e => by
      subst e
      obtain ⟨as, rd⟩ := Dp.reads I d x _ (Dt.dp h1) r1
      exact PySem.repr_of_reads' rd show1 (PyData.noDict_hsm noD) hG (by omega) (fun _ _ e => e) (fun h' t k keep => done h' k keep _ ⟨_, rfl⟩) room
    cases d with
    | none =>
      obtain rfl := h1.non_inv
      obtain rfl : u = .none := r1
      exact PySem.P.repr_of_none (flat _ _ ⟨_, rfl⟩)
    | bool b =>
      obtain rfl := h1.bl_inv
      obtain rfl : u = .bool b := r1
      exact PySem.P.repr_of_bool (flat _ _ ⟨_, by cases b <;> rfl⟩)
    | int i =>
      obtain rfl := h1.int_inv
      obtain ⟨t, rfl⟩ := r1
      exact PySem.P.repr_of_int (of_decide_eq_true show1) (flat _ _ ⟨_, rfl⟩)
    | str y =>
      obtain rfl := h1.str_inv
      obtain ⟨t, rfl⟩ := r1
      exact PySem.P.repr_of_str (flat _ _ ⟨_, rfl⟩) room
    | list ys =>
      obtain ⟨a, vs, rfl, _, _⟩ := Dt.list_inv h1
      exact deepR a r1
    | tuple ys =>
      obtain ⟨a, vs, rfl, _, _⟩ := Dt.tup_inv h1
      exact deepR a r1
    | dict kvs => cases h1 with | da h => cases h

theorem atI_in {α : Type} {xs : List α} {i : Int} (h0 : 0 ≤ i) (h1 : i < xs.length) : atI xs i = some (xs[i.toNat]'(by omega)) := by
  have e : ((i.toNat : Nat) : Int) = i := by omega
  have h := atI_nat (List.getElem?_eq_getElem (l := xs) (i := i.toNat) (by omega))
  rw [e] at h
  exact h
theorem atI_mem {α : Type} {xs : List α} {i : Int} (h0 : 0 ≤ i) (h1 : i < xs.length) : ∃ x, atI xs i = some x ∧ x ∈ xs := ⟨_, atI_in h0 h1, List.getElem_mem _⟩
theorem atI_ints {ns : List Int} {i : Int} (h0 : 0 ≤ i) (h1 : i < ns.length) : ∃ n, atI (ns.map PyData.int) i = some (.int n) ∧ atI ns i = some n := by
  refine ⟨ns[i.toNat]'(by omega), ?_, atI_in h0 h1⟩
  rw [atI_in h0 (by rw [List.length_map]; exact h1)]
  simp

section
variable {i j : Int} {a b : Str} {xs ys : List PyData} {p q : Bool}
theorem g_add : AddD (.int i) (.int j) (.int (i + j)) := rfl
theorem g_addS (h : a.length + b.length ≤ sizeLine) : AddD (.str a) (.str b) (.str (a ++ b)) := ⟨h, rfl⟩
theorem g_addL (h : xs.length + ys.length ≤ sizeLine) : AddD (.list xs) (.list ys) (.list (xs ++ ys)) := ⟨h, rfl⟩
theorem g_addT (h : xs.length + ys.length ≤ sizeLine) : AddD (.tuple xs) (.tuple ys) (.tuple (xs ++ ys)) := ⟨h, rfl⟩
theorem g_sub : SubD (.int i) (.int j) (.int (i - j)) := rfl
theorem g_mul (h : CMul i j) : MulD (.int i) (.int j) (.int (i * j)) := ⟨h, rfl⟩
theorem g_mulL (h : -(2 ^ 63) ≤ i ∧ i < 2 ^ 63 ∧ xs.length * i.toNat ≤ sizeLine) : MulD (.list xs) (.int i) (.list (List.replicate i.toNat xs).flatten) := ⟨h.1, h.2.1, h.2.2, rfl⟩
theorem g_div (h : CDiv i j) : DivD (.int i) (.int j) (.int (i / j)) := ⟨h, rfl⟩
theorem g_mod (h : 0 < j) : ModD (.int i) (.int j) (.int (i % j)) := ⟨h, rfl⟩
theorem g_pow (h : CPow i j) : PowD (.int i) (.int j) (.int (i ^ j.toNat)) := ⟨h, rfl⟩
theorem g_lt : LtD (.int i) (.int j) (.bool (decide (i < j))) := rfl
theorem g_le : LeD (.int i) (.int j) (.bool (decide (i ≤ j))) := rfl
theorem g_gt : GtD (.int i) (.int j) (.bool (decide (j < i))) := rfl
theorem g_ge : GeD (.int i) (.int j) (.bool (decide (j ≤ i))) := rfl
theorem g_ltS : LtD (.str a) (.str b) (.bool (decide (a.cps.toList < b.cps.toList))) := rfl
theorem g_leS : LeD (.str a) (.str b) (.bool (!decide (b.cps.toList < a.cps.toList))) := rfl
theorem eqv_int : PyData.eqv (.int i) (.int j) = decide (i = j) := by unfold PyData.eqv; exact Bool.beq_eq_decide_eq i j
theorem eqv_bool : PyData.eqv (.bool p) (.bool q) = decide (p = q) := by unfold PyData.eqv; cases p <;> cases q <;> rfl
theorem eqv_str : PyData.eqv (.str a) (.str b) = decide (a = b) := by
  unfold PyData.eqv
  by_cases h : a = b
  · subst h; simp
  · rw [decide_eq_false h]; exact beq_eq_false_iff_ne.mpr h
theorem shp_int : Shp (.int i) := by show SeqAt.shaped _ = true; simp [SeqAt.shaped, PyData.canLay0, PyData.depth]
theorem shp_bool : Shp (.bool p) := by show SeqAt.shaped _ = true; simp [SeqAt.shaped, PyData.canLay0, PyData.depth]
theorem shp_none : Shp .none := by show SeqAt.shaped _ = true; simp [SeqAt.shaped, PyData.canLay0, PyData.depth]
theorem g_eq : EqD (.int i) (.int j) (.bool (decide (i = j))) := ⟨.inl shp_int, .inl shp_int, by rw [eqv_int]⟩
theorem g_ne : NeD (.int i) (.int j) (.bool (!decide (i = j))) := ⟨.inl shp_int, .inl shp_int, by rw [eqv_int]⟩
theorem g_eqB : EqD (.bool p) (.bool q) (.bool (decide (p = q))) := ⟨.inl shp_bool, .inl shp_bool, by rw [eqv_bool]⟩
theorem g_neB : NeD (.bool p) (.bool q) (.bool (!decide (p = q))) := ⟨.inl shp_bool, .inl shp_bool, by rw [eqv_bool]⟩
theorem g_neg : NegD (.int i) (.int (-i)) := ⟨i, rfl, rfl⟩
theorem g_isB : IsBD (.bool p) (.bool q) (.bool (decide (p = q))) := ⟨p, q, rfl, rfl, rfl⟩
theorem g_notB : NotBD (.bool p) (.bool q) (.bool (!decide (p = q))) := ⟨p, q, rfl, rfl, rfl⟩
theorem g_ixL {z : PyData} (h : atI xs i = some z) : IxD (.list xs) (.int i) z := h
theorem g_ixT {z : PyData} (h : atI xs i = some z) : IxD (.tuple xs) (.int i) z := h
theorem g_len : LenD [.list xs] (.int (xs.length : Int)) := rfl
theorem g_lenT : LenD [.tuple xs] (.int (xs.length : Int)) := rfl
theorem g_lenS (h : a.length ≤ sizeLine) : LenD [.str a] (.int (a.length : Int)) := ⟨h, rfl⟩
theorem g_sum {ns : List Int} : SumD [.list (ns.map .int)] (.int ns.sum) := ⟨ns, rfl, rfl⟩
theorem g_all {ns : List Bool} : AllD [.list (ns.map .bool)] (.bool (ns.all id)) := ⟨ns, rfl, rfl⟩
theorem g_any {ns : List Bool} : AnyD [.list (ns.map .bool)] (.bool (ns.any id)) := ⟨ns, rfl, rfl⟩
theorem g_min : Min2D [.int i, .int j] (.int (min i j)) := rfl
theorem g_max : Max2D [.int i, .int j] (.int (max i j)) := rfl
theorem g_abs : AbsD [.int i] (.int (if i < 0 then -i else i)) := rfl
theorem g_int : IntD [.int i] (.int i) := rfl
theorem g_intB : IntD [.bool p] (.int (if p then 1 else 0)) := rfl
theorem g_str (h : i.natAbs.log2 < 1920) : StrD [.int i] (.str (toString i)) := ⟨h, rfl⟩
theorem g_list : ListD [.list xs] (.list xs) := rfl
theorem g_listT : ListD [.tuple xs] (.list xs) := rfl
theorem g_tuple : TupleD [.list xs] (.tuple xs) := rfl
theorem g_tupleT : TupleD [.tuple xs] (.tuple xs) := rfl
theorem g_divmod (h : CDiv i j) : DivmodD [.int i, .int j] (.tuple [.int (i / j), .int (i % j)]) := ⟨h, rfl⟩
theorem g_sorted {ns : List Int} : SortedD [.list (ns.map .int)] (.list ((isort ns).map .int)) := ⟨ns, rfl, rfl⟩
end

theorem lay_ints : ∀ ns : List Int, PyData.canLayAll0 (ns.map PyData.int) = true
  | [] => by simp [PyData.canLayAll0]
  | n :: ns => by simp [PyData.canLayAll0, PyData.canLay0, lay_ints ns]
theorem dep_ints : ∀ ns : List Int, PyData.depthAll (ns.map PyData.int) ≤ 1
  | [] => by simp [PyData.depthAll]
  | n :: ns => by have := dep_ints ns; simp [PyData.depthAll, PyData.depth]; omega
theorem lay_bools : ∀ ns : List Bool, PyData.canLayAll0 (ns.map PyData.bool) = true
  | [] => by simp [PyData.canLayAll0]
  | n :: ns => by simp [PyData.canLayAll0, PyData.canLay0, lay_bools ns]
theorem dep_bools : ∀ ns : List Bool, PyData.depthAll (ns.map PyData.bool) ≤ 1
  | [] => by simp [PyData.depthAll]
  | n :: ns => by have := dep_bools ns; simp [PyData.depthAll, PyData.depth]; omega
theorem shp_ints (ns : List Int) : Shp (.list (ns.map .int)) := by
  have h1 := lay_ints ns; have h2 := dep_ints ns
  show SeqAt.shaped _ = true
  simp [SeqAt.shaped, PyData.canLay0, h1, PyData.depth]; omega
theorem shp_bools (ns : List Bool) : Shp (.list (ns.map .bool)) := by
  have h1 := lay_bools ns; have h2 := dep_bools ns
  show SeqAt.shaped _ = true
  simp [SeqAt.shaped, PyData.canLay0, h1, PyData.depth]; omega
theorem eqvAll_ints : ∀ xs ys : List Int, PyData.eqvAll (xs.map .int) (ys.map .int) = decide (xs = ys)
  | [], [] => by simp [PyData.eqvAll]
  | [], y :: ys => by simp [PyData.eqvAll]
  | x :: xs, [] => by simp [PyData.eqvAll]
  | x :: xs, y :: ys => by
    rw [List.map_cons, List.map_cons, PyData.eqvAll, eqv_int, eqvAll_ints xs ys]
    by_cases h : x = y <;> by_cases h' : xs = ys <;> simp [h, h']
theorem eqvAll_bools : ∀ xs ys : List Bool, PyData.eqvAll (xs.map .bool) (ys.map .bool) = decide (xs = ys)
  | [], [] => by simp [PyData.eqvAll]
  | [], y :: ys => by simp [PyData.eqvAll]
  | x :: xs, [] => by simp [PyData.eqvAll]
  | x :: xs, y :: ys => by
    rw [List.map_cons, List.map_cons, PyData.eqvAll, eqv_bool, eqvAll_bools xs ys]
    by_cases h : x = y <;> by_cases h' : xs = ys <;> simp [h, h']
theorem g_eqL {xs ys : List Int} : EqD (.list (xs.map .int)) (.list (ys.map .int)) (.bool (decide (xs = ys))) := ⟨.inl (shp_ints _), .inl (shp_ints _), by rw [PyData.eqv, eqvAll_ints]⟩
theorem g_neL {xs ys : List Int} : NeD (.list (xs.map .int)) (.list (ys.map .int)) (.bool (!decide (xs = ys))) := ⟨.inl (shp_ints _), .inl (shp_ints _), by rw [PyData.eqv, eqvAll_ints]⟩
theorem g_eqLB {xs ys : List Bool} : EqD (.list (xs.map .bool)) (.list (ys.map .bool)) (.bool (decide (xs = ys))) := ⟨.inl (shp_bools _), .inl (shp_bools _), by rw [PyData.eqv, eqvAll_bools]⟩
theorem flat_ints : ∀ ns : List Int, (ns.map PyData.int).all flatD = true
  | [] => rfl
  | n :: ns => by rw [List.map_cons, List.all_cons, flat_ints ns]; rfl
theorem g_inTI {i : Int} {ns : List Int} : InD (.int i) (.tuple (ns.map .int)) (.bool (ns.any fun n => decide (n = i))) := ⟨rfl, flat_ints ns, by
  rw [List.any_map]
  have e : ((fun y => PyData.eqv y (.int i)) ∘ PyData.int) = fun n => decide (n = i) := by funext n; exact eqv_int
  rw [e]⟩

end DL
set_option maxRecDepth 100000
namespace DL
open PySem L2

/-! ### what is known of a state: slots and cells -/
/-- a value: data, a raw value, the n-th cell -/
inductive Cv where
  | d (x : PyData)
  | v (x : V)
  | c (n : Nat)
/-- an object that may change -/
inductive Cell where
  | lst (xs : List PyData)
  | rfs (xs : List Cv)
  | frz (d : PyData)
  | box (l : Bool) (n : Nat)
  | obj (cl : Nat) (fs : List (Str × Cv))
  | dk (es : List (Key × Cv))
abbrev Cs := List Cell
abbrev Rv := List (Option Cv)
structure Kx where
  K : Fg
  cl : Nat → Addr
  w : World
/-- the middle of the box from which a law draws: a number, or (l) some -/
def boxD : Bool → PyData → Prop
  | false, d => ∃ i : Int, d = .int i
  | true, d => ∃ ns : List Int, d = .list (ns.map PyData.int) ∧ 0 < ns.length ∧ ns.length ≤ 1000

section
variable (K : Fg) (M : Ms) (H : Hp) (α : List Addr)
def Rc (v : V) : Cv → Prop
  | .d x => Da K M H v x
  | .v w => v = w
  | .c n => ∃ a, α[n]? = some a ∧ v = .ref a
inductive Rcs : List V → List Cv → Prop
  | nil : Rcs [] []
  | cons {v : V} {vs : List V} {s : Cv} {ss : List Cv} : Rc K M H α v s → Rcs vs ss → Rcs (v :: vs) (s :: ss)
/-- fields, keys: the names are the same, the values are held -/
inductive Rfs {κ : Type} : List (κ × V) → List (κ × Cv) → Prop
  | nil : Rfs [] []
  | cons {f : κ} {v : V} {vs : List (κ × V)} {s : Cv} {ss : List (κ × Cv)} : Rc K M H α v s → Rfs vs ss → Rfs ((f, v) :: vs) ((f, s) :: ss)
end
def CellAt (k : Kx) (M : Ms) (H : Hp) (α : List Addr) (a : Addr) : Cell → Prop
  | .lst ds => ∃ xs, H a = some (.lst xs) ∧ Das k.K M H xs ds
  | .rfs cs => ∃ xs, H a = some (.lst xs) ∧ Rcs k.K M H α xs cs
  | .frz d => a ∉ M.h ∧ (∃ o, H a = some o) ∧ Da k.K M H (.ref a) d
  | .box l n => ∃ (x y : Int) (v : V) (d : PyData), H a = some (.lst [.int x, v, .int y]) ∧ Da k.K M H v d ∧ boxD l d ∧ 0 ≤ x ∧ 0 ≤ y ∧ y ≤ n
  | .obj c fs => ∃ dx vs, H a = some (.ins (k.cl c) dx vs) ∧ Rfs k.K M H α vs fs
  | .dk es => ∃ vs, H a = some (.dK vs) ∧ Rfs k.K M H α vs es
def Cell.isF : Cell → Bool
  | .frz _ => true
  | _ => false
def live : List Addr → Cs → List Addr
  | a :: α, c :: C => if c.isF then live α C else a :: live α C
  | _, _ => []
theorem live_sub : ∀ {α : List Addr} {C : Cs} {a : Addr}, a ∈ live α C → a ∈ α
  | a :: α, c :: C, b, h => by
    unfold live at h
    split at h
    · exact List.mem_cons_of_mem _ (live_sub h)
    · rcases List.mem_cons.mp h with e | e
      · rw [e]; exact List.mem_cons_self
      · exact List.mem_cons_of_mem _ (live_sub e)
  | [], _, _, h => by unfold live at h; exact nomatch h
  | _ :: _, [], _, h => by unfold live at h; exact nomatch h
theorem live_mem : ∀ {α : List Addr} {C : Cs} {a : Addr}, a ∈ live α C ↔ ∃ (i : Nat) (c : Cell), α[i]? = some a ∧ C[i]? = some c ∧ c.isF = false
  | a :: α, c :: C, b => by
    unfold live
    constructor
    · intro h
      split at h
      · obtain ⟨i, d, h1, h2, h3⟩ := live_mem.mp h
        exact ⟨i + 1, d, by simpa using h1, by simpa using h2, h3⟩
      · rename_i hc
        rcases List.mem_cons.mp h with e | e
        · exact ⟨0, c, by rw [e]; rfl, rfl, by simpa using hc⟩
        · obtain ⟨i, d, h1, h2, h3⟩ := live_mem.mp e
          exact ⟨i + 1, d, by simpa using h1, by simpa using h2, h3⟩
    · rintro ⟨i, d, h1, h2, h3⟩
      cases i with
      | zero =>
        simp at h1 h2
        subst h1; subst h2
        rw [if_neg (by rw [h3]; exact Bool.false_ne_true)]
        exact List.mem_cons_self
      | succ i =>
        have m : b ∈ live α C := live_mem.mpr ⟨i, d, by simpa using h1, by simpa using h2, h3⟩
        split
        · exact m
        · exact List.mem_cons_of_mem _ m
  | [], _, _ => by unfold live; constructor; exact fun h => (nomatch h); rintro ⟨i, d, h1, _⟩; simp at h1
  | _ :: _, [], _ => by unfold live; constructor; exact fun h => (nomatch h); rintro ⟨i, d, _, h1, _⟩; simp at h1
/-- what is hidden, what may be written -/
def ms (B : List Addr) (α : List Addr) (C : Cs) : Ms := ⟨live α C ++ B, live α C, fun _ h => List.mem_append_left _ h⟩
theorem ms_h {B α : List Addr} {C : Cs} {a : Addr} : a ∈ (ms B α C).h ↔ a ∈ live α C ∨ a ∈ B := List.mem_append

/-! ### from one point to another -/
structure Stp (M : Ms) (H : Hp) (M' : Ms) (H' : Hp) : Prop where
  md : Md M' H'
  go : Go M H H'
  nw : ∀ a, a ∈ M'.w → a ∈ M.w ∨ H a = none
theorem Stp.of {M : Ms} {H H' : Hp} (m : Md M H) (g : Go M H H') : Stp M H M H' := ⟨m.go g, g, fun _ h => .inl h⟩
theorem Stp.trans {M M1 M2 : Ms} {H H1 H2 : Hp} (a : Stp M H M1 H1) (b : Stp M1 H1 M2 H2) : Stp M H M2 H2 := by
  refine ⟨b.md, ⟨fun x o n h => ?_, fun x o h => by obtain ⟨o', h'⟩ := a.go.2 x o h; exact b.go.2 x o' h'⟩, fun x m => ?_⟩
  · refine b.go.1 x o (fun m => ?_) (a.go.1 x o n h)
    rcases a.nw x m with k | k
    · exact n k
    · rw [h] at k; cases k
  · rcases b.nw x m with k | k
    · exact a.nw x k
    · exact .inr (go_back a.go k)
structure To (B : List Addr) (α : List Addr) (C : Cs) (H : Hp) (α' : List Addr) (C' : Cs) (H' : Hp) : Prop where
  st : Stp (ms B α C) H (ms B α' C') H'
  ex : ∃ e, α' = α ++ e ∧ ∀ a ∈ e, H a = none
section
variable {k : Kx} {B α α' α'' : List Addr} {C C' C'' : Cs} {H H' H'' : Hp}
theorem To.trans (a : To B α C H α' C' H') (b : To B α' C' H' α'' C'' H'') : To B α C H α'' C'' H'' := ⟨a.st.trans b.st, by
  obtain ⟨e, rfl, n1⟩ := a.ex
  obtain ⟨f, rfl, n2⟩ := b.ex
  exact ⟨e ++ f, by rw [List.append_assoc], fun x m => by
    rcases List.mem_append.mp m with m | m
    · exact n1 x m
    · exact go_back a.st.go (n2 x m)⟩⟩
theorem To.hid (t : To B α C H α' C' H') : Ex (hid (ms B α C) H) (hid (ms B α' C') H') := fun a o h => by
  have h0 : H a = some o := hid_le _ _ a o h
  have na : a ∉ (ms B α C).h := fun m => by
    have e : DL.hid (ms B α C) H a = none := if_pos m
    rw [e] at h; cases h
  have h1 : H' a = some o := t.st.go.1 a o (fun m => na ((ms B α C).sub a m)) h0
  refine (if_neg ?_).trans h1
  intro m
  rcases ms_h.mp m with m | m
  · rcases t.st.nw a m with m | m
    · exact na ((ms B α C).sub a m)
    · rw [h0] at m; cases m
  · exact na (ms_h.mpr (.inr m))
theorem Rc.to {K : Fg} (t : To B α C H α' C' H') {v : V} {s : Cv} (h : Rc K (ms B α C) H α v s) : Rc K (ms B α' C') H' α' v s := by
  cases s with
  | d x => exact dp_ex t.hid x v h
  | v w => exact h
  | c n =>
    obtain ⟨e, rfl, _⟩ := t.ex
    obtain ⟨a, h1, h2⟩ := h
    exact ⟨a, by rw [List.getElem?_append_left (List.getElem?_eq_some_iff.mp h1).1]; exact h1, h2⟩
theorem Rcs.to {K : Fg} (t : To B α C H α' C' H') {v : List V} {s : List Cv} (h : Rcs K (ms B α C) H α v s) : Rcs K (ms B α' C') H' α' v s := by
  induction h with
  | nil => exact .nil
  | cons a _ ih => exact .cons (a.to t) ih
theorem Rfs.to {κ : Type} {K : Fg} (t : To B α C H α' C' H') {v : List (κ × V)} {s : List (κ × Cv)} (h : Rfs K (ms B α C) H α v s) : Rfs K (ms B α' C') H' α' v s := by
  induction h with
  | nil => exact .nil
  | cons a _ ih => exact .cons (a.to t) ih
theorem Rcs.len {K : Fg} {M : Ms} {v : List V} {s : List Cv} (h : Rcs K M H α v s) : v.length = s.length := by
  induction h with
  | nil => rfl
  | cons _ _ ih => rw [List.length_cons, List.length_cons, ih]
theorem Rcs.get {K : Fg} {M : Ms} {vs : List V} {ss : List Cv} (h : Rcs K M H α vs ss) : ∀ {i : Nat} {v s}, vs[i]? = some v → ss[i]? = some s → Rc K M H α v s := by
  induction h with
  | nil => intro i v s e; simp at e
  | cons a _ ih =>
    intro i v s e e'
    cases i with
    | zero => simp at e e'; subst e; subst e'; exact a
    | succ i => exact ih (by simpa using e) (by simpa using e')
/-- the cells are held -/
structure Rep (k : Kx) (B α : List Addr) (C : Cs) (H : Hp) : Prop where
  len : α.length = C.length
  nd : α.Nodup
  nb : ∀ a ∈ α, a ∉ B
  md : Md (ms B α C) H
  at_ : ∀ (i : Nat) a c, α[i]? = some a → C[i]? = some c → CellAt k (ms B α C) H α a c
theorem Rep.refl (r : Rep k B α C H) : To B α C H α C H := ⟨.of r.md (Go.refl _ _), [], by simp, by simp⟩
/-- the heap grew -/
theorem Rep.ex (r : Rep k B α C H) (x : Ex H H') : To B α C H α C H' := ⟨.of r.md x.go, [], by simp, by simp⟩
theorem CellAt.same {a : Addr} {c : Cell} (h : CellAt k (ms B α C) H α a c) (t : To B α C H α' C' H') (e : H' a = H a) (f : c.isF = true → a ∉ (ms B α' C').h) : CellAt k (ms B α' C') H' α' a c := by
  cases c with
  | lst ds =>
    obtain ⟨xs, h1, h2⟩ := h
    exact ⟨xs, by rw [e]; exact h1, dps_ex t.hid _ _ h2⟩
  | rfs cs =>
    obtain ⟨xs, h1, h2⟩ := h
    exact ⟨xs, by rw [e]; exact h1, h2.to t⟩
  | frz d => exact ⟨f rfl, by obtain ⟨o, ho⟩ := h.2.1; exact t.st.go.2 a o ho, dp_ex t.hid _ _ h.2.2⟩
  | box l n =>
    obtain ⟨x, y, v, d, h1, h2, h3⟩ := h
    exact ⟨x, y, v, d, by rw [e]; exact h1, dp_ex t.hid _ _ h2, h3⟩
  | obj c fs =>
    obtain ⟨dx, vs, h1, h2⟩ := h
    exact ⟨dx, vs, by rw [e]; exact h1, h2.to t⟩
  | dk es =>
    obtain ⟨vs, h1, h2⟩ := h
    exact ⟨vs, by rw [e]; exact h1, h2.to t⟩
theorem Rep.live_at (r : Rep k B α C H) {i : Nat} {a : Addr} {c : Cell} (h1 : α[i]? = some a) (h2 : C[i]? = some c) (h3 : c.isF = false) : a ∈ live α C := live_mem.mpr ⟨i, c, h1, h2, h3⟩
theorem nd_ix {α : List Addr} (nd : α.Nodup) {i j : Nat} {a : Addr} (h1 : α[i]? = some a) (h2 : α[j]? = some a) : i = j := by
  have e1 := List.getElem?_eq_some_iff.mp h1
  have e2 := List.getElem?_eq_some_iff.mp h2
  obtain ⟨l1, e1⟩ := e1
  obtain ⟨l2, e2⟩ := e2
  exact List.getElem_inj (h₀ := l1) (h₁ := l2) nd |>.mp (e1.trans e2.symm)
theorem Rep.frz_not (r : Rep k B α C H) {i : Nat} {a : Addr} {c : Cell} (h1 : α[i]? = some a) (h2 : C[i]? = some c) (h3 : c.isF = true) : a ∉ (ms B α C).h := by
  intro m
  rcases ms_h.mp m with m | m
  · obtain ⟨j, d, q1, q2, q3⟩ := live_mem.mp m
    have e := nd_ix r.nd h1 q1
    subst e
    rw [h2] at q2
    cases q2
    rw [h3] at q3; cases q3
  · exact r.nb a (List.mem_of_getElem? h1) m
theorem Rep.there (r : Rep k B α C H) : ∀ a ∈ α, ∃ o, H a = some o := fun a m => by
  obtain ⟨i, hi⟩ := List.getElem?_of_mem m
  have hl : i < C.length := by rw [← r.len]; exact (List.getElem?_eq_some_iff.mp hi).1
  have hc := List.getElem?_eq_getElem hl
  have h := r.at_ i a _ hi hc
  cases hf : (C[i]).isF with
  | false => exact r.md a (ms_h.mpr (.inl (r.live_at hi hc hf)))
  | true =>
    generalize C[i] = c at *
    cases c with
    | frz d => exact h.2.1
    | lst _ => cases hf
    | rfs _ => cases hf
    | box _ _ => cases hf
    | obj _ _ => cases hf
    | dk _ => cases hf
/-- the heap changes at no cell -/
theorem Rep.keep (r : Rep k B α C H) (x : Ex H H') : Rep k B α C H' := ⟨r.len, r.nd, r.nb, r.md.ex x, fun i a c h1 h2 => by
  have h := r.at_ i a c h1 h2
  have t := r.ex x
  cases hf : c.isF with
  | true =>
    cases c with
    | frz d => exact ⟨r.frz_not h1 h2 hf, by obtain ⟨o, ho⟩ := h.2.1; exact ⟨o, x a o ho⟩, dp_ex t.hid _ _ h.2.2⟩
    | lst _ => cases hf
    | rfs _ => cases hf
    | box _ _ => cases hf
    | obj _ _ => cases hf
    | dk _ => cases hf
  | false =>
    obtain ⟨o, ho⟩ := r.md a (ms_h.mpr (.inl (r.live_at h1 h2 hf)))
    exact h.same t (by rw [x a o ho, ho]) (fun q => by rw [hf] at q; cases q)⟩
/-- one cell is written -/
theorem Rep.put (r : Rep k B α C H) {i : Nat} {a : Addr} {c c' : Cell} (h1 : α[i]? = some a) (h2 : C[i]? = some c) (hf : c.isF = false) (hf' : c'.isF = false) (x : ∀ b, b ≠ a → H' b = H b) (e : ∃ o, H' a = some o)
    (hc : ∀ t : To B α C H α (C.set i c') H', CellAt k (ms B α (C.set i c')) H' α a c') : Rep k B α (C.set i c') H' ∧ To B α C H α (C.set i c') H' := by
  have hi : i < C.length := (List.getElem?_eq_some_iff.mp h2).1
  have lv : ∀ b, b ∈ live α (C.set i c') ↔ b ∈ live α C := fun b => by
    rw [live_mem, live_mem]
    constructor
    · rintro ⟨j, d, q1, q2, q3⟩
      by_cases hj : i = j
      · subst hj
        exact ⟨i, c, q1, h2, hf⟩
      · rw [List.getElem?_set_ne hj] at q2
        exact ⟨j, d, q1, q2, q3⟩
    · rintro ⟨j, d, q1, q2, q3⟩
      by_cases hj : i = j
      · subst hj
        exact ⟨i, c', q1, by rw [List.getElem?_set_self hi], hf'⟩
      · exact ⟨j, d, q1, by rw [List.getElem?_set_ne hj]; exact q2, q3⟩
  have am : a ∈ live α C := r.live_at h1 h2 hf
  have go : Go (ms B α C) H H' := ⟨fun b o n h => by
    have q : b ≠ a := fun z => n (z ▸ am)
    rw [x b q]; exact h, fun b o h => by
    by_cases q : b = a
    · subst q; exact e
    · exact ⟨o, by rw [x b q]; exact h⟩⟩
  have md : Md (ms B α (C.set i c')) H' := fun b m => by
    have m' : b ∈ (ms B α C).h := ms_h.mpr ((ms_h.mp m).imp (fun q => (lv b).mp q) id)
    obtain ⟨o, h⟩ := r.md b m'
    exact go.2 b o h
  have t : To B α C H α (C.set i c') H' := ⟨⟨md, go, fun b m => .inl ((lv b).mp m)⟩, [], by simp, by simp⟩
  refine ⟨⟨by rw [List.length_set]; exact r.len, r.nd, r.nb, md, fun j b d q1 q2 => ?_⟩, t⟩
  by_cases hj : i = j
  · subst hj
    rw [List.getElem?_set_self hi] at q2
    cases q2
    rw [h1] at q1
    cases q1
    exact hc t
  · rw [List.getElem?_set_ne hj] at q2
    have nb : b ≠ a := fun z => hj (nd_ix r.nd h1 (z ▸ q1))
    refine (r.at_ j b d q1 q2).same t (x b nb) fun q m => r.frz_not q1 q2 q (ms_h.mpr ((ms_h.mp m).imp (fun z => (lv b).mp z) id))
/-- one cell more -/
theorem live_app : ∀ {α β : List Addr} {C D : Cs}, α.length = C.length → live (α ++ β) (C ++ D) = live α C ++ live β D
  | [], β, [], D, _ => by simp [live]
  | a :: α, β, c :: C, D, h => by
    have ih := live_app (α := α) (β := β) (C := C) (D := D) (by simpa using h)
    have e1 : live (a :: (α ++ β)) (c :: (C ++ D)) = if c.isF then live (α ++ β) (C ++ D) else a :: live (α ++ β) (C ++ D) := by rw [live]
    have e2 : live (a :: α) (c :: C) = if c.isF then live α C else a :: live α C := by rw [live]
    show live (a :: (α ++ β)) (c :: (C ++ D)) = live (a :: α) (c :: C) ++ live β D
    rw [e1, e2, ih]
    split <;> rfl
theorem Rep.more (r : Rep k B α C H) {p : Addr} {c : Cell} (hf : c.isF = false) (hn : H p = none) (x : ∀ b, b ≠ p → H' b = H b) (e : ∃ o, H' p = some o)
    (hc : ∀ t : To B α C H (α ++ [p]) (C ++ [c]) H', CellAt k (ms B (α ++ [p]) (C ++ [c])) H' (α ++ [p]) p c) : Rep k B (α ++ [p]) (C ++ [c]) H' ∧ To B α C H (α ++ [p]) (C ++ [c]) H' := by
  have hp : p ∉ α := fun m => by obtain ⟨o, h⟩ := r.there p m; rw [hn] at h; cases h
  have hb : p ∉ B := fun m => by obtain ⟨o, h⟩ := r.md p (ms_h.mpr (.inr m)); rw [hn] at h; cases h
  have lv : live (α ++ [p]) (C ++ [c]) = live α C ++ [p] := by
    rw [live_app r.len]
    have e : live [p] [c] = if c.isF then live [] [] else p :: live [] [] := by rw [live]
    rw [e, if_neg (by rw [hf]; exact Bool.false_ne_true)]
    rfl
  have go : Go (ms B α C) H H' := ⟨fun b o n h => by
    have q : b ≠ p := fun z => by rw [z, hn] at h; cases h
    rw [x b q]; exact h, fun b o h => by
    have q : b ≠ p := fun z => by rw [z, hn] at h; cases h
    exact ⟨o, by rw [x b q]; exact h⟩⟩
  have md : Md (ms B (α ++ [p]) (C ++ [c])) H' := fun b m => by
    rcases ms_h.mp m with m | m
    · rw [lv] at m
      rcases List.mem_append.mp m with m | m
      · obtain ⟨o, h⟩ := r.md b (ms_h.mpr (.inl m))
        exact go.2 b o h
      · rw [List.mem_singleton.mp m]; exact e
    · obtain ⟨o, h⟩ := r.md b (ms_h.mpr (.inr m))
      exact go.2 b o h
  have t : To B α C H (α ++ [p]) (C ++ [c]) H' := ⟨⟨md, go, fun b m => by
    have m : b ∈ live (α ++ [p]) (C ++ [c]) := m
    rw [lv] at m
    rcases List.mem_append.mp m with m | m
    · exact .inl m
    · exact .inr (by rw [List.mem_singleton.mp m]; exact hn)⟩, [p], rfl, fun a m => by rw [List.mem_singleton.mp m]; exact hn⟩
  refine ⟨⟨by simp [r.len], List.nodup_append.mpr ⟨r.nd, by simp, fun a m b m' => by rw [List.mem_singleton.mp m']; exact fun z => hp (z ▸ m)⟩, fun a m => ?_, md, fun j b d q1 q2 => ?_⟩, t⟩
  · rcases List.mem_append.mp m with m | m
    · exact r.nb a m
    · rw [List.mem_singleton.mp m]; exact hb
  · by_cases hj : j < α.length
    · rw [List.getElem?_append_left hj] at q1
      rw [List.getElem?_append_left (by rw [← r.len]; exact hj)] at q2
      have nb : b ≠ p := fun z => hp (z ▸ List.mem_of_getElem? q1)
      refine (r.at_ j b d q1 q2).same t (x b nb) fun q m => ?_
      have f := r.frz_not q1 q2 q
      rcases ms_h.mp m with m | m
      · rw [lv] at m
        rcases List.mem_append.mp m with m | m
        · exact f (ms_h.mpr (.inl m))
        · exact nb (List.mem_singleton.mp m)
      · exact f (ms_h.mpr (.inr m))
    · have hj2 : j = α.length := by
        have := (List.getElem?_eq_some_iff.mp q1).1
        simp at this; omega
      subst hj2
      rw [List.getElem?_append_right (Nat.le_refl _), Nat.sub_self] at q1
      rw [r.len, List.getElem?_append_right (Nat.le_refl _), Nat.sub_self] at q2
      cases q1
      cases q2
      exact hc t
end
end DL
set_option maxRecDepth 100000
namespace DL
open PySem L2

/-! ### worlds -/
/-- an exception: its class by number, its own fields -/
structure Xc where
  cn : Nat
  fs : List (Str × Cv)
abbrev Xp := Xc → Rv → Cs → Prop
def XAt (k : Kx) (M : Ms) (H : Hp) (α : List Addr) (cls : Value) (d : Option Addr) (x : Xc) : Prop :=
  cls = .ref (k.cl x.cn) ∧ ((x.fs = [] ∧ d = none) ∨ ∃ dd vs, d = some dd ∧ H dd = some (.xd vs) ∧ Rfs k.K M H α vs x.fs)
def En (k : Kx) (B α : List Addr) (C : Cs) (H : Hp) (σ : L2.St) (ρ : Rv) : Prop := σ.length = ρ.length ∧ ∀ (i : Nat) (s : Cv), ρ[i]? = some (some s) → ∃ v, σ[i]? = some (some v) ∧ Rc k.K (ms B α C) H α v s
structure Wd (k : Kx) (B α : List Addr) (C : Cs) (H : Hp) (σ : L2.St) (ρ : Rv) (W : WX) (X : Xp) : Prop where
  rep : Rep k B α C H
  en : En k B α C H σ ρ
  ca : ∀ cls d H' x α' C' σ' ρ', To B α C H α' C' H' → Rep k B α' C' H' → XAt k (ms B α' C') H' α' cls d x → En k B α' C' H' σ' ρ' → X x ρ' C' → W cls d σ' H'
section
variable {k : Kx} {B α α' : List Addr} {C C' : Cs} {H H' : Hp} {σ : L2.St} {ρ : Rv} {W : WX} {X : Xp}
theorem En.to (e : En k B α C H σ ρ) (t : To B α C H α' C' H') : En k B α' C' H' σ ρ := ⟨e.1, fun i s h => by obtain ⟨v, h1, h2⟩ := e.2 i s h; exact ⟨v, h1, h2.to t⟩⟩
theorem Wd.to (w : Wd k B α C H σ ρ W X) (t : To B α C H α' C' H') (r : Rep k B α' C' H') : Wd k B α' C' H' σ ρ W X := ⟨r, w.en.to t, fun cls d H' x α2 C2 σ2 ρ2 t2 => w.ca cls d H' x α2 C2 σ2 ρ2 (t.trans t2)⟩
theorem En.set (e : En k B α C H σ ρ) {i : Nat} {v : V} {s : Cv} (h : Rc k.K (ms B α C) H α v s) : En k B α C H (σ.set i (some v)) (ρ.set i (some s)) := by
  refine ⟨by rw [List.length_set, List.length_set]; exact e.1, fun j t q => ?_⟩
  by_cases hj : i = j
  · subst hj
    by_cases hl : i < ρ.length
    · rw [List.getElem?_set_self hl] at q
      injection q with q; injection q with q; subst q
      exact ⟨v, List.getElem?_set_self (by rw [e.1]; exact hl), h⟩
    · rw [List.getElem?_eq_none (by rw [List.length_set]; omega)] at q; cases q
  · rw [List.getElem?_set_ne hj] at q ⊢
    exact e.2 j t q
theorem En.set0 (e : En k B α C H σ ρ) {i : Nat} {v : Option V} : En k B α C H (σ.set i v) (ρ.set i none) := by
  refine ⟨by rw [List.length_set, List.length_set]; exact e.1, fun j t q => ?_⟩
  by_cases hj : i = j
  · subst hj
    by_cases hl : i < ρ.length
    · rw [List.getElem?_set_self hl] at q; cases q
    · rw [List.getElem?_eq_none (by rw [List.length_set]; omega)] at q; cases q
  · rw [List.getElem?_set_ne hj] at q ⊢
    exact e.2 j t q
def wipeV (ρ : Rv) : List Nat → Rv
  | [] => ρ
  | v :: vs => (wipeV ρ vs).set v none
theorem En.wipe (e : En k B α C H σ ρ) : ∀ vs : List Nat, En k B α C H (L2.wipe σ vs) (wipeV ρ vs)
  | [] => e
  | v :: vs => by unfold L2.wipe wipeV; exact (En.wipe e vs).set0
theorem Wd.slots (w : Wd k B α C H σ ρ W X) {σ' : L2.St} {ρ' : Rv} (e : En k B α C H σ' ρ') : Wd k B α C H σ' ρ' W X := ⟨w.rep, e, w.ca⟩
end
/-! ### what is wanted of a value -/
def Kv (k : Kx) (B α : List Addr) (C : Cs) (H : Hp) (P : Cv → Cs → Prop) (Q : VK) : Prop :=
  ∀ v H' s α' C', To B α C H α' C' H' → Rep k B α' C' H' → Rc k.K (ms B α' C') H' α' v s → P s C' → Q v H'
def Kb (k : Kx) (B α : List Addr) (C : Cs) (H : Hp) (P : Bool → Cs → Prop) (Q : Bool → Hp → Prop) : Prop :=
  ∀ b H' α' C', To B α C H α' C' H' → Rep k B α' C' H' → P b C' → Q b H'
def Kl (k : Kx) (B α : List Addr) (C : Cs) (H : Hp) (P : List Cv → Cs → Prop) (Q : List V → Hp → Prop) : Prop :=
  ∀ v H' s α' C', To B α C H α' C' H' → Rep k B α' C' H' → Rcs k.K (ms B α' C') H' α' v s → P s C' → Q v H'
def Ko (k : Kx) (B α : List Addr) (C : Cs) (H : Hp) (P : Option Int → Cs → Prop) (Q : Option Int → Hp → Prop) : Prop :=
  ∀ b H' α' C', To B α C H α' C' H' → Rep k B α' C' H' → P b C' → Q b H'
abbrev Wpe := Xp → Rv → Cs → (Cv → Cs → Prop) → Prop
structure XE where
  te : Kx → WX → TE
  wp : Wpe
  ok : ∀ {k B α C H σ ρ W X P Q}, Wd k B α C H σ ρ W X → wp X ρ C P → Kv k B α C H P Q → te k W σ H Q
structure XT where
  tt : Kx → WX → TT
  wp : Xp → Rv → Cs → (Bool → Cs → Prop) → Prop
  ok : ∀ {k B α C H σ ρ W X P Q}, Wd k B α C H σ ρ W X → wp X ρ C P → Kb k B α C H P Q → tt k W σ H Q
structure XA where
  ta : Kx → WX → TA
  wp : Xp → Rv → Cs → (List Cv → Cs → Prop) → Prop
  ok : ∀ {k B α C H σ ρ W X P Q}, Wd k B α C H σ ρ W X → wp X ρ C P → Kl k B α C H P Q → ta k W σ H Q
structure XO where
  to : Kx → WX → TO
  wp : Xp → Rv → Cs → (Option Int → Cs → Prop) → Prop
  ok : ∀ {k B α C H σ ρ W X P Q}, Wd k B α C H σ ρ W X → wp X ρ C P → Ko k B α C H P Q → to k W σ H Q

/-! ### reading values as data -/
def rd (C : Cs) (s : Cv) (K : PyData → Prop) : Prop := match s with
  | .d x => K x
  | .c n => (match C[n]? with
    | some (.lst ds) => K (.list ds)
    | some (.frz d) => K d
    | _ => False)
  | .v _ => False
def rds (C : Cs) : List Cv → (List PyData → Prop) → Prop
  | [], K => K []
  | s :: ss, K => rd C s fun d => rds C ss fun ds => K (d :: ds)
/-- from now on it is data -/
def fz (C : Cs) (s : Cv) (K : PyData → Cs → Prop) : Prop := match s with
  | .d x => K x C
  | .c n => (match C[n]? with
    | some (.lst ds) => K (.list ds) (C.set n (.frz (.list ds)))
    | some (.frz d) => K d C
    | _ => False)
  | .v _ => False
def fzs (C : Cs) : List Cv → (List PyData → Cs → Prop) → Prop
  | [], K => K [] C
  | s :: ss, K => fz C s fun d C1 => fzs C1 ss fun ds C2 => K (d :: ds) C2
section
variable {k : Kx} {B α α' : List Addr} {C C' : Cs} {H H' : Hp} {σ : L2.St} {ρ : Rv} {W : WX} {X : Xp}
theorem rd_dt (r : Rep k B α C H) {v : V} {s : Cv} (h : Rc k.K (ms B α C) H α v s) {K : PyData → Prop} (q : rd C s K) : ∃ d, Dt k.K (ms B α C) H v d ∧ K d := by
  cases s with
  | d x => exact ⟨x, .da h, q⟩
  | v x => exact q.elim
  | c n =>
    obtain ⟨a, ha, rfl⟩ := h
    unfold rd at q
    dsimp only at q
    cases e : C[n]? with
    | none => rw [e] at q; exact q.elim
    | some c =>
      rw [e] at q
      have h := r.at_ n a c ha e
      cases c with
      | lst ds =>
        obtain ⟨xs, h1, h2⟩ := h
        exact ⟨.list ds, .op (.inl (.inl h1)) h2, q⟩
      | frz d => exact ⟨d, .da h.2.2, q⟩
      | rfs _ => exact q.elim
      | box _ _ => exact q.elim
      | obj _ _ => exact q.elim
      | dk _ => exact q.elim
theorem rds_dt (r : Rep k B α C H) : ∀ {vs : List V} {ss : List Cv}, Rcs k.K (ms B α C) H α vs ss → ∀ {K : List PyData → Prop}, rds C ss K → ∃ ds, Dts k.K (ms B α C) H vs ds ∧ K ds
  | _, _, .nil, K, q => ⟨[], .nil, q⟩
  | _, _, .cons h t, K, q => by
    obtain ⟨d, h1, q⟩ := rd_dt r h q
    obtain ⟨ds, h2, q⟩ := rds_dt r t q
    exact ⟨d :: ds, .cons h1 h2, q⟩
theorem live_frz (nd : α.Nodup) {n : Nat} {a : Addr} {d : PyData} (ha : α[n]? = some a) {b : Addr} (h : b ∈ live α (C.set n (.frz d))) : b ∈ live α C ∧ b ≠ a := by
  obtain ⟨i, c, h1, h2, h3⟩ := live_mem.mp h
  by_cases hi : n = i
  · subst hi
    by_cases hl : n < C.length
    · rw [List.getElem?_set_self hl] at h2; cases h2; cases h3
    · rw [List.getElem?_eq_none (by rw [List.length_set]; omega)] at h2; cases h2
  · rw [List.getElem?_set_ne hi] at h2
    exact ⟨live_mem.mpr ⟨i, c, h1, h2, h3⟩, fun e => hi (nd_ix nd ha (e ▸ h1))⟩
/-- a list is frozen -/
theorem Rep.freeze (r : Rep k B α C H) {n : Nat} {ds : List PyData} (e : C[n]? = some (.lst ds)) : Rep k B α (C.set n (.frz (.list ds))) H ∧ To B α C H α (C.set n (.frz (.list ds))) H := by
  have hl : n < C.length := (List.getElem?_eq_some_iff.mp e).1
  have ha : ∃ a, α[n]? = some a := ⟨α[n]'(by rw [r.len]; exact hl), List.getElem?_eq_getElem _⟩
  obtain ⟨a, ha⟩ := ha
  have lv : ∀ b, b ∈ live α (C.set n (.frz (.list ds))) → b ∈ live α C := fun b m => (live_frz r.nd ha m).1
  have hs : ∀ b, b ∈ (ms B α (C.set n (.frz (.list ds)))).h → b ∈ (ms B α C).h := fun b m => ms_h.mpr ((ms_h.mp m).imp (lv b) id)
  have md : Md (ms B α (C.set n (.frz (.list ds)))) H := fun b m => r.md b (hs b m)
  have t : To B α C H α (C.set n (.frz (.list ds))) H := ⟨⟨md, Go.refl _ _, fun b m => .inl (lv b m)⟩, [], by simp, by simp⟩
  refine ⟨⟨by rw [List.length_set]; exact r.len, r.nd, r.nb, md, fun j b c q1 q2 => ?_⟩, t⟩
  by_cases hj : n = j
  · subst hj
    rw [List.getElem?_set_self hl] at q2
    cases q2
    rw [ha] at q1
    cases q1
    obtain ⟨xs, h1, h2⟩ := r.at_ n a _ ha e
    have na : a ∉ (ms B α (C.set n (.frz (.list ds)))).h := fun m => by
      rcases ms_h.mp m with m | m
      · exact (live_frz r.nd ha m).2 rfl
      · exact r.nb a (List.mem_of_getElem? ha) m
    exact ⟨na, ⟨_, h1⟩, Da.lst na h1 (dps_ex t.hid _ _ h2)⟩
  · rw [List.getElem?_set_ne hj] at q2
    refine (r.at_ j b c q1 q2).same t rfl fun q m => r.frz_not q1 q2 q (hs b m)
theorem fz_da (r : Rep k B α C H) {v : V} {s : Cv} (h : Rc k.K (ms B α C) H α v s) {K : PyData → Cs → Prop} (q : fz C s K) : ∃ d C', Rep k B α C' H ∧ To B α C H α C' H ∧ Da k.K (ms B α C') H v d ∧ K d C' := by
  cases s with
  | d x => exact ⟨x, C, r, r.refl, h, q⟩
  | v x => exact q.elim
  | c n =>
    have h0 := h
    obtain ⟨a, ha, rfl⟩ := h
    unfold fz at q
    dsimp only at q
    cases e : C[n]? with
    | none => rw [e] at q; exact q.elim
    | some c =>
      rw [e] at q
      cases c with
      | lst ds =>
        obtain ⟨r', t⟩ := r.freeze e
        have hl : n < C.length := (List.getElem?_eq_some_iff.mp e).1
        exact ⟨.list ds, _, r', t, (r'.at_ n a _ ha (List.getElem?_set_self hl)).2.2, q⟩
      | frz d => exact ⟨d, C, r, r.refl, (r.at_ n a _ ha e).2.2, q⟩
      | rfs _ => exact q.elim
      | box _ _ => exact q.elim
      | obj _ _ => exact q.elim
      | dk _ => exact q.elim
theorem fzs_da : ∀ {vs : List V} {ss : List Cv} {C : Cs}, Rep k B α C H → Rcs k.K (ms B α C) H α vs ss → ∀ {K : List PyData → Cs → Prop}, fzs C ss K → ∃ ds C', Rep k B α C' H ∧ To B α C H α C' H ∧ Das k.K (ms B α C') H vs ds ∧ K ds C'
  | _, _, C, r, .nil, K, q => ⟨[], C, r, r.refl, .nil, q⟩
  | _, _, C, r, .cons h t, K, q => by
    obtain ⟨d, C1, r1, t1, h1, q⟩ := fz_da r h q
    obtain ⟨ds, C2, r2, t2, h2, q⟩ := fzs_da r1 (t.to t1) q
    exact ⟨d :: ds, C2, r2, t1.trans t2, .cons (dp_ex t2.hid _ _ h1) h2, q⟩
end

/-! ### names, constants -/
def look : Rv → Nat → (Cv → Prop) → Prop
  | some s :: _, 0, K => K s
  | _ :: r, n + 1, K => look r n K
  | _, _, _ => False
theorem look_get : ∀ {ρ : Rv} {i : Nat} {K : Cv → Prop}, look ρ i K → ∃ s, ρ[i]? = some (some s) ∧ K s
  | some s :: _, 0, K, h => ⟨s, rfl, h⟩
  | none :: _, 0, K, h => h.elim
  | o :: r, n + 1, K, h => by
    have h : look r n K := by cases o <;> exact h
    obtain ⟨s, h1, h2⟩ := look_get h
    exact ⟨s, by simpa using h1, h2⟩
  | [], 0, _, h => h.elim
  | [], _ + 1, _, h => h.elim
def xVar (i : Nat) : XE where
  te _ _ := tVar i
  wp X ρ C P := look ρ i fun s => P s C
  ok w h q := by
    obtain ⟨s, h1, h2⟩ := look_get h
    obtain ⟨v, e1, r⟩ := w.en.2 i s h1
    exact ⟨v, e1, q v _ s _ _ w.rep.refl w.rep r h2⟩
def xKon (v : V) (d : PyData) (h : ∀ K H, Dq K H v d) : XE where
  te _ _ := tC v
  wp X ρ C P := P (.d d) C
  ok w q c := c _ _ (.d d) _ _ w.rep.refl w.rep (h _ _) q
def xInt (i : Int) : XE := xKon (.int i) (.int i) fun _ _ => .int i
def xStr (i : Str) : XE := xKon (.str i) (.str i) fun _ _ => .str i
def xBl (i : Bool) : XE := xKon (.bl i) (.bool i) fun _ _ => .bl i
def xNon : XE := xKon .non .none fun _ _ => .non
def xRaw (v : V) : XE where
  te _ _ := tC v
  wp X ρ C P := P (.v v) C
  ok w q c := c _ _ (.v v) _ _ w.rep.refl w.rep rfl q
/-! ### operators -/
def xOp (g : PyData → PyData → PyData → Prop) (a b : XE) : XE where
  te k W := tOp (rB k.K g) (a.te k W) (b.te k W)
  wp X ρ C P := a.wp X ρ C fun s C1 => b.wp X ρ C1 fun t C2 => rd C2 s fun d => rd C2 t fun e => ∃ z, g d e z ∧ P (.d z) C2
  ok w h q := a.ok w h fun v H1 s α1 C1 t1 r1 c1 p1 => b.ok (w.to t1 r1) p1 fun u H2 s2 α2 C2 t2 r2 c2 p2 => by
    obtain ⟨d, h1, p2⟩ := rd_dt r2 (c1.to t2) p2
    obtain ⟨e, h2, z, hg, p3⟩ := rd_dt r2 c2 p2
    refine ⟨ms _ α2 C2, d, e, z, r2.md, h1, h2, hg, fun v' H' x dz => q v' H' (.d z) α2 C2 ((t1.trans t2).trans (r2.ex x)) (r2.keep x) dz p3⟩
def xUn (g : PyData → PyData → Prop) (a : XE) : XE where
  te k W := tUn (rU1 k.K g) (a.te k W)
  wp X ρ C P := a.wp X ρ C fun s C1 => rd C1 s fun d => ∃ z, g d z ∧ P (.d z) C1
  ok w h q := a.ok w h fun v H1 s α1 C1 t1 r1 c1 p1 => by
    obtain ⟨d, h1, z, hg, p3⟩ := rd_dt r1 c1 p1
    exact ⟨ms _ α1 C1, d, z, r1.md, h1, hg, fun v' H' x dz => q v' H' (.d z) α1 C1 (t1.trans (r1.ex x)) (r1.keep x) dz p3⟩
/-- x is None -/
def isNonC : Cv → Bool
  | .d .none => true
  | .v .non => true
  | _ => false
theorem isNon_of {K : Fg} {M : Ms} {H : Hp} {α : List Addr} {v : V} {s : Cv} (h : Rc K M H α v s) : decide (v = .non) = isNonC s := by
  cases s with
  | d x =>
    have h : Da K M H v x := h
    cases h <;> rfl
  | v x =>
    have h : v = x := h
    subst h
    cases v <;> rfl
  | c n => obtain ⟨a, _, rfl⟩ := h; rfl
def xIsN (a : XE) : XE where
  te k W := tOp rIsNone (a.te k W) (tC .non)
  wp X ρ C P := a.wp X ρ C fun s C1 => P (.d (.bool (isNonC s))) C1
  ok w h q := a.ok w h fun v H1 s α1 C1 t1 r1 c1 p1 => ⟨rfl, q _ H1 (.d (.bool (isNonC s))) α1 C1 t1 r1 (by rw [isNon_of c1]; exact Dq.bl _) p1⟩
def xNotN (a : XE) : XE where
  te k W := tOp rNotNone (a.te k W) (tC .non)
  wp X ρ C P := a.wp X ρ C fun s C1 => P (.d (.bool (!isNonC s))) C1
  ok w h q := a.ok w h fun v H1 s α1 C1 t1 r1 c1 p1 => ⟨rfl, q _ H1 (.d (.bool (!isNonC s))) α1 C1 t1 r1 (by rw [isNon_of c1]; exact Dq.bl _) p1⟩
/-- a truth is wanted -/
def isB (s : Cv) (K : Bool → Prop) : Prop := match s with
  | .d (.bool b) => K b
  | _ => False
theorem isB_of {K : Fg} {M : Ms} {H : Hp} {α : List Addr} {v : V} {s : Cv} (h : Rc K M H α v s) {Q : Bool → Prop} (q : isB s Q) : ∃ b, v = .bl b ∧ Q b := by
  cases s with
  | d x => cases x <;> first | exact q.elim | exact ⟨_, Da.bl_inv h, q⟩
  | v x => exact q.elim
  | c n => exact q.elim
def xNot (a : XE) : XE where
  te k W := tNotV (a.te k W)
  wp X ρ C P := a.wp X ρ C fun s C1 => isB s fun b => P (.d (.bool (!b))) C1
  ok w h q := a.ok w h fun v H1 s α1 C1 t1 r1 c1 p1 => by
    obtain ⟨b, rfl, p⟩ := isB_of c1 p1
    exact ⟨b, rfl, q _ H1 (.d (.bool (!b))) α1 C1 t1 r1 (Dq.bl _) p⟩
def xAnd (a b : XE) : XE where
  te k W := tAndV (a.te k W) (b.te k W)
  wp X ρ C P := a.wp X ρ C fun s C1 => isB s fun x => (x = true → b.wp X ρ C1 P) ∧ (x = false → P (.d (.bool false)) C1)
  ok w h q := a.ok w h fun v H1 s α1 C1 t1 r1 c1 p1 => by
    obtain ⟨x, rfl, p⟩ := isB_of c1 p1
    refine ⟨x, rfl, ?_⟩
    cases x with
    | true => exact b.ok (w.to t1 r1) (p.1 rfl) fun v' H' s' α' C' t' => q v' H' s' α' C' (t1.trans t')
    | false => exact q _ H1 (.d (.bool false)) α1 C1 t1 r1 (Dq.bl _) (p.2 rfl)
def xOr (a b : XE) : XE where
  te k W := tOrV (a.te k W) (b.te k W)
  wp X ρ C P := a.wp X ρ C fun s C1 => isB s fun x => (x = false → b.wp X ρ C1 P) ∧ (x = true → P (.d (.bool true)) C1)
  ok w h q := a.ok w h fun v H1 s α1 C1 t1 r1 c1 p1 => by
    obtain ⟨x, rfl, p⟩ := isB_of c1 p1
    refine ⟨x, rfl, ?_⟩
    cases x with
    | false => exact b.ok (w.to t1 r1) (p.1 rfl) fun v' H' s' α' C' t' => q v' H' s' α' C' (t1.trans t')
    | true => exact q _ H1 (.d (.bool true)) α1 C1 t1 r1 (Dq.bl _) (p.2 rfl)
/-- a < b < c -/
def xChain (g g' : PyData → PyData → PyData → Prop) (a b c : XE) : XE where
  te k W := tChain (rB k.K g) (rB k.K g') (a.te k W) (b.te k W) (c.te k W)
  wp X ρ C P := a.wp X ρ C fun s C1 => b.wp X ρ C1 fun t C2 => rd C2 s fun d => rd C2 t fun e => ∃ x, g d e (.bool x) ∧ (x = true → c.wp X ρ C2 fun u C3 => rd C3 t fun e' => rd C3 u fun f => ∃ y, g' e' f (.bool y) ∧ P (.d (.bool y)) C3) ∧ (x = false → P (.d (.bool false)) C2)
  ok w h q := a.ok w h fun v H1 s α1 C1 t1 r1 c1 p1 => b.ok (w.to t1 r1) p1 fun u H2 s2 α2 C2 t2 r2 c2 p2 => by
    obtain ⟨d, h1, p2⟩ := rd_dt r2 (c1.to t2) p2
    obtain ⟨e, h2, x, hg, pt, pf⟩ := rd_dt r2 c2 p2
    refine ⟨ms _ α2 C2, d, e, .bool x, r2.md, h1, h2, hg, fun v' H' xx dz => ⟨x, Da.bl_inv dz, ?_⟩⟩
    have t12 := (t1.trans t2).trans (r2.ex xx)
    have rk := r2.keep xx
    cases x with
    | true =>
      rw [if_pos rfl]
      refine c.ok (w.to t12 rk) (pt rfl) fun u' H3 s3 α3 C3 t3 r3 c3 p3 => ?_
      obtain ⟨e', h4, p3⟩ := rd_dt r3 ((c2.to (r2.ex xx)).to t3) p3
      obtain ⟨f, h5, y, hg', p4⟩ := rd_dt r3 c3 p3
      exact ⟨ms _ α3 C3, e', f, .bool y, r3.md, h4, h5, hg', fun v5 H5 x5 d5 => q v5 H5 (.d (.bool y)) α3 C3 ((t12.trans t3).trans (r3.ex x5)) (r3.keep x5) d5 p4⟩
    | false =>
      rw [if_neg Bool.false_ne_true]
      exact q _ H' (.d (.bool false)) α2 C2 t12 rk (Dq.bl _) (pf rfl)
/-! ### tests -/
def xTest (a : XE) : XT where
  tt k W := tTest (a.te k W)
  wp X ρ C P := a.wp X ρ C fun s C1 => isB s fun b => P b C1
  ok w h q := a.ok w h fun v H1 s α1 C1 t1 r1 c1 p1 => by
    obtain ⟨b, rfl, p⟩ := isB_of c1 p1
    exact ⟨b, rfl, q b H1 α1 C1 t1 r1 p⟩
def xB (a : XE) : XT where
  tt k W := tB (a.te k W)
  wp X ρ C P := a.wp X ρ C fun s C1 => isB s fun b => P b C1
  ok w h q := a.ok w h fun v H1 s α1 C1 t1 r1 c1 p1 => by
    obtain ⟨b, rfl, p⟩ := isB_of c1 p1
    exact ⟨b, rfl, q b H1 α1 C1 t1 r1 p⟩
def xTNot (a : XT) : XT where
  tt k W := tNot (a.tt k W)
  wp X ρ C P := a.wp X ρ C fun b C1 => P (!b) C1
  ok w h q := a.ok w h fun b H1 α1 C1 t1 r1 p1 => q (!b) H1 α1 C1 t1 r1 p1
def xTAnd (a b : XT) : XT where
  tt k W := tAnd (a.tt k W) (b.tt k W)
  wp X ρ C P := a.wp X ρ C fun x C1 => (x = true → b.wp X ρ C1 P) ∧ (x = false → P false C1)
  ok w h q := a.ok w h fun x H1 α1 C1 t1 r1 p1 => by
    cases x with
    | true => exact b.ok (w.to t1 r1) (p1.1 rfl) fun b' H' α' C' t' => q b' H' α' C' (t1.trans t')
    | false => exact q false H1 α1 C1 t1 r1 (p1.2 rfl)
def xTOr (a b : XT) : XT where
  tt k W := tOr (a.tt k W) (b.tt k W)
  wp X ρ C P := a.wp X ρ C fun x C1 => (x = false → b.wp X ρ C1 P) ∧ (x = true → P true C1)
  ok w h q := a.ok w h fun x H1 α1 C1 t1 r1 p1 => by
    cases x with
    | false => exact b.ok (w.to t1 r1) (p1.1 rfl) fun b' H' α' C' t' => q b' H' α' C' (t1.trans t')
    | true => exact q true H1 α1 C1 t1 r1 (p1.2 rfl)
def xYes : XT where
  tt _ _ := tYes
  wp X ρ C P := P true C
  ok w h q := q true _ _ _ w.rep.refl w.rep h
def xIf (c : XT) (a b : XE) : XE where
  te k W := tIf (c.tt k W) (a.te k W) (b.te k W)
  wp X ρ C P := c.wp X ρ C fun x C1 => (x = true → a.wp X ρ C1 P) ∧ (x = false → b.wp X ρ C1 P)
  ok w h q := c.ok w h fun x H1 α1 C1 t1 r1 p1 => by
    cases x with
    | true => exact a.ok (w.to t1 r1) (p1.1 rfl) fun v' H' s' α' C' t' => q v' H' s' α' C' (t1.trans t')
    | false => exact b.ok (w.to t1 r1) (p1.2 rfl) fun v' H' s' α' C' t' => q v' H' s' α' C' (t1.trans t')
/-! ### lists of arguments, displays -/
def xNil : XA where
  ta _ _ := tNil
  wp X ρ C P := P [] C
  ok w h q := q [] _ [] _ _ w.rep.refl w.rep .nil h
def xCons (a : XE) (b : XA) : XA where
  ta k W := tCons (a.te k W) (b.ta k W)
  wp X ρ C P := a.wp X ρ C fun s C1 => b.wp X ρ C1 fun ss C2 => P (s :: ss) C2
  ok w h q := a.ok w h fun v H1 s α1 C1 t1 r1 c1 p1 => b.ok (w.to t1 r1) p1 fun vs H2 ss α2 C2 t2 r2 c2 p2 => q (v :: vs) H2 (s :: ss) α2 C2 (t1.trans t2) r2 (.cons (c1.to t2) c2) p2
def xTup (a : XA) : XE where
  te k W := tTup (a.ta k W)
  wp X ρ C P := a.wp X ρ C fun ss C1 => fzs C1 ss fun ds C2 => Nat.ble ds.length 100000 = true ∧ P (.d (.tuple ds)) C2
  ok w h q := a.ok w h fun vs H1 ss α1 C1 t1 r1 c1 p1 => by
    obtain ⟨ds, C2, r2, t2, h2, hl, p2⟩ := fzs_da r1 c1 p1
    exact ⟨by rw [Das.len h2]; exact Nat.le_trans (Nat.le_of_ble_eq_true hl) (by decide), fun p hp => q _ _ (.d (.tuple ds)) α1 C2 ((t1.trans t2).trans (r2.ex (Ex.new hp))) (r2.keep (Ex.new hp)) (Da.new_tup r2.md hp h2) p2⟩
/-- a list that stays as it is -/
def xLst (a : XA) : XE where
  te k W := tLst (a.ta k W)
  wp X ρ C P := a.wp X ρ C fun ss C1 => fzs C1 ss fun ds C2 => Nat.ble ds.length 100000 = true ∧ P (.d (.list ds)) C2
  ok w h q := a.ok w h fun vs H1 ss α1 C1 t1 r1 c1 p1 => by
    obtain ⟨ds, C2, r2, t2, h2, hl, p2⟩ := fzs_da r1 c1 p1
    exact ⟨by rw [Das.len h2]; exact Nat.le_trans (Nat.le_of_ble_eq_true hl) (by decide), fun p hp => q _ _ (.d (.list ds)) α1 C2 ((t1.trans t2).trans (r2.ex (Ex.new hp))) (r2.keep (Ex.new hp)) (Da.new_lst r2.md hp h2) p2⟩
section
variable {k : Kx} {B α : List Addr} {C : Cs} {H : Hp}
/-- a new list is a cell -/
theorem Rep.newL (r : Rep k B α C H) {p : Addr} {vs : List V} {ds : List PyData} (hp : H p = none) (h : Das k.K (ms B α C) H vs ds) :
    Rep k B (α ++ [p]) (C ++ [.lst ds]) (upd H p (.lst vs)) ∧ To B α C H (α ++ [p]) (C ++ [.lst ds]) (upd H p (.lst vs)) :=
  r.more rfl hp (fun b q => upd_ne q) ⟨_, upd_same⟩ fun t => ⟨vs, upd_same, dps_ex t.hid _ _ h⟩
theorem Rep.newR (r : Rep k B α C H) {p : Addr} {vs : List V} {ss : List Cv} (hp : H p = none) (h : Rcs k.K (ms B α C) H α vs ss) :
    Rep k B (α ++ [p]) (C ++ [.rfs ss]) (upd H p (.lst vs)) ∧ To B α C H (α ++ [p]) (C ++ [.rfs ss]) (upd H p (.lst vs)) :=
  r.more rfl hp (fun b q => upd_ne q) ⟨_, upd_same⟩ fun t => ⟨vs, upd_same, h.to t⟩
theorem Rc.last (r : Rep k B α C H) {p : Addr} {K : Fg} {M : Ms} {H' : Hp} : Rc K M H' (α ++ [p]) (.ref p) (.c C.length) := ⟨p, by rw [← r.len, List.getElem?_append_right (Nat.le_refl _), Nat.sub_self]; rfl, rfl⟩
end
/-- a list that will change -/
def xLstC (a : XA) : XE where
  te k W := tLst (a.ta k W)
  wp X ρ C P := a.wp X ρ C fun ss C1 => fzs C1 ss fun ds C2 => Nat.ble ds.length 100000 = true ∧ P (.c C2.length) (C2 ++ [.lst ds])
  ok w h q := a.ok w h fun vs H1 ss α1 C1 t1 r1 c1 p1 => by
    obtain ⟨ds, C2, r2, t2, h2, hl, p2⟩ := fzs_da r1 c1 p1
    refine ⟨by rw [Das.len h2]; exact Nat.le_trans (Nat.le_of_ble_eq_true hl) (by decide), fun p hp => ?_⟩
    obtain ⟨r3, t3⟩ := r2.newL hp h2
    exact q _ _ (.c C2.length) _ _ ((t1.trans t2).trans t3) r3 (Rc.last r2) p2
/-- a list of things that change -/
def xLstR (a : XA) : XE where
  te k W := tLst (a.ta k W)
  wp X ρ C P := a.wp X ρ C fun ss C1 => Nat.ble ss.length 100000 = true ∧ P (.c C1.length) (C1 ++ [.rfs ss])
  ok w h q := a.ok w h fun vs H1 ss α1 C1 t1 r1 c1 p1 => by
    refine ⟨by rw [Rcs.len c1]; exact Nat.le_trans (Nat.le_of_ble_eq_true p1.1) (by decide), fun p hp => ?_⟩
    obtain ⟨r3, t3⟩ := r1.newR hp c1
    exact q _ _ (.c C1.length) _ _ (t1.trans t3) r3 (Rc.last r1) p1.2
/-! ### built-ins, methods that read, slices -/
def xBi (g : List PyData → PyData → Prop) (a : XA) : XE where
  te k W := tCB (rC k.K g) (a.ta k W)
  wp X ρ C P := a.wp X ρ C fun ss C1 => rds C1 ss fun ds => ∃ z, g ds z ∧ P (.d z) C1
  ok w h q := a.ok w h fun vs H1 ss α1 C1 t1 r1 c1 p1 => by
    obtain ⟨ds, h1, z, hg, p2⟩ := rds_dt r1 c1 p1
    exact ⟨ms _ α1 C1, ds, z, r1.md, h1, hg, fun v' H' x dz => q v' H' (.d z) α1 C1 (t1.trans (r1.ex x)) (r1.keep x) dz p2⟩
/-- list(xs), to be changed -/
def rListF (K : Fg) : List V → Hp → VK → Prop := fun vs H Q => ∃ p ys, vs = [.ref p] ∧ (SqL K H p ys ∨ SqT K H p ys) ∧ ∀ l, H l = none → Q (.ref l) (upd H l (.lst ys))
theorem call_listF {X : Cx} : CallR X (.type "list") (rListF X.K) := call_list_of
def seqD (d : PyData) (K : List PyData → Prop) : Prop := match d with
  | .list ds => K ds
  | .tuple ds => K ds
  | _ => False
def xListC (a : XE) : XE where
  te k W := tCB (rListF k.K) (tCons (a.te k W) tNil)
  wp X ρ C P := a.wp X ρ C fun s C1 => rd C1 s fun d => seqD d fun ds => P (.c C1.length) (C1 ++ [.lst ds])
  ok w h q := a.ok w h fun v H1 s α1 C1 t1 r1 c1 p1 => by
    obtain ⟨d, h1, p2⟩ := rd_dt r1 c1 p1
    cases d with
    | list ds =>
      obtain ⟨b, ys, rfl, hb, hy⟩ := h1.list_inv
      rw [hid_nil] at hb
      refine ⟨b, ys, rfl, .inl hb, fun p hp => ?_⟩
      obtain ⟨r3, t3⟩ := r1.newL hp hy
      exact q _ _ (.c C1.length) _ _ (t1.trans t3) r3 (Rc.last r1) p2
    | tuple ds =>
      obtain ⟨b, ys, rfl, hb, hy⟩ := h1.tup_inv
      refine ⟨b, ys, rfl, .inr (hid_t hb), fun p hp => ?_⟩
      obtain ⟨r3, t3⟩ := r1.newL hp hy
      exact q _ _ (.c C1.length) _ _ (t1.trans t3) r3 (Rc.last r1) p2
    | none => exact p2.elim
    | bool _ => exact p2.elim
    | int _ => exact p2.elim
    | str _ => exact p2.elim
    | dict _ => exact p2.elim
/-- list(xs) as data -/
def xListD (a : XE) : XE where
  te k W := tCB (rListF k.K) (tCons (a.te k W) tNil)
  wp X ρ C P := a.wp X ρ C fun s C1 => rd C1 s fun d => seqD d fun ds => P (.d (.list ds)) C1
  ok w h q := a.ok w h fun v H1 s α1 C1 t1 r1 c1 p1 => by
    obtain ⟨d, h1, p2⟩ := rd_dt r1 c1 p1
    cases d with
    | list ds =>
      obtain ⟨b, ys, rfl, hb, hy⟩ := h1.list_inv
      rw [hid_nil] at hb
      exact ⟨b, ys, rfl, .inl hb, fun p hp => q _ _ (.d (.list ds)) α1 C1 (t1.trans (r1.ex (Ex.new hp))) (r1.keep (Ex.new hp)) (Da.new_lst r1.md hp hy) p2⟩
    | tuple ds =>
      obtain ⟨b, ys, rfl, hb, hy⟩ := h1.tup_inv
      exact ⟨b, ys, rfl, .inr (hid_t hb), fun p hp => q _ _ (.d (.list ds)) α1 C1 (t1.trans (r1.ex (Ex.new hp))) (r1.keep (Ex.new hp)) (Da.new_lst r1.md hp hy) p2⟩
    | none => exact p2.elim
    | bool _ => exact p2.elim
    | int _ => exact p2.elim
    | str _ => exact p2.elim
    | dict _ => exact p2.elim
/-- xs + ys, to be changed -/
def xCatC (a b : XE) : XE where
  te k W := tOp (rCatR k.K) (a.te k W) (b.te k W)
  wp X ρ C P := a.wp X ρ C fun s C1 => b.wp X ρ C1 fun t C2 => rd C2 s fun d => rd C2 t fun e => ∃ xs, d = .list xs ∧ ∃ ys, e = .list ys ∧ xs.length + ys.length ≤ sizeLine ∧ P (.c C2.length) (C2 ++ [.lst (xs ++ ys)])
  ok w h q := a.ok w h fun v H1 s α1 C1 t1 r1 c1 p1 => b.ok (w.to t1 r1) p1 fun u H2 s2 α2 C2 t2 r2 c2 p2 => by
    obtain ⟨d, h1, p2⟩ := rd_dt r2 (c1.to t2) p2
    obtain ⟨e, h2, xs, rfl, ys, rfl, hl, p3⟩ := rd_dt r2 c2 p2
    obtain ⟨x, vs, rfl, hx, dx⟩ := h1.list_inv
    obtain ⟨y, ws, rfl, hy, dy⟩ := h2.list_inv
    rw [hid_nil] at hx hy
    refine ⟨x, y, vs, ws, rfl, rfl, hx, hy, by rw [Das.len dx, Das.len dy]; exact hl, fun p hp => ?_⟩
    obtain ⟨r3, t3⟩ := r2.newL hp (Das.app dx dy)
    exact q _ _ (.c C2.length) _ _ ((t1.trans t2).trans t3) r3 (Rc.last r2) p3
def xNoPart : XO where
  to _ _ := tNoPart
  wp X ρ C P := P none C
  ok w h q := q none _ _ _ w.rep.refl w.rep h
def xPart (a : XE) : XO where
  to k W := tPart (a.te k W)
  wp X ρ C P := a.wp X ρ C fun s C1 => ∃ i, s = .d (.int i) ∧ P (some i) C1
  ok w h q := a.ok w h fun v H1 s α1 C1 t1 r1 c1 p1 => by
    obtain ⟨i, rfl, p⟩ := p1
    exact ⟨i, Da.int_inv c1, q (some i) H1 α1 C1 t1 r1 p⟩
def xSl (a : XE) (l u : XO) : XE where
  te k W := tSl (rSl k.K SlD) (a.te k W) (l.to k W) (u.to k W)
  wp X ρ C P := a.wp X ρ C fun s C1 => l.wp X ρ C1 fun lo C2 => u.wp X ρ C2 fun hi C3 => rd C3 s fun d => ∃ z, SlD d lo hi z ∧ P (.d z) C3
  ok w h q := a.ok w h fun v H1 s α1 C1 t1 r1 c1 p1 => l.ok (w.to t1 r1) p1 fun lo H2 α2 C2 t2 r2 p2 => u.ok ((w.to t1 r1).to t2 r2) p2 fun hi H3 α3 C3 t3 r3 p3 => by
    obtain ⟨d, h1, z, hg, p4⟩ := rd_dt r3 ((c1.to t2).to t3) p3
    exact ⟨ms _ α3 C3, d, z, r3.md, h1, hg, fun v' H' x dz => q v' H' (.d z) α3 C3 (((t1.trans t2).trans t3).trans (r3.ex x)) (r3.keep x) dz p4⟩
/-- a method of a text -/
def xBm (g : PyData → List PyData → PyData → Prop) (a : XE) (b : XA) : XE where
  te k W := tBM k.K "str" (rM k.K g) (a.te k W) (b.ta k W)
  wp X ρ C P := a.wp X ρ C fun s C1 => ∃ y, s = .d (.str y) ∧ b.wp X ρ C1 fun ss C2 => rds C2 ss fun ds => ∃ z, g (.str y) ds z ∧ P (.d z) C2
  ok w h q := a.ok w h fun v H1 s α1 C1 t1 r1 c1 p1 => by
    obtain ⟨y, rfl, p1⟩ := p1
    have e := Da.str_inv c1
    subst e
    refine ⟨rfl, b.ok (w.to t1 r1) p1 fun vs H2 ss α2 C2 t2 r2 c2 p2 => ?_⟩
    obtain ⟨ds, h2, z, hg, p3⟩ := rds_dt r2 c2 p2
    exact ⟨ms _ α2 C2, .str y, ds, z, r2.md, .da (.str y), h2, hg, fun v' H' x dz => q v' H' (.d z) α2 C2 ((t1.trans t2).trans (r2.ex x)) (r2.keep x) dz p3⟩
def xBm0 (g : PyData → List PyData → PyData → Prop) (a : XE) : XE where
  te k W := tBM0 k.K "str" (rM k.K g) (a.te k W)
  wp X ρ C P := a.wp X ρ C fun s C1 => ∃ y, s = .d (.str y) ∧ ∃ z, g (.str y) [] z ∧ P (.d z) C1
  ok w h q := a.ok w h fun v H1 s α1 C1 t1 r1 c1 p1 => by
    obtain ⟨y, rfl, z, hg, p3⟩ := p1
    have e := Da.str_inv c1
    subst e
    exact ⟨rfl, ms _ α1 C1, .str y, [], z, r1.md, .da (.str y), .nil, hg, fun v' H' x dz => q v' H' (.d z) α1 C1 (t1.trans (r1.ex x)) (r1.keep x) dz p3⟩
end DL
set_option maxRecDepth 100000
namespace DL
open PySem L2

/-! ### what is held is held on -/
structure Em (B α : List Addr) (C : Cs) (H : Hp) (B' α' : List Addr) (C' : Cs) (H' : Hp) : Prop where
  hid : Ex (hid (ms B α C) H) (hid (ms B' α' C') H')
  ex : ∃ e, α' = α ++ e
section
variable {k : Kx} {B B' α α' α'' : List Addr} {C C' C'' : Cs} {H H' H'' : Hp} {σ : L2.St} {ρ : Rv} {W : WX} {X : Xp}
theorem To.em (t : To B α C H α' C' H') : Em B α C H B α' C' H' := ⟨t.hid, by obtain ⟨e, h, _⟩ := t.ex; exact ⟨e, h⟩⟩
theorem Em.trans {B'' : List Addr} (a : Em B α C H B' α' C' H') (b : Em B' α' C' H' B'' α'' C'' H'') : Em B α C H B'' α'' C'' H'' := ⟨a.hid.trans b.hid, by
  obtain ⟨e, rfl⟩ := a.ex
  obtain ⟨f, rfl⟩ := b.ex
  exact ⟨e ++ f, by rw [List.append_assoc]⟩⟩
theorem Rc.em {K : Fg} (t : Em B α C H B' α' C' H') {v : V} {s : Cv} (h : Rc K (ms B α C) H α v s) : Rc K (ms B' α' C') H' α' v s := by
  cases s with
  | d x => exact dp_ex t.hid x v h
  | v w => exact h
  | c n =>
    obtain ⟨e, rfl⟩ := t.ex
    obtain ⟨a, h1, h2⟩ := h
    exact ⟨a, by rw [List.getElem?_append_left (List.getElem?_eq_some_iff.mp h1).1]; exact h1, h2⟩
theorem Rcs.em {K : Fg} (t : Em B α C H B' α' C' H') {v : List V} {s : List Cv} (h : Rcs K (ms B α C) H α v s) : Rcs K (ms B' α' C') H' α' v s := by
  induction h with
  | nil => exact .nil
  | cons a _ ih => exact .cons (a.em t) ih
theorem Rfs.em {κ : Type} {K : Fg} (t : Em B α C H B' α' C' H') {v : List (κ × V)} {s : List (κ × Cv)} (h : Rfs K (ms B α C) H α v s) : Rfs K (ms B' α' C') H' α' v s := by
  induction h with
  | nil => exact .nil
  | cons a _ ih => exact .cons (a.em t) ih
theorem En.em (t : Em B α C H B' α' C' H') (e : En k B α C H σ ρ) : En k B' α' C' H' σ ρ := ⟨e.1, fun i s h => by obtain ⟨v, h1, h2⟩ := e.2 i s h; exact ⟨v, h1, h2.em t⟩⟩
theorem CellAt.em {a : Addr} {c : Cell} (h : CellAt k (ms B α C) H α a c) (t : Em B α C H B' α' C' H') (e : H' a = H a) (f : c.isF = true → a ∉ (ms B' α' C').h) : CellAt k (ms B' α' C') H' α' a c := by
  cases c with
  | lst ds =>
    obtain ⟨xs, h1, h2⟩ := h
    exact ⟨xs, by rw [e]; exact h1, dps_ex t.hid _ _ h2⟩
  | rfs cs =>
    obtain ⟨xs, h1, h2⟩ := h
    exact ⟨xs, by rw [e]; exact h1, h2.em t⟩
  | frz d => exact ⟨f rfl, by rw [e]; exact h.2.1, dp_ex t.hid _ _ h.2.2⟩
  | box l n =>
    obtain ⟨x, y, v, d, h1, h2, h3⟩ := h
    exact ⟨x, y, v, d, by rw [e]; exact h1, dp_ex t.hid _ _ h2, h3⟩
  | obj c fs =>
    obtain ⟨dx, vs, h1, h2⟩ := h
    exact ⟨dx, vs, by rw [e]; exact h1, h2.em t⟩
  | dk es =>
    obtain ⟨vs, h1, h2⟩ := h
    exact ⟨vs, by rw [e]; exact h1, h2.em t⟩
theorem ms_h_bg {D : Addr} {a : Addr} : a ∈ (ms (D :: B) α C).h ↔ a = D ∨ a ∈ (ms B α C).h := by
  rw [ms_h, ms_h, List.mem_cons]
  constructor
  · rintro (h | h | h)
    · exact .inr (.inl h)
    · exact .inl h
    · exact .inr (.inr h)
  · rintro (h | h | h)
    · exact .inr (.inl h)
    · exact .inl h
    · exact .inr (.inr h)
/-- a new place, kept aside -/
theorem em_bg {D : Addr} {o : HO} (hD : H D = none) : Em B α C H (D :: B) α C (upd H D o) := ⟨fun a u h => by
  have h0 := hid_le _ _ a u h
  have q : a ≠ D := fun e => by rw [e, hD] at h0; cases h0
  have n : a ∉ (ms B α C).h := fun m => by
    have e : DL.hid (ms B α C) H a = none := if_pos m
    rw [e] at h; cases h
  refine (if_neg (fun m => ?_)).trans ((upd_ne q).trans h0)
  rcases ms_h_bg.mp m with e | e
  · exact q e
  · exact n e, [], by simp⟩
theorem Rep.bg (r : Rep k B α C H) {D : Addr} {o : HO} (hD : H D = none) : Rep k (D :: B) α C (upd H D o) := by
  have hp : D ∉ α := fun m => by obtain ⟨u, h⟩ := r.there D m; rw [hD] at h; cases h
  refine ⟨r.len, r.nd, fun a m q => ?_, fun a m => ?_, fun i a c h1 h2 => ?_⟩
  · rcases List.mem_cons.mp q with e | e
    · exact hp (e ▸ m)
    · exact r.nb a m e
  · by_cases q : a = D
    · subst q; exact ⟨o, upd_same⟩
    · rcases ms_h_bg.mp m with e | e
      · exact absurd e q
      · obtain ⟨u, h⟩ := r.md a e
        exact ⟨u, by rw [upd_ne q]; exact h⟩
  · have q : a ≠ D := fun e => hp (e ▸ List.mem_of_getElem? h1)
    refine (r.at_ i a c h1 h2).em (em_bg hD) (upd_ne q) fun f m => ?_
    rcases ms_h_bg.mp m with e | e
    · exact q e
    · exact r.frz_not h1 h2 f e
/-- what is kept aside is written -/
theorem em_put {D : Addr} {o : HO} : Em (D :: B) α C H (D :: B) α C (upd H D o) := ⟨fun a u h => by
  have h0 := hid_le _ _ a u h
  have n : a ∉ (ms (D :: B) α C).h := fun m => by
    have e : DL.hid (ms (D :: B) α C) H a = none := if_pos m
    rw [e] at h; cases h
  have q : a ≠ D := fun e => n (ms_h_bg.mpr (.inl e))
  exact (if_neg n).trans ((upd_ne q).trans h0), [], by simp⟩
theorem Rep.bgput {D : Addr} {o : HO} (r : Rep k (D :: B) α C H) : Rep k (D :: B) α C (upd H D o) := by
  refine ⟨r.len, r.nd, r.nb, fun a m => ?_, fun i a c h1 h2 => ?_⟩
  · by_cases q : a = D
    · subst q; exact ⟨o, upd_same⟩
    · obtain ⟨u, h⟩ := r.md a m
      exact ⟨u, by rw [upd_ne q]; exact h⟩
  · have q : a ≠ D := fun e => r.nb a (List.mem_of_getElem? h1) (e ▸ List.mem_cons_self)
    exact (r.at_ i a c h1 h2).em em_put (upd_ne q) fun f m => r.frz_not h1 h2 f m
/-- and comes back -/
theorem em_unbg {D : Addr} : Em (D :: B) α C H B α C H := ⟨hid_mono (fun a m => ms_h_bg.mpr (.inr m)) H, [], by simp⟩
theorem Rep.unbg {D : Addr} (r : Rep k (D :: B) α C H) : Rep k B α C H := ⟨r.len, r.nd, fun a m q => r.nb a m (List.mem_cons_of_mem _ q), fun a m => r.md a (ms_h_bg.mpr (.inr m)), fun i a c h1 h2 =>
  (r.at_ i a c h1 h2).em em_unbg rfl fun f m => r.frz_not h1 h2 f (ms_h_bg.mpr (.inr m))⟩
theorem To.comp {D : Addr} (a : To B α C H α' C' H') (b : To (D :: B) α' C' H' α'' C'' H'') : To B α C H α'' C'' H'' := by
  have b' : To B α' C' H' α'' C'' H'' := ⟨⟨fun a m => b.st.md a (ms_h_bg.mpr (.inr m)), b.st.go, b.st.nw⟩, b.ex⟩
  exact a.trans b'
theorem XAt.em {cls : Value} {d : Option Addr} {x : Xc} (h : XAt k (ms B α C) H α cls d x) (t : Em B α C H B' α' C' H') (e : ∀ a o, H a = some o → H' a = some o) : XAt k (ms B' α' C') H' α' cls d x := by
  refine ⟨h.1, ?_⟩
  rcases h.2 with h | ⟨dd, vs, h1, h2, h3⟩
  · exact .inl h
  · exact .inr ⟨dd, vs, h1, e _ _ h2, h3.em t⟩
end

/-! ### targets -/
structure XG where
  tg : Kx → TG
  ns : List Nat
  wp : Cs → Cv → Rv → (Rv → Prop) → Prop
  ok : ∀ {k B α C H σ ρ x s P Q}, Rep k B α C H → Rc k.K (ms B α C) H α x s → En k B α C H σ ρ → wp C s ρ P → (∀ σ' ρ', En k B α C H σ' ρ' → σ'.length = σ.length → (∀ i, i ∉ ns → σ'[i]? = σ[i]?) → P ρ' → Q σ' H) → tg k x σ H Q
structure XGs where
  tg : Kx → TGs
  ns : List Nat
  len : Nat
  wp : Cs → List Cv → Rv → (Rv → Prop) → Prop
  ok : ∀ {k B α C H σ ρ x s P Q}, Rep k B α C H → Rcs k.K (ms B α C) H α x s → En k B α C H σ ρ → wp C s ρ P → (∀ σ' ρ', En k B α C H σ' ρ' → σ'.length = σ.length → (∀ i, i ∉ ns → σ'[i]? = σ[i]?) → P ρ' → Q σ' H) → tg k x σ H Q
def xgName (i : Nat) : XG where
  tg _ := gName i
  ns := [i]
  wp C s ρ P := P (ρ.set i (some s))
  ok r c e h q := q _ _ (e.set c) (by rw [List.length_set]) (fun j hj => List.getElem?_set_ne (fun z => hj (by rw [← z]; exact List.mem_singleton.mpr rfl))) h
def xgsNil : XGs where
  tg _ := gNil
  ns := []
  len := 0
  wp C ss ρ P := ss = [] ∧ P ρ
  ok r c e h q := by
    obtain ⟨rfl, h⟩ := h
    cases c
    exact ⟨rfl, q _ _ e rfl (fun _ _ => rfl) h⟩
def hdtl (ss : List Cv) (K : Cv → List Cv → Prop) : Prop := match ss with
  | s :: r => K s r
  | [] => False
def xgsCons (a : XG) (b : XGs) : XGs where
  tg k := gCons (a.tg k) (b.tg k)
  ns := a.ns ++ b.ns
  len := b.len + 1
  wp C ss ρ P := hdtl ss fun s rest => a.wp C s ρ fun ρ1 => b.wp C rest ρ1 P
  ok r c e h q := by
    cases c with
    | nil => exact h.elim
    | cons c1 cr =>
      refine ⟨_, _, rfl, a.ok r c1 e h fun σ1 ρ1 e1 l1 f1 h1 => ?_⟩
      refine b.ok r cr e1 h1 fun σ2 ρ2 e2 l2 f2 h2 => ?_
      exact q σ2 ρ2 e2 (l2.trans l1) (fun i hi => (f2 i fun m => hi (List.mem_append_right _ m)).trans (f1 i fun m => hi (List.mem_append_left _ m))) h2
theorem rcs_d {K : Fg} {M : Ms} {H : Hp} {α : List Addr} : ∀ {xs : List V} {ds : List PyData}, Das K M H xs ds → Rcs K M H α xs (ds.map Cv.d)
  | _, _, .nil => .nil
  | _, _, .cons a t => .cons a (rcs_d t)
theorem das_d {K : Fg} {M : Ms} {H : Hp} {α : List Addr} : ∀ {ds : List PyData} {xs : List V}, Rcs K M H α xs (ds.map Cv.d) → Das K M H xs ds
  | [], _, .nil => .nil
  | d :: ds, _, .cons a t => .cons a (das_d t)
def tupD (s : Cv) (K : List PyData → Prop) : Prop := match s with
  | .d (.tuple ds) => K ds
  | _ => False
def xgTup (a : XGs) : XG where
  tg k := gTup k.K a.len (a.tg k)
  ns := a.ns
  wp C s ρ P := tupD s fun ds => ds.length = a.len ∧ a.wp C (ds.map .d) ρ P
  ok r c e h q := by
    rename_i s _ _
    cases s with
    | v x => exact h.elim
    | c n => exact h.elim
    | d x =>
      cases x <;> try exact h.elim
      obtain ⟨hl, h⟩ := h
      obtain ⟨p, xs, rfl, hp, hx⟩ := Da.tup_inv c
      exact ⟨p, xs, rfl, hid_t hp, (Das.len hx).trans hl, a.ok r (rcs_d hx) e h q⟩
/-- a list is unpacked -/
def xgUnl (a : XGs) : XG where
  tg k := gUnl k.K a.len (a.tg k)
  ns := a.ns
  wp C s ρ P := rd C s fun d => ∃ ds, d = .list ds ∧ ds.length = a.len ∧ a.wp C (ds.map .d) ρ P
  ok r c e h q := by
    obtain ⟨d, hd, ds, rfl, hl, h⟩ := rd_dt r c h
    obtain ⟨p, xs, rfl, hp, hx⟩ := hd.list_inv
    rw [hid_nil] at hp
    exact ⟨p, xs, rfl, hp, (Das.len hx).trans hl, a.ok r (rcs_d hx) e h q⟩

/-! ### what is walked -/
def Yd (k : Kx) (J : It) (ds : List Cv) (keep : Cs → Prop) (B α : List Addr) (C : Cs) (H : Hp) : Prop :=
  ∀ B' α' C' H', Em B α C H B' α' C' H' → Rep k B' α' C' H' → keep C' → (∀ (i : Nat) s, ds[i]? = some s → J.go i H' ∧ ∀ x H'', J.yld i H' x H'' → Ex H' H'' ∧ Rc k.K (ms B' α' C') H'' α' x s) ∧ J.stop ds.length H'
structure XI where
  wi : Kx → WX → TI
  wp : Xp → Rv → Cs → (List Cv → (Cs → Prop) → Cs → Prop) → Prop
  ok : ∀ {k B α C H σ ρ W X P R}, Wd k B α C H σ ρ W X → wp X ρ C P → (∀ J ds keep α' C' H', To B α C H α' C' H' → Rep k B α' C' H' → P ds keep C' → Yd k J ds keep B α' C' H' → R J H') → wi k W σ H R
/-- the items of a value -/
def itV (C : Cs) (s : Cv) (K : List Cv → (Cs → Prop) → Prop) : Prop := match s with
  | .d (.list ds) => K (ds.map .d) fun _ => True
  | .d (.tuple ds) => K (ds.map .d) fun _ => True
  | .d (.str x) => K (x.cps.toList.map fun c => .d (.str ⟨#[c]⟩)) fun _ => True
  | .c n => (match C[n]? with
    | some (.lst ds) => K (ds.map .d) fun C' => C'[n]? = some (.lst ds)
    | some (.rfs ss) => K ss fun C' => C'[n]? = some (.rfs ss)
    | some (.frz (.list ds)) => K (ds.map .d) fun _ => True
    | _ => False)
  | _ => False
section
variable {k : Kx} {B B' α α' : List Addr} {C C' : Cs} {H H' : Hp}
theorem yd_list {a : Addr} {ds : List PyData} (h : Da k.K (ms B α C) H (.ref a) (.list ds)) : Yd k (Itl k.K a) (ds.map .d) (fun _ => True) B α C H := fun B' α' C' H' e r _ => by
  have h' : Da k.K (ms B' α' C') H' (.ref a) (.list ds) := dp_ex e.hid _ _ h
  obtain ⟨a', xs, ea, hr, hx⟩ := Da.list_inv h'
  cases ea
  have sq : SqL k.K H' a xs := hid_l hr
  refine ⟨fun i s hs => ?_, xs, sq, by rw [Das.len hx, List.length_map]; exact Nat.le_refl _⟩
  rw [List.getElem?_map] at hs
  cases hd : ds[i]? with
  | none => rw [hd] at hs; cases hs
  | some d =>
    rw [hd] at hs
    cases hs
    obtain ⟨v, hv, dv⟩ := Das.get hx hd
    refine ⟨⟨xs, v, sq, hv⟩, fun x H'' hy => ?_⟩
    obtain ⟨rfl, hy⟩ := hy
    have := (hy xs sq).symm.trans hv
    cases this
    exact ⟨Ex.refl _, dv⟩
theorem yd_cell {a : Addr} {n : Nat} {ds : List PyData} (ha : α[n]? = some a) : Yd k (Itl k.K a) (ds.map .d) (fun C' => C'[n]? = some (.lst ds)) B α C H := fun B' α' C' H' e r kp => by
  have ha' : α'[n]? = some a := by
    obtain ⟨f, rfl⟩ := e.ex
    rw [List.getElem?_append_left (List.getElem?_eq_some_iff.mp ha).1]; exact ha
  obtain ⟨xs, hp, hx⟩ := r.at_ n a _ ha' kp
  have sq : SqL k.K H' a xs := .inl (.inl hp)
  refine ⟨fun i s hs => ?_, xs, sq, by rw [Das.len hx, List.length_map]; exact Nat.le_refl _⟩
  rw [List.getElem?_map] at hs
  cases hd : ds[i]? with
  | none => rw [hd] at hs; cases hs
  | some d =>
    rw [hd] at hs
    cases hs
    obtain ⟨v, hv, dv⟩ := Das.get hx hd
    refine ⟨⟨xs, v, sq, hv⟩, fun x H'' hy => ?_⟩
    obtain ⟨rfl, hy⟩ := hy
    have := (hy xs sq).symm.trans hv
    cases this
    exact ⟨Ex.refl _, dv⟩
theorem Rcs.get1 {K : Fg} {M : Ms} {vs : List V} {ss : List Cv} (h : Rcs K M H α vs ss) : ∀ {i : Nat} {s}, ss[i]? = some s → ∃ v, vs[i]? = some v ∧ Rc K M H α v s := by
  induction h with
  | nil => intro i s e; simp at e
  | cons a _ ih =>
    intro i s e
    cases i with
    | zero => simp at e; subst e; exact ⟨_, rfl, a⟩
    | succ i => obtain ⟨v, h1, h2⟩ := ih (i := i) (by simpa using e); exact ⟨v, by simpa using h1, h2⟩
theorem yd_refs {a : Addr} {n : Nat} {ss : List Cv} (ha : α[n]? = some a) : Yd k (Itl k.K a) ss (fun C' => C'[n]? = some (.rfs ss)) B α C H := fun B' α' C' H' e r kp => by
  have ha' : α'[n]? = some a := by
    obtain ⟨f, rfl⟩ := e.ex
    rw [List.getElem?_append_left (List.getElem?_eq_some_iff.mp ha).1]; exact ha
  obtain ⟨xs, hp, hx⟩ := r.at_ n a _ ha' kp
  have sq : SqL k.K H' a xs := .inl (.inl hp)
  refine ⟨fun i s hs => ?_, xs, sq, by rw [Rcs.len hx]; exact Nat.le_refl _⟩
  obtain ⟨v, hv, dv⟩ := hx.get1 hs
  refine ⟨⟨xs, v, sq, hv⟩, fun x H'' hy => ?_⟩
  obtain ⟨rfl, hy⟩ := hy
  have := (hy xs sq).symm.trans hv
  cases this
  exact ⟨Ex.refl _, dv⟩
theorem yd_tup {a : Addr} {ds : List PyData} (h : Da k.K (ms B α C) H (.ref a) (.tuple ds)) : Yd k (Itt k.K a) (ds.map .d) (fun _ => True) B α C H := fun B' α' C' H' e r _ => by
  have h' : Da k.K (ms B' α' C') H' (.ref a) (.tuple ds) := dp_ex e.hid _ _ h
  obtain ⟨a', xs, ea, hr, hx⟩ := Da.tup_inv h'
  cases ea
  have sq : SqT k.K H' a xs := hid_t hr
  refine ⟨fun i s hs => ?_, xs, sq, by rw [Das.len hx, List.length_map]; exact Nat.le_refl _⟩
  rw [List.getElem?_map] at hs
  cases hd : ds[i]? with
  | none => rw [hd] at hs; cases hs
  | some d =>
    rw [hd] at hs
    cases hs
    obtain ⟨v, hv, dv⟩ := Das.get hx hd
    refine ⟨⟨xs, v, sq, hv⟩, fun x H'' hy => ?_⟩
    obtain ⟨rfl, hy⟩ := hy
    have := (hy xs sq).symm.trans hv
    cases this
    exact ⟨Ex.refl _, dv⟩
theorem yd_str {x : Str} : Yd k (Its x) (x.cps.toList.map fun c => .d (.str ⟨#[c]⟩)) (fun _ => True) B α C H := fun B' α' C' H' e r _ => by
  refine ⟨fun i s hs => ?_, by show x.cps.size ≤ _; simp⟩
  rw [List.getElem?_map] at hs
  cases hc : x.cps.toList[i]? with
  | none => rw [hc] at hs; cases hs
  | some c =>
    rw [hc] at hs
    cases hs
    have e' : x.cps[i]? = some c := by simpa using hc
    refine ⟨by show i < x.cps.size; exact (Array.getElem?_eq_some_iff.mp e').1, fun y H'' hy => ?_⟩
    obtain ⟨rfl, c', h1, rfl⟩ := hy
    rw [e'] at h1; cases h1
    exact ⟨Ex.refl _, Dq.str _⟩
theorem yd_rng {lo : Int} {n : Nat} : Yd k (Itr lo n) ((List.range n).map fun (j : Nat) => .d (.int (lo + (j : Int)))) (fun _ => True) B α C H := fun B' α' C' H' e r _ => by
  refine ⟨fun i s hs => ?_, by show n ≤ _; simp⟩
  rw [List.getElem?_map] at hs
  by_cases hi : i < n
  · rw [List.getElem?_range hi] at hs
    cases hs
    refine ⟨hi, fun y H'' hy => ?_⟩
    obtain ⟨rfl, rfl⟩ := hy
    exact ⟨Ex.refl _, Dq.int _⟩
  · rw [List.getElem?_eq_none (by simp; omega)] at hs; cases hs
end
def xiSeq (a : XE) : XI where
  wi k W := iSeq k.K (a.te k W)
  wp X ρ C P := a.wp X ρ C fun s C1 => itV C1 s fun ds keep => P ds keep C1
  ok w h q := a.ok w h fun v H1 s α1 C1 t1 r1 c1 p1 => by
    cases s with
    | v x => exact p1.elim
    | d x =>
      cases x <;> try exact p1.elim
      · have e := Da.str_inv c1
        subst e
        exact .inr (.inr ⟨_, rfl, q _ _ _ _ _ _ t1 r1 p1 yd_str⟩)
      · obtain ⟨b, xs, rfl, hb, hx⟩ := Da.list_inv c1
        exact .inl ⟨b, rfl, ⟨xs, hid_l hb⟩, q _ _ _ _ _ _ t1 r1 p1 (yd_list c1)⟩
      · obtain ⟨b, xs, rfl, hb, hx⟩ := Da.tup_inv c1
        exact .inr (.inl ⟨b, rfl, ⟨xs, hid_t hb⟩, q _ _ _ _ _ _ t1 r1 p1 (yd_tup c1)⟩)
    | c n =>
      obtain ⟨b, hb, rfl⟩ := c1
      unfold itV at p1
      dsimp only at p1
      cases e : C1[n]? with
      | none => rw [e] at p1; exact p1.elim
      | some c =>
        rw [e] at p1
        have hc := r1.at_ n b c hb e
        cases c with
        | lst ds =>
          obtain ⟨xs, h1, h2⟩ := hc
          exact .inl ⟨b, rfl, ⟨xs, .inl (.inl h1)⟩, q _ _ _ _ _ _ t1 r1 p1 (yd_cell hb)⟩
        | rfs ss =>
          obtain ⟨xs, h1, h2⟩ := hc
          exact .inl ⟨b, rfl, ⟨xs, .inl (.inl h1)⟩, q _ _ _ _ _ _ t1 r1 p1 (yd_refs hb)⟩
        | frz d =>
          cases d <;> try exact p1.elim
          obtain ⟨b', xs, eb, hr, hx⟩ := Da.list_inv hc.2.2
          cases eb
          exact .inl ⟨b, rfl, ⟨xs, hid_l hr⟩, q _ _ _ _ _ _ t1 r1 p1 (yd_list hc.2.2)⟩
        | box _ _ => exact p1.elim
        | obj _ _ => exact p1.elim
        | dk _ => exact p1.elim
def rngV (lo : Int) (n : Nat) : List Cv := (List.range n).map fun (j : Nat) => .d (.int (lo + (j : Int)))
def xiRng1 (a : XE) : XI where
  wi k W := iRng1 (tCons (a.te k W) tNil)
  wp X ρ C P := a.wp X ρ C fun s C1 => ∃ n : Int, s = .d (.int n) ∧ (-(2 ^ 62) ≤ n ∧ n < 2 ^ 62) ∧ P (rngV 0 n.toNat) (fun _ => True) C1
  ok w h q := a.ok w h fun v H1 s α1 C1 t1 r1 c1 p1 => by
    obtain ⟨n, rfl, hb, p1⟩ := p1
    have e := Da.int_inv c1
    subst e
    exact ⟨n, rfl, hb.1, hb.2, q _ _ _ _ _ _ t1 r1 p1 yd_rng⟩
def xiRng2 (a b : XE) : XI where
  wi k W := iRng2 (tCons (a.te k W) (tCons (b.te k W) tNil))
  wp X ρ C P := a.wp X ρ C fun s C1 => b.wp X ρ C1 fun t C2 => ∃ m : Int, s = .d (.int m) ∧ ∃ n : Int, t = .d (.int n) ∧ (-(2 ^ 62) ≤ m ∧ m < 2 ^ 62 ∧ -(2 ^ 62) ≤ n ∧ n < 2 ^ 62) ∧ P (rngV m (n - m).toNat) (fun _ => True) C2
  ok w h q := a.ok w h fun v H1 s α1 C1 t1 r1 c1 p1 => b.ok (w.to t1 r1) p1 fun u H2 s2 α2 C2 t2 r2 c2 p2 => by
    obtain ⟨m, rfl, n, rfl, hb, p2⟩ := p2
    have e := Da.int_inv c1
    subst e
    have e := Da.int_inv c2
    subst e
    exact ⟨m, n, rfl, hb, q _ _ _ _ _ _ (t1.trans t2) r2 p2 yd_rng⟩
end DL
set_option maxRecDepth 100000
namespace DL
open PySem L2

/-! ### less is known of the cells -/
def RenV (f : List Nat) : Cv → Cv → Prop
  | .d x, .d y => x = y
  | .v x, .v y => x = y
  | .c i, .c j => f[j]? = some i
  | _, _ => False
def RenVs (f : List Nat) : List Cv → List Cv → Prop
  | [], [] => True
  | a :: s, b :: t => RenV f a b ∧ RenVs f s t
  | _, _ => False
def RenFs {κ : Type} (f : List Nat) : List (κ × Cv) → List (κ × Cv) → Prop
  | [], [] => True
  | a :: s, b :: t => a.1 = b.1 ∧ RenV f a.2 b.2 ∧ RenFs f s t
  | _, _ => False
def RenC (f : List Nat) : Cell → Cell → Prop
  | .lst x, .lst y => x = y
  | .frz x, .frz y => x = y
  | .box l n, .box l' m => l = l' ∧ n ≤ m
  | .lst ds, .box l n => ∃ (x y : Int) (d : PyData), ds = [.int x, d, .int y] ∧ boxD l d ∧ 0 ≤ x ∧ 0 ≤ y ∧ y ≤ n
  | .rfs x, .rfs y => RenVs f x y
  | .obj c x, .obj d y => c = d ∧ RenFs f x y
  | .dk x, .dk y => RenFs f x y
  | _, _ => False
def RenO (f : List Nat) : Option Cv → Option Cv → Prop
  | _, none => True
  | some a, some b => RenV f a b
  | none, some _ => False
def WkR (f : List Nat) : Rv → Rv → Prop
  | [], [] => True
  | a :: s, b :: t => RenO f a b ∧ WkR f s t
  | _, _ => False
/-- the cells of C that f names are those of C' -/
def WkC (f : List Nat) (C : Cs) : List Nat → Cs → Prop
  | [], [] => True
  | i :: g, c' :: C' => (match C[i]? with
    | some c => RenC f c c'
    | none => False) ∧ WkC f C g C'
  | _, _ => False
structure Wk (n0 : Nat) (f : List Nat) (C C' : Cs) : Prop where
  nd : f.Nodup
  fx : f.take n0 = List.range n0
  wk : WkC f C f C'
section
variable {k : Kx} {B α α' : List Addr} {C C' : Cs} {H H' : Hp} {σ : L2.St} {ρ ρ' : Rv} {f : List Nat}
theorem WkC.len : ∀ {g : List Nat} {C' : Cs}, WkC f C g C' → g.length = C'.length
  | [], [], _ => rfl
  | _ :: _, _ :: _, h => by rw [List.length_cons, List.length_cons, WkC.len h.2]
theorem WkC.get : ∀ {g : List Nat} {C' : Cs}, WkC f C g C' → ∀ {j i : Nat}, g[j]? = some i → ∃ c c', C[i]? = some c ∧ C'[j]? = some c' ∧ RenC f c c'
  | [], [], _, j, i, e => by simp at e
  | i0 :: g, c0 :: C', h, 0, i, e => by
    simp at e; subst e
    have h1 := h.1
    cases q : C[i0]? with
    | none => rw [q] at h1; exact h1.elim
    | some c => rw [q] at h1; exact ⟨c, c0, rfl, rfl, h1⟩
  | i0 :: g, c0 :: C', h, j + 1, i, e => by
    obtain ⟨c, c', h1, h2, h3⟩ := WkC.get h.2 (j := j) (by simpa using e)
    exact ⟨c, c', h1, by simpa using h2, h3⟩
/-- the places by f -/
def pick (f : List Nat) (α : List Addr) : List Addr := f.filterMap fun i => α[i]?
theorem pick_get : ∀ {f : List Nat}, (∀ i ∈ f, i < α.length) → ∀ (j : Nat), (pick f α)[j]? = (f[j]?).bind fun i => α[i]?
  | [], _, j => by simp [pick]
  | i :: f, h, j => by
    have hi := h i List.mem_cons_self
    have e : pick (i :: f) α = α[i] :: pick f α := by
      unfold pick
      rw [List.filterMap_cons, List.getElem?_eq_getElem hi]
    rw [e]
    cases j with
    | zero => simp [List.getElem?_eq_getElem hi]
    | succ j =>
      have := pick_get (f := f) (fun i m => h i (List.mem_cons_of_mem _ m)) j
      simpa using this
theorem pick_len (h : ∀ i ∈ f, i < α.length) : (pick f α).length = f.length := by
  induction f with
  | nil => rfl
  | cons i f ih =>
    have hi := h i List.mem_cons_self
    unfold pick at ih ⊢
    rw [List.filterMap_cons, List.getElem?_eq_getElem hi]
    show _ + 1 = _ + 1
    rw [ih fun i m => h i (List.mem_cons_of_mem _ m)]
theorem Rc.ren {K : Fg} {M : Ms} (hf : ∀ i ∈ f, i < α.length) {v : V} {s t : Cv} (h : Rc K M H α v s) (r : RenV f s t) : Rc K M H (pick f α) v t := by
  cases s <;> cases t <;> try exact r.elim
  · cases (show _ = _ from r); exact h
  · cases (show _ = _ from r); exact h
  · rename_i i j
    have r : f[j]? = some i := r
    obtain ⟨a, h1, h2⟩ := h
    exact ⟨a, by rw [pick_get hf, r]; exact h1, h2⟩
theorem Rcs.ren {K : Fg} {M : Ms} (hf : ∀ i ∈ f, i < α.length) {vs : List V} {ss : List Cv} (h : Rcs K M H α vs ss) : ∀ {ts : List Cv}, RenVs f ss ts → Rcs K M H (pick f α) vs ts := by
  induction h with
  | nil => intro ts r; cases ts with
    | nil => exact .nil
    | cons _ _ => exact r.elim
  | cons a _ ih => intro ts r; cases ts with
    | nil => exact r.elim
    | cons _ _ => exact .cons (a.ren hf r.1) (ih r.2)
theorem Rfs.ren {κ : Type} {K : Fg} {M : Ms} (hf : ∀ i ∈ f, i < α.length) {vs : List (κ × V)} {ss : List (κ × Cv)} (h : Rfs K M H α vs ss) : ∀ {ts : List (κ × Cv)}, RenFs f ss ts → Rfs K M H (pick f α) vs ts := by
  induction h with
  | nil => intro ts r; cases ts with
    | nil => exact .nil
    | cons _ _ => exact r.elim
  | cons a _ ih => intro ts r; cases ts with
    | nil => exact r.elim
    | cons t _ =>
      obtain ⟨f', s'⟩ := t
      cases (show _ = _ from r.1)
      exact .cons (a.ren hf r.2.1) (ih r.2.2)
theorem Rc.mono {K : Fg} {M N : Ms} (s : ∀ a, a ∈ M.h → a ∈ N.h) {v : V} {t : Cv} (h : Rc K N H α v t) : Rc K M H α v t := by
  cases t with
  | d x => exact Da.mono s h
  | v x => exact h
  | c n => exact h
theorem Rcs.mono {K : Fg} {M N : Ms} (s : ∀ a, a ∈ M.h → a ∈ N.h) {v : List V} {t : List Cv} (h : Rcs K N H α v t) : Rcs K M H α v t := by
  induction h with
  | nil => exact .nil
  | cons a _ ih => exact .cons (a.mono s) ih
theorem Rfs.mono {κ : Type} {K : Fg} {M N : Ms} (s : ∀ a, a ∈ M.h → a ∈ N.h) {v : List (κ × V)} {t : List (κ × Cv)} (h : Rfs K N H α v t) : Rfs K M H α v t := by
  induction h with
  | nil => exact .nil
  | cons a _ ih => exact .cons (a.mono s) ih
theorem RenC.isF {c c' : Cell} (h : RenC f c c') : c.isF = c'.isF := by cases c <;> cases c' <;> first | rfl | exact h.elim
theorem CellAt.ren {M N : Ms} (hf : ∀ i ∈ f, i < α.length) (s : ∀ a, a ∈ M.h → a ∈ N.h) {a : Addr} {c c' : Cell} (h : CellAt k N H α a c) (r : RenC f c c') : CellAt k M H (pick f α) a c' := by
  cases c <;> cases c' <;> try exact r.elim
  · cases (show _ = _ from r)
    obtain ⟨xs, h1, h2⟩ := h
    exact ⟨xs, h1, Das.mono s h2⟩
  · obtain ⟨x, y, d, rfl, h3, h4⟩ := r
    obtain ⟨xs, h1, h2⟩ := h
    cases h2 with | cons a t => cases t with | cons b t => cases t with | cons c t => cases t; cases a; cases c; exact ⟨x, y, _, d, h1, Da.mono s b, h3, h4⟩
  · obtain ⟨xs, h1, h2⟩ := h
    exact ⟨xs, h1, (h2.mono s).ren hf r⟩
  · cases (show _ = _ from r)
    exact ⟨fun m => h.1 (s _ m), h.2.1, Da.mono s h.2.2⟩
  · obtain ⟨x, y, v, d, h1, h2, h3, h4, h5, h6⟩ := h
    obtain ⟨rfl, r⟩ := r
    exact ⟨x, y, v, d, h1, Da.mono s h2, h3, h4, h5, by omega⟩
  · obtain ⟨dx, vs, h1, h2⟩ := h
    cases (show _ = _ from r.1)
    exact ⟨dx, vs, h1, (h2.mono s).ren hf r.2⟩
  · obtain ⟨vs, h1, h2⟩ := h
    exact ⟨vs, h1, (h2.mono s).ren hf r⟩
theorem WkR.len : ∀ {ρ ρ' : Rv}, WkR f ρ ρ' → ρ.length = ρ'.length
  | [], [], _ => rfl
  | _ :: _, _ :: _, h => by rw [List.length_cons, List.length_cons, WkR.len h.2]
theorem WkR.get : ∀ {ρ ρ' : Rv}, WkR f ρ ρ' → ∀ {i : Nat} {t : Cv}, ρ'[i]? = some (some t) → ∃ s, ρ[i]? = some (some s) ∧ RenV f s t
  | [], [], _, i, t, e => by simp at e
  | a :: ρ, b :: ρ', h, 0, t, e => by
    simp at e; subst e
    cases a with
    | none => exact h.1.elim
    | some s => exact ⟨s, rfl, h.1⟩
  | a :: ρ, b :: ρ', h, i + 1, t, e => by
    obtain ⟨s, h1, h2⟩ := WkR.get h.2 (i := i) (by simpa using e)
    exact ⟨s, by simpa using h1, h2⟩
theorem wk_lt (r : Rep k B α C H) (w : WkC f C f C') : ∀ i ∈ f, i < α.length := fun i m => by
  obtain ⟨j, hj⟩ := List.getElem?_of_mem m
  obtain ⟨c, c', h1, _, _⟩ := w.get hj
  rw [r.len]; exact (List.getElem?_eq_some_iff.mp h1).1
theorem wk_live (r : Rep k B α C H) (w : WkC f C f C') : ∀ a, a ∈ live (pick f α) C' → a ∈ live α C := fun a m => by
  obtain ⟨j, c', h1, h2, h3⟩ := live_mem.mp m
  rw [pick_get (wk_lt r w)] at h1
  cases e : f[j]? with
  | none => rw [e] at h1; cases h1
  | some i =>
    rw [e] at h1
    obtain ⟨c, c2, q1, q2, q3⟩ := w.get e
    rw [h2] at q2
    cases q2
    exact live_mem.mpr ⟨i, c, h1, q1, by rw [q3.isF]; exact h3⟩
theorem wk_h (r : Rep k B α C H) (w : WkC f C f C') : ∀ a, a ∈ (ms B (pick f α) C').h → a ∈ (ms B α C).h := fun a m => ms_h.mpr ((ms_h.mp m).imp (wk_live r w a) id)
theorem Rep.ren (r : Rep k B α C H) (nd : f.Nodup) (w : WkC f C f C') : Rep k B (pick f α) C' H := by
  have lt := wk_lt r w
  have hs := wk_h r w
  refine ⟨by rw [pick_len lt, w.len], ?_, fun a m => ?_, fun a m => r.md a (hs a m), fun j a c' h1 h2 => ?_⟩
  · refine List.pairwise_iff_getElem.mpr fun i j hi hj hij e => ?_
    have h1 : (pick f α)[i]? = some (pick f α)[i] := List.getElem?_eq_getElem hi
    have h2 : (pick f α)[j]? = some (pick f α)[j] := List.getElem?_eq_getElem hj
    rw [pick_get lt] at h1 h2
    rw [← e] at h2
    cases e1 : f[i]? with
    | none => rw [e1] at h1; cases h1
    | some a =>
      cases e2 : f[j]? with
      | none => rw [e2] at h2; cases h2
      | some b =>
        rw [e1] at h1
        rw [e2] at h2
        have q := nd_ix r.nd h1 h2
        subst q
        have := nd_ix nd e1 e2
        omega
  · obtain ⟨i, _, h⟩ := List.mem_filterMap.mp m
    exact r.nb a (List.mem_of_getElem? h)
  · rw [pick_get lt] at h1
    cases e : f[j]? with
    | none => rw [e] at h1; cases h1
    | some i =>
      rw [e] at h1
      obtain ⟨c, c2, q1, q2, q3⟩ := w.get e
      rw [h2] at q2
      cases q2
      exact (r.at_ i a c h1 q1).ren lt hs q3
theorem En.ren (r : Rep k B α C H) (w : WkC f C f C') (e : En k B α C H σ ρ) (h : WkR f ρ ρ') : En k B (pick f α) C' H σ ρ' := ⟨e.1.trans h.len, fun i t q => by
  obtain ⟨s, h1, h2⟩ := h.get q
  obtain ⟨v, h3, h4⟩ := e.2 i s h1
  exact ⟨v, h3, (h4.mono (wk_h r w)).ren (wk_lt r w) h2⟩⟩
/-- from an earlier point on to the lesser knowledge -/
theorem To.wk {α0 : List Addr} {C0 : Cs} {H0 : Hp} {n0 : Nat} (t : To B α0 C0 H0 α C H) (hn : α0.length = n0) (r : Rep k B α C H) (w : Wk n0 f C C') : To B α0 C0 H0 (pick f α) C' H := by
  have lt := wk_lt r w.wk
  refine ⟨⟨fun a m => r.md a (wk_h r w.wk a m), t.st.go, fun a m => t.st.nw a (wk_live r w.wk a m)⟩, ?_⟩
  obtain ⟨e, rfl, hne⟩ := t.ex
  have e1 : f = List.range n0 ++ f.drop n0 := by rw [← w.fx, List.take_append_drop]
  have e2 : pick (List.range n0) (α0 ++ e) = α0 := by
    apply List.ext_getElem?
    intro j
    rw [pick_get (fun i m => by rw [List.length_append, hn]; have := List.mem_range.mp m; omega)]
    by_cases hj : j < n0
    · rw [List.getElem?_range hj]
      exact List.getElem?_append_left (by omega)
    · rw [List.getElem?_eq_none (by simp; omega), List.getElem?_eq_none (by omega)]; rfl
  refine ⟨pick (f.drop n0) (α0 ++ e), ?_, fun a m => ?_⟩
  · calc pick f (α0 ++ e) = pick (List.range n0 ++ f.drop n0) (α0 ++ e) := by rw [← e1]
      _ = pick (List.range n0) (α0 ++ e) ++ pick (f.drop n0) (α0 ++ e) := List.filterMap_append
      _ = _ := by rw [e2]
  · obtain ⟨i, hi, h⟩ := List.mem_filterMap.mp m
    have ni : n0 ≤ i := by
      refine Nat.le_of_not_lt fun q => ?_
      have nd := w.nd
      rw [e1] at nd
      exact (List.nodup_append.mp nd).2.2 i (List.mem_range.mpr q) i hi rfl
    rw [List.getElem?_append_right (by omega)] at h
    exact hne a (List.mem_of_getElem? h)
end
/-- by some lesser knowledge -/
@[irreducible] def wkn (n0 : Nat) (r : Rv) (c : Cs) (K : Rv → Cs → Prop) : Prop := ∃ f r' c', Wk n0 f c c' ∧ WkR f r r' ∧ K r' c'

/-! ### statements -/
structure Pt where
  N : Rv → Cs → Prop
  R : Cv → Cs → Prop
  B : Rv → Cs → Prop
  C : Rv → Cs → Prop
structure Ks (k : Kx) (B α : List Addr) (C : Cs) (H : Hp) (P : Pt) (D : Ends) : Prop where
  nx : ∀ σ' H' ρ' α' C', To B α C H α' C' H' → Rep k B α' C' H' → En k B α' C' H' σ' ρ' → P.N ρ' C' → D.nx σ' H'
  rt : ∀ v H' s α' C', To B α C H α' C' H' → Rep k B α' C' H' → Rc k.K (ms B α' C') H' α' v s → P.R s C' → D.rt v H'
  bk : ∀ σ' H' ρ' α' C', To B α C H α' C' H' → Rep k B α' C' H' → En k B α' C' H' σ' ρ' → P.B ρ' C' → D.bk σ' H'
  ct : ∀ σ' H' ρ' α' C', To B α C H α' C' H' → Rep k B α' C' H' → En k B α' C' H' σ' ρ' → P.C ρ' C' → D.ct σ' H'
theorem Ks.to {k : Kx} {B α α' : List Addr} {C C' : Cs} {H H' : Hp} {P : Pt} {D : Ends} (d : Ks k B α C H P D) (t : To B α C H α' C' H') : Ks k B α' C' H' P D :=
  ⟨fun σ2 H2 ρ2 α2 C2 t2 => d.nx σ2 H2 ρ2 α2 C2 (t.trans t2), fun v H2 s α2 C2 t2 => d.rt v H2 s α2 C2 (t.trans t2), fun σ2 H2 ρ2 α2 C2 t2 => d.bk σ2 H2 ρ2 α2 C2 (t.trans t2), fun σ2 H2 ρ2 α2 C2 t2 => d.ct σ2 H2 ρ2 α2 C2 (t.trans t2)⟩
structure XS where
  ts : Kx → WX → TS
  wp : Xp → Rv → Cs → Pt → Prop
  ok : ∀ {k B α C H σ ρ W X P D}, Wd k B α C H σ ρ W X → wp X ρ C P → Ks k B α C H P D → ts k W D σ H
theorem wkn_mono {n0 : Nat} {r : Rv} {c : Cs} {K K' : Rv → Cs → Prop} (h : wkn n0 r c K) (k : ∀ r c, K r c → K' r c) : wkn n0 r c K' := by
  unfold wkn at h ⊢
  obtain ⟨f, r', c', w, wr, q⟩ := h
  exact ⟨f, r', c', w, wr, k _ _ q⟩
def xsSeq (a b : XS) : XS where
  ts k W := tSeq (a.ts k W) (b.ts k W)
  wp X ρ C P := ∃ Mid : Rv → Cs → Prop, a.wp X ρ C ⟨Mid, P.R, P.B, P.C⟩ ∧ ∀ ρ' C', Mid ρ' C' → b.wp X ρ' C' P ∨ wkn C.length ρ' C' fun r c => b.wp X r c P
  ok {k B α C H σ ρ W X P D} w h d := by
    obtain ⟨Mid, h1, h2⟩ := h
    refine a.ok w h1 ⟨fun σ' H' ρ' α' C' t r e p => ?_, d.rt, d.bk, d.ct⟩
    rcases h2 ρ' C' p with p | p
    · exact b.ok ((w.to t r).slots e) p (d.to t)
    · unfold wkn at p
      obtain ⟨f, r2, c2, wk, wr, p⟩ := p
      have t2 := t.wk w.rep.len r wk
      have r3 := r.ren wk.nd wk.wk
      exact b.ok ((w.to t2 r3).slots (e.ren r wk.wk wr)) p (d.to t2)
def xsNext : XS where
  ts _ _ := tNext
  wp X ρ C P := P.N ρ C
  ok w h d := d.nx _ _ _ _ _ w.rep.refl w.rep w.en h
def xsBreak : XS where
  ts _ _ := tBreak
  wp X ρ C P := P.B ρ C
  ok w h d := d.bk _ _ _ _ _ w.rep.refl w.rep w.en h
def xsCont : XS where
  ts _ _ := tCont
  wp X ρ C P := P.C ρ C
  ok w h d := d.ct _ _ _ _ _ w.rep.refl w.rep w.en h
def xsAsg (a : XE) (g : XG) : XS where
  ts k W := tAsg (a.te k W) (g.tg k)
  wp X ρ C P := a.wp X ρ C fun s C1 => g.wp C1 s ρ fun ρ1 => P.N ρ1 C1
  ok w h d := a.ok w h fun v H1 s α1 C1 t1 r1 c1 p1 => g.ok r1 c1 (w.en.to t1) p1 fun σ' ρ' e _ _ p => d.nx σ' H1 ρ' α1 C1 t1 r1 e p
def xsRet (a : XE) : XS where
  ts k W := tRet (a.te k W)
  wp X ρ C P := a.wp X ρ C P.R
  ok w h d := a.ok w h d.rt
def xsRetN : XS where
  ts _ _ := tRetN
  wp X ρ C P := P.R (.d .none) C
  ok w h d := d.rt .non _ (.d .none) _ _ w.rep.refl w.rep Dq.non h
def xsDrop (a : XE) : XS where
  ts k W := tDrop (a.te k W)
  wp X ρ C P := a.wp X ρ C fun _ C1 => P.N ρ C1
  ok w h d := a.ok w h fun v H1 s α1 C1 t1 r1 c1 p1 => d.nx _ H1 _ α1 C1 t1 r1 (w.en.to t1) p1
def xsIf (c : XT) (a b : XS) : XS where
  ts k W := tIfS (c.tt k W) (a.ts k W) (b.ts k W)
  wp X ρ C P := c.wp X ρ C fun x C1 => (x = true → a.wp X ρ C1 P) ∧ (x = false → b.wp X ρ C1 P)
  ok w h d := c.ok w h fun x H1 α1 C1 t1 r1 p1 => by
    cases x with
    | true => exact a.ok (w.to t1 r1) (p1.1 rfl) (d.to t1)
    | false => exact b.ok (w.to t1 r1) (p1.2 rfl) (d.to t1)
/-- a, b = x, y -/
def two (ss : List Cv) (K : Cv → Cv → Prop) : Prop := match ss with
  | [a, b] => K a b
  | _ => False
def three (ss : List Cv) (K : Cv → Cv → Cv → Prop) : Prop := match ss with
  | [a, b, c] => K a b c
  | _ => False
def xsPar (i j : Nat) (a : XA) : XS where
  ts k W := tPar i j (a.ta k W)
  wp X ρ C P := a.wp X ρ C fun ss C1 => two ss fun s t => P.N ((ρ.set i (some s)).set j (some t)) C1
  ok w h d := a.ok w h fun vs H1 ss α1 C1 t1 r1 c1 p1 => by
    cases c1 with
    | nil => exact p1.elim
    | cons c1 c2 =>
      cases c2 with
      | nil => exact p1.elim
      | cons c2 c3 =>
        cases c3 with
        | cons _ _ => exact p1.elim
        | nil => exact ⟨_, _, rfl, d.nx _ H1 _ α1 C1 t1 r1 (((w.en.to t1).set c1).set c2) p1⟩
def xsPar3 (i j l : Nat) (a : XA) : XS where
  ts k W := tPar3 i j l (a.ta k W)
  wp X ρ C P := a.wp X ρ C fun ss C1 => three ss fun s t u => P.N (((ρ.set i (some s)).set j (some t)).set l (some u)) C1
  ok w h d := a.ok w h fun vs H1 ss α1 C1 t1 r1 c1 p1 => by
    cases c1 with
    | nil => exact p1.elim
    | cons c1 c2 =>
      cases c2 with
      | nil => exact p1.elim
      | cons c2 c3 =>
        cases c3 with
        | nil => exact p1.elim
        | cons c3 c4 =>
          cases c4 with
          | cons _ _ => exact p1.elim
          | nil => exact ⟨_, _, _, rfl, d.nx _ H1 _ α1 C1 t1 r1 ((((w.en.to t1).set c1).set c2).set c3) p1⟩
/-! ### loops -/
def forWr (g : XG) (body : XS) (X : Xp) (keep : Cs → Prop) (n0 : Nat) : List Cv → Rv → Cs → Pt → Prop
  | [], ρ, C, P => keep C ∧ P.N ρ C
  | s :: ds, ρ, C, P => keep C ∧ g.wp C s ρ fun ρ2 => body.wp X ρ2 C ⟨fun r c => wkn n0 r c fun r' c' => forWr g body X keep n0 ds r' c' P, P.R, P.N, fun r c => wkn n0 r c fun r' c' => forWr g body X keep n0 ds r' c' P⟩
@[irreducible] def forW (g : XG) (body : XS) (X : Xp) (keep : Cs → Prop) (n0 : Nat) (ds : List Cv) (ρ : Rv) (C : Cs) (P : Pt) : Prop := forWr g body X keep n0 ds ρ C P
def xsFor (it : XI) (g : XG) (body : XS) : XS where
  ts k W := tFor (it.wi k W) (g.tg k) (body.ts k W)
  wp X ρ C P := it.wp X ρ C fun ds keep C1 => forW g body X keep C1.length ds ρ C1 P
  ok {k B α C H σ ρ W X P D} w h d := it.ok w h fun J ds keep α1 C1 H1 t1 r1 p1 Y => by
    unfold forW at p1
    have w1 := w.to t1 r1
    have hn : α1.length = C1.length := r1.len
    refine ⟨fun i m σ' H' => m = ds.length - i ∧ i ≤ ds.length ∧ ∃ ρ' α' C', To B α1 C1 H1 α' C' H' ∧ Rep k B α' C' H' ∧ En k B α' C' H' σ' ρ' ∧ forWr g body X keep C1.length (ds.drop i) ρ' C' P, ⟨ds.length, by simp, Nat.zero_le _, ρ, α1, C1, r1.refl, r1, w1.en, p1⟩, ?_⟩
    rintro i m σ' H' ⟨rfl, hi, ρ', α', C', t', r', e', f'⟩
    by_cases hlt : i < ds.length
    · have hd := List.getElem?_eq_getElem hlt
      rw [List.drop_eq_getElem_cons hlt] at f'
      obtain ⟨kp, gw⟩ := f'
      obtain ⟨y1, y2⟩ := Y B α' C' H' t'.em r' kp
      obtain ⟨go, yy⟩ := y1 i _ hd
      refine .inr ⟨go, fun σ2 H2 => i + 1 ≤ ds.length ∧ ∃ ρ2 α2 C2, To B α1 C1 H1 α2 C2 H2 ∧ Rep k B α2 C2 H2 ∧ En k B α2 C2 H2 σ2 ρ2 ∧ forWr g body X keep C1.length (ds.drop (i + 1)) ρ2 C2 P, fun σ2 H2 q => ⟨ds.length - (i + 1), by omega, rfl, q⟩, fun x H'' hy => ?_⟩
      obtain ⟨xx, cx⟩ := yy x H'' hy
      have t2 : To B α1 C1 H1 α' C' H'' := t'.trans (r'.ex xx)
      have r2 := r'.keep xx
      refine g.ok r2 cx (e'.to (r'.ex xx)) gw fun σ3 ρ3 e3 _ _ bw => ?_
      have wkn_ : ∀ σ4 H4 ρ4 α4 C4, To B α' C' H'' α4 C4 H4 → Rep k B α4 C4 H4 → En k B α4 C4 H4 σ4 ρ4 → (wkn C1.length ρ4 C4 fun r' c' => forWr g body X keep C1.length (ds.drop (i + 1)) r' c' P) →
          i + 1 ≤ ds.length ∧ ∃ ρ2 α2 C2, To B α1 C1 H1 α2 C2 H4 ∧ Rep k B α2 C2 H4 ∧ En k B α2 C2 H4 σ4 ρ2 ∧ forWr g body X keep C1.length (ds.drop (i + 1)) ρ2 C2 P := by
        intro σ4 H4 ρ4 α4 C4 t4 r4 e4 hq
        unfold wkn at hq
        obtain ⟨f, ρ5, C5, wk, wr, q⟩ := hq
        exact ⟨hlt, ρ5, _, C5, (t2.trans t4).wk hn r4 wk, r4.ren wk.nd wk.wk, e4.ren r4 wk.wk wr, q⟩
      refine body.ok ((w1.to t2 r2).slots e3) bw ⟨wkn_, fun v H4 s α4 C4 t4 => d.rt v H4 s α4 C4 ((t1.trans t2).trans t4), fun σ4 H4 ρ4 α4 C4 t4 => d.nx σ4 H4 ρ4 α4 C4 ((t1.trans t2).trans t4), wkn_⟩
    · have e : i = ds.length := by omega
      subst e
      rw [List.drop_length] at f'
      obtain ⟨kp, fin⟩ := f'
      obtain ⟨y1, y2⟩ := Y B α' C' H' t'.em r' kp
      exact .inl ⟨y2, d.nx σ' H' ρ' α' C' (t1.trans t') r' e' fin⟩
def whileWr (c : XT) (body : XS) (X : Xp) (n0 : Nat) : Nat → Rv → Cs → Pt → Prop
  | 0, _, _, _ => False
  | n + 1, ρ, C, P => c.wp X ρ C fun b C1 => (b = true → body.wp X ρ C1 ⟨fun r c' => wkn n0 r c' fun r' c' => whileWr c body X n0 n r' c' P, P.R, P.N, fun r c' => wkn n0 r c' fun r' c' => whileWr c body X n0 n r' c' P⟩) ∧ (b = false → P.N ρ C1)
@[irreducible] def whileW (c : XT) (body : XS) (X : Xp) (n0 : Nat) (ρ : Rv) (C : Cs) (P : Pt) : Prop := ∃ n, whileWr c body X n0 n ρ C P
def xsWhile (c : XT) (body : XS) : XS where
  ts k W := tWhile (c.tt k W) (body.ts k W)
  wp X ρ C P := whileW c body X C.length ρ C P
  ok {k B α C H σ ρ W X P D} w h d := by
    unfold whileW at h
    obtain ⟨n, h⟩ := h
    refine ⟨fun m σ' H' => ∃ ρ' α' C', To B α C H α' C' H' ∧ Rep k B α' C' H' ∧ En k B α' C' H' σ' ρ' ∧ whileWr c body X C.length m ρ' C' P, ⟨n, ρ, α, C, w.rep.refl, w.rep, w.en, h⟩, ?_⟩
    rintro m σ' H' ⟨ρ', α', C', t', r', e', h'⟩
    cases m with
    | zero => exact h'.elim
    | succ m =>
      refine c.ok ((w.to t' r').slots e') h' fun b H1 α1 C1 t1 r1 p1 => ?_
      have t2 := t'.trans t1
      cases b with
      | false =>
        rw [if_neg Bool.false_ne_true]
        exact d.nx σ' H1 ρ' α1 C1 t2 r1 (e'.to t1) (p1.2 rfl)
      | true =>
        rw [if_pos rfl]
        have wkn_ : ∀ σ4 H4 ρ4 α4 C4, To B α1 C1 H1 α4 C4 H4 → Rep k B α4 C4 H4 → En k B α4 C4 H4 σ4 ρ4 → (wkn C.length ρ4 C4 fun r' c' => whileWr c body X C.length m r' c' P) →
            ∃ ρ2 α2 C2, To B α C H α2 C2 H4 ∧ Rep k B α2 C2 H4 ∧ En k B α2 C2 H4 σ4 ρ2 ∧ whileWr c body X C.length m ρ2 C2 P := by
          intro σ4 H4 ρ4 α4 C4 t4 r4 e4 hq
          unfold wkn at hq
          obtain ⟨f, ρ5, C5, wk, wr, q⟩ := hq
          exact ⟨ρ5, _, C5, (t2.trans t4).wk w.rep.len r4 wk, r4.ren wk.nd wk.wk, e4.ren r4 wk.wk wr, q⟩
        refine ⟨fun σ2 H2 => ∃ ρ2 α2 C2, To B α C H α2 C2 H2 ∧ Rep k B α2 C2 H2 ∧ En k B α2 C2 H2 σ2 ρ2 ∧ whileWr c body X C.length m ρ2 C2 P, fun σ2 H2 q => ⟨m, Nat.lt_succ_self m, q⟩, ?_⟩
        exact body.ok ((w.to t2 r1).slots (e'.to t1)) (p1.1 rfl) ⟨wkn_, fun v H4 s α4 C4 t4 => d.rt v H4 s α4 C4 (t2.trans t4), fun σ4 H4 ρ4 α4 C4 t4 => d.nx σ4 H4 ρ4 α4 C4 (t2.trans t4), wkn_⟩
/-! ### comprehensions -/
def compWr (g : XG) (c : XT) (e : XE) (vs : List Nat) (X : Xp) (keep : Cs → Prop) : List Cv → Rv → Cs → List PyData → (List PyData → Cs → Prop) → Prop
  | [], _, C, acc, P => keep C ∧ P acc C
  | s :: ds, ρ, C, acc, P => keep C ∧ g.wp C s (wipeV ρ vs) fun ρ2 => c.wp X ρ2 C fun b C1 => (b = true → e.wp X ρ2 C1 fun t C2 => fz C2 t fun d C3 => compWr g c e vs X keep ds ρ C3 (acc ++ [d]) P) ∧ (b = false → compWr g c e vs X keep ds ρ C1 acc P)
@[irreducible] def compW (g : XG) (c : XT) (e : XE) (vs : List Nat) (X : Xp) (keep : Cs → Prop) (ds : List Cv) (ρ : Rv) (C : Cs) (acc : List PyData) (U : List PyData → Cs → Prop) : Prop := compWr g c e vs X keep ds ρ C acc U
theorem wipe_back {σ σ' : L2.St} {vs ns : List Nat} (l : σ'.length = (L2.wipe σ vs).length) (f : ∀ i, i ∉ ns → σ'[i]? = (L2.wipe σ vs)[i]?) (s : ∀ i ∈ ns, i ∈ vs) : L2.wipe σ' vs = L2.wipe σ vs := by
  have l' : σ'.length = σ.length := l.trans (wipe_length σ vs)
  apply List.ext_getElem?
  intro k
  rw [wipe_get]
  by_cases m : k ∈ vs
  · rw [if_pos m, wipe_get, if_pos m]
    by_cases hk : k < σ.length
    · rw [List.getElem?_eq_getElem (by omega : k < σ'.length), List.getElem?_eq_getElem hk]; rfl
    · rw [List.getElem?_eq_none (by omega), List.getElem?_eq_none (by omega)]
  · rw [if_neg m]
    exact f k fun q => m (s k q)
/-- the walk of a comprehension; U: what becomes of the list at D -/
theorem comp_run {g : XG} {c : XT} {e : XE} {vs : List Nat} (hv : ∀ i ∈ g.ns, i ∈ vs) {it : XI} {k : Kx} {B α : List Addr} {C : Cs} {H : Hp} {σ : L2.St} {ρ : Rv} {W : WX} {X : Xp} {U : List PyData → Cs → Prop} {Q : VK} (w : Wd k B α C H σ ρ W X)
    (h : it.wp X ρ C fun ds keep C1 => ds.length ≤ 100000 ∧ compW g c e vs X keep ds ρ C1 [] U)
    (q : ∀ D α' C' H' ys acc, H D = none → To B α C H α' C' H' → Rep k (D :: B) α' C' H' → H' D = some (.lst ys) → Das k.K (ms (D :: B) α' C') H' ys acc → acc.length ≤ 100000 → U acc C' → Q (.ref D) H') :
    tLc (it.wi k W) (g.tg k) (c.tt k W) (e.te k W) vs σ H Q := by
  refine it.ok w h fun J ds keep α1 C1 H1 t1 r1 p1 Y D hD => ?_
  obtain ⟨hz, p1⟩ := p1
  unfold compW at p1
  have hD0 : H D = none := go_back t1.st.go hD
  have w1 := w.to t1 r1
  have r2 : Rep k (D :: B) α1 C1 (upd H1 D (.lst [])) := r1.bg hD
  have x2 : Ex H1 (upd H1 D (.lst [])) := Ex.new hD
  have t2 : To B α C H α1 C1 (upd H1 D (.lst [])) := t1.trans (r1.ex x2)
  have em2 : Em B α1 C1 H1 (D :: B) α1 C1 (upd H1 D (.lst [])) := em_bg hD
  refine ⟨fun i m H' => m = ds.length - i ∧ i ≤ ds.length ∧ ∃ α' C' ys acc, To B α C H α' C' H' ∧ Rep k (D :: B) α' C' H' ∧ Em B α1 C1 H1 (D :: B) α' C' H' ∧ H' D = some (.lst ys) ∧ Das k.K (ms (D :: B) α' C') H' ys acc ∧ acc.length ≤ i ∧ compWr g c e vs X keep (ds.drop i) ρ C' acc U,
    ⟨ds.length, by simp, Nat.zero_le _, α1, C1, [], [], t2, r2, em2, upd_same, .nil, Nat.le_refl _, p1⟩, ?_⟩
  rintro i m H' ⟨rfl, hi, α', C', ys, acc, t', r', em', hys, dys, hl, f'⟩
  by_cases hlt : i < ds.length
  · have hd := List.getElem?_eq_getElem hlt
    rw [List.drop_eq_getElem_cons hlt] at f'
    obtain ⟨kp, gw⟩ := f'
    obtain ⟨y1, y2⟩ := Y (D :: B) α' C' H' em' r' kp
    obtain ⟨go, yy⟩ := y1 i _ hd
    refine .inr ⟨go, fun H'' => i + 1 ≤ ds.length ∧ ∃ α' C' ys acc, To B α C H α' C' H'' ∧ Rep k (D :: B) α' C' H'' ∧ Em B α1 C1 H1 (D :: B) α' C' H'' ∧ H'' D = some (.lst ys) ∧ Das k.K (ms (D :: B) α' C') H'' ys acc ∧ acc.length ≤ i + 1 ∧ compWr g c e vs X keep (ds.drop (i + 1)) ρ C' acc U,
      fun H'' z => ⟨ds.length - (i + 1), by omega, rfl, z⟩, fun x H'' hy => ?_⟩
    obtain ⟨xx, cx⟩ := yy x H'' hy
    have tx : To (D :: B) α' C' H' α' C' H'' := r'.ex xx
    have t3 : To B α C H α' C' H'' := t'.comp tx
    have r3 := r'.keep xx
    have en3 : En k (D :: B) α' C' H'' (L2.wipe σ vs) (wipeV ρ vs) := ((w1.en.em em').to tx).wipe vs
    refine g.ok r3 cx en3 gw fun σ3 ρ3 e3 l3 f3 cw => ⟨wipe_back l3 f3 hv, ?_⟩
    have w3 : Wd k (D :: B) α' C' H'' σ3 ρ3 W X := ⟨r3, e3, fun cls d H5 x5 α5 C5 σ5 ρ5 t5 r5 xa5 e5 q5 =>
      w.ca cls d H5 x5 α5 C5 σ5 ρ5 (t3.comp t5) r5.unbg (xa5.em em_unbg (fun _ _ h => h)) (e5.em em_unbg) q5⟩
    refine c.ok w3 cw fun b H4 α4 C4 t4 r4 p4 => ?_
    have em4 : Em B α1 C1 H1 (D :: B) α4 C4 H4 := (em'.trans tx.em).trans t4.em
    have Dn : ∀ {α5 C5 H5 α6 C6 H6}, Rep k (D :: B) α5 C5 H5 → To (D :: B) α5 C5 H5 α6 C6 H6 → H5 D = some (.lst ys) → H6 D = some (.lst ys) := fun {α5 C5 H5 α6 C6 H6} r5 t5 h5 => t5.st.go.1 D _ (fun mm => r5.nb D (live_sub mm) List.mem_cons_self) h5
    have hD4 := Dn r3 t4 (xx D _ hys)
    cases b with
    | true =>
      rw [if_pos rfl]
      refine e.ok (w3.to t4 r4) (p4.1 rfl) fun y H5 s5 α5 C5 t5 r5 c5 p5 => ?_
      obtain ⟨dd, C6, r6, t6, d6, p6⟩ := fz_da r5 c5 p5
      have hD5 := Dn r4 t5 hD4
      have ll : ys.length ≤ 100000 := by rw [Das.len dys]; omega
      have tt : To (D :: B) α' C' H' α5 C6 H5 := (tx.trans t4).trans (t5.trans t6)
      refine ⟨ys, hD5, Nat.lt_of_le_of_lt ll (by decide), hlt, α5, C6, ys ++ [y], acc ++ [dd], ?_, r6.bgput, ?_, upd_same, ?_, ?_, p6⟩
      · have tb := t'.comp tt
        have nD : D ∉ live α C := fun mm => by obtain ⟨o, ho⟩ := w.rep.md D (ms_h.mpr (.inl mm)); rw [hD0] at ho; cases ho
        refine ⟨⟨fun a m => ?_, ⟨fun a o n h => ?_, fun a o h => ?_⟩, fun a m => tb.st.nw a m⟩, tb.ex⟩
        · by_cases qa : a = D
          · subst qa; exact ⟨_, upd_same⟩
          · obtain ⟨o, ho⟩ := tb.st.md a m
            exact ⟨o, by rw [upd_ne qa]; exact ho⟩
        · have qa : a ≠ D := fun z => by rw [z, hD0] at h; cases h
          rw [upd_ne qa]; exact tb.st.go.1 a o n h
        · have qa : a ≠ D := fun z => by rw [z, hD0] at h; cases h
          obtain ⟨o', ho⟩ := tb.st.go.2 a o h
          exact ⟨o', by rw [upd_ne qa]; exact ho⟩
      · exact (em'.trans tt.em).trans em_put
      · exact dps_ex em_put.hid _ _ (Das.app (dps_ex tt.hid _ _ dys) (.cons d6 .nil))
      · rw [List.length_append]; simpa using hl
    | false =>
      rw [if_neg Bool.false_ne_true]
      have tt : To (D :: B) α' C' H' α4 C4 H4 := tx.trans t4
      exact ⟨hlt, α4, C4, ys, acc, t'.comp tt, r4, em'.trans tt.em, hD4, dps_ex tt.hid _ _ dys, by omega, p4.2 rfl⟩
  · have ei : i = ds.length := by omega
    subst ei
    rw [List.drop_length] at f'
    obtain ⟨kp, fin⟩ := f'
    obtain ⟨y1, y2⟩ := Y (D :: B) α' C' H' em' r' kp
    exact .inl ⟨y2, q D α' C' H' ys acc hD0 t' r' hys dys (by omega) fin⟩
def subB (a b : List Nat) : Bool := a.all fun i => b.contains i
theorem subB_of {a b : List Nat} (h : subB a b = true) : ∀ i ∈ a, i ∈ b := fun i m => by
  have := List.all_eq_true.mp h i m
  simpa using this
/-- as data -/
def xLc (it : XI) (g : XG) (c : XT) (e : XE) (vs : List Nat) : XE where
  te k W := tLc (it.wi k W) (g.tg k) (c.tt k W) (e.te k W) vs
  wp X ρ C P := subB g.ns vs = true ∧ it.wp X ρ C fun ds keep C1 => ds.length ≤ 100000 ∧ compW g c e vs X keep ds ρ C1 [] fun acc C2 => P (.d (.list acc)) C2
  ok w h q := comp_run (subB_of h.1) w h.2 fun D α' C' H' ys acc hD t' r' hys dys hl p => by
    have nD : D ∉ (ms _ α' C').h := fun m => by
      rcases ms_h.mp m with m | m
      · exact r'.nb D (live_sub m) List.mem_cons_self
      · obtain ⟨o, ho⟩ := w.rep.md D (ms_h.mpr (.inr m)); rw [hD] at ho; cases ho
    exact q _ H' (.d (.list acc)) α' C' t' r'.unbg (Da.lst nD hys (Das.mono (fun a m => ms_h_bg.mpr (.inr m)) dys)) p
/-- to be changed -/
def xLcC (it : XI) (g : XG) (c : XT) (e : XE) (vs : List Nat) : XE where
  te k W := tLc (it.wi k W) (g.tg k) (c.tt k W) (e.te k W) vs
  wp X ρ C P := subB g.ns vs = true ∧ it.wp X ρ C fun ds keep C1 => ds.length ≤ 100000 ∧ compW g c e vs X keep ds ρ C1 [] fun acc C2 => P (.c C2.length) (C2 ++ [.lst acc])
  ok {k B α C H σ ρ W X P Q} w h q := comp_run (subB_of h.1) w h.2 fun D α' C' H' ys acc hD t' r' hys dys hl p => by
    have nB : D ∉ B := fun m => by obtain ⟨o, ho⟩ := w.rep.md D (ms_h.mpr (.inr m)); rw [hD] at ho; cases ho
    have nα : D ∉ α' := fun m => r'.nb D m List.mem_cons_self
    have lv : live (α' ++ [D]) (C' ++ [.lst acc]) = live α' C' ++ [D] := by
      rw [live_app r'.len]
      have e : live [D] [Cell.lst acc] = if (Cell.lst acc).isF then live [] [] else D :: live [] [] := by rw [live]
      rw [e]; rfl
    have hh : ∀ a, a ∈ (ms B (α' ++ [D]) (C' ++ [.lst acc])).h ↔ a ∈ (ms (D :: B) α' C').h := fun a => by
      rw [ms_h_bg, ms_h, ms_h, lv, List.mem_append, List.mem_singleton]
      constructor
      · rintro ((h | h) | h)
        · exact .inr (.inl h)
        · exact .inl h
        · exact .inr (.inr h)
      · rintro (h | h | h)
        · exact .inl (.inr h)
        · exact .inl (.inl h)
        · exact .inr h
    have em : Em (D :: B) α' C' H' B (α' ++ [D]) (C' ++ [.lst acc]) H' := ⟨hid_mono (fun a m => (hh a).mp m) H', [D], rfl⟩
    have t2 : To B α C H (α' ++ [D]) (C' ++ [.lst acc]) H' := ⟨⟨fun a m => r'.md a ((hh a).mp m), t'.st.go, fun a m => by
      have m : a ∈ live (α' ++ [D]) (C' ++ [.lst acc]) := m
      rw [lv] at m
      rcases List.mem_append.mp m with m | m
      · exact t'.st.nw a m
      · exact .inr (by rw [List.mem_singleton.mp m]; exact hD)⟩, by
      obtain ⟨f, hf, hn⟩ := t'.ex
      exact ⟨f ++ [D], by rw [hf, List.append_assoc], fun a m => by
        rcases List.mem_append.mp m with m | m
        · exact hn a m
        · rw [List.mem_singleton.mp m]; exact hD⟩⟩
    have r2 : Rep k B (α' ++ [D]) (C' ++ [.lst acc]) H' := by
      refine ⟨by simp [r'.len], List.nodup_append.mpr ⟨r'.nd, by simp, fun a m b m' => by rw [List.mem_singleton.mp m']; exact fun z => nα (z ▸ m)⟩, fun a m => ?_, fun a m => r'.md a ((hh a).mp m), fun j b cc q1 q2 => ?_⟩
      · rcases List.mem_append.mp m with m | m
        · exact fun z => r'.nb a m (List.mem_cons_of_mem _ z)
        · rw [List.mem_singleton.mp m]; exact nB
      · by_cases hj : j < α'.length
        · rw [List.getElem?_append_left hj] at q1
          rw [List.getElem?_append_left (by rw [← r'.len]; exact hj)] at q2
          exact (r'.at_ j b cc q1 q2).em em rfl fun f m => r'.frz_not q1 q2 f ((hh b).mp m)
        · have hj2 : j = α'.length := by
            have := (List.getElem?_eq_some_iff.mp q1).1
            simp at this; omega
          subst hj2
          rw [List.getElem?_append_right (Nat.le_refl _), Nat.sub_self] at q1
          rw [r'.len, List.getElem?_append_right (Nat.le_refl _), Nat.sub_self] at q2
          cases q1
          cases q2
          exact ⟨ys, hys, dps_ex em.hid _ _ dys⟩
    exact q _ H' (.c C'.length) _ _ t2 r2 (Rc.last r'.unbg) p
end DL
set_option maxRecDepth 100000
namespace DL
open PySem L2

/-! ### a call sees the cells that it is handed -/
abbrev Pw := List Cv → Cs → (Cv → Cs → Prop) → (Xc → Cs → Prop) → Prop
def backV (f : List Nat) (N : Nat) : Cv → Cv
  | .c j => .c (match f[j]? with
    | some i => i
    | none => N + (j - f.length))
  | s => s
def backF {κ : Type} (f : List Nat) (N : Nat) (p : κ × Cv) : κ × Cv := (p.1, backV f N p.2)
def backC (f : List Nat) (N : Nat) : Cell → Cell
  | .rfs xs => .rfs (xs.map (backV f N))
  | .obj c fs => .obj c (fs.map (backF f N))
  | .dk es => .dk (es.map (backF f N))
  | c => c
def setAll (g : Cell → Cell) : List Nat → Cs → Cs → Cs
  | i :: f, c :: C', C => setAll g f C' (C.set i (g c))
  | _, _, C => C
def backCs (f : List Nat) (C C' : Cs) : Cs := setAll (backC f C.length) f C' C ++ (C'.drop f.length).map (backC f C.length)
def backX (f : List Nat) (N : Nat) (x : Xc) : Xc := ⟨x.cn, x.fs.map (backF f N)⟩
@[irreducible] def callW (A : Pw) (X : Xc → Cs → Prop) (C : Cs) (ss : List Cv) (P : Cv → Cs → Prop) : Prop :=
  ∃ f C0 ss', f.Nodup ∧ WkC f C f C0 ∧ RenVs f ss ss' ∧ A ss' C0 (fun s C' => P (backV f C.length s) (backCs f C C')) fun x C' => X (backX f C.length x) (backCs f C C')
section
variable {k : Kx} {B B' α α1 : List Addr} {C C0 C1 : Cs} {H H1 : Hp} {f : List Nat}
theorem isF_back {f : List Nat} {N : Nat} {c : Cell} : (backC f N c).isF = c.isF := by cases c <;> rfl
theorem setAll_len (g : Cell → Cell) : ∀ (f : List Nat) (C' C : Cs), (setAll g f C' C).length = C.length
  | i :: f, c :: C', C => by unfold setAll; rw [setAll_len g f C']; exact List.length_set
  | [], _, _ => by unfold setAll; rfl
  | _ :: _, [], _ => by unfold setAll; rfl
theorem setAll_out (g : Cell → Cell) : ∀ (f : List Nat) (C' C : Cs) (i : Nat), i ∉ f → (setAll g f C' C)[i]? = C[i]?
  | j :: f, c :: C', C, i, h => by
    unfold setAll
    rw [setAll_out g f C' _ i (fun m => h (List.mem_cons_of_mem _ m)), List.getElem?_set_ne (fun e => h (by rw [← e]; exact List.mem_cons_self))]
  | [], _, _, _, _ => by unfold setAll; rfl
  | _ :: _, [], _, _, _ => by unfold setAll; rfl
theorem setAll_in (g : Cell → Cell) : ∀ (f : List Nat) (C' C : Cs) (j i : Nat) (c : Cell), f.Nodup → f[j]? = some i → C'[j]? = some c → i < C.length → (setAll g f C' C)[i]? = some (g c)
  | i0 :: f, c0 :: C', C, 0, i, c, nd, h1, h2, hl => by
    simp at h1 h2
    subst h1; subst h2
    unfold setAll
    rw [setAll_out g f C' _ _ (List.nodup_cons.mp nd).1, List.getElem?_set_self hl]
  | i0 :: f, c0 :: C', C, j + 1, i, c, nd, h1, h2, hl => by
    unfold setAll
    exact setAll_in g f C' _ j i c (List.nodup_cons.mp nd).2 (by simpa using h1) (by simpa using h2) (by rw [List.length_set]; exact hl)
  | [], _, _, _, _, _, _, h1, _, _ => by simp at h1
  | _ :: _, [], _, _, _, _, _, _, h2, _ => by simp at h2
/-- what is not handed, aside -/
def aside (B α : List Addr) (C : Cs) (f : List Nat) : List Addr := (live α C).filter (fun a => !(pick f α).contains a) ++ B
theorem mem_aside {a : Addr} : a ∈ aside B α C f ↔ (a ∈ live α C ∧ a ∉ pick f α) ∨ a ∈ B := by
  unfold aside
  rw [List.mem_append, List.mem_filter]
  simp
theorem pick_mem (nd : α.Nodup) (lt : ∀ i ∈ f, i < α.length) {i : Nat} {a : Addr} (h : α[i]? = some a) : a ∈ pick f α ↔ i ∈ f := by
  constructor
  · intro m
    obtain ⟨j, hj, e⟩ := List.mem_filterMap.mp m
    rw [nd_ix nd h e]; exact hj
  · intro m
    exact List.mem_filterMap.mpr ⟨i, m, h⟩
theorem aside_h (r : Rep k B α C H) (w : WkC f C f C0) {a : Addr} : a ∈ (ms (aside B α C f) (pick f α) C0).h ↔ a ∈ (ms B α C).h := by
  rw [ms_h, ms_h, mem_aside]
  constructor
  · rintro (h | h | h)
    · exact .inl (wk_live r w a h)
    · exact .inl h.1
    · exact .inr h
  · rintro (h | h)
    · by_cases m : a ∈ pick f α
      · obtain ⟨i, c, h1, h2, h3⟩ := live_mem.mp h
        have hi := (pick_mem r.nd (wk_lt r w) h1).mp m
        obtain ⟨j, hj⟩ := List.getElem?_of_mem hi
        obtain ⟨c1, c', q1, q2, q3⟩ := w.get hj
        rw [h2] at q1
        cases q1
        exact .inl (live_mem.mpr ⟨j, c', by rw [pick_get (wk_lt r w), hj]; exact h1, q2, by rw [← q3.isF]; exact h3⟩)
      · exact .inr (.inl ⟨h, m⟩)
    · exact .inr (.inr h)
theorem Rep.hand (r : Rep k B α C H) (nd : f.Nodup) (w : WkC f C f C0) : Rep k (aside B α C f) (pick f α) C0 H := by
  have r1 := r.ren nd w
  refine ⟨r1.len, r1.nd, fun a m q => ?_, fun a m => r.md a ((aside_h r w).mp m), fun j a c' h1 h2 => ?_⟩
  · rcases mem_aside.mp q with q | q
    · exact q.2 m
    · exact r1.nb a m q
  · rw [pick_get (wk_lt r w)] at h1
    cases e : f[j]? with
    | none => rw [e] at h1; cases h1
    | some i =>
      rw [e] at h1
      obtain ⟨c, c2, q1, q2, q3⟩ := w.get e
      rw [h2] at q2
      cases q2
      exact (r.at_ i a c h1 q1).ren (wk_lt r w) (fun b m => (aside_h r w).mp m) q3
/-- what came of the call, among all cells -/
structure Back (k : Kx) (B α : List Addr) (C : Cs) (H : Hp) (f : List Nat) (α1 : List Addr) (C1 : Cs) (H1 : Hp) (α2 : List Addr) (C2 : Cs) : Prop where
  to : To B α C H α2 C2 H1
  rep : Rep k B α2 C2 H1
  hh : ∀ a, a ∈ (ms B α2 C2).h ↔ a ∈ (ms (aside B α C f) α1 C1).h
  ix : ∀ (j : Nat) a, α1[j]? = some a → α2[match f[j]? with
    | some i => i
    | none => C.length + (j - f.length)]? = some a
theorem back (r : Rep k B α C H) (nd : f.Nodup) (w : WkC f C f C0) (t : To (aside B α C f) (pick f α) C0 H α1 C1 H1) (r1 : Rep k (aside B α C f) α1 C1 H1) : ∃ α2, Back k B α C H f α1 C1 H1 α2 (backCs f C C1) := by
  obtain ⟨e, he, hne⟩ := t.ex
  have lt := wk_lt r w
  have pl : (pick f α).length = f.length := pick_len lt
  have l1 : C1.length = f.length + e.length := by rw [← r1.len, he, List.length_append, pl]
  have ls : (setAll (backC f C.length) f C1 C).length = C.length := setAll_len _ _ _ _
  have l2 : (backCs f C C1).length = C.length + e.length := by
    unfold backCs
    rw [List.length_append, ls, List.length_map, List.length_drop, l1]; omega
  -- the places
  have ix : ∀ (j : Nat) a, α1[j]? = some a → (α ++ e)[match f[j]? with
    | some i => i
    | none => C.length + (j - f.length)]? = some a := by
    intro j a h
    rw [he] at h
    cases q : f[j]? with
    | some i =>
      have hj : j < f.length := (List.getElem?_eq_some_iff.mp q).1
      rw [List.getElem?_append_left (by rw [pl]; exact hj), pick_get lt, q] at h
      show (α ++ e)[i]? = some a
      have h : α[i]? = some a := h
      rw [List.getElem?_append_left (List.getElem?_eq_some_iff.mp h).1]; exact h
    | none =>
      have hj : f.length ≤ j := List.getElem?_eq_none_iff.mp q
      rw [List.getElem?_append_right (by rw [pl]; exact hj), pl] at h
      show (α ++ e)[C.length + (j - f.length)]? = some a
      rw [List.getElem?_append_right (by rw [r.len]; omega), r.len, Nat.add_sub_cancel_left]; exact h
  have ci : ∀ (j : Nat) c, C1[j]? = some c → (backCs f C C1)[match f[j]? with
    | some i => i
    | none => C.length + (j - f.length)]? = some (backC f C.length c) := by
    intro j c h
    unfold backCs
    cases q : f[j]? with
    | some i =>
      have hi : i < C.length := by rw [← r.len]; exact lt i (List.mem_of_getElem? q)
      show (_ ++ _)[i]? = _
      rw [List.getElem?_append_left (by rw [ls]; exact hi)]
      exact setAll_in _ f C1 C j i c nd q h hi
    | none =>
      have hj : f.length ≤ j := List.getElem?_eq_none_iff.mp q
      show (_ ++ _)[C.length + (j - f.length)]? = _
      rw [List.getElem?_append_right (by rw [ls]; omega), ls, Nat.add_sub_cancel_left, List.getElem?_map, List.getElem?_drop, Nat.add_sub_cancel' hj, h]; rfl
  -- every cell is one of these, or stayed
  have cases_ : ∀ (i : Nat) a c, (α ++ e)[i]? = some a → (backCs f C C1)[i]? = some c → (i ∉ f ∧ α[i]? = some a ∧ C[i]? = some c) ∨ ∃ (j : Nat) (c1 : Cell), α1[j]? = some a ∧ C1[j]? = some c1 ∧ c = backC f C.length c1 := by
    intro i a c h1 h2
    by_cases hi : i < C.length
    · by_cases m : i ∈ f
      · obtain ⟨j, hj⟩ := List.getElem?_of_mem m
        have hjl : j < f.length := (List.getElem?_eq_some_iff.mp hj).1
        have hc : C1[j]? = some (C1[j]'(by omega)) := List.getElem?_eq_getElem _
        have q := ci j _ hc
        rw [hj] at q
        have q : (backCs f C C1)[i]? = _ := q
        rw [h2] at q
        have ha : α1[j]? = some (α1[j]'(by rw [r1.len]; omega)) := List.getElem?_eq_getElem _
        have q2 := ix j _ ha
        rw [hj] at q2
        have q2 : (α ++ e)[i]? = _ := q2
        rw [h1] at q2
        exact .inr ⟨j, _, by rw [ha]; exact q2.symm, hc, Option.some.inj q⟩
      · refine .inl ⟨m, ?_, ?_⟩
        · rw [List.getElem?_append_left (by rw [r.len]; exact hi)] at h1; exact h1
        · unfold backCs at h2
          rw [List.getElem?_append_left (by rw [ls]; exact hi), setAll_out _ f C1 C i m] at h2; exact h2
    · have hi2 : i < C.length + e.length := by rw [← l2]; exact (List.getElem?_eq_some_iff.mp h2).1
      have hc : C1[f.length + (i - C.length)]? = some (C1[f.length + (i - C.length)]'(by omega)) := List.getElem?_eq_getElem _
      have nf : f[f.length + (i - C.length)]? = none := List.getElem?_eq_none (by omega)
      have ei : C.length + (f.length + (i - C.length) - f.length) = i := by omega
      have q := ci _ _ hc
      rw [nf] at q
      have q : (backCs f C C1)[C.length + (f.length + (i - C.length) - f.length)]? = _ := q
      rw [ei, h2] at q
      have ha : α1[f.length + (i - C.length)]? = some (α1[f.length + (i - C.length)]'(by rw [r1.len]; omega)) := List.getElem?_eq_getElem _
      have q2 := ix _ _ ha
      rw [nf] at q2
      have q2 : (α ++ e)[C.length + (f.length + (i - C.length) - f.length)]? = _ := q2
      rw [ei, h1] at q2
      exact .inr ⟨_, _, by rw [ha]; exact q2.symm, hc, Option.some.inj q⟩
  have hh : ∀ a, a ∈ (ms B (α ++ e) (backCs f C C1)).h ↔ a ∈ (ms (aside B α C f) α1 C1).h := by
    intro a
    rw [ms_h, ms_h, mem_aside]
    constructor
    · rintro (h | h)
      · obtain ⟨i, c, h1, h2, h3⟩ := live_mem.mp h
        rcases cases_ i a c h1 h2 with ⟨m, q1, q2⟩ | ⟨j, c1, q1, q2, rfl⟩
        · exact .inr (.inl ⟨live_mem.mpr ⟨i, c, q1, q2, h3⟩, fun z => m ((pick_mem r.nd lt q1).mp z)⟩)
        · exact .inl (live_mem.mpr ⟨j, c1, q1, q2, by rw [isF_back] at h3; exact h3⟩)
      · exact .inr (.inr h)
    · rintro (h | h | h)
      · obtain ⟨j, c, h1, h2, h3⟩ := live_mem.mp h
        exact .inl (live_mem.mpr ⟨_, _, ix j a h1, ci j c h2, by rw [isF_back]; exact h3⟩)
      · obtain ⟨i, c, h1, h2, h3⟩ := live_mem.mp h.1
        have hi : i < C.length := (List.getElem?_eq_some_iff.mp h2).1
        have m : i ∉ f := fun z => h.2 ((pick_mem r.nd lt h1).mpr z)
        refine .inl (live_mem.mpr ⟨i, c, ?_, ?_, h3⟩)
        · rw [List.getElem?_append_left (List.getElem?_eq_some_iff.mp h1).1]; exact h1
        · unfold backCs
          rw [List.getElem?_append_left (by rw [ls]; exact hi), setAll_out _ f C1 C i m]; exact h2
      · exact .inr h
  have go : Go (ms B α C) H H1 := ⟨fun a o n h => t.st.go.1 a o (fun m => n (wk_live r w a m)) h, t.st.go.2⟩
  have to : To B α C H (α ++ e) (backCs f C C1) H1 := by
    refine ⟨⟨fun a m => r1.md a ((hh a).mp m), go, fun a m => ?_⟩, e, rfl, hne⟩
    obtain ⟨i, c, h1, h2, h3⟩ := live_mem.mp (show a ∈ live (α ++ e) (backCs f C C1) from m)
    rcases cases_ i a c h1 h2 with ⟨_, q1, q2⟩ | ⟨j, c1, q1, q2, rfl⟩
    · exact .inl (live_mem.mpr ⟨i, c, q1, q2, h3⟩)
    · rcases t.st.nw a (live_mem.mpr ⟨j, c1, q1, q2, by rw [isF_back] at h3; exact h3⟩) with q | q
      · exact .inl (wk_live r w a q)
      · exact .inr q
  refine ⟨α ++ e, to, ⟨by rw [l2, List.length_append, r.len], ?_, fun a m => ?_, fun a m => r1.md a ((hh a).mp m), fun i a c h1 h2 => ?_⟩, hh, ix⟩
  · refine List.nodup_append.mpr ⟨r.nd, ?_, fun a m b m' z => ?_⟩
    · have := r1.nd
      rw [he] at this
      exact (List.nodup_append.mp this).2.1
    · subst z
      -- a new place of the callee's stood nowhere
      obtain ⟨o, ho⟩ := r.there a m
      rw [hne a m'] at ho; cases ho
  · rcases List.mem_append.mp m with m | m
    · exact r.nb a m
    · exact fun z => r1.nb a (by rw [he]; exact List.mem_append_right _ m) (mem_aside.mpr (.inr z))
  · rcases cases_ i a c h1 h2 with ⟨m, q1, q2⟩ | ⟨j, c1, q1, q2, rfl⟩
    · have na : a ∉ live (pick f α) C0 := fun z => m ((pick_mem r.nd lt q1).mp (live_sub z))
      obtain ⟨o, ho⟩ := r.there a (List.mem_of_getElem? q1)
      refine (r.at_ i a c q1 q2).same to (by rw [t.st.go.1 a o na ho, ho]) fun hf z => ?_
      rcases to.st.nw a (by
        rcases ms_h.mp z with z | z
        · exact z
        · exact absurd z (r.nb a (List.mem_of_getElem? q1))) with z | z
      · exact r.frz_not q1 q2 hf (ms_h.mpr (.inl z))
      · rw [ho] at z; cases z
    · have bk : ∀ {v s}, Rc k.K (ms (aside B α C f) α1 C1) H1 α1 v s → Rc k.K (ms B (α ++ e) (backCs f C C1)) H1 (α ++ e) v (backV f C.length s) := fun {v s} h => by
        cases s with
        | d x => exact Da.mono (fun a m => (hh a).mp m) h
        | v x => exact h
        | c n =>
          obtain ⟨a, g1, g2⟩ := h
          exact ⟨a, ix n a g1, g2⟩
      have bks : ∀ {vs ss}, Rcs k.K (ms (aside B α C f) α1 C1) H1 α1 vs ss → Rcs k.K (ms B (α ++ e) (backCs f C C1)) H1 (α ++ e) vs (ss.map (backV f C.length)) := fun {vs ss} h => by
        induction h with
        | nil => exact .nil
        | cons a _ ih => exact .cons (bk a) ih
      have bkf : ∀ {κ : Type} {vs : List (κ × V)} {ss : List (κ × Cv)}, Rfs k.K (ms (aside B α C f) α1 C1) H1 α1 vs ss → Rfs k.K (ms B (α ++ e) (backCs f C C1)) H1 (α ++ e) vs (ss.map (backF f C.length)) := fun {κ vs ss} h => by
        induction h with
        | nil => exact .nil
        | cons a _ ih => exact .cons (bk a) ih
      have h := r1.at_ j a c1 q1 q2
      cases c1 with
      | lst ds =>
        obtain ⟨xs, g1, g2⟩ := h
        exact ⟨xs, g1, Das.mono (fun a m => (hh a).mp m) g2⟩
      | rfs ss =>
        obtain ⟨xs, g1, g2⟩ := h
        exact ⟨xs, g1, bks g2⟩
      | frz d => exact ⟨fun m => h.1 ((hh a).mp m), h.2.1, Da.mono (fun a m => (hh a).mp m) h.2.2⟩
      | box l n =>
        obtain ⟨x, y, v, d, g1, g2, g3⟩ := h
        exact ⟨x, y, v, d, g1, Da.mono (fun a m => (hh a).mp m) g2, g3⟩
      | obj cc fs =>
        obtain ⟨dx, vs, g1, g2⟩ := h
        exact ⟨dx, vs, g1, bkf g2⟩
      | dk es =>
        obtain ⟨vs, g1, g2⟩ := h
        exact ⟨vs, g1, bkf g2⟩
end
end DL
set_option maxRecDepth 100000
namespace DL
open PySem L2

/-! ### calls -/
def spW (k : Kx) (A : Pw) : Sp := fun vs H Q E => ∃ B α C ss R X, Rep k B α C H ∧ Rcs k.K (ms B α C) H α vs ss ∧ A ss C R X ∧
  (∀ v H' s α' C', To B α C H α' C' H' → Rep k B α' C' H' → Rc k.K (ms B α' C') H' α' v s → R s C' → Q v H') ∧
  (∀ cls d H' x α' C', To B α C H α' C' H' → Rep k B α' C' H' → XAt k (ms B α' C') H' α' cls d x → X x C' → E cls d H')
section
variable {k : Kx} {B α α1 α2 : List Addr} {C C1 C2 : Cs} {H H1 : Hp} {f : List Nat}
theorem Back.val (b : Back k B α C H f α1 C1 H1 α2 C2) {v : V} {s : Cv} (h : Rc k.K (ms (aside B α C f) α1 C1) H1 α1 v s) : Rc k.K (ms B α2 C2) H1 α2 v (backV f C.length s) := by
  cases s with
  | d x => exact Da.mono (fun a m => (b.hh a).mp m) h
  | v x => exact h
  | c n =>
    obtain ⟨a, g1, g2⟩ := h
    exact ⟨a, b.ix n a g1, g2⟩
theorem Back.flds (b : Back k B α C H f α1 C1 H1 α2 C2) {κ : Type} {vs : List (κ × V)} {ss : List (κ × Cv)} (h : Rfs k.K (ms (aside B α C f) α1 C1) H1 α1 vs ss) : Rfs k.K (ms B α2 C2) H1 α2 vs (ss.map (backF f C.length)) := by
  induction h with
  | nil => exact .nil
  | cons a _ ih => exact .cons (b.val a) ih
theorem Back.xat (b : Back k B α C H f α1 C1 H1 α2 C2) {cls : Value} {d : Option Addr} {x : Xc} (h : XAt k (ms (aside B α C f) α1 C1) H1 α1 cls d x) : XAt k (ms B α2 C2) H1 α2 cls d (backX f C.length x) := by
  refine ⟨h.1, ?_⟩
  rcases h.2 with ⟨h1, h2⟩ | ⟨dd, vs, h1, h2, h3⟩
  · exact .inl ⟨by show x.fs.map _ = []; rw [h1]; rfl, h2⟩
  · exact .inr ⟨dd, vs, h1, h2, b.flds h3⟩
end
theorem Rcs.app {K : Fg} {M : Ms} {H : Hp} {α : List Addr} {vs : List V} {ss : List Cv} (h : Rcs K M H α vs ss) {us : List V} {ts : List Cv} (g : Rcs K M H α us ts) : Rcs K M H α (vs ++ us) (ss ++ ts) := by
  induction h with
  | nil => exact g
  | cons a _ ih => exact .cons a ih
/-- a def is called; dvs its defaults -/
def xCallD (A : Pw) (dvs : List V) (dss : List Cv) (hd : ∀ K M H α, Rcs K M H α dvs dss) (a : XA) : XE where
  te k W := tCall (spW k A) dvs E0 (a.ta k W)
  wp X ρ C P := a.wp X ρ C fun ss C1 => callW A (fun _ _ => False) C1 (ss ++ dss) P
  ok w h q := a.ok w h fun vs H1 ss α1 C1 t1 r1 c1 p1 => by
    unfold callW at p1
    obtain ⟨f, C0, ss', nd, wk, rv, hA⟩ := p1
    refine ⟨aside _ α1 C1 f, pick f α1, C0, ss', _, _, r1.hand nd wk, ?_, hA, fun v H' s α' C' t r c p => ?_, fun _ _ _ _ _ _ _ _ _ z => z.elim⟩
    · exact Rcs.mono (fun a m => (aside_h r1 wk).mp m) ((c1.app (hd _ _ _ _)).ren (wk_lt r1 wk) rv)
    · obtain ⟨α2, bk⟩ := back r1 nd wk t r
      exact q v H' _ α2 _ (t1.trans bk.to) bk.rep (bk.val c) p
def xCall (A : Pw) (a : XA) : XE where
  te k W := tCall (spW k A) [] E0 (a.ta k W)
  wp X ρ C P := a.wp X ρ C fun ss C1 => callW A (fun _ _ => False) C1 ss P
  ok w h q := (xCallD A [] [] (fun _ _ _ _ => .nil) a).ok w (by
    have e : ∀ ss : List Cv, ss ++ [] = ss := List.append_nil
    show a.wp _ _ _ fun ss C1 => callW A (fun _ _ => False) C1 (ss ++ []) _
    simp only [e]
    exact h) q
/-! ### lists that change -/
def isC (s : Cv) (K : Nat → Prop) : Prop := match s with
  | .c n => K n
  | _ => False
def lstAt (C : Cs) (n : Nat) (K : List PyData → Prop) : Prop := match C[n]? with
  | some (.lst ds) => K ds
  | _ => False
def anyL (C : Cs) (n : Nat) (K : Prop) : Prop := match C[n]? with
  | some (.lst _) => K
  | some (.rfs _) => K
  | _ => False
section
variable {k : Kx} {B α : List Addr} {C : Cs} {H : Hp}
theorem isC_of {K : Fg} {M : Ms} {v : V} {s : Cv} (h : Rc K M H α v s) {P : Nat → Prop} (q : isC s P) : ∃ n a, s = .c n ∧ α[n]? = some a ∧ v = .ref a ∧ P n := by
  cases s with
  | c n => obtain ⟨a, h1, h2⟩ := h; exact ⟨n, a, rfl, h1, h2, q⟩
  | d x => exact q.elim
  | v x => exact q.elim
theorem lstAt_of (r : Rep k B α C H) {n : Nat} {a : Addr} (ha : α[n]? = some a) {P : List PyData → Prop} (q : lstAt C n P) : ∃ ds xs, C[n]? = some (.lst ds) ∧ H a = some (.lst xs) ∧ Das k.K (ms B α C) H xs ds ∧ P ds := by
  unfold lstAt at q
  cases e : C[n]? with
  | none => rw [e] at q; exact q.elim
  | some c =>
    rw [e] at q
    have h := r.at_ n a c ha e
    cases c with
    | lst ds => obtain ⟨xs, h1, h2⟩ := h; exact ⟨ds, xs, rfl, h1, h2, q⟩
    | rfs _ => exact q.elim
    | frz _ => exact q.elim
    | box _ _ => exact q.elim
    | obj _ _ => exact q.elim
    | dk _ => exact q.elim
theorem anyL_of (r : Rep k B α C H) {n : Nat} {a : Addr} (ha : α[n]? = some a) {P : Prop} (q : anyL C n P) : (∃ xs, H a = some (.lst xs)) ∧ P := by
  unfold anyL at q
  cases e : C[n]? with
  | none => rw [e] at q; exact q.elim
  | some c =>
    rw [e] at q
    have h := r.at_ n a c ha e
    cases c with
    | lst ds => obtain ⟨xs, h1, h2⟩ := h; exact ⟨⟨xs, h1⟩, q⟩
    | rfs _ => obtain ⟨xs, h1, h2⟩ := h; exact ⟨⟨xs, h1⟩, q⟩
    | frz _ => exact q.elim
    | box _ _ => exact q.elim
    | obj _ _ => exact q.elim
    | dk _ => exact q.elim
theorem ty_l {K : Fg} {a : Addr} (h : ∃ xs, H a = some (.lst xs)) : tyV K "list" (.ref a) H := by
  obtain ⟨xs, h⟩ := h
  exact Or.inl ⟨rfl, xs, Or.inl (Or.inl h)⟩
/-- a list is written -/
theorem Rep.putL (r : Rep k B α C H) {n : Nat} {a : Addr} {ds es : List PyData} {ys : List V} (ha : α[n]? = some a) (hc : C[n]? = some (.lst ds)) (h : Das k.K (ms B α C) H ys es) :
    Rep k B α (C.set n (.lst es)) (upd H a (.lst ys)) ∧ To B α C H α (C.set n (.lst es)) (upd H a (.lst ys)) :=
  r.put ha hc rfl rfl (fun b q => upd_ne q) ⟨_, upd_same⟩ fun t => ⟨ys, upd_same, dps_ex t.hid _ _ h⟩
theorem Rep.putR (r : Rep k B α C H) {n : Nat} {a : Addr} {ss ts : List Cv} {ys : List V} (ha : α[n]? = some a) (hc : C[n]? = some (.rfs ss)) (h : Rcs k.K (ms B α C) H α ys ts) :
    Rep k B α (C.set n (.rfs ts)) (upd H a (.lst ys)) ∧ To B α C H α (C.set n (.rfs ts)) (upd H a (.lst ys)) :=
  r.put ha hc rfl rfl (fun b q => upd_ne q) ⟨_, upd_same⟩ fun t => ⟨ys, upd_same, h.to t⟩
end
def appW (C : Cs) (n : Nat) (t : Cv) (K : Cs → Prop) : Prop := match C[n]? with
  | some (.lst _) => fz C t fun d C3 => lstAt C3 n fun ds => ds.length < 100000 ∧ K (C3.set n (.lst (ds ++ [d])))
  | some (.rfs ss) => ss.length < 100000 ∧ K (C.set n (.rfs (ss ++ [t])))
  | _ => False
def xAppend (o a : XE) : XE where
  te k W := tBM k.K "list" rAppend (o.te k W) (tCons (a.te k W) tNil)
  wp X ρ C P := o.wp X ρ C fun s C1 => isC s fun n => anyL C1 n (a.wp X ρ C1 fun t C2 => appW C2 n t fun C3 => P (.d .none) C3)
  ok w h q := o.ok w h fun v H1 s α1 C1 t1 r1 c1 p1 => by
    obtain ⟨n, p, rfl, hp, rfl, p1⟩ := isC_of c1 p1
    obtain ⟨hl, p1⟩ := anyL_of r1 hp p1
    refine ⟨ty_l hl, a.ok (w.to t1 r1) p1 fun u H2 s2 α2 C2 t2 r2 c2 p2 => ?_⟩
    have hp2 : α2[n]? = some p := by
      obtain ⟨e, rfl, _⟩ := t2.ex
      rw [List.getElem?_append_left (List.getElem?_eq_some_iff.mp hp).1]; exact hp
    unfold appW at p2
    cases e : C2[n]? with
    | none => rw [e] at p2; exact p2.elim
    | some c =>
      rw [e] at p2
      cases c with
      | lst ds0 =>
        obtain ⟨d, C3, r3, t3, h3, p3⟩ := fz_da r2 c2 p2
        obtain ⟨ds, xs, e3, hx, hd, hn, p4⟩ := lstAt_of r3 hp2 p3
        obtain ⟨r4, t4⟩ := r3.putL hp2 e3 (Das.app hd (.cons h3 .nil))
        exact ⟨p, xs, u, rfl, rfl, hx, by rw [Das.len hd]; exact Nat.lt_of_lt_of_le hn (by decide), q .non _ (.d .none) α2 _ (((t1.trans t2).trans t3).trans t4) r4 Dq.non p4⟩
      | rfs ss =>
        obtain ⟨xs, hx, hd⟩ := r2.at_ n p _ hp2 e
        obtain ⟨r4, t4⟩ := r2.putR hp2 e (hd.app (.cons c2 .nil))
        exact ⟨p, xs, u, rfl, rfl, hx, by rw [Rcs.len hd]; exact Nat.lt_of_lt_of_le p2.1 (by decide), q .non _ (.d .none) α2 _ ((t1.trans t2).trans t4) r4 Dq.non p2.2⟩
      | frz _ => exact p2.elim
      | box _ _ => exact p2.elim
      | obj _ _ => exact p2.elim
      | dk _ => exact p2.elim
def extW (C : Cs) (n m : Nat) (K : Cs → Prop) : Prop := match C[n]?, C[m]? with
  | some (.lst ds), some (.lst es) => ds.length + es.length ≤ 100000 ∧ K (C.set n (.lst (ds ++ es)))
  | some (.rfs ds), some (.rfs es) => ds.length + es.length ≤ 100000 ∧ K (C.set n (.rfs (ds ++ es)))
  | _, _ => False
def xExtend (o a : XE) : XE where
  te k W := tBM k.K "list" rExtend (o.te k W) (tCons (a.te k W) tNil)
  wp X ρ C P := o.wp X ρ C fun s C1 => isC s fun n => anyL C1 n (a.wp X ρ C1 fun t C2 => isC t fun m => extW C2 n m fun C3 => P (.d .none) C3)
  ok w h q := o.ok w h fun v H1 s α1 C1 t1 r1 c1 p1 => by
    obtain ⟨n, p, rfl, hp, rfl, p1⟩ := isC_of c1 p1
    obtain ⟨hl, p1⟩ := anyL_of r1 hp p1
    refine ⟨ty_l hl, a.ok (w.to t1 r1) p1 fun u H2 s2 α2 C2 t2 r2 c2 p2 => ?_⟩
    obtain ⟨m, b, rfl, hb, rfl, p2⟩ := isC_of c2 p2
    have hp2 : α2[n]? = some p := by
      obtain ⟨e, rfl, _⟩ := t2.ex
      rw [List.getElem?_append_left (List.getElem?_eq_some_iff.mp hp).1]; exact hp
    unfold extW at p2
    cases e : C2[n]? with
    | none => rw [e] at p2; exact p2.elim
    | some c =>
      cases e' : C2[m]? with
      | none => rw [e, e'] at p2; cases c <;> exact p2.elim
      | some c' =>
        rw [e, e'] at p2
        cases c <;> cases c' <;> try exact p2.elim
        · obtain ⟨xs, hx, hd⟩ := r2.at_ n p _ hp2 e
          obtain ⟨ys, hy, he⟩ := r2.at_ m b _ hb e'
          obtain ⟨r4, t4⟩ := r2.putL hp2 e (Das.app hd he)
          exact ⟨p, b, xs, ys, rfl, rfl, hx, hy, by rw [Das.len hd, Das.len he]; exact Nat.le_trans p2.1 (by decide), q .non _ (.d .none) α2 _ ((t1.trans t2).trans t4) r4 Dq.non p2.2⟩
        · obtain ⟨xs, hx, hd⟩ := r2.at_ n p _ hp2 e
          obtain ⟨ys, hy, he⟩ := r2.at_ m b _ hb e'
          obtain ⟨r4, t4⟩ := r2.putR hp2 e (hd.app he)
          exact ⟨p, b, xs, ys, rfl, rfl, hx, hy, by rw [Rcs.len hd, Rcs.len he]; exact Nat.le_trans p2.1 (by decide), q .non _ (.d .none) α2 _ ((t1.trans t2).trans t4) r4 Dq.non p2.2⟩
def xClear (o : XE) : XE where
  te k W := tBM0 k.K "list" rClear (o.te k W)
  wp X ρ C P := o.wp X ρ C fun s C1 => isC s fun n => lstAt C1 n fun _ => P (.d .none) (C1.set n (.lst []))
  ok w h q := o.ok w h fun v H1 s α1 C1 t1 r1 c1 p1 => by
    obtain ⟨n, p, rfl, hp, rfl, p1⟩ := isC_of c1 p1
    obtain ⟨ds, xs, e3, hx, hd, p4⟩ := lstAt_of r1 hp p1
    obtain ⟨r4, t4⟩ := r1.putL hp e3 .nil
    exact ⟨ty_l ⟨_, hx⟩, p, xs, rfl, rfl, hx, q .non _ (.d .none) α1 _ (t1.trans t4) r4 Dq.non p4⟩
def xReverse (o : XE) : XE where
  te k W := tBM0 k.K "list" rReverse (o.te k W)
  wp X ρ C P := o.wp X ρ C fun s C1 => isC s fun n => lstAt C1 n fun ds => P (.d .none) (C1.set n (.lst ds.reverse))
  ok w h q := o.ok w h fun v H1 s α1 C1 t1 r1 c1 p1 => by
    obtain ⟨n, p, rfl, hp, rfl, p1⟩ := isC_of c1 p1
    obtain ⟨ds, xs, e3, hx, hd, p4⟩ := lstAt_of r1 hp p1
    obtain ⟨r4, t4⟩ := r1.putL hp e3 (Das.rev hd)
    exact ⟨ty_l ⟨_, hx⟩, p, xs, rfl, rfl, hx, q .non _ (.d .none) α1 _ (t1.trans t4) r4 Dq.non p4⟩
theorem Das.dropLast {K : Fg} {H : Hp} {vs : List V} {ds : List PyData} (h : DqAll K H vs ds) : DqAll K H vs.dropLast ds.dropLast := by
  rw [List.dropLast_eq_take, List.dropLast_eq_take, Das.len h]
  exact Das.take _ h
theorem Das.erase {K : Fg} {H : Hp} : ∀ {vs : List V} {ds : List PyData} (n : Nat), DqAll K H vs ds → DqAll K H (vs.eraseIdx n) (ds.eraseIdx n)
  | _, _, _, .nil => .nil
  | _, _, 0, .cons _ t => t
  | _, _, n + 1, .cons a t => .cons a (Das.erase n t)
def xPop (o : XE) : XE where
  te k W := tBM0 k.K "list" rPop (o.te k W)
  wp X ρ C P := o.wp X ρ C fun s C1 => isC s fun n => lstAt C1 n fun ds => ∃ d, ds[ds.length - 1]? = some d ∧ P (.d d) (C1.set n (.lst ds.dropLast))
  ok w h q := o.ok w h fun v H1 s α1 C1 t1 r1 c1 p1 => by
    obtain ⟨n, p, rfl, hp, rfl, p1⟩ := isC_of c1 p1
    obtain ⟨ds, xs, e3, hx, hd, d, hd1, p4⟩ := lstAt_of r1 hp p1
    obtain ⟨r4, t4⟩ := r1.putL hp e3 (Das.dropLast hd)
    obtain ⟨y, hy, dy⟩ := Das.get hd hd1
    exact ⟨ty_l ⟨_, hx⟩, p, xs, y, rfl, rfl, hx, by rw [Das.len hd]; exact hy, q y _ (.d d) α1 _ (t1.trans t4) r4 (dp_ex t4.hid _ _ dy) p4⟩
def xPopAt (o a : XE) : XE where
  te k W := tBM k.K "list" rPopAt (o.te k W) (tCons (a.te k W) tNil)
  wp X ρ C P := o.wp X ρ C fun s C1 => isC s fun n => anyL C1 n (a.wp X ρ C1 fun t C2 => ∃ i : Int, t = .d (.int i) ∧ (-(2 ^ 63) ≤ i ∧ i < 2 ^ 63) ∧ lstAt C2 n fun ds => ∃ j, seqIndex? i ds.length = some j ∧ ∃ d, ds[j]? = some d ∧ P (.d d) (C2.set n (.lst (ds.eraseIdx j))))
  ok w h q := o.ok w h fun v H1 s α1 C1 t1 r1 c1 p1 => by
    obtain ⟨n, p, rfl, hp, rfl, p1⟩ := isC_of c1 p1
    obtain ⟨hl, p1⟩ := anyL_of r1 hp p1
    refine ⟨ty_l hl, a.ok (w.to t1 r1) p1 fun u H2 s2 α2 C2 t2 r2 c2 p2 => ?_⟩
    have hp2 : α2[n]? = some p := by
      obtain ⟨e, rfl, _⟩ := t2.ex
      rw [List.getElem?_append_left (List.getElem?_eq_some_iff.mp hp).1]; exact hp
    obtain ⟨i, rfl, hi, p2⟩ := p2
    have eu := Da.int_inv c2
    subst eu
    obtain ⟨ds, xs, e3, hx, hd, j, hj, d, hd1, p4⟩ := lstAt_of r2 hp2 p2
    obtain ⟨r4, t4⟩ := r2.putL hp2 e3 (Das.erase j hd)
    obtain ⟨y, hy, dy⟩ := Das.get hd hd1
    exact ⟨p, xs, i, j, y, rfl, rfl, hx, hi.1, hi.2, by rw [Das.len hd]; exact hj, hy, q y _ (.d d) α2 _ ((t1.trans t2).trans t4) r4 (dp_ex t4.hid _ _ dy) p4⟩
def rInsert : V → List V → Hp → VK → Prop := fun x vs H Q => ∃ (l : Addr) (xs : List V) (i : Int) (y : V), x = .ref l ∧ vs = [.int i, y] ∧ H l = some (.lst xs) ∧ xs.length < sizeLine ∧ 0 ≤ i ∧ i < 2 ^ 63 ∧
    Q .non (upd H l (.lst (xs.take i.toNat ++ [y] ++ xs.drop i.toNat)))
theorem mt_insertD {X : Cx} : MtR X "list.insert" rInsert := mt_insert
def xInsert (o a b : XE) : XE where
  te k W := tBM k.K "list" rInsert (o.te k W) (tCons (a.te k W) (tCons (b.te k W) tNil))
  wp X ρ C P := o.wp X ρ C fun s C1 => isC s fun n => anyL C1 n (a.wp X ρ C1 fun t C2 => b.wp X ρ C2 fun u C3 => ∃ i : Int, t = .d (.int i) ∧ (0 ≤ i ∧ i < 2 ^ 63) ∧ fz C3 u fun d C4 => lstAt C4 n fun ds => ds.length < 100000 ∧ P (.d .none) (C4.set n (.lst (ds.take i.toNat ++ [d] ++ ds.drop i.toNat))))
  ok w h q := o.ok w h fun v H1 s α1 C1 t1 r1 c1 p1 => by
    obtain ⟨n, p, rfl, hp, rfl, p1⟩ := isC_of c1 p1
    obtain ⟨hl, p1⟩ := anyL_of r1 hp p1
    refine ⟨ty_l hl, a.ok (w.to t1 r1) p1 fun u H2 s2 α2 C2 t2 r2 c2 p2 => b.ok ((w.to t1 r1).to t2 r2) p2 fun u' H3 s3 α3 C3 t3 r3 c3 p3 => ?_⟩
    have hp3 : α3[n]? = some p := by
      obtain ⟨e, rfl, _⟩ := (t2.trans t3).ex
      rw [List.getElem?_append_left (List.getElem?_eq_some_iff.mp hp).1]; exact hp
    obtain ⟨i, rfl, hi, p3⟩ := p3
    have eu := Da.int_inv c2
    subst eu
    obtain ⟨d, C4, r4, t4, h4, p4⟩ := fz_da r3 c3 p3
    obtain ⟨ds, xs, e3, hx, hd, hn, p5⟩ := lstAt_of r4 hp3 p4
    obtain ⟨r5, t5⟩ := r4.putL hp3 e3 (Das.app (Das.app (Das.take i.toNat hd) (.cons h4 .nil)) (Das.drop i.toNat hd))
    exact ⟨p, xs, i, u', rfl, rfl, hx, by rw [Das.len hd]; exact Nat.lt_of_lt_of_le hn (by decide), hi.1, hi.2, q .non _ (.d .none) α3 _ ((((t1.trans t2).trans t3).trans t4).trans t5) r5 Dq.non p5⟩
/-- xs[i] = e -/
def xsSetItem (e o i : XE) : XS where
  ts k W := tAsg (e.te k W) (gSub (o.te k W) (i.te k W) rSetL)
  wp X ρ C P := e.wp X ρ C fun s C1 => o.wp X ρ C1 fun t C2 => isC t fun n => i.wp X ρ C2 fun u C3 => ∃ j : Int, u = .d (.int j) ∧ fz C3 s fun d C4 => lstAt C4 n fun ds => ∃ m, ixN ds.length j = some m ∧ P.N ρ (C4.set n (.lst (ds.set m d)))
  ok w h q := e.ok w h fun v H1 s α1 C1 t1 r1 c1 p1 => o.ok (w.to t1 r1) p1 fun u H2 s2 α2 C2 t2 r2 c2 p2 => by
    obtain ⟨n, p, rfl, hp, rfl, p2⟩ := isC_of c2 p2
    refine i.ok ((w.to t1 r1).to t2 r2) p2 fun z H3 s3 α3 C3 t3 r3 c3 p3 => ?_
    obtain ⟨j, rfl, p3⟩ := p3
    have ez := Da.int_inv c3
    subst ez
    have hp3 : α3[n]? = some p := by
      obtain ⟨e, rfl, _⟩ := t3.ex
      rw [List.getElem?_append_left (List.getElem?_eq_some_iff.mp hp).1]; exact hp
    obtain ⟨d, C4, r4, t4, h4, p4⟩ := fz_da r3 ((c1.to t2).to t3) p3
    obtain ⟨ds, xs, e3, hx, hd, m, hm, p5⟩ := lstAt_of r4 hp3 p4
    obtain ⟨r5, t5⟩ := r4.putL hp3 e3 (Das.set h4 m hd)
    have tt := (((t1.trans t2).trans t3).trans t4).trans t5
    exact ⟨p, xs, j, m, rfl, rfl, hx, by rw [Das.len hd]; exact hm, q.nx _ _ _ α3 _ tt r5 (w.en.to tt) p5⟩
/-! ### isinstance, texts, slices backwards -/
def tTys : List String → TA
  | [] => tNil
  | T :: Ts => tCons (tC (.ty T)) (tTys Ts)
theorem tys_ev : ∀ (Ts : List String) (σ : L2.St) (H : Hp) (Q : List V → Hp → Prop), Q (Ts.map V.ty) H → tTys Ts σ H Q
  | [], σ, H, Q, q => q
  | T :: Ts, σ, H, Q, q => tys_ev Ts σ H (fun vs H' => Q (.ty T :: vs) H') q
def xIsi (a : XE) (T : String) : XE where
  te k W := tCB (rIsD k.K) (tCons (a.te k W) (tCons (tC (.ty T)) tNil))
  wp X ρ C P := decide (T ∈ goodT) = true ∧ a.wp X ρ C fun s C1 => rd C1 s fun d => P (.d (.bool (isD T d))) C1
  ok w h q := a.ok w h.2 fun v H1 s α1 C1 t1 r1 c1 p1 => by
    obtain ⟨d, h1, p2⟩ := rd_dt r1 c1 p1
    exact ⟨ms _ α1 C1, v, d, T, rfl, of_decide_eq_true h.1, r1.md, h1, q _ H1 (.d (.bool (isD T d))) α1 C1 t1 r1 (Dq.bl _) p2⟩
theorem Dt.ex {K : Fg} {M : Ms} {H H' : Hp} {v : V} {d : PyData} (h : Dt K M H v d) (x : Ex H H') : Dt K M H' v d := by
  cases h with
  | da h => exact .da (h.ex x)
  | op s a => exact .op (ex_l x s) (Das.ex a x)
def xIsiT (a : XE) (Ts : List String) : XE where
  te k W := tCB (rIsTD k.K) (tCons (a.te k W) (tCons (tTup (tTys Ts)) tNil))
  wp X ρ C P := (decide (∀ T ∈ Ts, T ∈ goodT) = true ∧ decide (Ts.length ≤ 100000) = true) ∧ a.wp X ρ C fun s C1 => rd C1 s fun d => P (.d (.bool (Ts.any fun T => isD T d))) C1
  ok w h q := a.ok w h.2 fun v H1 s α1 C1 t1 r1 c1 p1 => by
    have hl : Ts.length ≤ 100000 := of_decide_eq_true h.1.2
    have hT : ∀ T ∈ Ts, T ∈ goodT := of_decide_eq_true h.1.1
    obtain ⟨d, h1, p2⟩ := rd_dt r1 c1 p1
    refine tys_ev Ts _ H1 _ ⟨by rw [List.length_map]; exact Nat.le_trans hl (by decide), fun p hp => ?_⟩
    exact ⟨ms _ α1 C1, v, d, p, Ts, rfl, upd_same, hT, r1.md.ex (Ex.new hp), h1.ex (Ex.new hp), q _ _ (.d (.bool (Ts.any fun T => isD T d))) α1 C1 (t1.trans (r1.ex (Ex.new hp))) (r1.keep (Ex.new hp)) (Dq.bl _) p2⟩
def fmtD (s : Cv) (K : Str → Prop) : Prop := match s with
  | .d (.str y) => y.length ≤ sizeLine ∧ K y
  | .d (.int i) => i.natAbs.log2 < 1920 ∧ K (toString i)
  | _ => False
def xFmt (a : XE) : XE where
  te k W := tFmt (a.te k W)
  wp X ρ C P := a.wp X ρ C fun s C1 => fmtD s fun y => P (.d (.str y)) C1
  ok w h q := a.ok w h fun v H1 s α1 C1 t1 r1 c1 p1 => by
    cases s with
    | v x => exact p1.elim
    | c n => exact p1.elim
    | d x =>
      cases x <;> try exact p1.elim
      · rename_i i
        exact .inr ⟨i, Da.int_inv c1, p1.1, q _ H1 (.d (.str (toString i))) α1 C1 t1 r1 (Dq.str _) p1.2⟩
      · rename_i y
        exact .inl ⟨y, Da.str_inv c1, p1.1, q _ H1 (.d (.str y)) α1 C1 t1 r1 (Dq.str _) p1.2⟩
def fsW : List XE → Xp → Rv → Str → Cs → (Str → Cs → Prop) → Prop
  | [], _, _, acc, C, P => P acc C
  | e :: es, X, ρ, acc, C, P => e.wp X ρ C fun s C1 => ∃ y, s = .d (.str y) ∧ (acc ++ y).length ≤ sizeLine ∧ fsW es X ρ (acc ++ y) C1 P
theorem fs_ok : ∀ (es : List XE) {k B α C H σ ρ W X acc P} {Q : Str → Hp → Prop}, Wd k B α C H σ ρ W X → fsW es X ρ acc C P → (∀ out H' α' C', To B α C H α' C' H' → Rep k B α' C' H' → P out C' → Q out H') → tJs (es.map fun e => e.te k W) acc σ H Q
  | [], _, _, _, _, _, _, _, _, _, _, _, _, w, h, q => q _ _ _ _ w.rep.refl w.rep h
  | e :: es, _, _, _, _, _, _, _, _, _, _, _, _, w, h, q => e.ok w h fun v H1 s α1 C1 t1 r1 c1 p1 => by
    obtain ⟨y, rfl, hl, p2⟩ := p1
    exact ⟨y, Da.str_inv c1, hl, fs_ok es (w.to t1 r1) p2 fun out H' α' C' t => q out H' α' C' (t1.trans t)⟩
def xFs (es : List XE) : XE where
  te k W := tFs (es.map fun e => e.te k W)
  wp X ρ C P := fsW es X ρ Str.empty C fun out C1 => P (.d (.str out)) C1
  ok w h q := by
    show tJs _ Str.empty _ _ _
    exact fs_ok es w h fun out H' α' C' t r p => q _ H' (.d (.str out)) α' C' t r (Dq.str out) p
def xRevS (a : XE) : XE where
  te k W := tRevS (a.te k W)
  wp X ρ C P := a.wp X ρ C fun s C1 => ∃ y, s = .d (.str y) ∧ y.length ≤ sizeLine ∧ P (.d (.str (revT y))) C1
  ok w h q := a.ok w h fun v H1 s α1 C1 t1 r1 c1 p1 => by
    obtain ⟨y, rfl, hl, p⟩ := p1
    exact ⟨y, Da.str_inv c1, hl, q _ H1 (.d (.str (revT y))) α1 C1 t1 r1 (Dq.str _) p⟩
def xRevL (a : XE) : XE where
  te k W := tRevL k.K (a.te k W)
  wp X ρ C P := a.wp X ρ C fun s C1 => rd C1 s fun d => ∃ ds, d = .list ds ∧ P (.d (.list ds.reverse)) C1
  ok w h q := a.ok w h fun v H1 s α1 C1 t1 r1 c1 p1 => by
    obtain ⟨d, h1, ds, rfl, p2⟩ := rd_dt r1 c1 p1
    obtain ⟨p, xs, rfl, hp, hx⟩ := h1.list_inv
    rw [hid_nil] at hp
    exact ⟨p, xs, rfl, hp, fun y hy => q _ _ (.d (.list ds.reverse)) α1 C1 (t1.trans (r1.ex (Ex.new hy))) (r1.keep (Ex.new hy)) (Da.new_lst r1.md hy (Das.rev hx)) p2⟩
/-! ### the box of draws is opened -/
def boxAt (C : Cs) (n : Nat) (K : Bool → Nat → Prop) : Prop := match C[n]? with
  | some (.box l m) => K l m
  | _ => False
def xsOpen (i : Nat) (b : XS) : XS where
  ts := b.ts
  wp X ρ C P := boxAt C i fun l n => ∀ (x y : Int) (d : PyData), boxD l d → 0 ≤ x → 0 ≤ y → y ≤ n → b.wp X ρ (C.set i (.lst [.int x, d, .int y])) P
  ok {k B α C H σ ρ W X P D} w h q := by
    unfold boxAt at h
    cases e : C[i]? with
    | none => rw [e] at h; exact h.elim
    | some c =>
      rw [e] at h
      cases c <;> try exact h.elim
      rename_i l n
      have hl : i < α.length := by rw [w.rep.len]; exact (List.getElem?_eq_some_iff.mp e).1
      have ha := List.getElem?_eq_getElem hl
      obtain ⟨x, y, v, d, h1, h2, h3, h4, h5, h6⟩ := w.rep.at_ i _ _ ha e
      obtain ⟨r2, t2⟩ := w.rep.put (c' := .lst [.int x, d, .int y]) ha e rfl rfl (fun _ _ => rfl) ⟨_, h1⟩ fun t => ⟨_, h1, .cons (.int x) (.cons (dp_ex t.hid _ _ h2) (.cons (.int y) .nil))⟩
      exact b.ok (w.to t2 r2) (h x y d h3 h4 h5 h6) (q.to t2)
/-! ### a def keeps its promise -/
def rv0 (N : List Str) (ss : List Cv) : Rv := ss.map some ++ List.replicate (N.length - ss.length) none
@[irreducible] def retW (n0 : Nat) (R : Cv → Cs → Prop) (s : Cv) (c : Cs) : Prop := ∃ f s' c', Wk n0 f c c' ∧ RenV f s s' ∧ R s' c'
def SemW (N : List Str) (np : Nat) (A : Pw) (b : XS) : Prop := ∀ ss C R X, A ss C R X → ss.length = np ∧ np ≤ N.length ∧
  b.wp (fun x _ c => ∃ f x' c', Wk C.length f c c' ∧ x'.cn = x.cn ∧ RenFs f x.fs x'.fs ∧ (x.fs = [] ↔ x'.fs = []) ∧ X x' c') (rv0 N ss) C ⟨fun _ c => retW C.length R (.d .none) c, fun s c => retW C.length R s c, fun _ _ => False, fun _ _ => False⟩
theorem en_start {k : Kx} {B α : List Addr} {C : Cs} {H : Hp} {N : List Str} {vs : List V} {ss : List Cv} (r : Rcs k.K (ms B α C) H α vs ss) (hl : vs.length ≤ N.length) : En k B α C H (L2.start N vs) (rv0 N ss) := by
  have h := Rcs.len r
  unfold L2.start rv0
  refine ⟨by simp [h], fun i s q => ?_⟩
  by_cases hi : i < ss.length
  · rw [List.getElem?_append_left (by simpa using hi), List.getElem?_map] at q
    cases e : ss[i]? with
    | none => rw [e] at q; cases q
    | some t =>
      rw [e] at q
      have q' : t = s := by injection q with q; injection q
      subst q'
      have hv : i < vs.length := by omega
      refine ⟨vs[i], ?_, r.get (List.getElem?_eq_getElem hv) e⟩
      rw [List.getElem?_append_left (by simpa using hv), List.getElem?_map, List.getElem?_eq_getElem hv]; rfl
  · rw [List.getElem?_append_right (by simp; omega)] at q
    have := List.mem_of_getElem? q
    simp at this
abbrev W0 : WX := fun _ _ _ _ => False
section
variable {Pr : Program} {w : World} {kx : Kx} {mg : Str → Option Value} {base : Heap}
/-- what a body shows is what the promise says -/
theorem sem_reads {N : List Str} {np : Nat} {A : Pw} {b : XS} (sem : SemW N np A b) {vs : List V} {H : Hp} {Q : VK} {E : XK} {W : WX} (h : spW kx A vs H Q E)
    (hW : ∀ cls d H', E cls d H' → ∀ σ', W cls d σ' H') : vs.length = np ∧ b.ts kx W { nx := fun _ H' => Q .non H', rt := Q } (L2.start N vs) H := by
  obtain ⟨B, α, C, ss, R, X, r, c, hA, q, qx⟩ := h
  obtain ⟨h1, h2, wp⟩ := sem ss C R X hA
  have hl := Rcs.len c
  refine ⟨hl.trans h1, ?_⟩
  have fin : ∀ v H' s α' C', To B α C H α' C' H' → Rep kx B α' C' H' → Rc kx.K (ms B α' C') H' α' v s → retW C.length R s C' → Q v H' := by
    intro v H' s α' C' t r' c' hq
    unfold retW at hq
    obtain ⟨f, s', c2, wk, rn, p⟩ := hq
    exact q v H' s' _ c2 (t.wk r.len r' wk) (r'.ren wk.nd wk.wk) ((c'.mono (wk_h r' wk.wk)).ren (wk_lt r' wk.wk) rn) p
  refine b.ok (X := _) ⟨r, en_start c (by omega), fun cls d H' x α' C' σ' ρ' t r' xa _ ⟨f, x', c2, wk, e1, rn, e2, p⟩ => ?_⟩ wp ⟨fun σ' H' ρ' α' C' t r' _ p => fin .non H' (.d .none) α' C' t r' Dq.non p, fin, fun _ _ _ _ _ _ _ _ p => p.elim, fun _ _ _ _ _ _ _ _ p => p.elim⟩
  refine hW cls d H' (qx cls d H' x' _ c2 (t.wk r.len r' wk) (r'.ren wk.nd wk.wk) ⟨by rw [e1]; exact xa.1, ?_⟩ p) σ'
  rcases xa.2 with ⟨g1, g2⟩ | ⟨dd, vs', g1, g2, g3⟩
  · exact .inl ⟨e2.mp g1, g2⟩
  · exact .inr ⟨dd, vs', g1, g2, (g3.mono (wk_h r' wk.wk)).ren (wk_lt r' wk.wk) rn⟩
theorem mk_okW {x qual : Str} {st : Stmt} {f : Addr} {fd : FuncData} {N ps : List Str} {k : Nat} {A : Pw} {b : XS} (F : Fun kx.K x qual st f fd) (S : FnScope N ps (defScope st)) (sem : SemW N ps.length A b) (nox : ∀ ss C R X, A ss C R X → A ss C R fun _ _ => False)
    (der : ∀ (cdv : Value) (A' : Around) (outer : List PySem.Env) (s : Shared) (H : Hp) (E : XK), A'.guards = some [] → Room k (A'.deeper (PyProof.Rows.envOfC qual (defScope st) s.heap.objs.size f cdv)) → PSs (cxOf CX0 Pr w kx.K mg base N qual (defScope st) f cdv A' outer s H E).nox (defBody st) (b.ts kx W0)) :
    FnG Pr w kx.K mg base CX0 (k + 1) f fd ps (spW kx A) := by
  refine fng F S ?_ ?_
  · intro vs H Q E h
    exact (sem_reads sem (W := fun cls d _ H' => E cls d H') h (fun _ _ _ h _ => h)).1
  · intro cdv A' outer s H vs Q E hG hr h
    refine ⟨_, (der cdv A' outer s H E hG hr).nox, ?_⟩
    obtain ⟨B, α, C, ss, R, X, r, c, hA, q, qx⟩ := h
    exact (sem_reads sem (E := fun _ _ _ => False) (W := W0) ⟨B, α, C, ss, R, fun _ _ => False, r, c, nox _ _ _ _ hA, q, fun _ _ _ _ _ _ _ _ _ z => z.elim⟩ (fun _ _ _ z => z.elim)).2
end
/-! ### the law itself -/
def pw_law : Pw := fun ss C R _ => ∃ ns : List Int, ss = [.d (.list (ns.map .int))] ∧ C = [] ∧ ns.length ≤ 63 ∧ R (.d (.bool true)) []
theorem law_startW {kx : Kx} {H : Hp} {a : Addr} {ns : List Int} (hl : ns.length ≤ 63) (hS : SqL kx.K H a (ns.map V.int)) : spW kx pw_law [.ref a] H (fun v _ => v = .bl true) fun _ _ _ => False := by
  have r : Rep kx [] [] [] H := ⟨rfl, .nil, (fun _ m => nomatch m), (fun _ m => nomatch m), fun i a c h => by simp at h⟩
  refine ⟨[], [], [], [.d (.list (ns.map .int))], fun s _ => s = .d (.bool true), fun _ _ => False, r, .cons ?_ .nil, ⟨ns, rfl, rfl, hl, rfl⟩, fun v H' s α' C' _ _ c e => ?_, fun _ _ _ _ _ _ _ _ _ z => z⟩
  · exact Dq.lst (by
      have e : hid (ms [] [] []) H = H := by funext a; exact if_neg (fun m => nomatch m)
      rw [e]; exact hS) (Das.of_ints ns)
  · subst e; exact Da.bl_inv c
end DL
set_option maxRecDepth 100000
namespace DL
open PySem L2
/-- from now on it is data -/
def xFz (a : XE) : XE where
  te := a.te
  wp X ρ C P := a.wp X ρ C fun s C1 => fz C1 s fun d C2 => P (.d d) C2
  ok w h q := a.ok w h fun v H1 s α1 C1 t1 r1 c1 p1 => by
    obtain ⟨d, C2, r2, t2, h2, p2⟩ := fz_da r1 c1 p1
    exact q v H1 (.d d) α1 C2 (t1.trans t2) r2 h2 p2
/-! ### zip, enumerate -/
def rdK (C : Cs) (s : Cv) (K : PyData → (Cs → Prop) → Prop) : Prop := match s with
  | .d x => K x fun _ => True
  | .c n => (match C[n]? with
    | some (.lst ds) => K (.list ds) fun C' => C'[n]? = some (.lst ds)
    | some (.frz d) => K d fun _ => True
    | _ => False)
  | .v _ => False
section
variable {k : Kx} {B α : List Addr} {C : Cs} {H : Hp}
/-- what is read is read on, as long as it is kept -/
theorem rdK_dt (r : Rep k B α C H) {v : V} {s : Cv} (h : Rc k.K (ms B α C) H α v s) {K : PyData → (Cs → Prop) → Prop} (q : rdK C s K) : ∃ d keep, K d keep ∧ keep C ∧ ∀ B' α' C' H', Em B α C H B' α' C' H' → Rep k B' α' C' H' → keep C' → Dt k.K (ms B' α' C') H' v d := by
  cases s with
  | d x => exact ⟨x, _, q, trivial, fun B' α' C' H' e r' _ => .da (dp_ex e.hid _ _ h)⟩
  | v x => exact q.elim
  | c n =>
    obtain ⟨a, ha, rfl⟩ := h
    unfold rdK at q
    dsimp only at q
    cases e : C[n]? with
    | none => rw [e] at q; exact q.elim
    | some c =>
      rw [e] at q
      have h := r.at_ n a c ha e
      cases c with
      | lst ds =>
        refine ⟨.list ds, _, q, e, fun B' α' C' H' em r' kp => ?_⟩
        have ha' : α'[n]? = some a := by
          obtain ⟨f, rfl⟩ := em.ex
          rw [List.getElem?_append_left (List.getElem?_eq_some_iff.mp ha).1]; exact ha
        obtain ⟨xs, h1, h2⟩ := r'.at_ n a _ ha' kp
        exact .op (.inl (.inl h1)) h2
      | frz d => exact ⟨d, _, q, trivial, fun B' α' C' H' em r' _ => .da (dp_ex em.hid _ _ h.2.2)⟩
      | rfs _ => exact q.elim
      | box _ _ => exact q.elim
      | obj _ _ => exact q.elim
      | dk _ => exact q.elim
end
def zipD (d e : PyData) (K : List PyData → Prop) : Prop := match d, e with
  | .list ds, .list es => K ((ds.zip es).map fun p => .tuple [p.1, p.2])
  | .tuple ds, .tuple es => K ((ds.zip es).map fun p => .tuple [p.1, p.2])
  | _, _ => False
theorem zip_get {α β : Type} : ∀ {xs : List α} {ys : List β} {i : Nat} {p : α × β}, (xs.zip ys)[i]? = some p → xs[i]? = some p.1 ∧ ys[i]? = some p.2
  | [], _, i, p, h => by simp at h
  | _ :: _, [], i, p, h => by simp at h
  | x :: xs, y :: ys, 0, p, h => by simp at h; subst h; exact ⟨rfl, rfl⟩
  | x :: xs, y :: ys, i + 1, p, h => by simpa using zip_get (xs := xs) (ys := ys) (i := i) (by simpa using h)
def xiZip (a b : XE) : XI where
  wi k W := RZ.iZipA k.K (tCons (a.te k W) (tCons (b.te k W) tNil))
  wp X ρ C P := a.wp X ρ C fun s C1 => b.wp X ρ C1 fun t C2 => rdK C2 s fun d k1 => rdK C2 t fun e k2 => zipD d e fun ps => P (ps.map .d) (fun C' => k1 C' ∧ k2 C') C2
  ok {k B α C H σ ρ W X P R} w h q := a.ok w h fun v H1 s α1 C1 t1 r1 c1 p1 => b.ok (w.to t1 r1) p1 fun u H2 s2 α2 C2 t2 r2 c2 p2 => by
    obtain ⟨d, k1, p2, kk1, D1⟩ := rdK_dt r2 (c1.to t2) p2
    obtain ⟨e, k2, p3, kk2, D2⟩ := rdK_dt r2 c2 p2
    have e0 : Em B α2 C2 H2 B α2 C2 H2 := r2.refl.em
    have h1 := D1 _ _ _ _ e0 r2 kk1
    have h2 := D2 _ _ _ _ e0 r2 kk2
    cases d <;> cases e <;> try exact p3.elim
    · rename_i ds es
      obtain ⟨x, xs, rfl, hx, _⟩ := h1.list_inv
      obtain ⟨y, ys, rfl, hy, _⟩ := h2.list_inv
      rw [hid_nil] at hx hy
      refine ⟨x, y, xs, ys, rfl, .inl ⟨hx, hy, q _ _ _ _ _ _ (t1.trans t2) r2 p3 fun B' α' C' H' em r' kp => ?_⟩⟩
      obtain ⟨x', xs', ex, hx', dx⟩ := (D1 _ _ _ _ em r' kp.1).list_inv
      obtain ⟨y', ys', ey, hy', dy⟩ := (D2 _ _ _ _ em r' kp.2).list_inv
      cases ex; cases ey
      rw [hid_nil] at hx' hy'
      refine ⟨fun i s hs => ?_, xs', ys', hx', hy', ?_⟩
      · rw [List.getElem?_map, List.getElem?_map] at hs
        cases hz : (ds.zip es)[i]? with
        | none => rw [hz] at hs; cases hs
        | some p =>
          rw [hz] at hs
          cases hs
          obtain ⟨z1, z2⟩ := zip_get hz
          obtain ⟨v1, g1, d1⟩ := Das.get dx z1
          obtain ⟨v2, g2, d2⟩ := Das.get dy z2
          refine ⟨⟨xs', ys', v1, v2, hx', hy', g1, g2⟩, fun z H'' hyl => ?_⟩
          obtain ⟨T, a1, a2, rfl, hT, rfl, f1, f2⟩ := hyl
          have q1 := (f1 _ hx').symm.trans g1
          have q2 := (f2 _ hy').symm.trans g2
          cases q1; cases q2
          exact ⟨Ex.new hT, Da.new_tup r'.md hT (.cons d1 (.cons d2 .nil))⟩
      · rw [List.length_map, List.length_map, List.length_zip, Das.len dx, Das.len dy]; omega
    · rename_i ds es
      obtain ⟨x, xs, rfl, hx, _⟩ := h1.tup_inv
      obtain ⟨y, ys, rfl, hy, _⟩ := h2.tup_inv
      refine ⟨x, y, xs, ys, rfl, .inr ⟨hid_t hx, hid_t hy, q _ _ _ _ _ _ (t1.trans t2) r2 p3 fun B' α' C' H' em r' kp => ?_⟩⟩
      obtain ⟨x', xs', ex, hx', dx⟩ := (D1 _ _ _ _ em r' kp.1).tup_inv
      obtain ⟨y', ys', ey, hy', dy⟩ := (D2 _ _ _ _ em r' kp.2).tup_inv
      cases ex; cases ey
      have hx' := hid_t hx'
      have hy' := hid_t hy'
      refine ⟨fun i s hs => ?_, xs', ys', hx', hy', ?_⟩
      · rw [List.getElem?_map, List.getElem?_map] at hs
        cases hz : (ds.zip es)[i]? with
        | none => rw [hz] at hs; cases hs
        | some p =>
          rw [hz] at hs
          cases hs
          obtain ⟨z1, z2⟩ := zip_get hz
          obtain ⟨v1, g1, d1⟩ := Das.get dx z1
          obtain ⟨v2, g2, d2⟩ := Das.get dy z2
          refine ⟨⟨xs', ys', v1, v2, hx', hy', g1, g2⟩, fun z H'' hyl => ?_⟩
          obtain ⟨T, a1, a2, rfl, hT, rfl, f1, f2⟩ := hyl
          have q1 := (f1 _ hx').symm.trans g1
          have q2 := (f2 _ hy').symm.trans g2
          cases q1; cases q2
          exact ⟨Ex.new hT, Da.new_tup r'.md hT (.cons d1 (.cons d2 .nil))⟩
      · rw [List.length_map, List.length_map, List.length_zip, Das.len dx, Das.len dy]; omega
def enumL (ds : List PyData) : List PyData := ds.zipIdx.map fun p => .tuple [.int (p.2 : Nat), p.1]
def xiEnum (a : XE) : XI where
  wi k W := iEnum k.K (tCons (a.te k W) tNil)
  wp X ρ C P := a.wp X ρ C fun s C1 => rdK C1 s fun d k1 => ∃ ds, d = .list ds ∧ P ((enumL ds).map .d) k1 C1
  ok {k B α C H σ ρ W X P R} w h q := a.ok w h fun v H1 s α1 C1 t1 r1 c1 p1 => by
    obtain ⟨d, k1, ⟨ds, rfl, p3⟩, kk1, D1⟩ := rdK_dt r1 c1 p1
    have e0 : Em B α1 C1 H1 B α1 C1 H1 := r1.refl.em
    have h1 := D1 _ _ _ _ e0 r1 kk1
    obtain ⟨x, xs, rfl, hx, _⟩ := h1.list_inv
    rw [hid_nil] at hx
    refine ⟨x, xs, rfl, hx, q _ _ _ _ _ _ t1 r1 p3 fun B' α' C' H' em r' kp => ?_⟩
    obtain ⟨x', xs', ex, hx', dx⟩ := (D1 _ _ _ _ em r' kp).list_inv
    cases ex
    rw [hid_nil] at hx'
    refine ⟨fun i s hs => ?_, xs', hx', by simp [enumL, Das.len dx]⟩
    rw [enumL, List.getElem?_map, List.getElem?_map] at hs
    cases hz : ds.zipIdx[i]? with
    | none => rw [hz] at hs; cases hs
    | some p =>
      rw [hz] at hs
      cases hs
      have z0 := hz
      rw [List.getElem?_zipIdx] at z0
      cases hd : ds[i]? with
      | none => rw [hd] at z0; cases z0
      | some dd =>
        rw [hd] at z0
        cases z0
        obtain ⟨v1, g1, d1⟩ := Das.get dx hd
        refine ⟨⟨xs', v1, hx', g1⟩, fun z H'' hyl => ?_⟩
        obtain ⟨T, a1, rfl, hT, rfl, f1⟩ := hyl
        have q1 := (f1 _ hx').symm.trans g1
        cases q1
        refine ⟨Ex.new hT, Da.new_tup r'.md hT (.cons ?_ (.cons d1 .nil))⟩
        show Dq _ _ (.int (i : Nat)) (.int ((0 + i : Nat)))
        rw [Nat.zero_add]; exact .int _
/-! ### a call without arguments -/
section
variable {X : Cx} {CX : CXT} {k : Nat} {f : Addr} {fd : FuncData} {ps : List Str} {sp : Sp} {dvs : List V} {ds : List Value} {E : XK} {x : Str} {p pos : Pos}
theorem pe_callG0 (F : FnG X.prog X.w X.K X.mg X.base CX k f fd ps sp) (hG : X.A.guards = some []) (hr : Room k X.A) (hg : Gl X x) (hm : X.mg x = some (.ref f)) (hk : PySem.W.keepIn X.K (.ref f) = true) (hb : Binds X.K fd ps ds) (hd : Vals dvs ds) (hx : Passes CX X E)
    (hdb : (x == ("__debug__" : Str)) = false := by decide) : PE X (.Call (.Name x p) [] [] pos) (tCall sp dvs E tNil) := by
  constructor
  intro pins s σ H Q I h
  refine wpAny_Call_Name_kw (ld_glob I hg hm ?_ hdb)
  exact PySem.W.callWith_K0 I.kIn hk (runG (us := []) F hG hr hb hd hx I .nil h)
end
/-! ### what is compared -/
theorem shp_of {d : PyData} (h1 : d.canLay0 = true) (h2 : d.depth ≤ 64) : Shp d := by show SeqAt.shaped d = true; simp [SeqAt.shaped, h1, h2]
/-- numbers, texts, None, lists and tuples of them, to a depth -/
def okD : Nat → PyData → Bool
  | _, .none => true
  | _, .int _ => true
  | _, .str x => PyData.strOk x
  | n + 1, .list ds => ds.all (okD n)
  | n + 1, .tuple ds => ds.all (okD n)
  | _, _ => false
theorem okD_lay : ∀ (n : Nat) (d : PyData), okD n d = true → d.canLay0 = true ∧ d.depth ≤ n + 1
  | _, .none, _ => by simp [PyData.canLay0, PyData.depth]
  | _, .int _, _ => by simp [PyData.canLay0, PyData.depth]
  | _, .str x, h => by
    cases ‹Nat› <;> (simp [okD] at h; simp [PyData.canLay0, PyData.depth, h])
  | n + 1, .list ds, h => by
    have h : ds.all (okD n) = true := h
    have all : ∀ es : List PyData, es.all (okD n) = true → PyData.canLayAll0 es = true ∧ PyData.depthAll es ≤ n + 1 := by
      intro es
      induction es with
      | nil => intro _; simp [PyData.canLayAll0, PyData.depthAll]
      | cons e es ih =>
        intro h
        rw [List.all_cons, Bool.and_eq_true] at h
        have h1 := okD_lay n e h.1
        have h2 := ih h.2
        simp [PyData.canLayAll0, PyData.depthAll, h1.1, h2.1]; omega
    have := all ds h
    simp [PyData.canLay0, PyData.depth, this.1]; omega
  | n + 1, .tuple ds, h => by
    have h : ds.all (okD n) = true := h
    have all : ∀ es : List PyData, es.all (okD n) = true → PyData.canLayAll0 es = true ∧ PyData.depthAll es ≤ n + 1 := by
      intro es
      induction es with
      | nil => intro _; simp [PyData.canLayAll0, PyData.depthAll]
      | cons e es ih =>
        intro h
        rw [List.all_cons, Bool.and_eq_true] at h
        have h1 := okD_lay n e h.1
        have h2 := ih h.2
        simp [PyData.canLayAll0, PyData.depthAll, h1.1, h2.1]; omega
    have := all ds h
    simp [PyData.canLay0, PyData.depth, this.1]; omega
  | 0, .list _, h => by cases h
  | 0, .tuple _, h => by cases h
  | 0, .bool _, h => by cases h
  | _ + 1, .bool _, h => by cases h
  | 0, .dict _, h => by cases h
  | _ + 1, .dict _, h => by cases h
/-- of such == is just that they are the same -/
theorem okD_eqv : ∀ (n : Nat) (d e : PyData), okD n d = true → okD n e = true → (PyData.eqv d e = true ↔ d = e)
  | n, .none, e, _, h => by cases e <;> simp [PyData.eqv]
  | n, .int i, e, _, h => by
    cases e <;> try (simp [PyData.eqv]; done)
    cases n <;> cases h
  | n, .str i, e, _, h => by cases e <;> simp [PyData.eqv]
  | n + 1, .list ds, e, hd, he => by
    have hd : ds.all (okD n) = true := hd
    cases e <;> try (simp [PyData.eqv]; done)
    rename_i es
    have he : es.all (okD n) = true := he
    have all : ∀ xs ys : List PyData, xs.all (okD n) = true → ys.all (okD n) = true → (PyData.eqvAll xs ys = true ↔ xs = ys) := by
      intro xs
      induction xs with
      | nil => intro ys _ _; cases ys <;> simp [PyData.eqvAll]
      | cons x xs ih =>
        intro ys h1 h2
        cases ys with
        | nil => simp [PyData.eqvAll]
        | cons y ys =>
          rw [List.all_cons, Bool.and_eq_true] at h1 h2
          rw [PyData.eqvAll, Bool.and_eq_true, okD_eqv n x y h1.1 h2.1, ih ys h1.2 h2.2, List.cons.injEq]
    rw [PyData.eqv, all ds es hd he, PyData.list.injEq]
  | n + 1, .tuple ds, e, hd, he => by
    have hd : ds.all (okD n) = true := hd
    cases e <;> try (simp [PyData.eqv]; done)
    rename_i es
    have he : es.all (okD n) = true := he
    have all : ∀ xs ys : List PyData, xs.all (okD n) = true → ys.all (okD n) = true → (PyData.eqvAll xs ys = true ↔ xs = ys) := by
      intro xs
      induction xs with
      | nil => intro ys _ _; cases ys <;> simp [PyData.eqvAll]
      | cons x xs ih =>
        intro ys h1 h2
        cases ys with
        | nil => simp [PyData.eqvAll]
        | cons y ys =>
          rw [List.all_cons, Bool.and_eq_true] at h1 h2
          rw [PyData.eqvAll, Bool.and_eq_true, okD_eqv n x y h1.1 h2.1, ih ys h1.2 h2.2, List.cons.injEq]
    rw [PyData.eqv, all ds es hd he, PyData.tuple.injEq]
  | 0, .list _, _, h, _ => by cases h
  | 0, .tuple _, _, h, _ => by cases h
  | 0, .bool _, _, h, _ => by cases h
  | _ + 1, .bool _, _, h, _ => by cases h
  | 0, .dict _, _, h, _ => by cases h
  | _ + 1, .dict _, _, h, _ => by cases h
theorem okD_shp {n : Nat} {d : PyData} (h : okD n d = true) (hn : n ≤ 63 := by decide) : Shp d := by
  have := okD_lay n d h
  exact shp_of this.1 (by omega)
open Classical in
theorem okD_dec {n : Nat} {d e : PyData} (hd : okD n d = true) (he : okD n e = true) : PyData.eqv d e = decide (d = e) := by
  have := okD_eqv n d e hd he
  cases h : PyData.eqv d e with
  | true => rw [decide_eq_true (this.mp h)]
  | false => exact (decide_eq_false (fun z => by rw [this.mpr z] at h; cases h)).symm
end DL
set_option maxRecDepth 100000
namespace DL
open PySem L2
/-! ### lists of slots and cells, item by item -/
def setV (ρ : Rv) (i : Nat) (o : Option Cv) (K : Rv → Prop) : Prop := K (ρ.set i o)
def setC (C : Cs) (i : Nat) (o : Cell) (K : Cs → Prop) : Prop := K (C.set i o)
def newC (C : Cs) (n : Nat) (c : Cell) (K : Nat → Cs → Prop) : Prop := K (C.length + n) (C ++ [c])
theorem k_look0 {s : Cv} {r : Rv} {K : Cv → Prop} (h : K s) : look (some s :: r) 0 K := h
theorem k_look1 {o : Option Cv} {r : Rv} {n : Nat} {K : Cv → Prop} (h : look r n K) : look (o :: r) (n + 1) K := by cases o <;> exact h
theorem k_setV0 {a o : Option Cv} {r : Rv} {K : Rv → Prop} (h : K (o :: r)) : setV (a :: r) 0 o K := h
theorem k_setV1 {a o : Option Cv} {r : Rv} {n : Nat} {K : Rv → Prop} (h : setV r n o fun r' => K (a :: r')) : setV (a :: r) (n + 1) o K := h
theorem k_setC0 {a o : Cell} {r : Cs} {K : Cs → Prop} (h : K (o :: r)) : setC (a :: r) 0 o K := h
theorem k_setC1 {a o : Cell} {r : Cs} {n : Nat} {K : Cs → Prop} (h : setC r n o fun r' => K (a :: r')) : setC (a :: r) (n + 1) o K := h
theorem k_new0 {c : Cell} {n : Nat} {K : Nat → Cs → Prop} (h : K n [c]) : newC [] n c K := by unfold newC; rw [List.length_nil, Nat.zero_add]; exact h
theorem k_new1 {a c : Cell} {r : Cs} {n : Nat} {K : Nat → Cs → Prop} (h : newC r (n + 1) c fun m r' => K m (a :: r')) : newC (a :: r) n c K := by
  unfold newC at h ⊢
  rw [List.length_cons, Nat.add_right_comm]; exact h
/-! what is asked of a step -/
abbrev opW (g : PyData → PyData → PyData → Prop) (d e : PyData) (K : PyData → Prop) : Prop := ∃ z, g d e z ∧ K z
abbrev opB (g : PyData → PyData → PyData → Prop) (d e : PyData) (K : Bool → Prop) : Prop := ∃ x, g d e (.bool x) ∧ K x
abbrev unW (g : PyData → PyData → Prop) (d : PyData) (K : PyData → Prop) : Prop := ∃ z, g d z ∧ K z
abbrev biW (g : List PyData → PyData → Prop) (ds : List PyData) (K : PyData → Prop) : Prop := ∃ z, g ds z ∧ K z
abbrev opM (g : PyData → List PyData → PyData → Prop) (y : Str) (ds : List PyData) (K : PyData → Prop) : Prop := ∃ z, g (.str y) ds z ∧ K z
abbrev slW (d : PyData) (lo hi : Option Int) (K : PyData → Prop) : Prop := ∃ z, SlD d lo hi z ∧ K z
def shortW {α : Type} (ds : List α) (A : Prop) : Prop := Nat.ble ds.length 100000 = true ∧ A
def rdC (C : Cs) (n : Nat) (K : PyData → Prop) : Prop := match C[n]? with
  | some (.lst ds) => K (.list ds)
  | some (.frz d) => K d
  | _ => False
def setI (ds : List PyData) (j : Int) (d : PyData) (K : List PyData → Prop) : Prop := ∃ m, ixN ds.length j = some m ∧ K (ds.set m d)
def itC (C : Cs) (n m : Nat) (K : List Cv → (Cs → Prop) → Prop) : Prop := match C[n]? with
  | some (.lst ds) => K (ds.map .d) fun C' => C'[m]? = some (.lst ds)
  | some (.rfs ss) => K ss fun C' => C'[m]? = some (.rfs ss)
  | some (.frz (.list ds)) => K (ds.map .d) fun _ => True
  | _ => False
def rdKC (C : Cs) (n m : Nat) (K : PyData → (Cs → Prop) → Prop) : Prop := match C[n]? with
  | some (.lst ds) => K (.list ds) fun C' => C'[m]? = some (.lst ds)
  | some (.frz d) => K d fun _ => True
  | _ => False
def fzC (C : Cs) (n : Nat) (K : PyData → Cs → Prop) : Prop := match C[n]? with
  | some (.lst ds) => K (.list ds) (C.set n (.frz (.list ds)))
  | some (.frz d) => K d C
  | _ => False
theorem k_xVar {X : Xp} {ρ : Rv} {C : Cs} {P : Cv → Cs → Prop} {i : Nat} (h : look ρ i fun s => P s C) : (xVar i).wp X ρ C P := h
theorem k_xRaw {X : Xp} {ρ : Rv} {C : Cs} {P : Cv → Cs → Prop} {v : V} (h : P (.v v) C) : (xRaw v).wp X ρ C P := h
theorem k_xInt {X : Xp} {ρ : Rv} {C : Cs} {P : Cv → Cs → Prop} {i : Int} (h : P (.d (.int i)) C) : (xInt i).wp X ρ C P := h
theorem k_xStr {X : Xp} {ρ : Rv} {C : Cs} {P : Cv → Cs → Prop} {i : Str} (h : P (.d (.str i)) C) : (xStr i).wp X ρ C P := h
theorem k_xBl {X : Xp} {ρ : Rv} {C : Cs} {P : Cv → Cs → Prop} {i : Bool} (h : P (.d (.bool i)) C) : (xBl i).wp X ρ C P := h
theorem k_xNon {X : Xp} {ρ : Rv} {C : Cs} {P : Cv → Cs → Prop} (h : P (.d .none) C) : xNon.wp X ρ C P := h
theorem k_xOp {X : Xp} {ρ : Rv} {C : Cs} {P : Cv → Cs → Prop} {g : PyData → PyData → PyData → Prop} {a b : XE} (h : a.wp X ρ C fun s C1 => b.wp X ρ C1 fun t C2 => rd C2 s fun d => rd C2 t fun e => opW g d e fun z => P (.d z) C2) : (xOp g a b).wp X ρ C P := h
theorem k_xUn {X : Xp} {ρ : Rv} {C : Cs} {P : Cv → Cs → Prop} {g : PyData → PyData → Prop} {a : XE} (h : a.wp X ρ C fun s C1 => rd C1 s fun d => unW g d fun z => P (.d z) C1) : (xUn g a).wp X ρ C P := h
theorem k_xBi {X : Xp} {ρ : Rv} {C : Cs} {P : Cv → Cs → Prop} {g : List PyData → PyData → Prop} {a : XA} (h : a.wp X ρ C fun ss C1 => rds C1 ss fun ds => biW g ds fun z => P (.d z) C1) : (xBi g a).wp X ρ C P := h
theorem k_xIsN {X : Xp} {ρ : Rv} {C : Cs} {P : Cv → Cs → Prop} {a : XE} (h : a.wp X ρ C fun s C1 => P (.d (.bool (isNonC s))) C1) : (xIsN a).wp X ρ C P := h
theorem k_xNotN {X : Xp} {ρ : Rv} {C : Cs} {P : Cv → Cs → Prop} {a : XE} (h : a.wp X ρ C fun s C1 => P (.d (.bool (!isNonC s))) C1) : (xNotN a).wp X ρ C P := h
theorem k_xNot {X : Xp} {ρ : Rv} {C : Cs} {P : Cv → Cs → Prop} {a : XE} (h : a.wp X ρ C fun s C1 => isB s fun b => P (.d (.bool (!b))) C1) : (xNot a).wp X ρ C P := h
theorem k_xAnd {X : Xp} {ρ : Rv} {C : Cs} {P : Cv → Cs → Prop} {a b : XE} (h : a.wp X ρ C fun s C1 => isB s fun x => (x = true → b.wp X ρ C1 P) ∧ (x = false → P (.d (.bool false)) C1)) : (xAnd a b).wp X ρ C P := h
theorem k_xOr {X : Xp} {ρ : Rv} {C : Cs} {P : Cv → Cs → Prop} {a b : XE} (h : a.wp X ρ C fun s C1 => isB s fun x => (x = false → b.wp X ρ C1 P) ∧ (x = true → P (.d (.bool true)) C1)) : (xOr a b).wp X ρ C P := h
theorem k_xChain {X : Xp} {ρ : Rv} {C : Cs} {P : Cv → Cs → Prop} {g g' : PyData → PyData → PyData → Prop} {a b c : XE} (h : a.wp X ρ C fun s C1 => b.wp X ρ C1 fun t C2 => rd C2 s fun d => rd C2 t fun e => opB g d e fun x => (x = true → c.wp X ρ C2 fun u C3 => rd C3 t fun e' => rd C3 u fun f => opB g' e' f fun y => P (.d (.bool y)) C3) ∧ (x = false → P (.d (.bool false)) C2)) : (xChain g g' a b c).wp X ρ C P := h
theorem k_xIf {X : Xp} {ρ : Rv} {C : Cs} {P : Cv → Cs → Prop} {c : XT} {a b : XE} (h : c.wp X ρ C fun x C1 => (x = true → a.wp X ρ C1 P) ∧ (x = false → b.wp X ρ C1 P)) : (xIf c a b).wp X ρ C P := h
theorem k_xTup {X : Xp} {ρ : Rv} {C : Cs} {P : Cv → Cs → Prop} {a : XA} (h : a.wp X ρ C fun ss C1 => fzs C1 ss fun ds C2 => shortW ds (P (.d (.tuple ds)) C2)) : (xTup a).wp X ρ C P := h
theorem k_xLst {X : Xp} {ρ : Rv} {C : Cs} {P : Cv → Cs → Prop} {a : XA} (h : a.wp X ρ C fun ss C1 => fzs C1 ss fun ds C2 => shortW ds (P (.d (.list ds)) C2)) : (xLst a).wp X ρ C P := h
theorem k_xLstC {X : Xp} {ρ : Rv} {C : Cs} {P : Cv → Cs → Prop} {a : XA} (h : a.wp X ρ C fun ss C1 => fzs C1 ss fun ds C2 => shortW ds (newC C2 0 (.lst ds) fun n C3 => P (.c n) C3)) : (xLstC a).wp X ρ C P := h
theorem k_xLstR {X : Xp} {ρ : Rv} {C : Cs} {P : Cv → Cs → Prop} {a : XA} (h : a.wp X ρ C fun ss C1 => shortW ss (newC C1 0 (.rfs ss) fun n C3 => P (.c n) C3)) : (xLstR a).wp X ρ C P := h
theorem k_xListC {X : Xp} {ρ : Rv} {C : Cs} {P : Cv → Cs → Prop} {a : XE} (h : a.wp X ρ C fun s C1 => rd C1 s fun d => seqD d fun ds => newC C1 0 (.lst ds) fun n C2 => P (.c n) C2) : (xListC a).wp X ρ C P := h
theorem k_xListD {X : Xp} {ρ : Rv} {C : Cs} {P : Cv → Cs → Prop} {a : XE} (h : a.wp X ρ C fun s C1 => rd C1 s fun d => seqD d fun ds => P (.d (.list ds)) C1) : (xListD a).wp X ρ C P := h
theorem k_xSl {X : Xp} {ρ : Rv} {C : Cs} {P : Cv → Cs → Prop} {a : XE} {l u : XO} (h : a.wp X ρ C fun s C1 => l.wp X ρ C1 fun lo C2 => u.wp X ρ C2 fun hi C3 => rd C3 s fun d => slW d lo hi fun z => P (.d z) C3) : (xSl a l u).wp X ρ C P := h
theorem k_xBm {X : Xp} {ρ : Rv} {C : Cs} {P : Cv → Cs → Prop} {g : PyData → List PyData → PyData → Prop} {a : XE} {b : XA} (h : a.wp X ρ C fun s C1 => ∃ y, s = .d (.str y) ∧ b.wp X ρ C1 fun ss C2 => rds C2 ss fun ds => opM g y ds fun z => P (.d z) C2) : (xBm g a b).wp X ρ C P := h
theorem k_xBm0 {X : Xp} {ρ : Rv} {C : Cs} {P : Cv → Cs → Prop} {g : PyData → List PyData → PyData → Prop} {a : XE} (h : a.wp X ρ C fun s C1 => ∃ y, s = .d (.str y) ∧ opM g y [] fun z => P (.d z) C1) : (xBm0 g a).wp X ρ C P := h
theorem k_xLc {X : Xp} {ρ : Rv} {C : Cs} {P : Cv → Cs → Prop} {it : XI} {g : XG} {c : XT} {e : XE} {vs : List Nat} (hv : subB g.ns vs = true) (h : it.wp X ρ C fun ds keep C1 => ds.length ≤ 100000 ∧ compW g c e vs X keep ds ρ C1 [] fun acc C2 => P (.d (.list acc)) C2) : (xLc it g c e vs).wp X ρ C P := ⟨hv, h⟩
theorem k_xLcC {X : Xp} {ρ : Rv} {C : Cs} {P : Cv → Cs → Prop} {it : XI} {g : XG} {c : XT} {e : XE} {vs : List Nat} (hv : subB g.ns vs = true) (h : it.wp X ρ C fun ds keep C1 => ds.length ≤ 100000 ∧ compW g c e vs X keep ds ρ C1 [] fun acc C2 => newC C2 0 (.lst acc) fun n C3 => P (.c n) C3) : (xLcC it g c e vs).wp X ρ C P := ⟨hv, h⟩
theorem k_xCall {X : Xp} {ρ : Rv} {C : Cs} {P : Cv → Cs → Prop} {A : Pw} {a : XA} (h : a.wp X ρ C fun ss C1 => callW A (fun _ _ => False) C1 ss P) : (xCall A a).wp X ρ C P := h
theorem k_xAppend {X : Xp} {ρ : Rv} {C : Cs} {P : Cv → Cs → Prop} {o a : XE} (h : o.wp X ρ C fun s C1 => isC s fun n => anyL C1 n (a.wp X ρ C1 fun t C2 => appW C2 n t fun C3 => P (.d .none) C3)) : (xAppend o a).wp X ρ C P := h
theorem k_xExtend {X : Xp} {ρ : Rv} {C : Cs} {P : Cv → Cs → Prop} {o a : XE} (h : o.wp X ρ C fun s C1 => isC s fun n => anyL C1 n (a.wp X ρ C1 fun t C2 => isC t fun m => extW C2 n m fun C3 => P (.d .none) C3)) : (xExtend o a).wp X ρ C P := h
theorem k_xClear {X : Xp} {ρ : Rv} {C : Cs} {P : Cv → Cs → Prop} {o : XE} (h : o.wp X ρ C fun s C1 => isC s fun n => lstAt C1 n fun _ => setC C1 n (.lst []) fun C2 => P (.d .none) C2) : (xClear o).wp X ρ C P := h
theorem k_xReverse {X : Xp} {ρ : Rv} {C : Cs} {P : Cv → Cs → Prop} {o : XE} (h : o.wp X ρ C fun s C1 => isC s fun n => lstAt C1 n fun ds => setC C1 n (.lst ds.reverse) fun C2 => P (.d .none) C2) : (xReverse o).wp X ρ C P := h
theorem k_xPop {X : Xp} {ρ : Rv} {C : Cs} {P : Cv → Cs → Prop} {o : XE} (h : o.wp X ρ C fun s C1 => isC s fun n => lstAt C1 n fun ds => ∃ d, ds[ds.length - 1]? = some d ∧ setC C1 n (.lst ds.dropLast) fun C2 => P (.d d) C2) : (xPop o).wp X ρ C P := h
theorem k_xIsi {X : Xp} {ρ : Rv} {C : Cs} {P : Cv → Cs → Prop} {a : XE} {T : String} (hT : decide (T ∈ goodT) = true) (h : a.wp X ρ C fun s C1 => rd C1 s fun d => P (.d (.bool (isD T d))) C1) : (xIsi a T).wp X ρ C P := ⟨hT, h⟩
theorem k_xIsiT {X : Xp} {ρ : Rv} {C : Cs} {P : Cv → Cs → Prop} {a : XE} {Ts : List String} (hT : decide (∀ T ∈ Ts, T ∈ goodT) = true) (hl : decide (Ts.length ≤ 100000) = true) (h : a.wp X ρ C fun s C1 => rd C1 s fun d => P (.d (.bool (Ts.any fun T => isD T d))) C1) : (xIsiT a Ts).wp X ρ C P := ⟨⟨hT, hl⟩, h⟩
theorem k_xFmt {X : Xp} {ρ : Rv} {C : Cs} {P : Cv → Cs → Prop} {a : XE} (h : a.wp X ρ C fun s C1 => fmtD s fun y => P (.d (.str y)) C1) : (xFmt a).wp X ρ C P := h
theorem k_xFs {X : Xp} {ρ : Rv} {C : Cs} {P : Cv → Cs → Prop} {es : List XE} (h : fsW es X ρ Str.empty C fun out C1 => P (.d (.str out)) C1) : (xFs es).wp X ρ C P := h
theorem k_fs0 {X : Xp} {ρ : Rv} {C : Cs} {acc : Str} {P : Str → Cs → Prop} (h : P acc C) : fsW [] X ρ acc C P := h
theorem k_fs1 {X : Xp} {ρ : Rv} {C : Cs} {acc : Str} {P : Str → Cs → Prop} {e : XE} {es : List XE} (h : e.wp X ρ C fun s C1 => ∃ y, s = .d (.str y) ∧ (acc ++ y).length ≤ sizeLine ∧ fsW es X ρ (acc ++ y) C1 P) : fsW (e :: es) X ρ acc C P := h
theorem k_xFz {X : Xp} {ρ : Rv} {C : Cs} {P : Cv → Cs → Prop} {a : XE} (h : a.wp X ρ C fun s C1 => fz C1 s fun d C2 => P (.d d) C2) : (xFz a).wp X ρ C P := h
theorem k_xTest {X : Xp} {ρ : Rv} {C : Cs} {P : Bool → Cs → Prop} {a : XE} (h : a.wp X ρ C fun s C1 => isB s fun b => P b C1) : (xTest a).wp X ρ C P := h
theorem k_xB {X : Xp} {ρ : Rv} {C : Cs} {P : Bool → Cs → Prop} {a : XE} (h : a.wp X ρ C fun s C1 => isB s fun b => P b C1) : (xB a).wp X ρ C P := h
theorem k_xTNot {X : Xp} {ρ : Rv} {C : Cs} {P : Bool → Cs → Prop} {a : XT} (h : a.wp X ρ C fun b C1 => P (!b) C1) : (xTNot a).wp X ρ C P := h
theorem k_xTAnd {X : Xp} {ρ : Rv} {C : Cs} {P : Bool → Cs → Prop} {a b : XT} (h : a.wp X ρ C fun x C1 => (x = true → b.wp X ρ C1 P) ∧ (x = false → P false C1)) : (xTAnd a b).wp X ρ C P := h
theorem k_xTOr {X : Xp} {ρ : Rv} {C : Cs} {P : Bool → Cs → Prop} {a b : XT} (h : a.wp X ρ C fun x C1 => (x = false → b.wp X ρ C1 P) ∧ (x = true → P true C1)) : (xTOr a b).wp X ρ C P := h
theorem k_xYes {X : Xp} {ρ : Rv} {C : Cs} {P : Bool → Cs → Prop} (h : P true C) : xYes.wp X ρ C P := h
theorem k_xNil {X : Xp} {ρ : Rv} {C : Cs} {P : List Cv → Cs → Prop} (h : P [] C) : xNil.wp X ρ C P := h
theorem k_xCons {X : Xp} {ρ : Rv} {C : Cs} {P : List Cv → Cs → Prop} {a : XE} {b : XA} (h : a.wp X ρ C fun s C1 => b.wp X ρ C1 fun ss C2 => P (s :: ss) C2) : (xCons a b).wp X ρ C P := h
theorem k_xNoPart {X : Xp} {ρ : Rv} {C : Cs} {P : Option Int → Cs → Prop} (h : P none C) : xNoPart.wp X ρ C P := h
theorem k_xPart {X : Xp} {ρ : Rv} {C : Cs} {P : Option Int → Cs → Prop} {a : XE} (h : a.wp X ρ C fun s C1 => ∃ i, s = .d (.int i) ∧ P (some i) C1) : (xPart a).wp X ρ C P := h
theorem k_xiSeq {X : Xp} {ρ : Rv} {C : Cs} {P : List Cv → (Cs → Prop) → Cs → Prop} {a : XE} (h : a.wp X ρ C fun s C1 => itV C1 s fun ds keep => P ds keep C1) : (xiSeq a).wp X ρ C P := h
theorem k_xiRng1 {X : Xp} {ρ : Rv} {C : Cs} {P : List Cv → (Cs → Prop) → Cs → Prop} {a : XE} (h : a.wp X ρ C fun s C1 => ∃ n : Int, s = .d (.int n) ∧ (-(2 ^ 62) ≤ n ∧ n < 2 ^ 62) ∧ P (rngV 0 n.toNat) (fun _ => True) C1) : (xiRng1 a).wp X ρ C P := h
theorem k_xiZip {X : Xp} {ρ : Rv} {C : Cs} {P : List Cv → (Cs → Prop) → Cs → Prop} {a b : XE} (h : a.wp X ρ C fun s C1 => b.wp X ρ C1 fun t C2 => rdK C2 s fun d k1 => rdK C2 t fun e k2 => zipD d e fun ps => P (ps.map .d) (fun C' => k1 C' ∧ k2 C') C2) : (xiZip a b).wp X ρ C P := h
theorem k_xsSeq {X : Xp} {ρ : Rv} {C : Cs} {P : Pt} {a b : XS} (h : a.wp X ρ C ⟨fun ρ' C' => b.wp X ρ' C' P, P.R, P.B, P.C⟩) : (xsSeq a b).wp X ρ C P := ⟨_, h, fun _ _ h => .inl h⟩
theorem k_xsNext {X : Xp} {ρ : Rv} {C : Cs} {P : Pt} (h : P.N ρ C) : xsNext.wp X ρ C P := h
theorem k_xsBreak {X : Xp} {ρ : Rv} {C : Cs} {P : Pt} (h : P.B ρ C) : xsBreak.wp X ρ C P := h
theorem k_xsCont {X : Xp} {ρ : Rv} {C : Cs} {P : Pt} (h : P.C ρ C) : xsCont.wp X ρ C P := h
theorem k_xsAsg {X : Xp} {ρ : Rv} {C : Cs} {P : Pt} {a : XE} {g : XG} (h : a.wp X ρ C fun s C1 => g.wp C1 s ρ fun ρ1 => P.N ρ1 C1) : (xsAsg a g).wp X ρ C P := h
theorem k_xsRet {X : Xp} {ρ : Rv} {C : Cs} {P : Pt} {a : XE} (h : a.wp X ρ C P.R) : (xsRet a).wp X ρ C P := h
theorem k_xsRetN {X : Xp} {ρ : Rv} {C : Cs} {P : Pt} (h : P.R (.d .none) C) : xsRetN.wp X ρ C P := h
theorem k_xsDrop {X : Xp} {ρ : Rv} {C : Cs} {P : Pt} {a : XE} (h : a.wp X ρ C fun _ C1 => P.N ρ C1) : (xsDrop a).wp X ρ C P := h
theorem k_xsIf {X : Xp} {ρ : Rv} {C : Cs} {P : Pt} {c : XT} {a b : XS} (h : c.wp X ρ C fun x C1 => (x = true → a.wp X ρ C1 P) ∧ (x = false → b.wp X ρ C1 P)) : (xsIf c a b).wp X ρ C P := h
theorem k_xsPar {X : Xp} {ρ : Rv} {C : Cs} {P : Pt} {i j : Nat} {a : XA} (h : a.wp X ρ C fun ss C1 => two ss fun s t => setV ρ i (some s) fun ρ1 => setV ρ1 j (some t) fun ρ2 => P.N ρ2 C1) : (xsPar i j a).wp X ρ C P := h
theorem k_xsPar3 {X : Xp} {ρ : Rv} {C : Cs} {P : Pt} {i j l : Nat} {a : XA} (h : a.wp X ρ C fun ss C1 => three ss fun s t u => setV ρ i (some s) fun ρ1 => setV ρ1 j (some t) fun ρ2 => setV ρ2 l (some u) fun ρ3 => P.N ρ3 C1) : (xsPar3 i j l a).wp X ρ C P := h
theorem k_xsFor {X : Xp} {ρ : Rv} {C : Cs} {P : Pt} {it : XI} {g : XG} {b : XS} (h : it.wp X ρ C fun ds keep C1 => forW g b X keep C1.length ds ρ C1 P) : (xsFor it g b).wp X ρ C P := h
theorem k_xsWhile {X : Xp} {ρ : Rv} {C : Cs} {P : Pt} {c : XT} {b : XS} (h : whileW c b X C.length ρ C P) : (xsWhile c b).wp X ρ C P := h
theorem k_xsSetItem {X : Xp} {ρ : Rv} {C : Cs} {P : Pt} {e o i : XE} (h : e.wp X ρ C fun s C1 => o.wp X ρ C1 fun t C2 => isC t fun n => i.wp X ρ C2 fun u C3 => ∃ j, u = .d (.int j) ∧ fz C3 s fun d C4 => lstAt C4 n fun ds => setI ds j d fun es => setC C4 n (.lst es) fun C5 => P.N ρ C5) : (xsSetItem e o i).wp X ρ C P := h
theorem k_xsOpen {X : Xp} {ρ : Rv} {C : Cs} {P : Pt} {i : Nat} {b : XS} (h : boxAt C i fun l n => ∀ (x y : Int) (d : PyData), boxD l d → 0 ≤ x → 0 ≤ y → y ≤ n → setC C i (.lst [.int x, d, .int y]) fun C1 => b.wp X ρ C1 P) : (xsOpen i b).wp X ρ C P := h
theorem k_xgName {C : Cs} {s : Cv} {ρ : Rv} {P : Rv → Prop} {i : Nat} (h : setV ρ i (some s) P) : (xgName i).wp C s ρ P := h
theorem k_xgTup {C : Cs} {s : Cv} {ρ : Rv} {P : Rv → Prop} {a : XGs} (h : tupD s fun ds => ds.length = a.len ∧ a.wp C (ds.map .d) ρ P) : (xgTup a).wp C s ρ P := h

/-! ### what is asked of values -/
theorem k_rdd {C : Cs} {d : PyData} {K : PyData → Prop} (h : K d) : rd C (.d d) K := h
theorem k_rdc {C : Cs} {n : Nat} {K : PyData → Prop} (h : rdC C n K) : rd C (.c n) K := by
  unfold rdC at h
  show (match C[n]? with
    | some (.lst ds) => K (.list ds)
    | some (.frz d) => K d
    | _ => False)
  exact h
theorem k_rdC0 {ds : List PyData} {r : Cs} {K : PyData → Prop} (h : K (.list ds)) : rdC (.lst ds :: r) 0 K := h
theorem k_rdC0f {d : PyData} {r : Cs} {K : PyData → Prop} (h : K d) : rdC (.frz d :: r) 0 K := h
theorem k_rdC1 {c : Cell} {r : Cs} {n : Nat} {K : PyData → Prop} (h : rdC r n K) : rdC (c :: r) (n + 1) K := h
theorem k_rds0 {C : Cs} {K : List PyData → Prop} (h : K []) : rds C [] K := h
theorem k_rds1 {C : Cs} {s : Cv} {ss : List Cv} {K : List PyData → Prop} (h : rd C s fun d => rds C ss fun ds => K (d :: ds)) : rds C (s :: ss) K := h
theorem k_fzd {C : Cs} {d : PyData} {K : PyData → Cs → Prop} (h : K d C) : fz C (.d d) K := h
theorem k_fzc {C : Cs} {n : Nat} {K : PyData → Cs → Prop} (h : fzC C n K) : fz C (.c n) K := h
theorem k_fzC0 {ds : List PyData} {r : Cs} {K : PyData → Cs → Prop} (h : K (.list ds) (.frz (.list ds) :: r)) : fzC (.lst ds :: r) 0 K := h
theorem k_fzC0f {d : PyData} {r : Cs} {K : PyData → Cs → Prop} (h : K d (.frz d :: r)) : fzC (.frz d :: r) 0 K := h
theorem k_fzC1 {c : Cell} {r : Cs} {n : Nat} {K : PyData → Cs → Prop} (h : fzC r n fun d r' => K d (c :: r')) : fzC (c :: r) (n + 1) K := by
  unfold fzC at h ⊢
  show (match (r)[n]? with
    | some (.lst ds) => K (.list ds) (c :: r.set n (.frz (.list ds)))
    | some (.frz d) => K d (c :: r)
    | _ => False)
  exact h
theorem k_fzs0 {C : Cs} {K : List PyData → Cs → Prop} (h : K [] C) : fzs C [] K := h
theorem k_fzs1 {C : Cs} {s : Cv} {ss : List Cv} {K : List PyData → Cs → Prop} (h : fz C s fun d C1 => fzs C1 ss fun ds C2 => K (d :: ds) C2) : fzs C (s :: ss) K := h
theorem k_short {α : Type} {ds : List α} {A : Prop} (h : A) (l : Nat.ble ds.length 100000 = true) : shortW ds A := ⟨l, h⟩
theorem k_isB {b : Bool} {K : Bool → Prop} (h : K b) : isB (.d (.bool b)) K := h
theorem k_isC {n : Nat} {K : Nat → Prop} (h : K n) : isC (.c n) K := h
theorem k_isS {y : Str} {K : Str → Prop} (h : K y) : ∃ z, Cv.d (.str y) = .d (.str z) ∧ K z := ⟨y, rfl, h⟩
theorem k_two {a b : Cv} {K : Cv → Cv → Prop} (h : K a b) : two [a, b] K := h
theorem k_three {a b c : Cv} {K : Cv → Cv → Cv → Prop} (h : K a b c) : three [a, b, c] K := h
theorem k_tupD {ds : List PyData} {K : List PyData → Prop} (h : K ds) : tupD (.d (.tuple ds)) K := h
theorem k_seqL {ds : List PyData} {K : List PyData → Prop} (h : K ds) : seqD (.list ds) K := h
theorem k_seqT {ds : List PyData} {K : List PyData → Prop} (h : K ds) : seqD (.tuple ds) K := h
theorem k_itL {C : Cs} {ds : List PyData} {K : List Cv → (Cs → Prop) → Prop} (h : K (ds.map .d) fun _ => True) : itV C (.d (.list ds)) K := h
theorem k_itT {C : Cs} {ds : List PyData} {K : List Cv → (Cs → Prop) → Prop} (h : K (ds.map .d) fun _ => True) : itV C (.d (.tuple ds)) K := h
theorem k_itS {C : Cs} {x : Str} {K : List Cv → (Cs → Prop) → Prop} (h : K (x.cps.toList.map fun c => .d (.str ⟨#[c]⟩)) fun _ => True) : itV C (.d (.str x)) K := h
theorem k_setI0 {a d : PyData} {r : List PyData} {K : List PyData → Prop} (h : K (d :: r)) : setI (a :: r) 0 d K := ⟨0, by unfold ixN; rw [if_pos (by decide), if_pos (by rw [List.length_cons]; omega)]; rfl, h⟩
theorem k_setI1 {a b d : PyData} {r : List PyData} {K : List PyData → Prop} (h : K (a :: d :: r)) : setI (a :: b :: r) 1 d K := ⟨1, by unfold ixN; rw [if_pos (by decide), if_pos (by rw [List.length_cons, List.length_cons]; omega)]; rfl, h⟩
theorem k_setI2 {a b c d : PyData} {r : List PyData} {K : List PyData → Prop} (h : K (a :: b :: d :: r)) : setI (a :: b :: c :: r) 2 d K := ⟨2, by unfold ixN; rw [if_pos (by decide), if_pos (by rw [List.length_cons, List.length_cons, List.length_cons]; omega)]; rfl, h⟩
theorem k_wipe0 {ρ : Rv} {i : Nat} {o : Option Cv} {K : Rv → Prop} (h : setV ρ i o K) : setV (wipeV ρ []) i o K := h
theorem k_wipe1 {ρ : Rv} {i v : Nat} {vs : List Nat} {o : Option Cv} {K : Rv → Prop} (h : setV (wipeV ρ vs) v none fun r => setV r i o K) : setV (wipeV ρ (v :: vs)) i o K := h
theorem fm_some {α β : Type} (f : α → β) (xs : List α) : xs.filterMap (fun a => some (f a)) = xs.map f := by
  induction xs with
  | nil => rfl
  | cons x xs ih => rw [List.filterMap_cons, ih]; rfl
theorem k_PN {N B D : Rv → Cs → Prop} {R : Cv → Cs → Prop} {r : Rv} {c : Cs} (h : N r c) : Pt.N ⟨N, R, B, D⟩ r c := h
theorem k_PR {N B D : Rv → Cs → Prop} {R : Cv → Cs → Prop} {r : Cv} {c : Cs} (h : R r c) : Pt.R ⟨N, R, B, D⟩ r c := h
theorem k_PB {N B D : Rv → Cs → Prop} {R : Cv → Cs → Prop} {r : Rv} {c : Cs} (h : B r c) : Pt.B ⟨N, R, B, D⟩ r c := h
theorem k_PC {N B D : Rv → Cs → Prop} {R : Cv → Cs → Prop} {r : Rv} {c : Cs} (h : D r c) : Pt.C ⟨N, R, B, D⟩ r c := h
theorem k_itc {C : Cs} {n : Nat} {K : List Cv → (Cs → Prop) → Prop} (h : itC C n n K) : itV C (.c n) K := by
  unfold itC at h
  unfold itV
  dsimp only
  cases e : C[n]? with
  | none => rw [e] at h; exact h.elim
  | some c => rw [e] at h; cases c <;> exact h
theorem k_itC0 {ds : List PyData} {r : Cs} {m : Nat} {K : List Cv → (Cs → Prop) → Prop} (h : K (ds.map .d) fun C' => C'[m]? = some (.lst ds)) : itC (.lst ds :: r) 0 m K := h
theorem k_itC0r {ss : List Cv} {r : Cs} {m : Nat} {K : List Cv → (Cs → Prop) → Prop} (h : K ss fun C' => C'[m]? = some (.rfs ss)) : itC (.rfs ss :: r) 0 m K := h
theorem k_itC0f {ds : List PyData} {r : Cs} {m : Nat} {K : List Cv → (Cs → Prop) → Prop} (h : K (ds.map .d) fun _ => True) : itC (.frz (.list ds) :: r) 0 m K := h
theorem k_itC1 {c : Cell} {r : Cs} {n m : Nat} {K : List Cv → (Cs → Prop) → Prop} (h : itC r n m K) : itC (c :: r) (n + 1) m K := h
theorem k_rdKc {C : Cs} {n : Nat} {K : PyData → (Cs → Prop) → Prop} (h : rdKC C n n K) : rdK C (.c n) K := h
theorem k_rdKC0 {ds : List PyData} {r : Cs} {m : Nat} {K : PyData → (Cs → Prop) → Prop} (h : K (.list ds) fun C' => C'[m]? = some (.lst ds)) : rdKC (.lst ds :: r) 0 m K := h
theorem k_rdKC0f {d : PyData} {r : Cs} {m : Nat} {K : PyData → (Cs → Prop) → Prop} (h : K d fun _ => True) : rdKC (.frz d :: r) 0 m K := h
theorem k_rdKC1 {c : Cell} {r : Cs} {n m : Nat} {K : PyData → (Cs → Prop) → Prop} (h : rdKC r n m K) : rdKC (c :: r) (n + 1) m K := h
theorem k_rdKd {C : Cs} {d : PyData} {K : PyData → (Cs → Prop) → Prop} (h : K d fun _ => True) : rdK C (.d d) K := h
theorem k_zipL {ds es : List PyData} {K : List PyData → Prop} (h : K ((ds.zip es).map fun p => .tuple [p.1, p.2])) : zipD (.list ds) (.list es) K := h
theorem k_zipT {ds es : List PyData} {K : List PyData → Prop} (h : K ((ds.zip es).map fun p => .tuple [p.1, p.2])) : zipD (.tuple ds) (.tuple es) K := h
theorem k_fmtS {y : Str} {K : Str → Prop} (l : y.length ≤ sizeLine) (h : K y) : fmtD (.d (.str y)) K := ⟨l, h⟩
theorem k_fmtI {i : Int} {K : Str → Prop} (l : i.natAbs.log2 < 1920) (h : K (toString i)) : fmtD (.d (.int i)) K := ⟨l, h⟩
theorem k_lst0 {ds : List PyData} {r : Cs} {K : List PyData → Prop} (h : K ds) : lstAt (.lst ds :: r) 0 K := h
theorem k_lst1 {c : Cell} {r : Cs} {n : Nat} {K : List PyData → Prop} (h : lstAt r n K) : lstAt (c :: r) (n + 1) K := h
theorem k_any0 {ds : List PyData} {r : Cs} {K : Prop} (h : K) : anyL (.lst ds :: r) 0 K := h
theorem k_any0r {ds : List Cv} {r : Cs} {K : Prop} (h : K) : anyL (.rfs ds :: r) 0 K := h
theorem k_any1 {c : Cell} {r : Cs} {n : Nat} {K : Prop} (h : anyL r n K) : anyL (c :: r) (n + 1) K := h
theorem k_box0 {l : Bool} {n : Nat} {r : Cs} {K : Bool → Nat → Prop} (h : K l n) : boxAt (.box l n :: r) 0 K := h
theorem k_box1 {c : Cell} {r : Cs} {n : Nat} {K : Bool → Nat → Prop} (h : boxAt r n K) : boxAt (c :: r) (n + 1) K := h
theorem k_app0 {ds : List PyData} {r : Cs} {d : PyData} {K : Cs → Prop} (l : ds.length < 100000) (h : K (.lst (ds ++ [d]) :: r)) : appW (.lst ds :: r) 0 (.d d) K := ⟨l, h⟩
theorem k_app0r {ds : List Cv} {r : Cs} {d : Cv} {K : Cs → Prop} (l : ds.length < 100000) (h : K (.rfs (ds ++ [d]) :: r)) : appW (.rfs ds :: r) 0 d K := ⟨l, h⟩
theorem k_app1 {c : Cell} {r : Cs} {n : Nat} {d : PyData} {K : Cs → Prop} (h : appW r n (.d d) fun r' => K (c :: r')) : appW (c :: r) (n + 1) (.d d) K := h
theorem k_ext {C : Cs} {n m : Nat} {K : Cs → Prop} (h : lstAt C n fun ds => lstAt C m fun es => ds.length + es.length ≤ 100000 ∧ setC C n (.lst (ds ++ es)) K) : extW C n m K := by
  unfold lstAt at h
  unfold extW
  cases e : C[n]? with
  | none => rw [e] at h; exact h.elim
  | some c =>
    rw [e] at h
    cases c <;> try exact h.elim
    dsimp only at h
    cases e' : C[m]? with
    | none => rw [e'] at h; exact h.elim
    | some c' =>
      rw [e'] at h
      cases c' <;> try exact h.elim
      exact h
theorem k_exI {a : Int} {K : Int → Prop} (h : K a) : ∃ i, Cv.d (.int a) = Cv.d (.int i) ∧ K i := ⟨a, rfl, h⟩
theorem k_exL {a : List PyData} {K : List PyData → Prop} (h : K a) : ∃ i, PyData.list a = PyData.list i ∧ K i := ⟨a, rfl, h⟩
theorem k_xPopAt {X : Xp} {ρ : Rv} {C : Cs} {P : Cv → Cs → Prop} {o a : XE} (h : o.wp X ρ C fun s C1 => isC s fun n => anyL C1 n (a.wp X ρ C1 fun t C2 => ∃ i : Int, t = .d (.int i) ∧ (-(2 ^ 63) ≤ i ∧ i < 2 ^ 63) ∧ lstAt C2 n fun ds => ∃ j, seqIndex? i ds.length = some j ∧ ∃ d, ds[j]? = some d ∧ setC C2 n (.lst (ds.eraseIdx j)) fun C3 => P (.d d) C3)) : (xPopAt o a).wp X ρ C P := h
theorem k_xCatC {X : Xp} {ρ : Rv} {C : Cs} {P : Cv → Cs → Prop} {a b : XE} (h : a.wp X ρ C fun s C1 => b.wp X ρ C1 fun t C2 => rd C2 s fun d => rd C2 t fun e => ∃ xs, d = .list xs ∧ ∃ ys, e = .list ys ∧ xs.length + ys.length ≤ sizeLine ∧ newC C2 0 (.lst (xs ++ ys)) fun n C3 => P (.c n) C3) : (xCatC a b).wp X ρ C P := h
theorem k_xInsert {X : Xp} {ρ : Rv} {C : Cs} {P : Cv → Cs → Prop} {o a b : XE} (h : o.wp X ρ C fun s C1 => isC s fun n => anyL C1 n (a.wp X ρ C1 fun t C2 => b.wp X ρ C2 fun u C3 => ∃ i : Int, t = .d (.int i) ∧ (0 ≤ i ∧ i < 2 ^ 63) ∧ fz C3 u fun d C4 => lstAt C4 n fun ds => ds.length < 100000 ∧ setC C4 n (.lst (ds.take i.toNat ++ [d] ++ ds.drop i.toNat)) fun C5 => P (.d .none) C5)) : (xInsert o a b).wp X ρ C P := h
theorem k_xiRng2 {X : Xp} {ρ : Rv} {C : Cs} {P : List Cv → (Cs → Prop) → Cs → Prop} {a b : XE} (h : a.wp X ρ C fun s C1 => b.wp X ρ C1 fun t C2 => ∃ m : Int, s = .d (.int m) ∧ ∃ n : Int, t = .d (.int n) ∧ (-(2 ^ 62) ≤ m ∧ m < 2 ^ 62 ∧ -(2 ^ 62) ≤ n ∧ n < 2 ^ 62) ∧ P (rngV m (n - m).toNat) (fun _ => True) C2) : (xiRng2 a b).wp X ρ C P := h
theorem k_xiEnum {X : Xp} {ρ : Rv} {C : Cs} {P : List Cv → (Cs → Prop) → Cs → Prop} {a : XE} (h : a.wp X ρ C fun s C1 => rdK C1 s fun d k1 => ∃ ds, d = .list ds ∧ P ((enumL ds).map .d) k1 C1) : (xiEnum a).wp X ρ C P := h
theorem k_xRevL {X : Xp} {ρ : Rv} {C : Cs} {P : Cv → Cs → Prop} {a : XE} (h : a.wp X ρ C fun s C1 => rd C1 s fun d => ∃ ds, d = .list ds ∧ P (.d (.list ds.reverse)) C1) : (xRevL a).wp X ρ C P := h
theorem k_xRevS {X : Xp} {ρ : Rv} {C : Cs} {P : Cv → Cs → Prop} {a : XE} (h : a.wp X ρ C fun s C1 => ∃ y, s = .d (.str y) ∧ y.length ≤ sizeLine ∧ P (.d (.str (revT y))) C1) : (xRevS a).wp X ρ C P := h
theorem k_gs0 {C : Cs} {ρ : Rv} {P : Rv → Prop} (h : P ρ) : ([] : List PyData).length = xgsNil.len ∧ xgsNil.wp C (([] : List PyData).map .d) ρ P := ⟨rfl, rfl, h⟩
theorem k_gs {C : Cs} {ρ : Rv} {P : Rv → Prop} {a : XGs} {ds : List PyData} (h : a.wp C (ds.map .d) ρ P) (l : ds.length = a.len) : ds.length = a.len ∧ a.wp C (ds.map .d) ρ P := ⟨l, h⟩
theorem k_gs1 {C : Cs} {ρ : Rv} {P : Rv → Prop} {a : XG} {b : XGs} {d : PyData} {ds : List PyData} (h : a.wp C (.d d) ρ fun ρ1 => b.wp C (ds.map .d) ρ1 P) : (xgsCons a b).wp C ((d :: ds).map .d) ρ P := h
theorem k_gs2 {C : Cs} {ρ : Rv} {P : Rv → Prop} (h : P ρ) : xgsNil.wp C (([] : List PyData).map .d) ρ P := ⟨rfl, h⟩
theorem at_0 {α : Type} {a : α} {l : List α} : atI (a :: l) 0 = some a := atI_in (xs := a :: l) (i := 0) (by decide) (by simp)
theorem at_1 {α : Type} {a b : α} {l : List α} : atI (a :: b :: l) 1 = some b := atI_in (xs := a :: b :: l) (i := 1) (by decide) (by simp; omega)
theorem at_2 {α : Type} {a b c : α} {l : List α} : atI (a :: b :: c :: l) 2 = some c := atI_in (xs := a :: b :: c :: l) (i := 2) (by decide) (by simp; omega)
theorem exI_some {α : Type} {a : α} {K : α → Prop} : (∃ z, some a = some z ∧ K z) = K a := propext ⟨fun ⟨_, h, k⟩ => by cases h; exact k, fun h => ⟨_, rfl, h⟩⟩
theorem k_ix0 {a : PyData} {l : List PyData} {K : PyData → Prop} (h : K a) : ∃ z, IxD (.list (a :: l)) (.int 0) z ∧ K z := ⟨a, at_0, h⟩
theorem k_ix1 {a b : PyData} {l : List PyData} {K : PyData → Prop} (h : K b) : ∃ z, IxD (.list (a :: b :: l)) (.int 1) z ∧ K z := ⟨b, at_1, h⟩
theorem k_ix2 {a b c : PyData} {l : List PyData} {K : PyData → Prop} (h : K c) : ∃ z, IxD (.list (a :: b :: c :: l)) (.int 2) z ∧ K z := ⟨c, at_2, h⟩
theorem k_ixT0 {a : PyData} {l : List PyData} {K : PyData → Prop} (h : K a) : ∃ z, IxD (.tuple (a :: l)) (.int 0) z ∧ K z := ⟨a, at_0, h⟩
theorem k_ixT1 {a b : PyData} {l : List PyData} {K : PyData → Prop} (h : K b) : ∃ z, IxD (.tuple (a :: b :: l)) (.int 1) z ∧ K z := ⟨b, at_1, h⟩
theorem k_ixT2 {a b c : PyData} {l : List PyData} {K : PyData → Prop} (h : K c) : ∃ z, IxD (.tuple (a :: b :: c :: l)) (.int 2) z ∧ K z := ⟨c, at_2, h⟩
theorem k_op {g : PyData → PyData → PyData → Prop} {d e z : PyData} {K : PyData → Prop} (hg : g d e z) (h : K z) : ∃ z, g d e z ∧ K z := ⟨z, hg, h⟩
theorem k_opB {g : PyData → PyData → PyData → Prop} {d e : PyData} {x : Bool} {K : Bool → Prop} (hg : g d e (.bool x)) (h : K x) : ∃ x, g d e (.bool x) ∧ K x := ⟨x, hg, h⟩
theorem k_un {g : PyData → PyData → Prop} {d z : PyData} {K : PyData → Prop} (hg : g d z) (h : K z) : ∃ z, g d z ∧ K z := ⟨z, hg, h⟩
theorem k_bi {g : List PyData → PyData → Prop} {d : List PyData} {z : PyData} {K : PyData → Prop} (hg : g d z) (h : K z) : ∃ z, g d z ∧ K z := ⟨z, hg, h⟩
theorem g_slL {a : List PyData} {lo hi : Option Int} : SlD (.list a) lo hi (.list (cutD a lo hi)) := rfl
theorem g_slT {a : List PyData} {lo hi : Option Int} : SlD (.tuple a) lo hi (.tuple (cutD a lo hi)) := rfl
theorem g_slS {a : Str} {lo hi : Option Int} (h : a.length ≤ sizeLine) : SlD (.str a) lo hi (.str (cutS a lo hi)) := ⟨h, rfl⟩
theorem g_eqO (n : Nat) {a b : PyData} (h1 : okD n a = true) (h2 : okD n b = true) (hn : n ≤ 63 := by decide) : EqD a b (.bool (PyData.eqv a b)) := ⟨.inl (okD_shp h1 hn), .inl (okD_shp h2 hn), rfl⟩
theorem g_neO (n : Nat) {a b : PyData} (h1 : okD n a = true) (h2 : okD n b = true) (hn : n ≤ 63 := by decide) : NeD a b (.bool (!PyData.eqv a b)) := ⟨.inl (okD_shp h1 hn), .inl (okD_shp h2 hn), rfl⟩
theorem eqv_same (n : Nat) {a b : PyData} (h1 : okD n a = true) (e : a = b) : PyData.eqv a b = true := (okD_eqv n a b h1 (e ▸ h1)).mpr e
theorem isD_ll {ds : List PyData} : isD "list" (.list ds) = true := rfl
theorem isD_lt {ds : List PyData} : isD "list" (.tuple ds) = false := rfl
theorem isD_li {i : Int} : isD "list" (.int i) = false := rfl
theorem isD_ln : isD "list" .none = false := rfl
theorem isD_lb {b : Bool} : isD "list" (.bool b) = false := rfl
theorem isD_ls {x : Str} : isD "list" (.str x) = false := rfl
theorem isD_tl {ds : List PyData} : isD "tuple" (.list ds) = false := rfl
theorem isD_tt {ds : List PyData} : isD "tuple" (.tuple ds) = true := rfl
theorem isD_ti {i : Int} : isD "tuple" (.int i) = false := rfl
theorem isD_tn : isD "tuple" .none = false := rfl
theorem isD_tb {b : Bool} : isD "tuple" (.bool b) = false := rfl
theorem isD_ts {x : Str} : isD "tuple" (.str x) = false := rfl
theorem isD_il {ds : List PyData} : isD "int" (.list ds) = false := rfl
theorem isD_it {ds : List PyData} : isD "int" (.tuple ds) = false := rfl
theorem isD_ii {i : Int} : isD "int" (.int i) = true := rfl
theorem isD_in : isD "int" .none = false := rfl
theorem isD_ib {b : Bool} : isD "int" (.bool b) = true := rfl
theorem isD_is {x : Str} : isD "int" (.str x) = false := rfl
theorem isD_bl {ds : List PyData} : isD "bool" (.list ds) = false := rfl
theorem isD_bt {ds : List PyData} : isD "bool" (.tuple ds) = false := rfl
theorem isD_bi {i : Int} : isD "bool" (.int i) = false := rfl
theorem isD_bn : isD "bool" .none = false := rfl
theorem isD_bb {b : Bool} : isD "bool" (.bool b) = true := rfl
theorem isD_bs {x : Str} : isD "bool" (.str x) = false := rfl
theorem isD_sl {ds : List PyData} : isD "str" (.list ds) = false := rfl
theorem isD_st {ds : List PyData} : isD "str" (.tuple ds) = false := rfl
theorem isD_si {i : Int} : isD "str" (.int i) = false := rfl
theorem isD_sn : isD "str" .none = false := rfl
theorem isD_sb {b : Bool} : isD "str" (.bool b) = false := rfl
theorem isD_ss {x : Str} : isD "str" (.str x) = true := rfl
theorem g_eqT {a b : Str} : EqD (.str a) (.str b) (.bool (decide (a = b))) := ⟨.inr ⟨rfl, rfl⟩, .inr ⟨rfl, rfl⟩, by rw [eqv_str]⟩
theorem g_neT {a b : Str} : NeD (.str a) (.str b) (.bool (!decide (a = b))) := ⟨.inr ⟨rfl, rfl⟩, .inr ⟨rfl, rfl⟩, by rw [eqv_str]⟩
/-! ### loops by an invariant -/
section
variable {g : XG} {body : XS} {X : Xp} {keep : Cs → Prop} {n0 : Nat} {c : XT} {e : XE} {vs : List Nat} {P : Pt}
theorem forW_inv {ds : List Cv} {ρ : Rv} {C : Cs} (Inv : Nat → Rv → Cs → Prop) (h0 : Inv 0 ρ C) (hk : ∀ i ρ C, Inv i ρ C → keep C)
    (hs : ∀ (i : Nat) s ρ C (K : Rv → Cs → Prop), ds[i]? = some s → Inv i ρ C → (∀ r c, Inv (i + 1) r c → K r c) → g.wp C s ρ fun ρ2 => body.wp X ρ2 C ⟨fun r c => wkn n0 r c K, P.R, P.N, fun r c => wkn n0 r c K⟩)
    (hd : ∀ ρ C, Inv ds.length ρ C → P.N ρ C) : forW g body X keep n0 ds ρ C P := by
  have all : ∀ (es : List Cv) (j : Nat), ds.drop j = es → ∀ ρ C, j + es.length = ds.length → Inv j ρ C → forWr g body X keep n0 es ρ C P := by
    intro es
    induction es with
    | nil =>
      intro j hj ρ C hl iv
      have : j = ds.length := by simpa using hl
      subst this
      exact ⟨hk _ _ _ iv, hd _ _ iv⟩
    | cons s es ih =>
      intro j hj ρ C hl iv
      have hlt : j < ds.length := by rw [List.length_cons] at hl; omega
      rw [List.drop_eq_getElem_cons hlt] at hj
      injection hj with e1 e2
      refine ⟨hk _ _ _ iv, hs j s ρ C _ (by rw [← e1]; exact List.getElem?_eq_getElem hlt) iv fun r c iv' => ?_⟩
      exact ih (j + 1) e2 r c (by rw [List.length_cons] at hl; omega) iv'
  unfold forW
  exact all ds 0 rfl ρ C (by simp) h0
theorem whileW_inv {ρ : Rv} {C : Cs} (Inv : Nat → Rv → Cs → Prop) (m : Nat) (h0 : Inv m ρ C)
    (hs : ∀ m ρ C (K : Rv → Cs → Prop), Inv m ρ C → (∀ m' r c, m' < m → Inv m' r c → K r c) → c.wp X ρ C fun b C1 => (b = true → body.wp X ρ C1 ⟨fun r c => wkn n0 r c K, P.R, P.N, fun r c => wkn n0 r c K⟩) ∧ (b = false → P.N ρ C1)) :
    whileW c body X n0 ρ C P := by
  have all : ∀ n m ρ C, m < n → Inv m ρ C → whileWr c body X n0 n ρ C P := by
    intro n
    induction n with
    | zero => intro m ρ C h; omega
    | succ n ih =>
      intro m ρ C h iv
      exact hs m ρ C _ iv fun m' r c' h' iv' => ih m' r c' (by omega) iv'
  unfold whileW
  exact ⟨m + 1, all (m + 1) m ρ C (Nat.lt_succ_self m) h0⟩
theorem compW_inv {ds : List Cv} {ρ : Rv} {C : Cs} {U : List PyData → Cs → Prop} (Inv : Nat → List PyData → Cs → Prop) (h0 : Inv 0 [] C) (hk : ∀ i acc C, Inv i acc C → keep C)
    (hs : ∀ (i : Nat) s acc C (K : Option PyData → Cs → Prop), ds[i]? = some s → Inv i acc C → (∀ o C', Inv (i + 1) (acc ++ o.toList) C' → K o C') → g.wp C s (wipeV ρ vs) fun ρ2 => c.wp X ρ2 C fun b C1 => (b = true → e.wp X ρ2 C1 fun t C2 => fz C2 t fun d C3 => K (some d) C3) ∧ (b = false → K none C1))
    (hd : ∀ acc C, Inv ds.length acc C → U acc C) : compW g c e vs X keep ds ρ C [] U := by
  have all : ∀ (es : List Cv) (j : Nat), ds.drop j = es → ∀ acc C, j + es.length = ds.length → Inv j acc C → compWr g c e vs X keep es ρ C acc U := by
    intro es
    induction es with
    | nil =>
      intro j hj acc C hl iv
      have : j = ds.length := by simpa using hl
      subst this
      exact ⟨hk _ _ _ iv, hd _ _ iv⟩
    | cons s es ih =>
      intro j hj acc C hl iv
      have hlt : j < ds.length := by rw [List.length_cons] at hl; omega
      rw [List.drop_eq_getElem_cons hlt] at hj
      injection hj with e1 e2
      have h := hs j s acc C (fun o C' => compWr g c e vs X keep es ρ C' (acc ++ o.toList) U) (by rw [← e1]; exact List.getElem?_eq_getElem hlt) iv (fun o C' iv' => ih (j + 1) e2 _ _ (by rw [List.length_cons] at hl; omega) iv')
      simp only [Option.toList_some, Option.toList_none, List.append_nil] at h
      exact ⟨hk _ _ _ iv, h⟩
  unfold compW
  exact all ds 0 rfl [] C (by simp) h0
/-- a comprehension that changes nothing -/
theorem compW_map {α : Type} {xs : List α} {enc : α → Cv} {ρ : Rv} {C : Cs} {U : List PyData → Cs → Prop} (q : α → Option PyData) (hk : keep C)
    (hs : ∀ a ∈ xs, ∀ (K : Option PyData → Cs → Prop), K (q a) C → g.wp C (enc a) (wipeV ρ vs) fun ρ2 => c.wp X ρ2 C fun b C1 => (b = true → e.wp X ρ2 C1 fun t C2 => fz C2 t fun d C3 => K (some d) C3) ∧ (b = false → K none C1))
    (hd : U (xs.filterMap q) C) : compW g c e vs X keep (xs.map enc) ρ C [] U := by
  have all : ∀ (es : List α) (acc : List PyData), (∀ a ∈ es, a ∈ xs) → acc ++ es.filterMap q = xs.filterMap q → compWr g c e vs X keep (es.map enc) ρ C acc U := by
    intro es
    induction es with
    | nil => intro acc _ h; refine ⟨hk, ?_⟩; rw [List.filterMap_nil, List.append_nil] at h; rw [h]; exact hd
    | cons s es ih =>
      intro acc hm h
      refine ⟨hk, ?_⟩
      have := hs s (hm s List.mem_cons_self) (fun o C' => compWr g c e vs X keep (es.map enc) ρ C' (acc ++ o.toList) U) (ih _ (fun a m => hm a (List.mem_cons_of_mem _ m)) (by
        rw [← h, List.append_assoc, List.filterMap_cons]
        cases q s <;> rfl))
      simp only [Option.toList_some, Option.toList_none, List.append_nil] at this
      exact this
  unfold compW
  exact all xs [] (fun _ h => h) (by simp)
end
/-! ### calls, ends -/
theorem renV_d {f : List Nat} {x : PyData} : RenV f (.d x) (.d x) := rfl
theorem retW_d {n0 : Nat} {R : Cv → Cs → Prop} {x : PyData} {c c' : Cs} (f : List Nat) (w : Wk n0 f c c') (h : R (.d x) c') : retW n0 R (.d x) c := by unfold retW; exact ⟨f, .d x, c', w, rfl, h⟩
/-- nothing is kept -/
theorem wk0 {c : Cs} : Wk 0 [] c [] := ⟨List.nodup_nil, rfl, trivial⟩
theorem ret0 {R : Cv → Cs → Prop} {x : PyData} {c : Cs} (h : R (.d x) []) : retW 0 R (.d x) c := retW_d [] wk0 h
theorem wk1b {c : Cs} {b : Bool} {n m : Nat} (h : c[0]? = some (.box b n)) (l : n ≤ m) : Wk 1 [0] c [.box b m] := ⟨by simp, rfl, ⟨by rw [h]; exact ⟨rfl, l⟩, trivial⟩⟩
theorem ret1b {R : Cv → Cs → Prop} {x : PyData} {c : Cs} {b : Bool} {n m : Nat} (h : c[0]? = some (.box b n)) (l : n ≤ m) (k : R (.d x) [.box b m]) : retW 1 R (.d x) c := retW_d [0] (wk1b h l) k
theorem bk_d {f : List Nat} {N : Nat} {x : PyData} : backV f N (.d x) = .d x := rfl
theorem bk_0 {C : Cs} : backCs [] C [] = C := by unfold backCs setAll; simp
theorem bk_1 {C : Cs} {b : Bool} {i n : Nat} : backCs [i] C [.box b n] = C.set i (.box b n) := by unfold backCs setAll; simp [setAll, backC]
/-- a call that is handed no cell, and hands back data -/
theorem call0 {A : Pw} {X : Xc → Cs → Prop} {C : Cs} {ss : List Cv} {P : Cv → Cs → Prop} (hr : RenVs [] ss ss) (h : A ss [] (fun s C' => P (backV [] C.length s) (backCs [] C C')) fun x C' => X (backX [] C.length x) (backCs [] C C')) : callW A X C ss P := by unfold callW; exact ⟨[], [], ss, List.nodup_nil, trivial, hr, h⟩
/-- a call that is handed one cell -/
theorem call1 {A : Pw} {X : Xc → Cs → Prop} {C : Cs} {ss ss' : List Cv} {P : Cv → Cs → Prop} (i : Nat) (c0 : Cell) (hc : WkC [i] C [i] [c0]) (hr : RenVs [i] ss ss') (h : A ss' [c0] (fun s C' => P (backV [i] C.length s) (backCs [i] C C')) fun x C' => X (backX [i] C.length x) (backCs [i] C C')) : callW A X C ss P := by unfold callW; exact ⟨[i], [c0], ss', by simp, hc, hr, h⟩
theorem wkn_id {n0 : Nat} {r : Rv} {c : Cs} {K : Rv → Cs → Prop} (f : List Nat) (r' : Rv) (c' : Cs) (w : Wk n0 f c c') (wr : WkR f r r') (h : K r' c') : wkn n0 r c K := by unfold wkn; exact ⟨f, r', c', w, wr, h⟩
/-- a result that is a cell -/
theorem retW_c {n0 : Nat} {R : Cv → Cs → Prop} {i j : Nat} {c c' : Cs} (f : List Nat) (w : Wk n0 f c c') (hf : f[j]? = some i) (h : R (.c j) c') : retW n0 R (.c i) c := by unfold retW; exact ⟨f, .c j, c', w, hf, h⟩
/-- from here on just Mid is known -/
theorem k_cut {X : Xp} {ρ : Rv} {C : Cs} {P : Pt} {a b : XS} (Mid : Rv → Cs → Prop) (h1 : a.wp X ρ C ⟨fun r c => wkn C.length r c Mid, P.R, P.B, P.C⟩) (h2 : ∀ ρ C, Mid ρ C → b.wp X ρ C P) : (xsSeq a b).wp X ρ C P := ⟨_, h1, fun _ _ h => .inr (wkn_mono h h2)⟩
/-! ### lesser knowledge, item by item -/
theorem wkn_k {n0 : Nat} {r : Rv} {c : Cs} {K : Rv → Cs → Prop} {f : List Nat} {r' : Rv} {c' : Cs} (h : K r' c') (w : Wk n0 f c c') (wr : WkR f r r') : wkn n0 r c K := wkn_id f r' c' w wr h
theorem wr_nil {f : List Nat} : WkR f [] [] := trivial
theorem wr_none {f : List Nat} {a : Option Cv} {s t : Rv} (h : WkR f s t) : WkR f (a :: s) (none :: t) := ⟨by cases a <;> trivial, h⟩
theorem wr_d {f : List Nat} {x : PyData} {s t : Rv} (h : WkR f s t) : WkR f (some (.d x) :: s) (some (.d x) :: t) := ⟨rfl, h⟩
theorem wr_v {f : List Nat} {x : V} {s t : Rv} (h : WkR f s t) : WkR f (some (.v x) :: s) (some (.v x) :: t) := ⟨rfl, h⟩
theorem wr_c {f : List Nat} {i j : Nat} {s t : Rv} (e : f[j]? = some i) (h : WkR f s t) : WkR f (some (.c i) :: s) (some (.c j) :: t) := ⟨e, h⟩
theorem wr_x {f : List Nat} {a b : Cv} {s t : Rv} (e : RenV f a b) (h : WkR f s t) : WkR f (some a :: s) (some b :: t) := ⟨e, h⟩
theorem wc_nil {f : List Nat} {C : Cs} : WkC f C [] [] := trivial
theorem wc_one {f g : List Nat} {C C' : Cs} {i : Nat} {c c' : Cell} (e : C[i]? = some c) (r : RenC f c c') (h : WkC f C g C') : WkC f C (i :: g) (c' :: C') := ⟨by rw [e]; exact r, h⟩
theorem wc_lst {f g : List Nat} {C C' : Cs} {i : Nat} {ds : List PyData} (e : C[i]? = some (.lst ds)) (h : WkC f C g C') : WkC f C (i :: g) (.lst ds :: C') := wc_one e rfl h
theorem wc_x {f g : List Nat} {C C' : Cs} {i : Nat} {ds es : List PyData} (e : C[i]? = some (.lst ds)) (q : ds = es) (h : WkC f C g C') : WkC f C (i :: g) (.lst es :: C') := wc_one e q h
theorem wc_frz {f g : List Nat} {C C' : Cs} {i : Nat} {d : PyData} (e : C[i]? = some (.frz d)) (h : WkC f C g C') : WkC f C (i :: g) (.frz d :: C') := wc_one e rfl h
theorem wc_box {f g : List Nat} {C C' : Cs} {i n m : Nat} {l : Bool} (e : C[i]? = some (.box l n)) (q : n ≤ m) (h : WkC f C g C') : WkC f C (i :: g) (.box l m :: C') := wc_one e ⟨rfl, q⟩ h
theorem rn_nil {f : List Nat} : RenVs f [] [] := trivial
theorem rn_d {f : List Nat} {x : PyData} {s t : List Cv} (h : RenVs f s t) : RenVs f (.d x :: s) (.d x :: t) := ⟨rfl, h⟩
theorem rn_c {f : List Nat} {i j : Nat} {s t : List Cv} (e : f[j]? = some i) (h : RenVs f s t) : RenVs f (.c i :: s) (.c j :: t) := ⟨e, h⟩
theorem ret_k {n0 : Nat} {R : Cv → Cs → Prop} {x : PyData} {c : Cs} {f : List Nat} {c' : Cs} (h : R (.d x) c') (w : Wk n0 f c c') : retW n0 R (.d x) c := retW_d f w h
/-! ### tests that are decided -/
theorem ifP {p : Prop} [Decidable p] {A B : Prop} (h1 : p → A) (h2 : ¬ p → B) : (decide p = true → A) ∧ (decide p = false → B) := ⟨fun h => h1 (of_decide_eq_true h), fun h => h2 (of_decide_eq_false h)⟩
theorem ifPn {p : Prop} [Decidable p] {A B : Prop} (h1 : ¬ p → A) (h2 : p → B) : ((!decide p) = true → A) ∧ ((!decide p) = false → B) := ⟨fun h => h1 (of_decide_eq_false (by simpa using h)), fun h => h2 (of_decide_eq_true (by simpa using h))⟩
theorem ifPr {p : Prop} [Decidable p] {A B : Prop} (h1 : ¬ p → A) (h2 : p → B) : (decide p = false → A) ∧ (decide p = true → B) := ⟨fun h => h1 (of_decide_eq_false h), fun h => h2 (of_decide_eq_true h)⟩
theorem ifPrn {p : Prop} [Decidable p] {A B : Prop} (h1 : p → A) (h2 : ¬ p → B) : ((!decide p) = false → A) ∧ ((!decide p) = true → B) := ⟨fun h => h1 (of_decide_eq_true (by simpa using h)), fun h => h2 (of_decide_eq_false (by simpa using h))⟩
theorem ifT {A B : Prop} (h : A) : (true = true → A) ∧ (true = false → B) := ⟨fun _ => h, fun z => nomatch z⟩
theorem ifF {A B : Prop} (h : B) : (false = true → A) ∧ (false = false → B) := ⟨(fun z => nomatch z), fun _ => h⟩
theorem ifTr {A B : Prop} (h : B) : (true = false → A) ∧ (true = true → B) := ⟨(fun z => nomatch z), fun _ => h⟩
theorem ifFr {A B : Prop} (h : A) : (false = false → A) ∧ (false = true → B) := ⟨fun _ => h, fun z => nomatch z⟩
theorem ifFx {A B : Prop} (h : B) : (false = true → A) ∧ (True → B) := ⟨(fun z => nomatch z), fun _ => h⟩
theorem ifTx {A B : Prop} (h : A) : (True → A) ∧ (true = false → B) := ⟨fun _ => h, fun z => nomatch z⟩
theorem ifTrx {A B : Prop} (h : B) : (true = false → A) ∧ (True → B) := ⟨(fun z => nomatch z), fun _ => h⟩
theorem ifFrx {A B : Prop} (h : A) : (True → A) ∧ (false = true → B) := ⟨fun _ => h, fun z => nomatch z⟩
/-! ### the draws -/
def w_pickL (l : Bool) : Pw := fun ss C R _ => ∃ (n : Nat) (m : Int), ss = [.c 0, .d (.int m)] ∧ C = [.box l n] ∧ n ≤ 1000000000 ∧ 0 < m ∧ m < 1073741824 ∧ ∀ r : Int, 0 ≤ r → r < m → R (.d (.int r)) [.box l (n + 1)]
abbrev w_pick : Pw := w_pickL false
theorem call_pickL {l : Bool} {X : Xc → Cs → Prop} {C : Cs} {P : Cv → Cs → Prop} {i n : Nat} {m : Int} (hc : C[i]? = some (.box l n)) (hn : n ≤ 1000000000) (h0 : 0 < m) (h1 : m < 1073741824)
    (h : ∀ r : Int, 0 ≤ r → r < m → setC C i (.box l (n + 1)) fun C' => P (.d (.int r)) C') : callW (w_pickL l) X C [.c i, .d (.int m)] P := by
  refine call1 i (.box l n) ⟨by rw [hc]; exact ⟨rfl, Nat.le_refl n⟩, trivial⟩ (ss' := [.c 0, .d (.int m)]) ⟨rfl, rfl, trivial⟩ ⟨n, m, rfl, rfl, hn, h0, h1, fun r r0 r1 => ?_⟩
  show P (.d (.int r)) (backCs [i] C [.box l (n + 1)])
  rw [bk_1]
  exact h r r0 r1
/-- a new box -/
def w_left : Pw := fun ss C R _ => ∃ (ns : List Int) (k : Int), ss = [.d (.list (ns.map .int)), .d (.int k)] ∧ C = [] ∧ 0 ≤ k ∧ R (.c 0) [.box false 0]
theorem bk_n {C : Cs} {l : Bool} {n : Nat} : backCs [] C [.box l n] = C ++ [.box l n] := by unfold backCs setAll; simp [backC]
theorem call_left {X : Xc → Cs → Prop} {C : Cs} {P : Cv → Cs → Prop} {ns : List Int} {k : Int} (hk : 0 ≤ k) (h : newC C 0 (.box false 0) fun n C' => P (.c n) C') : callW w_left X C [.d (.list (ns.map .int)), .d (.int k)] P := by
  refine call0 ⟨rfl, rfl, trivial⟩ ⟨ns, k, rfl, rfl, hk, ?_⟩
  show P (.c (C.length + (0 - 0))) (backCs [] C [.box false 0])
  rw [bk_n]
  exact h
theorem atI_map {α β : Type} {f : α → β} {xs : List α} {i : Int} {z : α} (h : atI xs i = some z) : atI (xs.map f) i = some (f z) := by
  unfold atI at h ⊢
  rw [List.length_map]
  cases e : ixN xs.length i with
  | none => rw [e] at h; cases h
  | some j =>
    rw [e] at h
    have h : xs[j]? = some z := h
    show (xs.map f)[j]? = some (f z)
    rw [List.getElem?_map, h]; rfl
/-- one of some, by a draw -/
theorem ix_any {xs : List PyData} {r : Int} {K : PyData → Prop} (h0 : 0 ≤ r) (h1 : r < xs.length) (h : ∀ z ∈ xs, K z) : ∃ z, IxD (.list xs) (.int r) z ∧ K z := by
  obtain ⟨z, hz, mz⟩ := atI_mem h0 h1
  exact ⟨z, hz, h z mz⟩
theorem ix_ints (xs : List Int) {ys : List PyData} {r : Int} {K : PyData → Prop} (e : ys = xs.map .int) (h0 : 0 ≤ r) (h1 : r < xs.length) (h : ∀ z ∈ xs, K (.int z)) : ∃ z, IxD (.list ys) (.int r) z ∧ K z := by
  subst e
  obtain ⟨z, hz, mz⟩ := atI_mem h0 h1
  exact ⟨.int z, atI_map (f := PyData.int) hz, h z mz⟩
theorem ix_at {xs : List PyData} {r : Int} {K : PyData → Prop} (h0 : 0 ≤ r) (h1 : r < xs.length) (h : K (xs[r.toNat]'(by omega))) : ∃ z, IxD (.list xs) (.int r) z ∧ K z := ⟨_, atI_in h0 h1, h⟩
theorem p6 : (10 : Int) ^ (6 : Int).toNat = 1000000 := by decide
theorem p9 : (10 : Int) ^ (9 : Int).toNat = 1000000000 := by decide
theorem fm2 {α : Type} {a b : α} {P : α → Prop} : (∀ z ∈ [a, b], P z) ↔ P a ∧ P b := by simp
theorem rng_get {lo : Int} {n i : Nat} {v : Cv} (h : (rngV lo n)[i]? = some v) : i < n ∧ v = .d (.int (lo + (i : Int))) := by
  unfold rngV at h
  rw [List.getElem?_map] at h
  by_cases hi : i < n
  · rw [List.getElem?_range hi] at h
    exact ⟨hi, (Option.some.inj h).symm⟩
  · rw [List.getElem?_eq_none (by simpa using hi)] at h; cases h
theorem rng_len {lo : Int} {n : Nat} : (rngV lo n).length = n := by unfold rngV; simp
abbrev kxo (K : Fg) (w : World) : Kx := ⟨K, fun _ => 0, w⟩
abbrev w_law : Pw := pw_law
end DL
set_option maxRecDepth 100000
namespace DL
open PySem L2
/-! ### what each combinator reads -/
theorem r_xVar {k : Kx} {W : WX} (i : Nat) : (xVar i).te k W = (tVar i) := rfl
theorem r_xRaw {k : Kx} {W : WX} (v : V) : (xRaw v).te k W = (tC v) := rfl
theorem r_xOp {k : Kx} {W : WX} (g : PyData → PyData → PyData → Prop) (a b : XE) : (xOp g a b).te k W = (tOp (rB k.K g) (a.te k W) (b.te k W)) := rfl
theorem r_xUn {k : Kx} {W : WX} (g : PyData → PyData → Prop) (a : XE) : (xUn g a).te k W = (tUn (rU1 k.K g) (a.te k W)) := rfl
theorem r_xIsN {k : Kx} {W : WX} (a : XE) : (xIsN a).te k W = (tOp rIsNone (a.te k W) (tC .non)) := rfl
theorem r_xNotN {k : Kx} {W : WX} (a : XE) : (xNotN a).te k W = (tOp rNotNone (a.te k W) (tC .non)) := rfl
theorem r_xNot {k : Kx} {W : WX} (a : XE) : (xNot a).te k W = (tNotV (a.te k W)) := rfl
theorem r_xAnd {k : Kx} {W : WX} (a b : XE) : (xAnd a b).te k W = (tAndV (a.te k W) (b.te k W)) := rfl
theorem r_xOr {k : Kx} {W : WX} (a b : XE) : (xOr a b).te k W = (tOrV (a.te k W) (b.te k W)) := rfl
theorem r_xChain {k : Kx} {W : WX} (g g' : PyData → PyData → PyData → Prop) (a b c : XE) : (xChain g g' a b c).te k W = (tChain (rB k.K g) (rB k.K g') (a.te k W) (b.te k W) (c.te k W)) := rfl
theorem r_xTest {k : Kx} {W : WX} (a : XE) : (xTest a).tt k W = (tTest (a.te k W)) := rfl
theorem r_xB {k : Kx} {W : WX} (a : XE) : (xB a).tt k W = (tB (a.te k W)) := rfl
theorem r_xTNot {k : Kx} {W : WX} (a : XT) : (xTNot a).tt k W = (tNot (a.tt k W)) := rfl
theorem r_xTAnd {k : Kx} {W : WX} (a b : XT) : (xTAnd a b).tt k W = (tAnd (a.tt k W) (b.tt k W)) := rfl
theorem r_xTOr {k : Kx} {W : WX} (a b : XT) : (xTOr a b).tt k W = (tOr (a.tt k W) (b.tt k W)) := rfl
theorem r_xYes {k : Kx} {W : WX} : (xYes).tt k W = (tYes) := rfl
theorem r_xIf {k : Kx} {W : WX} (c : XT) (a b : XE) : (xIf c a b).te k W = (tIf (c.tt k W) (a.te k W) (b.te k W)) := rfl
theorem r_xNil {k : Kx} {W : WX} : (xNil).ta k W = (tNil) := rfl
theorem r_xCons {k : Kx} {W : WX} (a : XE) (b : XA) : (xCons a b).ta k W = (tCons (a.te k W) (b.ta k W)) := rfl
theorem r_xTup {k : Kx} {W : WX} (a : XA) : (xTup a).te k W = (tTup (a.ta k W)) := rfl
theorem r_xLst {k : Kx} {W : WX} (a : XA) : (xLst a).te k W = (tLst (a.ta k W)) := rfl
theorem r_xLstC {k : Kx} {W : WX} (a : XA) : (xLstC a).te k W = (tLst (a.ta k W)) := rfl
theorem r_xLstR {k : Kx} {W : WX} (a : XA) : (xLstR a).te k W = (tLst (a.ta k W)) := rfl
theorem r_xBi {k : Kx} {W : WX} (g : List PyData → PyData → Prop) (a : XA) : (xBi g a).te k W = (tCB (rC k.K g) (a.ta k W)) := rfl
theorem r_xListC {k : Kx} {W : WX} (a : XE) : (xListC a).te k W = (tCB (rListF k.K) (tCons (a.te k W) tNil)) := rfl
theorem r_xListD {k : Kx} {W : WX} (a : XE) : (xListD a).te k W = (tCB (rListF k.K) (tCons (a.te k W) tNil)) := rfl
theorem r_xCatC {k : Kx} {W : WX} (a b : XE) : (xCatC a b).te k W = (tOp (rCatR k.K) (a.te k W) (b.te k W)) := rfl
theorem r_xNoPart {k : Kx} {W : WX} : (xNoPart).to k W = (tNoPart) := rfl
theorem r_xPart {k : Kx} {W : WX} (a : XE) : (xPart a).to k W = (tPart (a.te k W)) := rfl
theorem r_xSl {k : Kx} {W : WX} (a : XE) (l u : XO) : (xSl a l u).te k W = (tSl (rSl k.K SlD) (a.te k W) (l.to k W) (u.to k W)) := rfl
theorem r_xBm {k : Kx} {W : WX} (g : PyData → List PyData → PyData → Prop) (a : XE) (b : XA) : (xBm g a b).te k W = (tBM k.K "str" (rM k.K g) (a.te k W) (b.ta k W)) := rfl
theorem r_xBm0 {k : Kx} {W : WX} (g : PyData → List PyData → PyData → Prop) (a : XE) : (xBm0 g a).te k W = (tBM0 k.K "str" (rM k.K g) (a.te k W)) := rfl
theorem r_xiSeq {k : Kx} {W : WX} (a : XE) : (xiSeq a).wi k W = (iSeq k.K (a.te k W)) := rfl
theorem r_xiRng1 {k : Kx} {W : WX} (a : XE) : (xiRng1 a).wi k W = (iRng1 (tCons (a.te k W) tNil)) := rfl
theorem r_xiRng2 {k : Kx} {W : WX} (a b : XE) : (xiRng2 a b).wi k W = (iRng2 (tCons (a.te k W) (tCons (b.te k W) tNil))) := rfl
theorem r_xgName {k : Kx} (i : Nat) : (xgName i).tg k = (gName i) := rfl
theorem r_xgsNil {k : Kx} : (xgsNil).tg k = (gNil) := rfl
theorem r_xgsCons {k : Kx} (a : XG) (b : XGs) : (xgsCons a b).tg k = (gCons (a.tg k) (b.tg k)) := rfl
theorem r_xgTup {k : Kx} (a : XGs) : (xgTup a).tg k = (gTup k.K a.len (a.tg k)) := rfl
theorem r_xgUnl {k : Kx} (a : XGs) : (xgUnl a).tg k = (gUnl k.K a.len (a.tg k)) := rfl
theorem r_xsSeq {k : Kx} {W : WX} (a b : XS) : (xsSeq a b).ts k W = (tSeq (a.ts k W) (b.ts k W)) := rfl
theorem r_xsNext {k : Kx} {W : WX} : (xsNext).ts k W = (tNext) := rfl
theorem r_xsBreak {k : Kx} {W : WX} : (xsBreak).ts k W = (tBreak) := rfl
theorem r_xsCont {k : Kx} {W : WX} : (xsCont).ts k W = (tCont) := rfl
theorem r_xsAsg {k : Kx} {W : WX} (a : XE) (g : XG) : (xsAsg a g).ts k W = (tAsg (a.te k W) (g.tg k)) := rfl
theorem r_xsRet {k : Kx} {W : WX} (a : XE) : (xsRet a).ts k W = (tRet (a.te k W)) := rfl
theorem r_xsRetN {k : Kx} {W : WX} : (xsRetN).ts k W = (tRetN) := rfl
theorem r_xsDrop {k : Kx} {W : WX} (a : XE) : (xsDrop a).ts k W = (tDrop (a.te k W)) := rfl
theorem r_xsIf {k : Kx} {W : WX} (c : XT) (a b : XS) : (xsIf c a b).ts k W = (tIfS (c.tt k W) (a.ts k W) (b.ts k W)) := rfl
theorem r_xsPar {k : Kx} {W : WX} (i j : Nat) (a : XA) : (xsPar i j a).ts k W = (tPar i j (a.ta k W)) := rfl
theorem r_xsPar3 {k : Kx} {W : WX} (i j l : Nat) (a : XA) : (xsPar3 i j l a).ts k W = (tPar3 i j l (a.ta k W)) := rfl
theorem r_xsFor {k : Kx} {W : WX} (it : XI) (g : XG) (body : XS) : (xsFor it g body).ts k W = (tFor (it.wi k W) (g.tg k) (body.ts k W)) := rfl
theorem r_xsWhile {k : Kx} {W : WX} (c : XT) (body : XS) : (xsWhile c body).ts k W = (tWhile (c.tt k W) (body.ts k W)) := rfl
theorem r_xLc {k : Kx} {W : WX} (it : XI) (g : XG) (c : XT) (e : XE) (vs : List Nat) : (xLc it g c e vs).te k W = (tLc (it.wi k W) (g.tg k) (c.tt k W) (e.te k W) vs) := rfl
theorem r_xLcC {k : Kx} {W : WX} (it : XI) (g : XG) (c : XT) (e : XE) (vs : List Nat) : (xLcC it g c e vs).te k W = (tLc (it.wi k W) (g.tg k) (c.tt k W) (e.te k W) vs) := rfl
theorem r_xCallD {k : Kx} {W : WX} (A : Pw) (dvs : List V) (dss : List Cv) (hd : ∀ K M H α, Rcs K M H α dvs dss) (a : XA) : (xCallD A dvs dss hd a).te k W = (tCall (spW k A) dvs E0 (a.ta k W)) := rfl
theorem r_xCall {k : Kx} {W : WX} (A : Pw) (a : XA) : (xCall A a).te k W = (tCall (spW k A) [] E0 (a.ta k W)) := rfl
theorem r_xAppend {k : Kx} {W : WX} (o a : XE) : (xAppend o a).te k W = (tBM k.K "list" rAppend (o.te k W) (tCons (a.te k W) tNil)) := rfl
theorem r_xExtend {k : Kx} {W : WX} (o a : XE) : (xExtend o a).te k W = (tBM k.K "list" rExtend (o.te k W) (tCons (a.te k W) tNil)) := rfl
theorem r_xClear {k : Kx} {W : WX} (o : XE) : (xClear o).te k W = (tBM0 k.K "list" rClear (o.te k W)) := rfl
theorem r_xReverse {k : Kx} {W : WX} (o : XE) : (xReverse o).te k W = (tBM0 k.K "list" rReverse (o.te k W)) := rfl
theorem r_xPop {k : Kx} {W : WX} (o : XE) : (xPop o).te k W = (tBM0 k.K "list" rPop (o.te k W)) := rfl
theorem r_xPopAt {k : Kx} {W : WX} (o a : XE) : (xPopAt o a).te k W = (tBM k.K "list" rPopAt (o.te k W) (tCons (a.te k W) tNil)) := rfl
theorem r_xInsert {k : Kx} {W : WX} (o a b : XE) : (xInsert o a b).te k W = (tBM k.K "list" rInsert (o.te k W) (tCons (a.te k W) (tCons (b.te k W) tNil))) := rfl
theorem r_xsSetItem {k : Kx} {W : WX} (e o i : XE) : (xsSetItem e o i).ts k W = (tAsg (e.te k W) (gSub (o.te k W) (i.te k W) rSetL)) := rfl
theorem r_xIsi {k : Kx} {W : WX} (a : XE) (T : String) : (xIsi a T).te k W = (tCB (rIsD k.K) (tCons (a.te k W) (tCons (tC (.ty T)) tNil))) := rfl
theorem r_xIsiT {k : Kx} {W : WX} (a : XE) (Ts : List String) : (xIsiT a Ts).te k W = (tCB (rIsTD k.K) (tCons (a.te k W) (tCons (tTup (tTys Ts)) tNil))) := rfl
theorem r_xFmt {k : Kx} {W : WX} (a : XE) : (xFmt a).te k W = (tFmt (a.te k W)) := rfl
theorem r_xFs {k : Kx} {W : WX} (es : List XE) : (xFs es).te k W = (tFs (es.map fun e => e.te k W)) := rfl
theorem r_xRevS {k : Kx} {W : WX} (a : XE) : (xRevS a).te k W = (tRevS (a.te k W)) := rfl
theorem r_xRevL {k : Kx} {W : WX} (a : XE) : (xRevL a).te k W = (tRevL k.K (a.te k W)) := rfl
theorem r_xsOpen {k : Kx} {W : WX} (i : Nat) (b : XS) : (xsOpen i b).ts k W = (b.ts k W) := rfl
theorem r_xFz {k : Kx} {W : WX} (a : XE) : (xFz a).te k W = (a.te k W) := rfl
theorem r_xiZip {k : Kx} {W : WX} (a b : XE) : (xiZip a b).wi k W = (RZ.iZipA k.K (tCons (a.te k W) (tCons (b.te k W) tNil))) := rfl
theorem r_xiEnum {k : Kx} {W : WX} (a : XE) : (xiEnum a).wi k W = (iEnum k.K (tCons (a.te k W) tNil)) := rfl
theorem r_xInt {k : Kx} {W : WX} {i : Int} : (xInt i).te k W = tC (.int i) := rfl
theorem r_xStr {k : Kx} {W : WX} {i : Str} : (xStr i).te k W = tC (.str i) := rfl
theorem r_xBl {k : Kx} {W : WX} {i : Bool} : (xBl i).te k W = tC (.bl i) := rfl
theorem r_xNon {k : Kx} {W : WX} : xNon.te k W = tC .non := rfl
theorem r_len0 : xgsNil.len = 0 := rfl
theorem r_len1 {a : XG} {b : XGs} : (xgsCons a b).len = b.len + 1 := rfl
end DL
set_option maxRecDepth 100000
namespace PySem
/-! ### a built-in that goes on in steps of its own, called with keywords -/
theorem dl_treeK {prog : Program} {w : World} {A : Around} {E : Value → Shared → Prop} {s : Shared} {id : String} {b : Builtin} {us : List Value} {kw : List (Str × Value)} {Q : Value → Shared → Prop} (h1 : builtinKind id = none) (h2 : plainId id = true)
    (h3 : entryFor table id = some b) (h4 : argsOk id ⟨us, kw⟩)
    (h5 : wpAny (model prog w) A.in1 (b ⟨us, kw⟩) (fun z s' => match z with
      | .done f => (match (Except.ok f : Result) with | .ok (.ret v) => Q v s' | .ok _ => False | .error e => E e s')
      | .again c => c.quiet = true ∧ codeAny (model prog w) A c (fun r s' => match r with | .ok (.ret v) => Q v s' | .ok _ => False | .error e => E e s') s') E s) :
    wpAny (model prog w) A (call (.builtin id) us kw) Q E s := by
  refine wpAny_call (codeAny_call_builtin (args := ⟨us, kw⟩) h2 h3 ?_)
  simp only [checkBuiltinCall, h1]
  cases g : Manifest.signature? id with
  | none => exact wpAny_pure h5
  | some sig =>
    simp only [argsOk, g] at h4
    have e : Bind.checkArgs id sig ⟨us, kw⟩ = pure () := h4
    show wpAny _ A.in1 (Bind.checkArgs id sig ⟨us, kw⟩) _ _ s
    rw [e]; exact wpAny_pure h5
theorem dl_args_min (a d : Value) : argsOk "min" ⟨[a], [(Str.ofString "default", d)]⟩ := by unfold argsOk; kernel_rfl
section
variable {prog : Program} {w : World} {A : Around} {R : Result → Shared → Prop} {J : Addr} {fp wr : List Addr} {n : Nat} {P : Nat → Value → Prop} {St : Nat → Heap → Prop} {kw : List (Str × Value)}
/-- from an item that is the best so far -/
theorem dl_min_on (Y : Walks prog w A.in1 J fp wr n P St) (bt : Nat → Nat → Bool) (hc : CmpOf prog w A.in1 .Lt P bt) (T : Addr) (hT : T ∉ fp) :
    ∀ (k i : Nat) (z : Shared) (b : Value) (c : Nat), n = i + 1 + k → St (i + 1) z.heap → P (argBest bt i) b →
    z.heap.get? T = some { cls := .type "list", dict := none, data := .seq #[b, b] c, slots := #[] } →
    (∀ v g tk, P (argBest bt (n - 1)) v → (∀ b o, b ∉ wr → b ≠ T → z.heap.get? b = some o → g.get? b = some o) → R (.ok (.ret v)) { z with heap := g, toks := tk }) →
    codeAny (model prog w) A (.builtin "min.loop" ⟨[.ref J, .none, .ref T], kw⟩) R z := by
  have hw : T ∉ wr := fun h => hT (Y.sub _ h)
  have en : (toString "min" ++ toString ".loop" : String) = "min.loop" := by decide
  intro k
  induction k with
  | zero =>
    intro i z b c hn st hb g hR
    have hn : n = i + 1 := hn
    refine codeAny_builtin F.entry_min_loop ?_
    rw [Around.under_plainId F.plain_min_loop _]
    show wpAny _ A.in1 (seqItems? (.ref T) >>= _) _ _ z
    refine wpAny_bind (wpAny_seqItems g rfl ?_)
    show wpAny _ A.in1 (tryCatch (pyNext (.ref J)) _ >>= _) _ _ z
    refine wpAny_bind (wpAny_tryCatch (Y.done z _ _ (hn ▸ st) fun g1 tk kp => ?_))
    show wpAny _ A.in1 (updateSeq T (fun _ => #[]) >>= _) _ _ _
    refine wpAny_bind (wpAny_updateSeq (kp T _ hw g) rfl (wpAny_bind (wpAny_letGo (wpAny_pure ?_))))
    exact hR b _ tk (by rw [hn]; exact hb) fun a o h1 h2 q => (Heap.get?_update_other _ _ h2.symm).trans (kp a o h1 q)
  | succ k ih =>
    intro i z b c hn st hb g hR
    refine codeAny_builtin F.entry_min_loop ?_
    rw [Around.under_plainId F.plain_min_loop _]
    show wpAny _ A.in1 (seqItems? (.ref T) >>= _) _ _ z
    refine wpAny_bind (wpAny_seqItems g rfl ?_)
    show wpAny _ A.in1 (tryCatch (pyNext (.ref J)) _ >>= _) _ _ z
    refine wpAny_bind (wpAny_tryCatch (Y.item (i + 1) z _ _ (by omega) st fun v g1 tk hv st1 kp => ?_))
    have g2 := kp T _ hw g
    show wpAny _ A.in1 (tryCatch (holding [v, v] (richCompare .Lt v b >>= _)) _ >>= _) _ _ _
    refine wpAny_bind (wpAny_tryCatch (wpAny_holding (wpAny_bind (hc (i + 1) (argBest bt i) v b _ _ _ hv hb (wpAny_bind (wpAny_holding (wpAny_truthy_bool (wpAny_bind (wpAny_letGo (wpAny_pure ?_))))))))))
    cases eb : bt (i + 1) (argBest bt i) with
    | true =>
      simp only [if_true]
      refine wpAny_bind (wpAny_updateSeq g2 rfl (wpAny_bind (wpAny_letGo ?_)))
      rw [en]
      refine wpAny_pure ⟨plainId_quiet F.plain_min_loop _, ih (i + 1) _ v _ (by omega) (Y.frame _ _ _ st1 fun a h o q => ?_) (by simp only [argBest, eb, if_true]; exact hv) (Heap.get?_update_self _ g2 rfl) fun u g3 tk3 hu kp3 => ?_⟩
      · exact (Heap.get?_update_other _ _ (fun h : T = a => hT (by rw [h]; assumption))).trans q
      · exact hR u g3 tk3 hu fun a o h1 h2 q => kp3 a o h1 h2 ((Heap.get?_update_other _ _ h2.symm).trans (kp a o h1 q))
    | false =>
      simp only [Bool.false_eq_true, if_false]
      refine wpAny_bind (wpAny_letGo ?_)
      rw [en]
      refine wpAny_pure ⟨plainId_quiet F.plain_min_loop _, ih (i + 1) _ b c (by omega) st1 (by simp only [argBest, eb, Bool.false_eq_true, if_false]; exact hb) g2 fun u g3 tk3 hu kp3 => ?_⟩
      exact hR u g3 tk3 hu fun a o h1 h2 q => kp3 a o h1 h2 (kp a o h1 q)
/-- from nothing: the best item, or what stands for it -/
theorem dl_min_all (Y : Walks prog w A.in1 J fp wr n P St) (bt : Nat → Nat → Bool) (hc : CmpOf prog w A.in1 .Lt P bt) (T : Addr) (hT : T ∉ fp) {z : Shared} {c : Nat} {d : Value} {nm : Str} (st : St 0 z.heap)
    (g : z.heap.get? T = some { cls := .type "list", dict := none, data := .seq #[] c, slots := #[] })
    (hR : ∀ v g tk, (if n = 0 then v = d else P (argBest bt (n - 1)) v) → (∀ b o, b ∉ wr → b ≠ T → z.heap.get? b = some o → g.get? b = some o) → R (.ok (.ret v)) { z with heap := g, toks := tk }) :
    codeAny (model prog w) A (.builtin "min.loop" ⟨[.ref J, .none, .ref T], [(nm, d)]⟩) R z := by
  have hw : T ∉ wr := fun h => hT (Y.sub _ h)
  have en : (toString "min" ++ toString ".loop" : String) = "min.loop" := by decide
  refine codeAny_builtin F.entry_min_loop ?_
  rw [Around.under_plainId F.plain_min_loop _]
  show wpAny _ A.in1 (seqItems? (.ref T) >>= _) _ _ z
  refine wpAny_bind (wpAny_seqItems g rfl ?_)
  show wpAny _ A.in1 (tryCatch (pyNext (.ref J)) _ >>= _) _ _ z
  by_cases h0 : n = 0
  · refine wpAny_bind (wpAny_tryCatch (Y.done z _ _ (h0 ▸ st) fun g1 tk kp => ?_))
    show wpAny _ A.in1 (rule _ >>= _) _ _ _
    refine wpAny_bind (wpAny_rule (wpAny_pure ?_))
    exact hR d g1 tk (by rw [if_pos h0]) fun a o h1 _ q => kp a o h1 q
  · refine wpAny_bind (wpAny_tryCatch (Y.item 0 z _ _ (by omega) st fun v g1 tk hv st1 kp => ?_))
    have g2 := kp T _ hw g
    show wpAny _ A.in1 (updateSeq T (fun _ => #[v, v]) >>= _) _ _ _
    refine wpAny_bind (wpAny_updateSeq g2 rfl ?_)
    rw [en]
    refine wpAny_pure ⟨plainId_quiet F.plain_min_loop _, dl_min_on Y bt hc T hT (n - 1) 0 _ v _ (by omega) (Y.frame _ _ _ st1 fun a h o q => ?_) hv (Heap.get?_update_self _ g2 rfl) fun u g3 tk3 hu kp3 => ?_⟩
    · exact (Heap.get?_update_other _ _ (fun h : T = a => hT (by rw [h]; assumption))).trans q
    · exact hR u g3 tk3 (by rw [if_neg h0]; exact hu) fun a o h1 h2 q => kp3 a o h1 h2 ((Heap.get?_update_other _ _ h2.symm).trans (kp a o h1 q))
end
section
variable {prog : Program} {w : World} {A : Around} {E : Value → Shared → Prop} {s : Shared} {l : Addr} {xs : Array (Int × Tok)} {d : Value} {Q : Value → Shared → Prop}
theorem dl_min_ints (hh : A.handled = none) (hl : s.heap.IsList l (intItems xs))
    (h : ∀ v g tk, (if xs.size = 0 then v = d else (intItems xs)[argBest (fun i j => decide (numAt xs i < numAt xs j)) (xs.size - 1)]? = some v) → (∀ b o, s.heap.get? b = some o → g.get? b = some o) → Q v { s with heap := g, toks := tk }) :
    wpAny (model prog w) A (call (.builtin "min") [.ref l] [(Str.ofString "default", d)]) Q E s := by
  have en : (toString "min" ++ toString ".loop" : String) = "min.loop" := by decide
  refine dl_treeK F.kind_min F.plain_min F.entry_min (dl_args_min _ _) ?_
  show wpAny _ A.in1 (Builtin.Builtins.bindParams "min" ["key", "default"] 0 ⟨[], [(Str.ofString "default", d)]⟩ >>= _) _ _ s
  refine wpAny_bind (wpAny_of_eq (show Builtin.Builtins.bindParams "min" ["key", "default"] 0 ⟨[], [(Str.ofString "default", d)]⟩ = pure [none, some d] from ?_) ?_)
  · first | rfl | kernel_rfl
  refine wpAny_bind (wpAny_pure ?_)
  refine wpAny_bind (iter_intList hl fun s2 e st hf hI => ?_)
  refine wpAny_bind (wpAny_newObj_type ?_)
  have hS : s2.heap.objs.size ∉ [s.heap.objs.size, l] := fun hm => Nat.lt_irrefl _ (hf _ hm)
  have Y := Walks.list (prog := prog) (w := w) (A := A.in1) hh s.heap.objs.size l hI (intItems xs)
  have ez : (intItems xs).size = xs.size := by simp [intItems]
  rw [en]
  refine wpAny_pure ⟨plainId_quiet F.plain_min_loop _, dl_min_all Y _ (CmpOf.ints_lt (numAt xs) (fun _ _ => intItems_at)) s2.heap.objs.size hS (Y.frame _ _ _ st fun b _ o e => Heap.get?_push_of_some _ e) (Heap.get?_push_size _ rfl) fun v g tk hP hk => ?_⟩
  subst e
  rw [ez] at hP
  refine h v g tk hP fun b o q => ?_
  have hb := Heap.lt_size q
  refine hk b o ?_ ?_ (Heap.get?_push_of_some _ (Heap.get?_push_of_some _ q))
  · intro hm
    rw [List.mem_singleton] at hm
    exact Nat.ne_of_lt hb hm
  · show b ≠ (s.heap.push _).objs.size
    rw [Heap.size_push]; exact Nat.ne_of_lt (Nat.lt_succ_of_lt hb)
end
theorem dl_args_max (a d : Value) : argsOk "max" ⟨[a], [(Str.ofString "default", d)]⟩ := by unfold argsOk; kernel_rfl
section
variable {prog : Program} {w : World} {A : Around} {R : Result → Shared → Prop} {J : Addr} {fp wr : List Addr} {n : Nat} {P : Nat → Value → Prop} {St : Nat → Heap → Prop} {kw : List (Str × Value)}
/-- from an item that is the best so far -/
theorem dl_max_on (Y : Walks prog w A.in1 J fp wr n P St) (bt : Nat → Nat → Bool) (hc : CmpOf prog w A.in1 .Gt P bt) (T : Addr) (hT : T ∉ fp) :
    ∀ (k i : Nat) (z : Shared) (b : Value) (c : Nat), n = i + 1 + k → St (i + 1) z.heap → P (argBest bt i) b →
    z.heap.get? T = some { cls := .type "list", dict := none, data := .seq #[b, b] c, slots := #[] } →
    (∀ v g tk, P (argBest bt (n - 1)) v → (∀ b o, b ∉ wr → b ≠ T → z.heap.get? b = some o → g.get? b = some o) → R (.ok (.ret v)) { z with heap := g, toks := tk }) →
    codeAny (model prog w) A (.builtin "max.loop" ⟨[.ref J, .none, .ref T], kw⟩) R z := by
  have hw : T ∉ wr := fun h => hT (Y.sub _ h)
  have en : (toString "max" ++ toString ".loop" : String) = "max.loop" := by decide
  intro k
  induction k with
  | zero =>
    intro i z b c hn st hb g hR
    have hn : n = i + 1 := hn
    refine codeAny_builtin F.entry_max_loop ?_
    rw [Around.under_plainId F.plain_max_loop _]
    show wpAny _ A.in1 (seqItems? (.ref T) >>= _) _ _ z
    refine wpAny_bind (wpAny_seqItems g rfl ?_)
    show wpAny _ A.in1 (tryCatch (pyNext (.ref J)) _ >>= _) _ _ z
    refine wpAny_bind (wpAny_tryCatch (Y.done z _ _ (hn ▸ st) fun g1 tk kp => ?_))
    show wpAny _ A.in1 (updateSeq T (fun _ => #[]) >>= _) _ _ _
    refine wpAny_bind (wpAny_updateSeq (kp T _ hw g) rfl (wpAny_bind (wpAny_letGo (wpAny_pure ?_))))
    exact hR b _ tk (by rw [hn]; exact hb) fun a o h1 h2 q => (Heap.get?_update_other _ _ h2.symm).trans (kp a o h1 q)
  | succ k ih =>
    intro i z b c hn st hb g hR
    refine codeAny_builtin F.entry_max_loop ?_
    rw [Around.under_plainId F.plain_max_loop _]
    show wpAny _ A.in1 (seqItems? (.ref T) >>= _) _ _ z
    refine wpAny_bind (wpAny_seqItems g rfl ?_)
    show wpAny _ A.in1 (tryCatch (pyNext (.ref J)) _ >>= _) _ _ z
    refine wpAny_bind (wpAny_tryCatch (Y.item (i + 1) z _ _ (by omega) st fun v g1 tk hv st1 kp => ?_))
    have g2 := kp T _ hw g
    show wpAny _ A.in1 (tryCatch (holding [v, v] (richCompare .Gt v b >>= _)) _ >>= _) _ _ _
    refine wpAny_bind (wpAny_tryCatch (wpAny_holding (wpAny_bind (hc (i + 1) (argBest bt i) v b _ _ _ hv hb (wpAny_bind (wpAny_holding (wpAny_truthy_bool (wpAny_bind (wpAny_letGo (wpAny_pure ?_))))))))))
    cases eb : bt (i + 1) (argBest bt i) with
    | true =>
      simp only [if_true]
      refine wpAny_bind (wpAny_updateSeq g2 rfl (wpAny_bind (wpAny_letGo ?_)))
      rw [en]
      refine wpAny_pure ⟨plainId_quiet F.plain_max_loop _, ih (i + 1) _ v _ (by omega) (Y.frame _ _ _ st1 fun a h o q => ?_) (by simp only [argBest, eb, if_true]; exact hv) (Heap.get?_update_self _ g2 rfl) fun u g3 tk3 hu kp3 => ?_⟩
      · exact (Heap.get?_update_other _ _ (fun h : T = a => hT (by rw [h]; assumption))).trans q
      · exact hR u g3 tk3 hu fun a o h1 h2 q => kp3 a o h1 h2 ((Heap.get?_update_other _ _ h2.symm).trans (kp a o h1 q))
    | false =>
      simp only [Bool.false_eq_true, if_false]
      refine wpAny_bind (wpAny_letGo ?_)
      rw [en]
      refine wpAny_pure ⟨plainId_quiet F.plain_max_loop _, ih (i + 1) _ b c (by omega) st1 (by simp only [argBest, eb, Bool.false_eq_true, if_false]; exact hb) g2 fun u g3 tk3 hu kp3 => ?_⟩
      exact hR u g3 tk3 hu fun a o h1 h2 q => kp3 a o h1 h2 (kp a o h1 q)
/-- from nothing: the best item, or what stands for it -/
theorem dl_max_all (Y : Walks prog w A.in1 J fp wr n P St) (bt : Nat → Nat → Bool) (hc : CmpOf prog w A.in1 .Gt P bt) (T : Addr) (hT : T ∉ fp) {z : Shared} {c : Nat} {d : Value} {nm : Str} (st : St 0 z.heap)
    (g : z.heap.get? T = some { cls := .type "list", dict := none, data := .seq #[] c, slots := #[] })
    (hR : ∀ v g tk, (if n = 0 then v = d else P (argBest bt (n - 1)) v) → (∀ b o, b ∉ wr → b ≠ T → z.heap.get? b = some o → g.get? b = some o) → R (.ok (.ret v)) { z with heap := g, toks := tk }) :
    codeAny (model prog w) A (.builtin "max.loop" ⟨[.ref J, .none, .ref T], [(nm, d)]⟩) R z := by
  have hw : T ∉ wr := fun h => hT (Y.sub _ h)
  have en : (toString "max" ++ toString ".loop" : String) = "max.loop" := by decide
  refine codeAny_builtin F.entry_max_loop ?_
  rw [Around.under_plainId F.plain_max_loop _]
  show wpAny _ A.in1 (seqItems? (.ref T) >>= _) _ _ z
  refine wpAny_bind (wpAny_seqItems g rfl ?_)
  show wpAny _ A.in1 (tryCatch (pyNext (.ref J)) _ >>= _) _ _ z
  by_cases h0 : n = 0
  · refine wpAny_bind (wpAny_tryCatch (Y.done z _ _ (h0 ▸ st) fun g1 tk kp => ?_))
    show wpAny _ A.in1 (rule _ >>= _) _ _ _
    refine wpAny_bind (wpAny_rule (wpAny_pure ?_))
    exact hR d g1 tk (by rw [if_pos h0]) fun a o h1 _ q => kp a o h1 q
  · refine wpAny_bind (wpAny_tryCatch (Y.item 0 z _ _ (by omega) st fun v g1 tk hv st1 kp => ?_))
    have g2 := kp T _ hw g
    show wpAny _ A.in1 (updateSeq T (fun _ => #[v, v]) >>= _) _ _ _
    refine wpAny_bind (wpAny_updateSeq g2 rfl ?_)
    rw [en]
    refine wpAny_pure ⟨plainId_quiet F.plain_max_loop _, dl_max_on Y bt hc T hT (n - 1) 0 _ v _ (by omega) (Y.frame _ _ _ st1 fun a h o q => ?_) hv (Heap.get?_update_self _ g2 rfl) fun u g3 tk3 hu kp3 => ?_⟩
    · exact (Heap.get?_update_other _ _ (fun h : T = a => hT (by rw [h]; assumption))).trans q
    · exact hR u g3 tk3 (by rw [if_neg h0]; exact hu) fun a o h1 h2 q => kp3 a o h1 h2 ((Heap.get?_update_other _ _ h2.symm).trans (kp a o h1 q))
end
section
variable {prog : Program} {w : World} {A : Around} {E : Value → Shared → Prop} {s : Shared} {l : Addr} {xs : Array (Int × Tok)} {d : Value} {Q : Value → Shared → Prop}
theorem dl_max_ints (hh : A.handled = none) (hl : s.heap.IsList l (intItems xs))
    (h : ∀ v g tk, (if xs.size = 0 then v = d else (intItems xs)[argBest (fun i j => decide (numAt xs i > numAt xs j)) (xs.size - 1)]? = some v) → (∀ b o, s.heap.get? b = some o → g.get? b = some o) → Q v { s with heap := g, toks := tk }) :
    wpAny (model prog w) A (call (.builtin "max") [.ref l] [(Str.ofString "default", d)]) Q E s := by
  have en : (toString "max" ++ toString ".loop" : String) = "max.loop" := by decide
  refine dl_treeK F.kind_max F.plain_max F.entry_max (dl_args_max _ _) ?_
  show wpAny _ A.in1 (Builtin.Builtins.bindParams "max" ["key", "default"] 0 ⟨[], [(Str.ofString "default", d)]⟩ >>= _) _ _ s
  refine wpAny_bind (wpAny_of_eq (show Builtin.Builtins.bindParams "max" ["key", "default"] 0 ⟨[], [(Str.ofString "default", d)]⟩ = pure [none, some d] from ?_) ?_)
  · first | rfl | kernel_rfl
  refine wpAny_bind (wpAny_pure ?_)
  refine wpAny_bind (iter_intList hl fun s2 e st hf hI => ?_)
  refine wpAny_bind (wpAny_newObj_type ?_)
  have hS : s2.heap.objs.size ∉ [s.heap.objs.size, l] := fun hm => Nat.lt_irrefl _ (hf _ hm)
  have Y := Walks.list (prog := prog) (w := w) (A := A.in1) hh s.heap.objs.size l hI (intItems xs)
  have ez : (intItems xs).size = xs.size := by simp [intItems]
  rw [en]
  refine wpAny_pure ⟨plainId_quiet F.plain_max_loop _, dl_max_all Y _ (CmpOf.ints_gt (numAt xs) (fun _ _ => intItems_at)) s2.heap.objs.size hS (Y.frame _ _ _ st fun b _ o e => Heap.get?_push_of_some _ e) (Heap.get?_push_size _ rfl) fun v g tk hP hk => ?_⟩
  subst e
  rw [ez] at hP
  refine h v g tk hP fun b o q => ?_
  have hb := Heap.lt_size q
  refine hk b o ?_ ?_ (Heap.get?_push_of_some _ (Heap.get?_push_of_some _ q))
  · intro hm
    rw [List.mem_singleton] at hm
    exact Nat.ne_of_lt hb hm
  · show b ≠ (s.heap.push _).objs.size
    rw [Heap.size_push]; exact Nat.ne_of_lt (Nat.lt_succ_of_lt hb)
end
end PySem
namespace DL
open PySem L2 PyProof.Rows
section
variable {prog : Program} {w : World} {A : Around} {E : Value → Shared → Prop} {s : Shared} {l : Addr} {us : List Value} {ns : List Int} {d : Value} {Q : Value → Shared → Prop}
theorem dl_min_raw (hh : A.handled = none) (hl : s.heap.IsList l us.toArray) (hi : IntsAre us ns)
    (h : ∀ v g tk, (match ns.min? with | none => v = d | some m => ∃ t, v = .int m t) → (∀ b o, s.heap.get? b = some o → g.get? b = some o) → Q v { s with heap := g, toks := tk }) : wpAny (model prog w) A (call (.builtin "min") [.ref l] [(Str.ofString "default", d)]) Q E s := by
  obtain ⟨xs, e⟩ := hi.allInts.items
  have hn : numsOf (intItems xs).toList = ns := by rw [← e]; exact hi.numsOf
  rw [nums_intItems] at hn
  subst hn
  rw [e] at hl
  refine PySem.dl_min_ints hh hl fun v g tk hv kp => h v g tk ?_ kp
  by_cases h0 : xs.size = 0
  · rw [if_pos h0] at hv
    have : xs.toList = [] := List.eq_nil_of_length_eq_zero (by rw [Array.length_toList]; exact h0)
    rw [this]
    exact hv
  · rw [if_neg h0] at hv
    obtain ⟨t, rfl⟩ := intItems_at hv
    obtain ⟨h1, h2⟩ := argBest_lt (numAt xs) (xs.size - 1)
    have hm : (xs.toList.map (·.1)).min? = some (numAt xs (argBest (fun i j => decide (numAt xs i < numAt xs j)) (xs.size - 1))) := by
      refine List.min?_eq_some_iff.mpr ⟨?_, fun a ha => ?_⟩
      · rw [numAt_eq]; exact PySem.getD_mem (by rw [List.length_map, Array.length_toList]; omega)
      · obtain ⟨j, hj, rfl⟩ := mem_getD ha
        rw [List.length_map, Array.length_toList] at hj
        rw [← numAt_eq]; exact h2 j (by omega)
    rw [hm]
    exact ⟨t, rfl⟩
theorem dl_max_raw (hh : A.handled = none) (hl : s.heap.IsList l us.toArray) (hi : IntsAre us ns)
    (h : ∀ v g tk, (match ns.max? with | none => v = d | some m => ∃ t, v = .int m t) → (∀ b o, s.heap.get? b = some o → g.get? b = some o) → Q v { s with heap := g, toks := tk }) : wpAny (model prog w) A (call (.builtin "max") [.ref l] [(Str.ofString "default", d)]) Q E s := by
  obtain ⟨xs, e⟩ := hi.allInts.items
  have hn : numsOf (intItems xs).toList = ns := by rw [← e]; exact hi.numsOf
  rw [nums_intItems] at hn
  subst hn
  rw [e] at hl
  refine PySem.dl_max_ints hh hl fun v g tk hv kp => h v g tk ?_ kp
  by_cases h0 : xs.size = 0
  · rw [if_pos h0] at hv
    have : xs.toList = [] := List.eq_nil_of_length_eq_zero (by rw [Array.length_toList]; exact h0)
    rw [this]
    exact hv
  · rw [if_neg h0] at hv
    obtain ⟨t, rfl⟩ := intItems_at hv
    obtain ⟨h1, h2⟩ := argBest_gt (numAt xs) (xs.size - 1)
    have hm : (xs.toList.map (·.1)).max? = some (numAt xs (argBest (fun i j => decide (numAt xs i > numAt xs j)) (xs.size - 1))) := by
      refine List.max?_eq_some_iff.mpr ⟨?_, fun a ha => ?_⟩
      · rw [numAt_eq]; exact PySem.getD_mem (by rw [List.length_map, Array.length_toList]; omega)
      · obtain ⟨j, hj, rfl⟩ := mem_getD ha
        rw [List.length_map, Array.length_toList] at hj
        rw [← numAt_eq]; exact h2 j (by omega)
    rw [hm]
    exact ⟨t, rfl⟩
end
/-- a built-in with one list of numbers, and what stands for none -/
def dfD (d : PyData) : Option Int → PyData
  | none => d
  | some m => .int m
def isSc : PyData → Prop
  | .none => True
  | .int _ => True
  | _ => False
def MinDefD : List PyData → List PyData → PyData → Prop
  | [.list ds], [d], z => isSc d ∧ ∃ ns : List Int, ds = ns.map PyData.int ∧ z = dfD d ns.min?
  | _, _, _ => False
def MaxDefD : List PyData → List PyData → PyData → Prop
  | [.list ds], [d], z => isSc d ∧ ∃ ns : List Int, ds = ns.map PyData.int ∧ z = dfD d ns.max?
  | _, _, _ => False
def rCK (K : Fg) (g : List PyData → List PyData → PyData → Prop) : List V → List V → Hp → VK → Prop := fun vs zs H Q => ∃ M ds es z, Md M H ∧ Dts K M H vs ds ∧ Dts K M H zs es ∧ g ds es z ∧ ∀ v H', Ex H H' → Da K M H' v z → Q v H'
section
variable {X : Cx}
theorem call_minDefD (hc : X.calm = true) : CallRK X (.builtin "min") [Str.ofString "default"] (rCK X.K MinDefD) := by
  intro pins s σ H vs zs us ws Q I r rz h
  obtain ⟨M, ds, es, z, hM, hd, he, g, q⟩ := h
  match ds, es, g with
  | [.list ds'], [d], g =>
    obtain ⟨hs, ns, rfl, rfl⟩ := g
    obtain ⟨v, rfl, h1⟩ := Dts.one hd
    obtain ⟨u, rfl, h2⟩ := Dts.one he
    obtain ⟨a, xs, rfl, ha, hx⟩ := Dt.list_inv h1
    have e := Das.ints hx; subst e
    obtain ⟨its, rv, hl, _⟩ := I.list (hid_l ha)
    obtain rfl := Vals.ref1 r
    obtain ⟨w1, rfl, e1⟩ := vals1 rz
    have hda : Da X.K M H u d := by cases h2 with | da h => exact h | op _ _ => exact hs.elim
    refine dl_min_raw (I.ok.hd hc) hl.isList rv.ints fun v g tk hv kp => ?_
    cases hm : ns.min? with
    | none =>
      rw [hm] at hv q
      dsimp only at hv q
      subst hv
      exact ⟨u, H, I.kept kp, e1, q u H (Ex.refl H) hda⟩
    | some m =>
      rw [hm] at hv q
      dsimp only at hv q
      exact ⟨.int m, H, I.kept kp, hv, q _ H (Ex.refl H) (.int _)⟩
theorem call_maxDefD (hc : X.calm = true) : CallRK X (.builtin "max") [Str.ofString "default"] (rCK X.K MaxDefD) := by
  intro pins s σ H vs zs us ws Q I r rz h
  obtain ⟨M, ds, es, z, hM, hd, he, g, q⟩ := h
  match ds, es, g with
  | [.list ds'], [d], g =>
    obtain ⟨hs, ns, rfl, rfl⟩ := g
    obtain ⟨v, rfl, h1⟩ := Dts.one hd
    obtain ⟨u, rfl, h2⟩ := Dts.one he
    obtain ⟨a, xs, rfl, ha, hx⟩ := Dt.list_inv h1
    have e := Das.ints hx; subst e
    obtain ⟨its, rv, hl, _⟩ := I.list (hid_l ha)
    obtain rfl := Vals.ref1 r
    obtain ⟨w1, rfl, e1⟩ := vals1 rz
    have hda : Da X.K M H u d := by cases h2 with | da h => exact h | op _ _ => exact hs.elim
    refine dl_max_raw (I.ok.hd hc) hl.isList rv.ints fun v g tk hv kp => ?_
    cases hm : ns.max? with
    | none =>
      rw [hm] at hv q
      dsimp only at hv q
      subst hv
      exact ⟨u, H, I.kept kp, e1, q u H (Ex.refl H) hda⟩
    | some m =>
      rw [hm] at hv q
      dsimp only at hv q
      exact ⟨.int m, H, I.kept kp, hv, q _ H (Ex.refl H) (.int _)⟩
end
/-! ### its term -/
abbrev kiW (g : List PyData → List PyData → PyData → Prop) (ds es : List PyData) (K : PyData → Prop) : Prop := ∃ z, g ds es z ∧ K z
def xBiK (g : List PyData → List PyData → PyData → Prop) (a b : XA) : XE where
  te k W := tCKw (rCK k.K g) (a.ta k W) (b.ta k W)
  wp X ρ C P := a.wp X ρ C fun ss C1 => b.wp X ρ C1 fun tt C2 => rds C2 ss fun ds => rds C2 tt fun es => kiW g ds es fun z => P (.d z) C2
  ok w h q := a.ok w h fun vs H1 ss α1 C1 t1 r1 c1 p1 => b.ok (w.to t1 r1) p1 fun us H2 tt α2 C2 t2 r2 c2 p2 => by
    obtain ⟨ds, h1, p3⟩ := rds_dt r2 (c1.to t2) p2
    obtain ⟨es, h2, z, hg, p4⟩ := rds_dt r2 c2 p3
    exact ⟨ms _ α2 C2, ds, es, z, r2.md, h1, h2, hg, fun v' H' x dz => q v' H' (.d z) α2 C2 ((t1.trans t2).trans (r2.ex x)) (r2.keep x) dz p4⟩
theorem k_xBiK {X : Xp} {ρ : Rv} {C : Cs} {P : Cv → Cs → Prop} {g : List PyData → List PyData → PyData → Prop} {a b : XA} (h : a.wp X ρ C fun ss C1 => b.wp X ρ C1 fun tt C2 => rds C2 ss fun ds => rds C2 tt fun es => kiW g ds es fun z => P (.d z) C2) : (xBiK g a b).wp X ρ C P := h
theorem r_xBiK {k : Kx} {W : WX} (g : List PyData → List PyData → PyData → Prop) (a b : XA) : (xBiK g a b).te k W = (tCKw (rCK k.K g) (a.ta k W) (b.ta k W)) := rfl
theorem g_minDef {ns : List Int} {d : PyData} (h : isSc d) : MinDefD [.list (ns.map .int)] [d] (dfD d ns.min?) := ⟨h, ns, rfl, rfl⟩
theorem g_maxDef {ns : List Int} {d : PyData} (h : isSc d) : MaxDefD [.list (ns.map .int)] [d] (dfD d ns.max?) := ⟨h, ns, rfl, rfl⟩
/-! ### data that can be told as a text -/
structure Rp (n w : Nat) (d : PyData) : Prop where
  short : d.leavesShort 13 = true
  shows : d.showable = true
  flat : d.hasDict = false
  deep : d.depth ≤ n
  size : d.weight ≤ w
structure Rps (n w : Nat) (ds : List PyData) : Prop where
  short : PyData.leavesShortAll 13 ds = true
  shows : PyData.showableAll ds = true
  flat : PyData.hasDictAll ds = false
  deep : PyData.depthAll ds ≤ n
  size : PyData.weightAll ds ≤ w
theorem lg_lt {n k : Nat} (h : n < 2 ^ k) (hk : 0 < k) : n.log2 < k := by
  by_cases h0 : n = 0
  · subst h0; simpa using hk
  · exact (Nat.log2_lt h0).mpr h
theorem rp_int {i : Int} (h : i.natAbs < 10 ^ 12) : Rp 0 40 (.int i) := by
  have e := lg_lt (n := i.natAbs) (k := 40) (Nat.lt_of_lt_of_le h (by decide)) (by decide)
  refine ⟨?_, ?_, rfl, by simp only [PyData.depth]; omega, ?_⟩
  · simp only [PyData.leavesShort, decide_eq_true_eq]; exact PyData.shown_int_le h
  · simp only [PyData.showable, decide_eq_true_eq]; omega
  · simp only [PyData.weight]; split <;> omega
theorem rp_none : Rp 0 0 .none := ⟨rfl, rfl, rfl, by simp only [PyData.depth]; omega, by simp only [PyData.weight]; omega⟩
theorem rp_bool {b : Bool} : Rp 0 0 (.bool b) := ⟨rfl, rfl, rfl, by simp only [PyData.depth]; omega, by simp only [PyData.weight]; omega⟩
theorem rp_str {x : Str} {w : Nat} (h : ∀ c ∈ x.cps.toList, c < 16 ^ 8) (l : x.length ≤ w) : Rp 0 w (.str x) := by
  refine ⟨?_, rfl, rfl, by simp only [PyData.depth]; omega, by simp only [PyData.weight]; exact l⟩
  simp only [PyData.leavesShort, List.all_eq_true, decide_eq_true_eq]; exact h
theorem rps_nil {n : Nat} : Rps n 0 [] := ⟨rfl, rfl, rfl, by simp only [PyData.depthAll]; omega, by simp only [PyData.weightAll]; omega⟩
theorem rps_cons {n a b : Nat} {d : PyData} {ds : List PyData} (h : Rp n a d) (t : Rps n b ds) : Rps n (a + 1 + b) (d :: ds) := by
  refine ⟨?_, ?_, ?_, ?_, ?_⟩
  · simp only [PyData.leavesShortAll, h.short, t.short, Bool.and_true]
  · simp only [PyData.showableAll, h.shows, t.shows, Bool.and_true]
  · simp only [PyData.hasDictAll, h.flat, t.flat, Bool.or_false]
  · simp only [PyData.depthAll]; have := h.deep; have := t.deep; omega
  · simp only [PyData.weightAll]; have := h.size; have := t.size; omega
theorem rp_list {n w : Nat} {ds : List PyData} (t : Rps n w ds) : Rp (n + 1) w (.list ds) := by
  refine ⟨?_, ?_, ?_, ?_, ?_⟩
  · simp only [PyData.leavesShort, t.short]
  · simp only [PyData.showable, t.shows]
  · simp only [PyData.hasDict, t.flat]
  · simp only [PyData.depth]; have := t.deep; omega
  · simp only [PyData.weight]; exact t.size
theorem rp_tup {n w : Nat} {ds : List PyData} (t : Rps n w ds) : Rp (n + 1) w (.tuple ds) := by
  refine ⟨?_, ?_, ?_, ?_, ?_⟩
  · simp only [PyData.leavesShort, t.short]
  · simp only [PyData.showable, t.shows]
  · simp only [PyData.hasDict, t.flat]
  · simp only [PyData.depth]; have := t.deep; omega
  · simp only [PyData.weight]; exact t.size
theorem Rp.up {n m a b : Nat} {d : PyData} (h : Rp n a d) (h1 : n ≤ m) (h2 : a ≤ b) : Rp m b d := ⟨h.short, h.shows, h.flat, Nat.le_trans h.deep h1, Nat.le_trans h.size h2⟩
theorem rps_all {n w : Nat} : ∀ {ds : List PyData}, (∀ d ∈ ds, Rp n w d) → Rps n ((w + 1) * ds.length) ds
  | [], _ => rps_nil
  | d :: ds, h => by
    have t := rps_cons (h d List.mem_cons_self) (rps_all fun e m => h e (List.mem_cons_of_mem _ m))
    rw [List.length_cons, Nat.mul_add, Nat.mul_one, Nat.add_comm]
    exact t
theorem rps_map {α : Type} {n w : Nat} {f : α → PyData} {xs : List α} (h : ∀ a ∈ xs, Rp n w (f a)) : Rps n ((w + 1) * xs.length) (xs.map f) := by
  have t := rps_all (ds := xs.map f) fun d m => by obtain ⟨a, ha, rfl⟩ := List.mem_map.mp m; exact h a ha
  rw [List.length_map] at t
  exact t
theorem g_repr {n w : Nat} {d : PyData} (h : Rp n w d) (h1 : n ≤ 60 := by decide) (h2 : w ≤ 1048576 := by decide) : ReprD [d] (.str d.shown) :=
  ⟨h.shows, h.flat, Nat.le_trans h.deep h1, PyData.shown_fits (B := 13) (by decide) (by decide) h.short (Nat.le_trans h.size (by exact h2)), rfl⟩
end DL
set_option maxRecDepth 100000
set_option maxHeartbeats 400000
namespace DL
open PySem L2
local macro_rules | `(tactic| walk_at "w1s") => `(tactic| with_reducible first
  | refine k_xsNext ?_ | refine k_xsBreak ?_ | refine k_xsCont ?_ | refine k_xsAsg ?_ | refine k_xsRet ?_ | refine k_xsRetN ?_ | refine k_xsDrop ?_ | refine k_xsIf ?_ | refine k_xsPar ?_ | refine k_xsPar3 ?_ | refine k_xsFor ?_ | refine k_xsWhile ?_ | refine k_xsSetItem ?_ | refine k_xsOpen ?_)
local macro_rules | `(tactic| walk_at "w1") => `(tactic| with_reducible first
  | refine k_look0 ?_ | refine k_look1 ?_ | refine k_setV0 ?_ | refine k_setV1 ?_ | refine k_setC0 ?_ | refine k_setC1 ?_ | refine k_new0 ?_ | refine k_new1 ?_ | refine k_xVar ?_ | refine k_xRaw ?_ | refine k_xInt ?_ | refine k_xStr ?_
  | refine k_xBl ?_ | refine k_xNon ?_ | refine k_xOp ?_ | refine k_xUn ?_ | refine k_xBi ?_ | refine k_xIsN ?_ | refine k_xNotN ?_ | refine k_xNot ?_ | refine k_xAnd ?_ | refine k_xOr ?_ | refine k_xChain ?_ | refine k_xIf ?_
  | refine k_xTup ?_ | refine k_xLst ?_ | refine k_xLstC ?_ | refine k_xLstR ?_ | refine k_xListC ?_ | refine k_xListD ?_ | refine k_xSl ?_ | refine k_xBm ?_ | refine k_xBm0 ?_ | refine k_xCall ?_ | refine k_xAppend ?_ | refine k_xExtend ?_
  | refine k_xClear ?_ | refine k_xReverse ?_ | refine k_xPop ?_ | refine k_xFmt ?_ | refine k_xFs ?_ | refine k_fs0 ?_ | refine k_fs1 ?_ | refine k_xFz ?_ | refine k_xTest ?_ | refine k_xB ?_ | refine k_xTNot ?_ | refine k_xTAnd ?_
  | refine k_xTOr ?_ | refine k_xYes ?_ | refine k_xNil ?_ | refine k_xCons ?_ | refine k_xNoPart ?_ | refine k_xPart ?_ | refine k_xiSeq ?_ | refine k_xiRng1 ?_ | refine k_xiZip ?_ | refine k_xgName ?_ | refine k_xBiK ?_ | refine k_xgTup ?_
  | refine k_rdd ?_ | refine k_rdc ?_ | refine k_rdC0 ?_ | refine k_rdC0f ?_ | refine k_rdC1 ?_ | refine k_rds0 ?_ | refine k_rds1 ?_ | refine k_fzd ?_ | refine k_fzc ?_ | refine k_fzC0 ?_ | refine k_fzC0f ?_ | refine k_fzC1 ?_
  | refine k_fzs0 ?_ | refine k_fzs1 ?_ | refine k_isB ?_ | refine k_isC ?_ | refine k_isS ?_ | refine k_two ?_ | refine k_three ?_ | refine k_tupD ?_ | refine k_seqL ?_ | refine k_seqT ?_ | refine k_itL ?_ | refine k_itT ?_
  | refine k_itS ?_ | refine k_setI0 ?_ | refine k_setI1 ?_ | refine k_setI2 ?_ | refine k_wipe0 ?_ | refine k_wipe1 ?_ | refine k_PN ?_ | refine k_PR ?_ | refine k_PB ?_ | refine k_PC ?_ | refine k_itc ?_ | refine k_itC0 ?_
  | refine k_itC0r ?_ | refine k_itC0f ?_ | refine k_itC1 ?_ | refine k_rdKc ?_ | refine k_rdKC0 ?_ | refine k_rdKC0f ?_ | refine k_rdKC1 ?_ | refine k_rdKd ?_ | refine k_zipL ?_ | refine k_zipT ?_ | refine k_lst0 ?_ | refine k_lst1 ?_
  | refine k_any0 ?_ | refine k_any0r ?_ | refine k_any1 ?_ | refine k_box0 ?_ | refine k_box1 ?_ | refine k_app1 ?_ | refine k_ext ?_ | refine k_exI ?_ | refine k_exL ?_ | refine k_xPopAt ?_ | refine k_xCatC ?_ | refine k_xInsert ?_
  | refine k_xiRng2 ?_ | refine k_xiEnum ?_ | refine k_xRevL ?_ | refine k_xRevS ?_ | refine k_gs1 ?_ | refine k_gs2 ?_ | refine k_ix0 ?_ | refine k_ix1 ?_ | refine k_ix2 ?_ | refine k_ixT0 ?_ | refine k_ixT1 ?_ | refine k_ixT2 ?_
  | refine k_op g_add ?_ | refine k_op g_sub ?_ | refine k_op g_lt ?_ | refine k_op g_le ?_ | refine k_op g_gt ?_ | refine k_op g_ge ?_ | refine k_op g_eq ?_ | refine k_op g_ne ?_ | refine k_op g_eqB ?_ | refine k_op g_neB ?_
  | refine k_op g_eqT ?_ | refine k_op g_neT ?_ | refine k_op g_isB ?_ | refine k_op g_notB ?_ | refine k_op g_ltS ?_ | refine k_op g_leS ?_ | refine k_op (g_mul ?_) ?_ | refine k_op (g_div ?_) ?_ | refine k_op (g_mod ?_) ?_ | refine k_op (g_pow ?_) ?_
  | refine k_op (g_addS ?_) ?_ | refine k_op (g_addL ?_) ?_ | refine k_op (g_addT ?_) ?_ | refine k_bi g_len ?_ | refine k_bi g_lenT ?_ | refine k_bi g_min ?_ | refine k_bi g_max ?_ | refine k_bi g_abs ?_ | refine k_bi g_int ?_ | refine k_bi g_intB ?_
  | refine k_bi g_list ?_ | refine k_bi g_listT ?_ | refine k_bi g_tuple ?_ | refine k_bi g_tupleT ?_ | refine k_bi (g_divmod ?_) ?_ | refine k_bi (g_str ?_) ?_ | refine k_bi (g_lenS ?_) ?_ | refine k_un g_neg ?_ | refine ⟨_, g_slL, ?_⟩ | refine ⟨_, g_slT, ?_⟩
  | refine ⟨_, g_slS ?_, ?_⟩ | refine k_opB g_lt ?_ | refine k_opB g_le ?_ | refine k_opB g_gt ?_ | refine k_opB g_ge ?_ | refine k_opB g_eq ?_ | refine k_opB g_ne ?_ | refine k_opB g_ltS ?_ | refine k_opB g_leS ?_
  | refine k_xLc (by with_unfolding_all rfl) ?_ | refine k_xLcC (by with_unfolding_all rfl) ?_ | refine k_xIsi (by with_unfolding_all rfl) ?_ | refine k_xIsiT (by with_unfolding_all rfl) (by with_unfolding_all rfl) ?_ | refine k_short ?_ (by with_unfolding_all rfl) | refine k_gs ?_ (by with_unfolding_all rfl) | refine k_app0 ?_ ?_ | refine k_app0r ?_ ?_ | refine k_fmtS ?_ ?_ | refine k_fmtI ?_ ?_
  | refine ifT ?_ | refine ifF ?_ | refine ifTr ?_ | refine ifFr ?_ | refine ifFx ?_ | refine ifTx ?_ | refine ifTrx ?_ | refine ifFrx ?_)
local macro_rules | `(tactic| walk_at "wi") => `(tactic| with_reducible first | refine ifP (fun h => ?_) (fun h => ?_) | refine ifPn (fun h => ?_) (fun h => ?_) | refine ifPr (fun h => ?_) (fun h => ?_) | refine ifPrn (fun h => ?_) (fun h => ?_))
local macro_rules | `(tactic| walk_at "wd") => `(tactic| simp only [isD_ll, isD_lt, isD_li, isD_ln, isD_lb, isD_ls, isD_tl, isD_tt, isD_ti, isD_tn, isD_tb, isD_ts, isD_il, isD_it, isD_ii, isD_in, isD_ib, isD_is, isD_bl, isD_bt, isD_bi, isD_bn, isD_bb, isD_bs, isD_sl, isD_st, isD_si, isD_sn, isD_sb, isD_ss, isNonC, List.any_cons, List.any_nil, Bool.or_false, Bool.or_true, Bool.true_or, Bool.false_or, Bool.not_true, Bool.not_false, at_0, at_1, at_2, exI_some])
local macro_rules | `(tactic| walk_at "ws") => `(tactic| first | decide | omega | exact .inr (by decide) | exact .inl (by decide) | exact ⟨by omega, by omega⟩ | exact .inl ⟨by omega, by omega⟩ | exact .inr ⟨by omega, by omega⟩)
local macro_rules | `(tactic| walk_at "wk") => `(tactic| repeat' (with_reducible first | exact wr_nil | refine wr_none ?_ | refine wr_d ?_ | refine wr_v ?_ | exact wc_nil | exact rn_nil | refine rn_d ?_ | refine wr_c (by with_unfolding_all rfl) ?_ | refine rn_c (by with_unfolding_all rfl) ?_ | refine wc_lst (by with_unfolding_all rfl) ?_ | refine wc_box (by with_unfolding_all rfl) ?_ ?_ | refine wc_frz (by with_unfolding_all rfl) ?_ | refine Wk.mk (by decide) (by with_unfolding_all rfl) ?_ | refine wr_x (by with_unfolding_all exact rfl) ?_ | refine wc_x (by with_unfolding_all rfl) ?_ ?_))
local macro_rules | `(tactic| walk_at "wr") => `(tactic| with_reducible refine call_pickL (by with_unfolding_all rfl) (by omega) (by omega) (by omega) (fun _ _ _ => ?_))
local macro_rules | `(tactic| walk_at "we") => `(tactic| repeat' (first | walk_at "w1" | walk_at "wd"))
local macro_rules | `(tactic| walk_at "weq") => `(tactic| repeat' (first | walk_at "w1" | walk_at "wr" | walk_at "wd"))
local macro_rules | `(tactic| walk_at "wea") => `(tactic| repeat' (first | walk_at "w1" | walk_at "wi" | walk_at "wd"))
local macro_rules | `(tactic| walk_at "weqa") => `(tactic| repeat' (first | walk_at "w1" | walk_at "wi" | walk_at "wr" | walk_at "wd"))
local macro_rules | `(tactic| walk_at "w") => `(tactic| repeat' (first | walk_at "w1" | with_reducible refine k_xsSeq ?_ | walk_at "w1s" | walk_at "wd"))
local macro_rules | `(tactic| walk_at "wa") => `(tactic| repeat' (first | walk_at "w1" | with_reducible refine k_xsSeq ?_ | walk_at "w1s" | walk_at "wi" | walk_at "wd"))
local macro_rules | `(tactic| walk_at "wq") => `(tactic| repeat' (first | walk_at "w1" | with_reducible refine k_xsSeq ?_ | walk_at "w1s" | walk_at "wr" | walk_at "wd"))
local macro_rules | `(tactic| walk_at "wqa") => `(tactic| repeat' (first | walk_at "w1" | with_reducible refine k_xsSeq ?_ | walk_at "w1s" | walk_at "wi" | walk_at "wr" | walk_at "wd"))
local macro_rules | `(tactic| walk_at "n0") => `(tactic| (first | (with_reducible refine k_xsSeq ?_) | skip); walk_at "w1s")
local macro_rules | `(tactic| walk_at "n") => `(tactic| (walk_at "n0"; walk_at "we"))
local macro_rules | `(tactic| walk_at "nq") => `(tactic| (walk_at "n0"; walk_at "weq"))
local macro_rules | `(tactic| walk_at "na") => `(tactic| (walk_at "n0"; walk_at "wea"))
local macro_rules | `(tactic| walk_at "nqa") => `(tactic| (walk_at "n0"; walk_at "weqa"))
def N__law_mix : List Str := ["_law_cell", "_law_k", "_law_m"]
def x__law_mix : XS := (xsSeq (xsAsg (xOp ModD (xOp MulD (xOp AddD (xOp AddD (xOp ModD (xVar 0) (xInt 2147483629)) (xOp MulD (xOp MulD (xVar 1) (xVar 1)) (xInt 7919))) (xInt 11)) (xInt 48271)) (xInt 2147483647)) (xgName 2))
    (xsRet (xOp ModD (xOp MulD (xVar 2) (xVar 2)) (xInt 1999999973))))
def w__law_mix : Pw := fun ss C R _ => ∃ c k : Int, ss = [.d (.int c), .d (.int k)] ∧ C = [] ∧ -(2 ^ 40) < k ∧ k < 2 ^ 40 ∧ ∀ r : Int, 0 ≤ r → R (.d (.int r)) []
theorem sem__law_mix : SemW N__law_mix 2 w__law_mix x__law_mix := by
  rintro _ _ R X ⟨c, k, rfl, rfl, h1, h2, h⟩
  refine ⟨rfl, by decide, ?_⟩
  show x__law_mix.wp _ [some (.d (.int c)), some (.d (.int k)), none] [] _
  unfold x__law_mix
  have e := Int.emod_lt_of_pos ((c % 2147483629 + k * k * 7919 + 11) * 48271) (show (0 : Int) < 2147483647 by decide)
  have e' := Int.emod_nonneg ((c % 2147483629 + k * k * 7919 + 11) * 48271) (show (2147483647 : Int) ≠ 0 by decide)
  walk_at "w"
  all_goals try (walk_at "ws")
  exact ret0 (h _ (Int.emod_nonneg _ (by decide)))
theorem call_mix {X : Xc → Cs → Prop} {C : Cs} {P : Cv → Cs → Prop} {c k : Int} (h1 : -(2 ^ 40) < k) (h2 : k < 2 ^ 40) (h : ∀ r : Int, 0 ≤ r → P (.d (.int r)) C) : callW w__law_mix X C [.d (.int c), .d (.int k)] P := by
  refine call0 ⟨rfl, rfl, trivial⟩ ⟨c, k, rfl, rfl, h1, h2, fun r h0 => ?_⟩
  simp only [bk_0, bk_d]
  exact h r h0
def N__law_left : List Str := ["_law_script", "_law_k", "_law_cell"]
def x__law_left : XS := (xsSeq (xsAsg (xIf (xTest (xOp LtD (xVar 1) (xBi LenD (xCons (xVar 0) xNil)))) (xOp IxD (xVar 0) (xVar 1)) (xInt 0)) (xgName 2))
    (xsRet (xLstC (xCons (xOp MulD (xBi AbsD (xCons (xVar 2) xNil)) (xBi IntD (xCons (xOp GeD (xBi AbsD (xCons (xVar 2) xNil)) (xOp PowD (xInt 10) (xInt 18))) xNil))) (xCons (xOp AddD (xVar 2) (xOp MulD (xInt 1000003) (xVar 1))) (xCons (xInt 0) xNil))))))
abbrev w__law_left : Pw := w_left
theorem sem__law_left : SemW N__law_left 2 w__law_left x__law_left := by
  rintro _ _ R X ⟨ns, k, rfl, rfl, h0, h⟩
  refine ⟨rfl, by decide, ?_⟩
  show x__law_left.wp _ [some (.d (.list (ns.map .int))), some (.d (.int k)), none] [] _
  unfold x__law_left
  have rest : ∀ c : Int, retW 0 R (.c 0) [.lst [.int ((if c < 0 then -c else c) * (if decide ((10 : Int) ^ (18 : Int).toNat ≤ (if c < 0 then -c else c)) then 1 else 0)), .int (c + 1000003 * k), .int 0]] := by
    intro c
    refine retW_c [0] ⟨by simp, rfl, ?_⟩ rfl h
    refine ⟨⟨_, _, _, rfl, ⟨_, rfl⟩, ?_, by decide, by decide⟩, trivial⟩
    refine Int.mul_nonneg (by split <;> omega) ?_
    split <;> omega
  walk_at "wa"
  all_goals try (walk_at "ws")
  all_goals try (exact rest _)
  rename_i hk
  obtain ⟨c, hc, _⟩ := atI_ints (ns := ns) (i := k) h0 (by rw [List.length_map] at hk; exact hk)
  refine ⟨_, hc, ?_⟩
  walk_at "w"
  all_goals try (walk_at "ws")
  all_goals try (exact rest _)
def N__law_pick : List Str := ["_law_left_here", "_law_many", "_law_digit"]
def x__law_pick : XS := (xsOpen 0 (xsSeq (xsSetItem (xOp AddD (xOp IxD (xVar 0) (xInt 2)) (xInt 1)) (xVar 0) (xInt 2))
    (xsSeq (xsIf (xTest (xOp GtD (xOp IxD (xVar 0) (xInt 0)) (xInt 0))) (xsSeq (xsAsg (xOp ModD (xOp IxD (xVar 0) (xInt 0)) (xVar 1)) (xgName 2))
    (xsSeq (xsSetItem (xOp DivD (xOp IxD (xVar 0) (xInt 0)) (xVar 1)) (xVar 0) (xInt 0))
    (xsRet (xVar 2)))) xsNext)
    (xsRet (xOp ModD (xOp DivD (xCall w__law_mix (xCons (xCall w__law_mix (xCons (xOp IxD (xVar 0) (xInt 1)) (xCons (xOp IxD (xVar 0) (xInt 2)) xNil))) (xCons (xOp AddD (xOp IxD (xVar 0) (xInt 2)) (xInt 64)) xNil))) (xInt 64)) (xVar 1))))))
abbrev w__law_pick : Pw := w_pick
theorem sem__law_pick : SemW N__law_pick 2 w__law_pick x__law_pick := by
  rintro _ _ R X ⟨n, m, rfl, rfl, hn, h0, h1, h⟩
  refine ⟨rfl, by decide, ?_⟩
  show x__law_pick.wp _ [some (.c 0), some (.d (.int m)), none] [.box false n] _
  unfold x__law_pick
  walk_at "w"
  rintro x y _ ⟨b, rfl⟩ hx hy hyn
  have fin : ∀ r x' y' : Int, 0 ≤ r → r < m → 0 ≤ x' → 0 ≤ y' → y' ≤ n + 1 → retW [Cell.box false n].length R (.d (.int r)) [.lst [.int x', .int b, .int y']] := fun r x' y' a1 a2 a3 a4 a5 =>
    retW_d (c' := [.box false (n + 1)]) [0] ⟨by simp, rfl, ⟨⟨x', y', .int b, rfl, ⟨_, rfl⟩, a3, a4, by omega⟩, trivial⟩⟩ (h r a1 a2)
  walk_at "wa"
  all_goals try (walk_at "ws")
  · exact fin _ _ _ (Int.emod_nonneg _ (by omega)) (Int.emod_lt_of_pos _ h0) (Int.ediv_nonneg hx (by omega)) (by omega) (by omega)
  · refine call_mix (by omega) (by omega) fun r1 h1 => ?_
    walk_at "w"
    refine call_mix (by omega) (by omega) fun r2 h2 => ?_
    walk_at "w"
    all_goals try (walk_at "ws")
    exact fin _ _ _ (Int.emod_nonneg _ (by omega)) (Int.emod_lt_of_pos _ h0) hx (by omega) (by omega)

/-! prices -/
def pD (p : Int × Int) : PyData := .tuple [.int p.1, .int p.2]
def plD (pr : List (Int × Int)) : List PyData := pr.map pD
def optD : Option Int → PyData
  | none => .none
  | some i => .int i
def priceOn (pr : List (Int × Int)) (day : Int) : Option Int := pr.foldl (fun f p => if p.1 ≤ day then some p.2 else f) none
def isPr (s : PyData) (pr : List (Int × Int)) : Prop := s = .list (plD pr) ∨ s = .tuple (plD pr)
def N_price_on : List Str := ["prices", "day", "found", "begin", "pence"]
def x_price_on : XS := (xsSeq (xsAsg xNon (xgName 2))
    (xsSeq (xsFor (xiSeq (xVar 0)) (xgTup (xgsCons (xgName 3) (xgsCons (xgName 4) xgsNil))) (xsIf (xTest (xOp LeD (xVar 3) (xVar 1))) (xsAsg (xVar 4) (xgName 2)) xsNext))
    (xsRet (xVar 2))))
def w_price_on : Pw := fun ss C R _ => ∃ s pr day, ss = [.d s, .d (.int day)] ∧ isPr s pr ∧ C = [] ∧ R (.d (optD (priceOn pr day))) []
theorem take_fold {α β : Type} (f : β → α → β) (b : β) {xs : List α} {i : Nat} {x : α} (h : xs[i]? = some x) : (xs.take (i + 1)).foldl f b = f ((xs.take i).foldl f b) x := by
  rw [take_more h, List.foldl_append]; rfl
theorem sem_price_on : SemW N_price_on 2 w_price_on x_price_on := by
  rintro _ _ R X ⟨s, pr, day, rfl, hs, rfl, h⟩
  refine ⟨rfl, by decide, ?_⟩
  show x_price_on.wp _ [some (.d s), some (.d (.int day)), none, none, none] [] _
  unfold x_price_on
  have loop : ∀ X' P, P.N = (fun ρ' C' => look ρ' 2 fun s => retW 0 R s C') → forW (xgTup (xgsCons (xgName 3) (xgsCons (xgName 4) xgsNil))) (xsIf (xTest (xOp LeD (xVar 3) (xVar 1))) (xsAsg (xVar 4) (xgName 2)) xsNext) X' (fun _ => True) 0 ((plD pr).map .d) [some (.d s), some (.d (.int day)), some (.d .none), none, none] [] P := by
    intro X' P hP
    refine forW_inv (fun i ρ C => C = [] ∧ ρ = [some (.d s), some (.d (.int day)), some (.d (optD (priceOn (pr.take i) day))), none, none]) ⟨rfl, rfl⟩ (fun _ _ _ _ => trivial) ?_ ?_
    · rintro i v ρ C K hv ⟨rfl, rfl⟩ k
      rw [List.getElem?_map, plD, List.getElem?_map] at hv
      cases hp : pr[i]? with
      | none => rw [hp] at hv; cases hv
      | some p =>
        rw [hp] at hv
        cases hv
        have e : priceOn (pr.take (i + 1)) day = if p.1 ≤ day then some p.2 else priceOn (pr.take i) day := take_fold _ _ hp
        show XG.wp _ [] (.d (.tuple [.int p.1, .int p.2])) _ _
        walk_at "wa"
        · rename_i hle
          rw [if_pos hle] at e
          refine wkn_k (f := []) (k _ _ ⟨rfl, by rw [e]⟩) ?_ ?_ <;> walk_at "wk"
        · rename_i hle
          rw [if_neg hle] at e
          refine wkn_k (f := []) (k _ _ ⟨rfl, by rw [e]⟩) ?_ ?_ <;> walk_at "wk"
    · rintro ρ C ⟨rfl, rfl⟩
      rw [hP, List.length_map, plD, List.length_map, List.take_length]
      exact ret0 h
  rcases hs with rfl | rfl <;> walk_at "w" <;> exact loop _ _ rfl


/-- prices as they're asked: days rising from 0 to 400, pence -/
structure OkPr (pr : List (Int × Int)) : Prop where
  rise : (pr.map (·.1)).Pairwise (· < ·)
  lo : ∀ p ∈ pr, 0 ≤ p.1 ∧ p.1 ≤ 400 ∧ 1 ≤ p.2 ∧ p.2 ≤ 1000000
def N__law_prices : List Str := ["_law_left_here", "_law_many", "_law_day", "_law_found", "_law_most", "_law_turn"]
def x__law_prices : XS := (xsSeq (xsPar3 2 3 4 (xCons (xCall w__law_pick (xCons (xVar 0) (xCons (xOp IxD (xLst (xCons (xInt 3) (xCons (xInt 300) xNil))) (xCall w__law_pick (xCons (xVar 0) (xCons (xInt 2) xNil)))) xNil))) (xCons (xLstC xNil) (xCons (xOp IxD (xLst (xCons (xInt 5) (xCons (xInt 99) (xCons (xOp PowD (xInt 10) (xInt 6)) xNil)))) (xCall w__law_pick (xCons (xVar 0) (xCons (xInt 3) xNil)))) xNil))))
    (xsSeq (xsFor (xiRng1 (xVar 1)) (xgName 5) (xsSeq (xsIf (xTest (xOp LeD (xVar 2) (xInt 400))) (xsDrop (xAppend (xVar 3) (xTup (xCons (xVar 2) (xCons (xOp AddD (xInt 1) (xCall w__law_pick (xCons (xVar 0) (xCons (xVar 4) xNil)))) xNil))))) xsNext)
    (xsAsg (xOp AddD (xOp AddD (xVar 2) (xInt 1)) (xCall w__law_pick (xCons (xVar 0) (xCons (xOp IxD (xLst (xCons (xInt 1) (xCons (xInt 4) (xCons (xInt 40) xNil)))) (xCall w__law_pick (xCons (xVar 0) (xCons (xInt 3) xNil)))) xNil)))) (xgName 2))))
    (xsRet (xFz (xVar 3)))))
def w__law_prices : Pw := fun ss C R _ => ∃ (n : Nat) (m : Int), ss = [.c 0, .d (.int m)] ∧ C = [.box false n] ∧ n ≤ 100000000 ∧ 0 ≤ m ∧ m ≤ 100 ∧ ∀ pr, OkPr pr → pr.length ≤ m → R (.d (.list (plD pr))) [.box false (n + 1000)]
theorem OkPr.nil : OkPr [] := ⟨by simp, by simp⟩
theorem OkPr.snoc {pr : List (Int × Int)} {d p : Int} (h : OkPr pr) (h1 : ∀ q ∈ pr, q.1 < d) (h2 : 0 ≤ d ∧ d ≤ 400) (h3 : 1 ≤ p ∧ p ≤ 1000000) : OkPr (pr ++ [(d, p)]) := by
  refine ⟨?_, fun q m => ?_⟩
  · rw [List.map_append, List.pairwise_append]
    refine ⟨h.rise, by simp, fun a ha b hb => ?_⟩
    obtain ⟨q, hq, rfl⟩ := List.mem_map.mp ha
    simp at hb
    rw [hb]; exact h1 q hq
  · rcases List.mem_append.mp m with m | m
    · exact h.lo q m
    · simp at m
      rw [m]; exact ⟨h2.1, h2.2, h3.1, h3.2⟩
theorem sem__law_prices : SemW N__law_prices 2 w__law_prices x__law_prices := by
  rintro _ _ R X ⟨n, m, rfl, rfl, hn, m0, m1, h⟩
  refine ⟨rfl, by decide, ?_⟩
  show x__law_prices.wp _ [some (.c 0), some (.d (.int m)), none, none, none, none] [.box false n] _
  unfold x__law_prices
  walk_at "wq"
  refine ix_ints [3, 300] rfl (by omega) (by simp; omega) fun top ht => ?_
  have ht1 : 0 < top ∧ top ≤ 300 := by
    simp only [List.mem_cons, List.not_mem_nil, or_false] at ht
    omega
  · walk_at "wq"
    · exact ⟨by decide, by decide, by decide⟩
    rw [p6]
    refine ix_ints [5, 99, 1000000] rfl (by omega) (by simp; omega) fun most hm => ?_
    have hm1 : 0 < most ∧ most ≤ 1000000 := by
      simp only [List.mem_cons, List.not_mem_nil, or_false] at hm
      omega
    walk_at "wq"
    refine ⟨by omega, ?_⟩
    rename_i d d0 d1 _ _ _
    refine forW_inv (fun i ρ C => ∃ (n' : Nat) (pr : List (Int × Int)) (day : Int), C = [.box false n', .lst (plD pr)] ∧ ρ = [some (.c 0), some (.d (.int m)), some (.d (.int day)), some (.c 1), some (.d (.int most)), none] ∧ n' ≤ n + 3 + 3 * i ∧ OkPr pr ∧ pr.length ≤ i ∧ 0 ≤ day ∧ ∀ q ∈ pr, q.1 < day)
      ⟨_, [], _, rfl, rfl, by omega, OkPr.nil, Nat.le_refl _, d0, by simp⟩ (fun _ _ _ _ => trivial) ?_ ?_
    · rintro i v ρ C K hv ⟨n', pr, day, rfl, rfl, h1, h2, h3, h4, h5⟩ k
      obtain ⟨hi, rfl⟩ := rng_get hv
      have hi' : i < 100 := by omega
      have fin : ∀ (n2 : Nat) (pr2 : List (Int × Int)) (day2 : Int) (v : Cv), n2 ≤ n' + 3 → OkPr pr2 → pr2.length ≤ pr.length + 1 → day < day2 → (∀ q ∈ pr2, q.1 < day2) → wkn 2 [some (.c 0), some (.d (.int m)), some (.d (.int day2)), some (.c 1), some (.d (.int most)), some v] [.box false n2, .lst (plD pr2)] K := by
        intro n2 pr2 day2 v g1 g2 g3 g4 g5
        refine wkn_k (f := [0, 1]) (k _ _ ⟨n2, pr2, day2, rfl, rfl, by omega, g2, by omega, by omega, g5⟩) ?_ ?_ <;> walk_at "wk"
        exact Nat.le_refl _
      walk_at "wa"
      · walk_at "wq"
        · rw [plD, List.length_map]; omega
        rename_i hle pence p0 p1 r r0 r1
        refine ix_ints [1, 4, 40] rfl (by omega) (by simp; omega) fun z hz => ?_
        have hz1 : 0 < z ∧ z ≤ 40 := by
          simp only [List.mem_cons, List.not_mem_nil, or_false] at hz
          omega
        walk_at "wq"
        rename_i s s0 s1
        have e : plD pr ++ [.tuple [.int day, .int (1 + pence)]] = plD (pr ++ [(day, 1 + pence)]) := by rw [plD, plD, List.map_append]; rfl
        rw [e]
        refine fin _ _ _ _ (by omega) (h2.snoc h5 ⟨by omega, by omega⟩ ⟨by omega, by omega⟩) (by rw [List.length_append]; simp) (by omega) fun q m => ?_
        rcases List.mem_append.mp m with m | m
        · have := h5 q m; omega
        · simp at m; rw [m]; show day < _; omega
      · walk_at "wq"
        rename_i hle r r0 r1
        refine ix_ints [1, 4, 40] rfl (by omega) (by simp; omega) fun z hz => ?_
        have hz1 : 0 < z ∧ z ≤ 40 := by
          simp only [List.mem_cons, List.not_mem_nil, or_false] at hz
          omega
        walk_at "wq"
        exact fin _ _ _ _ (by omega) h2 (by omega) (by omega) fun q m => by have := h5 q m; omega
    · rintro ρ C ⟨n', pr, day, rfl, rfl, h1, h2, h3, h4, h5⟩
      rw [rng_len] at h1 h3
      walk_at "w"
      refine ret_k (f := [0]) (h pr h2 (by omega)) ?_
      walk_at "wk"
      omega
def toPr (xs : List PyData) : PyData := .list xs
def N__law_one : List Str := ["_law_left_here", "_law_some"]
def x__law_one : XS := (xsRet (xOp IxD (xVar 1) (xCall w__law_pick (xCons (xVar 0) (xCons (xBi LenD (xCons (xVar 1) xNil)) xNil)))))
def w__law_one : Pw := fun ss C R _ => ∃ (n : Nat) (xs : List PyData), ss = [.c 0, .d (.list xs)] ∧ C = [.box false n] ∧ n ≤ 100000000 ∧ 0 < xs.length ∧ xs.length ≤ 100000 ∧ ∀ x ∈ xs, R (.d x) [.box false (n + 1)]
theorem sem__law_one : SemW N__law_one 2 w__law_one x__law_one := by
  rintro _ _ R X ⟨n, xs, rfl, rfl, hn, h0, h1, h⟩
  refine ⟨rfl, by decide, ?_⟩
  show x__law_one.wp _ [some (.c 0), some (.d (.list xs))] [.box false n] _
  unfold x__law_one
  walk_at "wq"
  rename_i r r0 r1
  refine ix_any r0 r1 fun z hz => ?_
  walk_at "w"
  refine ret_k (f := [0]) (h z hz) ?_
  walk_at "wk"
  exact Nat.le_refl _
theorem call_one {X : Xc → Cs → Prop} {C : Cs} {P : Cv → Cs → Prop} {i n : Nat} {xs : List PyData} (hc : C[i]? = some (.box false n)) (hn : n ≤ 100000000) (h0 : 0 < xs.length) (h1 : xs.length ≤ 100000)
    (h : ∀ x ∈ xs, setC C i (.box false (n + 1)) fun C' => P (.d x) C') : callW w__law_one X C [.c i, .d (.list xs)] P := by
  refine call1 i (.box false n) ⟨by rw [hc]; exact ⟨rfl, Nat.le_refl n⟩, trivial⟩ (ss' := [.c 0, .d (.list xs)]) ⟨rfl, rfl, trivial⟩ ⟨n, xs, rfl, rfl, hn, h0, h1, fun x hx => ?_⟩
  show P (.d x) (backCs [i] C [.box false (n + 1)])
  rw [bk_1]
  exact h x hx
theorem min_snoc (L : List Int) (x : Int) : (L ++ [x]).min? = some (match L.min? with | none => x | some m => min m x) := by
  cases h : L.min? with
  | none =>
    rw [List.min?_eq_none_iff.mp h]
    rfl
  | some m =>
    obtain ⟨h1, h2⟩ := List.min?_eq_some_iff.mp h
    refine List.min?_eq_some_iff.mpr ⟨?_, fun a ha => ?_⟩
    · rw [List.mem_append, List.mem_singleton]
      rcases Int.le_total m x with q | q
      · exact .inl (by show min m x ∈ L; rw [show min m x = m by omega]; exact h1)
      · exact .inr (by show min m x = x; omega)
    · rw [List.mem_append, List.mem_singleton] at ha
      rcases ha with ha | ha
      · have := h2 a ha; show min m x ≤ a; omega
      · show min m x ≤ a; omega
theorem min_same {A B : List Int} (h : ∀ x, x ∈ A ↔ x ∈ B) : A.min? = B.min? := by
  cases hB : B.min? with
  | none =>
    have e := List.min?_eq_none_iff.mp hB
    subst e
    refine List.min?_eq_none_iff.mpr (List.eq_nil_iff_forall_not_mem.mpr fun a ha => ?_)
    exact nomatch (h a).mp ha
  | some m =>
    obtain ⟨h1, h2⟩ := List.min?_eq_some_iff.mp hB
    exact List.min?_eq_some_iff.mpr ⟨(h m).mpr h1, fun a ha => h2 a ((h a).mp ha)⟩
def laterP (pr : List (Int × Int)) (b w : Int) : List Int := pr.filterMap fun p => if b < p.1 ∧ p.1 ≤ b + w then some p.2 else none
def leastS (pr : List (Int × Int)) (b w : Int) : Option Int := (laterP pr b w ++ (priceOn pr b).toList).min?
def N_least_since : List Str := ["prices", "begin", "within", "day", "pence", "some", "first"]
def x_least_since : XS := (xsSeq (xsAsg (xLcC (xiSeq (xVar 0)) (xgTup (xgsCons (xgName 3) (xgsCons (xgName 4) xgsNil))) (xTest (xChain LtD LeD (xVar 1) (xVar 3) (xOp AddD (xVar 1) (xVar 2)))) (xVar 4) [3, 4]) (xgName 5))
    (xsSeq (xsAsg (xCall w_price_on (xCons (xVar 0) (xCons (xVar 1) xNil))) (xgName 6))
    (xsSeq (xsIf (xTest (xNotN (xVar 6))) (xsDrop (xAppend (xVar 5) (xVar 6))) xsNext)
    (xsRet (xBiK MinDefD (xCons (xVar 5) xNil) (xCons xNon xNil))))))
def w_least_since : Pw := fun ss C R _ => ∃ s pr b w, ss = [.d s, .d (.int b), .d (.int w)] ∧ isPr s pr ∧ C = [] ∧ pr.length ≤ 1000 ∧ R (.d (optD (leastS pr b w))) []
theorem optD_df {o : Option Int} : dfD .none o = optD o := by cases o <;> rfl
theorem call_price_on {X : Xc → Cs → Prop} {C : Cs} {P : Cv → Cs → Prop} {s : PyData} {pr : List (Int × Int)} {day : Int} (hs : isPr s pr) (h : P (.d (optD (priceOn pr day))) C) : callW w_price_on X C [.d s, .d (.int day)] P := by
  refine call0 ⟨rfl, rfl, trivial⟩ ⟨s, pr, day, rfl, hs, rfl, ?_⟩
  simp only [bk_0, bk_d]
  exact h
theorem sem_least_since : SemW N_least_since 3 w_least_since x_least_since := by
  rintro _ _ R X ⟨s, pr, b, w, rfl, hs, rfl, hl, h⟩
  refine ⟨rfl, by decide, ?_⟩
  show x_least_since.wp _ [some (.d s), some (.d (.int b)), some (.d (.int w)), none, none, none, none] [] _
  unfold x_least_since
  have step : ∀ X' keep U, keep [] → U ((laterP pr b w).map .int) [] → compW (xgTup (xgsCons (xgName 3) (xgsCons (xgName 4) xgsNil))) (xTest (xChain LtD LeD (xVar 1) (xVar 3) (xOp AddD (xVar 1) (xVar 2)))) (xVar 4) [3, 4] X' keep ((plD pr).map .d) [some (.d s), some (.d (.int b)), some (.d (.int w)), none, none, none, none] [] [] U := by
    intro X' keep U hk hU
    rw [plD, List.map_map]
    refine compW_map (fun p => if b < p.1 ∧ p.1 ≤ b + w then some (.int p.2) else none) hk (fun p _ K k => ?_) ?_
    · show XG.wp _ [] (.d (.tuple [.int p.1, .int p.2])) [some (.d s), some (.d (.int b)), some (.d (.int w)), none, none, none, none] _
      walk_at "wa"
      · rename_i h1 h2; rw [if_pos ⟨h1, h2⟩] at k; exact k
      · rename_i h1 h2; rw [if_neg fun q => h2 q.2] at k; exact k
      · rename_i h1; rw [if_neg fun q => h1 q.1] at k; exact k
    · have e : (fun p : Int × Int => (if b < p.1 ∧ p.1 ≤ b + w then some (PyData.int p.2) else none)) = fun p => Option.map PyData.int (if b < p.1 ∧ p.1 ≤ b + w then some p.2 else none) := by
        funext p; split <;> rfl
      rw [laterP, List.map_filterMap, ← e] at hU
      exact hU
  have ln : ((plD pr).map Cv.d).length ≤ 100000 := by rw [List.length_map, plD, List.length_map]; omega
  refine k_cut (fun ρ C => ρ = [some (.d s), some (.d (.int b)), some (.d (.int w)), none, none, some (.c 0), none] ∧ C = [.lst ((laterP pr b w).map .int)]) ?_ ?_
  · have fin : wkn 0 [some (.d s), some (.d (.int b)), some (.d (.int w)), none, none, some (.c 0), none] [.lst ((laterP pr b w).map .int)] (fun ρ C => ρ = [some (.d s), some (.d (.int b)), some (.d (.int w)), none, none, some (.c 0), none] ∧ C = [.lst ((laterP pr b w).map .int)]) := by
      refine wkn_k (f := [0]) ⟨rfl, rfl⟩ ?_ ?_ <;> walk_at "wk"
    rcases hs with rfl | rfl <;> walk_at "w" <;> refine ⟨ln, step _ _ _ trivial ?_⟩ <;> walk_at "w" <;> exact fin
  rintro _ _ ⟨rfl, rfl⟩
  walk_at "n"
  refine call_price_on hs ?_
  walk_at "we"
  unfold leastS at h
  have ll : (laterP pr b w).length ≤ 1000 := Nat.le_trans (List.length_filterMap_le _ _) hl
  cases e : priceOn pr b with
  | none =>
    rw [e] at h
    rw [Option.toList_none, List.append_nil] at h
    simp only [optD]
    walk_at "w"
    refine ⟨_, g_minDef trivial, ?_⟩
    rw [optD_df]
    walk_at "w"
    exact ret_k (f := []) h ⟨by simp, rfl, trivial⟩
  | some i =>
    rw [e] at h
    simp only [optD]
    walk_at "w"
    · rw [List.length_map]; omega
    have eq : (laterP pr b w).map PyData.int ++ [.int i] = (laterP pr b w ++ (some i).toList).map PyData.int := by simp
    rw [eq]
    refine ⟨_, g_minDef trivial, ?_⟩
    rw [optD_df]
    walk_at "w"
    exact ret_k (f := []) h ⟨by simp, rfl, trivial⟩
def lastP (a : List (Int × Int)) : Option Int := a.foldl (fun _ p => some p.2) none
theorem lastP_snoc (a : List (Int × Int)) (p : Int × Int) : lastP (a ++ [p]) = some p.2 := by unfold lastP; rw [List.foldl_append]; rfl
theorem priceOn_split {a rest : List (Int × Int)} {d : Int} (h1 : ∀ p ∈ a, p.1 ≤ d) (h2 : ∀ p ∈ rest, d < p.1) : priceOn (a ++ rest) d = lastP a := by
  unfold priceOn lastP
  rw [List.foldl_append]
  have e1 : ∀ (l : List (Int × Int)) (z : Option Int), (∀ p ∈ l, p.1 ≤ d) → l.foldl (fun f p => if p.1 ≤ d then some p.2 else f) z = l.foldl (fun _ p => some p.2) z := by
    intro l
    induction l with
    | nil => intro _ _; rfl
    | cons p l ih => intro z h; rw [List.foldl_cons, List.foldl_cons, if_pos (h p List.mem_cons_self)]; exact ih _ fun q m => h q (List.mem_cons_of_mem _ m)
  have e2 : ∀ (l : List (Int × Int)) (z : Option Int), (∀ p ∈ l, d < p.1) → l.foldl (fun f p => if p.1 ≤ d then some p.2 else f) z = z := by
    intro l
    induction l with
    | nil => intro _ _; rfl
    | cons p l ih => intro z h; rw [List.foldl_cons, if_neg (by have := h p List.mem_cons_self; omega)]; exact ih _ fun q m => h q (List.mem_cons_of_mem _ m)
  rw [e1 a none h1, e2 rest _ h2]
theorem split_at {pr : List (Int × Int)} (hr : (pr.map (·.1)).Pairwise (· < ·)) (d : Int) : ∃ a rest, pr = a ++ rest ∧ (∀ p ∈ a, p.1 ≤ d) ∧ ∀ p ∈ rest, d < p.1 := by
  induction pr with
  | nil => exact ⟨[], [], rfl, by simp, by simp⟩
  | cons p pr ih =>
    rw [List.map_cons, List.pairwise_cons] at hr
    by_cases hp : p.1 ≤ d
    · obtain ⟨a, rest, rfl, h1, h2⟩ := ih hr.2
      refine ⟨p :: a, rest, rfl, fun q m => ?_, h2⟩
      rcases List.mem_cons.mp m with rfl | m
      · exact hp
      · exact h1 q m
    · refine ⟨[], p :: pr, rfl, by simp, fun q m => ?_⟩
      rcases List.mem_cons.mp m with rfl | m
      · omega
      · have := hr.1 q.1 (List.mem_map_of_mem m); omega
theorem priceOn_own {pr : List (Int × Int)} (hr : (pr.map (·.1)).Pairwise (· < ·)) {p : Int × Int} (m : p ∈ pr) : priceOn pr p.1 = some p.2 := by
  obtain ⟨a, rest, rfl⟩ := List.append_of_mem m
  rw [List.map_append, List.map_cons, List.pairwise_append, List.pairwise_cons] at hr
  have e : a ++ p :: rest = (a ++ [p]) ++ rest := by simp
  rw [e, priceOn_split, lastP_snoc]
  · intro q mq
    rcases List.mem_append.mp mq with mq | mq
    · exact Int.le_of_lt (hr.2.2 q.1 (List.mem_map_of_mem mq) p.1 List.mem_cons_self)
    · simp at mq; rw [mq]; exact Int.le_refl _
  · intro q mq
    exact hr.2.1.1 q.1 (List.mem_map_of_mem mq)
theorem priceOn_from {pr : List (Int × Int)} (hr : (pr.map (·.1)).Pairwise (· < ·)) {d v : Int} (h : priceOn pr d = some v) : ∃ p ∈ pr, p.2 = v ∧ p.1 ≤ d ∧ ∀ b, p.1 ≤ b → b ≤ d → priceOn pr b = some v := by
  obtain ⟨a, rest, rfl, h1, h2⟩ := split_at hr d
  rw [priceOn_split h1 h2] at h
  rcases List.eq_nil_or_concat a with rfl | ⟨a, p, rfl⟩
  · cases h
  · rw [List.concat_eq_append] at h1 h hr ⊢
    rw [lastP_snoc] at h
    cases h
    refine ⟨p, by simp, rfl, h1 p (by simp), fun b hb hd => ?_⟩
    rw [priceOn_split, lastP_snoc]
    · intro q mq
      rcases List.mem_append.mp mq with mq | mq
      · rw [List.map_append, List.map_append, List.pairwise_append, List.pairwise_append] at hr
        have := hr.1.2.2 q.1 (List.mem_map_of_mem mq) p.1 (by simp)
        omega
      · simp at mq; rw [mq]; exact hb
    · intro q mq
      have := h2 q mq; omega
def dueL (pr : List (Int × Int)) (b : Int) (n : Nat) : List Int := (List.range n).filterMap fun (j : Nat) => if b ≤ (j : Int) then priceOn pr j else none
theorem dueL_succ {pr : List (Int × Int)} {b : Int} {n : Nat} : dueL pr b (n + 1) = dueL pr b n ++ (if b ≤ (n : Int) then priceOn pr n else none).toList := by
  unfold dueL
  rw [List.range_succ, List.filterMap_append]
  congr 1
theorem least_due {pr : List (Int × Int)} {b w : Int} (hp : OkPr pr) (hb : 0 ≤ b) (hw : 0 ≤ w) : leastS pr b w = (dueL pr b (b + w + 1).toNat).min? := by
  refine min_same fun v => ?_
  rw [List.mem_append, laterP, List.mem_filterMap, dueL, List.mem_filterMap]
  constructor
  · rintro (⟨p, m, h⟩ | h)
    · split at h
      · rename_i hq
        cases h
        have := hp.lo p m
        refine ⟨p.1.toNat, List.mem_range.mpr (by omega), ?_⟩
        have e : ((p.1.toNat : Nat) : Int) = p.1 := by omega
        rw [e, if_pos (by omega)]
        exact priceOn_own hp.rise m
      · cases h
    · rw [Option.mem_toList] at h
      refine ⟨b.toNat, List.mem_range.mpr (by omega), ?_⟩
      have e : ((b.toNat : Nat) : Int) = b := by omega
      rw [e, if_pos (by omega)]
      exact h
  · rintro ⟨j, hj, h⟩
    have hj := List.mem_range.mp hj
    split at h
    · rename_i hbj
      obtain ⟨p, m, rfl, h1, h2⟩ := priceOn_from hp.rise h
      by_cases hpb : p.1 ≤ b
      · exact .inr (Option.mem_toList.mpr (h2 b hpb hbj))
      · exact .inl ⟨p, m, by rw [if_pos (by omega)]⟩
    · cases h
theorem ok_pl (pr : List (Int × Int)) : okD 2 (.list (plD pr)) = true := by
  show (plD pr).all (okD 1) = true
  rw [List.all_eq_true]
  intro d hd
  obtain ⟨p, _, rfl⟩ := List.mem_map.mp hd
  rfl
theorem ne_pl {p : Int × Int} {pr : List (Int × Int)} : (!PyData.eqv (.list (plD (p :: pr))) (.list [])) = true := by simp [plD, PyData.eqv, PyData.eqvAll]
def N__law_due : List Str := ["_law_prices_here", "_law_begin", "_law_within", "_law_found", "_law_now", "_law_rest", "_law_day"]
def x__law_due : XS := (xsSeq (xsPar3 3 4 5 (xCons xNon (xCons xNon (xCons (xListC (xVar 0)) xNil))))
    (xsSeq (xsFor (xiRng1 (xOp AddD (xOp AddD (xVar 1) (xVar 2)) (xInt 1))) (xgName 6) (xsSeq (xsWhile (xTAnd (xTest (xOp NeD (xVar 5) (xLst xNil))) (xTest (xOp LeD (xOp IxD (xOp IxD (xVar 5) (xInt 0)) (xInt 0)) (xVar 6)))) (xsAsg (xOp IxD (xPopAt (xVar 5) (xInt 0)) (xInt 1)) (xgName 4)))
    (xsIf (xTAnd (xTest (xOp GeD (xVar 6) (xVar 1))) (xTest (xNotN (xVar 4)))) (xsAsg (xIf (xTest (xIsN (xVar 3))) (xVar 4) (xBi Min2D (xCons (xVar 3) (xCons (xVar 4) xNil)))) (xgName 3)) xsNext)))
    (xsRet (xVar 3))))
def w__law_due : Pw := fun ss C R _ => ∃ pr b w, ss = [.d (.list (plD pr)), .d (.int b), .d (.int w)] ∧ OkPr pr ∧ pr.length ≤ 1000 ∧ 0 ≤ b ∧ 0 ≤ w ∧ b + w ≤ 10000 ∧ C = [] ∧ R (.d (optD (dueL pr b (b + w + 1).toNat).min?)) []
theorem sem__law_due : SemW N__law_due 3 w__law_due x__law_due := by
  rintro _ _ R X ⟨pr, b, w, rfl, hp, hl, hb, hw, hbw, rfl, h⟩
  refine ⟨rfl, by decide, ?_⟩
  show x__law_due.wp _ [some (.d (.list (plD pr))), some (.d (.int b)), some (.d (.int w)), none, none, none, none] [] _
  unfold x__law_due
  walk_at "w"
  refine ⟨by omega, ?_⟩
  refine forW_inv (fun i ρ C => ∃ a rest, pr = a ++ rest ∧ C = [.lst (plD rest)] ∧ ρ = [some (.d (.list (plD pr))), some (.d (.int b)), some (.d (.int w)), some (.d (optD (dueL pr b i).min?)), some (.d (optD (lastP a))), some (.c 0), none] ∧ (∀ p ∈ a, p.1 < i) ∧ ∀ p ∈ rest, (i : Int) ≤ p.1)
    ⟨[], pr, rfl, rfl, rfl, by simp, fun p m => (hp.lo p m).1⟩ (fun _ _ _ _ => trivial) ?_ ?_
  · rintro i v ρ C K hv ⟨a, rest, e, rfl, rfl, h1, h2⟩ k
    obtain ⟨hi, rfl⟩ := rng_get hv
    rw [Int.zero_add]
    walk_at "we"
    refine k_cut (fun ρ C => ∃ a rest, pr = a ++ rest ∧ C = [.lst (plD rest)] ∧ ρ = [some (.d (.list (plD pr))), some (.d (.int b)), some (.d (.int w)), some (.d (optD (dueL pr b i).min?)), some (.d (optD (lastP a))), some (.c 0), some (.d (.int i))] ∧ (∀ p ∈ a, p.1 ≤ i) ∧ ∀ p ∈ rest, (i : Int) < p.1) ?_ ?_
    · walk_at "w"
      refine whileW_inv (fun m ρ C => ∃ a rest, m = rest.length ∧ pr = a ++ rest ∧ C = [.lst (plD rest)] ∧ ρ = [some (.d (.list (plD pr))), some (.d (.int b)), some (.d (.int w)), some (.d (optD (dueL pr b i).min?)), some (.d (optD (lastP a))), some (.c 0), some (.d (.int i))] ∧ (∀ p ∈ a, p.1 ≤ i) ∧ ∀ p ∈ rest, (i : Int) ≤ p.1) rest.length
        ⟨a, rest, rfl, e, rfl, rfl, fun p m => by have := h1 p m; omega, h2⟩ ?_
      rintro m ρ C K2 ⟨a, rest, rfl, e, rfl, rfl, h1, h2⟩ k2
      cases rest with
      | nil =>
        walk_at "w"
        refine ⟨_, g_neO 2 (ok_pl []) rfl, ?_⟩
        refine ifF ?_
        walk_at "w"
        refine wkn_k (f := [0]) ⟨a, [], e, rfl, rfl, h1, by simp⟩ ?_ ?_ <;> walk_at "wk"
      | cons p rest =>
        walk_at "w"
        refine ⟨_, g_neO 2 (ok_pl (p :: rest)) rfl, ?_⟩
        rw [ne_pl]
        refine ifT ?_
        walk_at "w"
        refine ⟨pD p, at_0, ?_⟩
        walk_at "w"
        refine ⟨.int p.1, at_0, ?_⟩
        walk_at "wa"
        · rename_i hq
          refine ⟨by decide, ?_⟩
          walk_at "w"
          refine ⟨0, by simp [seqIndex?, plD], pD p, rfl, ?_⟩
          walk_at "w"
          refine ⟨.int p.2, at_1, ?_⟩
          walk_at "w"
          refine wkn_k (f := [0]) (k2 rest.length _ _ (by simp) ⟨a ++ [p], rest, rfl, by rw [e]; simp, rfl, by rw [lastP_snoc], ?_, fun q m => h2 q (List.mem_cons_of_mem _ m)⟩) ?_ ?_
          · intro q m
            rcases List.mem_append.mp m with m | m
            · exact h1 q m
            · simp at m; rw [m]; omega
          all_goals walk_at "wk"
        · rename_i hq
          have hrise := hp.rise
          rw [e, List.map_append, List.map_cons, List.pairwise_append, List.pairwise_cons] at hrise
          refine wkn_k (f := [0]) ⟨a, p :: rest, e, rfl, rfl, h1, fun q m => ?_⟩ ?_ ?_
          · have hp0 := h2 p List.mem_cons_self
            rcases List.mem_cons.mp m with m | m
            · rw [m]; omega
            · have := hrise.2.1.1 q.1 (List.mem_map_of_mem m)
              omega
          all_goals walk_at "wk"
    rintro _ _ ⟨a, rest, e, rfl, rfl, h1, h2⟩
    have ep : priceOn pr i = lastP a := by rw [e]; exact priceOn_split h1 h2
    have fin : ∀ f : Option Int, f = (dueL pr b (i + 1)).min? → wkn 1 [some (.d (.list (plD pr))), some (.d (.int b)), some (.d (.int w)), some (.d (optD f)), some (.d (optD (lastP a))), some (.c 0), some (.d (.int i))] [.lst (plD rest)] K := by
      rintro _ rfl
      refine wkn_k (f := [0]) (k _ _ ⟨a, rest, e, rfl, rfl, fun p m => by have := h1 p m; omega, fun p m => by have := h2 p m; omega⟩) ?_ ?_ <;> walk_at "wk"
    have ds := dueL_succ (pr := pr) (b := b) (n := i)
    rw [ep] at ds
    walk_at "wa"
    · rename_i hbi
      rw [if_pos hbi] at ds
      cases hl' : lastP a with
      | none =>
        rw [hl', Option.toList_none, List.append_nil] at ds
        rw [hl'] at fin
        simp only [optD]
        walk_at "w"
        exact fin _ (by rw [ds])
      | some x =>
        rw [hl'] at ds fin
        have em := min_snoc (dueL pr b i) x
        rw [show (some x).toList = [x] from rfl] at ds
        cases hm : (dueL pr b i).min? with
        | none =>
          rw [hm] at em
          simp only [optD]
          walk_at "w"
          exact fin (some x) (by rw [ds, em])
        | some m =>
          rw [hm] at em
          simp only [optD]
          walk_at "w"
          exact fin (some (min m x)) (by rw [ds, em])
    · rename_i hbi
      rw [if_neg (by omega), Option.toList_none, List.append_nil] at ds
      exact fin _ (by rw [ds])
  · rintro ρ C ⟨a, rest, e, rfl, rfl, h1, h2⟩
    rw [rng_len]
    walk_at "w"
    exact ret_k (f := []) h ⟨by simp, rfl, trivial⟩
theorem call_least {X : Xc → Cs → Prop} {C : Cs} {P : Cv → Cs → Prop} {s : PyData} {pr : List (Int × Int)} {b w : Int} (hs : isPr s pr) (hl : pr.length ≤ 1000) (h : P (.d (optD (leastS pr b w))) C) : callW w_least_since X C [.d s, .d (.int b), .d (.int w)] P := by
  refine call0 ⟨rfl, rfl, rfl, trivial⟩ ⟨s, pr, b, w, rfl, hs, rfl, hl, ?_⟩
  simp only [bk_0, bk_d]
  exact h
theorem call_due {X : Xc → Cs → Prop} {C : Cs} {P : Cv → Cs → Prop} {pr : List (Int × Int)} {b w : Int} (hp : OkPr pr) (hl : pr.length ≤ 1000) (hb : 0 ≤ b) (hw : 0 ≤ w) (hbw : b + w ≤ 10000) (h : P (.d (optD (leastS pr b w))) C) : callW w__law_due X C [.d (.list (plD pr)), .d (.int b), .d (.int w)] P := by
  refine call0 ⟨rfl, rfl, rfl, trivial⟩ ⟨pr, b, w, rfl, hp, hl, hb, hw, hbw, rfl, ?_⟩
  simp only [bk_0, bk_d]
  rw [← least_due hp hb hw]
  exact h
theorem call_prices {X : Xc → Cs → Prop} {C : Cs} {P : Cv → Cs → Prop} {i n : Nat} {m : Int} (hc : C[i]? = some (.box false n)) (hn : n ≤ 100000000) (h0 : 0 ≤ m) (h1 : m ≤ 100)
    (h : ∀ pr, OkPr pr → pr.length ≤ 100 → setC C i (.box false (n + 1000)) fun C' => P (.d (.list (plD pr))) C') : callW w__law_prices X C [.c i, .d (.int m)] P := by
  refine call1 i (.box false n) ⟨by rw [hc]; exact ⟨rfl, Nat.le_refl n⟩, trivial⟩ (ss' := [.c 0, .d (.int m)]) ⟨rfl, rfl, trivial⟩ ⟨n, m, rfl, rfl, hn, h0, h1, fun pr h2 h3 => ?_⟩
  show P (.d (.list (plD pr))) (backCs [i] C [.box false (n + 1000)])
  rw [bk_1]
  exact h pr h2 (by omega)
theorem rp_pl {pr : List (Int × Int)} (hp : OkPr pr) (hl : pr.length ≤ 100) : Rp 2 10000 (.list (plD pr)) := by
  have e : Rps 1 ((82 + 1) * pr.length) (plD pr) := rps_map fun p m => by
    have := hp.lo p m
    exact (rp_tup (rps_cons (rp_int (by omega)) (rps_cons (rp_int (by omega)) rps_nil))).up (Nat.le_refl _) (by omega)
  exact (rp_list e).up (Nat.le_refl _) (by omega)
def N_law : List Str := ["_law_script", "_law_k", "_law_left_here", "_law_great", "_law_prices_here", "_law_kept", "_law_turn", "_law_begin", "_law_within", "_law_found", "_law_due_here"]
def x_law : XS := (xsSeq (xsFor (xiRng1 (xBi Max2D (xCons (xInt 1) (xCons (xBi Min2D (xCons (xInt 5) (xCons (xBi LenD (xCons (xVar 0) xNil)) xNil))) xNil)))) (xgName 1) (xsSeq (xsAsg (xCall w__law_left (xCons (xVar 0) (xCons (xVar 1) xNil))) (xgName 2))
    (xsSeq (xsAsg (xAnd (xOp EqD (xVar 1) (xInt 0)) (xOp EqD (xCall w__law_pick (xCons (xVar 2) (xCons (xInt 6) xNil))) (xInt 0))) (xgName 3))
    (xsSeq (xsAsg (xCall w__law_prices (xCons (xVar 2) (xCons (xIf (xB (xVar 3)) (xInt 40) (xCall w__law_pick (xCons (xVar 2) (xCons (xInt 9) xNil)))) xNil))) (xgName 4))
    (xsSeq (xsAsg (xBi ReprD (xCons (xVar 4) xNil)) (xgName 5))
    (xsFor (xiRng1 (xInt 10)) (xgName 6) (xsSeq (xsAsg (xOp IxD (xLst (xCons (xInt 0) (xCons (xCall w__law_pick (xCons (xVar 2) (xCons (xInt 401) xNil))) xNil))) (xCall w__law_pick (xCons (xVar 2) (xCons (xInt 2) xNil)))) (xgName 7))
    (xsSeq (xsIf (xTAnd (xTest (xOp NeD (xVar 4) (xLst xNil))) (xTest (xOp EqD (xCall w__law_pick (xCons (xVar 2) (xCons (xInt 2) xNil))) (xInt 0)))) (xsAsg (xBi Max2D (xCons (xInt 0) (xCons (xBi Min2D (xCons (xInt 400) (xCons (xOp SubD (xOp AddD (xOp IxD (xCall w__law_one (xCons (xVar 2) (xCons (xVar 4) xNil))) (xInt 0)) (xCall w__law_pick (xCons (xVar 2) (xCons (xInt 3) xNil)))) (xInt 1)) xNil))) xNil))) (xgName 7)) xsNext)
    (xsSeq (xsAsg (xOp IxD (xLst (xCons (xInt 0) (xCons (xCall w__law_pick (xCons (xVar 2) (xCons (xInt 9) xNil))) (xCons (xCall w__law_pick (xCons (xVar 2) (xCons (xInt 60) xNil))) (xCons (xInt 400) xNil))))) (xCall w__law_pick (xCons (xVar 2) (xCons (xInt 4) xNil)))) (xgName 8))
    (xsSeq (xsPar 9 10 (xCons (xCall w_least_since (xCons (xVar 4) (xCons (xVar 7) (xCons (xVar 8) xNil)))) (xCons (xCall w__law_due (xCons (xVar 4) (xCons (xVar 7) (xCons (xVar 8) xNil)))) xNil)))
    (xsSeq (xsIf (xTOr (xTest (xOp NeD (xIsN (xVar 9)) (xIsN (xVar 10)))) (xTOr (xB (xIsi (xVar 9) "bool")) (xTest (xOp NeD (xVar 9) (xVar 10))))) (xsRet (xBl false)) xsNext)
    (xsIf (xTOr (xTest (xOp NeD (xCall w_least_since (xCons (xBi TupleD (xCons (xVar 4) xNil)) (xCons (xVar 7) (xCons (xVar 8) xNil)))) (xVar 10))) (xTest (xOp NeD (xBi ReprD (xCons (xVar 4) xNil)) (xVar 5)))) (xsRet (xBl false)) xsNext))))))))))))
    (xsRet (xBl true)))
theorem sem_law : SemW N_law 1 w_law x_law := by
  rintro _ _ R X ⟨ns, rfl, rfl, hl, h⟩
  refine ⟨rfl, by decide, ?_⟩
  show x_law.wp _ [some (.d (.list (ns.map .int))), none, none, none, none, none, none, none, none, none, none] [] _
  unfold x_law
  walk_at "w"
  refine ⟨by rw [List.length_map]; omega, ?_⟩
  refine forW_inv (fun i ρ C => C = [] ∧ ρ = [some (.d (.list (ns.map .int))), none, none, none, none, none, none, none, none, none, none]) ⟨rfl, rfl⟩ (fun _ _ _ _ => trivial) ?_ ?_
  · rintro i v ρ C K hv ⟨rfl, rfl⟩ k
    obtain ⟨hi, rfl⟩ := rng_get hv
    rw [List.length_map] at hi
    have hi' : i < 100 := by omega
    walk_at "we"
    walk_at "n"
    refine call_left (by omega) ?_
    walk_at "we"
    refine k_cut (fun ρ C => ∃ (g : Bool) (n : Nat), ρ = [some (.d (.list (ns.map .int))), some (.d (.int (0 + (i : Int)))), some (.c 0), some (.d (.bool g)), none, none, none, none, none, none, none] ∧ C = [.box false n] ∧ n ≤ 1) ?_ ?_
    · walk_at "wa"
      · walk_at "wq"
        rename_i r r0 r1
        refine wkn_k (f := [0]) ⟨decide (r = 0), 1, rfl, rfl, Nat.le_refl 1⟩ ?_ ?_ <;> walk_at "wk"
        exact Nat.le_refl _
      · refine wkn_k (f := [0]) ⟨false, 0, rfl, rfl, Nat.zero_le 1⟩ ?_ ?_ <;> walk_at "wk"
        exact Nat.le_refl _
    rintro _ _ ⟨g, n, rfl, rfl, hn⟩
    refine k_cut (fun ρ C => ∃ (pr : List (Int × Int)) (n : Nat), OkPr pr ∧ pr.length ≤ 100 ∧ ρ = [some (.d (.list (ns.map .int))), none, some (.c 0), none, some (.d (.list (plD pr))), none, none, none, none, none, none] ∧ C = [.box false n] ∧ n ≤ 2000) ?_ ?_
    · cases g <;> walk_at "wq"
      all_goals
        refine call_prices rfl (by omega) (by omega) (by omega) fun pr h1 h2 => ?_
        walk_at "w"
        refine wkn_k (f := [0]) ⟨pr, 2000, h1, h2, rfl, rfl, Nat.le_refl _⟩ ?_ ?_
        · walk_at "wk"
          omega
        · walk_at "wk"
    rintro _ _ ⟨pr, n, hp, hpl, rfl, rfl, hn⟩
    walk_at "n"
    refine ⟨_, g_repr (rp_pl hp hpl), ?_⟩
    walk_at "we"
    walk_at "n"
    refine ⟨by decide, ?_⟩
    refine forW_inv (fun j ρ C => ∃ n' : Nat, n' ≤ 2000 + 20 * j ∧ ρ = [some (.d (.list (ns.map .int))), none, some (.c 0), none, some (.d (.list (plD pr))), some (.d (.str (PyData.list (plD pr)).shown)), none, none, none, none, none] ∧ C = [.box false n']) ⟨n, by omega, rfl, rfl⟩ (fun _ _ _ _ => trivial) ?_ ?_
    · rintro j v ρ C K2 hv ⟨n1, hn1, rfl, rfl⟩ k2
      obtain ⟨hj, rfl⟩ := rng_get hv
      have hj' : j < 10 := hj
      walk_at "we"
      -- begin
      refine k_cut (fun ρ C => ∃ (n' : Nat) (b : Int), n' ≤ n1 + 5 ∧ 0 ≤ b ∧ b ≤ 400 ∧ ρ = [some (.d (.list (ns.map .int))), none, some (.c 0), none, some (.d (.list (plD pr))), some (.d (.str (PyData.list (plD pr)).shown)), none, some (.d (.int b)), none, none, none] ∧ C = [.box false n']) ?_ ?_
      · walk_at "wq"
        rename_i x x0 x1 y y0 y1
        refine ix_ints [0, x] rfl (by omega) (by simp; omega) fun b hb => ?_
        have hb1 : 0 ≤ b ∧ b ≤ 400 := by
          simp only [List.mem_cons, List.not_mem_nil, or_false] at hb
          omega
        walk_at "w"
        refine wkn_k (f := [0]) ⟨n1 + 2, b, by omega, hb1.1, hb1.2, rfl, rfl⟩ ?_ ?_
        · walk_at "wk"
          omega
        · walk_at "wk"
      rintro _ _ ⟨n2, b, hn2, hb0, hb1, rfl, rfl⟩
      refine k_cut (fun ρ C => ∃ (n' : Nat) (b : Int), n' ≤ n1 + 10 ∧ 0 ≤ b ∧ b ≤ 400 ∧ ρ = [some (.d (.list (ns.map .int))), none, some (.c 0), none, some (.d (.list (plD pr))), some (.d (.str (PyData.list (plD pr)).shown)), none, some (.d (.int b)), none, none, none] ∧ C = [.box false n']) ?_ ?_
      · walk_at "w"
        refine ⟨_, g_neO 2 (ok_pl pr) rfl, ?_⟩
        have stay : ∀ n3 : Nat, n3 ≤ n1 + 10 → wkn 1 [some (.d (.list (ns.map .int))), none, some (.c 0), none, some (.d (.list (plD pr))), some (.d (.str (PyData.list (plD pr)).shown)), none, some (.d (.int b)), none, none, none] [.box false n3] (fun ρ C => ∃ (n' : Nat) (b : Int), n' ≤ n1 + 10 ∧ 0 ≤ b ∧ b ≤ 400 ∧ ρ = [some (.d (.list (ns.map .int))), none, some (.c 0), none, some (.d (.list (plD pr))), some (.d (.str (PyData.list (plD pr)).shown)), none, some (.d (.int b)), none, none, none] ∧ C = [.box false n']) := by
          intro n3 h3
          refine wkn_k (f := [0]) ⟨n3, b, h3, hb0, hb1, rfl, rfl⟩ ?_ ?_
          · walk_at "wk"
            exact Nat.le_refl _
          · walk_at "wk"
        cases pr with
        | nil =>
          refine ifF ?_
          walk_at "w"
          exact stay n2 (by omega)
        | cons p pr =>
          rw [ne_pl]
          refine ifT ?_
          walk_at "wq"
          walk_at "wa"
          · refine call_one rfl (by omega) (by simp [plD]) (by rw [plD, List.length_map]; omega) fun x hx => ?_
            obtain ⟨q, _, rfl⟩ := List.mem_map.mp hx
            walk_at "w"
            refine ⟨.int q.1, at_0, ?_⟩
            walk_at "wq"
            rename_i z z0 z1
            refine wkn_k (f := [0]) ⟨n2 + 3, max 0 (min 400 (q.1 + z - 1)), by omega, by omega, by omega, rfl, rfl⟩ ?_ ?_
            · walk_at "wk"
              omega
            · walk_at "wk"
          · exact stay (n2 + 1) (by omega)
      rintro _ _ ⟨n3, b, hn3, hb0, hb1, rfl, rfl⟩
      refine k_cut (fun ρ C => ∃ (n' : Nat) (w : Int), n' ≤ n1 + 15 ∧ 0 ≤ w ∧ w ≤ 400 ∧ ρ = [some (.d (.list (ns.map .int))), none, some (.c 0), none, some (.d (.list (plD pr))), some (.d (.str (PyData.list (plD pr)).shown)), none, some (.d (.int b)), some (.d (.int w)), none, none] ∧ C = [.box false n']) ?_ ?_
      · walk_at "wq"
        rename_i x x0 x1 y y0 y1 z z0 z1
        refine ix_ints [0, x, y, 400] rfl (by omega) (by simp; omega) fun w hw => ?_
        have hw1 : 0 ≤ w ∧ w ≤ 400 := by
          simp only [List.mem_cons, List.not_mem_nil, or_false] at hw
          omega
        walk_at "w"
        refine wkn_k (f := [0]) ⟨n3 + 3, w, by omega, hw1.1, hw1.2, rfl, rfl⟩ ?_ ?_
        · walk_at "wk"
          omega
        · walk_at "wk"
      rintro _ _ ⟨n4, w, hn4, hw0, hw1, rfl, rfl⟩
      walk_at "n"
      refine call_least (.inl rfl) (by omega) ?_
      walk_at "we"
      refine call_due hp (by omega) hb0 hw0 (by omega) ?_
      walk_at "we"
      have done : wkn 1 [some (.d (.list (ns.map .int))), none, some (.c 0), none, some (.d (.list (plD pr))), some (.d (.str (PyData.list (plD pr)).shown)), none, some (.d (.int b)), some (.d (.int w)), some (.d (optD (leastS pr b w))), some (.d (optD (leastS pr b w)))] [.box false n4] K2 := by
        refine wkn_k (f := [0]) (k2 _ _ ⟨n4, by omega, rfl, rfl⟩) ?_ ?_
        · walk_at "wk"
          exact Nat.le_refl _
        · walk_at "wk"
      have last : NeD (optD (leastS pr b w)) (optD (leastS pr b w)) (.bool false) := by
        have e : okD 2 (optD (leastS pr b w)) = true := by cases leastS pr b w <;> rfl
        have q := g_neO 2 e e
        rw [eqv_same 2 e rfl] at q
        exact q
      have eb : isD "bool" (optD (leastS pr b w)) = false := by cases leastS pr b w <;> rfl
      have dt : (!decide True) = false := rfl
      walk_at "w"
      rw [dt]
      walk_at "w"
      rw [eb]
      walk_at "w"
      refine ⟨_, last, ?_⟩
      walk_at "w"
      refine call_least (.inr rfl) (by omega) ?_
      walk_at "w"
      refine ⟨_, last, ?_⟩
      walk_at "w"
      refine ⟨_, g_repr (rp_pl hp hpl), ?_⟩
      walk_at "w"
      rw [dt]
      walk_at "w"
      exact done
    · rintro ρ C ⟨n', hn', rfl, rfl⟩
      refine wkn_k (f := []) (k _ _ ⟨rfl, rfl⟩) ?_ ?_ <;> walk_at "wk"
  · rintro ρ C ⟨rfl, rfl⟩
    walk_at "w"
    exact ret0 h
end DL
namespace KL
open PySem L2 DL
def top (i : Nat) : Stmt := PySem.Challenge.pw_partwares_k30_least_in_stretches_of_days.main.body.getD i (.Pass ⟨0, 0, 0, 0⟩)
abbrev s_price_on : Stmt := top 1
abbrev s_least_since : Stmt := top 2
abbrev s__law_mix : Stmt := top 4
abbrev s__law_left : Stmt := top 5
abbrev s__law_pick : Stmt := top 6
abbrev s__law_one : Stmt := top 7
abbrev s__law_prices : Stmt := top 8
abbrev s__law_due : Stmt := top 9
abbrev s_law : Stmt := top 10
theorem sc_price_on : FnScope N_price_on ["prices", "day"] (defScope s_price_on) := ⟨rfl, rfl, rfl, by decide +kernel, rfl, by decide +kernel, by decide +kernel⟩
theorem sc_least_since : FnScope N_least_since ["prices", "begin", "within"] (defScope s_least_since) := ⟨rfl, rfl, rfl, by decide +kernel, rfl, by decide +kernel, by decide +kernel⟩
theorem sc__law_mix : FnScope N__law_mix ["_law_cell", "_law_k"] (defScope s__law_mix) := ⟨rfl, rfl, rfl, by decide +kernel, rfl, by decide +kernel, by decide +kernel⟩
theorem sc__law_left : FnScope N__law_left ["_law_script", "_law_k"] (defScope s__law_left) := ⟨rfl, rfl, rfl, by decide +kernel, rfl, by decide +kernel, by decide +kernel⟩
theorem sc__law_pick : FnScope N__law_pick ["_law_left_here", "_law_many"] (defScope s__law_pick) := ⟨rfl, rfl, rfl, by decide +kernel, rfl, by decide +kernel, by decide +kernel⟩
theorem sc__law_one : FnScope N__law_one ["_law_left_here", "_law_some"] (defScope s__law_one) := ⟨rfl, rfl, rfl, by decide +kernel, rfl, by decide +kernel, by decide +kernel⟩
theorem sc__law_prices : FnScope N__law_prices ["_law_left_here", "_law_many"] (defScope s__law_prices) := ⟨rfl, rfl, rfl, by decide +kernel, rfl, by decide +kernel, by decide +kernel⟩
theorem sc__law_due : FnScope N__law_due ["_law_prices_here", "_law_begin", "_law_within"] (defScope s__law_due) := ⟨rfl, rfl, rfl, by decide +kernel, rfl, by decide +kernel, by decide +kernel⟩
theorem sc_law : FnScope N_law ["_law_script"] (defScope s_law) := ⟨rfl, rfl, rfl, by decide +kernel, rfl, by decide +kernel, by decide +kernel⟩
structure Tx (K : Fg) (mg : Str → Option Value) where
  n_min : mg "min" = none
  n_len : mg "len" = none
  n_abs : mg "abs" = none
  n_int : mg "int" = none
  n_range : mg "range" = none
  n_list : mg "list" = none
  n_max : mg "max" = none
  n_repr : mg "repr" = none
  n_isinstance : mg "isinstance" = none
  n_bool : mg "bool" = none
  n_tuple : mg "tuple" = none
  a_price_on : Addr
  d_price_on : FuncData
  m_price_on : mg "price_on" = some (.ref a_price_on)
  F_price_on : Fun K "price_on" "price_on" s_price_on a_price_on d_price_on
  b_price_on : Binds K d_price_on ["prices", "day"] []
  a_least_since : Addr
  d_least_since : FuncData
  m_least_since : mg "least_since" = some (.ref a_least_since)
  F_least_since : Fun K "least_since" "least_since" s_least_since a_least_since d_least_since
  b_least_since : Binds K d_least_since ["prices", "begin", "within"] []
  a__law_mix : Addr
  d__law_mix : FuncData
  m__law_mix : mg "_law_mix" = some (.ref a__law_mix)
  F__law_mix : Fun K "_law_mix" "_law_mix" s__law_mix a__law_mix d__law_mix
  b__law_mix : Binds K d__law_mix ["_law_cell", "_law_k"] []
  a__law_left : Addr
  d__law_left : FuncData
  m__law_left : mg "_law_left" = some (.ref a__law_left)
  F__law_left : Fun K "_law_left" "_law_left" s__law_left a__law_left d__law_left
  b__law_left : Binds K d__law_left ["_law_script", "_law_k"] []
  a__law_pick : Addr
  d__law_pick : FuncData
  m__law_pick : mg "_law_pick" = some (.ref a__law_pick)
  F__law_pick : Fun K "_law_pick" "_law_pick" s__law_pick a__law_pick d__law_pick
  b__law_pick : Binds K d__law_pick ["_law_left_here", "_law_many"] []
  a__law_one : Addr
  d__law_one : FuncData
  m__law_one : mg "_law_one" = some (.ref a__law_one)
  F__law_one : Fun K "_law_one" "_law_one" s__law_one a__law_one d__law_one
  b__law_one : Binds K d__law_one ["_law_left_here", "_law_some"] []
  a__law_prices : Addr
  d__law_prices : FuncData
  m__law_prices : mg "_law_prices" = some (.ref a__law_prices)
  F__law_prices : Fun K "_law_prices" "_law_prices" s__law_prices a__law_prices d__law_prices
  b__law_prices : Binds K d__law_prices ["_law_left_here", "_law_many"] []
  a__law_due : Addr
  d__law_due : FuncData
  m__law_due : mg "_law_due" = some (.ref a__law_due)
  F__law_due : Fun K "_law_due" "_law_due" s__law_due a__law_due d__law_due
  b__law_due : Binds K d__law_due ["_law_prices_here", "_law_begin", "_law_within"] []
  a_law : Addr
  d_law : FuncData
  m_law : mg "law" = some (.ref a_law)
  F_law : Fun K "law" "law" s_law a_law d_law
  b_law : Binds K d_law ["_law_script"] []
section
variable {P : Program} {w : World} {K : Fg} {mg : Str → Option Value} {base : Heap}
theorem ok_price_on (T : Tx K mg) : FnG P w K mg base CX0 1 T.a_price_on T.d_price_on ["prices", "day"] (spW (kxo K w) w_price_on) := by
  refine mk_okW (kx := kxo K w) (k := 0) T.F_price_on sc_price_on sem_price_on (fun _ _ _ _ h => h) (fun cdv A' outer s H E hG hr => ?_)
  have nd : N_price_on.Nodup := sc_price_on.nd
  unfold x_price_on
  simp only [r_xVar, r_xRaw, r_xOp, r_xUn, r_xIsN, r_xNotN, r_xNot, r_xAnd, r_xOr, r_xChain, r_xTest, r_xB, r_xTNot, r_xTAnd, r_xTOr, r_xYes, r_xIf, r_xNil, r_xCons, r_xTup, r_xLst, r_xLstC, r_xLstR, r_xBi, r_xListC, r_xListD, r_xCatC, r_xNoPart, r_xPart, r_xSl, r_xBm, r_xBm0, r_xiSeq, r_xiRng1, r_xiRng2, r_xgName, r_xgsNil, r_xgsCons, r_xgTup, r_xgUnl, r_xsSeq, r_xsNext, r_xsBreak, r_xsCont, r_xsAsg, r_xsRet, r_xsRetN, r_xsDrop, r_xsIf, r_xsPar, r_xsPar3, r_xsFor, r_xsWhile, r_xLc, r_xLcC, r_xCallD, r_xCall, r_xAppend, r_xExtend, r_xClear, r_xReverse, r_xPop, r_xPopAt, r_xInsert, r_xsSetItem, r_xIsi, r_xIsiT, r_xFmt, r_xFs, r_xRevS, r_xRevL, r_xsOpen, r_xFz, r_xiZip, r_xiEnum, r_xInt, r_xStr, r_xBl, r_xNon, r_len0, r_len1, r_xBiK, tTys, List.map_cons, List.map_nil]
  exact (pss_cons (ps_set (i := 2) nd rfl (Or.inl rfl) pe_non)
      (pss_cons (ps_for PassesOwn.never rfl (pi_seq (pv 0)) (pg_tup rfl (pgs_cons (pg_name (i := 3) nd rfl (Or.inl rfl)) (pgs_cons (pg_name (i := 4) nd rfl (Or.inl rfl)) pgs_nil))) (pss_one (ps_if (pt_cmpR op_leD (pv 3) (pv 1) (nomark _)) (pss_one (ps_set (i := 2) nd rfl (Or.inl rfl) (pv 4))) pss_nil)))
      (pss_one (ps_ret (pv 2)))))
theorem ok_least_since (T : Tx K mg) : FnG P w K mg base CX0 2 T.a_least_since T.d_least_since ["prices", "begin", "within"] (spW (kxo K w) w_least_since) := by
  have G_price_on := ok_price_on (P := P) (w := w) (base := base) T
  refine mk_okW (kx := kxo K w) (k := 1) T.F_least_since sc_least_since sem_least_since (fun _ _ _ _ h => h) (fun cdv A' outer s H E hG hr => ?_)
  have nd : N_least_since.Nodup := sc_least_since.nd
  unfold x_least_since
  simp only [r_xVar, r_xRaw, r_xOp, r_xUn, r_xIsN, r_xNotN, r_xNot, r_xAnd, r_xOr, r_xChain, r_xTest, r_xB, r_xTNot, r_xTAnd, r_xTOr, r_xYes, r_xIf, r_xNil, r_xCons, r_xTup, r_xLst, r_xLstC, r_xLstR, r_xBi, r_xListC, r_xListD, r_xCatC, r_xNoPart, r_xPart, r_xSl, r_xBm, r_xBm0, r_xiSeq, r_xiRng1, r_xiRng2, r_xgName, r_xgsNil, r_xgsCons, r_xgTup, r_xgUnl, r_xsSeq, r_xsNext, r_xsBreak, r_xsCont, r_xsAsg, r_xsRet, r_xsRetN, r_xsDrop, r_xsIf, r_xsPar, r_xsPar3, r_xsFor, r_xsWhile, r_xLc, r_xLcC, r_xCallD, r_xCall, r_xAppend, r_xExtend, r_xClear, r_xReverse, r_xPop, r_xPopAt, r_xInsert, r_xsSetItem, r_xIsi, r_xIsiT, r_xFmt, r_xFs, r_xRevS, r_xRevL, r_xsOpen, r_xFz, r_xiZip, r_xiEnum, r_xInt, r_xStr, r_xBl, r_xNon, r_len0, r_len1, r_xBiK, tTys, List.map_cons, List.map_nil]
  exact (pss_cons (ps_setLc (i := 5) (own := [("day", 3), ("pence", 4)]) (g := ((xgTup (xgsCons (xgName 3) (xgsCons (xgName 4) xgsNil))) : XG).tg (kxo K w)) (tt := ((xTest (xChain LtD LeD (xVar 1) (xVar 3) (xOp AddD (xVar 1) (xVar 2)))) : XT).tt (kxo K w) W0) rfl nd rfl rfl (sw_true rfl rfl rfl (by decide +kernel)) (pi_seq (pv 0)) (blkOk_by (own := [("day", 3), ("pence", 4)]) (N := N_least_since) (sc := defScope s_least_since) (by decide +kernel)) (fun _ _ _ _ _ => (pg_tup rfl (pgs_cons (pg_name (i := 3) nd rfl (Or.inl rfl)) (pgs_cons (pg_name (i := 4) nd rfl (Or.inl rfl)) pgs_nil)))) (fun _ _ _ _ _ => (pts_one (pt_chain op_ltD op_leD (pv 1) (pv 3) (pe_op op_addD (pv 1) (pv 2))))) (fun _ _ _ _ _ => (pv 4)))
      (pss_cons (ps_set (i := 6) nd rfl (Or.inl rfl) (pe_callG G_price_on hG (hr.mono (by decide)) rfl T.m_price_on T.F_price_on.kp T.b_price_on .nil pass0 (pa_cons (pv 0) (pa_cons (pv 1) pa_nil))))
      (pss_cons (ps_if (pt_cmpR op_notNoneD (pv 6) pe_non (nomark _)) (pss_one (ps_expr (pe_bm PySem.F.plainAttrs_list PySem.F.slot_list_append PySem.F.type_list_append mt_append (pv 5) (pa_cons (pv 6) pa_nil)))) pss_nil)
      (pss_one (ps_ret (pe_callBK (call_minDefD rfl) (by rfl) T.n_min (by decide +kernel) (pa_cons (pv 5) pa_nil) (pk_cons pe_non pk_nil)))))))
theorem ok__law_mix (T : Tx K mg) : FnG P w K mg base CX0 1 T.a__law_mix T.d__law_mix ["_law_cell", "_law_k"] (spW (kxo K w) w__law_mix) := by
  refine mk_okW (kx := kxo K w) (k := 0) T.F__law_mix sc__law_mix sem__law_mix (fun _ _ _ _ h => h) (fun cdv A' outer s H E hG hr => ?_)
  have nd : N__law_mix.Nodup := sc__law_mix.nd
  unfold x__law_mix
  simp only [r_xVar, r_xRaw, r_xOp, r_xUn, r_xIsN, r_xNotN, r_xNot, r_xAnd, r_xOr, r_xChain, r_xTest, r_xB, r_xTNot, r_xTAnd, r_xTOr, r_xYes, r_xIf, r_xNil, r_xCons, r_xTup, r_xLst, r_xLstC, r_xLstR, r_xBi, r_xListC, r_xListD, r_xCatC, r_xNoPart, r_xPart, r_xSl, r_xBm, r_xBm0, r_xiSeq, r_xiRng1, r_xiRng2, r_xgName, r_xgsNil, r_xgsCons, r_xgTup, r_xgUnl, r_xsSeq, r_xsNext, r_xsBreak, r_xsCont, r_xsAsg, r_xsRet, r_xsRetN, r_xsDrop, r_xsIf, r_xsPar, r_xsPar3, r_xsFor, r_xsWhile, r_xLc, r_xLcC, r_xCallD, r_xCall, r_xAppend, r_xExtend, r_xClear, r_xReverse, r_xPop, r_xPopAt, r_xInsert, r_xsSetItem, r_xIsi, r_xIsiT, r_xFmt, r_xFs, r_xRevS, r_xRevL, r_xsOpen, r_xFz, r_xiZip, r_xiEnum, r_xInt, r_xStr, r_xBl, r_xNon, r_len0, r_len1, r_xBiK, tTys, List.map_cons, List.map_nil]
  exact (pss_cons (ps_set (i := 2) nd rfl (Or.inl rfl) (pe_op op_modD (pe_op op_mulD (pe_op op_addD (pe_op op_addD (pe_op op_modD (pv 0) pe_int) (pe_op op_mulD (pe_op op_mulD (pv 1) (pv 1)) pe_int)) pe_int) pe_int) pe_int))
      (pss_one (ps_ret (pe_op op_modD (pe_op op_mulD (pv 2) (pv 2)) pe_int))))
theorem ok__law_left (T : Tx K mg) : FnG P w K mg base CX0 1 T.a__law_left T.d__law_left ["_law_script", "_law_k"] (spW (kxo K w) w__law_left) := by
  refine mk_okW (kx := kxo K w) (k := 0) T.F__law_left sc__law_left sem__law_left (fun _ _ _ _ h => h) (fun cdv A' outer s H E hG hr => ?_)
  have nd : N__law_left.Nodup := sc__law_left.nd
  unfold x__law_left
  simp only [r_xVar, r_xRaw, r_xOp, r_xUn, r_xIsN, r_xNotN, r_xNot, r_xAnd, r_xOr, r_xChain, r_xTest, r_xB, r_xTNot, r_xTAnd, r_xTOr, r_xYes, r_xIf, r_xNil, r_xCons, r_xTup, r_xLst, r_xLstC, r_xLstR, r_xBi, r_xListC, r_xListD, r_xCatC, r_xNoPart, r_xPart, r_xSl, r_xBm, r_xBm0, r_xiSeq, r_xiRng1, r_xiRng2, r_xgName, r_xgsNil, r_xgsCons, r_xgTup, r_xgUnl, r_xsSeq, r_xsNext, r_xsBreak, r_xsCont, r_xsAsg, r_xsRet, r_xsRetN, r_xsDrop, r_xsIf, r_xsPar, r_xsPar3, r_xsFor, r_xsWhile, r_xLc, r_xLcC, r_xCallD, r_xCall, r_xAppend, r_xExtend, r_xClear, r_xReverse, r_xPop, r_xPopAt, r_xInsert, r_xsSetItem, r_xIsi, r_xIsiT, r_xFmt, r_xFs, r_xRevS, r_xRevL, r_xsOpen, r_xFz, r_xiZip, r_xiEnum, r_xInt, r_xStr, r_xBl, r_xNon, r_len0, r_len1, r_xBiK, tTys, List.map_cons, List.map_nil]
  exact (pss_cons (ps_set (i := 2) nd rfl (Or.inl rfl) (pe_ifExp (pt_cmpR op_ltD (pv 1) (pe_callB call_lenD (by rfl) T.n_len (by decide +kernel) (pa_cons (pv 0) pa_nil)) (nomark _)) (pe_ix ix_D (pv 0) (pv 1) (fun _ _ => rfl)) pe_int))
      (pss_one (ps_ret (pe_lst (pa_cons (pe_op op_mulD (pe_callB call_absD (by rfl) T.n_abs (by decide +kernel) (pa_cons (pv 2) pa_nil)) (pe_callTy call_intD (by rfl) T.n_int (by decide +kernel) (pa_cons (pe_cmpR op_geD (pe_callB call_absD (by rfl) T.n_abs (by decide +kernel) (pa_cons (pv 2) pa_nil)) (pe_op op_powD pe_int pe_int) (nomark _)) pa_nil))) (pa_cons (pe_op op_addD (pv 2) (pe_op op_mulD pe_int (pv 1))) (pa_cons pe_int pa_nil)))))))
theorem ok__law_pick (T : Tx K mg) : FnG P w K mg base CX0 2 T.a__law_pick T.d__law_pick ["_law_left_here", "_law_many"] (spW (kxo K w) w__law_pick) := by
  have G__law_mix := ok__law_mix (P := P) (w := w) (base := base) T
  refine mk_okW (kx := kxo K w) (k := 1) T.F__law_pick sc__law_pick sem__law_pick (fun _ _ _ _ h => h) (fun cdv A' outer s H E hG hr => ?_)
  have nd : N__law_pick.Nodup := sc__law_pick.nd
  unfold x__law_pick
  simp only [r_xVar, r_xRaw, r_xOp, r_xUn, r_xIsN, r_xNotN, r_xNot, r_xAnd, r_xOr, r_xChain, r_xTest, r_xB, r_xTNot, r_xTAnd, r_xTOr, r_xYes, r_xIf, r_xNil, r_xCons, r_xTup, r_xLst, r_xLstC, r_xLstR, r_xBi, r_xListC, r_xListD, r_xCatC, r_xNoPart, r_xPart, r_xSl, r_xBm, r_xBm0, r_xiSeq, r_xiRng1, r_xiRng2, r_xgName, r_xgsNil, r_xgsCons, r_xgTup, r_xgUnl, r_xsSeq, r_xsNext, r_xsBreak, r_xsCont, r_xsAsg, r_xsRet, r_xsRetN, r_xsDrop, r_xsIf, r_xsPar, r_xsPar3, r_xsFor, r_xsWhile, r_xLc, r_xLcC, r_xCallD, r_xCall, r_xAppend, r_xExtend, r_xClear, r_xReverse, r_xPop, r_xPopAt, r_xInsert, r_xsSetItem, r_xIsi, r_xIsiT, r_xFmt, r_xFs, r_xRevS, r_xRevL, r_xsOpen, r_xFz, r_xiZip, r_xiEnum, r_xInt, r_xStr, r_xBl, r_xNon, r_len0, r_len1, r_xBiK, tTys, List.map_cons, List.map_nil]
  exact (pss_cons (ps_asg (pe_op op_addD (pe_ix ix_D (pv 0) pe_int (fun _ _ => rfl)) pe_int) (pg_sub (pv 0) pe_int set_list))
      (pss_cons (ps_if (pt_cmpR op_gtD (pe_ix ix_D (pv 0) pe_int (fun _ _ => rfl)) pe_int (nomark _)) (pss_cons (ps_set (i := 2) nd rfl (Or.inl rfl) (pe_op op_modD (pe_ix ix_D (pv 0) pe_int (fun _ _ => rfl)) (pv 1)))
      (pss_cons (ps_asg (pe_op op_divD (pe_ix ix_D (pv 0) pe_int (fun _ _ => rfl)) (pv 1)) (pg_sub (pv 0) pe_int set_list))
      (pss_one (ps_ret (pv 2))))) pss_nil)
      (pss_one (ps_ret (pe_op op_modD (pe_op op_divD (pe_callG G__law_mix hG (hr.mono (by decide)) rfl T.m__law_mix T.F__law_mix.kp T.b__law_mix .nil pass0 (pa_cons (pe_callG G__law_mix hG (hr.mono (by decide)) rfl T.m__law_mix T.F__law_mix.kp T.b__law_mix .nil pass0 (pa_cons (pe_ix ix_D (pv 0) pe_int (fun _ _ => rfl)) (pa_cons (pe_ix ix_D (pv 0) pe_int (fun _ _ => rfl)) pa_nil))) (pa_cons (pe_op op_addD (pe_ix ix_D (pv 0) pe_int (fun _ _ => rfl)) pe_int) pa_nil))) pe_int) (pv 1))))))
theorem ok__law_one (T : Tx K mg) : FnG P w K mg base CX0 3 T.a__law_one T.d__law_one ["_law_left_here", "_law_some"] (spW (kxo K w) w__law_one) := by
  have G__law_pick := ok__law_pick (P := P) (w := w) (base := base) T
  refine mk_okW (kx := kxo K w) (k := 2) T.F__law_one sc__law_one sem__law_one (fun _ _ _ _ h => h) (fun cdv A' outer s H E hG hr => ?_)
  have nd : N__law_one.Nodup := sc__law_one.nd
  unfold x__law_one
  simp only [r_xVar, r_xRaw, r_xOp, r_xUn, r_xIsN, r_xNotN, r_xNot, r_xAnd, r_xOr, r_xChain, r_xTest, r_xB, r_xTNot, r_xTAnd, r_xTOr, r_xYes, r_xIf, r_xNil, r_xCons, r_xTup, r_xLst, r_xLstC, r_xLstR, r_xBi, r_xListC, r_xListD, r_xCatC, r_xNoPart, r_xPart, r_xSl, r_xBm, r_xBm0, r_xiSeq, r_xiRng1, r_xiRng2, r_xgName, r_xgsNil, r_xgsCons, r_xgTup, r_xgUnl, r_xsSeq, r_xsNext, r_xsBreak, r_xsCont, r_xsAsg, r_xsRet, r_xsRetN, r_xsDrop, r_xsIf, r_xsPar, r_xsPar3, r_xsFor, r_xsWhile, r_xLc, r_xLcC, r_xCallD, r_xCall, r_xAppend, r_xExtend, r_xClear, r_xReverse, r_xPop, r_xPopAt, r_xInsert, r_xsSetItem, r_xIsi, r_xIsiT, r_xFmt, r_xFs, r_xRevS, r_xRevL, r_xsOpen, r_xFz, r_xiZip, r_xiEnum, r_xInt, r_xStr, r_xBl, r_xNon, r_len0, r_len1, r_xBiK, tTys, List.map_cons, List.map_nil]
  exact (pss_one (ps_ret (pe_ix ix_D (pv 1) (pe_callG G__law_pick hG (hr.mono (by decide)) rfl T.m__law_pick T.F__law_pick.kp T.b__law_pick .nil pass0 (pa_cons (pv 0) (pa_cons (pe_callB call_lenD (by rfl) T.n_len (by decide +kernel) (pa_cons (pv 1) pa_nil)) pa_nil))) (fun _ _ => rfl))))
theorem ok__law_prices (T : Tx K mg) : FnG P w K mg base CX0 3 T.a__law_prices T.d__law_prices ["_law_left_here", "_law_many"] (spW (kxo K w) w__law_prices) := by
  have G__law_pick := ok__law_pick (P := P) (w := w) (base := base) T
  refine mk_okW (kx := kxo K w) (k := 2) T.F__law_prices sc__law_prices sem__law_prices (fun _ _ _ _ h => h) (fun cdv A' outer s H E hG hr => ?_)
  have nd : N__law_prices.Nodup := sc__law_prices.nd
  unfold x__law_prices
  simp only [r_xVar, r_xRaw, r_xOp, r_xUn, r_xIsN, r_xNotN, r_xNot, r_xAnd, r_xOr, r_xChain, r_xTest, r_xB, r_xTNot, r_xTAnd, r_xTOr, r_xYes, r_xIf, r_xNil, r_xCons, r_xTup, r_xLst, r_xLstC, r_xLstR, r_xBi, r_xListC, r_xListD, r_xCatC, r_xNoPart, r_xPart, r_xSl, r_xBm, r_xBm0, r_xiSeq, r_xiRng1, r_xiRng2, r_xgName, r_xgsNil, r_xgsCons, r_xgTup, r_xgUnl, r_xsSeq, r_xsNext, r_xsBreak, r_xsCont, r_xsAsg, r_xsRet, r_xsRetN, r_xsDrop, r_xsIf, r_xsPar, r_xsPar3, r_xsFor, r_xsWhile, r_xLc, r_xLcC, r_xCallD, r_xCall, r_xAppend, r_xExtend, r_xClear, r_xReverse, r_xPop, r_xPopAt, r_xInsert, r_xsSetItem, r_xIsi, r_xIsiT, r_xFmt, r_xFs, r_xRevS, r_xRevL, r_xsOpen, r_xFz, r_xiZip, r_xiEnum, r_xInt, r_xStr, r_xBl, r_xNon, r_len0, r_len1, r_xBiK, tTys, List.map_cons, List.map_nil]
  exact (pss_cons (ps_par3 (i := 2) (j := 3) (l := 4) (by rfl) nd rfl rfl rfl (by decide) (by decide) (by decide) rfl rfl rfl (pa_cons (pe_callG G__law_pick hG (hr.mono (by decide)) rfl T.m__law_pick T.F__law_pick.kp T.b__law_pick .nil pass0 (pa_cons (pv 0) (pa_cons (pe_ix ix_D (pe_lst (pa_cons pe_int (pa_cons pe_int pa_nil))) (pe_callG G__law_pick hG (hr.mono (by decide)) rfl T.m__law_pick T.F__law_pick.kp T.b__law_pick .nil pass0 (pa_cons (pv 0) (pa_cons pe_int pa_nil))) (fun _ _ => rfl)) pa_nil))) (pa_cons (pe_lst pa_nil) (pa_cons (pe_ix ix_D (pe_lst (pa_cons pe_int (pa_cons pe_int (pa_cons (pe_op op_powD pe_int pe_int) pa_nil)))) (pe_callG G__law_pick hG (hr.mono (by decide)) rfl T.m__law_pick T.F__law_pick.kp T.b__law_pick .nil pass0 (pa_cons (pv 0) (pa_cons pe_int pa_nil))) (fun _ _ => rfl)) pa_nil))) (by rfl))
      (pss_cons (ps_for PassesOwn.never rfl (pi_range1 rfl T.n_range (pa_cons (pv 1) pa_nil)) (pg_name (i := 5) nd rfl (Or.inl rfl)) (pss_cons (ps_if (pt_cmpR op_leD (pv 2) pe_int (nomark _)) (pss_one (ps_expr (pe_bm PySem.F.plainAttrs_list PySem.F.slot_list_append PySem.F.type_list_append mt_append (pv 3) (pa_cons (pe_tup (pa_cons (pv 2) (pa_cons (pe_op op_addD pe_int (pe_callG G__law_pick hG (hr.mono (by decide)) rfl T.m__law_pick T.F__law_pick.kp T.b__law_pick .nil pass0 (pa_cons (pv 0) (pa_cons (pv 4) pa_nil)))) pa_nil))) pa_nil)))) pss_nil)
      (pss_one (ps_set (i := 2) nd rfl (Or.inl rfl) (pe_op op_addD (pe_op op_addD (pv 2) pe_int) (pe_callG G__law_pick hG (hr.mono (by decide)) rfl T.m__law_pick T.F__law_pick.kp T.b__law_pick .nil pass0 (pa_cons (pv 0) (pa_cons (pe_ix ix_D (pe_lst (pa_cons pe_int (pa_cons pe_int (pa_cons pe_int pa_nil)))) (pe_callG G__law_pick hG (hr.mono (by decide)) rfl T.m__law_pick T.F__law_pick.kp T.b__law_pick .nil pass0 (pa_cons (pv 0) (pa_cons pe_int pa_nil))) (fun _ _ => rfl)) pa_nil))))))))
      (pss_one (ps_ret (pv 3)))))
theorem ok__law_due (T : Tx K mg) : FnG P w K mg base CX0 1 T.a__law_due T.d__law_due ["_law_prices_here", "_law_begin", "_law_within"] (spW (kxo K w) w__law_due) := by
  refine mk_okW (kx := kxo K w) (k := 0) T.F__law_due sc__law_due sem__law_due (fun _ _ _ _ h => h) (fun cdv A' outer s H E hG hr => ?_)
  have nd : N__law_due.Nodup := sc__law_due.nd
  unfold x__law_due
  simp only [r_xVar, r_xRaw, r_xOp, r_xUn, r_xIsN, r_xNotN, r_xNot, r_xAnd, r_xOr, r_xChain, r_xTest, r_xB, r_xTNot, r_xTAnd, r_xTOr, r_xYes, r_xIf, r_xNil, r_xCons, r_xTup, r_xLst, r_xLstC, r_xLstR, r_xBi, r_xListC, r_xListD, r_xCatC, r_xNoPart, r_xPart, r_xSl, r_xBm, r_xBm0, r_xiSeq, r_xiRng1, r_xiRng2, r_xgName, r_xgsNil, r_xgsCons, r_xgTup, r_xgUnl, r_xsSeq, r_xsNext, r_xsBreak, r_xsCont, r_xsAsg, r_xsRet, r_xsRetN, r_xsDrop, r_xsIf, r_xsPar, r_xsPar3, r_xsFor, r_xsWhile, r_xLc, r_xLcC, r_xCallD, r_xCall, r_xAppend, r_xExtend, r_xClear, r_xReverse, r_xPop, r_xPopAt, r_xInsert, r_xsSetItem, r_xIsi, r_xIsiT, r_xFmt, r_xFs, r_xRevS, r_xRevL, r_xsOpen, r_xFz, r_xiZip, r_xiEnum, r_xInt, r_xStr, r_xBl, r_xNon, r_len0, r_len1, r_xBiK, tTys, List.map_cons, List.map_nil]
  exact (pss_cons (ps_par3 (i := 3) (j := 4) (l := 5) (by rfl) nd rfl rfl rfl (by decide) (by decide) (by decide) rfl rfl rfl (pa_cons pe_non (pa_cons pe_non (pa_cons (pe_callTy call_listF (by rfl) T.n_list (by decide +kernel) (pa_cons (pv 0) pa_nil)) pa_nil))) (by rfl))
      (pss_cons (ps_for PassesOwn.never rfl (pi_range1 rfl T.n_range (pa_cons (pe_op op_addD (pe_op op_addD (pv 1) (pv 2)) pe_int) pa_nil)) (pg_name (i := 6) nd rfl (Or.inl rfl)) (pss_cons (ps_while PassesOwn.never (PW.pt (pw_and (pt_cmpR (op_neDD (u64 hr)) (pv 5) (pe_lst pa_nil) (nomark _)) (pw_and1 (pt_cmpR op_leD (pe_ix ix_D (pe_ix ix_D (pv 5) pe_int (fun _ _ => rfl)) pe_int (fun _ _ => rfl)) (pv 6) (nomark _))))) (pss_one (ps_set (i := 4) nd rfl (Or.inl rfl) (pe_ix ix_D (pe_bm PySem.F.plainAttrs_list PySem.F.slot_list_pop PySem.F.type_list_pop mt_popAt (pv 5) (pa_cons pe_int pa_nil)) pe_int (fun _ _ => rfl)))))
      (pss_one (ps_if (PW.pt (pw_and (pt_cmpR op_geD (pv 6) (pv 1) (nomark _)) (pw_and1 (pt_cmpR op_notNoneD (pv 4) pe_non (nomark _))))) (pss_one (ps_set (i := 3) nd rfl (Or.inl rfl) (pe_ifExp (pt_cmpR op_isNoneD (pv 3) pe_non (nomark _)) (pv 4) (pe_callB (call_min2D rfl) (by rfl) T.n_min (by decide +kernel) (pa_cons (pv 3) (pa_cons (pv 4) pa_nil)))))) pss_nil))))
      (pss_one (ps_ret (pv 3)))))
theorem ok_law (T : Tx K mg) : FnG P w K mg base CX0 4 T.a_law T.d_law ["_law_script"] (spW (kxo K w) w_law) := by
  have G__law_left := ok__law_left (P := P) (w := w) (base := base) T
  have G__law_pick := ok__law_pick (P := P) (w := w) (base := base) T
  have G__law_prices := ok__law_prices (P := P) (w := w) (base := base) T
  have G__law_one := ok__law_one (P := P) (w := w) (base := base) T
  have G__law_due := ok__law_due (P := P) (w := w) (base := base) T
  have G_least_since := ok_least_since (P := P) (w := w) (base := base) T
  refine mk_okW (kx := kxo K w) (k := 3) T.F_law sc_law sem_law (fun _ _ _ _ h => h) (fun cdv A' outer s H E hG hr => ?_)
  have nd : N_law.Nodup := sc_law.nd
  unfold x_law
  simp only [r_xVar, r_xRaw, r_xOp, r_xUn, r_xIsN, r_xNotN, r_xNot, r_xAnd, r_xOr, r_xChain, r_xTest, r_xB, r_xTNot, r_xTAnd, r_xTOr, r_xYes, r_xIf, r_xNil, r_xCons, r_xTup, r_xLst, r_xLstC, r_xLstR, r_xBi, r_xListC, r_xListD, r_xCatC, r_xNoPart, r_xPart, r_xSl, r_xBm, r_xBm0, r_xiSeq, r_xiRng1, r_xiRng2, r_xgName, r_xgsNil, r_xgsCons, r_xgTup, r_xgUnl, r_xsSeq, r_xsNext, r_xsBreak, r_xsCont, r_xsAsg, r_xsRet, r_xsRetN, r_xsDrop, r_xsIf, r_xsPar, r_xsPar3, r_xsFor, r_xsWhile, r_xLc, r_xLcC, r_xCallD, r_xCall, r_xAppend, r_xExtend, r_xClear, r_xReverse, r_xPop, r_xPopAt, r_xInsert, r_xsSetItem, r_xIsi, r_xIsiT, r_xFmt, r_xFs, r_xRevS, r_xRevL, r_xsOpen, r_xFz, r_xiZip, r_xiEnum, r_xInt, r_xStr, r_xBl, r_xNon, r_len0, r_len1, r_xBiK, tTys, List.map_cons, List.map_nil]
  exact (pss_cons (ps_for PassesOwn.never rfl (pi_range1 rfl T.n_range (pa_cons (pe_callB (call_max2D rfl) (by rfl) T.n_max (by decide +kernel) (pa_cons pe_int (pa_cons (pe_callB (call_min2D rfl) (by rfl) T.n_min (by decide +kernel) (pa_cons pe_int (pa_cons (pe_callB call_lenD (by rfl) T.n_len (by decide +kernel) (pa_cons (pv 0) pa_nil)) pa_nil))) pa_nil))) pa_nil)) (pg_name (i := 1) nd rfl (Or.inl rfl)) (pss_cons (ps_set (i := 2) nd rfl (Or.inl rfl) (pe_callG G__law_left hG (hr.mono (by decide)) rfl T.m__law_left T.F__law_left.kp T.b__law_left .nil pass0 (pa_cons (pv 0) (pa_cons (pv 1) pa_nil))))
      (pss_cons (ps_set (i := 3) nd rfl (Or.inl rfl) (pe_and (pe_cmpR (op_eqDD (u64 hr)) (pv 1) pe_int (nomark _)) (pe_one (pe_cmpR (op_eqDD (u64 hr)) (pe_callG G__law_pick hG (hr.mono (by decide)) rfl T.m__law_pick T.F__law_pick.kp T.b__law_pick .nil pass0 (pa_cons (pv 2) (pa_cons pe_int pa_nil))) pe_int (nomark _)))))
      (pss_cons (ps_set (i := 4) nd rfl (Or.inl rfl) (pe_callG G__law_prices hG (hr.mono (by decide)) rfl T.m__law_prices T.F__law_prices.kp T.b__law_prices .nil pass0 (pa_cons (pv 2) (pa_cons (pe_ifExp (pt_val (pv 3)) pe_int (pe_callG G__law_pick hG (hr.mono (by decide)) rfl T.m__law_pick T.F__law_pick.kp T.b__law_pick .nil pass0 (pa_cons (pv 2) (pa_cons pe_int pa_nil)))) pa_nil))))
      (pss_cons (ps_set (i := 5) nd rfl (Or.inl rfl) (pe_callB (call_reprD hG (u64 hr)) (by rfl) T.n_repr (by decide +kernel) (pa_cons (pv 4) pa_nil)))
      (pss_one (ps_for PassesOwn.never rfl (pi_range1 rfl T.n_range (pa_cons pe_int pa_nil)) (pg_name (i := 6) nd rfl (Or.inl rfl)) (pss_cons (ps_set (i := 7) nd rfl (Or.inl rfl) (pe_ix ix_D (pe_lst (pa_cons pe_int (pa_cons (pe_callG G__law_pick hG (hr.mono (by decide)) rfl T.m__law_pick T.F__law_pick.kp T.b__law_pick .nil pass0 (pa_cons (pv 2) (pa_cons pe_int pa_nil))) pa_nil))) (pe_callG G__law_pick hG (hr.mono (by decide)) rfl T.m__law_pick T.F__law_pick.kp T.b__law_pick .nil pass0 (pa_cons (pv 2) (pa_cons pe_int pa_nil))) (fun _ _ => rfl)))
      (pss_cons (ps_if (PW.pt (pw_and (pt_cmpR (op_neDD (u64 hr)) (pv 4) (pe_lst pa_nil) (nomark _)) (pw_and1 (pt_cmpR (op_eqDD (u64 hr)) (pe_callG G__law_pick hG (hr.mono (by decide)) rfl T.m__law_pick T.F__law_pick.kp T.b__law_pick .nil pass0 (pa_cons (pv 2) (pa_cons pe_int pa_nil))) pe_int (nomark _))))) (pss_one (ps_set (i := 7) nd rfl (Or.inl rfl) (pe_callB (call_max2D rfl) (by rfl) T.n_max (by decide +kernel) (pa_cons pe_int (pa_cons (pe_callB (call_min2D rfl) (by rfl) T.n_min (by decide +kernel) (pa_cons pe_int (pa_cons (pe_op op_subD (pe_op op_addD (pe_ix ix_D (pe_callG G__law_one hG (hr.mono (by decide)) rfl T.m__law_one T.F__law_one.kp T.b__law_one .nil pass0 (pa_cons (pv 2) (pa_cons (pv 4) pa_nil))) pe_int (fun _ _ => rfl)) (pe_callG G__law_pick hG (hr.mono (by decide)) rfl T.m__law_pick T.F__law_pick.kp T.b__law_pick .nil pass0 (pa_cons (pv 2) (pa_cons pe_int pa_nil)))) pe_int) pa_nil))) pa_nil))))) pss_nil)
      (pss_cons (ps_set (i := 8) nd rfl (Or.inl rfl) (pe_ix ix_D (pe_lst (pa_cons pe_int (pa_cons (pe_callG G__law_pick hG (hr.mono (by decide)) rfl T.m__law_pick T.F__law_pick.kp T.b__law_pick .nil pass0 (pa_cons (pv 2) (pa_cons pe_int pa_nil))) (pa_cons (pe_callG G__law_pick hG (hr.mono (by decide)) rfl T.m__law_pick T.F__law_pick.kp T.b__law_pick .nil pass0 (pa_cons (pv 2) (pa_cons pe_int pa_nil))) (pa_cons pe_int pa_nil))))) (pe_callG G__law_pick hG (hr.mono (by decide)) rfl T.m__law_pick T.F__law_pick.kp T.b__law_pick .nil pass0 (pa_cons (pv 2) (pa_cons pe_int pa_nil))) (fun _ _ => rfl)))
      (pss_cons (ps_par (i := 9) (j := 10) (by rfl) nd rfl rfl (by decide) rfl rfl (pa_cons (pe_callG G_least_since hG (hr.mono (by decide)) rfl T.m_least_since T.F_least_since.kp T.b_least_since .nil pass0 (pa_cons (pv 4) (pa_cons (pv 7) (pa_cons (pv 8) pa_nil)))) (pa_cons (pe_callG G__law_due hG (hr.mono (by decide)) rfl T.m__law_due T.F__law_due.kp T.b__law_due .nil pass0 (pa_cons (pv 4) (pa_cons (pv 7) (pa_cons (pv 8) pa_nil)))) pa_nil)) (by rfl))
      (pss_cons (ps_if (PW.pt (pw_or (pt_cmpR (op_neDD (u64 hr)) (pe_cmpR op_isNoneD (pv 9) pe_non (nomark _)) (pe_cmpR op_isNoneD (pv 10) pe_non (nomark _)) (nomark _)) (pw_or (pt_val (pe_callB call_isiD (by rfl) T.n_isinstance (by decide +kernel) (pa_cons (pv 9) (pa_cons (pe_bltn (by rfl) T.n_bool (by decide +kernel) rfl) pa_nil)))) (pw_or1 (pt_cmpR (op_neDD (u64 hr)) (pv 9) (pv 10) (nomark _)))))) (pss_one (ps_ret pe_bl)) pss_nil)
      (pss_one (ps_if (PW.pt (pw_or (pt_cmpR (op_neDD (u64 hr)) (pe_callG G_least_since hG (hr.mono (by decide)) rfl T.m_least_since T.F_least_since.kp T.b_least_since .nil pass0 (pa_cons (pe_callTy call_tupleD (by rfl) T.n_tuple (by decide +kernel) (pa_cons (pv 4) pa_nil)) (pa_cons (pv 7) (pa_cons (pv 8) pa_nil)))) (pv 10) (nomark _)) (pw_or1 (pt_cmpR (op_neDD (u64 hr)) (pe_callB (call_reprD hG (u64 hr)) (by rfl) T.n_repr (by decide +kernel) (pa_cons (pv 4) pa_nil)) (pv 5) (nomark _))))) (pss_one (ps_ret pe_bl)) pss_nil))))))))))))))
      (pss_one (ps_ret pe_bl)))
end
set_option maxHeartbeats 4000000 in
theorem all_mk {l : PySem.W.OpenLaw} {w : World} {K : PySem.W.Frag} {h : Heap} {mg : Str → Option Value} {fa : Addr} (X : K.In h) (G : h.Ns mainGlobals mg) (hfa : mg "law" = some (.ref fa))
    {od0 an0 : Option Addr} {sl0 : Array (Option Value)} {oc0 kV0 dc0 pm0 cd0 ct0 : Value} {f0 : Addr}
    {od1 an1 : Option Addr} {sl1 : Array (Option Value)} {oc1 kV1 dc1 pm1 cd1 ct1 : Value} {f1 : Addr}
    {od2 an2 : Option Addr} {sl2 : Array (Option Value)} {oc2 kV2 dc2 pm2 cd2 ct2 : Value} {f2 : Addr}
    {od3 an3 : Option Addr} {sl3 : Array (Option Value)} {oc3 kV3 dc3 pm3 cd3 ct3 : Value} {f3 : Addr}
    {od4 an4 : Option Addr} {sl4 : Array (Option Value)} {oc4 kV4 dc4 pm4 cd4 ct4 : Value} {f4 : Addr}
    {od5 an5 : Option Addr} {sl5 : Array (Option Value)} {oc5 kV5 dc5 pm5 cd5 ct5 : Value} {f5 : Addr}
    {od6 an6 : Option Addr} {sl6 : Array (Option Value)} {oc6 kV6 dc6 pm6 cd6 ct6 : Value} {f6 : Addr}
    {od7 an7 : Option Addr} {sl7 : Array (Option Value)} {oc7 kV7 dc7 pm7 cd7 ct7 : Value} {f7 : Addr}
    {od8 an8 : Option Addr} {sl8 : Array (Option Value)} {oc8 kV8 dc8 pm8 cd8 ct8 : Value} {f8 : Addr}
    (a0 : PySem.W.nsIn K mainGlobals "price_on" = some (some (.ref f0))) (l0 : K.lookup f0 = some ⟨oc0, od0, .func (PySem.W.fnOf "price_on" "price_on" (defArgs s_price_on) (defBody s_price_on) (defScope s_price_on) .none kV0 dc0 pm0 an0 cd0 ct0), sl0⟩) (c0 : PySem.W.codeIn K cd0 "price_on" = true) (k0 : PySem.W.keepIn K (.ref f0) = true)
    (a1 : PySem.W.nsIn K mainGlobals "least_since" = some (some (.ref f1))) (l1 : K.lookup f1 = some ⟨oc1, od1, .func (PySem.W.fnOf "least_since" "least_since" (defArgs s_least_since) (defBody s_least_since) (defScope s_least_since) .none kV1 dc1 pm1 an1 cd1 ct1), sl1⟩) (c1 : PySem.W.codeIn K cd1 "least_since" = true) (k1 : PySem.W.keepIn K (.ref f1) = true)
    (a2 : PySem.W.nsIn K mainGlobals "_law_mix" = some (some (.ref f2))) (l2 : K.lookup f2 = some ⟨oc2, od2, .func (PySem.W.fnOf "_law_mix" "_law_mix" (defArgs s__law_mix) (defBody s__law_mix) (defScope s__law_mix) .none kV2 dc2 pm2 an2 cd2 ct2), sl2⟩) (c2 : PySem.W.codeIn K cd2 "_law_mix" = true) (k2 : PySem.W.keepIn K (.ref f2) = true)
    (a3 : PySem.W.nsIn K mainGlobals "_law_left" = some (some (.ref f3))) (l3 : K.lookup f3 = some ⟨oc3, od3, .func (PySem.W.fnOf "_law_left" "_law_left" (defArgs s__law_left) (defBody s__law_left) (defScope s__law_left) .none kV3 dc3 pm3 an3 cd3 ct3), sl3⟩) (c3 : PySem.W.codeIn K cd3 "_law_left" = true) (k3 : PySem.W.keepIn K (.ref f3) = true)
    (a4 : PySem.W.nsIn K mainGlobals "_law_pick" = some (some (.ref f4))) (l4 : K.lookup f4 = some ⟨oc4, od4, .func (PySem.W.fnOf "_law_pick" "_law_pick" (defArgs s__law_pick) (defBody s__law_pick) (defScope s__law_pick) .none kV4 dc4 pm4 an4 cd4 ct4), sl4⟩) (c4 : PySem.W.codeIn K cd4 "_law_pick" = true) (k4 : PySem.W.keepIn K (.ref f4) = true)
    (a5 : PySem.W.nsIn K mainGlobals "_law_one" = some (some (.ref f5))) (l5 : K.lookup f5 = some ⟨oc5, od5, .func (PySem.W.fnOf "_law_one" "_law_one" (defArgs s__law_one) (defBody s__law_one) (defScope s__law_one) .none kV5 dc5 pm5 an5 cd5 ct5), sl5⟩) (c5 : PySem.W.codeIn K cd5 "_law_one" = true) (k5 : PySem.W.keepIn K (.ref f5) = true)
    (a6 : PySem.W.nsIn K mainGlobals "_law_prices" = some (some (.ref f6))) (l6 : K.lookup f6 = some ⟨oc6, od6, .func (PySem.W.fnOf "_law_prices" "_law_prices" (defArgs s__law_prices) (defBody s__law_prices) (defScope s__law_prices) .none kV6 dc6 pm6 an6 cd6 ct6), sl6⟩) (c6 : PySem.W.codeIn K cd6 "_law_prices" = true) (k6 : PySem.W.keepIn K (.ref f6) = true)
    (a7 : PySem.W.nsIn K mainGlobals "_law_due" = some (some (.ref f7))) (l7 : K.lookup f7 = some ⟨oc7, od7, .func (PySem.W.fnOf "_law_due" "_law_due" (defArgs s__law_due) (defBody s__law_due) (defScope s__law_due) .none kV7 dc7 pm7 an7 cd7 ct7), sl7⟩) (c7 : PySem.W.codeIn K cd7 "_law_due" = true) (k7 : PySem.W.keepIn K (.ref f7) = true)
    (a8 : PySem.W.nsIn K mainGlobals "law" = some (some (.ref f8))) (l8 : K.lookup f8 = some ⟨oc8, od8, .func (PySem.W.fnOf "law" "law" (defArgs s_law) (defBody s_law) (defScope s_law) .none kV8 dc8 pm8 an8 cd8 ct8), sl8⟩) (c8 : PySem.W.codeIn K cd8 "law" = true) (k8 : PySem.W.keepIn K (.ref f8) = true)
    (z0 : PySem.W.nsIn K mainGlobals "min" = some none)
    (z1 : PySem.W.nsIn K mainGlobals "len" = some none)
    (z2 : PySem.W.nsIn K mainGlobals "abs" = some none)
    (z3 : PySem.W.nsIn K mainGlobals "int" = some none)
    (z4 : PySem.W.nsIn K mainGlobals "range" = some none)
    (z5 : PySem.W.nsIn K mainGlobals "list" = some none)
    (z6 : PySem.W.nsIn K mainGlobals "max" = some none)
    (z7 : PySem.W.nsIn K mainGlobals "repr" = some none)
    (z8 : PySem.W.nsIn K mainGlobals "isinstance" = some none)
    (z9 : PySem.W.nsIn K mainGlobals "bool" = some none)
    (z10 : PySem.W.nsIn K mainGlobals "tuple" = some none) :
    ∃ fd : FuncData, (∀ (s : Shared) (v : Value), BindsTo s fd ⟨[v], []⟩ [("_law_script", v)]) ∧ ∀ base : Heap, K.In base → base.Ns mainGlobals mg → FnG l.prog w K mg base CX0 4 fa fd ["_law_script"] (spW (kxo K w) w_law) := by
  have e := hfa.symm.trans (PySem.W.mg_of X G a8)
  cases e
  have F0 := fun_mk (st := s_price_on) l0 c0 k0
  have b0 := F0.binds (ps := ["prices", "day"]) fun _ _ _ _ _ _ us hl => match us, hl with | [_, _], _ => rfl
  have F1 := fun_mk (st := s_least_since) l1 c1 k1
  have b1 := F1.binds (ps := ["prices", "begin", "within"]) fun _ _ _ _ _ _ us hl => match us, hl with | [_, _, _], _ => rfl
  have F2 := fun_mk (st := s__law_mix) l2 c2 k2
  have b2 := F2.binds (ps := ["_law_cell", "_law_k"]) fun _ _ _ _ _ _ us hl => match us, hl with | [_, _], _ => rfl
  have F3 := fun_mk (st := s__law_left) l3 c3 k3
  have b3 := F3.binds (ps := ["_law_script", "_law_k"]) fun _ _ _ _ _ _ us hl => match us, hl with | [_, _], _ => rfl
  have F4 := fun_mk (st := s__law_pick) l4 c4 k4
  have b4 := F4.binds (ps := ["_law_left_here", "_law_many"]) fun _ _ _ _ _ _ us hl => match us, hl with | [_, _], _ => rfl
  have F5 := fun_mk (st := s__law_one) l5 c5 k5
  have b5 := F5.binds (ps := ["_law_left_here", "_law_some"]) fun _ _ _ _ _ _ us hl => match us, hl with | [_, _], _ => rfl
  have F6 := fun_mk (st := s__law_prices) l6 c6 k6
  have b6 := F6.binds (ps := ["_law_left_here", "_law_many"]) fun _ _ _ _ _ _ us hl => match us, hl with | [_, _], _ => rfl
  have F7 := fun_mk (st := s__law_due) l7 c7 k7
  have b7 := F7.binds (ps := ["_law_prices_here", "_law_begin", "_law_within"]) fun _ _ _ _ _ _ us hl => match us, hl with | [_, _, _], _ => rfl
  have F8 := fun_mk (st := s_law) l8 c8 k8
  have b8 := F8.binds (ps := ["_law_script"]) fun _ _ _ _ _ _ us hl => match us, hl with | [_], _ => rfl
  let T : Tx K mg := { n_min := PySem.W.mg_none_of X G z0, n_len := PySem.W.mg_none_of X G z1, n_abs := PySem.W.mg_none_of X G z2, n_int := PySem.W.mg_none_of X G z3, n_range := PySem.W.mg_none_of X G z4, n_list := PySem.W.mg_none_of X G z5, n_max := PySem.W.mg_none_of X G z6, n_repr := PySem.W.mg_none_of X G z7, n_isinstance := PySem.W.mg_none_of X G z8, n_bool := PySem.W.mg_none_of X G z9, n_tuple := PySem.W.mg_none_of X G z10, a_price_on := f0, d_price_on := _, m_price_on := PySem.W.mg_of X G a0, F_price_on := F0, b_price_on := b0, a_least_since := f1, d_least_since := _, m_least_since := PySem.W.mg_of X G a1, F_least_since := F1, b_least_since := b1, a__law_mix := f2, d__law_mix := _, m__law_mix := PySem.W.mg_of X G a2, F__law_mix := F2, b__law_mix := b2, a__law_left := f3, d__law_left := _, m__law_left := PySem.W.mg_of X G a3, F__law_left := F3, b__law_left := b3, a__law_pick := f4, d__law_pick := _, m__law_pick := PySem.W.mg_of X G a4, F__law_pick := F4, b__law_pick := b4, a__law_one := f5, d__law_one := _, m__law_one := PySem.W.mg_of X G a5, F__law_one := F5, b__law_one := b5, a__law_prices := f6, d__law_prices := _, m__law_prices := PySem.W.mg_of X G a6, F__law_prices := F6, b__law_prices := b6, a__law_due := f7, d__law_due := _, m__law_due := PySem.W.mg_of X G a7, F__law_due := F7, b__law_due := b7, a_law := fa, d_law := _, m_law := PySem.W.mg_of X G a8, F_law := F8, b_law := b8 }
  exact ⟨PySem.W.fnOf "law" "law" (defArgs s_law) (defBody s_law) (defScope s_law) .none kV8 dc8 pm8 an8 cd8 ct8, fun s v => .of_eq rfl, fun base _ _ => ok_law T⟩
theorem walk {l : PySem.W.OpenLaw} {q : Program} {loose : List Str} {XP : (Str → Option Value) → Heap → Prop} {YP : World → Heap → Prop} {d : DefRec} {K : Params → PySem.W.Frag} (hn : l.most = some 63) (hdf : d.params.defaults = [])
    (hY : ∀ (w : World) (h : Heap), YP w h → (K w.params).In h)
    (F : ∀ (w : World) (mg : Str → Option Value) (fa : Addr) (h : Heap), (K w.params).In h → h.Ns mainGlobals mg → mg d.name = some (.ref fa) →
      ∃ fd : FuncData, (∀ (s : Shared) (u : Value), BindsTo s fd ⟨[u], []⟩ [("_law_script", u)]) ∧ ∀ base : Heap, (K w.params).In base → base.Ns mainGlobals mg → FnG l.prog w (K w.params) mg base CX0 4 fa fd ["_law_script"] (spW (kxo (K w.params) w) pw_law)) :
    PySem.W.WalkO q loose XP YP l.row.toRowW d [] (fun f vs => PySem.call f vs) :=
  DL.walk_ofG (n := 63) (k := 4) (x := "_law_script") (CX := fun _ => CX0) (sp := fun w => spW (kxo (K w.params) w) pw_law) hn (by decide) hdf ⟨rfl, by decide, by decide⟩ hY F (fun _ _ a ns hl _ hS => law_startW hl hS) fun _ _ _ _ _ z => z
end KL
open PySem PySem.W PyProof.Rows in
set_option maxRecDepth 100000 in
set_option maxHeartbeats 0 in
theorem PySem.Challenge.cw_partwares_k30_least_in_stretches_of_days_holds : PySem.Challenge.rw_partwares_k30_least_in_stretches_of_days.Holds := by
  w_on; o_law; k_head; (case hw => w_witness2)
  k_fill
  refine KL.walk (l := PySem.Challenge.rw_partwares_k30_least_in_stretches_of_days) rfl rfl (fun w h Y => PySem.W.kIn_of Y) ?F
  case F =>
    intro w mg fa h KX G hmg
    refine' KL.all_mk KX G hmg ?a0 ?l0 ?c0 ?k0 ?a1 ?l1 ?c1 ?k1 ?a2 ?l2 ?c2 ?k2 ?a3 ?l3 ?c3 ?k3 ?a4 ?l4 ?c4 ?k4 ?a5 ?l5 ?c5 ?k5 ?a6 ?l6 ?c6 ?k6 ?a7 ?l7 ?c7 ?k7 ?a8 ?l8 ?c8 ?k8 ?z0 ?z1 ?z2 ?z3 ?z4 ?z5 ?z6 ?z7 ?z8 ?z9 ?z10
    (case a0 => k_is)
    (case l0 => k_is)
    (case c0 => k_is)
    (case k0 => k_is)
    (case a1 => k_is)
    (case l1 => k_is)
    (case c1 => k_is)
    (case k1 => k_is)
    (case a2 => k_is)
    (case l2 => k_is)
    (case c2 => k_is)
    (case k2 => k_is)
    (case a3 => k_is)
    (case l3 => k_is)
    (case c3 => k_is)
    (case k3 => k_is)
    (case a4 => k_is)
    (case l4 => k_is)
    (case c4 => k_is)
    (case k4 => k_is)
    (case a5 => k_is)
    (case l5 => k_is)
    (case c5 => k_is)
    (case k5 => k_is)
    (case a6 => k_is)
    (case l6 => k_is)
    (case c6 => k_is)
    (case k6 => k_is)
    (case a7 => k_is)
    (case l7 => k_is)
    (case c7 => k_is)
    (case k7 => k_is)
    (case a8 => k_is)
    (case l8 => k_is)
    (case c8 => k_is)
    (case k8 => k_is)
    (case z0 => k_is)
    (case z1 => k_is)
    (case z2 => k_is)
    (case z3 => k_is)
    (case z4 => k_is)
    (case z5 => k_is)
    (case z6 => k_is)
    (case z7 => k_is)
    (case z8 => k_is)
    (case z9 => k_is)
    (case z10 => k_is)
