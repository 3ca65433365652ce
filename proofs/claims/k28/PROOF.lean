import PyProof.Rows.All
import Wide.All
import OpenK.AllK
import Wide.FinOn
import HandS.ForMost
import HandS.IsInst
import HandS.Deep
import HandS.TupAny
import HandS.Style
import HandS.SortInts
import KE.OsSort
import HandS.FStr
import HandS.Text
import HandS.StrMore
import HandS.StrSplit
import HandS.NoneIn
import PyProof.ReprRoads
import HandS.Exc
import HandS.Zip
import HandS.More
import HandS.Strs
import HandS.SortKw
import HandS.TupMul
import PyProof.DictUpdate
import HandS.Defaults
import HandS.OwnEq
import HandS.NamedTupGet
import HandS.ExcInit
import HandS.ExcOwn
import HandS.ExcIs
import HandS.CallSlots
import HandS.TryOnly
import HandS.Rev
import HandS.MakeKw
import HandS.ExcField
import HandS.Dict
import HandS.SetKeys
import HandS.SetFor
import KE.IntTextLaws
import KE.KCallOwn
import KE.KFmtOwn
import HandS.RaiseMore
import KE.SortData
import PySem.Challenge.RW_partwares_k28_what_prices_are
set_option Elab.async false
set_option linter.all false
set_option maxHeartbeats 4000000
set_option maxRecDepth 100000
namespace DL
open PySem L2

/-! ### heaps -/
abbrev Fg := PySem.W.Frag
/-- places that no data knows (h), and of these those that may be written (w) -/
structure Ms where
  h : List Addr
  w : List Addr
  sub : ∀ a, a ∈ w → a ∈ h
/-- nothing is written -/
def Ms.pure (M : Ms) : Ms := ⟨M.h, [], fun _ m => nomatch m⟩
/-- these alone are written -/
def Ms.only (M : Ms) (l : List Addr) (s : ∀ a, a ∈ l → a ∈ M.h) : Ms := ⟨M.h, l, s⟩
/-- one more, written -/
def Ms.add (M : Ms) (p : Addr) : Ms := ⟨p :: M.h, p :: M.w, fun a m => by
  rcases List.mem_cons.mp m with e | e
  · exact List.mem_cons.mpr (.inl e)
  · exact List.mem_cons.mpr (.inr (M.sub a e))⟩
def Ms.nil : Ms := ⟨[], [], fun _ m => nomatch m⟩
def hid (M : Ms) (H : Hp) : Hp := fun a => if a ∈ M.h then none else H a
/-- the layer's word for «all that was tracked stands» -/
abbrev Ex : Hp → Hp → Prop := L2.Same
/-- all but the places of M stays -/
def Go (M : Ms) (H H' : Hp) : Prop := (∀ a o, a ∉ M.w → H a = some o → H' a = some o) ∧ ∀ a o, H a = some o → ∃ o', H' a = some o'
def Md (M : Ms) (H : Hp) : Prop := ∀ a, a ∈ M.h → ∃ o, H a = some o
theorem Ex.refl (H : Hp) : Ex H H := L2.Same.refl H
theorem Ex.trans {F G J : Hp} (p : Ex F G) (q : Ex G J) : Ex F J := L2.Same.trans p q
theorem Ex.new {G : Hp} {q : Addr} {u : HO} (free : G q = none) : Ex G (upd G q u) := fun b w there => (upd_ne (ne_of_none there free)).trans there
theorem Ex.go {M : Ms} {H H' : Hp} (e : Ex H H') : Go M H H' := ⟨fun a o _ h => e a o h, fun a o h => ⟨o, e a o h⟩⟩
theorem Go.refl (M : Ms) (H : Hp) : Go M H H := (Ex.refl H).go
theorem Go.trans {M : Ms} {H H1 H2 : Hp} (a : Go M H H1) (b : Go M H1 H2) : Go M H H2 :=
  ⟨fun x o n h => b.1 x o n (a.1 x o n h), fun x o h => by obtain ⟨o', h'⟩ := a.2 x o h; exact b.2 x o' h'⟩
theorem Go.sub {M N : Ms} {H H' : Hp} (s : ∀ a, a ∈ M.w → a ∈ N.w) (g : Go M H H') : Go N H H' := ⟨fun a o n h => g.1 a o (fun m => n (s a m)) h, g.2⟩
theorem Go.ex {M : Ms} {H H' : Hp} (g : Go M H H') : Ex (hid M H) (hid M H') := fun a o h => by
  unfold hid at h ⊢
  by_cases m : a ∈ M.h
  · rw [if_pos m] at h; cases h
  · rw [if_neg m] at h ⊢; exact g.1 a o (fun q => m (M.sub a q)) h
theorem Md.go {M N : Ms} {H H' : Hp} (d : Md M H) (g : Go N H H') : Md M H' := fun a m => by obtain ⟨o, h⟩ := d a m; exact g.2 a o h
theorem Md.ex {M : Ms} {H H' : Hp} (d : Md M H) (e : Ex H H') : Md M H' := d.go (e.go (M := Ms.nil))
theorem Go.pure {M : Ms} {H H' : Hp} (g : Go M.pure H H') : Ex H H' := fun a o h => g.1 a o (fun m => nomatch m) h
theorem Md.pure {M : Ms} {H : Hp} (d : Md M H) : Md M.pure H := d
theorem Md.add {M : Ms} {H : Hp} {p : Addr} {o : HO} (d : Md M H) (h : H p = some o) : Md (M.add p) H := fun a m => by
  rcases List.mem_cons.mp m with e | e
  · exact ⟨o, e ▸ h⟩
  · exact d a e
theorem Md.fresh {M : Ms} {H : Hp} (d : Md M H) {p : Addr} (h : H p = none) : p ∉ M.h := fun m => by obtain ⟨o, e⟩ := d p m; rw [h] at e; cases e
theorem hid_le (M : Ms) (H : Hp) : Ex (hid M H) H := fun a o h => by
  unfold hid at h
  by_cases m : a ∈ M.h
  · rw [if_pos m] at h; cases h
  · rw [if_neg m] at h; exact h
theorem hid_ne {M : Ms} {H : Hp} {a : Addr} (h : a ∉ M.h) : hid M H a = H a := if_neg h
theorem Md.nil (H : Hp) : Md Ms.nil H := fun _ m => nomatch m
theorem fresh_back {F G : Hp} {q : Addr} (k : Ex F G) (free : G q = none) : F q = none := L2.Same.free k free
theorem go_back {M : Ms} {H H' : Hp} {p : Addr} (e : Go M H H') (h : H' p = none) : H p = none := by
  cases h1 : H p with
  | none => rfl
  | some o => obtain ⟨o', e'⟩ := e.2 p o h1; rw [e'] at h; cases h
/-- a place of M is written -/
theorem Go.mut {M : Ms} {H : Hp} {p : Addr} {o : HO} (m : p ∈ M.w) : Go M H (upd H p o) := ⟨fun a u n h => by
  have q : a ≠ p := fun e => n (e ▸ m)
  rw [upd_ne q]; exact h, fun a u h => by
  by_cases q : a = p
  · subst q; exact ⟨o, upd_same⟩
  · exact ⟨u, by rw [upd_ne q]; exact h⟩⟩

/-! ### data -/
mutual
/-- v holds the data d (a list that may be read as it stands; a tuple also of the written part) -/
inductive Dq (K : Fg) (H : Hp) : V → PyData → Prop
  | non : Dq K H .non .none
  | bl (b : Bool) : Dq K H (.bl b) (.bool b)
  | int (i : Int) : Dq K H (.int i) (.int i)
  | str (x : Str) : Dq K H (.str x) (.str x)
  | lst {a : Addr} {xs : List V} {ds : List PyData} : SqL K H a xs → DqAll K H xs ds → Dq K H (.ref a) (.list ds)
  | tup {a : Addr} {xs : List V} {ds : List PyData} : SqT K H a xs → DqAll K H xs ds → Dq K H (.ref a) (.tuple ds)
inductive DqAll (K : Fg) (H : Hp) : List V → List PyData → Prop
  | nil : DqAll K H [] []
  | cons {v : V} {vs : List V} {d : PyData} {ds : List PyData} : Dq K H v d → DqAll K H vs ds → DqAll K H (v :: vs) (d :: ds)
end
mutual
theorem Dq.dp {K : Fg} {H : Hp} : ∀ (d : PyData) (v : V), Dq K H v d → Dp K H v d
  | _, _, .non => .non
  | _, _, .bl b => .bl b
  | _, _, .int i => .int i
  | _, _, .str x => .str x
  | .list ds, _, .lst (xs := xs) s a => .lst s (DqAll.dp ds xs a)
  | .tuple ds, _, .tup (xs := xs) s a => .tup s (DqAll.dp ds xs a)
theorem DqAll.dp {K : Fg} {H : Hp} : ∀ (ds : List PyData) (vs : List V), DqAll K H vs ds → DpAll K H vs ds
  | [], _, .nil => .nil
  | d :: ds, v :: vs, .cons h t => .cons (Dq.dp d v h) (DqAll.dp ds vs t)
end
theorem ex_l {K : Fg} {F G : Hp} {q : Addr} {vs : List V} (k : Ex F G) (h : SqL K F q vs) : SqL K G q vs := L2.Same.seq k h
theorem ex_t {K : Fg} {F G : Hp} {q : Addr} {vs : List V} (k : Ex F G) : SqT K F q vs → SqT K G q vs
  | .inl (.inl h) => .inl (.inl (k q _ h))
  | .inl (.inr ⟨ob, h⟩) => .inl (.inr ⟨ob, k q _ h⟩)
  | .inr h => .inr h
mutual
theorem dp_ex {K : Fg} {H H' : Hp} (e : Ex H H') : ∀ (d : PyData) (v : V), Dq K H v d → Dq K H' v d
  | _, _, .non => .non
  | _, _, .bl b => .bl b
  | _, _, .int i => .int i
  | _, _, .str x => .str x
  | .list ds, _, .lst (xs := xs) s a => .lst (ex_l e s) (dps_ex e ds xs a)
  | .tuple ds, _, .tup (xs := xs) s a => .tup (ex_t e s) (dps_ex e ds xs a)
theorem dps_ex {K : Fg} {H H' : Hp} (e : Ex H H') : ∀ (ds : List PyData) (vs : List V), DqAll K H vs ds → DqAll K H' vs ds
  | [], _, .nil => .nil
  | d :: ds, v :: vs, .cons h t => .cons (dp_ex e d v h) (dps_ex e ds vs t)
end
/-- v holds the data d, in H but the places of M -/
abbrev Da (K : Fg) (M : Ms) (H : Hp) (v : V) (d : PyData) : Prop := Dq K (hid M H) v d
abbrev Das (K : Fg) (M : Ms) (H : Hp) (vs : List V) (ds : List PyData) : Prop := DqAll K (hid M H) vs ds
theorem Da.go {K : Fg} {M : Ms} {H H' : Hp} {v : V} {d : PyData} (h : Da K M H v d) (g : Go M H H') : Da K M H' v d := dp_ex g.ex d v h
theorem Das.go {K : Fg} {M : Ms} {H H' : Hp} {v : List V} {d : List PyData} (h : Das K M H v d) (g : Go M H H') : Das K M H' v d := dps_ex g.ex d v h
theorem Da.ex {K : Fg} {M : Ms} {H H' : Hp} {v : V} {d : PyData} (h : Da K M H v d) (g : Ex H H') : Da K M H' v d := h.go g.go
theorem Das.ex {K : Fg} {M : Ms} {H H' : Hp} {v : List V} {d : List PyData} (h : Das K M H v d) (g : Ex H H') : Das K M H' v d := h.go g.go
theorem Da.dq {K : Fg} {M : Ms} {H : Hp} {v : V} {d : PyData} (h : Da K M H v d) : Dq K H v d := dp_ex (hid_le M H) d v h
theorem Da.dp {K : Fg} {M : Ms} {H : Hp} {v : V} {d : PyData} (h : Da K M H v d) : Dp K H v d := Dq.dp d v h.dq
theorem Das.dq {K : Fg} {M : Ms} {H : Hp} {v : List V} {d : List PyData} (h : Das K M H v d) : DqAll K H v d := dps_ex (hid_le M H) d v h
theorem Das.dp {K : Fg} {M : Ms} {H : Hp} {v : List V} {d : List PyData} (h : Das K M H v d) : DpAll K H v d := DqAll.dp d v h.dq
theorem Das.len {K : Fg} {H : Hp} : ∀ {vs : List V} {ds : List PyData}, DqAll K H vs ds → vs.length = ds.length
  | _, _, .nil => rfl
  | _, _, .cons _ t => by rw [List.length_cons, List.length_cons, Das.len t]
theorem Das.get {K : Fg} {H : Hp} : ∀ {vs : List V} {ds : List PyData} {i : Nat} {d : PyData}, DqAll K H vs ds → ds[i]? = some d → ∃ v, vs[i]? = some v ∧ Dq K H v d
  | _, _, _, _, .nil, e => by simp at e
  | _, _, 0, d, .cons h _, e => by simp at e; subst e; exact ⟨_, rfl, h⟩
  | _, _, i + 1, d, .cons _ t, e => by simpa using Das.get (i := i) t (by simpa using e)
theorem Das.get' {K : Fg} {H : Hp} : ∀ {vs : List V} {ds : List PyData} {i : Nat} {v : V}, DqAll K H vs ds → vs[i]? = some v → ∃ d, ds[i]? = some d ∧ Dq K H v d
  | _, _, _, _, .nil, e => by simp at e
  | _, _, 0, d, .cons h _, e => by simp at e; subst e; exact ⟨_, rfl, h⟩
  | _, _, i + 1, d, .cons _ t, e => by simpa using Das.get' (i := i) t (by simpa using e)
theorem Das.app {K : Fg} {H : Hp} : ∀ {vs : List V} {ds : List PyData} {us : List V} {es : List PyData}, DqAll K H vs ds → DqAll K H us es → DqAll K H (vs ++ us) (ds ++ es)
  | _, _, _, _, .nil, h => h
  | _, _, _, _, .cons a t, h => .cons a (Das.app t h)
theorem Das.take {K : Fg} {H : Hp} : ∀ {vs : List V} {ds : List PyData} (n : Nat), DqAll K H vs ds → DqAll K H (vs.take n) (ds.take n)
  | _, _, 0, _ => .nil
  | _, _, _ + 1, .nil => .nil
  | _, _, n + 1, .cons a t => .cons a (Das.take n t)
theorem Das.drop {K : Fg} {H : Hp} : ∀ {vs : List V} {ds : List PyData} (n : Nat), DqAll K H vs ds → DqAll K H (vs.drop n) (ds.drop n)
  | _, _, 0, h => h
  | _, _, _ + 1, .nil => .nil
  | _, _, n + 1, .cons _ t => Das.drop n t
theorem Das.set {K : Fg} {H : Hp} {v : V} {d : PyData} (h : Dq K H v d) : ∀ {vs : List V} {ds : List PyData} (n : Nat), DqAll K H vs ds → DqAll K H (vs.set n v) (ds.set n d)
  | _, _, _, .nil => .nil
  | _, _, 0, .cons _ t => .cons h t
  | _, _, n + 1, .cons a t => .cons a (Das.set h n t)
theorem Das.rev {K : Fg} {H : Hp} {vs : List V} {ds : List PyData} (h : DqAll K H vs ds) : DqAll K H vs.reverse ds.reverse := by
  induction ds generalizing vs with
  | nil => cases h; exact .nil
  | cons d ds ih =>
    cases h with
    | cons a t => rw [List.reverse_cons, List.reverse_cons]; exact Das.app (ih t) (.cons a .nil)
theorem Das.rep {K : Fg} {H : Hp} {vs : List V} {ds : List PyData} (h : DqAll K H vs ds) : ∀ n : Nat, DqAll K H (List.replicate n vs).flatten (List.replicate n ds).flatten
  | 0 => .nil
  | n + 1 => by rw [List.replicate_succ, List.replicate_succ, List.flatten_cons, List.flatten_cons]; exact Das.app h (Das.rep h n)
theorem Das.ints {K : Fg} {H : Hp} : ∀ {vs : List V} {ns : List Int}, DqAll K H vs (ns.map PyData.int) → vs = ns.map V.int
  | _, [], .nil => rfl
  | _, n :: ns, .cons h t => by cases h; rw [Das.ints t]; rfl
theorem Das.strs {K : Fg} {H : Hp} : ∀ {vs : List V} {ns : List Str}, DqAll K H vs (ns.map PyData.str) → vs = ns.map V.str
  | _, [], .nil => rfl
  | _, n :: ns, .cons h t => by cases h; rw [Das.strs t]; rfl
theorem Das.bls {K : Fg} {H : Hp} : ∀ {vs : List V} {ns : List Bool}, DqAll K H vs (ns.map PyData.bool) → vs = ns.map V.bl
  | _, [], .nil => rfl
  | _, n :: ns, .cons h t => by cases h; rw [Das.bls t]; rfl
theorem Das.of_ints {K : Fg} {H : Hp} : ∀ (ns : List Int), DqAll K H (ns.map V.int) (ns.map PyData.int)
  | [] => .nil
  | n :: ns => .cons (.int n) (Das.of_ints ns)
theorem Das.of_strs {K : Fg} {H : Hp} : ∀ (ns : List Str), DqAll K H (ns.map V.str) (ns.map PyData.str)
  | [] => .nil
  | n :: ns => .cons (.str n) (Das.of_strs ns)
theorem Das.of_bls {K : Fg} {H : Hp} : ∀ (ns : List Bool), DqAll K H (ns.map V.bl) (ns.map PyData.bool)
  | [] => .nil
  | n :: ns => .cons (.bl n) (Das.of_bls ns)
/-- a list that is tracked outside of M is data -/
theorem Da.lst {K : Fg} {M : Ms} {H : Hp} {p : Addr} {xs : List V} {ds : List PyData} (m : p ∉ M.h) (h : H p = some (.lst xs)) (a : Das K M H xs ds) : Da K M H (.ref p) (.list ds) := Dq.lst (Or.inl (Or.inl (by rw [hid_ne m]; exact h))) a
theorem Da.tup {K : Fg} {M : Ms} {H : Hp} {p : Addr} {xs : List V} {ds : List PyData} (m : p ∉ M.h) (h : H p = some (.tup xs)) (a : Das K M H xs ds) : Da K M H (.ref p) (.tuple ds) := Dq.tup (Or.inl (Or.inl (by rw [hid_ne m]; exact h))) a
theorem Da.new_lst {K : Fg} {M : Ms} {H : Hp} {p : Addr} {xs : List V} {ds : List PyData} (d : Md M H) (n : H p = none) (a : Das K M H xs ds) : Da K M (upd H p (.lst xs)) (.ref p) (.list ds) :=
  Da.lst (d.fresh n) upd_same (a.ex (Ex.new n))
theorem Da.new_tup {K : Fg} {M : Ms} {H : Hp} {p : Addr} {xs : List V} {ds : List PyData} (d : Md M H) (n : H p = none) (a : Das K M H xs ds) : Da K M (upd H p (.tup xs)) (.ref p) (.tuple ds) :=
  Da.tup (d.fresh n) upd_same (a.ex (Ex.new n))

/-- data of less is data of more -/
theorem hid_mono {M N : Ms} (s : ∀ a, a ∈ M.h → a ∈ N.h) (H : Hp) : Ex (hid N H) (hid M H) := fun a o h => by
  unfold hid at h ⊢
  by_cases m : a ∈ N.h
  · rw [if_pos m] at h; cases h
  · rw [if_neg m] at h; rw [if_neg (fun q => m (s a q))]; exact h
theorem Da.mono {K : Fg} {M N : Ms} {H : Hp} {v : V} {d : PyData} (s : ∀ a, a ∈ M.h → a ∈ N.h) (h : Da K N H v d) : Da K M H v d := dp_ex (hid_mono s H) d v h
theorem Das.mono {K : Fg} {M N : Ms} {H : Hp} {v : List V} {d : List PyData} (s : ∀ a, a ∈ M.h → a ∈ N.h) (h : Das K N H v d) : Das K M H v d := dps_ex (hid_mono s H) d v h
/-- a new place is hidden -/
theorem hid_add {M : Ms} {H : Hp} {p : Addr} {o : HO} (n : H p = none) : Ex (hid M H) (hid (M.add p) (upd H p o)) := fun a u h => by
  have q : a ≠ p := fun e => by
    have := hid_le M H a u h
    rw [e, n] at this; cases this
  unfold hid at h ⊢
  by_cases m : a ∈ M.h
  · rw [if_pos m] at h; cases h
  · rw [if_neg m] at h
    rw [if_neg (fun z => by rcases List.mem_cons.mp z with e | e; exact q e; exact m e), upd_ne q]; exact h
end DL
set_option maxRecDepth 100000
namespace DL
open PySem L2
section
variable {K : Fg} {M : Ms} {H H' : Hp}

/-! ### what is there, as data -/
theorem Da.int_inv {x : V} {i : Int} (h : Da K M H x (.int i)) : x = .int i := by cases h; rfl
theorem Da.str_inv {x : V} {i : Str} (h : Da K M H x (.str i)) : x = .str i := by cases h; rfl
theorem Da.bl_inv {x : V} {i : Bool} (h : Da K M H x (.bool i)) : x = .bl i := by cases h; rfl
theorem Da.non_inv {x : V} (h : Da K M H x .none) : x = .non := by cases h; rfl
theorem hid_l {a : Addr} {xs : List V} (h : SqL K (hid M H) a xs) : SqL K H a xs := ex_l (hid_le M H) h
theorem hid_t {a : Addr} {xs : List V} (h : SqT K (hid M H) a xs) : SqT K H a xs := ex_t (hid_le M H) h

/-- v is the data d; where d is a list, v's own place may be one that changes -/
inductive Dt (K : Fg) (M : Ms) (H : Hp) : V → PyData → Prop
  | da {v : V} {d : PyData} : Da K M H v d → Dt K M H v d
  | op {a : Addr} {xs : List V} {ds : List PyData} : SqL K H a xs → Das K M H xs ds → Dt K M H (.ref a) (.list ds)
inductive Dts (K : Fg) (M : Ms) (H : Hp) : List V → List PyData → Prop
  | nil : Dts K M H [] []
  | cons {v : V} {vs : List V} {d : PyData} {ds : List PyData} : Dt K M H v d → Dts K M H vs ds → Dts K M H (v :: vs) (d :: ds)
theorem hid_nil {H : Hp} : hid Ms.nil H = H := by funext a; exact if_neg (fun m => nomatch m)
theorem Dt.int_inv {x : V} {i : Int} (h : Dt K M H x (.int i)) : x = .int i := by cases h with | da h => exact Da.int_inv h
theorem Dt.str_inv {x : V} {i : Str} (h : Dt K M H x (.str i)) : x = .str i := by cases h with | da h => exact Da.str_inv h
theorem Dt.bl_inv {x : V} {i : Bool} (h : Dt K M H x (.bool i)) : x = .bl i := by cases h with | da h => exact Da.bl_inv h
theorem Dt.non_inv {x : V} (h : Dt K M H x .none) : x = .non := by cases h with | da h => exact Da.non_inv h
theorem Dt.dp {x : V} {d : PyData} (h : Dt K M H x d) : Dp K H x d := by
  cases h with
  | da h => exact Da.dp h
  | op s a => exact .lst s (Das.dp a)
theorem Dt.list_inv {x : V} {ds : List PyData} (h : Dt K M H x (.list ds)) : ∃ a xs, x = .ref a ∧ SqL K (hid Ms.nil H) a xs ∧ Das K M H xs ds := by
  rw [hid_nil]
  cases h with
  | da h => cases h with | lst s a => exact ⟨_, _, rfl, hid_l s, a⟩
  | op s a => exact ⟨_, _, rfl, s, a⟩
theorem Dt.tup_inv {x : V} {ds : List PyData} (h : Dt K M H x (.tuple ds)) : ∃ a xs, x = .ref a ∧ SqT K (hid M H) a xs ∧ Das K M H xs ds := by
  cases h with
  | da h => cases h with | tup s a => exact ⟨_, _, rfl, s, a⟩
theorem Dts.len : ∀ {vs : List V} {ds : List PyData}, Dts K M H vs ds → vs.length = ds.length
  | _, _, .nil => rfl
  | _, _, .cons _ t => by rw [List.length_cons, List.length_cons, Dts.len t]
theorem Dts.one {vs : List V} {d : PyData} (h : Dts K M H vs [d]) : ∃ v, vs = [v] ∧ Dt K M H v d := by
  cases h with | cons a t => cases t; exact ⟨_, rfl, a⟩
theorem Dts.two {vs : List V} {d e : PyData} (h : Dts K M H vs [d, e]) : ∃ v u, vs = [v, u] ∧ Dt K M H v d ∧ Dt K M H u e := by
  cases h with | cons a t => obtain ⟨u, rfl, b⟩ := Dts.one t; exact ⟨_, _, rfl, a, b⟩
/-! ### operators on data, by relations -/
def rB (K : Fg) (g : PyData → PyData → PyData → Prop) : R2 := fun x y H Q => ∃ M d e z, Md M H ∧ Dt K M H x d ∧ Dt K M H y e ∧ g d e z ∧ ∀ v H', Ex H H' → Da K M H' v z → Q v H'
def rU1 (K : Fg) (g : PyData → PyData → Prop) : V → Hp → VK → Prop := fun x H Q => ∃ M d z, Md M H ∧ Dt K M H x d ∧ g d z ∧ ∀ v H', Ex H H' → Da K M H' v z → Q v H'
/-- a call of a built-in on data -/
def rC (K : Fg) (g : List PyData → PyData → Prop) : List V → Hp → VK → Prop := fun vs H Q => ∃ M ds z, Md M H ∧ Dts K M H vs ds ∧ g ds z ∧ ∀ v H', Ex H H' → Da K M H' v z → Q v H'
/-- a method that reads -/
def rM (K : Fg) (g : PyData → List PyData → PyData → Prop) : V → List V → Hp → VK → Prop := fun x vs H Q => ∃ M d ds z, Md M H ∧ Dt K M H x d ∧ Dts K M H vs ds ∧ g d ds z ∧ ∀ v H', Ex H H' → Da K M H' v z → Q v H'
/-- a slice -/
def rSl (K : Fg) (g : PyData → Option Int → Option Int → PyData → Prop) : V → Option Int → Option Int → Hp → VK → Prop := fun x lo hi H Q => ∃ M d z, Md M H ∧ Dt K M H x d ∧ g d lo hi z ∧ ∀ v H', Ex H H' → Da K M H' v z → Q v H'

def AddD : PyData → PyData → PyData → Prop
  | .int i, .int j, z => z = .int (i + j)
  | .str a, .str b, z => a.length + b.length ≤ sizeLine ∧ z = .str (a ++ b)
  | .list a, .list b, z => a.length + b.length ≤ sizeLine ∧ z = .list (a ++ b)
  | .tuple a, .tuple b, z => a.length + b.length ≤ sizeLine ∧ z = .tuple (a ++ b)
  | _, _, _ => False
def SubD : PyData → PyData → PyData → Prop
  | .int i, .int j, z => z = .int (i - j)
  | _, _, _ => False
/-- a text so many times -/
def repS (x : Str) (k : Int) : Str := if k < 1 then Str.empty else if (k == 1 || x.length == 0) = true then x else ⟨(List.replicate k.toNat x.cps).foldl (· ++ ·) #[]⟩
def MulD : PyData → PyData → PyData → Prop
  | .int i, .int j, z => CMul i j ∧ z = .int (i * j)
  | .list a, .int k, z => -(2 ^ 63) ≤ k ∧ k < 2 ^ 63 ∧ a.length * k.toNat ≤ sizeLine ∧ z = .list (List.replicate k.toNat a).flatten
  | .str x, .int k, z => -(2 ^ 63) ≤ k ∧ k < 100000 ∧ x.length ≤ 100 ∧ z = .str (repS x k)
  | _, _, _ => False
def DivD : PyData → PyData → PyData → Prop
  | .int i, .int j, z => CDiv i j ∧ z = .int (i / j)
  | _, _, _ => False
def ModD : PyData → PyData → PyData → Prop
  | .int i, .int j, z => 0 < j ∧ z = .int (i % j)
  | _, _, _ => False
def PowD : PyData → PyData → PyData → Prop
  | .int i, .int j, z => CPow i j ∧ z = .int (i ^ j.toNat)
  | _, _, _ => False
def LtD : PyData → PyData → PyData → Prop
  | .int i, .int j, z => z = .bool (decide (i < j))
  | .str a, .str b, z => z = .bool (decide (a.cps.toList < b.cps.toList))
  | _, _, _ => False
def LeD : PyData → PyData → PyData → Prop
  | .int i, .int j, z => z = .bool (decide (i ≤ j))
  | .str a, .str b, z => z = .bool (!decide (b.cps.toList < a.cps.toList))
  | _, _, _ => False
def GtD : PyData → PyData → PyData → Prop
  | .int i, .int j, z => z = .bool (decide (j < i))
  | .str a, .str b, z => z = .bool (decide (b.cps.toList < a.cps.toList))
  | _, _, _ => False
def GeD : PyData → PyData → PyData → Prop
  | .int i, .int j, z => z = .bool (decide (j ≤ i))
  | .str a, .str b, z => z = .bool (!decide (a.cps.toList < b.cps.toList))
  | _, _, _ => False
/-- what == compares: no dicts, texts of known signs, not too deep -/
abbrev Shp (d : PyData) : Prop := SeqAt.shaped d = true
def strD : PyData → Bool
  | .str _ => true
  | _ => false
/-- x is one that == looks through, or both are texts -/
def Shr (d e x : PyData) : Prop := Shp x ∨ (strD d = true ∧ strD e = true)
def EqD (d e z : PyData) : Prop := Shr d e d ∧ Shr d e e ∧ z = .bool (PyData.eqv d e)
def NeD (d e z : PyData) : Prop := Shr d e d ∧ Shr d e e ∧ z = .bool (!PyData.eqv d e)
/-- flat things -/
def flatD : PyData → Bool
  | .none | .bool _ | .int _ | .str _ => true
  | _ => false
def InD : PyData → PyData → PyData → Prop
  | .str c, .str t, z => (∃ k, c = ⟨#[k]⟩ ∧ z = .bool (decide (k ∈ t.cps.toList)))
  | d, .list ds, z => ((Shp d ∧ Shp (.list ds)) ∨ (flatD d = true ∧ ds.all flatD = true)) ∧ z = .bool (ds.any fun y => PyData.eqv y d)
  | d, .tuple ds, z => flatD d = true ∧ ds.all flatD = true ∧ z = .bool (ds.any fun y => PyData.eqv y d)
  | _, _, _ => False
def NotInD : PyData → PyData → PyData → Prop
  | .str c, .str t, z => (∃ k, c = ⟨#[k]⟩ ∧ z = .bool (!decide (k ∈ t.cps.toList)))
  | d, .list ds, z => ((Shp d ∧ Shp (.list ds)) ∨ (flatD d = true ∧ ds.all flatD = true)) ∧ z = .bool (!ds.any fun y => PyData.eqv y d)
  | d, .tuple ds, z => flatD d = true ∧ ds.all flatD = true ∧ z = .bool (!ds.any fun y => PyData.eqv y d)
  | _, _, _ => False
def isNoneD : PyData → Bool
  | .none => true
  | _ => false
end
section
variable {X : Cx}
theorem Da.list_inv {K : Fg} {M : Ms} {H : Hp} {x : V} {ds : List PyData} (h : Da K M H x (.list ds)) : ∃ a xs, x = .ref a ∧ SqL K (hid M H) a xs ∧ Das K M H xs ds := by cases h with | lst s a => exact ⟨_, _, rfl, s, a⟩
theorem Da.tup_inv {K : Fg} {M : Ms} {H : Hp} {x : V} {ds : List PyData} (h : Da K M H x (.tuple ds)) : ∃ a xs, x = .ref a ∧ SqT K (hid M H) a xs ∧ Das K M H xs ds := by cases h with | tup s a => exact ⟨_, _, rfl, s, a⟩
/-- a list of the heap or of the written part, as the machine has it -/
theorem list_obj {pins : List (Addr × Obj)} {σ : L2.St} {H : Hp} {s : Shared} {l : Addr} {xs : List V} (I : Inv X pins σ H s) (h : SqL X.K H l xs) :
    ∃ (its : List Value) (n : Nat) (dd : Option Addr) (sl : Array (Option Value)), Vals xs its ∧ its.length = xs.length ∧ s.heap.get? l = some { cls := .type "list", dict := dd, data := .seq its.toArray n, slots := sl } := by
  obtain ⟨its, r, ⟨ob, n, at_l, is_list, no_dict, dat⟩, _⟩ := I.list h
  refine ⟨its, n, ob.dict, ob.slots, r, r.length.symm, ?_⟩
  rw [at_l]
  cases ob
  cases is_list
  cases dat
  rfl
def rCatR (K : Fg) : R2 := fun x y H Q => ∃ l b xs zs, x = .ref l ∧ y = .ref b ∧ SqL K H l xs ∧ SqL K H b zs ∧ xs.length + zs.length ≤ sizeLine ∧ ∀ p, H p = none → Q (.ref p) (upd H p (.lst (xs ++ zs)))
theorem op_catR : OpR X (binaryOp .Add) (rCatR X.K) := by
  rintro pins s σ H _ _ v u Q I rx ry ⟨l, b, xs, zs, rfl, rfl, left, right, room, done⟩
  obtain ⟨us, n1, d1, sl1, r1, e1, o1⟩ := list_obj I left
  obtain ⟨ws, n2, d2, sl2, r2, e2, o2⟩ := list_obj I right
  cases rx
  cases ry
  have fits : us.toArray.size + ws.toArray.size ≤ sizeLine := by simpa [e1, e2] using room
  have both : us.toArray ++ ws.toArray = (us ++ ws).toArray := List.append_toArray us ws
  have sum := PyProof.Rows.list_addW l b us.toArray ws.toArray n1 n2 d1 d2 sl1 sl2 fits
  refine concat_meets ⟨_, o1, rfl⟩ ⟨_, o2, rfl⟩ noFill_list_add seq_list_add PySem.F.slot_list_add PySem.F.entry_list_add (PySem.F.args_list_add_2 _ _) sum ⟨o1, o2, ?_⟩
  rw [both]
  have made := I.lnew (t' := s.toks) (r1.append r2) (by rw [List.length_append]; exact room)
  exact ⟨V.ref _, _, made, rfl, done _ I.fresh⟩
theorem op_addD : OpR X (binaryOp .Add) (rB X.K AddD) := by
  intro pins s σ H x y v u Q I rx ry h
  obtain ⟨M, d, e, z, hM, hd, he, g, q⟩ := h
  cases d <;> cases e <;> try exact g.elim
  · have e1 := hd.int_inv; have e2 := he.int_inv; subst e1; subst e2
    exact op_add pins s σ H _ _ v u Q I rx ry ⟨_, _, rfl, rfl, q _ H (Ex.refl H) (by rw [show z = _ from g]; exact .int _)⟩
  · have e1 := hd.str_inv; have e2 := he.str_inv; subst e1; subst e2
    exact op_add_str pins s σ H _ _ v u Q I rx ry ⟨_, _, rfl, rfl, g.1, q _ H (Ex.refl H) (by rw [g.2]; exact .str _)⟩
  · obtain ⟨a, xs, rfl, ha, hx⟩ := hd.list_inv
    obtain ⟨b, ys, rfl, hb, hy⟩ := he.list_inv
    have l1 := Das.len hx; have l2 := Das.len hy
    exact op_catR pins s σ H _ _ v u Q I rx ry ⟨a, b, xs, ys, rfl, rfl, hid_l ha, hid_l hb, by rw [l1, l2]; exact g.1, fun p hp => q _ _ (Ex.new hp) (by rw [g.2]; exact Da.new_lst hM hp (Das.app hx hy))⟩
  · obtain ⟨a, xs, rfl, ha, hx⟩ := hd.tup_inv
    obtain ⟨b, ys, rfl, hb, hy⟩ := he.tup_inv
    have l1 := Das.len hx; have l2 := Das.len hy
    refine op_catA pins s σ H _ _ v u Q I rx ry ⟨a, b, xs, ys, rfl, rfl, hid_t ha, hid_t hb, by rw [l1, l2]; exact g.1, fun e => ?_, fun _ e => ?_, fun _ _ p hp => q _ _ (Ex.new hp) (by rw [g.2]; exact Da.new_tup hM hp (Das.app hx hy))⟩
    · subst e; cases hx
      exact q _ H (Ex.refl H) (by rw [g.2]; exact Dq.tup hb hy)
    · subst e; cases hy
      exact q _ H (Ex.refl H) (by rw [g.2, List.append_nil]; exact Dq.tup ha hx)
theorem op_subD : OpR X (binaryOp .Sub) (rB X.K SubD) := by
  intro pins s σ H x y v u Q I rx ry h
  obtain ⟨M, d, e, z, hM, hd, he, g, q⟩ := h
  cases d <;> cases e <;> try exact g.elim
  have e1 := hd.int_inv; have e2 := he.int_inv; subst e1; subst e2
  exact op_sub pins s σ H _ _ v u Q I rx ry ⟨_, _, rfl, rfl, q _ H (Ex.refl H) (by rw [show z = _ from g]; exact .int _)⟩
def rRepR (K : Fg) : R2 := fun x y H Q => ∃ l k xs, x = .ref l ∧ y = .int k ∧ SqL K H l xs ∧ (-(2 ^ 63) ≤ k ∧ k < 2 ^ 63) ∧ xs.length * k.toNat ≤ sizeLine ∧ ∀ p, H p = none → Q (.ref p) (upd H p (.lst (List.replicate k.toNat xs).flatten))
theorem op_repR : OpR X (binaryOp .Mult) (rRepR X.K) := by
  intro pins s σ H _ _ v _ Q I rx ry h
  obtain ⟨l, k, xs, rfl, rfl, there, ⟨lo, hi⟩, room, done⟩ := h
  obtain ⟨t, rfl⟩ := ry
  obtain ⟨us, n, dd, sl, r, e, ob⟩ := list_obj I there
  cases rx
  have many : us.toArray.size * k.toNat ≤ sizeLine := by simpa [e] using room
  have c1 : ¬ (!Builtin.List.listFitsIndex k) = true := by simp [PySem.fitsIndex_both lo hi]
  have c2 : ¬ us.toArray.size * k.toNat > (2 ^ 63 - 1) / 8 := Nat.not_lt.mpr (Nat.le_trans many (by decide))
  have c3 : ¬ Builtin.List.listTooLong (us.toArray.size * k.toNat) = true := by
    rw [notLongL many]; exact Bool.false_ne_true
  have times := lm_list_mul_any l us.toArray n dd sl k t c1 c2 c3
  have turned := lm_int_rmul_list_any k t l us.toArray n dd sl
  refine wpAny_binaryOp_repeat_ref (T := "list") (U := "int") (by decide) ⟨_, ob, rfl⟩ (fun s' => typeIs_int s' k t) noFill_list_mul F.fills_int_mul F.slot_int_rmul repeat_list F.slot_int_index.lookup ?_
  have made := I.lnew (t' := s.toks) (r.rep k.toNat) (by simpa [PyProof.Rows.lm_len_rep_flat, Nat.mul_comm] using room)
  refine call_meets F.slot_int_rmul (typeIs_int s k t) F.entry_int_rmul (F.args_int_rmul_2 _ _) turned ⟨ob, rfl, ⟨_, ob, rfl⟩, call_meets F.slot_list_mul ⟨_, ob, rfl⟩ F.entry_list_mul (F.args_list_mul_2 _ _) times ⟨ob, ?_⟩⟩
  rw [PyProof.Rows.listMul_foldl_if]
  exact ⟨.ref _, _, made, rfl, done _ I.fresh⟩
theorem op_repS : OpR X (binaryOp .Mult) (fun x y H Q => ∃ a k, x = .str a ∧ y = .int k ∧ -(2 ^ 63) ≤ k ∧ k < 100000 ∧ a.length ≤ 100 ∧ Q (.str (repS a k)) H) := by
  intro pins s σ H x y v u Q I rx ry h
  obtain ⟨a, k, rfl, rfl, lo, hi, room, done⟩ := h
  obtain ⟨t, rfl⟩ := rx
  obtain ⟨t', rfl⟩ := ry
  have long : Builtin.Str.tooLong (a.length * k.toNat) = false := by
    have e1 : a.length * k.toNat ≤ 100 * 100000 := Nat.mul_le_mul room (by omega)
    exact PyProof.Rows.short24 (by omega)
  refine PySem.P.mul_str (by simp; omega) (fun h1 h2 => ?_) (fun h1 h2 => long) ?_
  · have e1 : (92233720368547 : Int) ≤ (2 ^ 63 - 1) / k := by
      rw [Int.le_ediv_iff_mul_le (by omega)]; omega
    omega
  · unfold repS at done
    split
    · rename_i c; rw [if_pos c] at done
      exact ⟨by first | exact Nat.zero_le _ | exact fits_reps (x := a) long, .str _, H, I.tok _, ⟨_, rfl⟩, done⟩
    · rename_i c; rw [if_neg c] at done
      split
      · rename_i c'; rw [if_pos c'] at done
        exact ⟨.str _, H, I, ⟨_, rfl⟩, done⟩
      · rename_i c'; rw [if_neg c'] at done
        exact ⟨by first | exact Nat.zero_le _ | exact fits_reps (x := a) long, .str _, H, I.tok _, ⟨_, rfl⟩, done⟩
theorem op_mulD : OpR X (binaryOp .Mult) (rB X.K MulD) := by
  intro pins s σ H x y v u Q I rx ry h
  obtain ⟨M, d, e, z, hM, hd, he, g, q⟩ := h
  cases d <;> cases e <;> try exact g.elim
  · have e1 := hd.int_inv; have e2 := he.int_inv; subst e1; subst e2
    exact op_mul pins s σ H _ _ v u Q I rx ry ⟨_, _, rfl, rfl, g.1, q _ H (Ex.refl H) (by rw [g.2]; exact .int _)⟩
  · have e1 := hd.str_inv; have e2 := he.int_inv; subst e1; subst e2
    exact op_repS pins s σ H _ _ v u Q I rx ry ⟨_, _, rfl, rfl, g.1, g.2.1, g.2.2.1, q _ H (Ex.refl H) (by rw [g.2.2.2]; exact .str _)⟩
  · obtain ⟨a, xs, rfl, ha, hx⟩ := hd.list_inv
    have e2 := he.int_inv; subst e2
    have l1 := Das.len hx
    exact op_repR pins s σ H _ _ v u Q I rx ry ⟨a, _, xs, rfl, rfl, hid_l ha, ⟨g.1, g.2.1⟩, by rw [l1]; exact g.2.2.1, fun p hp => q _ _ (Ex.new hp) (by rw [g.2.2.2]; exact Da.new_lst hM hp (Das.rep hx _))⟩
theorem op_divD : OpR X (binaryOp .FloorDiv) (rB X.K DivD) := by
  intro pins s σ H x y v u Q I rx ry h
  obtain ⟨M, d, e, z, hM, hd, he, g, q⟩ := h
  cases d <;> cases e <;> try exact g.elim
  have e1 := hd.int_inv; have e2 := he.int_inv; subst e1; subst e2
  exact op_fdiv pins s σ H _ _ v u Q I rx ry ⟨_, _, rfl, rfl, g.1, q _ H (Ex.refl H) (by rw [g.2]; exact .int _)⟩
theorem op_modD : OpR X (binaryOp .Mod) (rB X.K ModD) := by
  intro pins s σ H x y v u Q I rx ry h
  obtain ⟨M, d, e, z, hM, hd, he, g, q⟩ := h
  cases d <;> cases e <;> try exact g.elim
  have e1 := hd.int_inv; have e2 := he.int_inv; subst e1; subst e2
  exact op_mod pins s σ H _ _ v u Q I rx ry ⟨_, _, rfl, rfl, g.1, q _ H (Ex.refl H) (by rw [g.2]; exact .int _)⟩
theorem op_powD : OpR X (binaryOp .Pow) (rB X.K PowD) := by
  intro pins s σ H x y v u Q I rx ry h
  obtain ⟨M, d, e, z, hM, hd, he, g, q⟩ := h
  cases d <;> cases e <;> try exact g.elim
  have e1 := hd.int_inv; have e2 := he.int_inv; subst e1; subst e2
  exact op_pow pins s σ H _ _ v u Q I rx ry ⟨_, _, rfl, rfl, g.1, q _ H (Ex.refl H) (by rw [g.2]; exact .int _)⟩
theorem op_ltD : OpR X (compareOp .Lt) (rB X.K LtD) := by
  intro pins s σ H x y v u Q I rx ry h
  obtain ⟨M, d, e, z, hM, hd, he, g, q⟩ := h
  cases d <;> cases e <;> try exact g.elim
  · have e1 := hd.int_inv; have e2 := he.int_inv; subst e1; subst e2
    exact op_lt pins s σ H _ _ v u Q I rx ry ⟨_, _, rfl, rfl, q _ H (Ex.refl H) (by rw [show z = _ from g]; exact .bl _)⟩
  · have e1 := hd.str_inv; have e2 := he.str_inv; subst e1; subst e2
    exact op_lt_str pins s σ H _ _ v u Q I rx ry ⟨_, _, rfl, rfl, q _ H (Ex.refl H) (by rw [show z = _ from g]; exact .bl _)⟩
theorem op_leD : OpR X (compareOp .LtE) (rB X.K LeD) := by
  intro pins s σ H x y v u Q I rx ry h
  obtain ⟨M, d, e, z, hM, hd, he, g, q⟩ := h
  cases d <;> cases e <;> try exact g.elim
  · have e1 := hd.int_inv; have e2 := he.int_inv; subst e1; subst e2
    exact op_le pins s σ H _ _ v u Q I rx ry ⟨_, _, rfl, rfl, q _ H (Ex.refl H) (by rw [show z = _ from g]; exact .bl _)⟩
  · have e1 := hd.str_inv; have e2 := he.str_inv; subst e1; subst e2
    exact op_le_str pins s σ H _ _ v u Q I rx ry ⟨_, _, rfl, rfl, q _ H (Ex.refl H) (by rw [show z = _ from g]; exact .bl _)⟩
theorem op_gtD : OpR X (compareOp .Gt) (rB X.K GtD) := by
  intro pins s σ H x y v u Q I rx ry h
  obtain ⟨M, d, e, z, hM, hd, he, g, q⟩ := h
  cases d <;> cases e <;> try exact g.elim
  · have e1 := hd.int_inv; have e2 := he.int_inv; subst e1; subst e2
    exact op_gt pins s σ H _ _ v u Q I rx ry ⟨_, _, rfl, rfl, q _ H (Ex.refl H) (by rw [show z = _ from g]; exact .bl _)⟩
  · have e1 := hd.str_inv; have e2 := he.str_inv; subst e1; subst e2
    exact op_gt_str pins s σ H _ _ v u Q I rx ry ⟨_, _, rfl, rfl, q _ H (Ex.refl H) (by rw [show z = _ from g]; exact .bl _)⟩
theorem op_geD : OpR X (compareOp .GtE) (rB X.K GeD) := by
  intro pins s σ H x y v u Q I rx ry h
  obtain ⟨M, d, e, z, hM, hd, he, g, q⟩ := h
  cases d <;> cases e <;> try exact g.elim
  · have e1 := hd.int_inv; have e2 := he.int_inv; subst e1; subst e2
    exact op_ge pins s σ H _ _ v u Q I rx ry ⟨_, _, rfl, rfl, q _ H (Ex.refl H) (by rw [show z = _ from g]; exact .bl _)⟩
  · have e1 := hd.str_inv; have e2 := he.str_inv; subst e1; subst e2
    exact op_ge_str pins s σ H _ _ v u Q I rx ry ⟨_, _, rfl, rfl, q _ H (Ex.refl H) (by rw [show z = _ from g]; exact .bl _)⟩
theorem Shr.both {d e : PyData} (h1 : Shr d e d) (h2 : Shr d e e) : (Shp d ∧ Shp e) ∨ ∃ a b, d = .str a ∧ e = .str b := by
  have two : strD d = true ∧ strD e = true → ∃ a b, d = PyData.str a ∧ e = PyData.str b := fun ⟨p, q⟩ => by
    cases d <;> cases e <;> first | exact ⟨_, _, rfl, rfl⟩ | exact absurd p Bool.false_ne_true | exact absurd q Bool.false_ne_true
  rcases h1 with h1 | h1
  · rcases h2 with h2 | h2
    · exact .inl ⟨h1, h2⟩
    · exact .inr (two h2)
  · exact .inr (two h1)
theorem eqv_strs {a b : Str} : decide (V.str a = V.str b) = PyData.eqv (.str a) (.str b) := by
  unfold PyData.eqv; exact dec_str
theorem op_eqDD (hu : X.A.units + 64 < cLine) : OpR X (compareOp .Eq) (rB X.K EqD) := by
  intro pins s σ H x y v u Q I rx ry h
  obtain ⟨M, d, e, z, hM, hd, he, g, q⟩ := h
  rcases Shr.both g.1 g.2.1 with ⟨s1, s2⟩ | ⟨a, b, rfl, rfl⟩
  · exact op_eqD hu pins s σ H _ _ v u Q I rx ry ⟨d, e, hd.dp, he.dp, s1, s2, q _ H (Ex.refl H) (by rw [g.2.2]; exact .bl _)⟩
  · have e1 := hd.str_inv; have e2 := he.str_inv; subst e1; subst e2
    exact op_eq pins s σ H _ _ v u Q I rx ry ⟨rfl, q _ H (Ex.refl H) (by rw [g.2.2, eqv_strs]; exact .bl _)⟩
theorem op_neDD (hu : X.A.units + 64 < cLine) : OpR X (compareOp .NotEq) (rB X.K NeD) := by
  intro pins s σ H x y v u Q I rx ry h
  obtain ⟨M, d, e, z, hM, hd, he, g, q⟩ := h
  rcases Shr.both g.1 g.2.1 with ⟨s1, s2⟩ | ⟨a, b, rfl, rfl⟩
  · exact op_neD hu pins s σ H _ _ v u Q I rx ry ⟨d, e, hd.dp, he.dp, s1, s2, q _ H (Ex.refl H) (by rw [g.2.2]; exact .bl _)⟩
  · have e1 := hd.str_inv; have e2 := he.str_inv; subst e1; subst e2
    exact op_ne pins s σ H _ _ v u Q I rx ry ⟨rfl, q _ H (Ex.refl H) (by rw [g.2.2, eqv_strs]; exact .bl _)⟩
theorem Dt.fl {K : Fg} {M : Ms} {H : Hp} {x : V} {d : PyData} (h : Dt K M H x d) (f : flatD d = true) : Da K M H x d := by
  cases h with
  | da h => exact h
  | op s a => cases f
theorem flat_of {K : Fg} {M : Ms} {H : Hp} {x : V} {d : PyData} (h : Da K M H x d) (f : flatD d = true) : flatV x = true := by
  cases h <;> first | rfl | cases f
theorem flats_of {K : Fg} {M : Ms} {H : Hp} : ∀ {xs : List V} {ds : List PyData}, Das K M H xs ds → ds.all flatD = true → xs.all flatV = true
  | _, _, .nil, _ => rfl
  | _, _, .cons h t, f => by
    rw [List.all_cons, Bool.and_eq_true] at f
    rw [List.all_cons, flat_of h f.1, flats_of t f.2]; rfl
theorem eqv_of {K : Fg} {M : Ms} {H : Hp} {x y : V} {d e : PyData} (h : Da K M H x d) (h' : Da K M H y e) (f : flatD d = true) (f' : flatD e = true) : eqV x y = PyData.eqv d e := by
  cases h <;> cases h' <;> first | rfl | (cases f; done) | (cases f'; done) | (unfold PyData.eqv eqV; first | rfl | simp)
theorem inV_of {K : Fg} {M : Ms} {H : Hp} {y : V} {e : PyData} (h' : Da K M H y e) (f' : flatD e = true) : ∀ {xs : List V} {ds : List PyData}, Das K M H xs ds → ds.all flatD = true → inV y xs = ds.any fun z => PyData.eqv z e
  | _, _, .nil, _ => rfl
  | _, _, .cons (v := v) (vs := vs) h t, f => by
    rw [List.all_cons, Bool.and_eq_true] at f
    have ih := inV_of h' f' t f.2
    show (eqV v y || inV y vs) = _
    rw [ih, eqv_of h h' f.1 f', List.any_cons]
theorem op_inDD (hu : X.A.units + 65 < cLine) : OpR X (compareOp .In) (rB X.K InD) := by
  intro pins s σ H x y v u Q I rx ry h
  obtain ⟨M, d, e, z, hM, hd, he, g, q⟩ := h
  cases e with
  | str t =>
    cases d <;> try exact g.elim
    obtain ⟨k, rfl, g⟩ := g
    have e1 := hd.str_inv; have e2 := he.str_inv; subst e1; subst e2
    exact op_in_sign pins s σ H _ _ v u Q I rx ry ⟨_, _, rfl, rfl, q _ H (Ex.refl H) (by rw [g]; exact .bl _)⟩
  | list ds =>
    have g : ((Shp d ∧ Shp (.list ds)) ∨ (flatD d = true ∧ ds.all flatD = true)) ∧ z = .bool (ds.any fun y => PyData.eqv y d) := by cases d <;> exact g
    rcases g.1 with g1 | g1
    · exact op_inD hu pins s σ H _ _ v u Q I rx ry ⟨d, ds, hd.dp, he.dp, g1.1, g1.2, q _ H (Ex.refl H) (by rw [g.2]; exact .bl _)⟩
    · obtain ⟨a, xs, rfl, ha, hx⟩ := he.list_inv
      refine op_in_seq pins s σ H _ _ v u Q I rx ry ⟨a, xs, rfl, .inl (hid_l ha), flat_of (hd.fl g1.1) g1.1, flats_of hx g1.2, q _ H (Ex.refl H) ?_⟩
      rw [g.2, ← inV_of (hd.fl g1.1) g1.1 hx g1.2]; exact .bl _
  | tuple ds =>
    have g : flatD d = true ∧ ds.all flatD = true ∧ z = .bool (ds.any fun y => PyData.eqv y d) := by cases d <;> exact g
    obtain ⟨a, xs, rfl, ha, hx⟩ := he.tup_inv
    refine op_in_seq pins s σ H _ _ v u Q I rx ry ⟨a, xs, rfl, .inr (hid_t ha), flat_of (hd.fl g.1) g.1, flats_of hx g.2.1, q _ H (Ex.refl H) ?_⟩
    rw [g.2.2, ← inV_of (hd.fl g.1) g.1 hx g.2.1]; exact .bl _
  | none => cases d <;> exact g.elim
  | bool b => cases d <;> exact g.elim
  | int b => cases d <;> exact g.elim
  | dict b => cases d <;> exact g.elim
theorem op_notInDD (hu : X.A.units + 65 < cLine) : OpR X (compareOp .NotIn) (rB X.K NotInD) := by
  intro pins s σ H x y v u Q I rx ry h
  obtain ⟨M, d, e, z, hM, hd, he, g, q⟩ := h
  cases e with
  | str t =>
    cases d <;> try exact g.elim
    obtain ⟨k, rfl, g⟩ := g
    have e1 := hd.str_inv; have e2 := he.str_inv; subst e1; subst e2
    exact op_notIn_sign pins s σ H _ _ v u Q I rx ry ⟨_, _, rfl, rfl, q _ H (Ex.refl H) (by rw [g]; exact .bl _)⟩
  | list ds =>
    have g : ((Shp d ∧ Shp (.list ds)) ∨ (flatD d = true ∧ ds.all flatD = true)) ∧ z = .bool (!ds.any fun y => PyData.eqv y d) := by cases d <;> exact g
    rcases g.1 with g1 | g1
    · exact op_notInD hu pins s σ H _ _ v u Q I rx ry ⟨d, ds, hd.dp, he.dp, g1.1, g1.2, q _ H (Ex.refl H) (by rw [g.2]; exact .bl _)⟩
    · obtain ⟨a, xs, rfl, ha, hx⟩ := he.list_inv
      refine op_notIn_seq pins s σ H _ _ v u Q I rx ry ⟨a, xs, rfl, .inl (hid_l ha), flat_of (hd.fl g1.1) g1.1, flats_of hx g1.2, q _ H (Ex.refl H) ?_⟩
      rw [g.2, ← inV_of (hd.fl g1.1) g1.1 hx g1.2]; exact .bl _
  | tuple ds =>
    have g : flatD d = true ∧ ds.all flatD = true ∧ z = .bool (!ds.any fun y => PyData.eqv y d) := by cases d <;> exact g
    obtain ⟨a, xs, rfl, ha, hx⟩ := he.tup_inv
    refine op_notIn_seq pins s σ H _ _ v u Q I rx ry ⟨a, xs, rfl, .inr (hid_t ha), flat_of (hd.fl g.1) g.1, flats_of hx g.2.1, q _ H (Ex.refl H) ?_⟩
    rw [g.2.2, ← inV_of (hd.fl g.1) g.1 hx g.2.1]; exact .bl _
  | none => cases d <;> exact g.elim
  | bool b => cases d <;> exact g.elim
  | int b => cases d <;> exact g.elim
  | dict b => cases d <;> exact g.elim
/-- x is None, of any value -/
def rIsNone : R2 := fun x y H Q => y = .non ∧ Q (.bl (decide (x = .non))) H
def rNotNone : R2 := fun x y H Q => y = .non ∧ Q (.bl (!decide (x = .non))) H
theorem op_isNoneD : OpR X (compareOp .Is) rIsNone := op_isN
theorem op_notNoneD : OpR X (compareOp .IsNot) rNotNone := op_notN
theorem un_negD : UnR X (unaryOp .USub) (rU1 X.K fun d z => ∃ i, d = .int i ∧ z = .int (-i)) := by
  intro pins s σ H x v Q I rx h
  obtain ⟨M, d, z, hM, hd, ⟨i, rfl, rfl⟩, q⟩ := h
  have e1 := hd.int_inv; subst e1
  exact un_neg pins s σ H _ v Q I rx ⟨i, rfl, q _ H (Ex.refl H) (.int _)⟩
/-! ### subscripts -/
def IxD : PyData → PyData → PyData → Prop
  | .list ds, .int i, z => atI ds i = some z
  | .tuple ds, .int i, z => atI ds i = some z
  | .str x, .int i, z => x.length ≤ sizeLine ∧ ∃ c, atI x.cps.toList i = some c ∧ z = .str ⟨#[c]⟩
  | _, _, _ => False
theorem atI_das {K : Fg} {H : Hp} {xs : List V} {ds : List PyData} {i : Int} {z : PyData} (h : DqAll K H xs ds) (e : atI ds i = some z) : ∃ v, atI xs i = some v ∧ Dq K H v z := by
  unfold atI at e ⊢
  rw [Das.len h]
  cases q : ixN ds.length i with
  | none => rw [q] at e; cases e
  | some j => rw [q] at e; exact Das.get h e
theorem ix_D : IxR X (rB X.K IxD) := by
  intro value slice pins s σ H x y v u Q I rx ry h hp
  obtain ⟨M, d, e, z, hM, hd, he, g, q⟩ := h
  cases d <;> cases e <;> try exact g.elim
  · have e1 := hd.str_inv; have e2 := he.int_inv; subst e1; subst e2
    obtain ⟨g1, c, g2, rfl⟩ := g
    exact ix_str value slice pins s σ H _ _ v u Q I rx ry ⟨_, _, c, rfl, rfl, g1, g2, q _ H (Ex.refl H) (.str _)⟩ hp
  · obtain ⟨a, xs, rfl, ha, hx⟩ := hd.list_inv
    have e2 := he.int_inv; subst e2
    obtain ⟨w, h1, h2⟩ := atI_das hx g
    exact ix_list value slice pins s σ H _ _ v u Q I rx ry ⟨a, xs, _, w, rfl, rfl, (hid_l ha), h1, q _ H (Ex.refl H) h2⟩ hp
  · obtain ⟨a, xs, rfl, ha, hx⟩ := hd.tup_inv
    have e2 := he.int_inv; subst e2
    obtain ⟨w, h1, h2⟩ := atI_das hx g
    exact ix_tup value slice pins s σ H _ _ v u Q I rx ry ⟨a, xs, _, w, rfl, rfl, hid_t ha, h1, q _ H (Ex.refl H) h2⟩ hp
def cutD (xs : List PyData) (lo hi : Option Int) : List PyData := (xs.drop (HT.sIx xs.length 0 lo)).take (HT.sIx xs.length xs.length hi - HT.sIx xs.length 0 lo)
def SlD : PyData → Option Int → Option Int → PyData → Prop
  | .list ds, lo, hi, z => z = .list (cutD ds lo hi)
  | .tuple ds, lo, hi, z => z = .tuple (cutD ds lo hi)
  | .str x, lo, hi, z => x.length ≤ sizeLine ∧ z = .str (cutS x lo hi)
  | _, _, _, _ => False
theorem das_cut {K : Fg} {H : Hp} {xs : List V} {ds : List PyData} (h : DqAll K H xs ds) (lo hi : Option Int) : DqAll K H (cutV xs lo hi) (cutD ds lo hi) := by
  unfold cutV cutD
  rw [Das.len h]
  exact Das.take _ (Das.drop _ h)
theorem sl_D : SlR X (rSl X.K SlD) := by
  intro pins s σ H x v vl vu lo hi sl Q I rx hs pl pu h
  obtain ⟨M, d, z, hM, hd, g, q⟩ := h
  cases d <;> try exact g.elim
  · have e1 := hd.str_inv; subst e1
    exact sl_str pins s σ H _ v vl vu lo hi sl Q I rx hs pl pu ⟨_, rfl, g.1, q _ H (Ex.refl H) (by rw [g.2]; exact .str _)⟩
  · obtain ⟨a, xs, rfl, ha, hx⟩ := hd.list_inv
    exact sl_list pins s σ H _ v vl vu lo hi sl Q I rx hs pl pu ⟨a, xs, rfl, (hid_l ha), fun p hp => q _ _ (Ex.new hp) (by rw [show z = _ from g]; exact Da.new_lst hM hp (das_cut hx lo hi))⟩
  · obtain ⟨a, xs, rfl, ha, hx⟩ := hd.tup_inv
    have e := das_cut hx lo hi
    refine sl_tupA pins s σ H _ v vl vu lo hi sl Q I rx hs pl pu ⟨a, xs, rfl, hid_t ha, fun w => ?_, fun _ p hp => q _ _ (Ex.new hp) (by rw [show z = _ from g]; exact Da.new_tup hM hp e)⟩
    refine q _ H (Ex.refl H) ?_
    rw [show z = _ from g]
    have e2 : cutV xs lo hi = xs := by
      unfold cutV; rw [w.1, w.2]; simp
    rw [e2] at e
    exact Dq.tup ha e
/-! ### built-ins on data -/
def LenD : List PyData → PyData → Prop
  | [.str x], z => x.length ≤ sizeLine ∧ z = .int x.length
  | [.list ds], z => z = .int ds.length
  | [.tuple ds], z => z = .int ds.length
  | _, _ => False
theorem Das.one {K : Fg} {H : Hp} {vs : List V} {d : PyData} (h : DqAll K H vs [d]) : ∃ v, vs = [v] ∧ Dq K H v d := by
  cases h with | cons a t => cases t; exact ⟨_, rfl, a⟩
theorem Das.two {K : Fg} {H : Hp} {vs : List V} {d e : PyData} (h : DqAll K H vs [d, e]) : ∃ v u, vs = [v, u] ∧ Dq K H v d ∧ Dq K H u e := by
  cases h with | cons a t => obtain ⟨u, rfl, b⟩ := Das.one t; exact ⟨_, _, rfl, a, b⟩
theorem call_lenD : CallR X (.builtin "len") (rC X.K LenD) := by
  intro pins s σ H xs us Q I rx h
  obtain ⟨M, ds, z, hM, hd, g, q⟩ := h
  match ds, g with
  | [.str x], g =>
    obtain ⟨v, rfl, h1⟩ := Dts.one hd
    have e1 := Dt.str_inv h1; subst e1
    exact call_len_str pins s σ H _ us Q I rx ⟨x, rfl, g.1, q _ H (Ex.refl H) (by rw [g.2]; exact .int _)⟩
  | [.list ds], g =>
    obtain ⟨v, rfl, h1⟩ := Dts.one hd
    obtain ⟨a, xs, rfl, ha, hx⟩ := Dt.list_inv h1
    exact call_len_seq pins s σ H _ us Q I rx ⟨a, xs, rfl, .inl (hid_l ha), q _ H (Ex.refl H) (by rw [show z = _ from g, Das.len hx]; exact .int _)⟩
  | [.tuple ds], g =>
    obtain ⟨v, rfl, h1⟩ := Dts.one hd
    obtain ⟨a, xs, rfl, ha, hx⟩ := Dt.tup_inv h1
    exact call_len_seq pins s σ H _ us Q I rx ⟨a, xs, rfl, .inr (hid_t ha), q _ H (Ex.refl H) (by rw [show z = _ from g, Das.len hx]; exact .int _)⟩
def SumD : List PyData → PyData → Prop
  | [.list ds], z => ∃ ns : List Int, ds = ns.map PyData.int ∧ z = .int ns.sum
  | _, _ => False
theorem call_sumD (hc : X.calm = true) : CallR X (.builtin "sum") (rC X.K SumD) := by
  intro pins s σ H xs us Q I rx h
  obtain ⟨M, ds, z, hM, hd, g, q⟩ := h
  match ds, g with
  | [.list ds], g =>
    obtain ⟨v, rfl, h1⟩ := Dts.one hd
    obtain ⟨a, xs, rfl, ha, hx⟩ := Dt.list_inv h1
    obtain ⟨ns, rfl, g⟩ := g
    have e := Das.ints hx; subst e
    exact cr_sum hc pins s σ H _ us Q I rx ⟨a, ns, rfl, (hid_l ha), q _ H (Ex.refl H) (by rw [g]; exact .int _)⟩
def AllD : List PyData → PyData → Prop
  | [.list ds], z => ∃ ns : List Bool, ds = ns.map PyData.bool ∧ z = .bool (ns.all id)
  | _, _ => False
def AnyD : List PyData → PyData → Prop
  | [.list ds], z => ∃ ns : List Bool, ds = ns.map PyData.bool ∧ z = .bool (ns.any id)
  | _, _ => False
theorem call_allD (hc : X.calm = true) : CallR X (.builtin "all") (rC X.K AllD) := by
  intro pins s σ H xs us Q I rx h
  obtain ⟨M, ds, z, hM, hd, g, q⟩ := h
  match ds, g with
  | [.list ds], g =>
    obtain ⟨v, rfl, h1⟩ := Dts.one hd
    obtain ⟨a, xs, rfl, ha, hx⟩ := Dt.list_inv h1
    obtain ⟨ns, rfl, g⟩ := g
    have e := Das.bls hx; subst e
    exact cr_all hc pins s σ H _ us Q I rx ⟨a, ns, rfl, (hid_l ha), q _ H (Ex.refl H) (by rw [g]; exact .bl _)⟩
theorem call_anyD (hc : X.calm = true) : CallR X (.builtin "any") (rC X.K AnyD) := by
  intro pins s σ H xs us Q I rx h
  obtain ⟨M, ds, z, hM, hd, g, q⟩ := h
  match ds, g with
  | [.list ds], g =>
    obtain ⟨v, rfl, h1⟩ := Dts.one hd
    obtain ⟨a, xs, rfl, ha, hx⟩ := Dt.list_inv h1
    obtain ⟨ns, rfl, g⟩ := g
    have e := Das.bls hx; subst e
    exact cr_any hc pins s σ H _ us Q I rx ⟨a, ns, rfl, (hid_l ha), q _ H (Ex.refl H) (by rw [g]; exact .bl _)⟩
def Min2D : List PyData → PyData → Prop
  | [.int i, .int j], z => z = .int (min i j)
  | _, _ => False
def Max2D : List PyData → PyData → Prop
  | [.int i, .int j], z => z = .int (max i j)
  | _, _ => False
theorem call_min2D (hc : X.calm = true) : CallR X (.builtin "min") (rC X.K Min2D) := by
  intro pins s σ H xs us Q I rx h
  obtain ⟨M, ds, z, hM, hd, g, q⟩ := h
  match ds, g with
  | [.int i, .int j], g =>
    obtain ⟨v, u, rfl, h1, h2⟩ := Dts.two hd
    have e1 := Dt.int_inv h1; have e2 := Dt.int_inv h2; subst e1; subst e2
    have e : (if j < i then j else i) = min i j := by omega
    exact call_min2 hc pins s σ H _ us Q I rx ⟨i, j, rfl, q _ H (Ex.refl H) (by rw [show z = _ from g, e]; exact .int _)⟩
theorem call_max2D (hc : X.calm = true) : CallR X (.builtin "max") (rC X.K Max2D) := by
  intro pins s σ H xs us Q I rx h
  obtain ⟨M, ds, z, hM, hd, g, q⟩ := h
  match ds, g with
  | [.int i, .int j], g =>
    obtain ⟨v, u, rfl, h1, h2⟩ := Dts.two hd
    have e1 := Dt.int_inv h1; have e2 := Dt.int_inv h2; subst e1; subst e2
    have e : (if j > i then j else i) = max i j := by omega
    exact call_max2 hc pins s σ H _ us Q I rx ⟨i, j, rfl, q _ H (Ex.refl H) (by rw [show z = _ from g, e]; exact .int _)⟩
def AbsD : List PyData → PyData → Prop
  | [.int i], z => z = .int (if i < 0 then -i else i)
  | _, _ => False
theorem call_absD : CallR X (.builtin "abs") (rC X.K AbsD) := by
  intro pins s σ H xs us Q I rx h
  obtain ⟨M, ds, z, hM, hd, g, q⟩ := h
  match ds, g with
  | [.int i], g =>
    obtain ⟨v, rfl, h1⟩ := Dts.one hd
    have e1 := Dt.int_inv h1; subst e1
    exact call_abs pins s σ H _ us Q I rx ⟨i, rfl, q _ H (Ex.refl H) (by rw [show z = _ from g]; exact .int _)⟩
def IntD : List PyData → PyData → Prop
  | [.int i], z => z = .int i
  | [.bool b], z => z = .int (if b then 1 else 0)
  | [.str x], z => ∃ n, PySem.intText? x = some n ∧ x.length ≤ 640 ∧ z = .int n
  | _, _ => False
theorem call_intD : CallR X (.type "int") (rC X.K IntD) := by
  intro pins s σ H xs us Q I rx h
  obtain ⟨M, ds, z, hM, hd, g, q⟩ := h
  match ds, g with
  | [.int i], g =>
    obtain ⟨v, rfl, h1⟩ := Dts.one hd
    have e1 := Dt.int_inv h1; subst e1
    exact call_int1 pins s σ H _ us Q I rx (.inl ⟨i, rfl, q _ H (Ex.refl H) (by rw [show z = _ from g]; exact .int _)⟩)
  | [.bool i], g =>
    obtain ⟨v, rfl, h1⟩ := Dts.one hd
    have e1 := Dt.bl_inv h1; subst e1
    exact call_int1 pins s σ H _ us Q I rx (.inr ⟨i, rfl, q _ H (Ex.refl H) (by rw [show z = _ from g]; exact .int _)⟩)
  | [.str i], g =>
    obtain ⟨v, rfl, h1⟩ := Dts.one hd
    have e1 := Dt.str_inv h1; subst e1
    obtain ⟨n, g1, g2, g3⟩ := g
    exact call_int_str pins s σ H _ us Q I rx ⟨i, n, rfl, g1, g2, q _ H (Ex.refl H) (by rw [g3]; exact .int _)⟩
def StrD : List PyData → PyData → Prop
  | [.int i], z => i.natAbs.log2 < 1920 ∧ z = .str (toString i)
  | _, _ => False
theorem call_strD : CallR X (.type "str") (rC X.K StrD) := by
  intro pins s σ H xs us Q I rx h
  obtain ⟨M, ds, z, hM, hd, g, q⟩ := h
  match ds, g with
  | [.int i], g =>
    obtain ⟨v, rfl, h1⟩ := Dts.one hd
    have e1 := Dt.int_inv h1; subst e1
    exact call_str_int pins s σ H _ us Q I rx ⟨i, rfl, g.1, q _ H (Ex.refl H) (by rw [g.2]; exact .str _)⟩
def ListD : List PyData → PyData → Prop
  | [.list ds], z => z = .list ds
  | [.tuple ds], z => z = .list ds
  | _, _ => False
theorem call_listD : CallR X (.type "list") (rC X.K ListD) := by
  intro pins s σ H xs us Q I rx h
  obtain ⟨M, ds, z, hM, hd, g, q⟩ := h
  match ds, g with
  | [.list ds], g =>
    obtain ⟨v, rfl, h1⟩ := Dts.one hd
    obtain ⟨a, xs, rfl, ha, hx⟩ := Dt.list_inv h1
    exact call_list_of pins s σ H _ us Q I rx ⟨a, xs, rfl, .inl (hid_l ha), fun p hp => q _ _ (Ex.new hp) (by rw [show z = _ from g]; exact Da.new_lst hM hp hx)⟩
  | [.tuple ds], g =>
    obtain ⟨v, rfl, h1⟩ := Dts.one hd
    obtain ⟨a, xs, rfl, ha, hx⟩ := Dt.tup_inv h1
    exact call_list_of pins s σ H _ us Q I rx ⟨a, xs, rfl, .inr (hid_t ha), fun p hp => q _ _ (Ex.new hp) (by rw [show z = _ from g]; exact Da.new_lst hM hp hx)⟩
def TupleD : List PyData → PyData → Prop
  | [.list ds], z => z = .tuple ds
  | [.tuple ds], z => z = .tuple ds
  | _, _ => False
theorem call_tupleD : CallR X (.type "tuple") (rC X.K TupleD) := by
  intro pins s σ H xs us Q I rx h
  obtain ⟨M, ds, z, hM, hd, g, q⟩ := h
  match ds, g with
  | [.list ds], g =>
    obtain ⟨v, rfl, h1⟩ := Dts.one hd
    obtain ⟨a, xs, rfl, ha, hx⟩ := Dt.list_inv h1
    exact call_tuple_of pins s σ H _ us Q I rx ⟨a, xs, rfl, .inl ⟨(hid_l ha), fun p hp => q _ _ (Ex.new hp) (by rw [show z = _ from g]; exact Da.new_tup hM hp hx)⟩⟩
  | [.tuple ds], g =>
    obtain ⟨v, rfl, h1⟩ := Dts.one hd
    have h0 := h1
    obtain ⟨a, xs, rfl, ha, hx⟩ := Dt.tup_inv h1
    exact call_tuple_of pins s σ H _ us Q I rx ⟨a, xs, rfl, .inr ⟨hid_t ha, q _ H (Ex.refl H) (by rw [show z = _ from g]; exact Dq.tup ha hx)⟩⟩
end
end DL
set_option maxRecDepth 100000
namespace DL
open PySem L2

theorem u64 {k : Nat} {A : Around} (hr : Room k A) : A.units + 64 < cLine := hr.units
theorem u65 {k : Nat} {A : Around} (hr : Room k A) : A.units + 65 < cLine := by have := hr.un; omega
section
variable {X : Cx}
def NegD (d z : PyData) : Prop := ∃ i, d = .int i ∧ z = .int (-i)
theorem un_negDD : UnR X (unaryOp .USub) (rU1 X.K NegD) := un_negD
def IsBD (d e z : PyData) : Prop := ∃ a b, d = .bool a ∧ e = .bool b ∧ z = .bool (decide (a = b))
def NotBD (d e z : PyData) : Prop := ∃ a b, d = .bool a ∧ e = .bool b ∧ z = .bool (!decide (a = b))
theorem op_isBD : OpR X (compareOp .Is) (rB X.K IsBD) := by
  intro pins s σ H x y v u Q I rx ry h
  obtain ⟨M, d, e, z, hM, hd, he, ⟨a, b, rfl, rfl, rfl⟩, q⟩ := h
  have e1 := hd.bl_inv; have e2 := he.bl_inv; subst e1; subst e2
  exact op_isBl pins s σ H _ _ v u Q I rx ry ⟨a, b, rfl, rfl, q _ H (Ex.refl H) (.bl _)⟩
theorem op_notBD : OpR X (compareOp .IsNot) (rB X.K NotBD) := by
  intro pins s σ H x y v u Q I rx ry h
  obtain ⟨M, d, e, z, hM, hd, he, ⟨a, b, rfl, rfl, rfl⟩, q⟩ := h
  have e1 := hd.bl_inv; have e2 := he.bl_inv; subst e1; subst e2
  exact op_notBl pins s σ H _ _ v u Q I rx ry ⟨a, b, rfl, rfl, q _ H (Ex.refl H) (.bl _)⟩
/-! ### isinstance -/
def tyD : PyData → String
  | .none => "NoneType"
  | .bool _ => "bool"
  | .int _ => "int"
  | .str _ => "str"
  | .list _ => "list"
  | .tuple _ => "tuple"
  | .dict _ => "dict"
theorem ty_of {K : Fg} {M : Ms} {H : Hp} {v : V} {d : PyData} (h : Da K M H v d) : TyX K H v (.type (tyD d)) := by
  cases h with
  | non => exact .base .non
  | bl b => exact .base (.bl b)
  | int i => exact .base (.int i)
  | str x => exact .base (.str x)
  | lst s a =>
    rcases hid_l s with (s | ⟨o, s⟩) | ⟨o, its, n, hk, hc, _⟩
    · exact .base (.lst s)
    · exact .base (.frz s)
    · exact .kList hk hc
  | tup s a =>
    rcases hid_t s with (s | ⟨o, s⟩) | ⟨o, its, n, hk, hc, _⟩
    · exact .base (.tup s)
    · exact .fTuple s
    · exact .kTuple hk hc
def isN (T n : String) : Bool := n == T || (n == "bool" && T == "int")
/-- isinstance(d, T), T one of int, str, bool, list, tuple -/
def isD (T : String) (d : PyData) : Bool := isN T (tyD d)
def goodT : List String := ["int", "str", "bool", "list", "tuple"]
def allT : List String := ["NoneType", "bool", "int", "str", "list", "tuple", "dict"]
theorem kit_all : ∀ T ∈ goodT, ∀ n ∈ allT, kitB n T = some (isN T n) := by decide +kernel
theorem ty_all (d : PyData) : tyD d ∈ allT := by cases d <;> simp [tyD, allT]
theorem kit_isD {T : String} (h : T ∈ goodT) (d : PyData) : kitB (tyD d) T = some (isD T d) := kit_all T h _ (ty_all d)
theorem ty_ofT {K : Fg} {M : Ms} {H : Hp} {v : V} {d : PyData} (h : Dt K M H v d) : TyX K H v (.type (tyD d)) := by
  cases h with
  | da h => exact ty_of h
  | op s a =>
    rcases s with (s | ⟨o, s⟩) | ⟨o, its, n, hk, hc, _⟩
    · exact .base (.lst s)
    · exact .base (.frz s)
    · exact .kList hk hc
def rIsD (K : Fg) : List V → Hp → VK → Prop := fun vs H Q => ∃ M v d T, vs = [v, .ty T] ∧ T ∈ goodT ∧ Md M H ∧ Dt K M H v d ∧ Q (.bl (isD T d)) H
theorem call_isiD : CallR X (.builtin "isinstance") (rIsD X.K) := by
  intro pins s σ H xs us Q I rx h
  obtain ⟨M, v, d, T, rfl, hT, hM, hd, q⟩ := h
  exact call_isi pins s σ H _ us Q I rx ⟨v, .ty T, _, _, _, rfl, .ty T, ty_ofT hd, kit_ty (kit_isD hT d), q⟩
def rIsTD (K : Fg) : List V → Hp → VK → Prop := fun vs H Q => ∃ (M : Ms) (v : V) (d : PyData) (tp : Addr) (Ts : List String), vs = [v, .ref tp] ∧ H tp = some (.tup (Ts.map V.ty)) ∧ (∀ T ∈ Ts, T ∈ goodT) ∧ Md M H ∧ Dt K M H v d ∧ Q (.bl (Ts.any fun T => isD T d)) H
theorem kit_any {K : Fg} {d : PyData} : ∀ {Ts : List String}, (∀ T ∈ Ts, T ∈ goodT) → PySem.W.kitAny K (.type (tyD d)) (Ts.map Value.type) = some (Ts.any fun T => isD T d)
  | [], _ => kitAny_nil
  | T :: Ts, h => by
    have ih := kit_any (K := K) (d := d) (Ts := Ts) fun T' m => h T' (List.mem_cons.mpr (.inr m))
    rw [List.map_cons, List.any_cons]
    exact kitAny_cons (kit_ty (kit_isD (h T List.mem_cons_self) d)) (fun e => by rw [e, Bool.false_or]; exact ih) (fun e => by rw [e, Bool.true_or])
theorem cls_tys : ∀ Ts : List String, Paired ClsV (Ts.map V.ty) (Ts.map Value.type)
  | [] => .nil
  | T :: Ts => .cons (.ty T) (cls_tys Ts)
theorem call_isiTD : CallR X (.builtin "isinstance") (rIsTD X.K) := by
  intro pins s σ H xs us Q I rx h
  obtain ⟨M, v, d, tp, Ts, rfl, ht, hT, hM, hd, q⟩ := h
  exact call_isiT pins s σ H _ us Q I rx ⟨v, tp, _, _, _, _, rfl, ht, cls_tys Ts, ty_ofT hd, kit_any hT, q⟩
/-! ### divmod, sorted, reversed -/
def DivmodD : List PyData → PyData → Prop
  | [.int i, .int j], z => CDiv i j ∧ z = .tuple [.int (i / j), .int (i % j)]
  | _, _ => False
theorem call_divmodD : CallR X (.builtin "divmod") (rC X.K DivmodD) := by
  intro pins s σ H xs us Q I rx h
  obtain ⟨M, ds, z, hM, hd, g, q⟩ := h
  match ds, g with
  | [.int i, .int j], g =>
    obtain ⟨v, u, rfl, h1, h2⟩ := Dts.two hd
    have e1 := Dt.int_inv h1; have e2 := Dt.int_inv h2; subst e1; subst e2
    exact call_divmod pins s σ H _ us Q I rx ⟨i, j, rfl, g.1, fun p hp => q _ _ (Ex.new hp) (by rw [g.2]; exact Da.new_tup hM hp (.cons (.int _) (.cons (.int _) .nil)))⟩
def isort (ns : List Int) : List Int := ns.mergeSort (fun x y => decide (x ≤ y))
def SortedD : List PyData → PyData → Prop
  | [.list ds], z => ∃ ns : List Int, ds = ns.map PyData.int ∧ z = .list ((isort ns).map PyData.int)
  | _, _ => False
theorem call_sortedD (hc : X.calm = true) : CallR X (.builtin "sorted") (rC X.K SortedD) := by
  intro pins s σ H xs us Q I rx h
  obtain ⟨M, ds, z, hM, hd, g, q⟩ := h
  match ds, g with
  | [.list ds], g =>
    obtain ⟨v, rfl, h1⟩ := Dts.one hd
    obtain ⟨a, xs, rfl, ha, hx⟩ := Dt.list_inv h1
    obtain ⟨ns, rfl, g⟩ := g
    have e := Das.ints hx; subst e
    refine cr_sortedI pins s σ H _ us Q I rx ⟨a, ns, rfl, (hid_l ha), fun ns' p hp hs hn => q _ _ (Ex.new hn) ?_⟩
    have e : ns' = isort ns := PySem.W.os_sorted_mergeSort hp hs
    subst e
    rw [g]
    exact Da.new_lst hM hn (Das.of_ints _)
end

/-- truth of data -/
def truD : PyData → Bool
  | .none => false
  | .bool b => b
  | .int i => i != 0
  | .str x => x.length != 0
  | .list ds => !ds.isEmpty
  | .tuple ds => !ds.isEmpty
  | .dict ds => !ds.isEmpty

/-! texts -/
def JoinD : PyData → List PyData → PyData → Prop
  | .str a, [.list ds], z => ∃ ys : List Str, ds = ys.map PyData.str ∧ (ys.map (·.length)).sum + ys.length * a.length ≤ 16777216 ∧ z = .str (Txt.join a ys)
  | _, _, _ => False
def CountD : PyData → List PyData → PyData → Prop
  | .str a, [.str b], z => z = .int (Txt.count a b)
  | _, _, _ => False
def UpperD : PyData → List PyData → PyData → Prop
  | .str a, [], z => a.length ≤ 5592405 ∧ z = .str (Txt.upper a)
  | _, _, _ => False
def SplitD : PyData → List PyData → PyData → Prop
  | .str a, [.str b], z => (b.length == 0) = false ∧ a.length + 2 ≤ sizeLine ∧ z = .list ((Txt.split a b).map PyData.str)
  | _, _, _ => False
def PartD : PyData → List PyData → PyData → Prop
  | .str a, [.str b], z => (b.length == 0) = false ∧ a.length ≤ sizeLine ∧ z = .tuple [.str (Txt.partition a b).1, .str (Txt.partition a b).2.1, .str (Txt.partition a b).2.2]
  | _, _, _ => False
def RpartD : PyData → List PyData → PyData → Prop
  | .str a, [.str b], z => (b.length == 0) = false ∧ a.length ≤ sizeLine ∧ z = .tuple [.str (Txt.rpartition a b).1, .str (Txt.rpartition a b).2.1, .str (Txt.rpartition a b).2.2]
  | _, _, _ => False
def ZfillD : PyData → List PyData → PyData → Prop
  | .str a, [.int i], z => PadOk i = true ∧ z = .str (Txt.zfill a i)
  | _, _, _ => False
def StripD : PyData → List PyData → PyData → Prop
  | .str a, [], z => a.length ≤ sizeLine ∧ z = .str (Txt.strip a)
  | _, _, _ => False
/-- the place of a text in a text, where it stands there -/
def IndexD : PyData → List PyData → PyData → Prop
  | .str a, [.str b], z => ∃ k rest, Builtin.Str.occurrences a b 0 a.length 1 = k :: rest ∧ z = .int (k : Nat)
  | _, _, _ => False
section
variable {X : Cx}
theorem mt_joinD : MtR X "str.join" (rM X.K JoinD) := by
  intro pins s σ H x vs v us Q I rx rv h
  obtain ⟨M, d, ds, z, hM, hd, hds, g, q⟩ := h
  match d, ds, g with
  | .str a, [.list es], g =>
    obtain ⟨ys, rfl, room, rfl⟩ := g
    have e := hd.str_inv; subst e
    obtain ⟨y, rfl, h1⟩ := Dts.one hds
    obtain ⟨p, xs, rfl, hp, hx⟩ := Dt.list_inv h1
    have e2 := Das.strs hx; subst e2
    exact mt_join pins s σ H _ _ v us Q I rx rv ⟨a, p, ys, rfl, rfl, .inl (hid_l hp), room, q _ H (Ex.refl H) (.str _)⟩
theorem mt_countD : MtR X "str.count" (rM X.K CountD) := by
  intro pins s σ H x vs v us Q I rx rv h
  obtain ⟨M, d, ds, z, hM, hd, hds, g, q⟩ := h
  match d, ds, g with
  | .str a, [.str b], g =>
    have e := hd.str_inv; subst e
    obtain ⟨y, rfl, h1⟩ := Dts.one hds
    have e1 := Dt.str_inv h1; subst e1
    exact mt_count pins s σ H _ _ v us Q I rx rv ⟨a, b, rfl, rfl, q _ H (Ex.refl H) (by rw [show z = _ from g]; exact .int _)⟩
theorem mt_upperD : MtR X "str.upper" (rM X.K UpperD) := by
  intro pins s σ H x vs v us Q I rx rv h
  obtain ⟨M, d, ds, z, hM, hd, hds, g, q⟩ := h
  match d, ds, g with
  | .str a, [], g =>
    have e := hd.str_inv; subst e
    cases hds
    exact mt_upper pins s σ H _ _ v us Q I rx rv ⟨a, rfl, rfl, g.1, q _ H (Ex.refl H) (by rw [g.2]; exact .str _)⟩
theorem mt_stripD : MtR X "str.strip" (rM X.K StripD) := by
  intro pins s σ H x vs v us Q I rx rv h
  obtain ⟨M, d, ds, z, hM, hd, hds, g, q⟩ := h
  match d, ds, g with
  | .str a, [], g =>
    have e := hd.str_inv; subst e
    cases hds
    exact mt_strip pins s σ H _ _ v us Q I rx rv ⟨a, rfl, rfl, g.1, q _ H (Ex.refl H) (by rw [g.2]; exact .str _)⟩
theorem mt_splitD : MtR X "str.split" (rM X.K SplitD) := by
  intro pins s σ H x vs v us Q I rx rv h
  obtain ⟨M, d, ds, z, hM, hd, hds, g, q⟩ := h
  match d, ds, g with
  | .str a, [.str b], g =>
    have e := hd.str_inv; subst e
    obtain ⟨y, rfl, h1⟩ := Dts.one hds
    have e1 := Dt.str_inv h1; subst e1
    exact mt_split pins s σ H _ _ v us Q I rx rv ⟨a, b, rfl, rfl, g.1, g.2.1, fun p hp => q _ _ (Ex.new hp) (by rw [g.2.2]; exact Da.new_lst hM hp (Das.of_strs _))⟩
theorem mt_partD : MtR X "str.partition" (rM X.K PartD) := by
  intro pins s σ H x vs v us Q I rx rv h
  obtain ⟨M, d, ds, z, hM, hd, hds, g, q⟩ := h
  match d, ds, g with
  | .str a, [.str b], g =>
    have e := hd.str_inv; subst e
    obtain ⟨y, rfl, h1⟩ := Dts.one hds
    have e1 := Dt.str_inv h1; subst e1
    exact mt_partition pins s σ H _ _ v us Q I rx rv ⟨a, b, rfl, rfl, g.1, g.2.1, fun p hp => q _ _ (Ex.new hp) (by rw [g.2.2]; exact Da.new_tup hM hp (Das.of_strs [_, _, _]))⟩
theorem mt_rpartD : MtR X "str.rpartition" (rM X.K RpartD) := by
  intro pins s σ H x vs v us Q I rx rv h
  obtain ⟨M, d, ds, z, hM, hd, hds, g, q⟩ := h
  match d, ds, g with
  | .str a, [.str b], g =>
    have e := hd.str_inv; subst e
    obtain ⟨y, rfl, h1⟩ := Dts.one hds
    have e1 := Dt.str_inv h1; subst e1
    obtain ⟨t, rfl⟩ := rx
    obtain ⟨u, rfl, t2, rfl⟩ := rv.one
    have fin : ∀ p, H p = none → Q (.ref p) (upd H p (.tup [.str (Txt.rpartition a b).1, .str (Txt.rpartition a b).2.1, .str (Txt.rpartition a b).2.2])) := fun p hp => q _ _ (Ex.new hp) (by rw [g.2.2]; exact Da.new_tup hM hp (Das.of_strs [_, _, _]))
    refine call_meets PySem.F.slot_str_rpartition (typeIs_str _ _ _) PySem.F.entry_str_rpartition (PySem.F.args_str_rpartition_2 _ _) (meets_str_rpartition a b t t2 g.1 g.2.1) ?_
    unfold Txt.rpartition at fin
    revert fin
    cases Builtin.Str.lastOccurrence a b 0 a.length <;> exact fun fin => laid_parts I fin
theorem mt_zfillD : MtR X "str.zfill" (rM X.K ZfillD) := by
  intro pins s σ H x vs v us Q I rx rv h
  obtain ⟨M, d, ds, z, hM, hd, hds, g, q⟩ := h
  match d, ds, g with
  | .str a, [.int i], g =>
    have e := hd.str_inv; subst e
    obtain ⟨y, rfl, h1⟩ := Dts.one hds
    have e1 := Dt.int_inv h1; subst e1
    exact mt_zfill pins s σ H _ _ v us Q I rx rv ⟨a, i, rfl, rfl, g.1, q _ H (Ex.refl H) (by rw [g.2]; exact .str _)⟩
theorem mt_indexD : MtR X "str.index" (rM X.K IndexD) := by
  intro pins s σ H x vs v us Q I rx rv h
  obtain ⟨M, d, ds, z, hM, hd, hds, g, q⟩ := h
  match d, ds, g with
  | .str a, [.str b], g =>
    obtain ⟨k, rest, hk, rfl⟩ := g
    have e := hd.str_inv; subst e
    obtain ⟨y, rfl, h1⟩ := Dts.one hds
    have e1 := Dt.str_inv h1; subst e1
    obtain ⟨t, rfl⟩ := rx
    obtain ⟨u, rfl, t2, rfl⟩ := rv.one
    exact PySem.SC.index hk ⟨.int (k : Nat), H, I.tok _, ⟨_, rfl⟩, q _ H (Ex.refl H) (.int _)⟩
end

def tFs (ts : List TE) : TE := fun σ H Q => tJs ts Str.empty σ H fun out H1 => Q (.str out) H1
/-- a text's signs -/
abbrev tl (x : Str) : List Nat := x.cps.toList
/-! a text backwards -/
def revT (x : Str) : Str := ⟨((Builtin.Str.strSliceIndices none none (-1) x.length).filterMap (x.cps[·]?)).toArray⟩
theorem revT_all {p : Nat → Prop} {x : Str} (h : ∀ c ∈ tl x, p c) : ∀ c ∈ tl (revT x), p c := fun c hc => by
  obtain ⟨i, _, e⟩ := List.mem_filterMap.mp hc
  refine h c ?_
  rw [← Array.getElem?_toList] at e
  exact List.mem_of_getElem? e
theorem revT_len (x : Str) : (revT x).length ≤ x.length := by
  have h : (revT x).length ≤ (Builtin.Str.strSliceIndices none none (-1) x.length).length := by
    show (List.filterMap _ _).toArray.size ≤ _
    rw [List.size_toArray]; exact List.length_filterMap_le _ _
  rw [PyProof.Rows.picked_rev, List.length_map, List.length_range] at h
  exact h
def tRevS (te : TE) : TE := fun σ H Q => te σ H fun x H1 => ∃ y, x = .str y ∧ y.length ≤ sizeLine ∧ Q (.str (revT y)) H1
section
variable {X : Cx} {e : Expr} {te : TE}
theorem pe_revS {k : Nat} {p1 p2 p3 pos : Pos} (he : PE X e te) : PE X (.Subscript e (.Slice none none (some (.UnaryOp .USub (.Constant (.int 1) k p1) p2)) p3) pos) (tRevS te) := by
  constructor
  intro pins s σ H Q I h
  refine PyProof.Rows.Subscript_ (thn (he.run pins s σ H _ I h) ?_)
  rintro v s1 ⟨x, H1, I1, r1, y, rfl, room, done⟩
  obtain ⟨tk, rfl⟩ := r1
  have back : PO X (some (.UnaryOp .USub (.Constant (.int 1) k p1) p2)) (tPart (tUn (rU fun i => .int (-i)) (tC (.int 1)))) := po_some (pe_un un_neg pe_int)
  have open_ : PO X none tNoPart := po_none
  refine wpAny_Slice (thn (open_.run pins s1 σ H1 (fun o J => o = none ∧ J = H1) I1 ⟨rfl, rfl⟩) ?_)
  rintro vl s2 ⟨_, _, I2, pl, rfl, rfl⟩
  refine thn (open_.run pins s2 σ _ (fun o J => o = none ∧ J = _) I2 ⟨rfl, rfl⟩) ?_
  rintro vu s3 ⟨_, _, I3, pu, rfl, rfl⟩
  refine thn (back.run pins s3 σ _ (fun o J => o = some (-1) ∧ J = _) I3 ⟨1, rfl, -1, rfl, rfl, rfl⟩) ?_
  rintro vs s4 ⟨_, _, I4, ps, rfl, rfl⟩
  obtain ⟨l, rfl, el⟩ := IsPart.raw pl
  obtain ⟨u, rfl, eu⟩ := IsPart.raw pu
  obtain ⟨st, rfl, es⟩ := IsPart.raw ps
  have I5 := I4.kept (h' := s4.heap.push { cls := .type "slice", data := .fields #[partValue l, partValue u, partValue st] }) (t' := s4.toks) fun b ob q => Heap.get?_push_of_some _ q
  refine PyProof.Rows.tail_any (s := { s4 with heap := s4.heap.push { cls := .type "slice", data := .fields #[partValue l, partValue u, partValue st] } }) (ops := [.ref s4.heap.objs.size, .str y tk]) (typeIs_str _ _ _) PySem.F.slot_str_getitem.lookup ?_ (by with_unfolding_all rfl)
  refine wpAny_getItem_str_slice (l := l) (u := u) (st := st) ⟨_, Heap.get?_push_size _ rfl, rfl, rfl⟩ (by rw [es]; rfl) ?_
  unfold sliceMade slicePicked
  rw [el, eu, es]
  rw [if_neg (by simp)]
  refine ⟨?_, .str _, _, I5.tok _, ⟨_, rfl⟩, done⟩
  exact Nat.le_trans (revT_len y) room
end

/-- the items of data: a list's, a tuple's, a text's signs -/
def itD : PyData → Option (List PyData)
  | .list ds => some ds
  | .tuple ds => some ds
  | .str x => some (x.cps.toList.map fun c => .str ⟨#[c]⟩)
  | _ => none
/-- a list, a tuple or a text is walked -/
def iSeq (K : Fg) (tl : TE) : TI := fun σ H R => tl σ H fun x H1 => (∃ a, x = .ref a ∧ (∃ xs, SqL K H1 a xs) ∧ R (Itl K a) H1) ∨ (∃ a, x = .ref a ∧ (∃ xs, SqT K H1 a xs) ∧ R (Itt K a) H1) ∨ (∃ z, x = .str z ∧ R (Its z) H1)

section
variable {X : Cx} {tg : Expr}
/-- an iterator was laid at the heap's end: its turns are known, so the walk may start -/
theorem laid_it {pins : List (Addr × Obj)} {σ : L2.St} {H : Hp} {s : Shared} {o : Obj} {J : It} {tn : Nat → Heap → Prop} {R : It → Hp → Prop} (I : Inv X pins σ H s) (T : Turn X.prog X.w X.K tg J [s.heap.objs.size] s.heap.objs.size tn)
    (st : tn 0 (s.heap.push o)) (q : R J H) : PIE X pins σ tg R (.ref s.heap.objs.size) { s with heap := s.heap.push o } := by
  have keep := I.kept (t' := s.toks) (fun _ _ e => Heap.get?_push_of_some o e)
  have free := I.fpOk (Nat.le_refl _) I.fresh
  exact ⟨_, [_], tn, J, H, rfl, keep, T, st, fun b hb => List.mem_singleton.mp hb ▸ free, q⟩
/-- a list, a tuple or a text is walked -/
theorem pi_seq {l : Expr} {tl : TE} (hl : PE X l tl) : PI X tg l (iSeq X.K tl) := by
  constructor
  intro pins s σ H R I h
  have run := hl.run pins s σ H _ I h
  refine thn run ?_
  rintro v s1 ⟨x, H1, I1, r1, ⟨a, rfl, ⟨xs, hq⟩, q⟩ | ⟨a, rfl, ⟨xs, hq⟩, q⟩ | ⟨z, rfl, q⟩⟩
  · obtain ⟨us, rv, p, sz⟩ := I1.list hq
    cases r1
    exact wpAny_pyIter_list p.isList (laid_it I1 (turn_list a _) ⟨_, Heap.get?_push_size _ rfl, rfl, rfl⟩ q)
  · obtain ⟨us, rv, p, sz⟩ := I1.tuple hq
    cases r1
    have tup : s1.heap.IsTuple a us.toArray := p
    exact wpAny_pyIter_tuple tup (laid_it I1 (turn_tuple a _) ⟨_, Heap.get?_push_size _ rfl, rfl, rfl⟩ q)
  · obtain ⟨t, rfl⟩ := r1
    rcases kind : z.cps.all (· < 128) with _ | _
    · exact wpAny_pyIter_wide kind (laid_it I1 (turn_str _ z t "str_iterator" (Or.inr rfl)) ⟨_, Heap.get?_push_size _ rfl, rfl, rfl⟩ q)
    · exact wpAny_pyIter_ascii kind (laid_it I1 (turn_str _ z t "str_ascii_iterator" (Or.inl rfl)) ⟨_, Heap.get?_push_size _ rfl, rfl, rfl⟩ q)
end

theorem wipe_get (σ : L2.St) (k : Nat) : ∀ vs : List Nat, (L2.wipe σ vs)[k]? = if k ∈ vs then (σ[k]?).map (fun _ => none) else σ[k]?
  | [] => by simp [L2.wipe]
  | v :: vs => by
    unfold L2.wipe
    by_cases h : v = k
    · subst h
      rw [if_pos (List.mem_cons_self)]
      by_cases hl : v < (L2.wipe σ vs).length
      · rw [List.getElem?_set_self hl]
        rw [wipe_length] at hl
        rw [List.getElem?_eq_getElem hl]; rfl
      · rw [List.getElem?_eq_none (by rw [List.length_set]; omega)]
        rw [wipe_length] at hl
        rw [List.getElem?_eq_none (by omega)]; rfl
    · rw [List.getElem?_set_ne h, wipe_get σ k vs]
      by_cases m : k ∈ vs
      · rw [if_pos m, if_pos (List.mem_cons.mpr (.inr m))]
      · rw [if_neg m, if_neg (fun z => by rcases List.mem_cons.mp z with e | e; exact h e.symm; exact m e)]
theorem wipe_set {σ : L2.St} {j : Nat} {x : Option V} {vs : List Nat} (h : j ∈ vs) : L2.wipe ((L2.wipe σ vs).set j x) vs = L2.wipe σ vs := by
  apply List.ext_getElem?
  intro k
  rw [wipe_get, wipe_get]
  by_cases m : k ∈ vs
  · rw [if_pos m, if_pos m]
    have e : ((L2.wipe σ vs).set j x)[k]?.isSome = σ[k]?.isSome := by
      by_cases hk : k < σ.length
      · rw [List.getElem?_eq_getElem (by rw [List.length_set, wipe_length]; exact hk), List.getElem?_eq_getElem hk]; rfl
      · rw [List.getElem?_eq_none (by rw [List.length_set, wipe_length]; omega), List.getElem?_eq_none (by omega)]
    cases h1 : ((L2.wipe σ vs).set j x)[k]? <;> cases h2 : σ[k]? <;> rw [h1, h2] at e <;> first | rfl | cases e
  · rw [if_neg m, if_neg m]
    have hj : j ≠ k := fun e => m (e ▸ h)
    rw [List.getElem?_set_ne hj, wipe_get, if_neg m]
theorem wipe_wipe {σ : L2.St} {vs : List Nat} : L2.wipe (L2.wipe σ vs) vs = L2.wipe σ vs := by
  apply List.ext_getElem?
  intro k
  rw [wipe_get]
  by_cases m : k ∈ vs
  · rw [if_pos m, wipe_get, if_pos m]
    cases σ[k]? <;> rfl
  · rw [if_neg m]

theorem take_more {α : Type} : ∀ {l : List α} {i : Nat} {x : α}, l[i]? = some x → l.take (i + 1) = l.take i ++ [x]
  | [], i, x, h => by simp at h
  | a :: l, 0, x, h => by have e : a = x := Option.some.inj h; subst e; rfl
  | a :: l, i + 1, x, h => by
    have ih := take_more (l := l) (i := i) (x := x) h
    show a :: l.take (i + 1) = a :: l.take i ++ [x]
    rw [ih]; rfl

/-! defs whose callers' frames hold no guard: what repr of a list or tuple wants to know -/
structure FnG (P : Program) (w : World) (K : Fg) (mg : Str → Option Value) (base : Heap) (CX : CXT) (k : Nat) (f : Addr) (fd : FuncData) (ps : List Str) (sp : Sp) : Prop where
  many : ∀ vs H Q E, sp vs H Q E → vs.length = ps.length
  run : ∀ (A : Around), A.guards = some [] → Room k A → ∀ (outer : List PySem.Env) (s : Shared) (H : Hp), Env0 P w K mg base A outer s H → ∀ (args : Args) (us : List Value) (vs : List V), BindsTo s fd args (ps.zip us) → Vals vs us →
    ∀ (Q : VK) (E : XK), sp vs H Q E → codeAny (model P w) A (.call (.ref f) args) (CR CX outer P w H s Q E) s
section
variable {P : Program} {w : World} {K : Fg} {mg : Str → Option Value} {base : Heap} {CX : CXT} {j k : Nat} {f : Addr} {fd : FuncData} {ps : List Str} {sp : Sp}
theorem FnG.up (F : FnG P w K mg base CX j f fd ps sp) (h : j ≤ k) : FnG P w K mg base CX k f fd ps sp :=
  ⟨F.many, fun A g r => F.run A g (r.mono h)⟩
/-- a def by its body -/
theorem fng {x qual : Str} {st : Stmt} {N : List Str} (D : Fun K x qual st f fd) (S : FnScope N ps (defScope st)) (many : ∀ vs H Q E, sp vs H Q E → vs.length = ps.length)
    (body : ∀ (cdv : Value) (A : Around) (outer : List PySem.Env) (s : Shared) (H : Hp) (vs : List V) (Q : VK) (E : XK), A.guards = some [] → Room k (A.deeper (PyProof.Rows.envOfC qual (defScope st) s.heap.objs.size f cdv)) → sp vs H Q E →
      ∃ t, PSs (cxOf CX P w K mg base N qual (defScope st) f cdv A outer s H E) (defBody st) t ∧ t { nx := fun _ H' => Q .non H', rt := Q } (L2.start N vs) H) : FnG P w K mg base CX (k + 1) f fd ps sp := by
  obtain ⟨oc, od, kV, doc, pm, an, cdv, ct, osl, rfl, lk, hcd⟩ := D.ex
  constructor
  · exact many
  intro A hg room outer s H e0 args us vs bind vals Q E promise
  have long := many _ _ _ _ promise
  have inK : K.In s.heap := e0.mod.kin.keeps fun b o e => (e0.bs b o e).1
  have lim : s.heap.NoLimit := e0.mod.nolimit.keeps fun b o e => (e0.bs b o e).1
  refine codeAny_call_function room.depth (inK _ _ lk) rfl S.co S.gen rfl (PySem.W.codeRec_of inK hcd) (bind _ _ _ _ ?_)
  have kinds : ∀ y ∈ ps.zip us, (defScope st).names.lookup y.1 = some .local ∨ ((defScope st).names.lookup y.1 = some .cell ∧ ((cellsFrom (s.heap.objs.size + 1) (defScope st).names []).lookup y.1).isSome = true) := by
    rintro ⟨n, v⟩ hy
    exact (S.par n (List.of_mem_zip hy).1).imp id fun q => ⟨q, PySem.W.cellsFrom_some _ _ _ (.inl q)⟩
  refine PySem.wpAny_newFunctionEnv_cells S.kind kinds ?_
  rintro env rfl s1 born
  refine ⟨lim.keeps born.toInCall.keep, codeAny_func ?_⟩
  obtain ⟨t, derived, reads⟩ := body cdv A outer s H vs Q E hg (room.deeper _) promise
  have I : L2.Inv (cxOf CX P w K mg base N qual (defScope st) f cdv A outer s H E) [] (L2.start N vs) H s1 := inv_start S room.hd e0 long vals born
  refine wpAny_mono (derived.run [] s1 (L2.start N vs) H _ I reads) ?_ fun _ _ z => z
  rintro (_ | _ | _ | u) s' z
  · obtain ⟨σ', H', J, q⟩ := z
    exact ⟨.non, H', J.os, J.bare, J.base, J.hok, rfl, q⟩
  · obtain ⟨_, _, _, q⟩ := z; exact q.elim
  · obtain ⟨_, _, _, q⟩ := z; exact q.elim
  · obtain ⟨v, σ', H', J, r, q⟩ := z
    exact ⟨v, H', J.os, J.bare, J.base, J.hok, r, q⟩
end
section
variable {X : Cx} {CX : CXT} {k : Nat} {f : Addr} {fd : FuncData} {ps : List Str} {sp : Sp} {dvs : List V} {ds : List Value} {E : XK} {x : Str} {p pos : Pos} {e : Expr} {es : List Expr} {t : TA}
theorem runG {pins : List (Addr × Obj)} {σ : L2.St} {H : Hp} {s : Shared} {Q : VK} {us : List Value} {vs : List V} (F : FnG X.prog X.w X.K X.mg X.base CX k f fd ps sp) (hG : X.A.guards = some []) (hr : Room k X.A) (hb : Binds X.K fd ps ds) (hd : Vals dvs ds) (hx : Passes CX X E)
    (I : L2.Inv X pins σ H s) (r : Vals vs us) (h : sp (vs ++ dvs) H Q E) : wpAny (model X.prog X.w) X.A (call (.ref f) us) (EP X pins σ Q) X.xe s := by
  have both : Vals (vs ++ dvs) (us ++ ds) := r.append hd
  have hl : (us ++ ds).length = ps.length := both.length.symm.trans (F.many _ _ _ _ h)
  have ran := F.run X.A hG hr X.stack s H I.env0 ⟨us, []⟩ (us ++ ds) (vs ++ dvs) (hb s us I.kIn hl) both Q E h
  refine wpAny_call (codeAny_mono ran ?_)
  rintro (er | _ | _ | _ | u) s' z
  · exact hx pins σ H s er s' I z
  · exact False.elim z
  · exact False.elim z
  · exact False.elim z
  · exact I.after z
theorem pe_callG (F : FnG X.prog X.w X.K X.mg X.base CX k f fd ps sp) (hG : X.A.guards = some []) (hr : Room k X.A) (hg : Gl X x) (hm : X.mg x = some (.ref f)) (hk : PySem.W.keepIn X.K (.ref f) = true) (hb : Binds X.K fd ps ds) (hd : Vals dvs ds) (hx : Passes CX X E)
    (ha : PA X (e :: es) t) (hdb : (x == ("__debug__" : Str)) = false := by decide) (he : starEach (e :: es) X.env = (false, eval e X.env) :: starEach es X.env := by rfl) (hpl : (backTo pos (starEach es X.env)).any (·.1) = false := by rfl) :
    PE X (.Call (.Name x p) (e :: es) [] pos) (tCall sp dvs E t) := by
  constructor
  intro pins s σ H Q I h
  refine wpAny_Call_Name_kw (ld_glob I hg hm (PySem.W.callWith_K (h₀ := X.base) I.ok.mod.kin hk (thn (ha.run pos pins s σ H _ I h) ?_) he hpl) hdb)
  rintro us s1 ⟨vs, H1, I1, r, q⟩
  exact ⟨I1.kIn, runG F hG hr hb hd hx I1 r q⟩
end
/-! the law's own call -/
/-- what is tracked at the start: the script, unless the module itself has it -/
theorem script_heap {P : Program} {w : World} {K : Fg} {h : Heap} {a : Addr} {vs : List Value} {ns : List Int} (inK : K.In h) (there : h.get? a = some { cls := .type "list", data := .seq vs.toArray }) (nums : PyProof.Rows.IntsAre vs ns) (few : ns.length ≤ sizeLine) :
    ∃ H : Hp, Only H ∧ SqL K H a (ns.map V.int) ∧ HOk P w H h ∧ ∀ b, H b ≠ none → b = a ∧ K.lookup a = none := by
  have vals := vals_ints nums
  have same := nums.length
  cases found : K.lookup a with
  | some o =>
    have e := inK a o found
    rw [there] at e
    cases e
    exact ⟨fun _ => none, fun _ => .inl rfl, .inr ⟨_, vs.toArray, _, found, rfl, rfl, rfl, by rw [List.size_toArray, same]; exact few, by simpa using vals⟩, (fun b u z => by have z2 : (none : Option HO) = some u := z; cases z2), fun b z => absurd rfl z⟩
  | none =>
    refine ⟨fun b => if b = a then some (.frz { cls := .type "list", data := .seq vs.toArray } (.lst (ns.map V.int))) else none, fun b => ?_, .inl (.inr ⟨{ cls := .type "list", data := .seq vs.toArray }, if_pos rfl⟩), fun b u z => ?_, fun b z => ?_⟩
    · by_cases c : b = a
      · exact .inr ⟨_, _, if_pos c⟩
      · exact .inl (if_neg c)
    · by_cases c : b = a
      · subst c
        have z := (if_pos rfl).symm.trans z
        cases z
        exact ⟨there, by rw [List.length_map]; exact few, vs, _, vals, there⟩
      · have z := (if_neg c).symm.trans z
        cases z
    · by_cases c : b = a
      · exact ⟨c, rfl⟩
      · exact absurd (if_neg c) z
theorem law_callG {P : Program} {w : World} {K : Fg} {mg mb : Str → Option Value} {CX : CXT} {k : Nat} {fa a : Addr} {fd : FuncData} {x : Str} {sp : Sp} {s : Shared} {vs : List Value} {ns : List Int}
    (inK : K.In s.heap) (top : s.heap.Ns mainGlobals mg) (blt : s.heap.Ns builtinsNs mb) (boot : ∀ x : Str, x ≠ "__name__" → mb x = bootBuiltins x) (lim : s.heap.NoLimit) (gens : s.gens = #[])
    (there : s.heap.get? a = some { cls := .type "list", data := .seq vs.toArray }) (nums : PyProof.Rows.IntsAre vs ns) (few : ns.length ≤ sizeLine) (room : Room k callerA)
    (F : ∀ base : Heap, K.In base → base.Ns mainGlobals mg → FnG P w K mg base CX k fa fd [x] sp) (bind : ∀ (s : Shared) (u : Value), BindsTo s fd ⟨[u], []⟩ [(x, u)])
    (promise : ∀ H : Hp, Only H → SqL K H a (ns.map V.int) → sp [.ref a] H (fun v _ => v = .bl true) fun _ _ _ => False) (calm : ∀ H e s', CX [] H s (fun _ _ _ => False) e s' → False) :
    codeAny (model P w) callerA (.call (.ref fa) ⟨[.ref a], []⟩) (fun r s' => r = .ok (.ret (.bool true)) ∧ OldK s.heap s'.heap ∧ s'.os = s.os ∧ PyProof.Rows.AllBare s'.gens) s := by
  obtain ⟨H, only, seq, ok, own⟩ := script_heap (P := P) (w := w) inK there nums few
  have still : ∀ {b : Addr} {o : Obj}, s.heap.get? b = some o → H b = none → (hidT s.heap H).get? b = some o := fun e n => hidT_get e n
  have noDict : ∀ {b : Addr} {o : Obj} {es : Array DictEntry} {n : Nat}, s.heap.get? b = some o → o.data = .dict es n → H b = none := by
    intro b o es n e d
    refine Classical.byContradiction fun z => ?_
    obtain ⟨rfl, _⟩ := own b z
    rw [there] at e; cases e; cases d
  have names : ∀ {b : Addr} {m : Str → Option Value}, s.heap.Ns b m → (hidT s.heap H).Ns b m := by
    rintro b m ⟨o, es, n, e, d, r⟩
    exact ⟨o, es, n, still e (noDict e d), d, r⟩
  have inB : K.In (hidT s.heap H) := fun b o e => still (inK b o e) (Classical.byContradiction fun z => by
    obtain ⟨rfl, q⟩ := own b z
    rw [q] at e; cases e)
  have md : Mod K mg (hidT s.heap H) := ⟨inB, names top, ⟨mb, names blt, boot⟩, by obtain ⟨mc, h1, h2⟩ := lim; exact ⟨mc, names h1, h2⟩⟩
  have e0 : Env0 P w K mg (hidT s.heap H) callerA [] s H := ⟨rfl, md, fun b o e => of_hidT e, Nat.le_of_eq (hidT_size _ _), trivial, fun b hb => absurd (show b ∈ ([] : List Addr) from hb) (by simp), ok, PyProof.Rows.AllBare.of_eq gens⟩
  refine codeAny_mono ((F _ inB (names top)).run callerA rfl room [] s H e0 ⟨[.ref a], []⟩ [.ref a] [.ref a] (bind s (.ref a)) (.cons rfl .nil) _ _ (promise H only seq)) ?_
  rintro (er | _ | _ | _ | u) s' z
  · exact (calm H er s' z).elim
  · exact False.elim z
  · exact False.elim z
  · exact False.elim z
  · obtain ⟨v, H', os, bare, un, ok', r, q⟩ := z
    have q : v = .bl true := q
    subst q
    obtain rfl : u = Value.bool true := r
    refine ⟨rfl, OldK.of_keep fun b o e => ?_, os, bare⟩
    rcases only b with n | ⟨ob, xs, n⟩
    · exact un.keep b o e n (fun z => absurd (show b ∈ ([] : List Addr) from z) (by simp)) (by simp)
    · obtain ⟨e1, _⟩ := ok b _ n
      obtain ⟨e2, _⟩ := ok' b _ (un.frzs b ob _ n)
      rw [e] at e1; cases e1
      exact e2

/-- the law's walk -/
theorem walk_ofG {l : PySem.W.OpenLaw} {n k : Nat} {q : Program} {loose : List Str} {XP : (Str → Option Value) → Heap → Prop} {YP : World → Heap → Prop} {d : DefRec} {K : Params → Fg} {CX : World → CXT} {sp : World → Sp} {x : Str}
    (hn : l.most = some n) (hn2 : n ≤ sizeLine) (hdf : d.params.defaults = []) (hr : Room k callerA) (hY : ∀ (w : World) (h : Heap), YP w h → (K w.params).In h)
    (F : ∀ (w : World) (mg : Str → Option Value) (fa : Addr) (h : Heap), (K w.params).In h → h.Ns mainGlobals mg → mg d.name = some (.ref fa) →
      ∃ fd : FuncData, (∀ (s : Shared) (u : Value), BindsTo s fd ⟨[u], []⟩ [(x, u)]) ∧ ∀ base : Heap, (K w.params).In base → base.Ns mainGlobals mg → FnG l.prog w (K w.params) mg base (CX w) k fa fd [x] (sp w))
    (hsp : ∀ (w : World) (H : Hp) (a : Addr) (ns : List Int), ns.length ≤ n → Only H → SqL (K w.params) H a (ns.map V.int) → sp w [.ref a] H (fun v _ => v = .bl true) fun _ _ _ => False)
    (hCX : ∀ (w : World) (H : Hp) (s : Shared) (e : Value) (s' : Shared), CX w [] H s (fun _ _ _ => False) e s' → False) :
    PySem.W.WalkO q loose XP YP l.row.toRowW d [] (fun f vs => PySem.call f vs) := by
  refine Att.attach_call hn hdf ?_
  intro w s₀ s₁ mg mb fa o pm cd doc a vs ns G Y ho hd hcd hmg hobj nums few gens
  have inK := hY w _ Y
  obtain ⟨fd, bind, made⟩ := F w mg fa _ inK G.T.g hmg
  exact law_callG inK G.T.g G.T.b G.T.builtins G.T.nolimit gens hobj nums (Nat.le_trans few hn2) hr made bind (fun H only seq => hsp w H a ns few only seq) fun H e s' => hCX w H s₁ e s'
/-! repr of data -/
def ReprD : List PyData → PyData → Prop
  | [d], z => d.showable = true ∧ d.hasDict = false ∧ d.depth ≤ 60 ∧ d.shown.length ≤ sizeLine ∧ z = .str d.shown
  | _, _ => False
theorem call_reprD {X : Cx} (hG : X.A.guards = some []) (hu : X.A.units + 64 < cLine) : CallR X (.builtin "repr") (rC X.K ReprD) := by
  intro pins s σ H xs us Q I rx h
  obtain ⟨M, ds, z, hM, hd, g, q⟩ := h
  match ds, g with
  | [d], g =>
    obtain ⟨show1, noD, deep, room, rfl⟩ := g
    obtain ⟨x, rfl, h1⟩ := Dts.one hd
    obtain ⟨u, rfl, r1⟩ := rx.one
    have done : ∀ (h' : Heap) (k : Nat), (∀ b o, s.heap.get? b = some o → h'.get? b = some o) → ∀ v, RelV (.str d.shown) v → EP X pins σ Q v { s with heap := h', toks := k } := fun h' k keep v rv => ⟨_, H, I.kept (t' := k) keep, rv, q _ H (Ex.refl H) (.str _)⟩
    have flat : ∀ (k : Nat) v, RelV (.str d.shown) v → EP X pins σ Q v { s with toks := k } := fun k v rv => done s.heap k (fun _ _ e => e) v rv
    have deepR : ∀ a, u = .ref a → wpAny (model X.prog X.w) X.A (call (.builtin "repr") [u]) (EP X pins σ Q) X.xe s := fun a e => by
      subst e
      obtain ⟨as, rd⟩ := Dp.reads I d x _ (Dt.dp h1) r1
      exact PySem.repr_of_reads' rd show1 (PyData.noDict_hsm noD) hG (by omega) (fun _ _ e => e) (fun h' t k keep => done h' k keep _ ⟨_, rfl⟩) room
    cases d with
    | none =>
      obtain rfl := h1.non_inv
      obtain rfl : u = .none := r1
      exact PySem.P.repr_of_none (flat _ _ ⟨_, rfl⟩)
    | bool b =>
      obtain rfl := h1.bl_inv
      obtain rfl : u = .bool b := r1
      exact PySem.P.repr_of_bool (flat _ _ ⟨_, by cases b <;> rfl⟩)
    | int i =>
      obtain rfl := h1.int_inv
      obtain ⟨t, rfl⟩ := r1
      exact PySem.P.repr_of_int (of_decide_eq_true show1) (flat _ _ ⟨_, rfl⟩)
    | str y =>
      obtain rfl := h1.str_inv
      obtain ⟨t, rfl⟩ := r1
      exact PySem.P.repr_of_str (flat _ _ ⟨_, rfl⟩) room
    | list ys =>
      obtain ⟨a, vs, rfl, _, _⟩ := Dt.list_inv h1
      exact deepR a r1
    | tuple ys =>
      obtain ⟨a, vs, rfl, _, _⟩ := Dt.tup_inv h1
      exact deepR a r1
    | dict kvs => cases h1 with | da h => cases h

theorem atI_in {α : Type} {xs : List α} {i : Int} (h0 : 0 ≤ i) (h1 : i < xs.length) : atI xs i = some (xs[i.toNat]'(by omega)) := by
  have e : ((i.toNat : Nat) : Int) = i := by omega
  have h := atI_nat (List.getElem?_eq_getElem (l := xs) (i := i.toNat) (by omega))
  rw [e] at h
  exact h
theorem atI_mem {α : Type} {xs : List α} {i : Int} (h0 : 0 ≤ i) (h1 : i < xs.length) : ∃ x, atI xs i = some x ∧ x ∈ xs := ⟨_, atI_in h0 h1, List.getElem_mem _⟩
theorem atI_ints {ns : List Int} {i : Int} (h0 : 0 ≤ i) (h1 : i < ns.length) : ∃ n, atI (ns.map PyData.int) i = some (.int n) ∧ atI ns i = some n := by
  refine ⟨ns[i.toNat]'(by omega), ?_, atI_in h0 h1⟩
  rw [atI_in h0 (by rw [List.length_map]; exact h1)]
  simp

section
variable {i j : Int} {a b : Str} {xs ys : List PyData} {p q : Bool}
theorem g_add : AddD (.int i) (.int j) (.int (i + j)) := rfl
theorem g_addS (h : a.length + b.length ≤ sizeLine) : AddD (.str a) (.str b) (.str (a ++ b)) := ⟨h, rfl⟩
theorem g_addL (h : xs.length + ys.length ≤ sizeLine) : AddD (.list xs) (.list ys) (.list (xs ++ ys)) := ⟨h, rfl⟩
theorem g_addT (h : xs.length + ys.length ≤ sizeLine) : AddD (.tuple xs) (.tuple ys) (.tuple (xs ++ ys)) := ⟨h, rfl⟩
theorem g_sub : SubD (.int i) (.int j) (.int (i - j)) := rfl
theorem g_mul (h : CMul i j) : MulD (.int i) (.int j) (.int (i * j)) := ⟨h, rfl⟩
theorem g_mulL (h : -(2 ^ 63) ≤ i ∧ i < 2 ^ 63 ∧ xs.length * i.toNat ≤ sizeLine) : MulD (.list xs) (.int i) (.list (List.replicate i.toNat xs).flatten) := ⟨h.1, h.2.1, h.2.2, rfl⟩
theorem g_div (h : CDiv i j) : DivD (.int i) (.int j) (.int (i / j)) := ⟨h, rfl⟩
theorem g_mod (h : 0 < j) : ModD (.int i) (.int j) (.int (i % j)) := ⟨h, rfl⟩
theorem g_pow (h : CPow i j) : PowD (.int i) (.int j) (.int (i ^ j.toNat)) := ⟨h, rfl⟩
theorem g_lt : LtD (.int i) (.int j) (.bool (decide (i < j))) := rfl
theorem g_le : LeD (.int i) (.int j) (.bool (decide (i ≤ j))) := rfl
theorem g_gt : GtD (.int i) (.int j) (.bool (decide (j < i))) := rfl
theorem g_ge : GeD (.int i) (.int j) (.bool (decide (j ≤ i))) := rfl
theorem g_ltS : LtD (.str a) (.str b) (.bool (decide (a.cps.toList < b.cps.toList))) := rfl
theorem g_leS : LeD (.str a) (.str b) (.bool (!decide (b.cps.toList < a.cps.toList))) := rfl
theorem eqv_int : PyData.eqv (.int i) (.int j) = decide (i = j) := by unfold PyData.eqv; exact Bool.beq_eq_decide_eq i j
theorem eqv_bool : PyData.eqv (.bool p) (.bool q) = decide (p = q) := by unfold PyData.eqv; cases p <;> cases q <;> rfl
theorem eqv_str : PyData.eqv (.str a) (.str b) = decide (a = b) := by
  unfold PyData.eqv
  by_cases h : a = b
  · subst h; simp
  · rw [decide_eq_false h]; exact beq_eq_false_iff_ne.mpr h
theorem shp_int : Shp (.int i) := by show SeqAt.shaped _ = true; simp [SeqAt.shaped, PyData.canLay0, PyData.depth]
theorem shp_bool : Shp (.bool p) := by show SeqAt.shaped _ = true; simp [SeqAt.shaped, PyData.canLay0, PyData.depth]
theorem shp_none : Shp .none := by show SeqAt.shaped _ = true; simp [SeqAt.shaped, PyData.canLay0, PyData.depth]
theorem g_eq : EqD (.int i) (.int j) (.bool (decide (i = j))) := ⟨.inl shp_int, .inl shp_int, by rw [eqv_int]⟩
theorem g_ne : NeD (.int i) (.int j) (.bool (!decide (i = j))) := ⟨.inl shp_int, .inl shp_int, by rw [eqv_int]⟩
theorem g_eqB : EqD (.bool p) (.bool q) (.bool (decide (p = q))) := ⟨.inl shp_bool, .inl shp_bool, by rw [eqv_bool]⟩
theorem g_neB : NeD (.bool p) (.bool q) (.bool (!decide (p = q))) := ⟨.inl shp_bool, .inl shp_bool, by rw [eqv_bool]⟩
theorem g_neg : NegD (.int i) (.int (-i)) := ⟨i, rfl, rfl⟩
theorem g_isB : IsBD (.bool p) (.bool q) (.bool (decide (p = q))) := ⟨p, q, rfl, rfl, rfl⟩
theorem g_notB : NotBD (.bool p) (.bool q) (.bool (!decide (p = q))) := ⟨p, q, rfl, rfl, rfl⟩
theorem g_ixL {z : PyData} (h : atI xs i = some z) : IxD (.list xs) (.int i) z := h
theorem g_ixT {z : PyData} (h : atI xs i = some z) : IxD (.tuple xs) (.int i) z := h
theorem g_len : LenD [.list xs] (.int (xs.length : Int)) := rfl
theorem g_lenT : LenD [.tuple xs] (.int (xs.length : Int)) := rfl
theorem g_lenS (h : a.length ≤ sizeLine) : LenD [.str a] (.int (a.length : Int)) := ⟨h, rfl⟩
theorem g_sum {ns : List Int} : SumD [.list (ns.map .int)] (.int ns.sum) := ⟨ns, rfl, rfl⟩
theorem g_all {ns : List Bool} : AllD [.list (ns.map .bool)] (.bool (ns.all id)) := ⟨ns, rfl, rfl⟩
theorem g_any {ns : List Bool} : AnyD [.list (ns.map .bool)] (.bool (ns.any id)) := ⟨ns, rfl, rfl⟩
theorem g_min : Min2D [.int i, .int j] (.int (min i j)) := rfl
theorem g_max : Max2D [.int i, .int j] (.int (max i j)) := rfl
theorem g_abs : AbsD [.int i] (.int (if i < 0 then -i else i)) := rfl
theorem g_int : IntD [.int i] (.int i) := rfl
theorem g_intB : IntD [.bool p] (.int (if p then 1 else 0)) := rfl
theorem g_str (h : i.natAbs.log2 < 1920) : StrD [.int i] (.str (toString i)) := ⟨h, rfl⟩
theorem g_list : ListD [.list xs] (.list xs) := rfl
theorem g_listT : ListD [.tuple xs] (.list xs) := rfl
theorem g_tuple : TupleD [.list xs] (.tuple xs) := rfl
theorem g_tupleT : TupleD [.tuple xs] (.tuple xs) := rfl
theorem g_divmod (h : CDiv i j) : DivmodD [.int i, .int j] (.tuple [.int (i / j), .int (i % j)]) := ⟨h, rfl⟩
theorem g_sorted {ns : List Int} : SortedD [.list (ns.map .int)] (.list ((isort ns).map .int)) := ⟨ns, rfl, rfl⟩
end

theorem lay_ints : ∀ ns : List Int, PyData.canLayAll0 (ns.map PyData.int) = true
  | [] => by simp [PyData.canLayAll0]
  | n :: ns => by simp [PyData.canLayAll0, PyData.canLay0, lay_ints ns]
theorem dep_ints : ∀ ns : List Int, PyData.depthAll (ns.map PyData.int) ≤ 1
  | [] => by simp [PyData.depthAll]
  | n :: ns => by have := dep_ints ns; simp [PyData.depthAll, PyData.depth]; omega
theorem lay_bools : ∀ ns : List Bool, PyData.canLayAll0 (ns.map PyData.bool) = true
  | [] => by simp [PyData.canLayAll0]
  | n :: ns => by simp [PyData.canLayAll0, PyData.canLay0, lay_bools ns]
theorem dep_bools : ∀ ns : List Bool, PyData.depthAll (ns.map PyData.bool) ≤ 1
  | [] => by simp [PyData.depthAll]
  | n :: ns => by have := dep_bools ns; simp [PyData.depthAll, PyData.depth]; omega
theorem shp_ints (ns : List Int) : Shp (.list (ns.map .int)) := by
  have h1 := lay_ints ns; have h2 := dep_ints ns
  show SeqAt.shaped _ = true
  simp [SeqAt.shaped, PyData.canLay0, h1, PyData.depth]; omega
theorem shp_bools (ns : List Bool) : Shp (.list (ns.map .bool)) := by
  have h1 := lay_bools ns; have h2 := dep_bools ns
  show SeqAt.shaped _ = true
  simp [SeqAt.shaped, PyData.canLay0, h1, PyData.depth]; omega
theorem eqvAll_ints : ∀ xs ys : List Int, PyData.eqvAll (xs.map .int) (ys.map .int) = decide (xs = ys)
  | [], [] => by simp [PyData.eqvAll]
  | [], y :: ys => by simp [PyData.eqvAll]
  | x :: xs, [] => by simp [PyData.eqvAll]
  | x :: xs, y :: ys => by
    rw [List.map_cons, List.map_cons, PyData.eqvAll, eqv_int, eqvAll_ints xs ys]
    by_cases h : x = y <;> by_cases h' : xs = ys <;> simp [h, h']
theorem eqvAll_bools : ∀ xs ys : List Bool, PyData.eqvAll (xs.map .bool) (ys.map .bool) = decide (xs = ys)
  | [], [] => by simp [PyData.eqvAll]
  | [], y :: ys => by simp [PyData.eqvAll]
  | x :: xs, [] => by simp [PyData.eqvAll]
  | x :: xs, y :: ys => by
    rw [List.map_cons, List.map_cons, PyData.eqvAll, eqv_bool, eqvAll_bools xs ys]
    by_cases h : x = y <;> by_cases h' : xs = ys <;> simp [h, h']
theorem g_eqL {xs ys : List Int} : EqD (.list (xs.map .int)) (.list (ys.map .int)) (.bool (decide (xs = ys))) := ⟨.inl (shp_ints _), .inl (shp_ints _), by rw [PyData.eqv, eqvAll_ints]⟩
theorem g_neL {xs ys : List Int} : NeD (.list (xs.map .int)) (.list (ys.map .int)) (.bool (!decide (xs = ys))) := ⟨.inl (shp_ints _), .inl (shp_ints _), by rw [PyData.eqv, eqvAll_ints]⟩
theorem g_eqLB {xs ys : List Bool} : EqD (.list (xs.map .bool)) (.list (ys.map .bool)) (.bool (decide (xs = ys))) := ⟨.inl (shp_bools _), .inl (shp_bools _), by rw [PyData.eqv, eqvAll_bools]⟩
theorem flat_ints : ∀ ns : List Int, (ns.map PyData.int).all flatD = true
  | [] => rfl
  | n :: ns => by rw [List.map_cons, List.all_cons, flat_ints ns]; rfl
theorem g_inTI {i : Int} {ns : List Int} : InD (.int i) (.tuple (ns.map .int)) (.bool (ns.any fun n => decide (n = i))) := ⟨rfl, flat_ints ns, by
  rw [List.any_map]
  have e : ((fun y => PyData.eqv y (.int i)) ∘ PyData.int) = fun n => decide (n = i) := by funext n; exact eqv_int
  rw [e]⟩

end DL
set_option maxRecDepth 100000
namespace DL
open PySem L2

/-! ### what is known of a state: slots and cells -/
/-- a value: data, a raw value, the n-th cell -/
inductive Cv where
  | d (x : PyData)
  | v (x : V)
  | c (n : Nat)
/-- a dict that is walked -/
structure Lk where
  od : Obj
  kvs : List (Key × V)
/-- an object that may change -/
inductive Cell where
  | lst (xs : List PyData)
  | rfs (xs : List Cv)
  | frz (d : PyData)
  | box (l : Nat) (n : Nat)
  | obj (cl : Nat) (fs : List Cv)
  | dk (es : List (Key × Cv))
  | lk (l : Lk) (es : List (Key × Cv))
  | exc (cn : Nat) (fs : List (Str × Cv))
  | tpl (xs : List Cv)
abbrev Cs := List Cell
abbrev Rv := List (Option Cv)
structure Kx where
  K : Fg
  cl : Nat → Addr
  w : World
  ga : Nat → Addr := fun _ => 0
/-- the names of fields -/
def anL : List String := ["many", "step", "grace", "is_last", "misses", "due", "many_paid", "missed", "over", "own_figures",
  "own_rule", "own_price", "own_begin", "own_day", "own_going", "own_paid", "own_back", "own_kept", "own_end",
  "own_prices", "own_till", "own_earned", "own_owes", "own_shut",
  "own_kind", "own_house", "own_word", "own_putby", "own_who", "own_seller", "own_rows", "own_turns",
  "own_houses", "own_wares", "own_waits", "own_people", "own_voids",
  "own_entries", "own_many", "own_past", "own_goings"]
def an (i : Nat) : Str := Str.ofString (anL.getD i "")
/-- the fields of the objects of each class, by the numbers of their names -/
def attrs : Nat → List Nat
  | 0 => [0, 1, 2, 3, 4, 5, 6, 7, 8]
  | 1 => [9]
  | 2 => [10, 11, 12, 13, 14, 15, 16, 17, 18]
  | 3 => [10, 19, 20, 21, 22, 23]
  | 4 => [24, 25, 26, 27, 28, 29, 30, 31]
  | 5 => [32, 33, 34, 35, 36]
  | 6 => [37, 38, 39, 40]
  | _ => []
def names (c : Nat) : List Str := (attrs c).map an
/-- the class is there, its objects have fields of their own -/
def Kx.has (k : Kx) (c : Nat) : Prop := Cls k.K (k.cl c) ∧ ∀ f ∈ names c, NoAttr k.K (k.cl c) f
/-- the middle of the box from which a law draws: 0 a number, 1 some, 2 a number that isn't great -/
def boxD : Nat → PyData → Prop
  | 0, d => ∃ i : Int, d = .int i
  | 1, d => ∃ ns : List Int, d = .list (ns.map PyData.int) ∧ 0 < ns.length ∧ ns.length ≤ 1000
  | _, d => ∃ i : Int, d = .int i ∧ -(2 ^ 40) < i ∧ i < 2 ^ 40

section
variable (K : Fg) (M : Ms) (H : Hp) (α : List Addr)
def Rc (v : V) : Cv → Prop
  | .d x => Da K M H v x
  | .v w => v = w
  | .c n => ∃ a, α[n]? = some a ∧ v = .ref a
inductive Rcs : List V → List Cv → Prop
  | nil : Rcs [] []
  | cons {v : V} {vs : List V} {s : Cv} {ss : List Cv} : Rc K M H α v s → Rcs vs ss → Rcs (v :: vs) (s :: ss)
/-- fields, keys: the names are the same, the values are held -/
inductive Rfs {κ : Type} : List (κ × V) → List (κ × Cv) → Prop
  | nil : Rfs [] []
  | cons {f : κ} {v : V} {vs : List (κ × V)} {s : Cv} {ss : List (κ × Cv)} : Rc K M H α v s → Rfs vs ss → Rfs ((f, v) :: vs) ((f, s) :: ss)
end
/-- a caught exception, at a: its class, its dict -/
def ExV (cls : Value) (d : Option Addr) (a : Addr) : HO := .ext fun h => ∃ (oe : Obj) (vs : Array Value), h.get? a = some oe ∧ Zc cls d oe ∧ oe.data = .fields vs
def CellAt (k : Kx) (M : Ms) (H : Hp) (α : List Addr) (a : Addr) : Cell → Prop
  | .lst ds => ∃ xs, H a = some (.lst xs) ∧ Das k.K M H xs ds
  | .rfs cs => ∃ xs, H a = some (.lst xs) ∧ Rcs k.K M H α xs cs
  | .frz d => a ∉ M.h ∧ (∃ o, H a = some o) ∧ Da k.K M H (.ref a) d
  | .box l n => ∃ (x y : Int) (v : V) (d : PyData), H a = some (.lst [.int x, v, .int y]) ∧ Da k.K M H v d ∧ boxD l d ∧ 0 ≤ x ∧ 0 ≤ y ∧ y ≤ n
  | .obj c fs => ∃ dx xs, H a = some (.ins (k.cl c) dx ((names c).zip xs)) ∧ Rcs k.K M H α xs fs ∧ fs.length ≤ (attrs c).length ∧ k.has c
  | .dk es => ∃ vs, H a = some (.dK vs) ∧ Rfs k.K M H α vs es ∧ vs.length ≤ 100000
  | .lk l es => H a = some (.frz l.od (.dK l.kvs)) ∧ Rfs k.K M H α l.kvs es ∧ l.kvs.length ≤ 100000
  | .tpl cs => ∃ xs, H a = some (.tup xs) ∧ Rcs k.K M H α xs cs
  | .exc c fs => ∃ d, H a = some (ExV (.ref (k.cl c)) d a) ∧ ((fs = [] ∧ d = none) ∨ ∃ dd vs, d = some dd ∧ hid M H dd = some (.xd vs) ∧ Rfs k.K M H α vs fs)
def Cell.isF : Cell → Bool
  | .frz _ => true
  | _ => false
def live : List Addr → Cs → List Addr
  | a :: α, c :: C => if c.isF then live α C else a :: live α C
  | _, _ => []
theorem live_sub : ∀ {α : List Addr} {C : Cs} {a : Addr}, a ∈ live α C → a ∈ α
  | a :: α, c :: C, b, h => by
    unfold live at h
    split at h
    · exact List.mem_cons_of_mem _ (live_sub h)
    · rcases List.mem_cons.mp h with e | e
      · rw [e]; exact List.mem_cons_self
      · exact List.mem_cons_of_mem _ (live_sub e)
  | [], _, _, h => by unfold live at h; exact nomatch h
  | _ :: _, [], _, h => by unfold live at h; exact nomatch h
theorem live_mem : ∀ {α : List Addr} {C : Cs} {a : Addr}, a ∈ live α C ↔ ∃ (i : Nat) (c : Cell), α[i]? = some a ∧ C[i]? = some c ∧ c.isF = false
  | a :: α, c :: C, b => by
    unfold live
    constructor
    · intro h
      split at h
      · obtain ⟨i, d, h1, h2, h3⟩ := live_mem.mp h
        exact ⟨i + 1, d, by simpa using h1, by simpa using h2, h3⟩
      · rename_i hc
        rcases List.mem_cons.mp h with e | e
        · exact ⟨0, c, by rw [e]; rfl, rfl, by simpa using hc⟩
        · obtain ⟨i, d, h1, h2, h3⟩ := live_mem.mp e
          exact ⟨i + 1, d, by simpa using h1, by simpa using h2, h3⟩
    · rintro ⟨i, d, h1, h2, h3⟩
      cases i with
      | zero =>
        simp at h1 h2
        subst h1; subst h2
        rw [if_neg (by rw [h3]; exact Bool.false_ne_true)]
        exact List.mem_cons_self
      | succ i =>
        have m : b ∈ live α C := live_mem.mpr ⟨i, d, by simpa using h1, by simpa using h2, h3⟩
        split
        · exact m
        · exact List.mem_cons_of_mem _ m
  | [], _, _ => by unfold live; constructor; exact fun h => (nomatch h); rintro ⟨i, d, h1, _⟩; simp at h1
  | _ :: _, [], _ => by unfold live; constructor; exact fun h => (nomatch h); rintro ⟨i, d, _, h1, _⟩; simp at h1
/-- what is hidden, what may be written -/
def ms (B : List Addr) (α : List Addr) (C : Cs) : Ms := ⟨live α C ++ B, live α C, fun _ h => List.mem_append_left _ h⟩
theorem ms_h {B α : List Addr} {C : Cs} {a : Addr} : a ∈ (ms B α C).h ↔ a ∈ live α C ∨ a ∈ B := List.mem_append

/-! ### from one point to another -/
structure Stp (M : Ms) (H : Hp) (M' : Ms) (H' : Hp) : Prop where
  md : Md M' H'
  go : Go M H H'
  nw : ∀ a, a ∈ M'.w → a ∈ M.w ∨ H a = none
theorem Stp.of {M : Ms} {H H' : Hp} (m : Md M H) (g : Go M H H') : Stp M H M H' := ⟨m.go g, g, fun _ h => .inl h⟩
theorem Stp.trans {M M1 M2 : Ms} {H H1 H2 : Hp} (a : Stp M H M1 H1) (b : Stp M1 H1 M2 H2) : Stp M H M2 H2 := by
  refine ⟨b.md, ⟨fun x o n h => ?_, fun x o h => by obtain ⟨o', h'⟩ := a.go.2 x o h; exact b.go.2 x o' h'⟩, fun x m => ?_⟩
  · refine b.go.1 x o (fun m => ?_) (a.go.1 x o n h)
    rcases a.nw x m with k | k
    · exact n k
    · rw [h] at k; cases k
  · rcases b.nw x m with k | k
    · exact a.nw x k
    · exact .inr (go_back a.go k)
structure To (B : List Addr) (α : List Addr) (C : Cs) (H : Hp) (α' : List Addr) (C' : Cs) (H' : Hp) : Prop where
  st : Stp (ms B α C) H (ms B α' C') H'
  ex : ∃ e, α' = α ++ e ∧ ∀ a ∈ e, H a = none
section
variable {k : Kx} {B α α' α'' : List Addr} {C C' C'' : Cs} {H H' H'' : Hp}
theorem To.trans (a : To B α C H α' C' H') (b : To B α' C' H' α'' C'' H'') : To B α C H α'' C'' H'' := ⟨a.st.trans b.st, by
  obtain ⟨e, rfl, n1⟩ := a.ex
  obtain ⟨f, rfl, n2⟩ := b.ex
  exact ⟨e ++ f, by rw [List.append_assoc], fun x m => by
    rcases List.mem_append.mp m with m | m
    · exact n1 x m
    · exact go_back a.st.go (n2 x m)⟩⟩
theorem To.hid (t : To B α C H α' C' H') : Ex (hid (ms B α C) H) (hid (ms B α' C') H') := fun a o h => by
  have h0 : H a = some o := hid_le _ _ a o h
  have na : a ∉ (ms B α C).h := fun m => by
    have e : DL.hid (ms B α C) H a = none := if_pos m
    rw [e] at h; cases h
  have h1 : H' a = some o := t.st.go.1 a o (fun m => na ((ms B α C).sub a m)) h0
  refine (if_neg ?_).trans h1
  intro m
  rcases ms_h.mp m with m | m
  · rcases t.st.nw a m with m | m
    · exact na ((ms B α C).sub a m)
    · rw [h0] at m; cases m
  · exact na (ms_h.mpr (.inr m))
theorem Rc.to {K : Fg} (t : To B α C H α' C' H') {v : V} {s : Cv} (h : Rc K (ms B α C) H α v s) : Rc K (ms B α' C') H' α' v s := by
  cases s with
  | d x => exact dp_ex t.hid x v h
  | v w => exact h
  | c n =>
    obtain ⟨e, rfl, _⟩ := t.ex
    obtain ⟨a, h1, h2⟩ := h
    exact ⟨a, by rw [List.getElem?_append_left (List.getElem?_eq_some_iff.mp h1).1]; exact h1, h2⟩
theorem Rcs.to {K : Fg} (t : To B α C H α' C' H') {v : List V} {s : List Cv} (h : Rcs K (ms B α C) H α v s) : Rcs K (ms B α' C') H' α' v s := by
  induction h with
  | nil => exact .nil
  | cons a _ ih => exact .cons (a.to t) ih
theorem Rfs.to {κ : Type} {K : Fg} (t : To B α C H α' C' H') {v : List (κ × V)} {s : List (κ × Cv)} (h : Rfs K (ms B α C) H α v s) : Rfs K (ms B α' C') H' α' v s := by
  induction h with
  | nil => exact .nil
  | cons a _ ih => exact .cons (a.to t) ih
theorem Rcs.len {K : Fg} {M : Ms} {v : List V} {s : List Cv} (h : Rcs K M H α v s) : v.length = s.length := by
  induction h with
  | nil => rfl
  | cons _ _ ih => rw [List.length_cons, List.length_cons, ih]
theorem Rcs.get {K : Fg} {M : Ms} {vs : List V} {ss : List Cv} (h : Rcs K M H α vs ss) : ∀ {i : Nat} {v s}, vs[i]? = some v → ss[i]? = some s → Rc K M H α v s := by
  induction h with
  | nil => intro i v s e; simp at e
  | cons a _ ih =>
    intro i v s e e'
    cases i with
    | zero => simp at e e'; subst e; subst e'; exact a
    | succ i => exact ih (by simpa using e) (by simpa using e')
/-- the cells are held -/
structure Rep (k : Kx) (B α : List Addr) (C : Cs) (H : Hp) : Prop where
  len : α.length = C.length
  nd : α.Nodup
  nb : ∀ a ∈ α, a ∉ B
  md : Md (ms B α C) H
  at_ : ∀ (i : Nat) a c, α[i]? = some a → C[i]? = some c → CellAt k (ms B α C) H α a c
theorem Rep.refl (r : Rep k B α C H) : To B α C H α C H := ⟨.of r.md (Go.refl _ _), [], by simp, by simp⟩
/-- the heap grew -/
theorem Rep.ex (r : Rep k B α C H) (x : Ex H H') : To B α C H α C H' := ⟨.of r.md x.go, [], by simp, by simp⟩
theorem CellAt.same {a : Addr} {c : Cell} (h : CellAt k (ms B α C) H α a c) (t : To B α C H α' C' H') (e : H' a = H a) (f : c.isF = true → a ∉ (ms B α' C').h) : CellAt k (ms B α' C') H' α' a c := by
  cases c with
  | lst ds =>
    obtain ⟨xs, h1, h2⟩ := h
    exact ⟨xs, by rw [e]; exact h1, dps_ex t.hid _ _ h2⟩
  | rfs cs =>
    obtain ⟨xs, h1, h2⟩ := h
    exact ⟨xs, by rw [e]; exact h1, h2.to t⟩
  | frz d => exact ⟨f rfl, by obtain ⟨o, ho⟩ := h.2.1; exact t.st.go.2 a o ho, dp_ex t.hid _ _ h.2.2⟩
  | box l n =>
    obtain ⟨x, y, v, d, h1, h2, h3⟩ := h
    exact ⟨x, y, v, d, by rw [e]; exact h1, dp_ex t.hid _ _ h2, h3⟩
  | obj c fs =>
    obtain ⟨dx, vs, h1, h2, h3⟩ := h
    exact ⟨dx, vs, by rw [e]; exact h1, h2.to t, h3⟩
  | dk es =>
    obtain ⟨vs, h1, h2, h3⟩ := h
    exact ⟨vs, by rw [e]; exact h1, h2.to t, h3⟩
  | lk l es => exact ⟨by rw [e]; exact h.1, h.2.1.to t, h.2.2⟩
  | tpl cs =>
    obtain ⟨xs, h1, h2⟩ := h
    exact ⟨xs, by rw [e]; exact h1, h2.to t⟩
  | exc c fs =>
    obtain ⟨d, h1, h2⟩ := h
    refine ⟨d, by rw [e]; exact h1, ?_⟩
    rcases h2 with h2 | ⟨dd, vs, g1, g2, g3⟩
    · exact .inl h2
    · exact .inr ⟨dd, vs, g1, t.hid _ _ g2, g3.to t⟩
theorem Rep.live_at (r : Rep k B α C H) {i : Nat} {a : Addr} {c : Cell} (h1 : α[i]? = some a) (h2 : C[i]? = some c) (h3 : c.isF = false) : a ∈ live α C := live_mem.mpr ⟨i, c, h1, h2, h3⟩
theorem nd_ix {α : List Addr} (nd : α.Nodup) {i j : Nat} {a : Addr} (h1 : α[i]? = some a) (h2 : α[j]? = some a) : i = j := by
  have e1 := List.getElem?_eq_some_iff.mp h1
  have e2 := List.getElem?_eq_some_iff.mp h2
  obtain ⟨l1, e1⟩ := e1
  obtain ⟨l2, e2⟩ := e2
  exact List.getElem_inj (h₀ := l1) (h₁ := l2) nd |>.mp (e1.trans e2.symm)
theorem Rep.frz_not (r : Rep k B α C H) {i : Nat} {a : Addr} {c : Cell} (h1 : α[i]? = some a) (h2 : C[i]? = some c) (h3 : c.isF = true) : a ∉ (ms B α C).h := by
  intro m
  rcases ms_h.mp m with m | m
  · obtain ⟨j, d, q1, q2, q3⟩ := live_mem.mp m
    have e := nd_ix r.nd h1 q1
    subst e
    rw [h2] at q2
    cases q2
    rw [h3] at q3; cases q3
  · exact r.nb a (List.mem_of_getElem? h1) m
theorem Rep.there (r : Rep k B α C H) : ∀ a ∈ α, ∃ o, H a = some o := fun a m => by
  obtain ⟨i, hi⟩ := List.getElem?_of_mem m
  have hl : i < C.length := by rw [← r.len]; exact (List.getElem?_eq_some_iff.mp hi).1
  have hc := List.getElem?_eq_getElem hl
  have h := r.at_ i a _ hi hc
  cases hf : (C[i]).isF with
  | false => exact r.md a (ms_h.mpr (.inl (r.live_at hi hc hf)))
  | true =>
    generalize C[i] = c at *
    cases c with
    | frz d => exact h.2.1
    | lst _ => cases hf
    | rfs _ => cases hf
    | box _ _ => cases hf
    | obj _ _ => cases hf
    | dk _ => cases hf
    | lk _ _ => cases hf
    | exc _ _ => cases hf
    | tpl _ => cases hf
/-- the heap changes at no cell -/
theorem Rep.keep (r : Rep k B α C H) (x : Ex H H') : Rep k B α C H' := ⟨r.len, r.nd, r.nb, r.md.ex x, fun i a c h1 h2 => by
  have h := r.at_ i a c h1 h2
  have t := r.ex x
  cases hf : c.isF with
  | true =>
    cases c with
    | frz d => exact ⟨r.frz_not h1 h2 hf, by obtain ⟨o, ho⟩ := h.2.1; exact ⟨o, x a o ho⟩, dp_ex t.hid _ _ h.2.2⟩
    | lst _ => cases hf
    | rfs _ => cases hf
    | box _ _ => cases hf
    | obj _ _ => cases hf
    | dk _ => cases hf
    | lk _ _ => cases hf
    | exc _ _ => cases hf
    | tpl _ => cases hf
  | false =>
    obtain ⟨o, ho⟩ := r.md a (ms_h.mpr (.inl (r.live_at h1 h2 hf)))
    exact h.same t (by rw [x a o ho, ho]) (fun q => by rw [hf] at q; cases q)⟩
/-- one cell is written -/
theorem Rep.put (r : Rep k B α C H) {i : Nat} {a : Addr} {c c' : Cell} (h1 : α[i]? = some a) (h2 : C[i]? = some c) (hf : c.isF = false) (hf' : c'.isF = false) (x : ∀ b, b ≠ a → H' b = H b) (e : ∃ o, H' a = some o)
    (hc : ∀ t : To B α C H α (C.set i c') H', CellAt k (ms B α (C.set i c')) H' α a c') : Rep k B α (C.set i c') H' ∧ To B α C H α (C.set i c') H' := by
  have hi : i < C.length := (List.getElem?_eq_some_iff.mp h2).1
  have lv : ∀ b, b ∈ live α (C.set i c') ↔ b ∈ live α C := fun b => by
    rw [live_mem, live_mem]
    constructor
    · rintro ⟨j, d, q1, q2, q3⟩
      by_cases hj : i = j
      · subst hj
        exact ⟨i, c, q1, h2, hf⟩
      · rw [List.getElem?_set_ne hj] at q2
        exact ⟨j, d, q1, q2, q3⟩
    · rintro ⟨j, d, q1, q2, q3⟩
      by_cases hj : i = j
      · subst hj
        exact ⟨i, c', q1, by rw [List.getElem?_set_self hi], hf'⟩
      · exact ⟨j, d, q1, by rw [List.getElem?_set_ne hj]; exact q2, q3⟩
  have am : a ∈ live α C := r.live_at h1 h2 hf
  have go : Go (ms B α C) H H' := ⟨fun b o n h => by
    have q : b ≠ a := fun z => n (z ▸ am)
    rw [x b q]; exact h, fun b o h => by
    by_cases q : b = a
    · subst q; exact e
    · exact ⟨o, by rw [x b q]; exact h⟩⟩
  have md : Md (ms B α (C.set i c')) H' := fun b m => by
    have m' : b ∈ (ms B α C).h := ms_h.mpr ((ms_h.mp m).imp (fun q => (lv b).mp q) id)
    obtain ⟨o, h⟩ := r.md b m'
    exact go.2 b o h
  have t : To B α C H α (C.set i c') H' := ⟨⟨md, go, fun b m => .inl ((lv b).mp m)⟩, [], by simp, by simp⟩
  refine ⟨⟨by rw [List.length_set]; exact r.len, r.nd, r.nb, md, fun j b d q1 q2 => ?_⟩, t⟩
  by_cases hj : i = j
  · subst hj
    rw [List.getElem?_set_self hi] at q2
    cases q2
    rw [h1] at q1
    cases q1
    exact hc t
  · rw [List.getElem?_set_ne hj] at q2
    have nb : b ≠ a := fun z => hj (nd_ix r.nd h1 (z ▸ q1))
    refine (r.at_ j b d q1 q2).same t (x b nb) fun q m => r.frz_not q1 q2 q (ms_h.mpr ((ms_h.mp m).imp (fun z => (lv b).mp z) id))
/-- one cell more -/
theorem live_cons {a : Addr} {α : List Addr} {c : Cell} {C : Cs} : live (a :: α) (c :: C) = if c.isF then live α C else a :: live α C := rfl
theorem live_app {β : List Addr} {D : Cs} {α : List Addr} : ∀ {C : Cs}, α.length = C.length → live (α ++ β) (C ++ D) = live α C ++ live β D := by
  induction α with
  | nil =>
    intro C h
    cases C with
    | nil => show live β D = live [] [] ++ live β D; rw [show live ([] : List Addr) ([] : Cs) = [] from rfl]; rfl
    | cons c C => simp at h
  | cons a α ih =>
    intro C h
    cases C with
    | nil => simp at h
    | cons c C =>
      have ih := ih (C := C) (by simpa using h)
      rw [List.cons_append, List.cons_append, live_cons, live_cons, ih]
      cases c.isF with
      | true => rfl
      | false => rfl
theorem Rep.more (r : Rep k B α C H) {p : Addr} {c : Cell} (hf : c.isF = false) (hn : H p = none) (x : ∀ b, b ≠ p → H' b = H b) (e : ∃ o, H' p = some o)
    (hc : ∀ t : To B α C H (α ++ [p]) (C ++ [c]) H', CellAt k (ms B (α ++ [p]) (C ++ [c])) H' (α ++ [p]) p c) : Rep k B (α ++ [p]) (C ++ [c]) H' ∧ To B α C H (α ++ [p]) (C ++ [c]) H' := by
  have hp : p ∉ α := fun m => by obtain ⟨o, h⟩ := r.there p m; rw [hn] at h; cases h
  have hb : p ∉ B := fun m => by obtain ⟨o, h⟩ := r.md p (ms_h.mpr (.inr m)); rw [hn] at h; cases h
  have lv : live (α ++ [p]) (C ++ [c]) = live α C ++ [p] := by
    rw [live_app r.len]
    have e : live [p] [c] = if c.isF then live [] [] else p :: live [] [] := by rw [live]
    rw [e, if_neg (by rw [hf]; exact Bool.false_ne_true)]
    rfl
  have go : Go (ms B α C) H H' := ⟨fun b o n h => by
    have q : b ≠ p := fun z => by rw [z, hn] at h; cases h
    rw [x b q]; exact h, fun b o h => by
    have q : b ≠ p := fun z => by rw [z, hn] at h; cases h
    exact ⟨o, by rw [x b q]; exact h⟩⟩
  have md : Md (ms B (α ++ [p]) (C ++ [c])) H' := fun b m => by
    rcases ms_h.mp m with m | m
    · rw [lv] at m
      rcases List.mem_append.mp m with m | m
      · obtain ⟨o, h⟩ := r.md b (ms_h.mpr (.inl m))
        exact go.2 b o h
      · rw [List.mem_singleton.mp m]; exact e
    · obtain ⟨o, h⟩ := r.md b (ms_h.mpr (.inr m))
      exact go.2 b o h
  have t : To B α C H (α ++ [p]) (C ++ [c]) H' := ⟨⟨md, go, fun b m => by
    have m : b ∈ live (α ++ [p]) (C ++ [c]) := m
    rw [lv] at m
    rcases List.mem_append.mp m with m | m
    · exact .inl m
    · exact .inr (by rw [List.mem_singleton.mp m]; exact hn)⟩, [p], rfl, fun a m => by rw [List.mem_singleton.mp m]; exact hn⟩
  refine ⟨⟨by simp [r.len], List.nodup_append.mpr ⟨r.nd, by simp, fun a m b m' => by rw [List.mem_singleton.mp m']; exact fun z => hp (z ▸ m)⟩, fun a m => ?_, md, fun j b d q1 q2 => ?_⟩, t⟩
  · rcases List.mem_append.mp m with m | m
    · exact r.nb a m
    · rw [List.mem_singleton.mp m]; exact hb
  · by_cases hj : j < α.length
    · rw [List.getElem?_append_left hj] at q1
      rw [List.getElem?_append_left (by rw [← r.len]; exact hj)] at q2
      have nb : b ≠ p := fun z => hp (z ▸ List.mem_of_getElem? q1)
      refine (r.at_ j b d q1 q2).same t (x b nb) fun q m => ?_
      have f := r.frz_not q1 q2 q
      rcases ms_h.mp m with m | m
      · rw [lv] at m
        rcases List.mem_append.mp m with m | m
        · exact f (ms_h.mpr (.inl m))
        · exact nb (List.mem_singleton.mp m)
      · exact f (ms_h.mpr (.inr m))
    · have hj2 : j = α.length := by
        have := (List.getElem?_eq_some_iff.mp q1).1
        simp at this; omega
      subst hj2
      rw [List.getElem?_append_right (Nat.le_refl _), Nat.sub_self] at q1
      rw [r.len, List.getElem?_append_right (Nat.le_refl _), Nat.sub_self] at q2
      cases q1
      cases q2
      exact hc t
end
end DL
set_option maxRecDepth 100000
namespace DL
open PySem L2

/-! ### worlds -/
/-- an exception: its class by number, its own fields -/
structure Xc where
  cn : Nat
  fs : List (Str × Cv)
abbrev Xp := Xc → Rv → Cs → Prop
def XAt (k : Kx) (M : Ms) (H : Hp) (α : List Addr) (cls : Value) (d : Option Addr) (x : Xc) : Prop :=
  cls = .ref (k.cl x.cn) ∧ ((x.fs = [] ∧ d = none) ∨ ∃ dd vs, d = some dd ∧ hid M H dd = some (.xd vs) ∧ Rfs k.K M H α vs x.fs)
def En (k : Kx) (B α : List Addr) (C : Cs) (H : Hp) (σ : L2.St) (ρ : Rv) : Prop := σ.length = ρ.length ∧ ∀ (i : Nat) (s : Cv), ρ[i]? = some (some s) → ∃ v, σ[i]? = some (some v) ∧ Rc k.K (ms B α C) H α v s
structure Wd (k : Kx) (B α : List Addr) (C : Cs) (H : Hp) (σ : L2.St) (ρ : Rv) (W : WX) (X : Xp) : Prop where
  rep : Rep k B α C H
  en : En k B α C H σ ρ
  ca : ∀ cls d H' x α' C' σ' ρ', To B α C H α' C' H' → Rep k B α' C' H' → XAt k (ms B α' C') H' α' cls d x → En k B α' C' H' σ' ρ' → X x ρ' C' → W cls d σ' H'
section
variable {k : Kx} {B α α' : List Addr} {C C' : Cs} {H H' : Hp} {σ : L2.St} {ρ : Rv} {W : WX} {X : Xp}
theorem En.to (e : En k B α C H σ ρ) (t : To B α C H α' C' H') : En k B α' C' H' σ ρ := ⟨e.1, fun i s h => by obtain ⟨v, h1, h2⟩ := e.2 i s h; exact ⟨v, h1, h2.to t⟩⟩
theorem Wd.to (w : Wd k B α C H σ ρ W X) (t : To B α C H α' C' H') (r : Rep k B α' C' H') : Wd k B α' C' H' σ ρ W X := ⟨r, w.en.to t, fun cls d H' x α2 C2 σ2 ρ2 t2 => w.ca cls d H' x α2 C2 σ2 ρ2 (t.trans t2)⟩
theorem En.set (e : En k B α C H σ ρ) {i : Nat} {v : V} {s : Cv} (h : Rc k.K (ms B α C) H α v s) : En k B α C H (σ.set i (some v)) (ρ.set i (some s)) := by
  refine ⟨by rw [List.length_set, List.length_set]; exact e.1, fun j t q => ?_⟩
  by_cases hj : i = j
  · subst hj
    by_cases hl : i < ρ.length
    · rw [List.getElem?_set_self hl] at q
      injection q with q; injection q with q; subst q
      exact ⟨v, List.getElem?_set_self (by rw [e.1]; exact hl), h⟩
    · rw [List.getElem?_eq_none (by rw [List.length_set]; omega)] at q; cases q
  · rw [List.getElem?_set_ne hj] at q ⊢
    exact e.2 j t q
theorem En.set0 (e : En k B α C H σ ρ) {i : Nat} {v : Option V} : En k B α C H (σ.set i v) (ρ.set i none) := by
  refine ⟨by rw [List.length_set, List.length_set]; exact e.1, fun j t q => ?_⟩
  by_cases hj : i = j
  · subst hj
    by_cases hl : i < ρ.length
    · rw [List.getElem?_set_self hl] at q; cases q
    · rw [List.getElem?_eq_none (by rw [List.length_set]; omega)] at q; cases q
  · rw [List.getElem?_set_ne hj] at q ⊢
    exact e.2 j t q
def wipeV (ρ : Rv) : List Nat → Rv
  | [] => ρ
  | v :: vs => (wipeV ρ vs).set v none
theorem En.wipe (e : En k B α C H σ ρ) : ∀ vs : List Nat, En k B α C H (L2.wipe σ vs) (wipeV ρ vs)
  | [] => e
  | v :: vs => by unfold L2.wipe wipeV; exact (En.wipe e vs).set0
theorem Wd.slots (w : Wd k B α C H σ ρ W X) {σ' : L2.St} {ρ' : Rv} (e : En k B α C H σ' ρ') : Wd k B α C H σ' ρ' W X := ⟨w.rep, e, w.ca⟩
end
/-! ### what is wanted of a value -/
def Kv (k : Kx) (B α : List Addr) (C : Cs) (H : Hp) (P : Cv → Cs → Prop) (Q : VK) : Prop :=
  ∀ v H' s α' C', To B α C H α' C' H' → Rep k B α' C' H' → Rc k.K (ms B α' C') H' α' v s → P s C' → Q v H'
def Kb (k : Kx) (B α : List Addr) (C : Cs) (H : Hp) (P : Bool → Cs → Prop) (Q : Bool → Hp → Prop) : Prop :=
  ∀ b H' α' C', To B α C H α' C' H' → Rep k B α' C' H' → P b C' → Q b H'
def Kl (k : Kx) (B α : List Addr) (C : Cs) (H : Hp) (P : List Cv → Cs → Prop) (Q : List V → Hp → Prop) : Prop :=
  ∀ v H' s α' C', To B α C H α' C' H' → Rep k B α' C' H' → Rcs k.K (ms B α' C') H' α' v s → P s C' → Q v H'
def Ko (k : Kx) (B α : List Addr) (C : Cs) (H : Hp) (P : Option Int → Cs → Prop) (Q : Option Int → Hp → Prop) : Prop :=
  ∀ b H' α' C', To B α C H α' C' H' → Rep k B α' C' H' → P b C' → Q b H'
abbrev Wpe := Xp → Rv → Cs → (Cv → Cs → Prop) → Prop
structure XE where
  te : Kx → WX → TE
  wp : Wpe
  ok : ∀ {k B α C H σ ρ W X P Q}, Wd k B α C H σ ρ W X → wp X ρ C P → Kv k B α C H P Q → te k W σ H Q
structure XT where
  tt : Kx → WX → TT
  wp : Xp → Rv → Cs → (Bool → Cs → Prop) → Prop
  ok : ∀ {k B α C H σ ρ W X P Q}, Wd k B α C H σ ρ W X → wp X ρ C P → Kb k B α C H P Q → tt k W σ H Q
structure XA where
  ta : Kx → WX → TA
  wp : Xp → Rv → Cs → (List Cv → Cs → Prop) → Prop
  ok : ∀ {k B α C H σ ρ W X P Q}, Wd k B α C H σ ρ W X → wp X ρ C P → Kl k B α C H P Q → ta k W σ H Q
structure XO where
  to : Kx → WX → TO
  wp : Xp → Rv → Cs → (Option Int → Cs → Prop) → Prop
  ok : ∀ {k B α C H σ ρ W X P Q}, Wd k B α C H σ ρ W X → wp X ρ C P → Ko k B α C H P Q → to k W σ H Q

/-! ### reading values as data -/
def rd (C : Cs) (s : Cv) (K : PyData → Prop) : Prop := match s with
  | .d x => K x
  | .c n => (match C[n]? with
    | some (.lst ds) => K (.list ds)
    | some (.frz d) => K d
    | _ => False)
  | .v _ => False
def rds (C : Cs) : List Cv → (List PyData → Prop) → Prop
  | [], K => K []
  | s :: ss, K => rd C s fun d => rds C ss fun ds => K (d :: ds)
/-- from now on it is data -/
def fz (C : Cs) (s : Cv) (K : PyData → Cs → Prop) : Prop := match s with
  | .d x => K x C
  | .c n => (match C[n]? with
    | some (.lst ds) => K (.list ds) (C.set n (.frz (.list ds)))
    | some (.frz d) => K d C
    | _ => False)
  | .v _ => False
def fzs (C : Cs) : List Cv → (List PyData → Cs → Prop) → Prop
  | [], K => K [] C
  | s :: ss, K => fz C s fun d C1 => fzs C1 ss fun ds C2 => K (d :: ds) C2
section
variable {k : Kx} {B α α' : List Addr} {C C' : Cs} {H H' : Hp} {σ : L2.St} {ρ : Rv} {W : WX} {X : Xp}
theorem rd_dt (r : Rep k B α C H) {v : V} {s : Cv} (h : Rc k.K (ms B α C) H α v s) {K : PyData → Prop} (q : rd C s K) : ∃ d, Dt k.K (ms B α C) H v d ∧ K d := by
  cases s with
  | d x => exact ⟨x, .da h, q⟩
  | v x => exact q.elim
  | c n =>
    obtain ⟨a, ha, rfl⟩ := h
    unfold rd at q
    dsimp only at q
    cases e : C[n]? with
    | none => rw [e] at q; exact q.elim
    | some c =>
      rw [e] at q
      have h := r.at_ n a c ha e
      cases c with
      | lst ds =>
        obtain ⟨xs, h1, h2⟩ := h
        exact ⟨.list ds, .op (.inl (.inl h1)) h2, q⟩
      | frz d => exact ⟨d, .da h.2.2, q⟩
      | rfs _ => exact q.elim
      | box _ _ => exact q.elim
      | obj _ _ => exact q.elim
      | dk _ => exact q.elim
      | lk _ _ => exact q.elim
      | exc _ _ => exact q.elim
      | tpl _ => exact q.elim
theorem rds_dt (r : Rep k B α C H) : ∀ {vs : List V} {ss : List Cv}, Rcs k.K (ms B α C) H α vs ss → ∀ {K : List PyData → Prop}, rds C ss K → ∃ ds, Dts k.K (ms B α C) H vs ds ∧ K ds
  | _, _, .nil, K, q => ⟨[], .nil, q⟩
  | _, _, .cons h t, K, q => by
    obtain ⟨d, h1, q⟩ := rd_dt r h q
    obtain ⟨ds, h2, q⟩ := rds_dt r t q
    exact ⟨d :: ds, .cons h1 h2, q⟩
theorem live_frz (nd : α.Nodup) {n : Nat} {a : Addr} {d : PyData} (ha : α[n]? = some a) {b : Addr} (h : b ∈ live α (C.set n (.frz d))) : b ∈ live α C ∧ b ≠ a := by
  obtain ⟨i, c, h1, h2, h3⟩ := live_mem.mp h
  by_cases hi : n = i
  · subst hi
    by_cases hl : n < C.length
    · rw [List.getElem?_set_self hl] at h2; cases h2; cases h3
    · rw [List.getElem?_eq_none (by rw [List.length_set]; omega)] at h2; cases h2
  · rw [List.getElem?_set_ne hi] at h2
    exact ⟨live_mem.mpr ⟨i, c, h1, h2, h3⟩, fun e => hi (nd_ix nd ha (e ▸ h1))⟩
/-- a list is frozen -/
theorem Rep.freeze (r : Rep k B α C H) {n : Nat} {ds : List PyData} (e : C[n]? = some (.lst ds)) : Rep k B α (C.set n (.frz (.list ds))) H ∧ To B α C H α (C.set n (.frz (.list ds))) H := by
  have hl : n < C.length := (List.getElem?_eq_some_iff.mp e).1
  have ha : ∃ a, α[n]? = some a := ⟨α[n]'(by rw [r.len]; exact hl), List.getElem?_eq_getElem _⟩
  obtain ⟨a, ha⟩ := ha
  have lv : ∀ b, b ∈ live α (C.set n (.frz (.list ds))) → b ∈ live α C := fun b m => (live_frz r.nd ha m).1
  have hs : ∀ b, b ∈ (ms B α (C.set n (.frz (.list ds)))).h → b ∈ (ms B α C).h := fun b m => ms_h.mpr ((ms_h.mp m).imp (lv b) id)
  have md : Md (ms B α (C.set n (.frz (.list ds)))) H := fun b m => r.md b (hs b m)
  have t : To B α C H α (C.set n (.frz (.list ds))) H := ⟨⟨md, Go.refl _ _, fun b m => .inl (lv b m)⟩, [], by simp, by simp⟩
  refine ⟨⟨by rw [List.length_set]; exact r.len, r.nd, r.nb, md, fun j b c q1 q2 => ?_⟩, t⟩
  by_cases hj : n = j
  · subst hj
    rw [List.getElem?_set_self hl] at q2
    cases q2
    rw [ha] at q1
    cases q1
    obtain ⟨xs, h1, h2⟩ := r.at_ n a _ ha e
    have na : a ∉ (ms B α (C.set n (.frz (.list ds)))).h := fun m => by
      rcases ms_h.mp m with m | m
      · exact (live_frz r.nd ha m).2 rfl
      · exact r.nb a (List.mem_of_getElem? ha) m
    exact ⟨na, ⟨_, h1⟩, Da.lst na h1 (dps_ex t.hid _ _ h2)⟩
  · rw [List.getElem?_set_ne hj] at q2
    refine (r.at_ j b c q1 q2).same t rfl fun q m => r.frz_not q1 q2 q (hs b m)
theorem fz_da (r : Rep k B α C H) {v : V} {s : Cv} (h : Rc k.K (ms B α C) H α v s) {K : PyData → Cs → Prop} (q : fz C s K) : ∃ d C', Rep k B α C' H ∧ To B α C H α C' H ∧ Da k.K (ms B α C') H v d ∧ K d C' := by
  cases s with
  | d x => exact ⟨x, C, r, r.refl, h, q⟩
  | v x => exact q.elim
  | c n =>
    have h0 := h
    obtain ⟨a, ha, rfl⟩ := h
    unfold fz at q
    dsimp only at q
    cases e : C[n]? with
    | none => rw [e] at q; exact q.elim
    | some c =>
      rw [e] at q
      cases c with
      | lst ds =>
        obtain ⟨r', t⟩ := r.freeze e
        have hl : n < C.length := (List.getElem?_eq_some_iff.mp e).1
        exact ⟨.list ds, _, r', t, (r'.at_ n a _ ha (List.getElem?_set_self hl)).2.2, q⟩
      | frz d => exact ⟨d, C, r, r.refl, (r.at_ n a _ ha e).2.2, q⟩
      | rfs _ => exact q.elim
      | box _ _ => exact q.elim
      | obj _ _ => exact q.elim
      | dk _ => exact q.elim
      | lk _ _ => exact q.elim
      | exc _ _ => exact q.elim
      | tpl _ => exact q.elim
theorem fzs_da : ∀ {vs : List V} {ss : List Cv} {C : Cs}, Rep k B α C H → Rcs k.K (ms B α C) H α vs ss → ∀ {K : List PyData → Cs → Prop}, fzs C ss K → ∃ ds C', Rep k B α C' H ∧ To B α C H α C' H ∧ Das k.K (ms B α C') H vs ds ∧ K ds C'
  | _, _, C, r, .nil, K, q => ⟨[], C, r, r.refl, .nil, q⟩
  | _, _, C, r, .cons h t, K, q => by
    obtain ⟨d, C1, r1, t1, h1, q⟩ := fz_da r h q
    obtain ⟨ds, C2, r2, t2, h2, q⟩ := fzs_da r1 (t.to t1) q
    exact ⟨d :: ds, C2, r2, t1.trans t2, .cons (dp_ex t2.hid _ _ h1) h2, q⟩
end

/-! ### names, constants -/
def look : Rv → Nat → (Cv → Prop) → Prop
  | some s :: _, 0, K => K s
  | _ :: r, n + 1, K => look r n K
  | _, _, _ => False
theorem look_get : ∀ {ρ : Rv} {i : Nat} {K : Cv → Prop}, look ρ i K → ∃ s, ρ[i]? = some (some s) ∧ K s
  | some s :: _, 0, K, h => ⟨s, rfl, h⟩
  | none :: _, 0, K, h => h.elim
  | o :: r, n + 1, K, h => by
    have h : look r n K := by cases o <;> exact h
    obtain ⟨s, h1, h2⟩ := look_get h
    exact ⟨s, by simpa using h1, h2⟩
  | [], 0, _, h => h.elim
  | [], _ + 1, _, h => h.elim
def xVar (i : Nat) : XE where
  te _ _ := tVar i
  wp X ρ C P := look ρ i fun s => P s C
  ok w h q := by
    obtain ⟨s, h1, h2⟩ := look_get h
    obtain ⟨v, e1, r⟩ := w.en.2 i s h1
    exact ⟨v, e1, q v _ s _ _ w.rep.refl w.rep r h2⟩
def xKon (v : V) (d : PyData) (h : ∀ K H, Dq K H v d) : XE where
  te _ _ := tC v
  wp X ρ C P := P (.d d) C
  ok w q c := c _ _ (.d d) _ _ w.rep.refl w.rep (h _ _) q
def xInt (i : Int) : XE := xKon (.int i) (.int i) fun _ _ => .int i
def xStr (i : Str) : XE := xKon (.str i) (.str i) fun _ _ => .str i
def xBl (i : Bool) : XE := xKon (.bl i) (.bool i) fun _ _ => .bl i
def xNon : XE := xKon .non .none fun _ _ => .non
def xRaw (v : V) : XE where
  te _ _ := tC v
  wp X ρ C P := P (.v v) C
  ok w q c := c _ _ (.v v) _ _ w.rep.refl w.rep rfl q
/-! ### lists item by item -/
def setK {α : Type} : List α → Nat → α → (List α → Prop) → Prop
  | [], _, _, K => K []
  | _ :: r, 0, v, K => K (v :: r)
  | a :: r, n + 1, v, K => setK r n v fun r' => K (a :: r')
theorem setK_of {α : Type} : ∀ {l : List α} {n : Nat} {v : α} {K : List α → Prop}, setK l n v K → K (l.set n v)
  | [], _, _, _, h => h
  | _ :: _, 0, _, _, h => h
  | _ :: r, n + 1, v, _, h => setK_of (l := r) (n := n) (v := v) h
theorem setK_to {α : Type} : ∀ {l : List α} {n : Nat} {v : α} {K : List α → Prop}, K (l.set n v) → setK l n v K
  | [], _, _, _, h => h
  | _ :: _, 0, _, _, h => h
  | _ :: r, n + 1, v, _, h => setK_to (l := r) (n := n) (v := v) h
def appK {α : Type} (c : α) : List α → Nat → (Nat → List α → Prop) → Prop
  | [], n, K => K n [c]
  | a :: r, n, K => appK c r (n + 1) fun m r' => K m (a :: r')
theorem appK_of' {α : Type} {c : α} : ∀ {l : List α} {n : Nat} {K : Nat → List α → Prop}, appK c l n K → K (l.length + n) (l ++ [c])
  | [], n, K, h => by rw [List.length_nil, Nat.zero_add]; exact h
  | a :: r, n, K, h => by
    have h := appK_of' (l := r) (n := n + 1) h
    rw [List.length_cons, Nat.add_right_comm]; exact h
theorem appK_of {α : Type} {c : α} {l : List α} {K : Nat → List α → Prop} (h : appK c l 0 K) : K l.length (l ++ [c]) := appK_of' h
theorem appK_to' {α : Type} {c : α} : ∀ {l : List α} {n : Nat} {K : Nat → List α → Prop}, K (l.length + n) (l ++ [c]) → appK c l n K
  | [], n, K, h => by rw [List.length_nil, Nat.zero_add] at h; exact h
  | a :: r, n, K, h => by
    refine appK_to' (l := r) (n := n + 1) ?_
    rw [List.length_cons, Nat.add_right_comm] at h; exact h
theorem appK_to {α : Type} {c : α} {l : List α} {K : Nat → List α → Prop} (h : K l.length (l ++ [c])) : appK c l 0 K := appK_to' h
/-- every place is looked at -/
def nrmK {α : Type} : List α → (List α → Prop) → Prop
  | [], K => K []
  | a :: r, K => nrmK r fun r' => K (a :: r')
theorem nrmK_of {α : Type} : ∀ {l : List α} {K : List α → Prop}, nrmK l K → K l
  | [], _, h => h
  | _ :: r, _, h => nrmK_of (l := r) h
/-! ### what goes on -/
/-- a truth decides -/
def cnd (b : Bool) (A B : Prop) : Prop := match b with
  | true => A
  | false => B
/-- an operation and how it goes on -/
class Op2 (g : PyData → PyData → PyData → Prop) where
  G : PyData → PyData → (PyData → Prop) → Prop
  ok : ∀ d e K, G d e K → ∃ z, g d e z ∧ K z
class Op1 (g : PyData → PyData → Prop) where
  G : PyData → (PyData → Prop) → Prop
  ok : ∀ d K, G d K → ∃ z, g d z ∧ K z
class OpB (g : List PyData → PyData → Prop) where
  G : List PyData → (PyData → Prop) → Prop
  ok : ∀ d K, G d K → ∃ z, g d z ∧ K z
class OpM (g : PyData → List PyData → PyData → Prop) where
  G : Str → List PyData → (PyData → Prop) → Prop
  ok : ∀ y d K, G y d K → ∃ z, g (.str y) d z ∧ K z
def isI (s : Cv) (K : Int → Prop) : Prop := match s with
  | .d (.int i) => K i
  | _ => False
theorem isI_of {s : Cv} {K : Int → Prop} (h : isI s K) : ∃ i, s = .d (.int i) ∧ K i := by
  cases s with
  | d x => cases x <;> first | exact h.elim | exact ⟨_, rfl, h⟩
  | v x => exact h.elim
  | c n => exact h.elim
def isS (s : Cv) (K : Str → Prop) : Prop := match s with
  | .d (.str i) => K i
  | _ => False
theorem isS_of {s : Cv} {K : Str → Prop} (h : isS s K) : ∃ i, s = .d (.str i) ∧ K i := by
  cases s with
  | d x => cases x <;> first | exact h.elim | exact ⟨_, rfl, h⟩
  | v x => exact h.elim
  | c n => exact h.elim
def isL (d : PyData) (K : List PyData → Prop) : Prop := match d with
  | .list ds => K ds
  | _ => False
theorem isL_of {d : PyData} {K : List PyData → Prop} (h : isL d K) : ∃ ds, d = .list ds ∧ K ds := by cases d <;> first | exact h.elim | exact ⟨_, rfl, h⟩
/-- not too many -/
def shortW {α : Type} (ds : List α) (A : Prop) : Prop := cnd (Nat.ble ds.length 100000) A False
theorem shortW_of {α : Type} {ds : List α} {A : Prop} (h : shortW ds A) : Nat.ble ds.length 100000 = true ∧ A := by
  unfold shortW at h
  cases e : Nat.ble ds.length 100000 with
  | true => rw [e] at h; exact ⟨rfl, h⟩
  | false => rw [e] at h; exact h.elim
/-! ### operators -/
def xOp (g : PyData → PyData → PyData → Prop) [c : Op2 g] (a b : XE) : XE where
  te k W := tOp (rB k.K g) (a.te k W) (b.te k W)
  wp X ρ C P := a.wp X ρ C fun s C1 => b.wp X ρ C1 fun t C2 => rd C2 s fun d => rd C2 t fun e => c.G d e fun z => P (.d z) C2
  ok w h q := a.ok w h fun v H1 s α1 C1 t1 r1 c1 p1 => b.ok (w.to t1 r1) p1 fun u H2 s2 α2 C2 t2 r2 c2 p2 => by
    obtain ⟨d, h1, p2⟩ := rd_dt r2 (c1.to t2) p2
    obtain ⟨e, h2, p2⟩ := rd_dt r2 c2 p2
    obtain ⟨z, hg, p3⟩ := c.ok _ _ _ p2
    refine ⟨ms _ α2 C2, d, e, z, r2.md, h1, h2, hg, fun v' H' x dz => q v' H' (.d z) α2 C2 ((t1.trans t2).trans (r2.ex x)) (r2.keep x) dz p3⟩
def xUn (g : PyData → PyData → Prop) [c : Op1 g] (a : XE) : XE where
  te k W := tUn (rU1 k.K g) (a.te k W)
  wp X ρ C P := a.wp X ρ C fun s C1 => rd C1 s fun d => c.G d fun z => P (.d z) C1
  ok w h q := a.ok w h fun v H1 s α1 C1 t1 r1 c1 p1 => by
    obtain ⟨d, h1, p2⟩ := rd_dt r1 c1 p1
    obtain ⟨z, hg, p3⟩ := c.ok _ _ p2
    exact ⟨ms _ α1 C1, d, z, r1.md, h1, hg, fun v' H' x dz => q v' H' (.d z) α1 C1 (t1.trans (r1.ex x)) (r1.keep x) dz p3⟩
/-- x is None -/
def isNonC : Cv → Bool
  | .d .none => true
  | .v .non => true
  | _ => false
theorem isNon_of {K : Fg} {M : Ms} {H : Hp} {α : List Addr} {v : V} {s : Cv} (h : Rc K M H α v s) : decide (v = .non) = isNonC s := by
  cases s with
  | d x =>
    have h : Da K M H v x := h
    cases h <;> rfl
  | v x =>
    have h : v = x := h
    subst h
    cases v <;> rfl
  | c n => obtain ⟨a, _, rfl⟩ := h; rfl
def xIsN (a : XE) : XE where
  te k W := tOp rIsNone (a.te k W) (tC .non)
  wp X ρ C P := a.wp X ρ C fun s C1 => P (.d (.bool (isNonC s))) C1
  ok w h q := a.ok w h fun v H1 s α1 C1 t1 r1 c1 p1 => ⟨rfl, q _ H1 (.d (.bool (isNonC s))) α1 C1 t1 r1 (by rw [isNon_of c1]; exact Dq.bl _) p1⟩
def xNotN (a : XE) : XE where
  te k W := tOp rNotNone (a.te k W) (tC .non)
  wp X ρ C P := a.wp X ρ C fun s C1 => P (.d (.bool (!isNonC s))) C1
  ok w h q := a.ok w h fun v H1 s α1 C1 t1 r1 c1 p1 => ⟨rfl, q _ H1 (.d (.bool (!isNonC s))) α1 C1 t1 r1 (by rw [isNon_of c1]; exact Dq.bl _) p1⟩
/-- a truth is wanted -/
def isB (s : Cv) (K : Bool → Prop) : Prop := match s with
  | .d (.bool b) => K b
  | _ => False
theorem isB_of {K : Fg} {M : Ms} {H : Hp} {α : List Addr} {v : V} {s : Cv} (h : Rc K M H α v s) {Q : Bool → Prop} (q : isB s Q) : ∃ b, v = .bl b ∧ Q b := by
  cases s with
  | d x => cases x <;> first | exact q.elim | exact ⟨_, Da.bl_inv h, q⟩
  | v x => exact q.elim
  | c n => exact q.elim
theorem isBd_of {z : PyData} {K : Bool → Prop} (h : isB (.d z) K) : ∃ b, z = .bool b ∧ K b := by cases z <;> first | exact h.elim | exact ⟨_, rfl, h⟩
def xNot (a : XE) : XE where
  te k W := tNotV (a.te k W)
  wp X ρ C P := a.wp X ρ C fun s C1 => isB s fun b => P (.d (.bool (!b))) C1
  ok w h q := a.ok w h fun v H1 s α1 C1 t1 r1 c1 p1 => by
    obtain ⟨b, rfl, p⟩ := isB_of c1 p1
    exact ⟨b, rfl, q _ H1 (.d (.bool (!b))) α1 C1 t1 r1 (Dq.bl _) p⟩
def xAnd (a b : XE) : XE where
  te k W := tAndV (a.te k W) (b.te k W)
  wp X ρ C P := a.wp X ρ C fun s C1 => isB s fun x => cnd x (b.wp X ρ C1 P) (P (.d (.bool false)) C1)
  ok w h q := a.ok w h fun v H1 s α1 C1 t1 r1 c1 p1 => by
    obtain ⟨x, rfl, p⟩ := isB_of c1 p1
    refine ⟨x, rfl, ?_⟩
    cases x with
    | true => exact b.ok (w.to t1 r1) p fun v' H' s' α' C' t' => q v' H' s' α' C' (t1.trans t')
    | false => exact q _ H1 (.d (.bool false)) α1 C1 t1 r1 (Dq.bl _) p
def xOr (a b : XE) : XE where
  te k W := tOrV (a.te k W) (b.te k W)
  wp X ρ C P := a.wp X ρ C fun s C1 => isB s fun x => cnd x (P (.d (.bool true)) C1) (b.wp X ρ C1 P)
  ok w h q := a.ok w h fun v H1 s α1 C1 t1 r1 c1 p1 => by
    obtain ⟨x, rfl, p⟩ := isB_of c1 p1
    refine ⟨x, rfl, ?_⟩
    cases x with
    | false => exact b.ok (w.to t1 r1) p fun v' H' s' α' C' t' => q v' H' s' α' C' (t1.trans t')
    | true => exact q _ H1 (.d (.bool true)) α1 C1 t1 r1 (Dq.bl _) p
/-- a < b < c -/
def xChain (g g' : PyData → PyData → PyData → Prop) [i : Op2 g] [i' : Op2 g'] (a b c : XE) : XE where
  te k W := tChain (rB k.K g) (rB k.K g') (a.te k W) (b.te k W) (c.te k W)
  wp X ρ C P := a.wp X ρ C fun s C1 => b.wp X ρ C1 fun t C2 => rd C2 s fun d => rd C2 t fun e => i.G d e fun xx => isB (.d xx) fun x => cnd x (c.wp X ρ C2 fun u C3 => rd C3 t fun e' => rd C3 u fun f => i'.G e' f fun yy => isB (.d yy) fun y => P (.d (.bool y)) C3) (P (.d (.bool false)) C2)
  ok w h q := a.ok w h fun v H1 s α1 C1 t1 r1 c1 p1 => b.ok (w.to t1 r1) p1 fun u H2 s2 α2 C2 t2 r2 c2 p2 => by
    obtain ⟨d, h1, p2⟩ := rd_dt r2 (c1.to t2) p2
    obtain ⟨e, h2, p2⟩ := rd_dt r2 c2 p2
    obtain ⟨zz, hg, p2⟩ := i.ok _ _ _ p2
    obtain ⟨x, hx, pc⟩ := isBd_of (z := zz) p2
    subst hx
    refine ⟨ms _ α2 C2, d, e, .bool x, r2.md, h1, h2, hg, fun v' H' xx dz => ⟨x, Da.bl_inv dz, ?_⟩⟩
    have t12 := (t1.trans t2).trans (r2.ex xx)
    have rk := r2.keep xx
    cases x with
    | true =>
      rw [if_pos rfl]
      refine c.ok (w.to t12 rk) pc fun u' H3 s3 α3 C3 t3 r3 c3 p3 => ?_
      obtain ⟨e', h4, p3⟩ := rd_dt r3 ((c2.to (r2.ex xx)).to t3) p3
      obtain ⟨f, h5, p3⟩ := rd_dt r3 c3 p3
      obtain ⟨zy, hg', p3⟩ := i'.ok _ _ _ p3
      obtain ⟨y, hy, p4⟩ := isBd_of (z := zy) p3
      subst hy
      exact ⟨ms _ α3 C3, e', f, .bool y, r3.md, h4, h5, hg', fun v5 H5 x5 d5 => q v5 H5 (.d (.bool y)) α3 C3 ((t12.trans t3).trans (r3.ex x5)) (r3.keep x5) d5 p4⟩
    | false =>
      rw [if_neg Bool.false_ne_true]
      exact q _ H' (.d (.bool false)) α2 C2 t12 rk (Dq.bl _) pc
/-! ### tests -/
def xTest (a : XE) : XT where
  tt k W := tTest (a.te k W)
  wp X ρ C P := a.wp X ρ C fun s C1 => isB s fun b => P b C1
  ok w h q := a.ok w h fun v H1 s α1 C1 t1 r1 c1 p1 => by
    obtain ⟨b, rfl, p⟩ := isB_of c1 p1
    exact ⟨b, rfl, q b H1 α1 C1 t1 r1 p⟩
def xB (a : XE) : XT where
  tt k W := tB (a.te k W)
  wp X ρ C P := a.wp X ρ C fun s C1 => isB s fun b => P b C1
  ok w h q := a.ok w h fun v H1 s α1 C1 t1 r1 c1 p1 => by
    obtain ⟨b, rfl, p⟩ := isB_of c1 p1
    exact ⟨b, rfl, q b H1 α1 C1 t1 r1 p⟩
def xTNot (a : XT) : XT where
  tt k W := tNot (a.tt k W)
  wp X ρ C P := a.wp X ρ C fun b C1 => P (!b) C1
  ok w h q := a.ok w h fun b H1 α1 C1 t1 r1 p1 => q (!b) H1 α1 C1 t1 r1 p1
def xTAnd (a b : XT) : XT where
  tt k W := tAnd (a.tt k W) (b.tt k W)
  wp X ρ C P := a.wp X ρ C fun x C1 => cnd x (b.wp X ρ C1 P) (P false C1)
  ok w h q := a.ok w h fun x H1 α1 C1 t1 r1 p1 => by
    cases x with
    | true => exact b.ok (w.to t1 r1) p1 fun b' H' α' C' t' => q b' H' α' C' (t1.trans t')
    | false => exact q false H1 α1 C1 t1 r1 p1
def xTOr (a b : XT) : XT where
  tt k W := tOr (a.tt k W) (b.tt k W)
  wp X ρ C P := a.wp X ρ C fun x C1 => cnd x (P true C1) (b.wp X ρ C1 P)
  ok w h q := a.ok w h fun x H1 α1 C1 t1 r1 p1 => by
    cases x with
    | false => exact b.ok (w.to t1 r1) p1 fun b' H' α' C' t' => q b' H' α' C' (t1.trans t')
    | true => exact q true H1 α1 C1 t1 r1 p1
def xYes : XT where
  tt _ _ := tYes
  wp X ρ C P := P true C
  ok w h q := q true _ _ _ w.rep.refl w.rep h
def xIf (c : XT) (a b : XE) : XE where
  te k W := tIf (c.tt k W) (a.te k W) (b.te k W)
  wp X ρ C P := c.wp X ρ C fun x C1 => cnd x (a.wp X ρ C1 P) (b.wp X ρ C1 P)
  ok w h q := c.ok w h fun x H1 α1 C1 t1 r1 p1 => by
    cases x with
    | true => exact a.ok (w.to t1 r1) p1 fun v' H' s' α' C' t' => q v' H' s' α' C' (t1.trans t')
    | false => exact b.ok (w.to t1 r1) p1 fun v' H' s' α' C' t' => q v' H' s' α' C' (t1.trans t')
/-! ### lists of arguments, displays -/
def xNil : XA where
  ta _ _ := tNil
  wp X ρ C P := P [] C
  ok w h q := q [] _ [] _ _ w.rep.refl w.rep .nil h
def xCons (a : XE) (b : XA) : XA where
  ta k W := tCons (a.te k W) (b.ta k W)
  wp X ρ C P := a.wp X ρ C fun s C1 => b.wp X ρ C1 fun ss C2 => P (s :: ss) C2
  ok w h q := a.ok w h fun v H1 s α1 C1 t1 r1 c1 p1 => b.ok (w.to t1 r1) p1 fun vs H2 ss α2 C2 t2 r2 c2 p2 => q (v :: vs) H2 (s :: ss) α2 C2 (t1.trans t2) r2 (.cons (c1.to t2) c2) p2
def xTup (a : XA) : XE where
  te k W := tTup (a.ta k W)
  wp X ρ C P := a.wp X ρ C fun ss C1 => fzs C1 ss fun ds C2 => shortW ds (P (.d (.tuple ds)) C2)
  ok w h q := a.ok w h fun vs H1 ss α1 C1 t1 r1 c1 p1 => by
    obtain ⟨ds, C2, r2, t2, h2, p2⟩ := fzs_da r1 c1 p1
    obtain ⟨hl, p2⟩ := shortW_of p2
    exact ⟨by rw [Das.len h2]; exact Nat.le_trans (Nat.le_of_ble_eq_true hl) (by decide), fun p hp => q _ _ (.d (.tuple ds)) α1 C2 ((t1.trans t2).trans (r2.ex (Ex.new hp))) (r2.keep (Ex.new hp)) (Da.new_tup r2.md hp h2) p2⟩
/-- a list that stays as it is -/
def xLst (a : XA) : XE where
  te k W := tLst (a.ta k W)
  wp X ρ C P := a.wp X ρ C fun ss C1 => fzs C1 ss fun ds C2 => shortW ds (P (.d (.list ds)) C2)
  ok w h q := a.ok w h fun vs H1 ss α1 C1 t1 r1 c1 p1 => by
    obtain ⟨ds, C2, r2, t2, h2, p2⟩ := fzs_da r1 c1 p1
    obtain ⟨hl, p2⟩ := shortW_of p2
    exact ⟨by rw [Das.len h2]; exact Nat.le_trans (Nat.le_of_ble_eq_true hl) (by decide), fun p hp => q _ _ (.d (.list ds)) α1 C2 ((t1.trans t2).trans (r2.ex (Ex.new hp))) (r2.keep (Ex.new hp)) (Da.new_lst r2.md hp h2) p2⟩
section
variable {k : Kx} {B α : List Addr} {C : Cs} {H : Hp}
/-- a new list is a cell -/
theorem Rep.newL (r : Rep k B α C H) {p : Addr} {vs : List V} {ds : List PyData} (hp : H p = none) (h : Das k.K (ms B α C) H vs ds) :
    Rep k B (α ++ [p]) (C ++ [.lst ds]) (upd H p (.lst vs)) ∧ To B α C H (α ++ [p]) (C ++ [.lst ds]) (upd H p (.lst vs)) :=
  r.more rfl hp (fun b q => upd_ne q) ⟨_, upd_same⟩ fun t => ⟨vs, upd_same, dps_ex t.hid _ _ h⟩
theorem Rep.newR (r : Rep k B α C H) {p : Addr} {vs : List V} {ss : List Cv} (hp : H p = none) (h : Rcs k.K (ms B α C) H α vs ss) :
    Rep k B (α ++ [p]) (C ++ [.rfs ss]) (upd H p (.lst vs)) ∧ To B α C H (α ++ [p]) (C ++ [.rfs ss]) (upd H p (.lst vs)) :=
  r.more rfl hp (fun b q => upd_ne q) ⟨_, upd_same⟩ fun t => ⟨vs, upd_same, h.to t⟩
theorem Rc.last (r : Rep k B α C H) {p : Addr} {K : Fg} {M : Ms} {H' : Hp} : Rc K M H' (α ++ [p]) (.ref p) (.c C.length) := ⟨p, by rw [← r.len, List.getElem?_append_right (Nat.le_refl _), Nat.sub_self]; rfl, rfl⟩
end
/-- a list that will change -/
def xLstC (a : XA) : XE where
  te k W := tLst (a.ta k W)
  wp X ρ C P := a.wp X ρ C fun ss C1 => fzs C1 ss fun ds C2 => shortW ds (appK (.lst ds) C2 0 fun n C3 => P (.c n) C3)
  ok w h q := a.ok w h fun vs H1 ss α1 C1 t1 r1 c1 p1 => by
    obtain ⟨ds, C2, r2, t2, h2, p2⟩ := fzs_da r1 c1 p1
    obtain ⟨hl, p2⟩ := shortW_of p2
    refine ⟨by rw [Das.len h2]; exact Nat.le_trans (Nat.le_of_ble_eq_true hl) (by decide), fun p hp => ?_⟩
    obtain ⟨r3, t3⟩ := r2.newL hp h2
    exact q _ _ (.c C2.length) _ _ ((t1.trans t2).trans t3) r3 (Rc.last r2) (appK_of p2)
/-- a list of things that change -/
def xLstR (a : XA) : XE where
  te k W := tLst (a.ta k W)
  wp X ρ C P := a.wp X ρ C fun ss C1 => shortW ss (appK (.rfs ss) C1 0 fun n C3 => P (.c n) C3)
  ok w h q := a.ok w h fun vs H1 ss α1 C1 t1 r1 c1 p1 => by
    have p1 := shortW_of p1
    refine ⟨by rw [Rcs.len c1]; exact Nat.le_trans (Nat.le_of_ble_eq_true p1.1) (by decide), fun p hp => ?_⟩
    obtain ⟨r3, t3⟩ := r1.newR hp c1
    exact q _ _ (.c C1.length) _ _ (t1.trans t3) r3 (Rc.last r1) (appK_of p1.2)
/-! ### built-ins, methods that read, slices -/
def xBi (g : List PyData → PyData → Prop) [c : OpB g] (a : XA) : XE where
  te k W := tCB (rC k.K g) (a.ta k W)
  wp X ρ C P := a.wp X ρ C fun ss C1 => rds C1 ss fun ds => c.G ds fun z => P (.d z) C1
  ok w h q := a.ok w h fun vs H1 ss α1 C1 t1 r1 c1 p1 => by
    obtain ⟨ds, h1, p2⟩ := rds_dt r1 c1 p1
    obtain ⟨z, hg, p2⟩ := c.ok _ _ p2
    exact ⟨ms _ α1 C1, ds, z, r1.md, h1, hg, fun v' H' x dz => q v' H' (.d z) α1 C1 (t1.trans (r1.ex x)) (r1.keep x) dz p2⟩
/-- list(xs), to be changed -/
def rListF (K : Fg) : List V → Hp → VK → Prop := fun vs H Q => ∃ p ys, vs = [.ref p] ∧ (SqL K H p ys ∨ SqT K H p ys) ∧ ∀ l, H l = none → Q (.ref l) (upd H l (.lst ys))
theorem call_listF {X : Cx} : CallR X (.type "list") (rListF X.K) := call_list_of
def seqD (d : PyData) (K : List PyData → Prop) : Prop := match d with
  | .list ds => K ds
  | .tuple ds => K ds
  | _ => False
def xListC (a : XE) : XE where
  te k W := tCB (rListF k.K) (tCons (a.te k W) tNil)
  wp X ρ C P := a.wp X ρ C fun s C1 => rd C1 s fun d => seqD d fun ds => appK (.lst ds) C1 0 fun n C2 => P (.c n) C2
  ok w h q := a.ok w h fun v H1 s α1 C1 t1 r1 c1 p1 => by
    obtain ⟨d, h1, p2⟩ := rd_dt r1 c1 p1
    cases d with
    | list ds =>
      obtain ⟨b, ys, rfl, hb, hy⟩ := h1.list_inv
      rw [hid_nil] at hb
      refine ⟨b, ys, rfl, .inl hb, fun p hp => ?_⟩
      obtain ⟨r3, t3⟩ := r1.newL hp hy
      exact q _ _ (.c C1.length) _ _ (t1.trans t3) r3 (Rc.last r1) (appK_of p2)
    | tuple ds =>
      obtain ⟨b, ys, rfl, hb, hy⟩ := h1.tup_inv
      refine ⟨b, ys, rfl, .inr (hid_t hb), fun p hp => ?_⟩
      obtain ⟨r3, t3⟩ := r1.newL hp hy
      exact q _ _ (.c C1.length) _ _ (t1.trans t3) r3 (Rc.last r1) (appK_of p2)
    | none => exact p2.elim
    | bool _ => exact p2.elim
    | int _ => exact p2.elim
    | str _ => exact p2.elim
    | dict _ => exact p2.elim
/-- list(xs) as data -/
def xListD (a : XE) : XE where
  te k W := tCB (rListF k.K) (tCons (a.te k W) tNil)
  wp X ρ C P := a.wp X ρ C fun s C1 => rd C1 s fun d => seqD d fun ds => P (.d (.list ds)) C1
  ok w h q := a.ok w h fun v H1 s α1 C1 t1 r1 c1 p1 => by
    obtain ⟨d, h1, p2⟩ := rd_dt r1 c1 p1
    cases d with
    | list ds =>
      obtain ⟨b, ys, rfl, hb, hy⟩ := h1.list_inv
      rw [hid_nil] at hb
      exact ⟨b, ys, rfl, .inl hb, fun p hp => q _ _ (.d (.list ds)) α1 C1 (t1.trans (r1.ex (Ex.new hp))) (r1.keep (Ex.new hp)) (Da.new_lst r1.md hp hy) p2⟩
    | tuple ds =>
      obtain ⟨b, ys, rfl, hb, hy⟩ := h1.tup_inv
      exact ⟨b, ys, rfl, .inr (hid_t hb), fun p hp => q _ _ (.d (.list ds)) α1 C1 (t1.trans (r1.ex (Ex.new hp))) (r1.keep (Ex.new hp)) (Da.new_lst r1.md hp hy) p2⟩
    | none => exact p2.elim
    | bool _ => exact p2.elim
    | int _ => exact p2.elim
    | str _ => exact p2.elim
    | dict _ => exact p2.elim
/-- xs + ys, to be changed -/
def xCatC (a b : XE) : XE where
  te k W := tOp (rCatR k.K) (a.te k W) (b.te k W)
  wp X ρ C P := a.wp X ρ C fun s C1 => b.wp X ρ C1 fun t C2 => rd C2 s fun d => rd C2 t fun e => isL d fun xs => isL e fun ys => xs.length + ys.length ≤ sizeLine ∧ appK (.lst (xs ++ ys)) C2 0 fun n C3 => P (.c n) C3
  ok w h q := a.ok w h fun v H1 s α1 C1 t1 r1 c1 p1 => b.ok (w.to t1 r1) p1 fun u H2 s2 α2 C2 t2 r2 c2 p2 => by
    obtain ⟨d, h1, p2⟩ := rd_dt r2 (c1.to t2) p2
    obtain ⟨e, h2, p2⟩ := rd_dt r2 c2 p2
    obtain ⟨xs, hd, p4⟩ := isL_of (d := d) p2
    obtain ⟨ys, he, hl, p3⟩ := isL_of (d := e) p4
    subst hd
    subst he
    obtain ⟨x, vs, rfl, hx, dx⟩ := h1.list_inv
    obtain ⟨y, ws, rfl, hy, dy⟩ := h2.list_inv
    rw [hid_nil] at hx hy
    refine ⟨x, y, vs, ws, rfl, rfl, hx, hy, by rw [Das.len dx, Das.len dy]; exact hl, fun p hp => ?_⟩
    obtain ⟨r3, t3⟩ := r2.newL hp (Das.app dx dy)
    exact q _ _ (.c C2.length) _ _ ((t1.trans t2).trans t3) r3 (Rc.last r2) (appK_of p3)
def xNoPart : XO where
  to _ _ := tNoPart
  wp X ρ C P := P none C
  ok w h q := q none _ _ _ w.rep.refl w.rep h
def xPart (a : XE) : XO where
  to k W := tPart (a.te k W)
  wp X ρ C P := a.wp X ρ C fun s C1 => isI s fun i => P (some i) C1
  ok w h q := a.ok w h fun v H1 s α1 C1 t1 r1 c1 p1 => by
    obtain ⟨i, rfl, p⟩ := isI_of p1
    exact ⟨i, Da.int_inv c1, q (some i) H1 α1 C1 t1 r1 p⟩
def slG (d : PyData) (lo hi : Option Int) (K : PyData → Prop) : Prop := match d with
  | .list ds => K (.list (cutD ds lo hi))
  | .tuple ds => K (.tuple (cutD ds lo hi))
  | .str x => x.length ≤ sizeLine ∧ K (.str (cutS x lo hi))
  | _ => False
theorem slG_ok {d : PyData} {lo hi : Option Int} {K : PyData → Prop} (h : slG d lo hi K) : ∃ z, SlD d lo hi z ∧ K z := by
  cases d <;> first | exact h.elim | exact ⟨_, rfl, h⟩ | exact ⟨_, ⟨h.1, rfl⟩, h.2⟩
def xSl (a : XE) (l u : XO) : XE where
  te k W := tSl (rSl k.K SlD) (a.te k W) (l.to k W) (u.to k W)
  wp X ρ C P := a.wp X ρ C fun s C1 => l.wp X ρ C1 fun lo C2 => u.wp X ρ C2 fun hi C3 => rd C3 s fun d => slG d lo hi fun z => P (.d z) C3
  ok w h q := a.ok w h fun v H1 s α1 C1 t1 r1 c1 p1 => l.ok (w.to t1 r1) p1 fun lo H2 α2 C2 t2 r2 p2 => u.ok ((w.to t1 r1).to t2 r2) p2 fun hi H3 α3 C3 t3 r3 p3 => by
    obtain ⟨d, h1, p3⟩ := rd_dt r3 ((c1.to t2).to t3) p3
    obtain ⟨z, hg, p4⟩ := slG_ok p3
    exact ⟨ms _ α3 C3, d, z, r3.md, h1, hg, fun v' H' x dz => q v' H' (.d z) α3 C3 (((t1.trans t2).trans t3).trans (r3.ex x)) (r3.keep x) dz p4⟩
/-- a method of a text -/
def xBm (g : PyData → List PyData → PyData → Prop) [c : OpM g] (a : XE) (b : XA) : XE where
  te k W := tBM k.K "str" (rM k.K g) (a.te k W) (b.ta k W)
  wp X ρ C P := a.wp X ρ C fun s C1 => isS s fun y => b.wp X ρ C1 fun ss C2 => rds C2 ss fun ds => c.G y ds fun z => P (.d z) C2
  ok w h q := a.ok w h fun v H1 s α1 C1 t1 r1 c1 p1 => by
    obtain ⟨y, rfl, p1⟩ := isS_of p1
    have e := Da.str_inv c1
    subst e
    refine ⟨rfl, b.ok (w.to t1 r1) p1 fun vs H2 ss α2 C2 t2 r2 c2 p2 => ?_⟩
    obtain ⟨ds, h2, p2⟩ := rds_dt r2 c2 p2
    obtain ⟨z, hg, p3⟩ := c.ok _ _ _ p2
    exact ⟨ms _ α2 C2, .str y, ds, z, r2.md, .da (.str y), h2, hg, fun v' H' x dz => q v' H' (.d z) α2 C2 ((t1.trans t2).trans (r2.ex x)) (r2.keep x) dz p3⟩
def xBm0 (g : PyData → List PyData → PyData → Prop) [c : OpM g] (a : XE) : XE where
  te k W := tBM0 k.K "str" (rM k.K g) (a.te k W)
  wp X ρ C P := a.wp X ρ C fun s C1 => isS s fun y => c.G y [] fun z => P (.d z) C1
  ok w h q := a.ok w h fun v H1 s α1 C1 t1 r1 c1 p1 => by
    obtain ⟨y, rfl, p1⟩ := isS_of p1
    obtain ⟨z, hg, p3⟩ := c.ok _ _ _ p1
    have e := Da.str_inv c1
    subst e
    exact ⟨rfl, ms _ α1 C1, .str y, [], z, r1.md, .da (.str y), .nil, hg, fun v' H' x dz => q v' H' (.d z) α1 C1 (t1.trans (r1.ex x)) (r1.keep x) dz p3⟩
/-! ### how each operation goes on -/
instance : Op2 AddD := ⟨fun d e K => match d, e with
  | .int i, .int j => K (.int (i + j))
  | .str a, .str b => a.length + b.length ≤ sizeLine ∧ K (.str (a ++ b))
  | .list a, .list b => a.length + b.length ≤ sizeLine ∧ K (.list (a ++ b))
  | .tuple a, .tuple b => a.length + b.length ≤ sizeLine ∧ K (.tuple (a ++ b))
  | _, _ => False, fun d e K h => by cases d <;> cases e <;> first | exact h.elim | exact ⟨_, rfl, h⟩ | exact ⟨_, ⟨h.1, rfl⟩, h.2⟩⟩
instance : Op2 SubD := ⟨fun d e K => match d, e with
  | .int i, .int j => K (.int (i - j))
  | _, _ => False, fun d e K h => by cases d <;> cases e <;> first | exact h.elim | exact ⟨_, rfl, h⟩⟩
instance : Op2 MulD := ⟨fun d e K => match d, e with
  | .int i, .int j => CMul i j ∧ K (.int (i * j))
  | .list a, .int k => (-(2 ^ 63) ≤ k ∧ k < 2 ^ 63 ∧ a.length * k.toNat ≤ sizeLine) ∧ K (.list (List.replicate k.toNat a).flatten)
  | .str x, .int k => (-(2 ^ 63) ≤ k ∧ k < 100000 ∧ x.length ≤ 100) ∧ K (.str (repS x k))
  | _, _ => False, fun d e K h => by cases d <;> cases e <;> first | exact h.elim | exact ⟨_, ⟨h.1, rfl⟩, h.2⟩ | exact ⟨_, ⟨h.1.1, h.1.2.1, h.1.2.2, rfl⟩, h.2⟩⟩
instance : Op2 DivD := ⟨fun d e K => match d, e with
  | .int i, .int j => CDiv i j ∧ K (.int (i / j))
  | _, _ => False, fun d e K h => by cases d <;> cases e <;> first | exact h.elim | exact ⟨_, ⟨h.1, rfl⟩, h.2⟩⟩
instance : Op2 ModD := ⟨fun d e K => match d, e with
  | .int i, .int j => 0 < j ∧ K (.int (i % j))
  | _, _ => False, fun d e K h => by cases d <;> cases e <;> first | exact h.elim | exact ⟨_, ⟨h.1, rfl⟩, h.2⟩⟩
instance : Op2 PowD := ⟨fun d e K => match d, e with
  | .int i, .int j => CPow i j ∧ K (.int (i ^ j.toNat))
  | _, _ => False, fun d e K h => by cases d <;> cases e <;> first | exact h.elim | exact ⟨_, ⟨h.1, rfl⟩, h.2⟩⟩
instance : Op2 LtD := ⟨fun d e K => match d, e with
  | .int i, .int j => K (.bool (decide (i < j)))
  | .str a, .str b => K (.bool (decide (a.cps.toList < b.cps.toList)))
  | _, _ => False, fun d e K h => by cases d <;> cases e <;> first | exact h.elim | exact ⟨_, rfl, h⟩⟩
instance : Op2 LeD := ⟨fun d e K => match d, e with
  | .int i, .int j => K (.bool (decide (i ≤ j)))
  | .str a, .str b => K (.bool (!decide (b.cps.toList < a.cps.toList)))
  | _, _ => False, fun d e K h => by cases d <;> cases e <;> first | exact h.elim | exact ⟨_, rfl, h⟩⟩
instance : Op2 GtD := ⟨fun d e K => match d, e with
  | .int i, .int j => K (.bool (decide (j < i)))
  | .str a, .str b => K (.bool (decide (b.cps.toList < a.cps.toList)))
  | _, _ => False, fun d e K h => by cases d <;> cases e <;> first | exact h.elim | exact ⟨_, rfl, h⟩⟩
instance : Op2 GeD := ⟨fun d e K => match d, e with
  | .int i, .int j => K (.bool (decide (j ≤ i)))
  | .str a, .str b => K (.bool (!decide (a.cps.toList < b.cps.toList)))
  | _, _ => False, fun d e K h => by cases d <;> cases e <;> first | exact h.elim | exact ⟨_, rfl, h⟩⟩
/-- what == looks through -/
def EqOk (d e : PyData) : Prop := Shr d e d ∧ Shr d e e
instance : Op2 EqD := ⟨fun d e K => match d, e with
  | .int i, .int j => K (.bool (decide (i = j)))
  | .bool i, .bool j => K (.bool (decide (i = j)))
  | .str i, .str j => K (.bool (decide (i = j)))
  | .none, .none => K (.bool true)
  | .none, .int _ => K (.bool false)
  | .int _, .none => K (.bool false)
  | d, e => EqOk d e ∧ K (.bool (PyData.eqv d e)), fun d e K h => by
    cases d <;> cases e <;> first
      | exact ⟨_, ⟨h.1.1, h.1.2, rfl⟩, h.2⟩
      | exact ⟨_, g_eq, h⟩
      | exact ⟨_, g_eqB, h⟩
      | exact ⟨_, ⟨.inr ⟨rfl, rfl⟩, .inr ⟨rfl, rfl⟩, by rw [eqv_str]⟩, h⟩
      | exact ⟨_, ⟨.inl shp_none, .inl shp_none, by simp [PyData.eqv]⟩, h⟩
      | exact ⟨_, ⟨.inl shp_none, .inl shp_int, by simp [PyData.eqv]⟩, h⟩
      | exact ⟨_, ⟨.inl shp_int, .inl shp_none, by simp [PyData.eqv]⟩, h⟩⟩
instance : Op2 NeD := ⟨fun d e K => match d, e with
  | .int i, .int j => K (.bool (!decide (i = j)))
  | .bool i, .bool j => K (.bool (!decide (i = j)))
  | .str i, .str j => K (.bool (!decide (i = j)))
  | .none, .none => K (.bool false)
  | .none, .int _ => K (.bool true)
  | .int _, .none => K (.bool true)
  | d, e => EqOk d e ∧ K (.bool (!PyData.eqv d e)), fun d e K h => by
    cases d <;> cases e <;> first
      | exact ⟨_, ⟨h.1.1, h.1.2, rfl⟩, h.2⟩
      | exact ⟨_, g_ne, h⟩
      | exact ⟨_, g_neB, h⟩
      | exact ⟨_, ⟨.inr ⟨rfl, rfl⟩, .inr ⟨rfl, rfl⟩, by rw [eqv_str]⟩, h⟩
      | exact ⟨_, ⟨.inl shp_none, .inl shp_none, by simp [PyData.eqv]⟩, h⟩
      | exact ⟨_, ⟨.inl shp_none, .inl shp_int, by simp [PyData.eqv]⟩, h⟩
      | exact ⟨_, ⟨.inl shp_int, .inl shp_none, by simp [PyData.eqv]⟩, h⟩⟩
/-- what «in» looks through -/
def InOk (d : PyData) (ds : List PyData) : Prop := (Shp d ∧ Shp (.list ds)) ∨ (flatD d = true ∧ ds.all flatD = true)
def sign1 (c : Str) (K : Nat → Prop) : Prop := ∃ k, c = ⟨#[k]⟩ ∧ K k
instance : Op2 InD := ⟨fun d e K => match e with
  | .list ds => InOk d ds ∧ K (.bool (ds.any fun y => PyData.eqv y d))
  | .tuple ds => (flatD d = true ∧ ds.all flatD = true) ∧ K (.bool (ds.any fun y => PyData.eqv y d))
  | .str t => (match d with | .str c => sign1 c fun k => K (.bool (decide (k ∈ t.cps.toList))) | _ => False)
  | _ => False, fun d e K h => by
    cases e with
    | list ds => refine ⟨_, ?_, h.2⟩; cases d <;> exact ⟨h.1, rfl⟩
    | tuple ds => refine ⟨_, ?_, h.2⟩; cases d <;> exact ⟨h.1.1, h.1.2, rfl⟩
    | str t => cases d <;> first | exact h.elim | (obtain ⟨k, e, q⟩ := h; exact ⟨_, ⟨k, e, rfl⟩, q⟩)
    | none => exact h.elim
    | bool _ => exact h.elim
    | int _ => exact h.elim
    | dict _ => exact h.elim⟩
instance : Op2 NotInD := ⟨fun d e K => match e with
  | .list ds => InOk d ds ∧ K (.bool (!ds.any fun y => PyData.eqv y d))
  | .tuple ds => (flatD d = true ∧ ds.all flatD = true) ∧ K (.bool (!ds.any fun y => PyData.eqv y d))
  | .str t => (match d with | .str c => sign1 c fun k => K (.bool (!decide (k ∈ t.cps.toList))) | _ => False)
  | _ => False, fun d e K h => by
    cases e with
    | list ds => refine ⟨_, ?_, h.2⟩; cases d <;> exact ⟨h.1, rfl⟩
    | tuple ds => refine ⟨_, ?_, h.2⟩; cases d <;> exact ⟨h.1.1, h.1.2, rfl⟩
    | str t => cases d <;> first | exact h.elim | (obtain ⟨k, e, q⟩ := h; exact ⟨_, ⟨k, e, rfl⟩, q⟩)
    | none => exact h.elim
    | bool _ => exact h.elim
    | int _ => exact h.elim
    | dict _ => exact h.elim⟩
def ixW (ds : List PyData) (i : Int) (K : PyData → Prop) : Prop := match atI ds i with
  | some z => K z
  | none => False
theorem ixW_of {ds : List PyData} {i : Int} {K : PyData → Prop} (h : ixW ds i K) : ∃ z, atI ds i = some z ∧ K z := by
  unfold ixW at h
  cases e : atI ds i with
  | none => rw [e] at h; exact h.elim
  | some z => rw [e] at h; exact ⟨z, rfl, h⟩
instance : Op2 IxD := ⟨fun d e K => match d, e with
  | .list ds, .int i => ixW ds i K
  | .tuple ds, .int i => ixW ds i K
  | .str x, .int i => x.length ≤ sizeLine ∧ ∃ c, atI x.cps.toList i = some c ∧ K (.str ⟨#[c]⟩)
  | _, _ => False, fun d e K h => by
    cases d <;> cases e <;> first
      | exact h.elim
      | exact ixW_of h
      | (obtain ⟨h1, c, h2, h3⟩ := h; exact ⟨_, ⟨h1, c, h2, rfl⟩, h3⟩)⟩
instance : Op2 IsBD := ⟨fun d e K => match d, e with
  | .bool i, .bool j => K (.bool (decide (i = j)))
  | _, _ => False, fun d e K h => by cases d <;> cases e <;> first | exact h.elim | exact ⟨_, g_isB, h⟩⟩
instance : Op2 NotBD := ⟨fun d e K => match d, e with
  | .bool i, .bool j => K (.bool (!decide (i = j)))
  | _, _ => False, fun d e K h => by cases d <;> cases e <;> first | exact h.elim | exact ⟨_, g_notB, h⟩⟩
instance : Op1 NegD := ⟨fun d K => match d with
  | .int i => K (.int (-i))
  | _ => False, fun d K h => by cases d <;> first | exact h.elim | exact ⟨_, g_neg, h⟩⟩
instance : OpB LenD := ⟨fun ds K => match ds with
  | [.list a] => K (.int (a.length : Int))
  | [.tuple a] => K (.int (a.length : Int))
  | [.str a] => a.length ≤ sizeLine ∧ K (.int (a.length : Int))
  | _ => False, fun ds K h => by
    match ds, h with
    | [.list a], h => exact ⟨_, rfl, h⟩
    | [.tuple a], h => exact ⟨_, rfl, h⟩
    | [.str a], h => exact ⟨_, ⟨h.1, rfl⟩, h.2⟩⟩
/-- numbers alone -/
def intsW (ds : List PyData) (K : List Int → Prop) : Prop := ∃ ns : List Int, ds = ns.map PyData.int ∧ K ns
def blsW (ds : List PyData) (K : List Bool → Prop) : Prop := ∃ ns : List Bool, ds = ns.map PyData.bool ∧ K ns
instance : OpB SumD := ⟨fun ds K => match ds with
  | [.list a] => intsW a fun ns => K (.int ns.sum)
  | _ => False, fun ds K h => by
    match ds, h with
    | [.list a], ⟨ns, e, h⟩ => exact ⟨_, ⟨ns, e, rfl⟩, h⟩⟩
instance : OpB AllD := ⟨fun ds K => match ds with
  | [.list a] => blsW a fun ns => K (.bool (ns.all id))
  | _ => False, fun ds K h => by
    match ds, h with
    | [.list a], ⟨ns, e, h⟩ => exact ⟨_, ⟨ns, e, rfl⟩, h⟩⟩
instance : OpB AnyD := ⟨fun ds K => match ds with
  | [.list a] => blsW a fun ns => K (.bool (ns.any id))
  | _ => False, fun ds K h => by
    match ds, h with
    | [.list a], ⟨ns, e, h⟩ => exact ⟨_, ⟨ns, e, rfl⟩, h⟩⟩
instance : OpB Min2D := ⟨fun ds K => match ds with
  | [.int i, .int j] => K (.int (min i j))
  | _ => False, fun ds K h => by
    match ds, h with
    | [.int i, .int j], h => exact ⟨_, rfl, h⟩⟩
instance : OpB Max2D := ⟨fun ds K => match ds with
  | [.int i, .int j] => K (.int (max i j))
  | _ => False, fun ds K h => by
    match ds, h with
    | [.int i, .int j], h => exact ⟨_, rfl, h⟩⟩
instance : OpB AbsD := ⟨fun ds K => match ds with
  | [.int i] => K (.int (if i < 0 then -i else i))
  | _ => False, fun ds K h => by
    match ds, h with
    | [.int i], h => exact ⟨_, rfl, h⟩⟩
instance : OpB IntD := ⟨fun ds K => match ds with
  | [.int i] => K (.int i)
  | [.bool b] => K (.int (if b then 1 else 0))
  | [.str x] => ∃ n, PySem.intText? x = some n ∧ x.length ≤ 640 ∧ K (.int n)
  | _ => False, fun ds K h => by
    match ds, h with
    | [.int i], h => exact ⟨_, rfl, h⟩
    | [.bool i], h => exact ⟨_, rfl, h⟩
    | [.str x], ⟨n, h1, h2, h3⟩ => exact ⟨_, ⟨n, h1, h2, rfl⟩, h3⟩⟩
instance : OpB StrD := ⟨fun ds K => match ds with
  | [.int i] => i.natAbs.log2 < 1920 ∧ K (.str (toString i))
  | _ => False, fun ds K h => by
    match ds, h with
    | [.int i], h => exact ⟨_, ⟨h.1, rfl⟩, h.2⟩⟩
instance : OpB ListD := ⟨fun ds K => match ds with
  | [.list a] => K (.list a)
  | [.tuple a] => K (.list a)
  | _ => False, fun ds K h => by
    match ds, h with
    | [.list a], h => exact ⟨_, rfl, h⟩
    | [.tuple a], h => exact ⟨_, rfl, h⟩⟩
instance : OpB TupleD := ⟨fun ds K => match ds with
  | [.list a] => K (.tuple a)
  | [.tuple a] => K (.tuple a)
  | _ => False, fun ds K h => by
    match ds, h with
    | [.list a], h => exact ⟨_, rfl, h⟩
    | [.tuple a], h => exact ⟨_, rfl, h⟩⟩
instance : OpB DivmodD := ⟨fun ds K => match ds with
  | [.int i, .int j] => CDiv i j ∧ K (.tuple [.int (i / j), .int (i % j)])
  | _ => False, fun ds K h => by
    match ds, h with
    | [.int i, .int j], h => exact ⟨_, ⟨h.1, rfl⟩, h.2⟩⟩
instance : OpB SortedD := ⟨fun ds K => match ds with
  | [.list a] => intsW a fun ns => K (.list ((isort ns).map PyData.int))
  | _ => False, fun ds K h => by
    match ds, h with
    | [.list a], ⟨ns, e, h⟩ => exact ⟨_, ⟨ns, e, rfl⟩, h⟩⟩
/-- what repr tells -/
def ReprOk (d : PyData) : Prop := d.showable = true ∧ d.hasDict = false ∧ d.depth ≤ 60 ∧ d.shown.length ≤ sizeLine
instance : OpB ReprD := ⟨fun ds K => match ds with
  | [d] => ReprOk d ∧ K (.str d.shown)
  | _ => False, fun ds K h => by
    match ds, h with
    | [d], h => exact ⟨_, ⟨h.1.1, h.1.2.1, h.1.2.2.1, h.1.2.2.2, rfl⟩, h.2⟩⟩
def strsW (ds : List PyData) (K : List Str → Prop) : Prop := ∃ ns : List Str, ds = ns.map PyData.str ∧ K ns
instance : OpM JoinD := ⟨fun a ds K => match ds with
  | [.list es] => strsW es fun ys => (ys.map (·.length)).sum + ys.length * a.length ≤ 16777216 ∧ K (.str (Txt.join a ys))
  | _ => False, fun a ds K h => by
    match ds, h with
    | [.list es], ⟨ys, e, h1, h2⟩ => exact ⟨_, ⟨ys, e, h1, rfl⟩, h2⟩⟩
instance : OpM CountD := ⟨fun a ds K => match ds with
  | [.str b] => K (.int (Txt.count a b))
  | _ => False, fun a ds K h => by
    match ds, h with
    | [.str b], h => exact ⟨_, rfl, h⟩⟩
instance : OpM UpperD := ⟨fun a ds K => match ds with
  | [] => a.length ≤ 5592405 ∧ K (.str (Txt.upper a))
  | _ => False, fun a ds K h => by
    match ds, h with
    | [], h => exact ⟨_, ⟨h.1, rfl⟩, h.2⟩⟩
instance : OpM SplitD := ⟨fun a ds K => match ds with
  | [.str b] => ((b.length == 0) = false ∧ a.length + 2 ≤ sizeLine) ∧ K (.list ((Txt.split a b).map PyData.str))
  | _ => False, fun a ds K h => by
    match ds, h with
    | [.str b], h => exact ⟨_, ⟨h.1.1, h.1.2, rfl⟩, h.2⟩⟩
instance : OpM PartD := ⟨fun a ds K => match ds with
  | [.str b] => ((b.length == 0) = false ∧ a.length ≤ sizeLine) ∧ K (.tuple [.str (Txt.partition a b).1, .str (Txt.partition a b).2.1, .str (Txt.partition a b).2.2])
  | _ => False, fun a ds K h => by
    match ds, h with
    | [.str b], h => exact ⟨_, ⟨h.1.1, h.1.2, rfl⟩, h.2⟩⟩
instance : OpM RpartD := ⟨fun a ds K => match ds with
  | [.str b] => ((b.length == 0) = false ∧ a.length ≤ sizeLine) ∧ K (.tuple [.str (Txt.rpartition a b).1, .str (Txt.rpartition a b).2.1, .str (Txt.rpartition a b).2.2])
  | _ => False, fun a ds K h => by
    match ds, h with
    | [.str b], h => exact ⟨_, ⟨h.1.1, h.1.2, rfl⟩, h.2⟩⟩
instance : OpM ZfillD := ⟨fun a ds K => match ds with
  | [.int i] => PadOk i = true ∧ K (.str (Txt.zfill a i))
  | _ => False, fun a ds K h => by
    match ds, h with
    | [.int i], h => exact ⟨_, ⟨h.1, rfl⟩, h.2⟩⟩
instance : OpM StripD := ⟨fun a ds K => match ds with
  | [] => a.length ≤ sizeLine ∧ K (.str (Txt.strip a))
  | _ => False, fun a ds K h => by
    match ds, h with
    | [], h => exact ⟨_, ⟨h.1, rfl⟩, h.2⟩⟩
instance : OpM IndexD := ⟨fun a ds K => match ds with
  | [.str b] => ∃ k rest, Builtin.Str.occurrences a b 0 a.length 1 = k :: rest ∧ K (.int (k : Nat))
  | _ => False, fun a ds K h => by
    match ds, h with
    | [.str b], ⟨k, rest, h1, h2⟩ => exact ⟨_, ⟨k, rest, h1, rfl⟩, h2⟩⟩
end DL
set_option maxRecDepth 100000
namespace DL
open PySem L2

/-! ### what is held is held on -/
structure Em (B α : List Addr) (C : Cs) (H : Hp) (B' α' : List Addr) (C' : Cs) (H' : Hp) : Prop where
  hid : Ex (hid (ms B α C) H) (hid (ms B' α' C') H')
  ex : ∃ e, α' = α ++ e
section
variable {k : Kx} {B B' α α' α'' : List Addr} {C C' C'' : Cs} {H H' H'' : Hp} {σ : L2.St} {ρ : Rv} {W : WX} {X : Xp}
theorem To.em (t : To B α C H α' C' H') : Em B α C H B α' C' H' := ⟨t.hid, by obtain ⟨e, h, _⟩ := t.ex; exact ⟨e, h⟩⟩
theorem Em.trans {B'' : List Addr} (a : Em B α C H B' α' C' H') (b : Em B' α' C' H' B'' α'' C'' H'') : Em B α C H B'' α'' C'' H'' := ⟨a.hid.trans b.hid, by
  obtain ⟨e, rfl⟩ := a.ex
  obtain ⟨f, rfl⟩ := b.ex
  exact ⟨e ++ f, by rw [List.append_assoc]⟩⟩
theorem Rc.em {K : Fg} (t : Em B α C H B' α' C' H') {v : V} {s : Cv} (h : Rc K (ms B α C) H α v s) : Rc K (ms B' α' C') H' α' v s := by
  cases s with
  | d x => exact dp_ex t.hid x v h
  | v w => exact h
  | c n =>
    obtain ⟨e, rfl⟩ := t.ex
    obtain ⟨a, h1, h2⟩ := h
    exact ⟨a, by rw [List.getElem?_append_left (List.getElem?_eq_some_iff.mp h1).1]; exact h1, h2⟩
theorem Rcs.em {K : Fg} (t : Em B α C H B' α' C' H') {v : List V} {s : List Cv} (h : Rcs K (ms B α C) H α v s) : Rcs K (ms B' α' C') H' α' v s := by
  induction h with
  | nil => exact .nil
  | cons a _ ih => exact .cons (a.em t) ih
theorem Rfs.em {κ : Type} {K : Fg} (t : Em B α C H B' α' C' H') {v : List (κ × V)} {s : List (κ × Cv)} (h : Rfs K (ms B α C) H α v s) : Rfs K (ms B' α' C') H' α' v s := by
  induction h with
  | nil => exact .nil
  | cons a _ ih => exact .cons (a.em t) ih
theorem En.em (t : Em B α C H B' α' C' H') (e : En k B α C H σ ρ) : En k B' α' C' H' σ ρ := ⟨e.1, fun i s h => by obtain ⟨v, h1, h2⟩ := e.2 i s h; exact ⟨v, h1, h2.em t⟩⟩
theorem CellAt.em {a : Addr} {c : Cell} (h : CellAt k (ms B α C) H α a c) (t : Em B α C H B' α' C' H') (e : H' a = H a) (f : c.isF = true → a ∉ (ms B' α' C').h) : CellAt k (ms B' α' C') H' α' a c := by
  cases c with
  | lst ds =>
    obtain ⟨xs, h1, h2⟩ := h
    exact ⟨xs, by rw [e]; exact h1, dps_ex t.hid _ _ h2⟩
  | rfs cs =>
    obtain ⟨xs, h1, h2⟩ := h
    exact ⟨xs, by rw [e]; exact h1, h2.em t⟩
  | frz d => exact ⟨f rfl, by rw [e]; exact h.2.1, dp_ex t.hid _ _ h.2.2⟩
  | box l n =>
    obtain ⟨x, y, v, d, h1, h2, h3⟩ := h
    exact ⟨x, y, v, d, by rw [e]; exact h1, dp_ex t.hid _ _ h2, h3⟩
  | obj c fs =>
    obtain ⟨dx, vs, h1, h2, h3⟩ := h
    exact ⟨dx, vs, by rw [e]; exact h1, h2.em t, h3⟩
  | dk es =>
    obtain ⟨vs, h1, h2, h3⟩ := h
    exact ⟨vs, by rw [e]; exact h1, h2.em t, h3⟩
  | lk l es => exact ⟨by rw [e]; exact h.1, h.2.1.em t, h.2.2⟩
  | tpl cs =>
    obtain ⟨xs, h1, h2⟩ := h
    exact ⟨xs, by rw [e]; exact h1, h2.em t⟩
  | exc c fs =>
    obtain ⟨d, h1, h2⟩ := h
    refine ⟨d, by rw [e]; exact h1, ?_⟩
    rcases h2 with h2 | ⟨dd, vs, g1, g2, g3⟩
    · exact .inl h2
    · exact .inr ⟨dd, vs, g1, t.hid _ _ g2, g3.em t⟩
theorem ms_h_bg {D : Addr} {a : Addr} : a ∈ (ms (D :: B) α C).h ↔ a = D ∨ a ∈ (ms B α C).h := by
  rw [ms_h, ms_h, List.mem_cons]
  constructor
  · rintro (h | h | h)
    · exact .inr (.inl h)
    · exact .inl h
    · exact .inr (.inr h)
  · rintro (h | h | h)
    · exact .inr (.inl h)
    · exact .inl h
    · exact .inr (.inr h)
/-- a new place, kept aside -/
theorem em_bg {D : Addr} {o : HO} (hD : H D = none) : Em B α C H (D :: B) α C (upd H D o) := ⟨fun a u h => by
  have h0 := hid_le _ _ a u h
  have q : a ≠ D := fun e => by rw [e, hD] at h0; cases h0
  have n : a ∉ (ms B α C).h := fun m => by
    have e : DL.hid (ms B α C) H a = none := if_pos m
    rw [e] at h; cases h
  refine (if_neg (fun m => ?_)).trans ((upd_ne q).trans h0)
  rcases ms_h_bg.mp m with e | e
  · exact q e
  · exact n e, [], by simp⟩
theorem Rep.bg (r : Rep k B α C H) {D : Addr} {o : HO} (hD : H D = none) : Rep k (D :: B) α C (upd H D o) := by
  have hp : D ∉ α := fun m => by obtain ⟨u, h⟩ := r.there D m; rw [hD] at h; cases h
  refine ⟨r.len, r.nd, fun a m q => ?_, fun a m => ?_, fun i a c h1 h2 => ?_⟩
  · rcases List.mem_cons.mp q with e | e
    · exact hp (e ▸ m)
    · exact r.nb a m e
  · by_cases q : a = D
    · subst q; exact ⟨o, upd_same⟩
    · rcases ms_h_bg.mp m with e | e
      · exact absurd e q
      · obtain ⟨u, h⟩ := r.md a e
        exact ⟨u, by rw [upd_ne q]; exact h⟩
  · have q : a ≠ D := fun e => hp (e ▸ List.mem_of_getElem? h1)
    refine (r.at_ i a c h1 h2).em (em_bg hD) (upd_ne q) fun f m => ?_
    rcases ms_h_bg.mp m with e | e
    · exact q e
    · exact r.frz_not h1 h2 f e
/-- what is kept aside is written -/
theorem em_put {D : Addr} {o : HO} : Em (D :: B) α C H (D :: B) α C (upd H D o) := ⟨fun a u h => by
  have h0 := hid_le _ _ a u h
  have n : a ∉ (ms (D :: B) α C).h := fun m => by
    have e : DL.hid (ms (D :: B) α C) H a = none := if_pos m
    rw [e] at h; cases h
  have q : a ≠ D := fun e => n (ms_h_bg.mpr (.inl e))
  exact (if_neg n).trans ((upd_ne q).trans h0), [], by simp⟩
theorem Rep.bgput {D : Addr} {o : HO} (r : Rep k (D :: B) α C H) : Rep k (D :: B) α C (upd H D o) := by
  refine ⟨r.len, r.nd, r.nb, fun a m => ?_, fun i a c h1 h2 => ?_⟩
  · by_cases q : a = D
    · subst q; exact ⟨o, upd_same⟩
    · obtain ⟨u, h⟩ := r.md a m
      exact ⟨u, by rw [upd_ne q]; exact h⟩
  · have q : a ≠ D := fun e => r.nb a (List.mem_of_getElem? h1) (e ▸ List.mem_cons_self)
    exact (r.at_ i a c h1 h2).em em_put (upd_ne q) fun f m => r.frz_not h1 h2 f m
/-- and comes back -/
theorem em_unbg {D : Addr} : Em (D :: B) α C H B α C H := ⟨hid_mono (fun a m => ms_h_bg.mpr (.inr m)) H, [], by simp⟩
theorem Rep.unbg {D : Addr} (r : Rep k (D :: B) α C H) : Rep k B α C H := ⟨r.len, r.nd, fun a m q => r.nb a m (List.mem_cons_of_mem _ q), fun a m => r.md a (ms_h_bg.mpr (.inr m)), fun i a c h1 h2 =>
  (r.at_ i a c h1 h2).em em_unbg rfl fun f m => r.frz_not h1 h2 f (ms_h_bg.mpr (.inr m))⟩
theorem To.comp {D : Addr} (a : To B α C H α' C' H') (b : To (D :: B) α' C' H' α'' C'' H'') : To B α C H α'' C'' H'' := by
  have b' : To B α' C' H' α'' C'' H'' := ⟨⟨fun a m => b.st.md a (ms_h_bg.mpr (.inr m)), b.st.go, b.st.nw⟩, b.ex⟩
  exact a.trans b'
theorem XAt.em {cls : Value} {d : Option Addr} {x : Xc} (h : XAt k (ms B α C) H α cls d x) (t : Em B α C H B' α' C' H') (e : ∀ a o, H a = some o → H' a = some o) : XAt k (ms B' α' C') H' α' cls d x := by
  refine ⟨h.1, ?_⟩
  rcases h.2 with h | ⟨dd, vs, h1, h2, h3⟩
  · exact .inl h
  · exact .inr ⟨dd, vs, h1, t.hid _ _ h2, h3.em t⟩
end

/-- a side condition that is computed -/
def chk (b : Bool) (A : Prop) : Prop := cnd b A False
theorem chk_of {b : Bool} {A : Prop} (h : chk b A) : b = true ∧ A := by
  cases b with
  | true => exact ⟨rfl, h⟩
  | false => exact h.elim
/-! ### targets -/
structure XG where
  tg : Kx → TG
  ns : List Nat
  wp : Cs → Cv → Rv → (Rv → Prop) → Prop
  ok : ∀ {k B α C H σ ρ x s P Q}, Rep k B α C H → Rc k.K (ms B α C) H α x s → En k B α C H σ ρ → wp C s ρ P → (∀ σ' ρ', En k B α C H σ' ρ' → σ'.length = σ.length → (∀ i, i ∉ ns → σ'[i]? = σ[i]?) → P ρ' → Q σ' H) → tg k x σ H Q
structure XGs where
  tg : Kx → TGs
  ns : List Nat
  len : Nat
  wp : Cs → List Cv → Rv → (Rv → Prop) → Prop
  ok : ∀ {k B α C H σ ρ x s P Q}, Rep k B α C H → Rcs k.K (ms B α C) H α x s → En k B α C H σ ρ → wp C s ρ P → (∀ σ' ρ', En k B α C H σ' ρ' → σ'.length = σ.length → (∀ i, i ∉ ns → σ'[i]? = σ[i]?) → P ρ' → Q σ' H) → tg k x σ H Q
def xgName (i : Nat) : XG where
  tg _ := gName i
  ns := [i]
  wp C s ρ P := setK ρ i (some s) P
  ok r c e h q := q _ _ (e.set c) (by rw [List.length_set]) (fun j hj => List.getElem?_set_ne (fun z => hj (by rw [← z]; exact List.mem_singleton.mpr rfl))) (setK_of h)
def nilW (ss : List Cv) (A : Prop) : Prop := match ss with
  | [] => A
  | _ => False
theorem nilW_of {ss : List Cv} {A : Prop} (h : nilW ss A) : ss = [] ∧ A := by cases ss <;> first | exact ⟨rfl, h⟩ | exact h.elim
def xgsNil : XGs where
  tg _ := gNil
  ns := []
  len := 0
  wp C ss ρ P := nilW ss (P ρ)
  ok r c e h q := by
    obtain ⟨rfl, h⟩ := nilW_of h
    cases c
    exact ⟨rfl, q _ _ e rfl (fun _ _ => rfl) h⟩
def hdtl (ss : List Cv) (K : Cv → List Cv → Prop) : Prop := match ss with
  | s :: r => K s r
  | [] => False
def xgsCons (a : XG) (b : XGs) : XGs where
  tg k := gCons (a.tg k) (b.tg k)
  ns := a.ns ++ b.ns
  len := b.len + 1
  wp C ss ρ P := hdtl ss fun s rest => a.wp C s ρ fun ρ1 => b.wp C rest ρ1 P
  ok r c e h q := by
    cases c with
    | nil => exact h.elim
    | cons c1 cr =>
      refine ⟨_, _, rfl, a.ok r c1 e h fun σ1 ρ1 e1 l1 f1 h1 => ?_⟩
      refine b.ok r cr e1 h1 fun σ2 ρ2 e2 l2 f2 h2 => ?_
      exact q σ2 ρ2 e2 (l2.trans l1) (fun i hi => (f2 i fun m => hi (List.mem_append_right _ m)).trans (f1 i fun m => hi (List.mem_append_left _ m))) h2
theorem rcs_d {K : Fg} {M : Ms} {H : Hp} {α : List Addr} : ∀ {xs : List V} {ds : List PyData}, Das K M H xs ds → Rcs K M H α xs (ds.map Cv.d)
  | _, _, .nil => .nil
  | _, _, .cons a t => .cons a (rcs_d t)
theorem das_d {K : Fg} {M : Ms} {H : Hp} {α : List Addr} : ∀ {ds : List PyData} {xs : List V}, Rcs K M H α xs (ds.map Cv.d) → Das K M H xs ds
  | [], _, .nil => .nil
  | d :: ds, _, .cons a t => .cons a (das_d t)
def tupD (s : Cv) (K : List PyData → Prop) : Prop := match s with
  | .d (.tuple ds) => K ds
  | _ => False
/-- the items of a tuple -/
def tupC (C : Cs) (s : Cv) (K : List Cv → Prop) : Prop := match s with
  | .d (.tuple ds) => K (ds.map .d)
  | .c n => (match C[n]? with
    | some (.tpl ss) => K ss
    | _ => False)
  | _ => False
theorem tupC_of {k : Kx} {B α : List Addr} {C : Cs} {H : Hp} (r : Rep k B α C H) {v : V} {s : Cv} (h : Rc k.K (ms B α C) H α v s) {K : List Cv → Prop} (q : tupC C s K) : ∃ p xs ss, v = .ref p ∧ SqT k.K H p xs ∧ Rcs k.K (ms B α C) H α xs ss ∧ K ss := by
  cases s with
  | v x => exact q.elim
  | d x =>
    cases x <;> try exact q.elim
    obtain ⟨p, xs, rfl, hp, hx⟩ := Da.tup_inv h
    exact ⟨p, xs, _, rfl, hid_t hp, rcs_d hx, q⟩
  | c n =>
    obtain ⟨p, hp, rfl⟩ := h
    unfold tupC at q
    dsimp only at q
    cases e : C[n]? with
    | none => rw [e] at q; exact q.elim
    | some c =>
      rw [e] at q
      cases c <;> try exact q.elim
      obtain ⟨xs, h1, h2⟩ := r.at_ n p _ hp e
      exact ⟨p, xs, _, rfl, .inl (.inl h1), h2, q⟩
def xgTup (a : XGs) : XG where
  tg k := gTup k.K a.len (a.tg k)
  ns := a.ns
  wp C s ρ P := tupC C s fun ss => chk (Nat.beq ss.length a.len) (a.wp C ss ρ P)
  ok r c e h q := by
    obtain ⟨p, xs, ss, rfl, hp, hx, h⟩ := tupC_of r c h
    obtain ⟨hl, h⟩ := chk_of h
    have hl := Nat.eq_of_beq_eq_true hl
    exact ⟨p, xs, rfl, hp, (Rcs.len hx).trans hl, a.ok r hx e h q⟩
/-- a list is unpacked -/
def xgUnl (a : XGs) : XG where
  tg k := gUnl k.K a.len (a.tg k)
  ns := a.ns
  wp C s ρ P := rd C s fun d => isL d fun ds => chk (Nat.beq ds.length a.len) (a.wp C (ds.map .d) ρ P)
  ok r c e h q := by
    obtain ⟨d, hd, h⟩ := rd_dt r c h
    obtain ⟨ds, rfl, h⟩ := isL_of h
    obtain ⟨hl, h⟩ := chk_of h
    have hl := Nat.eq_of_beq_eq_true hl
    obtain ⟨p, xs, rfl, hp, hx⟩ := hd.list_inv
    rw [hid_nil] at hp
    exact ⟨p, xs, rfl, hp, (Das.len hx).trans hl, a.ok r (rcs_d hx) e h q⟩

/-! ### what is walked -/
def Yd (k : Kx) (J : It) (ds : List Cv) (keep : Cs → Prop) (B α : List Addr) (C : Cs) (H : Hp) : Prop :=
  ∀ B' α' C' H', Em B α C H B' α' C' H' → Rep k B' α' C' H' → keep C' → (∀ (i : Nat) s, ds[i]? = some s → J.go i H' ∧ ∀ x H'', J.yld i H' x H'' → Ex H' H'' ∧ Rc k.K (ms B' α' C') H'' α' x s) ∧ J.stop ds.length H'
structure XI where
  wi : Kx → WX → TI
  wp : Xp → Rv → Cs → (List Cv → (Cs → Prop) → Cs → Prop) → Prop
  ok : ∀ {k B α C H σ ρ W X P R}, Wd k B α C H σ ρ W X → wp X ρ C P → (∀ J ds keep α' C' H', To B α C H α' C' H' → Rep k B α' C' H' → P ds keep C' → Yd k J ds keep B α' C' H' → R J H') → wi k W σ H R
/-- the items of a value -/
def itV (C : Cs) (s : Cv) (K : List Cv → (Cs → Prop) → Prop) : Prop := match s with
  | .d (.list ds) => K (ds.map .d) fun _ => True
  | .d (.tuple ds) => K (ds.map .d) fun _ => True
  | .d (.str x) => K (x.cps.toList.map fun c => .d (.str ⟨#[c]⟩)) fun _ => True
  | .c n => (match C[n]? with
    | some (.lst ds) => K (ds.map .d) fun C' => C'[n]? = some (.lst ds)
    | some (.rfs ss) => K ss fun C' => C'[n]? = some (.rfs ss)
    | some (.frz (.list ds)) => K (ds.map .d) fun _ => True
    | some (.tpl ss) => K ss fun C' => C'[n]? = some (.tpl ss)
    | _ => False)
  | _ => False
section
variable {k : Kx} {B B' α α' : List Addr} {C C' : Cs} {H H' : Hp}
theorem yd_list {a : Addr} {ds : List PyData} (h : Da k.K (ms B α C) H (.ref a) (.list ds)) : Yd k (Itl k.K a) (ds.map .d) (fun _ => True) B α C H := fun B' α' C' H' e r _ => by
  have h' : Da k.K (ms B' α' C') H' (.ref a) (.list ds) := dp_ex e.hid _ _ h
  obtain ⟨a', xs, ea, hr, hx⟩ := Da.list_inv h'
  cases ea
  have sq : SqL k.K H' a xs := hid_l hr
  refine ⟨fun i s hs => ?_, xs, sq, by rw [Das.len hx, List.length_map]; exact Nat.le_refl _⟩
  rw [List.getElem?_map] at hs
  cases hd : ds[i]? with
  | none => rw [hd] at hs; cases hs
  | some d =>
    rw [hd] at hs
    cases hs
    obtain ⟨v, hv, dv⟩ := Das.get hx hd
    refine ⟨⟨xs, v, sq, hv⟩, fun x H'' hy => ?_⟩
    obtain ⟨rfl, hy⟩ := hy
    have := (hy xs sq).symm.trans hv
    cases this
    exact ⟨Ex.refl _, dv⟩
theorem yd_cell {a : Addr} {n : Nat} {ds : List PyData} (ha : α[n]? = some a) : Yd k (Itl k.K a) (ds.map .d) (fun C' => C'[n]? = some (.lst ds)) B α C H := fun B' α' C' H' e r kp => by
  have ha' : α'[n]? = some a := by
    obtain ⟨f, rfl⟩ := e.ex
    rw [List.getElem?_append_left (List.getElem?_eq_some_iff.mp ha).1]; exact ha
  obtain ⟨xs, hp, hx⟩ := r.at_ n a _ ha' kp
  have sq : SqL k.K H' a xs := .inl (.inl hp)
  refine ⟨fun i s hs => ?_, xs, sq, by rw [Das.len hx, List.length_map]; exact Nat.le_refl _⟩
  rw [List.getElem?_map] at hs
  cases hd : ds[i]? with
  | none => rw [hd] at hs; cases hs
  | some d =>
    rw [hd] at hs
    cases hs
    obtain ⟨v, hv, dv⟩ := Das.get hx hd
    refine ⟨⟨xs, v, sq, hv⟩, fun x H'' hy => ?_⟩
    obtain ⟨rfl, hy⟩ := hy
    have := (hy xs sq).symm.trans hv
    cases this
    exact ⟨Ex.refl _, dv⟩
theorem Rcs.get1 {K : Fg} {M : Ms} {vs : List V} {ss : List Cv} (h : Rcs K M H α vs ss) : ∀ {i : Nat} {s}, ss[i]? = some s → ∃ v, vs[i]? = some v ∧ Rc K M H α v s := by
  induction h with
  | nil => intro i s e; simp at e
  | cons a _ ih =>
    intro i s e
    cases i with
    | zero => simp at e; subst e; exact ⟨_, rfl, a⟩
    | succ i => obtain ⟨v, h1, h2⟩ := ih (i := i) (by simpa using e); exact ⟨v, by simpa using h1, h2⟩
theorem yd_refs {a : Addr} {n : Nat} {ss : List Cv} (ha : α[n]? = some a) : Yd k (Itl k.K a) ss (fun C' => C'[n]? = some (.rfs ss)) B α C H := fun B' α' C' H' e r kp => by
  have ha' : α'[n]? = some a := by
    obtain ⟨f, rfl⟩ := e.ex
    rw [List.getElem?_append_left (List.getElem?_eq_some_iff.mp ha).1]; exact ha
  obtain ⟨xs, hp, hx⟩ := r.at_ n a _ ha' kp
  have sq : SqL k.K H' a xs := .inl (.inl hp)
  refine ⟨fun i s hs => ?_, xs, sq, by rw [Rcs.len hx]; exact Nat.le_refl _⟩
  obtain ⟨v, hv, dv⟩ := hx.get1 hs
  refine ⟨⟨xs, v, sq, hv⟩, fun x H'' hy => ?_⟩
  obtain ⟨rfl, hy⟩ := hy
  have := (hy xs sq).symm.trans hv
  cases this
  exact ⟨Ex.refl _, dv⟩
theorem yd_tpl {a : Addr} {n : Nat} {ss : List Cv} (ha : α[n]? = some a) : Yd k (Itt k.K a) ss (fun C' => C'[n]? = some (.tpl ss)) B α C H := fun B' α' C' H' e r kp => by
  have ha' : α'[n]? = some a := by
    obtain ⟨f, rfl⟩ := e.ex
    rw [List.getElem?_append_left (List.getElem?_eq_some_iff.mp ha).1]; exact ha
  obtain ⟨xs, hp, hx⟩ := r.at_ n a _ ha' kp
  have sq : SqT k.K H' a xs := .inl (.inl hp)
  refine ⟨fun i s hs => ?_, xs, sq, by rw [Rcs.len hx]; exact Nat.le_refl _⟩
  obtain ⟨v, hv, dv⟩ := hx.get1 hs
  refine ⟨⟨xs, v, sq, hv⟩, fun x H'' hy => ?_⟩
  obtain ⟨rfl, hy⟩ := hy
  have := (hy xs sq).symm.trans hv
  cases this
  exact ⟨Ex.refl _, dv⟩
theorem yd_tup {a : Addr} {ds : List PyData} (h : Da k.K (ms B α C) H (.ref a) (.tuple ds)) : Yd k (Itt k.K a) (ds.map .d) (fun _ => True) B α C H := fun B' α' C' H' e r _ => by
  have h' : Da k.K (ms B' α' C') H' (.ref a) (.tuple ds) := dp_ex e.hid _ _ h
  obtain ⟨a', xs, ea, hr, hx⟩ := Da.tup_inv h'
  cases ea
  have sq : SqT k.K H' a xs := hid_t hr
  refine ⟨fun i s hs => ?_, xs, sq, by rw [Das.len hx, List.length_map]; exact Nat.le_refl _⟩
  rw [List.getElem?_map] at hs
  cases hd : ds[i]? with
  | none => rw [hd] at hs; cases hs
  | some d =>
    rw [hd] at hs
    cases hs
    obtain ⟨v, hv, dv⟩ := Das.get hx hd
    refine ⟨⟨xs, v, sq, hv⟩, fun x H'' hy => ?_⟩
    obtain ⟨rfl, hy⟩ := hy
    have := (hy xs sq).symm.trans hv
    cases this
    exact ⟨Ex.refl _, dv⟩
theorem yd_str {x : Str} : Yd k (Its x) (x.cps.toList.map fun c => .d (.str ⟨#[c]⟩)) (fun _ => True) B α C H := fun B' α' C' H' e r _ => by
  refine ⟨fun i s hs => ?_, by show x.cps.size ≤ _; simp⟩
  rw [List.getElem?_map] at hs
  cases hc : x.cps.toList[i]? with
  | none => rw [hc] at hs; cases hs
  | some c =>
    rw [hc] at hs
    cases hs
    have e' : x.cps[i]? = some c := by simpa using hc
    refine ⟨by show i < x.cps.size; exact (Array.getElem?_eq_some_iff.mp e').1, fun y H'' hy => ?_⟩
    obtain ⟨rfl, c', h1, rfl⟩ := hy
    rw [e'] at h1; cases h1
    exact ⟨Ex.refl _, Dq.str _⟩
theorem yd_rng {lo : Int} {n : Nat} : Yd k (Itr lo n) ((List.range n).map fun (j : Nat) => .d (.int (lo + (j : Int)))) (fun _ => True) B α C H := fun B' α' C' H' e r _ => by
  refine ⟨fun i s hs => ?_, by show n ≤ _; simp⟩
  rw [List.getElem?_map] at hs
  by_cases hi : i < n
  · rw [List.getElem?_range hi] at hs
    cases hs
    refine ⟨hi, fun y H'' hy => ?_⟩
    obtain ⟨rfl, rfl⟩ := hy
    exact ⟨Ex.refl _, Dq.int _⟩
  · rw [List.getElem?_eq_none (by simp; omega)] at hs; cases hs
end
def xiSeq (a : XE) : XI where
  wi k W := iSeq k.K (a.te k W)
  wp X ρ C P := a.wp X ρ C fun s C1 => itV C1 s fun ds keep => P ds keep C1
  ok w h q := a.ok w h fun v H1 s α1 C1 t1 r1 c1 p1 => by
    cases s with
    | v x => exact p1.elim
    | d x =>
      cases x <;> try exact p1.elim
      · have e := Da.str_inv c1
        subst e
        exact .inr (.inr ⟨_, rfl, q _ _ _ _ _ _ t1 r1 p1 yd_str⟩)
      · obtain ⟨b, xs, rfl, hb, hx⟩ := Da.list_inv c1
        exact .inl ⟨b, rfl, ⟨xs, hid_l hb⟩, q _ _ _ _ _ _ t1 r1 p1 (yd_list c1)⟩
      · obtain ⟨b, xs, rfl, hb, hx⟩ := Da.tup_inv c1
        exact .inr (.inl ⟨b, rfl, ⟨xs, hid_t hb⟩, q _ _ _ _ _ _ t1 r1 p1 (yd_tup c1)⟩)
    | c n =>
      obtain ⟨b, hb, rfl⟩ := c1
      unfold itV at p1
      dsimp only at p1
      cases e : C1[n]? with
      | none => rw [e] at p1; exact p1.elim
      | some c =>
        rw [e] at p1
        have hc := r1.at_ n b c hb e
        cases c with
        | lst ds =>
          obtain ⟨xs, h1, h2⟩ := hc
          exact .inl ⟨b, rfl, ⟨xs, .inl (.inl h1)⟩, q _ _ _ _ _ _ t1 r1 p1 (yd_cell hb)⟩
        | rfs ss =>
          obtain ⟨xs, h1, h2⟩ := hc
          exact .inl ⟨b, rfl, ⟨xs, .inl (.inl h1)⟩, q _ _ _ _ _ _ t1 r1 p1 (yd_refs hb)⟩
        | frz d =>
          cases d <;> try exact p1.elim
          obtain ⟨b', xs, eb, hr, hx⟩ := Da.list_inv hc.2.2
          cases eb
          exact .inl ⟨b, rfl, ⟨xs, hid_l hr⟩, q _ _ _ _ _ _ t1 r1 p1 (yd_list hc.2.2)⟩
        | box _ _ => exact p1.elim
        | obj _ _ => exact p1.elim
        | dk _ => exact p1.elim
        | lk _ _ => exact p1.elim
        | exc _ _ => exact p1.elim
        | tpl ss =>
          obtain ⟨xs, h1, h2⟩ := hc
          exact .inr (.inl ⟨b, rfl, ⟨xs, .inl (.inl h1)⟩, q _ _ _ _ _ _ t1 r1 p1 (yd_tpl hb)⟩)
def rngV (lo : Int) (n : Nat) : List Cv := (List.range n).map fun (j : Nat) => .d (.int (lo + (j : Int)))
def xiRng1 (a : XE) : XI where
  wi k W := iRng1 (tCons (a.te k W) tNil)
  wp X ρ C P := a.wp X ρ C fun s C1 => isI s fun n => (-(2 ^ 62) ≤ n ∧ n < 2 ^ 62) ∧ P (rngV 0 n.toNat) (fun _ => True) C1
  ok w h q := a.ok w h fun v H1 s α1 C1 t1 r1 c1 p1 => by
    obtain ⟨n, rfl, hb, p1⟩ := isI_of p1
    have e := Da.int_inv c1
    subst e
    exact ⟨n, rfl, hb.1, hb.2, q _ _ _ _ _ _ t1 r1 p1 yd_rng⟩
def xiRng2 (a b : XE) : XI where
  wi k W := iRng2 (tCons (a.te k W) (tCons (b.te k W) tNil))
  wp X ρ C P := a.wp X ρ C fun s C1 => b.wp X ρ C1 fun t C2 => isI s fun m => isI t fun n => (-(2 ^ 62) ≤ m ∧ m < 2 ^ 62 ∧ -(2 ^ 62) ≤ n ∧ n < 2 ^ 62) ∧ P (rngV m (n - m).toNat) (fun _ => True) C2
  ok w h q := a.ok w h fun v H1 s α1 C1 t1 r1 c1 p1 => b.ok (w.to t1 r1) p1 fun u H2 s2 α2 C2 t2 r2 c2 p2 => by
    obtain ⟨m, e1, p4⟩ := isI_of p2
    obtain ⟨n, e2, hb, p5⟩ := isI_of p4
    subst e1
    subst e2
    have e := Da.int_inv c1
    subst e
    have e := Da.int_inv c2
    subst e
    exact ⟨m, n, rfl, hb, q _ _ _ _ _ _ (t1.trans t2) r2 p5 yd_rng⟩
end DL
set_option maxRecDepth 100000
namespace DL
open PySem L2

/-! ### less is known of the cells -/
def RenV (f : List Nat) : Cv → Cv → Prop
  | .d x, .d y => x = y
  | .v x, .v y => x = y
  | .c i, .c j => f[j]? = some i
  | _, _ => False
def RenVs (f : List Nat) : List Cv → List Cv → Prop
  | [], [] => True
  | a :: s, b :: t => RenV f a b ∧ RenVs f s t
  | _, _ => False
def RenFs {κ : Type} (f : List Nat) : List (κ × Cv) → List (κ × Cv) → Prop
  | [], [] => True
  | a :: s, b :: t => a.1 = b.1 ∧ RenV f a.2 b.2 ∧ RenFs f s t
  | _, _ => False
def RenC (f : List Nat) : Cell → Cell → Prop
  | .lst x, .lst y => x = y
  | .frz x, .frz y => x = y
  | .box l n, .box l' m => l = l' ∧ n ≤ m
  | .lst ds, .box l n => ∃ (x y : Int) (d : PyData), ds = [.int x, d, .int y] ∧ boxD l d ∧ 0 ≤ x ∧ 0 ≤ y ∧ y ≤ n
  | .rfs x, .rfs y => RenVs f x y
  | .obj c x, .obj d y => c = d ∧ RenVs f x y
  | .dk x, .dk y => RenFs f x y
  | .lk l x, .lk l' y => l = l' ∧ RenFs f x y
  | .exc c x, .exc d y => c = d ∧ RenFs f x y
  | .tpl x, .tpl y => RenVs f x y
  | _, _ => False
def RenO (f : List Nat) : Option Cv → Option Cv → Prop
  | _, none => True
  | some a, some b => RenV f a b
  | none, some _ => False
def WkR (f : List Nat) : Rv → Rv → Prop
  | [], [] => True
  | a :: s, b :: t => RenO f a b ∧ WkR f s t
  | _, _ => False
/-- the cells of C that f names are those of C' -/
def WkC (f : List Nat) (C : Cs) : List Nat → Cs → Prop
  | [], [] => True
  | i :: g, c' :: C' => (match C[i]? with
    | some c => RenC f c c'
    | none => False) ∧ WkC f C g C'
  | _, _ => False
structure Wk (n0 : Nat) (f : List Nat) (C C' : Cs) : Prop where
  nd : f.Nodup
  fx : f.take n0 = List.range n0
  wk : WkC f C f C'
section
variable {k : Kx} {B α α' : List Addr} {C C' : Cs} {H H' : Hp} {σ : L2.St} {ρ ρ' : Rv} {f : List Nat}
theorem WkC.len {g : List Nat} : ∀ {C' : Cs}, WkC f C g C' → g.length = C'.length := by
  induction g with
  | nil =>
    intro C' h
    cases C' with
    | nil => rfl
    | cons c C' => exact False.elim h
  | cons i g ih =>
    intro C' h
    cases C' with
    | nil => exact False.elim h
    | cons c C' => rw [List.length_cons, List.length_cons, ih h.2]
theorem WkC.get {g : List Nat} : ∀ {C' : Cs}, WkC f C g C' → ∀ {j i : Nat}, g[j]? = some i → ∃ c c', C[i]? = some c ∧ C'[j]? = some c' ∧ RenC f c c' := by
  induction g with
  | nil => intro C' h j i e; simp at e
  | cons i0 g ih =>
    intro C' h j i e
    cases C' with
    | nil => exact False.elim h
    | cons c0 C' =>
      cases j with
      | zero =>
        simp at e; subst e
        have h1 := h.1
        cases q : C[i0]? with
        | none => rw [q] at h1; exact h1.elim
        | some c => rw [q] at h1; exact ⟨c, c0, rfl, rfl, h1⟩
      | succ j =>
        obtain ⟨c, c', h1, h2, h3⟩ := ih h.2 (j := j) (by simpa using e)
        exact ⟨c, c', h1, by simpa using h2, h3⟩
/-- the places by f -/
def pick (f : List Nat) (α : List Addr) : List Addr := f.filterMap fun i => α[i]?
theorem pick_get : ∀ {f : List Nat}, (∀ i ∈ f, i < α.length) → ∀ (j : Nat), (pick f α)[j]? = (f[j]?).bind fun i => α[i]?
  | [], _, j => by simp [pick]
  | i :: f, h, j => by
    have hi := h i List.mem_cons_self
    have e : pick (i :: f) α = α[i] :: pick f α := by
      unfold pick
      rw [List.filterMap_cons, List.getElem?_eq_getElem hi]
    rw [e]
    cases j with
    | zero => simp [List.getElem?_eq_getElem hi]
    | succ j =>
      have := pick_get (f := f) (fun i m => h i (List.mem_cons_of_mem _ m)) j
      simpa using this
theorem pick_len (h : ∀ i ∈ f, i < α.length) : (pick f α).length = f.length := by
  induction f with
  | nil => rfl
  | cons i f ih =>
    have hi := h i List.mem_cons_self
    unfold pick at ih ⊢
    rw [List.filterMap_cons, List.getElem?_eq_getElem hi]
    show _ + 1 = _ + 1
    rw [ih fun i m => h i (List.mem_cons_of_mem _ m)]
theorem Rc.ren {K : Fg} {M : Ms} (hf : ∀ i ∈ f, i < α.length) {v : V} {s t : Cv} (h : Rc K M H α v s) (r : RenV f s t) : Rc K M H (pick f α) v t := by
  cases s <;> cases t <;> try exact r.elim
  · cases (show _ = _ from r); exact h
  · cases (show _ = _ from r); exact h
  · rename_i i j
    have r : f[j]? = some i := r
    obtain ⟨a, h1, h2⟩ := h
    exact ⟨a, by rw [pick_get hf, r]; exact h1, h2⟩
theorem Rcs.ren {K : Fg} {M : Ms} (hf : ∀ i ∈ f, i < α.length) {vs : List V} {ss : List Cv} (h : Rcs K M H α vs ss) : ∀ {ts : List Cv}, RenVs f ss ts → Rcs K M H (pick f α) vs ts := by
  induction h with
  | nil => intro ts r; cases ts with
    | nil => exact .nil
    | cons _ _ => exact r.elim
  | cons a _ ih => intro ts r; cases ts with
    | nil => exact r.elim
    | cons _ _ => exact .cons (a.ren hf r.1) (ih r.2)
theorem Rfs.ren {κ : Type} {K : Fg} {M : Ms} (hf : ∀ i ∈ f, i < α.length) {vs : List (κ × V)} {ss : List (κ × Cv)} (h : Rfs K M H α vs ss) : ∀ {ts : List (κ × Cv)}, RenFs f ss ts → Rfs K M H (pick f α) vs ts := by
  induction h with
  | nil => intro ts r; cases ts with
    | nil => exact .nil
    | cons _ _ => exact r.elim
  | cons a _ ih => intro ts r; cases ts with
    | nil => exact r.elim
    | cons t _ =>
      obtain ⟨f', s'⟩ := t
      cases (show _ = _ from r.1)
      exact .cons (a.ren hf r.2.1) (ih r.2.2)
theorem Rc.mono {K : Fg} {M N : Ms} (s : ∀ a, a ∈ M.h → a ∈ N.h) {v : V} {t : Cv} (h : Rc K N H α v t) : Rc K M H α v t := by
  cases t with
  | d x => exact Da.mono s h
  | v x => exact h
  | c n => exact h
theorem Rcs.mono {K : Fg} {M N : Ms} (s : ∀ a, a ∈ M.h → a ∈ N.h) {v : List V} {t : List Cv} (h : Rcs K N H α v t) : Rcs K M H α v t := by
  induction h with
  | nil => exact .nil
  | cons a _ ih => exact .cons (a.mono s) ih
theorem Rfs.mono {κ : Type} {K : Fg} {M N : Ms} (s : ∀ a, a ∈ M.h → a ∈ N.h) {v : List (κ × V)} {t : List (κ × Cv)} (h : Rfs K N H α v t) : Rfs K M H α v t := by
  induction h with
  | nil => exact .nil
  | cons a _ ih => exact .cons (a.mono s) ih
theorem RenFs.nil {κ : Type} {f : List Nat} {x y : List (κ × Cv)} (h : RenFs f x y) (e : x = []) : y = [] := by
  subst e
  cases y with
  | nil => rfl
  | cons _ _ => exact h.elim
theorem RenC.isF {c c' : Cell} (h : RenC f c c') : c.isF = c'.isF := by cases c <;> cases c' <;> first | rfl | exact h.elim
theorem CellAt.ren {M N : Ms} (hf : ∀ i ∈ f, i < α.length) (s : ∀ a, a ∈ M.h → a ∈ N.h) {a : Addr} {c c' : Cell} (h : CellAt k N H α a c) (r : RenC f c c') : CellAt k M H (pick f α) a c' := by
  cases c <;> cases c' <;> try exact r.elim
  · cases (show _ = _ from r)
    obtain ⟨xs, h1, h2⟩ := h
    exact ⟨xs, h1, Das.mono s h2⟩
  · obtain ⟨x, y, d, rfl, h3, h4⟩ := r
    obtain ⟨xs, h1, h2⟩ := h
    cases h2 with | cons a t => cases t with | cons b t => cases t with | cons c t => cases t; cases a; cases c; exact ⟨x, y, _, d, h1, Da.mono s b, h3, h4⟩
  · obtain ⟨xs, h1, h2⟩ := h
    exact ⟨xs, h1, (h2.mono s).ren hf r⟩
  · cases (show _ = _ from r)
    exact ⟨fun m => h.1 (s _ m), h.2.1, Da.mono s h.2.2⟩
  · obtain ⟨x, y, v, d, h1, h2, h3, h4, h5, h6⟩ := h
    obtain ⟨rfl, r⟩ := r
    exact ⟨x, y, v, d, h1, Da.mono s h2, h3, h4, h5, by omega⟩
  · obtain ⟨dx, vs, h1, h2, h3, h4⟩ := h
    cases (show _ = _ from r.1)
    have g := (h2.mono s).ren hf r.2
    exact ⟨dx, vs, h1, g, by rw [← Rcs.len g, Rcs.len h2]; exact h3, h4⟩
  · obtain ⟨vs, h1, h2, h3⟩ := h
    exact ⟨vs, h1, (h2.mono s).ren hf r, h3⟩
  · obtain ⟨h1, h2, h3⟩ := h
    obtain ⟨e1, r⟩ := r
    subst e1
    exact ⟨h1, (h2.mono s).ren hf r, h3⟩
  · obtain ⟨d, h1, h2⟩ := h
    obtain ⟨e1, r⟩ := r
    subst e1
    refine ⟨d, h1, ?_⟩
    rcases h2 with ⟨g1, g2⟩ | ⟨dd, vs, g1, g2, g3⟩
    · exact .inl ⟨RenFs.nil r g1, g2⟩
    · exact .inr ⟨dd, vs, g1, hid_mono s H _ _ g2, (g3.mono s).ren hf r⟩
  · obtain ⟨xs, h1, h2⟩ := h
    exact ⟨xs, h1, (h2.mono s).ren hf r⟩
theorem WkR.len : ∀ {ρ ρ' : Rv}, WkR f ρ ρ' → ρ.length = ρ'.length
  | [], [], _ => rfl
  | _ :: _, _ :: _, h => by rw [List.length_cons, List.length_cons, WkR.len h.2]
theorem WkR.get : ∀ {ρ ρ' : Rv}, WkR f ρ ρ' → ∀ {i : Nat} {t : Cv}, ρ'[i]? = some (some t) → ∃ s, ρ[i]? = some (some s) ∧ RenV f s t
  | [], [], _, i, t, e => by simp at e
  | a :: ρ, b :: ρ', h, 0, t, e => by
    simp at e; subst e
    cases a with
    | none => exact h.1.elim
    | some s => exact ⟨s, rfl, h.1⟩
  | a :: ρ, b :: ρ', h, i + 1, t, e => by
    obtain ⟨s, h1, h2⟩ := WkR.get h.2 (i := i) (by simpa using e)
    exact ⟨s, by simpa using h1, h2⟩
theorem wk_lt (r : Rep k B α C H) (w : WkC f C f C') : ∀ i ∈ f, i < α.length := fun i m => by
  obtain ⟨j, hj⟩ := List.getElem?_of_mem m
  obtain ⟨c, c', h1, _, _⟩ := w.get hj
  rw [r.len]; exact (List.getElem?_eq_some_iff.mp h1).1
theorem wk_live (r : Rep k B α C H) (w : WkC f C f C') : ∀ a, a ∈ live (pick f α) C' → a ∈ live α C := fun a m => by
  obtain ⟨j, c', h1, h2, h3⟩ := live_mem.mp m
  rw [pick_get (wk_lt r w)] at h1
  cases e : f[j]? with
  | none => rw [e] at h1; cases h1
  | some i =>
    rw [e] at h1
    obtain ⟨c, c2, q1, q2, q3⟩ := w.get e
    rw [h2] at q2
    cases q2
    exact live_mem.mpr ⟨i, c, h1, q1, by rw [q3.isF]; exact h3⟩
theorem wk_h (r : Rep k B α C H) (w : WkC f C f C') : ∀ a, a ∈ (ms B (pick f α) C').h → a ∈ (ms B α C).h := fun a m => ms_h.mpr ((ms_h.mp m).imp (wk_live r w a) id)
theorem Rep.ren (r : Rep k B α C H) (nd : f.Nodup) (w : WkC f C f C') : Rep k B (pick f α) C' H := by
  have lt := wk_lt r w
  have hs := wk_h r w
  refine ⟨by rw [pick_len lt, w.len], ?_, fun a m => ?_, fun a m => r.md a (hs a m), fun j a c' h1 h2 => ?_⟩
  · refine List.pairwise_iff_getElem.mpr fun i j hi hj hij e => ?_
    have h1 : (pick f α)[i]? = some (pick f α)[i] := List.getElem?_eq_getElem hi
    have h2 : (pick f α)[j]? = some (pick f α)[j] := List.getElem?_eq_getElem hj
    rw [pick_get lt] at h1 h2
    rw [← e] at h2
    cases e1 : f[i]? with
    | none => rw [e1] at h1; cases h1
    | some a =>
      cases e2 : f[j]? with
      | none => rw [e2] at h2; cases h2
      | some b =>
        rw [e1] at h1
        rw [e2] at h2
        have q := nd_ix r.nd h1 h2
        subst q
        have := nd_ix nd e1 e2
        omega
  · obtain ⟨i, _, h⟩ := List.mem_filterMap.mp m
    exact r.nb a (List.mem_of_getElem? h)
  · rw [pick_get lt] at h1
    cases e : f[j]? with
    | none => rw [e] at h1; cases h1
    | some i =>
      rw [e] at h1
      obtain ⟨c, c2, q1, q2, q3⟩ := w.get e
      rw [h2] at q2
      cases q2
      exact (r.at_ i a c h1 q1).ren lt hs q3
theorem En.ren (r : Rep k B α C H) (w : WkC f C f C') (e : En k B α C H σ ρ) (h : WkR f ρ ρ') : En k B (pick f α) C' H σ ρ' := ⟨e.1.trans h.len, fun i t q => by
  obtain ⟨s, h1, h2⟩ := h.get q
  obtain ⟨v, h3, h4⟩ := e.2 i s h1
  exact ⟨v, h3, (h4.mono (wk_h r w)).ren (wk_lt r w) h2⟩⟩
/-- from an earlier point on to the lesser knowledge -/
theorem To.wk {α0 : List Addr} {C0 : Cs} {H0 : Hp} {n0 : Nat} (t : To B α0 C0 H0 α C H) (hn : α0.length = n0) (r : Rep k B α C H) (w : Wk n0 f C C') : To B α0 C0 H0 (pick f α) C' H := by
  have lt := wk_lt r w.wk
  refine ⟨⟨fun a m => r.md a (wk_h r w.wk a m), t.st.go, fun a m => t.st.nw a (wk_live r w.wk a m)⟩, ?_⟩
  obtain ⟨e, rfl, hne⟩ := t.ex
  have e1 : f = List.range n0 ++ f.drop n0 := by rw [← w.fx, List.take_append_drop]
  have e2 : pick (List.range n0) (α0 ++ e) = α0 := by
    apply List.ext_getElem?
    intro j
    rw [pick_get (fun i m => by rw [List.length_append, hn]; have := List.mem_range.mp m; omega)]
    by_cases hj : j < n0
    · rw [List.getElem?_range hj]
      exact List.getElem?_append_left (by omega)
    · rw [List.getElem?_eq_none (by simp; omega), List.getElem?_eq_none (by omega)]; rfl
  refine ⟨pick (f.drop n0) (α0 ++ e), ?_, fun a m => ?_⟩
  · calc pick f (α0 ++ e) = pick (List.range n0 ++ f.drop n0) (α0 ++ e) := by rw [← e1]
      _ = pick (List.range n0) (α0 ++ e) ++ pick (f.drop n0) (α0 ++ e) := List.filterMap_append
      _ = _ := by rw [e2]
  · obtain ⟨i, hi, h⟩ := List.mem_filterMap.mp m
    have ni : n0 ≤ i := by
      refine Nat.le_of_not_lt fun q => ?_
      have nd := w.nd
      rw [e1] at nd
      exact (List.nodup_append.mp nd).2.2 i (List.mem_range.mpr q) i hi rfl
    rw [List.getElem?_append_right (by omega)] at h
    exact hne a (List.mem_of_getElem? h)
end
/-- by some lesser knowledge -/
@[irreducible] def wkn (n0 : Nat) (r : Rv) (c : Cs) (K : Rv → Cs → Prop) : Prop := ∃ f r' c', Wk n0 f c c' ∧ WkR f r r' ∧ K r' c'

/-! ### statements -/
structure Pt where
  N : Rv → Cs → Prop
  R : Cv → Cs → Prop
  B : Rv → Cs → Prop
  C : Rv → Cs → Prop
structure Ks (k : Kx) (B α : List Addr) (C : Cs) (H : Hp) (P : Pt) (D : Ends) : Prop where
  nx : ∀ σ' H' ρ' α' C', To B α C H α' C' H' → Rep k B α' C' H' → En k B α' C' H' σ' ρ' → P.N ρ' C' → D.nx σ' H'
  rt : ∀ v H' s α' C', To B α C H α' C' H' → Rep k B α' C' H' → Rc k.K (ms B α' C') H' α' v s → P.R s C' → D.rt v H'
  bk : ∀ σ' H' ρ' α' C', To B α C H α' C' H' → Rep k B α' C' H' → En k B α' C' H' σ' ρ' → P.B ρ' C' → D.bk σ' H'
  ct : ∀ σ' H' ρ' α' C', To B α C H α' C' H' → Rep k B α' C' H' → En k B α' C' H' σ' ρ' → P.C ρ' C' → D.ct σ' H'
theorem Ks.to {k : Kx} {B α α' : List Addr} {C C' : Cs} {H H' : Hp} {P : Pt} {D : Ends} (d : Ks k B α C H P D) (t : To B α C H α' C' H') : Ks k B α' C' H' P D :=
  ⟨fun σ2 H2 ρ2 α2 C2 t2 => d.nx σ2 H2 ρ2 α2 C2 (t.trans t2), fun v H2 s α2 C2 t2 => d.rt v H2 s α2 C2 (t.trans t2), fun σ2 H2 ρ2 α2 C2 t2 => d.bk σ2 H2 ρ2 α2 C2 (t.trans t2), fun σ2 H2 ρ2 α2 C2 t2 => d.ct σ2 H2 ρ2 α2 C2 (t.trans t2)⟩
structure XS where
  ts : Kx → WX → TS
  wp : Xp → Rv → Cs → Pt → Prop
  ok : ∀ {k B α C H σ ρ W X P D}, Wd k B α C H σ ρ W X → wp X ρ C P → Ks k B α C H P D → ts k W D σ H
theorem wkn_mono {n0 : Nat} {r : Rv} {c : Cs} {K K' : Rv → Cs → Prop} (h : wkn n0 r c K) (k : ∀ r c, K r c → K' r c) : wkn n0 r c K' := by
  unfold wkn at h ⊢
  obtain ⟨f, r', c', w, wr, q⟩ := h
  exact ⟨f, r', c', w, wr, k _ _ q⟩
@[irreducible] def seqW (n0 : Nat) (A : Pt → Prop) (B : Rv → Cs → Prop) (P : Pt) : Prop := ∃ Mid : Rv → Cs → Prop, A ⟨Mid, P.R, P.B, P.C⟩ ∧ ∀ ρ' C', Mid ρ' C' → B ρ' C' ∨ wkn n0 ρ' C' B
def xsSeq (a b : XS) : XS where
  ts k W := tSeq (a.ts k W) (b.ts k W)
  wp X ρ C P := seqW C.length (a.wp X ρ C) (fun ρ' C' => b.wp X ρ' C' P) P
  ok {k B α C H σ ρ W X P D} w h d := by
    unfold seqW at h
    obtain ⟨Mid, h1, h2⟩ := h
    refine a.ok w h1 ⟨fun σ' H' ρ' α' C' t r e p => ?_, d.rt, d.bk, d.ct⟩
    rcases h2 ρ' C' p with p | p
    · exact b.ok ((w.to t r).slots e) p (d.to t)
    · unfold wkn at p
      obtain ⟨f, r2, c2, wk, wr, p⟩ := p
      have t2 := t.wk w.rep.len r wk
      have r3 := r.ren wk.nd wk.wk
      exact b.ok ((w.to t2 r3).slots (e.ren r wk.wk wr)) p (d.to t2)
def xsNext : XS where
  ts _ _ := tNext
  wp X ρ C P := P.N ρ C
  ok w h d := d.nx _ _ _ _ _ w.rep.refl w.rep w.en h
def xsBreak : XS where
  ts _ _ := tBreak
  wp X ρ C P := P.B ρ C
  ok w h d := d.bk _ _ _ _ _ w.rep.refl w.rep w.en h
def xsCont : XS where
  ts _ _ := tCont
  wp X ρ C P := P.C ρ C
  ok w h d := d.ct _ _ _ _ _ w.rep.refl w.rep w.en h
def xsAsg (a : XE) (g : XG) : XS where
  ts k W := tAsg (a.te k W) (g.tg k)
  wp X ρ C P := a.wp X ρ C fun s C1 => g.wp C1 s ρ fun ρ1 => P.N ρ1 C1
  ok w h d := a.ok w h fun v H1 s α1 C1 t1 r1 c1 p1 => g.ok r1 c1 (w.en.to t1) p1 fun σ' ρ' e _ _ p => d.nx σ' H1 ρ' α1 C1 t1 r1 e p
def xsRet (a : XE) : XS where
  ts k W := tRet (a.te k W)
  wp X ρ C P := a.wp X ρ C P.R
  ok w h d := a.ok w h d.rt
def xsRetN : XS where
  ts _ _ := tRetN
  wp X ρ C P := P.R (.d .none) C
  ok w h d := d.rt .non _ (.d .none) _ _ w.rep.refl w.rep Dq.non h
def xsDrop (a : XE) : XS where
  ts k W := tDrop (a.te k W)
  wp X ρ C P := a.wp X ρ C fun _ C1 => P.N ρ C1
  ok w h d := a.ok w h fun v H1 s α1 C1 t1 r1 c1 p1 => d.nx _ H1 _ α1 C1 t1 r1 (w.en.to t1) p1
def xsIf (c : XT) (a b : XS) : XS where
  ts k W := tIfS (c.tt k W) (a.ts k W) (b.ts k W)
  wp X ρ C P := c.wp X ρ C fun x C1 => cnd x (a.wp X ρ C1 P) (b.wp X ρ C1 P)
  ok w h d := c.ok w h fun x H1 α1 C1 t1 r1 p1 => by
    cases x with
    | true => exact a.ok (w.to t1 r1) p1 (d.to t1)
    | false => exact b.ok (w.to t1 r1) p1 (d.to t1)
/-- a, b = x, y -/
def two (ss : List Cv) (K : Cv → Cv → Prop) : Prop := match ss with
  | [a, b] => K a b
  | _ => False
def three (ss : List Cv) (K : Cv → Cv → Cv → Prop) : Prop := match ss with
  | [a, b, c] => K a b c
  | _ => False
def xsPar (i j : Nat) (a : XA) : XS where
  ts k W := tPar i j (a.ta k W)
  wp X ρ C P := a.wp X ρ C fun ss C1 => two ss fun s t => setK ρ i (some s) fun ρ1 => setK ρ1 j (some t) fun ρ2 => P.N ρ2 C1
  ok {k B α C H σ ρ W X P D} w h d := a.ok w h fun vs H1 ss α1 C1 t1 r1 c1 p1 => by
    cases c1 with
    | nil => exact p1.elim
    | cons c1 c2 =>
      cases c2 with
      | nil => exact p1.elim
      | cons c2 c3 =>
        cases c3 with
        | cons _ _ => exact p1.elim
        | nil => exact ⟨_, _, rfl, d.nx _ H1 _ α1 C1 t1 r1 (((w.en.to t1).set c1).set c2) (setK_of (K := fun ρ2 => P.N ρ2 C1) (setK_of (K := fun ρ1 => setK ρ1 j _ fun ρ2 => P.N ρ2 C1) p1))⟩
def xsPar3 (i j l : Nat) (a : XA) : XS where
  ts k W := tPar3 i j l (a.ta k W)
  wp X ρ C P := a.wp X ρ C fun ss C1 => three ss fun s t u => setK ρ i (some s) fun ρ1 => setK ρ1 j (some t) fun ρ2 => setK ρ2 l (some u) fun ρ3 => P.N ρ3 C1
  ok {k B α C H σ ρ W X P D} w h d := a.ok w h fun vs H1 ss α1 C1 t1 r1 c1 p1 => by
    cases c1 with
    | nil => exact p1.elim
    | cons c1 c2 =>
      cases c2 with
      | nil => exact p1.elim
      | cons c2 c3 =>
        cases c3 with
        | nil => exact p1.elim
        | cons c3 c4 =>
          cases c4 with
          | cons _ _ => exact p1.elim
          | nil => exact ⟨_, _, _, rfl, d.nx _ H1 _ α1 C1 t1 r1 ((((w.en.to t1).set c1).set c2).set c3) (setK_of (K := fun ρ3 => P.N ρ3 C1) (setK_of (K := fun ρ2 => setK ρ2 l _ fun ρ3 => P.N ρ3 C1) (setK_of (K := fun ρ1 => setK ρ1 j _ fun ρ2 => setK ρ2 l _ fun ρ3 => P.N ρ3 C1) p1)))⟩
/-! ### loops -/
def forWr (g : XG) (body : XS) (X : Xp) (keep : Cs → Prop) (n0 : Nat) : List Cv → Rv → Cs → Pt → Prop
  | [], ρ, C, P => keep C ∧ P.N ρ C
  | s :: ds, ρ, C, P => keep C ∧ g.wp C s ρ fun ρ2 => body.wp X ρ2 C ⟨fun r c => wkn n0 r c fun r' c' => forWr g body X keep n0 ds r' c' P, P.R, P.N, fun r c => wkn n0 r c fun r' c' => forWr g body X keep n0 ds r' c' P⟩
/-- by the same places, less may be known of what is in them -/
def wkS (n0 : Nat) (ρ : Rv) (C : Cs) (ρ' : Rv) (C' : Cs) : Prop := ∃ f, Wk n0 f C C' ∧ WkR f ρ ρ'
@[irreducible] def forW (g : XG) (body : XS) (X : Xp) (keep : Cs → Prop) (n0 : Nat) (ds : List Cv) (ρ : Rv) (C : Cs) (P : Pt) : Prop := forWr g body X keep n0 ds ρ C P ∨ ∃ ρ' C', wkS n0 ρ C ρ' C' ∧ forWr g body X keep n0 ds ρ' C' P
def xsFor (it : XI) (g : XG) (body : XS) : XS where
  ts k W := tFor (it.wi k W) (g.tg k) (body.ts k W)
  wp X ρ C P := it.wp X ρ C fun ds keep C1 => forW g body X keep C1.length ds ρ C1 P
  ok {k B α C H σ ρ W X P D} w h d := it.ok w h fun J ds keep α1 C1 H1 t1 r1 p1 Y => by
    unfold forW at p1
    have w1 := w.to t1 r1
    have hn : α1.length = C1.length := r1.len
    have start : ∃ ρ' α' C', To B α1 C1 H1 α' C' H1 ∧ Rep k B α' C' H1 ∧ En k B α' C' H1 σ ρ' ∧ forWr g body X keep C1.length ds ρ' C' P := by
      rcases p1 with p1 | ⟨ρ', C', ⟨f, wk, wr⟩, p1⟩
      · exact ⟨ρ, α1, C1, r1.refl, r1, w1.en, p1⟩
      · exact ⟨ρ', _, C', r1.refl.wk hn r1 wk, r1.ren wk.nd wk.wk, w1.en.ren r1 wk.wk wr, p1⟩
    obtain ⟨ρs, αs, Cs', ts, rs, es, p1⟩ := start
    refine ⟨fun i m σ' H' => m = ds.length - i ∧ i ≤ ds.length ∧ ∃ ρ' α' C', To B α1 C1 H1 α' C' H' ∧ Rep k B α' C' H' ∧ En k B α' C' H' σ' ρ' ∧ forWr g body X keep C1.length (ds.drop i) ρ' C' P, ⟨ds.length, by simp, Nat.zero_le _, ρs, αs, Cs', ts, rs, es, p1⟩, ?_⟩
    rintro i m σ' H' ⟨rfl, hi, ρ', α', C', t', r', e', f'⟩
    by_cases hlt : i < ds.length
    · have hd := List.getElem?_eq_getElem hlt
      rw [List.drop_eq_getElem_cons hlt] at f'
      obtain ⟨kp, gw⟩ := f'
      obtain ⟨y1, y2⟩ := Y B α' C' H' t'.em r' kp
      obtain ⟨go, yy⟩ := y1 i _ hd
      refine .inr ⟨go, fun σ2 H2 => i + 1 ≤ ds.length ∧ ∃ ρ2 α2 C2, To B α1 C1 H1 α2 C2 H2 ∧ Rep k B α2 C2 H2 ∧ En k B α2 C2 H2 σ2 ρ2 ∧ forWr g body X keep C1.length (ds.drop (i + 1)) ρ2 C2 P, fun σ2 H2 q => ⟨ds.length - (i + 1), by omega, rfl, q⟩, fun x H'' hy => ?_⟩
      obtain ⟨xx, cx⟩ := yy x H'' hy
      have t2 : To B α1 C1 H1 α' C' H'' := t'.trans (r'.ex xx)
      have r2 := r'.keep xx
      refine g.ok r2 cx (e'.to (r'.ex xx)) gw fun σ3 ρ3 e3 _ _ bw => ?_
      have wkn_ : ∀ σ4 H4 ρ4 α4 C4, To B α' C' H'' α4 C4 H4 → Rep k B α4 C4 H4 → En k B α4 C4 H4 σ4 ρ4 → (wkn C1.length ρ4 C4 fun r' c' => forWr g body X keep C1.length (ds.drop (i + 1)) r' c' P) →
          i + 1 ≤ ds.length ∧ ∃ ρ2 α2 C2, To B α1 C1 H1 α2 C2 H4 ∧ Rep k B α2 C2 H4 ∧ En k B α2 C2 H4 σ4 ρ2 ∧ forWr g body X keep C1.length (ds.drop (i + 1)) ρ2 C2 P := by
        intro σ4 H4 ρ4 α4 C4 t4 r4 e4 hq
        unfold wkn at hq
        obtain ⟨f, ρ5, C5, wk, wr, q⟩ := hq
        exact ⟨hlt, ρ5, _, C5, (t2.trans t4).wk hn r4 wk, r4.ren wk.nd wk.wk, e4.ren r4 wk.wk wr, q⟩
      refine body.ok ((w1.to t2 r2).slots e3) bw ⟨wkn_, fun v H4 s α4 C4 t4 => d.rt v H4 s α4 C4 ((t1.trans t2).trans t4), fun σ4 H4 ρ4 α4 C4 t4 => d.nx σ4 H4 ρ4 α4 C4 ((t1.trans t2).trans t4), wkn_⟩
    · have e : i = ds.length := by omega
      subst e
      rw [List.drop_length] at f'
      obtain ⟨kp, fin⟩ := f'
      obtain ⟨y1, y2⟩ := Y B α' C' H' t'.em r' kp
      exact .inl ⟨y2, d.nx σ' H' ρ' α' C' (t1.trans t') r' e' fin⟩
def whileWr (c : XT) (body : XS) (X : Xp) (n0 : Nat) : Nat → Rv → Cs → Pt → Prop
  | 0, _, _, _ => False
  | n + 1, ρ, C, P => c.wp X ρ C fun b C1 => cnd b (body.wp X ρ C1 ⟨fun r c' => wkn n0 r c' fun r' c' => whileWr c body X n0 n r' c' P, P.R, P.N, fun r c' => wkn n0 r c' fun r' c' => whileWr c body X n0 n r' c' P⟩) (P.N ρ C1)
@[irreducible] def whileW (c : XT) (body : XS) (X : Xp) (n0 : Nat) (ρ : Rv) (C : Cs) (P : Pt) : Prop := ∃ n, whileWr c body X n0 n ρ C P ∨ ∃ ρ' C', wkS n0 ρ C ρ' C' ∧ whileWr c body X n0 n ρ' C' P
def xsWhile (c : XT) (body : XS) : XS where
  ts k W := tWhile (c.tt k W) (body.ts k W)
  wp X ρ C P := whileW c body X C.length ρ C P
  ok {k B α C H σ ρ W X P D} w h d := by
    unfold whileW at h
    obtain ⟨n, h⟩ := h
    have start : ∃ ρ' α' C', To B α C H α' C' H ∧ Rep k B α' C' H ∧ En k B α' C' H σ ρ' ∧ whileWr c body X C.length n ρ' C' P := by
      rcases h with p1 | ⟨ρ', C', ⟨f, wk, wr⟩, p1⟩
      · exact ⟨ρ, α, C, w.rep.refl, w.rep, w.en, p1⟩
      · exact ⟨ρ', _, C', w.rep.refl.wk w.rep.len w.rep wk, w.rep.ren wk.nd wk.wk, w.en.ren w.rep wk.wk wr, p1⟩
    obtain ⟨ρs, αs, Cs', ts, rs, es, h⟩ := start
    refine ⟨fun m σ' H' => ∃ ρ' α' C', To B α C H α' C' H' ∧ Rep k B α' C' H' ∧ En k B α' C' H' σ' ρ' ∧ whileWr c body X C.length m ρ' C' P, ⟨n, ρs, αs, Cs', ts, rs, es, h⟩, ?_⟩
    rintro m σ' H' ⟨ρ', α', C', t', r', e', h'⟩
    cases m with
    | zero => exact h'.elim
    | succ m =>
      refine c.ok ((w.to t' r').slots e') h' fun b H1 α1 C1 t1 r1 p1 => ?_
      have t2 := t'.trans t1
      cases b with
      | false =>
        rw [if_neg Bool.false_ne_true]
        exact d.nx σ' H1 ρ' α1 C1 t2 r1 (e'.to t1) p1
      | true =>
        rw [if_pos rfl]
        have wkn_ : ∀ σ4 H4 ρ4 α4 C4, To B α1 C1 H1 α4 C4 H4 → Rep k B α4 C4 H4 → En k B α4 C4 H4 σ4 ρ4 → (wkn C.length ρ4 C4 fun r' c' => whileWr c body X C.length m r' c' P) →
            ∃ ρ2 α2 C2, To B α C H α2 C2 H4 ∧ Rep k B α2 C2 H4 ∧ En k B α2 C2 H4 σ4 ρ2 ∧ whileWr c body X C.length m ρ2 C2 P := by
          intro σ4 H4 ρ4 α4 C4 t4 r4 e4 hq
          unfold wkn at hq
          obtain ⟨f, ρ5, C5, wk, wr, q⟩ := hq
          exact ⟨ρ5, _, C5, (t2.trans t4).wk w.rep.len r4 wk, r4.ren wk.nd wk.wk, e4.ren r4 wk.wk wr, q⟩
        refine ⟨fun σ2 H2 => ∃ ρ2 α2 C2, To B α C H α2 C2 H2 ∧ Rep k B α2 C2 H2 ∧ En k B α2 C2 H2 σ2 ρ2 ∧ whileWr c body X C.length m ρ2 C2 P, fun σ2 H2 q => ⟨m, Nat.lt_succ_self m, q⟩, ?_⟩
        exact body.ok ((w.to t2 r1).slots (e'.to t1)) p1 ⟨wkn_, fun v H4 s α4 C4 t4 => d.rt v H4 s α4 C4 (t2.trans t4), fun σ4 H4 ρ4 α4 C4 t4 => d.nx σ4 H4 ρ4 α4 C4 (t2.trans t4), wkn_⟩
/-! ### comprehensions -/
def compWr (g : XG) (c : XT) (e : XE) (vs : List Nat) (X : Xp) (keep : Cs → Prop) : List Cv → Rv → Cs → List PyData → (List PyData → Cs → Prop) → Prop
  | [], _, C, acc, P => keep C ∧ P acc C
  | s :: ds, ρ, C, acc, P => keep C ∧ g.wp C s (wipeV ρ vs) fun ρ2 => c.wp X ρ2 C fun b C1 => cnd b (e.wp X ρ2 C1 fun t C2 => fz C2 t fun d C3 => compWr g c e vs X keep ds ρ C3 (acc ++ [d]) P) (compWr g c e vs X keep ds ρ C1 acc P)
@[irreducible] def compW (g : XG) (c : XT) (e : XE) (vs : List Nat) (X : Xp) (keep : Cs → Prop) (ds : List Cv) (ρ : Rv) (C : Cs) (acc : List PyData) (U : List PyData → Cs → Prop) : Prop := compWr g c e vs X keep ds ρ C acc U
theorem wipe_back {σ σ' : L2.St} {vs ns : List Nat} (l : σ'.length = (L2.wipe σ vs).length) (f : ∀ i, i ∉ ns → σ'[i]? = (L2.wipe σ vs)[i]?) (s : ∀ i ∈ ns, i ∈ vs) : L2.wipe σ' vs = L2.wipe σ vs := by
  have l' : σ'.length = σ.length := l.trans (wipe_length σ vs)
  apply List.ext_getElem?
  intro k
  rw [wipe_get]
  by_cases m : k ∈ vs
  · rw [if_pos m, wipe_get, if_pos m]
    by_cases hk : k < σ.length
    · rw [List.getElem?_eq_getElem (by omega : k < σ'.length), List.getElem?_eq_getElem hk]; rfl
    · rw [List.getElem?_eq_none (by omega), List.getElem?_eq_none (by omega)]
  · rw [if_neg m]
    exact f k fun q => m (s k q)
/-- the walk of a comprehension; U: what becomes of the list at D -/
theorem comp_run {g : XG} {c : XT} {e : XE} {vs : List Nat} (hv : ∀ i ∈ g.ns, i ∈ vs) {it : XI} {k : Kx} {B α : List Addr} {C : Cs} {H : Hp} {σ : L2.St} {ρ : Rv} {W : WX} {X : Xp} {U : List PyData → Cs → Prop} {Q : VK} (w : Wd k B α C H σ ρ W X)
    (h : it.wp X ρ C fun ds keep C1 => ds.length ≤ 100000 ∧ compW g c e vs X keep ds ρ C1 [] U)
    (q : ∀ D α' C' H' ys acc, H D = none → To B α C H α' C' H' → Rep k (D :: B) α' C' H' → H' D = some (.lst ys) → Das k.K (ms (D :: B) α' C') H' ys acc → acc.length ≤ 100000 → U acc C' → Q (.ref D) H') :
    tLc (it.wi k W) (g.tg k) (c.tt k W) (e.te k W) vs σ H Q := by
  refine it.ok w h fun J ds keep α1 C1 H1 t1 r1 p1 Y D hD => ?_
  obtain ⟨hz, p1⟩ := p1
  unfold compW at p1
  have hD0 : H D = none := go_back t1.st.go hD
  have w1 := w.to t1 r1
  have r2 : Rep k (D :: B) α1 C1 (upd H1 D (.lst [])) := r1.bg hD
  have x2 : Ex H1 (upd H1 D (.lst [])) := Ex.new hD
  have t2 : To B α C H α1 C1 (upd H1 D (.lst [])) := t1.trans (r1.ex x2)
  have em2 : Em B α1 C1 H1 (D :: B) α1 C1 (upd H1 D (.lst [])) := em_bg hD
  refine ⟨fun i m H' => m = ds.length - i ∧ i ≤ ds.length ∧ ∃ α' C' ys acc, To B α C H α' C' H' ∧ Rep k (D :: B) α' C' H' ∧ Em B α1 C1 H1 (D :: B) α' C' H' ∧ H' D = some (.lst ys) ∧ Das k.K (ms (D :: B) α' C') H' ys acc ∧ acc.length ≤ i ∧ compWr g c e vs X keep (ds.drop i) ρ C' acc U,
    ⟨ds.length, by simp, Nat.zero_le _, α1, C1, [], [], t2, r2, em2, upd_same, .nil, Nat.le_refl _, p1⟩, ?_⟩
  rintro i m H' ⟨rfl, hi, α', C', ys, acc, t', r', em', hys, dys, hl, f'⟩
  by_cases hlt : i < ds.length
  · have hd := List.getElem?_eq_getElem hlt
    rw [List.drop_eq_getElem_cons hlt] at f'
    obtain ⟨kp, gw⟩ := f'
    obtain ⟨y1, y2⟩ := Y (D :: B) α' C' H' em' r' kp
    obtain ⟨go, yy⟩ := y1 i _ hd
    refine .inr ⟨go, fun H'' => i + 1 ≤ ds.length ∧ ∃ α' C' ys acc, To B α C H α' C' H'' ∧ Rep k (D :: B) α' C' H'' ∧ Em B α1 C1 H1 (D :: B) α' C' H'' ∧ H'' D = some (.lst ys) ∧ Das k.K (ms (D :: B) α' C') H'' ys acc ∧ acc.length ≤ i + 1 ∧ compWr g c e vs X keep (ds.drop (i + 1)) ρ C' acc U,
      fun H'' z => ⟨ds.length - (i + 1), by omega, rfl, z⟩, fun x H'' hy => ?_⟩
    obtain ⟨xx, cx⟩ := yy x H'' hy
    have tx : To (D :: B) α' C' H' α' C' H'' := r'.ex xx
    have t3 : To B α C H α' C' H'' := t'.comp tx
    have r3 := r'.keep xx
    have en3 : En k (D :: B) α' C' H'' (L2.wipe σ vs) (wipeV ρ vs) := ((w1.en.em em').to tx).wipe vs
    refine g.ok r3 cx en3 gw fun σ3 ρ3 e3 l3 f3 cw => ⟨wipe_back l3 f3 hv, ?_⟩
    have w3 : Wd k (D :: B) α' C' H'' σ3 ρ3 W X := ⟨r3, e3, fun cls d H5 x5 α5 C5 σ5 ρ5 t5 r5 xa5 e5 q5 =>
      w.ca cls d H5 x5 α5 C5 σ5 ρ5 (t3.comp t5) r5.unbg (xa5.em em_unbg (fun _ _ h => h)) (e5.em em_unbg) q5⟩
    refine c.ok w3 cw fun b H4 α4 C4 t4 r4 p4 => ?_
    have em4 : Em B α1 C1 H1 (D :: B) α4 C4 H4 := (em'.trans tx.em).trans t4.em
    have Dn : ∀ {α5 C5 H5 α6 C6 H6}, Rep k (D :: B) α5 C5 H5 → To (D :: B) α5 C5 H5 α6 C6 H6 → H5 D = some (.lst ys) → H6 D = some (.lst ys) := fun {α5 C5 H5 α6 C6 H6} r5 t5 h5 => t5.st.go.1 D _ (fun mm => r5.nb D (live_sub mm) List.mem_cons_self) h5
    have hD4 := Dn r3 t4 (xx D _ hys)
    cases b with
    | true =>
      rw [if_pos rfl]
      refine e.ok (w3.to t4 r4) p4 fun y H5 s5 α5 C5 t5 r5 c5 p5 => ?_
      obtain ⟨dd, C6, r6, t6, d6, p6⟩ := fz_da r5 c5 p5
      have hD5 := Dn r4 t5 hD4
      have ll : ys.length ≤ 100000 := by rw [Das.len dys]; omega
      have tt : To (D :: B) α' C' H' α5 C6 H5 := (tx.trans t4).trans (t5.trans t6)
      refine ⟨ys, hD5, Nat.lt_of_le_of_lt ll (by decide), hlt, α5, C6, ys ++ [y], acc ++ [dd], ?_, r6.bgput, ?_, upd_same, ?_, ?_, p6⟩
      · have tb := t'.comp tt
        have nD : D ∉ live α C := fun mm => by obtain ⟨o, ho⟩ := w.rep.md D (ms_h.mpr (.inl mm)); rw [hD0] at ho; cases ho
        refine ⟨⟨fun a m => ?_, ⟨fun a o n h => ?_, fun a o h => ?_⟩, fun a m => tb.st.nw a m⟩, tb.ex⟩
        · by_cases qa : a = D
          · subst qa; exact ⟨_, upd_same⟩
          · obtain ⟨o, ho⟩ := tb.st.md a m
            exact ⟨o, by rw [upd_ne qa]; exact ho⟩
        · have qa : a ≠ D := fun z => by rw [z, hD0] at h; cases h
          rw [upd_ne qa]; exact tb.st.go.1 a o n h
        · have qa : a ≠ D := fun z => by rw [z, hD0] at h; cases h
          obtain ⟨o', ho⟩ := tb.st.go.2 a o h
          exact ⟨o', by rw [upd_ne qa]; exact ho⟩
      · exact (em'.trans tt.em).trans em_put
      · exact dps_ex em_put.hid _ _ (Das.app (dps_ex tt.hid _ _ dys) (.cons d6 .nil))
      · rw [List.length_append]; simpa using hl
    | false =>
      rw [if_neg Bool.false_ne_true]
      have tt : To (D :: B) α' C' H' α4 C4 H4 := tx.trans t4
      exact ⟨hlt, α4, C4, ys, acc, t'.comp tt, r4, em'.trans tt.em, hD4, dps_ex tt.hid _ _ dys, by omega, p4⟩
  · have ei : i = ds.length := by omega
    subst ei
    rw [List.drop_length] at f'
    obtain ⟨kp, fin⟩ := f'
    obtain ⟨y1, y2⟩ := Y (D :: B) α' C' H' em' r' kp
    exact .inl ⟨y2, q D α' C' H' ys acc hD0 t' r' hys dys (by omega) fin⟩
def subB (a b : List Nat) : Bool := a.all fun i => b.contains i
theorem subB_of {a b : List Nat} (h : subB a b = true) : ∀ i ∈ a, i ∈ b := fun i m => by
  have := List.all_eq_true.mp h i m
  simpa using this
/-- as data -/
def xLc (it : XI) (g : XG) (c : XT) (e : XE) (vs : List Nat) : XE where
  te k W := tLc (it.wi k W) (g.tg k) (c.tt k W) (e.te k W) vs
  wp X ρ C P := chk (subB g.ns vs) (it.wp X ρ C fun ds keep C1 => ds.length ≤ 100000 ∧ compW g c e vs X keep ds ρ C1 [] fun acc C2 => P (.d (.list acc)) C2)
  ok w h q := comp_run (subB_of (chk_of h).1) w (chk_of h).2 fun D α' C' H' ys acc hD t' r' hys dys hl p => by
    have nD : D ∉ (ms _ α' C').h := fun m => by
      rcases ms_h.mp m with m | m
      · exact r'.nb D (live_sub m) List.mem_cons_self
      · obtain ⟨o, ho⟩ := w.rep.md D (ms_h.mpr (.inr m)); rw [hD] at ho; cases ho
    exact q _ H' (.d (.list acc)) α' C' t' r'.unbg (Da.lst nD hys (Das.mono (fun a m => ms_h_bg.mpr (.inr m)) dys)) p
/-- to be changed -/
def xLcC (it : XI) (g : XG) (c : XT) (e : XE) (vs : List Nat) : XE where
  te k W := tLc (it.wi k W) (g.tg k) (c.tt k W) (e.te k W) vs
  wp X ρ C P := chk (subB g.ns vs) (it.wp X ρ C fun ds keep C1 => ds.length ≤ 100000 ∧ compW g c e vs X keep ds ρ C1 [] fun acc C2 => appK (.lst acc) C2 0 fun n C3 => P (.c n) C3)
  ok {k B α C H σ ρ W X P Q} w h q := comp_run (subB_of (chk_of h).1) w (chk_of h).2 fun D α' C' H' ys acc hD t' r' hys dys hl p => by
    have nB : D ∉ B := fun m => by obtain ⟨o, ho⟩ := w.rep.md D (ms_h.mpr (.inr m)); rw [hD] at ho; cases ho
    have nα : D ∉ α' := fun m => r'.nb D m List.mem_cons_self
    have lv : live (α' ++ [D]) (C' ++ [.lst acc]) = live α' C' ++ [D] := by
      rw [live_app r'.len]
      have e : live [D] [Cell.lst acc] = if (Cell.lst acc).isF then live [] [] else D :: live [] [] := by rw [live]
      rw [e]; rfl
    have hh : ∀ a, a ∈ (ms B (α' ++ [D]) (C' ++ [.lst acc])).h ↔ a ∈ (ms (D :: B) α' C').h := fun a => by
      rw [ms_h_bg, ms_h, ms_h, lv, List.mem_append, List.mem_singleton]
      constructor
      · rintro ((h | h) | h)
        · exact .inr (.inl h)
        · exact .inl h
        · exact .inr (.inr h)
      · rintro (h | h | h)
        · exact .inl (.inr h)
        · exact .inl (.inl h)
        · exact .inr h
    have em : Em (D :: B) α' C' H' B (α' ++ [D]) (C' ++ [.lst acc]) H' := ⟨hid_mono (fun a m => (hh a).mp m) H', [D], rfl⟩
    have t2 : To B α C H (α' ++ [D]) (C' ++ [.lst acc]) H' := ⟨⟨fun a m => r'.md a ((hh a).mp m), t'.st.go, fun a m => by
      have m : a ∈ live (α' ++ [D]) (C' ++ [.lst acc]) := m
      rw [lv] at m
      rcases List.mem_append.mp m with m | m
      · exact t'.st.nw a m
      · exact .inr (by rw [List.mem_singleton.mp m]; exact hD)⟩, by
      obtain ⟨f, hf, hn⟩ := t'.ex
      exact ⟨f ++ [D], by rw [hf, List.append_assoc], fun a m => by
        rcases List.mem_append.mp m with m | m
        · exact hn a m
        · rw [List.mem_singleton.mp m]; exact hD⟩⟩
    have r2 : Rep k B (α' ++ [D]) (C' ++ [.lst acc]) H' := by
      refine ⟨by simp [r'.len], List.nodup_append.mpr ⟨r'.nd, by simp, fun a m b m' => by rw [List.mem_singleton.mp m']; exact fun z => nα (z ▸ m)⟩, fun a m => ?_, fun a m => r'.md a ((hh a).mp m), fun j b cc q1 q2 => ?_⟩
      · rcases List.mem_append.mp m with m | m
        · exact fun z => r'.nb a m (List.mem_cons_of_mem _ z)
        · rw [List.mem_singleton.mp m]; exact nB
      · by_cases hj : j < α'.length
        · rw [List.getElem?_append_left hj] at q1
          rw [List.getElem?_append_left (by rw [← r'.len]; exact hj)] at q2
          exact (r'.at_ j b cc q1 q2).em em rfl fun f m => r'.frz_not q1 q2 f ((hh b).mp m)
        · have hj2 : j = α'.length := by
            have := (List.getElem?_eq_some_iff.mp q1).1
            simp at this; omega
          subst hj2
          rw [List.getElem?_append_right (Nat.le_refl _), Nat.sub_self] at q1
          rw [r'.len, List.getElem?_append_right (Nat.le_refl _), Nat.sub_self] at q2
          cases q1
          cases q2
          exact ⟨ys, hys, dps_ex em.hid _ _ dys⟩
    exact q _ H' (.c C'.length) _ _ t2 r2 (Rc.last r'.unbg) (appK_of p)
end DL
set_option maxRecDepth 100000
namespace DL
open PySem L2

/-! ### a call sees the cells that it is handed -/
abbrev Pw := List Cv → Cs → (Cv → Cs → Prop) → (Xc → Cs → Prop) → Prop
def backV (f : List Nat) (N : Nat) : Cv → Cv
  | .c j => .c (match f[j]? with
    | some i => i
    | none => N + (j - f.length))
  | s => s
def backF {κ : Type} (f : List Nat) (N : Nat) (p : κ × Cv) : κ × Cv := (p.1, backV f N p.2)
def backC (f : List Nat) (N : Nat) : Cell → Cell
  | .rfs xs => .rfs (xs.map (backV f N))
  | .obj c fs => .obj c (fs.map (backV f N))
  | .dk es => .dk (es.map (backF f N))
  | .lk l es => .lk l (es.map (backF f N))
  | .exc c es => .exc c (es.map (backF f N))
  | .tpl xs => .tpl (xs.map (backV f N))
  | c => c
def setAll (g : Cell → Cell) : List Nat → Cs → Cs → Cs
  | i :: f, c :: C', C => setAll g f C' (C.set i (g c))
  | _, _, C => C
def backCs (f : List Nat) (C C' : Cs) : Cs := setAll (backC f C.length) f C' C ++ (C'.drop f.length).map (backC f C.length)
def backX (f : List Nat) (N : Nat) (x : Xc) : Xc := ⟨x.cn, x.fs.map (backF f N)⟩
@[irreducible] def callW (A : Pw) (X : Xc → Cs → Prop) (C : Cs) (ss : List Cv) (P : Cv → Cs → Prop) : Prop :=
  ∃ f C0 ss', f.Nodup ∧ WkC f C f C0 ∧ RenVs f ss ss' ∧ A ss' C0 (fun s C' => P (backV f C.length s) (backCs f C C')) fun x C' => X (backX f C.length x) (backCs f C C')
section
variable {k : Kx} {B B' α α1 : List Addr} {C C0 C1 : Cs} {H H1 : Hp} {f : List Nat}
theorem isF_back {f : List Nat} {N : Nat} {c : Cell} : (backC f N c).isF = c.isF := by cases c <;> rfl
theorem setAll_len (g : Cell → Cell) : ∀ (f : List Nat) (C' C : Cs), (setAll g f C' C).length = C.length
  | i :: f, c :: C', C => by unfold setAll; rw [setAll_len g f C']; exact List.length_set
  | [], _, _ => by unfold setAll; rfl
  | _ :: _, [], _ => by unfold setAll; rfl
theorem setAll_out (g : Cell → Cell) : ∀ (f : List Nat) (C' C : Cs) (i : Nat), i ∉ f → (setAll g f C' C)[i]? = C[i]?
  | j :: f, c :: C', C, i, h => by
    unfold setAll
    rw [setAll_out g f C' _ i (fun m => h (List.mem_cons_of_mem _ m)), List.getElem?_set_ne (fun e => h (by rw [← e]; exact List.mem_cons_self))]
  | [], _, _, _, _ => by unfold setAll; rfl
  | _ :: _, [], _, _, _ => by unfold setAll; rfl
theorem setAll_in (g : Cell → Cell) : ∀ (f : List Nat) (C' C : Cs) (j i : Nat) (c : Cell), f.Nodup → f[j]? = some i → C'[j]? = some c → i < C.length → (setAll g f C' C)[i]? = some (g c)
  | i0 :: f, c0 :: C', C, 0, i, c, nd, h1, h2, hl => by
    simp at h1 h2
    subst h1; subst h2
    unfold setAll
    rw [setAll_out g f C' _ _ (List.nodup_cons.mp nd).1, List.getElem?_set_self hl]
  | i0 :: f, c0 :: C', C, j + 1, i, c, nd, h1, h2, hl => by
    unfold setAll
    exact setAll_in g f C' _ j i c (List.nodup_cons.mp nd).2 (by simpa using h1) (by simpa using h2) (by rw [List.length_set]; exact hl)
  | [], _, _, _, _, _, _, h1, _, _ => by simp at h1
  | _ :: _, [], _, _, _, _, _, _, h2, _ => by simp at h2
/-- what is not handed, aside -/
def aside (B α : List Addr) (C : Cs) (f : List Nat) : List Addr := (live α C).filter (fun a => !(pick f α).contains a) ++ B
theorem mem_aside {a : Addr} : a ∈ aside B α C f ↔ (a ∈ live α C ∧ a ∉ pick f α) ∨ a ∈ B := by
  unfold aside
  rw [List.mem_append, List.mem_filter]
  simp
theorem pick_mem (nd : α.Nodup) (lt : ∀ i ∈ f, i < α.length) {i : Nat} {a : Addr} (h : α[i]? = some a) : a ∈ pick f α ↔ i ∈ f := by
  constructor
  · intro m
    obtain ⟨j, hj, e⟩ := List.mem_filterMap.mp m
    rw [nd_ix nd h e]; exact hj
  · intro m
    exact List.mem_filterMap.mpr ⟨i, m, h⟩
theorem aside_h (r : Rep k B α C H) (w : WkC f C f C0) {a : Addr} : a ∈ (ms (aside B α C f) (pick f α) C0).h ↔ a ∈ (ms B α C).h := by
  rw [ms_h, ms_h, mem_aside]
  constructor
  · rintro (h | h | h)
    · exact .inl (wk_live r w a h)
    · exact .inl h.1
    · exact .inr h
  · rintro (h | h)
    · by_cases m : a ∈ pick f α
      · obtain ⟨i, c, h1, h2, h3⟩ := live_mem.mp h
        have hi := (pick_mem r.nd (wk_lt r w) h1).mp m
        obtain ⟨j, hj⟩ := List.getElem?_of_mem hi
        obtain ⟨c1, c', q1, q2, q3⟩ := w.get hj
        rw [h2] at q1
        cases q1
        exact .inl (live_mem.mpr ⟨j, c', by rw [pick_get (wk_lt r w), hj]; exact h1, q2, by rw [← q3.isF]; exact h3⟩)
      · exact .inr (.inl ⟨h, m⟩)
    · exact .inr (.inr h)
theorem Rep.hand (r : Rep k B α C H) (nd : f.Nodup) (w : WkC f C f C0) : Rep k (aside B α C f) (pick f α) C0 H := by
  have r1 := r.ren nd w
  refine ⟨r1.len, r1.nd, fun a m q => ?_, fun a m => r.md a ((aside_h r w).mp m), fun j a c' h1 h2 => ?_⟩
  · rcases mem_aside.mp q with q | q
    · exact q.2 m
    · exact r1.nb a m q
  · rw [pick_get (wk_lt r w)] at h1
    cases e : f[j]? with
    | none => rw [e] at h1; cases h1
    | some i =>
      rw [e] at h1
      obtain ⟨c, c2, q1, q2, q3⟩ := w.get e
      rw [h2] at q2
      cases q2
      exact (r.at_ i a c h1 q1).ren (wk_lt r w) (fun b m => (aside_h r w).mp m) q3
/-- what came of the call, among all cells -/
structure Back (k : Kx) (B α : List Addr) (C : Cs) (H : Hp) (f : List Nat) (α1 : List Addr) (C1 : Cs) (H1 : Hp) (α2 : List Addr) (C2 : Cs) : Prop where
  to : To B α C H α2 C2 H1
  rep : Rep k B α2 C2 H1
  hh : ∀ a, a ∈ (ms B α2 C2).h ↔ a ∈ (ms (aside B α C f) α1 C1).h
  ix : ∀ (j : Nat) a, α1[j]? = some a → α2[match f[j]? with
    | some i => i
    | none => C.length + (j - f.length)]? = some a
theorem back (r : Rep k B α C H) (nd : f.Nodup) (w : WkC f C f C0) (t : To (aside B α C f) (pick f α) C0 H α1 C1 H1) (r1 : Rep k (aside B α C f) α1 C1 H1) : ∃ α2, Back k B α C H f α1 C1 H1 α2 (backCs f C C1) := by
  obtain ⟨e, he, hne⟩ := t.ex
  have lt := wk_lt r w
  have pl : (pick f α).length = f.length := pick_len lt
  have l1 : C1.length = f.length + e.length := by rw [← r1.len, he, List.length_append, pl]
  have ls : (setAll (backC f C.length) f C1 C).length = C.length := setAll_len _ _ _ _
  have l2 : (backCs f C C1).length = C.length + e.length := by
    unfold backCs
    rw [List.length_append, ls, List.length_map, List.length_drop, l1]; omega
  -- the places
  have ix : ∀ (j : Nat) a, α1[j]? = some a → (α ++ e)[match f[j]? with
    | some i => i
    | none => C.length + (j - f.length)]? = some a := by
    intro j a h
    rw [he] at h
    cases q : f[j]? with
    | some i =>
      have hj : j < f.length := (List.getElem?_eq_some_iff.mp q).1
      rw [List.getElem?_append_left (by rw [pl]; exact hj), pick_get lt, q] at h
      show (α ++ e)[i]? = some a
      have h : α[i]? = some a := h
      rw [List.getElem?_append_left (List.getElem?_eq_some_iff.mp h).1]; exact h
    | none =>
      have hj : f.length ≤ j := List.getElem?_eq_none_iff.mp q
      rw [List.getElem?_append_right (by rw [pl]; exact hj), pl] at h
      show (α ++ e)[C.length + (j - f.length)]? = some a
      rw [List.getElem?_append_right (by rw [r.len]; omega), r.len, Nat.add_sub_cancel_left]; exact h
  have ci : ∀ (j : Nat) c, C1[j]? = some c → (backCs f C C1)[match f[j]? with
    | some i => i
    | none => C.length + (j - f.length)]? = some (backC f C.length c) := by
    intro j c h
    unfold backCs
    cases q : f[j]? with
    | some i =>
      have hi : i < C.length := by rw [← r.len]; exact lt i (List.mem_of_getElem? q)
      show (_ ++ _)[i]? = _
      rw [List.getElem?_append_left (by rw [ls]; exact hi)]
      exact setAll_in _ f C1 C j i c nd q h hi
    | none =>
      have hj : f.length ≤ j := List.getElem?_eq_none_iff.mp q
      show (_ ++ _)[C.length + (j - f.length)]? = _
      rw [List.getElem?_append_right (by rw [ls]; omega), ls, Nat.add_sub_cancel_left, List.getElem?_map, List.getElem?_drop, Nat.add_sub_cancel' hj, h]; rfl
  -- every cell is one of these, or stayed
  have cases_ : ∀ (i : Nat) a c, (α ++ e)[i]? = some a → (backCs f C C1)[i]? = some c → (i ∉ f ∧ α[i]? = some a ∧ C[i]? = some c) ∨ ∃ (j : Nat) (c1 : Cell), α1[j]? = some a ∧ C1[j]? = some c1 ∧ c = backC f C.length c1 := by
    intro i a c h1 h2
    by_cases hi : i < C.length
    · by_cases m : i ∈ f
      · obtain ⟨j, hj⟩ := List.getElem?_of_mem m
        have hjl : j < f.length := (List.getElem?_eq_some_iff.mp hj).1
        have hc : C1[j]? = some (C1[j]'(by omega)) := List.getElem?_eq_getElem _
        have q := ci j _ hc
        rw [hj] at q
        have q : (backCs f C C1)[i]? = _ := q
        rw [h2] at q
        have ha : α1[j]? = some (α1[j]'(by rw [r1.len]; omega)) := List.getElem?_eq_getElem _
        have q2 := ix j _ ha
        rw [hj] at q2
        have q2 : (α ++ e)[i]? = _ := q2
        rw [h1] at q2
        exact .inr ⟨j, _, by rw [ha]; exact q2.symm, hc, Option.some.inj q⟩
      · refine .inl ⟨m, ?_, ?_⟩
        · rw [List.getElem?_append_left (by rw [r.len]; exact hi)] at h1; exact h1
        · unfold backCs at h2
          rw [List.getElem?_append_left (by rw [ls]; exact hi), setAll_out _ f C1 C i m] at h2; exact h2
    · have hi2 : i < C.length + e.length := by rw [← l2]; exact (List.getElem?_eq_some_iff.mp h2).1
      have hc : C1[f.length + (i - C.length)]? = some (C1[f.length + (i - C.length)]'(by omega)) := List.getElem?_eq_getElem _
      have nf : f[f.length + (i - C.length)]? = none := List.getElem?_eq_none (by omega)
      have ei : C.length + (f.length + (i - C.length) - f.length) = i := by omega
      have q := ci _ _ hc
      rw [nf] at q
      have q : (backCs f C C1)[C.length + (f.length + (i - C.length) - f.length)]? = _ := q
      rw [ei, h2] at q
      have ha : α1[f.length + (i - C.length)]? = some (α1[f.length + (i - C.length)]'(by rw [r1.len]; omega)) := List.getElem?_eq_getElem _
      have q2 := ix _ _ ha
      rw [nf] at q2
      have q2 : (α ++ e)[C.length + (f.length + (i - C.length) - f.length)]? = _ := q2
      rw [ei, h1] at q2
      exact .inr ⟨_, _, by rw [ha]; exact q2.symm, hc, Option.some.inj q⟩
  have hh : ∀ a, a ∈ (ms B (α ++ e) (backCs f C C1)).h ↔ a ∈ (ms (aside B α C f) α1 C1).h := by
    intro a
    rw [ms_h, ms_h, mem_aside]
    constructor
    · rintro (h | h)
      · obtain ⟨i, c, h1, h2, h3⟩ := live_mem.mp h
        rcases cases_ i a c h1 h2 with ⟨m, q1, q2⟩ | ⟨j, c1, q1, q2, rfl⟩
        · exact .inr (.inl ⟨live_mem.mpr ⟨i, c, q1, q2, h3⟩, fun z => m ((pick_mem r.nd lt q1).mp z)⟩)
        · exact .inl (live_mem.mpr ⟨j, c1, q1, q2, by rw [isF_back] at h3; exact h3⟩)
      · exact .inr (.inr h)
    · rintro (h | h | h)
      · obtain ⟨j, c, h1, h2, h3⟩ := live_mem.mp h
        exact .inl (live_mem.mpr ⟨_, _, ix j a h1, ci j c h2, by rw [isF_back]; exact h3⟩)
      · obtain ⟨i, c, h1, h2, h3⟩ := live_mem.mp h.1
        have hi : i < C.length := (List.getElem?_eq_some_iff.mp h2).1
        have m : i ∉ f := fun z => h.2 ((pick_mem r.nd lt h1).mpr z)
        refine .inl (live_mem.mpr ⟨i, c, ?_, ?_, h3⟩)
        · rw [List.getElem?_append_left (List.getElem?_eq_some_iff.mp h1).1]; exact h1
        · unfold backCs
          rw [List.getElem?_append_left (by rw [ls]; exact hi), setAll_out _ f C1 C i m]; exact h2
      · exact .inr h
  have go : Go (ms B α C) H H1 := ⟨fun a o n h => t.st.go.1 a o (fun m => n (wk_live r w a m)) h, t.st.go.2⟩
  have to : To B α C H (α ++ e) (backCs f C C1) H1 := by
    refine ⟨⟨fun a m => r1.md a ((hh a).mp m), go, fun a m => ?_⟩, e, rfl, hne⟩
    obtain ⟨i, c, h1, h2, h3⟩ := live_mem.mp (show a ∈ live (α ++ e) (backCs f C C1) from m)
    rcases cases_ i a c h1 h2 with ⟨_, q1, q2⟩ | ⟨j, c1, q1, q2, rfl⟩
    · exact .inl (live_mem.mpr ⟨i, c, q1, q2, h3⟩)
    · rcases t.st.nw a (live_mem.mpr ⟨j, c1, q1, q2, by rw [isF_back] at h3; exact h3⟩) with q | q
      · exact .inl (wk_live r w a q)
      · exact .inr q
  refine ⟨α ++ e, to, ⟨by rw [l2, List.length_append, r.len], ?_, fun a m => ?_, fun a m => r1.md a ((hh a).mp m), fun i a c h1 h2 => ?_⟩, hh, ix⟩
  · refine List.nodup_append.mpr ⟨r.nd, ?_, fun a m b m' z => ?_⟩
    · have := r1.nd
      rw [he] at this
      exact (List.nodup_append.mp this).2.1
    · subst z
      -- a new place of the callee's stood nowhere
      obtain ⟨o, ho⟩ := r.there a m
      rw [hne a m'] at ho; cases ho
  · rcases List.mem_append.mp m with m | m
    · exact r.nb a m
    · exact fun z => r1.nb a (by rw [he]; exact List.mem_append_right _ m) (mem_aside.mpr (.inr z))
  · rcases cases_ i a c h1 h2 with ⟨m, q1, q2⟩ | ⟨j, c1, q1, q2, rfl⟩
    · have na : a ∉ live (pick f α) C0 := fun z => m ((pick_mem r.nd lt q1).mp (live_sub z))
      obtain ⟨o, ho⟩ := r.there a (List.mem_of_getElem? q1)
      refine (r.at_ i a c q1 q2).same to (by rw [t.st.go.1 a o na ho, ho]) fun hf z => ?_
      rcases to.st.nw a (by
        rcases ms_h.mp z with z | z
        · exact z
        · exact absurd z (r.nb a (List.mem_of_getElem? q1))) with z | z
      · exact r.frz_not q1 q2 hf (ms_h.mpr (.inl z))
      · rw [ho] at z; cases z
    · have bk : ∀ {v s}, Rc k.K (ms (aside B α C f) α1 C1) H1 α1 v s → Rc k.K (ms B (α ++ e) (backCs f C C1)) H1 (α ++ e) v (backV f C.length s) := fun {v s} h => by
        cases s with
        | d x => exact Da.mono (fun a m => (hh a).mp m) h
        | v x => exact h
        | c n =>
          obtain ⟨a, g1, g2⟩ := h
          exact ⟨a, ix n a g1, g2⟩
      have bks : ∀ {vs ss}, Rcs k.K (ms (aside B α C f) α1 C1) H1 α1 vs ss → Rcs k.K (ms B (α ++ e) (backCs f C C1)) H1 (α ++ e) vs (ss.map (backV f C.length)) := fun {vs ss} h => by
        induction h with
        | nil => exact .nil
        | cons a _ ih => exact .cons (bk a) ih
      have bkf : ∀ {κ : Type} {vs : List (κ × V)} {ss : List (κ × Cv)}, Rfs k.K (ms (aside B α C f) α1 C1) H1 α1 vs ss → Rfs k.K (ms B (α ++ e) (backCs f C C1)) H1 (α ++ e) vs (ss.map (backF f C.length)) := fun {κ vs ss} h => by
        induction h with
        | nil => exact .nil
        | cons a _ ih => exact .cons (bk a) ih
      have h := r1.at_ j a c1 q1 q2
      cases c1 with
      | lst ds =>
        obtain ⟨xs, g1, g2⟩ := h
        exact ⟨xs, g1, Das.mono (fun a m => (hh a).mp m) g2⟩
      | rfs ss =>
        obtain ⟨xs, g1, g2⟩ := h
        exact ⟨xs, g1, bks g2⟩
      | frz d => exact ⟨fun m => h.1 ((hh a).mp m), h.2.1, Da.mono (fun a m => (hh a).mp m) h.2.2⟩
      | box l n =>
        obtain ⟨x, y, v, d, g1, g2, g3⟩ := h
        exact ⟨x, y, v, d, g1, Da.mono (fun a m => (hh a).mp m) g2, g3⟩
      | obj cc fs =>
        obtain ⟨dx, vs, g1, g2, g3, g4⟩ := h
        exact ⟨dx, vs, g1, bks g2, by rw [List.length_map]; exact g3, g4⟩
      | dk es =>
        obtain ⟨vs, g1, g2, g3⟩ := h
        exact ⟨vs, g1, bkf g2, g3⟩
      | lk l es => exact ⟨h.1, bkf h.2.1, h.2.2⟩
      | tpl ss =>
        obtain ⟨xs, g1, g2⟩ := h
        exact ⟨xs, g1, bks g2⟩
      | exc c es =>
        obtain ⟨d, g1, g2⟩ := h
        refine ⟨d, g1, ?_⟩
        rcases g2 with ⟨q1, q2⟩ | ⟨dd, vs, q1, q2, q3⟩
        · exact .inl ⟨by rw [q1]; rfl, q2⟩
        · exact .inr ⟨dd, vs, q1, hid_mono (fun a m => (hh a).mp m) H1 _ _ q2, bkf q3⟩
end
end DL
set_option maxRecDepth 100000
namespace DL
open PySem L2

/-! ### calls -/
def spW (k : Kx) (A : Pw) : Sp := fun vs H Q E => ∃ B α C ss R X, Rep k B α C H ∧ Rcs k.K (ms B α C) H α vs ss ∧ A ss C R X ∧
  (∀ v H' s α' C', To B α C H α' C' H' → Rep k B α' C' H' → Rc k.K (ms B α' C') H' α' v s → R s C' → Q v H') ∧
  (∀ cls d H' x α' C', To B α C H α' C' H' → Rep k B α' C' H' → XAt k (ms B α' C') H' α' cls d x → X x C' → E cls d H')
section
variable {k : Kx} {B α α1 α2 : List Addr} {C C1 C2 : Cs} {H H1 : Hp} {f : List Nat}
theorem Back.val (b : Back k B α C H f α1 C1 H1 α2 C2) {v : V} {s : Cv} (h : Rc k.K (ms (aside B α C f) α1 C1) H1 α1 v s) : Rc k.K (ms B α2 C2) H1 α2 v (backV f C.length s) := by
  cases s with
  | d x => exact Da.mono (fun a m => (b.hh a).mp m) h
  | v x => exact h
  | c n =>
    obtain ⟨a, g1, g2⟩ := h
    exact ⟨a, b.ix n a g1, g2⟩
theorem Back.flds (b : Back k B α C H f α1 C1 H1 α2 C2) {κ : Type} {vs : List (κ × V)} {ss : List (κ × Cv)} (h : Rfs k.K (ms (aside B α C f) α1 C1) H1 α1 vs ss) : Rfs k.K (ms B α2 C2) H1 α2 vs (ss.map (backF f C.length)) := by
  induction h with
  | nil => exact .nil
  | cons a _ ih => exact .cons (b.val a) ih
theorem Back.xat (b : Back k B α C H f α1 C1 H1 α2 C2) {cls : Value} {d : Option Addr} {x : Xc} (h : XAt k (ms (aside B α C f) α1 C1) H1 α1 cls d x) : XAt k (ms B α2 C2) H1 α2 cls d (backX f C.length x) := by
  refine ⟨h.1, ?_⟩
  rcases h.2 with ⟨h1, h2⟩ | ⟨dd, vs, h1, h2, h3⟩
  · exact .inl ⟨by show x.fs.map _ = []; rw [h1]; rfl, h2⟩
  · exact .inr ⟨dd, vs, h1, hid_mono (fun a m => (b.hh a).mp m) _ _ _ h2, b.flds h3⟩
end
theorem Rcs.app {K : Fg} {M : Ms} {H : Hp} {α : List Addr} {vs : List V} {ss : List Cv} (h : Rcs K M H α vs ss) {us : List V} {ts : List Cv} (g : Rcs K M H α us ts) : Rcs K M H α (vs ++ us) (ss ++ ts) := by
  induction h with
  | nil => exact g
  | cons a _ ih => exact .cons a ih
/-- a def is called; dvs its defaults -/
def xCallD (A : Pw) (dvs : List V) (dss : List Cv) (hd : ∀ K M H α, Rcs K M H α dvs dss) (a : XA) : XE where
  te k W := tCall (spW k A) dvs E0 (a.ta k W)
  wp X ρ C P := a.wp X ρ C fun ss C1 => callW A (fun _ _ => False) C1 (ss ++ dss) P
  ok w h q := a.ok w h fun vs H1 ss α1 C1 t1 r1 c1 p1 => by
    unfold callW at p1
    obtain ⟨f, C0, ss', nd, wk, rv, hA⟩ := p1
    refine ⟨aside _ α1 C1 f, pick f α1, C0, ss', _, _, r1.hand nd wk, ?_, hA, fun v H' s α' C' t r c p => ?_, fun _ _ _ _ _ _ _ _ _ z => z.elim⟩
    · exact Rcs.mono (fun a m => (aside_h r1 wk).mp m) ((c1.app (hd _ _ _ _)).ren (wk_lt r1 wk) rv)
    · obtain ⟨α2, bk⟩ := back r1 nd wk t r
      exact q v H' _ α2 _ (t1.trans bk.to) bk.rep (bk.val c) p
def xCall (A : Pw) (a : XA) : XE where
  te k W := tCall (spW k A) [] E0 (a.ta k W)
  wp X ρ C P := a.wp X ρ C fun ss C1 => callW A (fun _ _ => False) C1 ss P
  ok w h q := (xCallD A [] [] (fun _ _ _ _ => .nil) a).ok w (by
    have e : ∀ ss : List Cv, ss ++ [] = ss := List.append_nil
    show a.wp _ _ _ fun ss C1 => callW A (fun _ _ => False) C1 (ss ++ []) _
    simp only [e]
    exact h) q
/-! ### lists that change -/
def isC (s : Cv) (K : Nat → Prop) : Prop := match s with
  | .c n => K n
  | _ => False
def lstAt (C : Cs) (n : Nat) (K : List PyData → Prop) : Prop := match C[n]? with
  | some (.lst ds) => K ds
  | _ => False
def anyL (C : Cs) (n : Nat) (K : Prop) : Prop := match C[n]? with
  | some (.lst _) => K
  | some (.rfs _) => K
  | _ => False
section
variable {k : Kx} {B α : List Addr} {C : Cs} {H : Hp}
theorem isC_of {K : Fg} {M : Ms} {v : V} {s : Cv} (h : Rc K M H α v s) {P : Nat → Prop} (q : isC s P) : ∃ n a, s = .c n ∧ α[n]? = some a ∧ v = .ref a ∧ P n := by
  cases s with
  | c n => obtain ⟨a, h1, h2⟩ := h; exact ⟨n, a, rfl, h1, h2, q⟩
  | d x => exact q.elim
  | v x => exact q.elim
theorem lstAt_of (r : Rep k B α C H) {n : Nat} {a : Addr} (ha : α[n]? = some a) {P : List PyData → Prop} (q : lstAt C n P) : ∃ ds xs, C[n]? = some (.lst ds) ∧ H a = some (.lst xs) ∧ Das k.K (ms B α C) H xs ds ∧ P ds := by
  unfold lstAt at q
  cases e : C[n]? with
  | none => rw [e] at q; exact q.elim
  | some c =>
    rw [e] at q
    have h := r.at_ n a c ha e
    cases c with
    | lst ds => obtain ⟨xs, h1, h2⟩ := h; exact ⟨ds, xs, rfl, h1, h2, q⟩
    | rfs _ => exact q.elim
    | frz _ => exact q.elim
    | box _ _ => exact q.elim
    | obj _ _ => exact q.elim
    | dk _ => exact q.elim
    | lk _ _ => exact q.elim
    | exc _ _ => exact q.elim
    | tpl _ => exact q.elim
theorem anyL_of (r : Rep k B α C H) {n : Nat} {a : Addr} (ha : α[n]? = some a) {P : Prop} (q : anyL C n P) : (∃ xs, H a = some (.lst xs)) ∧ P := by
  unfold anyL at q
  cases e : C[n]? with
  | none => rw [e] at q; exact q.elim
  | some c =>
    rw [e] at q
    have h := r.at_ n a c ha e
    cases c with
    | lst ds => obtain ⟨xs, h1, h2⟩ := h; exact ⟨⟨xs, h1⟩, q⟩
    | rfs _ => obtain ⟨xs, h1, h2⟩ := h; exact ⟨⟨xs, h1⟩, q⟩
    | frz _ => exact q.elim
    | box _ _ => exact q.elim
    | obj _ _ => exact q.elim
    | dk _ => exact q.elim
    | lk _ _ => exact q.elim
    | exc _ _ => exact q.elim
    | tpl _ => exact q.elim
theorem ty_l {K : Fg} {a : Addr} (h : ∃ xs, H a = some (.lst xs)) : tyV K "list" (.ref a) H := by
  obtain ⟨xs, h⟩ := h
  exact Or.inl ⟨rfl, xs, Or.inl (Or.inl h)⟩
/-- a list is written -/
theorem Rep.putL (r : Rep k B α C H) {n : Nat} {a : Addr} {ds es : List PyData} {ys : List V} (ha : α[n]? = some a) (hc : C[n]? = some (.lst ds)) (h : Das k.K (ms B α C) H ys es) :
    Rep k B α (C.set n (.lst es)) (upd H a (.lst ys)) ∧ To B α C H α (C.set n (.lst es)) (upd H a (.lst ys)) :=
  r.put ha hc rfl rfl (fun b q => upd_ne q) ⟨_, upd_same⟩ fun t => ⟨ys, upd_same, dps_ex t.hid _ _ h⟩
theorem Rep.putR (r : Rep k B α C H) {n : Nat} {a : Addr} {ss ts : List Cv} {ys : List V} (ha : α[n]? = some a) (hc : C[n]? = some (.rfs ss)) (h : Rcs k.K (ms B α C) H α ys ts) :
    Rep k B α (C.set n (.rfs ts)) (upd H a (.lst ys)) ∧ To B α C H α (C.set n (.rfs ts)) (upd H a (.lst ys)) :=
  r.put ha hc rfl rfl (fun b q => upd_ne q) ⟨_, upd_same⟩ fun t => ⟨ys, upd_same, h.to t⟩
end
def appW (C : Cs) (n : Nat) (t : Cv) (K : Cs → Prop) : Prop := match C[n]? with
  | some (.lst _) => fz C t fun d C3 => lstAt C3 n fun ds => ds.length < 100000 ∧ setK C3 n (.lst (ds ++ [d])) K
  | some (.rfs ss) => ss.length < 100000 ∧ setK C n (.rfs (ss ++ [t])) K
  | _ => False
def xAppend (o a : XE) : XE where
  te k W := tBM k.K "list" rAppend (o.te k W) (tCons (a.te k W) tNil)
  wp X ρ C P := o.wp X ρ C fun s C1 => isC s fun n => anyL C1 n (a.wp X ρ C1 fun t C2 => appW C2 n t fun C3 => P (.d .none) C3)
  ok w h q := o.ok w h fun v H1 s α1 C1 t1 r1 c1 p1 => by
    obtain ⟨n, p, rfl, hp, rfl, p1⟩ := isC_of c1 p1
    obtain ⟨hl, p1⟩ := anyL_of r1 hp p1
    refine ⟨ty_l hl, a.ok (w.to t1 r1) p1 fun u H2 s2 α2 C2 t2 r2 c2 p2 => ?_⟩
    have hp2 : α2[n]? = some p := by
      obtain ⟨e, rfl, _⟩ := t2.ex
      rw [List.getElem?_append_left (List.getElem?_eq_some_iff.mp hp).1]; exact hp
    unfold appW at p2
    cases e : C2[n]? with
    | none => rw [e] at p2; exact p2.elim
    | some c =>
      rw [e] at p2
      cases c with
      | lst ds0 =>
        obtain ⟨d, C3, r3, t3, h3, p3⟩ := fz_da r2 c2 p2
        obtain ⟨ds, xs, e3, hx, hd, hn, p4⟩ := lstAt_of r3 hp2 p3
        obtain ⟨r4, t4⟩ := r3.putL hp2 e3 (Das.app hd (.cons h3 .nil))
        exact ⟨p, xs, u, rfl, rfl, hx, by rw [Das.len hd]; exact Nat.lt_of_lt_of_le hn (by decide), q .non _ (.d .none) α2 _ (((t1.trans t2).trans t3).trans t4) r4 Dq.non (setK_of p4)⟩
      | rfs ss =>
        obtain ⟨xs, hx, hd⟩ := r2.at_ n p _ hp2 e
        obtain ⟨r4, t4⟩ := r2.putR hp2 e (hd.app (.cons c2 .nil))
        exact ⟨p, xs, u, rfl, rfl, hx, by rw [Rcs.len hd]; exact Nat.lt_of_lt_of_le p2.1 (by decide), q .non _ (.d .none) α2 _ ((t1.trans t2).trans t4) r4 Dq.non (setK_of p2.2)⟩
      | frz _ => exact p2.elim
      | box _ _ => exact p2.elim
      | obj _ _ => exact p2.elim
      | dk _ => exact p2.elim
      | lk _ _ => exact p2.elim
      | exc _ _ => exact p2.elim
      | tpl _ => exact p2.elim
def extW (C : Cs) (n m : Nat) (K : Cs → Prop) : Prop := match C[n]?, C[m]? with
  | some (.lst ds), some (.lst es) => ds.length + es.length ≤ 100000 ∧ setK C n (.lst (ds ++ es)) K
  | some (.rfs ds), some (.rfs es) => ds.length + es.length ≤ 100000 ∧ setK C n (.rfs (ds ++ es)) K
  | _, _ => False
def xExtend (o a : XE) : XE where
  te k W := tBM k.K "list" rExtend (o.te k W) (tCons (a.te k W) tNil)
  wp X ρ C P := o.wp X ρ C fun s C1 => isC s fun n => anyL C1 n (a.wp X ρ C1 fun t C2 => isC t fun m => extW C2 n m fun C3 => P (.d .none) C3)
  ok w h q := o.ok w h fun v H1 s α1 C1 t1 r1 c1 p1 => by
    obtain ⟨n, p, rfl, hp, rfl, p1⟩ := isC_of c1 p1
    obtain ⟨hl, p1⟩ := anyL_of r1 hp p1
    refine ⟨ty_l hl, a.ok (w.to t1 r1) p1 fun u H2 s2 α2 C2 t2 r2 c2 p2 => ?_⟩
    obtain ⟨m, b, rfl, hb, rfl, p2⟩ := isC_of c2 p2
    have hp2 : α2[n]? = some p := by
      obtain ⟨e, rfl, _⟩ := t2.ex
      rw [List.getElem?_append_left (List.getElem?_eq_some_iff.mp hp).1]; exact hp
    unfold extW at p2
    cases e : C2[n]? with
    | none => rw [e] at p2; exact p2.elim
    | some c =>
      cases e' : C2[m]? with
      | none => rw [e, e'] at p2; cases c <;> exact p2.elim
      | some c' =>
        rw [e, e'] at p2
        cases c <;> cases c' <;> try exact p2.elim
        · obtain ⟨xs, hx, hd⟩ := r2.at_ n p _ hp2 e
          obtain ⟨ys, hy, he⟩ := r2.at_ m b _ hb e'
          obtain ⟨r4, t4⟩ := r2.putL hp2 e (Das.app hd he)
          exact ⟨p, b, xs, ys, rfl, rfl, hx, hy, by rw [Das.len hd, Das.len he]; exact Nat.le_trans p2.1 (by decide), q .non _ (.d .none) α2 _ ((t1.trans t2).trans t4) r4 Dq.non (setK_of p2.2)⟩
        · obtain ⟨xs, hx, hd⟩ := r2.at_ n p _ hp2 e
          obtain ⟨ys, hy, he⟩ := r2.at_ m b _ hb e'
          obtain ⟨r4, t4⟩ := r2.putR hp2 e (hd.app he)
          exact ⟨p, b, xs, ys, rfl, rfl, hx, hy, by rw [Rcs.len hd, Rcs.len he]; exact Nat.le_trans p2.1 (by decide), q .non _ (.d .none) α2 _ ((t1.trans t2).trans t4) r4 Dq.non (setK_of p2.2)⟩
def xClear (o : XE) : XE where
  te k W := tBM0 k.K "list" rClear (o.te k W)
  wp X ρ C P := o.wp X ρ C fun s C1 => isC s fun n => lstAt C1 n fun _ => setK C1 n (.lst []) fun C2 => P (.d .none) C2
  ok w h q := o.ok w h fun v H1 s α1 C1 t1 r1 c1 p1 => by
    obtain ⟨n, p, rfl, hp, rfl, p1⟩ := isC_of c1 p1
    obtain ⟨ds, xs, e3, hx, hd, p4⟩ := lstAt_of r1 hp p1
    obtain ⟨r4, t4⟩ := r1.putL hp e3 .nil
    exact ⟨ty_l ⟨_, hx⟩, p, xs, rfl, rfl, hx, q .non _ (.d .none) α1 _ (t1.trans t4) r4 Dq.non (setK_of p4)⟩
def xReverse (o : XE) : XE where
  te k W := tBM0 k.K "list" rReverse (o.te k W)
  wp X ρ C P := o.wp X ρ C fun s C1 => isC s fun n => lstAt C1 n fun ds => setK C1 n (.lst ds.reverse) fun C2 => P (.d .none) C2
  ok w h q := o.ok w h fun v H1 s α1 C1 t1 r1 c1 p1 => by
    obtain ⟨n, p, rfl, hp, rfl, p1⟩ := isC_of c1 p1
    obtain ⟨ds, xs, e3, hx, hd, p4⟩ := lstAt_of r1 hp p1
    obtain ⟨r4, t4⟩ := r1.putL hp e3 (Das.rev hd)
    exact ⟨ty_l ⟨_, hx⟩, p, xs, rfl, rfl, hx, q .non _ (.d .none) α1 _ (t1.trans t4) r4 Dq.non (setK_of p4)⟩
theorem Das.dropLast {K : Fg} {H : Hp} {vs : List V} {ds : List PyData} (h : DqAll K H vs ds) : DqAll K H vs.dropLast ds.dropLast := by
  rw [List.dropLast_eq_take, List.dropLast_eq_take, Das.len h]
  exact Das.take _ h
theorem Das.erase {K : Fg} {H : Hp} : ∀ {vs : List V} {ds : List PyData} (n : Nat), DqAll K H vs ds → DqAll K H (vs.eraseIdx n) (ds.eraseIdx n)
  | _, _, _, .nil => .nil
  | _, _, 0, .cons _ t => t
  | _, _, n + 1, .cons a t => .cons a (Das.erase n t)
def getW {α : Type} (ds : List α) (i : Nat) (K : α → Prop) : Prop := match ds[i]? with
  | some d => K d
  | none => False
theorem getW_of {α : Type} {ds : List α} {i : Nat} {K : α → Prop} (h : getW ds i K) : ∃ d, ds[i]? = some d ∧ K d := by
  unfold getW at h
  cases e : ds[i]? with
  | none => rw [e] at h; exact h.elim
  | some d => rw [e] at h; exact ⟨d, rfl, h⟩
def sixW (n : Nat) (i : Int) (K : Nat → Prop) : Prop := match seqIndex? i n with
  | some j => K j
  | none => False
theorem sixW_of {n : Nat} {i : Int} {K : Nat → Prop} (h : sixW n i K) : ∃ j, seqIndex? i n = some j ∧ K j := by
  unfold sixW at h
  cases e : seqIndex? i n with
  | none => rw [e] at h; exact h.elim
  | some d => rw [e] at h; exact ⟨d, rfl, h⟩
def ixnW (n : Nat) (i : Int) (K : Nat → Prop) : Prop := match ixN n i with
  | some j => K j
  | none => False
theorem ixnW_of {n : Nat} {i : Int} {K : Nat → Prop} (h : ixnW n i K) : ∃ j, ixN n i = some j ∧ K j := by
  unfold ixnW at h
  cases e : ixN n i with
  | none => rw [e] at h; exact h.elim
  | some d => rw [e] at h; exact ⟨d, rfl, h⟩
def xPop (o : XE) : XE where
  te k W := tBM0 k.K "list" rPop (o.te k W)
  wp X ρ C P := o.wp X ρ C fun s C1 => isC s fun n => lstAt C1 n fun ds => getW ds (ds.length - 1) fun d => setK C1 n (.lst ds.dropLast) fun C2 => P (.d d) C2
  ok w h q := o.ok w h fun v H1 s α1 C1 t1 r1 c1 p1 => by
    obtain ⟨n, p, rfl, hp, rfl, p1⟩ := isC_of c1 p1
    obtain ⟨ds, xs, e3, hx, hd, p4⟩ := lstAt_of r1 hp p1
    obtain ⟨d, hd1, p4⟩ := getW_of p4
    obtain ⟨r4, t4⟩ := r1.putL hp e3 (Das.dropLast hd)
    obtain ⟨y, hy, dy⟩ := Das.get hd hd1
    exact ⟨ty_l ⟨_, hx⟩, p, xs, y, rfl, rfl, hx, by rw [Das.len hd]; exact hy, q y _ (.d d) α1 _ (t1.trans t4) r4 (dp_ex t4.hid _ _ dy) (setK_of p4)⟩
def xPopAt (o a : XE) : XE where
  te k W := tBM k.K "list" rPopAt (o.te k W) (tCons (a.te k W) tNil)
  wp X ρ C P := o.wp X ρ C fun s C1 => isC s fun n => anyL C1 n (a.wp X ρ C1 fun t C2 => isI t fun i => (-(2 ^ 63) ≤ i ∧ i < 2 ^ 63) ∧ lstAt C2 n fun ds => sixW ds.length i fun j => getW ds j fun d => setK C2 n (.lst (ds.eraseIdx j)) fun C3 => P (.d d) C3)
  ok w h q := o.ok w h fun v H1 s α1 C1 t1 r1 c1 p1 => by
    obtain ⟨n, p, rfl, hp, rfl, p1⟩ := isC_of c1 p1
    obtain ⟨hl, p1⟩ := anyL_of r1 hp p1
    refine ⟨ty_l hl, a.ok (w.to t1 r1) p1 fun u H2 s2 α2 C2 t2 r2 c2 p2 => ?_⟩
    have hp2 : α2[n]? = some p := by
      obtain ⟨e, rfl, _⟩ := t2.ex
      rw [List.getElem?_append_left (List.getElem?_eq_some_iff.mp hp).1]; exact hp
    obtain ⟨i, rfl, hi, p2⟩ := isI_of p2
    have eu := Da.int_inv c2
    subst eu
    obtain ⟨ds, xs, e3, hx, hd, p4⟩ := lstAt_of r2 hp2 p2
    obtain ⟨j, hj, p4⟩ := sixW_of p4
    obtain ⟨d, hd1, p4⟩ := getW_of p4
    obtain ⟨r4, t4⟩ := r2.putL hp2 e3 (Das.erase j hd)
    obtain ⟨y, hy, dy⟩ := Das.get hd hd1
    exact ⟨p, xs, i, j, y, rfl, rfl, hx, hi.1, hi.2, by rw [Das.len hd]; exact hj, hy, q y _ (.d d) α2 _ ((t1.trans t2).trans t4) r4 (dp_ex t4.hid _ _ dy) (setK_of p4)⟩
def rInsert : V → List V → Hp → VK → Prop := fun x vs H Q => ∃ (l : Addr) (xs : List V) (i : Int) (y : V), x = .ref l ∧ vs = [.int i, y] ∧ H l = some (.lst xs) ∧ xs.length < sizeLine ∧ 0 ≤ i ∧ i < 2 ^ 63 ∧
    Q .non (upd H l (.lst (xs.take i.toNat ++ [y] ++ xs.drop i.toNat)))
theorem mt_insertD {X : Cx} : MtR X "list.insert" rInsert := mt_insert
def xInsert (o a b : XE) : XE where
  te k W := tBM k.K "list" rInsert (o.te k W) (tCons (a.te k W) (tCons (b.te k W) tNil))
  wp X ρ C P := o.wp X ρ C fun s C1 => isC s fun n => anyL C1 n (a.wp X ρ C1 fun t C2 => b.wp X ρ C2 fun u C3 => isI t fun i => (0 ≤ i ∧ i < 2 ^ 63) ∧ fz C3 u fun d C4 => lstAt C4 n fun ds => ds.length < 100000 ∧ setK C4 n (.lst (ds.take i.toNat ++ [d] ++ ds.drop i.toNat)) fun C5 => P (.d .none) C5)
  ok w h q := o.ok w h fun v H1 s α1 C1 t1 r1 c1 p1 => by
    obtain ⟨n, p, rfl, hp, rfl, p1⟩ := isC_of c1 p1
    obtain ⟨hl, p1⟩ := anyL_of r1 hp p1
    refine ⟨ty_l hl, a.ok (w.to t1 r1) p1 fun u H2 s2 α2 C2 t2 r2 c2 p2 => b.ok ((w.to t1 r1).to t2 r2) p2 fun u' H3 s3 α3 C3 t3 r3 c3 p3 => ?_⟩
    have hp3 : α3[n]? = some p := by
      obtain ⟨e, rfl, _⟩ := (t2.trans t3).ex
      rw [List.getElem?_append_left (List.getElem?_eq_some_iff.mp hp).1]; exact hp
    obtain ⟨i, rfl, hi, p3⟩ := isI_of p3
    have eu := Da.int_inv c2
    subst eu
    obtain ⟨d, C4, r4, t4, h4, p4⟩ := fz_da r3 c3 p3
    obtain ⟨ds, xs, e3, hx, hd, hn, p5⟩ := lstAt_of r4 hp3 p4
    obtain ⟨r5, t5⟩ := r4.putL hp3 e3 (Das.app (Das.app (Das.take i.toNat hd) (.cons h4 .nil)) (Das.drop i.toNat hd))
    exact ⟨p, xs, i, u', rfl, rfl, hx, by rw [Das.len hd]; exact Nat.lt_of_lt_of_le hn (by decide), hi.1, hi.2, q .non _ (.d .none) α3 _ ((((t1.trans t2).trans t3).trans t4).trans t5) r5 Dq.non (setK_of p5)⟩
/-- xs[i] = e -/
def xsSetItem (e o i : XE) : XS where
  ts k W := tAsg (e.te k W) (gSub (o.te k W) (i.te k W) rSetL)
  wp X ρ C P := e.wp X ρ C fun s C1 => o.wp X ρ C1 fun t C2 => isC t fun n => i.wp X ρ C2 fun u C3 => isI u fun j => fz C3 s fun d C4 => lstAt C4 n fun ds => ixnW ds.length j fun m => setK ds m d fun es => setK C4 n (.lst es) fun C5 => P.N ρ C5
  ok w h q := e.ok w h fun v H1 s α1 C1 t1 r1 c1 p1 => o.ok (w.to t1 r1) p1 fun u H2 s2 α2 C2 t2 r2 c2 p2 => by
    obtain ⟨n, p, rfl, hp, rfl, p2⟩ := isC_of c2 p2
    refine i.ok ((w.to t1 r1).to t2 r2) p2 fun z H3 s3 α3 C3 t3 r3 c3 p3 => ?_
    obtain ⟨j, e1, p6⟩ := isI_of p3
    subst e1
    have ez := Da.int_inv c3
    subst ez
    have hp3 : α3[n]? = some p := by
      obtain ⟨e, rfl, _⟩ := t3.ex
      rw [List.getElem?_append_left (List.getElem?_eq_some_iff.mp hp).1]; exact hp
    obtain ⟨d, C4, r4, t4, h4, p4⟩ := fz_da r3 ((c1.to t2).to t3) p6
    obtain ⟨ds, xs, e3, hx, hd, p5⟩ := lstAt_of r4 hp3 p4
    obtain ⟨m, hm, p5⟩ := ixnW_of p5
    obtain ⟨r5, t5⟩ := r4.putL hp3 e3 (Das.set h4 m hd)
    have tt := (((t1.trans t2).trans t3).trans t4).trans t5
    exact ⟨p, xs, j, m, rfl, rfl, hx, by rw [Das.len hd]; exact hm, q.nx _ _ _ α3 _ tt r5 (w.en.to tt) (setK_of (K := fun C5 => _) (setK_of (K := fun es => setK C4 n (.lst es) fun C5 => _) p5))⟩
/-! ### isinstance, texts, slices backwards -/
def tTys : List String → TA
  | [] => tNil
  | T :: Ts => tCons (tC (.ty T)) (tTys Ts)
theorem tys_ev : ∀ (Ts : List String) (σ : L2.St) (H : Hp) (Q : List V → Hp → Prop), Q (Ts.map V.ty) H → tTys Ts σ H Q
  | [], σ, H, Q, q => q
  | T :: Ts, σ, H, Q, q => tys_ev Ts σ H (fun vs H' => Q (.ty T :: vs) H') q
def xIsi (a : XE) (T : String) : XE where
  te k W := tCB (rIsD k.K) (tCons (a.te k W) (tCons (tC (.ty T)) tNil))
  wp X ρ C P := chk (decide (T ∈ goodT)) (a.wp X ρ C fun s C1 => rd C1 s fun d => P (.d (.bool (isD T d))) C1)
  ok w h q := a.ok w (chk_of h).2 fun v H1 s α1 C1 t1 r1 c1 p1 => by
    obtain ⟨d, h1, p2⟩ := rd_dt r1 c1 p1
    exact ⟨ms _ α1 C1, v, d, T, rfl, of_decide_eq_true (chk_of h).1, r1.md, h1, q _ H1 (.d (.bool (isD T d))) α1 C1 t1 r1 (Dq.bl _) p2⟩
theorem Dt.ex {K : Fg} {M : Ms} {H H' : Hp} {v : V} {d : PyData} (h : Dt K M H v d) (x : Ex H H') : Dt K M H' v d := by
  cases h with
  | da h => exact .da (h.ex x)
  | op s a => exact .op (ex_l x s) (Das.ex a x)
def xIsiT (a : XE) (Ts : List String) : XE where
  te k W := tCB (rIsTD k.K) (tCons (a.te k W) (tCons (tTup (tTys Ts)) tNil))
  wp X ρ C P := chk (Ts.all (fun T => goodT.contains T) && Nat.ble Ts.length 100000) (a.wp X ρ C fun s C1 => rd C1 s fun d => P (.d (.bool (Ts.any fun T => isD T d))) C1)
  ok w h q := a.ok w (chk_of h).2 fun v H1 s α1 C1 t1 r1 c1 p1 => by
    have h1 := (Bool.and_eq_true _ _).mp (chk_of h).1
    have hl : Ts.length ≤ 100000 := Nat.le_of_ble_eq_true h1.2
    have hT : ∀ T ∈ Ts, T ∈ goodT := fun T m => by have := List.all_eq_true.mp h1.1 T m; simpa using this
    obtain ⟨d, h1, p2⟩ := rd_dt r1 c1 p1
    refine tys_ev Ts _ H1 _ ⟨by rw [List.length_map]; exact Nat.le_trans hl (by decide), fun p hp => ?_⟩
    exact ⟨ms _ α1 C1, v, d, p, Ts, rfl, upd_same, hT, r1.md.ex (Ex.new hp), h1.ex (Ex.new hp), q _ _ (.d (.bool (Ts.any fun T => isD T d))) α1 C1 (t1.trans (r1.ex (Ex.new hp))) (r1.keep (Ex.new hp)) (Dq.bl _) p2⟩
def fmtD (s : Cv) (K : Str → Prop) : Prop := match s with
  | .d (.str y) => y.length ≤ sizeLine ∧ K y
  | .d (.int i) => i.natAbs.log2 < 1920 ∧ K (toString i)
  | _ => False
def xFmt (a : XE) : XE where
  te k W := tFmt (a.te k W)
  wp X ρ C P := a.wp X ρ C fun s C1 => fmtD s fun y => P (.d (.str y)) C1
  ok w h q := a.ok w h fun v H1 s α1 C1 t1 r1 c1 p1 => by
    cases s with
    | v x => exact p1.elim
    | c n => exact p1.elim
    | d x =>
      cases x <;> try exact p1.elim
      · rename_i i
        exact .inr ⟨i, Da.int_inv c1, p1.1, q _ H1 (.d (.str (toString i))) α1 C1 t1 r1 (Dq.str _) p1.2⟩
      · rename_i y
        exact .inl ⟨y, Da.str_inv c1, p1.1, q _ H1 (.d (.str y)) α1 C1 t1 r1 (Dq.str _) p1.2⟩
def fsW : List XE → Xp → Rv → Str → Cs → (Str → Cs → Prop) → Prop
  | [], _, _, acc, C, P => P acc C
  | e :: es, X, ρ, acc, C, P => e.wp X ρ C fun s C1 => isS s fun y => (acc ++ y).length ≤ sizeLine ∧ fsW es X ρ (acc ++ y) C1 P
theorem fs_ok : ∀ (es : List XE) {k B α C H σ ρ W X acc P} {Q : Str → Hp → Prop}, Wd k B α C H σ ρ W X → fsW es X ρ acc C P → (∀ out H' α' C', To B α C H α' C' H' → Rep k B α' C' H' → P out C' → Q out H') → tJs (es.map fun e => e.te k W) acc σ H Q
  | [], _, _, _, _, _, _, _, _, _, _, _, _, w, h, q => q _ _ _ _ w.rep.refl w.rep h
  | e :: es, _, _, _, _, _, _, _, _, _, _, _, _, w, h, q => e.ok w h fun v H1 s α1 C1 t1 r1 c1 p1 => by
    obtain ⟨y, rfl, hl, p2⟩ := isS_of p1
    exact ⟨y, Da.str_inv c1, hl, fs_ok es (w.to t1 r1) p2 fun out H' α' C' t => q out H' α' C' (t1.trans t)⟩
def xFs (es : List XE) : XE where
  te k W := tFs (es.map fun e => e.te k W)
  wp X ρ C P := fsW es X ρ Str.empty C fun out C1 => P (.d (.str out)) C1
  ok w h q := by
    show tJs _ Str.empty _ _ _
    exact fs_ok es w h fun out H' α' C' t r p => q _ H' (.d (.str out)) α' C' t r (Dq.str out) p
def xRevS (a : XE) : XE where
  te k W := tRevS (a.te k W)
  wp X ρ C P := a.wp X ρ C fun s C1 => isS s fun y => y.length ≤ sizeLine ∧ P (.d (.str (revT y))) C1
  ok w h q := a.ok w h fun v H1 s α1 C1 t1 r1 c1 p1 => by
    obtain ⟨y, rfl, hl, p⟩ := isS_of p1
    exact ⟨y, Da.str_inv c1, hl, q _ H1 (.d (.str (revT y))) α1 C1 t1 r1 (Dq.str _) p⟩
def xRevL (a : XE) : XE where
  te k W := tRevL k.K (a.te k W)
  wp X ρ C P := a.wp X ρ C fun s C1 => rd C1 s fun d => isL d fun ds => P (.d (.list ds.reverse)) C1
  ok w h q := a.ok w h fun v H1 s α1 C1 t1 r1 c1 p1 => by
    obtain ⟨d, h1, p2⟩ := rd_dt r1 c1 p1
    obtain ⟨ds, rfl, p2⟩ := isL_of p2
    obtain ⟨p, xs, rfl, hp, hx⟩ := h1.list_inv
    rw [hid_nil] at hp
    exact ⟨p, xs, rfl, hp, fun y hy => q _ _ (.d (.list ds.reverse)) α1 C1 (t1.trans (r1.ex (Ex.new hy))) (r1.keep (Ex.new hy)) (Da.new_lst r1.md hy (Das.rev hx)) p2⟩
/-! ### the box of draws is opened -/
def boxAt (C : Cs) (n : Nat) (K : Nat → Nat → Prop) : Prop := match C[n]? with
  | some (.box l m) => K l m
  | _ => False
def xsOpen (i : Nat) (b : XS) : XS where
  ts := b.ts
  wp X ρ C P := boxAt C i fun l n => ∀ (x y : Int) (d : PyData), boxD l d → 0 ≤ x → 0 ≤ y → y ≤ n → setK C i (.lst [.int x, d, .int y]) fun C1 => b.wp X ρ C1 P
  ok {k B α C H σ ρ W X P D} w h q := by
    unfold boxAt at h
    cases e : C[i]? with
    | none => rw [e] at h; exact h.elim
    | some c =>
      rw [e] at h
      cases c <;> try exact h.elim
      rename_i l n
      have hl : i < α.length := by rw [w.rep.len]; exact (List.getElem?_eq_some_iff.mp e).1
      have ha := List.getElem?_eq_getElem hl
      obtain ⟨x, y, v, d, h1, h2, h3, h4, h5, h6⟩ := w.rep.at_ i _ _ ha e
      obtain ⟨r2, t2⟩ := w.rep.put (c' := .lst [.int x, d, .int y]) ha e rfl rfl (fun _ _ => rfl) ⟨_, h1⟩ fun t => ⟨_, h1, .cons (.int x) (.cons (dp_ex t.hid _ _ h2) (.cons (.int y) .nil))⟩
      exact b.ok (w.to t2 r2) (setK_of (K := fun C1 => b.wp X ρ C1 P) (h x y d h3 h4 h5 h6)) (q.to t2)
/-! ### a def keeps its promise -/
def rv0 (N : List Str) (ss : List Cv) : Rv := ss.map some ++ List.replicate (N.length - ss.length) none
@[irreducible] def retW (n0 : Nat) (R : Cv → Cs → Prop) (s : Cv) (c : Cs) : Prop := ∃ f s' c', Wk n0 f c c' ∧ RenV f s s' ∧ R s' c'
/-- what leaves the def -/
def xOut (n0 : Nat) (X : Xc → Cs → Prop) : Xp := fun x _ c => ∃ f x' c', Wk n0 f c c' ∧ x'.cn = x.cn ∧ RenFs f x.fs x'.fs ∧ (x.fs = [] ↔ x'.fs = []) ∧ X x' c'
def ptR (n0 : Nat) (R : Cv → Cs → Prop) : Pt := ⟨fun _ c => retW n0 R (.d .none) c, fun s c => retW n0 R s c, fun _ _ => False, fun _ _ => False⟩
def SemW (N : List Str) (np : Nat) (A : Pw) (b : XS) : Prop := ∀ ss C R X, A ss C R X → ss.length = np ∧ np ≤ N.length ∧
  b.wp (xOut C.length X) (rv0 N ss) C (ptR C.length R)
theorem en_start {k : Kx} {B α : List Addr} {C : Cs} {H : Hp} {N : List Str} {vs : List V} {ss : List Cv} (r : Rcs k.K (ms B α C) H α vs ss) (hl : vs.length ≤ N.length) : En k B α C H (L2.start N vs) (rv0 N ss) := by
  have h := Rcs.len r
  unfold L2.start rv0
  refine ⟨by simp [h], fun i s q => ?_⟩
  by_cases hi : i < ss.length
  · rw [List.getElem?_append_left (by simpa using hi), List.getElem?_map] at q
    cases e : ss[i]? with
    | none => rw [e] at q; cases q
    | some t =>
      rw [e] at q
      have q' : t = s := by injection q with q; injection q
      subst q'
      have hv : i < vs.length := by omega
      refine ⟨vs[i], ?_, r.get (List.getElem?_eq_getElem hv) e⟩
      rw [List.getElem?_append_left (by simpa using hv), List.getElem?_map, List.getElem?_eq_getElem hv]; rfl
  · rw [List.getElem?_append_right (by simp; omega)] at q
    have := List.mem_of_getElem? q
    simp at this
abbrev W0 : WX := fun _ _ _ _ => False
section
variable {Pr : Program} {w : World} {kx : Kx} {mg : Str → Option Value} {base : Heap}
/-- what a body shows is what the promise says -/
theorem sem_reads {N : List Str} {np : Nat} {A : Pw} {b : XS} (sem : SemW N np A b) {vs : List V} {H : Hp} {Q : VK} {E : XK} {W : WX} (h : spW kx A vs H Q E)
    (hW : ∀ cls d H', E cls d H' → ∀ σ', W cls d σ' H') : vs.length = np ∧ b.ts kx W { nx := fun _ H' => Q .non H', rt := Q } (L2.start N vs) H := by
  obtain ⟨B, α, C, ss, R, X, r, c, hA, q, qx⟩ := h
  obtain ⟨h1, h2, wp⟩ := sem ss C R X hA
  have hl := Rcs.len c
  refine ⟨hl.trans h1, ?_⟩
  have fin : ∀ v H' s α' C', To B α C H α' C' H' → Rep kx B α' C' H' → Rc kx.K (ms B α' C') H' α' v s → retW C.length R s C' → Q v H' := by
    intro v H' s α' C' t r' c' hq
    unfold retW at hq
    obtain ⟨f, s', c2, wk, rn, p⟩ := hq
    exact q v H' s' _ c2 (t.wk r.len r' wk) (r'.ren wk.nd wk.wk) ((c'.mono (wk_h r' wk.wk)).ren (wk_lt r' wk.wk) rn) p
  refine b.ok (X := _) ⟨r, en_start c (by omega), fun cls d H' x α' C' σ' ρ' t r' xa _ ⟨f, x', c2, wk, e1, rn, e2, p⟩ => ?_⟩ wp ⟨fun σ' H' ρ' α' C' t r' _ p => fin .non H' (.d .none) α' C' t r' Dq.non p, fin, fun _ _ _ _ _ _ _ _ p => p.elim, fun _ _ _ _ _ _ _ _ p => p.elim⟩
  refine hW cls d H' (qx cls d H' x' _ c2 (t.wk r.len r' wk) (r'.ren wk.nd wk.wk) ⟨by rw [e1]; exact xa.1, ?_⟩ p) σ'
  rcases xa.2 with ⟨g1, g2⟩ | ⟨dd, vs', g1, g2, g3⟩
  · exact .inl ⟨e2.mp g1, g2⟩
  · exact .inr ⟨dd, vs', g1, hid_mono (wk_h r' wk.wk) _ _ _ g2, (g3.mono (wk_h r' wk.wk)).ren (wk_lt r' wk.wk) rn⟩
theorem mk_okW {x qual : Str} {st : Stmt} {f : Addr} {fd : FuncData} {N ps : List Str} {k : Nat} {A : Pw} {b : XS} (F : Fun kx.K x qual st f fd) (S : FnScope N ps (defScope st)) (sem : SemW N ps.length A b) (nox : ∀ ss C R X, A ss C R X → A ss C R fun _ _ => False)
    (der : ∀ (cdv : Value) (A' : Around) (outer : List PySem.Env) (s : Shared) (H : Hp) (E : XK), A'.guards = some [] → Room k (A'.deeper (PyProof.Rows.envOfC qual (defScope st) s.heap.objs.size f cdv)) → PSs (cxOf CX0 Pr w kx.K mg base N qual (defScope st) f cdv A' outer s H E).nox (defBody st) (b.ts kx W0)) :
    FnG Pr w kx.K mg base CX0 (k + 1) f fd ps (spW kx A) := by
  refine fng F S ?_ ?_
  · intro vs H Q E h
    exact (sem_reads sem (W := fun cls d _ H' => E cls d H') h (fun _ _ _ h _ => h)).1
  · intro cdv A' outer s H vs Q E hG hr h
    refine ⟨_, (der cdv A' outer s H E hG hr).nox, ?_⟩
    obtain ⟨B, α, C, ss, R, X, r, c, hA, q, qx⟩ := h
    exact (sem_reads sem (E := fun _ _ _ => False) (W := W0) ⟨B, α, C, ss, R, fun _ _ => False, r, c, nox _ _ _ _ hA, q, fun _ _ _ _ _ _ _ _ _ z => z.elim⟩ (fun _ _ _ z => z.elim)).2
end
/-! ### the law itself -/
def pw_law : Pw := fun ss C R _ => ∃ ns : List Int, ss = [.d (.list (ns.map .int))] ∧ C = [] ∧ ns.length ≤ 63 ∧ R (.d (.bool true)) []
theorem law_startW {kx : Kx} {H : Hp} {a : Addr} {ns : List Int} (hl : ns.length ≤ 63) (hS : SqL kx.K H a (ns.map V.int)) : spW kx pw_law [.ref a] H (fun v _ => v = .bl true) fun _ _ _ => False := by
  have r : Rep kx [] [] [] H := ⟨rfl, .nil, (fun _ m => nomatch m), (fun _ m => nomatch m), fun i a c h => by simp at h⟩
  refine ⟨[], [], [], [.d (.list (ns.map .int))], fun s _ => s = .d (.bool true), fun _ _ => False, r, .cons ?_ .nil, ⟨ns, rfl, rfl, hl, rfl⟩, fun v H' s α' C' _ _ c e => ?_, fun _ _ _ _ _ _ _ _ _ z => z⟩
  · exact Dq.lst (by
      have e : hid (ms [] [] []) H = H := by funext a; exact if_neg (fun m => nomatch m)
      rw [e]; exact hS) (Das.of_ints ns)
  · subst e; exact Da.bl_inv c
end DL
set_option maxRecDepth 100000
namespace DL
open PySem L2
/-- from now on it is data -/
def xFz (a : XE) : XE where
  te := a.te
  wp X ρ C P := a.wp X ρ C fun s C1 => fz C1 s fun d C2 => P (.d d) C2
  ok w h q := a.ok w h fun v H1 s α1 C1 t1 r1 c1 p1 => by
    obtain ⟨d, C2, r2, t2, h2, p2⟩ := fz_da r1 c1 p1
    exact q v H1 (.d d) α1 C2 (t1.trans t2) r2 h2 p2
/-! ### zip, enumerate -/
def rdK (C : Cs) (s : Cv) (K : PyData → (Cs → Prop) → Prop) : Prop := match s with
  | .d x => K x fun _ => True
  | .c n => (match C[n]? with
    | some (.lst ds) => K (.list ds) fun C' => C'[n]? = some (.lst ds)
    | some (.frz d) => K d fun _ => True
    | _ => False)
  | .v _ => False
section
variable {k : Kx} {B α : List Addr} {C : Cs} {H : Hp}
/-- what is read is read on, as long as it is kept -/
theorem rdK_dt (r : Rep k B α C H) {v : V} {s : Cv} (h : Rc k.K (ms B α C) H α v s) {K : PyData → (Cs → Prop) → Prop} (q : rdK C s K) : ∃ d keep, K d keep ∧ keep C ∧ ∀ B' α' C' H', Em B α C H B' α' C' H' → Rep k B' α' C' H' → keep C' → Dt k.K (ms B' α' C') H' v d := by
  cases s with
  | d x => exact ⟨x, _, q, trivial, fun B' α' C' H' e r' _ => .da (dp_ex e.hid _ _ h)⟩
  | v x => exact q.elim
  | c n =>
    obtain ⟨a, ha, rfl⟩ := h
    unfold rdK at q
    dsimp only at q
    cases e : C[n]? with
    | none => rw [e] at q; exact q.elim
    | some c =>
      rw [e] at q
      have h := r.at_ n a c ha e
      cases c with
      | lst ds =>
        refine ⟨.list ds, _, q, e, fun B' α' C' H' em r' kp => ?_⟩
        have ha' : α'[n]? = some a := by
          obtain ⟨f, rfl⟩ := em.ex
          rw [List.getElem?_append_left (List.getElem?_eq_some_iff.mp ha).1]; exact ha
        obtain ⟨xs, h1, h2⟩ := r'.at_ n a _ ha' kp
        exact .op (.inl (.inl h1)) h2
      | frz d => exact ⟨d, _, q, trivial, fun B' α' C' H' em r' _ => .da (dp_ex em.hid _ _ h.2.2)⟩
      | rfs _ => exact q.elim
      | box _ _ => exact q.elim
      | obj _ _ => exact q.elim
      | dk _ => exact q.elim
      | lk _ _ => exact q.elim
      | exc _ _ => exact q.elim
      | tpl _ => exact q.elim
end
def zipD (d e : PyData) (K : List PyData → Prop) : Prop := match d, e with
  | .list ds, .list es => K ((ds.zip es).map fun p => .tuple [p.1, p.2])
  | .tuple ds, .tuple es => K ((ds.zip es).map fun p => .tuple [p.1, p.2])
  | _, _ => False
theorem zip_get {α β : Type} : ∀ {xs : List α} {ys : List β} {i : Nat} {p : α × β}, (xs.zip ys)[i]? = some p → xs[i]? = some p.1 ∧ ys[i]? = some p.2
  | [], _, i, p, h => by simp at h
  | _ :: _, [], i, p, h => by simp at h
  | x :: xs, y :: ys, 0, p, h => by simp at h; subst h; exact ⟨rfl, rfl⟩
  | x :: xs, y :: ys, i + 1, p, h => by simpa using zip_get (xs := xs) (ys := ys) (i := i) (by simpa using h)
def xiZip (a b : XE) : XI where
  wi k W := RZ.iZipA k.K (tCons (a.te k W) (tCons (b.te k W) tNil))
  wp X ρ C P := a.wp X ρ C fun s C1 => b.wp X ρ C1 fun t C2 => rdK C2 s fun d k1 => rdK C2 t fun e k2 => zipD d e fun ps => P (ps.map .d) (fun C' => k1 C' ∧ k2 C') C2
  ok {k B α C H σ ρ W X P R} w h q := a.ok w h fun v H1 s α1 C1 t1 r1 c1 p1 => b.ok (w.to t1 r1) p1 fun u H2 s2 α2 C2 t2 r2 c2 p2 => by
    obtain ⟨d, k1, p2, kk1, D1⟩ := rdK_dt r2 (c1.to t2) p2
    obtain ⟨e, k2, p3, kk2, D2⟩ := rdK_dt r2 c2 p2
    have e0 : Em B α2 C2 H2 B α2 C2 H2 := r2.refl.em
    have h1 := D1 _ _ _ _ e0 r2 kk1
    have h2 := D2 _ _ _ _ e0 r2 kk2
    cases d <;> cases e <;> try exact p3.elim
    · rename_i ds es
      obtain ⟨x, xs, rfl, hx, _⟩ := h1.list_inv
      obtain ⟨y, ys, rfl, hy, _⟩ := h2.list_inv
      rw [hid_nil] at hx hy
      refine ⟨x, y, xs, ys, rfl, .inl ⟨hx, hy, q _ _ _ _ _ _ (t1.trans t2) r2 p3 fun B' α' C' H' em r' kp => ?_⟩⟩
      obtain ⟨x', xs', ex, hx', dx⟩ := (D1 _ _ _ _ em r' kp.1).list_inv
      obtain ⟨y', ys', ey, hy', dy⟩ := (D2 _ _ _ _ em r' kp.2).list_inv
      cases ex; cases ey
      rw [hid_nil] at hx' hy'
      refine ⟨fun i s hs => ?_, xs', ys', hx', hy', ?_⟩
      · rw [List.getElem?_map, List.getElem?_map] at hs
        cases hz : (ds.zip es)[i]? with
        | none => rw [hz] at hs; cases hs
        | some p =>
          rw [hz] at hs
          cases hs
          obtain ⟨z1, z2⟩ := zip_get hz
          obtain ⟨v1, g1, d1⟩ := Das.get dx z1
          obtain ⟨v2, g2, d2⟩ := Das.get dy z2
          refine ⟨⟨xs', ys', v1, v2, hx', hy', g1, g2⟩, fun z H'' hyl => ?_⟩
          obtain ⟨T, a1, a2, rfl, hT, rfl, f1, f2⟩ := hyl
          have q1 := (f1 _ hx').symm.trans g1
          have q2 := (f2 _ hy').symm.trans g2
          cases q1; cases q2
          exact ⟨Ex.new hT, Da.new_tup r'.md hT (.cons d1 (.cons d2 .nil))⟩
      · rw [List.length_map, List.length_map, List.length_zip, Das.len dx, Das.len dy]; omega
    · rename_i ds es
      obtain ⟨x, xs, rfl, hx, _⟩ := h1.tup_inv
      obtain ⟨y, ys, rfl, hy, _⟩ := h2.tup_inv
      refine ⟨x, y, xs, ys, rfl, .inr ⟨hid_t hx, hid_t hy, q _ _ _ _ _ _ (t1.trans t2) r2 p3 fun B' α' C' H' em r' kp => ?_⟩⟩
      obtain ⟨x', xs', ex, hx', dx⟩ := (D1 _ _ _ _ em r' kp.1).tup_inv
      obtain ⟨y', ys', ey, hy', dy⟩ := (D2 _ _ _ _ em r' kp.2).tup_inv
      cases ex; cases ey
      have hx' := hid_t hx'
      have hy' := hid_t hy'
      refine ⟨fun i s hs => ?_, xs', ys', hx', hy', ?_⟩
      · rw [List.getElem?_map, List.getElem?_map] at hs
        cases hz : (ds.zip es)[i]? with
        | none => rw [hz] at hs; cases hs
        | some p =>
          rw [hz] at hs
          cases hs
          obtain ⟨z1, z2⟩ := zip_get hz
          obtain ⟨v1, g1, d1⟩ := Das.get dx z1
          obtain ⟨v2, g2, d2⟩ := Das.get dy z2
          refine ⟨⟨xs', ys', v1, v2, hx', hy', g1, g2⟩, fun z H'' hyl => ?_⟩
          obtain ⟨T, a1, a2, rfl, hT, rfl, f1, f2⟩ := hyl
          have q1 := (f1 _ hx').symm.trans g1
          have q2 := (f2 _ hy').symm.trans g2
          cases q1; cases q2
          exact ⟨Ex.new hT, Da.new_tup r'.md hT (.cons d1 (.cons d2 .nil))⟩
      · rw [List.length_map, List.length_map, List.length_zip, Das.len dx, Das.len dy]; omega
def enumL (ds : List PyData) : List PyData := ds.zipIdx.map fun p => .tuple [.int (p.2 : Nat), p.1]
def xiEnum (a : XE) : XI where
  wi k W := iEnum k.K (tCons (a.te k W) tNil)
  wp X ρ C P := a.wp X ρ C fun s C1 => rdK C1 s fun d k1 => isL d fun ds => P ((enumL ds).map .d) k1 C1
  ok {k B α C H σ ρ W X P R} w h q := a.ok w h fun v H1 s α1 C1 t1 r1 c1 p1 => by
    obtain ⟨d, k1, p3, kk1, D1⟩ := rdK_dt r1 c1 p1
    obtain ⟨ds, rfl, p3⟩ := isL_of p3
    have e0 : Em B α1 C1 H1 B α1 C1 H1 := r1.refl.em
    have h1 := D1 _ _ _ _ e0 r1 kk1
    obtain ⟨x, xs, rfl, hx, _⟩ := h1.list_inv
    rw [hid_nil] at hx
    refine ⟨x, xs, rfl, hx, q _ _ _ _ _ _ t1 r1 p3 fun B' α' C' H' em r' kp => ?_⟩
    obtain ⟨x', xs', ex, hx', dx⟩ := (D1 _ _ _ _ em r' kp).list_inv
    cases ex
    rw [hid_nil] at hx'
    refine ⟨fun i s hs => ?_, xs', hx', by simp [enumL, Das.len dx]⟩
    rw [enumL, List.getElem?_map, List.getElem?_map] at hs
    cases hz : ds.zipIdx[i]? with
    | none => rw [hz] at hs; cases hs
    | some p =>
      rw [hz] at hs
      cases hs
      have z0 := hz
      rw [List.getElem?_zipIdx] at z0
      cases hd : ds[i]? with
      | none => rw [hd] at z0; cases z0
      | some dd =>
        rw [hd] at z0
        cases z0
        obtain ⟨v1, g1, d1⟩ := Das.get dx hd
        refine ⟨⟨xs', v1, hx', g1⟩, fun z H'' hyl => ?_⟩
        obtain ⟨T, a1, rfl, hT, rfl, f1⟩ := hyl
        have q1 := (f1 _ hx').symm.trans g1
        cases q1
        refine ⟨Ex.new hT, Da.new_tup r'.md hT (.cons ?_ (.cons d1 .nil))⟩
        show Dq _ _ (.int (i : Nat)) (.int ((0 + i : Nat)))
        rw [Nat.zero_add]; exact .int _
/-! ### a call without arguments -/
section
variable {X : Cx} {CX : CXT} {k : Nat} {f : Addr} {fd : FuncData} {ps : List Str} {sp : Sp} {dvs : List V} {ds : List Value} {E : XK} {x : Str} {p pos : Pos}
theorem pe_callG0 (F : FnG X.prog X.w X.K X.mg X.base CX k f fd ps sp) (hG : X.A.guards = some []) (hr : Room k X.A) (hg : Gl X x) (hm : X.mg x = some (.ref f)) (hk : PySem.W.keepIn X.K (.ref f) = true) (hb : Binds X.K fd ps ds) (hd : Vals dvs ds) (hx : Passes CX X E)
    (hdb : (x == ("__debug__" : Str)) = false := by decide) : PE X (.Call (.Name x p) [] [] pos) (tCall sp dvs E tNil) := by
  constructor
  intro pins s σ H Q I h
  refine wpAny_Call_Name_kw (ld_glob I hg hm ?_ hdb)
  exact PySem.W.callWith_K0 I.kIn hk (runG (us := []) F hG hr hb hd hx I .nil h)
end
/-! ### what is compared -/
theorem shp_of {d : PyData} (h1 : d.canLay0 = true) (h2 : d.depth ≤ 64) : Shp d := by show SeqAt.shaped d = true; simp [SeqAt.shaped, h1, h2]
/-- numbers, texts, None, lists and tuples of them, to a depth -/
def okD : Nat → PyData → Bool
  | _, .none => true
  | _, .int _ => true
  | _, .str x => PyData.strOk x
  | n + 1, .list ds => ds.all (okD n)
  | n + 1, .tuple ds => ds.all (okD n)
  | _, _ => false
theorem okD_lay : ∀ (n : Nat) (d : PyData), okD n d = true → d.canLay0 = true ∧ d.depth ≤ n + 1
  | _, .none, _ => by simp [PyData.canLay0, PyData.depth]
  | _, .int _, _ => by simp [PyData.canLay0, PyData.depth]
  | _, .str x, h => by
    cases ‹Nat› <;> (simp [okD] at h; simp [PyData.canLay0, PyData.depth, h])
  | n + 1, .list ds, h => by
    have h : ds.all (okD n) = true := h
    have all : ∀ es : List PyData, es.all (okD n) = true → PyData.canLayAll0 es = true ∧ PyData.depthAll es ≤ n + 1 := by
      intro es
      induction es with
      | nil => intro _; simp [PyData.canLayAll0, PyData.depthAll]
      | cons e es ih =>
        intro h
        rw [List.all_cons, Bool.and_eq_true] at h
        have h1 := okD_lay n e h.1
        have h2 := ih h.2
        simp [PyData.canLayAll0, PyData.depthAll, h1.1, h2.1]; omega
    have := all ds h
    simp [PyData.canLay0, PyData.depth, this.1]; omega
  | n + 1, .tuple ds, h => by
    have h : ds.all (okD n) = true := h
    have all : ∀ es : List PyData, es.all (okD n) = true → PyData.canLayAll0 es = true ∧ PyData.depthAll es ≤ n + 1 := by
      intro es
      induction es with
      | nil => intro _; simp [PyData.canLayAll0, PyData.depthAll]
      | cons e es ih =>
        intro h
        rw [List.all_cons, Bool.and_eq_true] at h
        have h1 := okD_lay n e h.1
        have h2 := ih h.2
        simp [PyData.canLayAll0, PyData.depthAll, h1.1, h2.1]; omega
    have := all ds h
    simp [PyData.canLay0, PyData.depth, this.1]; omega
  | 0, .list _, h => by cases h
  | 0, .tuple _, h => by cases h
  | 0, .bool _, h => by cases h
  | _ + 1, .bool _, h => by cases h
  | 0, .dict _, h => by cases h
  | _ + 1, .dict _, h => by cases h
/-- of such == is just that they are the same -/
theorem okD_eqv : ∀ (n : Nat) (d e : PyData), okD n d = true → okD n e = true → (PyData.eqv d e = true ↔ d = e)
  | n, .none, e, _, h => by cases e <;> simp [PyData.eqv]
  | n, .int i, e, _, h => by
    cases e <;> try (simp [PyData.eqv]; done)
    cases n <;> cases h
  | n, .str i, e, _, h => by cases e <;> simp [PyData.eqv]
  | n + 1, .list ds, e, hd, he => by
    have hd : ds.all (okD n) = true := hd
    cases e <;> try (simp [PyData.eqv]; done)
    rename_i es
    have he : es.all (okD n) = true := he
    have all : ∀ xs ys : List PyData, xs.all (okD n) = true → ys.all (okD n) = true → (PyData.eqvAll xs ys = true ↔ xs = ys) := by
      intro xs
      induction xs with
      | nil => intro ys _ _; cases ys <;> simp [PyData.eqvAll]
      | cons x xs ih =>
        intro ys h1 h2
        cases ys with
        | nil => simp [PyData.eqvAll]
        | cons y ys =>
          rw [List.all_cons, Bool.and_eq_true] at h1 h2
          rw [PyData.eqvAll, Bool.and_eq_true, okD_eqv n x y h1.1 h2.1, ih ys h1.2 h2.2, List.cons.injEq]
    rw [PyData.eqv, all ds es hd he, PyData.list.injEq]
  | n + 1, .tuple ds, e, hd, he => by
    have hd : ds.all (okD n) = true := hd
    cases e <;> try (simp [PyData.eqv]; done)
    rename_i es
    have he : es.all (okD n) = true := he
    have all : ∀ xs ys : List PyData, xs.all (okD n) = true → ys.all (okD n) = true → (PyData.eqvAll xs ys = true ↔ xs = ys) := by
      intro xs
      induction xs with
      | nil => intro ys _ _; cases ys <;> simp [PyData.eqvAll]
      | cons x xs ih =>
        intro ys h1 h2
        cases ys with
        | nil => simp [PyData.eqvAll]
        | cons y ys =>
          rw [List.all_cons, Bool.and_eq_true] at h1 h2
          rw [PyData.eqvAll, Bool.and_eq_true, okD_eqv n x y h1.1 h2.1, ih ys h1.2 h2.2, List.cons.injEq]
    rw [PyData.eqv, all ds es hd he, PyData.tuple.injEq]
  | 0, .list _, _, h, _ => by cases h
  | 0, .tuple _, _, h, _ => by cases h
  | 0, .bool _, _, h, _ => by cases h
  | _ + 1, .bool _, _, h, _ => by cases h
  | 0, .dict _, _, h, _ => by cases h
  | _ + 1, .dict _, _, h, _ => by cases h
theorem okD_shp {n : Nat} {d : PyData} (h : okD n d = true) (hn : n ≤ 63 := by decide) : Shp d := by
  have := okD_lay n d h
  exact shp_of this.1 (by omega)
open Classical in
theorem okD_dec {n : Nat} {d e : PyData} (hd : okD n d = true) (he : okD n e = true) : PyData.eqv d e = decide (d = e) := by
  have := okD_eqv n d e hd he
  cases h : PyData.eqv d e with
  | true => rw [decide_eq_true (this.mp h)]
  | false => exact (decide_eq_false (fun z => by rw [this.mpr z] at h; cases h)).symm
end DL
set_option maxRecDepth 100000
namespace DL
open PySem L2
/-! ### going on -/
section
variable {A B : Prop}
theorem cndT (h : A) : cnd true A B := h
theorem cndF (h : B) : cnd false A B := h
theorem cndP {p : Prop} [Decidable p] (h1 : p → A) (h2 : ¬ p → B) : cnd (decide p) A B := by
  cases h : decide p with
  | true => exact h1 (of_decide_eq_true h)
  | false => exact h2 (of_decide_eq_false h)
theorem cndN {b : Bool} (h : cnd b B A) : cnd (!b) A B := by cases b <;> exact h
theorem cndB {b : Bool} (h1 : b = true → A) (h2 : b = false → B) : cnd b A B := by
  cases b with
  | false => exact h2 rfl
  | true => exact h1 rfl
theorem cndI {p : Prop} [Decidable p] (hp : p) (h : A) : cnd (decide p) A B := by rw [decide_eq_true hp]; exact h
theorem cndO {p : Prop} [Decidable p] (hp : ¬ p) (h : B) : cnd (decide p) A B := by rw [decide_eq_false hp]; exact h
end
theorem k_seq {n0 : Nat} {A : Pt → Prop} {B : Rv → Cs → Prop} {P : Pt} (h : A ⟨B, P.R, P.B, P.C⟩) : seqW n0 A B P := by unfold seqW; exact ⟨_, h, fun _ _ h => .inl h⟩
def setL (ρ : Rv) : List (Nat × Option Cv) → Rv
  | [] => ρ
  | p :: us => setL (ρ.set p.1 p.2) us
theorem fin {n0 : Nat} {r r' : Rv} {c c' : Cs} {K : Rv → Cs → Prop} (h : K r' c') (w : wkS n0 r c r' c') : wkn n0 r c K := by
  unfold wkn
  obtain ⟨f, w1, w2⟩ := w
  exact ⟨f, r', c', w1, w2, h⟩
theorem wkS_of {n0 : Nat} {r r' : Rv} {c c' : Cs} (f : List Nat) (nd : f.Nodup) (fx : f.take n0 = List.range n0) (w : WkC f c f c') (wr : WkR f r r') : wkS n0 r c r' c' := ⟨f, ⟨nd, fx, w⟩, wr⟩
theorem wkS_n {n0 : Nat} {r r' : Rv} {c c' : Cs} (w : WkC (List.range n0) c (List.range n0) c') (wr : WkR (List.range n0) r r') : wkS n0 r c r' c' := ⟨_, ⟨List.nodup_range, by rw [List.take_of_length_le (by simp)], w⟩, wr⟩
/-- from here on just so much is known -/
theorem cut_st {a : XS} {X : Xp} {ρ : Rv} {C : Cs} {B : Rv → Cs → Prop} {P : Pt} {τ : Type} (U : τ → List (Nat × Option Cv)) (D : τ → Cs) (I : τ → Prop)
    (h1 : ∀ K : Rv → Cs → Prop, (∀ t, I t → K (setL ρ (U t)) (D t)) → a.wp X ρ C ⟨fun r c => wkn C.length r c K, P.R, P.B, P.C⟩) (h2 : ∀ t, I t → nrmK (setL ρ (U t)) fun r => B r (D t)) : seqW C.length (a.wp X ρ C) B P := by
  unfold seqW
  refine ⟨_, h1 (fun r c => ∃ t, I t ∧ r = setL ρ (U t) ∧ c = D t) fun t it => ⟨t, it, rfl, rfl⟩, fun r c h => .inr (wkn_mono h ?_)⟩
  rintro _ _ ⟨t, it, rfl, rfl⟩
  exact nrmK_of (K := fun r => B r (D t)) (h2 t it)
/-! ### loops -/
theorem fm_some {α β : Type} (f : α → β) (xs : List α) : xs.filterMap (fun a => some (f a)) = xs.map f := by
  induction xs with
  | nil => rfl
  | cons x xs ih => rw [List.filterMap_cons, ih]; rfl
section
variable {g : XG} {body : XS} {X : Xp} {keep : Cs → Prop} {n0 : Nat} {c : XT} {e : XE} {vs : List Nat} {P : Pt}
theorem for_st {ds : List Cv} {ρ : Rv} {C : Cs} {τ : Type} (U : Nat → τ → List (Nat × Option Cv)) (D : Nat → τ → Cs) (I : Nat → τ → Prop) (t0 : τ) (h0 : I 0 t0) (w0 : wkS n0 ρ C (setL ρ (U 0 t0)) (D 0 t0)) (hk : ∀ i t, I i t → keep (D i t))
    (hs : ∀ (i : Nat) s t (K : Rv → Cs → Prop), ds[i]? = some s → I i t → (∀ t', I (i + 1) t' → K (setL ρ (U (i + 1) t')) (D (i + 1) t')) → nrmK (setL ρ (U i t)) fun r0 => g.wp (D i t) s r0 fun ρ2 => body.wp X ρ2 (D i t) ⟨fun r c => wkn n0 r c K, P.R, P.N, fun r c => wkn n0 r c K⟩)
    (hd : ∀ t, I ds.length t → nrmK (setL ρ (U ds.length t)) fun r0 => P.N r0 (D ds.length t)) : forW g body X keep n0 ds ρ C P := by
  have all : ∀ (es : List Cv) (j : Nat), ds.drop j = es → ∀ t, j + es.length = ds.length → I j t → forWr g body X keep n0 es (setL ρ (U j t)) (D j t) P := by
    intro es
    induction es with
    | nil =>
      intro j hj t hl iv
      have : j = ds.length := by simpa using hl
      subst this
      exact ⟨hk _ _ iv, nrmK_of (K := fun r0 => P.N r0 (D ds.length t)) (hd _ iv)⟩
    | cons s es ih =>
      intro j hj t hl iv
      have hlt : j < ds.length := by rw [List.length_cons] at hl; omega
      rw [List.drop_eq_getElem_cons hlt] at hj
      injection hj with e1 e2
      refine ⟨hk _ _ iv, nrmK_of (K := fun r0 => g.wp (D j t) s r0 _) (hs j s t _ (by rw [← e1]; exact List.getElem?_eq_getElem hlt) iv fun t' iv' => ?_)⟩
      exact ih (j + 1) e2 t' (by rw [List.length_cons] at hl; omega) iv'
  unfold forW
  exact .inr ⟨_, _, w0, all ds 0 rfl t0 (by simp) h0⟩
/-- a walk over the items of xs -/
theorem for_xs {α : Type} {xs : List α} {enc : α → Cv} {ρ : Rv} {C : Cs} {τ : Type} (U : Nat → τ → List (Nat × Option Cv)) (D : Nat → τ → Cs) (I : Nat → τ → Prop) (t0 : τ) (h0 : I 0 t0) (w0 : wkS n0 ρ C (setL ρ (U 0 t0)) (D 0 t0)) (hk : ∀ i t, I i t → keep (D i t))
    (hs : ∀ (i : Nat) x t (K : Rv → Cs → Prop), xs[i]? = some x → I i t → (∀ t', I (i + 1) t' → K (setL ρ (U (i + 1) t')) (D (i + 1) t')) → nrmK (setL ρ (U i t)) fun r0 => g.wp (D i t) (enc x) r0 fun ρ2 => body.wp X ρ2 (D i t) ⟨fun r c => wkn n0 r c K, P.R, P.N, fun r c => wkn n0 r c K⟩)
    (hd : ∀ t, I xs.length t → nrmK (setL ρ (U xs.length t)) fun r0 => P.N r0 (D xs.length t)) : forW g body X keep n0 (xs.map enc) ρ C P := by
  refine for_st U D I t0 h0 w0 hk (fun i s t K hx iv k => ?_) (by rw [List.length_map]; exact hd)
  rw [List.getElem?_map] at hx
  cases h : xs[i]? with
  | none => rw [h] at hx; cases hx
  | some x => rw [h] at hx; cases hx; exact hs i x t K h iv k
theorem rng_get {lo : Int} {n i : Nat} {v : Cv} (h : (rngV lo n)[i]? = some v) : i < n ∧ v = .d (.int (lo + (i : Int))) := by
  unfold rngV at h
  rw [List.getElem?_map] at h
  by_cases hi : i < n
  · rw [List.getElem?_range hi] at h
    exact ⟨hi, (Option.some.inj h).symm⟩
  · rw [List.getElem?_eq_none (by simpa using hi)] at h; cases h
theorem rng_len {lo : Int} {n : Nat} : (rngV lo n).length = n := by unfold rngV; simp
/-- a walk over a range -/
theorem for_rng {lo : Int} {n : Nat} {ρ : Rv} {C : Cs} {τ : Type} (U : Nat → τ → List (Nat × Option Cv)) (D : Nat → τ → Cs) (I : Nat → τ → Prop) (t0 : τ) (h0 : I 0 t0) (w0 : wkS n0 ρ C (setL ρ (U 0 t0)) (D 0 t0)) (hk : ∀ i t, I i t → keep (D i t))
    (hs : ∀ (i : Nat) t (K : Rv → Cs → Prop), i < n → I i t → (∀ t', I (i + 1) t' → K (setL ρ (U (i + 1) t')) (D (i + 1) t')) → nrmK (setL ρ (U i t)) fun r0 => g.wp (D i t) (.d (.int (lo + (i : Int)))) r0 fun ρ2 => body.wp X ρ2 (D i t) ⟨fun r c => wkn n0 r c K, P.R, P.N, fun r c => wkn n0 r c K⟩)
    (hd : ∀ t, I n t → nrmK (setL ρ (U n t)) fun r0 => P.N r0 (D n t)) : forW g body X keep n0 (rngV lo n) ρ C P := by
  refine for_st U D I t0 h0 w0 hk (fun i s t K hx iv k => ?_) (by rw [rng_len]; exact hd)
  obtain ⟨hi, rfl⟩ := rng_get hx
  exact hs i t K hi iv k
theorem while_st {ρ : Rv} {C : Cs} {τ : Type} (U : τ → List (Nat × Option Cv)) (D : τ → Cs) (I : τ → Prop) (M : τ → Nat) (t0 : τ) (h0 : I t0) (w0 : wkS n0 ρ C (setL ρ (U t0)) (D t0))
    (hs : ∀ t (K : Rv → Cs → Prop), I t → (∀ t', M t' < M t → I t' → K (setL ρ (U t')) (D t')) → nrmK (setL ρ (U t)) fun r0 => c.wp X r0 (D t) fun b C1 => cnd b (body.wp X r0 C1 ⟨fun r c => wkn n0 r c K, P.R, P.N, fun r c => wkn n0 r c K⟩) (P.N r0 C1)) :
    whileW c body X n0 ρ C P := by
  have all : ∀ n t, M t < n → I t → whileWr c body X n0 n (setL ρ (U t)) (D t) P := by
    intro n
    induction n with
    | zero => intro t h; omega
    | succ n ih =>
      intro t h iv
      exact nrmK_of (K := fun r0 => c.wp X r0 (D t) fun b C1 => cnd b (body.wp X r0 C1 _) (P.N r0 C1)) (hs t _ iv fun t' h' iv' => ih t' (by omega) iv')
  unfold whileW
  exact ⟨M t0 + 1, .inr ⟨_, _, w0, all _ t0 (Nat.lt_succ_self _) h0⟩⟩
theorem comp_st {ds : List Cv} {ρ : Rv} {C : Cs} {U : List PyData → Cs → Prop} {τ : Type} (D : Nat → τ → Cs) (I : Nat → List PyData → τ → Prop) (t0 : τ) (h0 : I 0 [] t0) (hC : C = D 0 t0) (hk : ∀ i acc t, I i acc t → keep (D i t))
    (hs : ∀ (i : Nat) s acc t (K : Option PyData → Cs → Prop), ds[i]? = some s → I i acc t → (∀ o t', I (i + 1) (acc ++ o.toList) t' → K o (D (i + 1) t')) → g.wp (D i t) s (wipeV ρ vs) fun ρ2 => c.wp X ρ2 (D i t) fun b C1 => cnd b (e.wp X ρ2 C1 fun t C2 => fz C2 t fun d C3 => K (some d) C3) (K none C1))
    (hd : ∀ acc t, I ds.length acc t → U acc (D ds.length t)) : compW g c e vs X keep ds ρ C [] U := by
  have all : ∀ (es : List Cv) (j : Nat), ds.drop j = es → ∀ acc t, j + es.length = ds.length → I j acc t → compWr g c e vs X keep es ρ (D j t) acc U := by
    intro es
    induction es with
    | nil =>
      intro j hj acc t hl iv
      have : j = ds.length := by simpa using hl
      subst this
      exact ⟨hk _ _ _ iv, hd _ _ iv⟩
    | cons s es ih =>
      intro j hj acc t hl iv
      have hlt : j < ds.length := by rw [List.length_cons] at hl; omega
      rw [List.drop_eq_getElem_cons hlt] at hj
      injection hj with e1 e2
      have h := hs j s acc t (fun o C' => compWr g c e vs X keep es ρ C' (acc ++ o.toList) U) (by rw [← e1]; exact List.getElem?_eq_getElem hlt) iv (fun o t' iv' => ih (j + 1) e2 _ _ (by rw [List.length_cons] at hl; omega) iv')
      simp only [Option.toList_some, Option.toList_none, List.append_nil] at h
      exact ⟨hk _ _ _ iv, h⟩
  unfold compW
  rw [hC]
  exact all ds 0 rfl [] t0 (by simp) h0
theorem comp_rng {lo : Int} {n : Nat} {ρ : Rv} {C : Cs} {U : List PyData → Cs → Prop} {τ : Type} (D : Nat → τ → Cs) (I : Nat → List PyData → τ → Prop) (t0 : τ) (h0 : I 0 [] t0) (hC : C = D 0 t0) (hk : ∀ i acc t, I i acc t → keep (D i t))
    (hs : ∀ (i : Nat) acc t (K : Option PyData → Cs → Prop), i < n → I i acc t → (∀ o t', I (i + 1) (acc ++ o.toList) t' → K o (D (i + 1) t')) → g.wp (D i t) (.d (.int (lo + (i : Int)))) (wipeV ρ vs) fun ρ2 => c.wp X ρ2 (D i t) fun b C1 => cnd b (e.wp X ρ2 C1 fun t C2 => fz C2 t fun d C3 => K (some d) C3) (K none C1))
    (hd : ∀ acc t, I n acc t → U acc (D n t)) : compW g c e vs X keep (rngV lo n) ρ C [] U := by
  refine comp_st D I t0 h0 hC hk (fun i s acc t K hx iv k => ?_) (by rw [rng_len]; exact hd)
  obtain ⟨hi, rfl⟩ := rng_get hx
  exact hs i acc t K hi iv k
/-- a comprehension that changes nothing -/
theorem compW_map {α : Type} {xs : List α} {enc : α → Cv} {ρ : Rv} {C : Cs} {U : List PyData → Cs → Prop} (q : α → Option PyData) (hk : keep C)
    (hs : ∀ a ∈ xs, ∀ (K : Option PyData → Cs → Prop), K (q a) C → g.wp C (enc a) (wipeV ρ vs) fun ρ2 => c.wp X ρ2 C fun b C1 => cnd b (e.wp X ρ2 C1 fun t C2 => fz C2 t fun d C3 => K (some d) C3) (K none C1))
    (hd : U (xs.filterMap q) C) : compW g c e vs X keep (xs.map enc) ρ C [] U := by
  have all : ∀ (es : List α) (acc : List PyData), (∀ a ∈ es, a ∈ xs) → acc ++ es.filterMap q = xs.filterMap q → compWr g c e vs X keep (es.map enc) ρ C acc U := by
    intro es
    induction es with
    | nil => intro acc _ h; refine ⟨hk, ?_⟩; rw [List.filterMap_nil, List.append_nil] at h; rw [h]; exact hd
    | cons s es ih =>
      intro acc hm h
      refine ⟨hk, ?_⟩
      have := hs s (hm s List.mem_cons_self) (fun o C' => compWr g c e vs X keep (es.map enc) ρ C' (acc ++ o.toList) U) (ih _ (fun a m => hm a (List.mem_cons_of_mem _ m)) (by
        rw [← h, List.append_assoc, List.filterMap_cons]
        cases q s <;> rfl))
      simp only [Option.toList_some, Option.toList_none, List.append_nil] at this
      exact this
  unfold compW
  exact all xs [] (fun _ h => h) (by simp)
/-- each item by a sum of its own -/
theorem comp_all {α β : Type} {xs : List α} {enc : α → Cv} {ρ : Rv} {C : Cs} {U : List PyData → Cs → Prop} (q : α → β) (en : β → PyData) (hk : keep C)
    (hs : ∀ a ∈ xs, ∀ (K : Option PyData → Cs → Prop), K (some (en (q a))) C → g.wp C (enc a) (wipeV ρ vs) fun ρ2 => c.wp X ρ2 C fun b C1 => cnd b (e.wp X ρ2 C1 fun t C2 => fz C2 t fun d C3 => K (some d) C3) (K none C1))
    (hd : U ((xs.map q).map en) C) : compW g c e vs X keep (xs.map enc) ρ C [] U := by
  refine compW_map (fun a => some (en (q a))) hk hs ?_
  rw [fm_some, ← Function.comp_def, ← List.map_map]; exact hd
end
/-- a def's body, from its arguments on -/
theorem sem_on {b : XS} {X : Xp} {N : List Str} {ss : List Cv} {C : Cs} {P : Pt} (h : nrmK (rv0 N ss) fun r => b.wp X r C P) : b.wp X (rv0 N ss) C P := nrmK_of (K := fun r => b.wp X r C P) h
/-! ### ends, calls -/
theorem ret_w {n0 : Nat} {R : Cv → Cs → Prop} {s s' : Cv} {c c' : Cs} (f : List Nat) (h : R s' c') (nd : f.Nodup) (fx : f.take n0 = List.range n0) (w : WkC f c f c') (hs : RenV f s s') : retW n0 R s c := by unfold retW; exact ⟨f, s', c', ⟨nd, fx, w⟩, hs, h⟩
/-- nothing is kept -/
theorem ret0 {R : Cv → Cs → Prop} {x : PyData} {c : Cs} (h : R (.d x) []) : retW 0 R (.d x) c := ret_w [] h List.nodup_nil rfl trivial rfl
theorem call_w {A : Pw} {X : Xc → Cs → Prop} {C C0 : Cs} {ss ss' : List Cv} {P : Cv → Cs → Prop} (f : List Nat) (h : A ss' C0 (fun s C' => P (backV f C.length s) (backCs f C C')) fun x C' => X (backX f C.length x) (backCs f C C')) (nd : f.Nodup) (w : WkC f C f C0) (rv : RenVs f ss ss') : callW A X C ss P := by
  unfold callW; exact ⟨f, C0, ss', nd, w, rv, h⟩
theorem bk_0 {C : Cs} : backCs [] C [] = C := by unfold backCs setAll; simp
theorem bk_1 {C : Cs} {b i n : Nat} : backCs [i] C [.box b n] = C.set i (.box b n) := by unfold backCs setAll; simp [setAll, backC]
theorem bk0 {C : Cs} {P : Cv → Cs → Prop} {x : PyData} (h : P (.d x) C) : (fun s C' => P (backV [] C.length s) (backCs [] C C')) (.d x) [] := by
  show P (.d x) (backCs [] C [])
  rw [bk_0]; exact h
theorem renVs_d {f : List Nat} : ∀ (ds : List PyData), RenVs f (ds.map .d) (ds.map .d)
  | [] => trivial
  | _ :: ds => ⟨rfl, renVs_d ds⟩
theorem renV_d {f : List Nat} {x : PyData} : RenV f (.d x) (.d x) := rfl
/-- handed data alone, no cell -/
theorem call_d {A : Pw} {X : Xc → Cs → Prop} {C : Cs} {ss : List Cv} {P : Cv → Cs → Prop} (h : A ss [] (fun s C' => P (backV [] C.length s) (backCs [] C C')) fun x C' => X (backX [] C.length x) (backCs [] C C')) (rv : RenVs [] ss ss) : callW A X C ss P := call_w [] h List.nodup_nil trivial rv
/-! ### the draws -/
def w_pickL (l : Nat) : Pw := fun ss C R _ => ∃ (n : Nat) (m : Int), ss = [.c 0, .d (.int m)] ∧ C = [.box l n] ∧ n ≤ 1000000000 ∧ 0 < m ∧ m < 1073741824 ∧ ∀ r : Int, 0 ≤ r → r < m → R (.d (.int r)) [.box l (n + 1)]
abbrev w_pick : Pw := w_pickL 0
def boxN (C : Cs) (i : Nat) (K : Nat → Nat → Prop) : Prop := match C[i]? with
  | some (.box l n) => K l n
  | _ => False
theorem call_pickL {l : Nat} {X : Xc → Cs → Prop} {C : Cs} {P : Cv → Cs → Prop} {i n : Nat} {m : Int} (hc : C[i]? = some (.box l n)) (hn : n ≤ 1000000000) (h0 : 0 < m) (h1 : m < 1073741824)
    (h : ∀ r : Int, 0 ≤ r → r < m → setK C i (.box l (n + 1)) fun C' => P (.d (.int r)) C') : callW (w_pickL l) X C [.c i, .d (.int m)] P := by
  refine call_w [i] (ss' := [.c 0, .d (.int m)]) (C0 := [.box l n]) ⟨n, m, rfl, rfl, hn, h0, h1, fun r r0 r1 => ?_⟩ (by simp) ⟨by rw [hc]; exact ⟨rfl, Nat.le_refl n⟩, trivial⟩ ⟨rfl, rfl, trivial⟩
  show P (.d (.int r)) (backCs [i] C [.box l (n + 1)])
  rw [bk_1]
  exact setK_of (h r r0 r1)
/-- a new box -/
def w_leftL (l : Nat) : Pw := fun ss C R _ => ∃ (ns : List Int) (k : Int), ss = [.d (.list (ns.map .int)), .d (.int k)] ∧ C = [] ∧ 0 ≤ k ∧ k ≤ 100 ∧ R (.c 0) [.box l 0]
theorem call_leftL {l : Nat} {X : Xc → Cs → Prop} {C : Cs} {P : Cv → Cs → Prop} {ns : List Int} {k : Int} (hk : 0 ≤ k) (hk2 : k ≤ 100) (h : appK (.box l 0) C 0 fun n C' => P (.c n) C') : callW (w_leftL l) X C [.d (.list (ns.map .int)), .d (.int k)] P := by
  refine call_w [] ⟨ns, k, rfl, rfl, hk, hk2, ?_⟩ List.nodup_nil trivial ⟨rfl, rfl, trivial⟩
  show P (.c (C.length + (0 - 0))) (backCs [] C [.box l 0])
  rw [show backCs [] C [.box l 0] = C ++ [.box l 0] by unfold backCs setAll; simp [backC]]
  exact appK_of h
def w_left : Pw := fun ss C R _ => ∃ (ns : List Int) (k : Int), ss = [.d (.list (ns.map .int)), .d (.int k)] ∧ C = [] ∧ 0 ≤ k ∧ R (.c 0) [.box 0 0]
theorem bk_n {C : Cs} {l n : Nat} : backCs [] C [.box l n] = C ++ [.box l n] := by unfold backCs setAll; simp [backC]
theorem call_left {X : Xc → Cs → Prop} {C : Cs} {P : Cv → Cs → Prop} {ns : List Int} {k : Int} (hk : 0 ≤ k) (h : appK (.box 0 0) C 0 fun n C' => P (.c n) C') : callW w_left X C [.d (.list (ns.map .int)), .d (.int k)] P := by
  refine call_d ⟨ns, k, rfl, rfl, hk, ?_⟩ ⟨rfl, rfl, trivial⟩
  show P (.c (C.length + (0 - 0))) (backCs [] C [.box 0 0])
  rw [bk_n]
  exact appK_of h
theorem atI_map {α β : Type} {f : α → β} {xs : List α} {i : Int} {z : α} (h : atI xs i = some z) : atI (xs.map f) i = some (f z) := by
  unfold atI at h ⊢
  rw [List.length_map]
  cases e : ixN xs.length i with
  | none => rw [e] at h; cases h
  | some j =>
    rw [e] at h
    have h : xs[j]? = some z := h
    show (xs.map f)[j]? = some (f z)
    rw [List.getElem?_map, h]; rfl
theorem ixW_at {ds : List PyData} {i : Int} {z : PyData} {K : PyData → Prop} (h : atI ds i = some z) (k : K z) : ixW ds i K := by unfold ixW; rw [h]; exact k
/-- one of some, by a draw -/
theorem ix_any {xs : List PyData} {r : Int} {K : PyData → Prop} (h0 : 0 ≤ r) (h1 : r < xs.length) (h : ∀ z ∈ xs, K z) : ixW xs r K := by
  obtain ⟨z, hz, mz⟩ := atI_mem h0 h1
  exact ixW_at hz (h z mz)
theorem ix_ints (xs : List Int) {ys : List PyData} {r : Int} {K : PyData → Prop} (e : ys = xs.map .int) (h0 : 0 ≤ r) (h1 : r < xs.length) (h : ∀ z ∈ xs, K (.int z)) : ixW ys r K := by
  subst e
  obtain ⟨z, hz, mz⟩ := atI_mem h0 h1
  exact ixW_at (atI_map (f := PyData.int) hz) (h z mz)
theorem ix_rng (lo hi : Int) (xs : List Int) {ys : List PyData} {r : Int} {K : PyData → Prop} (e : ys = xs.map .int) (h0 : 0 ≤ r) (h1 : r < xs.length) (hall : ∀ z ∈ xs, lo ≤ z ∧ z ≤ hi) (h : ∀ z, lo ≤ z → z ≤ hi → K (.int z)) : ixW ys r K :=
  ix_ints xs e h0 h1 fun z m => h z (hall z m).1 (hall z m).2
/-- an item of encoded ones -/
theorem ix_map {α : Type} {xs : List α} {enc : α → PyData} {r : Int} {K : PyData → Prop} (h0 : 0 ≤ r) (h1 : r < xs.length) (h : K (enc (xs[r.toNat]'(by omega)))) : ixW (xs.map enc) r K := ixW_at (atI_map (f := enc) (atI_in h0 h1)) h
theorem ix_map_any {α : Type} {xs : List α} {enc : α → PyData} {r : Int} {K : PyData → Prop} (h0 : 0 ≤ r) (h1 : r < xs.length) (h : ∀ x ∈ xs, K (enc x)) : ixW (xs.map enc) r K := ix_map h0 h1 (h _ (List.getElem_mem _))
abbrev kxo (K : Fg) (w : World) : Kx := { K := K, cl := fun _ => 0, w := w }
abbrev w_law : Pw := pw_law
end DL
set_option maxRecDepth 100000
namespace DL
open PySem L2
/-! ### what each combinator reads -/
theorem r_xVar {k : Kx} {W : WX} (i : Nat) : (xVar i).te k W = (tVar i) := rfl
theorem r_xRaw {k : Kx} {W : WX} (v : V) : (xRaw v).te k W = (tC v) := rfl
theorem r_xOp {k : Kx} {W : WX} (g : PyData → PyData → PyData → Prop) [Op2 g] (a b : XE) : (xOp g a b).te k W = (tOp (rB k.K g) (a.te k W) (b.te k W)) := rfl
theorem r_xUn {k : Kx} {W : WX} (g : PyData → PyData → Prop) [Op1 g] (a : XE) : (xUn g a).te k W = (tUn (rU1 k.K g) (a.te k W)) := rfl
theorem r_xIsN {k : Kx} {W : WX} (a : XE) : (xIsN a).te k W = (tOp rIsNone (a.te k W) (tC .non)) := rfl
theorem r_xNotN {k : Kx} {W : WX} (a : XE) : (xNotN a).te k W = (tOp rNotNone (a.te k W) (tC .non)) := rfl
theorem r_xNot {k : Kx} {W : WX} (a : XE) : (xNot a).te k W = (tNotV (a.te k W)) := rfl
theorem r_xAnd {k : Kx} {W : WX} (a b : XE) : (xAnd a b).te k W = (tAndV (a.te k W) (b.te k W)) := rfl
theorem r_xOr {k : Kx} {W : WX} (a b : XE) : (xOr a b).te k W = (tOrV (a.te k W) (b.te k W)) := rfl
theorem r_xChain {k : Kx} {W : WX} (g g' : PyData → PyData → PyData → Prop) [Op2 g] [Op2 g'] (a b c : XE) : (xChain g g' a b c).te k W = (tChain (rB k.K g) (rB k.K g') (a.te k W) (b.te k W) (c.te k W)) := rfl
theorem r_xTest {k : Kx} {W : WX} (a : XE) : (xTest a).tt k W = (tTest (a.te k W)) := rfl
theorem r_xB {k : Kx} {W : WX} (a : XE) : (xB a).tt k W = (tB (a.te k W)) := rfl
theorem r_xTNot {k : Kx} {W : WX} (a : XT) : (xTNot a).tt k W = (tNot (a.tt k W)) := rfl
theorem r_xTAnd {k : Kx} {W : WX} (a b : XT) : (xTAnd a b).tt k W = (tAnd (a.tt k W) (b.tt k W)) := rfl
theorem r_xTOr {k : Kx} {W : WX} (a b : XT) : (xTOr a b).tt k W = (tOr (a.tt k W) (b.tt k W)) := rfl
theorem r_xYes {k : Kx} {W : WX} : (xYes).tt k W = (tYes) := rfl
theorem r_xIf {k : Kx} {W : WX} (c : XT) (a b : XE) : (xIf c a b).te k W = (tIf (c.tt k W) (a.te k W) (b.te k W)) := rfl
theorem r_xNil {k : Kx} {W : WX} : (xNil).ta k W = (tNil) := rfl
theorem r_xCons {k : Kx} {W : WX} (a : XE) (b : XA) : (xCons a b).ta k W = (tCons (a.te k W) (b.ta k W)) := rfl
theorem r_xTup {k : Kx} {W : WX} (a : XA) : (xTup a).te k W = (tTup (a.ta k W)) := rfl
theorem r_xLst {k : Kx} {W : WX} (a : XA) : (xLst a).te k W = (tLst (a.ta k W)) := rfl
theorem r_xLstC {k : Kx} {W : WX} (a : XA) : (xLstC a).te k W = (tLst (a.ta k W)) := rfl
theorem r_xLstR {k : Kx} {W : WX} (a : XA) : (xLstR a).te k W = (tLst (a.ta k W)) := rfl
theorem r_xBi {k : Kx} {W : WX} (g : List PyData → PyData → Prop) [OpB g] (a : XA) : (xBi g a).te k W = (tCB (rC k.K g) (a.ta k W)) := rfl
theorem r_xListC {k : Kx} {W : WX} (a : XE) : (xListC a).te k W = (tCB (rListF k.K) (tCons (a.te k W) tNil)) := rfl
theorem r_xListD {k : Kx} {W : WX} (a : XE) : (xListD a).te k W = (tCB (rListF k.K) (tCons (a.te k W) tNil)) := rfl
theorem r_xCatC {k : Kx} {W : WX} (a b : XE) : (xCatC a b).te k W = (tOp (rCatR k.K) (a.te k W) (b.te k W)) := rfl
theorem r_xNoPart {k : Kx} {W : WX} : (xNoPart).to k W = (tNoPart) := rfl
theorem r_xPart {k : Kx} {W : WX} (a : XE) : (xPart a).to k W = (tPart (a.te k W)) := rfl
theorem r_xSl {k : Kx} {W : WX} (a : XE) (l u : XO) : (xSl a l u).te k W = (tSl (rSl k.K SlD) (a.te k W) (l.to k W) (u.to k W)) := rfl
theorem r_xBm {k : Kx} {W : WX} (g : PyData → List PyData → PyData → Prop) [OpM g] (a : XE) (b : XA) : (xBm g a b).te k W = (tBM k.K "str" (rM k.K g) (a.te k W) (b.ta k W)) := rfl
theorem r_xBm0 {k : Kx} {W : WX} (g : PyData → List PyData → PyData → Prop) [OpM g] (a : XE) : (xBm0 g a).te k W = (tBM0 k.K "str" (rM k.K g) (a.te k W)) := rfl
theorem r_xiSeq {k : Kx} {W : WX} (a : XE) : (xiSeq a).wi k W = (iSeq k.K (a.te k W)) := rfl
theorem r_xiRng1 {k : Kx} {W : WX} (a : XE) : (xiRng1 a).wi k W = (iRng1 (tCons (a.te k W) tNil)) := rfl
theorem r_xiRng2 {k : Kx} {W : WX} (a b : XE) : (xiRng2 a b).wi k W = (iRng2 (tCons (a.te k W) (tCons (b.te k W) tNil))) := rfl
theorem r_xgName {k : Kx} (i : Nat) : (xgName i).tg k = (gName i) := rfl
theorem r_xgsNil {k : Kx} : (xgsNil).tg k = (gNil) := rfl
theorem r_xgsCons {k : Kx} (a : XG) (b : XGs) : (xgsCons a b).tg k = (gCons (a.tg k) (b.tg k)) := rfl
theorem r_xgTup {k : Kx} (a : XGs) : (xgTup a).tg k = (gTup k.K a.len (a.tg k)) := rfl
theorem r_xgUnl {k : Kx} (a : XGs) : (xgUnl a).tg k = (gUnl k.K a.len (a.tg k)) := rfl
theorem r_xsSeq {k : Kx} {W : WX} (a b : XS) : (xsSeq a b).ts k W = (tSeq (a.ts k W) (b.ts k W)) := rfl
theorem r_xsNext {k : Kx} {W : WX} : (xsNext).ts k W = (tNext) := rfl
theorem r_xsBreak {k : Kx} {W : WX} : (xsBreak).ts k W = (tBreak) := rfl
theorem r_xsCont {k : Kx} {W : WX} : (xsCont).ts k W = (tCont) := rfl
theorem r_xsAsg {k : Kx} {W : WX} (a : XE) (g : XG) : (xsAsg a g).ts k W = (tAsg (a.te k W) (g.tg k)) := rfl
theorem r_xsRet {k : Kx} {W : WX} (a : XE) : (xsRet a).ts k W = (tRet (a.te k W)) := rfl
theorem r_xsRetN {k : Kx} {W : WX} : (xsRetN).ts k W = (tRetN) := rfl
theorem r_xsDrop {k : Kx} {W : WX} (a : XE) : (xsDrop a).ts k W = (tDrop (a.te k W)) := rfl
theorem r_xsIf {k : Kx} {W : WX} (c : XT) (a b : XS) : (xsIf c a b).ts k W = (tIfS (c.tt k W) (a.ts k W) (b.ts k W)) := rfl
theorem r_xsPar {k : Kx} {W : WX} (i j : Nat) (a : XA) : (xsPar i j a).ts k W = (tPar i j (a.ta k W)) := rfl
theorem r_xsPar3 {k : Kx} {W : WX} (i j l : Nat) (a : XA) : (xsPar3 i j l a).ts k W = (tPar3 i j l (a.ta k W)) := rfl
theorem r_xsFor {k : Kx} {W : WX} (it : XI) (g : XG) (body : XS) : (xsFor it g body).ts k W = (tFor (it.wi k W) (g.tg k) (body.ts k W)) := rfl
theorem r_xsWhile {k : Kx} {W : WX} (c : XT) (body : XS) : (xsWhile c body).ts k W = (tWhile (c.tt k W) (body.ts k W)) := rfl
theorem r_xLc {k : Kx} {W : WX} (it : XI) (g : XG) (c : XT) (e : XE) (vs : List Nat) : (xLc it g c e vs).te k W = (tLc (it.wi k W) (g.tg k) (c.tt k W) (e.te k W) vs) := rfl
theorem r_xLcC {k : Kx} {W : WX} (it : XI) (g : XG) (c : XT) (e : XE) (vs : List Nat) : (xLcC it g c e vs).te k W = (tLc (it.wi k W) (g.tg k) (c.tt k W) (e.te k W) vs) := rfl
theorem r_xCallD {k : Kx} {W : WX} (A : Pw) (dvs : List V) (dss : List Cv) (hd : ∀ K M H α, Rcs K M H α dvs dss) (a : XA) : (xCallD A dvs dss hd a).te k W = (tCall (spW k A) dvs E0 (a.ta k W)) := rfl
theorem r_xCall {k : Kx} {W : WX} (A : Pw) (a : XA) : (xCall A a).te k W = (tCall (spW k A) [] E0 (a.ta k W)) := rfl
theorem r_xAppend {k : Kx} {W : WX} (o a : XE) : (xAppend o a).te k W = (tBM k.K "list" rAppend (o.te k W) (tCons (a.te k W) tNil)) := rfl
theorem r_xExtend {k : Kx} {W : WX} (o a : XE) : (xExtend o a).te k W = (tBM k.K "list" rExtend (o.te k W) (tCons (a.te k W) tNil)) := rfl
theorem r_xClear {k : Kx} {W : WX} (o : XE) : (xClear o).te k W = (tBM0 k.K "list" rClear (o.te k W)) := rfl
theorem r_xReverse {k : Kx} {W : WX} (o : XE) : (xReverse o).te k W = (tBM0 k.K "list" rReverse (o.te k W)) := rfl
theorem r_xPop {k : Kx} {W : WX} (o : XE) : (xPop o).te k W = (tBM0 k.K "list" rPop (o.te k W)) := rfl
theorem r_xPopAt {k : Kx} {W : WX} (o a : XE) : (xPopAt o a).te k W = (tBM k.K "list" rPopAt (o.te k W) (tCons (a.te k W) tNil)) := rfl
theorem r_xInsert {k : Kx} {W : WX} (o a b : XE) : (xInsert o a b).te k W = (tBM k.K "list" rInsert (o.te k W) (tCons (a.te k W) (tCons (b.te k W) tNil))) := rfl
theorem r_xsSetItem {k : Kx} {W : WX} (e o i : XE) : (xsSetItem e o i).ts k W = (tAsg (e.te k W) (gSub (o.te k W) (i.te k W) rSetL)) := rfl
theorem r_xIsi {k : Kx} {W : WX} (a : XE) (T : String) : (xIsi a T).te k W = (tCB (rIsD k.K) (tCons (a.te k W) (tCons (tC (.ty T)) tNil))) := rfl
theorem r_xIsiT {k : Kx} {W : WX} (a : XE) (Ts : List String) : (xIsiT a Ts).te k W = (tCB (rIsTD k.K) (tCons (a.te k W) (tCons (tTup (tTys Ts)) tNil))) := rfl
theorem r_xFmt {k : Kx} {W : WX} (a : XE) : (xFmt a).te k W = (tFmt (a.te k W)) := rfl
theorem r_xFs {k : Kx} {W : WX} (es : List XE) : (xFs es).te k W = (tFs (es.map fun e => e.te k W)) := rfl
theorem r_xRevS {k : Kx} {W : WX} (a : XE) : (xRevS a).te k W = (tRevS (a.te k W)) := rfl
theorem r_xRevL {k : Kx} {W : WX} (a : XE) : (xRevL a).te k W = (tRevL k.K (a.te k W)) := rfl
theorem r_xsOpen {k : Kx} {W : WX} (i : Nat) (b : XS) : (xsOpen i b).ts k W = (b.ts k W) := rfl
theorem r_xFz {k : Kx} {W : WX} (a : XE) : (xFz a).te k W = (a.te k W) := rfl
theorem r_xiZip {k : Kx} {W : WX} (a b : XE) : (xiZip a b).wi k W = (RZ.iZipA k.K (tCons (a.te k W) (tCons (b.te k W) tNil))) := rfl
theorem r_xiEnum {k : Kx} {W : WX} (a : XE) : (xiEnum a).wi k W = (iEnum k.K (tCons (a.te k W) tNil)) := rfl
theorem r_xInt {k : Kx} {W : WX} {i : Int} : (xInt i).te k W = tC (.int i) := rfl
theorem r_xStr {k : Kx} {W : WX} {i : Str} : (xStr i).te k W = tC (.str i) := rfl
theorem r_xBl {k : Kx} {W : WX} {i : Bool} : (xBl i).te k W = tC (.bl i) := rfl
theorem r_xNon {k : Kx} {W : WX} : xNon.te k W = tC .non := rfl
theorem r_len0 : xgsNil.len = 0 := rfl
theorem r_len1 {a : XG} {b : XGs} : (xgsCons a b).len = b.len + 1 := rfl
end DL
set_option maxRecDepth 100000
namespace PySem
/-! ### a built-in that goes on in steps of its own, called with keywords -/
theorem dl_treeK {prog : Program} {w : World} {A : Around} {E : Value → Shared → Prop} {s : Shared} {id : String} {b : Builtin} {us : List Value} {kw : List (Str × Value)} {Q : Value → Shared → Prop} (h1 : builtinKind id = none) (h2 : plainId id = true)
    (h3 : entryFor table id = some b) (h4 : argsOk id ⟨us, kw⟩)
    (h5 : wpAny (model prog w) A.in1 (b ⟨us, kw⟩) (fun z s' => match z with
      | .done f => (match (Except.ok f : Result) with | .ok (.ret v) => Q v s' | .ok _ => False | .error e => E e s')
      | .again c => c.quiet = true ∧ codeAny (model prog w) A c (fun r s' => match r with | .ok (.ret v) => Q v s' | .ok _ => False | .error e => E e s') s') E s) :
    wpAny (model prog w) A (call (.builtin id) us kw) Q E s := by
  refine wpAny_call (codeAny_call_builtin (args := ⟨us, kw⟩) h2 h3 ?_)
  simp only [checkBuiltinCall, h1]
  cases g : Manifest.signature? id with
  | none => exact wpAny_pure h5
  | some sig =>
    simp only [argsOk, g] at h4
    have e : Bind.checkArgs id sig ⟨us, kw⟩ = pure () := h4
    show wpAny _ A.in1 (Bind.checkArgs id sig ⟨us, kw⟩) _ _ s
    rw [e]; exact wpAny_pure h5
theorem dl_args_min (a d : Value) : argsOk "min" ⟨[a], [(Str.ofString "default", d)]⟩ := by unfold argsOk; kernel_rfl
section
variable {prog : Program} {w : World} {A : Around} {R : Result → Shared → Prop} {J : Addr} {fp wr : List Addr} {n : Nat} {P : Nat → Value → Prop} {St : Nat → Heap → Prop} {kw : List (Str × Value)}
/-- from an item that is the best so far -/
theorem dl_min_on (Y : Walks prog w A.in1 J fp wr n P St) (bt : Nat → Nat → Bool) (hc : CmpOf prog w A.in1 .Lt P bt) (T : Addr) (hT : T ∉ fp) :
    ∀ (k i : Nat) (z : Shared) (b : Value) (c : Nat), n = i + 1 + k → St (i + 1) z.heap → P (argBest bt i) b →
    z.heap.get? T = some { cls := .type "list", dict := none, data := .seq #[b, b] c, slots := #[] } →
    (∀ v g tk, P (argBest bt (n - 1)) v → (∀ b o, b ∉ wr → b ≠ T → z.heap.get? b = some o → g.get? b = some o) → R (.ok (.ret v)) { z with heap := g, toks := tk }) →
    codeAny (model prog w) A (.builtin "min.loop" ⟨[.ref J, .none, .ref T], kw⟩) R z := by
  have hw : T ∉ wr := fun h => hT (Y.sub _ h)
  have en : (toString "min" ++ toString ".loop" : String) = "min.loop" := by decide
  intro k
  induction k with
  | zero =>
    intro i z b c hn st hb g hR
    have hn : n = i + 1 := hn
    refine codeAny_builtin F.entry_min_loop ?_
    rw [Around.under_plainId F.plain_min_loop _]
    show wpAny _ A.in1 (seqItems? (.ref T) >>= _) _ _ z
    refine wpAny_bind (wpAny_seqItems g rfl ?_)
    show wpAny _ A.in1 (tryCatch (pyNext (.ref J)) _ >>= _) _ _ z
    refine wpAny_bind (wpAny_tryCatch (Y.done z _ _ (hn ▸ st) fun g1 tk kp => ?_))
    show wpAny _ A.in1 (updateSeq T (fun _ => #[]) >>= _) _ _ _
    refine wpAny_bind (wpAny_updateSeq (kp T _ hw g) rfl (wpAny_bind (wpAny_letGo (wpAny_pure ?_))))
    exact hR b _ tk (by rw [hn]; exact hb) fun a o h1 h2 q => (Heap.get?_update_other _ _ h2.symm).trans (kp a o h1 q)
  | succ k ih =>
    intro i z b c hn st hb g hR
    refine codeAny_builtin F.entry_min_loop ?_
    rw [Around.under_plainId F.plain_min_loop _]
    show wpAny _ A.in1 (seqItems? (.ref T) >>= _) _ _ z
    refine wpAny_bind (wpAny_seqItems g rfl ?_)
    show wpAny _ A.in1 (tryCatch (pyNext (.ref J)) _ >>= _) _ _ z
    refine wpAny_bind (wpAny_tryCatch (Y.item (i + 1) z _ _ (by omega) st fun v g1 tk hv st1 kp => ?_))
    have g2 := kp T _ hw g
    show wpAny _ A.in1 (tryCatch (holding [v, v] (richCompare .Lt v b >>= _)) _ >>= _) _ _ _
    refine wpAny_bind (wpAny_tryCatch (wpAny_holding (wpAny_bind (hc (i + 1) (argBest bt i) v b _ _ _ hv hb (wpAny_bind (wpAny_holding (wpAny_truthy_bool (wpAny_bind (wpAny_letGo (wpAny_pure ?_))))))))))
    cases eb : bt (i + 1) (argBest bt i) with
    | true =>
      simp only [if_true]
      refine wpAny_bind (wpAny_updateSeq g2 rfl (wpAny_bind (wpAny_letGo ?_)))
      rw [en]
      refine wpAny_pure ⟨plainId_quiet F.plain_min_loop _, ih (i + 1) _ v _ (by omega) (Y.frame _ _ _ st1 fun a h o q => ?_) (by simp only [argBest, eb, if_true]; exact hv) (Heap.get?_update_self _ g2 rfl) fun u g3 tk3 hu kp3 => ?_⟩
      · exact (Heap.get?_update_other _ _ (fun h : T = a => hT (by rw [h]; assumption))).trans q
      · exact hR u g3 tk3 hu fun a o h1 h2 q => kp3 a o h1 h2 ((Heap.get?_update_other _ _ h2.symm).trans (kp a o h1 q))
    | false =>
      simp only [Bool.false_eq_true, if_false]
      refine wpAny_bind (wpAny_letGo ?_)
      rw [en]
      refine wpAny_pure ⟨plainId_quiet F.plain_min_loop _, ih (i + 1) _ b c (by omega) st1 (by simp only [argBest, eb, Bool.false_eq_true, if_false]; exact hb) g2 fun u g3 tk3 hu kp3 => ?_⟩
      exact hR u g3 tk3 hu fun a o h1 h2 q => kp3 a o h1 h2 (kp a o h1 q)
/-- from nothing: the best item, or what stands for it -/
theorem dl_min_all (Y : Walks prog w A.in1 J fp wr n P St) (bt : Nat → Nat → Bool) (hc : CmpOf prog w A.in1 .Lt P bt) (T : Addr) (hT : T ∉ fp) {z : Shared} {c : Nat} {d : Value} {nm : Str} (st : St 0 z.heap)
    (g : z.heap.get? T = some { cls := .type "list", dict := none, data := .seq #[] c, slots := #[] })
    (hR : ∀ v g tk, (if n = 0 then v = d else P (argBest bt (n - 1)) v) → (∀ b o, b ∉ wr → b ≠ T → z.heap.get? b = some o → g.get? b = some o) → R (.ok (.ret v)) { z with heap := g, toks := tk }) :
    codeAny (model prog w) A (.builtin "min.loop" ⟨[.ref J, .none, .ref T], [(nm, d)]⟩) R z := by
  have hw : T ∉ wr := fun h => hT (Y.sub _ h)
  have en : (toString "min" ++ toString ".loop" : String) = "min.loop" := by decide
  refine codeAny_builtin F.entry_min_loop ?_
  rw [Around.under_plainId F.plain_min_loop _]
  show wpAny _ A.in1 (seqItems? (.ref T) >>= _) _ _ z
  refine wpAny_bind (wpAny_seqItems g rfl ?_)
  show wpAny _ A.in1 (tryCatch (pyNext (.ref J)) _ >>= _) _ _ z
  by_cases h0 : n = 0
  · refine wpAny_bind (wpAny_tryCatch (Y.done z _ _ (h0 ▸ st) fun g1 tk kp => ?_))
    show wpAny _ A.in1 (rule _ >>= _) _ _ _
    refine wpAny_bind (wpAny_rule (wpAny_pure ?_))
    exact hR d g1 tk (by rw [if_pos h0]) fun a o h1 _ q => kp a o h1 q
  · refine wpAny_bind (wpAny_tryCatch (Y.item 0 z _ _ (by omega) st fun v g1 tk hv st1 kp => ?_))
    have g2 := kp T _ hw g
    show wpAny _ A.in1 (updateSeq T (fun _ => #[v, v]) >>= _) _ _ _
    refine wpAny_bind (wpAny_updateSeq g2 rfl ?_)
    rw [en]
    refine wpAny_pure ⟨plainId_quiet F.plain_min_loop _, dl_min_on Y bt hc T hT (n - 1) 0 _ v _ (by omega) (Y.frame _ _ _ st1 fun a h o q => ?_) hv (Heap.get?_update_self _ g2 rfl) fun u g3 tk3 hu kp3 => ?_⟩
    · exact (Heap.get?_update_other _ _ (fun h : T = a => hT (by rw [h]; assumption))).trans q
    · exact hR u g3 tk3 (by rw [if_neg h0]; exact hu) fun a o h1 h2 q => kp3 a o h1 h2 ((Heap.get?_update_other _ _ h2.symm).trans (kp a o h1 q))
end
section
variable {prog : Program} {w : World} {A : Around} {E : Value → Shared → Prop} {s : Shared} {l : Addr} {xs : Array (Int × Tok)} {d : Value} {Q : Value → Shared → Prop}
theorem dl_min_ints (hh : A.handled = none) (hl : s.heap.IsList l (intItems xs))
    (h : ∀ v g tk, (if xs.size = 0 then v = d else (intItems xs)[argBest (fun i j => decide (numAt xs i < numAt xs j)) (xs.size - 1)]? = some v) → (∀ b o, s.heap.get? b = some o → g.get? b = some o) → Q v { s with heap := g, toks := tk }) :
    wpAny (model prog w) A (call (.builtin "min") [.ref l] [(Str.ofString "default", d)]) Q E s := by
  have en : (toString "min" ++ toString ".loop" : String) = "min.loop" := by decide
  refine dl_treeK F.kind_min F.plain_min F.entry_min (dl_args_min _ _) ?_
  show wpAny _ A.in1 (Builtin.Builtins.bindParams "min" ["key", "default"] 0 ⟨[], [(Str.ofString "default", d)]⟩ >>= _) _ _ s
  refine wpAny_bind (wpAny_of_eq (show Builtin.Builtins.bindParams "min" ["key", "default"] 0 ⟨[], [(Str.ofString "default", d)]⟩ = pure [none, some d] from ?_) ?_)
  · first | rfl | kernel_rfl
  refine wpAny_bind (wpAny_pure ?_)
  refine wpAny_bind (iter_intList hl fun s2 e st hf hI => ?_)
  refine wpAny_bind (wpAny_newObj_type ?_)
  have hS : s2.heap.objs.size ∉ [s.heap.objs.size, l] := fun hm => Nat.lt_irrefl _ (hf _ hm)
  have Y := Walks.list (prog := prog) (w := w) (A := A.in1) hh s.heap.objs.size l hI (intItems xs)
  have ez : (intItems xs).size = xs.size := by simp [intItems]
  rw [en]
  refine wpAny_pure ⟨plainId_quiet F.plain_min_loop _, dl_min_all Y _ (CmpOf.ints_lt (numAt xs) (fun _ _ => intItems_at)) s2.heap.objs.size hS (Y.frame _ _ _ st fun b _ o e => Heap.get?_push_of_some _ e) (Heap.get?_push_size _ rfl) fun v g tk hP hk => ?_⟩
  subst e
  rw [ez] at hP
  refine h v g tk hP fun b o q => ?_
  have hb := Heap.lt_size q
  refine hk b o ?_ ?_ (Heap.get?_push_of_some _ (Heap.get?_push_of_some _ q))
  · intro hm
    rw [List.mem_singleton] at hm
    exact Nat.ne_of_lt hb hm
  · show b ≠ (s.heap.push _).objs.size
    rw [Heap.size_push]; exact Nat.ne_of_lt (Nat.lt_succ_of_lt hb)
end
theorem dl_args_max (a d : Value) : argsOk "max" ⟨[a], [(Str.ofString "default", d)]⟩ := by unfold argsOk; kernel_rfl
section
variable {prog : Program} {w : World} {A : Around} {R : Result → Shared → Prop} {J : Addr} {fp wr : List Addr} {n : Nat} {P : Nat → Value → Prop} {St : Nat → Heap → Prop} {kw : List (Str × Value)}
/-- from an item that is the best so far -/
theorem dl_max_on (Y : Walks prog w A.in1 J fp wr n P St) (bt : Nat → Nat → Bool) (hc : CmpOf prog w A.in1 .Gt P bt) (T : Addr) (hT : T ∉ fp) :
    ∀ (k i : Nat) (z : Shared) (b : Value) (c : Nat), n = i + 1 + k → St (i + 1) z.heap → P (argBest bt i) b →
    z.heap.get? T = some { cls := .type "list", dict := none, data := .seq #[b, b] c, slots := #[] } →
    (∀ v g tk, P (argBest bt (n - 1)) v → (∀ b o, b ∉ wr → b ≠ T → z.heap.get? b = some o → g.get? b = some o) → R (.ok (.ret v)) { z with heap := g, toks := tk }) →
    codeAny (model prog w) A (.builtin "max.loop" ⟨[.ref J, .none, .ref T], kw⟩) R z := by
  have hw : T ∉ wr := fun h => hT (Y.sub _ h)
  have en : (toString "max" ++ toString ".loop" : String) = "max.loop" := by decide
  intro k
  induction k with
  | zero =>
    intro i z b c hn st hb g hR
    have hn : n = i + 1 := hn
    refine codeAny_builtin F.entry_max_loop ?_
    rw [Around.under_plainId F.plain_max_loop _]
    show wpAny _ A.in1 (seqItems? (.ref T) >>= _) _ _ z
    refine wpAny_bind (wpAny_seqItems g rfl ?_)
    show wpAny _ A.in1 (tryCatch (pyNext (.ref J)) _ >>= _) _ _ z
    refine wpAny_bind (wpAny_tryCatch (Y.done z _ _ (hn ▸ st) fun g1 tk kp => ?_))
    show wpAny _ A.in1 (updateSeq T (fun _ => #[]) >>= _) _ _ _
    refine wpAny_bind (wpAny_updateSeq (kp T _ hw g) rfl (wpAny_bind (wpAny_letGo (wpAny_pure ?_))))
    exact hR b _ tk (by rw [hn]; exact hb) fun a o h1 h2 q => (Heap.get?_update_other _ _ h2.symm).trans (kp a o h1 q)
  | succ k ih =>
    intro i z b c hn st hb g hR
    refine codeAny_builtin F.entry_max_loop ?_
    rw [Around.under_plainId F.plain_max_loop _]
    show wpAny _ A.in1 (seqItems? (.ref T) >>= _) _ _ z
    refine wpAny_bind (wpAny_seqItems g rfl ?_)
    show wpAny _ A.in1 (tryCatch (pyNext (.ref J)) _ >>= _) _ _ z
    refine wpAny_bind (wpAny_tryCatch (Y.item (i + 1) z _ _ (by omega) st fun v g1 tk hv st1 kp => ?_))
    have g2 := kp T _ hw g
    show wpAny _ A.in1 (tryCatch (holding [v, v] (richCompare .Gt v b >>= _)) _ >>= _) _ _ _
    refine wpAny_bind (wpAny_tryCatch (wpAny_holding (wpAny_bind (hc (i + 1) (argBest bt i) v b _ _ _ hv hb (wpAny_bind (wpAny_holding (wpAny_truthy_bool (wpAny_bind (wpAny_letGo (wpAny_pure ?_))))))))))
    cases eb : bt (i + 1) (argBest bt i) with
    | true =>
      simp only [if_true]
      refine wpAny_bind (wpAny_updateSeq g2 rfl (wpAny_bind (wpAny_letGo ?_)))
      rw [en]
      refine wpAny_pure ⟨plainId_quiet F.plain_max_loop _, ih (i + 1) _ v _ (by omega) (Y.frame _ _ _ st1 fun a h o q => ?_) (by simp only [argBest, eb, if_true]; exact hv) (Heap.get?_update_self _ g2 rfl) fun u g3 tk3 hu kp3 => ?_⟩
      · exact (Heap.get?_update_other _ _ (fun h : T = a => hT (by rw [h]; assumption))).trans q
      · exact hR u g3 tk3 hu fun a o h1 h2 q => kp3 a o h1 h2 ((Heap.get?_update_other _ _ h2.symm).trans (kp a o h1 q))
    | false =>
      simp only [Bool.false_eq_true, if_false]
      refine wpAny_bind (wpAny_letGo ?_)
      rw [en]
      refine wpAny_pure ⟨plainId_quiet F.plain_max_loop _, ih (i + 1) _ b c (by omega) st1 (by simp only [argBest, eb, Bool.false_eq_true, if_false]; exact hb) g2 fun u g3 tk3 hu kp3 => ?_⟩
      exact hR u g3 tk3 hu fun a o h1 h2 q => kp3 a o h1 h2 (kp a o h1 q)
/-- from nothing: the best item, or what stands for it -/
theorem dl_max_all (Y : Walks prog w A.in1 J fp wr n P St) (bt : Nat → Nat → Bool) (hc : CmpOf prog w A.in1 .Gt P bt) (T : Addr) (hT : T ∉ fp) {z : Shared} {c : Nat} {d : Value} {nm : Str} (st : St 0 z.heap)
    (g : z.heap.get? T = some { cls := .type "list", dict := none, data := .seq #[] c, slots := #[] })
    (hR : ∀ v g tk, (if n = 0 then v = d else P (argBest bt (n - 1)) v) → (∀ b o, b ∉ wr → b ≠ T → z.heap.get? b = some o → g.get? b = some o) → R (.ok (.ret v)) { z with heap := g, toks := tk }) :
    codeAny (model prog w) A (.builtin "max.loop" ⟨[.ref J, .none, .ref T], [(nm, d)]⟩) R z := by
  have hw : T ∉ wr := fun h => hT (Y.sub _ h)
  have en : (toString "max" ++ toString ".loop" : String) = "max.loop" := by decide
  refine codeAny_builtin F.entry_max_loop ?_
  rw [Around.under_plainId F.plain_max_loop _]
  show wpAny _ A.in1 (seqItems? (.ref T) >>= _) _ _ z
  refine wpAny_bind (wpAny_seqItems g rfl ?_)
  show wpAny _ A.in1 (tryCatch (pyNext (.ref J)) _ >>= _) _ _ z
  by_cases h0 : n = 0
  · refine wpAny_bind (wpAny_tryCatch (Y.done z _ _ (h0 ▸ st) fun g1 tk kp => ?_))
    show wpAny _ A.in1 (rule _ >>= _) _ _ _
    refine wpAny_bind (wpAny_rule (wpAny_pure ?_))
    exact hR d g1 tk (by rw [if_pos h0]) fun a o h1 _ q => kp a o h1 q
  · refine wpAny_bind (wpAny_tryCatch (Y.item 0 z _ _ (by omega) st fun v g1 tk hv st1 kp => ?_))
    have g2 := kp T _ hw g
    show wpAny _ A.in1 (updateSeq T (fun _ => #[v, v]) >>= _) _ _ _
    refine wpAny_bind (wpAny_updateSeq g2 rfl ?_)
    rw [en]
    refine wpAny_pure ⟨plainId_quiet F.plain_max_loop _, dl_max_on Y bt hc T hT (n - 1) 0 _ v _ (by omega) (Y.frame _ _ _ st1 fun a h o q => ?_) hv (Heap.get?_update_self _ g2 rfl) fun u g3 tk3 hu kp3 => ?_⟩
    · exact (Heap.get?_update_other _ _ (fun h : T = a => hT (by rw [h]; assumption))).trans q
    · exact hR u g3 tk3 (by rw [if_neg h0]; exact hu) fun a o h1 h2 q => kp3 a o h1 h2 ((Heap.get?_update_other _ _ h2.symm).trans (kp a o h1 q))
end
section
variable {prog : Program} {w : World} {A : Around} {E : Value → Shared → Prop} {s : Shared} {l : Addr} {xs : Array (Int × Tok)} {d : Value} {Q : Value → Shared → Prop}
theorem dl_max_ints (hh : A.handled = none) (hl : s.heap.IsList l (intItems xs))
    (h : ∀ v g tk, (if xs.size = 0 then v = d else (intItems xs)[argBest (fun i j => decide (numAt xs i > numAt xs j)) (xs.size - 1)]? = some v) → (∀ b o, s.heap.get? b = some o → g.get? b = some o) → Q v { s with heap := g, toks := tk }) :
    wpAny (model prog w) A (call (.builtin "max") [.ref l] [(Str.ofString "default", d)]) Q E s := by
  have en : (toString "max" ++ toString ".loop" : String) = "max.loop" := by decide
  refine dl_treeK F.kind_max F.plain_max F.entry_max (dl_args_max _ _) ?_
  show wpAny _ A.in1 (Builtin.Builtins.bindParams "max" ["key", "default"] 0 ⟨[], [(Str.ofString "default", d)]⟩ >>= _) _ _ s
  refine wpAny_bind (wpAny_of_eq (show Builtin.Builtins.bindParams "max" ["key", "default"] 0 ⟨[], [(Str.ofString "default", d)]⟩ = pure [none, some d] from ?_) ?_)
  · first | rfl | kernel_rfl
  refine wpAny_bind (wpAny_pure ?_)
  refine wpAny_bind (iter_intList hl fun s2 e st hf hI => ?_)
  refine wpAny_bind (wpAny_newObj_type ?_)
  have hS : s2.heap.objs.size ∉ [s.heap.objs.size, l] := fun hm => Nat.lt_irrefl _ (hf _ hm)
  have Y := Walks.list (prog := prog) (w := w) (A := A.in1) hh s.heap.objs.size l hI (intItems xs)
  have ez : (intItems xs).size = xs.size := by simp [intItems]
  rw [en]
  refine wpAny_pure ⟨plainId_quiet F.plain_max_loop _, dl_max_all Y _ (CmpOf.ints_gt (numAt xs) (fun _ _ => intItems_at)) s2.heap.objs.size hS (Y.frame _ _ _ st fun b _ o e => Heap.get?_push_of_some _ e) (Heap.get?_push_size _ rfl) fun v g tk hP hk => ?_⟩
  subst e
  rw [ez] at hP
  refine h v g tk hP fun b o q => ?_
  have hb := Heap.lt_size q
  refine hk b o ?_ ?_ (Heap.get?_push_of_some _ (Heap.get?_push_of_some _ q))
  · intro hm
    rw [List.mem_singleton] at hm
    exact Nat.ne_of_lt hb hm
  · show b ≠ (s.heap.push _).objs.size
    rw [Heap.size_push]; exact Nat.ne_of_lt (Nat.lt_succ_of_lt hb)
theorem dl_iter_tup {Q : Value → Shared → Prop} (hl : s.heap.IsTuple l (intItems xs))
    (h : ∀ s₂ : Shared, s₂ = { s with heap := s.heap.push { cls := .type "tuple_iterator", data := .fields #[.ref l, .int 0 0] } } →
      (s₂.heap.IsTupleIter s.heap.objs.size l 0 ∧ s₂.heap.IsTuple l (intItems xs)) → (∀ b ∈ [s.heap.objs.size, l], b < s₂.heap.objs.size) → l ≠ s.heap.objs.size → Q (.ref s.heap.objs.size) s₂) :
    wpAny (model prog w) A (pyIter (.ref l)) Q E s := by
  have hlt : l < s.heap.objs.size := by obtain ⟨_, e, _⟩ := hl; exact Heap.lt_size e
  refine wpAny_pyIter_tuple hl (h _ rfl ⟨⟨_, Heap.get?_push_size _ rfl, rfl, rfl⟩, hl.push _⟩ (fun b hb => ?_) (Nat.ne_of_lt hlt))
  show b < (s.heap.push _).objs.size
  rw [Heap.size_push]
  rcases List.mem_cons.mp hb with e | hb
  · rw [e]; exact Nat.lt_succ_self _
  · rcases List.mem_cons.mp hb with e | hb
    · rw [e]; exact Nat.lt_succ_of_lt hlt
    · cases hb
theorem dl_max_intsT (hh : A.handled = none) (hl : s.heap.IsTuple l (intItems xs))
    (h : ∀ v g tk, (if xs.size = 0 then v = d else (intItems xs)[argBest (fun i j => decide (numAt xs i > numAt xs j)) (xs.size - 1)]? = some v) → (∀ b o, s.heap.get? b = some o → g.get? b = some o) → Q v { s with heap := g, toks := tk }) :
    wpAny (model prog w) A (call (.builtin "max") [.ref l] [(Str.ofString "default", d)]) Q E s := by
  have en : (toString "max" ++ toString ".loop" : String) = "max.loop" := by decide
  refine dl_treeK F.kind_max F.plain_max F.entry_max (dl_args_max _ _) ?_
  show wpAny _ A.in1 (Builtin.Builtins.bindParams "max" ["key", "default"] 0 ⟨[], [(Str.ofString "default", d)]⟩ >>= _) _ _ s
  refine wpAny_bind (wpAny_of_eq (show Builtin.Builtins.bindParams "max" ["key", "default"] 0 ⟨[], [(Str.ofString "default", d)]⟩ = pure [none, some d] from ?_) ?_)
  · first | rfl | kernel_rfl
  refine wpAny_bind (wpAny_pure ?_)
  refine wpAny_bind (dl_iter_tup hl fun s2 e st hf hI => ?_)
  refine wpAny_bind (wpAny_newObj_type ?_)
  have hS : s2.heap.objs.size ∉ [s.heap.objs.size, l] := fun hm => Nat.lt_irrefl _ (hf _ hm)
  have Y := Walks.tuple (prog := prog) (w := w) (A := A.in1) hh s.heap.objs.size l hI (intItems xs)
  have ez : (intItems xs).size = xs.size := by simp [intItems]
  rw [en]
  refine wpAny_pure ⟨plainId_quiet F.plain_max_loop _, dl_max_all Y _ (CmpOf.ints_gt (numAt xs) (fun _ _ => intItems_at)) s2.heap.objs.size hS (Y.frame _ _ _ st fun b _ o e => Heap.get?_push_of_some _ e) (Heap.get?_push_size _ rfl) fun v g tk hP hk => ?_⟩
  subst e
  rw [ez] at hP
  refine h v g tk hP fun b o q => ?_
  have hb := Heap.lt_size q
  refine hk b o ?_ ?_ (Heap.get?_push_of_some _ (Heap.get?_push_of_some _ q))
  · intro hm
    rw [List.mem_singleton] at hm
    exact Nat.ne_of_lt hb hm
  · show b ≠ (s.heap.push _).objs.size
    rw [Heap.size_push]; exact Nat.ne_of_lt (Nat.lt_succ_of_lt hb)
end
end PySem
namespace DL
open PySem L2 PyProof.Rows
section
variable {prog : Program} {w : World} {A : Around} {E : Value → Shared → Prop} {s : Shared} {l : Addr} {us : List Value} {ns : List Int} {d : Value} {Q : Value → Shared → Prop}
theorem dl_min_raw (hh : A.handled = none) (hl : s.heap.IsList l us.toArray) (hi : IntsAre us ns)
    (h : ∀ v g tk, (match ns.min? with | none => v = d | some m => ∃ t, v = .int m t) → (∀ b o, s.heap.get? b = some o → g.get? b = some o) → Q v { s with heap := g, toks := tk }) : wpAny (model prog w) A (call (.builtin "min") [.ref l] [(Str.ofString "default", d)]) Q E s := by
  obtain ⟨xs, e⟩ := hi.allInts.items
  have hn : numsOf (intItems xs).toList = ns := by rw [← e]; exact hi.numsOf
  rw [nums_intItems] at hn
  subst hn
  rw [e] at hl
  refine PySem.dl_min_ints hh hl fun v g tk hv kp => h v g tk ?_ kp
  by_cases h0 : xs.size = 0
  · rw [if_pos h0] at hv
    have : xs.toList = [] := List.eq_nil_of_length_eq_zero (by rw [Array.length_toList]; exact h0)
    rw [this]
    exact hv
  · rw [if_neg h0] at hv
    obtain ⟨t, rfl⟩ := intItems_at hv
    obtain ⟨h1, h2⟩ := argBest_lt (numAt xs) (xs.size - 1)
    have hm : (xs.toList.map (·.1)).min? = some (numAt xs (argBest (fun i j => decide (numAt xs i < numAt xs j)) (xs.size - 1))) := by
      refine List.min?_eq_some_iff.mpr ⟨?_, fun a ha => ?_⟩
      · rw [numAt_eq]; exact PySem.getD_mem (by rw [List.length_map, Array.length_toList]; omega)
      · obtain ⟨j, hj, rfl⟩ := mem_getD ha
        rw [List.length_map, Array.length_toList] at hj
        rw [← numAt_eq]; exact h2 j (by omega)
    rw [hm]
    exact ⟨t, rfl⟩
theorem dl_max_raw (hh : A.handled = none) (hl : s.heap.IsList l us.toArray) (hi : IntsAre us ns)
    (h : ∀ v g tk, (match ns.max? with | none => v = d | some m => ∃ t, v = .int m t) → (∀ b o, s.heap.get? b = some o → g.get? b = some o) → Q v { s with heap := g, toks := tk }) : wpAny (model prog w) A (call (.builtin "max") [.ref l] [(Str.ofString "default", d)]) Q E s := by
  obtain ⟨xs, e⟩ := hi.allInts.items
  have hn : numsOf (intItems xs).toList = ns := by rw [← e]; exact hi.numsOf
  rw [nums_intItems] at hn
  subst hn
  rw [e] at hl
  refine PySem.dl_max_ints hh hl fun v g tk hv kp => h v g tk ?_ kp
  by_cases h0 : xs.size = 0
  · rw [if_pos h0] at hv
    have : xs.toList = [] := List.eq_nil_of_length_eq_zero (by rw [Array.length_toList]; exact h0)
    rw [this]
    exact hv
  · rw [if_neg h0] at hv
    obtain ⟨t, rfl⟩ := intItems_at hv
    obtain ⟨h1, h2⟩ := argBest_gt (numAt xs) (xs.size - 1)
    have hm : (xs.toList.map (·.1)).max? = some (numAt xs (argBest (fun i j => decide (numAt xs i > numAt xs j)) (xs.size - 1))) := by
      refine List.max?_eq_some_iff.mpr ⟨?_, fun a ha => ?_⟩
      · rw [numAt_eq]; exact PySem.getD_mem (by rw [List.length_map, Array.length_toList]; omega)
      · obtain ⟨j, hj, rfl⟩ := mem_getD ha
        rw [List.length_map, Array.length_toList] at hj
        rw [← numAt_eq]; exact h2 j (by omega)
    rw [hm]
    exact ⟨t, rfl⟩
theorem dl_max_rawT (hh : A.handled = none) (hl : s.heap.IsTuple l us.toArray) (hi : IntsAre us ns)
    (h : ∀ v g tk, (match ns.max? with | none => v = d | some m => ∃ t, v = .int m t) → (∀ b o, s.heap.get? b = some o → g.get? b = some o) → Q v { s with heap := g, toks := tk }) : wpAny (model prog w) A (call (.builtin "max") [.ref l] [(Str.ofString "default", d)]) Q E s := by
  obtain ⟨xs, e⟩ := hi.allInts.items
  have hn : numsOf (intItems xs).toList = ns := by rw [← e]; exact hi.numsOf
  rw [nums_intItems] at hn
  subst hn
  rw [e] at hl
  refine PySem.dl_max_intsT hh hl fun v g tk hv kp => h v g tk ?_ kp
  by_cases h0 : xs.size = 0
  · rw [if_pos h0] at hv
    have : xs.toList = [] := List.eq_nil_of_length_eq_zero (by rw [Array.length_toList]; exact h0)
    rw [this]
    exact hv
  · rw [if_neg h0] at hv
    obtain ⟨t, rfl⟩ := intItems_at hv
    obtain ⟨h1, h2⟩ := argBest_gt (numAt xs) (xs.size - 1)
    have hm : (xs.toList.map (·.1)).max? = some (numAt xs (argBest (fun i j => decide (numAt xs i > numAt xs j)) (xs.size - 1))) := by
      refine List.max?_eq_some_iff.mpr ⟨?_, fun a ha => ?_⟩
      · rw [numAt_eq]; exact PySem.getD_mem (by rw [List.length_map, Array.length_toList]; omega)
      · obtain ⟨j, hj, rfl⟩ := mem_getD ha
        rw [List.length_map, Array.length_toList] at hj
        rw [← numAt_eq]; exact h2 j (by omega)
    rw [hm]
    exact ⟨t, rfl⟩
end
/-- a built-in with one list of numbers, and what stands for none -/
def dfD (d : PyData) : Option Int → PyData
  | none => d
  | some m => .int m
def isSc : PyData → Prop
  | .none => True
  | .int _ => True
  | _ => False
def MinDefD : List PyData → List PyData → PyData → Prop
  | [.list ds], [d], z => isSc d ∧ ∃ ns : List Int, ds = ns.map PyData.int ∧ z = dfD d ns.min?
  | _, _, _ => False
def MaxDefD : List PyData → List PyData → PyData → Prop
  | [.list ds], [d], z => isSc d ∧ ∃ ns : List Int, ds = ns.map PyData.int ∧ z = dfD d ns.max?
  | [.tuple ds], [d], z => isSc d ∧ ∃ ns : List Int, ds = ns.map PyData.int ∧ z = dfD d ns.max?
  | _, _, _ => False
def rCK (K : Fg) (g : List PyData → List PyData → PyData → Prop) : List V → List V → Hp → VK → Prop := fun vs zs H Q => ∃ M ds es z, Md M H ∧ Dts K M H vs ds ∧ Dts K M H zs es ∧ g ds es z ∧ ∀ v H', Ex H H' → Da K M H' v z → Q v H'
section
variable {X : Cx}
theorem call_minDefD (hc : X.calm = true) : CallRK X (.builtin "min") [Str.ofString "default"] (rCK X.K MinDefD) := by
  intro pins s σ H vs zs us ws Q I r rz h
  obtain ⟨M, ds, es, z, hM, hd, he, g, q⟩ := h
  match ds, es, g with
  | [.list ds'], [d], g =>
    obtain ⟨hs, ns, rfl, rfl⟩ := g
    obtain ⟨v, rfl, h1⟩ := Dts.one hd
    obtain ⟨u, rfl, h2⟩ := Dts.one he
    obtain ⟨a, xs, rfl, ha, hx⟩ := Dt.list_inv h1
    have e := Das.ints hx; subst e
    obtain ⟨its, rv, hl, _⟩ := I.list (hid_l ha)
    obtain rfl := Vals.ref1 r
    obtain ⟨w1, rfl, e1⟩ := vals1 rz
    have hda : Da X.K M H u d := by cases h2 with | da h => exact h | op _ _ => exact hs.elim
    refine dl_min_raw (I.ok.hd hc) hl.isList rv.ints fun v g tk hv kp => ?_
    cases hm : ns.min? with
    | none =>
      rw [hm] at hv q
      dsimp only at hv q
      subst hv
      exact ⟨u, H, I.kept kp, e1, q u H (Ex.refl H) hda⟩
    | some m =>
      rw [hm] at hv q
      dsimp only at hv q
      exact ⟨.int m, H, I.kept kp, hv, q _ H (Ex.refl H) (.int _)⟩
theorem call_maxDefD (hc : X.calm = true) : CallRK X (.builtin "max") [Str.ofString "default"] (rCK X.K MaxDefD) := by
  intro pins s σ H vs zs us ws Q I r rz h
  obtain ⟨M, ds, es, z, hM, hd, he, g, q⟩ := h
  match ds, es, g with
  | [.list ds'], [d], g =>
    obtain ⟨hs, ns, rfl, rfl⟩ := g
    obtain ⟨v, rfl, h1⟩ := Dts.one hd
    obtain ⟨u, rfl, h2⟩ := Dts.one he
    obtain ⟨a, xs, rfl, ha, hx⟩ := Dt.list_inv h1
    have e := Das.ints hx; subst e
    obtain ⟨its, rv, hl, _⟩ := I.list (hid_l ha)
    obtain rfl := Vals.ref1 r
    obtain ⟨w1, rfl, e1⟩ := vals1 rz
    have hda : Da X.K M H u d := by cases h2 with | da h => exact h | op _ _ => exact hs.elim
    refine dl_max_raw (I.ok.hd hc) hl.isList rv.ints fun v g tk hv kp => ?_
    cases hm : ns.max? with
    | none =>
      rw [hm] at hv q
      dsimp only at hv q
      subst hv
      exact ⟨u, H, I.kept kp, e1, q u H (Ex.refl H) hda⟩
    | some m =>
      rw [hm] at hv q
      dsimp only at hv q
      exact ⟨.int m, H, I.kept kp, hv, q _ H (Ex.refl H) (.int _)⟩
  | [.tuple ds'], [d], g =>
    obtain ⟨hs, ns, rfl, rfl⟩ := g
    obtain ⟨v, rfl, h1⟩ := Dts.one hd
    obtain ⟨u, rfl, h2⟩ := Dts.one he
    obtain ⟨a, xs, rfl, ha, hx⟩ := Dt.tup_inv h1
    have e := Das.ints hx; subst e
    obtain ⟨its, rv, hl, _⟩ := I.tuple (hid_t ha)
    obtain rfl := Vals.ref1 r
    obtain ⟨w1, rfl, e1⟩ := vals1 rz
    have hda : Da X.K M H u d := by cases h2 with | da h => exact h | op _ _ => exact hs.elim
    refine dl_max_rawT (I.ok.hd hc) hl rv.ints fun v g tk hv kp => ?_
    cases hm : ns.max? with
    | none =>
      rw [hm] at hv q
      dsimp only at hv q
      subst hv
      exact ⟨u, H, I.kept kp, e1, q u H (Ex.refl H) hda⟩
    | some m =>
      rw [hm] at hv q
      dsimp only at hv q
      exact ⟨.int m, H, I.kept kp, hv, q _ H (Ex.refl H) (.int _)⟩
end
/-! ### its term -/
class OpK (g : List PyData → List PyData → PyData → Prop) where
  G : List PyData → List PyData → (PyData → Prop) → Prop
  ok : ∀ d e K, G d e K → ∃ z, g d e z ∧ K z
instance : OpK MinDefD := ⟨fun ds es K => match ds, es with
  | [.list a], [d] => isSc d ∧ intsW a fun ns => K (dfD d ns.min?)
  | _, _ => False, fun ds es K h => by
    match ds, es, h with
    | [.list a], [d], ⟨h0, ns, e, h⟩ => exact ⟨_, ⟨h0, ns, e, rfl⟩, h⟩⟩
instance : OpK MaxDefD := ⟨fun ds es K => match ds, es with
  | [.list a], [d] => isSc d ∧ intsW a fun ns => K (dfD d ns.max?)
  | [.tuple a], [d] => isSc d ∧ intsW a fun ns => K (dfD d ns.max?)
  | _, _ => False, fun ds es K h => by
    match ds, es, h with
    | [.list a], [d], ⟨h0, ns, e, h⟩ => exact ⟨_, ⟨h0, ns, e, rfl⟩, h⟩
    | [.tuple a], [d], ⟨h0, ns, e, h⟩ => exact ⟨_, ⟨h0, ns, e, rfl⟩, h⟩⟩
def xBiK (g : List PyData → List PyData → PyData → Prop) [c : OpK g] (a b : XA) : XE where
  te k W := tCKw (rCK k.K g) (a.ta k W) (b.ta k W)
  wp X ρ C P := a.wp X ρ C fun ss C1 => b.wp X ρ C1 fun tt C2 => rds C2 ss fun ds => rds C2 tt fun es => c.G ds es fun z => P (.d z) C2
  ok w h q := a.ok w h fun vs H1 ss α1 C1 t1 r1 c1 p1 => b.ok (w.to t1 r1) p1 fun us H2 tt α2 C2 t2 r2 c2 p2 => by
    obtain ⟨ds, h1, p3⟩ := rds_dt r2 (c1.to t2) p2
    obtain ⟨es, h2, p3⟩ := rds_dt r2 c2 p3
    obtain ⟨z, hg, p4⟩ := c.ok _ _ _ p3
    exact ⟨ms _ α2 C2, ds, es, z, r2.md, h1, h2, hg, fun v' H' x dz => q v' H' (.d z) α2 C2 ((t1.trans t2).trans (r2.ex x)) (r2.keep x) dz p4⟩
theorem r_xBiK {k : Kx} {W : WX} (g : List PyData → List PyData → PyData → Prop) [OpK g] (a b : XA) : (xBiK g a b).te k W = (tCKw (rCK k.K g) (a.ta k W) (b.ta k W)) := rfl
theorem g_minDef {ns : List Int} {d : PyData} (h : isSc d) : MinDefD [.list (ns.map .int)] [d] (dfD d ns.min?) := ⟨h, ns, rfl, rfl⟩
theorem g_maxDef {ns : List Int} {d : PyData} (h : isSc d) : MaxDefD [.list (ns.map .int)] [d] (dfD d ns.max?) := ⟨h, ns, rfl, rfl⟩
/-! ### data that can be told as a text -/
structure Rp (n w : Nat) (d : PyData) : Prop where
  short : d.leavesShort 13 = true
  shows : d.showable = true
  flat : d.hasDict = false
  deep : d.depth ≤ n
  size : d.weight ≤ w
structure Rps (n w : Nat) (ds : List PyData) : Prop where
  short : PyData.leavesShortAll 13 ds = true
  shows : PyData.showableAll ds = true
  flat : PyData.hasDictAll ds = false
  deep : PyData.depthAll ds ≤ n
  size : PyData.weightAll ds ≤ w
theorem lg_lt {n k : Nat} (h : n < 2 ^ k) (hk : 0 < k) : n.log2 < k := by
  by_cases h0 : n = 0
  · subst h0; simpa using hk
  · exact (Nat.log2_lt h0).mpr h
theorem rp_int {i : Int} (h : i.natAbs < 10 ^ 12) : Rp 0 40 (.int i) := by
  have e := lg_lt (n := i.natAbs) (k := 40) (Nat.lt_of_lt_of_le h (by decide)) (by decide)
  refine ⟨?_, ?_, rfl, by simp only [PyData.depth]; omega, ?_⟩
  · simp only [PyData.leavesShort, decide_eq_true_eq]; exact PyData.shown_int_le h
  · simp only [PyData.showable, decide_eq_true_eq]; omega
  · simp only [PyData.weight]; split <;> omega
theorem rp_none : Rp 0 0 .none := ⟨rfl, rfl, rfl, by simp only [PyData.depth]; omega, by simp only [PyData.weight]; omega⟩
theorem rp_bool {b : Bool} : Rp 0 0 (.bool b) := ⟨rfl, rfl, rfl, by simp only [PyData.depth]; omega, by simp only [PyData.weight]; omega⟩
theorem rp_str {x : Str} {w : Nat} (h : ∀ c ∈ x.cps.toList, c < 16 ^ 8) (l : x.length ≤ w) : Rp 0 w (.str x) := by
  refine ⟨?_, rfl, rfl, by simp only [PyData.depth]; omega, by simp only [PyData.weight]; exact l⟩
  simp only [PyData.leavesShort, List.all_eq_true, decide_eq_true_eq]; exact h
theorem rps_nil {n : Nat} : Rps n 0 [] := ⟨rfl, rfl, rfl, by simp only [PyData.depthAll]; omega, by simp only [PyData.weightAll]; omega⟩
theorem rps_cons {n a b : Nat} {d : PyData} {ds : List PyData} (h : Rp n a d) (t : Rps n b ds) : Rps n (a + 1 + b) (d :: ds) := by
  refine ⟨?_, ?_, ?_, ?_, ?_⟩
  · simp only [PyData.leavesShortAll, h.short, t.short, Bool.and_true]
  · simp only [PyData.showableAll, h.shows, t.shows, Bool.and_true]
  · simp only [PyData.hasDictAll, h.flat, t.flat, Bool.or_false]
  · simp only [PyData.depthAll]; have := h.deep; have := t.deep; omega
  · simp only [PyData.weightAll]; have := h.size; have := t.size; omega
theorem rp_list {n w : Nat} {ds : List PyData} (t : Rps n w ds) : Rp (n + 1) w (.list ds) := by
  refine ⟨?_, ?_, ?_, ?_, ?_⟩
  · simp only [PyData.leavesShort, t.short]
  · simp only [PyData.showable, t.shows]
  · simp only [PyData.hasDict, t.flat]
  · simp only [PyData.depth]; have := t.deep; omega
  · simp only [PyData.weight]; exact t.size
theorem rp_tup {n w : Nat} {ds : List PyData} (t : Rps n w ds) : Rp (n + 1) w (.tuple ds) := by
  refine ⟨?_, ?_, ?_, ?_, ?_⟩
  · simp only [PyData.leavesShort, t.short]
  · simp only [PyData.showable, t.shows]
  · simp only [PyData.hasDict, t.flat]
  · simp only [PyData.depth]; have := t.deep; omega
  · simp only [PyData.weight]; exact t.size
theorem Rp.up {n m a b : Nat} {d : PyData} (h : Rp n a d) (h1 : n ≤ m) (h2 : a ≤ b) : Rp m b d := ⟨h.short, h.shows, h.flat, Nat.le_trans h.deep h1, Nat.le_trans h.size h2⟩
theorem rps_all {n w : Nat} : ∀ {ds : List PyData}, (∀ d ∈ ds, Rp n w d) → Rps n ((w + 1) * ds.length) ds
  | [], _ => rps_nil
  | d :: ds, h => by
    have t := rps_cons (h d List.mem_cons_self) (rps_all fun e m => h e (List.mem_cons_of_mem _ m))
    rw [List.length_cons, Nat.mul_add, Nat.mul_one, Nat.add_comm]
    exact t
theorem rps_map {α : Type} {n w : Nat} {f : α → PyData} {xs : List α} (h : ∀ a ∈ xs, Rp n w (f a)) : Rps n ((w + 1) * xs.length) (xs.map f) := by
  have t := rps_all (ds := xs.map f) fun d m => by obtain ⟨a, ha, rfl⟩ := List.mem_map.mp m; exact h a ha
  rw [List.length_map] at t
  exact t
theorem Rp.ok {n w : Nat} {d : PyData} (h : Rp n w d) (h1 : n ≤ 60 := by decide) (h2 : w ≤ 1048576 := by decide) : ReprOk d :=
  ⟨h.shows, h.flat, Nat.le_trans h.deep h1, PyData.shown_fits (B := 13) (by decide) (by decide) h.short (Nat.le_trans h.size (by exact h2))⟩
end DL
set_option maxRecDepth 100000
namespace DL
open PySem L2
/-! ### the fields of objects -/
theorem names_nd7 : ∀ c, c < 7 → (names c).Nodup := by decide +kernel
theorem attrs_no {c : Nat} (h : ¬ c < 7) : attrs c = [] := by
  obtain ⟨n, rfl⟩ : ∃ n, c = n + 7 := ⟨c - 7, by omega⟩
  rfl
theorem names_nd (c : Nat) : (names c).Nodup := by
  by_cases h : c < 7
  · exact names_nd7 c h
  · unfold names; rw [attrs_no h]; exact List.nodup_nil
theorem attrs_few7 : ∀ c, c < 7 → (attrs c).length < 1000 := by decide
theorem attrs_few (c : Nat) : (attrs c).length < 1000 := by
  by_cases h : c < 7
  · exact attrs_few7 c h
  · rw [attrs_no h]; decide
def mnL : List String := ["pass_to", "take_part", "last_one", "figures", "keeps", "check_day", "check_idle", "pass_on", "give_back", "pay_back", "sell_on", "pay", "give_up", "price_falls",
  "state", "rule", "price", "paid", "kept", "backs", "payments", "last_day", "would_go", "owes_more", "turn", "tell", "fate", "wares_of", "put_ones", "those_waiting", "person", "next_day", "put_by",
  "give_out", "pay_all_back", "let_go", "sell", "morning", "do", "going_on", "all_rows", "turned", "with_entry", "enter", "take_in", "strike", "undo", "twin", "entries", "voids", "ware_on", "rows", "house_of", "stands", "waits"]
/-- the names of methods -/
def mn (i : Nat) : Str := Str.ofString (mnL.getD i "")
theorem mn_no7 : ∀ c, c < 7 → ∀ j, j < 56 → mn j ∉ names c := by decide +kernel
theorem mn_far {j : Nat} (h : ¬ j < 56) : mn j = mn 55 := by
  unfold mn
  have e : mnL.getD j "" = "" := by
    rw [List.getD_eq_getElem?_getD, List.getElem?_eq_none (by have : mnL.length = 55 := rfl; omega)]; rfl
  rw [e]; rfl
theorem mn_no (c j : Nat) : mn j ∉ names c := by
  by_cases h : c < 7
  · by_cases hj : j < 56
    · exact mn_no7 c h j hj
    · rw [mn_far hj]; exact mn_no7 c h 55 (by decide)
  · unfold names; rw [attrs_no h]; simp
theorem zl_no {m : Str} : ∀ {ns : List Str} {xs : List V}, m ∉ ns → (ns.zip xs).lookup m = none
  | [], _, _ => rfl
  | _ :: _, [], _ => rfl
  | g :: ns, x :: xs, h => by
    have e : (m == g) = false := beq_eq_false_iff_ne.mpr fun z => h (by rw [z]; exact List.mem_cons_self)
    rw [List.zip_cons_cons, List.lookup, e]
    exact zl_no fun z => h (List.mem_cons_of_mem _ z)
theorem zl_get {f : Str} {v : V} : ∀ {ns : List Str} {xs : List V} {i : Nat}, ns.Nodup → ns[i]? = some f → xs[i]? = some v → (ns.zip xs).lookup f = some v
  | [], _, i, _, h, _ => by simp at h
  | _ :: _, [], i, _, _, h => by simp at h
  | g :: ns, x :: xs, 0, _, h1, h2 => by
    simp at h1 h2
    subst h1; subst h2
    rw [List.zip_cons_cons, List.lookup, beq_self_eq_true]
  | g :: ns, x :: xs, i + 1, nd, h1, h2 => by
    have h1 : ns[i]? = some f := by simpa using h1
    have h2 : xs[i]? = some v := by simpa using h2
    have e : (f == g) = false := beq_eq_false_iff_ne.mpr fun z => (List.nodup_cons.mp nd).1 (by rw [← z]; exact List.mem_of_getElem? h1)
    rw [List.zip_cons_cons, List.lookup, e]
    exact zl_get (List.nodup_cons.mp nd).2 h1 h2
theorem zl_set {f : Str} {v : V} : ∀ {ns : List Str} {xs : List V} {i : Nat}, ns.Nodup → ns[i]? = some f → i < xs.length → putF f v (ns.zip xs) = ns.zip (xs.set i v)
  | [], _, i, _, h, _ => by simp at h
  | _ :: _, [], i, _, _, h => by simp at h
  | g :: ns, x :: xs, 0, _, h1, h2 => by
    simp at h1
    subst h1
    rw [List.zip_cons_cons, putF, if_pos rfl]; rfl
  | g :: ns, x :: xs, i + 1, nd, h1, h2 => by
    have h1 : ns[i]? = some f := by simpa using h1
    have e : ¬ g = f := fun z => (List.nodup_cons.mp nd).1 (by rw [z]; exact List.mem_of_getElem? h1)
    rw [List.zip_cons_cons, putF, if_neg e, zl_set (List.nodup_cons.mp nd).2 h1 (by rw [List.length_cons] at h2; omega)]; rfl
theorem zl_app {f : Str} {v : V} : ∀ {ns : List Str} {xs : List V}, ns.Nodup → ns[xs.length]? = some f → putF f v (ns.zip xs) = ns.zip (xs ++ [v])
  | [], _, _, h => by simp at h
  | g :: ns, [], _, h1 => by
    simp at h1
    subst h1
    rw [List.nil_append, List.zip_cons_cons, List.zip_nil_right, List.zip_nil_right]; rfl
  | g :: ns, x :: xs, nd, h1 => by
    have h1 : ns[xs.length]? = some f := by simpa using h1
    have e : ¬ g = f := fun z => (List.nodup_cons.mp nd).1 (by rw [z]; exact List.mem_of_getElem? h1)
    rw [List.zip_cons_cons, putF, if_neg e, zl_app (List.nodup_cons.mp nd).2 h1]; rfl
def objAt (C : Cs) (n : Nat) (K : Nat → List Cv → Prop) : Prop := match C[n]? with
  | some (.obj c ss) => K c ss
  | _ => False
theorem objAt_of {C : Cs} {n : Nat} {K : Nat → List Cv → Prop} (h : objAt C n K) : ∃ c ss, C[n]? = some (.obj c ss) ∧ K c ss := by
  unfold objAt at h
  cases e : C[n]? with
  | none => rw [e] at h; exact h.elim
  | some x => rw [e] at h; cases x <;> first | exact h.elim | exact ⟨_, _, rfl, h⟩
def posN (f : Nat) : List Nat → Nat → (Nat → Prop) → Prop
  | [], _, _ => False
  | g :: r, n, K => cnd (Nat.beq g f) (K n) (posN f r (n + 1) K)
theorem posN_of {f : Nat} {K : Nat → Prop} : ∀ {l : List Nat} {n : Nat}, posN f l n K → ∃ i, l[i]? = some f ∧ K (n + i)
  | [], _, h => False.elim h
  | g :: r, n, h => by
    have h : cnd (Nat.beq g f) (K n) (posN f r (n + 1) K) := h
    cases e : Nat.beq g f with
    | true =>
      rw [e] at h
      exact ⟨0, by rw [Nat.eq_of_beq_eq_true e]; rfl, h⟩
    | false =>
      rw [e] at h
      obtain ⟨i, h1, h2⟩ := posN_of (l := r) (n := n + 1) h
      exact ⟨i + 1, by simpa using h1, by rw [show n + (i + 1) = n + 1 + i by omega]; exact h2⟩
def putW (s : Cv) : List Cv → Nat → (List Cv → Prop) → Prop
  | [], 0, K => K [s]
  | _ :: r, 0, K => K (s :: r)
  | x :: r, i + 1, K => putW s r i fun r' => K (x :: r')
  | [], _ + 1, _ => False
theorem putW_of {s : Cv} : ∀ {ss : List Cv} {i : Nat} {K : List Cv → Prop}, putW s ss i K → (i < ss.length ∧ K (ss.set i s)) ∨ (i = ss.length ∧ K (ss ++ [s]))
  | [], 0, _, h => .inr ⟨rfl, h⟩
  | _ :: r, 0, _, h => .inl ⟨by simp, h⟩
  | x :: r, i + 1, K, h => by
    rcases putW_of (ss := r) (i := i) h with ⟨h1, h2⟩ | ⟨h1, h2⟩
    · exact .inl ⟨by rw [List.length_cons]; omega, h2⟩
    · exact .inr ⟨by rw [List.length_cons]; omega, h2⟩
  | [], _ + 1, _, h => False.elim h
section
variable {k : Kx} {B α : List Addr} {C : Cs} {H : Hp}
theorem name_at {c f i : Nat} (h : (attrs c)[i]? = some f) : (names c)[i]? = some (an f) := by
  unfold names; rw [List.getElem?_map, h]; rfl
theorem obj_at (r : Rep k B α C H) {n : Nat} {a : Addr} {c : Nat} {ss : List Cv} (ha : α[n]? = some a) (hc : C[n]? = some (.obj c ss)) :
    ∃ dx xs, H a = some (.ins (k.cl c) dx ((names c).zip xs)) ∧ Rcs k.K (ms B α C) H α xs ss ∧ ss.length ≤ (attrs c).length ∧ k.has c := r.at_ n a _ ha hc
theorem Rcs.set {K : Fg} {M : Ms} {v : V} {s : Cv} (h : Rc K M H α v s) {vs : List V} {ss : List Cv} (g : Rcs K M H α vs ss) : ∀ i : Nat, Rcs K M H α (vs.set i v) (ss.set i s) := by
  induction g with
  | nil => intro i; exact .nil
  | cons a t ih =>
    intro i
    cases i with
    | zero => exact .cons h t
    | succ i => exact .cons a (ih i)
theorem zip_few {c : Nat} {xs : List V} : ((names c).zip xs).length < 1000 := by
  have := attrs_few c
  rw [List.length_zip]
  have e : (names c).length = (attrs c).length := by unfold names; rw [List.length_map]
  omega
theorem na_of (h : k.has c) {f i : Nat} (hi : (attrs c)[i]? = some f) : NoAttr k.K (k.cl c) (an f) := h.2 _ (List.mem_of_getElem? (name_at hi))
/-- a field is written -/
theorem Rep.putO (r : Rep k B α C H) {n : Nat} {a : Addr} {c : Nat} {ss : List Cv} {dx : Addr} {xs : List V} {y : V} {s : Cv} {f i : Nat} (ha : α[n]? = some a) (hc : C[n]? = some (.obj c ss)) (hk : k.has c) (hr : Rcs k.K (ms B α C) H α xs ss) (hl : ss.length ≤ (attrs c).length)
    (hi : (attrs c)[i]? = some f) (hy : Rc k.K (ms B α C) H α y s) {K : List Cv → Prop} (q : putW s ss i K) :
    ∃ ss', K ss' ∧ Rep k B α (C.set n (.obj c ss')) (upd H a (.ins (k.cl c) dx (putF (an f) y ((names c).zip xs)))) ∧ To B α C H α (C.set n (.obj c ss')) (upd H a (.ins (k.cl c) dx (putF (an f) y ((names c).zip xs)))) := by
  have il : i < (attrs c).length := (List.getElem?_eq_some_iff.mp hi).1
  rcases putW_of q with ⟨h1, h2⟩ | ⟨h1, h2⟩
  · refine ⟨_, h2, ?_⟩
    rw [zl_set (names_nd c) (name_at hi) (by rw [Rcs.len hr]; exact h1)]
    exact r.put ha hc rfl rfl (fun b q => upd_ne q) ⟨_, upd_same⟩ fun t => ⟨dx, _, upd_same, (Rcs.set hy hr i).to t, by rw [List.length_set]; exact hl, hk⟩
  · refine ⟨_, h2, ?_⟩
    subst h1
    rw [← Rcs.len hr] at hi
    rw [zl_app (names_nd c) (name_at hi)]
    exact r.put ha hc rfl rfl (fun b q => upd_ne q) ⟨_, upd_same⟩ fun t => ⟨dx, _, upd_same, (hr.app (.cons hy .nil)).to t, by rw [List.length_append]; exact il, hk⟩
end
theorem stay {B α α' : List Addr} {C C' : Cs} {H H' : Hp} (t : To B α C H α' C' H') {n : Nat} {a : Addr} (h : α[n]? = some a) : α'[n]? = some a := by
  obtain ⟨e, rfl, _⟩ := t.ex
  rw [List.getElem?_append_left (List.getElem?_eq_some_iff.mp h).1]; exact h
def xFld (a : XE) (f : Nat) : XE where
  te k W := tFld k.K (a.te k W) (an f)
  wp X ρ C P := a.wp X ρ C fun s C1 => isC s fun n => objAt C1 n fun c ss => posN f (attrs c) 0 fun i => getW ss i fun t => P t C1
  ok w h q := a.ok w h fun v H1 s α1 C1 t1 r1 c1 p1 => by
    obtain ⟨n, p, rfl, hp, rfl, p1⟩ := isC_of c1 p1
    obtain ⟨c, ss, hc, p1⟩ := objAt_of p1
    obtain ⟨dx, xs, h1, h2, h3, h4⟩ := obj_at r1 hp hc
    obtain ⟨i, hi, p1⟩ := posN_of p1
    rw [Nat.zero_add] at p1
    obtain ⟨t, ht, p1⟩ := getW_of p1
    obtain ⟨v, hv, rv⟩ := h2.get1 ht
    exact ⟨p, _, dx, _, v, rfl, h1, h4.1, na_of h4 hi, zl_get (names_nd c) (name_at hi) hv, q v H1 t α1 C1 t1 r1 rv p1⟩
def xsFld (o e : XE) (f : Nat) : XS where
  ts k W := sFld k.K (o.te k W) (e.te k W) (an f)
  wp X ρ C P := e.wp X ρ C fun s C1 => o.wp X ρ C1 fun t C2 => isC t fun n => objAt C2 n fun c ss => posN f (attrs c) 0 fun i => putW s ss i fun ss' => setK C2 n (.obj c ss') fun C3 => P.N ρ C3
  ok w h q := e.ok w h fun v H1 s α1 C1 t1 r1 c1 p1 => o.ok (w.to t1 r1) p1 fun u H2 s2 α2 C2 t2 r2 c2 p2 => by
    obtain ⟨n, p, rfl, hp, rfl, p2⟩ := isC_of c2 p2
    obtain ⟨c, ss, hc, p2⟩ := objAt_of p2
    obtain ⟨dx, xs, h1, h2, h3, h4⟩ := obj_at r2 hp hc
    obtain ⟨i, hi, p2⟩ := posN_of p2
    rw [Nat.zero_add] at p2
    obtain ⟨ss', p3, r3, t3⟩ := r2.putO (dx := dx) hp hc h4 h2 h3 hi (c1.to t2) p2
    have tt := (t1.trans t2).trans t3
    exact ⟨p, _, dx, _, rfl, h1, h4.1, na_of h4 hi, zip_few, q.nx _ _ _ α2 _ tt r3 (w.en.to tt) (setK_of p3)⟩
/-- o.f += e, o.f -= e (numbers) -/
def xsFldAug (pl : Bool) (o e : XE) (f : Nat) : XS where
  ts k W := sFldAug k.K (o.te k W) (e.te k W) (if pl then rAdd else rSub) (an f)
  wp X ρ C P := o.wp X ρ C fun t C1 => isC t fun n => objAt C1 n fun c ss => posN f (attrs c) 0 fun i => getW ss i fun x => isI x fun a => e.wp X ρ C1 fun s C2 => isI s fun b => objAt C2 n fun c' ss' => chk (Nat.beq c' c) (putW (.d (.int (cond pl (a + b) (a - b)))) ss' i fun ss2 => setK C2 n (.obj c' ss2) fun C3 => P.N ρ C3)
  ok w h q := o.ok w h fun v H1 s1 α1 C1 t1 r1 c1 p1 => by
    obtain ⟨n, p, rfl, hp, rfl, p1⟩ := isC_of c1 p1
    obtain ⟨c, ss, hc, p1⟩ := objAt_of p1
    obtain ⟨dx, xs, h1, h2, h3, h4⟩ := obj_at r1 hp hc
    obtain ⟨i, hi, p1⟩ := posN_of p1
    rw [Nat.zero_add] at p1
    obtain ⟨x, hx, p1⟩ := getW_of p1
    obtain ⟨a, rfl, p1⟩ := isI_of p1
    obtain ⟨v, hv, rv⟩ := h2.get1 hx
    have ev := Da.int_inv rv
    subst ev
    refine ⟨p, _, dx, _, _, rfl, h1, h4.1, na_of h4 hi, zl_get (names_nd c) (name_at hi) hv, e.ok (w.to t1 r1) p1 fun u H2 s2 α2 C2 t2 r2 c2 p2 => ?_⟩
    obtain ⟨b, e1, p4⟩ := isI_of p2
    subst e1
    have eu := Da.int_inv c2
    subst eu
    obtain ⟨c', ss', hc', p5⟩ := objAt_of p4
    obtain ⟨hcc, p6⟩ := chk_of p5
    have hcc := Nat.eq_of_beq_eq_true hcc
    subst hcc
    have hp2 := stay t2 hp
    obtain ⟨dx', xs', g1, g2, g3, g4⟩ := obj_at r2 hp2 hc'
    cases pl with
    | true =>
      obtain ⟨ss2, p7, r3, t3⟩ := r2.putO (dx := dx') (y := .int (a + b)) (s := .d (.int (a + b))) hp2 hc' g4 g2 g3 hi (Dq.int _) p6
      have tt := (t1.trans t2).trans t3
      exact ⟨a, b, rfl, rfl, dx', _, g1, zip_few, q.nx _ _ _ α2 _ tt r3 (w.en.to tt) (setK_of p7)⟩
    | false =>
      obtain ⟨ss2, p7, r3, t3⟩ := r2.putO (dx := dx') (y := .int (a - b)) (s := .d (.int (a - b))) hp2 hc' g4 g2 g3 hi (Dq.int _) p6
      have tt := (t1.trans t2).trans t3
      exact ⟨a, b, rfl, rfl, dx', _, g1, zip_few, q.nx _ _ _ α2 _ tt r3 (w.en.to tt) (setK_of p7)⟩
/-! ### a, b = e where a, b are fields of an object -/
def gFld (K : Fg) (to : TE) (f : Str) : TG := fun v σ H Q => to σ H fun x H1 => ∃ a C dx fs, x = .ref a ∧ H1 a = some (.ins C dx fs) ∧ Cls K C ∧ NoAttr K C f ∧ fs.length < 1000 ∧ Q σ (upd H1 a (.ins C dx (putF f v fs)))
theorem pg_fld {X : Cx} {o : Expr} {f : Str} {pos : Pos} {to : TE} (ho : PE X o to)
    (ha : ∀ v, assign (.Attribute o f pos) X.env v = (do
      let ov ← holding [v] (eval o X.env)
      standAt pos.atName
      holding [v, ov] (setAttr ov f v)
      release [v, ov] []) := by intro _; rfl) : PG X (.Attribute o f pos) (gFld X.K to f) := by
  refine ⟨fun pins s σ H v u Q I r h => ?_⟩
  rw [ha]
  refine wpAny_bind (wpAny_holding (thn (ho.run pins s σ H _ I h) fun ov s1 ⟨x, H1, I1, r1, a, C, dx, fs, ex, ea, c, n, l, q1⟩ => ?_))
  subst ex
  obtain rfl : ov = Value.ref a := r1
  refine wpAny_bind (wpAny_standAt (wpAny_bind (wpAny_holding (setattr_ok I1 ea c n l r fun s2 I2 => ?_))))
  exact wpAny_release ⟨σ, _, I2, q1⟩
def gFlds (K : Fg) (i : Nat) : List Nat → TGs
  | [] => gNil
  | f :: fs => gCons (gFld K (tVar i) (an f)) (gFlds K i fs)
def setsW (n : Nat) : List Nat → List PyData → Cs → (Cs → Prop) → Prop
  | f :: fs, d :: ds, C, K => objAt C n fun c ss => posN f (attrs c) 0 fun j => putW (.d d) ss j fun ss' => setK C n (.obj c ss') fun C1 => setsW n fs ds C1 K
  | [], [], C, K => K C
  | _, _, _, _ => False
theorem sets_ok {k : Kx} {B α : List Addr} {i n : Nat} {a : Addr} {σ : L2.St} (hs : σ[i]? = some (some (.ref a))) (ha : α[n]? = some a) : ∀ {fs : List Nat} {ds : List PyData} {C : Cs} {H : Hp} {vs : List V} {K : Cs → Prop} {Q : L2.St → Hp → Prop}, Rep k B α C H → Das k.K (ms B α C) H vs ds → setsW n fs ds C K →
    (∀ H' C', To B α C H α C' H' → Rep k B α C' H' → K C' → Q σ H') → gFlds k.K i fs vs σ H Q
  | [], [], C, H, _, K, Q, r, .nil, h, q => ⟨rfl, q H C r.refl r h⟩
  | [], _ :: _, _, _, _, _, _, _, _, h, _ => False.elim h
  | _ :: _, [], _, _, _, _, _, _, _, h, _ => False.elim h
  | f :: fs, d :: ds, C, H, _, K, Q, r, .cons hd ht, h, q => by
    obtain ⟨c, ss, hc, p2⟩ := objAt_of (show objAt C n _ from h)
    obtain ⟨dx, xs, h1, h2, h3, h4⟩ := obj_at r ha hc
    obtain ⟨j, hj, p2⟩ := posN_of p2
    rw [Nat.zero_add] at p2
    obtain ⟨ss', p3, r3, t3⟩ := r.putO (dx := dx) ha hc h4 h2 h3 hj (s := .d d) hd p2
    refine ⟨_, _, rfl, ⟨.ref a, hs, a, _, dx, _, rfl, h1, h4.1, na_of h4 hj, zip_few, ?_⟩⟩
    exact sets_ok hs ha r3 (dps_ex t3.hid _ _ ht) (setK_of (K := fun C1 => setsW n fs ds C1 K) p3) fun H' C' t' => q H' C' (t3.trans t')
def xsUnpF (i : Nat) (fs : List Nat) (e : XE) : XS where
  ts k W := tAsg (e.te k W) (gTup k.K fs.length (gFlds k.K i fs))
  wp X ρ C P := e.wp X ρ C fun s C1 => tupD s fun ds => chk (Nat.beq ds.length fs.length) (look ρ i fun t => isC t fun n => setsW n fs ds C1 fun C2 => P.N ρ C2)
  ok w h q := e.ok w h fun v H1 s α1 C1 t1 r1 c1 p1 => by
    cases s with
    | v x => exact False.elim p1
    | c n => exact False.elim p1
    | d x =>
      cases x <;> try exact False.elim p1
      obtain ⟨hl, p1⟩ := chk_of p1
      have hl := Nat.eq_of_beq_eq_true hl
      obtain ⟨p, xs, rfl, hp, hx⟩ := Da.tup_inv c1
      obtain ⟨t, h1, h2⟩ := look_get p1
      obtain ⟨v, e1, rv⟩ := (w.en.to t1).2 i t h1
      obtain ⟨n, a, rfl, ha, rfl, p2⟩ := isC_of rv h2
      exact ⟨p, xs, rfl, hid_t hp, (Das.len hx).trans hl, sets_ok e1 ha r1 hx p2 fun H' C' t' r' p' => q.nx _ _ _ α1 _ (t1.trans t') r' (w.en.to (t1.trans t')) p'⟩
/-! ### methods, making -/
section
variable {X : Cx} {CX : CXT} {k : Nat} {f C : Addr} {fd : FuncData} {ps : List Str} {sp : Sp} {dvs : List V} {ds : List Value} {E : XK} {x m : Str} {p pos apos : Pos} {e o : Expr} {es : List Expr} {ta : TE} {t : TA}
theorem pe_methG {pl : Sem Bool} (he : PE X o ta) (c : Cls X.K C) (hm : Meth X.K C m f) (F : FnG X.prog X.w X.K X.mg X.base CX k f fd ps sp) (hG : X.A.guards = some []) (hr : Room k X.A) (hb : Binds X.K fd ps ds) (hd : Vals dvs ds) (hx : Passes CX X E) (ha : PA X (e :: es) t)
    (hst : starEach (e :: es) X.env = (false, eval e X.env) :: starEach es X.env := by rfl) (hpl : (backTo pos (starEach es X.env)).any (·.1) = false := by rfl)
    (ht : eval (.Call (.Attribute o m apos) (e :: es) [] pos) X.env = (do
      let ov ← eval o X.env
      standAt apos.atName
      let (f, first) ← holding [ov] (getMethod ov m pl)
      callWith pos f first (backTo pos (starEach (e :: es) X.env)) (backToKw pos (keywordEach [] X.env))) := by rfl) :
    PE X (.Call (.Attribute o m apos) (e :: es) [] pos) (tMeth C m sp dvs E ta t) := by
  refine ⟨fun pins s σ H Q I h => ?_⟩
  refine PySem.W.methodCall_KW (pl := pl) (thn (he.run pins s σ H _ I h) fun u s1 ⟨x, H1, I1, rx, a, dx, fs, ex, ea, l, q⟩ => ?_) ht
  subst ex
  obtain rfl : u = Value.ref a := rx
  refine getmeth_ok I1 ea c hm l ?_
  refine PySem.W.callWith_K (first := [.ref a]) (h₀ := X.base) I1.ok.mod.kin hm.kp (thn (ha.run pos pins s1 σ H1 _ I1 q) fun us s2 ⟨vs, H2, I2, r, q2⟩ => ⟨I2.kIn, ?_⟩) hst hpl
  exact runG (us := .ref a :: us) (vs := .ref a :: vs) F hG hr hb hd hx I2 (.cons rfl r) q2
theorem pe_methG0 {pl : Sem Bool} (he : PE X o ta) (c : Cls X.K C) (hm : Meth X.K C m f) (F : FnG X.prog X.w X.K X.mg X.base CX k f fd ps sp) (hG : X.A.guards = some []) (hr : Room k X.A) (hb : Binds X.K fd ps ds) (hd : Vals dvs ds) (hx : Passes CX X E)
    (ht : eval (.Call (.Attribute o m apos) [] [] pos) X.env = (do
      let ov ← eval o X.env
      standAt apos.atName
      let (f, first) ← holding [ov] (getMethod ov m pl)
      callWith pos f first (backTo pos (starEach [] X.env)) (backToKw pos (keywordEach [] X.env))) := by rfl) :
    PE X (.Call (.Attribute o m apos) [] [] pos) (tMeth C m sp dvs E ta tNil) := by
  refine ⟨fun pins s σ H Q I h => ?_⟩
  refine PySem.W.methodCall_KW (pl := pl) (thn (he.run pins s σ H _ I h) fun u s1 ⟨x, H1, I1, rx, a, dx, fs, ex, ea, l, q⟩ => ?_) ht
  subst ex
  obtain rfl : u = Value.ref a := rx
  refine getmeth_ok I1 ea c hm l ?_
  exact PySem.W.callWith_K0 (first := [.ref a]) I1.kIn hm.kp (runG (us := [.ref a]) (vs := [.ref a]) F hG hr hb hd hx I1 (.cons rfl .nil) q)
theorem run_makeG {pins : List (Addr × Obj)} {σ : L2.St} {H : Hp} {s : Shared} {Q : VK} {us : List Value} {vs : List V} (M : Mk X.K C f) (F : FnG X.prog X.w X.K X.mg X.base CX k f fd ps sp) (hG : X.A.guards = some []) (hr : Room (k + 1) X.A) (hb : Binds X.K fd ps ds) (hd : Vals dvs ds)
    (hx : Passes CX X E) (I : L2.Inv X pins σ H s) (r : Vals vs us)
    (h : ∀ x dx, H x = none → H dx = none → dx ≠ x → sp (.ref x :: (vs ++ dvs)) (upd (upd H dx (.own x)) x (.ins C dx [])) (fun v H2 => v = .non ∧ Q (.ref x) H2) E) :
    wpAny (model X.prog X.w) X.A (call (.ref C) us) (EP X pins σ Q) X.xe s := by
  have hq := h (s.heap.objs.size + 1) s.heap.objs.size (I.hok.fresh (Nat.le_succ _)) (I.hok.fresh (Nat.le_refl _)) (Nat.ne_of_lt (Nat.lt_succ_self _))
  have I2 := Inv.made (C := C) I
  have r2 : Vals (V.ref (s.heap.objs.size + 1) :: (vs ++ dvs)) (Value.ref (s.heap.objs.size + 1) :: (us ++ ds)) := .cons rfl (r.append hd)
  have hl : (Value.ref (s.heap.objs.size + 1) :: us ++ ds).length = ps.length := by
    have e := r2.length
    rw [F.many _ _ _ _ hq] at e
    exact e.symm
  refine wpAny_call (make_map (f := f) I.kIn M.makes M.init (beq_iff_eq.mp M.fn) (codeAny_mono (F.run (X.A.under (.builtin "type.__call__" ⟨.ref C :: us, []⟩)) (show (X.A.under _).guards = some [] from hG) (hr.make C us []) X.stack _ _ (I2.env0.make C us []) ⟨Value.ref (s.heap.objs.size + 1) :: us, []⟩ (Value.ref (s.heap.objs.size + 1) :: (us ++ ds)) _ (hb _ (Value.ref (s.heap.objs.size + 1) :: us) I2.kIn hl) r2 _ E hq) fun r s' hq' => ?_))
  cases r with
  | error e => exact hx pins σ _ _ e s' I2 hq'
  | ok fl =>
    cases fl with
    | ret u =>
      obtain ⟨v, H', I3, rv, ev, q3⟩ := I2.after hq'
      subst ev
      exact ⟨rv, ⟨V.ref (s.heap.objs.size + 1), H', I3, rfl, q3⟩⟩
    | next => exact False.elim hq'
    | brk => exact False.elim hq'
    | cont => exact False.elim hq'
theorem pe_makeG (M : Mk X.K C f) (F : FnG X.prog X.w X.K X.mg X.base CX k f fd ps sp) (hG : X.A.guards = some []) (hr : Room (k + 1) X.A) (hg : Gl X x) (hm : X.mg x = some (.ref C)) (hb : Binds X.K fd ps ds) (hd : Vals dvs ds) (hx : Passes CX X E)
    (ha : PA X (e :: es) t) (hdb : (x == ("__debug__" : Str)) = false := by decide) (he : starEach (e :: es) X.env = (false, eval e X.env) :: starEach es X.env := by rfl) (hpl : (backTo pos (starEach es X.env)).any (·.1) = false := by rfl) :
    PE X (.Call (.Name x p) (e :: es) [] pos) (tMake C sp dvs E t) := by
  refine ⟨fun pins s σ H Q I h => ?_⟩
  refine wpAny_Call_Name_kw (ld_glob I hg hm ?_ hdb)
  refine PySem.W.callWith_K (h₀ := X.base) I.ok.mod.kin M.kp (thn (ha.run pos pins s σ H _ I h) fun us s1 ⟨vs, H1, I1, r, q⟩ => ⟨I1.kIn, ?_⟩) he hpl
  exact run_makeG M F hG hr hb hd hx I1 r q
theorem pe_makeG0 (M : Mk X.K C f) (F : FnG X.prog X.w X.K X.mg X.base CX k f fd ps sp) (hG : X.A.guards = some []) (hr : Room (k + 1) X.A) (hg : Gl X x) (hm : X.mg x = some (.ref C)) (hb : Binds X.K fd ps ds) (hd : Vals dvs ds) (hx : Passes CX X E)
    (hdb : (x == ("__debug__" : Str)) = false := by decide) : PE X (.Call (.Name x p) [] [] pos) (tMake C sp dvs E tNil) := by
  refine ⟨fun pins s σ H Q I h => ?_⟩
  refine wpAny_Call_Name_kw (ld_glob I hg hm ?_ hdb)
  exact PySem.W.callWith_K0 I.kIn M.kp (run_makeG (us := []) M F hG hr hb hd hx I .nil h)
/-- where it is wanted, a fact may be asked -/
theorem pe_if {p : Prop} {te : TE} (h : PE X e te) (hp : p) : PE X e (fun σ H Q => p → te σ H Q) := ⟨fun pins s σ H Q I z => h.run pins s σ H Q I (z hp)⟩
end
def xMeth (c j : Nat) (A : Pw) (dvs : List V) (dss : List Cv) (hd : ∀ K M H α, Rcs K M H α dvs dss) (a : XE) (b : XA) : XE where
  te k W := tMeth (k.cl c) (mn j) (spW k A) dvs E0 (a.te k W) (b.ta k W)
  wp X ρ C P := a.wp X ρ C fun s C1 => isC s fun n => objAt C1 n fun c' _ => chk (Nat.beq c' c) (b.wp X ρ C1 fun ts C2 => callW A (fun _ _ => False) C2 (s :: (ts ++ dss)) P)
  ok w h q := a.ok w h fun v H1 s α1 C1 t1 r1 c1 p1 => by
    have c0 := c1
    obtain ⟨n, p, rfl, hp, rfl, p1⟩ := isC_of c1 p1
    obtain ⟨c', ss, hc, p3⟩ := objAt_of p1
    obtain ⟨hcc, p4⟩ := chk_of p3
    have hcc := Nat.eq_of_beq_eq_true hcc
    subst hcc
    obtain ⟨dx, xs, h1, h2, h3, h4⟩ := obj_at r1 hp hc
    refine ⟨p, dx, _, rfl, h1, zl_no (mn_no _ j), b.ok (w.to t1 r1) p4 fun vs H2 ts α2 C2 t2 r2 c2 p2 => ?_⟩
    unfold callW at p2
    obtain ⟨f, C0, ss', nd, wk, rv, hA⟩ := p2
    refine ⟨aside _ α2 C2 f, pick f α2, C0, ss', _, _, r2.hand nd wk, ?_, hA, fun v' H' s' α' C' t r c p => ?_, fun _ _ _ _ _ _ _ _ _ z => z.elim⟩
    · exact Rcs.mono (fun a m => (aside_h r2 wk).mp m) ((Rcs.cons (c0.to t2) (c2.app (hd _ _ _ _))).ren (wk_lt r2 wk) rv)
    · obtain ⟨α3, bk⟩ := back r2 nd wk t r
      exact q v' H' _ α3 _ ((t1.trans t2).trans bk.to) bk.rep (bk.val c) p
def nonW (s : Cv) (A : Prop) : Prop := match s with
  | .d .none => A
  | _ => False
theorem nonW_of {s : Cv} {A : Prop} (h : nonW s A) : s = .d .none ∧ A := by
  cases s with
  | d x => cases x <;> first | exact ⟨rfl, h⟩ | exact False.elim h
  | v x => exact False.elim h
  | c n => exact False.elim h
section
variable {k : Kx} {B α : List Addr} {C : Cs} {H : Hp}
/-- a new object -/
theorem Rep.newO (r : Rep k B α C H) {x dx : Addr} {c : Nat} (hk : k.has c) (hx : H x = none) (hd : H dx = none) (ne : dx ≠ x) :
    Rep k B (α ++ [x]) (C ++ [.obj c []]) (upd (upd H dx (.own x)) x (.ins (k.cl c) dx [])) ∧ To B α C H (α ++ [x]) (C ++ [.obj c []]) (upd (upd H dx (.own x)) x (.ins (k.cl c) dx [])) := by
  have x1 : Ex H (upd H dx (.own x)) := Ex.new hd
  have r1 := r.keep x1
  obtain ⟨r2, t2⟩ := r1.more (c := .obj c []) (H' := upd (upd H dx (.own x)) x (.ins (k.cl c) dx [])) rfl (by rw [upd_ne ne.symm]; exact hx) (fun b q => upd_ne q) ⟨_, upd_same⟩ fun t => ⟨dx, [], by rw [upd_same, List.zip_nil_right], .nil, Nat.zero_le _, hk⟩
  exact ⟨r2, (r.ex x1).trans t2⟩
end
def xMake (c : Nat) (A : Pw) (dvs : List V) (dss : List Cv) (hd : ∀ K M H α, Rcs K M H α dvs dss) (b : XA) : XE where
  te k W := fun σ H Q => k.has c → tMake (k.cl c) (spW k A) dvs E0 (b.ta k W) σ H Q
  wp X ρ C P := b.wp X ρ C fun ts C1 => appK (.obj c []) C1 0 fun m C1' => callW A (fun _ _ => False) C1' (.c m :: (ts ++ dss)) fun r C2 => nonW r (P (.c m) C2)
  ok w h q := fun hk => b.ok w h fun vs H1 ts α1 C1 t1 r1 c1 p1 => fun x dx hx hdx ne => by
    obtain ⟨r2, t2⟩ := r1.newO hk hx hdx ne
    have p1 := appK_of p1
    unfold callW at p1
    obtain ⟨f, C0, ss', nd, wk, rv, hA⟩ := p1
    refine ⟨aside _ _ _ f, pick f _, C0, ss', _, _, r2.hand nd wk, ?_, hA, fun v' H' s' α' C' t r c p => ?_, fun _ _ _ _ _ _ _ _ _ z => z.elim⟩
    · exact Rcs.mono (fun a m => (aside_h r2 wk).mp m) ((Rcs.cons (Rc.last r1) ((c1.to t2).app (hd _ _ _ _))).ren (wk_lt r2 wk) rv)
    · obtain ⟨α3, bk⟩ := back r2 nd wk t r
      obtain ⟨es, p⟩ := nonW_of p
      have bv := bk.val c
      rw [es] at bv
      refine ⟨Da.non_inv bv, q (.ref x) H' (.c C1.length) α3 _ ((t1.trans t2).trans bk.to) bk.rep ?_ p⟩
      exact ⟨x, stay bk.to (by rw [← r1.len, List.getElem?_append_right (Nat.le_refl _), Nat.sub_self]; rfl), rfl⟩
/-! ### what each reads -/
theorem r_xFld {k : Kx} {W : WX} (a : XE) (f : Nat) : (xFld a f).te k W = tFld k.K (a.te k W) (an f) := rfl
theorem r_xsFld {k : Kx} {W : WX} (o e : XE) (f : Nat) : (xsFld o e f).ts k W = sFld k.K (o.te k W) (e.te k W) (an f) := rfl
theorem r_xsFldAdd {k : Kx} {W : WX} (o e : XE) (f : Nat) : (xsFldAug true o e f).ts k W = sFldAug k.K (o.te k W) (e.te k W) rAdd (an f) := rfl
theorem r_xsFldSub {k : Kx} {W : WX} (o e : XE) (f : Nat) : (xsFldAug false o e f).ts k W = sFldAug k.K (o.te k W) (e.te k W) rSub (an f) := rfl
theorem r_xsUnpF {k : Kx} {W : WX} (i : Nat) (fs : List Nat) (e : XE) : (xsUnpF i fs e).ts k W = tAsg (e.te k W) (gTup k.K fs.length (gFlds k.K i fs)) := rfl
theorem r_xMeth {k : Kx} {W : WX} (c j : Nat) (A : Pw) (dvs : List V) (dss : List Cv) (hd : ∀ K M H α, Rcs K M H α dvs dss) (a : XE) (b : XA) : (xMeth c j A dvs dss hd a b).te k W = tMeth (k.cl c) (mn j) (spW k A) dvs E0 (a.te k W) (b.ta k W) := rfl
theorem r_xMake {k : Kx} {W : WX} (c : Nat) (A : Pw) (dvs : List V) (dss : List Cv) (hd : ∀ K M H α, Rcs K M H α dvs dss) (b : XA) : (xMake c A dvs dss hd b).te k W = fun σ H Q => k.has c → tMake (k.cl c) (spW k A) dvs E0 (b.ta k W) σ H Q := rfl
end DL
set_option maxRecDepth 100000
namespace DL
open PySem L2 PySem.Spec PyProof.Rows
/-! ### a tuple so many times -/
theorem tuple_mul1 (l : Addr) (items : Array Value) (n : Nat) (sl : Array (Option Value)) (dd : Option Addr) (u : Tok) :
    Meets (Builtin.«tuple.__mul__» ⟨[.ref l, .int 1 u], []⟩) (fun _ R s => s.heap.get? l = some { cls := .type "tuple", dict := dd, data := .seq items n, slots := sl } ∧ R (.ok (.ret (.ref l))) s) :=
  .of_wp fun prog w A R s h => by
    obtain ⟨hp, g, d, tk, os⟩ := s
    obtain ⟨hl, h⟩ := h
    have f1 := AutoSeq1.idx_int
    wp_walk using wpAny_loadPart' hl
    repeat (first
      | (refine wpAny_ite_false (by decide) ?_; wp_walk using wpAny_loadPart' hl)
      | (refine wpAny_ite_true (by simp) ?_; wp_walk using wpAny_loadPart' hl))
    exact ⟨_, rfl, h⟩
def rRepT1 (K : Fg) : R2 := fun x y H Q => ∃ l xs, x = .ref l ∧ y = .int 1 ∧ SqT K H l xs ∧ xs ≠ [] ∧ Q (.ref l) H
section
variable {X : Cx}
theorem op_repT1 : OpR X (binaryOp .Mult) (rRepT1 X.K) := by
  intro pins s σ H x y v u Q I rx ry h
  obtain ⟨l, xs, rfl, rfl, hT, hne, q⟩ := h
  cases rx
  obtain ⟨t, rfl⟩ := ry
  obtain ⟨its, r, ⟨⟨cls, dd, data, sl⟩, ho, hc, n, hd⟩, hs⟩ := I.tuple hT
  simp only at hc hd
  subst hc hd
  refine wpAny_binaryOp_repeat_ref (T := "tuple") (U := "int") (by decide) ⟨_, ho, rfl⟩ (fun s' => typeIs_int s' 1 t) noFill_tuple_mul PySem.F.fills_int_mul PySem.F.slot_int_rmul repeat_tuple PySem.F.slot_int_index.lookup
    (call_meets PySem.F.slot_int_rmul (typeIs_int s 1 t) PySem.F.entry_int_rmul (PySem.F.args_int_rmul_2 _ _) (int_rmul_tuple 1 t l its.toArray n dd sl)
      ⟨ho, rfl, ⟨_, ho, rfl⟩, call_meets PySem.F.slot_tuple_mul ⟨_, ho, rfl⟩ PySem.F.entry_tuple_mul (PySem.F.args_tuple_mul_2 _ _) (tuple_mul1 l its.toArray n sl dd t) ⟨ho, ?_⟩⟩)
  exact ⟨.ref l, H, I, rfl, q⟩
def TRepD : PyData → PyData → PyData → Prop
  | .tuple a, .int k, z => a ≠ [] ∧ 1 ≤ k ∧ k ≤ 1000 ∧ a.length ≤ 1000 ∧ z = .tuple (List.replicate k.toNat a).flatten
  | _, _, _ => False
theorem op_repTD : OpR X (binaryOp .Mult) (rB X.K TRepD) := by
  intro pins s σ H x y v u Q I rx ry h
  obtain ⟨M, d, e, z, hM, hd, he, g, q⟩ := h
  cases d <;> cases e <;> try exact g.elim
  rename_i ds k
  obtain ⟨g1, g2, g3, g4, rfl⟩ := g
  obtain ⟨a, xs, rfl, ha, hx⟩ := hd.tup_inv
  have e2 := he.int_inv; subst e2
  have hn : xs ≠ [] := fun z => g1 (List.eq_nil_of_length_eq_zero (by rw [← Das.len hx, z]; rfl))
  by_cases k1 : k = 1
  · subst k1
    refine op_repT1 pins s σ H _ _ v u Q I rx ry ⟨a, xs, rfl, rfl, hid_t ha, hn, q _ H (Ex.refl H) ?_⟩
    show Da _ _ _ _ (.tuple (List.replicate 1 ds).flatten)
    rw [List.replicate_one, List.flatten_singleton]
    exact Dq.tup ha hx
  · refine op_repT pins s σ H _ _ v u Q I rx ry ⟨a, k, xs, rfl, rfl, hid_t ha, hn, by omega, g3, by rw [Das.len hx]; exact g4, fun p hp => q _ _ (Ex.new hp) (Da.new_tup hM hp (Das.rep hx _))⟩
end
instance : Op2 TRepD := ⟨fun d e K => match d, e with
  | .tuple a, .int k => (a ≠ [] ∧ 1 ≤ k ∧ k ≤ 1000 ∧ a.length ≤ 1000) ∧ K (.tuple (List.replicate k.toNat a).flatten)
  | _, _ => False, fun d e K h => by cases d <;> cases e <;> first | exact h.elim | exact ⟨_, ⟨h.1.1, h.1.2.1, h.1.2.2.1, h.1.2.2.2, rfl⟩, h.2⟩⟩
/-! ### dicts of keys that are numbers or texts -/
def putC (es : List (Key × Cv)) (k : Key) (s : Cv) : List (Key × Cv) :=
  if (es.any fun kv => decide (kv.1 = k)) = true then es.map (fun kv => if kv.1 = k then (kv.1, s) else kv) else es ++ [(k, s)]
def mergeC (es fs : List (Key × Cv)) : List (Key × Cv) := fs.foldl (fun acc kv => putC acc kv.1 kv.2) es
def valC (es : List (Key × Cv)) (k : Key) : Option Cv := (es.find? fun kv => decide (kv.1 = k)).map (·.2)
section
variable {K : Fg} {M : Ms} {H : Hp} {α : List Addr}
theorem Rfs.any {vs : List (Key × V)} {es : List (Key × Cv)} (h : Rfs K M H α vs es) (k : Key) : (vs.any fun kv => decide (kv.1 = k)) = es.any fun kv => decide (kv.1 = k) := by
  induction h with
  | nil => rfl
  | cons a t ih => rw [List.any_cons, List.any_cons, ih]
theorem Rfs.app {κ : Type} {vs : List (κ × V)} {es : List (κ × Cv)} (h : Rfs K M H α vs es) {vs' : List (κ × V)} {es' : List (κ × Cv)} (g : Rfs K M H α vs' es') : Rfs K M H α (vs ++ vs') (es ++ es') := by
  induction h with
  | nil => exact g
  | cons a t ih => exact .cons a ih
theorem Rfs.repl {vs : List (Key × V)} {es : List (Key × Cv)} (h : Rfs K M H α vs es) (k : Key) {v : V} {s : Cv} (c : Rc K M H α v s) : Rfs K M H α (vs.map (fun kv => if kv.1 = k then (kv.1, v) else kv)) (es.map (fun kv => if kv.1 = k then (kv.1, s) else kv)) := by
  induction h with
  | nil => exact .nil
  | @cons f u us t ts a tt ih =>
    rw [List.map_cons, List.map_cons]
    dsimp only
    split
    · exact .cons c ih
    · exact .cons a ih
theorem Rfs.put {vs : List (Key × V)} {es : List (Key × Cv)} (h : Rfs K M H α vs es) (k : Key) {v : V} {s : Cv} (c : Rc K M H α v s) : Rfs K M H α (putK vs k v) (putC es k s) := by
  unfold putK putC
  rw [h.any k]
  split
  · exact h.repl k c
  · exact h.app (.cons c .nil)
theorem Rfs.merge {fs : List (Key × Cv)} {us : List (Key × V)} (g : Rfs K M H α us fs) : ∀ {vs : List (Key × V)} {es : List (Key × Cv)}, Rfs K M H α vs es → Rfs K M H α (mergeK vs us) (mergeC es fs) := by
  induction g with
  | nil => intro vs es h; exact h
  | @cons f u us t ts a tt ih => intro vs es h; exact ih (h.put f a)
theorem Rfs.len {κ : Type} {vs : List (κ × V)} {es : List (κ × Cv)} (h : Rfs K M H α vs es) : vs.length = es.length := by
  induction h with
  | nil => rfl
  | cons _ _ ih => rw [List.length_cons, List.length_cons, ih]
theorem valC_cons {f k : Key} {t : Cv} {ts : List (Key × Cv)} : valC ((f, t) :: ts) k = if f = k then some t else valC ts k := by
  unfold valC
  rw [List.find?_cons]
  by_cases e : f = k
  · rw [if_pos e, decide_eq_true e]; rfl
  · rw [if_neg e, decide_eq_false e]
theorem Rfs.val {vs : List (Key × V)} {es : List (Key × Cv)} (h : Rfs K M H α vs es) (k : Key) : (∀ s, valC es k = some s → ∃ v, valV vs k = some v ∧ Rc K M H α v s) ∧ (valC es k = none → valV vs k = none) := by
  induction h with
  | nil => exact ⟨(fun s h => nomatch h), fun _ => rfl⟩
  | @cons f u us t ts a tt ih =>
    rw [valC_cons]
    by_cases e : f = k
    · rw [if_pos e, valV_pos (p := (f, u)) e]
      exact ⟨fun s hs => ⟨u, rfl, (Option.some.inj hs) ▸ a⟩, (fun hs => nomatch hs)⟩
    · rw [if_neg e, valV_neg (p := (f, u)) e]
      exact ih
end
def dkAt (C : Cs) (n : Nat) (K : List (Key × Cv) → Prop) : Prop := match C[n]? with
  | some (.dk es) => K es
  | _ => False
theorem dkAt_of {C : Cs} {n : Nat} {K : List (Key × Cv) → Prop} (h : dkAt C n K) : ∃ es, C[n]? = some (.dk es) ∧ K es := by
  unfold dkAt at h
  cases e : C[n]? with
  | none => rw [e] at h; exact h.elim
  | some x => rw [e] at h; cases x <;> first | exact h.elim | exact ⟨_, rfl, h⟩
section
variable {k : Kx} {B α : List Addr} {C : Cs} {H : Hp}
/-- what was kept aside becomes a cell -/
theorem Rep.adopt {D : Addr} (r : Rep k (D :: B) α C H) (nB : D ∉ B) {c : Cell} (hf : c.isF = false) (hc : Em (D :: B) α C H B (α ++ [D]) (C ++ [c]) H → CellAt k (ms B (α ++ [D]) (C ++ [c])) H (α ++ [D]) D c) : Rep k B (α ++ [D]) (C ++ [c]) H := by
  have nα : D ∉ α := fun m => r.nb D m List.mem_cons_self
  have lv : live (α ++ [D]) (C ++ [c]) = live α C ++ [D] := by
    rw [live_app r.len, live_cons, if_neg (by rw [hf]; exact Bool.false_ne_true)]; rfl
  have hh : ∀ a, a ∈ (ms B (α ++ [D]) (C ++ [c])).h ↔ a ∈ (ms (D :: B) α C).h := fun a => by
    rw [ms_h_bg, ms_h, ms_h, lv, List.mem_append, List.mem_singleton]
    constructor
    · rintro ((h | h) | h)
      · exact .inr (.inl h)
      · exact .inl h
      · exact .inr (.inr h)
    · rintro (h | h | h)
      · exact .inl (.inr h)
      · exact .inl (.inl h)
      · exact .inr h
  have em : Em (D :: B) α C H B (α ++ [D]) (C ++ [c]) H := ⟨hid_mono (fun a m => (hh a).mp m) H, [D], rfl⟩
  refine ⟨by simp [r.len], List.nodup_append.mpr ⟨r.nd, by simp, fun a m b m' => by rw [List.mem_singleton.mp m']; exact fun z => nα (z ▸ m)⟩, fun a m => ?_, fun a m => r.md a ((hh a).mp m), fun j b cc q1 q2 => ?_⟩
  · rcases List.mem_append.mp m with m | m
    · exact fun z => r.nb a m (List.mem_cons_of_mem _ z)
    · rw [List.mem_singleton.mp m]; exact nB
  · by_cases hj : j < α.length
    · rw [List.getElem?_append_left hj] at q1
      rw [List.getElem?_append_left (by rw [← r.len]; exact hj)] at q2
      exact (r.at_ j b cc q1 q2).em em rfl fun f m => r.frz_not q1 q2 f ((hh b).mp m)
    · have hj2 : j = α.length := by
        have := (List.getElem?_eq_some_iff.mp q1).1
        simp at this; omega
      subst hj2
      rw [List.getElem?_append_right (Nat.le_refl _), Nat.sub_self] at q1
      rw [r.len, List.getElem?_append_right (Nat.le_refl _), Nat.sub_self] at q2
      cases q1
      cases q2
      exact hc em
theorem To.adopt {α0 : List Addr} {C0 : Cs} {H0 : Hp} {D : Addr} {c : Cell} (t : To B α0 C0 H0 α C H) (r : Rep k (D :: B) α C H) (hf : c.isF = false) (hD : H0 D = none) : To B α0 C0 H0 (α ++ [D]) (C ++ [c]) H := by
  have lv : live (α ++ [D]) (C ++ [c]) = live α C ++ [D] := by
    rw [live_app r.len, live_cons, if_neg (by rw [hf]; exact Bool.false_ne_true)]; rfl
  refine ⟨⟨fun a m => ?_, t.st.go, fun a m => ?_⟩, ?_⟩
  · rcases ms_h.mp m with m | m
    · rw [lv] at m
      rcases List.mem_append.mp m with m | m
      · exact t.st.md a (ms_h.mpr (.inl m))
      · rw [List.mem_singleton.mp m]; exact r.md D (ms_h.mpr (.inr List.mem_cons_self))
    · exact t.st.md a (ms_h.mpr (.inr m))
  · have m : a ∈ live (α ++ [D]) (C ++ [c]) := m
    rw [lv] at m
    rcases List.mem_append.mp m with m | m
    · exact t.st.nw a m
    · exact .inr (by rw [List.mem_singleton.mp m]; exact hD)
  · obtain ⟨f, hf', hn⟩ := t.ex
    exact ⟨f ++ [D], by rw [hf', List.append_assoc], fun a m => by
      rcases List.mem_append.mp m with m | m
      · exact hn a m
      · rw [List.mem_singleton.mp m]; exact hD⟩
theorem Rep.dkOf (r : Rep k B α C H) {n : Nat} {a : Addr} {es : List (Key × Cv)} (ha : α[n]? = some a) (hc : C[n]? = some (.dk es)) : ∃ vs, H a = some (.dK vs) ∧ Rfs k.K (ms B α C) H α vs es ∧ vs.length ≤ 100000 := r.at_ n a _ ha hc
theorem Rep.putD (r : Rep k B α C H) {n : Nat} {a : Addr} {es fs : List (Key × Cv)} {us : List (Key × V)} (ha : α[n]? = some a) (hc : C[n]? = some (.dk es)) (h : Rfs k.K (ms B α C) H α us fs) (hl : us.length ≤ 100000) :
    Rep k B α (C.set n (.dk fs)) (upd H a (.dK us)) ∧ To B α C H α (C.set n (.dk fs)) (upd H a (.dK us)) :=
  r.put ha hc rfl rfl (fun b q => upd_ne q) ⟨_, upd_same⟩ fun t => ⟨us, upd_same, h.to t, hl⟩
theorem Rep.newD (r : Rep k B α C H) {p : Addr} {us : List (Key × V)} {fs : List (Key × Cv)} (hp : H p = none) (h : Rfs k.K (ms B α C) H α us fs) (hl : us.length ≤ 100000) :
    Rep k B (α ++ [p]) (C ++ [.dk fs]) (upd H p (.dK us)) ∧ To B α C H (α ++ [p]) (C ++ [.dk fs]) (upd H p (.dK us)) :=
  r.more rfl hp (fun b q => upd_ne q) ⟨_, upd_same⟩ fun t => ⟨us, upd_same, h.to t, hl⟩
end
/-! a display -/
def pairsW : List (Key × XE) → Xp → Rv → Cs → (List (Key × Cv) → Cs → Prop) → Prop
  | [], _, _, C, K => K [] C
  | p :: ps, X, ρ, C, K => p.2.wp X ρ C fun s C1 => pairsW ps X ρ C1 fun ss C2 => K ((p.1, s) :: ss) C2
def pairsT (k : Kx) (W : WX) (ps : List (Key × XE)) : List (TE × TE) := ps.map fun p => (tC (kV p.1), p.2.te k W)
theorem pairs_ok : ∀ (ps : List (Key × XE)) {k B α C H σ ρ W X K} {Q : List (V × V) → Hp → Prop}, Wd k B α C H σ ρ W X → pairsW ps X ρ C K → (∀ vs ss H' α' C', To B α C H α' C' H' → Rep k B α' C' H' → Rfs k.K (ms B α' C') H' α' vs ss → ss.length = ps.length → K ss C' → Q (vs.map fun kv => (kV kv.1, kv.2)) H') → tPairs (pairsT k W ps) σ H Q
  | [], _, _, _, _, _, _, _, _, _, _, _, w, h, q => q [] [] _ _ _ w.rep.refl w.rep .nil rfl h
  | p :: ps, _, _, _, _, _, _, _, _, _, _, _, w, h, q => p.2.ok w h fun v H1 s α1 C1 t1 r1 c1 p1 => pairs_ok ps (w.to t1 r1) p1 fun vs ss H2 α2 C2 t2 r2 c2 l2 p2 =>
      q ((p.1, v) :: vs) ((p.1, s) :: ss) H2 α2 C2 (t1.trans t2) r2 (.cons (c1.to t2) c2) (by rw [List.length_cons, List.length_cons, l2]) p2
def xDict (ps : List (Key × XE)) : XE where
  te k W := tDisp (pairsT k W ps)
  wp X ρ C P := chk (Nat.ble ps.length 15) (pairsW ps X ρ C fun ss C1 => appK (.dk (mergeC [] ss)) C1 0 fun n C2 => P (.c n) C2)
  ok {k B α C H σ ρ W X P Q} w h q := fun D hD => by
    obtain ⟨hl, h⟩ := chk_of h
    have hl := Nat.le_of_ble_eq_true hl
    have r0 := w.rep.bg (o := .dK []) hD
    have w0 : Wd k (D :: B) α C (upd H D (.dK [])) σ ρ W X := by
      refine ⟨r0, w.en.em (em_bg hD), fun cls d H' x α' C' σ' ρ' t r xa e p => ?_⟩
      have tt : To B α C H α' C' H' := (w.rep.ex (Ex.new hD)).comp t
      exact w.ca cls d H' x α' C' σ' ρ' tt r.unbg (xa.em em_unbg (fun _ _ h => h)) (e.em em_unbg) p
    have nB : D ∉ B := fun m => by obtain ⟨o, ho⟩ := w.rep.md D (ms_h.mpr (.inr m)); rw [hD] at ho; cases ho
    refine pairs_ok ps w0 h fun vs ss H1 α1 C1 t1 r1 c1 l1 p1 => ?_
    have nl : D ∉ live α C := fun m => by obtain ⟨o, ho⟩ := w.rep.md D (ms_h.mpr (.inl m)); rw [hD] at ho; cases ho
    have hD1 : H1 D = some (.dK []) := t1.st.go.1 D _ nl upd_same
    refine ⟨hD1, vs, rfl, by rw [Rfs.len c1, l1]; exact hl, ?_⟩
    have r2 : Rep k (D :: B) α1 C1 (upd H1 D (.dK (mergeK [] vs))) := r1.bgput
    have c2 : Rfs k.K (ms (D :: B) α1 C1) (upd H1 D (.dK (mergeK [] vs))) α1 vs ss := c1.em em_put
    have hm : (mergeK [] vs).length ≤ 100000 := by
      have := length_mergeK vs []
      rw [List.length_nil, Nat.zero_add] at this
      have := Rfs.len c1
      omega
    have r3 := r2.adopt (c := .dk (mergeC [] ss)) nB rfl fun em => ⟨_, upd_same, (c2.em em).merge .nil, hm⟩
    have t2 : To B α C H α1 C1 (upd H1 D (.dK (mergeK [] vs))) := by
      have tb : To B α C H α1 C1 H1 := (w.rep.ex (Ex.new hD)).comp t1
      refine ⟨⟨fun a m => ?_, ⟨fun a o n h => ?_, fun a o h => ?_⟩, fun a m => tb.st.nw a m⟩, tb.ex⟩
      · by_cases qa : a = D
        · subst qa; exact ⟨_, upd_same⟩
        · obtain ⟨o, ho⟩ := tb.st.md a m
          exact ⟨o, by rw [upd_ne qa]; exact ho⟩
      · have qa : a ≠ D := fun z => by rw [z, hD] at h; cases h
        rw [upd_ne qa]; exact tb.st.go.1 a o n h
      · have qa : a ≠ D := fun z => by rw [z, hD] at h; cases h
        obtain ⟨o', ho⟩ := tb.st.go.2 a o h
        exact ⟨o', by rw [upd_ne qa]; exact ho⟩
    exact q (.ref D) _ (.c C1.length) _ _ (t2.adopt r2 rfl hD) r3 (Rc.last r1.unbg) (appK_of p1)
/-- {} -/
def xDict0 : XE where
  te _ _ := tDNewK
  wp X ρ C P := appK (.dk []) C 0 fun n C1 => P (.c n) C1
  ok w h q := fun p hp => by
    obtain ⟨r1, t1⟩ := w.rep.newD (us := []) (fs := []) hp .nil (by decide)
    exact q (.ref p) _ _ _ _ t1 r1 (Rc.last w.rep) (appK_of h)
/-! d.update(e) -/
def rDUpd : V → List V → Hp → VK → Prop := fun x vs H Q => ∃ d b kvs more, x = .ref d ∧ vs = [.ref b] ∧ H d = some (.dK kvs) ∧ H b = some (.dK more) ∧ d ≠ b ∧ kvs.length + more.length ≤ sizeLine ∧ Q .non (upd H d (.dK (mergeK kvs more)))
theorem mt_dupdate {X : Cx} : MtR X "dict.update" rDUpd := by
  intro pins s σ H x vs v us Q I rx rv h
  obtain ⟨d, b, kvs, more, rfl, rfl, hd, hb, ne, hl, q⟩ := h
  cases rx
  obtain ⟨u, rfl, ru⟩ := rv.one
  obtain rfl : u = Value.ref b := ru
  obtain ⟨z1, n1, ws1, k1, d1⟩ := dk_of I.hok hd
  obtain ⟨z2, n2, ws2, k2, d2⟩ := dk_of I.hok hb
  refine call_meetsIn PySem.F.slot_dict_update d1.typeIs PySem.F.entry_dict_update (PySem.F.args_dict_update_2 _ _) (meets_dict_update (mixKind X.prog X.w) d b ne n2)
    ⟨ws1, ws2, d1, d2, by rw [← k1.length, ← k2.length]; exact hl, fun h' hmm _ hs => ?_⟩
  have km : KV (mergeK kvs more) (merged ws1 ws2) := KV.merge k2 k1
  have he : ∃ q, h'.get? d = some q := let ⟨q, _, _, hq, _⟩ := hmm; ⟨q, hq⟩
  have hz : (mergeK kvs more).length ≤ sizeLine := Nat.le_trans (length_mergeK more kvs) hl
  exact ⟨.non, _, d_write I (by rw [hd]; exact True.intro) hs he (dk_new hz n1 km hmm), rfl, q⟩
theorem ty_d {K : Fg} {H : Hp} {a : Addr} {kvs : List (Key × V)} (h : H a = some (.dK kvs)) : tyV K "dict" (.ref a) H := .inr (.inr (.inl ⟨rfl, .inl ⟨kvs, h⟩⟩))
@[irreducible] def updC (es fs : List (Key × Cv)) : List (Key × Cv) := mergeC es fs
theorem updC_eq {es fs : List (Key × Cv)} : updC es fs = mergeC es fs := by unfold updC; rfl
def xDUpd (o a : XE) : XE where
  te k W := tBM k.K "dict" rDUpd (o.te k W) (tCons (a.te k W) tNil)
  wp X ρ C P := o.wp X ρ C fun s C1 => isC s fun n => dkAt C1 n fun _ => a.wp X ρ C1 fun t C2 => isC t fun m => dkAt C2 n fun es => dkAt C2 m fun fs => chk (!Nat.beq n m) (chk (Nat.ble (es.length + fs.length) 100000) (setK C2 n (.dk (updC es fs)) fun C3 => P (.d .none) C3))
  ok w h q := o.ok w h fun v H1 s α1 C1 t1 r1 c1 p1 => by
    obtain ⟨n, p, rfl, hp, rfl, p1⟩ := isC_of c1 p1
    obtain ⟨es0, hc0, p1⟩ := dkAt_of p1
    obtain ⟨vs0, hd0, _, _⟩ := r1.dkOf hp hc0
    refine ⟨ty_d hd0, a.ok (w.to t1 r1) p1 fun u H2 s2 α2 C2 t2 r2 c2 p2 => ?_⟩
    obtain ⟨m, b, rfl, hb, rfl, p2⟩ := isC_of c2 p2
    have hp2 := stay t2 hp
    obtain ⟨es, hc, p2⟩ := dkAt_of p2
    obtain ⟨fs, hf, p2⟩ := dkAt_of p2
    obtain ⟨hnm, p2⟩ := chk_of p2
    obtain ⟨hl, p2⟩ := chk_of p2
    rw [updC_eq] at p2
    have hl := Nat.le_of_ble_eq_true hl
    have hnm : n ≠ m := fun z => by subst z; simp at hnm
    obtain ⟨vs, h1, h2, h3⟩ := r2.dkOf hp2 hc
    obtain ⟨us, g1, g2, g3⟩ := r2.dkOf hb hf
    have ne : p ≠ b := fun z => hnm (nd_ix r2.nd hp2 (z ▸ hb))
    have lz : vs.length + us.length ≤ 100000 := by rw [Rfs.len h2, Rfs.len g2]; exact hl
    obtain ⟨r3, t3⟩ := r2.putD hp2 hc (g2.merge h2) (Nat.le_trans (length_mergeK us vs) lz)
    exact ⟨p, b, vs, us, rfl, rfl, h1, g1, ne, Nat.le_trans lz (by decide), q .non _ (.d .none) α2 _ ((t1.trans t2).trans t3) r3 Dq.non (setK_of p2)⟩
/-! d[k], d[k] = v, k in d, dict(d) -/
def keyW (t : Cv) (K : Key → Prop) : Prop := match t with
  | .d (.str z) => K (.inr z)
  | .d (.int i) => K (.inl i)
  | _ => False
theorem keyW_of {K : Fg} {M : Ms} {H : Hp} {α : List Addr} {v : V} {t : Cv} {Q : Key → Prop} (h : Rc K M H α v t) (q : keyW t Q) : ∃ key, v = kV key ∧ Q key := by
  cases t with
  | d x =>
    cases x <;> first | exact False.elim q | skip
    · exact ⟨.inl _, Da.int_inv h, q⟩
    · exact ⟨.inr _, Da.str_inv h, q⟩
  | v x => exact False.elim q
  | c n => exact False.elim q
def valW (es : List (Key × Cv)) (k : Key) (K : Cv → Prop) : Prop := match valC es k with
  | some s => K s
  | none => False
theorem valW_of {es : List (Key × Cv)} {k : Key} {K : Cv → Prop} (h : valW es k K) : ∃ s, valC es k = some s ∧ K s := by
  unfold valW at h
  cases e : valC es k with
  | none => rw [e] at h; exact h.elim
  | some s => rw [e] at h; exact ⟨s, rfl, h⟩
def xDGet (o a : XE) : XE where
  te k W := tDGet (o.te k W) (a.te k W)
  wp X ρ C P := o.wp X ρ C fun s C1 => isC s fun n => a.wp X ρ C1 fun t C2 => keyW t fun key => dkAt C2 n fun es => valW es key fun u => P u C2
  ok w h q := o.ok w h fun v H1 s α1 C1 t1 r1 c1 p1 => by
    obtain ⟨n, p, rfl, hp, rfl, p1⟩ := isC_of c1 p1
    refine a.ok (w.to t1 r1) p1 fun u H2 t α2 C2 t2 r2 c2 p2 => ?_
    obtain ⟨key, rfl, p2⟩ := keyW_of c2 p2
    obtain ⟨es, hc, p2⟩ := dkAt_of p2
    obtain ⟨y, hy, p2⟩ := valW_of p2
    obtain ⟨vs, h1, h2, h3⟩ := r2.dkOf (stay t2 hp) hc
    obtain ⟨z, hz, rz⟩ := (h2.val key).1 y hy
    refine ⟨p, z, rfl, ?_, q z H2 y α2 C2 (t1.trans t2) r2 rz p2⟩
    have := DGet.k (k := key) h1
    rw [hz] at this
    exact this
def xsDPut (e o a : XE) : XS where
  ts k W := sDPut (o.te k W) (a.te k W) (e.te k W)
  wp X ρ C P := e.wp X ρ C fun s C1 => o.wp X ρ C1 fun t C2 => isC t fun n => a.wp X ρ C2 fun u C3 => keyW u fun key => dkAt C3 n fun es => chk (Nat.blt es.length 100000) (setK C3 n (.dk (putC es key s)) fun C4 => P.N ρ C4)
  ok w h q := e.ok w h fun v H1 s α1 C1 t1 r1 c1 p1 => o.ok (w.to t1 r1) p1 fun u H2 t α2 C2 t2 r2 c2 p2 => by
    obtain ⟨n, p, rfl, hp, rfl, p2⟩ := isC_of c2 p2
    refine a.ok ((w.to t1 r1).to t2 r2) p2 fun z H3 x α3 C3 t3 r3 c3 p3 => ?_
    obtain ⟨key, rfl, p3⟩ := keyW_of c3 p3
    obtain ⟨es, hc, p3⟩ := dkAt_of p3
    obtain ⟨hl, p3⟩ := chk_of p3
    have hl : es.length < 100000 := Nat.le_of_ble_eq_true hl
    have hp3 := stay t3 hp
    obtain ⟨vs, h1, h2, h3⟩ := r3.dkOf hp3 hc
    have lv : vs.length < 100000 := by rw [Rfs.len h2]; exact hl
    obtain ⟨r4, t4⟩ := r3.putD hp3 hc (h2.put key ((c1.to t2).to t3)) (Nat.le_trans (length_putK _ _ _) lv)
    have tt := ((t1.trans t2).trans t3).trans t4
    exact ⟨p, _, rfl, DPut.k h1 (Nat.lt_of_lt_of_le lv (by decide)), q.nx _ _ _ α3 _ tt r4 (w.en.to tt) (setK_of p3)⟩
def xDIn (b : Bool) (a o : XE) : XE where
  te k W := if b then tDIn (a.te k W) (o.te k W) else tDNotIn (a.te k W) (o.te k W)
  wp X ρ C P := a.wp X ρ C fun t C1 => o.wp X ρ C1 fun s C2 => isC s fun n => keyW t fun key => dkAt C2 n fun es => P (.d (.bool (cond b (valC es key).isSome (!(valC es key).isSome)))) C2
  ok {k B α C H σ ρ W X P Q} w h q := by
    have main : ∀ v H1 t α1 C1, To B α C H α1 C1 H1 → Rep k B α1 C1 H1 → Rc k.K (ms B α1 C1) H1 α1 v t → (o.wp X ρ C1 fun s C2 => isC s fun n => keyW t fun key => dkAt C2 n fun es => P (.d (.bool (cond b (valC es key).isSome (!(valC es key).isSome)))) C2) →
        o.te k W σ H1 fun x H2 => ∃ a ov, x = .ref a ∧ DGet H2 a v ov ∧ Q (.bl (cond b ov.isSome (!ov.isSome))) H2 := fun v H1 t α1 C1 t1 r1 c1 p1 => o.ok (w.to t1 r1) p1 fun u H2 s α2 C2 t2 r2 c2 p2 => by
      obtain ⟨n, p, rfl, hp, rfl, p2⟩ := isC_of c2 p2
      obtain ⟨key, rfl, p2⟩ := keyW_of c1 p2
      obtain ⟨es, hc, p2⟩ := dkAt_of p2
      obtain ⟨vs, h1, h2, h3⟩ := r2.dkOf hp hc
      refine ⟨p, _, rfl, DGet.k (k := key) h1, ?_⟩
      have e : (valV vs key).isSome = (valC es key).isSome := by
        have hv := h2.val key
        cases ec : valC es key with
        | none => rw [hv.2 ec]; rfl
        | some y => obtain ⟨z, hz, _⟩ := hv.1 y ec; rw [hz]; rfl
      rw [e]
      exact q _ H2 (.d (.bool _)) α2 C2 (t1.trans t2) r2 (Dq.bl _) p2
    cases b with
    | true => exact a.ok w h fun v H1 t α1 C1 t1 r1 c1 p1 => main v H1 t α1 C1 t1 r1 c1 p1
    | false => exact a.ok w h fun v H1 t α1 C1 t1 r1 c1 p1 => main v H1 t α1 C1 t1 r1 c1 p1
def rDCopy : List V → Hp → VK → Prop := fun vs H Q => ∃ a kvs, vs = [.ref a] ∧ Rd H a (.dK kvs) ∧ ∀ p, H p = none → Q (.ref p) (upd H p (.dK kvs))
theorem call_dcopy {X : Cx} : CallR X (.type "dict") rDCopy := by
  intro pins s σ H xs us Q I rx h
  obtain ⟨a, kvs, rfl, hr, q⟩ := h
  obtain ⟨u, rfl, ru⟩ := rx.one
  obtain rfl : u = Value.ref a := ru
  exact d_copyOf I hr fun p s' hp I' => ⟨.ref p, _, I', rfl, q p hp⟩
def xDCopy (a : XE) : XE where
  te k W := tCB rDCopy (tCons (a.te k W) tNil)
  wp X ρ C P := a.wp X ρ C fun s C1 => isC s fun n => dkAt C1 n fun es => appK (.dk es) C1 0 fun m C2 => P (.c m) C2
  ok w h q := a.ok w h fun v H1 s α1 C1 t1 r1 c1 p1 => by
    obtain ⟨n, p, rfl, hp, rfl, p1⟩ := isC_of c1 p1
    obtain ⟨es, hc, p1⟩ := dkAt_of p1
    obtain ⟨vs, h1, h2, h3⟩ := r1.dkOf hp hc
    refine ⟨p, vs, rfl, .inl h1, fun x hx => ?_⟩
    obtain ⟨r2, t2⟩ := r1.newD hx h2 h3
    exact q (.ref x) _ _ _ _ (t1.trans t2) r2 (Rc.last r1) (appK_of p1)
/-! for k, v in d.items(): a walk over what stays as it is -/
def lkAt (C : Cs) (n : Nat) (K : Lk → List (Key × Cv) → Prop) : Prop := match C[n]? with
  | some (.lk l es) => K l es
  | _ => False
theorem lkAt_of {C : Cs} {n : Nat} {K : Lk → List (Key × Cv) → Prop} (h : lkAt C n K) : ∃ l es, C[n]? = some (.lk l es) ∧ K l es := by
  unfold lkAt at h
  cases e : C[n]? with
  | none => rw [e] at h; exact h.elim
  | some x => rw [e] at h; cases x <;> first | exact h.elim | exact ⟨_, _, rfl, h⟩
def keyD : Key → PyData
  | .inl i => .int i
  | .inr z => .str z
theorem keyD_da {K : Fg} {M : Ms} {H : Hp} (k : Key) : Da K M H (kV k) (keyD k) := by
  cases k with
  | inl i => exact Dq.int i
  | inr z => exact Dq.str z
/-- the values are data -/
def datasO : List (Key × Cv) → Option (List PyData)
  | [] => some []
  | (k, .d x) :: r => (datasO r).map fun ds => .tuple [keyD k, x] :: ds
  | _ :: _ => none
theorem datas_get {K : Fg} {M : Ms} {H : Hp} {α : List Addr} {vs : List (Key × V)} {es : List (Key × Cv)} (h : Rfs K M H α vs es) : ∀ {ds : List PyData}, datasO es = some ds → ds.length = vs.length ∧ ∀ {i : Nat} {d : PyData}, ds[i]? = some d → ∃ k v x, vs[i]? = some (k, v) ∧ d = .tuple [keyD k, x] ∧ Da K M H v x := by
  induction h with
  | nil =>
    intro ds q
    cases q
    exact ⟨rfl, fun {i d} hd => by simp at hd⟩
  | @cons f u us t ts a tt ih =>
    intro ds q
    cases t with
    | v x => cases q
    | c n => cases q
    | d x =>
      have q : (datasO ts).map (fun ds => PyData.tuple [keyD f, x] :: ds) = some ds := q
      cases e : datasO ts with
      | none => rw [e] at q; cases q
      | some ds' =>
        rw [e] at q
        cases q
        obtain ⟨h1, h2⟩ := ih e
        refine ⟨by rw [List.length_cons, List.length_cons, h1], fun {i d} hd => ?_⟩
        cases i with
        | zero => simp at hd; subst hd; exact ⟨f, u, x, rfl, rfl, a⟩
        | succ i =>
          obtain ⟨k, v, x', g1, g2, g3⟩ := h2 (i := i) (d := d) (by simpa using hd)
          exact ⟨k, v, x', by simpa using g1, g2, g3⟩
def datasW (es : List (Key × Cv)) (K : List PyData → Prop) : Prop := match datasO es with
  | some ds => K ds
  | none => False
theorem datasW_of {es : List (Key × Cv)} {K : List PyData → Prop} (h : datasW es K) : ∃ ds, datasO es = some ds ∧ K ds := by
  unfold datasW at h
  cases e : datasO es with
  | none => rw [e] at h; exact h.elim
  | some ds => rw [e] at h; exact ⟨ds, rfl, h⟩
def xiItems (i : Nat) : XI where
  wi k W := iItems (tVar i)
  wp X ρ C P := look ρ i fun s => isC s fun n => lkAt C n fun l es => datasW es fun ds => P (ds.map .d) (fun C' => C'[n]? = some (.lk l es)) C
  ok {k B α C H σ ρ W X P R} w h q := by
    obtain ⟨s, h1, h2⟩ := look_get h
    obtain ⟨v, e1, rv⟩ := w.en.2 i s h1
    obtain ⟨n, a, rfl, ha, rfl, p2⟩ := isC_of rv h2
    obtain ⟨l, es, hc, p3⟩ := lkAt_of p2
    obtain ⟨ds, e4, p4⟩ := datasW_of p3
    have hcell := w.rep.at_ n a _ ha hc
    obtain ⟨g1, g2, g3⟩ := hcell
    refine ⟨.ref a, e1, a, l.od, l.kvs, rfl, g1, q _ _ _ _ _ _ w.rep.refl w.rep p4 fun B' α' C' H' em r' kp => ?_⟩
    have ha' : α'[n]? = some a := by
      obtain ⟨f, rfl⟩ := em.ex
      rw [List.getElem?_append_left (List.getElem?_eq_some_iff.mp ha).1]; exact ha
    obtain ⟨k1, k2, k3⟩ := r'.at_ n a _ ha' kp
    obtain ⟨l1, l2⟩ := datas_get k2 e4
    refine ⟨fun j s hs => ?_, k1, by rw [List.length_map, l1]; exact Nat.le_refl _⟩
    rw [List.getElem?_map] at hs
    cases hd : ds[j]? with
    | none => rw [hd] at hs; cases hs
    | some d =>
      rw [hd] at hs
      cases hs
      obtain ⟨key, v, x, m1, rfl, m3⟩ := l2 hd
      refine ⟨⟨k1, (List.getElem?_eq_some_iff.mp m1).1⟩, fun y H'' hy => ?_⟩
      obtain ⟨T, key', v', z1, rfl, hT, rfl⟩ := hy
      have z2 := z1.symm.trans m1
      cases z2
      exact ⟨Ex.new hT, Da.new_tup r'.md hT (.cons (keyD_da _) (.cons m3 .nil))⟩
/-- a dict is walked: meanwhile it stays as it is -/
def unlkP (n : Nat) (l : Lk) (es : List (Key × Cv)) (P : Pt) : Pt where
  N ρ C := C[n]? = some (.lk l es) ∧ setK C n (.dk es) fun C1 => P.N ρ C1
  R s C := C[n]? = some (.lk l es) ∧ setK C n (.dk es) fun C1 => P.R s C1
  B ρ C := C[n]? = some (.lk l es) ∧ setK C n (.dk es) fun C1 => P.B ρ C1
  C ρ C := C[n]? = some (.lk l es) ∧ setK C n (.dk es) fun C1 => P.C ρ C1
def xsLock (i : Nat) (b : XS) : XS where
  ts k W := tLock (b.ts k W)
  wp X ρ C P := look ρ i fun s => isC s fun n => dkAt C n fun es => ∀ l : Lk, setK C n (.lk l es) fun C1 => b.wp X ρ C1 (unlkP n l es P)
  ok {k B α C H σ ρ W X P D} w h q := by
    obtain ⟨s, h1, h2⟩ := look_get h
    obtain ⟨v, e1, rv⟩ := w.en.2 i s h1
    obtain ⟨n, a, rfl, ha, rfl, p2⟩ := isC_of rv h2
    obtain ⟨es, hc, p3⟩ := dkAt_of p2
    obtain ⟨vs, g1, g2, g3⟩ := w.rep.dkOf ha hc
    refine ⟨a, .dK vs, g1, True.intro, fun od => ?_⟩
    obtain ⟨r1, t1⟩ := w.rep.put (c' := .lk ⟨od, vs⟩ es) (H' := upd H a (.frz od (.dK vs))) ha hc rfl rfl (fun b q => upd_ne q) ⟨_, upd_same⟩ fun t => ⟨upd_same, g2.to t, g3⟩
    have back : ∀ {α' C' H'}, Rep k B α' C' H' → To B α (C.set n (.lk ⟨od, vs⟩ es)) (upd H a (.frz od (.dK vs))) α' C' H' → C'[n]? = some (.lk ⟨od, vs⟩ es) →
        H' a = some (.frz od (.dK vs)) ∧ Rep k B α' (C'.set n (.dk es)) (upd H' a (.dK vs)) ∧ To B α C H α' (C'.set n (.dk es)) (upd H' a (.dK vs)) ∧ To B α' C' H' α' (C'.set n (.dk es)) (upd H' a (.dK vs)) := by
      intro α' C' H' r t hn
      have ha' := stay t ha
      obtain ⟨k1, k2, k3⟩ := r.at_ n a _ ha' hn
      obtain ⟨r2, t2⟩ := r.put (c' := .dk es) (H' := upd H' a (.dK vs)) ha' hn rfl rfl (fun b q => upd_ne q) ⟨_, upd_same⟩ fun t => ⟨vs, upd_same, k2.to t, k3⟩
      exact ⟨k1, r2, (t1.trans t).trans t2, t2⟩
    refine b.ok (w.to t1 r1) (setK_of (K := fun C1 => b.wp X ρ C1 _) (p3 ⟨od, vs⟩)) ⟨?_, ?_, ?_, ?_⟩
    · rintro σ' H' ρ' α' C' t r e ⟨hn, p⟩
      obtain ⟨k1, r2, t2, t3⟩ := back r t hn
      exact ⟨k1, q.nx σ' _ ρ' α' _ t2 r2 (e.to t3) (setK_of p)⟩
    · rintro v H' s α' C' t r c ⟨hn, p⟩
      obtain ⟨k1, r2, t2, t3⟩ := back r t hn
      exact ⟨k1, q.rt v _ s α' _ t2 r2 (c.to t3) (setK_of p)⟩
    · rintro σ' H' ρ' α' C' t r e ⟨hn, p⟩
      obtain ⟨k1, r2, t2, t3⟩ := back r t hn
      exact ⟨k1, q.bk σ' _ ρ' α' _ t2 r2 (e.to t3) (setK_of p)⟩
    · rintro σ' H' ρ' α' C' t r e ⟨hn, p⟩
      obtain ⟨k1, r2, t2, t3⟩ := back r t hn
      exact ⟨k1, q.ct σ' _ ρ' α' _ t2 r2 (e.to t3) (setK_of p)⟩
/-! what the module's top has written: a dict, a tuple -/
def tblW (z : Str) : List (Str × PyData) → (PyData → Prop) → Prop
  | [], _ => False
  | p :: r, K => cnd (decide (p.1 = z)) (K p.2) (tblW z r K)
theorem tblW_of {z : Str} {K : PyData → Prop} : ∀ {tb : List (Str × PyData)}, tblW z tb K → ∃ p ∈ tb, p.1 = z ∧ K p.2
  | [], h => False.elim h
  | p :: r, h => by
    have h : cnd (decide (p.1 = z)) (K p.2) (tblW z r K) := h
    by_cases e : p.1 = z
    · rw [decide_eq_true e] at h
      exact ⟨p, List.mem_cons_self, e, h⟩
    · rw [decide_eq_false e] at h
      obtain ⟨q, m, h1, h2⟩ := tblW_of (tb := r) h
      exact ⟨q, List.mem_cons_of_mem _ m, h1, h2⟩
/-- what is held at an address, whatever is tracked -/
def Kx.holds (k : Kx) (i : Nat) (d : PyData) : Prop := ∀ M H, Da k.K M H (.ref (k.ga i)) d
def Kx.table (k : Kx) (i : Nat) (tb : List (Str × PyData)) : Prop := ∀ p ∈ tb, ∃ v, KDct k.K k.w (k.ga i) p.1 v ∧ ∀ M H, Da k.K M H v p.2
def xGDict (i : Nat) (tb : List (Str × PyData)) (a : XE) : XE where
  te k W := fun σ H Q => k.table i tb → tOp (rIxD k.K k.w) (tC (.ref (k.ga i))) (a.te k W) σ H Q
  wp X ρ C P := a.wp X ρ C fun s C1 => isS s fun z => tblW z tb fun d => P (.d d) C1
  ok w h q := fun hk => a.ok w h fun v H1 s α1 C1 t1 r1 c1 p1 => by
    obtain ⟨z, rfl, p1⟩ := isS_of p1
    have e := Da.str_inv c1
    subst e
    obtain ⟨p, m, e, p2⟩ := tblW_of p1
    obtain ⟨v, kd, dv⟩ := hk p m
    exact ⟨_, _, v, rfl, rfl, e ▸ kd, q v H1 (.d p.2) α1 C1 t1 r1 (dv _ _) p2⟩
def xGlob (i : Nat) (d : PyData) : XE where
  te k W := fun σ H Q => k.holds i d → tC (.ref (k.ga i)) σ H Q
  wp X ρ C P := P (.d d) C
  ok w h q := fun hk => q _ _ (.d d) _ _ w.rep.refl w.rep (hk _ _) h
/-- what is never reached -/
def xsNever : XS where
  ts _ _ := fun _ _ _ => False
  wp _ _ _ _ := False
  ok _ h _ := h.elim
/-! ### what each reads -/
theorem r_xDict {k : Kx} {W : WX} (ps : List (Key × XE)) : (xDict ps).te k W = tDisp (ps.map fun p => (tC (kV p.1), p.2.te k W)) := rfl
theorem r_xDict0 {k : Kx} {W : WX} : xDict0.te k W = tDNewK := rfl
theorem r_xDUpd {k : Kx} {W : WX} (o a : XE) : (xDUpd o a).te k W = tBM k.K "dict" rDUpd (o.te k W) (tCons (a.te k W) tNil) := rfl
theorem r_xDGet {k : Kx} {W : WX} (o a : XE) : (xDGet o a).te k W = tDGet (o.te k W) (a.te k W) := rfl
theorem r_xsDPut {k : Kx} {W : WX} (e o a : XE) : (xsDPut e o a).ts k W = sDPut (o.te k W) (a.te k W) (e.te k W) := rfl
theorem r_xDInT {k : Kx} {W : WX} (a o : XE) : (xDIn true a o).te k W = tDIn (a.te k W) (o.te k W) := rfl
theorem r_xDInF {k : Kx} {W : WX} (a o : XE) : (xDIn false a o).te k W = tDNotIn (a.te k W) (o.te k W) := rfl
theorem r_xDCopy {k : Kx} {W : WX} (a : XE) : (xDCopy a).te k W = tCB rDCopy (tCons (a.te k W) tNil) := rfl
theorem r_xiItems {k : Kx} {W : WX} (i : Nat) : (xiItems i).wi k W = iItems (tVar i) := rfl
theorem r_xsLock {k : Kx} {W : WX} (i : Nat) (b : XS) : (xsLock i b).ts k W = tLock (b.ts k W) := rfl
theorem r_xGDict {k : Kx} {W : WX} (i : Nat) (tb : List (Str × PyData)) (a : XE) : (xGDict i tb a).te k W = fun σ H Q => k.table i tb → tOp (rIxD k.K k.w) (tC (.ref (k.ga i))) (a.te k W) σ H Q := rfl
theorem r_xGlob {k : Kx} {W : WX} (i : Nat) (d : PyData) : (xGlob i d).te k W = fun σ H Q => k.holds i d → tC (.ref (k.ga i)) σ H Q := rfl
theorem r_xsNever {k : Kx} {W : WX} : xsNever.ts k W = fun _ _ _ => False := rfl
end DL
set_option maxRecDepth 100000
namespace DL
open PySem L2
/-! ### defs with defaults -/
section
variable {P : Program} {w : World} {K : Fg} {mg : Str → Option Value} {base : Heap} {CX : CXT} {k : Nat} {f : Addr} {fd : FuncData} {ps : List Str} {sp : Sp}
theorem fngD {x qual : Str} {st : Stmt} {dvs : List V} {N : List Str} (D : FunD K x qual (defArgs st) (defBody st) (defScope st) dvs [] f fd) (S : FnScope N ps (defScope st)) (many : ∀ vs H Q E, sp vs H Q E → vs.length = ps.length)
    (body : ∀ (cdv : Value) (A : Around) (outer : List PySem.Env) (s : Shared) (H : Hp) (vs : List V) (Q : VK) (E : XK), A.guards = some [] → Room k (A.deeper (PyProof.Rows.envOfC qual (defScope st) s.heap.objs.size f cdv)) → sp vs H Q E →
      ∃ t, PSs (cxOf CX P w K mg base N qual (defScope st) f cdv A outer s H E) (defBody st) t ∧ t { nx := fun _ H' => Q .non H', rt := Q } (L2.start N vs) H) : FnG P w K mg base CX (k + 1) f fd ps sp := by
  obtain ⟨oc, od, dV, kV, doc, pm, an, cdv, ct, osl, rfl, lk, hcd, _, _⟩ := D.ex
  constructor
  · exact many
  intro A hg room outer s H e0 args us vs bind vals Q E promise
  have long := many _ _ _ _ promise
  have inK : K.In s.heap := e0.mod.kin.keeps fun b o e => (e0.bs b o e).1
  have lim : s.heap.NoLimit := e0.mod.nolimit.keeps fun b o e => (e0.bs b o e).1
  refine codeAny_call_function room.depth (inK _ _ lk) rfl S.co S.gen rfl (PySem.W.codeRec_of inK hcd) (bind _ _ _ _ ?_)
  have kinds : ∀ y ∈ ps.zip us, (defScope st).names.lookup y.1 = some .local ∨ ((defScope st).names.lookup y.1 = some .cell ∧ ((cellsFrom (s.heap.objs.size + 1) (defScope st).names []).lookup y.1).isSome = true) := by
    rintro ⟨n, v⟩ hy
    exact (S.par n (List.of_mem_zip hy).1).imp id fun q => ⟨q, PySem.W.cellsFrom_some _ _ _ (.inl q)⟩
  refine PySem.wpAny_newFunctionEnv_cells S.kind kinds ?_
  rintro env rfl s1 born
  refine ⟨lim.keeps born.toInCall.keep, codeAny_func ?_⟩
  obtain ⟨t, derived, reads⟩ := body cdv A outer s H vs Q E hg (room.deeper _) promise
  have I : L2.Inv (cxOf CX P w K mg base N qual (defScope st) f cdv A outer s H E) [] (L2.start N vs) H s1 := inv_start S room.hd e0 long vals born
  refine wpAny_mono (derived.run [] s1 (L2.start N vs) H _ I reads) ?_ fun _ _ z => z
  rintro (_ | _ | _ | u) s' z
  · obtain ⟨σ', H', J, q⟩ := z
    exact ⟨.non, H', J.os, J.bare, J.base, J.hok, rfl, q⟩
  · obtain ⟨_, _, _, q⟩ := z; exact q.elim
  · obtain ⟨_, _, _, q⟩ := z; exact q.elim
  · obtain ⟨v, σ', H', J, r, q⟩ := z
    exact ⟨v, H', J.os, J.bare, J.base, J.hok, r, q⟩
end
section
variable {Pr : Program} {w : World} {kx : Kx} {mg : Str → Option Value} {base : Heap}
theorem mk_okWD {x qual : Str} {st : Stmt} {dvs : List V} {f : Addr} {fd : FuncData} {N ps : List Str} {k : Nat} {A : Pw} {b : XS} (F : FunD kx.K x qual (defArgs st) (defBody st) (defScope st) dvs [] f fd) (S : FnScope N ps (defScope st)) (sem : SemW N ps.length A b) (nox : ∀ ss C R X, A ss C R X → A ss C R fun _ _ => False)
    (der : ∀ (cdv : Value) (A' : Around) (outer : List PySem.Env) (s : Shared) (H : Hp) (E : XK), A'.guards = some [] → Room k (A'.deeper (PyProof.Rows.envOfC qual (defScope st) s.heap.objs.size f cdv)) → PSs (cxOf CX0 Pr w kx.K mg base N qual (defScope st) f cdv A' outer s H E).nox (defBody st) (b.ts kx W0)) :
    FnG Pr w kx.K mg base CX0 (k + 1) f fd ps (spW kx A) := by
  refine fngD F S ?_ ?_
  · intro vs H Q E h
    exact (sem_reads sem (W := fun cls d _ H' => E cls d H') h (fun _ _ _ h _ => h)).1
  · intro cdv A' outer s H vs Q E hG hr h
    refine ⟨_, (der cdv A' outer s H E hG hr).nox, ?_⟩
    obtain ⟨B, α, C, ss, R, X, r, c, hA, q, qx⟩ := h
    exact (sem_reads sem (E := fun _ _ _ => False) (W := W0) ⟨B, α, C, ss, R, fun _ _ => False, r, c, nox _ _ _ _ hA, q, fun _ _ _ _ _ _ _ _ _ z => z.elim⟩ (fun _ _ _ z => z.elim)).2
end
/-- a promise that is never asked -/
theorem fng_no {P : Program} {w : World} {kx : Kx} {mg : Str → Option Value} {base : Heap} {k : Nat} {f : Addr} {fd : FuncData} {ps : List Str} {A : Pw} (h : ∀ ss C R X, A ss C R X → False) : FnG P w kx.K mg base CX0 k f fd ps (spW kx A) := by
  have no : ∀ {vs H} {Q : VK} {E : XK}, spW kx A vs H Q E → False := by
    rintro vs H Q E ⟨B, α, C, ss, R, X, r, c, hA, q, qx⟩
    exact h _ _ _ _ hA
  exact ⟨fun vs H Q E z => (no z).elim, fun A g hr outer s H e0 args us vs b v Q E z => (no z).elim⟩
/-! ### the law's call, whatever its classes -/
def spLaw (K : Fg) : Sp := fun vs H Q _ => ∃ (a : Addr) (ns : List Int), vs = [.ref a] ∧ ns.length ≤ 63 ∧ SqL K H a (ns.map V.int) ∧ ∀ H', Q (.bl true) H'
theorem fng_law {P : Program} {w : World} {kx : Kx} {mg : Str → Option Value} {base : Heap} {k : Nat} {f : Addr} {fd : FuncData} {x : Str} (F : FnG P w kx.K mg base CX0 k f fd [x] (spW kx pw_law)) : FnG P w kx.K mg base CX0 k f fd [x] (spLaw kx.K) := by
  have up : ∀ {vs H} {Q : VK} {E : XK}, spLaw kx.K vs H Q E → spW kx pw_law vs H Q E := by
    rintro vs H Q E ⟨a, ns, rfl, hl, hS, q⟩
    obtain ⟨B, α, C, ss, R, X, r, c, hA, q1, q2⟩ := law_startW (kx := kx) hl hS
    exact ⟨B, α, C, ss, R, fun _ _ => False, r, c, hA, fun v H' s α' C' t r' c' hr => by rw [q1 v H' s α' C' t r' c' hr]; exact q H', fun _ _ _ _ _ _ _ _ _ z => z.elim⟩
  exact ⟨fun vs H Q E h => F.many vs H Q E (up h), fun A g hr outer s H e0 args us vs b v Q E h => F.run A g hr outer s H e0 args us vs b v Q E (up h)⟩
end DL
set_option maxRecDepth 100000
namespace DL
open PySem L2
/-! ### a tuple of anything, taken apart at once -/
def xsAsgT (a : XA) (g : XGs) : XS where
  ts k W := tAsg (tTup (a.ta k W)) (gTup k.K g.len (g.tg k))
  wp X ρ C P := a.wp X ρ C fun ss C1 => chk (Nat.beq ss.length g.len) (chk (Nat.ble g.len 1000) (g.wp C1 ss ρ fun ρ1 => P.N ρ1 C1))
  ok w h d := a.ok w h fun vs H1 ss α1 C1 t1 r1 c1 p1 => by
    obtain ⟨hl, p1⟩ := chk_of p1
    obtain ⟨hm, p1⟩ := chk_of p1
    have hl := Nat.eq_of_beq_eq_true hl
    have lv : vs.length = g.len := c1.len.trans hl
    refine ⟨by rw [lv]; exact Nat.le_trans (Nat.le_of_ble_eq_true hm) (by decide), fun p hp => ?_⟩
    have ex : Ex H1 (upd H1 p (.tup vs)) := Ex.new hp
    have t2 := r1.ex ex
    have r2 := r1.keep ex
    exact ⟨p, vs, rfl, Or.inl (Or.inl (by unfold upd; exact if_pos rfl)), lv, g.ok r2 (c1.to t2) (w.en.to (t1.trans t2)) p1 fun σ' ρ' e _ _ q => d.nx σ' _ ρ' α1 C1 (t1.trans t2) r2 e q⟩
theorem r_xsAsgT {k : Kx} {W : WX} (a : XA) (g : XGs) : (xsAsgT a g).ts k W = tAsg (tTup (a.ta k W)) (gTup k.K g.len (g.tg k)) := rfl
/-! ### a list of things that change, item by item -/
def compRr (g : XG) (c : XT) (e : XE) (vs : List Nat) (X : Xp) (keep : Cs → Prop) : List Cv → Rv → Cs → List Cv → (List Cv → Cs → Prop) → Prop
  | [], _, C, acc, P => keep C ∧ P acc C
  | s :: ds, ρ, C, acc, P => keep C ∧ g.wp C s (wipeV ρ vs) fun ρ2 => c.wp X ρ2 C fun b C1 => cnd b (e.wp X ρ2 C1 fun t C2 => compRr g c e vs X keep ds ρ C2 (acc ++ [t]) P) (compRr g c e vs X keep ds ρ C1 acc P)
@[irreducible] def compR (g : XG) (c : XT) (e : XE) (vs : List Nat) (X : Xp) (keep : Cs → Prop) (ds : List Cv) (ρ : Rv) (C : Cs) (acc : List Cv) (U : List Cv → Cs → Prop) : Prop := compRr g c e vs X keep ds ρ C acc U
/-- the walk of a comprehension; U: what becomes of the list at D -/
theorem comp_runR {g : XG} {c : XT} {e : XE} {vs : List Nat} (hv : ∀ i ∈ g.ns, i ∈ vs) {it : XI} {k : Kx} {B α : List Addr} {C : Cs} {H : Hp} {σ : L2.St} {ρ : Rv} {W : WX} {X : Xp} {U : List Cv → Cs → Prop} {Q : VK} (w : Wd k B α C H σ ρ W X)
    (h : it.wp X ρ C fun ds keep C1 => ds.length ≤ 100000 ∧ compR g c e vs X keep ds ρ C1 [] U)
    (q : ∀ D α' C' H' ys acc, H D = none → To B α C H α' C' H' → Rep k (D :: B) α' C' H' → H' D = some (.lst ys) → Rcs k.K (ms (D :: B) α' C') H' α' ys acc → acc.length ≤ 100000 → U acc C' → Q (.ref D) H') :
    tLc (it.wi k W) (g.tg k) (c.tt k W) (e.te k W) vs σ H Q := by
  refine it.ok w h fun J ds keep α1 C1 H1 t1 r1 p1 Y D hD => ?_
  obtain ⟨hz, p1⟩ := p1
  unfold compR at p1
  have hD0 : H D = none := go_back t1.st.go hD
  have w1 := w.to t1 r1
  have r2 : Rep k (D :: B) α1 C1 (upd H1 D (.lst [])) := r1.bg hD
  have x2 : Ex H1 (upd H1 D (.lst [])) := Ex.new hD
  have t2 : To B α C H α1 C1 (upd H1 D (.lst [])) := t1.trans (r1.ex x2)
  have em2 : Em B α1 C1 H1 (D :: B) α1 C1 (upd H1 D (.lst [])) := em_bg hD
  refine ⟨fun i m H' => m = ds.length - i ∧ i ≤ ds.length ∧ ∃ α' C' ys acc, To B α C H α' C' H' ∧ Rep k (D :: B) α' C' H' ∧ Em B α1 C1 H1 (D :: B) α' C' H' ∧ H' D = some (.lst ys) ∧ Rcs k.K (ms (D :: B) α' C') H' α' ys acc ∧ acc.length ≤ i ∧ compRr g c e vs X keep (ds.drop i) ρ C' acc U,
    ⟨ds.length, by simp, Nat.zero_le _, α1, C1, [], [], t2, r2, em2, upd_same, .nil, Nat.le_refl _, p1⟩, ?_⟩
  rintro i m H' ⟨rfl, hi, α', C', ys, acc, t', r', em', hys, dys, hl, f'⟩
  by_cases hlt : i < ds.length
  · have hd := List.getElem?_eq_getElem hlt
    rw [List.drop_eq_getElem_cons hlt] at f'
    obtain ⟨kp, gw⟩ := f'
    obtain ⟨y1, y2⟩ := Y (D :: B) α' C' H' em' r' kp
    obtain ⟨go, yy⟩ := y1 i _ hd
    refine .inr ⟨go, fun H'' => i + 1 ≤ ds.length ∧ ∃ α' C' ys acc, To B α C H α' C' H'' ∧ Rep k (D :: B) α' C' H'' ∧ Em B α1 C1 H1 (D :: B) α' C' H'' ∧ H'' D = some (.lst ys) ∧ Rcs k.K (ms (D :: B) α' C') H'' α' ys acc ∧ acc.length ≤ i + 1 ∧ compRr g c e vs X keep (ds.drop (i + 1)) ρ C' acc U,
      fun H'' z => ⟨ds.length - (i + 1), by omega, rfl, z⟩, fun x H'' hy => ?_⟩
    obtain ⟨xx, cx⟩ := yy x H'' hy
    have tx : To (D :: B) α' C' H' α' C' H'' := r'.ex xx
    have t3 : To B α C H α' C' H'' := t'.comp tx
    have r3 := r'.keep xx
    have en3 : En k (D :: B) α' C' H'' (L2.wipe σ vs) (wipeV ρ vs) := ((w1.en.em em').to tx).wipe vs
    refine g.ok r3 cx en3 gw fun σ3 ρ3 e3 l3 f3 cw => ⟨wipe_back l3 f3 hv, ?_⟩
    have w3 : Wd k (D :: B) α' C' H'' σ3 ρ3 W X := ⟨r3, e3, fun cls d H5 x5 α5 C5 σ5 ρ5 t5 r5 xa5 e5 q5 =>
      w.ca cls d H5 x5 α5 C5 σ5 ρ5 (t3.comp t5) r5.unbg (xa5.em em_unbg (fun _ _ h => h)) (e5.em em_unbg) q5⟩
    refine c.ok w3 cw fun b H4 α4 C4 t4 r4 p4 => ?_
    have em4 : Em B α1 C1 H1 (D :: B) α4 C4 H4 := (em'.trans tx.em).trans t4.em
    have Dn : ∀ {α5 C5 H5 α6 C6 H6}, Rep k (D :: B) α5 C5 H5 → To (D :: B) α5 C5 H5 α6 C6 H6 → H5 D = some (.lst ys) → H6 D = some (.lst ys) := fun {α5 C5 H5 α6 C6 H6} r5 t5 h5 => t5.st.go.1 D _ (fun mm => r5.nb D (live_sub mm) List.mem_cons_self) h5
    have hD4 := Dn r3 t4 (xx D _ hys)
    cases b with
    | true =>
      rw [if_pos rfl]
      refine e.ok (w3.to t4 r4) p4 fun y H5 s5 α5 C5 t5 r5 c5 p5 => ?_
      have hD5 := Dn r4 t5 hD4
      have ll : ys.length ≤ 100000 := by rw [Rcs.len dys]; omega
      have tt : To (D :: B) α' C' H' α5 C5 H5 := (tx.trans t4).trans t5
      refine ⟨ys, hD5, Nat.lt_of_le_of_lt ll (by decide), hlt, α5, C5, ys ++ [y], acc ++ [s5], ?_, r5.bgput, ?_, upd_same, ?_, ?_, p5⟩
      · have tb := t'.comp tt
        have nD : D ∉ live α C := fun mm => by obtain ⟨o, ho⟩ := w.rep.md D (ms_h.mpr (.inl mm)); rw [hD0] at ho; cases ho
        refine ⟨⟨fun a m => ?_, ⟨fun a o n h => ?_, fun a o h => ?_⟩, fun a m => tb.st.nw a m⟩, tb.ex⟩
        · by_cases qa : a = D
          · subst qa; exact ⟨_, upd_same⟩
          · obtain ⟨o, ho⟩ := tb.st.md a m
            exact ⟨o, by rw [upd_ne qa]; exact ho⟩
        · have qa : a ≠ D := fun z => by rw [z, hD0] at h; cases h
          rw [upd_ne qa]; exact tb.st.go.1 a o n h
        · have qa : a ≠ D := fun z => by rw [z, hD0] at h; cases h
          obtain ⟨o', ho⟩ := tb.st.go.2 a o h
          exact ⟨o', by rw [upd_ne qa]; exact ho⟩
      · exact (em'.trans tt.em).trans em_put
      · exact Rcs.em em_put (Rcs.app (dys.to tt) (.cons c5 .nil))
      · rw [List.length_append]; simpa using hl
    | false =>
      rw [if_neg Bool.false_ne_true]
      have tt : To (D :: B) α' C' H' α4 C4 H4 := tx.trans t4
      exact ⟨hlt, α4, C4, ys, acc, t'.comp tt, r4, em'.trans tt.em, hD4, dys.to tt, by omega, p4⟩
  · have ei : i = ds.length := by omega
    subst ei
    rw [List.drop_length] at f'
    obtain ⟨kp, fin⟩ := f'
    obtain ⟨y1, y2⟩ := Y (D :: B) α' C' H' em' r' kp
    exact .inl ⟨y2, q D α' C' H' ys acc hD0 t' r' hys dys (by omega) fin⟩
/-- to be changed -/
def xLcR (it : XI) (g : XG) (c : XT) (e : XE) (vs : List Nat) : XE where
  te k W := tLc (it.wi k W) (g.tg k) (c.tt k W) (e.te k W) vs
  wp X ρ C P := chk (subB g.ns vs) (it.wp X ρ C fun ds keep C1 => ds.length ≤ 100000 ∧ compR g c e vs X keep ds ρ C1 [] fun acc C2 => appK (.rfs acc) C2 0 fun n C3 => P (.c n) C3)
  ok {k B α C H σ ρ W X P Q} w h q := comp_runR (subB_of (chk_of h).1) w (chk_of h).2 fun D α' C' H' ys acc hD t' r' hys dys hl p => by
    have nB : D ∉ B := fun m => by obtain ⟨o, ho⟩ := w.rep.md D (ms_h.mpr (.inr m)); rw [hD] at ho; cases ho
    have nα : D ∉ α' := fun m => r'.nb D m List.mem_cons_self
    have lv : live (α' ++ [D]) (C' ++ [.rfs acc]) = live α' C' ++ [D] := by
      rw [live_app r'.len]
      have e : live [D] [Cell.rfs acc] = if (Cell.rfs acc).isF then live [] [] else D :: live [] [] := by rw [live]
      rw [e]; rfl
    have hh : ∀ a, a ∈ (ms B (α' ++ [D]) (C' ++ [.rfs acc])).h ↔ a ∈ (ms (D :: B) α' C').h := fun a => by
      rw [ms_h_bg, ms_h, ms_h, lv, List.mem_append, List.mem_singleton]
      constructor
      · rintro ((h | h) | h)
        · exact .inr (.inl h)
        · exact .inl h
        · exact .inr (.inr h)
      · rintro (h | h | h)
        · exact .inl (.inr h)
        · exact .inl (.inl h)
        · exact .inr h
    have em : Em (D :: B) α' C' H' B (α' ++ [D]) (C' ++ [.rfs acc]) H' := ⟨hid_mono (fun a m => (hh a).mp m) H', [D], rfl⟩
    have t2 : To B α C H (α' ++ [D]) (C' ++ [.rfs acc]) H' := ⟨⟨fun a m => r'.md a ((hh a).mp m), t'.st.go, fun a m => by
      have m : a ∈ live (α' ++ [D]) (C' ++ [.rfs acc]) := m
      rw [lv] at m
      rcases List.mem_append.mp m with m | m
      · exact t'.st.nw a m
      · exact .inr (by rw [List.mem_singleton.mp m]; exact hD)⟩, by
      obtain ⟨f, hf, hn⟩ := t'.ex
      exact ⟨f ++ [D], by rw [hf, List.append_assoc], fun a m => by
        rcases List.mem_append.mp m with m | m
        · exact hn a m
        · rw [List.mem_singleton.mp m]; exact hD⟩⟩
    have r2 : Rep k B (α' ++ [D]) (C' ++ [.rfs acc]) H' := by
      refine ⟨by simp [r'.len], List.nodup_append.mpr ⟨r'.nd, by simp, fun a m b m' => by rw [List.mem_singleton.mp m']; exact fun z => nα (z ▸ m)⟩, fun a m => ?_, fun a m => r'.md a ((hh a).mp m), fun j b cc q1 q2 => ?_⟩
      · rcases List.mem_append.mp m with m | m
        · exact fun z => r'.nb a m (List.mem_cons_of_mem _ z)
        · rw [List.mem_singleton.mp m]; exact nB
      · by_cases hj : j < α'.length
        · rw [List.getElem?_append_left hj] at q1
          rw [List.getElem?_append_left (by rw [← r'.len]; exact hj)] at q2
          exact (r'.at_ j b cc q1 q2).em em rfl fun f m => r'.frz_not q1 q2 f ((hh b).mp m)
        · have hj2 : j = α'.length := by
            have := (List.getElem?_eq_some_iff.mp q1).1
            simp at this; omega
          subst hj2
          rw [List.getElem?_append_right (Nat.le_refl _), Nat.sub_self] at q1
          rw [r'.len, List.getElem?_append_right (Nat.le_refl _), Nat.sub_self] at q2
          cases q1
          cases q2
          exact ⟨ys, hys, dys.em em⟩
    exact q _ H' (.c C'.length) _ _ t2 r2 (Rc.last r'.unbg) (appK_of p)theorem r_xLcR {k : Kx} {W : WX} (it : XI) (g : XG) (c : XT) (e : XE) (vs : List Nat) : (xLcR it g c e vs).te k W = tLc (it.wi k W) (g.tg k) (c.tt k W) (e.te k W) vs := rfl
/-! ### an item of a list of things that change -/
def rfsAt (C : Cs) (s : Cv) (K : List Cv → Prop) : Prop := match s with
  | .c n => match C[n]? with
    | some (.rfs ss) => K ss
    | _ => False
  | _ => False
theorem rfsAt_of {C : Cs} {s : Cv} {K : List Cv → Prop} (h : rfsAt C s K) : ∃ n ss, s = .c n ∧ C[n]? = some (.rfs ss) ∧ K ss := by
  cases s with
  | d _ => exact h.elim
  | v _ => exact h.elim
  | c n =>
    have h : (match C[n]? with
      | some (.rfs ss) => K ss
      | _ => False) := h
    cases e : C[n]? with
    | none => rw [e] at h; exact h.elim
    | some c =>
      rw [e] at h
      cases c <;> first | exact h.elim | exact ⟨n, _, rfl, e, h⟩
theorem atI_rcs {K : Fg} {M : Ms} {H : Hp} {α : List Addr} {xs : List V} {ss : List Cv} {i : Int} {t : Cv} (h : Rcs K M H α xs ss) (e : atI ss i = some t) : ∃ v, atI xs i = some v ∧ Rc K M H α v t := by
  unfold atI at e ⊢
  rw [h.len]
  cases q : ixN ss.length i with
  | none => rw [q] at e; cases e
  | some j => rw [q] at e; exact h.get1 e
def xIxR (a b : XE) : XE where
  te k W := tOp (rIxL k.K) (a.te k W) (b.te k W)
  wp X ρ C P := a.wp X ρ C fun s C1 => b.wp X ρ C1 fun t C2 => rfsAt C2 s fun ss => isI t fun i => ∃ z, atI ss i = some z ∧ P z C2
  ok w h q := a.ok w h fun v H1 s α1 C1 t1 r1 c1 p1 => b.ok (w.to t1 r1) p1 fun u H2 t α2 C2 t2 r2 c2 p2 => by
    obtain ⟨n, ss, rfl, hn, p2⟩ := rfsAt_of p2
    obtain ⟨i, rfl, z, hz, p2⟩ := isI_of p2
    obtain ⟨ad, g1, rfl⟩ := c1.to t2
    obtain ⟨xs, h1, h2⟩ := r2.at_ n ad _ g1 hn
    obtain ⟨y, hy, hc⟩ := atI_rcs h2 hz
    have e2 := c2.int_inv
    subst e2
    exact ⟨ad, xs, i, y, rfl, rfl, .inl (.inl h1), hy, q y H2 z α2 C2 (t1.trans t2) r2 hc p2⟩
theorem r_xIxR {k : Kx} {W : WX} (a b : XE) : (xIxR a b).te k W = tOp (rIxL k.K) (a.te k W) (b.te k W) := rfl
section
variable {g : XG} {X : Xp} {keep : Cs → Prop} {c : XT} {e : XE} {vs : List Nat}
theorem comp_stR {ds : List Cv} {ρ : Rv} {C : Cs} {U : List Cv → Cs → Prop} {τ : Type} (D : Nat → τ → Cs) (I : Nat → List Cv → τ → Prop) (t0 : τ) (h0 : I 0 [] t0) (hC : C = D 0 t0) (hk : ∀ i acc t, I i acc t → keep (D i t))
    (hs : ∀ (i : Nat) s acc t (K : Option Cv → Cs → Prop), ds[i]? = some s → I i acc t → (∀ o t', I (i + 1) (acc ++ o.toList) t' → K o (D (i + 1) t')) → g.wp (D i t) s (wipeV ρ vs) fun ρ2 => c.wp X ρ2 (D i t) fun b C1 => cnd b (e.wp X ρ2 C1 fun t C2 => K (some t) C2) (K none C1))
    (hd : ∀ acc t, I ds.length acc t → U acc (D ds.length t)) : compR g c e vs X keep ds ρ C [] U := by
  have all : ∀ (es : List Cv) (j : Nat), ds.drop j = es → ∀ acc t, j + es.length = ds.length → I j acc t → compRr g c e vs X keep es ρ (D j t) acc U := by
    intro es
    induction es with
    | nil =>
      intro j hj acc t hl iv
      have : j = ds.length := by simpa using hl
      subst this
      exact ⟨hk _ _ _ iv, hd _ _ iv⟩
    | cons s es ih =>
      intro j hj acc t hl iv
      have hlt : j < ds.length := by rw [List.length_cons] at hl; omega
      rw [List.drop_eq_getElem_cons hlt] at hj
      injection hj with e1 e2
      have h := hs j s acc t (fun o C' => compRr g c e vs X keep es ρ C' (acc ++ o.toList) U) (by rw [← e1]; exact List.getElem?_eq_getElem hlt) iv (fun o t' iv' => ih (j + 1) e2 _ _ (by rw [List.length_cons] at hl; omega) iv')
      simp only [Option.toList_some, Option.toList_none, List.append_nil] at h
      exact ⟨hk _ _ _ iv, h⟩
  unfold compR
  rw [hC]
  exact all ds 0 rfl [] t0 (by simp) h0
/-- the next item of a comprehension whose items are few -/
theorem compR_nil {ρ : Rv} {C : Cs} {acc : List Cv} {U : List Cv → Cs → Prop} (hk : keep C) (h : U acc C) : compR g c e vs X keep [] ρ C acc U := by unfold compR; exact ⟨hk, h⟩
theorem compR_cons {s : Cv} {ds : List Cv} {ρ : Rv} {C : Cs} {acc : List Cv} {U : List Cv → Cs → Prop} (hk : keep C)
    (h : g.wp C s (wipeV ρ vs) fun ρ2 => c.wp X ρ2 C fun b C1 => cnd b (e.wp X ρ2 C1 fun t C2 => compR g c e vs X keep ds ρ C2 (acc ++ [t]) U) (compR g c e vs X keep ds ρ C1 acc U)) : compR g c e vs X keep (s :: ds) ρ C acc U := by
  unfold compR at h ⊢
  exact ⟨hk, h⟩
end
end DL
set_option maxRecDepth 100000
namespace DL
open PySem L2
/-! ### len(x) of an object with a __len__ of its own -/
section
variable {X : Cx} {CX : CXT} {k : Nat} {C f : Addr} {fd : FuncData} {ps : List Str} {sp : Sp} {E : XK}
theorem call_lenOwn (hs : PySem.W.findIn X.K (.ref C) "__len__" = some (some (.ref f))) (hf : PySem.W.isFn X.K (.ref f) = true) (F : FnG X.prog X.w X.K X.mg X.base CX k f fd ps sp) (hG : X.A.guards = some []) (hr : Room (k + 1) X.A) (hb : Binds X.K fd ps []) (hx : Passes CX X E) :
    CallR X (.builtin "len") (fun xs H Q => ∃ a dx fs, xs = [.ref a] ∧ H a = some (.ins C dx fs) ∧ sp [.ref a] H (fun v H' => ∃ n : Int, v = .int n ∧ 0 ≤ n ∧ n < 2 ^ 63 ∧ Q (.int n) H') E) := by
  intro pins s σ H xs us Q I r h
  obtain ⟨a, dx, fs, rfl, ha, h⟩ := h
  obtain ⟨u, rfl, ru⟩ := vals1 r
  obtain rfl : u = Value.ref a := ru
  obtain ⟨mA, J, _⟩ := ins_get I.hok ha
  obtain ⟨od, J, _⟩ := J.look
  refine Calls.call_function_entry kind_len plain_len entry_len (args_len1 _) ?_
  unfold Builtin.«len»
  refine wpAny_bind (m := oneArg "len" _) (wpAny_pure ?_)
  refine wpAny_bind (m := callSpecial? (.ref a) (PySem.Str.ofString "__len__")) (PySem.W.special_fn (args := []) I.kIn J hs (beq_iff_eq.mp hf) ?_)
  have hl : ([Value.ref a] ++ []).length = ps.length := by have := F.many _ _ _ _ h; simpa using this
  have vv : Vals [V.ref a] ([Value.ref a] ++ []) := .cons rfl .nil
  have ran := F.run X.A.in1 hG hr.in1 X.stack s H I.env0.in1 ⟨[.ref a], []⟩ ([.ref a] ++ []) [.ref a] (hb s [.ref a] I.kIn hl) vv _ E h
  refine wpAny_call (codeAny_mono ran ?_)
  rintro (er | _ | _ | _ | u) s' z
  · exact hx pins σ H s er s' I z
  · exact False.elim z
  · exact False.elim z
  · exact False.elim z
  · obtain ⟨v, H', I', rv, n, rfl, n0, n1, q⟩ := I.after z
    obtain ⟨t, rfl⟩ := rv
    refine wpAny_bind (wpAny_holding (wpAny_pure ?_))
    refine wpAny_bind (wpAny_letGo ?_)
    show wpAny _ _ (if n < 0 then _ else _) _ _ _
    rw [if_neg (by omega)]
    show wpAny _ _ (if n ≥ 2 ^ 63 then _ else _) _ _ _
    rw [if_neg (by omega)]
    exact wpAny_bind (wpAny_mkInt (wpAny_pure ⟨_, rfl, .int n, H', I'.tok _, ⟨_, rfl⟩, q⟩))
end
def rLenO (k : Kx) (c : Nat) (A : Pw) : List V → Hp → VK → Prop := fun xs H Q => ∃ a dx fs, xs = [.ref a] ∧ H a = some (.ins (k.cl c) dx fs) ∧ spW k A [.ref a] H (fun v H' => ∃ n : Int, v = .int n ∧ 0 ≤ n ∧ n < 2 ^ 63 ∧ Q (.int n) H') E0
def xLenO (c : Nat) (A : Pw) (a : XE) : XE where
  te k W := tCB (rLenO k c A) (tCons (a.te k W) tNil)
  wp X ρ C P := a.wp X ρ C fun s C1 => isC s fun n => objAt C1 n fun c' _ => chk (Nat.beq c' c) (callW A (fun _ _ => False) C1 [s] fun t C2 => isI t fun i => (0 ≤ i ∧ i < 2 ^ 63) ∧ P (.d (.int i)) C2)
  ok w h q := a.ok w h fun v H1 s α1 C1 t1 r1 c1 p1 => by
    have c0 := c1
    obtain ⟨n, p, rfl, hp, rfl, p1⟩ := isC_of c1 p1
    obtain ⟨c', ss, hc, p3⟩ := objAt_of p1
    obtain ⟨hcc, p4⟩ := chk_of p3
    have hcc := Nat.eq_of_beq_eq_true hcc
    subst hcc
    obtain ⟨dx, xs, h1, h2, h3, h4⟩ := obj_at r1 hp hc
    unfold callW at p4
    obtain ⟨f, C0, ss', nd, wk, rv, hA⟩ := p4
    refine ⟨p, dx, _, rfl, h1, aside _ α1 C1 f, pick f α1, C0, ss', _, _, r1.hand nd wk, ?_, hA, fun v' H' s' α' C' t r c p => ?_, fun _ _ _ _ _ _ _ _ _ z => z.elim⟩
    · exact Rcs.mono (fun a m => (aside_h r1 wk).mp m) ((Rcs.cons c0 .nil).ren (wk_lt r1 wk) rv)
    · obtain ⟨α3, bk⟩ := back r1 nd wk t r
      obtain ⟨i, e, hi, p⟩ := isI_of p
      have bc := bk.val c
      rw [e] at bc
      have e2 := bc.int_inv
      subst e2
      exact ⟨i, rfl, hi.1, hi.2, q _ H' _ α3 _ (t1.trans bk.to) bk.rep bc p⟩
theorem r_xLenO {k : Kx} {W : WX} (c : Nat) (A : Pw) (a : XE) : (xLenO c A a).te k W = tCB (rLenO k c A) (tCons (a.te k W) tNil) := rfl
end DL
set_option maxRecDepth 100000
namespace DL
open PySem L2
/-! ### calls that may raise -/
section
variable {X : Cx} {CX : CXT} {k : Nat} {f C : Addr} {fd : FuncData} {ps : List Str} {sp : Sp} {dvs : List V} {ds : List Value} {E : L2.St → XK} {x m : Str} {p pos apos : Pos} {e o : Expr} {es : List Expr} {ta : TE} {t : TA}
theorem runGS {pins : List (Addr × Obj)} {σ : L2.St} {H : Hp} {s : Shared} {Q : VK} {us : List Value} {vs : List V} (F : FnG X.prog X.w X.K X.mg X.base CX k f fd ps sp) (hG : X.A.guards = some []) (hr : Room k X.A) (hb : Binds X.K fd ps ds) (hd : Vals dvs ds) (hx : PassesAt CX X σ (E σ))
    (I : L2.Inv X pins σ H s) (r : Vals vs us) (h : sp (vs ++ dvs) H Q (E σ)) : wpAny (model X.prog X.w) X.A (call (.ref f) us) (EP X pins σ Q) X.xe s := by
  have both : Vals (vs ++ dvs) (us ++ ds) := r.append hd
  have hl : (us ++ ds).length = ps.length := both.length.symm.trans (F.many _ _ _ _ h)
  have ran := F.run X.A hG hr X.stack s H I.env0 ⟨us, []⟩ (us ++ ds) (vs ++ dvs) (hb s us I.kIn hl) both Q (E σ) h
  refine wpAny_call (codeAny_mono ran ?_)
  rintro (er | _ | _ | _ | u) s' z
  · exact hx pins H s er s' I z
  · exact False.elim z
  · exact False.elim z
  · exact False.elim z
  · exact I.after z
theorem pe_callGS (F : FnG X.prog X.w X.K X.mg X.base CX k f fd ps sp) (hG : X.A.guards = some []) (hr : Room k X.A) (hg : Gl X x) (hm : X.mg x = some (.ref f)) (hk : PySem.W.keepIn X.K (.ref f) = true) (hb : Binds X.K fd ps ds) (hd : Vals dvs ds) (hx : ∀ σ, PassesAt CX X σ (E σ))
    (ha : PA X (e :: es) t) (hdb : (x == ("__debug__" : Str)) = false := by decide) (he : starEach (e :: es) X.env = (false, eval e X.env) :: starEach es X.env := by rfl) (hpl : (backTo pos (starEach es X.env)).any (·.1) = false := by rfl) :
    PE X (.Call (.Name x p) (e :: es) [] pos) (tCallSD sp dvs E t) := by
  refine ⟨fun pins s σ H Q I h => ?_⟩
  refine wpAny_Call_Name_kw (ld_glob I hg hm ?_ hdb)
  refine PySem.W.callWith_K (h₀ := X.base) I.ok.mod.kin hk (thn (ha.run pos pins s σ H _ I h) fun us s1 ⟨vs, H1, I1, r, q⟩ => ⟨I1.kIn, ?_⟩) he hpl
  exact runGS F hG hr hb hd (hx σ) I1 r q
def tMethSD (C : Addr) (m : Str) (sp : Sp) (dvs : List V) (E : L2.St → XK) (ta : TE) (t : TA) : TE := fun σ H Q => ta σ H fun x H1 => ∃ a dx fs, x = .ref a ∧ H1 a = some (.ins C dx fs) ∧ fs.lookup m = none ∧
  t σ H1 fun vs H2 => sp (x :: (vs ++ dvs)) H2 Q (E σ)
theorem pe_methGS {pl : Sem Bool} (he : PE X o ta) (c : Cls X.K C) (hm : Meth X.K C m f) (F : FnG X.prog X.w X.K X.mg X.base CX k f fd ps sp) (hG : X.A.guards = some []) (hr : Room k X.A) (hb : Binds X.K fd ps ds) (hd : Vals dvs ds) (hx : ∀ σ, PassesAt CX X σ (E σ)) (ha : PA X (e :: es) t)
    (hst : starEach (e :: es) X.env = (false, eval e X.env) :: starEach es X.env := by rfl) (hpl : (backTo pos (starEach es X.env)).any (·.1) = false := by rfl)
    (ht : eval (.Call (.Attribute o m apos) (e :: es) [] pos) X.env = (do
      let ov ← eval o X.env
      standAt apos.atName
      let (f, first) ← holding [ov] (getMethod ov m pl)
      callWith pos f first (backTo pos (starEach (e :: es) X.env)) (backToKw pos (keywordEach [] X.env))) := by rfl) :
    PE X (.Call (.Attribute o m apos) (e :: es) [] pos) (tMethSD C m sp dvs E ta t) := by
  refine ⟨fun pins s σ H Q I h => ?_⟩
  refine PySem.W.methodCall_KW (pl := pl) (thn (he.run pins s σ H _ I h) fun u s1 ⟨x, H1, I1, rx, a, dx, fs, ex, ea, l, q⟩ => ?_) ht
  subst ex
  obtain rfl : u = Value.ref a := rx
  refine getmeth_ok I1 ea c hm l ?_
  refine PySem.W.callWith_K (first := [.ref a]) (h₀ := X.base) I1.ok.mod.kin hm.kp (thn (ha.run pos pins s1 σ H1 _ I1 q) fun us s2 ⟨vs, H2, I2, r, q2⟩ => ⟨I2.kIn, ?_⟩) hst hpl
  exact runGS (us := .ref a :: us) (vs := .ref a :: vs) F hG hr hb hd (hx σ) I2 (.cons rfl r) q2
theorem pe_methGS0 {pl : Sem Bool} (he : PE X o ta) (c : Cls X.K C) (hm : Meth X.K C m f) (F : FnG X.prog X.w X.K X.mg X.base CX k f fd ps sp) (hG : X.A.guards = some []) (hr : Room k X.A) (hb : Binds X.K fd ps ds) (hd : Vals dvs ds) (hx : ∀ σ, PassesAt CX X σ (E σ))
    (ht : eval (.Call (.Attribute o m apos) [] [] pos) X.env = (do
      let ov ← eval o X.env
      standAt apos.atName
      let (f, first) ← holding [ov] (getMethod ov m pl)
      callWith pos f first (backTo pos (starEach [] X.env)) (backToKw pos (keywordEach [] X.env))) := by rfl) :
    PE X (.Call (.Attribute o m apos) [] [] pos) (tMethSD C m sp dvs E ta tNil) := by
  refine ⟨fun pins s σ H Q I h => ?_⟩
  refine PySem.W.methodCall_KW (pl := pl) (thn (he.run pins s σ H _ I h) fun u s1 ⟨x, H1, I1, rx, a, dx, fs, ex, ea, l, q⟩ => ?_) ht
  subst ex
  obtain rfl : u = Value.ref a := rx
  refine getmeth_ok I1 ea c hm l ?_
  exact PySem.W.callWith_K0 (first := [.ref a]) I1.kIn hm.kp (runGS (us := [.ref a]) (vs := [.ref a]) F hG hr hb hd (hx σ) I1 (.cons rfl .nil) q)
end
section
variable {k : Kx} {B α α1 : List Addr} {C C1 : Cs} {H H1 : Hp} {σ : L2.St} {ρ : Rv} {W : WX} {X : Xp}
/-- what comes of a call that may raise -/
theorem sp_call (w : Wd k B α C H σ ρ W X) (t1 : To B α C H α1 C1 H1) (r1 : Rep k B α1 C1 H1) {vs : List V} {ss : List Cv} (c1 : Rcs k.K (ms B α1 C1) H1 α1 vs ss) {A : Pw} {P : Cv → Cs → Prop} {Q : VK} (p1 : callW A (fun x C' => X x ρ C') C1 ss P)
    (q : ∀ v H' s α' C', To B α1 C1 H1 α' C' H' → Rep k B α' C' H' → Rc k.K (ms B α' C') H' α' v s → P s C' → Q v H') : spW k A vs H1 Q (WE W σ) := by
  unfold callW at p1
  obtain ⟨f, C0, ss', nd, wk, rv, hA⟩ := p1
  refine ⟨aside _ α1 C1 f, pick f α1, C0, ss', _, _, r1.hand nd wk, ?_, hA, fun v H' s α' C' t r c p => ?_, fun cls d H' x α' C' t r xa p => ?_⟩
  · exact Rcs.mono (fun a m => (aside_h r1 wk).mp m) (c1.ren (wk_lt r1 wk) rv)
  · obtain ⟨α2, bk⟩ := back r1 nd wk t r
    exact q v H' _ α2 _ bk.to bk.rep (bk.val c) p
  · obtain ⟨α2, bk⟩ := back r1 nd wk t r
    exact w.ca cls d H' _ α2 _ σ ρ (t1.trans bk.to) bk.rep (bk.xat xa) (w.en.to (t1.trans bk.to)) p
end
/-- a def that may raise is called -/
def xCallX (A : Pw) (dvs : List V) (dss : List Cv) (hd : ∀ K M H α, Rcs K M H α dvs dss) (a : XA) : XE where
  te k W := tCallSD (spW k A) dvs (WE W) (a.ta k W)
  wp X ρ C P := a.wp X ρ C fun ss C1 => callW A (fun x C' => X x ρ C') C1 (ss ++ dss) P
  ok w h q := a.ok w h fun vs H1 ss α1 C1 t1 r1 c1 p1 => sp_call w t1 r1 (c1.app (hd _ _ _ _)) p1 fun v H' s α' C' t => q v H' s α' C' (t1.trans t)
def xMethX (c j : Nat) (A : Pw) (dvs : List V) (dss : List Cv) (hd : ∀ K M H α, Rcs K M H α dvs dss) (a : XE) (b : XA) : XE where
  te k W := tMethSD (k.cl c) (mn j) (spW k A) dvs (WE W) (a.te k W) (b.ta k W)
  wp X ρ C P := a.wp X ρ C fun s C1 => isC s fun n => objAt C1 n fun c' _ => chk (Nat.beq c' c) (b.wp X ρ C1 fun ts C2 => callW A (fun x C' => X x ρ C') C2 (s :: (ts ++ dss)) P)
  ok w h q := a.ok w h fun v H1 s α1 C1 t1 r1 c1 p1 => by
    have c0 := c1
    obtain ⟨n, p, rfl, hp, rfl, p1⟩ := isC_of c1 p1
    obtain ⟨c', ss, hc, p3⟩ := objAt_of p1
    obtain ⟨hcc, p4⟩ := chk_of p3
    have hcc := Nat.eq_of_beq_eq_true hcc
    subst hcc
    obtain ⟨dx, xs, h1, h2, h3, h4⟩ := obj_at r1 hp hc
    exact ⟨p, dx, _, rfl, h1, zl_no (mn_no _ j), b.ok (w.to t1 r1) p4 fun vs H2 ts α2 C2 t2 r2 c2 p2 => sp_call w (t1.trans t2) r2 (Rcs.cons (c0.to t2) (c2.app (hd _ _ _ _))) p2 fun v H' s α' C' t => q v H' s α' C' ((t1.trans t2).trans t)⟩
/-! ### raise -/
/-- an own exception class without __init__ of its own -/
def xsRaise (cn : Nat) : XS where
  ts k W := fun _ σ H => W (.ref (k.cl cn)) none σ H
  wp X ρ C _ := X ⟨cn, []⟩ ρ C
  ok w h _ := w.ca _ none _ ⟨cn, []⟩ _ _ _ _ w.rep.refl w.rep ⟨rfl, .inl ⟨rfl, rfl⟩⟩ w.en h
/-- what the __init__ of an own exception class promises: one field, as it was handed in -/
def spBad (C : Addr) (f : Str) : Sp := fun vs H Q _ => ∃ a v, vs = [.ref a, v] ∧ H a = some (exo a C none) ∧ ∀ dx, H dx = none → dx ≠ a → Q .non (upd (upd H dx (exd dx [(f, v)])) a (exo a C (some dx)))
/-- an own exception class that keeps what it is made with -/
def tRaiseF (C : Addr) (f : Str) (W : WX) (te : TE) : TS := fun _ σ H => tMkO C (spBad C f) [] (tCons te tNil) σ H fun cls d H' => W cls d σ H'
theorem raise_of {C : Addr} {f : Str} {v : V} {H1 : Hp} {Q : XK} (h : ∀ d, H1 d = none → Q (.ref C) (some d) (upd H1 d (.xd [(f, v)]))) : [v].length ≤ 1000 ∧ ∀ a, H1 a = none → spBad C f (.ref a :: ([v] ++ [])) (upd H1 a (exo a C none))
    (fun v H2 => v = .non ∧ ∃ (d : Addr) (fs : List (Str × V)), H2 a = some (exo a C (some d)) ∧ H2 d = some (exd d fs) ∧ H1 d = none ∧ Q (.ref C) (some d) (upd (del H2 a) d (.xd fs))) (fun _ _ _ => False) := by
  refine ⟨by simp, fun a ha => ⟨a, v, rfl, upd_same, fun dx h1 h2 => ⟨rfl, dx, [(f, v)], upd_same, ?_, ?_, ?_⟩⟩⟩
  · rw [upd_ne h2, upd_same]
  · rw [upd_ne h2] at h1; exact h1
  · have h3 : H1 dx = none := by rw [upd_ne h2] at h1; exact h1
    have e : upd (del (upd (upd (upd H1 a (exo a C none)) dx (exd dx [(f, v)])) a (exo a C (some dx))) a) dx (.xd [(f, v)]) = upd H1 dx (.xd [(f, v)]) := by
      funext b
      by_cases q : b = dx
      · rw [q, upd_same, upd_same]
      · rw [upd_ne q, upd_ne q]
        by_cases q2 : b = a
        · rw [q2, del_same, ha]
        · rw [del_ne q2, upd_ne q2, upd_ne q, upd_ne q2]
    rw [e]
    exact h dx h3
def xsRaiseF (cn : Nat) (f : Str) (a : XE) : XS where
  ts k W := tRaiseF (k.cl cn) f W (a.te k W)
  wp X ρ C _ := a.wp X ρ C fun s C1 => X ⟨cn, [(f, s)]⟩ ρ C1
  ok {k B α C H σ ρ W X P D} w h _ := a.ok w h fun v H1 s α1 C1 t1 r1 c1 p1 => by
    refine raise_of (C := k.cl cn) (f := f) (v := v) (H1 := H1) (Q := fun cls d H' => W cls d σ H') fun d hd => ?_
    have t2 := r1.ex (H' := upd H1 d (.xd [(f, v)])) (Ex.new hd)
    have r2 := r1.keep (H' := upd H1 d (.xd [(f, v)])) (Ex.new hd)
    refine w.ca _ (some d) _ ⟨_, [(f, s)]⟩ α1 C1 _ _ (t1.trans t2) r2 ⟨rfl, .inr ⟨d, [(f, v)], rfl, ?_, .cons (c1.to t2) .nil⟩⟩ (w.en.to (t1.trans t2)) p1
    refine (if_neg ?_).trans upd_same
    exact r1.md.fresh hd
/-! ### a def that may raise keeps its promise -/
section
variable {Pr : Program} {w : World} {kx : Kx} {mg : Str → Option Value} {base : Heap}
theorem mk_okX {x qual : Str} {st : Stmt} {f : Addr} {fd : FuncData} {N ps : List Str} {k : Nat} {A : Pw} {b : XS} (F : Fun kx.K x qual st f fd) (S : FnScope N ps (defScope st)) (sem : SemW N ps.length A b)
    (der : ∀ (cdv : Value) (A' : Around) (outer : List PySem.Env) (s : Shared) (H : Hp) (E : XK) (W : WX), A'.guards = some [] → Room k (A'.deeper (PyProof.Rows.envOfC qual (defScope st) s.heap.objs.size f cdv)) → L2.Takes (cxOf (L2.CX Pr w) Pr w kx.K mg base N qual (defScope st) f cdv A' outer s H E) W → PSs (cxOf (L2.CX Pr w) Pr w kx.K mg base N qual (defScope st) f cdv A' outer s H E) (defBody st) (b.ts kx W)) :
    FnG Pr w kx.K mg base (L2.CX Pr w) (k + 1) f fd ps (spW kx A) := by
  refine fng F S ?_ ?_
  · intro vs H Q E h
    exact (sem_reads sem (W := fun cls d _ H' => E cls d H') h (fun _ _ _ h _ => h)).1
  · intro cdv A' outer s H vs Q E hG hr h
    exact ⟨_, der cdv A' outer s H E (fun cls d _ H' => E cls d H') hG hr (takes_of rfl rfl rfl rfl), (sem_reads sem (W := fun cls d _ H' => E cls d H') h (fun _ _ _ h _ => h)).2⟩
theorem mk_okXD {x qual : Str} {st : Stmt} {dvs : List V} {f : Addr} {fd : FuncData} {N ps : List Str} {k : Nat} {A : Pw} {b : XS} (F : FunD kx.K x qual (defArgs st) (defBody st) (defScope st) dvs [] f fd) (S : FnScope N ps (defScope st)) (sem : SemW N ps.length A b)
    (der : ∀ (cdv : Value) (A' : Around) (outer : List PySem.Env) (s : Shared) (H : Hp) (E : XK) (W : WX), A'.guards = some [] → Room k (A'.deeper (PyProof.Rows.envOfC qual (defScope st) s.heap.objs.size f cdv)) → L2.Takes (cxOf (L2.CX Pr w) Pr w kx.K mg base N qual (defScope st) f cdv A' outer s H E) W → PSs (cxOf (L2.CX Pr w) Pr w kx.K mg base N qual (defScope st) f cdv A' outer s H E) (defBody st) (b.ts kx W)) :
    FnG Pr w kx.K mg base (L2.CX Pr w) (k + 1) f fd ps (spW kx A) := by
  refine fngD F S ?_ ?_
  · intro vs H Q E h
    exact (sem_reads sem (W := fun cls d _ H' => E cls d H') h (fun _ _ _ h _ => h)).1
  · intro cdv A' outer s H vs Q E hG hr h
    exact ⟨_, der cdv A' outer s H E (fun cls d _ H' => E cls d H') hG hr (takes_of rfl rfl rfl rfl), (sem_reads sem (W := fun cls d _ H' => E cls d H') h (fun _ _ _ h _ => h)).2⟩
end
/-! ### try -/
/-- the classes of exceptions by number: 10 all of the program's, 11 BadRule, 12 BadClause, 13 BadRow, 14 NoDay, 15 Idle, 16 NoEntry, 17 NoWare, 18 NoHouse -/
def subX (c d : Nat) : Bool := Nat.beq d 10 || Nat.beq c d
/-- what the program's top says of which class is under which -/
def Kx.cat (k : Kx) (cs : List Nat) (d : Nat) : Prop := ∀ c ∈ cs, PySem.W.exmOne k.K (.ref (k.cl c)) (.ref (k.cl d)) = some (subX c d)
/-- what 'except c as n' wishes of an exception of the body; the caught one is held -/
def wAsV (K : PySem.W.Frag) (c : Value) (i : Nat) (ts : TS) (Wout : WX) (D : Ends) : WX := fun cls d σ H =>
  ∃ b, PySem.W.exmOne K cls c = some b ∧ (b = true → ∀ a, H a = none → ts { D with nx := fun σ' H' => D.nx (σ'.set i none) H', bk := fun σ' H' => D.bk (σ'.set i none) H', ct := fun σ' H' => D.ct (σ'.set i none) H' } (σ.set i (some (.ref a))) (upd H a (ExV cls d a))) ∧
    (b = false → Wout cls d σ H)
/-- the context of an except suite, the exception tracked -/
abbrev hv (X : Cx) (a : Addr) : Cx := X.suite a X.pn
theorem exV_ok {P : Program} {w : World} {H : Hp} {h : Heap} {a : Addr} {cls : Value} {d : Option Addr} {oe : Obj} {vs : Array Value} (e : h.get? a = some oe) (z : Zc cls d oe) (dd : oe.data = .fields vs) : ObjOk P w H h a (ExV cls d a) :=
  ⟨⟨oe, vs, e, z, dd⟩, ⟨oe, e⟩, fun _ _ ⟨o, v, q, r⟩ k => ⟨o, v, k o q, r⟩⟩
/-- a caught exception is tracked from now on -/
theorem Inv.hold {X : Cx} {pins : List (Addr × Obj)} {σ : L2.St} {H : Hp} {s : Shared} {a : Addr} {cls : Value} {d : Option Addr} {oe : Obj} {vs : Array Value} (I : L2.Inv X pins σ H s) (na : H a = none) (n0 : ∀ o, X.s_0.heap.get? a ≠ some o) (e : s.heap.get? a = some oe) (z : Zc cls d oe) (dd : oe.data = .fields vs)
    (nL : a ≠ X.env.locals) (nC : ∀ x, X.env.cells.lookup x ≠ some a) (np : ∀ p ∈ X.pn ++ pins, p.1 ≠ a) : L2.Inv X pins σ (upd H a (ExV cls d a)) s := by
  have ne0 : ∀ b o, X.s_0.heap.get? b = some o → b ≠ a := fun b o h q => n0 o (q ▸ h)
  refine ⟨I.ok, I.os, I.bare, ⟨I.base.keep, I.base.slot, fun b o h n hb => ?_, I.base.there, fun b xs h => ?_, fun b o xs h => ?_, fun b ps h => ?_⟩, I.loc, I.cell, ?_, fun x c h => ?_, fun p hp => ?_, fun b u h => ?_, I.len⟩
  · rw [upd_ne (ne0 b o h)]; exact I.base.free b o h n hb
  · have q := I.base.tups b xs h
    rw [upd_ne (ne_of_none q na)]; exact q
  · have q := I.base.frzs b o xs h
    rw [upd_ne (ne_of_none q na)]; exact q
  · obtain ⟨m, q⟩ := I.base.tbls b ps h
    exact ⟨m, by rw [upd_ne (ne_of_none q na)]; exact q⟩
  · rw [upd_ne (Ne.symm nL)]; exact I.free
  · have q : c ≠ a := fun z => nC x (z ▸ h)
    rw [upd_ne q]; exact I.freeC x c h
  · obtain ⟨h1, h2, h3⟩ := I.pin p hp
    exact ⟨h1, by rw [upd_ne (np p hp)]; exact h2, h3⟩
  · by_cases hb : b = a
    · subst hb
      rw [upd_same] at h
      cases h
      exact exV_ok e z dd
    · rw [upd_ne hb] at h
      exact (I.hok b u h).stay (fun c v _ q => q) (fun c q => by rw [upd_ne (ne_of_none q na)]; exact q) fun c xs q => by rw [upd_ne (ne_of_none q na)]; exact q
section
variable {X : Cx} {pins : List (Addr × Obj)} {σ : L2.St} {H : Hp} {s s' : Shared}
theorem Inv.inSuite (I : L2.Inv X pins σ H s) (a : Addr) : L2.Inv (hv X a) pins σ H s := { I with ok := I.ok.suite a X.pn }
theorem Inv.outSuite {a : Addr} (I : L2.Inv (hv X a) pins σ H s) (ok : X.Ok) : L2.Inv X pins σ H s := { I with ok := ok }
/-- what never stood in the frame's own state is of none of its places -/
theorem Inv.strange {a : Addr} (J : L2.Inv X pins σ H s) (hex : X.ex = []) (no : ∀ o, s.heap.get? a ≠ some o) : (∀ o, X.s_0.heap.get? a ≠ some o) ∧ (∀ y, X.env.cells.lookup y ≠ some a) ∧ ∀ p ∈ X.pn ++ pins, p.1 ≠ a := by
  refine ⟨fun o e => ?_, fun y e => ?_, fun p m e => ?_⟩
  · obtain ⟨o', h⟩ := J.base.there a o e (by rw [hex]; exact List.not_mem_nil)
    exact no _ h
  · obtain ⟨v, o, h, _⟩ := J.cell y a e
    exact no _ h
  · obtain ⟨h, _⟩ := J.pin p m
    rw [e] at h
    exact no _ h
end
section
variable {X : Cx} {x n : Str} {c : Value} {i : Nat} {body suite : List Stmt} {b₀ : Stmt} {np pos pos' : Pos} {tb : WX → TS} {ts : TS} {Wout : WX}
/-- the clause 'except x as n', from a landed exception on -/
theorem clauseV (hs : X.stack = X.env :: X.outer) (hf : X.env.frame = some X.env.locals) (hex : X.ex = []) (hN : X.N.Nodup) (hi : X.N[i]? = some n) (hln : X.env.kindOf n = some .local) (hc : Names X x c) (tk : L2.Takes X Wout) (hsu : ∀ a : Addr, PSs (hv X a) (b₀ :: suite) ts)
    {pins : List (Addr × Obj)} {σ : L2.St} {H : Hp} {D : Ends} {sI s3 : Shared} {a : Addr} {B : Heap} {cls : Value} {d : Option Addr} (ok : X.Ok) (J : L2.Inv X pins σ H sI) (nb : ∀ b o, sI.heap.get? b = some o → b ∉ frs X.stack → B.get? b = some o)
    (up : sI.heap.UpToSlots s3.heap) (fl : HandSPX.FlyingZ B (X.env :: X.outer) a (Zc cls d) s3.heap) (na : H a = none) (os : s3.os = sI.os) (ag : PyProof.Rows.AllBare s3.gens) (wish : wAsV X.K c i ts Wout D cls d σ H) :
    wpAny (model X.prog X.w) X.A (handleBy (.ref a) X.env [.ExceptHandler (some (.Name x np)) (some n) (b₀ :: suite) pos']) (SP X pins D) X.xe s3 := by
  obtain ⟨b, named, yes, no⟩ := wish
  obtain ⟨oe, vs, there, kind, data⟩ := fl.there
  have J3 : L2.Inv X pins σ H s3 := J.landed nb fl.1 up os ag
  have notFrame : a ∉ frs (X.env :: X.outer) := fun m => by
    obtain ⟨_, o, e, nf⟩ := fl.2.2.1.mem m
    rw [there] at e
    cases e
    exact nf _ data
  have strange : ∀ o, sI.heap.get? a ≠ some o := fun o e => by
    have q := nb a o e (by rw [hs]; exact notFrame)
    rw [fl.2.1] at q
    cases q
  obtain ⟨s1, s2, s4⟩ := Inv.strange J hex strange
  have offLocals : a ≠ X.env.locals := fun z => notFrame (List.mem_filterMap.mpr ⟨X.env, List.mem_cons_self, by rw [hf, z]⟩)
  have I3 : L2.Inv (hv X a) pins σ H s3 := Inv.inSuite J3 a
  refine wpAny_handleBy_cons (codeAny_handlers_test ?_) (fun q => by cases q)
  have look : PySem.W.Looks (model X.prog X.w) s3.heap (typeOf (.ref a)) cls := fun A' Q' E' s' kk q => wpAny_typeOf_ref (kk _ _ there) (by rw [kind.1]; exact q)
  have asks := PySem.W.exm_one (M := model X.prog X.w) J3.kIn look named
  have seen : ∀ {Q : Value → Shared → Prop} {E : Value → Shared → Prop}, Q c s3 → wpAny (model X.prog X.w) (X.A.mark (some (.ref a))) (eval (.Name x np) X.env) Q E s3 := fun {Q E} q => by
    rcases hc with ⟨hg, hdbg, hm | ⟨hm, hv', hnn⟩⟩
    · exact ld_glob (X := hv X a) I3 hg hm q hdbg
    · exact ld_blt (X := hv X a) I3 hg hm hv' q hnn hdbg
  refine seen (asks.here ?_)
  cases b with
  | true =>
    refine codeAny_handlers_suite_as (HandSPX.lands_againZ fl fun h4 fl4 up4 => ?_)
    obtain ⟨o4, v4, there4, kind4, data4⟩ := fl4.there
    have J4 : L2.Inv X pins σ H { s3 with heap := h4 } := J.landed nb fl4.1 (up.trans up4) os ag
    have K4 := Inv.inSuite (Inv.hold (cls := cls) (d := d) J4 na s1 there4 kind4 data4 offLocals s2 s4) a
    refine store_ok (X := hv X a) (v := .ref a) K4 hN hi (.inl hln) rfl (fun s5 S5 => ?_) (.inr hln)
    refine wpAny_mono ((hsu a).run pins s5 _ _ _ S5 (yes rfl a na)) ?_ fun _ _ z => False.elim z
    have fin : ∀ {σ6 : L2.St} {H6 : Hp} {s6 : Shared} {Q : Shared → Prop}, L2.Inv (hv X a) pins σ6 H6 s6 → (∀ s7, L2.Inv X pins (σ6.set i none) H6 s7 → Q s7) →
        wpAny (model X.prog X.w) X.A (do bindName X.env n .none; unbindBehindTheSuite X.env n pos') (fun _ s7 => Q s7) X.xe s6 := fun {σ6 H6 s6 Q} S6 hq => gone_ok (Inv.outSuite S6 ok) hN hi hln hq
    rintro (_ | _ | _ | u) s6 z
    · obtain ⟨σ6, H6, S6, q6⟩ := z
      exact fin S6 fun s7 J7 => ⟨_, _, J7, q6⟩
    · obtain ⟨σ6, H6, S6, q6⟩ := z
      exact fin S6 fun s7 J7 => ⟨_, _, J7, q6⟩
    · obtain ⟨σ6, H6, S6, q6⟩ := z
      exact fin S6 fun s7 J7 => ⟨_, _, J7, q6⟩
    · obtain ⟨v6, σ6, H6, S6, r6, q6⟩ := z
      exact fin S6 fun s7 J7 => ⟨_, _, _, J7, r6, q6⟩
  | false =>
    show wpAny _ X.A (handleBy (.ref a) X.env []) _ _ _
    refine wpAny_handleBy_nil ?_
    obtain ⟨k1, k2, k3, oe', vs', T, oT, ts', he, hz, hd, h1, hr⟩ := id fl
    unfold PySem.passOn
    refine wpAny_bind (wpAny_field he hd h1 ?_)
    rw [if_neg (show ¬ ((Value.ref T == Value.none) = true) from by simp)]
    have away : wpAny (model X.prog X.w) X.A (setFlight (.ref a) X.env.frame) (fun _ s4 => wpAny (model X.prog X.w) X.A (throw (.ref a) : Sem Flow) (SP X pins D) X.xe s4) X.xe s3 := by
      rw [hf]
      exact HandSPX.setFlight_upZ fl fun h4 hh4 up4 => wpAny_throw (tk _ _ ⟨a, B, sI, pins, σ, H, cls, d, rfl, J, nb, up.trans up4, .inr (.inr (by rw [hs]; exact hh4)), na, os, ag, no rfl⟩)
    first
      | exact wpAny_bind (wpAny_pure (wpAny_bind away))
      | exact wpAny_bind away
theorem ps_tryV (hs : X.stack = X.env :: X.outer) (hf : X.env.frame = some X.env.locals) (hex : X.ex = []) (hN : X.N.Nodup) (hi : X.N[i]? = some n) (hln : X.env.kindOf n = some .local) (hc : Names X x c) (tk : L2.Takes X Wout)
    (hb : ∀ (W : WX) (pn : List (Addr × Obj)) (xe : Value → Shared → Prop), L2.Takes (X.tr pn xe) W → PassesOwn (model X.prog X.w) X.A X.env xe → PSs (X.tr pn xe) body (tb W)) (hsu : ∀ a : Addr, PSs (hv X a) (b₀ :: suite) ts) :
    PS X (.Try body [.ExceptHandler (some (.Name x np)) (some n) (b₀ :: suite) pos'] [] [] pos) (fun D σ H => tb (wAsV X.K c i ts Wout D) D σ H) := by
  constructor
  intro pins s σ H D I h
  have ok := I.ok
  have hfr : X.A.frames = some (X.env :: X.outer) := ok.frames.trans (by rw [hs])
  refine wpAny_Try_except (wpAny_mono ((hb (wAsV X.K c i ts Wout D) (X.pn ++ pins) _ (fun u s' flown => ?_) PassesOwn.looking).run [] s σ H D (I.toTry _) h) ?_ fun e s1 he => he)
  · obtain ⟨a, B, sI, pins', σ', H', cls, d, rfl, J', nb, up, sky, na, os, ag, wish⟩ := flown
    have sky' : Sky B (X.env :: X.outer) a (Zc cls d) X.env.locals s'.heap := by rw [← hs]; exact sky
    exact Sky.land Zc.steady hfr hf sky' fun h3 fl3 up3 => clauseV (s3 := { s' with heap := h3 }) hs hf hex hN hi hln hc tk hsu ok (J'.ofTry ok) nb (up.trans up3) fl3 na os ag wish
  · rintro (_ | _ | _ | u) s1 z
    · obtain ⟨σ', H', J', q⟩ := z
      exact wpAny_execs_nil ⟨σ', H', J'.ofTry ok, q⟩
    · obtain ⟨σ', H', J', q⟩ := z
      exact ⟨σ', H', J'.ofTry ok, q⟩
    · obtain ⟨σ', H', J', q⟩ := z
      exact ⟨σ', H', J'.ofTry ok, q⟩
    · obtain ⟨v, σ', H', J', r, q⟩ := z
      exact ⟨v, σ', H', J'.ofTry ok, r, q⟩
theorem ps_if0 {X : Cx} {st : Stmt} {p : Prop} {t : TS} (h : PS X st t) (hp : p) : PS X st (fun D σ H => p → t D σ H) := ⟨fun pins s σ H D I z => h.run pins s σ H D I (z hp)⟩
end
def inN (n : Nat) : List Nat → Bool
  | [] => false
  | a :: r => Nat.beq n a || inN n r
theorem inN_mem {n : Nat} : ∀ {l : List Nat}, inN n l = true → n ∈ l
  | [], h => by cases h
  | a :: r, h => by
    rcases (Bool.or_eq_true _ _).mp h with h | h
    · rw [Nat.eq_of_beq_eq_true h]; exact List.mem_cons_self
    · exact List.mem_cons_of_mem _ (inN_mem h)
/-- try: body / except c0 as slot i: suite; cs: the classes that may fly -/
def xsTry (cs : List Nat) (c0 i : Nat) (body suite : XS) : XS where
  ts k W := fun D σ H => k.cat cs c0 → body.ts k (wAsV k.K (.ref (k.cl c0)) i (suite.ts k W0) W D) D σ H
  wp X ρ C P := body.wp (fun x ρ' C' => chk (inN x.cn cs) (cnd (subX x.cn c0) (appK (.exc x.cn x.fs) C' 0 fun m C2 => setK ρ' i (some (.c m)) fun ρ2 =>
    suite.wp (fun _ _ _ => False) ρ2 C2 ⟨fun r c => setK r i none fun r' => P.N r' c, P.R, fun r c => setK r i none fun r' => P.B r' c, fun r c => setK r i none fun r' => P.C r' c⟩) (X x ρ' C'))) ρ C P
  ok {k B α C H σ ρ W X P D} w h q := fun hk => by
    refine body.ok ⟨w.rep, w.en, fun cls d H' x α' C' σ' ρ' t r xa e hx => ?_⟩ h q
    obtain ⟨hin, hx⟩ := chk_of hx
    obtain ⟨ec, xf⟩ := xa
    subst ec
    refine ⟨subX x.cn c0, hk _ (inN_mem hin), fun hb a ha => ?_, fun hb => ?_⟩
    · rw [hb] at hx
      have hx := appK_of (K := fun m C2 => _) (show appK _ C' 0 _ from hx)
      have hx := setK_of (K := fun ρ2 => suite.wp _ ρ2 _ _) hx
      obtain ⟨r2, t2⟩ := r.more (c := .exc x.cn x.fs) (p := a) (H' := upd H' a (ExV (.ref (k.cl x.cn)) d a)) rfl ha (fun b qq => upd_ne qq) ⟨_, upd_same⟩ fun t => ⟨d, upd_same, by
        rcases xf with xf | ⟨dd, vs, g1, g2, g3⟩
        · exact .inl xf
        · exact .inr ⟨dd, vs, g1, t.hid _ _ g2, g3.to t⟩⟩
      have tt := t.trans t2
      have last : Rc k.K (ms B (α' ++ [a]) (C' ++ [.exc x.cn x.fs])) (upd H' a (ExV (.ref (k.cl x.cn)) d a)) (α' ++ [a]) (.ref a) (.c C'.length) := ⟨a, by rw [← r.len, List.getElem?_append_right (Nat.le_refl _), Nat.sub_self]; rfl, rfl⟩
      refine suite.ok (X := fun _ _ _ => False) (W := W0) ⟨r2, (e.to t2).set last, fun _ _ _ _ _ _ _ _ _ _ _ _ z => z.elim⟩ hx ⟨?_, ?_, ?_, ?_⟩
      · intro σ6 H6 ρ6 α6 C6 t6 r6 e6 p6
        exact q.nx _ _ _ _ _ (tt.trans t6) r6 e6.set0 (setK_of (K := fun r' => P.N r' C6) p6)
      · intro v H6 s6 α6 C6 t6 r6 c6 p6
        exact q.rt _ _ _ _ _ (tt.trans t6) r6 c6 p6
      · intro σ6 H6 ρ6 α6 C6 t6 r6 e6 p6
        exact q.bk _ _ _ _ _ (tt.trans t6) r6 e6.set0 (setK_of (K := fun r' => P.B r' C6) p6)
      · intro σ6 H6 ρ6 α6 C6 t6 r6 e6 p6
        exact q.ct _ _ _ _ _ (tt.trans t6) r6 e6.set0 (setK_of (K := fun r' => P.C r' C6) p6)
    · rw [hb] at hx
      exact w.ca _ d H' x α' C' σ' ρ' t r ⟨rfl, xf⟩ e hx
end DL
set_option maxRecDepth 100000
namespace DL
open PySem L2
/-! ### isinstance of a caught exception -/
section
open PySem.W
variable {K : Fg} {D x : Addr}
/-- an exception of the class at D -/
def IsEx (D x : Addr) (h : Heap) : Prop := ∃ ox od, InstAt h x ox D od
theorem find_cls (C : ExcC K D) (od : Option Obj) : findObj K D od "__class__" = some (.bind (.builtin "getset_descriptor.__get__") (.builtin "object.__class__")) := by
  obtain ⟨cd, hc, _⟩ := any_some C.hd
  have hc' : clsIn K D = some cd := hc
  unfold findObj
  rw [hc', Option.bind_some, C.ha, Option.bind_some]
  simp [C.hn, C.ht]
theorem ex_class (C : ExcC K D) {prog : Program} {w : World} {A : Around} {E : Value → Shared → Prop} {s : Shared} {Q : Option Value → Shared → Prop} (X : K.In s.heap) (I : IsEx D x s.heap) (h : Q (some (.ref D)) { s with toks := s.toks + 1 }) : wpAny (model prog w) A (getAttr? (.ref x) "__class__") Q E s := by
  obtain ⟨ox, od, I⟩ := I
  have found := find_cls C od
  obtain ⟨hp, g, d, t, os⟩ := s
  have T0 := I.type (M := model prog w)
  have T1 := looks_findIn (M := model prog w) X C.hg
  have T2 := looks_findIn (M := model prog w) X C.hk
  have T3 := looks_find (M := model prog w) X I found
  have below : Looks (model prog w) hp (isInstance (.ref x) (.type "BaseException")) true := T0.andThen (looks_subIn X C.hs)
  have n0 : (false && onTheHeap (Value.builtin "BaseException.__getattribute__")) = false := rfl
  have n2 : (Value.builtin "BaseException.__getattribute__" == Value.builtin "object.__getattribute__") = false := by decide +kernel
  have n1 : (onTheHeap (Value.ref D) && Value.builtin "BaseException.__getattribute__" == Value.builtin "object.__getattribute__") = false := by rw [n2]; rfl
  unfold getAttr? getAttrBy? getAttrBy
  refine wpAny_bind (wpAny_mkText (wpAny_bind (wpAny_attempt (wpAny_holding (wpAny_bind (T0.at (wpAny_bind (T1.at ?_))))))))
  show wpAny _ _ (if (onTheHeap (Value.ref D) && Value.builtin "BaseException.__getattribute__" == Value.builtin "object.__getattribute__") = true then _ else _) _ _ _
  rw [n1, if_neg Bool.false_ne_true]
  unfold getAttrByItsOwn hookBefore
  refine wpAny_bind ?_
  rw [if_pos (show onTheHeap (Value.ref D) = true from rfl)]
  refine T2.at (wpAny_bind (wpAny_attempt (wpAny_holding ?_)))
  unfold callGetattribute
  rw [n0, if_neg Bool.false_ne_true]
  unfold boundAndCalled
  rw [PySem.F.excAttr_ValueError.ga.bind (.ref x)]
  refine wpAny_bind (wpAny_pure ?_)
  show wpAny _ _ (call (.builtin "BaseException.__getattribute__") [.ref x, .str "__class__" t]) _ _ _
  refine wpAny_call (codeAny_call_builtin PySem.F.excAttr_ValueError.ga.plain PySem.F.entry_bexc_ga ?_)
  refine @check_slot (model prog w) _ _ ⟨hp, g, d, t + 1, os⟩ "BaseException.__getattribute__" "BaseException" "__getattribute__" (.ref x) [.str "__class__" t] [] _ (by decide +kernel) (by decide +kernel) below (PySem.F.args_bexc_ga (.ref x) (.str "__class__" t)) ?_
  unfold Builtin.«object.__getattribute__»
  refine wpAny_bind (wpAny_of_eq (a := ((Value.ref x : Value), [Value.str "__class__" t])) (by first | rfl | (simp only [slotArgs]; rfl)) ?_)
  refine wpAny_bind (wpAny_pure (wpAny_bind (T0.at (wpAny_bind (T3.at ?_)))))
  show wpAny _ _ (holding [Value.builtin "object.__class__"] (call (.builtin "getset_descriptor.__get__") [.builtin "object.__class__", .ref x, .ref D]) >>= ret) _ _ _
  refine wpAny_bind (wpAny_holding (wpAny_call (class_get (s := ⟨hp, g, d, t + 1, os⟩) (ox := ox) (od := od) X I C.hm (wpAny_pure ?_))))
  show wpAny _ _ (handedOut (.ref D)) _ _ _
  rw [handedOut_of (v := .ref D) rfl]
  first
    | exact wpAny_pure (wpAny_pure h)
    | exact wpAny_pure h
    | exact wpAny_pure (wpAny_bind (wpAny_pure (wpAny_pure h)))
theorem ex_kit (C : ExcC K D) : KitX K (.ref x) (.ref D) (IsEx D x) where
  ty := fun _ _ _ ⟨_, _, I⟩ => I.type
  it := fun M h X _ => by
    obtain ⟨cd, hc, _⟩ := any_some C.hd
    unfold clsIn at hc
    split at hc
    · rename_i look
      intro A' Q' E' s' keep q
      unfold isType loadHead
      exact wpAny_bind (wpAny_loadPart (keep _ _ (X _ _ look)) (wpAny_pure q))
    · cases hc
  ne := fun h tp dd its n sl X htp => (handS_kitx_exc (x := x) (ox := ⟨.ref D, none, .fields #[], #[]⟩) C.hg C.hk C.hs C.hd C.ha C.hn C.ht C.hm).ne h tp dd its n sl X htp
  ca := fun X I k => ex_class C X I k
end
/-- what is known of the eight classes, by number -/
structure Kx.exs (k : Kx) (cs ds : List Nat) : Prop where
  own : ∀ c ∈ cs, ExcC k.K (k.cl c)
  sub : ∀ c ∈ cs, ∀ d ∈ ds, PySem.W.kitOne k.K (.ref (k.cl c)) (.ref (k.cl d)) = some (subX c d)
  val : ∀ c ∈ cs, PySem.W.kitOne k.K (.ref (k.cl c)) (.type "ValueError") = some true
section
variable {X : Cx} {k : Kx}
theorem ex_at {pins : List (Addr × Obj)} {σ : L2.St} {H : Hp} {s : Shared} {a D : Addr} {d : Option Addr} (I : L2.Inv X pins σ H s) (h : H a = some (ExV (.ref D) d a)) (hd : d = none ∨ ∃ dd fs, d = some dd ∧ H dd = some (.xd fs)) : IsEx D a s.heap := by
  obtain ⟨⟨oe, vs, e, z, data⟩, _, _⟩ := I.hok a _ h
  obtain ⟨oc, od, oda, osl⟩ := oe
  obtain ⟨z1, z2⟩ := z
  dsimp only at z1 z2 data
  subst z1 z2 data
  rcases hd with rfl | ⟨dd, fs, rfl, h2⟩
  · exact ⟨_, none, e, rfl, rfl, trivial⟩
  · obtain ⟨m, hns, _⟩ := I.hok dd _ h2
    obtain ⟨od, ho, _⟩ := lookIn_ns hns
    exact ⟨_, some od, e, rfl, rfl, ho⟩
/-- isinstance(e, C), e held -/
def rIsV (k : Kx) (cs : List Nat) (d : Nat) : List V → Hp → VK → Prop := fun xs H Q => ∃ a c o, xs = [.ref a, .ref (k.cl d)] ∧ c ∈ cs ∧ H a = some (ExV (.ref (k.cl c)) o a) ∧ (o = none ∨ ∃ dd fs, o = some dd ∧ H dd = some (.xd fs)) ∧ Q (.bl (subX c d)) H
theorem call_isV {cs ds : List Nat} {d : Nat} (hK : X.K = k.K) (he : k.exs cs ds) (hd : d ∈ ds) : CallR X (.builtin "isinstance") (rIsV k cs d) := by
  intro pins s σ H xs us Q I rx h
  obtain ⟨a, c, o, rfl, hc, ha, ho, q⟩ := h
  obtain ⟨u, v, rfl, h1, h2⟩ : ∃ u v, us = [u, v] ∧ u = Value.ref a ∧ v = Value.ref (k.cl d) := by
    cases rx with | cons r1 rr => cases rr with | cons r2 rr => cases rr; exact ⟨_, _, rfl, r1, r2⟩
  subst h1; subst h2
  refine PySem.W.kia_one (K := k.K) (ex_kit (he.own c hc)) (hK ▸ I.kIn) (ex_at I ha ho) (he.sub c hc d hd) (fun z => nomatch z) fun tk => ⟨.bl _, H, I.kept (t' := tk) fun _ _ z => z, rfl, q⟩
/-- isinstance(e, ValueError) -/
def rIsVE (k : Kx) (cs : List Nat) : List V → Hp → VK → Prop := fun xs H Q => ∃ a c o, xs = [.ref a, .ty "ValueError"] ∧ c ∈ cs ∧ H a = some (ExV (.ref (k.cl c)) o a) ∧ (o = none ∨ ∃ dd fs, o = some dd ∧ H dd = some (.xd fs)) ∧ Q (.bl true) H
theorem call_isVE {cs ds : List Nat} (hK : X.K = k.K) (he : k.exs cs ds) : CallR X (.builtin "isinstance") (rIsVE k cs) := by
  intro pins s σ H xs us Q I rx h
  obtain ⟨a, c, o, rfl, hc, ha, ho, q⟩ := h
  obtain ⟨u, v, rfl, h1, h2⟩ : ∃ u v, us = [u, v] ∧ u = Value.ref a ∧ v = Value.type "ValueError" := by
    cases rx with | cons r1 rr => cases rr with | cons r2 rr => cases rr; exact ⟨_, _, rfl, r1, r2⟩
  subst h1; subst h2
  refine PySem.W.kia_one (K := k.K) (ex_kit (he.own c hc)) (hK ▸ I.kIn) (ex_at I ha ho) (he.val c hc) (fun z => nomatch z) fun tk => ⟨.bl _, H, I.kept (t' := tk) fun _ _ z => z, rfl, q⟩
/-- isinstance(e, (C, ..)) -/
def rIsVT (k : Kx) (cs ds : List Nat) : List V → Hp → VK → Prop := fun xs H Q => ∃ a c o tp, xs = [.ref a, .ref tp] ∧ H tp = some (.tup (ds.map fun d => .ref (k.cl d))) ∧ c ∈ cs ∧ H a = some (ExV (.ref (k.cl c)) o a) ∧ (o = none ∨ ∃ dd fs, o = some dd ∧ H dd = some (.xd fs)) ∧ Q (.bl (ds.any (subX c))) H
theorem kit_anyX {cs ds : List Nat} (he : k.exs cs ds) {c : Nat} (hc : c ∈ cs) : ∀ {es : List Nat}, (∀ d ∈ es, d ∈ ds) → PySem.W.kitAny k.K (.ref (k.cl c)) (es.map fun d => .ref (k.cl d)) = some (es.any (subX c))
  | [], _ => kitAny_nil
  | d :: es, h => by
    have ih := kit_anyX he hc (es := es) fun d' m => h d' (List.mem_cons_of_mem _ m)
    rw [List.map_cons, List.any_cons]
    exact kitAny_cons (he.sub c hc d (h d List.mem_cons_self)) (fun e => by rw [e, Bool.false_or]; exact ih) (fun e => by rw [e, Bool.true_or])
theorem vals_refs {us : List Value} : ∀ {as : List Addr}, Vals (as.map V.ref) us → us = as.map Value.ref := fun {as} h => by
  induction as generalizing us with
  | nil => cases h; rfl
  | cons a as ih =>
    cases h with
    | cons r t => cases r; rw [ih t]; rfl
theorem call_isVT {cs ds : List Nat} (hK : X.K = k.K) (he : k.exs cs ds) : CallR X (.builtin "isinstance") (rIsVT k cs ds) := by
  intro pins s σ H xs us Q I rx h
  obtain ⟨a, c, o, tp, rfl, ht, hc, ha, ho, q⟩ := h
  obtain ⟨u, v, rfl, h1, h2⟩ : ∃ u v, us = [u, v] ∧ u = Value.ref a ∧ v = Value.ref tp := by
    cases rx with | cons r1 rr => cases rr with | cons r2 rr => cases rr; exact ⟨_, _, rfl, r1, r2⟩
  subst h1; subst h2
  obtain ⟨_, its, vals, ob, e, hcl, n, hdat⟩ := (show ObjOk X.prog X.w H s.heap tp (.tup _) from I.hok tp _ ht)
  have ei : its = ds.map fun d => Value.ref (k.cl d) := by
    have := vals_refs (as := ds.map k.cl) (us := its) (by rw [List.map_map]; exact vals)
    rw [this, List.map_map]; rfl
  obtain ⟨oc, od, oda, osl⟩ := ob
  dsimp only at hcl hdat
  subst hcl hdat
  refine PySem.W.kia_tup (K := k.K) (ex_kit (he.own c hc)) (hK ▸ I.kIn) (ex_at I ha ho) e (by rw [ei]; exact kit_anyX he hc fun _ m => m) (fun z => nomatch z) fun tk => ⟨.bl _, H, I.kept (t' := tk) fun _ _ z => z, rfl, q⟩
end
/-- a held exception -/
def excAt (C : Cs) (n : Nat) (K : Nat → List (Str × Cv) → Prop) : Prop := match C[n]? with
  | some (.exc c fs) => K c fs
  | _ => False
theorem excAt_of {k : Kx} {B α : List Addr} {C : Cs} {H : Hp} (r : Rep k B α C H) {n : Nat} {a : Addr} (ha : α[n]? = some a) {K : Nat → List (Str × Cv) → Prop} (q : excAt C n K) : ∃ c fs o, C[n]? = some (.exc c fs) ∧ H a = some (ExV (.ref (k.cl c)) o a) ∧ ((fs = [] ∧ o = none) ∨ ∃ dd vs, o = some dd ∧ hid (ms B α C) H dd = some (.xd vs) ∧ Rfs k.K (ms B α C) H α vs fs) ∧ K c fs := by
  unfold excAt at q
  cases e : C[n]? with
  | none => rw [e] at q; exact q.elim
  | some c =>
    rw [e] at q
    cases c <;> try exact q.elim
    obtain ⟨o, h1, h2⟩ := r.at_ n a _ ha e
    exact ⟨_, _, o, rfl, h1, h2, q⟩
theorem dict_of {M : Ms} {H : Hp} {K : Fg} {α : List Addr} {fs : List (Str × Cv)} {o : Option Addr} (h : (fs = [] ∧ o = none) ∨ ∃ dd vs, o = some dd ∧ hid M H dd = some (.xd vs) ∧ Rfs K M H α vs fs) : o = none ∨ ∃ dd gs, o = some dd ∧ H dd = some (.xd gs) := by
  rcases h with ⟨_, h⟩ | ⟨dd, vs, h1, h2, _⟩
  · exact .inl h
  · exact .inr ⟨dd, vs, h1, hid_le M H _ _ h2⟩
def xIsX (cs : List Nat) (d : Nat) (a : XE) : XE where
  te k W := tCB (rIsV k cs d) (tCons (a.te k W) (tCons (tC (.ref (k.cl d))) tNil))
  wp X ρ C P := a.wp X ρ C fun s C1 => isC s fun n => excAt C1 n fun c _ => chk (inN c cs) (P (.d (.bool (subX c d))) C1)
  ok w h q := a.ok w h fun v H1 s α1 C1 t1 r1 c1 p1 => by
    obtain ⟨n, p, rfl, hp, rfl, p1⟩ := isC_of c1 p1
    obtain ⟨c, fs, o, e, ha, ho, p2⟩ := excAt_of r1 hp p1
    obtain ⟨hc, p2⟩ := chk_of p2
    exact ⟨p, c, o, rfl, inN_mem hc, ha, dict_of ho, q _ H1 (.d (.bool (subX c d))) α1 C1 t1 r1 (Dq.bl _) p2⟩
def xIsXV (cs : List Nat) (a : XE) : XE where
  te k W := tCB (rIsVE k cs) (tCons (a.te k W) (tCons (tC (.ty "ValueError")) tNil))
  wp X ρ C P := a.wp X ρ C fun s C1 => isC s fun n => excAt C1 n fun c _ => chk (inN c cs) (P (.d (.bool true)) C1)
  ok w h q := a.ok w h fun v H1 s α1 C1 t1 r1 c1 p1 => by
    obtain ⟨n, p, rfl, hp, rfl, p1⟩ := isC_of c1 p1
    obtain ⟨c, fs, o, e, ha, ho, p2⟩ := excAt_of r1 hp p1
    obtain ⟨hc, p2⟩ := chk_of p2
    exact ⟨p, c, o, rfl, inN_mem hc, ha, dict_of ho, q _ H1 (.d (.bool true)) α1 C1 t1 r1 (Dq.bl _) p2⟩
def tRefs (k : Kx) : List Nat → TA
  | [] => tNil
  | d :: ds => tCons (tC (.ref (k.cl d))) (tRefs k ds)
theorem refs_ev {k : Kx} : ∀ (ds : List Nat) (σ : L2.St) (H : Hp) (Q : List V → Hp → Prop), Q (ds.map fun d => .ref (k.cl d)) H → tRefs k ds σ H Q
  | [], σ, H, Q, q => q
  | d :: ds, σ, H, Q, q => refs_ev ds σ H (fun vs H' => Q (.ref (k.cl d) :: vs) H') q
def xIsXT (cs ds : List Nat) (a : XE) : XE where
  te k W := tCB (rIsVT k cs ds) (tCons (a.te k W) (tCons (tTup (tRefs k ds)) tNil))
  wp X ρ C P := chk (Nat.ble ds.length 1000) (a.wp X ρ C fun s C1 => isC s fun n => excAt C1 n fun c _ => chk (inN c cs) (P (.d (.bool (ds.any (subX c)))) C1))
  ok w h q := a.ok w (chk_of h).2 fun v H1 s α1 C1 t1 r1 c1 p1 => by
    have hl := Nat.le_of_ble_eq_true (chk_of h).1
    obtain ⟨n, p, rfl, hp, rfl, p1⟩ := isC_of c1 p1
    obtain ⟨c, fs, o, e, ha, ho, p2⟩ := excAt_of r1 hp p1
    obtain ⟨hc, p2⟩ := chk_of p2
    refine refs_ev ds _ H1 _ ⟨by rw [List.length_map]; exact Nat.le_trans hl (by decide), fun t ht => ?_⟩
    exact ⟨p, c, o, t, rfl, upd_same, inN_mem hc, (upd_ne (ne_of_none ha ht)).trans ha, (by
      rcases dict_of ho with h | ⟨dd, gs, h1, h2⟩
      · exact .inl h
      · exact .inr ⟨dd, gs, h1, (upd_ne (ne_of_none h2 ht)).trans h2⟩), q _ _ (.d (.bool (ds.any (subX c)))) α1 C1 (t1.trans (r1.ex (Ex.new ht))) (r1.keep (Ex.new ht)) (Dq.bl _) p2⟩
end DL
set_option maxRecDepth 100000
namespace DL
open PySem L2
/-! ### a field of a held exception -/
structure Kx.fld (k : Kx) (cs : List Nat) (f : Str) : Prop where
  cls : ∀ c ∈ cs, XfC k.K (k.cl c)
  no : ∀ c ∈ cs, PySem.W.findIn k.K (.ref (k.cl c)) f = some none
def tXfV (k : Kx) (cs : List Nat) (f : Str) (te : TE) : TE := fun σ H Q => te σ H fun x H1 => ∃ a c dd fs v, x = .ref a ∧ c ∈ cs ∧ H1 a = some (ExV (.ref (k.cl c)) (some dd) a) ∧ H1 dd = some (.xd fs) ∧ fs.lookup f = some v ∧ Q v H1
theorem pe_xfV {X : Cx} {k : Kx} {cs : List Nat} {e : Expr} {te : TE} {pos : Pos} {f : Str} (hK : X.K = k.K) (T : k.fld cs f) (he : PE X e te) (hb : attributeBase e f X.env (eval e X.env) = eval e X.env := by rfl) : PE X (.Attribute e f pos) (tXfV k cs f te) := by
  constructor
  intro pins s σ H Q I h
  refine attr_of hb (thn (he.run pins s σ H _ I h) ?_)
  rintro u s1 ⟨x, H1, I1, rx, a, c, dd, fs, v, rfl, hc, ea, ed, l, q⟩
  cases rx
  obtain ⟨m, hns, hr⟩ := I1.hok dd _ ed
  obtain ⟨od, ho, hl⟩ := lookIn_ns hns
  obtain ⟨u, hu, ru⟩ := RelO.some_of (v := v) (o := m f) (by rw [← l]; exact hr f)
  obtain ⟨⟨oe, vs, e0, z, data⟩, _, _⟩ := I1.hok a _ ea
  have J : PySem.W.InstAt s1.heap a oe (k.cl c) (some od) := ⟨e0, z.1, by unfold PySem.W.notCls; rw [data] <;> rfl, by rw [z.2]; exact ho⟩
  have C := T.cls c hc
  exact HandSPX.exc_get (K := k.K) (hK ▸ I1.kIn) J C.ga C.gg C.exC (PySem.W.findObj_own C.hdC (T.no c hc) rfl (by rw [hl, hu])) (handed_of ru) ⟨v, H1, I1.tok _, ru, q⟩
def fldX (f : Str) (K : Cv → Prop) : List (Str × Cv) → Prop
  | [] => False
  | p :: r => cnd (decide (p.1 = f)) (K p.2) (fldX f K r)
theorem fldX_of {k : Fg} {M : Ms} {H : Hp} {α : List Addr} {f : Str} {K : Cv → Prop} {vs : List (Str × V)} {fs : List (Str × Cv)} (h : Rfs k M H α vs fs) (q : fldX f K fs) : ∃ v s, vs.lookup f = some v ∧ Rc k M H α v s ∧ K s := by
  induction h with
  | nil => exact q.elim
  | @cons g v vs s ss a _ ih =>
    have q : cnd (decide (g = f)) (K s) (fldX f K ss) := q
    by_cases e : g = f
    · rw [decide_eq_true e] at q
      subst e
      exact ⟨v, s, by simp [List.lookup], a, q⟩
    · rw [decide_eq_false e] at q
      obtain ⟨v', s', h1, h2, h3⟩ := ih q
      have ne : (f == g) = false := by simpa using fun z => e z.symm
      exact ⟨v', s', by rw [List.lookup_cons, ne]; exact h1, h2, h3⟩
def xXf (cs : List Nat) (f : Str) (a : XE) : XE where
  te k W := fun σ H Q => k.fld cs f → tXfV k cs f (a.te k W) σ H Q
  wp X ρ C P := a.wp X ρ C fun s C1 => isC s fun n => excAt C1 n fun c fs => chk (inN c cs) (fldX f (fun t => P t C1) fs)
  ok w h q := fun hk => a.ok w h fun v H1 s α1 C1 t1 r1 c1 p1 => by
    obtain ⟨n, p, rfl, hp, rfl, p1⟩ := isC_of c1 p1
    obtain ⟨c, fs, o, e, ha, ho, p2⟩ := excAt_of r1 hp p1
    obtain ⟨hc, p2⟩ := chk_of p2
    rcases ho with ⟨rfl, _⟩ | ⟨dd, vs, rfl, h2, h3⟩
    · exact p2.elim
    · obtain ⟨v, t, l, rc, p3⟩ := fldX_of h3 p2
      exact ⟨p, c, dd, vs, v, rfl, inN_mem hc, ha, hid_le _ H1 _ _ h2, l, q v H1 t α1 C1 t1 r1 rc p3⟩
/-! ### reversed(xs) -/
def xiRev (a : XE) : XI where
  wi k W := RT.iRevA k.K (a.te k W)
  wp X ρ C P := a.wp X ρ C fun s C1 => rdK C1 s fun d keep => isL d fun ds => P (ds.reverse.map .d) keep C1
  ok {k B α C H σ ρ W X P R} w h q := a.ok w h fun v H1 s α1 C1 t1 r1 c1 p1 => by
    obtain ⟨d, keep, p3, kk, D1⟩ := rdK_dt r1 c1 p1
    obtain ⟨ds, rfl, p3⟩ := isL_of p3
    obtain ⟨x, xs, rfl, hx, dx0⟩ := (D1 _ _ _ _ r1.refl.em r1 kk).list_inv
    rw [hid_nil] at hx
    refine ⟨x, xs, rfl, .inl ⟨hx, q _ _ _ _ _ _ t1 r1 p3 fun B' α' C' H' em r' kp => ?_⟩⟩
    obtain ⟨x', xs', ex, hx', dx⟩ := (D1 _ _ _ _ em r' kp).list_inv
    cases ex
    rw [hid_nil] at hx'
    have l0 : xs.length = ds.length := Das.len dx0
    refine ⟨fun i s hs => ?_, show xs.length ≤ _ by rw [List.length_map, List.length_reverse, l0]; exact Nat.le_refl _⟩
    rw [List.getElem?_map] at hs
    cases hz : ds.reverse[i]? with
    | none => rw [hz] at hs; cases hs
    | some d =>
      rw [hz] at hs
      cases hs
      have hi : i < ds.length := by have := (List.getElem?_eq_some_iff.mp hz).1; rwa [List.length_reverse] at this
      rw [List.getElem?_reverse hi] at hz
      obtain ⟨v, hv, dv⟩ := Das.get dx hz
      rw [← l0] at hv hi
      refine ⟨⟨hi, xs', v, hx', hv⟩, fun z H'' hy => ?_⟩
      obtain ⟨rfl, hy⟩ := hy
      have := (hy xs' hx').symm.trans hv
      cases this
      exact ⟨Ex.refl _, dv⟩
/-! ### xs.count(d), xs.index(d), flat items -/
def rCntF (K : Fg) : V → List V → Hp → VK → Prop := fun x xs H Q => ∃ (a : Addr) (ys : List V) (y : V), x = .ref a ∧ xs = [y] ∧ SqL K H a ys ∧ flatV y = true ∧ ys.all flatV = true ∧ Q (.int (ys.countP (eqV · y) : Nat)) H
theorem eqU_count {y : V} : ∀ {ys : List V} {us : List Value}, Vals ys us → ys.all flatV = true → us.countP (eqU y) = ys.countP (eqV · y)
  | _, _, .nil, _ => rfl
  | z :: ys, u :: us, .cons r t, f => by
    rw [List.all_cons, Bool.and_eq_true] at f
    rw [List.countP_cons, List.countP_cons, eqU_count t f.2, eqU_of r f.1]
theorem mt_countF {X : Cx} : MtR X "list.count" (rCntF X.K) := by
  intro pins s σ H x xs v us Q I rx rxs h
  obtain ⟨a, ys, y, rfl, rfl, hs, fy, fys, q⟩ := h
  cases rx
  obtain ⟨u, rfl, ru⟩ := rxs.one
  obtain ⟨its, rv, ⟨⟨cls, dd, data, sl⟩, n, ho, hc, hdn, hd⟩, hlen⟩ := I.list hs
  dsimp only at hc hd
  subst hc hd
  refine call_meets PySem.F.slot_list_count ⟨_, ho, rfl⟩ PySem.F.entry_list_count (PySem.F.args_list_count_2 _ _) (SeqAt.list_countAt a its.toArray n dd sl u (eqU y)) ⟨ho, fun z hz => mem_eqAt ru fy rv fys z (by simpa using hz), ?_⟩
  refine ⟨.int (ys.countP (eqV · y) : Nat), H, I.tok _, ⟨s.toks, ?_⟩, q⟩
  show Value.int ((its.toArray.toList.countP (eqU y) : Nat) : Int) s.toks = _
  rw [← eqU_count rv fys]
theorem eqv_count {K : Fg} {M : Ms} {H : Hp} {y : V} {e : PyData} (h' : Da K M H y e) (f' : flatD e = true) : ∀ {xs : List V} {ds : List PyData}, Das K M H xs ds → ds.all flatD = true → xs.countP (eqV · y) = ds.countP (PyData.eqv · e)
  | _, _, .nil, _ => rfl
  | x :: xs, d :: ds, .cons a t, f => by
    rw [List.all_cons, Bool.and_eq_true] at f
    rw [List.countP_cons, List.countP_cons, eqv_count h' f' t f.2, eqv_of a h' f.1 f']
def datum (s : Cv) (K : PyData → Prop) : Prop := match s with
  | .d x => K x
  | _ => False
theorem datum_of {s : Cv} {K : PyData → Prop} (h : datum s K) : ∃ x, s = .d x ∧ K x := by
  cases s with
  | d x => exact ⟨x, rfl, h⟩
  | v x => exact h.elim
  | c n => exact h.elim
def xLCount (o a : XE) : XE where
  te k W := tBM k.K "list" (rCntF k.K) (o.te k W) (tCons (a.te k W) tNil)
  wp X ρ C P := o.wp X ρ C fun s C1 => datum s fun d => isL d fun ds => a.wp X ρ C1 fun t C2 => datum t fun e => chk (flatD e && ds.all flatD) (P (.d (.int (ds.countP (PyData.eqv · e) : Nat))) C2)
  ok w h q := o.ok w h fun v H1 s α1 C1 t1 r1 c1 p1 => by
    obtain ⟨d, rfl, p1⟩ := datum_of p1
    obtain ⟨ds, rfl, p1⟩ := isL_of p1
    obtain ⟨x, xs, rfl, hx, dx⟩ := Da.list_inv c1
    refine ⟨Or.inl ⟨rfl, xs, hid_l hx⟩, a.ok (w.to t1 r1) p1 fun u H2 t α2 C2 t2 r2 c2 p2 => ?_⟩
    obtain ⟨e, rfl, p2⟩ := datum_of p2
    obtain ⟨hf, p2⟩ := chk_of p2
    obtain ⟨f1, f2⟩ := (Bool.and_eq_true _ _).mp hf
    obtain ⟨x', xs', ex, hx', dx'⟩ := Da.list_inv (dp_ex t2.hid _ _ c1)
    cases ex
    refine ⟨x, xs', u, rfl, rfl, hid_l hx', flat_of c2 f1, flats_of dx' f2, ?_⟩
    rw [eqv_count c2 f1 dx' f2]
    exact q _ H2 (.d (.int _)) α2 C2 (t1.trans t2) r2 (Dq.int _) p2
def xLIndex (o a : XE) : XE where
  te k W := tBM k.K "list" (rIndex k.K) (o.te k W) (tCons (a.te k W) tNil)
  wp X ρ C P := o.wp X ρ C fun s C1 => datum s fun d => isL d fun ds => a.wp X ρ C1 fun t C2 => datum t fun e => chk (flatD e && ds.all flatD) (chk (Nat.blt (ds.findIdx (PyData.eqv · e)) ds.length) (P (.d (.int (ds.findIdx (PyData.eqv · e) : Nat))) C2))
  ok w h q := o.ok w h fun v H1 s α1 C1 t1 r1 c1 p1 => by
    obtain ⟨d, rfl, p1⟩ := datum_of p1
    obtain ⟨ds, rfl, p1⟩ := isL_of p1
    obtain ⟨x, xs, rfl, hx, dx⟩ := Da.list_inv c1
    refine ⟨Or.inl ⟨rfl, xs, hid_l hx⟩, a.ok (w.to t1 r1) p1 fun u H2 t α2 C2 t2 r2 c2 p2 => ?_⟩
    obtain ⟨e, rfl, p2⟩ := datum_of p2
    obtain ⟨hf, p2⟩ := chk_of p2
    obtain ⟨hi, p2⟩ := chk_of p2
    have hi : ds.findIdx (PyData.eqv · e) < ds.length := Nat.le_of_ble_eq_true hi
    obtain ⟨f1, f2⟩ := (Bool.and_eq_true _ _).mp hf
    obtain ⟨x', xs', ex, hx', dx'⟩ := Da.list_inv (dp_ex t2.hid _ _ c1)
    cases ex
    have f3 := List.all_eq_true.mp f2
    obtain ⟨z, hz, dz⟩ := Das.get dx' (List.getElem?_eq_getElem hi)
    refine ⟨x, xs', u, ds.findIdx (PyData.eqv · e), z, rfl, rfl, hid_l hx', flat_of c2 f1, flats_of dx' f2, hz, ?_, fun m z' hm hz' => ?_, q _ H2 (.d (.int _)) α2 C2 (t1.trans t2) r2 (Dq.int _) p2⟩
    · rw [eqv_of dz c2 (f3 _ (List.getElem_mem hi)) f1]
      exact List.findIdx_getElem (w := hi)
    · obtain ⟨d', hd', dd'⟩ := Das.get' dx' hz'
      rw [eqv_of dd' c2 (f3 _ (List.mem_of_getElem? hd')) f1]
      have lm := (List.getElem?_eq_some_iff.mp hd').1
      have := List.not_of_lt_findIdx hm
      rw [← (List.getElem?_eq_some_iff.mp hd').2]
      simpa using this
/-! ### d[k], d[l] = x, y -/
def rSetD : V → V → V → Hp → (Hp → Prop) → Prop := fun o i v H Q => ∃ a H', o = .ref a ∧ DPut H a i v H' ∧ Q H'
theorem set_dict {X : Cx} (hu : X.A.units + 1 < cLine) : PSet X rSetD := by
  rintro pins s σ H o i v ov iv u Q I ro ri rv ⟨a, H', rfl, g, q⟩
  cases ro
  exact d_setItem hu I g ri rv fun s' I' => ⟨H', I', q⟩
def xsDPar (i : Nat) (k1 k2 : Str) (a : XA) : XS where
  ts k W := tAsg (tTup (a.ta k W)) (gTup k.K 2 (gCons (gSub (tVar i) (tC (.str k1)) rSetD) (gCons (gSub (tVar i) (tC (.str k2)) rSetD) gNil)))
  wp X ρ C P := a.wp X ρ C fun ss C1 => two ss fun s t => look ρ i fun u => isC u fun n => dkAt C1 n fun es => chk (Nat.blt es.length 90000) (setK C1 n (.dk (putC (putC es (.inr k1) s) (.inr k2) t)) fun C2 => P.N ρ C2)
  ok {k B α C H σ ρ W X P D} w h d := a.ok w h fun vs H1 ss α1 C1 t1 r1 c1 p1 => by
    cases c1 with
    | nil => exact p1.elim
    | cons c1 cr =>
      cases cr with
      | nil => exact p1.elim
      | cons c2 cr =>
        cases cr with
        | cons _ _ => exact p1.elim
        | nil =>
          rename_i v s v2 s2
          have p1 : look ρ i _ := p1
          obtain ⟨u, h1, h2⟩ := look_get p1
          refine ⟨show 2 ≤ sizeLine by decide, fun T hT => ?_⟩
          have tT := r1.ex (H' := upd H1 T (.tup [v, v2])) (Ex.new hT)
          have rT := r1.keep (H' := upd H1 T (.tup [v, v2])) (Ex.new hT)
          obtain ⟨ov, e1, rv⟩ := ((w.en.to t1).to tT).2 i u h1
          obtain ⟨n, p, rfl, hp, rfl, p2⟩ := isC_of rv h2
          obtain ⟨es, hc, p2⟩ := dkAt_of p2
          obtain ⟨hl, p2⟩ := chk_of p2
          have hl : es.length < 90000 := Nat.le_of_ble_eq_true hl
          obtain ⟨us, g1, g2, g3⟩ := rT.dkOf hp hc
          have lu : us.length < 90000 := by rw [Rfs.len g2]; exact hl
          have l1 : (putK us (.inr k1) v).length ≤ 90000 := Nat.le_trans (length_putK _ _ _) lu
          have l2 : (putK (putK us (.inr k1) v) (.inr k2) v2).length ≤ 90001 := Nat.le_trans (length_putK _ _ _) (Nat.succ_le_succ l1)
          obtain ⟨r3, t3⟩ := rT.putD hp hc ((g2.put (.inr k1) (c1.to tT)).put (.inr k2) (c2.to tT)) (Nat.le_trans l2 (by decide))
          refine ⟨T, [v, v2], rfl, .inl (.inl upd_same), rfl, v, [v2], rfl, .ref p, e1, p, _, rfl, DPut.k (k := .inr k1) g1 (Nat.lt_of_lt_of_le lu (by decide)), v2, [], rfl, .ref p, e1, p, _, rfl, DPut.k (k := .inr k2) upd_same (Nat.lt_of_le_of_lt l1 (by decide)), rfl, ?_⟩
          have e : upd (upd (upd H1 T (.tup [v, v2])) p (.dK (putK us (.inr k1) v))) p (.dK (putK (putK us (.inr k1) v) (.inr k2) v2)) = upd (upd H1 T (.tup [v, v2])) p (.dK (putK (putK us (.inr k1) v) (.inr k2) v2)) := by
            funext b
            by_cases q : b = p
            · subst q; rw [upd_same, upd_same]
            · rw [upd_ne q, upd_ne q, upd_ne q]
          rw [e]
          exact d.nx _ _ _ _ _ ((t1.trans tT).trans t3) r3 (((w.en.to t1).to tT).to t3) (setK_of p2)
/-! ### a tuple of things that change -/
def xTupC (a : XA) : XE where
  te k W := tTup (a.ta k W)
  wp X ρ C P := a.wp X ρ C fun ss C1 => chk (Nat.ble ss.length 1000) (appK (.tpl ss) C1 0 fun n C2 => P (.c n) C2)
  ok w h q := a.ok w h fun vs H1 ss α1 C1 t1 r1 c1 p1 => by
    obtain ⟨hl, p1⟩ := chk_of p1
    have hl := Nat.le_of_ble_eq_true hl
    refine ⟨by rw [Rcs.len c1]; exact Nat.le_trans hl (by decide), fun p hp => ?_⟩
    obtain ⟨r2, t2⟩ := r1.more (c := .tpl ss) (H' := upd H1 p (.tup vs)) rfl hp (fun b qq => upd_ne qq) ⟨_, upd_same⟩ fun t => ⟨vs, upd_same, c1.to t⟩
    exact q _ _ (.c C1.length) _ _ (t1.trans t2) r2 (Rc.last r1) (appK_of p1)
theorem r_xXf {k : Kx} {W : WX} (cs : List Nat) (f : Str) (a : XE) : (xXf cs f a).te k W = fun σ H Q => k.fld cs f → tXfV k cs f (a.te k W) σ H Q := rfl
theorem r_xiRev {k : Kx} {W : WX} (a : XE) : (xiRev a).wi k W = RT.iRevA k.K (a.te k W) := rfl
theorem r_xLCount {k : Kx} {W : WX} (o a : XE) : (xLCount o a).te k W = tBM k.K "list" (rCntF k.K) (o.te k W) (tCons (a.te k W) tNil) := rfl
theorem r_xLIndex {k : Kx} {W : WX} (o a : XE) : (xLIndex o a).te k W = tBM k.K "list" (rIndex k.K) (o.te k W) (tCons (a.te k W) tNil) := rfl
theorem r_xsDPar {k : Kx} {W : WX} (i : Nat) (k1 k2 : Str) (a : XA) : (xsDPar i k1 k2 a).ts k W = tAsg (tTup (a.ta k W)) (gTup k.K 2 (gCons (gSub (tVar i) (tC (.str k1)) rSetD) (gCons (gSub (tVar i) (tC (.str k2)) rSetD) gNil))) := rfl
theorem r_xTupC {k : Kx} {W : WX} (a : XA) : (xTupC a).te k W = tTup (a.ta k W) := rfl
theorem r_xCallX {k : Kx} {W : WX} (A : Pw) (dvs : List V) (dss : List Cv) (hd : ∀ K M H α, Rcs K M H α dvs dss) (a : XA) : (xCallX A dvs dss hd a).te k W = tCallSD (spW k A) dvs (WE W) (a.ta k W) := rfl
theorem r_xMethX {k : Kx} {W : WX} (c j : Nat) (A : Pw) (dvs : List V) (dss : List Cv) (hd : ∀ K M H α, Rcs K M H α dvs dss) (a : XE) (b : XA) : (xMethX c j A dvs dss hd a b).te k W = tMethSD (k.cl c) (mn j) (spW k A) dvs (WE W) (a.te k W) (b.ta k W) := rfl
theorem r_xsRaise {k : Kx} {W : WX} (cn : Nat) : (xsRaise cn).ts k W = fun _ σ H => W (.ref (k.cl cn)) none σ H := rfl
theorem r_xsRaiseF {k : Kx} {W : WX} (cn : Nat) (f : Str) (a : XE) : (xsRaiseF cn f a).ts k W = tRaiseF (k.cl cn) f W (a.te k W) := rfl
theorem r_xsTry {k : Kx} {W : WX} (cs : List Nat) (c0 i : Nat) (body suite : XS) : (xsTry cs c0 i body suite).ts k W = fun D σ H => k.cat cs c0 → body.ts k (wAsV k.K (.ref (k.cl c0)) i (suite.ts k W0) W D) D σ H := rfl
theorem r_xIsX {k : Kx} {W : WX} (cs : List Nat) (d : Nat) (a : XE) : (xIsX cs d a).te k W = tCB (rIsV k cs d) (tCons (a.te k W) (tCons (tC (.ref (k.cl d))) tNil)) := rfl
theorem r_xIsXV {k : Kx} {W : WX} (cs : List Nat) (a : XE) : (xIsXV cs a).te k W = tCB (rIsVE k cs) (tCons (a.te k W) (tCons (tC (.ty "ValueError")) tNil)) := rfl
theorem r_xIsXT {k : Kx} {W : WX} (cs ds : List Nat) (a : XE) : (xIsXT cs ds a).te k W = tCB (rIsVT k cs ds) (tCons (a.te k W) (tCons (tTup (tRefs k ds)) tNil)) := rfl
theorem r_tRefs0 {k : Kx} : tRefs k [] = tNil := rfl
theorem r_tRefs1 {k : Kx} {d : Nat} {ds : List Nat} : tRefs k (d :: ds) = tCons (tC (.ref (k.cl d))) (tRefs k ds) := rfl
end DL
set_option maxRecDepth 100000
namespace DL
open PySem L2
/-! ### calls with keywords that fill up in order -/
/-- n values, then the keywords ks, are all of the parameters in order -/
abbrev KIn (K : Fg) (fd : FuncData) (ps : List Str) (n : Nat) (ks : List Str) : Prop := KBn K fd ps n ks (fun us ws => us ++ ws) (fun vs zs => vs ++ zs)
section
variable {X : Cx} {CX : CXT} {k n : Nat} {f C : Addr} {fd : FuncData} {ps ks : List Str} {sp : Sp} {E : L2.St → XK} {x m : Str} {p pos apos : Pos} {e o : Expr} {es : List Expr} {kws : List Keyword} {ta : TE} {t tk : TA}
theorem runGK {pins : List (Addr × Obj)} {σ : L2.St} {H : Hp} {s : Shared} {Q : VK} {us ws : List Value} {vs zs : List V} (F : FnG X.prog X.w X.K X.mg X.base CX k f fd ps sp) (hG : X.A.guards = some []) (hr : Room k X.A) (hb : KIn X.K fd ps n ks) (hx : PassesAt CX X σ (E σ))
    (I : L2.Inv X pins σ H s) (r : Vals vs us) (rz : Vals zs ws) (l1 : vs.length = n) (l2 : zs.length = ks.length) (h : sp (vs ++ zs) H Q (E σ)) : wpAny (model X.prog X.w) X.A (call (.ref f) us (ks.zip ws)) (EP X pins σ Q) X.xe s := by
  have ran := F.run X.A hG hr X.stack s H I.env0 ⟨us, ks.zip ws⟩ (us ++ ws) (vs ++ zs) (hb.to s us ws I.kIn (r.length.symm.trans l1) (rz.length.symm.trans l2)) (r.append rz) Q (E σ) h
  refine wpAny_call (codeAny_mono ran ?_)
  rintro (er | _ | _ | _ | u) s' z
  · exact hx pins H s er s' I z
  · exact False.elim z
  · exact False.elim z
  · exact False.elim z
  · exact I.after z
/-- o.m(e, .., k = v, ..) -/
def tMethK (C : Addr) (m : Str) (n l : Nat) (sp : Sp) (E : L2.St → XK) (ta : TE) (t tk : TA) : TE := fun σ H Q => ta σ H fun x H1 => ∃ a dx fs, x = .ref a ∧ H1 a = some (.ins C dx fs) ∧ fs.lookup m = none ∧
  t σ H1 fun vs H2 => tk σ H2 fun zs H3 => vs.length = n ∧ zs.length = l ∧ sp (x :: (vs ++ zs)) H3 Q (E σ)
theorem pe_methGK {pl : Sem Bool} (he : PE X o ta) (c : Cls X.K C) (hm : Meth X.K C m f) (F : FnG X.prog X.w X.K X.mg X.base CX k f fd ps sp) (hG : X.A.guards = some []) (hr : Room k X.A) (hb : KIn X.K fd ps (n + 1) ks) (hx : ∀ σ, PassesAt CX X σ (E σ)) (ha : PA X (e :: es) t) (hk : PK X kws tk)
    (hall : (backToKw pos (keywordEach kws X.env)).all (·.1.isSome) = true := by rfl) (hks : (backToKw pos (keywordEach kws X.env)).filterMap (·.1) = ks := by rfl)
    (hst : starEach (e :: es) X.env = (false, eval e X.env) :: starEach es X.env := by rfl) (hpl : ((backTo pos (starEach (e :: es) X.env)).any (·.1) || (backToKw pos (keywordEach kws X.env)).any (·.1.isNone)) = false := by rfl)
    (ht : eval (.Call (.Attribute o m apos) (e :: es) kws pos) X.env = (do
      let ov ← eval o X.env
      standAt apos.atName
      let (f, first) ← holding [ov] (getMethod ov m pl)
      callWith pos f first (backTo pos (starEach (e :: es) X.env)) (backToKw pos (keywordEach kws X.env))) := by rfl) :
    PE X (.Call (.Attribute o m apos) (e :: es) kws pos) (tMethK C m n ks.length sp E ta t tk) := by
  constructor
  intro pins s σ H Q I h
  refine PySem.W.methodCall_KW (pl := pl) (thn (he.run pins s σ H _ I h) ?_) ht
  rintro u s1 ⟨x, H1, I1, rx, a, dx, fs, rfl, ea, l, q⟩
  cases rx
  refine getmeth_ok I1 ea c hm l ?_
  refine PySem.W.callWith_KW (first := [.ref a]) (h₀ := X.base) I1.ok.mod.kin hm.kp hall (thn (ha.run pos pins s1 σ H1 _ I1 q) fun us s2 ⟨vs, H2, I2, r, q2⟩ => ?_) hpl hst
  refine thn (hk.run pos pins s2 σ H2 _ I2 q2) fun ws s3 ⟨zs, H3, I3, rz, l1, l2, q3⟩ => ⟨I3.kIn, ?_⟩
  rw [hks]
  exact runGK (us := .ref a :: us) (vs := .ref a :: vs) F hG hr hb (hx σ) I3 (.cons rfl r) rz (congrArg Nat.succ l1) l2 q3
/-- C(e, .., k = v, ..) -/
def tMakeK2 (C : Addr) (n l : Nat) (sp : Sp) (E : L2.St → XK) (t tk : TA) : TE := fun σ H Q => t σ H fun vs H1 => tk σ H1 fun zs H2 => vs.length = n ∧ zs.length = l ∧ ∀ x dx, H2 x = none → H2 dx = none → dx ≠ x →
  sp (.ref x :: (vs ++ zs)) (upd (upd H2 dx (.own x)) x (.ins C dx [])) (fun v H3 => v = .non ∧ Q (.ref x) H3) (E σ)
theorem run_makeGK {pins : List (Addr × Obj)} {σ : L2.St} {H : Hp} {s : Shared} {Q : VK} {us ws : List Value} {vs zs : List V} (M : Mk X.K C f) (F : FnG X.prog X.w X.K X.mg X.base CX k f fd ps sp) (hG : X.A.guards = some []) (hr : Room (k + 1) X.A) (hb : KIn X.K fd ps (n + 1) ks)
    (hx : PassesAt CX X σ (E σ)) (I : L2.Inv X pins σ H s) (r : Vals vs us) (rz : Vals zs ws) (l1 : vs.length = n) (l2 : zs.length = ks.length)
    (h : ∀ x dx, H x = none → H dx = none → dx ≠ x → sp (.ref x :: (vs ++ zs)) (upd (upd H dx (.own x)) x (.ins C dx [])) (fun v H2 => v = .non ∧ Q (.ref x) H2) (E σ)) :
    wpAny (model X.prog X.w) X.A (call (.ref C) us (ks.zip ws)) (EP X pins σ Q) X.xe s := by
  have z0 := h (s.heap.objs.size + 1) s.heap.objs.size (I.hok.fresh (Nat.le_succ _)) (I.hok.fresh (Nat.le_refl _)) (Nat.ne_of_lt (Nat.lt_succ_self _))
  have J := Inv.made (C := C) I
  have rr : Vals (V.ref (s.heap.objs.size + 1) :: vs) (Value.ref (s.heap.objs.size + 1) :: us) := .cons rfl r
  have m1 : (Value.ref (s.heap.objs.size + 1) :: us).length = n + 1 := rr.length.symm.trans (congrArg Nat.succ l1)
  refine wpAny_call (make_map (f := f) I.kIn M.makes M.init (beq_iff_eq.mp M.fn) (codeAny_mono (F.run (X.A.under (.builtin "type.__call__" ⟨.ref C :: us, ks.zip ws⟩)) (show (X.A.under _).guards = some [] from hG) (hr.make C us (ks.zip ws)) X.stack _ _ (J.env0.make C us (ks.zip ws)) ⟨Value.ref (s.heap.objs.size + 1) :: us, ks.zip ws⟩ ((Value.ref (s.heap.objs.size + 1) :: us) ++ ws) _ (hb.to _ _ ws J.kIn m1 (rz.length.symm.trans l2)) (rr.append rz) _ (E σ) z0) fun r s' hq' => ?_))
  rcases r with e | (_ | _ | _ | u)
  · exact hx pins _ _ e s' J hq'
  · exact False.elim hq'
  · exact False.elim hq'
  · exact False.elim hq'
  · obtain ⟨v, H', I3, rv, rfl, q3⟩ := J.after hq'
    exact ⟨rv, ⟨V.ref (s.heap.objs.size + 1), H', I3, rfl, q3⟩⟩
theorem pe_makeGK (M : Mk X.K C f) (F : FnG X.prog X.w X.K X.mg X.base CX k f fd ps sp) (hG : X.A.guards = some []) (hr : Room (k + 1) X.A) (hg : Gl X x) (hm : X.mg x = some (.ref C)) (hb : KIn X.K fd ps (n + 1) ks) (hx : ∀ σ, PassesAt CX X σ (E σ)) (ha : PA X (e :: es) t) (hk : PK X kws tk)
    (hall : (backToKw pos (keywordEach kws X.env)).all (·.1.isSome) = true := by rfl) (hks : (backToKw pos (keywordEach kws X.env)).filterMap (·.1) = ks := by rfl)
    (hdb : (x == ("__debug__" : Str)) = false := by decide) (he : starEach (e :: es) X.env = (false, eval e X.env) :: starEach es X.env := by rfl)
    (hpl : ((backTo pos (starEach (e :: es) X.env)).any (·.1) || (backToKw pos (keywordEach kws X.env)).any (·.1.isNone)) = false := by rfl) :
    PE X (.Call (.Name x p) (e :: es) kws pos) (tMakeK2 C n ks.length sp E t tk) := by
  constructor
  intro pins s σ H Q I h
  refine wpAny_Call_Name_kw (ld_glob I hg hm ?_ hdb)
  refine PySem.W.callWith_KW (h₀ := X.base) I.ok.mod.kin M.kp hall (thn (ha.run pos pins s σ H _ I h) fun us s1 ⟨vs, H1, I1, r, q⟩ => ?_) hpl he
  refine thn (hk.run pos pins s1 σ H1 _ I1 q) fun ws s2 ⟨zs, H2, I2, rz, l1, l2, q2⟩ => ⟨I2.kIn, ?_⟩
  rw [hks]
  exact run_makeGK M F hG hr hb (hx σ) I2 r rz l1 l2 q2
/-- what lets nothing out -/
theorem pass0S {X : Cx} : ∀ σ, PassesAt CX0 X σ ((fun _ => E0) σ) := fun _ _ _ _ _ _ _ z => False.elim z
end
def E0S : L2.St → XK := fun _ => E0
def xMethK (c j : Nat) (n l : Nat) (A : Pw) (a : XE) (b d : XA) : XE where
  te k W := tMethK (k.cl c) (mn j) n l (spW k A) (fun _ => E0) (a.te k W) (b.ta k W) (d.ta k W)
  wp X ρ C P := a.wp X ρ C fun s C1 => isC s fun i => objAt C1 i fun c' _ => chk (Nat.beq c' c) (b.wp X ρ C1 fun ts C2 => d.wp X ρ C2 fun us C3 => chk (Nat.beq ts.length n && Nat.beq us.length l) (callW A (fun _ _ => False) C3 (s :: (ts ++ us)) P))
  ok w h q := a.ok w h fun v H1 s α1 C1 t1 r1 c1 p1 => by
    have c0 := c1
    obtain ⟨i, p, rfl, hp, rfl, p1⟩ := isC_of c1 p1
    obtain ⟨c', ss, hc, p3⟩ := objAt_of p1
    obtain ⟨hcc, p4⟩ := chk_of p3
    have hcc := Nat.eq_of_beq_eq_true hcc
    subst hcc
    obtain ⟨dx, xs, h1, h2, h3, h4⟩ := obj_at r1 hp hc
    refine ⟨p, dx, _, rfl, h1, zl_no (mn_no _ j), b.ok (w.to t1 r1) p4 fun vs H2 ts α2 C2 t2 r2 c2 p2 => d.ok ((w.to t1 r1).to t2 r2) p2 fun zs H3 us α3 C3 t3 r3 c3 p5 => ?_⟩
    obtain ⟨hl, p5⟩ := chk_of p5
    obtain ⟨l1, l2⟩ := (Bool.and_eq_true _ _).mp hl
    refine ⟨(Rcs.len c2).trans (Nat.eq_of_beq_eq_true l1), (Rcs.len c3).trans (Nat.eq_of_beq_eq_true l2), ?_⟩
    unfold callW at p5
    obtain ⟨f, C0, ss', nd, wk, rv, hA⟩ := p5
    refine ⟨aside _ α3 C3 f, pick f α3, C0, ss', _, _, r3.hand nd wk, ?_, hA, fun v' H' s' α' C' t r c p => ?_, fun _ _ _ _ _ _ _ _ _ z => z.elim⟩
    · exact Rcs.mono (fun a m => (aside_h r3 wk).mp m) ((Rcs.cons ((c0.to t2).to t3) ((c2.to t3).app c3)).ren (wk_lt r3 wk) rv)
    · obtain ⟨α4, bk⟩ := back r3 nd wk t r
      exact q v' H' _ α4 _ (((t1.trans t2).trans t3).trans bk.to) bk.rep (bk.val c) p
def xMakeK (c n l : Nat) (A : Pw) (b d : XA) : XE where
  te k W := fun σ H Q => k.has c → tMakeK2 (k.cl c) n l (spW k A) (WE W) (b.ta k W) (d.ta k W) σ H Q
  wp X ρ C P := b.wp X ρ C fun ts C1 => d.wp X ρ C1 fun us C2 => chk (Nat.beq ts.length n && Nat.beq us.length l) (appK (.obj c []) C2 0 fun m C3 => callW A (fun x C' => X x ρ C') C3 (.c m :: (ts ++ us)) fun r C4 => nonW r (P (.c m) C4))
  ok w h q := fun hk => b.ok w h fun vs H1 ts α1 C1 t1 r1 c1 p1 => d.ok (w.to t1 r1) p1 fun zs H2 us α2 C2 t2 r2 c2 p2 => by
    obtain ⟨hl, p2⟩ := chk_of p2
    obtain ⟨l1, l2⟩ := (Bool.and_eq_true _ _).mp hl
    refine ⟨(Rcs.len c1).trans (Nat.eq_of_beq_eq_true l1), (Rcs.len c2).trans (Nat.eq_of_beq_eq_true l2), fun x dx hx hdx ne => ?_⟩
    obtain ⟨r3, t3⟩ := r2.newO hk hx hdx ne
    have tt := (t1.trans t2).trans t3
    refine sp_call w tt r3 (Rcs.cons (Rc.last r2) (((c1.to t2).to t3).app (c2.to t3))) (appK_of p2) fun v' H' s' α' C' t r c p => ?_
    obtain ⟨es, p⟩ := nonW_of p
    rw [es] at c
    exact ⟨Da.non_inv c, q (.ref x) H' (.c C2.length) α' _ (tt.trans t) r ⟨x, stay t (by rw [← r2.len, List.getElem?_append_right (Nat.le_refl _), Nat.sub_self]; rfl), rfl⟩ p⟩
/-- C(e, ..); making it may raise -/
def tMakeSD (C : Addr) (sp : Sp) (dvs : List V) (E : L2.St → XK) (t : TA) : TE := fun σ H Q => t σ H fun vs H1 => ∀ x dx, H1 x = none → H1 dx = none → dx ≠ x →
  sp (.ref x :: (vs ++ dvs)) (upd (upd H1 dx (.own x)) x (.ins C dx [])) (fun v H2 => v = .non ∧ Q (.ref x) H2) (E σ)
section
variable {X : Cx} {CX : CXT} {k : Nat} {f C : Addr} {fd : FuncData} {ps : List Str} {sp : Sp} {dvs : List V} {ds : List Value} {E : L2.St → XK} {x : Str} {p pos : Pos} {e : Expr} {es : List Expr} {t : TA}
theorem pe_makeGS (M : Mk X.K C f) (F : FnG X.prog X.w X.K X.mg X.base CX k f fd ps sp) (hG : X.A.guards = some []) (hr : Room (k + 1) X.A) (hg : Gl X x) (hm : X.mg x = some (.ref C)) (hb : Binds X.K fd ps ds) (hd : Vals dvs ds) (hx : ∀ σ, PassesAt CX X σ (E σ)) (ha : PA X (e :: es) t)
    (hdb : (x == ("__debug__" : Str)) = false := by decide) (he : starEach (e :: es) X.env = (false, eval e X.env) :: starEach es X.env := by rfl) (hpl : (backTo pos (starEach es X.env)).any (·.1) = false := by rfl) :
    PE X (.Call (.Name x p) (e :: es) [] pos) (tMakeSD C sp dvs E t) := by
  constructor
  intro pins s σ H Q I h
  refine wpAny_Call_Name_kw (ld_glob I hg hm ?_ hdb)
  refine PySem.W.callWith_K (h₀ := X.base) I.ok.mod.kin M.kp (thn (ha.run pos pins s σ H _ I h) ?_) he hpl
  rintro us s1 ⟨vs, H1, I1, r, q⟩
  refine ⟨I1.kIn, ?_⟩
  have z0 := q (s1.heap.objs.size + 1) s1.heap.objs.size (I1.hok.fresh (Nat.le_succ _)) (I1.hok.fresh (Nat.le_refl _)) (Nat.ne_of_lt (Nat.lt_succ_self _))
  have J := Inv.made (C := C) I1
  have rr : Vals (V.ref (s1.heap.objs.size + 1) :: (vs ++ dvs)) (Value.ref (s1.heap.objs.size + 1) :: (us ++ ds)) := .cons rfl (r.append hd)
  have hl : (Value.ref (s1.heap.objs.size + 1) :: us ++ ds).length = ps.length := by
    have e := rr.length
    rw [F.many _ _ _ _ z0] at e
    exact e.symm
  refine wpAny_call (make_map (f := f) I1.kIn M.makes M.init (beq_iff_eq.mp M.fn) (codeAny_mono (F.run (X.A.under (.builtin "type.__call__" ⟨.ref C :: us, []⟩)) (show (X.A.under _).guards = some [] from hG) (hr.make C us []) X.stack _ _ (J.env0.make C us []) ⟨Value.ref (s1.heap.objs.size + 1) :: us, []⟩ (Value.ref (s1.heap.objs.size + 1) :: (us ++ ds)) _ (hb _ (Value.ref (s1.heap.objs.size + 1) :: us) J.kIn hl) rr _ (E σ) z0) fun r s' hq' => ?_))
  rcases r with e | (_ | _ | _ | u)
  · exact hx σ pins _ _ e s' J hq'
  · exact False.elim hq'
  · exact False.elim hq'
  · exact False.elim hq'
  · obtain ⟨v, H', I3, rv, rfl, q3⟩ := J.after hq'
    exact ⟨rv, ⟨V.ref (s1.heap.objs.size + 1), H', I3, rfl, q3⟩⟩
end
def xMakeX (c : Nat) (A : Pw) (dvs : List V) (dss : List Cv) (hd : ∀ K M H α, Rcs K M H α dvs dss) (b : XA) : XE where
  te k W := fun σ H Q => k.has c → tMakeSD (k.cl c) (spW k A) dvs (WE W) (b.ta k W) σ H Q
  wp X ρ C P := b.wp X ρ C fun ts C1 => appK (.obj c []) C1 0 fun m C1' => callW A (fun x C' => X x ρ C') C1' (.c m :: (ts ++ dss)) fun r C2 => nonW r (P (.c m) C2)
  ok w h q := fun hk => b.ok w h fun vs H1 ts α1 C1 t1 r1 c1 p1 => fun x dx hx hdx ne => by
    obtain ⟨r2, t2⟩ := r1.newO hk hx hdx ne
    refine sp_call w (t1.trans t2) r2 (Rcs.cons (Rc.last r1) ((c1.to t2).app (hd _ _ _ _))) (appK_of p1) fun v' H' s' α' C' t r c p => ?_
    obtain ⟨es, p⟩ := nonW_of p
    rw [es] at c
    exact ⟨Da.non_inv c, q (.ref x) H' (.c C1.length) α' _ ((t1.trans t2).trans t) r ⟨x, stay t (by rw [← r1.len, List.getElem?_append_right (Nat.le_refl _), Nat.sub_self]; rfl), rfl⟩ p⟩
theorem r_xMethK {k : Kx} {W : WX} (c j n l : Nat) (A : Pw) (a : XE) (b d : XA) : (xMethK c j n l A a b d).te k W = tMethK (k.cl c) (mn j) n l (spW k A) (fun _ => E0) (a.te k W) (b.ta k W) (d.ta k W) := rfl
theorem r_xMakeK {k : Kx} {W : WX} (c n l : Nat) (A : Pw) (b d : XA) : (xMakeK c n l A b d).te k W = fun σ H Q => k.has c → tMakeK2 (k.cl c) n l (spW k A) (WE W) (b.ta k W) (d.ta k W) σ H Q := rfl
theorem r_xMakeX {k : Kx} {W : WX} (c : Nat) (A : Pw) (dvs : List V) (dss : List Cv) (hd : ∀ K M H α, Rcs K M H α dvs dss) (b : XA) : (xMakeX c A dvs dss hd b).te k W = fun σ H Q => k.has c → tMakeSD (k.cl c) (spW k A) dvs (WE W) (b.ta k W) σ H Q := rfl
end DL
set_option maxRecDepth 100000
namespace DL
open PySem L2
theorem takesW0 {X : Cx} : L2.Takes X W0 := fun _ _ ⟨_, _, _, _, _, _, _, _, _, _, _, _, _, _, _, _, z⟩ => z.elim
/-! ### max(xs), min(xs) -/
def MaxLD : List PyData → PyData → Prop
  | [.list ds], z => ∃ (ns : List Int) (m : Int), ds = ns.map PyData.int ∧ ns.max? = some m ∧ z = .int m
  | _, _ => False
def MinLD : List PyData → PyData → Prop
  | [.list ds], z => ∃ (ns : List Int) (m : Int), ds = ns.map PyData.int ∧ ns.min? = some m ∧ z = .int m
  | _, _ => False
section
variable {X : Cx}
theorem call_maxLD (hc : X.calm = true) : CallR X (.builtin "max") (rC X.K MaxLD) := by
  intro pins s σ H xs us Q I rx h
  obtain ⟨M, ds, z, hM, hd, g, q⟩ := h
  match ds, g with
  | [.list ds], g =>
    obtain ⟨v, rfl, h1⟩ := Dts.one hd
    obtain ⟨a, xs, rfl, ha, hx⟩ := Dt.list_inv h1
    rw [hid_nil] at ha
    obtain ⟨ns, m, rfl, hm, rfl⟩ := g
    have e := Das.ints hx; subst e
    refine cr_max hc pins s σ H _ us Q I rx ⟨a, ns, rfl, ha, ?_, fun m' m1 m2 => q _ H (Ex.refl H) ?_⟩
    · cases ns with
      | nil => cases hm
      | cons _ _ => exact Nat.succ_pos _
    · obtain ⟨h1, h2⟩ := (List.max?_eq_some_iff (a := m)).mp hm
      have e : m' = m := Int.le_antisymm (h2 m' m1) (m2 m h1)
      rw [e]; exact .int m
theorem call_minLD (hc : X.calm = true) : CallR X (.builtin "min") (rC X.K MinLD) := by
  intro pins s σ H xs us Q I rx h
  obtain ⟨M, ds, z, hM, hd, g, q⟩ := h
  match ds, g with
  | [.list ds], g =>
    obtain ⟨v, rfl, h1⟩ := Dts.one hd
    obtain ⟨a, xs, rfl, ha, hx⟩ := Dt.list_inv h1
    rw [hid_nil] at ha
    obtain ⟨ns, m, rfl, hm, rfl⟩ := g
    have e := Das.ints hx; subst e
    refine cr_min hc pins s σ H _ us Q I rx ⟨a, ns, rfl, ha, ?_, fun m' m1 m2 => q _ H (Ex.refl H) ?_⟩
    · cases ns with
      | nil => cases hm
      | cons _ _ => exact Nat.succ_pos _
    · obtain ⟨h1, h2⟩ := (List.min?_eq_some_iff (a := m)).mp hm
      have e : m' = m := Int.le_antisymm (m2 m h1) (h2 m' m1)
      rw [e]; exact .int m
end
instance : OpB MaxLD := ⟨fun ds K => match ds with
  | [.list a] => intsW a fun ns => ∃ m, ns.max? = some m ∧ K (.int m)
  | _ => False, fun ds K h => by
    match ds, h with
    | [.list a], ⟨ns, e, m, hm, h⟩ => exact ⟨_, ⟨ns, m, e, hm, rfl⟩, h⟩⟩
instance : OpB MinLD := ⟨fun ds K => match ds with
  | [.list a] => intsW a fun ns => ∃ m, ns.min? = some m ∧ K (.int m)
  | _ => False, fun ds K h => by
    match ds, h with
    | [.list a], ⟨ns, e, m, hm, h⟩ => exact ⟨_, ⟨ns, m, e, hm, rfl⟩, h⟩⟩
theorem Kx.exs.of {k : Kx} {cs ds cs' ds' : List Nat} (h : k.exs cs ds) (h1 : ∀ c ∈ cs', c ∈ cs) (h2 : ∀ d ∈ ds', d ∈ ds) : k.exs cs' ds' := ⟨fun c m => h.own c (h1 c m), fun c m d m' => h.sub c (h1 c m) d (h2 d m'), fun c m => h.val c (h1 c m)⟩
/-! ### x += e, x -= e -/
def xsAugN (pl : Bool) (i : Nat) (e : XE) : XS where
  ts k W := tAug i (e.te k W) (ipI fun a b => if pl then a + b else a - b)
  wp X ρ C P := look ρ i fun s => isI s fun a => e.wp X ρ C fun t C1 => isI t fun b => setK ρ i (some (.d (.int (cond pl (a + b) (a - b))))) fun ρ1 => P.N ρ1 C1
  ok w h d := by
    obtain ⟨s, h1, h2⟩ := look_get h
    obtain ⟨a, rfl, h2⟩ := isI_of h2
    obtain ⟨v, e1, rv⟩ := w.en.2 _ _ h1
    have ev := Da.int_inv rv
    subst ev
    refine ⟨.int a, e1, e.ok w h2 fun u H1 t α1 C1 t1 r1 c1 p1 => ?_⟩
    obtain ⟨b, rfl, p1⟩ := isI_of p1
    have eu := Da.int_inv c1
    subst eu
    refine ⟨a, b, rfl, rfl, d.nx _ H1 _ α1 C1 t1 r1 ((w.en.to t1).set (s := .d (.int (cond pl (a + b) (a - b)))) ?_) (setK_of p1)⟩
    cases pl <;> exact Dq.int _
theorem r_xsAugNT {k : Kx} {W : WX} (i : Nat) (e : XE) : (xsAugN true i e).ts k W = tAug i (e.te k W) (ipI fun a b => a + b) := rfl
theorem r_xsAugNF {k : Kx} {W : WX} (i : Nat) (e : XE) : (xsAugN false i e).ts k W = tAug i (e.te k W) (ipI fun a b => a - b) := rfl
end DL
set_option maxRecDepth 100000
namespace DL
open PySem L2
/-! ### dict(xs) of a list of pairs (text, datum) -/
def rDictP (K : Fg) : List V → Hp → VK → Prop := fun xs H Q => ∃ (a : Addr) (ps : List Addr) (kvs : List (Key × V)), xs = [.ref a] ∧ SqL K H a (ps.map V.ref) ∧ Paired (fun p kv => SqT K H p [kV kv.1, kv.2]) ps kvs ∧ ∀ p, H p = none → Q (.ref p) (upd H p (.dK (mergeK [] kvs)))
theorem call_dictPairs {X : Cx} (hc : X.calm = true) : CallR X (.type "dict") (rDictP X.K) := call_dictP hc
def pairD (p : Str × PyData) : PyData := .tuple [.str p.1, p.2]
def pairC (p : Str × PyData) : Key × Cv := (.inr p.1, .d p.2)
theorem pairs_dt {K : Fg} {M : Ms} {H : Hp} {α : List Addr} : ∀ {ps : List (Str × PyData)} {xs : List V}, Das K M H xs (ps.map pairD) → ∃ (as : List Addr) (kvs : List (Key × V)), xs = as.map V.ref ∧ Paired (fun p kv => SqT K H p [kV kv.1, kv.2]) as kvs ∧ Rfs K M H α kvs (ps.map pairC)
  | [], xs, h => by
    cases h
    exact ⟨[], [], rfl, .nil, .nil⟩
  | (s, d) :: ps, xs, h => by
    rw [List.map_cons] at h
    cases h with
    | cons a t =>
      obtain ⟨as, kvs, rfl, h1, h2⟩ := pairs_dt (α := α) t
      obtain ⟨b, vs, rfl, hb, hv⟩ := Da.tup_inv a
      obtain ⟨v, u, rfl, e1, e2⟩ := Das.two hv
      cases e1
      exact ⟨b :: as, (.inr s, u) :: kvs, rfl, .cons (hid_t hb) h1, .cons e2 h2⟩
def xDictP (a : XE) : XE where
  te k W := tCB (rDictP k.K) (tCons (a.te k W) tNil)
  wp X ρ C P := a.wp X ρ C fun s C1 => rd C1 s fun d => isL d fun ds => ∃ ps : List (Str × PyData), ds = ps.map pairD ∧ ps.length ≤ 1000 ∧ appK (.dk (mergeC [] (ps.map pairC))) C1 0 fun m C2 => P (.c m) C2
  ok w h q := a.ok w h fun v H1 s α1 C1 t1 r1 c1 p1 => by
    obtain ⟨d, h1, p2⟩ := rd_dt r1 c1 p1
    obtain ⟨ds, rfl, p2⟩ := isL_of p2
    obtain ⟨ps, rfl, hl, p2⟩ := p2
    obtain ⟨a, xs, rfl, ha, hx⟩ := h1.list_inv
    rw [hid_nil] at ha
    obtain ⟨as, kvs, rfl, hp, hr⟩ := pairs_dt (α := α1) hx
    refine ⟨a, as, kvs, rfl, ha, hp, fun x hx => ?_⟩
    have hm : (mergeK [] kvs).length ≤ 100000 := by
      have := length_mergeK kvs []
      rw [List.length_nil, Nat.zero_add] at this
      have e := Rfs.len hr
      rw [List.length_map] at e
      omega
    obtain ⟨r2, t2⟩ := r1.newD hx (hr.merge .nil) hm
    exact q (.ref x) _ _ _ _ (t1.trans t2) r2 (Rc.last r1) (appK_of p2)
theorem r_xDictP {k : Kx} {W : WX} (a : XE) : (xDictP a).te k W = tCB (rDictP k.K) (tCons (a.te k W) tNil) := rfl
/-! ### a call that might raise, where nothing may -/
theorem passX0 {P : Program} {w : World} {X : Cx} : Passes (L2.CX P w) X L2.E0 := fun _ _ _ _ _ _ _ ⟨_, _, _, _, _, _, _, _, _, _, _, _, z⟩ => z.elim
end DL
set_option maxRecDepth 100000
namespace DL
open PySem L2
/-! ### making objects by keywords, defaults filling up -/
/-- pieces of the values, the defaults, the keywords' values, as the parameters stand -/
def segOf {α : Type} (s : Nat) (us its ws : List α) : List α := match s with
  | 0 => us
  | 1 => its
  | _ => ws
def gSeg {α : Type} (us its ws : List α) : List (Nat × Nat × Nat) → List α
  | [] => []
  | (s, i, n) :: L => ((segOf s us its ws).drop i).take n ++ gSeg us its ws L
theorem gSeg_vals {vs ds zs : List V} {us its ws : List Value} (h1 : Vals vs us) (h2 : Vals ds its) (h3 : Vals zs ws) : ∀ L, Vals (gSeg vs ds zs L) (gSeg us its ws L)
  | [] => .nil
  | (s, i, n) :: L => by
    have t := gSeg_vals h1 h2 h3 L
    unfold gSeg
    refine Vals.append (Vals.take n (Vals.drop i ?_)) t
    unfold segOf
    split
    · exact h1
    · exact h2
    · exact h3
theorem Rcs.take {K : Fg} {M : Ms} {H : Hp} {α : List Addr} : ∀ {vs : List V} {ss : List Cv} (n : Nat), Rcs K M H α vs ss → Rcs K M H α (vs.take n) (ss.take n)
  | _, _, 0, _ => by rw [List.take_zero, List.take_zero]; exact .nil
  | _, _, _ + 1, .nil => .nil
  | _, _, n + 1, .cons a t => .cons a (Rcs.take n t)
theorem Rcs.drop {K : Fg} {M : Ms} {H : Hp} {α : List Addr} : ∀ {vs : List V} {ss : List Cv} (n : Nat), Rcs K M H α vs ss → Rcs K M H α (vs.drop n) (ss.drop n)
  | _, _, 0, h => h
  | _, _, _ + 1, .nil => .nil
  | _, _, n + 1, .cons a t => Rcs.drop n t
theorem gSeg_rcs {K : Fg} {M : Ms} {H : Hp} {α : List Addr} {vs ds zs : List V} {ss dd us : List Cv} (h1 : Rcs K M H α vs ss) (h2 : Rcs K M H α ds dd) (h3 : Rcs K M H α zs us) : ∀ L, Rcs K M H α (gSeg vs ds zs L) (gSeg ss dd us L)
  | [] => .nil
  | (s, i, n) :: L => by
    have t := gSeg_rcs h1 h2 h3 L
    unfold gSeg
    refine Rcs.app (Rcs.take n (Rcs.drop i ?_)) t
    unfold segOf
    split
    · exact h1
    · exact h2
    · exact h3
abbrev KSeg (K : Fg) (fd : FuncData) (ps : List Str) (n : Nat) (ks : List Str) (L : List (Nat × Nat × Nat)) (dvs : List V) (its : List Value) : Prop := KBn K fd ps n ks (fun us ws => gSeg us its ws L) (fun vs zs => gSeg vs dvs zs L)
def tMakeKD (C : Addr) (n l : Nat) (L : List (Nat × Nat × Nat)) (dvs : List V) (sp : Sp) (E : L2.St → XK) (t tk : TA) : TE := fun σ H Q => t σ H fun vs H1 => tk σ H1 fun zs H2 => vs.length = n ∧ zs.length = l ∧ ∀ x dx, H2 x = none → H2 dx = none → dx ≠ x →
  sp (gSeg (.ref x :: vs) dvs zs L) (upd (upd H2 dx (.own x)) x (.ins C dx [])) (fun v H3 => v = .non ∧ Q (.ref x) H3) (E σ)
section
variable {X : Cx} {CX : CXT} {k n : Nat} {f C : Addr} {fd : FuncData} {ps ks : List Str} {sp : Sp} {E : L2.St → XK} {x m : Str} {p pos apos : Pos} {e o : Expr} {es : List Expr} {kws : List Keyword} {ta : TE} {t tk : TA} {L : List (Nat × Nat × Nat)} {dvs : List V} {its : List Value}
theorem run_makeKD {pins : List (Addr × Obj)} {σ : L2.St} {H : Hp} {s : Shared} {Q : VK} {us ws : List Value} {vs zs : List V} (M : Mk X.K C f) (F : FnG X.prog X.w X.K X.mg X.base CX k f fd ps sp) (hG : X.A.guards = some []) (hr : Room (k + 1) X.A) (hb : KSeg X.K fd ps (n + 1) ks L dvs its)
    (hx : PassesAt CX X σ (E σ)) (I : L2.Inv X pins σ H s) (r : Vals vs us) (rz : Vals zs ws) (l1 : vs.length = n) (l2 : zs.length = ks.length)
    (h : ∀ x dx, H x = none → H dx = none → dx ≠ x → sp (gSeg (.ref x :: vs) dvs zs L) (upd (upd H dx (.own x)) x (.ins C dx [])) (fun v H2 => v = .non ∧ Q (.ref x) H2) (E σ)) :
    wpAny (model X.prog X.w) X.A (call (.ref C) us (ks.zip ws)) (EP X pins σ Q) X.xe s := by
  have z0 := h (s.heap.objs.size + 1) s.heap.objs.size (I.hok.fresh (Nat.le_succ _)) (I.hok.fresh (Nat.le_refl _)) (Nat.ne_of_lt (Nat.lt_succ_self _))
  have J := Inv.made (C := C) I
  have rr : Vals (V.ref (s.heap.objs.size + 1) :: vs) (Value.ref (s.heap.objs.size + 1) :: us) := .cons rfl r
  have m1 : (Value.ref (s.heap.objs.size + 1) :: us).length = n + 1 := rr.length.symm.trans (congrArg Nat.succ l1)
  refine wpAny_call (make_map (f := f) I.kIn M.makes M.init (beq_iff_eq.mp M.fn) (codeAny_mono (F.run (X.A.under (.builtin "type.__call__" ⟨.ref C :: us, ks.zip ws⟩)) (show (X.A.under _).guards = some [] from hG) (hr.make C us (ks.zip ws)) X.stack _ _ (J.env0.make C us (ks.zip ws)) ⟨Value.ref (s.heap.objs.size + 1) :: us, ks.zip ws⟩ (gSeg (Value.ref (s.heap.objs.size + 1) :: us) its ws L) _ (hb.to _ _ ws J.kIn m1 (rz.length.symm.trans l2)) (hb.rel rr rz) _ (E σ) z0) fun r s' hq' => ?_))
  rcases r with e | (_ | _ | _ | u)
  · exact hx pins _ _ e s' J hq'
  · exact False.elim hq'
  · exact False.elim hq'
  · exact False.elim hq'
  · obtain ⟨v, H', I3, rv, rfl, q3⟩ := J.after hq'
    exact ⟨rv, ⟨V.ref (s.heap.objs.size + 1), H', I3, rfl, q3⟩⟩
theorem pe_makeKD (M : Mk X.K C f) (F : FnG X.prog X.w X.K X.mg X.base CX k f fd ps sp) (hG : X.A.guards = some []) (hr : Room (k + 1) X.A) (hg : Gl X x) (hm : X.mg x = some (.ref C)) (hb : ∃ its, KSeg X.K fd ps (n + 1) ks L dvs its) (hx : ∀ σ, PassesAt CX X σ (E σ)) (ha : PA X (e :: es) t) (hk : PK X kws tk)
    (hall : (backToKw pos (keywordEach kws X.env)).all (·.1.isSome) = true := by rfl) (hks : (backToKw pos (keywordEach kws X.env)).filterMap (·.1) = ks := by rfl)
    (hdb : (x == ("__debug__" : Str)) = false := by decide) (he : starEach (e :: es) X.env = (false, eval e X.env) :: starEach es X.env := by rfl)
    (hpl : ((backTo pos (starEach (e :: es) X.env)).any (·.1) || (backToKw pos (keywordEach kws X.env)).any (·.1.isNone)) = false := by rfl) :
    PE X (.Call (.Name x p) (e :: es) kws pos) (tMakeKD C n ks.length L dvs sp E t tk) := by
  obtain ⟨its, hb⟩ := hb
  constructor
  intro pins s σ H Q I h
  refine wpAny_Call_Name_kw (ld_glob I hg hm ?_ hdb)
  refine PySem.W.callWith_KW (h₀ := X.base) I.ok.mod.kin M.kp hall (thn (ha.run pos pins s σ H _ I h) fun us s1 ⟨vs, H1, I1, r, q⟩ => ?_) hpl he
  refine thn (hk.run pos pins s1 σ H1 _ I1 q) fun ws s2 ⟨zs, H2, I2, rz, l1, l2, q2⟩ => ⟨I2.kIn, ?_⟩
  rw [hks]
  exact run_makeKD M F hG hr hb (hx σ) I2 r rz l1 l2 q2
end
def xMakeKD (c n l : Nat) (L : List (Nat × Nat × Nat)) (A : Pw) (dvs : List V) (dss : List Cv) (hd : ∀ K M H α, Rcs K M H α dvs dss) (b d : XA) : XE where
  te k W := fun σ H Q => k.has c → tMakeKD (k.cl c) n l L dvs (spW k A) (WE W) (b.ta k W) (d.ta k W) σ H Q
  wp X ρ C P := b.wp X ρ C fun ts C1 => d.wp X ρ C1 fun us C2 => chk (Nat.beq ts.length n && Nat.beq us.length l) (appK (.obj c []) C2 0 fun m C3 => callW A (fun x C' => X x ρ C') C3 (gSeg (.c m :: ts) dss us L) fun r C4 => nonW r (P (.c m) C4))
  ok w h q := fun hk => b.ok w h fun vs H1 ts α1 C1 t1 r1 c1 p1 => d.ok (w.to t1 r1) p1 fun zs H2 us α2 C2 t2 r2 c2 p2 => by
    obtain ⟨hl, p2⟩ := chk_of p2
    obtain ⟨l1, l2⟩ := (Bool.and_eq_true _ _).mp hl
    refine ⟨(Rcs.len c1).trans (Nat.eq_of_beq_eq_true l1), (Rcs.len c2).trans (Nat.eq_of_beq_eq_true l2), fun x dx hx hdx ne => ?_⟩
    obtain ⟨r3, t3⟩ := r2.newO hk hx hdx ne
    have tt := (t1.trans t2).trans t3
    refine sp_call w tt r3 (gSeg_rcs (Rcs.cons (Rc.last r2) ((c1.to t2).to t3)) (hd _ _ _ _) (c2.to t3) L) (appK_of p2) fun v' H' s' α' C' t r c p => ?_
    obtain ⟨es, p⟩ := nonW_of p
    rw [es] at c
    exact ⟨Da.non_inv c, q (.ref x) H' (.c C2.length) α' _ (tt.trans t) r ⟨x, stay t (by rw [← r2.len, List.getElem?_append_right (Nat.le_refl _), Nat.sub_self]; rfl), rfl⟩ p⟩
theorem passX0S {P : Program} {w : World} {X : Cx} : ∀ σ, PassesAt (L2.CX P w) X σ ((fun _ => E0) σ) := fun _ _ _ _ _ _ _ ⟨_, _, _, _, _, _, _, _, _, _, _, _, z⟩ => z.elim
/-- the same, where nothing flies out -/
def xMakeKN (c n l : Nat) (L : List (Nat × Nat × Nat)) (A : Pw) (dvs : List V) (dss : List Cv) (hd : ∀ K M H α, Rcs K M H α dvs dss) (b d : XA) : XE where
  te k W := fun σ H Q => k.has c → tMakeKD (k.cl c) n l L dvs (spW k A) (fun _ => E0) (b.ta k W) (d.ta k W) σ H Q
  wp X ρ C P := b.wp X ρ C fun ts C1 => d.wp X ρ C1 fun us C2 => chk (Nat.beq ts.length n && Nat.beq us.length l) (appK (.obj c []) C2 0 fun m C3 => callW A (fun _ _ => False) C3 (gSeg (.c m :: ts) dss us L) fun r C4 => nonW r (P (.c m) C4))
  ok w h q := fun hk => b.ok w h fun vs H1 ts α1 C1 t1 r1 c1 p1 => d.ok (w.to t1 r1) p1 fun zs H2 us α2 C2 t2 r2 c2 p2 => by
    obtain ⟨hl, p2⟩ := chk_of p2
    obtain ⟨l1, l2⟩ := (Bool.and_eq_true _ _).mp hl
    refine ⟨(Rcs.len c1).trans (Nat.eq_of_beq_eq_true l1), (Rcs.len c2).trans (Nat.eq_of_beq_eq_true l2), fun x dx hx hdx ne => ?_⟩
    obtain ⟨r3, t3⟩ := r2.newO hk hx hdx ne
    have tt := (t1.trans t2).trans t3
    have p3 := appK_of p2
    unfold callW at p3
    obtain ⟨f, C0, ss', nd, wk, rv, hA⟩ := p3
    refine ⟨aside _ _ _ f, pick f _, C0, ss', _, _, r3.hand nd wk, ?_, hA, fun v' H' s' α' C' t r c p => ?_, fun _ _ _ _ _ _ _ _ _ z => z.elim⟩
    · exact Rcs.mono (fun a m => (aside_h r3 wk).mp m) ((gSeg_rcs (Rcs.cons (Rc.last r2) ((c1.to t2).to t3)) (hd _ _ _ _) (c2.to t3) L).ren (wk_lt r3 wk) rv)
    · obtain ⟨α4, bk⟩ := back r3 nd wk t r
      obtain ⟨es, p⟩ := nonW_of p
      have bv := bk.val c
      rw [es] at bv
      refine ⟨Da.non_inv bv, q (.ref x) H' (.c C2.length) α4 _ (tt.trans bk.to) bk.rep ?_ p⟩
      exact ⟨x, stay bk.to (by rw [← r2.len, List.getElem?_append_right (Nat.le_refl _), Nat.sub_self]; rfl), rfl⟩
theorem r_xMakeKN {k : Kx} {W : WX} (c n l : Nat) (L : List (Nat × Nat × Nat)) (A : Pw) (dvs : List V) (dss : List Cv) (hd : ∀ K M H α, Rcs K M H α dvs dss) (b d : XA) : (xMakeKN c n l L A dvs dss hd b d).te k W = fun σ H Q => k.has c → tMakeKD (k.cl c) n l L dvs (spW k A) (fun _ => E0) (b.ta k W) (d.ta k W) σ H Q := rfl
theorem r_xMakeKD {k : Kx} {W : WX} (c n l : Nat) (L : List (Nat × Nat × Nat)) (A : Pw) (dvs : List V) (dss : List Cv) (hd : ∀ K M H α, Rcs K M H α dvs dss) (b d : XA) : (xMakeKD c n l L A dvs dss hd b d).te k W = fun σ H Q => k.has c → tMakeKD (k.cl c) n l L dvs (spW k A) (WE W) (b.ta k W) (d.ta k W) σ H Q := rfl
/-! ### a tuple so many times, perhaps none -/
section
open PySem.Spec PyProof.Rows
theorem tuple_mul0 (l : Addr) (items : Array Value) (n : Nat) (sl : Array (Option Value)) (dd : Option Addr) (u : Tok) (c1 : items.isEmpty = false) :
    Meets (Builtin.«tuple.__mul__» ⟨[.ref l, .int 0 u], []⟩) (fun _ R s => s.heap.get? l = some { cls := .type "tuple", dict := dd, data := .seq items n, slots := sl } ∧ R (.ok (.ret (Value.ref s.heap.objs.size))) { s with heap := s.heap.push { cls := Value.type "tuple", data := Data.seq #[] }, toks := s.toks }) :=
  .of_wp fun prog w A R s h => by
    obtain ⟨hp, g, d, tk, os⟩ := s
    obtain ⟨hl, h⟩ := h
    have f1 := AutoSeq1.idx_int
    wp_walk using wpAny_loadPart' hl
    repeat (first
      | (refine wpAny_ite_false (by decide) ?_; wp_walk using wpAny_loadPart' hl)
      | (refine wpAny_ite_false (by rw [c1]; decide) ?_; wp_walk using wpAny_loadPart' hl)
      | (refine wpAny_ite_true (by simp) ?_; wp_walk using wpAny_loadPart' hl))
    exact ⟨_, rfl, h⟩
def rRepT0 (K : Fg) : R2 := fun x y H Q => ∃ l xs, x = .ref l ∧ y = .int 0 ∧ SqT K H l xs ∧ xs ≠ [] ∧ ∀ p, H p = none → Q (.ref p) (upd H p (.tup []))
section
variable {X : Cx}
open PySem.Spec PyProof.Rows in
theorem op_repT0 : OpR X (binaryOp .Mult) (rRepT0 X.K) := by
  intro pins s σ H x y v u Q I rx ry h
  obtain ⟨l, xs, rfl, rfl, hT, hne, q⟩ := h
  cases rx
  obtain ⟨t, rfl⟩ := ry
  obtain ⟨its, r, ⟨⟨cls, dd, data, sl⟩, ho, hc, n, hd⟩, hs⟩ := I.tuple hT
  simp only at hc hd
  subst hc hd
  have hn : its.toArray.isEmpty = false := by
    cases its with
    | nil =>
      have := r.length
      exact absurd (List.eq_nil_of_length_eq_zero this) hne
    | cons a b => rfl
  refine wpAny_binaryOp_repeat_ref (T := "tuple") (U := "int") (by decide) ⟨_, ho, rfl⟩ (fun s' => typeIs_int s' 0 t) noFill_tuple_mul PySem.F.fills_int_mul PySem.F.slot_int_rmul repeat_tuple PySem.F.slot_int_index.lookup
    (call_meets PySem.F.slot_int_rmul (typeIs_int s 0 t) PySem.F.entry_int_rmul (PySem.F.args_int_rmul_2 _ _) (int_rmul_tuple 0 t l its.toArray n dd sl)
      ⟨ho, rfl, ⟨_, ho, rfl⟩, call_meets PySem.F.slot_tuple_mul ⟨_, ho, rfl⟩ PySem.F.entry_tuple_mul (PySem.F.args_tuple_mul_2 _ _) (tuple_mul0 l its.toArray n sl dd t hn) ⟨ho, ?_⟩⟩)
  refine ⟨.ref s.heap.objs.size, _, I.laid (t' := s.toks) (o := .tup []) (fun b ob q => Heap.get?_push_of_some _ q) (Nat.le_refl _) ?_, rfl, q _ (I.hok.fresh (Nat.le_refl _))⟩
  exact ⟨Nat.zero_le _, [], .nil, IsTup.new _ _⟩
def TRepZ : PyData → PyData → PyData → Prop
  | .tuple a, .int k, z => a ≠ [] ∧ 0 ≤ k ∧ k ≤ 1000 ∧ a.length ≤ 1000 ∧ z = .tuple (List.replicate k.toNat a).flatten
  | _, _, _ => False
theorem op_repTZ : OpR X (binaryOp .Mult) (rB X.K TRepZ) := by
  intro pins s σ H x y v u Q I rx ry h
  obtain ⟨M, d, e, z, hM, hd, he, g, q⟩ := h
  by_cases k0 : e = .int 0
  · subst k0
    cases d <;> try exact g.elim
    rename_i ds
    obtain ⟨g1, g2, g3, g4, rfl⟩ := g
    obtain ⟨a, xs, rfl, ha, hx⟩ := hd.tup_inv
    have e2 := he.int_inv; subst e2
    have hn : xs ≠ [] := fun z => g1 (List.eq_nil_of_length_eq_zero (by rw [← Das.len hx, z]; rfl))
    exact op_repT0 pins s σ H _ _ v u Q I rx ry ⟨a, xs, rfl, rfl, hid_t ha, hn, fun p hp => q _ _ (Ex.new hp) (Da.new_tup hM hp .nil)⟩
  · refine op_repTD pins s σ H x y v u Q I rx ry ⟨M, d, e, z, hM, hd, he, ?_, q⟩
    cases d <;> cases e <;> try exact g.elim
    rename_i ds k
    obtain ⟨g1, g2, g3, g4, rfl⟩ := g
    exact ⟨g1, by have : k ≠ 0 := fun h => k0 (by rw [h]); omega, g3, g4, rfl⟩
end
instance : Op2 TRepZ := ⟨fun d e K => match d, e with
  | .tuple a, .int k => (a ≠ [] ∧ 0 ≤ k ∧ k ≤ 1000 ∧ a.length ≤ 1000) ∧ K (.tuple (List.replicate k.toNat a).flatten)
  | _, _ => False, fun d e K h => by cases d <;> cases e <;> first | exact h.elim | exact ⟨_, ⟨h.1.1, h.1.2.1, h.1.2.2.1, h.1.2.2.2, rfl⟩, h.2⟩⟩
end
end DL
set_option maxRecDepth 100000
namespace DL
open PySem L2
/-! ### d.get(k, e) -/
def xDGetD (o a b : XE) : XE where
  te k W := tDGet2 (o.te k W) (a.te k W) (b.te k W)
  wp X ρ C P := o.wp X ρ C fun s C1 => isC s fun n => dkAt C1 n fun _ => a.wp X ρ C1 fun t C2 => b.wp X ρ C2 fun u C3 => keyW t fun key => dkAt C3 n fun es => P ((valC es key).getD u) C3
  ok w h q := o.ok w h fun v H1 s α1 C1 t1 r1 c1 p1 => by
    obtain ⟨n, p, rfl, hp, rfl, p1⟩ := isC_of c1 p1
    obtain ⟨es0, hc0, p1⟩ := dkAt_of p1
    obtain ⟨vs0, h0, _, _⟩ := r1.dkOf hp hc0
    refine ⟨p, rfl, .inl ⟨_, .inl h0⟩, a.ok (w.to t1 r1) p1 fun y H2 t α2 C2 t2 r2 c2 p2 => b.ok ((w.to t1 r1).to t2 r2) p2 fun z H3 u α3 C3 t3 r3 c3 p3 => ?_⟩
    obtain ⟨key, rfl, p3⟩ := keyW_of c2 p3
    obtain ⟨es, hc, p3⟩ := dkAt_of p3
    obtain ⟨vs, h1, h2, h3⟩ := r3.dkOf (stay t3 (stay t2 hp)) hc
    refine ⟨_, DGet.k (k := key) h1, q _ H3 _ α3 C3 ((t1.trans t2).trans t3) r3 ?_ p3⟩
    cases e : valC es key with
    | none =>
      rw [(h2.val key).2 e]
      exact c3
    | some y =>
      obtain ⟨z', hz, rz⟩ := (h2.val key).1 y e
      rw [hz]
      exact rz
theorem r_xDGetD {k : Kx} {W : WX} (o a b : XE) : (xDGetD o a b).te k W = tDGet2 (o.te k W) (a.te k W) (b.te k W) := rfl
/-! ### xs[i], xs[j] = x, y -/
def xsSwap (o i j : Nat) (a : XA) : XS where
  ts k W := tAsg (tTup (a.ta k W)) (gTup k.K 2 (gCons (gSub (tVar o) (tVar i) rSetL) (gCons (gSub (tVar o) (tVar j) rSetL) gNil)))
  wp X ρ C P := a.wp X ρ C fun ss C1 => two ss fun s t => look ρ o fun u => isC u fun n => look ρ i fun x => isI x fun k1 => look ρ j fun y => isI y fun k2 => fz C1 s fun d1 C2 => fz C2 t fun d2 C3 => lstAt C3 n fun ds => ixnW ds.length k1 fun m1 => ixnW ds.length k2 fun m2 => setK C3 n (.lst ((ds.set m1 d1).set m2 d2)) fun C4 => P.N ρ C4
  ok {k B α C H σ ρ W X P D} w h d := a.ok w h fun vs H1 ss α1 C1 t1 r1 c1 p1 => by
    cases c1 with
    | nil => exact p1.elim
    | cons c1 cr =>
      cases cr with
      | nil => exact p1.elim
      | cons c2 cr =>
        cases cr with
        | cons _ _ => exact p1.elim
        | nil =>
          rename_i v s v2 s2
          have p1 : look ρ o _ := p1
          obtain ⟨u, g1, p2⟩ := look_get p1
          refine ⟨show 2 ≤ sizeLine by decide, fun T hT => ?_⟩
          have tT := r1.ex (H' := upd H1 T (.tup [v, v2])) (Ex.new hT)
          have rT := r1.keep (H' := upd H1 T (.tup [v, v2])) (Ex.new hT)
          have en := (w.en.to t1).to tT
          obtain ⟨ov, e1, rv⟩ := en.2 o u g1
          obtain ⟨n, p, rfl, hp, rfl, p2⟩ := isC_of rv p2
          obtain ⟨x, g2, p3⟩ := look_get p2
          obtain ⟨xv, e2, rx⟩ := en.2 i x g2
          obtain ⟨k1, q1, p3'⟩ := isI_of p3
          subst q1
          have q1 := Da.int_inv rx
          subst q1
          obtain ⟨y, g3, p4⟩ := look_get p3'
          obtain ⟨yv, e3, ry⟩ := en.2 j y g3
          obtain ⟨k2, q2, p4'⟩ := isI_of p4
          subst q2
          have q2 := Da.int_inv ry
          subst q2
          obtain ⟨d1, C4, r4, t4, h4, p5⟩ := fz_da rT (c1.to tT) p4'
          obtain ⟨d2, C5, r5, t5, h5, p6⟩ := fz_da r4 ((c2.to tT).to t4) p5
          obtain ⟨ds, xs, e6, hx, hd, p7⟩ := lstAt_of r5 hp p6
          obtain ⟨m1, hm1, p8⟩ := ixnW_of p7
          obtain ⟨m2, hm2, p9⟩ := ixnW_of p8
          have h4' := dp_ex t5.hid _ _ h4
          obtain ⟨r6, t6⟩ := r5.putL hp e6 (Das.set h5 m2 (Das.set h4' m1 hd))
          have lx := Das.len hd
          refine ⟨T, [v, v2], rfl, .inl (.inl upd_same), rfl, v, [v2], rfl, .ref p, e1, .int k1, e2, p, xs, k1, m1, rfl, rfl, hx, by rw [lx]; exact hm1, v2, [], rfl, .ref p, e1, .int k2, e3, p, _, k2, m2, rfl, rfl, upd_same, by rw [List.length_set, lx]; exact hm2, rfl, ?_⟩
          have e : upd (upd (upd H1 T (.tup [v, v2])) p (.lst (xs.set m1 v))) p (.lst ((xs.set m1 v).set m2 v2)) = upd (upd H1 T (.tup [v, v2])) p (.lst ((xs.set m1 v).set m2 v2)) := by
            funext b
            by_cases q : b = p
            · subst q; rw [upd_same, upd_same]
            · rw [upd_ne q, upd_ne q, upd_ne q]
          rw [e]
          have tt := (((t1.trans tT).trans t4).trans t5).trans t6
          exact d.nx _ _ _ _ _ tt r6 (w.en.to tt) (setK_of p9)
theorem r_xsSwap {k : Kx} {W : WX} (o i j : Nat) (a : XA) : (xsSwap o i j a).ts k W = tAsg (tTup (a.ta k W)) (gTup k.K 2 (gCons (gSub (tVar o) (tVar i) rSetL) (gCons (gSub (tVar o) (tVar j) rSetL) gNil))) := rfl
/-! ### the place of a text in a constant tuple of texts -/
def Kx.tupl (k : Kx) (i : Nat) : Prop := ∃ o, k.K.lookup (k.ga i) = some o ∧ o.cls = .type "tuple" ∧ o.dict = none
def rTI (K : Fg) : V → List V → Hp → VK → Prop := fun x xs H Q => ∃ p, ∃ ys : List Str, ∃ z j, x = .ref p ∧ xs = [.str z] ∧ SqT K H p (ys.map V.str) ∧ ys[j]? = some z ∧ (∀ m, m < j → ys[m]? ≠ some z) ∧ Q (.int (j : Nat)) H
theorem mt_tupI {X : Cx} : MtR X "tuple.index" (rTI X.K) := mt_tup_index
theorem strs_das {K : Fg} {M : Ms} {H : Hp} : ∀ {ss : List Str} {xs : List V}, Das K M H xs (ss.map .str) → xs = ss.map V.str
  | [], _, h => by cases h; rfl
  | s :: ss, _, h => by
    rw [List.map_cons] at h
    cases h with
    | cons a t =>
      have e := Da.str_inv a
      subst e
      rw [strs_das t]; rfl
def xGTIndex (i : Nat) (ss : List Str) (a : XE) : XE where
  te k W := fun σ H Q => k.holds i (.tuple (ss.map .str)) → k.tupl i → tBM k.K "tuple" (rTI k.K) (tC (.ref (k.ga i))) (tCons (a.te k W) tNil) σ H Q
  wp X ρ C P := a.wp X ρ C fun t C1 => isS t fun z => ∃ j : Nat, ss[j]? = some z ∧ (∀ m, m < j → ss[m]? ≠ some z) ∧ P (.d (.int j)) C1
  ok {k B α C H σ ρ W X P Q} w h q := fun hh hl => ⟨.inr (.inl ⟨rfl, hl⟩), a.ok w h fun v H1 s α1 C1 t1 r1 c1 p1 => by
    obtain ⟨z, rfl, p1⟩ := isS_of p1
    have e := Da.str_inv c1
    subst e
    obtain ⟨j, h1, h2, p2⟩ := p1
    obtain ⟨p, xs, e, hs, hd⟩ := Da.tup_inv (hh (ms B α1 C1) H1)
    cases e
    have e := strs_das hd
    subst e
    exact ⟨_, ss, z, j, rfl, rfl, hid_t hs, h1, h2, q _ H1 (.d (.int j)) α1 C1 t1 r1 (Dq.int _) p2⟩⟩
theorem r_xGTIndex {k : Kx} {W : WX} (i : Nat) (ss : List Str) (a : XE) : (xGTIndex i ss a).te k W = fun σ H Q => k.holds i (.tuple (ss.map .str)) → k.tupl i → tBM k.K "tuple" (rTI k.K) (tC (.ref (k.ga i))) (tCons (a.te k W) tNil) σ H Q := rfl
/-! ### a text among the keys of a constant dict -/
def keyS : Value → Option Str
  | .str x _ => some x
  | _ => none
def Kx.dkeys (k : Kx) (i : Nat) (ns : List Str) : Prop := ∃ es n, KDict k.K k.w (k.ga i) es n ∧ es.toList.map (fun e => keyS e.key) = ns.map some
def rInKD (k : Kx) (i : Nat) (ns : List Str) (b : Bool) : R2 := fun x y H Q => ∃ z : Str, x = .str z ∧ y = .ref (k.ga i) ∧ Q (.bl (cond b (ns.any fun n => decide (n = z)) (!(ns.any fun n => decide (n = z))))) H
theorem ns_kd {K : Fg} {w : World} {d : Addr} {es : Array DictEntry} {n : Nat} {ns : List Str} (D : KDict K w d es n) (hk : es.toList.map (fun e => keyS e.key) = ns.map some) (z : Str) : ∃ r, PySem.W.nsIn K d z = some r ∧ r.isSome = ns.any fun n => decide (n = z) := by
  have lit := PySem.W.KeysLit.all D.lit
  have e1 : (es.toList.any fun e => e.refKey) = false := by
    rw [List.any_eq_false]
    intro e he
    obtain ⟨x, t, ek, _⟩ := lit e he
    unfold DictEntry.refKey
    rw [ek]
    exact Bool.false_ne_true
  have e2 : (es.toList.any fun e => e.key.isStr z) = ns.any fun n => decide (n = z) := by
    have : ∀ (l : List DictEntry) (ns : List Str), l.map (fun e => keyS e.key) = ns.map some → (l.any fun e => e.key.isStr z) = ns.any fun n => decide (n = z) := by
      intro l
      induction l with
      | nil =>
        intro ns h
        cases ns with
        | nil => rfl
        | cons _ _ => cases h
      | cons e l ih =>
        intro ns h
        cases ns with
        | nil => cases h
        | cons m ns =>
          rw [List.map_cons, List.map_cons, List.cons.injEq] at h
          rw [List.any_cons, List.any_cons, ih ns h.2]
          congr 1
          have h1 := h.1
          cases ek : e.key <;> rw [ek] at h1 <;> try cases h1
          show (_ == z) = decide (_ = z)
          by_cases q : m = z
          · rw [decide_eq_true q]; exact beq_iff_eq.mpr q
          · rw [decide_eq_false q]; exact beq_eq_false_iff_ne.mpr q
    exact this _ _ hk
  unfold PySem.W.nsIn
  rw [D.at_]
  dsimp only
  cases ef : es.toList.find? (fun e => e.key.isStr z) with
  | some e =>
    refine ⟨_, rfl, ?_⟩
    rw [← e2]
    exact (List.any_eq_true.mpr ⟨e, List.mem_of_find?_eq_some ef, List.find?_some (p := fun e : DictEntry => e.key.isStr z) ef⟩).symm
  | none =>
    rw [e1]
    refine ⟨none, rfl, ?_⟩
    rw [← e2]
    symm
    rw [Option.isSome_none, List.any_eq_false]
    exact fun e he => List.find?_eq_none.mp ef e he
theorem op_inKD {X : Cx} {k : Kx} {i : Nat} {ns : List Str} (hK : X.K = k.K) (hw : X.w = k.w) (hd : k.dkeys i ns) : OpR X (compareOp .In) (rInKD k i ns true) := by
  obtain ⟨es, n, D, hk⟩ := hd
  rw [← hK, ← hw] at D
  intro pins s σ H x y v u Q I rx ry h
  obtain ⟨z, e1, e2, q⟩ := h
  obtain ⟨r, hr, er⟩ := ns_kd D hk z
  exact op_in_kd D pins s σ H x y v u Q I rx ry ⟨z, r, e1, e2, hr, by rw [er]; exact q⟩
theorem op_notInKD {X : Cx} {k : Kx} {i : Nat} {ns : List Str} (hK : X.K = k.K) (hw : X.w = k.w) (hd : k.dkeys i ns) : OpR X (compareOp .NotIn) (rInKD k i ns false) := by
  obtain ⟨es, n, D, hk⟩ := hd
  rw [← hK, ← hw] at D
  intro pins s σ H x y v u Q I rx ry h
  obtain ⟨z, e1, e2, q⟩ := h
  obtain ⟨r, hr, er⟩ := ns_kd D hk z
  exact op_notIn_kd D pins s σ H x y v u Q I rx ry ⟨z, r, e1, e2, hr, by rw [er]; exact q⟩
def xGDIn (b : Bool) (i : Nat) (ns : List Str) (a : XE) : XE where
  te k W := fun σ H Q => k.dkeys i ns → tOp (rInKD k i ns b) (a.te k W) (tC (.ref (k.ga i))) σ H Q
  wp X ρ C P := a.wp X ρ C fun s C1 => isS s fun z => P (.d (.bool (cond b (ns.any fun n => decide (n = z)) (!(ns.any fun n => decide (n = z)))))) C1
  ok w h q := fun _ => a.ok w h fun v H1 s α1 C1 t1 r1 c1 p1 => by
    obtain ⟨z, rfl, p1⟩ := isS_of p1
    have e := Da.str_inv c1
    subst e
    exact ⟨z, rfl, rfl, q _ H1 (.d (.bool _)) α1 C1 t1 r1 (Dq.bl _) p1⟩
theorem r_xGDIn {k : Kx} {W : WX} (b : Bool) (i : Nat) (ns : List Str) (a : XE) : (xGDIn b i ns a).te k W = fun σ H Q => k.dkeys i ns → tOp (rInKD k i ns b) (a.te k W) (tC (.ref (k.ga i))) σ H Q := rfl
end DL
set_option maxRecDepth 100000
namespace DL
open PySem L2
/-! ### len(set(xs)), xs a list or a tuple of numbers or texts -/
def hasK (σ : List Key) (v : Key) : Bool := σ.any fun a => decide (a = v)
theorem hasK_iff {σ : List Key} {v : Key} : hasK σ v = true ↔ v ∈ σ := by
  unfold hasK
  rw [List.any_eq_true]
  exact ⟨fun ⟨a, h, e⟩ => of_decide_eq_true e ▸ h, fun h => ⟨v, h, decide_eq_true rfl⟩⟩
def stepK (σ : List Key) (v : Key) : List Key := if hasK σ v = true then σ else σ ++ [v]
theorem setOf_congrK {P : Program} {w : World} {h : Heap} {a : Addr} {S S' : Key → Bool} {n n' : Nat} (hS : h.SetOf (mixKind P w) a S n) (e : ∀ k, S k = S' k) (en : n = n') : h.SetOf (mixKind P w) a S' n' := by
  have : S = S' := funext e
  subst this; subst en; exact hS
def distK (ks : List Key) : List Key := ks.foldl stepK []
theorem stepK_mem (σ : List Key) (v k : Key) : k ∈ stepK σ v ↔ k ∈ σ ∨ k = v := by
  unfold stepK
  split
  · rename_i h
    constructor
    · exact .inl
    · rintro (h1 | rfl)
      · exact h1
      · exact hasK_iff.mp h
  · rw [List.mem_append, List.mem_singleton]
theorem distK_snoc (ks : List Key) (v : Key) : distK (ks ++ [v]) = stepK (distK ks) v := by
  unfold distK
  rw [List.foldl_append]; rfl
theorem distK_len (ks : List Key) : (distK ks).length ≤ ks.length := by
  have : ∀ (ks : List Key) (σ : List Key), (ks.foldl stepK σ).length ≤ σ.length + ks.length := by
    intro ks
    induction ks with
    | nil => intro σ; exact Nat.le_refl _
    | cons k ks ih =>
      intro σ
      rw [List.foldl_cons]
      refine Nat.le_trans (ih _) ?_
      have : (stepK σ k).length ≤ σ.length + 1 := by unfold stepK; split <;> simp
      rw [List.length_cons]; omega
  have h := this ks []
  rw [List.length_nil, Nat.zero_add] at h
  exact h
/-! ### sets of numbers or texts that can be walked -/
/-- the table can be walked -/
def TabOk (w : World) (t : SetTable) : Prop := Ris t.place.toList ∧ (w.params.followText "set-order" = true ∨ t.led = true)
def entK (e : Int × Value) : Key := match e.2 with
  | .int k _ => .inl k
  | .str x _ => .inr x
  | _ => .inl 0
theorem entK_of {e : Int × Value} {k : Key} (r : RelV (kV k) e.2) : entK e = k := by
  obtain ⟨i, v⟩ := e
  cases k with
  | inl i =>
    obtain ⟨t, q⟩ := (show ∃ t, v = Value.int i t from r)
    subst q; rfl
  | inr x =>
    obtain ⟨t, q⟩ := (show ∃ t, v = Value.str x t from r)
    subst q; rfl
/-- the entries hold the keys σ -/
structure EntsOk (P : Program) (w : World) (l : List (Int × Value)) (σ : List Key) : Prop where
  el : ElemsOf (mixKind P w) l
  vals : ∀ e ∈ l, ∃ k, RelV (kV k) e.2
  pm : (l.map entK).Perm σ
def SetRK (P : Program) (w : World) (h : Heap) (a : Addr) (σ : List Key) : Prop :=
  ∃ o es ep t, h.get? a = some o ∧ o.ExactSet ∧ o.data = .set es ep t ∧ EntsOk P w es.toList σ ∧ es.size < scanBound ∧ t.fits es.size = true ∧ TabOk w t
section
variable {P : Program} {w : World} {A : Around} {E : Value → Shared → Prop} {s : Shared} {a : Addr} {σ τ : List Key}
theorem EntsOk.perm {l l' : List (Int × Value)} (h : EntsOk P w l σ) (p : l'.Perm l) : EntsOk P w l' σ :=
  ⟨h.el.perm p, fun e m => h.vals e (p.mem_iff.mp m), (p.map entK).trans h.pm⟩
theorem EntsOk.is_iff {l : List (Int × Value)} (h : EntsOk P w l σ) {e : Int × Value} (m : e ∈ l) (k : Key) : (mixKind P w).is k e.2 = true ↔ entK e = k := by
  obtain ⟨k0, r⟩ := h.vals e m
  rw [entK_of r]
  exact ⟨fun q => (mixKind P w).inj _ _ _ (kV_is r) q, fun q => q ▸ kV_is r⟩
theorem EntsOk.size {es : Array (Int × Value)} (h : EntsOk P w es.toList σ) : es.size = σ.length := by
  rw [← Array.length_toList, ← List.length_map (f := entK), h.pm.length_eq]
theorem SetRK.move {h h' : Heap} (R : SetRK P w h a σ) (k : ∀ o, h.get? a = some o → h'.get? a = some o) : SetRK P w h' a σ := by
  obtain ⟨o, es, ep, t, ho, r⟩ := R
  exact ⟨o, es, ep, t, k o ho, r⟩
/-- the entries are stored, and laid anew where the table is too full -/
theorem put_tail {g : Bool → Sem Unit} (hg : ∀ (b : Bool) (s₁ : Shared) (Q' : Unit → Shared → Prop), Q' () s₁ → wpAny (model P w) A (g b) Q' E s₁)
    {o : Obj} {es : Array (Int × Value)} {ep : Nat} {t : SetTable} (ho : s.heap.get? a = some o) (hex : o.ExactSet) (hd : o.data = .set es ep t)
    {fs : Array (Int × Value)} {u : SetTable} (he : EntsOk P w fs.toList τ) (hb : fs.size < scanBound) (hf : u.fits fs.size = true) (hu : TabOk w u) {dm : Bool} {R : Option Bool → Shared → Prop}
    (hR : ∀ h', Heap.SameBut a s.heap h' → SetRK P w h' a τ → R (some true) { s with heap := h' }) :
    wpAny (model P w) A (storeSet a fs u >>= fun _ => if (!dm && u.tooFull) = true then
        (g (relayAll u fs (SetTable.grown fs.size)).2.2 >>= fun _ => storeSet a (relayAll u fs (SetTable.grown fs.size)).1 (relayAll u fs (SetTable.grown fs.size)).2.1 >>= fun _ => pure (some true))
      else pure (some true)) R E s := by
  have at1 := store_at (es' := fs) (t' := u) ho hd
  have sb := Heap.SameBut.update s.heap a (Obj.putSet fs u)
  refine wpAny_bind (wpAny_storeSet_of ho hd ?_ (fits_of_scanBound hb))
  split
  · have p1 := relayAll_perm u fs (SetTable.grown fs.size)
    have p2 := relayAll_fits u fs (SetTable.grown fs.size)
    have p3 : TabOk w (relayAll u fs (SetTable.grown fs.size)).2.1 := ⟨relayAll_ris u fs _, hu.2.imp id fun z => by rw [relayAll_led]; exact z⟩
    revert p1 p2 p3
    generalize relayAll u fs (SetTable.grown fs.size) = Z
    obtain ⟨gs, v, gv⟩ := Z
    intro p1 p2 p3
    have p1 : gs.toList.Perm fs.toList := p1
    have sz : gs.size = fs.size := by rw [← Array.length_toList, p1.length_eq, Array.length_toList]
    have hb2 : gs.size < scanBound := by omega
    refine wpAny_bind (hg _ _ _ ?_)
    refine wpAny_bind (wpAny_storeSet_of at1 rfl ?_ (fits_of_scanBound hb2))
    exact wpAny_pure (hR _ (sb.trans (Heap.SameBut.update _ a _)) ⟨_, gs, _, v, store_at (es' := gs) (t' := v) at1 rfl, hex, rfl, he.perm p1, hb2, p2, p3⟩)
  · exact wpAny_pure (hR _ sb ⟨_, fs, _, u, at1, hex, rfl, he, hb, hf, hu⟩)
theorem setRK_add {k : Key} {x : Value} {Q : Bool → Shared → Prop} (hx : RelV (kV k) x) (R : SetRK P w s.heap a σ) (room : σ.length + 1 < scanBound)
    (hQ : ∀ (b : Bool) (h' : Heap), Heap.SameBut a s.heap h' → SetRK P w h' a (stepK σ k) → Q b { s with heap := h' }) :
    wpAny (model P w) A (setAddHashed a x ((mixKind P w).hash k)) Q E s := by
  obtain ⟨o, es, ep, t, ho, hex, hd, he, hb, hf, hu⟩ := R
  have sc := key_scan hx
  have isx : (mixKind P w).is k x = true := kV_is hx
  have rules : ∀ (b : Bool) (s₁ : Shared) (Q' : Unit → Shared → Prop), Q' () s₁ → wpAny (model P w) A (match b with | true => rule "set.scan.the-table-gave-way" | false => pure ()) Q' E s₁ :=
    fun b s₁ Q' q => by
      cases b
      · exact wpAny_pure q
      · exact wpAny_rule q
  unfold setAddHashed setAddHashedIn
  refine wpAny_holding (wpAny_bind (wpAny_setState_of ho hd hf ?_))
  simp only [byScan_of sc hb he.el, if_true]
  unfold setAddByScan
  refine wpAny_bind (wpAny_bind (wpAny_rule (wpAny_bind (wpAny_setScan_of isx ho hd hf he.el ?_))))
  cases fi : List.findIdx? (fun e => (mixKind P w).is k e.2) es.toList with
  | some j =>
    obtain ⟨hj, pj, _⟩ := List.findIdx?_eq_some_iff_getElem.mp fi
    have mk : k ∈ σ := he.pm.mem_iff.mp (List.mem_map.mpr ⟨es.toList[j], List.getElem_mem hj, (he.is_iff (List.getElem_mem hj) k).mp pj⟩)
    refine wpAny_pure (wpAny_pure (hQ _ s.heap (Heap.SameBut.refl a s.heap) ⟨o, es, ep, t, ho, hex, hd, ?_, hb, hf, hu⟩))
    rw [stepK, if_pos (hasK_iff.mpr mk)]; exact he
  | none =>
    have nk : ¬ hasK σ k = true := fun q => by
      obtain ⟨e, m, q⟩ := List.mem_map.mp (he.pm.mem_iff.mpr (hasK_iff.mp q))
      have := List.findIdx?_eq_none_iff.mp fi e m
      rw [(he.is_iff m k).mpr q] at this
      cases this
    have p1 := layNew_perm t es ((mixKind P w).hash k) x
    have p2 := layNew_fits t es ((mixKind P w).hash k) x
    have p3 : TabOk w (layNew t es ((mixKind P w).hash k) x).2.1 := ⟨layNew_ris t es _ x hu.1, hu.2.imp id fun z => by rw [layNew_led]; exact z⟩
    dsimp only
    revert p1 p2 p3
    generalize layNew t es ((mixKind P w).hash k) x = Z
    obtain ⟨fs, u, dm, gv⟩ := Z
    intro p1 p2 p3
    have p1 : fs.toList.Perm (es.toList ++ [((mixKind P w).hash k, x)]) := by rw [← Array.toList_push]; exact p1
    have he1 : EntsOk P w fs.toList (stepK σ k) := by
      refine ⟨(he.el.push isx sc).perm p1, fun e m => ?_, ?_⟩
      · rcases List.mem_append.mp (p1.mem_iff.mp m) with m | m
        · exact he.vals e m
        · rw [List.mem_singleton.mp m]; exact ⟨k, hx⟩
      · rw [stepK, if_neg nk]
        refine (p1.map entK).trans ?_
        rw [List.map_append]
        refine List.Perm.append he.pm ?_
        rw [List.map_cons, entK_of (e := ((mixKind P w).hash k, x)) hx]
        exact .refl _
    have hb1 : fs.size < scanBound := by
      rw [he1.size, stepK, if_neg nk, List.length_append]; exact room
    refine wpAny_bind (rules _ _ _ ?_)
    split
    · refine wpAny_bind ?_
      rw [hashByValue_scannable 8 sc]
      refine wpAny_pure ?_
      refine put_tail rules ho hex hd he1 hb1 ?_ ?_ fun h' sb r => wpAny_pure (hQ _ h' sb r)
      · split
        · exact p2
        · exact SetTable.fits_plain_off p2
      · split
        · exact p3
        · exact ⟨p3.1, p3.2⟩
    · refine wpAny_bind (wpAny_pure ?_)
      simp only [if_true]
      exact put_tail rules ho hex hd he1 hb1 p2 p3 fun h' sb r => wpAny_pure (hQ _ h' sb r)
end
theorem fitsT (led : Bool) : (SetTable.fresh 0 0 led).fits 0 = true := by cases led <;> rfl
theorem setRK_new {P : Program} {w : World} {h : Heap} {a : Addr} {led : Bool} (hl : w.params.followText "set-order" = true ∨ led = true) (ho : h.get? a = some { cls := .type "set", dict := none, data := .set #[] 0 (.fresh 0 0 led) }) : SetRK P w h a [] :=
  ⟨_, #[], 0, _, ho, ⟨rfl, rfl, rfl⟩, rfl, ⟨(fun _ m => nomatch m), (fun _ m => nomatch m), .nil⟩, by decide, by cases led <;> rfl, List.Pairwise.nil, hl⟩
theorem SetRK.setOf {P : Program} {w : World} {h : Heap} {a : Addr} {σ : List Key} (R : SetRK P w h a σ) : h.SetOf (mixKind P w) a (hasK σ) σ.length := by
  obtain ⟨o, es, ep, t, ho, hex, hd, he, hb, hf, hu⟩ := R
  refine ⟨o, es, ep, t, ho, hex, hd, he.el, fun k => ?_, hb, hf, he.size⟩
  rw [hasK_iff, ← he.pm.mem_iff, List.mem_map]
  exact ⟨fun ⟨e, m, q⟩ => ⟨e, m, (he.is_iff m k).mpr q⟩, fun ⟨e, m, q⟩ => ⟨e, m, (he.is_iff m k).mp q⟩⟩
section
open PySem.Spec PyProof.Rows
variable {P : Program} {w : World} {A : Around} {E : Value → Shared → Prop} {s : Shared}
theorem set_update_keys {I : Addr} {fp wr : List Addr} {G : Array GenState → Array GenState → Prop} {n : Nat} {Pv : Nat → Value → Prop} {St : Nat → Shared → Prop} {R : Result → Shared → Prop}
    (W : WalksS P w A.in1 I fp wr G n Pv St) (S : Addr) (hSf : S ∉ fp) (ks : List Key) (hn : n = ks.length) (hb : ks.length + 1 < scanBound) (hval : ∀ i v, Pv i v → ∃ k, ks[i]? = some k ∧ RelV (kV k) v) :
    ∀ (k i : Nat) (s : Shared), n - i = k → i ≤ n → St i s → SetRK P w s.heap S (distK (ks.take i)) →
      (∀ s', Moved (S :: wr) G s s' → SetRK P w s'.heap S (distK ks) → R (.ok (.ret .none)) s') →
      codeAny (model P w) A (.builtin "set.update.loop" ⟨[.ref S, .ref I], []⟩) R s := by
  have hSw : S ∉ wr := fun h => hSf (W.sub _ h)
  have hsub : ∀ b ∈ wr, b ∈ S :: wr := fun b hb => List.mem_cons_of_mem _ hb
  intro k
  induction k with
  | zero =>
    intro i s hk' hi hst hS hR
    have hin : i = n := by omega
    subst hin
    refine codeAny_builtin F.entry_set_update_loop ?_
    rw [Around.under_plainId F.plain_set_update_loop _]
    show wpAny _ A.in1 (pyNext (.ref I) >>= _) _ _ s
    refine wpAny_bind (W.done s _ _ hst fun s' hm => ?_)
    show wpAny _ A.in1 (ret Value.none) _ _ s'
    have e : ks.take i = ks := List.take_of_length_le (by omega)
    rw [e] at hS
    exact wpAny_pure (hR s' (hm.mono hsub) (hS.move fun _ q => hm.heap S _ hSw q))
  | succ k ih =>
    intro i s hk' hi hst hS hR
    have hlt : i < n := by omega
    refine codeAny_builtin F.entry_set_update_loop ?_
    rw [Around.under_plainId F.plain_set_update_loop _]
    show wpAny _ A.in1 (pyNext (.ref I) >>= _) _ _ s
    refine wpAny_bind (W.item i s _ _ hlt hst fun v s' hP hst' hm => ?_)
    obtain ⟨z, hz, hzr⟩ := hval i v hP
    have hzv : (mixKind P w).is z v = true := kV_is hzr
    have hS' : SetRK P w s'.heap S (distK (ks.take i)) := hS.move fun _ q => hm.heap S _ hSw q
    show wpAny _ A.in1 (holding [v] (setAdd S v) >>= _) _ _ s'
    refine wpAny_bind (wpAny_holding ?_)
    unfold setAdd
    refine wpAny_holding ?_
    refine wpAny_bind ((mixKind P w).pyHash (k := z) hzv ?_)
    have hroom : (distK (ks.take i)).length + 1 < scanBound := by
      have := distK_len (ks.take i)
      rw [List.length_take] at this
      omega
    have e2 : ks.take (i + 1) = ks.take i ++ [z] := by rw [List.take_add_one, hz]; rfl
    refine setRK_add (s := { s' with toks := s'.toks + 1 }) hzr hS' hroom fun b h' hsb hS2 => ?_
    have hSi : SetRK P w h' S (distK (ks.take (i + 1))) := by rw [e2, distK_snoc]; exact hS2
    refine wpAny_pure ⟨plainId_quiet F.plain_set_update_loop _, ih (i + 1) _ (by omega) hlt (W.frame _ s' _ _ hst' (Nat.le_succ _) fun b hb o e => ?_) hSi fun s'' hm'' hS'' => ?_⟩
    · rw [hsb.2 b (fun h : b = S => hSf (by rw [← h]; exact hb))]; exact e
    · refine hR s'' (Moved.trans W.gtrans ((hm.mono hsub).then_heap (Nat.le_succ _) fun b o hb e => ?_) hm'') hS''
      rw [hsb.2 b (fun h : b = S => hb (by rw [h]; exact List.mem_cons_self))]; exact e
open PySem
local instance (priority := 10000) keyBEq : BEq Key := instBEqOfDecidableEq
local instance (priority := 10000) keyLaw : LawfulBEq Key := inferInstanceAs (@LawfulBEq Key instBEqOfDecidableEq)
set_option maxHeartbeats 3200000 in
theorem call_set_listK {l : Addr} {items : Array Value} {ks : List Key} {Q : Value → Shared → Prop}
    (hh : A.handled = none) (hl : s.heap.IsList l items) (hlen : items.size = ks.length) (hval : ∀ (i : Nat) (v : Value), items[i]? = some v → ∃ k, ks[i]? = some k ∧ RelV (kV k) v) (hb : ks.length + 1 < scanBound)
    (h : ∀ (h' : Heap) (tk : Nat), SetRK P w h' s.heap.objs.size (distK ks) →
      (∀ b o, b < s.heap.objs.size → s.heap.get? b = some o → h'.get? b = some o) → Q (.ref s.heap.objs.size) { s with heap := h', toks := tk }) :
    wpAny (model P w) A (call (.type "set") [.ref l]) Q E s := by
  obtain ⟨c, tl, hmro⟩ := F.called_set.mro
  have hmade := F.called_set.made
  have hsub := F.called_set.sub
  refine wpAny_call (codeAny_of_tree ?_)
  show wpAny _ _ (callAny (.type "set") _) _ _ _
  refine wpAny_pure ⟨Code.quiet_builtin _ (by decide +kernel), codeAny_builtin F.entry_type_call ?_⟩
  rw [Around.under_plain (weight_type_call_type "set" [.ref l] []) rfl]
  have h1 := F.called_set.notType
  have h2 := F.called_set.canCreate
  have hct := F.typeCall_set_1 (.ref l)
  repeat (any_goals (first | assumption | wp_step))

  refine codeAny_mono (L2.code_set_led1 (.ref l) (E := E) (Q₁ := fun obj s₁ => ∃ led : Bool, (w.params.followText "set-order" = true ∨ led = true) ∧ obj = .ref s.heap.objs.size ∧ s₁ = { s with heap := s.heap.push { cls := .type "set", dict := none, data := .set #[] 0 (.fresh 0 0 led) } }) ⟨!w.params.followText "set-order", by cases w.params.followText "set-order" <;> simp, rfl, rfl⟩) fun r s₁ hr => ?_
  cases r with
  | error e => exact hr
  | ok fl =>
    cases fl with
    | ret obj =>
      obtain ⟨led, hled, rfl, rfl⟩ := hr
      have hS : (s.heap.push { cls := .type "set", dict := none, data := .set #[] 0 (.fresh 0 0 led) }).get? s.heap.objs.size = some { cls := .type "set", dict := none, data := .set #[] 0 (.fresh 0 0 led) } := Heap.get?_push_size _ rfl
      have hT : Shared.TypeIs { s with heap := s.heap.push { cls := .type "set", dict := none, data := .set #[] 0 (.fresh 0 0 led) } } (.ref s.heap.objs.size) "set" := ⟨_, hS, rfl⟩
      have hli := F.called_set.init.lookup
      have hbi := F.called_set.init.bind (.ref s.heap.objs.size)
      repeat (any_goals (first | assumption | wp_step))

      refine codeAny_mono (codeAny_call_builtin (R := wants (fun r s₂ => r = .none ∧ ∃ h' tk, s₂ = { s with heap := h', toks := tk } ∧
          SetRK P w h' s.heap.objs.size (distK ks) ∧
          (∀ b o, b < s.heap.objs.size → s.heap.get? b = some o → h'.get? b = some o)) E) F.called_set.init.plain F.entry_set_init (check_set_init_1 hT ?_)) fun r₂ s₂ hr₂ => ?_
      · obtain ⟨ol, hol, hcl, nl, hdl⟩ := hl
        obtain ⟨ocls, odict, odata, oslots⟩ := ol
        simp only at hcl hdl
        subst hcl; subst hdl
        have hol' : (s.heap.push { cls := .type "set", dict := none, data := .set #[] 0 (.fresh 0 0 led) }).get? l = some { cls := .type "list", dict := odict, data := .seq items nl, slots := oslots } := Heap.get?_push_of_some _ hol
        have hsls := F.sub_list_set
        have hslf := F.sub_list_frozenset
        have hne : (Value.type "list" == Value.type "dict") = false := by decide
        have hl1 : (s.heap.push { cls := .type "set", dict := none, data := .set #[] 0 (.fresh 0 0 led) }).IsList l items := ⟨_, hol', rfl, nl, rfl⟩
        unfold Builtin.«set.__init__» noKeywords Builtin.Frozenset.updateFrom
        generalize hPI : pyIter = PI
        wp_walk
        subst hPI

        refine wpAny_pyIter_list hl1 ?_
        refine wpAny_bind (wpAny_runValue ?_)
        have hlS : l < s.heap.objs.size := Heap.lt_size hol
        have hh3 : A.in1.in1.in1.handled = none := by simp [hh]
        have hneI : l ≠ (s.heap.push { cls := .type "set", dict := none, data := .set #[] 0 (.fresh 0 0 led) }).objs.size := by
          rw [Heap.size_push]; exact Nat.ne_of_lt (Nat.lt_succ_of_lt hlS)
        have hSf : s.heap.objs.size ∉ [(s.heap.push { cls := .type "set", dict := none, data := .set #[] 0 (.fresh 0 0 led) }).objs.size, l] := by
          rw [Heap.size_push]; simp only [List.mem_cons, List.mem_singleton, List.not_mem_nil, or_false, not_or]
          exact ⟨Nat.ne_of_lt (Nat.lt_succ_self _), Nat.ne_of_gt hlS⟩
        refine set_update_keys ((Walks.list hh3 _ l hneI items).toS) s.heap.objs.size
          hSf ks hlen hb hval (items.size - 0) 0 _ (by omega) (Nat.zero_le _)
          ⟨⟨_, Heap.get?_push_size _ rfl, rfl, rfl⟩, (hl1.push _)⟩ ?hS0 ?hR
        case hS0 =>
          have hget : ((s.heap.push { cls := .type "set", dict := none, data := .set #[] 0 (.fresh 0 0 led) }).push { cls := .type "list_iterator", data := .fields #[.ref l, .int 0 0] }).get? s.heap.objs.size
              = some { cls := .type "set", dict := none, data := .set #[] 0 (.fresh 0 0 led) } := Heap.get?_push_of_some _ hS
          exact setRK_new hled hget
        case hR =>
          intro s' hm hS'
          obtain ⟨h', g', d', tk', os'⟩ := s'
          have eg : g' = s.gens := hm.gens
          have ed : d' = s.drawn := hm.drawn
          have eo : os' = s.os := hm.os
          subst eg; subst ed; subst eo
          show wpAny _ _ _ _ _ _
          refine wpAny_pure ?_
          show wpAny _ _ (ret Value.none) _ _ _
          refine wpAny_pure ⟨rfl, h', tk', rfl, hS', fun b o hb e => ?_⟩
          have hb1 : b ≠ s.heap.objs.size := Nat.ne_of_lt hb
          have hb2 : b ≠ (s.heap.push { cls := .type "set", dict := none, data := .set #[] 0 (.fresh 0 0 led) }).objs.size := by
            rw [Heap.size_push]; exact Nat.ne_of_lt (Nat.lt_succ_of_lt hb)
          exact hm.heap b o (by simp only [List.mem_cons, List.mem_singleton, List.not_mem_nil, or_false, not_or]; exact ⟨hb1, hb2⟩) (Heap.get?_push_of_some _ (Heap.get?_push_of_some _ e))

      · cases r₂ with
        | error e => exact hr₂
        | ok fl₂ =>
          cases fl₂ with
          | ret r =>
            obtain ⟨rfl, h', tk, rfl, hS', hk'⟩ := hr₂
            repeat (any_goals (first | assumption | wp_step))
            exact h _ _ hS' hk'
          | _ => exact hr₂.elim
    | _ => exact hr.elim
set_option maxHeartbeats 3200000 in
theorem call_set_tupleK {l : Addr} {items : Array Value} {ks : List Key} {Q : Value → Shared → Prop}
    (hh : A.handled = none) (hl : s.heap.IsTuple l items) (hlen : items.size = ks.length) (hval : ∀ (i : Nat) (v : Value), items[i]? = some v → ∃ k, ks[i]? = some k ∧ RelV (kV k) v) (hb : ks.length + 1 < scanBound)
    (h : ∀ (h' : Heap) (tk : Nat), SetRK P w h' s.heap.objs.size (distK ks) →
      (∀ b o, b < s.heap.objs.size → s.heap.get? b = some o → h'.get? b = some o) → Q (.ref s.heap.objs.size) { s with heap := h', toks := tk }) :
    wpAny (model P w) A (call (.type "set") [.ref l]) Q E s := by
  obtain ⟨c, tl, hmro⟩ := F.called_set.mro
  have hmade := F.called_set.made
  have hsub := F.called_set.sub
  refine wpAny_call (codeAny_of_tree ?_)
  show wpAny _ _ (callAny (.type "set") _) _ _ _
  refine wpAny_pure ⟨Code.quiet_builtin _ (by decide +kernel), codeAny_builtin F.entry_type_call ?_⟩
  rw [Around.under_plain (weight_type_call_type "set" [.ref l] []) rfl]
  have h1 := F.called_set.notType
  have h2 := F.called_set.canCreate
  have hct := F.typeCall_set_1 (.ref l)
  repeat (any_goals (first | assumption | wp_step))

  refine codeAny_mono (L2.code_set_led1 (.ref l) (E := E) (Q₁ := fun obj s₁ => ∃ led : Bool, (w.params.followText "set-order" = true ∨ led = true) ∧ obj = .ref s.heap.objs.size ∧ s₁ = { s with heap := s.heap.push { cls := .type "set", dict := none, data := .set #[] 0 (.fresh 0 0 led) } }) ⟨!w.params.followText "set-order", by cases w.params.followText "set-order" <;> simp, rfl, rfl⟩) fun r s₁ hr => ?_
  cases r with
  | error e => exact hr
  | ok fl =>
    cases fl with
    | ret obj =>
      obtain ⟨led, hled, rfl, rfl⟩ := hr
      have hS : (s.heap.push { cls := .type "set", dict := none, data := .set #[] 0 (.fresh 0 0 led) }).get? s.heap.objs.size = some { cls := .type "set", dict := none, data := .set #[] 0 (.fresh 0 0 led) } := Heap.get?_push_size _ rfl
      have hT : Shared.TypeIs { s with heap := s.heap.push { cls := .type "set", dict := none, data := .set #[] 0 (.fresh 0 0 led) } } (.ref s.heap.objs.size) "set" := ⟨_, hS, rfl⟩
      have hli := F.called_set.init.lookup
      have hbi := F.called_set.init.bind (.ref s.heap.objs.size)
      repeat (any_goals (first | assumption | wp_step))

      refine codeAny_mono (codeAny_call_builtin (R := wants (fun r s₂ => r = .none ∧ ∃ h' tk, s₂ = { s with heap := h', toks := tk } ∧
          SetRK P w h' s.heap.objs.size (distK ks) ∧
          (∀ b o, b < s.heap.objs.size → s.heap.get? b = some o → h'.get? b = some o)) E) F.called_set.init.plain F.entry_set_init (check_set_init_1 hT ?_)) fun r₂ s₂ hr₂ => ?_
      · obtain ⟨ol, hol, hcl, nl, hdl⟩ := hl
        obtain ⟨ocls, odict, odata, oslots⟩ := ol
        simp only at hcl hdl
        subst hcl; subst hdl
        have hol' : (s.heap.push { cls := .type "set", dict := none, data := .set #[] 0 (.fresh 0 0 led) }).get? l = some { cls := .type "tuple", dict := odict, data := .seq items nl, slots := oslots } := Heap.get?_push_of_some _ hol
        have hsls := F.sub_tuple_set
        have hslf := F.sub_tuple_frozenset
        have hne : (Value.type "tuple" == Value.type "dict") = false := by decide
        have hl1 : (s.heap.push { cls := .type "set", dict := none, data := .set #[] 0 (.fresh 0 0 led) }).IsTuple l items := ⟨_, hol', rfl, nl, rfl⟩
        unfold Builtin.«set.__init__» noKeywords Builtin.Frozenset.updateFrom
        generalize hPI : pyIter = PI
        wp_walk
        subst hPI

        refine wpAny_pyIter_tuple hl1 ?_
        refine wpAny_bind (wpAny_runValue ?_)
        have hlS : l < s.heap.objs.size := Heap.lt_size hol
        have hh3 : A.in1.in1.in1.handled = none := by simp [hh]
        have hneI : l ≠ (s.heap.push { cls := .type "set", dict := none, data := .set #[] 0 (.fresh 0 0 led) }).objs.size := by
          rw [Heap.size_push]; exact Nat.ne_of_lt (Nat.lt_succ_of_lt hlS)
        have hSf : s.heap.objs.size ∉ [(s.heap.push { cls := .type "set", dict := none, data := .set #[] 0 (.fresh 0 0 led) }).objs.size, l] := by
          rw [Heap.size_push]; simp only [List.mem_cons, List.mem_singleton, List.not_mem_nil, or_false, not_or]
          exact ⟨Nat.ne_of_lt (Nat.lt_succ_self _), Nat.ne_of_gt hlS⟩
        refine set_update_keys ((Walks.tuple hh3 _ l hneI items).toS) s.heap.objs.size
          hSf ks hlen hb hval (items.size - 0) 0 _ (by omega) (Nat.zero_le _)
          ⟨⟨_, Heap.get?_push_size _ rfl, rfl, rfl⟩, (hl1.push _)⟩ ?hS0 ?hR
        case hS0 =>
          have hget : ((s.heap.push { cls := .type "set", dict := none, data := .set #[] 0 (.fresh 0 0 led) }).push { cls := .type "tuple_iterator", data := .fields #[.ref l, .int 0 0] }).get? s.heap.objs.size
              = some { cls := .type "set", dict := none, data := .set #[] 0 (.fresh 0 0 led) } := Heap.get?_push_of_some _ hS
          exact setRK_new hled hget
        case hR =>
          intro s' hm hS'
          obtain ⟨h', g', d', tk', os'⟩ := s'
          have eg : g' = s.gens := hm.gens
          have ed : d' = s.drawn := hm.drawn
          have eo : os' = s.os := hm.os
          subst eg; subst ed; subst eo
          show wpAny _ _ _ _ _ _
          refine wpAny_pure ?_
          show wpAny _ _ (ret Value.none) _ _ _
          refine wpAny_pure ⟨rfl, h', tk', rfl, hS', fun b o hb e => ?_⟩
          have hb1 : b ≠ s.heap.objs.size := Nat.ne_of_lt hb
          have hb2 : b ≠ (s.heap.push { cls := .type "set", dict := none, data := .set #[] 0 (.fresh 0 0 led) }).objs.size := by
            rw [Heap.size_push]; exact Nat.ne_of_lt (Nat.lt_succ_of_lt hb)
          exact hm.heap b o (by simp only [List.mem_cons, List.mem_singleton, List.not_mem_nil, or_false, not_or]; exact ⟨hb1, hb2⟩) (Heap.get?_push_of_some _ (Heap.get?_push_of_some _ e))

      · cases r₂ with
        | error e => exact hr₂
        | ok fl₂ =>
          cases fl₂ with
          | ret r =>
            obtain ⟨rfl, h', tk, rfl, hS', hk'⟩ := hr₂
            repeat (any_goals (first | assumption | wp_step))
            exact h _ _ hS' hk'
          | _ => exact hr₂.elim
    | _ => exact hr.elim
end
end DL
set_option maxRecDepth 100000
namespace DL
open PySem L2
/-- len(set(xs)) -/
def tLenSetK (K : Fg) (ta : TE) : TE := fun σ H Q => ta σ H fun x H1 => ∃ (l : Addr) (ks : List Key), x = .ref l ∧ (SqL K H1 l (ks.map kV) ∨ SqT K H1 l (ks.map kV)) ∧ ks.length ≤ 4000 ∧ Q (.int ((distK ks).length : Nat)) H1
theorem key_vals {ks : List Key} {us : List Value} (r : Vals (ks.map kV) us) : us.length = ks.length ∧ ∀ (i : Nat) (v : Value), us[i]? = some v → ∃ k, ks[i]? = some k ∧ RelV (kV k) v := by
  induction ks generalizing us with
  | nil => cases r; exact ⟨rfl, fun i v h => by simp at h⟩
  | cons k ks ih =>
    rw [List.map_cons] at r
    cases r with
    | cons a t =>
      obtain ⟨h1, h2⟩ := ih t
      refine ⟨by rw [List.length_cons, List.length_cons, h1], fun i v h => ?_⟩
      cases i with
      | zero =>
        rw [List.getElem?_cons_zero] at h ⊢
        cases h
        exact ⟨k, rfl, a⟩
      | succ i =>
        rw [List.getElem?_cons_succ] at h ⊢
        exact h2 i v h
open PySem.Spec PyProof.Rows in
theorem pe_lenSetK {X : Cx} {a : Expr} {ta : TE} {p p2 q pos : Pos} (hc : X.calm = true) (hg : Gl X "len") (hm : X.mg "len" = none) (hg2 : Gl X "set") (hm2 : X.mg "set" = none) (ha : PE X a ta)
    (na : starEach [a] X.env = (false, eval a X.env) :: starEach [] X.env := by rfl) : PE X (.Call (.Name "len" p) [.Call (.Name "set" p2) [a] [] q] [] pos) (tLenSetK X.K ta) := by
  refine ⟨fun pins s σ H Q I h => ?_⟩
  refine Call_ (ld_blt I hg hm boot_len ?_)
  refine PyProof.Rows.callWith_builtin1 (PyProof.Rows.args_cons ?_ rfl) rfl rfl
  refine Call_ (ld_blt I hg2 hm2 boot_set ?_)
  refine PyProof.Rows.callWith_type1 (PyProof.Rows.args_cons (thn (ha.run pins s σ H _ I h) fun v s1 ⟨x, H1, I1, r1, q1⟩ => PyProof.Rows.args_nil ?_) na) na rfl
  obtain ⟨l, ks, rfl, hq, hl, q1⟩ := q1
  cases r1
  have fin : ∀ (h' : Heap) (tk : Nat), h'.SetOf (mixKind X.prog X.w) s1.heap.objs.size (hasK (distK ks)) (distK ks).length → (∀ b o, b < s1.heap.objs.size → s1.heap.get? b = some o → h'.get? b = some o) →
      ∀ {A : Around}, wpAny (model X.prog X.w) A (call (.builtin "len") [.ref s1.heap.objs.size]) (fun v s' => EP X pins σ Q v s') X.xe { s1 with heap := h', toks := tk } := by
    intro h' tk hS hk A
    obtain ⟨o, es, ep, t, ho, hex, hd, _, _, _, hf, hn⟩ := hS
    have I2 : Inv X pins σ H1 { s1 with heap := h', toks := tk } := I1.kept fun b o e => hk b o (Heap.lt_size e) e
    have := distK_len ks
    exact call_len_set ho hex hd hf (by rw [hn] <;> omega) ⟨.int (distK ks).length, H1, I2.tok _, ⟨_, by rw [hn]⟩, q1⟩
  rcases hq with hq | hq
  · obtain ⟨its, r, pl, hz⟩ := I1.list hq
    obtain ⟨e1, e2⟩ := key_vals r
    refine call_set_listK (I1.ok.hd hc) pl.isList (by rw [List.size_toArray, e1]) (fun i v hv => e2 i v (by simpa using hv)) (by unfold scanBound; omega) fun h' tk hS hk => ?_
    exact PyProof.Rows.args_nil (fin h' tk hS.setOf hk)
  · obtain ⟨its, r, pl, hz⟩ := I1.tuple hq
    obtain ⟨e1, e2⟩ := key_vals r
    refine call_set_tupleK (I1.ok.hd hc) ?_ (by rw [List.size_toArray, e1]) (fun i v hv => e2 i v (by simpa using hv)) (by unfold scanBound; omega) fun h' tk hS hk => ?_
    · obtain ⟨ob, h1, h2, n, h3⟩ := pl
      exact ⟨ob, h1, h2, n, h3⟩
    · exact PyProof.Rows.args_nil (fin h' tk hS.setOf hk)
def keysW (d : PyData) (K : Nat → Prop) : Prop := ∃ ks : List Key, (d = .list (ks.map keyD) ∨ d = .tuple (ks.map keyD)) ∧ ks.length ≤ 4000 ∧ K (distK ks).length
theorem keys_das {K : Fg} {M : Ms} {H : Hp} : ∀ {ks : List Key} {xs : List V}, Das K M H xs (ks.map keyD) → xs = ks.map kV
  | [], _, h => by cases h; rfl
  | k :: ks, _, h => by
    rw [List.map_cons] at h
    cases h with
    | cons a t =>
      rw [keys_das t]
      cases k with
      | inl i => rw [Da.int_inv a]; rfl
      | inr x => rw [Da.str_inv a]; rfl
def xLenSet (a : XE) : XE where
  te k W := tLenSetK k.K (a.te k W)
  wp X ρ C P := a.wp X ρ C fun s C1 => rd C1 s fun d => keysW d fun n => P (.d (.int n)) C1
  ok w h q := a.ok w h fun v H1 s α1 C1 t1 r1 c1 p1 => by
    obtain ⟨d, h1, p2⟩ := rd_dt r1 c1 p1
    obtain ⟨ks, e, hl, p2⟩ := p2
    rcases e with rfl | rfl
    · obtain ⟨a, xs, rfl, ha, hx⟩ := h1.list_inv
      have e := keys_das hx
      subst e
      exact ⟨a, ks, rfl, .inl (by rw [hid_nil] at ha; exact ha), hl, q _ H1 (.d (.int _)) α1 C1 t1 r1 (Dq.int _) p2⟩
    · obtain ⟨a, xs, rfl, ha, hx⟩ := h1.tup_inv
      have e := keys_das hx
      subst e
      exact ⟨a, ks, rfl, .inr (hid_t ha), hl, q _ H1 (.d (.int _)) α1 C1 t1 r1 (Dq.int _) p2⟩
theorem r_xLenSet {k : Kx} {W : WX} (a : XE) : (xLenSet a).te k W = tLenSetK k.K (a.te k W) := rfl
end DL
set_option maxRecDepth 100000
namespace DL
open PySem L2
/-! ### texts: signs, splits and joins -/
theorem str_tl {a b : Str} (h : tl a = tl b) : a = b := by
  obtain ⟨⟨x⟩⟩ := a; obtain ⟨⟨y⟩⟩ := b
  exact congrArg (fun z => (⟨⟨z⟩⟩ : Str)) h
theorem len_tl (a : Str) : (tl a).length = a.length := Array.length_toList
theorem join_len (y : Str) : ∀ xs : List Str, (∀ x ∈ xs, x.length ≤ (Str.join y xs).length) ∧ xs.length ≤ (Str.join y xs).length + 1 ∨ y.length = 0
  | [] => .inl ⟨by simp, by simp⟩
  | [x] => .inl ⟨fun z hz => by rw [List.mem_singleton.mp hz]; exact Nat.le_refl _, by simp⟩
  | x :: z :: r => by
    rcases join_len y (z :: r) with ⟨h1, h2⟩ | h
    · by_cases hy : y.length = 0
      · exact .inr hy
      · refine .inl ⟨fun q hq => ?_, ?_⟩
        · show q.length ≤ (x ++ y ++ Str.join y (z :: r)).length
          rw [PySem.Str.length_append, PySem.Str.length_append]
          rcases List.mem_cons.mp hq with rfl | hq
          · omega
          · have := h1 q hq; omega
        · show _ ≤ (x ++ y ++ Str.join y (z :: r)).length + 1
          rw [PySem.Str.length_append, PySem.Str.length_append]
          rw [List.length_cons]; omega
    · exact .inr h
theorem split_len {x y : Str} (hy : y.length ≠ 0) : (∀ p ∈ Txt.split x y, p.length ≤ x.length) ∧ (Txt.split x y).length ≤ x.length + 1 := by
  have e := StrLaws.join_split x y
  rcases join_len y (Txt.split x y) with h | h
  · rw [e] at h; exact h
  · exact absurd h hy
theorem split_ne (x y : Str) : ∃ p r, Txt.split x y = p :: r := by
  unfold Txt.split
  split
  · exact ⟨_, _, rfl⟩
  · split
    · exact ⟨_, _, rfl⟩
    · rw [StrLaws.partsBetween_eq]
      exact StrLaws.partsFrom_ne _ _ _ _
theorem sz_le {n : Nat} (h : n ≤ 1000000) : n ≤ sizeLine := Nat.le_trans h (by decide)
theorem atI0 {α : Type} {x : α} {xs : List α} : atI (x :: xs) 0 = some x := by rw [atI_in (by decide) (by simp)]; rfl
theorem cut_drop (k : Nat) (xs : List PyData) : cutD xs (some (k : Int)) none = xs.drop k := by
  unfold cutD
  rw [HT.sIx_none, HT.sIx_nat]
  by_cases h : k ≤ xs.length
  · rw [Nat.min_eq_left h, List.take_of_length_le (by rw [List.length_drop]; omega)]
  · rw [Nat.min_eq_right (by omega), List.drop_of_length_le (Nat.le_refl _), List.drop_of_length_le (by omega), List.take_nil]
theorem cut_tail {x : PyData} {xs : List PyData} : cutD (x :: xs) (some 1) none = xs := cut_drop 1 (x :: xs)
theorem cut_taken (k : Nat) (xs : List PyData) : cutD xs none (some (k : Int)) = xs.take k := by
  unfold cutD
  rw [HT.sIx_none, HT.sIx_nat, List.drop_zero, Nat.sub_zero]
  by_cases h : k ≤ xs.length
  · rw [Nat.min_eq_left h]
  · rw [Nat.min_eq_right (by omega), List.take_of_length_le (Nat.le_refl _), List.take_of_length_le (by omega)]
theorem outX' {n0 : Nat} {X : Xc → Cs → Prop} {x : Xc} {c c' : Cs} (f : List Nat) (h : X x c') (nd : f.Nodup) (fx : f.take n0 = List.range n0) (w : WkC f c f c') (hx : RenFs f x.fs x.fs) :
    ∃ f x' c', Wk n0 f c c' ∧ x'.cn = x.cn ∧ RenFs f x.fs x'.fs ∧ (x.fs = [] ↔ x'.fs = []) ∧ X x' c' := ⟨f, x, c', ⟨nd, fx, w⟩, rfl, hx, Iff.rfl, h⟩
theorem ixn_at {n k : Nat} {K : Nat → Prop} (h : k < n) (q : K k) : ixnW n (k : Int) K := by
  unfold ixnW
  have e : ixN n (k : Int) = some k := by
    unfold ixN
    rw [if_pos (by omega), if_pos (by omega)]; rfl
  rw [e]
  exact q
theorem strOk_iff (x : Str) : PyData.strOk x = true ↔ ∀ c ∈ tl x, c < 1114112 := by
  unfold PyData.strOk
  rw [← Array.all_toList, List.all_eq_true]
  exact ⟨fun h c m => of_decide_eq_true (h c m), fun h c m => decide_eq_true (h c m)⟩
theorem tl_app (a b : Str) : tl (a ++ b) = tl a ++ tl b := by
  show (a.cps ++ b.cps).toList = _
  rw [Array.toList_append]
theorem mem_join (y : Str) {c : Nat} : ∀ xs : List Str, (∃ x ∈ xs, c ∈ tl x) → c ∈ tl (Str.join y xs)
  | [], ⟨_, h, _⟩ => by simp at h
  | [x], ⟨z, h, hc⟩ => by rw [List.mem_singleton] at h; subst h; exact hc
  | x :: z :: r, ⟨q, h, hc⟩ => by
    show c ∈ tl (x ++ y ++ Str.join y (z :: r))
    rw [tl_app, tl_app]
    rcases List.mem_cons.mp h with rfl | h
    · exact List.mem_append_left _ (List.mem_append_left _ hc)
    · exact List.mem_append_right _ (mem_join y (z :: r) ⟨q, h, hc⟩)
theorem split_mem {x y p : Str} (h : p ∈ Txt.split x y) {c : Nat} (hc : c ∈ tl p) : c ∈ tl x := by
  have := mem_join y (Txt.split x y) ⟨p, h, hc⟩
  rw [StrLaws.join_split] at this
  exact this
theorem split_ok {x y : Str} (h : PyData.strOk x = true) : ∀ p ∈ Txt.split x y, PyData.strOk p = true := fun p hp =>
  (strOk_iff p).mpr fun c hc => (strOk_iff x).mp h c (split_mem hp hc)
end DL
set_option maxRecDepth 100000
/-! ### max and any of a tuple of ints -/
namespace PySem
open PyProof.Rows
section
variable {prog : Program} {w : World} {A : Around} {E : Value → Shared → Prop} {s : Shared} {l : Addr} {xs : Array (Int × Tok)} {Q : Value → Shared → Prop}
theorem old_keptT {h' : Heap} (hk : ∀ b o, b ∉ [s.heap.objs.size] → (s.heap.push { cls := .type "tuple_iterator", data := .fields #[.ref l, .int 0 0] }).get? b = some o → h'.get? b = some o) :
    ∀ b o, s.heap.get? b = some o → h'.get? b = some o := fun b o e => by
  refine hk b o (fun hm => ?_) (Heap.get?_push_of_some _ e)
  rcases List.mem_cons.mp hm with e1 | hm
  · exact absurd (e1 ▸ Heap.lt_size e) (Nat.lt_irrefl _)
  · cases hm
theorem dl_max_tup (hh : A.handled = none) (hl : s.heap.IsTuple l (intItems xs)) (hne : 0 < xs.size)
    (h : ∀ v h' tk, (intItems xs)[argBest (fun i j => decide (numAt xs i > numAt xs j)) (xs.size - 1)]? = some v → (∀ b o, s.heap.get? b = some o → h'.get? b = some o) → Q v { s with heap := h', toks := tk }) :
    wpAny (model prog w) A (call (.builtin "max") [.ref l]) Q E s := by
  refine call_max_walk (dl_iter_tup hl fun s₂ e st hfp hlI => ?_)
  subst e
  refine ⟨_, _, _, _, _, _, _, rfl, Walks.tuple (A := A.in1) hh _ l hlI (intItems xs), st, hfp, by simpa [intItems] using hne, CmpOf.ints_gt (numAt xs) (fun _ _ => intItems_at), fun v h' tk hP hk => ?_⟩
  exact h v h' tk (by simpa [intItems] using hP) (old_keptT hk)
theorem truth_ints : TruthOf prog w A (fun i v => (intItems xs)[i]? = some v) (fun i => numAt xs i != 0) := fun i v s Q E hv hq => by
  obtain ⟨t, rfl⟩ := intItems_at hv
  exact truthy_int hq
theorem dl_any_tup (hh : A.handled = none) (hl : s.heap.IsTuple l (intItems xs))
    (h : ∀ h' tk, (∀ b o, s.heap.get? b = some o → h'.get? b = some o) → Q (.bool ((List.range xs.size).any fun i => numAt xs i != 0)) { s with heap := h', toks := tk }) :
    wpAny (model prog w) A (call (.builtin "any") [.ref l]) Q E s := by
  refine call_any_walk (dl_iter_tup hl fun s₂ e st hfp hlI => ?_)
  subst e
  refine ⟨_, _, _, _, _, _, _, rfl, Walks.tuple (A := A.in1) hh _ l hlI (intItems xs), st, truth_ints, fun h' tk hk => ?_⟩
  have := h h' tk (old_keptT hk)
  simpa [intItems] using this
end
end PySem
namespace DL
open PySem L2 PyProof.Rows
section
variable {prog : Program} {w : World} {A : Around} {E : Value → Shared → Prop} {s : Shared} {l : Addr} {its : List Value} {ns : List Int} {Q : Value → Shared → Prop}
theorem max_rawT (hh : A.handled = none) (hl : s.heap.IsTuple l its.toArray) (hi : IntsAre its ns) (hne : 0 < ns.length)
    (h : ∀ h' tk M t', (∀ b o, s.heap.get? b = some o → h'.get? b = some o) → M ∈ ns → (∀ a, a ∈ ns → a ≤ M) → Q (.int M t') { s with heap := h', toks := tk }) : wpAny (model prog w) A (call (.builtin "max") [.ref l]) Q E s := by
  obtain ⟨xs, e⟩ := hi.allInts.items
  have hn : numsOf (intItems xs).toList = ns := by rw [← e]; exact hi.numsOf
  rw [nums_intItems] at hn
  subst hn
  rw [e] at hl
  have hsz : 0 < xs.size := by simpa using hne
  refine PySem.dl_max_tup hh hl hsz fun v h' tk hv hk => ?_
  obtain ⟨t, rfl⟩ := intItems_at hv
  obtain ⟨h1, h2⟩ := argBest_gt (numAt xs) (xs.size - 1)
  refine h h' tk _ t hk ?_ fun a ha => ?_
  · rw [numAt_eq]; exact PySem.getD_mem (by rw [List.length_map, Array.length_toList]; omega)
  · obtain ⟨j, hj, rfl⟩ := mem_getD ha
    rw [List.length_map, Array.length_toList] at hj
    rw [← numAt_eq]; exact h2 j (by omega)
theorem any_rawT (hh : A.handled = none) (hl : s.heap.IsTuple l its.toArray) (hi : IntsAre its ns)
    (h : ∀ h' tk, (∀ b o, s.heap.get? b = some o → h'.get? b = some o) → Q (.bool (ns.any fun i => i != 0)) { s with heap := h', toks := tk }) : wpAny (model prog w) A (call (.builtin "any") [.ref l]) Q E s := by
  obtain ⟨xs, e⟩ := hi.allInts.items
  have hn : numsOf (intItems xs).toList = ns := by rw [← e]; exact hi.numsOf
  rw [nums_intItems] at hn
  subst hn
  rw [e] at hl
  refine PySem.dl_any_tup hh hl fun h' tk hk => ?_
  have q := h h' tk hk
  have e2 : ((List.range xs.size).any fun i => numAt xs i != 0) = (xs.toList.map (·.1)).any fun i => i != 0 := by
    rw [Bool.eq_iff_iff, List.any_eq_true, List.any_eq_true]
    constructor
    · rintro ⟨i, hi, q⟩
      rw [numAt_eq] at q
      exact ⟨_, PySem.getD_mem (by rw [List.length_map, Array.length_toList]; exact List.mem_range.mp hi), q⟩
    · rintro ⟨x, hx, q⟩
      obtain ⟨j, hj, rfl⟩ := mem_getD hx
      rw [List.length_map, Array.length_toList] at hj
      exact ⟨j, List.mem_range.mpr hj, by rw [numAt_eq]; exact q⟩
  rw [e2]; exact q
end
/-- max of a list or a tuple of ints -/
def MaxSD : List PyData → PyData → Prop
  | [.list ds], z => ∃ (ns : List Int) (m : Int), ds = ns.map PyData.int ∧ ns.max? = some m ∧ z = .int m
  | [.tuple ds], z => ∃ (ns : List Int) (m : Int), ds = ns.map PyData.int ∧ ns.max? = some m ∧ z = .int m
  | _, _ => False
/-- any of a list of truths, or a tuple of ints -/
def AnySD : List PyData → PyData → Prop
  | [.list ds], z => ∃ ns : List Bool, ds = ns.map PyData.bool ∧ z = .bool (ns.any id)
  | [.tuple ds], z => ∃ ns : List Int, ds = ns.map PyData.int ∧ z = .bool (ns.any fun i => i != 0)
  | _, _ => False
section
variable {X : Cx}
theorem call_maxSD (hc : X.calm = true) : CallR X (.builtin "max") (rC X.K MaxSD) := by
  intro pins s σ H xs us Q I rx h
  have h0 := h
  obtain ⟨M, ds, z, hM, hd, g, q⟩ := h
  match ds, g with
  | [.list ds], g => exact call_maxLD hc pins s σ H xs us Q I rx ⟨M, [.list ds], z, hM, hd, g, q⟩
  | [.tuple ds], g =>
    obtain ⟨v, rfl, h1⟩ := Dts.one hd
    obtain ⟨a, xs, rfl, ha, hx⟩ := Dt.tup_inv h1
    obtain ⟨ns, m, rfl, hm, rfl⟩ := g
    have e := Das.ints hx; subst e
    obtain ⟨its, rv, hl, _⟩ := I.tuple (hid_t ha)
    obtain rfl := Vals.ref1 rx
    refine max_rawT (I.ok.hd hc) hl rv.ints ?_ fun h' tk m' t' hk m1 m2 => ?_
    · cases ns with
      | nil => cases hm
      | cons _ _ => exact Nat.succ_pos _
    · obtain ⟨h1, h2⟩ := (List.max?_eq_some_iff (a := m)).mp hm
      have e : m' = m := Int.le_antisymm (h2 m' m1) (m2 m h1)
      rw [e]
      exact ⟨.int m, H, I.kept hk, ⟨_, rfl⟩, q _ H (Ex.refl H) (.int m)⟩
theorem call_anySD (hc : X.calm = true) : CallR X (.builtin "any") (rC X.K AnySD) := by
  intro pins s σ H xs us Q I rx h
  obtain ⟨M, ds, z, hM, hd, g, q⟩ := h
  match ds, g with
  | [.list ds], g => exact call_anyD hc pins s σ H xs us Q I rx ⟨M, [.list ds], z, hM, hd, g, q⟩
  | [.tuple ds], g =>
    obtain ⟨v, rfl, h1⟩ := Dts.one hd
    obtain ⟨a, xs, rfl, ha, hx⟩ := Dt.tup_inv h1
    obtain ⟨ns, rfl, rfl⟩ := g
    have e := Das.ints hx; subst e
    obtain ⟨its, rv, hl, _⟩ := I.tuple (hid_t ha)
    obtain rfl := Vals.ref1 rx
    exact any_rawT (I.ok.hd hc) hl rv.ints fun h' tk hk => ⟨.bl _, H, I.kept hk, rfl, q _ H (Ex.refl H) (.bl _)⟩
end
instance : OpB MaxSD := ⟨fun ds K => match ds with
  | [.list a] => intsW a fun ns => ∃ m, ns.max? = some m ∧ K (.int m)
  | [.tuple a] => intsW a fun ns => ∃ m, ns.max? = some m ∧ K (.int m)
  | _ => False, fun ds K h => by
    match ds, h with
    | [.list a], ⟨ns, e, m, hm, h⟩ => exact ⟨_, ⟨ns, m, e, hm, rfl⟩, h⟩
    | [.tuple a], ⟨ns, e, m, hm, h⟩ => exact ⟨_, ⟨ns, m, e, hm, rfl⟩, h⟩⟩
instance : OpB AnySD := ⟨fun ds K => match ds with
  | [.list a] => blsW a fun ns => K (.bool (ns.any id))
  | [.tuple a] => intsW a fun ns => K (.bool (ns.any fun i => i != 0))
  | _ => False, fun ds K h => by
    match ds, h with
    | [.list a], ⟨ns, e, h⟩ => exact ⟨_, ⟨ns, e, rfl⟩, h⟩
    | [.tuple a], ⟨ns, e, h⟩ => exact ⟨_, ⟨ns, e, rfl⟩, h⟩⟩
end DL
set_option maxRecDepth 100000
namespace DL
open PySem L2 PySem.Spec PyProof.Rows
/-! ### own exceptions that keep what they are made with -/
section
variable {X : Cx} {e : Expr} {es : List Expr} {ta : TA} {p p1 p2 pos : Pos}
/-- B.__init__(self, ..), B an own class below ValueError -/
theorem pe_ownvi {pl : Sem Bool} {Bn : Str} {B : Addr} (hg : Gl X Bn) (hm : X.mg Bn = some (.ref B)) (h1 : PySem.W.specialIn X.K (.ref B) "__getattribute__" = some (some (.builtin "type.__getattribute__")))
    (h2 : PySem.W.readsIn X.K B (.type "type") = true) (h3 : PySem.W.findCls X.K (.ref B) (.type "type") "__init__" = some (.val (.builtin "ValueError.__init__"))) (ha : PA X (e :: es) ta)
    (hc : eval (.Call (.Attribute (.Name Bn p1) "__init__" p2) (e :: es) [] pos) X.env = (do
      let ov ← eval (.Name Bn p1) X.env
      standAt p2.atName
      let (f, first) ← holding [ov] (getMethod ov "__init__" pl)
      callWith pos f first (backTo pos (starEach (e :: es) X.env)) (backToKw pos (keywordEach [] X.env))) := by rfl)
    (he : starEach (e :: es) X.env = (false, eval e X.env) :: starEach es X.env := by rfl) (hpl : (backTo pos (starEach es X.env)).any (·.1) = false := by rfl) (hdb : (Bn == ("__debug__" : Str)) = false := by decide) :
    PE X (.Call (.Attribute (.Name Bn p1) "__init__" p2) (e :: es) [] pos) (tVeI X.K ta) := by
  refine ⟨fun pins s σ H Q I h => ?_⟩
  refine PySem.W.methodCall_KW (ld_glob I hg hm ?_ hdb) hc
  refine PySem.W.method_cls I.kIn h1 (PySem.W.cls_value I.kIn h2 h3 (by decide +kernel) ?_)
  show wpAny _ _ (callWith pos (Value.builtin "ValueError.__init__") [] (backTo pos (starEach (e :: es) X.env)) []) _ _ _
  refine PyProof.Rows.callWith_method1 (thn (ha.run pos pins _ σ H _ (I.tok _) h) fun us s1 ⟨vs, H1, I1, r1, a, C, ws, ev, hl, T, ea, q⟩ => ?_) he hpl
  subst ev
  cases r1 with
  | @cons _ u0 _ ur ra rw' =>
    obtain rfl : u0 = Value.ref a := ra
    have hlen : ur.length ≤ sizeLine := by
      rw [← Paired.length rw', sizeLine_eq]
      omega
    exact oinit_ok T I1 ea hlen fun s' J => ⟨.non, H1, J, rfl, q⟩
end
section
variable {X : Cx} {e : Expr} {es : List Expr} {ta : TA} {p pos : Pos}
theorem pmk_oexG {CX : CXT} {x : Str} {C fI : Addr} {k : Nat} {fd : FuncData} {ps : List Str} {sp : Sp} {ds : List Value} {dvs : List V} (T : OexC X.K C) (iC : PySem.W.findIn X.K (.ref C) "__init__" = some (some (.ref fI))) (tI : PySem.W.typeIn X.K (.ref fI) = some (.type "function"))
    (F1 : FnG X.prog X.w X.K X.mg X.base CX k fI fd ps sp) (hG : X.A.guards = some []) (hr : Room (k + 1) X.A) (hb : Binds X.K fd ps ds) (hd : Vals dvs ds) (hx : Passes CX X (fun _ _ _ => False)) (hg : Gl X x) (hm : X.mg x = some (.ref C)) (ha : PA X (e :: es) ta)
    (hdb : (x == ("__debug__" : Str)) = false := by decide) (he : starEach (e :: es) X.env = (false, eval e X.env) :: starEach es X.env := by rfl) (hpl : (backTo pos (starEach es X.env)).any (·.1) = false := by rfl) :
    PMk X (.Call (.Name x p) (e :: es) [] pos) (tMkO C sp dvs ta) := by
  intro pins s σ H Q I h
  obtain ⟨nm, q, N, bs, bm, sn, sub, ab, col, dd, k0, k1, k2, k3, k5, hC, hbm⟩ := T.cls
  refine wpAny_Call_Name_kw (ld_glob I hg hm ?_ hdb)
  refine PySem.W.callWith_K (h₀ := X.base) I.ok.mod.kin T.kC (thn (ha.run pos pins s σ H _ I h) fun us s1 ⟨vs, H1, I1, r1, hz, q1⟩ => ⟨I1.kIn, ?_⟩) he hpl
  show wpAny _ _ (call (.ref C) us) _ _ _
  obtain ⟨hp, g, dr, tk, os⟩ := s1
  have hsz : hp.objs.size ≤ hp.objs.size + 1 := Nat.le_succ _
  have hn : H1 (hp.objs.size + 1) = none := I1.hok.fresh hsz
  have hq := q1 (hp.objs.size + 1) hn
  have kk : ∀ b o, hp.get? b = some o → ((hp.push (PySem.W.kdv_tup us)).push (PySem.HandSPX.excO C hp.objs.size)).get? b = some o := fun b o e => Heap.get?_push_of_some _ (Heap.get?_push_of_some _ e)
  have hget : ((hp.push (PySem.W.kdv_tup us)).push (PySem.HandSPX.excO C hp.objs.size)).get? (hp.objs.size + 1) = some (PySem.HandSPX.excO C hp.objs.size) := by heap_get
  have I2 : Inv X pins σ (upd H1 (hp.objs.size + 1) (exo (hp.objs.size + 1) C none)) ⟨(hp.push (PySem.W.kdv_tup us)).push (PySem.HandSPX.excO C hp.objs.size), g, dr, tk, os⟩ :=
    I1.laid (t' := tk) (a := hp.objs.size + 1) (o := exo (hp.objs.size + 1) C none) (h' := (hp.push (PySem.W.kdv_tup us)).push (PySem.HandSPX.excO C hp.objs.size)) kk hsz (exo_ok hget)
  have r2 : Vals (V.ref (hp.objs.size + 1) :: (vs ++ dvs)) (Value.ref (hp.objs.size + 1) :: (us ++ ds)) := .cons rfl (r1.append hd)
  have hl : (Value.ref (hp.objs.size + 1) :: us ++ ds).length = ps.length := by
    have e := r2.length
    rw [F1.many _ _ _ _ hq] at e
    exact e.symm
  have hus : us.length ≤ sizeLine := by
    rw [← Paired.length r1, sizeLine_eq]
    omega
  refine wpAny_call (PySem.HandSPX.call_own F.excBase_ValueError (fun Y => PySem.HandSPX.refsVE_contains Y bm hbm) (I1.kIn _ _ hC) (PySem.W.looks_findIn I1.kIn iC) (fun self => PySem.W.bind_fn I1.kIn self tI) hus
    (codeAny_mono (F1.run (X.A.under (.builtin "type.__call__" ⟨.ref C :: us, []⟩)) (show (X.A.under _).guards = some [] from hG) (hr.make C us []) X.stack _ _ (I2.env0.make C us []) ⟨Value.ref (hp.objs.size + 1) :: us, []⟩ (Value.ref (hp.objs.size + 1) :: (us ++ ds)) _ (hb _ (Value.ref (hp.objs.size + 1) :: us) I2.kIn hl) r2 _ (fun _ _ _ => False) hq) fun r s' hq' => ?_))
  cases r with
  | error er => exact hx pins σ _ _ er s' I2 hq'
  | ok fl =>
    cases fl with
    | ret u =>
      obtain ⟨v, H2, os2, bare2, un2, hok2, rv, ev, d, fs, ea, ed, hd1, q2⟩ := hq'
      subst ev
      obtain ⟨h2, g2, d2, t2, os'⟩ := s'
      exact ⟨rv, mk_end (raises_own T.exC T.tyC) I1 hsz kk un2 hok2 os2 bare2 ea ed hd1 q2⟩
    | next => exact False.elim hq'
    | brk => exact False.elim hq'
    | cont => exact False.elim hq'
theorem bad_many {C : Addr} {f : Str} : ∀ vs H Q E, spBad C f vs H Q E → vs.length = 2 := fun vs H Q E ⟨a, v, e, _⟩ => by rw [e]; rfl
theorem bad_body {K : Fg} {C : Addr} {f : Str} {m : Str} {N : List Str} (T : OexC K C) (hno : PySem.W.findIn K (.ref C) f = some none) {vs : List V} {H : Hp} {Q : VK} {E : XK} (hN : N.length = 2) (h : spBad C f vs H Q E) :
    tSeq (tDrop (tVeI K (tCons (tVar 0) (tCons (tC (.str m)) tNil)))) (tOst K f (tVar 0) (tVar 1)) { nx := fun _ H' => Q .non H', rt := Q } (L2.start N vs) H := by
  obtain ⟨a, v, rfl, ha, q⟩ := h
  obtain ⟨n1, n2, rfl⟩ : ∃ n1 n2, N = [n1, n2] := match N, hN with | [a, b], _ => ⟨a, b, rfl⟩
  refine ⟨_, rfl, a, C, [.str m], rfl, by simp, T, ha, ?_⟩
  refine ⟨_, rfl, _, rfl, a, C, rfl, T, hno, .inl ⟨ha, fun dx h1 h2 => q dx h1 h2⟩⟩
/-- raise B(x) -/
theorem ps_raiseG {W : WX} {x : Str} {C fI : Addr} {k : Nat} {fd : FuncData} {f : Str} {te : TE} {pos2 : Pos} {ps : List Str} (hc : X.calm = true) (tk : L2.Takes X W) (T : OexC X.K C) (iC : PySem.W.findIn X.K (.ref C) "__init__" = some (some (.ref fI))) (tI : PySem.W.typeIn X.K (.ref fI) = some (.type "function"))
    (F1 : FnG X.prog X.w X.K X.mg X.base CX0 k fI fd ps (spBad C f)) (hG : X.A.guards = some []) (hr : Room (k + 1) X.A) (hb : Binds X.K fd ps []) (hg : Gl X x) (hm : X.mg x = some (.ref C)) (ha : PE X e te)
    (hdb : (x == ("__debug__" : Str)) = false := by decide) (he : starEach [e] X.env = (false, eval e X.env) :: starEach [] X.env := by rfl) :
    PS X (.Raise (some (.Call (.Name x p) [e] [] pos)) none pos2) (tRaiseF C f W te) := by
  have hs : starEach [] X.env = [] := rfl
  have m := pmk_oexG (CX := CX0) (pos := pos) (p := p) (e := e) (es := []) T iC tI F1 hG hr hb .nil (fun _ _ _ _ _ _ _ z => False.elim z) hg hm (pa_cons ha pa_nil he) hdb he rfl
  exact ps_raise hc tk m
end
end DL
set_option maxRecDepth 100000
namespace DL
open PySem L2
/-! ### x.split(y), to be changed -/
def rSplitF : V → List V → Hp → VK → Prop := fun x xs H Q => ∃ a b, x = .str a ∧ xs = [.str b] ∧ (b.length == 0) = false ∧ a.length + 2 ≤ sizeLine ∧ rNewStrs (Txt.split a b) H Q
theorem mt_splitF {X : Cx} : MtR X "str.split" rSplitF := mt_split
def xSplitC (a b : XE) : XE where
  te k W := tBM k.K "str" rSplitF (a.te k W) (tCons (b.te k W) tNil)
  wp X ρ C P := a.wp X ρ C fun s C1 => isS s fun x => b.wp X ρ C1 fun t C2 => isS t fun y => ((y.length == 0) = false ∧ x.length + 2 ≤ sizeLine) ∧ appK (.lst ((Txt.split x y).map .str)) C2 0 fun n C3 => P (.c n) C3
  ok w h q := a.ok w h fun v H1 s α1 C1 t1 r1 c1 p1 => by
    obtain ⟨x, rfl, p1⟩ := isS_of p1
    have e := Da.str_inv c1
    subst e
    refine ⟨rfl, b.ok (w.to t1 r1) p1 fun u H2 t α2 C2 t2 r2 c2 p2 => ?_⟩
    obtain ⟨y, rfl, p2⟩ := isS_of p2
    have e := Da.str_inv c2
    subst e
    refine ⟨x, y, rfl, rfl, p2.1.1, p2.1.2, fun p hp => ?_⟩
    obtain ⟨r3, t3⟩ := r2.newL (ds := (Txt.split x y).map .str) hp (Das.of_strs _)
    exact q _ _ (.c C2.length) _ _ ((t1.trans t2).trans t3) r3 (Rc.last r2) (appK_of p2.2)
theorem r_xSplitC {k : Kx} {W : WX} (a b : XE) : (xSplitC a b).te k W = tBM k.K "str" rSplitF (a.te k W) (tCons (b.te k W) tNil) := rfl
theorem repS_tl (x : Str) (k : Nat) : tl (repS x (k : Int)) = (List.replicate k (tl x)).flatten := by
  unfold repS
  split
  · have : k = 0 := by omega
    subst this; rfl
  · split
    · rename_i h1 h
      rw [Bool.or_eq_true] at h
      rcases h with h | h
      · have : k = 1 := by have := of_decide_eq_true h; omega
        subst this; simp
      · have h0 : (tl x).length = 0 := by
          have := of_decide_eq_true h
          rw [← this]; exact (TL.len_tl x).symm
        have : tl x = [] := List.length_eq_zero_iff.mp h0
        rw [this]; simp
    · show ((List.replicate (k : Int).toNat x.cps).foldl (· ++ ·) #[]).toList = _
      rw [Int.toNat_natCast]
      have key : ∀ (n : Nat) (acc : Array Nat), ((List.replicate n x.cps).foldl (· ++ ·) acc).toList = acc.toList ++ (List.replicate n x.cps.toList).flatten := by
        intro n
        induction n with
        | zero => intro acc; simp
        | succ n ih => intro acc; rw [List.replicate_succ, List.foldl_cons, ih, List.replicate_succ, List.flatten_cons, Array.toList_append, List.append_assoc]
      rw [key]; rfl
theorem rep_bool (b : Bool) (x : Str) : repS x (if b = true then (1 : Int) else 0) = (bif b then x else Str.empty) := by
  cases b with
  | true => exact str_tl (by rw [show (if true = true then (1 : Int) else 0) = ((1 : Nat) : Int) from rfl, repS_tl]; simp [List.replicate])
  | false => exact str_tl (by rw [show (if false = true then (1 : Int) else 0) = ((0 : Nat) : Int) from rfl, repS_tl]; rfl)
theorem pt_if {X : Cx} {e : Expr} {p : Prop} {tt : TT} (h : PT X e tt) (hp : p) : PT X e (fun σ H Q => p → tt σ H Q) := ⟨fun pins s σ H Q I z => h.run pins s σ H Q I (z hp)⟩
end DL
set_option maxRecDepth 100000
namespace DL
open PySem L2
/-! ### str(x) of an object with a __str__ of its own -/
section
variable {X : Cx} {CX : CXT} {k : Nat} {C f : Addr} {fd : FuncData} {ps : List Str} {sp : Sp} {E : XK}
theorem call_strOwn (hs : PySem.W.findIn X.K (.ref C) "__str__" = some (some (.ref f))) (hf : PySem.W.isFn X.K (.ref f) = true) (F : FnG X.prog X.w X.K X.mg X.base CX k f fd ps sp) (hG : X.A.guards = some []) (hr : Room (k + 2) X.A) (hb : Binds X.K fd ps []) (hx : Passes CX X E) :
    CallR X (.type "str") (fun xs H Q => ∃ a dx fs, xs = [.ref a] ∧ H a = some (.ins C dx fs) ∧ sp [.ref a] H (fun v H' => ∃ y : Str, v = .str y ∧ Q (.str y) H') E) := by
  intro pins s σ H xs us Q I r h
  obtain ⟨a, dx, fs, rfl, ha, h⟩ := h
  obtain ⟨u, rfl, ru⟩ := vals1 r
  obtain rfl : u = Value.ref a := ru
  obtain ⟨mA, J, _⟩ := ins_get I.hok ha
  obtain ⟨od, J, _⟩ := J.look
  have r1 : Room (k + 1) X.A.in1 := Room.in1 (k := k + 1) hr
  have r2 : Room k X.A.in1.in1 := r1.in1
  refine PySem.W.kso_call r2.units0 I.kIn J hs hf ?_
  have hl : ([Value.ref a] ++ []).length = ps.length := by have := F.many _ _ _ _ h; simpa using this
  have vv : Vals [V.ref a] ([Value.ref a] ++ []) := .cons rfl .nil
  have ran := F.run X.A.in1.in1 hG r2 X.stack s H I.env0.in1.in1 ⟨[.ref a], []⟩ ([.ref a] ++ []) [.ref a] (hb s [.ref a] I.kIn hl) vv _ E h
  refine wpAny_call (codeAny_mono ran ?_)
  rintro (er | _ | _ | _ | u) s' z
  · exact hx pins σ H s er s' I z
  · exact False.elim z
  · exact False.elim z
  · exact False.elim z
  · obtain ⟨v, H', I', rv, y, rfl, q⟩ := I.after z
    obtain ⟨t, rfl⟩ := rv
    exact ⟨.str y, H', I', ⟨_, rfl⟩, q⟩
end
def rStrO (k : Kx) (c : Nat) (A : Pw) : List V → Hp → VK → Prop := fun xs H Q => ∃ a dx fs, xs = [.ref a] ∧ H a = some (.ins (k.cl c) dx fs) ∧ spW k A [.ref a] H (fun v H' => ∃ y : Str, v = .str y ∧ Q (.str y) H') E0
def xStrO (c : Nat) (A : Pw) (a : XE) : XE where
  te k W := tCB (rStrO k c A) (tCons (a.te k W) tNil)
  wp X ρ C P := a.wp X ρ C fun s C1 => isC s fun n => objAt C1 n fun c' _ => chk (Nat.beq c' c) (callW A (fun _ _ => False) C1 [s] fun t C2 => isS t fun y => P (.d (.str y)) C2)
  ok w h q := a.ok w h fun v H1 s α1 C1 t1 r1 c1 p1 => by
    have c0 := c1
    obtain ⟨n, p, rfl, hp, rfl, p1⟩ := isC_of c1 p1
    obtain ⟨c', ss, hc, p3⟩ := objAt_of p1
    obtain ⟨hcc, p4⟩ := chk_of p3
    have hcc := Nat.eq_of_beq_eq_true hcc
    subst hcc
    obtain ⟨dx, xs, h1, h2, h3, h4⟩ := obj_at r1 hp hc
    unfold callW at p4
    obtain ⟨f, C0, ss', nd, wk, rv, hA⟩ := p4
    refine ⟨p, dx, _, rfl, h1, aside _ α1 C1 f, pick f α1, C0, ss', _, _, r1.hand nd wk, ?_, hA, fun v' H' s' α' C' t r c p => ?_, fun _ _ _ _ _ _ _ _ _ z => z.elim⟩
    · exact Rcs.mono (fun a m => (aside_h r1 wk).mp m) ((Rcs.cons c0 .nil).ren (wk_lt r1 wk) rv)
    · obtain ⟨α3, bk⟩ := back r1 nd wk t r
      obtain ⟨i, e, p⟩ := isS_of p
      have bc := bk.val c
      rw [e] at bc
      have e2 := bc.str_inv
      subst e2
      exact ⟨i, rfl, q _ H' _ α3 _ (t1.trans bk.to) bk.rep bc p⟩
theorem r_xStrO {k : Kx} {W : WX} (c : Nat) (A : Pw) (a : XE) : (xStrO c A a).te k W = tCB (rStrO k c A) (tCons (a.te k W) tNil) := rfl
/-! ### repr(x) of an object with a __repr__ of its own -/
section
variable {X : Cx} {CX : CXT} {k : Nat} {C f : Addr} {fd : FuncData} {ps : List Str} {sp : Sp} {E : XK}
theorem call_reprOwn (hs : PySem.W.findIn X.K (.ref C) "__repr__" = some (some (.ref f))) (hf : PySem.W.isFn X.K (.ref f) = true) (F : FnG X.prog X.w X.K X.mg X.base CX k f fd ps sp) (hG : X.A.guards = some []) (hr : Room (k + 1) X.A) (hb : Binds X.K fd ps []) (hx : Passes CX X E) :
    CallR X (.builtin "repr") (fun xs H Q => ∃ a dx fs, xs = [.ref a] ∧ H a = some (.ins C dx fs) ∧ sp [.ref a] H (fun v H' => ∃ y : Str, v = .str y ∧ Q (.str y) H') E) := by
  intro pins s σ H xs us Q I r h
  obtain ⟨a, dx, fs, rfl, ha, h⟩ := h
  obtain ⟨u, rfl, ru⟩ := vals1 r
  obtain rfl : u = Value.ref a := ru
  obtain ⟨mA, J, _⟩ := ins_get I.hok ha
  obtain ⟨od, J, _⟩ := J.look
  refine Calls.call_function_entry PySem.F.kind_repr PySem.F.plain_repr PySem.F.entry_repr (PySem.F.args_repr1 _) ?_
  unfold Builtin.«repr»
  refine wpAny_bind (m := oneArg "repr" _) (wpAny_pure ?_)
  refine wpAny_bind (m := cRoomFor _ _) (wpAny_cRoomFor (by have := hr.in1.units0; exact this) ?_)
  refine wpAny_bind (m := specialOf _ _) (wpAny_bind (J.type.here ((PySem.W.looks_findIn I.kIn hs).here ?_)))
  have hl : ([Value.ref a] ++ []).length = ps.length := by have := F.many _ _ _ _ h; simpa using this
  have vv : Vals [V.ref a] ([Value.ref a] ++ []) := .cons rfl .nil
  have ran := F.run X.A.in1 hG hr.in1 X.stack s H I.env0.in1 ⟨[.ref a], []⟩ ([.ref a] ++ []) [.ref a] (hb s [.ref a] I.kIn hl) vv _ E h
  refine wpAny_bind (m := callSpecialIfBound? (.ref a) (PySem.Str.ofString "__repr__")) (PySem.W.ifBound_K (args := []) I.kIn J hs hf (wpAny_call (codeAny_mono ran ?_)))
  rintro (er | _ | _ | _ | u) s' z
  · exact hx pins σ H s er s' I z
  · exact False.elim z
  · exact False.elim z
  · exact False.elim z
  · obtain ⟨v, H', I', rv, y, rfl, q⟩ := I.after z
    obtain ⟨t, rfl⟩ := rv
    refine wpAny_bind (wpAny_isInstance (T := "str") (b := true) (typeIs_str _ _ _) isSubtype_str_str ?_)
    exact wpAny_pure ⟨_, rfl, .str y, H', I', ⟨_, rfl⟩, q⟩
end
def rReprO (k : Kx) (c : Nat) (A : Pw) : List V → Hp → VK → Prop := fun xs H Q => ∃ a dx fs, xs = [.ref a] ∧ H a = some (.ins (k.cl c) dx fs) ∧ spW k A [.ref a] H (fun v H' => ∃ y : Str, v = .str y ∧ Q (.str y) H') E0
def xReprO (c : Nat) (A : Pw) (a : XE) : XE where
  te k W := tCB (rReprO k c A) (tCons (a.te k W) tNil)
  wp X ρ C P := a.wp X ρ C fun s C1 => isC s fun n => objAt C1 n fun c' _ => chk (Nat.beq c' c) (callW A (fun _ _ => False) C1 [s] fun t C2 => isS t fun y => P (.d (.str y)) C2)
  ok w h q := a.ok w h fun v H1 s α1 C1 t1 r1 c1 p1 => by
    have c0 := c1
    obtain ⟨n, p, rfl, hp, rfl, p1⟩ := isC_of c1 p1
    obtain ⟨c', ss, hc, p3⟩ := objAt_of p1
    obtain ⟨hcc, p4⟩ := chk_of p3
    have hcc := Nat.eq_of_beq_eq_true hcc
    subst hcc
    obtain ⟨dx, xs, h1, h2, h3, h4⟩ := obj_at r1 hp hc
    unfold callW at p4
    obtain ⟨f, C0, ss', nd, wk, rv, hA⟩ := p4
    refine ⟨p, dx, _, rfl, h1, aside _ α1 C1 f, pick f α1, C0, ss', _, _, r1.hand nd wk, ?_, hA, fun v' H' s' α' C' t r c p => ?_, fun _ _ _ _ _ _ _ _ _ z => z.elim⟩
    · exact Rcs.mono (fun a m => (aside_h r1 wk).mp m) ((Rcs.cons c0 .nil).ren (wk_lt r1 wk) rv)
    · obtain ⟨α3, bk⟩ := back r1 nd wk t r
      obtain ⟨i, e, p⟩ := isS_of p
      have bc := bk.val c
      rw [e] at bc
      have e2 := bc.str_inv
      subst e2
      exact ⟨i, rfl, q _ H' _ α3 _ (t1.trans bk.to) bk.rep bc p⟩
theorem r_xReprO {k : Kx} {W : WX} (c : Nat) (A : Pw) (a : XE) : (xReprO c A a).te k W = tCB (rReprO k c A) (tCons (a.te k W) tNil) := rfl
/-! ### str(x) of a text -/
def StrSD : List PyData → PyData → Prop
  | [.str x], z => z = .str x
  | _, _ => False
theorem call_strSD {X : Cx} : CallR X (.type "str") (rC X.K StrSD) := by
  intro pins s σ H xs us Q I rx h
  obtain ⟨M, ds, z, hM, hd, g, q⟩ := h
  match ds, g with
  | [.str x], g =>
    obtain ⟨v, rfl, h1⟩ := Dts.one hd
    have e1 := Dt.str_inv h1; subst e1
    exact SkE.call_str_str pins s σ H _ us Q I rx ⟨x, rfl, q _ H (Ex.refl H) (by rw [show z = _ from g]; exact .str _)⟩
instance : OpB StrSD := ⟨fun ds K => match ds with
  | [.str x] => K (.str x)
  | _ => False, fun ds K h => by
    match ds, h with
    | [.str x], h => exact ⟨_, rfl, h⟩⟩
/-! ### [..] * n, to be changed -/
def xMulC (a b : XE) : XE where
  te k W := tOp (rRepR k.K) (a.te k W) (b.te k W)
  wp X ρ C P := a.wp X ρ C fun s C1 => b.wp X ρ C1 fun t C2 => rd C2 s fun d => isI t fun i => isL d fun xs => (-(2 ^ 63) ≤ i ∧ i < 2 ^ 63 ∧ xs.length * i.toNat ≤ sizeLine) ∧ appK (.lst (List.replicate i.toNat xs).flatten) C2 0 fun n C3 => P (.c n) C3
  ok w h q := a.ok w h fun v H1 s α1 C1 t1 r1 c1 p1 => b.ok (w.to t1 r1) p1 fun u H2 s2 α2 C2 t2 r2 c2 p2 => by
    obtain ⟨d, h1, p2⟩ := rd_dt r2 (c1.to t2) p2
    obtain ⟨i, rfl, p2⟩ := isI_of p2
    have e2 := Da.int_inv c2
    subst e2
    obtain ⟨xs, hd, hl, p3⟩ := isL_of (d := d) p2
    subst hd
    obtain ⟨x, vs, rfl, hx, dx⟩ := h1.list_inv
    rw [hid_nil] at hx
    refine ⟨x, i, vs, rfl, rfl, hx, ⟨hl.1, hl.2.1⟩, by rw [Das.len dx]; exact hl.2.2, fun p hp => ?_⟩
    obtain ⟨r3, t3⟩ := r2.newL hp (Das.rep dx i.toNat)
    exact q _ _ (.c C2.length) _ _ ((t1.trans t2).trans t3) r3 (Rc.last r2) (appK_of p3)
theorem r_xMulC {k : Kx} {W : WX} (a b : XE) : (xMulC a b).te k W = tOp (rRepR k.K) (a.te k W) (b.te k W) := rfl
/-! ### xs[i] = x, x an object -/
def xsSetItemR (e o i : XE) : XS where
  ts k W := tAsg (e.te k W) (gSub (o.te k W) (i.te k W) rSetL)
  wp X ρ C P := e.wp X ρ C fun s C1 => o.wp X ρ C1 fun t C2 => isC t fun n => i.wp X ρ C2 fun u C3 => isI u fun j => rfsAt C3 (.c n) fun ss => ixnW ss.length j fun m => setK ss m s fun es => setK C3 n (.rfs es) fun C5 => P.N ρ C5
  ok w h q := e.ok w h fun v H1 s α1 C1 t1 r1 c1 p1 => o.ok (w.to t1 r1) p1 fun u H2 s2 α2 C2 t2 r2 c2 p2 => by
    obtain ⟨n, p, rfl, hp, rfl, p2⟩ := isC_of c2 p2
    refine i.ok ((w.to t1 r1).to t2 r2) p2 fun z H3 s3 α3 C3 t3 r3 c3 p3 => ?_
    obtain ⟨j, e1, p6⟩ := isI_of p3
    subst e1
    have ez := Da.int_inv c3
    subst ez
    have hp3 : α3[n]? = some p := by
      obtain ⟨e, rfl, _⟩ := t3.ex
      rw [List.getElem?_append_left (List.getElem?_eq_some_iff.mp hp).1]; exact hp
    obtain ⟨n', ss, e2, hn, p4⟩ := rfsAt_of p6
    cases e2
    obtain ⟨m, hm, p5⟩ := ixnW_of p4
    obtain ⟨xs, h1, h2⟩ := r3.at_ n p _ hp3 hn
    obtain ⟨r5, t5⟩ := r3.putR hp3 hn (Rcs.set ((c1.to t2).to t3) h2 m)
    have tt := ((t1.trans t2).trans t3).trans t5
    exact ⟨p, xs, j, m, rfl, rfl, h1, by rw [Rcs.len h2]; exact hm, q.nx _ _ _ α3 _ tt r5 (w.en.to tt) (setK_of (K := fun C5 => _) (setK_of (K := fun es => setK C3 n (.rfs es) fun C5 => _) p5))⟩
theorem r_xsSetItemR {k : Kx} {W : WX} (e o i : XE) : (xsSetItemR e o i).ts k W = tAsg (e.te k W) (gSub (o.te k W) (i.te k W) rSetL) := rfl
/-! ### isinstance(x, C), x of the own class C -/
structure OwnC (K : Fg) (C : Addr) : Prop where
  ha : PySem.W.findIn K (.ref C) "__class__" = some (some (.builtin "object.__class__"))
  hn : PySem.W.specialIn K (.builtin "object.__class__") "__get__" = some (some (.builtin "getset_descriptor.__get__"))
  ht : PySem.W.takesIn K (.builtin "object.__class__") = some true
  hm : PySem.W.mroIn K C (.type "object") = some true
theorem kit_self {K : Fg} {C : Addr} : PySem.W.kitOne K (.ref C) (.ref C) = some true := by
  unfold PySem.W.kitOne
  rw [if_pos]
  simp
def rIsO (k : Kx) (c : Nat) : List V → Hp → VK → Prop := fun xs H Q => ∃ a dx fs, xs = [.ref a, .ref (k.cl c)] ∧ H a = some (.ins (k.cl c) dx fs) ∧ Q (.bl true) H
theorem call_isO {X : Cx} {k : Kx} {c : Nat} (hK : X.K = k.K) (cl : Cls k.K (k.cl c)) (oc : OwnC k.K (k.cl c)) : CallR X (.builtin "isinstance") (rIsO k c) := by
  intro pins s σ H xs us Q I rx h
  obtain ⟨a, dx, fs, rfl, ha, q⟩ := h
  refine call_isi pins s σ H _ us Q I rx ⟨.ref a, .ref (k.cl c), .ref (k.cl c), .ref (k.cl c), true, rfl, .own _, ?_, ?_, q⟩
  · rw [hK]; exact .base (.ins ha cl oc.ha oc.hn oc.ht oc.hm)
  · exact kit_self
def xIsO (c : Nat) (a : XE) : XE where
  te k W := tCB (rIsO k c) (tCons (a.te k W) (tCons (tC (.ref (k.cl c))) tNil))
  wp X ρ C P := a.wp X ρ C fun s C1 => isC s fun n => objAt C1 n fun c' _ => chk (Nat.beq c' c) (P (.d (.bool true)) C1)
  ok w h q := a.ok w h fun v H1 s α1 C1 t1 r1 c1 p1 => by
    obtain ⟨n, p, rfl, hp, rfl, p1⟩ := isC_of c1 p1
    obtain ⟨c', ss, hc, p3⟩ := objAt_of p1
    obtain ⟨hcc, p4⟩ := chk_of p3
    have hcc := Nat.eq_of_beq_eq_true hcc
    subst hcc
    obtain ⟨dx, xs, h1, h2, h3, h4⟩ := obj_at r1 hp hc
    exact ⟨p, dx, _, rfl, h1, q _ H1 (.d (.bool true)) α1 C1 t1 r1 (Dq.bl _) p4⟩
theorem r_xIsO {k : Kx} {W : WX} (c : Nat) (a : XE) : (xIsO c a).te k W = tCB (rIsO k c) (tCons (a.te k W) (tCons (tC (.ref (k.cl c))) tNil)) := rfl
/-! ### x == y by an own __eq__, both of one class -/
section
variable {X : Cx} {CX : CXT} {k : Nat} {C f : Addr} {fd : FuncData} {ps : List Str} {sp : Sp} {E : XK}
def rEqOf (C : Addr) (sp : Sp) (E : XK) : R2 := fun x y H Q => ∃ a b dx fs dy gs, x = .ref a ∧ y = .ref b ∧ H a = some (.ins C dx fs) ∧ H b = some (.ins C dy gs) ∧ sp [.ref a, .ref b] H (fun v H' => ∃ z : Bool, v = .bl z ∧ Q (.bl z) H') E
theorem op_eqOwn (hs : PySem.W.findIn X.K (.ref C) "__eq__" = some (some (.ref f))) (hf : PySem.W.isFn X.K (.ref f) = true) (F : FnG X.prog X.w X.K X.mg X.base CX k f fd ps sp) (hG : X.A.guards = some []) (hr : Room k X.A) (hb : Binds X.K fd ps []) (hx : Passes CX X E) :
    OpR X (compareOp .Eq) (rEqOf C sp E) := by
  intro pins s σ H x y v u Q I rx ry h
  obtain ⟨a, b, dx, fs, dy, gs, rfl, rfl, ha, hb', h⟩ := h
  cases rx
  cases ry
  obtain ⟨mA, J, _⟩ := ins_get I.hok ha
  obtain ⟨mB, J', _⟩ := ins_get I.hok hb'
  obtain ⟨od, J, _⟩ := J.look
  obtain ⟨od', J', _⟩ := J'.look
  obtain ⟨m, hF⟩ := I.fr
  show wpAny (model X.prog X.w) X.A (richCompare .Eq (.ref a) (.ref b)) (EP X pins σ Q) X.xe s
  refine PySem.W.cmp_K (op := .Eq) (tb := .ref C) hr.units0 hF I.ok.mod.kin J J'.type (by simp [PySem.W.notFirst]) hs hf ?_
  have hl : ([Value.ref a, Value.ref b] ++ []).length = ps.length := by have := F.many _ _ _ _ h; simpa using this
  have vv : Vals [V.ref a, V.ref b] ([Value.ref a, Value.ref b] ++ []) := .cons rfl (.cons rfl .nil)
  have ran := F.run X.A hG hr X.stack s H I.env0 ⟨[.ref a, .ref b], []⟩ ([.ref a, .ref b] ++ []) [.ref a, .ref b] (hb s [.ref a, .ref b] I.kIn hl) vv _ E h
  refine wpAny_call (codeAny_mono ran ?_)
  rintro (er | _ | _ | _ | u) s' z
  · exact hx pins σ H s er s' I z
  · exact False.elim z
  · exact False.elim z
  · exact False.elim z
  · obtain ⟨v, H', I', rv, y, rfl, q⟩ := I.after z
    cases rv
    exact ⟨.bl y, H', I', rfl, q⟩
end
theorem isB_cv {s : Cv} {K : Bool → Prop} (h : isB s K) : ∃ i, s = .d (.bool i) ∧ K i := by
  cases s with
  | d x => cases x <;> first | exact h.elim | exact ⟨_, rfl, h⟩
  | v x => exact h.elim
  | c n => exact h.elim
def rEqO (k : Kx) (c : Nat) (A : Pw) : R2 := rEqOf (k.cl c) (spW k A) E0
def xEqO (c : Nat) (A : Pw) (a b : XE) : XE where
  te k W := tOp (rEqO k c A) (a.te k W) (b.te k W)
  wp X ρ C P := a.wp X ρ C fun s C1 => b.wp X ρ C1 fun t C2 => isC s fun n => isC t fun m => objAt C2 n fun c1 _ => objAt C2 m fun c2 _ => chk (Nat.beq c1 c) (chk (Nat.beq c2 c) (callW A (fun _ _ => False) C2 [s, t] fun z C3 => isB z fun y => P (.d (.bool y)) C3))
  ok w h q := a.ok w h fun v H1 s α1 C1 t1 r1 c1 p1 => b.ok (w.to t1 r1) p1 fun u H2 t α2 C2 t2 r2 c2 p2 => by
    have c1 := c1.to t2
    have d1 := c1
    have d2 := c2
    obtain ⟨n, p, rfl, hp, rfl, p2⟩ := isC_of c1 p2
    obtain ⟨m, p', rfl, hp', rfl, p2⟩ := isC_of c2 p2
    obtain ⟨c', ss, hc, p2⟩ := objAt_of p2
    obtain ⟨c'', ss2, hc2, p2⟩ := objAt_of p2
    obtain ⟨e1, p2⟩ := chk_of p2
    obtain ⟨e2, p4⟩ := chk_of p2
    have e1 := Nat.eq_of_beq_eq_true e1
    have e2 := Nat.eq_of_beq_eq_true e2
    subst e1
    subst e2
    obtain ⟨dx, xs, h1, _, _, _⟩ := obj_at r2 hp hc
    obtain ⟨dy, ys, h2, _, _, _⟩ := obj_at r2 hp' hc2
    unfold callW at p4
    obtain ⟨f, C0, ss', nd, wk, rv, hA⟩ := p4
    refine ⟨p, p', dx, _, dy, _, rfl, rfl, h1, h2, aside _ α2 C2 f, pick f α2, C0, ss', _, _, r2.hand nd wk, ?_, hA, fun v' H' s' α' C' t r c p => ?_, fun _ _ _ _ _ _ _ _ _ z => z.elim⟩
    · exact Rcs.mono (fun a m => (aside_h r2 wk).mp m) ((Rcs.cons d1 (.cons d2 .nil)).ren (wk_lt r2 wk) rv)
    · obtain ⟨α3, bk⟩ := back r2 nd wk t r
      obtain ⟨i, e, p⟩ := isB_cv p
      have bc := bk.val c
      rw [e] at bc
      have e2 := Da.bl_inv bc
      subst e2
      exact ⟨i, rfl, q _ H' _ α3 _ ((t1.trans t2).trans bk.to) bk.rep bc p⟩
theorem r_xEqO {k : Kx} {W : WX} (c : Nat) (A : Pw) (a b : XE) : (xEqO c A a b).te k W = tOp (rEqO k c A) (a.te k W) (b.te k W) := rfl
end DL
set_option maxRecDepth 100000
namespace DL
open PySem L2
/-! ### sorted, of data of any make -/
/-- the order of data -/
def leD : PyData → PyData → Bool := PySem.W.dataLe false id
def gsort (ds : List PyData) : List PyData := ds.mergeSort leD
def SortG : List PyData → PyData → Prop
  | [.list ds], z => (PySem.W.AllAlike ds ∧ PySem.W.Sortable ds ∧ ∀ d ∈ ds, d.depth ≤ 8) ∧ z = .list (gsort ds)
  | _, _ => False
section
variable {X : Cx}
/-- a value of the machine for a pair of ours -/
def isPr (K : Fg) (H : Hp) (u : Value) (b : V × PyData) : Prop := RelV b.1 u ∧ Dq K H b.1 b.2
theorem each_prs {K : Fg} {H : Hp} : ∀ {xs : List V} {its : List Value} {ds : List PyData}, Vals xs its → DqAll K H xs ds → PySem.W.EachIs (isPr K H) its (xs.zip ds)
  | [], _, _, .nil, .nil => .nil
  | _ :: _, _, _, .cons a t, .cons h q => .cons ⟨a, h⟩ (each_prs t q)
theorem prs_vals {K : Fg} {H : Hp} : ∀ {its : List Value} {bs : List (V × PyData)}, PySem.W.EachIs (isPr K H) its bs → Vals (bs.map Prod.fst) its ∧ DqAll K H (bs.map Prod.fst) (bs.map Prod.snd)
  | _, _, .nil => ⟨.nil, .nil⟩
  | _, _, .cons ⟨a, h⟩ t => by
    obtain ⟨p, q⟩ := prs_vals t
    exact ⟨.cons a p, .cons h q⟩
theorem call_sortedG (hu : X.A.units + 64 < cLine) : CallR X (.builtin "sorted") (rC X.K SortG) := by
  intro pins s σ H xs us Q I rx h
  obtain ⟨M, ds, z, hM, hd, g, q⟩ := h
  match ds, g with
  | [.list ds], ⟨⟨hal, hk, hdep⟩, e⟩ =>
    subst e
    obtain ⟨v, rfl, h1⟩ := Dts.one hd
    obtain ⟨a, xs, rfl, ha, hx⟩ := Dt.list_inv h1
    obtain ⟨its, rv, hl, hz⟩ := I.list (hid_l ha)
    rw [Vals.ref1 rx]
    have hlen : xs.length = ds.length := Das.len hx
    have snd : (xs.zip ds).map Prod.snd = ds := List.map_snd_zip (by omega)
    have ep := each_prs rv hx
    have er : PySem.W.EachIs (fun u (b : V × PyData) => ∃ as, Reads s.heap u b.2 as) its (xs.zip ds) := ep.mono fun u b ⟨r, d⟩ => Dp.reads I _ _ _ (Dq.dp _ _ (dp_ex (hid_le M H) _ _ d)) r
    have hz' : its.length ≤ sizeLine := by rw [← rv.length]; exact hz
    refine PySem.W.sorted_data (enc := Prod.snd) hl.isList ep er (by rw [snd]; exact hal) (by rw [snd]; exact hk) (by rw [List.length_zip]; omega) (fun b hb => ?_) fun out hlo ho => ?_
    · have := hdep b.2 (by rw [← snd]; exact List.mem_map_of_mem hb)
      omega
    · obtain ⟨r1, r2⟩ := prs_vals ho
      have e2 : ((xs.zip ds).mergeSort (PySem.W.dataLe false Prod.snd)).map Prod.snd = gsort ds := by
        refine (List.map_mergeSort (r := PySem.W.dataLe false Prod.snd) (s := leD) (fun _ _ _ _ => rfl)).trans ?_
        rw [snd]; rfl
      rw [e2] at r2
      obtain ⟨c, he'⟩ := PyProof.Rows.sortedAll_at s.heap its out.toArray
      have hn : H (s.heap.objs.size + 1) = none := I.hok.fresh (Nat.le_succ _)
      exact ⟨.ref _, upd H (s.heap.objs.size + 1) (.lst _), I.laid (t' := s.toks) (fun _ _ => PyProof.Rows.sortedAll_old) (Nat.le_succ _) ⟨by rw [List.length_map, List.length_mergeSort, List.length_zip]; omega, out, c, r1, he'⟩, rfl, q _ _ (Ex.new hn) (Da.new_lst hM hn r2)⟩
end
/-- what sorted asks -/
def sortW (ds : List PyData) (K : List PyData → Prop) : Prop := (PySem.W.AllAlike ds ∧ PySem.W.Sortable ds ∧ ∀ d ∈ ds, d.depth ≤ 8) ∧ K (gsort ds)
instance : OpB SortG := ⟨fun ds K => match ds with
  | [.list a] => sortW a fun b => K (.list b)
  | _ => False, fun ds K h => by
    match ds, h with
    | [.list a], h => exact ⟨_, ⟨h.1, rfl⟩, h.2⟩⟩
end DL
set_option maxRecDepth 100000
namespace DL
open PySem L2
/-! ### sorted(set(xs)) -/
/-- numbers alone, or texts alone -/
def UniK (ks : List Key) : Prop := (∃ ns : List Int, ks = ns.map .inl) ∨ ∃ xs : List Str, ks = xs.map .inr
def leS (x y : Str) : Bool := decide (x.cps.toList ≤ y.cps.toList)
def leK (a b : Key) : Bool := PySem.W.dataLe false keyD a b
/-- the members, rising -/
def ksort (ks : List Key) : List Key := ks.mergeSort leK
theorem leK_int (i j : Int) : leK (.inl i) (.inl j) = decide (i ≤ j) := congrFun (congrFun (PySem.W.dataLe_int (fun b : Int => b)) i) j
theorem leK_str (x y : Str) : leK (.inr x) (.inr y) = leS x y := congrFun (congrFun (PySem.W.dataLe_str (fun b : Str => b)) x) y
theorem leS_trans {x y z : Str} (h : leS x y = true) (h' : leS y z = true) : leS x z = true := decide_eq_true (List.le_trans (of_decide_eq_true h) (of_decide_eq_true h'))
theorem leS_total (x y : Str) : (leS x y || leS y x) = true := by
  rw [Bool.or_eq_true]
  exact (List.le_total x.cps.toList y.cps.toList).imp decide_eq_true decide_eq_true
theorem leS_anti {x y : Str} (h : leS x y = true) (h' : leS y x = true) : x = y := by
  have e := List.le_antisymm (of_decide_eq_true h) (of_decide_eq_true h')
  cases x; cases y
  simp only [Array.toList_inj] at e
  rw [e]
theorem ksort_ints (ns : List Int) : ksort (ns.map .inl) = (isort ns).map .inl := (List.map_mergeSort (f := fun i => (Sum.inl i : Key)) fun _ _ _ _ => (leK_int _ _).symm).symm
def ssort (xs : List Str) : List Str := xs.mergeSort leS
theorem ksort_strs (xs : List Str) : ksort (xs.map .inr) = (ssort xs).map .inr := (List.map_mergeSort (f := fun i => (Sum.inr i : Key)) fun _ _ _ _ => (leK_str _ _).symm).symm
def leI (x y : Int) : Bool := decide (x ≤ y)
theorem leI_trans {x y z : Int} (h : leI x y = true) (h' : leI y z = true) : leI x z = true := decide_eq_true (Int.le_trans (of_decide_eq_true h) (of_decide_eq_true h'))
theorem leI_total (x y : Int) : (leI x y || leI y x) = true := by
  rw [Bool.or_eq_true]
  exact (Int.le_total x y).imp decide_eq_true decide_eq_true
theorem ssort_sorted (a : List Str) : (ssort a).Pairwise (fun x y => leS x y = true) := List.pairwise_mergeSort (le := leS) (fun _ _ _ => leS_trans) leS_total a
theorem isort_sorted (a : List Int) : (isort a).Pairwise (fun x y => leI x y = true) := List.pairwise_mergeSort (le := leI) (fun _ _ _ => leI_trans) leI_total a
theorem ssort_perm {a b : List Str} (h : a.Perm b) : ssort a = ssort b :=
  List.Perm.eq_of_pairwise (le := fun x y => leS x y = true) (fun _ _ _ _ => leS_anti) (ssort_sorted a) (ssort_sorted b) ((List.mergeSort_perm a _).trans (h.trans (List.mergeSort_perm b _).symm))
theorem isort_perm {a b : List Int} (h : a.Perm b) : isort a = isort b :=
  List.Perm.eq_of_pairwise (le := fun x y => leI x y = true) (fun _ _ _ _ p q => Int.le_antisymm (of_decide_eq_true p) (of_decide_eq_true q)) (isort_sorted a) (isort_sorted b) ((List.mergeSort_perm a _).trans (h.trans (List.mergeSort_perm b _).symm))
theorem perm_of_map {α β : Type} {f : α → β} (hf : ∀ a b, f a = f b → a = b) : ∀ (l r : List α), (l.map f).Perm (r.map f) → l.Perm r
  | [], r, h => by
    have := h.length_eq
    rw [List.map_nil, List.length_nil, List.length_map] at this
    rw [List.length_eq_zero_iff.mp this.symm]
  | x :: l, r, h => by
    obtain ⟨y, my, e⟩ := List.mem_map.mp (h.mem_iff.mp List.mem_cons_self)
    obtain rfl := hf _ _ e
    obtain ⟨u, v, rfl⟩ := List.append_of_mem my
    refine List.Perm.trans (.cons y (perm_of_map hf l (u ++ v) ?_)) List.perm_middle.symm
    have q : (f y :: l.map f).Perm (f y :: (u ++ v).map f) := by
      refine List.Perm.trans h ?_
      rw [List.map_append, List.map_cons, List.map_append]
      exact List.perm_middle
    exact q.cons_inv
theorem perm_map_inv {α β : Type} {f : α → β} (hf : ∀ a b, f a = f b → a = b) {l : List β} {r : List α} (h : l.Perm (r.map f)) : ∃ r' : List α, l = r'.map f ∧ r'.Perm r := by
  have m : ∀ x ∈ l, ∃ a, f a = x := fun x hx => by
    obtain ⟨a, _, e⟩ := List.mem_map.mp (h.mem_iff.mp hx)
    exact ⟨a, e⟩
  obtain ⟨r', rfl⟩ : ∃ r' : List α, l = r'.map f := by
    clear h
    induction l with
    | nil => exact ⟨[], rfl⟩
    | cons x l ih =>
      obtain ⟨a, rfl⟩ := m x List.mem_cons_self
      obtain ⟨r', rfl⟩ := ih fun y hy => m y (List.mem_cons_of_mem _ hy)
      exact ⟨a :: r', rfl⟩
  refine ⟨r', rfl, ?_⟩
  exact perm_of_map hf _ _ h
theorem UniK.perm {a b : List Key} (h : a.Perm b) (u : UniK b) : UniK a := by
  rcases u with ⟨ns, rfl⟩ | ⟨xs, rfl⟩
  · obtain ⟨r, rfl, _⟩ := perm_map_inv (fun _ _ e => Sum.inl.inj e) h
    exact .inl ⟨r, rfl⟩
  · obtain ⟨r, rfl, _⟩ := perm_map_inv (fun _ _ e => Sum.inr.inj e) h
    exact .inr ⟨r, rfl⟩
theorem ksort_perm {a b : List Key} (h : a.Perm b) (u : UniK b) : ksort a = ksort b := by
  rcases u with ⟨ns, rfl⟩ | ⟨xs, rfl⟩
  · obtain ⟨r, rfl, p⟩ := perm_map_inv (fun _ _ e => Sum.inl.inj e) h
    rw [ksort_ints, ksort_ints, isort_perm p]
  · obtain ⟨r, rfl, p⟩ := perm_map_inv (fun _ _ e => Sum.inr.inj e) h
    rw [ksort_strs, ksort_strs, ssort_perm p]
theorem UniK.dist {ks : List Key} (u : UniK ks) : UniK (distK ks) := by
  have mem : ∀ (ks σ : List Key) (k : Key), k ∈ ks.foldl stepK σ → k ∈ σ ∨ k ∈ ks := by
    intro ks
    induction ks with
    | nil => exact fun σ k h => .inl h
    | cons a ks ih =>
      intro σ k h
      rw [List.foldl_cons] at h
      rcases ih _ _ h with h | h
      · rcases (stepK_mem σ a k).mp h with h | h
        · exact .inl h
        · exact .inr (h ▸ List.mem_cons_self)
      · exact .inr (List.mem_cons_of_mem _ h)
  have sub : ∀ k ∈ distK ks, k ∈ ks := fun k h => (mem ks [] k h).resolve_left (fun q => nomatch q)
  have ex : ∀ (γ : Type) (f : γ → Key) (l : List Key), (∀ k ∈ l, ∃ c, f c = k) → ∃ r : List γ, l = r.map f := by
    intro γ f l h
    induction l with
    | nil => exact ⟨[], rfl⟩
    | cons x l ih =>
      obtain ⟨c, rfl⟩ := h x List.mem_cons_self
      obtain ⟨r, rfl⟩ := ih fun k hk => h k (List.mem_cons_of_mem _ hk)
      exact ⟨c :: r, rfl⟩
  rcases u with ⟨ns, rfl⟩ | ⟨xs, rfl⟩
  · exact .inl (ex Int _ _ fun k h => by obtain ⟨c, _, e⟩ := List.mem_map.mp (sub k h); exact ⟨c, e⟩)
  · exact .inr (ex Str _ _ fun k h => by obtain ⟨c, _, e⟩ := List.mem_map.mp (sub k h); exact ⟨c, e⟩)
theorem UniK.alike {ks : List Key} (u : UniK ks) : PySem.W.AllAlike (ks.map keyD) ∧ PySem.W.Sortable (ks.map keyD) := by
  rcases u with ⟨ns, rfl⟩ | ⟨xs, rfl⟩
  · rw [List.map_map]
    exact ⟨PySem.W.AllAlike.of fun _ _ => by simp [PySem.W.alike, keyD], PySem.W.Sortable.others fun _ => ⟨(fun e => nomatch e), fun _ e => nomatch e⟩⟩
  · rw [List.map_map]
    exact ⟨PySem.W.AllAlike.of fun _ _ => by simp [PySem.W.alike, keyD], PySem.W.Sortable.others fun _ => ⟨(fun e => nomatch e), fun _ e => nomatch e⟩⟩
/-- values of the machine for keys -/
theorem keys_each : ∀ {vs : List Value}, (∀ v ∈ vs, ∃ k, RelV (kV k) v) → PySem.W.EachIs (fun v k => RelV (kV k) v) vs (vs.map fun v => entK (0, v))
  | [], _ => .nil
  | v :: vs, h => by
    obtain ⟨k, r⟩ := h v List.mem_cons_self
    refine .cons ?_ (keys_each fun u hu => h u (List.mem_cons_of_mem _ hu))
    show RelV (kV (entK (0, v))) v
    rw [entK_of (e := (0, v)) r]; exact r
theorem keys_read {h : Heap} {v : Value} {k : Key} (r : RelV (kV k) v) : Reads h v (keyD k) [] := by
  cases k with
  | inl i =>
    obtain ⟨t, q⟩ := (show ∃ t, v = Value.int i t from r)
    subst q; exact .int i t
  | inr x =>
    obtain ⟨t, q⟩ := (show ∃ t, v = Value.str x t from r)
    subst q; exact .str x t
theorem keys_vals : ∀ {vs : List Value} {ks : List Key}, PySem.W.EachIs (fun v k => RelV (kV k) v) vs ks → Vals (ks.map kV) vs
  | _, _, .nil => .nil
  | _, _, .cons a t => .cons a (keys_vals t)
open PySem.Spec PyProof.Rows in
theorem call_sort_set {P : Program} {w : World} {A : Around} {E : Value → Shared → Prop} {s : Shared} {a : Addr} {σ : List Key} {Q : Value → Shared → Prop} (R : SetRK P w s.heap a σ) (hu : UniK σ) (hh : A.handled = none) (hun : A.units + 64 < cLine) (hl : σ.length ≤ 4000)
    (hQ : ∀ (s' : Shared) (p : Addr) (out : List Value) (c : Nat), (∀ b o, s.heap.get? b = some o → s'.heap.get? b = some o) → s'.gens = s.gens → s'.os = s.os → s.heap.objs.size ≤ p → s'.heap.get? p = some (seqObj "list" out.toArray c) → Vals ((ksort σ).map kV) out → Q (.ref p) s') :
    wpAny (model P w) A (call (.builtin "sorted") [.ref a]) Q E s := by
  obtain ⟨o, es, ep, t, ho, hex, hd, he, hb, hf, hr, hw⟩ := R
  refine Calls.call_function_entry kind_sorted plain_sorted entry_sorted (args_sorted1 _) ?_
  unfold Builtin.«sorted»
  refine wpAny_bind (m := checkCount "sorted" 1 1 _) (wpAny_pure (wpAny_bind (collect_set (A := A.in1) hh ⟨o, ho, hex.1, hd⟩ hf hb hr hw fun s1 vs k1 hz g1 o1 pm => ?_)))
  have hv : ∀ v ∈ vs, ∃ k, RelV (kV k) v := fun v m => by
    obtain ⟨e, m, q⟩ := List.mem_map.mp (pm.mem_iff.mp m)
    exact q ▸ he.vals e m
  have pk : (vs.map fun v => entK (0, v)).Perm σ := by
    refine (pm.map fun v => entK (0, v)).trans (List.Perm.trans ?_ he.pm)
    rw [List.map_map]
    exact .of_eq (List.map_congr_left fun e _ => rfl)
  have e1 := keys_each hv
  have ul : UniK (vs.map fun v => entK (0, v)) := hu.perm pk
  have len : vs.length = σ.length := by rw [← pk.length_eq, List.length_map]
  have sz : vs.length ≤ sizeLine := by rw [len]; exact Nat.le_trans hl (by decide)
  refine wpAny_bind (wpAny_newList ?_ sz)
  have hoL : (s1.heap.push (seqObj "list" vs.toArray 0)).get? s1.heap.objs.size = some (seqObj "list" vs.toArray 0) := Heap.get?_push_size _ rfl
  refine wpAny_bind (wpAny_holding (PySem.W.list_sort_data (enc := keyD) hoL e1 (e1.mono fun _ _ r => ⟨[], keys_read r, fun m => nomatch m⟩) ul.alike.1 ul.alike.2 (by rw [List.length_map]; exact sz) (fun k _ => ?_) fun out lo eo => ?_))
  · show A.units + 1 + 1 + (keyD k).depth < cLine
    have : (keyD k).depth = 0 := by cases k <;> rfl
    omega
  obtain ⟨c, hc⟩ := sortedHeap_at (vs := vs) (out := out.toArray) hoL
  refine wpAny_pure ⟨_, rfl, hQ _ s1.heap.objs.size out c (fun b u e => ?_) g1 o1 hz hc ?_⟩
  · have q := k1 b u e
    have hlt := Heap.lt_size q
    show (sortedHeap (s1.heap.push (seqObj "list" vs.toArray 0)) s1.heap.objs.size vs out.toArray).get? b = some u
    rw [sortedHeap_old (Nat.ne_of_lt hlt) (by rw [size_push']; exact Nat.lt_succ_of_lt hlt)]
    exact Heap.get?_push_of_some _ q
  · have := keys_vals eo
    rw [show (vs.map fun v => entK (0, v)).mergeSort (PySem.W.dataLe false keyD) = ksort σ from ksort_perm pk hu] at this
    exact this
def tSortSet (K : Fg) (ta : TE) : TE := fun σ H Q => ta σ H fun x H1 => ∃ (l : Addr) (ks : List Key), x = .ref l ∧ (SqL K H1 l (ks.map kV) ∨ SqT K H1 l (ks.map kV)) ∧ ks.length ≤ 4000 ∧ UniK ks ∧ ∀ p, H1 p = none → Q (.ref p) (upd H1 p (.lst ((ksort (distK ks)).map kV)))
open PySem.Spec PyProof.Rows in
theorem sort_set_inv {X : Cx} {pins : List (Addr × Obj)} {σ : L2.St} {H1 : Hp} {s : Shared} {a : Addr} {ks : List Key} {Q : VK} (hc : X.calm = true) (hu : X.A.units + 65 < cLine) (I : Inv X pins σ H1 s) (hl : ks.length ≤ 4000) (hun : UniK ks)
    (hS : SetRK X.prog X.w s.heap a (distK ks)) (q1 : ∀ p, H1 p = none → Q (.ref p) (upd H1 p (.lst ((ksort (distK ks)).map kV)))) :
    wpAny (model X.prog X.w) X.A (call (.builtin "sorted") [.ref a]) (fun v s' => EP X pins σ Q v s') X.xe s := by
  have dl := distK_len ks
  refine call_sort_set hS hun.dist (I.ok.hd hc) (by omega) (by omega) fun s' p out c k1 g o z hp hv => ?_
  have hn : H1 p = none := I.hok.fresh z
  have hlen : ((ksort (distK ks)).map kV).length ≤ sizeLine := by
    rw [List.length_map]; unfold ksort; rw [List.length_mergeSort]
    exact Nat.le_trans (Nat.le_trans dl hl) (by decide)
  have J : Inv X pins σ (upd H1 p (.lst ((ksort (distK ks)).map kV))) { s with heap := s'.heap, gens := s'.gens, drawn := s'.drawn, toks := s'.toks } :=
    I.call (ch := []) (Un.laid k1 z hn) (I.hok.laid k1 z ⟨hlen, out, c, hv, hp⟩) (by rw [g]; exact I.bare) (fun _ z => nomatch z)
  have e : s' = { s with heap := s'.heap, gens := s'.gens, drawn := s'.drawn, toks := s'.toks } := by
    cases s'
    cases o
    rfl
  rw [e]
  exact ⟨.ref p, _, J, rfl, q1 p hn⟩
open PySem.Spec PyProof.Rows in
theorem pe_sortSet {X : Cx} {a : Expr} {ta : TE} {p p2 q pos : Pos} (hc : X.calm = true) (hu : X.A.units + 65 < cLine) (hg : Gl X "sorted") (hm : X.mg "sorted" = none) (hg2 : Gl X "set") (hm2 : X.mg "set" = none) (ha : PE X a ta)
    (na : starEach [a] X.env = (false, eval a X.env) :: starEach [] X.env := by rfl) : PE X (.Call (.Name "sorted" p) [.Call (.Name "set" p2) [a] [] q] [] pos) (tSortSet X.K ta) := by
  refine ⟨fun pins s σ H Q I h => ?_⟩
  refine Call_ (ld_blt I hg hm boot_sorted ?_)
  refine PyProof.Rows.callWith_builtin1 (PyProof.Rows.args_cons ?_ rfl) rfl rfl
  refine Call_ (ld_blt I hg2 hm2 boot_set ?_)
  refine PyProof.Rows.callWith_type1 (PyProof.Rows.args_cons (thn (ha.run pins s σ H _ I h) fun v s1 ⟨x, H1, I1, r1, q1⟩ => PyProof.Rows.args_nil ?_) na) na rfl
  obtain ⟨l, ks, rfl, hq, hl, hun, q1⟩ := q1
  cases r1
  have fin : ∀ (h' : Heap) (tk : Nat), SetRK X.prog X.w h' s1.heap.objs.size (distK ks) → (∀ b o, b < s1.heap.objs.size → s1.heap.get? b = some o → h'.get? b = some o) →
      wpAny (model X.prog X.w) X.A (call (.builtin "sorted") [.ref s1.heap.objs.size]) (fun v s' => EP X pins σ Q v s') X.xe { s1 with heap := h', toks := tk } := fun h' tk hS hk =>
    sort_set_inv hc hu (I1.kept fun b o e => hk b o (Heap.lt_size e) e) hl hun hS q1
  rcases hq with hq | hq
  · obtain ⟨its, r, pl, hz⟩ := I1.list hq
    obtain ⟨e1, e2⟩ := key_vals r
    refine call_set_listK (I1.ok.hd hc) pl.isList (by rw [List.size_toArray, e1]) (fun i v hv => e2 i v (by simpa using hv)) (by unfold scanBound; omega) fun h' tk hS hk => ?_
    exact PyProof.Rows.args_nil (fin h' tk hS hk)
  · obtain ⟨its, r, pl, hz⟩ := I1.tuple hq
    obtain ⟨e1, e2⟩ := key_vals r
    refine call_set_tupleK (I1.ok.hd hc) ?_ (by rw [List.size_toArray, e1]) (fun i v hv => e2 i v (by simpa using hv)) (by unfold scanBound; omega) fun h' tk hS hk => ?_
    · obtain ⟨ob, h1, h2, n, h3⟩ := pl
      exact ⟨ob, h1, h2, n, h3⟩
    · exact PyProof.Rows.args_nil (fin h' tk hS hk)
theorem das_keys {K : Fg} {H : Hp} : ∀ (ks : List Key), DqAll K H (ks.map kV) (ks.map keyD)
  | [] => .nil
  | .inl i :: ks => .cons (.int i) (das_keys ks)
  | .inr x :: ks => .cons (.str x) (das_keys ks)
def sortKeysW (d : PyData) (K : List Key → Prop) : Prop := ∃ ks : List Key, (d = .list (ks.map keyD) ∨ d = .tuple (ks.map keyD)) ∧ ks.length ≤ 4000 ∧ UniK ks ∧ K (ksort (distK ks))
def xSortSet (a : XE) : XE where
  te k W := tSortSet k.K (a.te k W)
  wp X ρ C P := a.wp X ρ C fun s C1 => rd C1 s fun d => sortKeysW d fun ks => P (.d (.list (ks.map keyD))) C1
  ok w h q := a.ok w h fun v H1 s α1 C1 t1 r1 c1 p1 => by
    obtain ⟨d, h1, p2⟩ := rd_dt r1 c1 p1
    obtain ⟨ks, e, hl, hu, p2⟩ := p2
    have go : ∀ p, H1 p = none → _ := fun p hp => q (.ref p) (upd H1 p (.lst ((ksort (distK ks)).map kV))) (.d (.list _)) α1 C1 (t1.trans (r1.ex (Ex.new hp))) (r1.keep (Ex.new hp)) (Da.new_lst r1.md hp (das_keys _)) p2
    rcases e with rfl | rfl
    · obtain ⟨a, xs, rfl, ha, hx⟩ := h1.list_inv
      have e := keys_das hx
      subst e
      exact ⟨a, ks, rfl, .inl (by rw [hid_nil] at ha; exact ha), hl, hu, go⟩
    · obtain ⟨a, xs, rfl, ha, hx⟩ := h1.tup_inv
      have e := keys_das hx
      subst e
      exact ⟨a, ks, rfl, .inr (hid_t ha), hl, hu, go⟩
theorem r_xSortSet {k : Kx} {W : WX} (a : XE) : (xSortSet a).te k W = tSortSet k.K (a.te k W) := rfl
end DL
set_option maxRecDepth 100000
namespace DL
open PySem L2
local macro_rules | `(tactic| walk_at "ws") => `(tactic| first | (with_reducible trivial) | omega | exact DL.sz_le (by omega) | trivial | decide | exact Nat.le_of_ble_eq_true (by with_unfolding_all rfl) | exact .inr ⟨by omega, by omega⟩ | exact .inl ⟨by omega, by omega⟩ | exact .inr (by decide) | exact .inl (by decide) | exact ⟨by omega, by omega⟩)
local macro_rules | `(tactic| walk_at "wd") => `(tactic| with_reducible refine call_pickL (by with_unfolding_all rfl) (by omega) (by omega) (by omega) (fun _ _ _ => ?_))
local macro_rules | `(tactic| walk_at "w0") => `(tactic| first | (with_reducible refine k_seq ?_) | ((with_reducible refine And.intro ?_ ?_); focus (walk_at "ws"; done)))
local macro_rules | `(tactic| walk_at "w") => `(tactic| ((conv => whnf); first | (walk_at "w0"; walk_at "w") | skip))
local macro_rules | `(tactic| walk_at "wq") => `(tactic| ((conv => whnf); first | (walk_at "w0"; walk_at "wq") | (walk_at "wd"; walk_at "wq") | skip))
local macro_rules | `(tactic| walk_at "wa") => `(tactic| ((conv => whnf); first | (walk_at "w0"; walk_at "wa") | (refine cndP (fun h => ?_) (fun h => ?_) <;> walk_at "wa") | skip))
local macro_rules | `(tactic| walk_at "wqa") => `(tactic| ((conv => whnf); first | (walk_at "w0"; walk_at "wqa") | (walk_at "wd"; walk_at "wqa") | (refine cndP (fun h => ?_) (fun h => ?_) <;> walk_at "wqa") | skip))
local macro_rules | `(tactic| walk_at "wk") => `(tactic| (refine wkS_n ?_ ?_ <;> walk_at "wk1"))
local macro_rules | `(tactic| walk_at "wk1") => `(tactic| ((conv => whnf); first | exact trivial | (refine And.intro ?_ ?_ <;> walk_at "wk1") | with_unfolding_all rfl | omega | exact (show (_ : Nat) ≤ _ by omega) | skip))
local macro_rules | `(tactic| walk_at "wb") => `(tactic| ((conv => whnf); first | (walk_at "w0"; walk_at "wb") | (refine cndP (fun h => ?_) (fun h => ?_) <;> walk_at "wb") | (refine cndN (cndP (fun h => ?_) (fun h => ?_)) <;> walk_at "wb") | skip))
/-! ### draws -/
def N__law_mix : List Str := ["_law_cell", "_law_k", "_law_m"]
def x__law_mix : XS := (xsSeq (xsAsg (xOp ModD (xOp MulD (xOp AddD (xOp AddD (xOp ModD (xVar 0) (xInt 2147483629)) (xOp MulD (xOp MulD (xVar 1) (xVar 1)) (xInt 7919))) (xInt 11)) (xInt 48271)) (xInt 2147483647)) (xgName 2))
    (xsRet (xOp ModD (xOp MulD (xVar 2) (xVar 2)) (xInt 1999999973))))
def w__law_mix : Pw := fun ss C R _ => ∃ c k : Int, ss = [.d (.int c), .d (.int k)] ∧ C = [] ∧ -(2 ^ 40) < k ∧ k < 2 ^ 40 ∧ ∀ r : Int, 0 ≤ r → R (.d (.int r)) []
theorem sem__law_mix : SemW N__law_mix 2 w__law_mix x__law_mix := by
  rintro _ _ R X ⟨c, k, rfl, rfl, h1, h2, h⟩
  refine ⟨rfl, by decide, sem_on ?_⟩
  have e := Int.emod_lt_of_pos ((c % 2147483629 + k * k * 7919 + 11) * 48271) (show (0 : Int) < 2147483647 by decide)
  have e' := Int.emod_nonneg ((c % 2147483629 + k * k * 7919 + 11) * 48271) (show (2147483647 : Int) ≠ 0 by decide)
  walk_at "w"
  exact ret0 (h _ (Int.emod_nonneg _ (by decide)))
theorem call_mix {X : Xc → Cs → Prop} {C : Cs} {P : Cv → Cs → Prop} {c k : Int} (h1 : -(2 ^ 40) < k) (h2 : k < 2 ^ 40) (h : ∀ r : Int, 0 ≤ r → P (.d (.int r)) C) : callW w__law_mix X C [.d (.int c), .d (.int k)] P :=
  call_d ⟨c, k, rfl, rfl, h1, h2, fun r h0 => bk0 (h r h0)⟩ ⟨rfl, rfl, trivial⟩
def N__law_left : List Str := ["_law_script", "_law_k", "_law_cell"]
def x__law_left : XS := (xsSeq (xsAsg (xIf (xTest (xOp LtD (xVar 1) (xBi LenD (xCons (xVar 0) xNil)))) (xOp IxD (xVar 0) (xVar 1)) (xInt 0)) (xgName 2))
    (xsRet (xLstC (xCons (xOp MulD (xBi AbsD (xCons (xVar 2) xNil)) (xBi IntD (xCons (xOp GeD (xBi AbsD (xCons (xVar 2) xNil)) (xOp PowD (xInt 10) (xInt 18))) xNil))) (xCons (xOp AddD (xVar 2) (xOp MulD (xInt 1000003) (xVar 1))) (xCons (xInt 0) xNil))))))
abbrev w__law_left : Pw := w_leftL 0
theorem sem__law_left : SemW N__law_left 2 w__law_left x__law_left := by
  rintro _ _ R X ⟨ns, k, rfl, rfl, h0, h1, h⟩
  refine ⟨rfl, by decide, sem_on ?_⟩
  have rest : ∀ (c : Int) (b : Bool), retW 0 R (.c 0) [.lst [.int ((if c < 0 then -c else c) * (if b then 1 else 0)), .int (c + 1000003 * k), .int 0]] := by
    intro c b
    refine ret_w [0] h (by decide) rfl ⟨⟨_, _, _, rfl, ⟨_, rfl⟩, ?_, by decide, by decide⟩, trivial⟩ rfl
    refine Int.mul_nonneg (by split <;> omega) ?_
    split <;> omega
  conv => whnf
  refine cut_st (fun c : Int => [(2, some (.d (.int c)))]) (fun _ => []) (fun _ => True) (fun K kk => ?_) (fun c _ => ?_)
  · walk_at "w"
    refine cndP (fun hk => ?_) (fun hk => ?_)
    · walk_at "w"
      have hk : k < (ns.map PyData.int).length := hk
      rw [List.length_map] at hk
      refine ix_map_any (enc := PyData.int) h0 hk fun z _ => ?_
      walk_at "w"
      exact fin (kk z trivial) (by walk_at "wk")
    · walk_at "w"
      exact fin (kk 0 trivial) (by walk_at "wk")
  walk_at "wa"
  · exact rest c _
theorem call_lft {X : Xc → Cs → Prop} {C : Cs} {P : Cv → Cs → Prop} {ns : List Int} {k : Int} (hk : 0 ≤ k) (hk2 : k ≤ 100) (h : appK (.box 0 0) C 0 fun n C' => P (.c n) C') : callW w__law_left X C [.d (.list (ns.map .int)), .d (.int k)] P := call_leftL hk hk2 h
def N__law_pick : List Str := ["_law_left_here", "_law_many", "_law_digit"]
def x__law_pick : XS := (xsOpen 0 (xsSeq (xsSetItem (xOp AddD (xOp IxD (xVar 0) (xInt 2)) (xInt 1)) (xVar 0) (xInt 2))
    (xsSeq (xsIf (xTest (xOp GtD (xOp IxD (xVar 0) (xInt 0)) (xInt 0))) (xsSeq (xsAsg (xOp ModD (xOp IxD (xVar 0) (xInt 0)) (xVar 1)) (xgName 2))
    (xsSeq (xsSetItem (xOp DivD (xOp IxD (xVar 0) (xInt 0)) (xVar 1)) (xVar 0) (xInt 0))
    (xsRet (xVar 2)))) xsNext)
    (xsRet (xOp ModD (xOp DivD (xCall w__law_mix (xCons (xCall w__law_mix (xCons (xOp IxD (xVar 0) (xInt 1)) (xCons (xOp IxD (xVar 0) (xInt 2)) xNil))) (xCons (xOp AddD (xOp IxD (xVar 0) (xInt 2)) (xInt 64)) xNil))) (xInt 64)) (xVar 1))))))
abbrev w__law_pick : Pw := w_pickL 0
theorem sem__law_pick : SemW N__law_pick 2 w__law_pick x__law_pick := by
  rintro _ _ R X ⟨n, m, rfl, rfl, hn, h0, h1, h⟩
  refine ⟨rfl, by decide, sem_on ?_⟩
  walk_at "w"
  rintro x y d ⟨i, rfl⟩ hx hy hyn
  have fin : ∀ r x' y' : Int, 0 ≤ r → r < m → 0 ≤ x' → 0 ≤ y' → y' ≤ n + 1 → retW 1 R (.d (.int r)) [.lst [.int x', .int i, .int y']] := fun r x' y' a1 a2 a3 a4 a5 =>
    ret_w [0] (h r a1 a2) (by decide) rfl ⟨⟨x', y', .int i, rfl, ⟨i, rfl⟩, a3, a4, by omega⟩, trivial⟩ rfl
  walk_at "wa"
  · exact fin _ _ _ (Int.emod_nonneg _ (by omega)) (Int.emod_lt_of_pos _ h0) (Int.ediv_nonneg hx (by omega)) (by omega) (by omega)
  · refine call_mix (by omega) (by omega) fun r1 h1 => ?_
    walk_at "w"
    refine call_mix (by omega) (by omega) fun r2 h2 => ?_
    walk_at "w"
    exact fin _ _ _ (Int.emod_nonneg _ (by omega)) (Int.emod_lt_of_pos _ h0) hx (by omega) (by omega)
theorem call_pick {X : Xc → Cs → Prop} {C : Cs} {P : Cv → Cs → Prop} {i n : Nat} {m : Int} (hc : C[i]? = some (.box 0 n)) (hn : n ≤ 1000000000) (h0 : 0 < m) (h1 : m < 1073741824)
    (h : ∀ r : Int, 0 ≤ r → r < m → setK C i (.box 0 (n + 1)) fun C' => P (.d (.int r)) C') : callW w__law_pick X C [.c i, .d (.int m)] P := call_pickL hc hn h0 h1 h
/-! ### drawn figures, prices, names -/
theorem eqOk (n : Nat) {a b : PyData} (h1 : okD n a = true) (h2 : okD n b = true) (hn : n ≤ 63 := by decide) : EqOk a b := ⟨.inl (okD_shp h1 hn), .inl (okD_shp h2 hn)⟩
theorem eqv_same (n : Nat) {a b : PyData} (h1 : okD n a = true) (e : a = b) : PyData.eqv a b = true := (okD_eqv n a b h1 (e ▸ h1)).mpr e
theorem eqv_diff (n : Nat) {a b : PyData} (h1 : okD n a = true) (h2 : okD n b = true) (e : a ≠ b) : PyData.eqv a b = false := Bool.eq_false_iff.mpr fun h => e ((okD_eqv n a b h1 h2).mp h)
theorem cndE {b : Bool} {A B : Prop} (e : b = true) (h : A) : cnd b A B := by rw [e]; exact h
theorem cndE' {b : Bool} {A B : Prop} (e : b = true) (h : B) : cnd (!b) A B := by rw [e]; exact h
theorem okD_ints (n : Nat) (xs : List Int) : okD (n + 1) (.list (xs.map .int)) = true := by
  show (xs.map PyData.int).all (okD n) = true
  rw [List.all_map]
  exact List.all_eq_true.mpr fun _ _ => by cases n <;> rfl
/-! ### what prices are -/
def icD (p : Int × Int) : PyData := .tuple [.int p.1, .int p.2]
def numB (lo hi : Int) : PyData → Bool
  | .int i => decide (lo ≤ i) && decide (i ≤ hi)
  | _ => false
def prB : PyData → Bool
  | .tuple [a, b] => numB 0 400 a && numB 1 1000000 b
  | _ => false
def dayOf : PyData → Int
  | .tuple (.int i :: _) => i
  | _ => 0
def risB (ds : List PyData) : Bool := (ds.zip (ds.drop 1)).all fun p => decide (dayOf p.1 < dayOf p.2)
def areL (ds : List PyData) : Bool := ds.all prB && risB ds
def areB : PyData → Bool
  | .list ds => areL ds
  | .tuple ds => areL ds
  | _ => false
def N_is_within : List Str := ["thing", "least", "most"]
def x_is_within : XS := (xsRet (xAnd (xIsi (xVar 0) "int") (xAnd (xNot (xIsi (xVar 0) "bool")) (xChain LeD LeD (xVar 1) (xVar 0) (xVar 2)))))
def w_is_within : Pw := fun ss C R _ => ∃ (d : PyData) (lo hi : Int), ss = [.d d, .d (.int lo), .d (.int hi)] ∧ C = [] ∧ R (.d (.bool (numB lo hi d))) []
theorem sem_is_within : SemW N_is_within 3 w_is_within x_is_within := by
  rintro _ _ R X ⟨d, lo, hi, rfl, rfl, h⟩
  refine ⟨rfl, by decide, sem_on ?_⟩
  cases d with
  | int i =>
    have h : R (.d (.bool (decide (lo ≤ i) && decide (i ≤ hi)))) [] := h
    walk_at "w"
    refine cndP (fun e => ?_) (fun e => ?_)
    · rw [decide_eq_true e, Bool.true_and] at h
      walk_at "w"
      exact ret0 h
    · rw [decide_eq_false e, Bool.false_and] at h
      exact ret0 h
  | _ => walk_at "w"; exact ret0 h
theorem call_within {X : Xc → Cs → Prop} {C : Cs} {P : Cv → Cs → Prop} {d : PyData} {lo hi : Int} (h : P (.d (.bool (numB lo hi d))) C) : callW w_is_within X C [.d d, .d (.int lo), .d (.int hi)] P :=
  call_d ⟨d, lo, hi, rfl, rfl, bk0 h⟩ ⟨rfl, rfl, rfl, trivial⟩
def N_is_price : List Str := ["thing"]
def x_is_price : XS := (xsSeq (xsIf (xTOr (xTNot (xB (xIsi (xVar 0) "tuple"))) (xTest (xOp NeD (xBi LenD (xCons (xVar 0) xNil)) (xInt 2)))) (xsRet (xBl false)) xsNext)
    (xsRet (xAnd (xCall w_is_within (xCons (xOp IxD (xVar 0) (xInt 0)) (xCons (xInt 0) (xCons (xInt 400) xNil)))) (xCall w_is_within (xCons (xOp IxD (xVar 0) (xInt 1)) (xCons (xInt 1) (xCons (xInt 1000000) xNil)))))))
def w_is_price : Pw := fun ss C R _ => ∃ d : PyData, ss = [.d d] ∧ C = [] ∧ R (.d (.bool (prB d))) []
theorem sem_is_price : SemW N_is_price 1 w_is_price x_is_price := by
  rintro _ _ R X ⟨d, rfl, rfl, h⟩
  refine ⟨rfl, by decide, sem_on ?_⟩
  cases d with
  | tuple ds =>
    walk_at "w"
    refine cndN (cndP (fun e => ?_) (fun e => ?_))
    · have e : (ds.length : Int) = 2 := e
      match ds, e, h with
      | [a, b], _, h =>
        have h : R (.d (.bool (numB 0 400 a && numB 1 1000000 b))) [] := h
        walk_at "w"
        refine call_within ?_
        generalize numB 0 400 a = x at h
        cases x with
        | true =>
          walk_at "w"
          refine call_within ?_
          walk_at "w"
          exact ret0 h
        | false => walk_at "w"; exact ret0 h
    · have h : R (.d (.bool false)) [] := by
        match ds, e, h with
        | [], _, h => exact h
        | [_], _, h => exact h
        | [_, _], e, _ => exact absurd rfl e
        | _ :: _ :: _ :: _, _, h => exact h
      walk_at "w"
      exact ret0 h
  | _ => walk_at "w"; exact ret0 h
theorem call_isprice {X : Xc → Cs → Prop} {C : Cs} {P : Cv → Cs → Prop} {d : PyData} (h : P (.d (.bool (prB d))) C) : callW w_is_price X C [.d d] P :=
  call_d ⟨d, rfl, rfl, bk0 h⟩ ⟨rfl, trivial⟩
theorem prB_iff {d : PyData} : prB d = true ↔ ∃ p : Int × Int, d = icD p ∧ (0 ≤ p.1 ∧ p.1 ≤ 400) ∧ 1 ≤ p.2 ∧ p.2 ≤ 1000000 := by
  constructor
  · intro h
    match d, h with
    | .tuple [.int a, .int b], h =>
      have h : ((decide (0 ≤ a) && decide (a ≤ 400)) && (decide (1 ≤ b) && decide (b ≤ 1000000))) = true := h
      simp only [Bool.and_eq_true, decide_eq_true_eq] at h
      exact ⟨(a, b), rfl, h⟩
    | .tuple [.int a, .none], h => simp [prB, numB] at h
    | .tuple [.int a, .bool _], h => simp [prB, numB] at h
    | .tuple [.int a, .str _], h => simp [prB, numB] at h
    | .tuple [.int a, .list _], h => simp [prB, numB] at h
    | .tuple [.int a, .tuple _], h => simp [prB, numB] at h
    | .tuple [.int a, .dict _], h => simp [prB, numB] at h
    | .tuple [.none, _], h => simp [prB, numB] at h
    | .tuple [.bool _, _], h => simp [prB, numB] at h
    | .tuple [.str _, _], h => simp [prB, numB] at h
    | .tuple [.list _, _], h => simp [prB, numB] at h
    | .tuple [.tuple _, _], h => simp [prB, numB] at h
    | .tuple [.dict _, _], h => simp [prB, numB] at h
  · rintro ⟨p, rfl, h1, h2⟩
    show ((decide (0 ≤ p.1) && decide (p.1 ≤ 400)) && (decide (1 ≤ p.2) && decide (p.2 ≤ 1000000))) = true
    simp only [Bool.and_eq_true, decide_eq_true_eq]
    exact ⟨h1, h2⟩
theorem all_pr {ds : List PyData} (h : ds.all prB = true) : ∃ ps : List (Int × Int), ds = ps.map icD ∧ ∀ p ∈ ps, (0 ≤ p.1 ∧ p.1 ≤ 400) ∧ 1 ≤ p.2 ∧ p.2 ≤ 1000000 := by
  induction ds with
  | nil => exact ⟨[], rfl, fun _ m => nomatch m⟩
  | cons d ds ih =>
    rw [List.all_cons, Bool.and_eq_true] at h
    obtain ⟨p, rfl, hp⟩ := prB_iff.mp h.1
    obtain ⟨ps, rfl, hs⟩ := ih h.2
    refine ⟨p :: ps, rfl, fun q m => ?_⟩
    rcases List.mem_cons.mp m with rfl | m
    · exact hp
    · exact hs q m
theorem cut_one {xs : List PyData} : cutD xs (some 1) none = xs.drop 1 := by
  unfold cutD
  have e1 : HT.sIx xs.length 0 (some 1) = min 1 xs.length := HT.sIx_nat _ _ 1
  rw [e1, HT.sIx_none]
  by_cases q : 1 ≤ xs.length
  · rw [Nat.min_eq_left q, List.take_of_length_le (by rw [List.length_drop]; omega)]
  · have : xs = [] := List.length_eq_zero_iff.mp (by omega)
    subst this; rfl
theorem zip_ps (ps qs : List (Int × Int)) : (ps.map icD).zip (qs.map icD) = (ps.zip qs).map fun p => (icD p.1, icD p.2) := by
  rw [List.zip_map]; rfl
theorem risB_ps (ps : List (Int × Int)) : risB (ps.map icD) = (ps.zip (ps.drop 1)).all fun p => decide (p.1.1 < p.2.1) := by
  unfold risB
  rw [← List.map_drop, zip_ps, List.all_map]; rfl
def N_are_prices : List Str := ["thing", "pair", "ahead"]
def x_are_prices : XS := (xsSeq (xsIf (xTOr (xTNot (xB (xIsiT (xVar 0) ["list", "tuple"]))) (xTNot (xB (xBi AllD (xCons (xLc (xiSeq (xVar 0)) (xgName 1) xYes (xCall w_is_price (xCons (xVar 1) xNil)) [1]) xNil))))) (xsRet (xBl false)) xsNext)
    (xsRet (xBi AllD (xCons (xLc (xiZip (xVar 0) (xSl (xVar 0) (xPart (xInt 1)) xNoPart)) (xgTup (xgsCons (xgName 2) (xgsCons (xgName 1) xgsNil))) xYes (xOp LtD (xOp IxD (xVar 2) (xInt 0)) (xOp IxD (xVar 1) (xInt 0))) [2, 1]) xNil))))
def w_are_prices : Pw := fun ss C R _ => ∃ d : PyData, ss = [.d d] ∧ C = [] ∧ (∀ ds, (d = .list ds ∨ d = .tuple ds) → ds.length ≤ 5000) ∧ R (.d (.bool (areB d))) []
theorem sem_are_prices : SemW N_are_prices 1 w_are_prices x_are_prices := by
  rintro _ _ R X ⟨d, rfl, rfl, hl, h⟩
  refine ⟨rfl, by decide, sem_on ?_⟩
  cases d with
  | list ds =>
    have hl := hl ds (.inl rfl)
    have h : R (.d (.bool (ds.all prB && risB ds))) [] := h
    walk_at "w"
    refine ⟨by rw [List.length_map]; omega, ?_⟩
    refine comp_all (xs := ds) (enc := Cv.d) prB .bool trivial (fun p hp K k => ?_) ?_
    · walk_at "w"
      refine call_isprice ?_
      walk_at "w"
      exact k
    walk_at "w"
    refine ⟨_, rfl, ?_⟩
    walk_at "w"
    rw [List.all_map, show (id ∘ prB) = prB from rfl]
    cases e : ds.all prB with
    | false =>
      rw [e, Bool.false_and] at h
      walk_at "w"
      exact ret0 h
    | true =>
      rw [e, Bool.true_and] at h
      obtain ⟨ps, rfl, hs⟩ := all_pr e
      rw [List.length_map] at hl
      rw [risB_ps] at h
      walk_at "w"
      rw [cut_one, ← List.map_drop, zip_ps, List.map_map, List.map_map]
      refine ⟨by rw [List.length_map, List.length_zip]; omega, ?_⟩
      refine comp_all (fun p : (Int × Int) × (Int × Int) => decide (p.1.1 < p.2.1)) .bool ⟨trivial, trivial⟩ (fun p hp K k => ?_) ?_
      · walk_at "w"
        exact k
      walk_at "w"
      refine ⟨_, rfl, ?_⟩
      walk_at "w"
      refine ret0 ?_
      rw [List.all_map]
      exact h
  | tuple ds =>
    have hl := hl ds (.inr rfl)
    have h : R (.d (.bool (ds.all prB && risB ds))) [] := h
    walk_at "w"
    refine ⟨by rw [List.length_map]; omega, ?_⟩
    refine comp_all (xs := ds) (enc := Cv.d) prB .bool trivial (fun p hp K k => ?_) ?_
    · walk_at "w"
      refine call_isprice ?_
      walk_at "w"
      exact k
    walk_at "w"
    refine ⟨_, rfl, ?_⟩
    walk_at "w"
    rw [List.all_map, show (id ∘ prB) = prB from rfl]
    cases e : ds.all prB with
    | false =>
      rw [e, Bool.false_and] at h
      walk_at "w"
      exact ret0 h
    | true =>
      rw [e, Bool.true_and] at h
      obtain ⟨ps, rfl, hs⟩ := all_pr e
      rw [List.length_map] at hl
      rw [risB_ps] at h
      walk_at "w"
      rw [cut_one, ← List.map_drop, zip_ps, List.map_map, List.map_map]
      refine ⟨by rw [List.length_map, List.length_zip]; omega, ?_⟩
      refine comp_all (fun p : (Int × Int) × (Int × Int) => decide (p.1.1 < p.2.1)) .bool ⟨trivial, trivial⟩ (fun p hp K k => ?_) ?_
      · walk_at "w"
        exact k
      walk_at "w"
      refine ⟨_, rfl, ?_⟩
      walk_at "w"
      refine ret0 ?_
      rw [List.all_map]
      exact h
  | _ => walk_at "w"; exact ret0 h
theorem call_areprices {X : Xc → Cs → Prop} {C : Cs} {P : Cv → Cs → Prop} {d : PyData} (hl : ∀ ds, (d = .list ds ∨ d = .tuple ds) → ds.length ≤ 5000) (h : P (.d (.bool (areB d))) C) : callW w_are_prices X C [.d d] P :=
  call_d ⟨d, rfl, rfl, hl, bk0 h⟩ ⟨rfl, trivial⟩
/-! ### things of any kind -/
/-- prices: days rising -/
structure OkPr (ps : List (Int × Int)) : Prop where
  ok : ∀ p ∈ ps, (0 ≤ p.1 ∧ p.1 ≤ 400) ∧ 1 ≤ p.2 ∧ p.2 ≤ 1000000
  up : ps.Pairwise fun a b => a.1 < b.1
def N__law_prices : List Str := ["_law_left_here", "_law_many", "_law_day", "_law_found", "_law_most", "_law_turn"]
def x__law_prices : XS := (xsSeq (xsPar3 2 3 4 (xCons (xCall w__law_pick (xCons (xVar 0) (xCons (xOp IxD (xLst (xCons (xInt 3) (xCons (xInt 300) xNil))) (xCall w__law_pick (xCons (xVar 0) (xCons (xInt 2) xNil)))) xNil))) (xCons (xLstC xNil) (xCons (xOp IxD (xLst (xCons (xInt 5) (xCons (xInt 99) (xCons (xOp PowD (xInt 10) (xInt 6)) xNil)))) (xCall w__law_pick (xCons (xVar 0) (xCons (xInt 3) xNil)))) xNil))))
    (xsSeq (xsFor (xiRng1 (xVar 1)) (xgName 5) (xsSeq (xsIf (xTest (xOp LeD (xVar 2) (xInt 400))) (xsDrop (xAppend (xVar 3) (xTup (xCons (xVar 2) (xCons (xOp AddD (xInt 1) (xCall w__law_pick (xCons (xVar 0) (xCons (xVar 4) xNil)))) xNil))))) xsNext)
    (xsAsg (xOp AddD (xOp AddD (xVar 2) (xInt 1)) (xCall w__law_pick (xCons (xVar 0) (xCons (xOp IxD (xLst (xCons (xInt 1) (xCons (xInt 4) (xCons (xInt 40) xNil)))) (xCall w__law_pick (xCons (xVar 0) (xCons (xInt 3) xNil)))) xNil)))) (xgName 2))))
    (xsRet (xFz (xVar 3)))))
def w__law_prices : Pw := fun ss C R _ => ∃ (n m : Nat), ss = [.c 0, .d (.int (m : Int))] ∧ C = [.box 0 n] ∧ n ≤ 10000000 ∧ m ≤ 60 ∧ ∀ ps : List (Int × Int), ps.length ≤ m → OkPr ps → R (.d (.list (ps.map icD))) [.box 0 (n + 200)]
theorem sem__law_prices : SemW N__law_prices 2 w__law_prices x__law_prices := by
  rintro _ _ R X ⟨n, m, rfl, rfl, hn, hm, h⟩
  refine ⟨rfl, by decide, sem_on ?_⟩
  walk_at "wq"
  rename_i a a0 a1
  refine ix_rng 3 300 [3, 300] rfl a0 a1 (fun z hz => by simp only [List.mem_cons, List.not_mem_nil, or_false] at hz; omega) fun top t0 t1 => ?_
  walk_at "wq"
  rename_i d d0 d1 b b0 b1
  refine ix_rng 5 1000000 [5, 99, 1000000] rfl b0 b1 (fun z hz => by simp only [List.mem_cons, List.not_mem_nil, or_false] at hz; omega) fun most o0 o1 => ?_
  walk_at "w"
  refine for_rng (τ := Int × List (Int × Int)) (fun _ t => [(5, none), (2, some (.d (.int t.1)))]) (fun i t => [.box 0 (n + 4 + 3 * i), .lst (t.2.map icD)]) (fun i t => t.2.length ≤ i ∧ OkPr t.2 ∧ (∀ p ∈ t.2, p.1 < t.1) ∧ 0 ≤ t.1 ∧ t.1 ≤ 1000 + 50 * i) (d, []) ⟨Nat.le_refl 0, ⟨(fun _ m => nomatch m), List.Pairwise.nil⟩, fun _ m => (nomatch m), d0, by show d ≤ _; omega⟩ ?_ (fun _ _ _ => trivial) ?_ ?_
  · refine wkS_of [0, 1] (by decide) rfl ⟨⟨rfl, by omega⟩, rfl, trivial⟩ ?_ <;> walk_at "wk1"
  · rintro i ⟨day, ps⟩ K hi ⟨hl, ho, hb, h0, h1⟩ kk
    dsimp only at hl ho hb h0 h1
    have ln : (ps.map icD).length < 100000 := by rw [List.length_map]; omega
    walk_at "w"
    refine cndP (fun e => ?_) (fun e => ?_)
    · walk_at "wq"
      rename_i p p0 p1 u u0 u1
      refine ix_rng 1 40 [1, 4, 40] rfl u0 u1 (fun z hz => by simp only [List.mem_cons, List.not_mem_nil, or_false] at hz; omega) fun far f0 f1 => ?_
      walk_at "wq"
      rename_i v v0 v1
      refine fin (kk (day + 1 + v, ps ++ [(day, 1 + p)]) ⟨by rw [List.length_append]; show ps.length + 1 ≤ _; omega, ⟨fun q m => ?_, ?_⟩, fun q m => ?_, by show 0 ≤ day + 1 + v; omega, by show day + 1 + v ≤ _; omega⟩) ?_
      · rcases List.mem_append.mp m with m | m
        · exact ho.ok q m
        · rw [List.mem_singleton.mp m]; exact ⟨⟨h0, e⟩, by show 1 ≤ 1 + p; omega, by show 1 + p ≤ _; omega⟩
      · exact List.pairwise_append.mpr ⟨ho.up, List.pairwise_singleton _ _, fun x hx y hy => by rw [List.mem_singleton.mp hy]; exact hb x hx⟩
      · show q.1 < day + 1 + v
        rcases List.mem_append.mp m with m | m
        · have := hb q m
          omega
        · rw [List.mem_singleton.mp m]; show day < _; omega
      · refine wkS_of [0, 1] (by decide) rfl ⟨⟨rfl, by omega⟩, ?_, trivial⟩ ?_ <;> walk_at "wk1"
        rw [List.map_append]; rfl
    · walk_at "wq"
      rename_i u u0 u1
      refine ix_rng 1 40 [1, 4, 40] rfl u0 u1 (fun z hz => by simp only [List.mem_cons, List.not_mem_nil, or_false] at hz; omega) fun far f0 f1 => ?_
      walk_at "wq"
      rename_i v v0 v1
      refine fin (kk (day + 1 + v, ps) ⟨by show ps.length ≤ _; omega, ho, fun q m => ?_, by show 0 ≤ day + 1 + v; omega, by show day + 1 + v ≤ _; omega⟩) ?_
      · have := hb q m
        show q.1 < day + 1 + v
        omega
      · refine wkS_of [0, 1] (by decide) rfl ⟨⟨rfl, by omega⟩, rfl, trivial⟩ ?_ <;> walk_at "wk1"
  · rintro ⟨day, ps⟩ ⟨hl, ho, hb, h0, h1⟩
    walk_at "w"
    exact ret_w [0] (h ps (by have : ps.length ≤ _ := hl; omega) ho) (by decide) rfl ⟨⟨rfl, by omega⟩, trivial⟩ rfl
theorem call_prices {X : Xc → Cs → Prop} {C : Cs} {P : Cv → Cs → Prop} {i n m : Nat} (hc : C[i]? = some (.box 0 n)) (hn : n ≤ 10000000) (hm : m ≤ 60) (h : ∀ ps : List (Int × Int), ps.length ≤ m → OkPr ps → setK C i (.box 0 (n + 200)) fun C' => P (.d (.list (ps.map icD))) C') : callW w__law_prices X C [.c i, .d (.int (m : Int))] P := by
  refine call_w [i] ⟨n, m, rfl, rfl, hn, hm, fun ps h1 h2 => ?_⟩ (by simp) ⟨by rw [hc]; exact ⟨rfl, Nat.le_refl n⟩, trivial⟩ ⟨rfl, rfl, trivial⟩
  show P (.d (.list (ps.map icD))) (backCs [i] C [.box 0 (n + 200)])
  rw [bk_1]
  exact setK_of (h ps h1 h2)
/-- a thing that may be told, k deep -/
structure Odd (k w : Nat) (d : PyData) : Prop where
  rp : Rp k w d
  sm : ∀ ds, (d = .list ds ∨ d = .tuple ds) → ds.length ≤ 200
theorem rp_big : Rp 0 40 (.int ((10 : Int) ^ (12 : Int).toNat)) := ⟨by decide +kernel, rfl, rfl, by simp only [PyData.depth]; omega, by decide +kernel⟩
def N__law_odd : List Str := ["_law_left_here", "_law_thing", "_law_turn"]
def x__law_odd : XS := (xsSeq (xsAsg (xOp IxD (xLst (xCons xNon (xCons (xBl true) (xCons (xBl false) (xCons (xStr "") (xCons (xStr "a") (xCons (xInt 0) (xCons (xInt 1) (xCons (xUn NegD (xInt 1)) (xCons (xOp PowD (xInt 10) (xInt 12)) xNil)))))))))) (xCall w__law_pick (xCons (xVar 0) (xCons (xInt 9) xNil)))) (xgName 1))
    (xsSeq (xsFor (xiRng1 (xOp IxD (xLst (xCons (xInt 0) (xCons (xInt 0) (xCons (xInt 0) (xCons (xInt 1) (xCons (xInt 2) (xCons (xInt 6) xNil))))))) (xCall w__law_pick (xCons (xVar 0) (xCons (xInt 6) xNil))))) (xgName 2) (xsAsg (xIf (xTest (xOp EqD (xCall w__law_pick (xCons (xVar 0) (xCons (xInt 2) xNil))) (xInt 0))) (xLst (xCons (xVar 1) xNil)) (xTup (xCons (xVar 1) xNil))) (xgName 1)))
    (xsRet (xVar 1))))
def w__law_odd : Pw := fun ss C R _ => ∃ n : Nat, ss = [.c 0] ∧ C = [.box 0 n] ∧ n ≤ 10000000 ∧ ∀ d, Odd 6 100 d → R (.d d) [.box 0 (n + 10)]
theorem sem__law_odd : SemW N__law_odd 1 w__law_odd x__law_odd := by
  rintro _ _ R X ⟨n, rfl, rfl, hn, h⟩
  refine ⟨rfl, by decide, sem_on ?_⟩
  walk_at "wq"
  rename_i a a0 a1
  refine ix_any a0 a1 fun d hd => ?_
  have od : Odd 0 50 d := by
    simp only [List.mem_cons, List.not_mem_nil, or_false] at hd
    rcases hd with rfl | rfl | rfl | rfl | rfl | rfl | rfl | rfl | rfl
    · exact ⟨rp_none.up (Nat.le_refl 0) (by decide), fun ds h => by rcases h with h | h <;> cases h⟩
    · exact ⟨rp_bool.up (Nat.le_refl 0) (by decide), fun ds h => by rcases h with h | h <;> cases h⟩
    · exact ⟨rp_bool.up (Nat.le_refl 0) (by decide), fun ds h => by rcases h with h | h <;> cases h⟩
    · exact ⟨(rp_str (w := 1) (by decide +kernel) (by decide +kernel)).up (Nat.le_refl 0) (by decide), fun ds h => by rcases h with h | h <;> cases h⟩
    · exact ⟨(rp_str (w := 1) (by decide +kernel) (by decide +kernel)).up (Nat.le_refl 0) (by decide), fun ds h => by rcases h with h | h <;> cases h⟩
    · exact ⟨(rp_int (by decide)).up (Nat.le_refl 0) (by decide), fun ds h => by rcases h with h | h <;> cases h⟩
    · exact ⟨(rp_int (by decide)).up (Nat.le_refl 0) (by decide), fun ds h => by rcases h with h | h <;> cases h⟩
    · exact ⟨(rp_int (by decide)).up (Nat.le_refl 0) (by decide), fun ds h => by rcases h with h | h <;> cases h⟩
    · exact ⟨rp_big.up (Nat.le_refl 0) (by decide), fun ds h => by rcases h with h | h <;> cases h⟩
  walk_at "wq"
  rename_i b b0 b1
  refine ix_rng 0 6 [0, 0, 0, 1, 2, 6] rfl b0 b1 (fun z hz => by simp only [List.mem_cons, List.not_mem_nil, or_false] at hz; omega) fun k k0 k1 => ?_
  walk_at "w"
  refine for_rng (τ := PyData) (fun _ t => [(2, none), (1, some (.d t))]) (fun i t => [.box 0 (n + 2 + i)]) (fun i t => Odd i (50 + i) t) d od ?_ (fun _ _ _ => trivial) ?_ ?_
  · refine wkS_of [0] (by decide) rfl ?_ ?_ <;> walk_at "wk1"
  · rintro i t K hi ot kk
    walk_at "wq"
    rename_i u u0 u1
    refine cndP (fun e => ?_) (fun e => ?_)
    · walk_at "w"
      refine fin (kk (.list [t]) ⟨(rp_list (rps_cons ot.rp rps_nil)).up (Nat.le_refl _) (by omega), fun ds h => ?_⟩) ?_
      · rcases h with h | h
        · cases h; exact (by decide : 1 ≤ 200)
        · cases h
      · refine wkS_of [0] (by decide) rfl ?_ ?_ <;> walk_at "wk1"
    · walk_at "w"
      refine fin (kk (.tuple [t]) ⟨(rp_tup (rps_cons ot.rp rps_nil)).up (Nat.le_refl _) (by omega), fun ds h => ?_⟩) ?_
      · rcases h with h | h
        · cases h
        · cases h; exact (by decide : 1 ≤ 200)
      · refine wkS_of [0] (by decide) rfl ?_ ?_ <;> walk_at "wk1"
  · rintro t ot
    have lk : k.toNat ≤ 6 := by omega
    walk_at "w"
    refine ret_w [0] (h t ⟨ot.rp.up lk (by omega), ot.sm⟩) (by decide) rfl ⟨⟨rfl, by omega⟩, trivial⟩ rfl
/-! ### prices with one thing otherwise -/
structure Tg (d : PyData) : Prop where
  rp : Rp 12 20000 d
  sm : ∀ ds, (d = .list ds ∨ d = .tuple ds) → ds.length ≤ 200
theorem rp_ic {p : Int × Int} (h1 : p.1.natAbs < 10 ^ 12) (h2 : p.2.natAbs < 10 ^ 12) : Rp 1 100 (icD p) := by
  refine (rp_tup (rps_all (n := 0) (w := 40) (ds := [PyData.int p.1, .int p.2]) fun d md => ?_)).up (Nat.le_refl _) (Nat.le_of_ble_eq_true rfl)
  simp only [List.mem_cons, List.not_mem_nil, or_false] at md
  rcases md with rfl | rfl
  · exact rp_int h1
  · exact rp_int h2
theorem tg_list {ds : List PyData} (hl : ds.length ≤ 61) (h : ∀ d ∈ ds, Rp 10 200 d) : Tg (.list ds) :=
  ⟨(rp_list (rps_all h)).up (by decide) (by omega), fun es q => by rcases q with q | q <;> cases q; omega⟩
theorem rp_pair {a b : PyData} (ha : Rp 0 40 a) (hb : Rp 0 40 b) : Rp 10 200 (.tuple [a, b]) :=
  (rp_tup (rps_cons ha (rps_cons hb rps_nil))).up (by decide) (by decide)
theorem okD_is (ps : List (Int × Int)) : okD 10 (.list (ps.map icD)) = true := by
  show (ps.map icD).all (okD 9) = true
  rw [List.all_map, List.all_eq_true]
  exact fun _ _ => rfl
theorem ne_nil_eqv {n : Nat} {ds : List PyData} (h : okD (n + 1) (.list ds) = true) : PyData.eqv (.list ds) (.list []) = decide (ds = []) := by
  cases ds with
  | nil => rfl
  | cons d ds => 
    refine (Bool.eq_false_iff.mpr fun e => ?_).trans (decide_eq_false (fun e => nomatch e)).symm
    have := (okD_eqv (n + 1) (.list (d :: ds)) (.list []) h rfl).mp e
    cases this
theorem call_odd {X : Xc → Cs → Prop} {C : Cs} {P : Cv → Cs → Prop} {i n : Nat} (hc : C[i]? = some (.box 0 n)) (hn : n ≤ 10000000) (h : ∀ d, Odd 6 100 d → setK C i (.box 0 (n + 10)) fun C' => P (.d d) C') : callW w__law_odd X C [.c i] P := by
  refine call_w [i] ⟨n, rfl, rfl, hn, fun d hd => ?_⟩ (by simp) ⟨by rw [hc]; exact ⟨rfl, Nat.le_refl n⟩, trivial⟩ ⟨rfl, trivial⟩
  show P (backV [i] C.length (.d d)) (backCs [i] C [.box 0 (n + 10)])
  rw [bk_1]
  exact setK_of (h d hd)
def N__law_bent : List Str := ["_law_left_here", "_law_prices_here", "_law_found", "_law_way", "_law_at", "_law_day", "_law_pence", "_law_some", "_law_by"]
def x__law_bent : XS := (xsSeq (xsPar3 2 3 4 (xCons (xListC (xVar 1)) (xCons (xCall w__law_pick (xCons (xVar 0) (xCons (xInt 10) xNil))) (xCons (xCall w__law_pick (xCons (xVar 0) (xCons (xBi Max2D (xCons (xInt 1) (xCons (xBi LenD (xCons (xVar 1) xNil)) xNil))) xNil))) xNil))))
    (xsSeq (xsIf (xTOr (xTest (xOp EqD (xVar 2) (xLst xNil))) (xTest (xOp EqD (xVar 3) (xInt 0)))) (xsRet (xIf (xTest (xOp EqD (xCall w__law_pick (xCons (xVar 0) (xCons (xInt 2) xNil))) (xInt 0))) (xCall w__law_odd (xCons (xVar 0) xNil)) (xOp AddD (xVar 2) (xLst (xCons (xCall w__law_odd (xCons (xVar 0) xNil)) xNil))))) xsNext)
    (xsSeq (xsAsg (xOp IxD (xVar 2) (xVar 4)) (xgTup (xgsCons (xgName 5) (xgsCons (xgName 6) xgsNil))))
    (xsSeq (xsIf (xTest (xOp LtD (xVar 3) (xInt 4))) (xsSeq (xsAsg (xLst (xCons (xOp AddD (xVar 5) (xInt 1)) (xCons (xOp SubD (xVar 5) (xInt 1)) (xCons (xOp IxD (xOp IxD (xVar 2) (xOp SubD (xVar 4) (xInt 1))) (xInt 0)) (xCons (xInt 400) (xCons (xInt 401) (xCons (xUn NegD (xInt 1)) (xCons (xBl true) xNil)))))))) (xgName 7))
    (xsSetItem (xTup (xCons (xOp IxD (xVar 7) (xCall w__law_pick (xCons (xVar 0) (xCons (xInt 7) xNil)))) (xCons (xVar 6) xNil))) (xVar 2) (xVar 4))) (xsIf (xTest (xOp LtD (xVar 3) (xInt 6))) (xsSetItem (xTup (xCons (xVar 5) (xCons (xOp IxD (xLst (xCons (xInt 0) (xCons (xInt 1) (xCons (xOp PowD (xInt 10) (xInt 6)) (xCons (xOp AddD (xOp PowD (xInt 10) (xInt 6)) (xInt 1)) (xCons (xUn NegD (xVar 6)) (xCons (xBl true) xNil))))))) (xCall w__law_pick (xCons (xVar 0) (xCons (xInt 6) xNil)))) xNil))) (xVar 2) (xVar 4)) (xsIf (xTest (xOp EqD (xVar 3) (xInt 6))) (xsSeq (xsAsg (xCall w__law_pick (xCons (xVar 0) (xCons (xBi LenD (xCons (xVar 2) xNil)) xNil))) (xgName 8))
    (xsSwap 2 4 8 (xCons (xOp IxD (xVar 2) (xVar 8)) (xCons (xOp IxD (xVar 2) (xVar 4)) xNil)))) (xsIf (xTest (xOp EqD (xVar 3) (xInt 7))) (xsDrop (xInsert (xVar 2) (xVar 4) (xOp IxD (xVar 2) (xVar 4)))) (xsIf (xTest (xOp EqD (xVar 3) (xInt 8))) (xsSetItem (xOp IxD (xLst (xCons (xLst (xCons (xVar 5) (xCons (xVar 6) xNil))) (xCons (xTup (xCons (xVar 5) xNil)) (xCons (xTup (xCons (xVar 5) (xCons (xVar 6) (xCons (xInt 0) xNil)))) (xCons (xTup (xCons (xVar 6) (xCons (xVar 5) xNil))) xNil))))) (xCall w__law_pick (xCons (xVar 0) (xCons (xInt 4) xNil)))) (xVar 2) (xVar 4)) (xsSetItem (xCall w__law_odd (xCons (xVar 0) xNil)) (xVar 2) (xVar 4)))))))
    (xsRet (xFz (xVar 2)))))))
def w__law_bent : Pw := fun ss C R _ => ∃ (n : Nat) (ps : List (Int × Int)), ss = [.c 0, .d (.list (ps.map icD))] ∧ C = [.box 0 n] ∧ n ≤ 1000000 ∧ ps.length ≤ 60 ∧ OkPr ps ∧ ∀ d, Tg d → R (.d d) [.box 0 (n + 40)]
theorem sem__law_bent : SemW N__law_bent 2 w__law_bent x__law_bent := by
  rintro _ _ R X ⟨n, ps, rfl, rfl, hn, hl, ho, h⟩
  refine ⟨rfl, by decide, sem_on ?_⟩
  have rp0 : ∀ d ∈ ps.map icD, Rp 10 200 d := fun d m => by
    obtain ⟨p, mp, rfl⟩ := List.mem_map.mp m
    have := ho.ok p mp
    exact (rp_ic (by omega) (by omega)).up (by decide) (by decide)
  have back : ∀ (m : Nat) (d : PyData) (c : Cs), m ≤ n + 40 → Tg d → retW 1 R (.d d) (.box 0 m :: c) := fun m d c hm hd => ret_w [0] (h d hd) (by decide) rfl ⟨⟨rfl, hm⟩, trivial⟩ rfl
  walk_at "wq"
  rename_i way w0 w1
  have lp : 0 < max 1 ((ps.map icD).length : Int) ∧ max 1 ((ps.map icD).length : Int) < 1073741824 := by rw [List.length_map]; omega
  refine call_pick rfl (by omega) lp.1 lp.2 fun at_ a0 a1 => ?_
  walk_at "w"
  refine ⟨eqOk 10 (okD_is ps) rfl, ?_⟩
  walk_at "w"
  rw [ne_nil_eqv (okD_is ps)]
  refine cndB (fun e => ?_) (fun e => ?_)
  · walk_at "wq"
    refine cndP (fun e2 => ?_) (fun e2 => ?_)
    · walk_at "w"
      refine call_odd rfl (by omega) fun d hd => ?_
      walk_at "w"
      exact back _ _ _ (by omega) ⟨hd.rp.up (by decide) (by decide), hd.sm⟩
    · walk_at "w"
      refine call_odd rfl (by omega) fun d hd => ?_
      have lz : 1000 ≤ sizeLine := by decide
      have l1 : (ps.map icD).length ≤ 60 := by rw [List.length_map]; exact hl
      walk_at "w"
      refine ⟨by show (ps.map icD).length + 1 ≤ _; omega, ?_⟩
      walk_at "w"
      refine back _ _ _ (by omega) (tg_list (by rw [List.length_append]; show (ps.map icD).length + 1 ≤ _; omega) fun x m => ?_)
      rcases List.mem_append.mp m with m | m
      · exact rp0 x m
      · rw [List.mem_singleton.mp m]; exact hd.rp.up (by decide) (by decide)
  have pn : ps ≠ [] := fun z => by subst z; cases e
  have lpos : 0 < ps.length := List.length_pos_iff.mpr pn
  have am : at_ < (ps.length : Int) := by
    rw [List.length_map] at a1
    omega
  obtain ⟨j, rfl⟩ := Int.eq_ofNat_of_zero_le a0
  have hj : j < ps.length := by omega
  have o1 := ho.ok ps[j] (List.getElem_mem hj)
  walk_at "w"
  refine cndP (fun e1 => ?_) (fun e1 => ?_)
  · walk_at "wq"
    refine cndP (fun e2 => ?_) (fun e2 => ?_)
    · walk_at "w"
      refine call_odd rfl (by omega) fun d hd => ?_
      walk_at "w"
      exact back _ _ _ (by omega) ⟨hd.rp.up (by decide) (by decide), hd.sm⟩
    · walk_at "w"
      refine call_odd rfl (by omega) fun d hd => ?_
      have lz : 1000 ≤ sizeLine := by decide
      have l1 : (ps.map icD).length ≤ 60 := by rw [List.length_map]; exact hl
      walk_at "w"
      refine ⟨by show (ps.map icD).length + 1 ≤ _; omega, ?_⟩
      walk_at "w"
      refine back _ _ _ (by omega) (tg_list (by rw [List.length_append]; show (ps.map icD).length + 1 ≤ _; omega) fun x m => ?_)
      rcases List.mem_append.mp m with m | m
      · exact rp0 x m
      · rw [List.mem_singleton.mp m]; exact hd.rp.up (by decide) (by decide)
  walk_at "w"
  refine ixW_at (z := icD ps[j]) (atI_map (f := icD) (by rw [atI_in (by omega) (by omega)]; rfl)) ?_
  have setd : ∀ (m : Nat) (x : PyData), m ≤ n + 40 → Rp 10 200 x → retW 1 R (.d (.list ((ps.map icD).set j x))) [.box 0 m, .frz (.list ((ps.map icD).set j x))] := fun m x hm hx => back m _ _ hm (tg_list (by rw [List.length_set, List.length_map]; omega) fun y my => by
    rcases List.mem_or_eq_of_mem_set my with my | rfl
    · exact rp0 y my
    · exact hx)
  obtain ⟨q, mq, eq⟩ : ∃ q ∈ ps, atI (ps.map icD) ((j : Int) - 1) = some (icD q) := by
    by_cases z : j = 0
    · subst z
      refine ⟨ps[ps.length - 1], List.getElem_mem _, ?_⟩
      refine atI_map (f := icD) ?_
      unfold atI ixN
      rw [if_neg (by decide), if_pos (by omega)]
      show ps[((0 : Nat) - 1 + (ps.length : Int)).toNat]? = _
      rw [show ((0 : Nat) - 1 + (ps.length : Int)).toNat = ps.length - 1 by omega]
      exact List.getElem?_eq_getElem _
    · exact ⟨ps[j - 1], List.getElem_mem _, atI_map (f := icD) (by rw [atI_in (by omega) (by omega)]; congr 1; congr 1; omega)⟩
  have oq := ho.ok q mq
  walk_at "w"
  refine cndP (fun e2 => ?_) (fun e2 => ?_)
  · walk_at "w"
    refine ixW_at eq ?_
    walk_at "wq"
    rename_i u u0 u1
    refine ix_any u0 u1 fun x hx => ?_
    have rx : Rp 0 40 x := by
      simp only [List.mem_cons, List.not_mem_nil, or_false] at hx
      rcases hx with rfl | rfl | rfl | rfl | rfl | rfl | rfl
      · exact rp_int (by omega)
      · exact rp_int (by omega)
      · exact rp_int (by omega)
      · exact rp_int (by decide)
      · exact rp_int (by decide)
      · exact rp_int (by decide)
      · exact rp_bool.up (Nat.le_refl 0) (by decide)
    walk_at "w"
    refine ixn_at (k := j) (by rw [List.length_map]; exact hj) ?_
    refine setK_to ?_
    walk_at "w"
    exact setd _ _ (by omega) (rp_pair rx (rp_int (by omega)))
  walk_at "w"
  refine cndP (fun e3 => ?_) (fun e3 => ?_)
  · walk_at "wq"
    rename_i u u0 u1
    refine ix_any u0 u1 fun x hx => ?_
    have rx : Rp 0 40 x := by
      simp only [List.mem_cons, List.not_mem_nil, or_false] at hx
      rcases hx with rfl | rfl | rfl | rfl | rfl | rfl
      · exact rp_int (by decide)
      · exact rp_int (by decide)
      · exact rp_int (by decide)
      · exact rp_int (by decide)
      · exact rp_int (by omega)
      · exact rp_bool.up (Nat.le_refl 0) (by decide)
    walk_at "w"
    refine ixn_at (k := j) (by rw [List.length_map]; exact hj) ?_
    refine setK_to ?_
    walk_at "w"
    exact setd _ _ (by omega) (rp_pair (rp_int (by omega)) rx)
  walk_at "w"
  refine cndP (fun e4 => ?_) (fun e4 => ?_)
  · walk_at "w"
    refine call_pick (m := ((ps.map icD).length : Int)) rfl (by omega) (by rw [List.length_map]; omega) (by rw [List.length_map]; omega) fun b b0 b1 => ?_
    rw [List.length_map] at b1
    obtain ⟨b, rfl⟩ := Int.eq_ofNat_of_zero_le b0
    have hb : b < ps.length := by omega
    walk_at "w"
    refine ixW_at (z := icD ps[b]) (atI_map (f := icD) (by rw [atI_in (by omega) (by omega)]; rfl)) ?_
    walk_at "w"
    refine ixW_at (z := icD ps[j]) (atI_map (f := icD) (by rw [atI_in (by omega) (by omega)]; rfl)) ?_
    walk_at "w"
    refine ixn_at (k := j) (by rw [List.length_map]; exact hj) ?_
    refine ixn_at (k := b) (by rw [List.length_map]; exact hb) ?_
    walk_at "w"
    refine back _ _ _ (by omega) (tg_list (by rw [List.length_set, List.length_set, List.length_map]; omega) fun y my => ?_)
    rcases List.mem_or_eq_of_mem_set my with my | rfl
    · rcases List.mem_or_eq_of_mem_set my with my | rfl
      · exact rp0 y my
      · exact rp0 _ (List.mem_map.mpr ⟨_, List.getElem_mem hb, rfl⟩)
    · exact rp0 _ (List.mem_map.mpr ⟨_, List.getElem_mem hj, rfl⟩)
  walk_at "w"
  refine cndP (fun e5 => ?_) (fun e5 => ?_)
  · walk_at "w"
    refine ixW_at (z := icD ps[j]) (atI_map (f := icD) (by rw [atI_in (by omega) (by omega)]; rfl)) ?_
    refine ⟨⟨by omega, by omega⟩, ?_⟩
    walk_at "w"
    refine ⟨by rw [List.length_map]; omega, ?_⟩
    walk_at "w"
    refine back _ _ _ (by omega) (tg_list (by rw [List.length_append, List.length_append, List.length_take, List.length_drop, List.length_map, List.length_singleton]; omega) fun y my => ?_)
    rcases List.mem_append.mp my with my | my
    · rcases List.mem_append.mp my with my | my
      · exact rp0 y (List.mem_of_mem_take my)
      · rw [List.mem_singleton.mp my]; exact rp0 _ (List.mem_map.mpr ⟨_, List.getElem_mem hj, rfl⟩)
    · exact rp0 y (List.mem_of_mem_drop my)
  walk_at "w"
  refine cndP (fun e6 => ?_) (fun e6 => ?_)
  · walk_at "wq"
    rename_i u u0 u1
    refine ix_any u0 u1 fun x hx => ?_
    have i1 : Rp 0 40 (.int ps[j].1) := rp_int (by omega)
    have i2 : Rp 0 40 (.int ps[j].2) := rp_int (by omega)
    have i0 : Rp 0 40 (.int 0) := rp_int (by decide)
    have rx : Rp 10 200 x := by
      simp only [List.mem_cons, List.not_mem_nil, or_false] at hx
      rcases hx with rfl | rfl | rfl | rfl
      · exact (rp_list (rps_cons i1 (rps_cons i2 rps_nil))).up (by decide) (by decide)
      · exact (rp_tup (rps_cons i1 rps_nil)).up (by decide) (by decide)
      · exact (rp_tup (rps_cons i1 (rps_cons i2 (rps_cons i0 rps_nil)))).up (by decide) (by decide)
      · exact (rp_tup (rps_cons i2 (rps_cons i1 rps_nil))).up (by decide) (by decide)
    walk_at "w"
    refine ixn_at (k := j) (by rw [List.length_map]; exact hj) ?_
    refine setK_to ?_
    walk_at "w"
    exact setd _ _ (by omega) rx
  · walk_at "w"
    refine call_odd rfl (by omega) fun d hd => ?_
    walk_at "w"
    refine ixn_at (k := j) (by rw [List.length_map]; exact hj) ?_
    refine setK_to ?_
    walk_at "w"
    exact setd _ _ (by omega) (hd.rp.up (by decide) (by decide))
theorem call_bent {X : Xc → Cs → Prop} {C : Cs} {P : Cv → Cs → Prop} {i n : Nat} {ps : List (Int × Int)} (hc : C[i]? = some (.box 0 n)) (hn : n ≤ 1000000) (hl : ps.length ≤ 60) (ho : OkPr ps) (h : ∀ d, Tg d → setK C i (.box 0 (n + 40)) fun C' => P (.d d) C') : callW w__law_bent X C [.c i, .d (.list (ps.map icD))] P := by
  refine call_w [i] ⟨n, ps, rfl, rfl, hn, hl, ho, fun d hd => ?_⟩ (by simp) ⟨by rw [hc]; exact ⟨rfl, Nat.le_refl n⟩, trivial⟩ ⟨rfl, rfl, trivial⟩
  show P (backV [i] C.length (.d d)) (backCs [i] C [.box 0 (n + 40)])
  rw [bk_1]
  exact setK_of (h d hd)
def isNum : PyData → Bool
  | .int _ => true
  | _ => false
def N__law_is_number : List Str := ["_law_thing"]
def x__law_is_number : XS := (xsRet (xAnd (xIsi (xVar 0) "int") (xNot (xIsi (xVar 0) "bool"))))
def w__law_is_number : Pw := fun ss C R _ => ∃ d : PyData, ss = [.d d] ∧ C = [] ∧ R (.d (.bool (isNum d))) []
theorem sem__law_is_number : SemW N__law_is_number 1 w__law_is_number x__law_is_number := by
  rintro _ _ R X ⟨d, rfl, rfl, h⟩
  refine ⟨rfl, by decide, sem_on ?_⟩
  cases d <;> walk_at "w" <;> exact ret0 h
/-! days rising, by sorting -/
def stepI (σ : List Int) (v : Int) : List Int := if v ∈ σ then σ else σ ++ [v]
def distI (xs : List Int) : List Int := xs.foldl stepI []
theorem distK_ints (xs : List Int) : distK (xs.map .inl) = (distI xs).map .inl := by
  have go : ∀ (xs σ : List Int), (xs.map (Sum.inl : Int → Key)).foldl stepK (σ.map .inl) = (xs.foldl stepI σ).map .inl := by
    intro xs
    induction xs with
    | nil => intro σ; rfl
    | cons x xs ih =>
      intro σ
      rw [List.map_cons, List.foldl_cons, List.foldl_cons, ← ih]
      congr 1
      unfold stepK stepI
      have e : hasK (σ.map (Sum.inl : Int → Key)) (.inl x) = true ↔ x ∈ σ := by
        rw [hasK_iff, List.mem_map]
        exact ⟨fun ⟨y, m, e⟩ => Sum.inl.inj e ▸ m, fun m => ⟨x, m, rfl⟩⟩
      by_cases m : x ∈ σ
      · rw [if_pos m, if_pos (e.mpr m)]
      · rw [if_neg m, if_neg (fun q => m (e.mp q)), List.map_append]; rfl
  exact go xs []
def usort (xs : List Int) : List Int := isort (distI xs)
theorem ksort_usort (xs : List Int) : ksort (distK (xs.map .inl)) = (usort xs).map .inl := by
  rw [distK_ints, ksort_ints]; rfl
theorem distI_props (xs : List Int) : (∀ v, v ∈ distI xs ↔ v ∈ xs) ∧ (distI xs).Nodup := by
  have go : ∀ (xs σ : List Int), σ.Nodup → (∀ v, v ∈ xs.foldl stepI σ ↔ v ∈ σ ∨ v ∈ xs) ∧ (xs.foldl stepI σ).Nodup := by
    intro xs
    induction xs with
    | nil => exact fun σ h => ⟨fun v => ⟨.inl, fun q => q.resolve_right (fun z => nomatch z)⟩, h⟩
    | cons x xs ih =>
      intro σ h
      have hs : (stepI σ x).Nodup := by
        unfold stepI
        split
        · exact h
        · rename_i m
          exact List.nodup_append.mpr ⟨h, by simp, fun a ha b hb e => m (by rw [List.mem_singleton.mp hb] at e; exact e ▸ ha)⟩
      obtain ⟨h1, h2⟩ := ih _ hs
      refine ⟨fun v => ?_, h2⟩
      rw [List.foldl_cons, h1 v, List.mem_cons]
      unfold stepI
      split
      · rename_i m
        exact ⟨fun q => q.imp id .inr, fun q => q.elim .inl fun q => q.elim (fun e => .inl (e ▸ m)) .inr⟩
      · rw [List.mem_append, List.mem_singleton]
        exact ⟨fun q => q.elim (fun q => q.elim .inl fun e => .inr (.inl e)) fun q => .inr (.inr q), fun q => q.elim (fun m => .inl (.inl m)) fun q => q.elim (fun e => .inl (.inr e)) .inr⟩
  obtain ⟨h1, h2⟩ := go xs [] List.nodup_nil
  exact ⟨fun v => (h1 v).trans ⟨fun q => q.resolve_left (fun z => nomatch z), .inr⟩, h2⟩
theorem isort_mem {xs : List Int} {v : Int} : v ∈ isort xs ↔ v ∈ xs := (List.mergeSort_perm xs _).mem_iff
theorem usort_mem {xs : List Int} {v : Int} : v ∈ usort xs ↔ v ∈ xs := isort_mem.trans ((distI_props xs).1 v)
theorem usort_lt (xs : List Int) : (usort xs).Pairwise (· < ·) := by
  have h1 := isort_sorted (distI xs)
  have h2 : (isort (distI xs)).Nodup := (List.mergeSort_perm (distI xs) _).nodup_iff.mpr (distI_props xs).2
  refine (List.Pairwise.and h1 h2).imp fun {a b} h => ?_
  have := of_decide_eq_true h.1
  have := h.2
  omega
theorem usort_len (xs : List Int) : (usort xs).length ≤ xs.length := by
  have h1 : (distI xs).length ≤ xs.length := by
    have := distK_len (xs.map (Sum.inl : Int → Key))
    rw [distK_ints, List.length_map, List.length_map] at this
    exact this
  unfold usort isort
  rw [List.length_mergeSort]; exact h1
theorem sorted_unique {a b : List Int} (ha : a.Pairwise (· < ·)) (hb : b.Pairwise (· < ·)) (h : ∀ v, v ∈ a ↔ v ∈ b) : a = b := by
  have na : a.Nodup := ha.imp fun {x y} (z : x < y) => (by omega : x ≠ y)
  have nb : b.Nodup := hb.imp fun {x y} (z : x < y) => (by omega : x ≠ y)
  exact List.Perm.eq_of_pairwise (le := (· < ·)) (fun x y _ _ p q => absurd p (by omega)) ha hb ((List.perm_ext_iff_of_nodup na nb).mpr h)
theorem adj_pair {ps : List (Int × Int)} : ((ps.zip (ps.drop 1)).all fun p => decide (p.1.1 < p.2.1)) = true ↔ (ps.map fun p => p.1).Pairwise (· < ·) := by
  induction ps with
  | nil => simp
  | cons p ps ih =>
    cases ps with
    | nil => simp
    | cons q ps =>
      rw [List.map_cons, List.pairwise_cons, ← ih]
      show ((p, q) :: ((q :: ps).zip ((q :: ps).drop 1))).all _ = true ↔ _
      rw [List.all_cons, Bool.and_eq_true, decide_eq_true_eq]
      constructor
      · rintro ⟨h1, h2⟩
        have h1 : p.1 < q.1 := h1
        refine ⟨fun x m => ?_, h2⟩
        rw [List.map_cons] at m
        rcases List.mem_cons.mp m with rfl | m
        · exact h1
        · have := (List.pairwise_cons.mp (by rw [← List.map_cons (f := fun p : Int × Int => p.1)]; exact ih.mp h2)).1 x m
          omega
      · rintro ⟨h1, h2⟩
        exact ⟨h1 q.1 (by rw [List.map_cons]; exact List.mem_cons_self), h2⟩
theorem rise_sort {ps : List (Int × Int)} : risB (ps.map icD) = decide ((ps.map fun p => p.1) = usort (ps.map fun p => p.1)) := by
  rw [risB_ps, Bool.eq_iff_iff, adj_pair, decide_eq_true_eq]
  constructor
  · intro h
    exact sorted_unique h (usort_lt _) fun v => usort_mem.symm
  · intro h
    rw [h]; exact usort_lt _
theorem call_isnum {X : Xc → Cs → Prop} {C : Cs} {P : Cv → Cs → Prop} {d : PyData} (h : P (.d (.bool (isNum d))) C) : callW w__law_is_number X C [.d d] P :=
  call_d ⟨d, rfl, rfl, bk0 h⟩ ⟨rfl, trivial⟩
/-! ### the law's own look -/
theorem numB_num {lo hi : Int} {d : PyData} (h : numB lo hi d = true) : isNum d = true := by
  cases d <;> first | rfl | cases h
theorem prB_num {a b : PyData} (h : prB (.tuple [a, b]) = true) : isNum a = true ∧ isNum b = true := by
  have h : (numB 0 400 a && numB 1 1000000 b) = true := h
  rw [Bool.and_eq_true] at h
  exact ⟨numB_num h.1, numB_num h.2⟩
theorem eqv_ints (xs ys : List Int) : PyData.eqv (.list (xs.map .int)) (.list (ys.map .int)) = decide (xs = ys) := by
  rw [Bool.eq_iff_iff, okD_eqv 10 _ _ (okD_ints 9 xs) (okD_ints 9 ys), decide_eq_true_eq]
  constructor
  · intro h
    have h := PyData.list.inj h
    exact List.map_inj_right (fun _ _ e => PyData.int.inj e) |>.mp h
  · intro h; rw [h]
def N__law_are_prices : List Str := ["_law_thing", "_law_pair", "_law_part", "_law_days"]
def x__law_are_prices : XS := (xsSeq (xsIf (xTNot (xB (xIsiT (xVar 0) ["list", "tuple"]))) (xsRet (xBl false)) xsNext)
    (xsSeq (xsFor (xiSeq (xVar 0)) (xgName 1) (xsSeq (xsIf (xTOr (xTNot (xB (xIsi (xVar 1) "tuple"))) (xTOr (xTest (xOp NeD (xBi LenD (xCons (xVar 1) xNil)) (xInt 2))) (xTNot (xB (xBi AllD (xCons (xLc (xiSeq (xVar 1)) (xgName 2) xYes (xCall w__law_is_number (xCons (xVar 2) xNil)) [2]) xNil)))))) (xsRet (xBl false)) xsNext)
    (xsIf (xTOr (xTNot (xTest (xChain LeD LeD (xInt 0) (xOp IxD (xVar 1) (xInt 0)) (xInt 400)))) (xTNot (xTest (xChain LeD LeD (xInt 1) (xOp IxD (xVar 1) (xInt 1)) (xOp PowD (xInt 10) (xInt 6)))))) (xsRet (xBl false)) xsNext)))
    (xsSeq (xsAsg (xLc (xiSeq (xVar 0)) (xgName 1) xYes (xOp IxD (xVar 1) (xInt 0)) [1]) (xgName 3))
    (xsRet (xOp EqD (xVar 3) (xSortSet (xVar 3)))))))
def w__law_are_prices : Pw := fun ss C R _ => ∃ d : PyData, ss = [.d d] ∧ C = [] ∧ (∀ ds, (d = .list ds ∨ d = .tuple ds) → ds.length ≤ 200 ∧ ∀ x ∈ ds, ∀ es, x = .tuple es → es.length ≤ 50000) ∧ R (.d (.bool (areB d))) []
theorem sem__law_are_prices : SemW N__law_are_prices 1 w__law_are_prices x__law_are_prices := by
  rintro _ _ R X ⟨d, rfl, rfl, hl, h⟩
  refine ⟨rfl, by decide, sem_on ?_⟩
  cases d with
  | list ds =>
    obtain ⟨hl, hx⟩ := hl ds (.inl rfl)
    have h : R (.d (.bool (ds.all prB && risB ds))) [] := h
    walk_at "w"
    refine for_xs (xs := ds) (enc := Cv.d) (τ := Unit) (fun _ _ => [(1, none)]) (fun _ _ => []) (fun i _ => (ds.take i).all prB = true) () rfl (by walk_at "wk") (fun _ _ _ => trivial) ?_ ?_
    · rintro i x _ K hi ip kk
      have mx := List.mem_of_getElem? hi
      have no : prB x = false → R (.d (.bool false)) [] := fun e => by
        have : ds.all prB = false := by
          rw [Bool.eq_false_iff]
          intro q
          have := List.all_eq_true.mp q x mx
          rw [e] at this; cases this
        rw [this] at h; exact h
      have yes : prB x = true → K _ _ := fun e => kk () (by rw [List.take_add_one, hi, List.all_append, ip]; show ([x].all prB) = true; rw [List.all_cons, e]; rfl)
      cases x with
      | tuple es =>
        have le := hx _ mx es rfl
        walk_at "w"
        refine cndN (cndP (fun e => ?_) (fun e => ?_))
        · have e : (es.length : Int) = 2 := e
          match es, e, no, yes with
          | [a, b], _, no, yes =>
            walk_at "w"
            refine comp_all (xs := [a, b]) (enc := Cv.d) isNum .bool trivial (fun p hp K k => ?_) ?_
            · walk_at "w"
              refine call_isnum ?_
              walk_at "w"
              exact k
            walk_at "w"
            refine ⟨[isNum a, isNum b], rfl, ?_⟩
            walk_at "w"
            cases na : isNum a with
            | false =>
              walk_at "w"
              exact ret0 (no (Bool.eq_false_iff.mpr fun q => by rw [(prB_num q).1] at na; cases na))
            | true =>
              cases nb : isNum b with
              | false =>
                walk_at "w"
                exact ret0 (no (Bool.eq_false_iff.mpr fun q => by rw [(prB_num q).2] at nb; cases nb))
              | true =>
                cases a <;> first | cases na | skip
                cases b <;> first | cases nb | skip
                rename_i a b e0
                have ep : prB (.tuple [.int a, .int b]) = ((decide (0 ≤ a) && decide (a ≤ 400)) && (decide (1 ≤ b) && decide (b ≤ 1000000))) := rfl
                walk_at "w"
                refine cndP (fun q1 => ?_) (fun q1 => ?_)
                · walk_at "w"
                  refine cndN (cndP (fun q2 => ?_) (fun q2 => ?_))
                  · walk_at "w"
                    refine cndP (fun q3 => ?_) (fun q3 => ?_)
                    · walk_at "w"
                      refine cndN (cndP (fun q4 => ?_) (fun q4 => ?_))
                      · walk_at "w"
                        exact fin (yes (by rw [ep, decide_eq_true q1, decide_eq_true q2, decide_eq_true q3, decide_eq_true (show b ≤ 1000000 from q4)]; rfl)) (by walk_at "wk")
                      · walk_at "w"
                        exact ret0 (no (by rw [ep, decide_eq_false (show ¬ b ≤ 1000000 from q4)]; simp))
                    · walk_at "w"
                      exact ret0 (no (by rw [ep, decide_eq_false q3]; simp))
                  · walk_at "w"
                    exact ret0 (no (by rw [ep, decide_eq_false q2]; simp))
                · walk_at "w"
                  exact ret0 (no (by rw [ep, decide_eq_false q1]; simp))
        · walk_at "w"
          refine ret0 (no ?_)
          match es, e with
          | [], _ => rfl
          | [_], _ => rfl
          | [_, _], e => exact absurd rfl e
          | _ :: _ :: _ :: _, _ => rfl
      | _ => walk_at "w"; exact ret0 (no rfl)
    · rintro _ ip
      rw [List.take_length] at ip
      rw [ip, Bool.true_and] at h
      obtain ⟨ps, rfl, hs⟩ := all_pr ip
      rw [List.length_map] at hl
      rw [rise_sort] at h
      walk_at "w"
      refine ⟨by rw [List.length_map, List.length_map]; omega, ?_⟩
      rw [List.map_map]
      refine comp_all (fun p => p.1) .int trivial (fun p hp K k => ?_) ?_
      · walk_at "w"
        exact k
      generalize hds : (ps.map fun p => p.1) = dys at h
      have ld : dys.length ≤ 200 := by rw [← hds, List.length_map]; exact hl
      walk_at "w"
      refine ⟨dys.map .inl, .inl (by rw [List.map_map]; rfl), by rw [List.length_map]; omega, .inl ⟨_, rfl⟩, ?_⟩
      rw [ksort_usort]
      have e : ((usort dys).map Sum.inl).map keyD = (usort dys).map .int := by rw [List.map_map]; rfl
      dsimp only
      rw [e]
      walk_at "w"
      refine ⟨eqOk 10 (okD_ints 9 _) (okD_ints 9 _), ?_⟩
      walk_at "w"
      refine ret0 ?_
      rw [eqv_ints]
      exact h
  | tuple ds =>
    obtain ⟨hl, hx⟩ := hl ds (.inr rfl)
    have h : R (.d (.bool (ds.all prB && risB ds))) [] := h
    walk_at "w"
    refine for_xs (xs := ds) (enc := Cv.d) (τ := Unit) (fun _ _ => [(1, none)]) (fun _ _ => []) (fun i _ => (ds.take i).all prB = true) () rfl (by walk_at "wk") (fun _ _ _ => trivial) ?_ ?_
    · rintro i x _ K hi ip kk
      have mx := List.mem_of_getElem? hi
      have no : prB x = false → R (.d (.bool false)) [] := fun e => by
        have : ds.all prB = false := by
          rw [Bool.eq_false_iff]
          intro q
          have := List.all_eq_true.mp q x mx
          rw [e] at this; cases this
        rw [this] at h; exact h
      have yes : prB x = true → K _ _ := fun e => kk () (by rw [List.take_add_one, hi, List.all_append, ip]; show ([x].all prB) = true; rw [List.all_cons, e]; rfl)
      cases x with
      | tuple es =>
        have le := hx _ mx es rfl
        walk_at "w"
        refine cndN (cndP (fun e => ?_) (fun e => ?_))
        · have e : (es.length : Int) = 2 := e
          match es, e, no, yes with
          | [a, b], _, no, yes =>
            walk_at "w"
            refine comp_all (xs := [a, b]) (enc := Cv.d) isNum .bool trivial (fun p hp K k => ?_) ?_
            · walk_at "w"
              refine call_isnum ?_
              walk_at "w"
              exact k
            walk_at "w"
            refine ⟨[isNum a, isNum b], rfl, ?_⟩
            walk_at "w"
            cases na : isNum a with
            | false =>
              walk_at "w"
              exact ret0 (no (Bool.eq_false_iff.mpr fun q => by rw [(prB_num q).1] at na; cases na))
            | true =>
              cases nb : isNum b with
              | false =>
                walk_at "w"
                exact ret0 (no (Bool.eq_false_iff.mpr fun q => by rw [(prB_num q).2] at nb; cases nb))
              | true =>
                cases a <;> first | cases na | skip
                cases b <;> first | cases nb | skip
                rename_i a b e0
                have ep : prB (.tuple [.int a, .int b]) = ((decide (0 ≤ a) && decide (a ≤ 400)) && (decide (1 ≤ b) && decide (b ≤ 1000000))) := rfl
                walk_at "w"
                refine cndP (fun q1 => ?_) (fun q1 => ?_)
                · walk_at "w"
                  refine cndN (cndP (fun q2 => ?_) (fun q2 => ?_))
                  · walk_at "w"
                    refine cndP (fun q3 => ?_) (fun q3 => ?_)
                    · walk_at "w"
                      refine cndN (cndP (fun q4 => ?_) (fun q4 => ?_))
                      · walk_at "w"
                        exact fin (yes (by rw [ep, decide_eq_true q1, decide_eq_true q2, decide_eq_true q3, decide_eq_true (show b ≤ 1000000 from q4)]; rfl)) (by walk_at "wk")
                      · walk_at "w"
                        exact ret0 (no (by rw [ep, decide_eq_false (show ¬ b ≤ 1000000 from q4)]; simp))
                    · walk_at "w"
                      exact ret0 (no (by rw [ep, decide_eq_false q3]; simp))
                  · walk_at "w"
                    exact ret0 (no (by rw [ep, decide_eq_false q2]; simp))
                · walk_at "w"
                  exact ret0 (no (by rw [ep, decide_eq_false q1]; simp))
        · walk_at "w"
          refine ret0 (no ?_)
          match es, e with
          | [], _ => rfl
          | [_], _ => rfl
          | [_, _], e => exact absurd rfl e
          | _ :: _ :: _ :: _, _ => rfl
      | _ => walk_at "w"; exact ret0 (no rfl)
    · rintro _ ip
      rw [List.take_length] at ip
      rw [ip, Bool.true_and] at h
      obtain ⟨ps, rfl, hs⟩ := all_pr ip
      rw [List.length_map] at hl
      rw [rise_sort] at h
      walk_at "w"
      refine ⟨by rw [List.length_map, List.length_map]; omega, ?_⟩
      rw [List.map_map]
      refine comp_all (fun p => p.1) .int trivial (fun p hp K k => ?_) ?_
      · walk_at "w"
        exact k
      generalize hds : (ps.map fun p => p.1) = dys at h
      have ld : dys.length ≤ 200 := by rw [← hds, List.length_map]; exact hl
      walk_at "w"
      refine ⟨dys.map .inl, .inl (by rw [List.map_map]; rfl), by rw [List.length_map]; omega, .inl ⟨_, rfl⟩, ?_⟩
      rw [ksort_usort]
      have e : ((usort dys).map Sum.inl).map keyD = (usort dys).map .int := by rw [List.map_map]; rfl
      dsimp only
      rw [e]
      walk_at "w"
      refine ⟨eqOk 10 (okD_ints 9 _) (okD_ints 9 _), ?_⟩
      walk_at "w"
      refine ret0 ?_
      rw [eqv_ints]
      exact h
  | _ => walk_at "w"; exact ret0 h
theorem call_law_are {X : Xc → Cs → Prop} {C : Cs} {P : Cv → Cs → Prop} {d : PyData} (hl : ∀ ds, (d = .list ds ∨ d = .tuple ds) → ds.length ≤ 200 ∧ ∀ x ∈ ds, ∀ es, x = .tuple es → es.length ≤ 50000) (h : P (.d (.bool (areB d))) C) : callW w__law_are_prices X C [.d d] P :=
  call_d ⟨d, rfl, rfl, hl, bk0 h⟩ ⟨rfl, trivial⟩
/-! ### a price on each day of a year -/
def yr : List PyData := (List.range 401).map fun (i : Nat) => icD ((0 : Int) + i, 1 + ((0 : Int) + i))
theorem yr_len : yr.length = 401 := by unfold yr; rw [List.length_map, List.length_range]
theorem yr1 : areB (.list yr) = true := by decide +kernel
theorem yr2 : areB (.tuple yr) = true := by decide +kernel
theorem yr3 : areB (.list (cutD yr none (some 41))) = true := by decide +kernel
theorem yr4 : areB (.list (yr ++ [.tuple [.int 400, .int 5]])) = false := by decide +kernel
theorem yr5 : areB (.list (cutD yr (some 1) none ++ [.tuple [.int 401, .int 5]])) = false := by decide +kernel
theorem yr6 : areB (.list (cutD yr none (some (-1)) ++ [.tuple [.int 400, .int 0]])) = false := by decide +kernel
theorem yr7 : areB (.list (cutD yr none (some 40) ++ [.tuple [.int 39, .int 5]])) = false := by decide +kernel
theorem cut_len (xs : List PyData) (lo hi : Option Int) : (cutD xs lo hi).length ≤ xs.length := by
  unfold cutD
  rw [List.length_take, List.length_drop]; omega
theorem comp_rq {g : XG} {c : XT} {e : XE} {vs : List Nat} {X : Xp} {keep : Cs → Prop} {lo : Int} {n : Nat} {ρ : Rv} {C : Cs} {U : List PyData → Cs → Prop} {β : Type} (q : Nat → β) (en : β → PyData) (hk : keep C)
    (hs : ∀ i, i < n → ∀ (K : Option PyData → Cs → Prop), K (some (en (q i))) C → g.wp C (.d (.int (lo + (i : Int)))) (wipeV ρ vs) fun ρ2 => c.wp X ρ2 C fun b C1 => cnd b (e.wp X ρ2 C1 fun t C2 => fz C2 t fun d C3 => K (some d) C3) (K none C1))
    (hd : U (((List.range n).map q).map en) C) : compW g c e vs X keep (rngV lo n) ρ C [] U :=
  comp_all (xs := List.range n) (enc := fun (j : Nat) => .d (.int (lo + (j : Int)))) q en hk (fun a ha => hs a (List.mem_range.mp ha)) hd
def N__law_year_right : List Str := ["_law_day", "_law_year", "_law_things", "_law_thing"]
def x__law_year_right : XS := (xsSeq (xsAsg (xLc (xiRng1 (xInt 401)) (xgName 0) xYes (xTup (xCons (xVar 0) (xCons (xOp AddD (xInt 1) (xVar 0)) xNil))) [0]) (xgName 1))
    (xsSeq (xsAsg (xLst (xCons (xOp AddD (xVar 1) (xLst (xCons (xTup (xCons (xInt 400) (xCons (xInt 5) xNil))) xNil))) (xCons (xOp AddD (xSl (xVar 1) (xPart (xInt 1)) xNoPart) (xLst (xCons (xTup (xCons (xInt 401) (xCons (xInt 5) xNil))) xNil))) (xCons (xOp AddD (xSl (xVar 1) xNoPart (xPart (xUn NegD (xInt 1)))) (xLst (xCons (xTup (xCons (xInt 400) (xCons (xInt 0) xNil))) xNil))) (xCons (xOp AddD (xSl (xVar 1) xNoPart (xPart (xInt 40))) (xLst (xCons (xTup (xCons (xInt 39) (xCons (xInt 5) xNil))) xNil))) xNil))))) (xgName 2))
    (xsSeq (xsIf (xTOr (xTest (xOp NotBD (xCall w_are_prices (xCons (xVar 1) xNil)) (xBl true))) (xTOr (xTest (xOp NotBD (xCall w_are_prices (xCons (xBi TupleD (xCons (xVar 1) xNil)) xNil)) (xBl true))) (xTest (xOp NotBD (xCall w_are_prices (xCons (xSl (xVar 1) xNoPart (xPart (xInt 41))) xNil)) (xBl true))))) (xsRet (xBl false)) xsNext)
    (xsRet (xOp EqD (xLc (xiSeq (xVar 2)) (xgName 3) xYes (xCall w_are_prices (xCons (xVar 3) xNil)) [3]) (xOp MulD (xLst (xCons (xBl false) xNil)) (xInt 4)))))))
def w__law_year_right : Pw := fun ss C R _ => ss = [] ∧ C = [] ∧ R (.d (.bool true)) []
theorem sem__law_year_right : SemW N__law_year_right 0 w__law_year_right x__law_year_right := by
  rintro _ _ R X ⟨rfl, rfl, h⟩
  refine ⟨rfl, by decide, sem_on ?_⟩
  have lz : 1000 ≤ sizeLine := by decide
  walk_at "w"
  refine comp_rq (fun i => ((0 : Int) + (i : Int), 1 + ((0 : Int) + (i : Int)))) icD trivial (fun i hi K k => ?_) ?_
  · walk_at "w"
    exact k
  have ey : ((List.range (Int.toNat 401)).map fun i : Nat => ((0 : Int) + (i : Int), 1 + ((0 : Int) + (i : Int)))).map icD = yr := by unfold yr; rw [List.map_map]; rfl
  rw [ey]
  have y1 := yr1
  have y2 := yr2
  have y3 := yr3
  have y4 := yr4
  have y5 := yr5
  have y6 := yr6
  have y7 := yr7
  have yl := yr_len
  generalize yr = Y at *
  have c1 := cut_len Y (some 1) none
  have c2 := cut_len Y none (some (-1))
  have c3 := cut_len Y none (some 40)
  have c4 := cut_len Y none (some 41)
  clear ey
  walk_at "w"
  refine ⟨by show Y.length + 1 ≤ _; omega, ?_⟩
  walk_at "w"
  refine ⟨by show (cutD Y (some 1) none).length + 1 ≤ _; omega, ?_⟩
  walk_at "w"
  refine ⟨by show (cutD Y none (some (-1))).length + 1 ≤ _; omega, ?_⟩
  walk_at "w"
  refine ⟨by show (cutD Y none (some 40)).length + 1 ≤ _; omega, ?_⟩
  have one : ∀ {d : PyData} {ds : List PyData}, (d = .list ds ∨ d = .tuple ds) → ∀ {es : List PyData}, (d = .list es ∨ d = .tuple es) → ds.length = es.length := fun h1 _ h2 => by
    rcases h1 with rfl | rfl <;> rcases h2 with h2 | h2 <;> cases h2 <;> rfl
  have bd : ∀ {ds : List PyData} {d : PyData}, (d = .list ds ∨ d = .tuple ds) → ds.length ≤ 5000 → ∀ es, (d = .list es ∨ d = .tuple es) → es.length ≤ 5000 := fun h1 hl es h2 => one h1 h2 ▸ hl
  walk_at "w"
  refine call_areprices (bd (.inl rfl) (by omega)) ?_
  rw [y1]
  walk_at "w"
  refine call_areprices (bd (.inr rfl) (by omega)) ?_
  rw [y2]
  walk_at "w"
  refine call_areprices (bd (.inl rfl) (by omega)) ?_
  rw [y3]
  walk_at "w"
  refine comp_all (enc := Cv.d) areB .bool trivial (fun d hd K k => ?_) ?_
  · walk_at "w"
    refine call_areprices ?_ ?_
    · simp only [List.mem_cons, List.not_mem_nil, or_false] at hd
      rcases hd with rfl | rfl | rfl | rfl
      · exact bd (.inl rfl) (by rw [List.length_append]; show Y.length + 1 ≤ _; omega)
      · exact bd (.inl rfl) (by rw [List.length_append]; show (cutD Y (some 1) none).length + 1 ≤ _; omega)
      · exact bd (.inl rfl) (by rw [List.length_append]; show (cutD Y none (some (-1))).length + 1 ≤ _; omega)
      · exact bd (.inl rfl) (by rw [List.length_append]; show (cutD Y none (some 40)).length + 1 ≤ _; omega)
    · walk_at "w"
      exact k
  have em : ∀ a b c d : PyData, areB a = false → areB b = false → areB c = false → areB d = false → ([a, b, c, d].map areB).map PyData.bool = [.bool false, .bool false, .bool false, .bool false] := fun a b c d h1 h2 h3 h4 => by simp [h1, h2, h3, h4]
  rw [em _ _ _ _ y4 y5 y6 y7]
  walk_at "w"
  refine ⟨⟨.inl (by decide +kernel), .inl (by decide +kernel)⟩, ?_⟩
  walk_at "w"
  refine ret0 ?_
  rw [show PyData.eqv (PyData.list [.bool false, .bool false, .bool false, .bool false]) (PyData.list (List.replicate (Int.toNat 4) [PyData.bool false]).flatten) = true by decide +kernel]
  exact h
theorem pr_are {ps : List (Int × Int)} (h : OkPr ps) : areL (ps.map icD) = true := by
  have h1 : (ps.map icD).all prB = true := by
    rw [List.all_eq_true]
    intro x m
    obtain ⟨p, mp, rfl⟩ := List.mem_map.mp m
    exact prB_iff.mpr ⟨p, rfl, h.ok p mp⟩
  unfold areL
  rw [h1, Bool.true_and, risB_ps, adj_pair]
  exact List.pairwise_map.mpr h.up
theorem weights : ∀ ds : List PyData, (∀ x ∈ ds, x.weight ≤ PyData.weightAll ds) ∧ ds.length ≤ PyData.weightAll ds
  | [] => ⟨(fun _ m => nomatch m), Nat.zero_le _⟩
  | d :: ds => by
    obtain ⟨h1, h2⟩ := weights ds
    have e : PyData.weightAll (d :: ds) = d.weight + 1 + PyData.weightAll ds := by simp only [PyData.weightAll]
    refine ⟨fun x m => ?_, by rw [List.length_cons]; omega⟩
    rcases List.mem_cons.mp m with rfl | m
    · omega
    · have := h1 x m
      omega
theorem tg_law {d : PyData} (h : Tg d) : ∀ ds, (d = .list ds ∨ d = .tuple ds) → ds.length ≤ 200 ∧ ∀ x ∈ ds, ∀ es, x = .tuple es → es.length ≤ 50000 := by
  intro ds q
  refine ⟨h.sm ds q, fun x m es e => ?_⟩
  have w1 : PyData.weightAll ds ≤ 20000 := by
    have := h.rp.size
    rcases q with rfl | rfl
    · have e : (PyData.list ds).weight = PyData.weightAll ds := by simp only [PyData.weight]
      omega
    · have e : (PyData.tuple ds).weight = PyData.weightAll ds := by simp only [PyData.weight]
      omega
  have w2 := (weights ds).1 x m
  have w3 := (weights es).2
  subst e
  have e : (PyData.tuple es).weight = PyData.weightAll es := by simp only [PyData.weight]
  omega
theorem tg_tup {ds : List PyData} (h : Tg (.list ds)) : Tg (.tuple ds) := by
  obtain ⟨⟨a, b, c, d, e⟩, s⟩ := h
  refine ⟨⟨?_, ?_, ?_, ?_, ?_⟩, fun es q => ?_⟩
  · simpa [PyData.leavesShort] using a
  · simpa [PyData.showable] using b
  · simpa [PyData.hasDict] using c
  · simpa [PyData.depth] using d
  · simpa [PyData.weight] using e
  · rcases q with q | q
    · cases q
    · cases q; exact s _ (.inl rfl)
def N_law : List Str := ["_law_script", "_law_k", "_law_left_here", "_law_great", "_law_prices_here", "_law_turn", "_law_thing", "_law_kept", "_law_found"]
def x_law : XS := (xsSeq (xsFor (xiRng1 (xBi Max2D (xCons (xInt 1) (xCons (xBi Min2D (xCons (xInt 6) (xCons (xBi LenD (xCons (xVar 0) xNil)) xNil))) xNil)))) (xgName 1) (xsSeq (xsAsg (xCall w__law_left (xCons (xVar 0) (xCons (xVar 1) xNil))) (xgName 2))
    (xsSeq (xsAsg (xAnd (xOp EqD (xVar 1) (xInt 0)) (xOp EqD (xCall w__law_pick (xCons (xVar 2) (xCons (xInt 6) xNil))) (xInt 0))) (xgName 3))
    (xsSeq (xsAsg (xCall w__law_prices (xCons (xVar 2) (xCons (xIf (xB (xVar 3)) (xInt 60) (xCall w__law_pick (xCons (xVar 2) (xCons (xInt 9) xNil)))) xNil))) (xgName 4))
    (xsSeq (xsIf (xTOr (xTest (xOp NotBD (xCall w_are_prices (xCons (xVar 4) xNil)) (xBl true))) (xTest (xOp NotBD (xCall w_are_prices (xCons (xBi TupleD (xCons (xVar 4) xNil)) xNil)) (xBl true)))) (xsRet (xBl false)) xsNext)
    (xsFor (xiRng1 (xInt 12)) (xgName 5) (xsSeq (xsAsg (xCall w__law_bent (xCons (xVar 2) (xCons (xVar 4) xNil))) (xgName 6))
    (xsSeq (xsIf (xTAnd (xB (xIsi (xVar 6) "list")) (xTest (xOp EqD (xCall w__law_pick (xCons (xVar 2) (xCons (xInt 4) xNil))) (xInt 0)))) (xsAsg (xBi TupleD (xCons (xVar 6) xNil)) (xgName 6)) xsNext)
    (xsSeq (xsPar 7 8 (xCons (xBi ReprD (xCons (xVar 6) xNil)) (xCons (xCall w_are_prices (xCons (xVar 6) xNil)) xNil)))
    (xsIf (xTOr (xTNot (xB (xIsi (xVar 8) "bool"))) (xTOr (xTest (xOp NeD (xVar 8) (xCall w__law_are_prices (xCons (xVar 6) xNil)))) (xTest (xOp NeD (xBi ReprD (xCons (xVar 6) xNil)) (xVar 7))))) (xsRet (xBl false)) xsNext))))))))))
    (xsRet (xCall w__law_year_right xNil)))
theorem sem_law : SemW N_law 1 w_law x_law := by
  rintro _ _ R X ⟨ns, rfl, rfl, hl, h⟩
  refine ⟨rfl, by decide, sem_on ?_⟩
  walk_at "w"
  refine for_rng (τ := Unit) (fun _ _ => [(1, none), (2, none), (3, none), (4, none), (5, none), (6, none), (7, none), (8, none)]) (fun _ _ => []) (fun _ _ => True) () trivial (by walk_at "wk") (fun _ _ _ => trivial) (fun k _ K hi _ kk => ?_) (fun _ _ => ?_)
  · have hk6 : k < 6 := by omega
    walk_at "w"
    refine call_lft (by omega) (by omega) ?_
    conv => whnf
    refine cut_st (fun g : Bool => [(3, some (.d (.bool g)))]) (fun _ => [.box 0 1]) (fun _ => True) (fun K2 kk2 => ?_) (fun g _ => ?_)
    · walk_at "w"
      refine cndB (fun e => ?_) (fun e => ?_)
      · walk_at "wq"
        exact fin (kk2 _ trivial) (by walk_at "wk")
      · walk_at "w"
        exact fin (kk2 false trivial) (by walk_at "wk")
    conv => whnf
    refine cut_st (fun ps : List (Int × Int) => [(4, some (.d (.list (ps.map icD))))]) (fun _ => [.box 0 300]) (fun ps => ps.length ≤ 60 ∧ OkPr ps) (fun K2 kk2 => ?_) (fun ps hps => ?_)
    · walk_at "w"
      refine cndB (fun e => ?_) (fun e => ?_)
      · walk_at "w"
        refine call_prices (m := 60) rfl (by omega) (by omega) fun ps h1 h2 => ?_
        walk_at "w"
        exact fin (kk2 ps ⟨by omega, h2⟩) (by walk_at "wk")
      · walk_at "wq"
        rename_i u u0 u1
        obtain ⟨u, rfl⟩ := Int.eq_ofNat_of_zero_le u0
        refine call_prices (m := u) rfl (by omega) (by omega) fun ps h1 h2 => ?_
        walk_at "w"
        exact fin (kk2 ps ⟨by omega, h2⟩) (by walk_at "wk")
    obtain ⟨lp, op⟩ := hps
    have lp' : (ps.map icD).length ≤ 60 := by rw [List.length_map]; exact lp
    have e1 : areB (.list (ps.map icD)) = true := pr_are op
    have e2 : areB (.tuple (ps.map icD)) = true := pr_are op
    walk_at "w"
    refine call_areprices (fun ds q => by rcases q with q | q <;> cases q; omega) ?_
    rw [e1]
    walk_at "w"
    refine call_areprices (fun ds q => by rcases q with q | q <;> cases q; omega) ?_
    rw [e2]
    walk_at "w"
    refine for_rng (τ := Unit) (fun _ _ => [(5, none), (6, none), (7, none), (8, none)]) (fun i _ => [.box 0 (300 + 50 * i)]) (fun _ _ => True) () trivial ?_ (fun _ _ _ => trivial) ?_ ?_
    · refine wkS_of [0] (by decide) rfl ?_ ?_ <;> walk_at "wk1"
    · rintro i _ K2 hi2 _ kk2
      have hi2 : i < 12 := hi2
      walk_at "w"
      refine call_bent rfl (by omega) lp op fun d hd => ?_
      conv => whnf
      refine cut_st (fun d' : PyData => [(6, some (.d d'))]) (fun _ => [.box 0 (345 + 50 * i)]) Tg (fun K3 kk3 => ?_) (fun d hd => ?_)
      · walk_at "w"
        cases d with
        | list ds =>
          walk_at "wq"
          refine cndP (fun e => ?_) (fun e => ?_)
          · walk_at "w"
            exact fin (kk3 _ (tg_tup hd)) (by walk_at "wk")
          · walk_at "w"
            exact fin (kk3 _ hd) (by walk_at "wk")
        | _ =>
          walk_at "w"
          exact fin (kk3 _ hd) (by walk_at "wk")
      walk_at "w"
      refine ⟨hd.rp.ok (by decide) (by decide), ?_⟩
      generalize hsh : d.shown = sh
      walk_at "w"
      refine call_areprices (fun ds q => Nat.le_trans (hd.sm ds q) (by decide)) ?_
      walk_at "w"
      refine call_law_are (tg_law hd) ?_
      generalize areB d = b
      walk_at "w"
      rw [decide_eq_true (rfl : b = b)]
      walk_at "w"
      refine ⟨hd.rp.ok (by decide) (by decide), ?_⟩
      rw [hsh]
      walk_at "w"
      rw [decide_eq_true (rfl : sh = sh)]
      walk_at "w"
      refine fin (kk2 () trivial) ?_
      refine wkS_of [0] (by decide) rfl ?_ ?_ <;> walk_at "wk1"
    · rintro _ _
      walk_at "w"
      exact fin (kk () trivial) (by walk_at "wk")
  · walk_at "w"
    refine call_d ⟨rfl, rfl, bk0 ?_⟩ trivial
    walk_at "w"
    exact ret0 h
end DL

namespace KL
open PySem L2 DL
def top (i : Nat) : Stmt := PySem.Challenge.pw_partwares_k28_what_prices_are.main.body.getD i (.Pass ⟨0, 0, 0, 0⟩)
abbrev s__law_left : Stmt := top 8
abbrev s__law_mix : Stmt := top 7
abbrev s__law_pick : Stmt := top 9
abbrev s__law_prices : Stmt := top 10
abbrev s_is_within : Stmt := top 3
abbrev s_is_price : Stmt := top 4
abbrev s_are_prices : Stmt := top 5
abbrev s__law_odd : Stmt := top 12
abbrev s__law_bent : Stmt := top 14
abbrev s__law_is_number : Stmt := top 11
abbrev s__law_are_prices : Stmt := top 13
abbrev s__law_year_right : Stmt := top 15
abbrev s_law : Stmt := top 16
theorem sc__law_left : FnScope N__law_left ["_law_script", "_law_k"] (defScope s__law_left) := ⟨rfl, rfl, rfl, by decide +kernel, rfl, by decide +kernel, by decide +kernel⟩
theorem sc__law_mix : FnScope N__law_mix ["_law_cell", "_law_k"] (defScope s__law_mix) := ⟨rfl, rfl, rfl, by decide +kernel, rfl, by decide +kernel, by decide +kernel⟩
theorem sc__law_pick : FnScope N__law_pick ["_law_left_here", "_law_many"] (defScope s__law_pick) := ⟨rfl, rfl, rfl, by decide +kernel, rfl, by decide +kernel, by decide +kernel⟩
theorem sc__law_prices : FnScope N__law_prices ["_law_left_here", "_law_many"] (defScope s__law_prices) := ⟨rfl, rfl, rfl, by decide +kernel, rfl, by decide +kernel, by decide +kernel⟩
theorem sc_is_within : FnScope N_is_within ["thing", "least", "most"] (defScope s_is_within) := ⟨rfl, rfl, rfl, by decide +kernel, rfl, by decide +kernel, by decide +kernel⟩
theorem sc_is_price : FnScope N_is_price ["thing"] (defScope s_is_price) := ⟨rfl, rfl, rfl, by decide +kernel, rfl, by decide +kernel, by decide +kernel⟩
theorem sc_are_prices : FnScope N_are_prices ["thing"] (defScope s_are_prices) := ⟨rfl, rfl, rfl, by decide +kernel, rfl, by decide +kernel, by decide +kernel⟩
theorem sc__law_odd : FnScope N__law_odd ["_law_left_here"] (defScope s__law_odd) := ⟨rfl, rfl, rfl, by decide +kernel, rfl, by decide +kernel, by decide +kernel⟩
theorem sc__law_bent : FnScope N__law_bent ["_law_left_here", "_law_prices_here"] (defScope s__law_bent) := ⟨rfl, rfl, rfl, by decide +kernel, rfl, by decide +kernel, by decide +kernel⟩
theorem sc__law_is_number : FnScope N__law_is_number ["_law_thing"] (defScope s__law_is_number) := ⟨rfl, rfl, rfl, by decide +kernel, rfl, by decide +kernel, by decide +kernel⟩
theorem sc__law_are_prices : FnScope N__law_are_prices ["_law_thing"] (defScope s__law_are_prices) := ⟨rfl, rfl, rfl, by decide +kernel, rfl, by decide +kernel, by decide +kernel⟩
theorem sc__law_year_right : FnScope N__law_year_right [] (defScope s__law_year_right) := ⟨rfl, rfl, rfl, by decide +kernel, rfl, by decide +kernel, by decide +kernel⟩
theorem sc_law : FnScope N_law ["_law_script"] (defScope s_law) := ⟨rfl, rfl, rfl, by decide +kernel, rfl, by decide +kernel, by decide +kernel⟩
structure Tx (K : Fg) (mg : Str → Option Value) (w : World) where
  n_len : mg "len" = none
  n_abs : mg "abs" = none
  n_int : mg "int" = none
  n_range : mg "range" = none
  n_isinstance : mg "isinstance" = none
  n_bool : mg "bool" = none
  n_tuple : mg "tuple" = none
  n_list : mg "list" = none
  n_all : mg "all" = none
  n_zip : mg "zip" = none
  n_max : mg "max" = none
  n_sorted : mg "sorted" = none
  n_set : mg "set" = none
  n_min : mg "min" = none
  n_repr : mg "repr" = none
  k_LAST_DAY : Tok
  c_LAST_DAY : mg "LAST_DAY" = some (.int 400 k_LAST_DAY)
  k_MOST_PENCE : Tok
  c_MOST_PENCE : mg "MOST_PENCE" = some (.int 1000000 k_MOST_PENCE)
  a__law_left : Addr
  d__law_left : FuncData
  F__law_left : Fun K "_law_left" "_law_left" s__law_left a__law_left d__law_left
  b__law_left : Binds K d__law_left ["_law_script", "_law_k"] []
  m__law_left : mg "_law_left" = some (.ref a__law_left)
  a__law_mix : Addr
  d__law_mix : FuncData
  F__law_mix : Fun K "_law_mix" "_law_mix" s__law_mix a__law_mix d__law_mix
  b__law_mix : Binds K d__law_mix ["_law_cell", "_law_k"] []
  m__law_mix : mg "_law_mix" = some (.ref a__law_mix)
  a__law_pick : Addr
  d__law_pick : FuncData
  F__law_pick : Fun K "_law_pick" "_law_pick" s__law_pick a__law_pick d__law_pick
  b__law_pick : Binds K d__law_pick ["_law_left_here", "_law_many"] []
  m__law_pick : mg "_law_pick" = some (.ref a__law_pick)
  a__law_prices : Addr
  d__law_prices : FuncData
  F__law_prices : Fun K "_law_prices" "_law_prices" s__law_prices a__law_prices d__law_prices
  b__law_prices : Binds K d__law_prices ["_law_left_here", "_law_many"] []
  m__law_prices : mg "_law_prices" = some (.ref a__law_prices)
  a_is_within : Addr
  d_is_within : FuncData
  F_is_within : Fun K "is_within" "is_within" s_is_within a_is_within d_is_within
  b_is_within : Binds K d_is_within ["thing", "least", "most"] []
  m_is_within : mg "is_within" = some (.ref a_is_within)
  a_is_price : Addr
  d_is_price : FuncData
  F_is_price : Fun K "is_price" "is_price" s_is_price a_is_price d_is_price
  b_is_price : Binds K d_is_price ["thing"] []
  m_is_price : mg "is_price" = some (.ref a_is_price)
  a_are_prices : Addr
  d_are_prices : FuncData
  F_are_prices : Fun K "are_prices" "are_prices" s_are_prices a_are_prices d_are_prices
  b_are_prices : Binds K d_are_prices ["thing"] []
  m_are_prices : mg "are_prices" = some (.ref a_are_prices)
  a__law_odd : Addr
  d__law_odd : FuncData
  F__law_odd : Fun K "_law_odd" "_law_odd" s__law_odd a__law_odd d__law_odd
  b__law_odd : Binds K d__law_odd ["_law_left_here"] []
  m__law_odd : mg "_law_odd" = some (.ref a__law_odd)
  a__law_bent : Addr
  d__law_bent : FuncData
  F__law_bent : Fun K "_law_bent" "_law_bent" s__law_bent a__law_bent d__law_bent
  b__law_bent : Binds K d__law_bent ["_law_left_here", "_law_prices_here"] []
  m__law_bent : mg "_law_bent" = some (.ref a__law_bent)
  a__law_is_number : Addr
  d__law_is_number : FuncData
  F__law_is_number : Fun K "_law_is_number" "_law_is_number" s__law_is_number a__law_is_number d__law_is_number
  b__law_is_number : Binds K d__law_is_number ["_law_thing"] []
  m__law_is_number : mg "_law_is_number" = some (.ref a__law_is_number)
  a__law_are_prices : Addr
  d__law_are_prices : FuncData
  F__law_are_prices : Fun K "_law_are_prices" "_law_are_prices" s__law_are_prices a__law_are_prices d__law_are_prices
  b__law_are_prices : Binds K d__law_are_prices ["_law_thing"] []
  m__law_are_prices : mg "_law_are_prices" = some (.ref a__law_are_prices)
  a__law_year_right : Addr
  d__law_year_right : FuncData
  F__law_year_right : Fun K "_law_year_right" "_law_year_right" s__law_year_right a__law_year_right d__law_year_right
  b__law_year_right : Binds K d__law_year_right [] []
  m__law_year_right : mg "_law_year_right" = some (.ref a__law_year_right)
  a_law : Addr
  d_law : FuncData
  F_law : Fun K "law" "law" s_law a_law d_law
  b_law : Binds K d_law ["_law_script"] []
  m_law : mg "law" = some (.ref a_law)
section
variable {P : Program} {w : World} {K : Fg} {mg : Str → Option Value} {base : Heap}
abbrev kxt (T : Tx K mg w) : Kx := { K := K, cl := fun n => [0, 0, 0, 0, 0, 0, 0].getD n 0, w := w, ga := fun n => [].getD n 0 }
theorem ok__law_left (T : Tx K mg w) : FnG P w K mg base CX0 1 T.a__law_left T.d__law_left ["_law_script", "_law_k"] (spW (kxt T) w__law_left) := by
  refine mk_okW (kx := kxt T) (k := 0) T.F__law_left sc__law_left sem__law_left (fun _ _ _ _ h => h) (fun cdv A' outer s H E hG hr => ?_)
  have nd : N__law_left.Nodup := sc__law_left.nd
  unfold x__law_left
  simp only [r_xVar, r_xRaw, r_xOp, r_xUn, r_xIsN, r_xNotN, r_xNot, r_xAnd, r_xOr, r_xChain, r_xTest, r_xB, r_xTNot, r_xTAnd, r_xTOr, r_xYes, r_xIf, r_xNil, r_xCons, r_xTup, r_xLst, r_xLstC, r_xLstR, r_xBi, r_xListC, r_xListD, r_xCatC, r_xNoPart, r_xPart, r_xSl, r_xBm, r_xBm0, r_xiSeq, r_xiRng1, r_xiRng2, r_xgName, r_xgsNil, r_xgsCons, r_xgTup, r_xgUnl, r_xsSeq, r_xsNext, r_xsBreak, r_xsCont, r_xsAsg, r_xsRet, r_xsRetN, r_xsDrop, r_xsIf, r_xsPar, r_xsPar3, r_xsFor, r_xsWhile, r_xLc, r_xLcC, r_xCallD, r_xCall, r_xAppend, r_xExtend, r_xClear, r_xReverse, r_xPop, r_xPopAt, r_xInsert, r_xsSetItem, r_xIsi, r_xIsiT, r_xFmt, r_xFs, r_xRevS, r_xRevL, r_xsOpen, r_xFz, r_xiZip, r_xiEnum, r_xInt, r_xStr, r_xBl, r_xNon, r_len0, r_len1, r_xBiK, tTys, List.map_cons, List.map_nil, r_xFld, r_xsFld, r_xsFldAdd, r_xsFldSub, r_xsUnpF, r_xMeth, r_xMake, r_xDict, r_xDict0, r_xDUpd, r_xDGet, r_xsDPut, r_xDInT, r_xDInF, r_xDCopy, r_xiItems, r_xsLock, r_xGDict, r_xGlob, r_xsNever, r_xsAsgT, r_xLcR, r_xIxR, r_xLenO, r_xXf, r_xiRev, r_xLCount, r_xLIndex, r_xsDPar, r_xTupC, r_xCallX, r_xMethX, r_xsRaise, r_xsRaiseF, r_xsTry, r_xIsX, r_xIsXV, r_xIsXT, r_tRefs0, r_tRefs1, r_xMethK, r_xMakeK, r_xMakeX, r_xsAugNT, r_xsAugNF, r_xDictP, r_xMakeKD, r_xMakeKN, r_xDGetD, r_xsSwap, r_xGTIndex, r_xLenSet, r_xGDIn, r_xSplitC, r_xStrO, r_xEqO, r_xIsO, r_xMulC, r_xReprO, r_xsSetItemR, r_xSortSet]
  exact (pss_cons (ps_set (i := 2) nd rfl (Or.inl rfl) (pe_ifExp (pt_cmpR op_ltD (pv 1) (pe_callB DL.call_lenD (by rfl) T.n_len (by decide +kernel) (pa_cons (pv 0) pa_nil)) (nomark _)) (pe_ix ix_D (pv 0) (pv 1) (fun _ _ => rfl)) pe_int))
      (pss_one (ps_ret (pe_lst (pa_cons (pe_op op_mulD (pe_callB call_absD (by rfl) T.n_abs (by decide +kernel) (pa_cons (pv 2) pa_nil)) (pe_callTy call_intD (by rfl) T.n_int (by decide +kernel) (pa_cons (pe_cmpR op_geD (pe_callB call_absD (by rfl) T.n_abs (by decide +kernel) (pa_cons (pv 2) pa_nil)) (pe_op op_powD pe_int pe_int) (nomark _)) pa_nil))) (pa_cons (pe_op op_addD (pv 2) (pe_op op_mulD pe_int (pv 1))) (pa_cons pe_int pa_nil)))))))
theorem ok__law_mix (T : Tx K mg w) : FnG P w K mg base CX0 1 T.a__law_mix T.d__law_mix ["_law_cell", "_law_k"] (spW (kxt T) w__law_mix) := by
  refine mk_okW (kx := kxt T) (k := 0) T.F__law_mix sc__law_mix sem__law_mix (fun _ _ _ _ h => h) (fun cdv A' outer s H E hG hr => ?_)
  have nd : N__law_mix.Nodup := sc__law_mix.nd
  unfold x__law_mix
  simp only [r_xVar, r_xRaw, r_xOp, r_xUn, r_xIsN, r_xNotN, r_xNot, r_xAnd, r_xOr, r_xChain, r_xTest, r_xB, r_xTNot, r_xTAnd, r_xTOr, r_xYes, r_xIf, r_xNil, r_xCons, r_xTup, r_xLst, r_xLstC, r_xLstR, r_xBi, r_xListC, r_xListD, r_xCatC, r_xNoPart, r_xPart, r_xSl, r_xBm, r_xBm0, r_xiSeq, r_xiRng1, r_xiRng2, r_xgName, r_xgsNil, r_xgsCons, r_xgTup, r_xgUnl, r_xsSeq, r_xsNext, r_xsBreak, r_xsCont, r_xsAsg, r_xsRet, r_xsRetN, r_xsDrop, r_xsIf, r_xsPar, r_xsPar3, r_xsFor, r_xsWhile, r_xLc, r_xLcC, r_xCallD, r_xCall, r_xAppend, r_xExtend, r_xClear, r_xReverse, r_xPop, r_xPopAt, r_xInsert, r_xsSetItem, r_xIsi, r_xIsiT, r_xFmt, r_xFs, r_xRevS, r_xRevL, r_xsOpen, r_xFz, r_xiZip, r_xiEnum, r_xInt, r_xStr, r_xBl, r_xNon, r_len0, r_len1, r_xBiK, tTys, List.map_cons, List.map_nil, r_xFld, r_xsFld, r_xsFldAdd, r_xsFldSub, r_xsUnpF, r_xMeth, r_xMake, r_xDict, r_xDict0, r_xDUpd, r_xDGet, r_xsDPut, r_xDInT, r_xDInF, r_xDCopy, r_xiItems, r_xsLock, r_xGDict, r_xGlob, r_xsNever, r_xsAsgT, r_xLcR, r_xIxR, r_xLenO, r_xXf, r_xiRev, r_xLCount, r_xLIndex, r_xsDPar, r_xTupC, r_xCallX, r_xMethX, r_xsRaise, r_xsRaiseF, r_xsTry, r_xIsX, r_xIsXV, r_xIsXT, r_tRefs0, r_tRefs1, r_xMethK, r_xMakeK, r_xMakeX, r_xsAugNT, r_xsAugNF, r_xDictP, r_xMakeKD, r_xMakeKN, r_xDGetD, r_xsSwap, r_xGTIndex, r_xLenSet, r_xGDIn, r_xSplitC, r_xStrO, r_xEqO, r_xIsO, r_xMulC, r_xReprO, r_xsSetItemR, r_xSortSet]
  exact (pss_cons (ps_set (i := 2) nd rfl (Or.inl rfl) (pe_op op_modD (pe_op op_mulD (pe_op op_addD (pe_op op_addD (pe_op op_modD (pv 0) pe_int) (pe_op op_mulD (pe_op op_mulD (pv 1) (pv 1)) pe_int)) pe_int) pe_int) pe_int))
      (pss_one (ps_ret (pe_op op_modD (pe_op op_mulD (pv 2) (pv 2)) pe_int))))
theorem ok__law_pick (T : Tx K mg w) : FnG P w K mg base CX0 2 T.a__law_pick T.d__law_pick ["_law_left_here", "_law_many"] (spW (kxt T) w__law_pick) := by
  have G__law_mix := ok__law_mix (P := P) (base := base) T
  refine mk_okW (kx := kxt T) (k := 1) T.F__law_pick sc__law_pick sem__law_pick (fun _ _ _ _ h => h) (fun cdv A' outer s H E hG hr => ?_)
  have nd : N__law_pick.Nodup := sc__law_pick.nd
  unfold x__law_pick
  simp only [r_xVar, r_xRaw, r_xOp, r_xUn, r_xIsN, r_xNotN, r_xNot, r_xAnd, r_xOr, r_xChain, r_xTest, r_xB, r_xTNot, r_xTAnd, r_xTOr, r_xYes, r_xIf, r_xNil, r_xCons, r_xTup, r_xLst, r_xLstC, r_xLstR, r_xBi, r_xListC, r_xListD, r_xCatC, r_xNoPart, r_xPart, r_xSl, r_xBm, r_xBm0, r_xiSeq, r_xiRng1, r_xiRng2, r_xgName, r_xgsNil, r_xgsCons, r_xgTup, r_xgUnl, r_xsSeq, r_xsNext, r_xsBreak, r_xsCont, r_xsAsg, r_xsRet, r_xsRetN, r_xsDrop, r_xsIf, r_xsPar, r_xsPar3, r_xsFor, r_xsWhile, r_xLc, r_xLcC, r_xCallD, r_xCall, r_xAppend, r_xExtend, r_xClear, r_xReverse, r_xPop, r_xPopAt, r_xInsert, r_xsSetItem, r_xIsi, r_xIsiT, r_xFmt, r_xFs, r_xRevS, r_xRevL, r_xsOpen, r_xFz, r_xiZip, r_xiEnum, r_xInt, r_xStr, r_xBl, r_xNon, r_len0, r_len1, r_xBiK, tTys, List.map_cons, List.map_nil, r_xFld, r_xsFld, r_xsFldAdd, r_xsFldSub, r_xsUnpF, r_xMeth, r_xMake, r_xDict, r_xDict0, r_xDUpd, r_xDGet, r_xsDPut, r_xDInT, r_xDInF, r_xDCopy, r_xiItems, r_xsLock, r_xGDict, r_xGlob, r_xsNever, r_xsAsgT, r_xLcR, r_xIxR, r_xLenO, r_xXf, r_xiRev, r_xLCount, r_xLIndex, r_xsDPar, r_xTupC, r_xCallX, r_xMethX, r_xsRaise, r_xsRaiseF, r_xsTry, r_xIsX, r_xIsXV, r_xIsXT, r_tRefs0, r_tRefs1, r_xMethK, r_xMakeK, r_xMakeX, r_xsAugNT, r_xsAugNF, r_xDictP, r_xMakeKD, r_xMakeKN, r_xDGetD, r_xsSwap, r_xGTIndex, r_xLenSet, r_xGDIn, r_xSplitC, r_xStrO, r_xEqO, r_xIsO, r_xMulC, r_xReprO, r_xsSetItemR, r_xSortSet]
  exact (pss_cons (ps_asg (pe_op op_addD (pe_ix ix_D (pv 0) pe_int (fun _ _ => rfl)) pe_int) (pg_sub (pv 0) pe_int set_list))
      (pss_cons (ps_if (pt_cmpR op_gtD (pe_ix ix_D (pv 0) pe_int (fun _ _ => rfl)) pe_int (nomark _)) (pss_cons (ps_set (i := 2) nd rfl (Or.inl rfl) (pe_op op_modD (pe_ix ix_D (pv 0) pe_int (fun _ _ => rfl)) (pv 1)))
      (pss_cons (ps_asg (pe_op op_divD (pe_ix ix_D (pv 0) pe_int (fun _ _ => rfl)) (pv 1)) (pg_sub (pv 0) pe_int set_list))
      (pss_one (ps_ret (pv 2))))) pss_nil)
      (pss_one (ps_ret (pe_op op_modD (pe_op op_divD (pe_callG G__law_mix hG (hr.mono (by decide)) rfl T.m__law_mix T.F__law_mix.kp T.b__law_mix .nil pass0 (pa_cons (pe_callG G__law_mix hG (hr.mono (by decide)) rfl T.m__law_mix T.F__law_mix.kp T.b__law_mix .nil pass0 (pa_cons (pe_ix ix_D (pv 0) pe_int (fun _ _ => rfl)) (pa_cons (pe_ix ix_D (pv 0) pe_int (fun _ _ => rfl)) pa_nil))) (pa_cons (pe_op op_addD (pe_ix ix_D (pv 0) pe_int (fun _ _ => rfl)) pe_int) pa_nil))) pe_int) (pv 1))))))
theorem ok__law_prices (T : Tx K mg w) : FnG P w K mg base CX0 3 T.a__law_prices T.d__law_prices ["_law_left_here", "_law_many"] (spW (kxt T) w__law_prices) := by
  have G__law_pick := ok__law_pick (P := P) (base := base) T
  refine mk_okW (kx := kxt T) (k := 2) T.F__law_prices sc__law_prices sem__law_prices (fun _ _ _ _ h => h) (fun cdv A' outer s H E hG hr => ?_)
  have nd : N__law_prices.Nodup := sc__law_prices.nd
  unfold x__law_prices
  simp only [r_xVar, r_xRaw, r_xOp, r_xUn, r_xIsN, r_xNotN, r_xNot, r_xAnd, r_xOr, r_xChain, r_xTest, r_xB, r_xTNot, r_xTAnd, r_xTOr, r_xYes, r_xIf, r_xNil, r_xCons, r_xTup, r_xLst, r_xLstC, r_xLstR, r_xBi, r_xListC, r_xListD, r_xCatC, r_xNoPart, r_xPart, r_xSl, r_xBm, r_xBm0, r_xiSeq, r_xiRng1, r_xiRng2, r_xgName, r_xgsNil, r_xgsCons, r_xgTup, r_xgUnl, r_xsSeq, r_xsNext, r_xsBreak, r_xsCont, r_xsAsg, r_xsRet, r_xsRetN, r_xsDrop, r_xsIf, r_xsPar, r_xsPar3, r_xsFor, r_xsWhile, r_xLc, r_xLcC, r_xCallD, r_xCall, r_xAppend, r_xExtend, r_xClear, r_xReverse, r_xPop, r_xPopAt, r_xInsert, r_xsSetItem, r_xIsi, r_xIsiT, r_xFmt, r_xFs, r_xRevS, r_xRevL, r_xsOpen, r_xFz, r_xiZip, r_xiEnum, r_xInt, r_xStr, r_xBl, r_xNon, r_len0, r_len1, r_xBiK, tTys, List.map_cons, List.map_nil, r_xFld, r_xsFld, r_xsFldAdd, r_xsFldSub, r_xsUnpF, r_xMeth, r_xMake, r_xDict, r_xDict0, r_xDUpd, r_xDGet, r_xsDPut, r_xDInT, r_xDInF, r_xDCopy, r_xiItems, r_xsLock, r_xGDict, r_xGlob, r_xsNever, r_xsAsgT, r_xLcR, r_xIxR, r_xLenO, r_xXf, r_xiRev, r_xLCount, r_xLIndex, r_xsDPar, r_xTupC, r_xCallX, r_xMethX, r_xsRaise, r_xsRaiseF, r_xsTry, r_xIsX, r_xIsXV, r_xIsXT, r_tRefs0, r_tRefs1, r_xMethK, r_xMakeK, r_xMakeX, r_xsAugNT, r_xsAugNF, r_xDictP, r_xMakeKD, r_xMakeKN, r_xDGetD, r_xsSwap, r_xGTIndex, r_xLenSet, r_xGDIn, r_xSplitC, r_xStrO, r_xEqO, r_xIsO, r_xMulC, r_xReprO, r_xsSetItemR, r_xSortSet]
  exact (pss_cons (ps_par3 (i := 2) (j := 3) (l := 4) (by rfl) nd rfl rfl rfl (by decide) (by decide) (by decide) rfl rfl rfl (pa_cons (pe_callG G__law_pick hG (hr.mono (by decide)) rfl T.m__law_pick T.F__law_pick.kp T.b__law_pick .nil pass0 (pa_cons (pv 0) (pa_cons (pe_ix ix_D (pe_lst (pa_cons pe_int (pa_cons pe_int pa_nil))) (pe_callG G__law_pick hG (hr.mono (by decide)) rfl T.m__law_pick T.F__law_pick.kp T.b__law_pick .nil pass0 (pa_cons (pv 0) (pa_cons pe_int pa_nil))) (fun _ _ => rfl)) pa_nil))) (pa_cons (pe_lst pa_nil) (pa_cons (pe_ix ix_D (pe_lst (pa_cons pe_int (pa_cons pe_int (pa_cons (pe_op op_powD pe_int pe_int) pa_nil)))) (pe_callG G__law_pick hG (hr.mono (by decide)) rfl T.m__law_pick T.F__law_pick.kp T.b__law_pick .nil pass0 (pa_cons (pv 0) (pa_cons pe_int pa_nil))) (fun _ _ => rfl)) pa_nil))) (by rfl))
      (pss_cons (ps_for PassesOwn.never rfl (pi_range1 rfl T.n_range (pa_cons (pv 1) pa_nil)) (pg_name (i := 5) nd rfl (Or.inl rfl)) (pss_cons (ps_if (pt_cmpR op_leD (pv 2) pe_int (nomark _)) (pss_one (ps_expr (pe_bm PySem.F.plainAttrs_list PySem.F.slot_list_append PySem.F.type_list_append mt_append (pv 3) (pa_cons (pe_tup (pa_cons (pv 2) (pa_cons (pe_op op_addD pe_int (pe_callG G__law_pick hG (hr.mono (by decide)) rfl T.m__law_pick T.F__law_pick.kp T.b__law_pick .nil pass0 (pa_cons (pv 0) (pa_cons (pv 4) pa_nil)))) pa_nil))) pa_nil)))) pss_nil)
      (pss_one (ps_set (i := 2) nd rfl (Or.inl rfl) (pe_op op_addD (pe_op op_addD (pv 2) pe_int) (pe_callG G__law_pick hG (hr.mono (by decide)) rfl T.m__law_pick T.F__law_pick.kp T.b__law_pick .nil pass0 (pa_cons (pv 0) (pa_cons (pe_ix ix_D (pe_lst (pa_cons pe_int (pa_cons pe_int (pa_cons pe_int pa_nil)))) (pe_callG G__law_pick hG (hr.mono (by decide)) rfl T.m__law_pick T.F__law_pick.kp T.b__law_pick .nil pass0 (pa_cons (pv 0) (pa_cons pe_int pa_nil))) (fun _ _ => rfl)) pa_nil))))))))
      (pss_one (ps_ret (pv 3)))))
theorem ok_is_within (T : Tx K mg w) : FnG P w K mg base CX0 1 T.a_is_within T.d_is_within ["thing", "least", "most"] (spW (kxt T) w_is_within) := by
  refine mk_okW (kx := kxt T) (k := 0) T.F_is_within sc_is_within sem_is_within (fun _ _ _ _ h => h) (fun cdv A' outer s H E hG hr => ?_)
  have nd : N_is_within.Nodup := sc_is_within.nd
  unfold x_is_within
  simp only [r_xVar, r_xRaw, r_xOp, r_xUn, r_xIsN, r_xNotN, r_xNot, r_xAnd, r_xOr, r_xChain, r_xTest, r_xB, r_xTNot, r_xTAnd, r_xTOr, r_xYes, r_xIf, r_xNil, r_xCons, r_xTup, r_xLst, r_xLstC, r_xLstR, r_xBi, r_xListC, r_xListD, r_xCatC, r_xNoPart, r_xPart, r_xSl, r_xBm, r_xBm0, r_xiSeq, r_xiRng1, r_xiRng2, r_xgName, r_xgsNil, r_xgsCons, r_xgTup, r_xgUnl, r_xsSeq, r_xsNext, r_xsBreak, r_xsCont, r_xsAsg, r_xsRet, r_xsRetN, r_xsDrop, r_xsIf, r_xsPar, r_xsPar3, r_xsFor, r_xsWhile, r_xLc, r_xLcC, r_xCallD, r_xCall, r_xAppend, r_xExtend, r_xClear, r_xReverse, r_xPop, r_xPopAt, r_xInsert, r_xsSetItem, r_xIsi, r_xIsiT, r_xFmt, r_xFs, r_xRevS, r_xRevL, r_xsOpen, r_xFz, r_xiZip, r_xiEnum, r_xInt, r_xStr, r_xBl, r_xNon, r_len0, r_len1, r_xBiK, tTys, List.map_cons, List.map_nil, r_xFld, r_xsFld, r_xsFldAdd, r_xsFldSub, r_xsUnpF, r_xMeth, r_xMake, r_xDict, r_xDict0, r_xDUpd, r_xDGet, r_xsDPut, r_xDInT, r_xDInF, r_xDCopy, r_xiItems, r_xsLock, r_xGDict, r_xGlob, r_xsNever, r_xsAsgT, r_xLcR, r_xIxR, r_xLenO, r_xXf, r_xiRev, r_xLCount, r_xLIndex, r_xsDPar, r_xTupC, r_xCallX, r_xMethX, r_xsRaise, r_xsRaiseF, r_xsTry, r_xIsX, r_xIsXV, r_xIsXT, r_tRefs0, r_tRefs1, r_xMethK, r_xMakeK, r_xMakeX, r_xsAugNT, r_xsAugNF, r_xDictP, r_xMakeKD, r_xMakeKN, r_xDGetD, r_xsSwap, r_xGTIndex, r_xLenSet, r_xGDIn, r_xSplitC, r_xStrO, r_xEqO, r_xIsO, r_xMulC, r_xReprO, r_xsSetItemR, r_xSortSet]
  exact (pss_one (ps_ret (pe_and (pe_callB call_isiD (by rfl) T.n_isinstance (by decide +kernel) (pa_cons (pv 0) (pa_cons (pe_bltn (v := .ty "int") (u := .type "int") (by rfl) T.n_int (by decide +kernel) rfl) pa_nil))) (pe_and (pe_not (pe_callB call_isiD (by rfl) T.n_isinstance (by decide +kernel) (pa_cons (pv 0) (pa_cons (pe_bltn (v := .ty "bool") (u := .type "bool") (by rfl) T.n_bool (by decide +kernel) rfl) pa_nil)))) (pe_one (pe_chain op_leD op_leD (pv 1) (pv 0) (pv 2)))))))
theorem ok_is_price (T : Tx K mg w) : FnG P w K mg base CX0 2 T.a_is_price T.d_is_price ["thing"] (spW (kxt T) w_is_price) := by
  have G_is_within := ok_is_within (P := P) (base := base) T
  refine mk_okW (kx := kxt T) (k := 1) T.F_is_price sc_is_price sem_is_price (fun _ _ _ _ h => h) (fun cdv A' outer s H E hG hr => ?_)
  have nd : N_is_price.Nodup := sc_is_price.nd
  unfold x_is_price
  simp only [r_xVar, r_xRaw, r_xOp, r_xUn, r_xIsN, r_xNotN, r_xNot, r_xAnd, r_xOr, r_xChain, r_xTest, r_xB, r_xTNot, r_xTAnd, r_xTOr, r_xYes, r_xIf, r_xNil, r_xCons, r_xTup, r_xLst, r_xLstC, r_xLstR, r_xBi, r_xListC, r_xListD, r_xCatC, r_xNoPart, r_xPart, r_xSl, r_xBm, r_xBm0, r_xiSeq, r_xiRng1, r_xiRng2, r_xgName, r_xgsNil, r_xgsCons, r_xgTup, r_xgUnl, r_xsSeq, r_xsNext, r_xsBreak, r_xsCont, r_xsAsg, r_xsRet, r_xsRetN, r_xsDrop, r_xsIf, r_xsPar, r_xsPar3, r_xsFor, r_xsWhile, r_xLc, r_xLcC, r_xCallD, r_xCall, r_xAppend, r_xExtend, r_xClear, r_xReverse, r_xPop, r_xPopAt, r_xInsert, r_xsSetItem, r_xIsi, r_xIsiT, r_xFmt, r_xFs, r_xRevS, r_xRevL, r_xsOpen, r_xFz, r_xiZip, r_xiEnum, r_xInt, r_xStr, r_xBl, r_xNon, r_len0, r_len1, r_xBiK, tTys, List.map_cons, List.map_nil, r_xFld, r_xsFld, r_xsFldAdd, r_xsFldSub, r_xsUnpF, r_xMeth, r_xMake, r_xDict, r_xDict0, r_xDUpd, r_xDGet, r_xsDPut, r_xDInT, r_xDInF, r_xDCopy, r_xiItems, r_xsLock, r_xGDict, r_xGlob, r_xsNever, r_xsAsgT, r_xLcR, r_xIxR, r_xLenO, r_xXf, r_xiRev, r_xLCount, r_xLIndex, r_xsDPar, r_xTupC, r_xCallX, r_xMethX, r_xsRaise, r_xsRaiseF, r_xsTry, r_xIsX, r_xIsXV, r_xIsXT, r_tRefs0, r_tRefs1, r_xMethK, r_xMakeK, r_xMakeX, r_xsAugNT, r_xsAugNF, r_xDictP, r_xMakeKD, r_xMakeKN, r_xDGetD, r_xsSwap, r_xGTIndex, r_xLenSet, r_xGDIn, r_xSplitC, r_xStrO, r_xEqO, r_xIsO, r_xMulC, r_xReprO, r_xsSetItemR, r_xSortSet]
  exact (pss_cons (ps_if (PW.pt (pw_or (pt_not (pt_val (pe_callB call_isiD (by rfl) T.n_isinstance (by decide +kernel) (pa_cons (pv 0) (pa_cons (pe_bltn (v := .ty "tuple") (u := .type "tuple") (by rfl) T.n_tuple (by decide +kernel) rfl) pa_nil))))) (pw_or1 (pt_cmpR (op_neDD (u64 hr)) (pe_callB DL.call_lenD (by rfl) T.n_len (by decide +kernel) (pa_cons (pv 0) pa_nil)) pe_int (nomark _))))) (pss_one (ps_ret pe_bl)) pss_nil)
      (pss_one (ps_ret (pe_and (pe_callG G_is_within hG (hr.mono (by decide)) rfl T.m_is_within T.F_is_within.kp T.b_is_within .nil pass0 (pa_cons (pe_ix ix_D (pv 0) pe_int (fun _ _ => rfl)) (pa_cons pe_int (pa_cons (pe_glob rfl T.c_LAST_DAY ⟨_, rfl⟩) pa_nil)))) (pe_one (pe_callG G_is_within hG (hr.mono (by decide)) rfl T.m_is_within T.F_is_within.kp T.b_is_within .nil pass0 (pa_cons (pe_ix ix_D (pv 0) pe_int (fun _ _ => rfl)) (pa_cons pe_int (pa_cons (pe_glob rfl T.c_MOST_PENCE ⟨_, rfl⟩) pa_nil)))))))))
theorem ok_are_prices (T : Tx K mg w) : FnG P w K mg base CX0 3 T.a_are_prices T.d_are_prices ["thing"] (spW (kxt T) w_are_prices) := by
  have G_is_price := ok_is_price (P := P) (base := base) T
  refine mk_okW (kx := kxt T) (k := 2) T.F_are_prices sc_are_prices sem_are_prices (fun _ _ _ _ h => h) (fun cdv A' outer s H E hG hr => ?_)
  have nd : N_are_prices.Nodup := sc_are_prices.nd
  unfold x_are_prices
  simp only [r_xVar, r_xRaw, r_xOp, r_xUn, r_xIsN, r_xNotN, r_xNot, r_xAnd, r_xOr, r_xChain, r_xTest, r_xB, r_xTNot, r_xTAnd, r_xTOr, r_xYes, r_xIf, r_xNil, r_xCons, r_xTup, r_xLst, r_xLstC, r_xLstR, r_xBi, r_xListC, r_xListD, r_xCatC, r_xNoPart, r_xPart, r_xSl, r_xBm, r_xBm0, r_xiSeq, r_xiRng1, r_xiRng2, r_xgName, r_xgsNil, r_xgsCons, r_xgTup, r_xgUnl, r_xsSeq, r_xsNext, r_xsBreak, r_xsCont, r_xsAsg, r_xsRet, r_xsRetN, r_xsDrop, r_xsIf, r_xsPar, r_xsPar3, r_xsFor, r_xsWhile, r_xLc, r_xLcC, r_xCallD, r_xCall, r_xAppend, r_xExtend, r_xClear, r_xReverse, r_xPop, r_xPopAt, r_xInsert, r_xsSetItem, r_xIsi, r_xIsiT, r_xFmt, r_xFs, r_xRevS, r_xRevL, r_xsOpen, r_xFz, r_xiZip, r_xiEnum, r_xInt, r_xStr, r_xBl, r_xNon, r_len0, r_len1, r_xBiK, tTys, List.map_cons, List.map_nil, r_xFld, r_xsFld, r_xsFldAdd, r_xsFldSub, r_xsUnpF, r_xMeth, r_xMake, r_xDict, r_xDict0, r_xDUpd, r_xDGet, r_xsDPut, r_xDInT, r_xDInF, r_xDCopy, r_xiItems, r_xsLock, r_xGDict, r_xGlob, r_xsNever, r_xsAsgT, r_xLcR, r_xIxR, r_xLenO, r_xXf, r_xiRev, r_xLCount, r_xLIndex, r_xsDPar, r_xTupC, r_xCallX, r_xMethX, r_xsRaise, r_xsRaiseF, r_xsTry, r_xIsX, r_xIsXV, r_xIsXT, r_tRefs0, r_tRefs1, r_xMethK, r_xMakeK, r_xMakeX, r_xsAugNT, r_xsAugNF, r_xDictP, r_xMakeKD, r_xMakeKN, r_xDGetD, r_xsSwap, r_xGTIndex, r_xLenSet, r_xGDIn, r_xSplitC, r_xStrO, r_xEqO, r_xIsO, r_xMulC, r_xReprO, r_xsSetItemR, r_xSortSet]
  exact (pss_cons (ps_if (PW.pt (pw_or (pt_not (pt_val (pe_callB call_isiTD (by rfl) T.n_isinstance (by decide +kernel) (pa_cons (pv 0) (pa_cons (pe_tup (pa_cons (pe_bltn (v := .ty "list") (u := .type "list") (by rfl) T.n_list (by decide +kernel) rfl) (pa_cons (pe_bltn (v := .ty "tuple") (u := .type "tuple") (by rfl) T.n_tuple (by decide +kernel) rfl) pa_nil))) pa_nil))))) (pw_or1 (pt_not (pt_val (pe_callB (call_allD rfl) (by rfl) T.n_all (by decide +kernel) (pa_cons (pe_lc (own := [("pair", 1)]) (g := ((xgName 1) : XG).tg (kxt T)) (tt := (xYes : XT).tt (kxt T) W0) rfl nd (pi_seq (pv 0)) (blkOk_by (own := [("pair", 1)]) (N := N_are_prices) (sc := defScope s_are_prices) (by decide +kernel)) (fun _ _ _ _ _ => (pg_name (i := 1) nd rfl (Or.inl rfl))) (fun _ _ _ _ _ => pts_nil) (fun _ _ _ _ _ => (pe_callG G_is_price hG (hr.mono (by decide)) rfl T.m_is_price T.F_is_price.kp T.b_is_price .nil pass0 (pa_cons (pv 1) pa_nil)))) pa_nil))))))) (pss_one (ps_ret pe_bl)) pss_nil)
      (pss_one (ps_ret (pe_callB (call_allD rfl) (by rfl) T.n_all (by decide +kernel) (pa_cons (pe_lc (own := [("ahead", 2), ("pair", 1)]) (g := ((xgTup (xgsCons (xgName 2) (xgsCons (xgName 1) xgsNil))) : XG).tg (kxt T)) (tt := (xYes : XT).tt (kxt T) W0) rfl nd (RZ.pi_zipA (by rfl) T.n_zip (pa_cons (pv 0) (pa_cons (pe_slice sl_D (pv 0) (po_some pe_int) po_none) pa_nil))) (blkOk_by (own := [("ahead", 2), ("pair", 1)]) (N := N_are_prices) (sc := defScope s_are_prices) (by decide +kernel)) (fun _ _ _ _ _ => (pg_tup rfl (pgs_cons (pg_name (i := 2) nd rfl (Or.inl rfl)) (pgs_cons (pg_name (i := 1) nd rfl (Or.inl rfl)) pgs_nil)))) (fun _ _ _ _ _ => pts_nil) (fun _ _ _ _ _ => (pe_cmpR op_ltD (pe_ix ix_D (pv 2) pe_int (fun _ _ => rfl)) (pe_ix ix_D (pv 1) pe_int (fun _ _ => rfl)) (nomark _)))) pa_nil)))))
theorem ok__law_odd (T : Tx K mg w) : FnG P w K mg base CX0 3 T.a__law_odd T.d__law_odd ["_law_left_here"] (spW (kxt T) w__law_odd) := by
  have G__law_pick := ok__law_pick (P := P) (base := base) T
  refine mk_okW (kx := kxt T) (k := 2) T.F__law_odd sc__law_odd sem__law_odd (fun _ _ _ _ h => h) (fun cdv A' outer s H E hG hr => ?_)
  have nd : N__law_odd.Nodup := sc__law_odd.nd
  unfold x__law_odd
  simp only [r_xVar, r_xRaw, r_xOp, r_xUn, r_xIsN, r_xNotN, r_xNot, r_xAnd, r_xOr, r_xChain, r_xTest, r_xB, r_xTNot, r_xTAnd, r_xTOr, r_xYes, r_xIf, r_xNil, r_xCons, r_xTup, r_xLst, r_xLstC, r_xLstR, r_xBi, r_xListC, r_xListD, r_xCatC, r_xNoPart, r_xPart, r_xSl, r_xBm, r_xBm0, r_xiSeq, r_xiRng1, r_xiRng2, r_xgName, r_xgsNil, r_xgsCons, r_xgTup, r_xgUnl, r_xsSeq, r_xsNext, r_xsBreak, r_xsCont, r_xsAsg, r_xsRet, r_xsRetN, r_xsDrop, r_xsIf, r_xsPar, r_xsPar3, r_xsFor, r_xsWhile, r_xLc, r_xLcC, r_xCallD, r_xCall, r_xAppend, r_xExtend, r_xClear, r_xReverse, r_xPop, r_xPopAt, r_xInsert, r_xsSetItem, r_xIsi, r_xIsiT, r_xFmt, r_xFs, r_xRevS, r_xRevL, r_xsOpen, r_xFz, r_xiZip, r_xiEnum, r_xInt, r_xStr, r_xBl, r_xNon, r_len0, r_len1, r_xBiK, tTys, List.map_cons, List.map_nil, r_xFld, r_xsFld, r_xsFldAdd, r_xsFldSub, r_xsUnpF, r_xMeth, r_xMake, r_xDict, r_xDict0, r_xDUpd, r_xDGet, r_xsDPut, r_xDInT, r_xDInF, r_xDCopy, r_xiItems, r_xsLock, r_xGDict, r_xGlob, r_xsNever, r_xsAsgT, r_xLcR, r_xIxR, r_xLenO, r_xXf, r_xiRev, r_xLCount, r_xLIndex, r_xsDPar, r_xTupC, r_xCallX, r_xMethX, r_xsRaise, r_xsRaiseF, r_xsTry, r_xIsX, r_xIsXV, r_xIsXT, r_tRefs0, r_tRefs1, r_xMethK, r_xMakeK, r_xMakeX, r_xsAugNT, r_xsAugNF, r_xDictP, r_xMakeKD, r_xMakeKN, r_xDGetD, r_xsSwap, r_xGTIndex, r_xLenSet, r_xGDIn, r_xSplitC, r_xStrO, r_xEqO, r_xIsO, r_xMulC, r_xReprO, r_xsSetItemR, r_xSortSet]
  exact (pss_cons (ps_set (i := 1) nd rfl (Or.inl rfl) (pe_ix ix_D (pe_lst (pa_cons pe_non (pa_cons pe_bl (pa_cons pe_bl (pa_cons pe_str (pa_cons pe_str (pa_cons pe_int (pa_cons pe_int (pa_cons (pe_un un_negDD pe_int) (pa_cons (pe_op op_powD pe_int pe_int) pa_nil)))))))))) (pe_callG G__law_pick hG (hr.mono (by decide)) rfl T.m__law_pick T.F__law_pick.kp T.b__law_pick .nil pass0 (pa_cons (pv 0) (pa_cons pe_int pa_nil))) (fun _ _ => rfl)))
      (pss_cons (ps_for PassesOwn.never rfl (pi_range1 rfl T.n_range (pa_cons (pe_ix ix_D (pe_lst (pa_cons pe_int (pa_cons pe_int (pa_cons pe_int (pa_cons pe_int (pa_cons pe_int (pa_cons pe_int pa_nil))))))) (pe_callG G__law_pick hG (hr.mono (by decide)) rfl T.m__law_pick T.F__law_pick.kp T.b__law_pick .nil pass0 (pa_cons (pv 0) (pa_cons pe_int pa_nil))) (fun _ _ => rfl)) pa_nil)) (pg_name (i := 2) nd rfl (Or.inl rfl)) (pss_one (ps_set (i := 1) nd rfl (Or.inl rfl) (pe_ifExp (pt_cmpR (op_eqDD (u64 hr)) (pe_callG G__law_pick hG (hr.mono (by decide)) rfl T.m__law_pick T.F__law_pick.kp T.b__law_pick .nil pass0 (pa_cons (pv 0) (pa_cons pe_int pa_nil))) pe_int (nomark _)) (pe_lst (pa_cons (pv 1) pa_nil)) (pe_tup (pa_cons (pv 1) pa_nil))))))
      (pss_one (ps_ret (pv 1)))))
theorem ok__law_bent (T : Tx K mg w) : FnG P w K mg base CX0 4 T.a__law_bent T.d__law_bent ["_law_left_here", "_law_prices_here"] (spW (kxt T) w__law_bent) := by
  have G__law_pick := ok__law_pick (P := P) (base := base) T
  have G__law_odd := ok__law_odd (P := P) (base := base) T
  refine mk_okW (kx := kxt T) (k := 3) T.F__law_bent sc__law_bent sem__law_bent (fun _ _ _ _ h => h) (fun cdv A' outer s H E hG hr => ?_)
  have nd : N__law_bent.Nodup := sc__law_bent.nd
  unfold x__law_bent
  simp only [r_xVar, r_xRaw, r_xOp, r_xUn, r_xIsN, r_xNotN, r_xNot, r_xAnd, r_xOr, r_xChain, r_xTest, r_xB, r_xTNot, r_xTAnd, r_xTOr, r_xYes, r_xIf, r_xNil, r_xCons, r_xTup, r_xLst, r_xLstC, r_xLstR, r_xBi, r_xListC, r_xListD, r_xCatC, r_xNoPart, r_xPart, r_xSl, r_xBm, r_xBm0, r_xiSeq, r_xiRng1, r_xiRng2, r_xgName, r_xgsNil, r_xgsCons, r_xgTup, r_xgUnl, r_xsSeq, r_xsNext, r_xsBreak, r_xsCont, r_xsAsg, r_xsRet, r_xsRetN, r_xsDrop, r_xsIf, r_xsPar, r_xsPar3, r_xsFor, r_xsWhile, r_xLc, r_xLcC, r_xCallD, r_xCall, r_xAppend, r_xExtend, r_xClear, r_xReverse, r_xPop, r_xPopAt, r_xInsert, r_xsSetItem, r_xIsi, r_xIsiT, r_xFmt, r_xFs, r_xRevS, r_xRevL, r_xsOpen, r_xFz, r_xiZip, r_xiEnum, r_xInt, r_xStr, r_xBl, r_xNon, r_len0, r_len1, r_xBiK, tTys, List.map_cons, List.map_nil, r_xFld, r_xsFld, r_xsFldAdd, r_xsFldSub, r_xsUnpF, r_xMeth, r_xMake, r_xDict, r_xDict0, r_xDUpd, r_xDGet, r_xsDPut, r_xDInT, r_xDInF, r_xDCopy, r_xiItems, r_xsLock, r_xGDict, r_xGlob, r_xsNever, r_xsAsgT, r_xLcR, r_xIxR, r_xLenO, r_xXf, r_xiRev, r_xLCount, r_xLIndex, r_xsDPar, r_xTupC, r_xCallX, r_xMethX, r_xsRaise, r_xsRaiseF, r_xsTry, r_xIsX, r_xIsXV, r_xIsXT, r_tRefs0, r_tRefs1, r_xMethK, r_xMakeK, r_xMakeX, r_xsAugNT, r_xsAugNF, r_xDictP, r_xMakeKD, r_xMakeKN, r_xDGetD, r_xsSwap, r_xGTIndex, r_xLenSet, r_xGDIn, r_xSplitC, r_xStrO, r_xEqO, r_xIsO, r_xMulC, r_xReprO, r_xsSetItemR, r_xSortSet]
  exact (pss_cons (ps_par3 (i := 2) (j := 3) (l := 4) (by rfl) nd rfl rfl rfl (by decide) (by decide) (by decide) rfl rfl rfl (pa_cons (pe_callTy call_listF (by rfl) T.n_list (by decide +kernel) (pa_cons (pv 1) pa_nil)) (pa_cons (pe_callG G__law_pick hG (hr.mono (by decide)) rfl T.m__law_pick T.F__law_pick.kp T.b__law_pick .nil pass0 (pa_cons (pv 0) (pa_cons pe_int pa_nil))) (pa_cons (pe_callG G__law_pick hG (hr.mono (by decide)) rfl T.m__law_pick T.F__law_pick.kp T.b__law_pick .nil pass0 (pa_cons (pv 0) (pa_cons (pe_callB (call_max2D rfl) (by rfl) T.n_max (by decide +kernel) (pa_cons pe_int (pa_cons (pe_callB DL.call_lenD (by rfl) T.n_len (by decide +kernel) (pa_cons (pv 1) pa_nil)) pa_nil))) pa_nil))) pa_nil))) (by rfl))
      (pss_cons (ps_if (PW.pt (pw_or (pt_cmpR (op_eqDD (u64 hr)) (pv 2) (pe_lst pa_nil) (nomark _)) (pw_or1 (pt_cmpR (op_eqDD (u64 hr)) (pv 3) pe_int (nomark _))))) (pss_one (ps_ret (pe_ifExp (pt_cmpR (op_eqDD (u64 hr)) (pe_callG G__law_pick hG (hr.mono (by decide)) rfl T.m__law_pick T.F__law_pick.kp T.b__law_pick .nil pass0 (pa_cons (pv 0) (pa_cons pe_int pa_nil))) pe_int (nomark _)) (pe_callG G__law_odd hG (hr.mono (by decide)) rfl T.m__law_odd T.F__law_odd.kp T.b__law_odd .nil pass0 (pa_cons (pv 0) pa_nil)) (pe_op op_addD (pv 2) (pe_lst (pa_cons (pe_callG G__law_odd hG (hr.mono (by decide)) rfl T.m__law_odd T.F__law_odd.kp T.b__law_odd .nil pass0 (pa_cons (pv 0) pa_nil)) pa_nil)))))) pss_nil)
      (pss_cons (ps_asg (pe_ix ix_D (pv 2) (pv 4) (fun _ _ => rfl)) (pg_tup rfl (pgs_cons (pg_name (i := 5) nd rfl (Or.inl rfl)) (pgs_cons (pg_name (i := 6) nd rfl (Or.inl rfl)) pgs_nil))))
      (pss_cons (ps_if (pt_cmpR op_ltD (pv 3) pe_int (nomark _)) (pss_cons (ps_set (i := 7) nd rfl (Or.inl rfl) (pe_lst (pa_cons (pe_op op_addD (pv 5) pe_int) (pa_cons (pe_op op_subD (pv 5) pe_int) (pa_cons (pe_ix ix_D (pe_ix ix_D (pv 2) (pe_op op_subD (pv 4) pe_int) (fun _ _ => rfl)) pe_int (fun _ _ => rfl)) (pa_cons pe_int (pa_cons pe_int (pa_cons (pe_un un_negDD pe_int) (pa_cons pe_bl pa_nil)))))))))
      (pss_one (ps_asg (pe_tup (pa_cons (pe_ix ix_D (pv 7) (pe_callG G__law_pick hG (hr.mono (by decide)) rfl T.m__law_pick T.F__law_pick.kp T.b__law_pick .nil pass0 (pa_cons (pv 0) (pa_cons pe_int pa_nil))) (fun _ _ => rfl)) (pa_cons (pv 6) pa_nil))) (pg_sub (pv 2) (pv 4) set_list)))) (pss_one (ps_if (pt_cmpR op_ltD (pv 3) pe_int (nomark _)) (pss_one (ps_asg (pe_tup (pa_cons (pv 5) (pa_cons (pe_ix ix_D (pe_lst (pa_cons pe_int (pa_cons pe_int (pa_cons (pe_op op_powD pe_int pe_int) (pa_cons (pe_op op_addD (pe_op op_powD pe_int pe_int) pe_int) (pa_cons (pe_un un_negDD (pv 6)) (pa_cons pe_bl pa_nil))))))) (pe_callG G__law_pick hG (hr.mono (by decide)) rfl T.m__law_pick T.F__law_pick.kp T.b__law_pick .nil pass0 (pa_cons (pv 0) (pa_cons pe_int pa_nil))) (fun _ _ => rfl)) pa_nil))) (pg_sub (pv 2) (pv 4) set_list))) (pss_one (ps_if (pt_cmpR (op_eqDD (u64 hr)) (pv 3) pe_int (nomark _)) (pss_cons (ps_set (i := 8) nd rfl (Or.inl rfl) (pe_callG G__law_pick hG (hr.mono (by decide)) rfl T.m__law_pick T.F__law_pick.kp T.b__law_pick .nil pass0 (pa_cons (pv 0) (pa_cons (pe_callB DL.call_lenD (by rfl) T.n_len (by decide +kernel) (pa_cons (pv 2) pa_nil)) pa_nil))))
      (pss_one (ps_asg (pe_tup (pa_cons (pe_ix ix_D (pv 2) (pv 8) (fun _ _ => rfl)) (pa_cons (pe_ix ix_D (pv 2) (pv 4) (fun _ _ => rfl)) pa_nil))) (pg_tup rfl (pgs_cons (pg_sub (pv 2) (pv 4) set_list) (pgs_cons (pg_sub (pv 2) (pv 8) set_list) pgs_nil)))))) (pss_one (ps_if (pt_cmpR (op_eqDD (u64 hr)) (pv 3) pe_int (nomark _)) (pss_one (ps_expr (pe_bm PySem.F.plainAttrs_list PySem.F.slot_list_insert PySem.F.type_list_insert mt_insertD (pv 2) (pa_cons (pv 4) (pa_cons (pe_ix ix_D (pv 2) (pv 4) (fun _ _ => rfl)) pa_nil))))) (pss_one (ps_if (pt_cmpR (op_eqDD (u64 hr)) (pv 3) pe_int (nomark _)) (pss_one (ps_asg (pe_ix ix_D (pe_lst (pa_cons (pe_lst (pa_cons (pv 5) (pa_cons (pv 6) pa_nil))) (pa_cons (pe_tup (pa_cons (pv 5) pa_nil)) (pa_cons (pe_tup (pa_cons (pv 5) (pa_cons (pv 6) (pa_cons pe_int pa_nil)))) (pa_cons (pe_tup (pa_cons (pv 6) (pa_cons (pv 5) pa_nil))) pa_nil))))) (pe_callG G__law_pick hG (hr.mono (by decide)) rfl T.m__law_pick T.F__law_pick.kp T.b__law_pick .nil pass0 (pa_cons (pv 0) (pa_cons pe_int pa_nil))) (fun _ _ => rfl)) (pg_sub (pv 2) (pv 4) set_list))) (pss_one (ps_asg (pe_callG G__law_odd hG (hr.mono (by decide)) rfl T.m__law_odd T.F__law_odd.kp T.b__law_odd .nil pass0 (pa_cons (pv 0) pa_nil)) (pg_sub (pv 2) (pv 4) set_list))))))))))))
      (pss_one (ps_ret (pv 2)))))))
theorem ok__law_is_number (T : Tx K mg w) : FnG P w K mg base CX0 1 T.a__law_is_number T.d__law_is_number ["_law_thing"] (spW (kxt T) w__law_is_number) := by
  refine mk_okW (kx := kxt T) (k := 0) T.F__law_is_number sc__law_is_number sem__law_is_number (fun _ _ _ _ h => h) (fun cdv A' outer s H E hG hr => ?_)
  have nd : N__law_is_number.Nodup := sc__law_is_number.nd
  unfold x__law_is_number
  simp only [r_xVar, r_xRaw, r_xOp, r_xUn, r_xIsN, r_xNotN, r_xNot, r_xAnd, r_xOr, r_xChain, r_xTest, r_xB, r_xTNot, r_xTAnd, r_xTOr, r_xYes, r_xIf, r_xNil, r_xCons, r_xTup, r_xLst, r_xLstC, r_xLstR, r_xBi, r_xListC, r_xListD, r_xCatC, r_xNoPart, r_xPart, r_xSl, r_xBm, r_xBm0, r_xiSeq, r_xiRng1, r_xiRng2, r_xgName, r_xgsNil, r_xgsCons, r_xgTup, r_xgUnl, r_xsSeq, r_xsNext, r_xsBreak, r_xsCont, r_xsAsg, r_xsRet, r_xsRetN, r_xsDrop, r_xsIf, r_xsPar, r_xsPar3, r_xsFor, r_xsWhile, r_xLc, r_xLcC, r_xCallD, r_xCall, r_xAppend, r_xExtend, r_xClear, r_xReverse, r_xPop, r_xPopAt, r_xInsert, r_xsSetItem, r_xIsi, r_xIsiT, r_xFmt, r_xFs, r_xRevS, r_xRevL, r_xsOpen, r_xFz, r_xiZip, r_xiEnum, r_xInt, r_xStr, r_xBl, r_xNon, r_len0, r_len1, r_xBiK, tTys, List.map_cons, List.map_nil, r_xFld, r_xsFld, r_xsFldAdd, r_xsFldSub, r_xsUnpF, r_xMeth, r_xMake, r_xDict, r_xDict0, r_xDUpd, r_xDGet, r_xsDPut, r_xDInT, r_xDInF, r_xDCopy, r_xiItems, r_xsLock, r_xGDict, r_xGlob, r_xsNever, r_xsAsgT, r_xLcR, r_xIxR, r_xLenO, r_xXf, r_xiRev, r_xLCount, r_xLIndex, r_xsDPar, r_xTupC, r_xCallX, r_xMethX, r_xsRaise, r_xsRaiseF, r_xsTry, r_xIsX, r_xIsXV, r_xIsXT, r_tRefs0, r_tRefs1, r_xMethK, r_xMakeK, r_xMakeX, r_xsAugNT, r_xsAugNF, r_xDictP, r_xMakeKD, r_xMakeKN, r_xDGetD, r_xsSwap, r_xGTIndex, r_xLenSet, r_xGDIn, r_xSplitC, r_xStrO, r_xEqO, r_xIsO, r_xMulC, r_xReprO, r_xsSetItemR, r_xSortSet]
  exact (pss_one (ps_ret (pe_and (pe_callB call_isiD (by rfl) T.n_isinstance (by decide +kernel) (pa_cons (pv 0) (pa_cons (pe_bltn (v := .ty "int") (u := .type "int") (by rfl) T.n_int (by decide +kernel) rfl) pa_nil))) (pe_one (pe_not (pe_callB call_isiD (by rfl) T.n_isinstance (by decide +kernel) (pa_cons (pv 0) (pa_cons (pe_bltn (v := .ty "bool") (u := .type "bool") (by rfl) T.n_bool (by decide +kernel) rfl) pa_nil))))))))
theorem ok__law_are_prices (T : Tx K mg w) : FnG P w K mg base CX0 2 T.a__law_are_prices T.d__law_are_prices ["_law_thing"] (spW (kxt T) w__law_are_prices) := by
  have G__law_is_number := ok__law_is_number (P := P) (base := base) T
  refine mk_okW (kx := kxt T) (k := 1) T.F__law_are_prices sc__law_are_prices sem__law_are_prices (fun _ _ _ _ h => h) (fun cdv A' outer s H E hG hr => ?_)
  have nd : N__law_are_prices.Nodup := sc__law_are_prices.nd
  unfold x__law_are_prices
  simp only [r_xVar, r_xRaw, r_xOp, r_xUn, r_xIsN, r_xNotN, r_xNot, r_xAnd, r_xOr, r_xChain, r_xTest, r_xB, r_xTNot, r_xTAnd, r_xTOr, r_xYes, r_xIf, r_xNil, r_xCons, r_xTup, r_xLst, r_xLstC, r_xLstR, r_xBi, r_xListC, r_xListD, r_xCatC, r_xNoPart, r_xPart, r_xSl, r_xBm, r_xBm0, r_xiSeq, r_xiRng1, r_xiRng2, r_xgName, r_xgsNil, r_xgsCons, r_xgTup, r_xgUnl, r_xsSeq, r_xsNext, r_xsBreak, r_xsCont, r_xsAsg, r_xsRet, r_xsRetN, r_xsDrop, r_xsIf, r_xsPar, r_xsPar3, r_xsFor, r_xsWhile, r_xLc, r_xLcC, r_xCallD, r_xCall, r_xAppend, r_xExtend, r_xClear, r_xReverse, r_xPop, r_xPopAt, r_xInsert, r_xsSetItem, r_xIsi, r_xIsiT, r_xFmt, r_xFs, r_xRevS, r_xRevL, r_xsOpen, r_xFz, r_xiZip, r_xiEnum, r_xInt, r_xStr, r_xBl, r_xNon, r_len0, r_len1, r_xBiK, tTys, List.map_cons, List.map_nil, r_xFld, r_xsFld, r_xsFldAdd, r_xsFldSub, r_xsUnpF, r_xMeth, r_xMake, r_xDict, r_xDict0, r_xDUpd, r_xDGet, r_xsDPut, r_xDInT, r_xDInF, r_xDCopy, r_xiItems, r_xsLock, r_xGDict, r_xGlob, r_xsNever, r_xsAsgT, r_xLcR, r_xIxR, r_xLenO, r_xXf, r_xiRev, r_xLCount, r_xLIndex, r_xsDPar, r_xTupC, r_xCallX, r_xMethX, r_xsRaise, r_xsRaiseF, r_xsTry, r_xIsX, r_xIsXV, r_xIsXT, r_tRefs0, r_tRefs1, r_xMethK, r_xMakeK, r_xMakeX, r_xsAugNT, r_xsAugNF, r_xDictP, r_xMakeKD, r_xMakeKN, r_xDGetD, r_xsSwap, r_xGTIndex, r_xLenSet, r_xGDIn, r_xSplitC, r_xStrO, r_xEqO, r_xIsO, r_xMulC, r_xReprO, r_xsSetItemR, r_xSortSet]
  exact (pss_cons (ps_if (pt_not (pt_val (pe_callB call_isiTD (by rfl) T.n_isinstance (by decide +kernel) (pa_cons (pv 0) (pa_cons (pe_tup (pa_cons (pe_bltn (v := .ty "list") (u := .type "list") (by rfl) T.n_list (by decide +kernel) rfl) (pa_cons (pe_bltn (v := .ty "tuple") (u := .type "tuple") (by rfl) T.n_tuple (by decide +kernel) rfl) pa_nil))) pa_nil))))) (pss_one (ps_ret pe_bl)) pss_nil)
      (pss_cons (ps_for PassesOwn.never rfl (pi_seq (pv 0)) (pg_name (i := 1) nd rfl (Or.inl rfl)) (pss_cons (ps_if (PW.pt (pw_or (pt_not (pt_val (pe_callB call_isiD (by rfl) T.n_isinstance (by decide +kernel) (pa_cons (pv 1) (pa_cons (pe_bltn (v := .ty "tuple") (u := .type "tuple") (by rfl) T.n_tuple (by decide +kernel) rfl) pa_nil))))) (pw_or (pt_cmpR (op_neDD (u64 hr)) (pe_callB DL.call_lenD (by rfl) T.n_len (by decide +kernel) (pa_cons (pv 1) pa_nil)) pe_int (nomark _)) (pw_or1 (pt_not (pt_val (pe_callB (call_allD rfl) (by rfl) T.n_all (by decide +kernel) (pa_cons (pe_lc (own := [("_law_part", 2)]) (g := ((xgName 2) : XG).tg (kxt T)) (tt := (xYes : XT).tt (kxt T) W0) rfl nd (pi_seq (pv 1)) (blkOk_by (own := [("_law_part", 2)]) (N := N__law_are_prices) (sc := defScope s__law_are_prices) (by decide +kernel)) (fun _ _ _ _ _ => (pg_name (i := 2) nd rfl (Or.inl rfl))) (fun _ _ _ _ _ => pts_nil) (fun _ _ _ _ _ => (pe_callG G__law_is_number hG (hr.mono (by decide)) rfl T.m__law_is_number T.F__law_is_number.kp T.b__law_is_number .nil pass0 (pa_cons (pv 2) pa_nil)))) pa_nil)))))))) (pss_one (ps_ret pe_bl)) pss_nil)
      (pss_one (ps_if (PW.pt (pw_or (pt_not (pt_chain op_leD op_leD pe_int (pe_ix ix_D (pv 1) pe_int (fun _ _ => rfl)) pe_int)) (pw_or1 (pt_not (pt_chain op_leD op_leD pe_int (pe_ix ix_D (pv 1) pe_int (fun _ _ => rfl)) (pe_op op_powD pe_int pe_int)))))) (pss_one (ps_ret pe_bl)) pss_nil))))
      (pss_cons (ps_setLc (i := 3) (own := [("_law_pair", 1)]) (g := ((xgName 1) : XG).tg (kxt T)) (tt := (xYes : XT).tt (kxt T) W0) rfl nd rfl rfl (sw_true rfl rfl rfl (by decide +kernel)) (pi_seq (pv 0)) (blkOk_by (own := [("_law_pair", 1)]) (N := N__law_are_prices) (sc := defScope s__law_are_prices) (by decide +kernel)) (fun _ _ _ _ _ => (pg_name (i := 1) nd rfl (Or.inl rfl))) (fun _ _ _ _ _ => pts_nil) (fun _ _ _ _ _ => (pe_ix ix_D (pv 1) pe_int (fun _ _ => rfl))))
      (pss_one (ps_ret (pe_cmpR (op_eqDD (u64 hr)) (pv 3) (pe_sortSet rfl (u65 hr) (by rfl) T.n_sorted (by rfl) T.n_set (pv 3)) (nomark _)))))))
theorem ok__law_year_right (T : Tx K mg w) : FnG P w K mg base CX0 4 T.a__law_year_right T.d__law_year_right [] (spW (kxt T) w__law_year_right) := by
  have G_are_prices := ok_are_prices (P := P) (base := base) T
  refine mk_okW (kx := kxt T) (k := 3) T.F__law_year_right sc__law_year_right sem__law_year_right (fun _ _ _ _ h => h) (fun cdv A' outer s H E hG hr => ?_)
  have nd : N__law_year_right.Nodup := sc__law_year_right.nd
  unfold x__law_year_right
  simp only [r_xVar, r_xRaw, r_xOp, r_xUn, r_xIsN, r_xNotN, r_xNot, r_xAnd, r_xOr, r_xChain, r_xTest, r_xB, r_xTNot, r_xTAnd, r_xTOr, r_xYes, r_xIf, r_xNil, r_xCons, r_xTup, r_xLst, r_xLstC, r_xLstR, r_xBi, r_xListC, r_xListD, r_xCatC, r_xNoPart, r_xPart, r_xSl, r_xBm, r_xBm0, r_xiSeq, r_xiRng1, r_xiRng2, r_xgName, r_xgsNil, r_xgsCons, r_xgTup, r_xgUnl, r_xsSeq, r_xsNext, r_xsBreak, r_xsCont, r_xsAsg, r_xsRet, r_xsRetN, r_xsDrop, r_xsIf, r_xsPar, r_xsPar3, r_xsFor, r_xsWhile, r_xLc, r_xLcC, r_xCallD, r_xCall, r_xAppend, r_xExtend, r_xClear, r_xReverse, r_xPop, r_xPopAt, r_xInsert, r_xsSetItem, r_xIsi, r_xIsiT, r_xFmt, r_xFs, r_xRevS, r_xRevL, r_xsOpen, r_xFz, r_xiZip, r_xiEnum, r_xInt, r_xStr, r_xBl, r_xNon, r_len0, r_len1, r_xBiK, tTys, List.map_cons, List.map_nil, r_xFld, r_xsFld, r_xsFldAdd, r_xsFldSub, r_xsUnpF, r_xMeth, r_xMake, r_xDict, r_xDict0, r_xDUpd, r_xDGet, r_xsDPut, r_xDInT, r_xDInF, r_xDCopy, r_xiItems, r_xsLock, r_xGDict, r_xGlob, r_xsNever, r_xsAsgT, r_xLcR, r_xIxR, r_xLenO, r_xXf, r_xiRev, r_xLCount, r_xLIndex, r_xsDPar, r_xTupC, r_xCallX, r_xMethX, r_xsRaise, r_xsRaiseF, r_xsTry, r_xIsX, r_xIsXV, r_xIsXT, r_tRefs0, r_tRefs1, r_xMethK, r_xMakeK, r_xMakeX, r_xsAugNT, r_xsAugNF, r_xDictP, r_xMakeKD, r_xMakeKN, r_xDGetD, r_xsSwap, r_xGTIndex, r_xLenSet, r_xGDIn, r_xSplitC, r_xStrO, r_xEqO, r_xIsO, r_xMulC, r_xReprO, r_xsSetItemR, r_xSortSet]
  exact (pss_cons (ps_setLc (i := 1) (own := [("_law_day", 0)]) (g := ((xgName 0) : XG).tg (kxt T)) (tt := (xYes : XT).tt (kxt T) W0) rfl nd rfl rfl (sw_true rfl rfl rfl (by decide +kernel)) (pi_range1 rfl T.n_range (pa_cons pe_int pa_nil)) (blkOk_by (own := [("_law_day", 0)]) (N := N__law_year_right) (sc := defScope s__law_year_right) (by decide +kernel)) (fun _ _ _ _ _ => (pg_name (i := 0) nd rfl (Or.inl rfl))) (fun _ _ _ _ _ => pts_nil) (fun _ _ _ _ _ => (pe_tup (pa_cons (pv 0) (pa_cons (pe_op op_addD pe_int (pv 0)) pa_nil)))))
      (pss_cons (ps_set (i := 2) nd rfl (Or.inl rfl) (pe_lst (pa_cons (pe_op op_addD (pv 1) (pe_lst (pa_cons (pe_tup (pa_cons pe_int (pa_cons pe_int pa_nil))) pa_nil))) (pa_cons (pe_op op_addD (pe_slice sl_D (pv 1) (po_some pe_int) po_none) (pe_lst (pa_cons (pe_tup (pa_cons pe_int (pa_cons pe_int pa_nil))) pa_nil))) (pa_cons (pe_op op_addD (pe_slice sl_D (pv 1) po_none (po_some (pe_un un_negDD pe_int))) (pe_lst (pa_cons (pe_tup (pa_cons pe_int (pa_cons pe_int pa_nil))) pa_nil))) (pa_cons (pe_op op_addD (pe_slice sl_D (pv 1) po_none (po_some pe_int)) (pe_lst (pa_cons (pe_tup (pa_cons pe_int (pa_cons pe_int pa_nil))) pa_nil))) pa_nil))))))
      (pss_cons (ps_if (PW.pt (pw_or (pt_cmpR op_notBD (pe_callG G_are_prices hG (hr.mono (by decide)) rfl T.m_are_prices T.F_are_prices.kp T.b_are_prices .nil pass0 (pa_cons (pv 1) pa_nil)) pe_bl (nomark _)) (pw_or (pt_cmpR op_notBD (pe_callG G_are_prices hG (hr.mono (by decide)) rfl T.m_are_prices T.F_are_prices.kp T.b_are_prices .nil pass0 (pa_cons (pe_callTy call_tupleD (by rfl) T.n_tuple (by decide +kernel) (pa_cons (pv 1) pa_nil)) pa_nil)) pe_bl (nomark _)) (pw_or1 (pt_cmpR op_notBD (pe_callG G_are_prices hG (hr.mono (by decide)) rfl T.m_are_prices T.F_are_prices.kp T.b_are_prices .nil pass0 (pa_cons (pe_slice sl_D (pv 1) po_none (po_some pe_int)) pa_nil)) pe_bl (nomark _)))))) (pss_one (ps_ret pe_bl)) pss_nil)
      (pss_one (ps_ret (pe_cmpR (op_eqDD (u64 hr)) (pe_lc (own := [("_law_thing", 3)]) (g := ((xgName 3) : XG).tg (kxt T)) (tt := (xYes : XT).tt (kxt T) W0) rfl nd (pi_seq (pv 2)) (blkOk_by (own := [("_law_thing", 3)]) (N := N__law_year_right) (sc := defScope s__law_year_right) (by decide +kernel)) (fun _ _ _ _ _ => (pg_name (i := 3) nd rfl (Or.inl rfl))) (fun _ _ _ _ _ => pts_nil) (fun _ _ _ _ _ => (pe_callG G_are_prices hG (hr.mono (by decide)) rfl T.m_are_prices T.F_are_prices.kp T.b_are_prices .nil pass0 (pa_cons (pv 3) pa_nil)))) (pe_op op_mulD (pe_lst (pa_cons pe_bl pa_nil)) pe_int) (nomark _)))))))
theorem ok_law (T : Tx K mg w) : FnG P w K mg base CX0 5 T.a_law T.d_law ["_law_script"] (spW (kxt T) w_law) := by
  have G__law_left := ok__law_left (P := P) (base := base) T
  have G__law_pick := ok__law_pick (P := P) (base := base) T
  have G__law_prices := ok__law_prices (P := P) (base := base) T
  have G_are_prices := ok_are_prices (P := P) (base := base) T
  have G__law_bent := ok__law_bent (P := P) (base := base) T
  have G__law_are_prices := ok__law_are_prices (P := P) (base := base) T
  have G__law_year_right := ok__law_year_right (P := P) (base := base) T
  refine mk_okW (kx := kxt T) (k := 4) T.F_law sc_law sem_law (fun _ _ _ _ h => h) (fun cdv A' outer s H E hG hr => ?_)
  have nd : N_law.Nodup := sc_law.nd
  unfold x_law
  simp only [r_xVar, r_xRaw, r_xOp, r_xUn, r_xIsN, r_xNotN, r_xNot, r_xAnd, r_xOr, r_xChain, r_xTest, r_xB, r_xTNot, r_xTAnd, r_xTOr, r_xYes, r_xIf, r_xNil, r_xCons, r_xTup, r_xLst, r_xLstC, r_xLstR, r_xBi, r_xListC, r_xListD, r_xCatC, r_xNoPart, r_xPart, r_xSl, r_xBm, r_xBm0, r_xiSeq, r_xiRng1, r_xiRng2, r_xgName, r_xgsNil, r_xgsCons, r_xgTup, r_xgUnl, r_xsSeq, r_xsNext, r_xsBreak, r_xsCont, r_xsAsg, r_xsRet, r_xsRetN, r_xsDrop, r_xsIf, r_xsPar, r_xsPar3, r_xsFor, r_xsWhile, r_xLc, r_xLcC, r_xCallD, r_xCall, r_xAppend, r_xExtend, r_xClear, r_xReverse, r_xPop, r_xPopAt, r_xInsert, r_xsSetItem, r_xIsi, r_xIsiT, r_xFmt, r_xFs, r_xRevS, r_xRevL, r_xsOpen, r_xFz, r_xiZip, r_xiEnum, r_xInt, r_xStr, r_xBl, r_xNon, r_len0, r_len1, r_xBiK, tTys, List.map_cons, List.map_nil, r_xFld, r_xsFld, r_xsFldAdd, r_xsFldSub, r_xsUnpF, r_xMeth, r_xMake, r_xDict, r_xDict0, r_xDUpd, r_xDGet, r_xsDPut, r_xDInT, r_xDInF, r_xDCopy, r_xiItems, r_xsLock, r_xGDict, r_xGlob, r_xsNever, r_xsAsgT, r_xLcR, r_xIxR, r_xLenO, r_xXf, r_xiRev, r_xLCount, r_xLIndex, r_xsDPar, r_xTupC, r_xCallX, r_xMethX, r_xsRaise, r_xsRaiseF, r_xsTry, r_xIsX, r_xIsXV, r_xIsXT, r_tRefs0, r_tRefs1, r_xMethK, r_xMakeK, r_xMakeX, r_xsAugNT, r_xsAugNF, r_xDictP, r_xMakeKD, r_xMakeKN, r_xDGetD, r_xsSwap, r_xGTIndex, r_xLenSet, r_xGDIn, r_xSplitC, r_xStrO, r_xEqO, r_xIsO, r_xMulC, r_xReprO, r_xsSetItemR, r_xSortSet]
  exact (pss_cons (ps_for PassesOwn.never rfl (pi_range1 rfl T.n_range (pa_cons (pe_callB (call_max2D rfl) (by rfl) T.n_max (by decide +kernel) (pa_cons pe_int (pa_cons (pe_callB (call_min2D rfl) (by rfl) T.n_min (by decide +kernel) (pa_cons pe_int (pa_cons (pe_callB DL.call_lenD (by rfl) T.n_len (by decide +kernel) (pa_cons (pv 0) pa_nil)) pa_nil))) pa_nil))) pa_nil)) (pg_name (i := 1) nd rfl (Or.inl rfl)) (pss_cons (ps_set (i := 2) nd rfl (Or.inl rfl) (pe_callG G__law_left hG (hr.mono (by decide)) rfl T.m__law_left T.F__law_left.kp T.b__law_left .nil pass0 (pa_cons (pv 0) (pa_cons (pv 1) pa_nil))))
      (pss_cons (ps_set (i := 3) nd rfl (Or.inl rfl) (pe_and (pe_cmpR (op_eqDD (u64 hr)) (pv 1) pe_int (nomark _)) (pe_one (pe_cmpR (op_eqDD (u64 hr)) (pe_callG G__law_pick hG (hr.mono (by decide)) rfl T.m__law_pick T.F__law_pick.kp T.b__law_pick .nil pass0 (pa_cons (pv 2) (pa_cons pe_int pa_nil))) pe_int (nomark _)))))
      (pss_cons (ps_set (i := 4) nd rfl (Or.inl rfl) (pe_callG G__law_prices hG (hr.mono (by decide)) rfl T.m__law_prices T.F__law_prices.kp T.b__law_prices .nil pass0 (pa_cons (pv 2) (pa_cons (pe_ifExp (pt_val (pv 3)) pe_int (pe_callG G__law_pick hG (hr.mono (by decide)) rfl T.m__law_pick T.F__law_pick.kp T.b__law_pick .nil pass0 (pa_cons (pv 2) (pa_cons pe_int pa_nil)))) pa_nil))))
      (pss_cons (ps_if (PW.pt (pw_or (pt_cmpR op_notBD (pe_callG G_are_prices hG (hr.mono (by decide)) rfl T.m_are_prices T.F_are_prices.kp T.b_are_prices .nil pass0 (pa_cons (pv 4) pa_nil)) pe_bl (nomark _)) (pw_or1 (pt_cmpR op_notBD (pe_callG G_are_prices hG (hr.mono (by decide)) rfl T.m_are_prices T.F_are_prices.kp T.b_are_prices .nil pass0 (pa_cons (pe_callTy call_tupleD (by rfl) T.n_tuple (by decide +kernel) (pa_cons (pv 4) pa_nil)) pa_nil)) pe_bl (nomark _))))) (pss_one (ps_ret pe_bl)) pss_nil)
      (pss_one (ps_for PassesOwn.never rfl (pi_range1 rfl T.n_range (pa_cons pe_int pa_nil)) (pg_name (i := 5) nd rfl (Or.inl rfl)) (pss_cons (ps_set (i := 6) nd rfl (Or.inl rfl) (pe_callG G__law_bent hG (hr.mono (by decide)) rfl T.m__law_bent T.F__law_bent.kp T.b__law_bent .nil pass0 (pa_cons (pv 2) (pa_cons (pv 4) pa_nil))))
      (pss_cons (ps_if (PW.pt (pw_and (pt_val (pe_callB call_isiD (by rfl) T.n_isinstance (by decide +kernel) (pa_cons (pv 6) (pa_cons (pe_bltn (v := .ty "list") (u := .type "list") (by rfl) T.n_list (by decide +kernel) rfl) pa_nil)))) (pw_and1 (pt_cmpR (op_eqDD (u64 hr)) (pe_callG G__law_pick hG (hr.mono (by decide)) rfl T.m__law_pick T.F__law_pick.kp T.b__law_pick .nil pass0 (pa_cons (pv 2) (pa_cons pe_int pa_nil))) pe_int (nomark _))))) (pss_one (ps_set (i := 6) nd rfl (Or.inl rfl) (pe_callTy call_tupleD (by rfl) T.n_tuple (by decide +kernel) (pa_cons (pv 6) pa_nil)))) pss_nil)
      (pss_cons (ps_par (i := 7) (j := 8) (by rfl) nd rfl rfl (by decide) rfl rfl (pa_cons (pe_callB (call_reprD hG (u64 hr)) (by rfl) T.n_repr (by decide +kernel) (pa_cons (pv 6) pa_nil)) (pa_cons (pe_callG G_are_prices hG (hr.mono (by decide)) rfl T.m_are_prices T.F_are_prices.kp T.b_are_prices .nil pass0 (pa_cons (pv 6) pa_nil)) pa_nil)) (by rfl))
      (pss_one (ps_if (PW.pt (pw_or (pt_not (pt_val (pe_callB call_isiD (by rfl) T.n_isinstance (by decide +kernel) (pa_cons (pv 8) (pa_cons (pe_bltn (v := .ty "bool") (u := .type "bool") (by rfl) T.n_bool (by decide +kernel) rfl) pa_nil))))) (pw_or (pt_cmpR (op_neDD (u64 hr)) (pv 8) (pe_callG G__law_are_prices hG (hr.mono (by decide)) rfl T.m__law_are_prices T.F__law_are_prices.kp T.b__law_are_prices .nil pass0 (pa_cons (pv 6) pa_nil)) (nomark _)) (pw_or1 (pt_cmpR (op_neDD (u64 hr)) (pe_callB (call_reprD hG (u64 hr)) (by rfl) T.n_repr (by decide +kernel) (pa_cons (pv 6) pa_nil)) (pv 7) (nomark _)))))) (pss_one (ps_ret pe_bl)) pss_nil))))))))))))
      (pss_one (ps_ret (pe_callG0 G__law_year_right hG (hr.mono (by decide)) rfl T.m__law_year_right T.F__law_year_right.kp T.b__law_year_right .nil pass0))))
end
set_option maxHeartbeats 4000000 in
theorem all_mk {l : PySem.W.OpenLaw} {w : World} {K : PySem.W.Frag} {h : Heap} {mg : Str → Option Value} {fa : Addr} (X : K.In h) (G : h.Ns mainGlobals mg) (hfa : mg "law" = some (.ref fa))
    {od0 an0 : Option Addr} {sl0 : Array (Option Value)} {oc0 kV0 dc0 pm0 cd0 ct0 : Value} {f0 : Addr}
    {od1 an1 : Option Addr} {sl1 : Array (Option Value)} {oc1 kV1 dc1 pm1 cd1 ct1 : Value} {f1 : Addr}
    {od2 an2 : Option Addr} {sl2 : Array (Option Value)} {oc2 kV2 dc2 pm2 cd2 ct2 : Value} {f2 : Addr}
    {od3 an3 : Option Addr} {sl3 : Array (Option Value)} {oc3 kV3 dc3 pm3 cd3 ct3 : Value} {f3 : Addr}
    {od4 an4 : Option Addr} {sl4 : Array (Option Value)} {oc4 kV4 dc4 pm4 cd4 ct4 : Value} {f4 : Addr}
    {od5 an5 : Option Addr} {sl5 : Array (Option Value)} {oc5 kV5 dc5 pm5 cd5 ct5 : Value} {f5 : Addr}
    {od6 an6 : Option Addr} {sl6 : Array (Option Value)} {oc6 kV6 dc6 pm6 cd6 ct6 : Value} {f6 : Addr}
    {od7 an7 : Option Addr} {sl7 : Array (Option Value)} {oc7 kV7 dc7 pm7 cd7 ct7 : Value} {f7 : Addr}
    {od8 an8 : Option Addr} {sl8 : Array (Option Value)} {oc8 kV8 dc8 pm8 cd8 ct8 : Value} {f8 : Addr}
    {od9 an9 : Option Addr} {sl9 : Array (Option Value)} {oc9 kV9 dc9 pm9 cd9 ct9 : Value} {f9 : Addr}
    {od10 an10 : Option Addr} {sl10 : Array (Option Value)} {oc10 kV10 dc10 pm10 cd10 ct10 : Value} {f10 : Addr}
    {od11 an11 : Option Addr} {sl11 : Array (Option Value)} {oc11 kV11 dc11 pm11 cd11 ct11 : Value} {f11 : Addr}
    {od12 an12 : Option Addr} {sl12 : Array (Option Value)} {oc12 kV12 dc12 pm12 cd12 ct12 : Value} {f12 : Addr}
    {t0 : Tok}
    {t1 : Tok}
    (a0 : PySem.W.nsIn K mainGlobals "_law_left" = some (some (.ref f0)))
    (l0 : K.lookup f0 = some ⟨oc0, od0, .func (PySem.W.fnOf "_law_left" "_law_left" (defArgs s__law_left) (defBody s__law_left) (defScope s__law_left) .none kV0 dc0 pm0 an0 cd0 ct0), sl0⟩)
    (c0 : PySem.W.codeIn K cd0 "_law_left" = true)
    (k0 : PySem.W.keepIn K (.ref f0) = true)
    (a1 : PySem.W.nsIn K mainGlobals "_law_mix" = some (some (.ref f1)))
    (l1 : K.lookup f1 = some ⟨oc1, od1, .func (PySem.W.fnOf "_law_mix" "_law_mix" (defArgs s__law_mix) (defBody s__law_mix) (defScope s__law_mix) .none kV1 dc1 pm1 an1 cd1 ct1), sl1⟩)
    (c1 : PySem.W.codeIn K cd1 "_law_mix" = true)
    (k1 : PySem.W.keepIn K (.ref f1) = true)
    (a2 : PySem.W.nsIn K mainGlobals "_law_pick" = some (some (.ref f2)))
    (l2 : K.lookup f2 = some ⟨oc2, od2, .func (PySem.W.fnOf "_law_pick" "_law_pick" (defArgs s__law_pick) (defBody s__law_pick) (defScope s__law_pick) .none kV2 dc2 pm2 an2 cd2 ct2), sl2⟩)
    (c2 : PySem.W.codeIn K cd2 "_law_pick" = true)
    (k2 : PySem.W.keepIn K (.ref f2) = true)
    (a3 : PySem.W.nsIn K mainGlobals "_law_prices" = some (some (.ref f3)))
    (l3 : K.lookup f3 = some ⟨oc3, od3, .func (PySem.W.fnOf "_law_prices" "_law_prices" (defArgs s__law_prices) (defBody s__law_prices) (defScope s__law_prices) .none kV3 dc3 pm3 an3 cd3 ct3), sl3⟩)
    (c3 : PySem.W.codeIn K cd3 "_law_prices" = true)
    (k3 : PySem.W.keepIn K (.ref f3) = true)
    (a4 : PySem.W.nsIn K mainGlobals "is_within" = some (some (.ref f4)))
    (l4 : K.lookup f4 = some ⟨oc4, od4, .func (PySem.W.fnOf "is_within" "is_within" (defArgs s_is_within) (defBody s_is_within) (defScope s_is_within) .none kV4 dc4 pm4 an4 cd4 ct4), sl4⟩)
    (c4 : PySem.W.codeIn K cd4 "is_within" = true)
    (k4 : PySem.W.keepIn K (.ref f4) = true)
    (a5 : PySem.W.nsIn K mainGlobals "is_price" = some (some (.ref f5)))
    (l5 : K.lookup f5 = some ⟨oc5, od5, .func (PySem.W.fnOf "is_price" "is_price" (defArgs s_is_price) (defBody s_is_price) (defScope s_is_price) .none kV5 dc5 pm5 an5 cd5 ct5), sl5⟩)
    (c5 : PySem.W.codeIn K cd5 "is_price" = true)
    (k5 : PySem.W.keepIn K (.ref f5) = true)
    (a6 : PySem.W.nsIn K mainGlobals "are_prices" = some (some (.ref f6)))
    (l6 : K.lookup f6 = some ⟨oc6, od6, .func (PySem.W.fnOf "are_prices" "are_prices" (defArgs s_are_prices) (defBody s_are_prices) (defScope s_are_prices) .none kV6 dc6 pm6 an6 cd6 ct6), sl6⟩)
    (c6 : PySem.W.codeIn K cd6 "are_prices" = true)
    (k6 : PySem.W.keepIn K (.ref f6) = true)
    (a7 : PySem.W.nsIn K mainGlobals "_law_odd" = some (some (.ref f7)))
    (l7 : K.lookup f7 = some ⟨oc7, od7, .func (PySem.W.fnOf "_law_odd" "_law_odd" (defArgs s__law_odd) (defBody s__law_odd) (defScope s__law_odd) .none kV7 dc7 pm7 an7 cd7 ct7), sl7⟩)
    (c7 : PySem.W.codeIn K cd7 "_law_odd" = true)
    (k7 : PySem.W.keepIn K (.ref f7) = true)
    (a8 : PySem.W.nsIn K mainGlobals "_law_bent" = some (some (.ref f8)))
    (l8 : K.lookup f8 = some ⟨oc8, od8, .func (PySem.W.fnOf "_law_bent" "_law_bent" (defArgs s__law_bent) (defBody s__law_bent) (defScope s__law_bent) .none kV8 dc8 pm8 an8 cd8 ct8), sl8⟩)
    (c8 : PySem.W.codeIn K cd8 "_law_bent" = true)
    (k8 : PySem.W.keepIn K (.ref f8) = true)
    (a9 : PySem.W.nsIn K mainGlobals "_law_is_number" = some (some (.ref f9)))
    (l9 : K.lookup f9 = some ⟨oc9, od9, .func (PySem.W.fnOf "_law_is_number" "_law_is_number" (defArgs s__law_is_number) (defBody s__law_is_number) (defScope s__law_is_number) .none kV9 dc9 pm9 an9 cd9 ct9), sl9⟩)
    (c9 : PySem.W.codeIn K cd9 "_law_is_number" = true)
    (k9 : PySem.W.keepIn K (.ref f9) = true)
    (a10 : PySem.W.nsIn K mainGlobals "_law_are_prices" = some (some (.ref f10)))
    (l10 : K.lookup f10 = some ⟨oc10, od10, .func (PySem.W.fnOf "_law_are_prices" "_law_are_prices" (defArgs s__law_are_prices) (defBody s__law_are_prices) (defScope s__law_are_prices) .none kV10 dc10 pm10 an10 cd10 ct10), sl10⟩)
    (c10 : PySem.W.codeIn K cd10 "_law_are_prices" = true)
    (k10 : PySem.W.keepIn K (.ref f10) = true)
    (a11 : PySem.W.nsIn K mainGlobals "_law_year_right" = some (some (.ref f11)))
    (l11 : K.lookup f11 = some ⟨oc11, od11, .func (PySem.W.fnOf "_law_year_right" "_law_year_right" (defArgs s__law_year_right) (defBody s__law_year_right) (defScope s__law_year_right) .none kV11 dc11 pm11 an11 cd11 ct11), sl11⟩)
    (c11 : PySem.W.codeIn K cd11 "_law_year_right" = true)
    (k11 : PySem.W.keepIn K (.ref f11) = true)
    (a12 : PySem.W.nsIn K mainGlobals "law" = some (some (.ref f12)))
    (l12 : K.lookup f12 = some ⟨oc12, od12, .func (PySem.W.fnOf "law" "law" (defArgs s_law) (defBody s_law) (defScope s_law) .none kV12 dc12 pm12 an12 cd12 ct12), sl12⟩)
    (c12 : PySem.W.codeIn K cd12 "law" = true)
    (k12 : PySem.W.keepIn K (.ref f12) = true)
    (z0 : PySem.W.nsIn K mainGlobals "len" = some none)
    (z1 : PySem.W.nsIn K mainGlobals "abs" = some none)
    (z2 : PySem.W.nsIn K mainGlobals "int" = some none)
    (z3 : PySem.W.nsIn K mainGlobals "range" = some none)
    (z4 : PySem.W.nsIn K mainGlobals "isinstance" = some none)
    (z5 : PySem.W.nsIn K mainGlobals "bool" = some none)
    (z6 : PySem.W.nsIn K mainGlobals "tuple" = some none)
    (z7 : PySem.W.nsIn K mainGlobals "list" = some none)
    (z8 : PySem.W.nsIn K mainGlobals "all" = some none)
    (z9 : PySem.W.nsIn K mainGlobals "zip" = some none)
    (z10 : PySem.W.nsIn K mainGlobals "max" = some none)
    (z11 : PySem.W.nsIn K mainGlobals "sorted" = some none)
    (z12 : PySem.W.nsIn K mainGlobals "set" = some none)
    (z13 : PySem.W.nsIn K mainGlobals "min" = some none)
    (z14 : PySem.W.nsIn K mainGlobals "repr" = some none)
    (hg0 : PySem.W.nsIn K mainGlobals "LAST_DAY" = some (some (.int 400 t0)))
    (hg1 : PySem.W.nsIn K mainGlobals "MOST_PENCE" = some (some (.int 1000000 t1))) :
    ∃ fd : FuncData, (∀ (s : Shared) (v : Value), BindsTo s fd ⟨[v], []⟩ [("_law_script", v)]) ∧ ∀ base : Heap, K.In base → base.Ns mainGlobals mg → FnG l.prog w K mg base CX0 5 fa fd ["_law_script"] (spLaw K) := by
  have e := hfa.symm.trans (PySem.W.mg_of X G a12)
  cases e
  have F0 := fun_mk (st := s__law_left) l0 c0 k0
  have b0 := F0.binds (ps := ["_law_script", "_law_k"]) fun _ _ _ _ _ _ us hl => match us, hl with | [_, _], _ => rfl
  have F1 := fun_mk (st := s__law_mix) l1 c1 k1
  have b1 := F1.binds (ps := ["_law_cell", "_law_k"]) fun _ _ _ _ _ _ us hl => match us, hl with | [_, _], _ => rfl
  have F2 := fun_mk (st := s__law_pick) l2 c2 k2
  have b2 := F2.binds (ps := ["_law_left_here", "_law_many"]) fun _ _ _ _ _ _ us hl => match us, hl with | [_, _], _ => rfl
  have F3 := fun_mk (st := s__law_prices) l3 c3 k3
  have b3 := F3.binds (ps := ["_law_left_here", "_law_many"]) fun _ _ _ _ _ _ us hl => match us, hl with | [_, _], _ => rfl
  have F4 := fun_mk (st := s_is_within) l4 c4 k4
  have b4 := F4.binds (ps := ["thing", "least", "most"]) fun _ _ _ _ _ _ us hl => match us, hl with | [_, _, _], _ => rfl
  have F5 := fun_mk (st := s_is_price) l5 c5 k5
  have b5 := F5.binds (ps := ["thing"]) fun _ _ _ _ _ _ us hl => match us, hl with | [_], _ => rfl
  have F6 := fun_mk (st := s_are_prices) l6 c6 k6
  have b6 := F6.binds (ps := ["thing"]) fun _ _ _ _ _ _ us hl => match us, hl with | [_], _ => rfl
  have F7 := fun_mk (st := s__law_odd) l7 c7 k7
  have b7 := F7.binds (ps := ["_law_left_here"]) fun _ _ _ _ _ _ us hl => match us, hl with | [_], _ => rfl
  have F8 := fun_mk (st := s__law_bent) l8 c8 k8
  have b8 := F8.binds (ps := ["_law_left_here", "_law_prices_here"]) fun _ _ _ _ _ _ us hl => match us, hl with | [_, _], _ => rfl
  have F9 := fun_mk (st := s__law_is_number) l9 c9 k9
  have b9 := F9.binds (ps := ["_law_thing"]) fun _ _ _ _ _ _ us hl => match us, hl with | [_], _ => rfl
  have F10 := fun_mk (st := s__law_are_prices) l10 c10 k10
  have b10 := F10.binds (ps := ["_law_thing"]) fun _ _ _ _ _ _ us hl => match us, hl with | [_], _ => rfl
  have F11 := fun_mk (st := s__law_year_right) l11 c11 k11
  have b11 := F11.binds (ps := []) fun _ _ _ _ _ _ us hl => match us, hl with | [], _ => rfl
  have F12 := fun_mk (st := s_law) l12 c12 k12
  have b12 := F12.binds (ps := ["_law_script"]) fun _ _ _ _ _ _ us hl => match us, hl with | [_], _ => rfl
  let T : Tx K mg w := { n_len := PySem.W.mg_none_of X G z0, n_abs := PySem.W.mg_none_of X G z1, n_int := PySem.W.mg_none_of X G z2, n_range := PySem.W.mg_none_of X G z3, n_isinstance := PySem.W.mg_none_of X G z4, n_bool := PySem.W.mg_none_of X G z5, n_tuple := PySem.W.mg_none_of X G z6, n_list := PySem.W.mg_none_of X G z7, n_all := PySem.W.mg_none_of X G z8, n_zip := PySem.W.mg_none_of X G z9, n_max := PySem.W.mg_none_of X G z10, n_sorted := PySem.W.mg_none_of X G z11, n_set := PySem.W.mg_none_of X G z12, n_min := PySem.W.mg_none_of X G z13, n_repr := PySem.W.mg_none_of X G z14, k_LAST_DAY := t0, c_LAST_DAY := PySem.W.mg_of X G hg0, k_MOST_PENCE := t1, c_MOST_PENCE := PySem.W.mg_of X G hg1, a__law_left := f0, d__law_left := _, F__law_left := F0, b__law_left := b0, m__law_left := PySem.W.mg_of X G a0, a__law_mix := f1, d__law_mix := _, F__law_mix := F1, b__law_mix := b1, m__law_mix := PySem.W.mg_of X G a1, a__law_pick := f2, d__law_pick := _, F__law_pick := F2, b__law_pick := b2, m__law_pick := PySem.W.mg_of X G a2, a__law_prices := f3, d__law_prices := _, F__law_prices := F3, b__law_prices := b3, m__law_prices := PySem.W.mg_of X G a3, a_is_within := f4, d_is_within := _, F_is_within := F4, b_is_within := b4, m_is_within := PySem.W.mg_of X G a4, a_is_price := f5, d_is_price := _, F_is_price := F5, b_is_price := b5, m_is_price := PySem.W.mg_of X G a5, a_are_prices := f6, d_are_prices := _, F_are_prices := F6, b_are_prices := b6, m_are_prices := PySem.W.mg_of X G a6, a__law_odd := f7, d__law_odd := _, F__law_odd := F7, b__law_odd := b7, m__law_odd := PySem.W.mg_of X G a7, a__law_bent := f8, d__law_bent := _, F__law_bent := F8, b__law_bent := b8, m__law_bent := PySem.W.mg_of X G a8, a__law_is_number := f9, d__law_is_number := _, F__law_is_number := F9, b__law_is_number := b9, m__law_is_number := PySem.W.mg_of X G a9, a__law_are_prices := f10, d__law_are_prices := _, F__law_are_prices := F10, b__law_are_prices := b10, m__law_are_prices := PySem.W.mg_of X G a10, a__law_year_right := f11, d__law_year_right := _, F__law_year_right := F11, b__law_year_right := b11, m__law_year_right := PySem.W.mg_of X G a11, a_law := fa, d_law := _, F_law := F12, b_law := b12, m_law := PySem.W.mg_of X G a12 }
  exact ⟨PySem.W.fnOf "law" "law" (defArgs s_law) (defBody s_law) (defScope s_law) .none kV12 dc12 pm12 an12 cd12 ct12, fun s v => .of_eq rfl, fun base _ _ => fng_law (kx := kxt T) (ok_law T)⟩
theorem walk {l : PySem.W.OpenLaw} {q : Program} {loose : List Str} {XP : (Str → Option Value) → Heap → Prop} {YP : World → Heap → Prop} {d : DefRec} {K : Params → PySem.W.Frag} (hn : l.most = some 63) (hdf : d.params.defaults = [])
    (hY : ∀ (w : World) (h : Heap), YP w h → (K w.params).In h)
    (F : ∀ (w : World) (mg : Str → Option Value) (fa : Addr) (h : Heap), (K w.params).In h → h.Ns mainGlobals mg → mg d.name = some (.ref fa) →
      ∃ fd : FuncData, (∀ (s : Shared) (u : Value), BindsTo s fd ⟨[u], []⟩ [("_law_script", u)]) ∧ ∀ base : Heap, (K w.params).In base → base.Ns mainGlobals mg → FnG l.prog w (K w.params) mg base CX0 5 fa fd ["_law_script"] (spLaw (K w.params))) :
    PySem.W.WalkO q loose XP YP l.row.toRowW d [] (fun f vs => PySem.call f vs) :=
  DL.walk_ofG (n := 63) (k := 5) (x := "_law_script") (CX := fun _ => CX0) (sp := fun w => spLaw (K w.params)) hn (by decide) hdf ⟨rfl, by decide, by decide⟩ hY F (fun _ _ a ns hl _ hS => ⟨a, ns, rfl, hl, hS, fun _ => rfl⟩) fun _ _ _ _ _ z => z
end KL
open PySem PySem.W PyProof.Rows in
set_option maxRecDepth 100000 in
set_option maxHeartbeats 0 in
theorem PySem.Challenge.cw_partwares_k28_what_prices_are_holds : PySem.Challenge.rw_partwares_k28_what_prices_are.Holds := by
  w_on; o_law; k_head; (case hw => w_witness2)
  k_fill
  refine KL.walk (l := PySem.Challenge.rw_partwares_k28_what_prices_are) rfl rfl (fun w h Y => PySem.W.kIn_of Y) ?F
  case F =>
    intro w mg fa h KX G hmg
    refine' KL.all_mk KX G hmg ?a0 ?l0 ?c0 ?k0 ?a1 ?l1 ?c1 ?k1 ?a2 ?l2 ?c2 ?k2 ?a3 ?l3 ?c3 ?k3 ?a4 ?l4 ?c4 ?k4 ?a5 ?l5 ?c5 ?k5 ?a6 ?l6 ?c6 ?k6 ?a7 ?l7 ?c7 ?k7 ?a8 ?l8 ?c8 ?k8 ?a9 ?l9 ?c9 ?k9 ?a10 ?l10 ?c10 ?k10 ?a11 ?l11 ?c11 ?k11 ?a12 ?l12 ?c12 ?k12 ?z0 ?z1 ?z2 ?z3 ?z4 ?z5 ?z6 ?z7 ?z8 ?z9 ?z10 ?z11 ?z12 ?z13 ?z14 ?hg0 ?hg1
    (case a0 => k_is)
    (case l0 => k_is)
    (case c0 => k_is)
    (case k0 => k_is)
    (case a1 => k_is)
    (case l1 => k_is)
    (case c1 => k_is)
    (case k1 => k_is)
    (case a2 => k_is)
    (case l2 => k_is)
    (case c2 => k_is)
    (case k2 => k_is)
    (case a3 => k_is)
    (case l3 => k_is)
    (case c3 => k_is)
    (case k3 => k_is)
    (case a4 => k_is)
    (case l4 => k_is)
    (case c4 => k_is)
    (case k4 => k_is)
    (case a5 => k_is)
    (case l5 => k_is)
    (case c5 => k_is)
    (case k5 => k_is)
    (case a6 => k_is)
    (case l6 => k_is)
    (case c6 => k_is)
    (case k6 => k_is)
    (case a7 => k_is)
    (case l7 => k_is)
    (case c7 => k_is)
    (case k7 => k_is)
    (case a8 => k_is)
    (case l8 => k_is)
    (case c8 => k_is)
    (case k8 => k_is)
    (case a9 => k_is)
    (case l9 => k_is)
    (case c9 => k_is)
    (case k9 => k_is)
    (case a10 => k_is)
    (case l10 => k_is)
    (case c10 => k_is)
    (case k10 => k_is)
    (case a11 => k_is)
    (case l11 => k_is)
    (case c11 => k_is)
    (case k11 => k_is)
    (case a12 => k_is)
    (case l12 => k_is)
    (case c12 => k_is)
    (case k12 => k_is)
    (case z0 => k_is)
    (case z1 => k_is)
    (case z2 => k_is)
    (case z3 => k_is)
    (case z4 => k_is)
    (case z5 => k_is)
    (case z6 => k_is)
    (case z7 => k_is)
    (case z8 => k_is)
    (case z9 => k_is)
    (case z10 => k_is)
    (case z11 => k_is)
    (case z12 => k_is)
    (case z13 => k_is)
    (case z14 => k_is)
    (case hg0 => k_is)
    (case hg1 => k_is)
