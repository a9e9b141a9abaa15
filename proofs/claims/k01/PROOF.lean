import PyProof.Rows.All
import HandS.ForMost
import HandS.ForExc
import HandS.Star
import HandS.Deep
import HandS.ExcInit
import HandS.Wide
import HandS.IsInst
import HandS.TryMany
import HandS.SortInts
import HandS.CallSlots
import PySem.Challenge.RW_spoolbox_k01_checksum_of_a_row
set_option Elab.async false
set_option linter.all false
set_option maxRecDepth 100000
set_option maxHeartbeats 16000000
/-! Pl1: data trees, how a heap bears them, modes, the abstraction of a def's slots. -/
namespace Pl
open PySem PySem.Spec PyProof.Rows L2

abbrev D := PyData
abbrev St := L2.St
inductive Md where | sh | ow | is | bw | bo | tm
  deriving DecidableEq
inductive Res where
  | ok (m : Md) (d : D) | ex (c : Str) (a : Int) | st
def Res.bind : Res → (Md → D → Res) → Res
  | .ok m d, k => k m d
  | .ex c a, _ => .ex c a
  | .st, _ => .st
abbrev PEnv := List (Option (Md × D))

/-! ### a heap bears a tree at a value -/
/-- the script: a list from outside, read alone (its tree is marked by another kind) -/
def scr (ns : List Int) : D := .dict (ns.map fun i => (.int i, .none))
inductive Rp (K : PySem.W.Frag) (H : Hp) : V → D → Prop where
  | non : Rp K H .non .none
  | bl (b : Bool) : Rp K H (.bl b) (.bool b)
  | int (i : Int) : Rp K H (.int i) (.int i)
  | str (x : Str) : Rp K H (.str x) (.str x)
  | lst {a : Addr} {xs : List V} {ds : List D} : H a = some (.lst xs) → xs.length = ds.length → (∀ (i : Nat) v d, xs[i]? = some v → ds[i]? = some d → Rp K H v d) → Rp K H (.ref a) (.list ds)
  | tup {a : Addr} {xs : List V} {ds : List D} : SqT K H a xs → xs.length = ds.length → (∀ (i : Nat) v d, xs[i]? = some v → ds[i]? = some d → Rp K H v d) → Rp K H (.ref a) (.tuple ds)
  | scr {a : Addr} {ns : List Int} : SqL K H a (ns.map V.int) → Rp K H (.ref a) (scr ns)
def RpA (K : PySem.W.Frag) (H : Hp) (xs : List V) (ds : List D) : Prop :=
  xs.length = ds.length ∧ ∀ (i : Nat) v d, xs[i]? = some v → ds[i]? = some d → Rp K H v d

variable {K : PySem.W.Frag} {H H0 H1 H2 H' G G0 : Hp}

theorem Same.sqT {a : Addr} {xs : List V} (e : Same H H') (h : SqT K H a xs) : SqT K H' a xs := by
  rcases h with (h | ⟨o, h⟩) | h
  · exact .inl (.inl (e _ _ h))
  · exact .inl (.inr ⟨o, e _ _ h⟩)
  · exact .inr h
theorem Rp.mono {v : V} {d : D} (h : Rp K H v d) (e : Same H H') : Rp K H' v d := by
  induction h with
  | non => exact .non
  | bl b => exact .bl b
  | int i => exact .int i
  | str x => exact .str x
  | lst h1 h2 _ ih => exact .lst (e _ _ h1) h2 ih
  | tup h1 h2 _ ih => exact .tup (Same.sqT e h1) h2 ih
  | scr h1 => exact .scr (Same.seq e h1)
theorem RpA.mono {xs : List V} {ds : List D} (h : RpA K H xs ds) (e : Same H H') : RpA K H' xs ds :=
  ⟨h.1, fun i v d a b => (h.2 i v d a b).mono e⟩
theorem RpA.lst {a : Addr} {xs : List V} {ds : List D} (h : RpA K H xs ds) (e : H a = some (.lst xs)) : Rp K H (.ref a) (.list ds) := .lst e h.1 h.2
theorem RpA.tup {a : Addr} {xs : List V} {ds : List D} (h : RpA K H xs ds) (e : SqT K H a xs) : Rp K H (.ref a) (.tuple ds) := .tup e h.1 h.2
theorem RpA.nil : RpA K H [] [] := ⟨rfl, fun i v d a _ => by simp at a⟩
theorem RpA.cons {v : V} {d : D} {vs : List V} {ds : List D} (h : Rp K H v d) (t : RpA K H vs ds) : RpA K H (v :: vs) (d :: ds) :=
  ⟨by rw [List.length_cons, List.length_cons, t.1], fun i w e a b => by
    cases i with
    | zero => simp at a b; subst a; subst b; exact h
    | succ i => exact t.2 i w e (by simpa using a) (by simpa using b)⟩
theorem RpA.head {v : V} {d : D} {vs : List V} {ds : List D} (h : RpA K H (v :: vs) (d :: ds)) : Rp K H v d := h.2 0 v d rfl rfl
theorem RpA.tail {v : V} {d : D} {vs : List V} {ds : List D} (h : RpA K H (v :: vs) (d :: ds)) : RpA K H vs ds :=
  ⟨by simpa using h.1, fun i w e a b => h.2 (i + 1) w e (by simpa using a) (by simpa using b)⟩
theorem RpA.get {vs : List V} {ds : List D} {i : Nat} {d : D} (h : RpA K H vs ds) (e : ds[i]? = some d) : ∃ v, vs[i]? = some v ∧ Rp K H v d := by
  have hi : i < vs.length := by
    rw [h.1]
    exact (List.getElem?_eq_some_iff.mp e).1
  exact ⟨vs[i], List.getElem?_eq_getElem hi, h.2 i _ d (List.getElem?_eq_getElem hi) e⟩
theorem RpA.append {vs ws : List V} {ds es : List D} (h : RpA K H vs ds) (t : RpA K H ws es) : RpA K H (vs ++ ws) (ds ++ es) := by
  refine ⟨by rw [List.length_append, List.length_append, h.1, t.1], fun i v d a b => ?_⟩
  by_cases hi : i < vs.length
  · rw [List.getElem?_append_left hi] at a
    rw [List.getElem?_append_left (by rw [← h.1]; exact hi)] at b
    exact h.2 i v d a b
  · rw [List.getElem?_append_right (Nat.le_of_not_lt hi)] at a
    rw [List.getElem?_append_right (by rw [← h.1]; exact Nat.le_of_not_lt hi), ← h.1] at b
    exact t.2 _ v d a b
theorem RpA.take {vs : List V} {ds : List D} (h : RpA K H vs ds) (n : Nat) : RpA K H (vs.take n) (ds.take n) := by
  refine ⟨by rw [List.length_take, List.length_take, h.1], fun i v d a b => ?_⟩
  rw [List.getElem?_take] at a b
  by_cases hi : i < n
  · rw [if_pos hi] at a b
    exact h.2 i v d a b
  · rw [if_neg hi] at a
    cases a
theorem RpA.drop {vs : List V} {ds : List D} (h : RpA K H vs ds) (n : Nat) : RpA K H (vs.drop n) (ds.drop n) := by
  refine ⟨by rw [List.length_drop, List.length_drop, h.1], fun i v d a b => ?_⟩
  rw [List.getElem?_drop] at a b
  exact h.2 _ v d a b
theorem RpA.set {vs : List V} {ds : List D} {v : V} {d : D} (h : RpA K H vs ds) (r : Rp K H v d) (n : Nat) : RpA K H (vs.set n v) (ds.set n d) := by
  refine ⟨by rw [List.length_set, List.length_set, h.1], fun i w e a b => ?_⟩
  by_cases hi : n = i
  · subst hi
    by_cases hn : n < vs.length
    · rw [List.getElem?_set_self hn] at a
      rw [List.getElem?_set_self (by rw [← h.1]; exact hn)] at b
      cases a
      cases b
      exact r
    · rw [List.getElem?_eq_none (by rw [List.length_set]; exact Nat.le_of_not_lt hn)] at a
      cases a
  · rw [List.getElem?_set_ne hi] at a b
    exact h.2 i w e a b
theorem RpA.rev {vs : List V} {ds : List D} (h : RpA K H vs ds) : RpA K H vs.reverse ds.reverse := by
  refine ⟨by rw [List.length_reverse, List.length_reverse, h.1], fun i v d a b => ?_⟩
  have hi : i < vs.length := by
    have := (List.getElem?_eq_some_iff.mp a).1
    rwa [List.length_reverse] at this
  rw [List.getElem?_reverse hi] at a
  rw [List.getElem?_reverse (by rw [← h.1]; exact hi), ← h.1] at b
  exact h.2 _ v d a b
theorem RpA.dropLast {vs : List V} {ds : List D} (h : RpA K H vs ds) : RpA K H vs.dropLast ds.dropLast := by
  rw [List.dropLast_eq_take, List.dropLast_eq_take, h.1]
  exact h.take _
theorem dp_all {vs : List V} : ∀ {ds : List D}, vs.length = ds.length → PyData.canLayAll0 ds = true → (∀ (i : Nat) v d, vs[i]? = some v → ds[i]? = some d → d.canLay0 = true → Dp K H v d) → DpAll K H vs ds := by
  induction vs with
  | nil =>
    intro ds h _ _
    cases ds with
    | nil => exact .nil
    | cons _ _ => cases h
  | cons v vs ih =>
    intro ds h c f
    cases ds with
    | nil => cases h
    | cons d ds =>
      rw [PyData.canLayAll0, Bool.and_eq_true] at c
      exact .cons (f 0 v d rfl rfl c.1) (ih (by simpa using h) c.2 fun i w e a b => f (i + 1) w e (by simpa using a) (by simpa using b))
theorem Rp.dp0 {v : V} {d : D} (h : Rp K H v d) : d.canLay0 = true → Dp K H v d := by
  induction h with
  | non => exact fun _ => .non
  | bl b => exact fun _ => .bl b
  | int i => exact fun _ => .int i
  | str x => exact fun _ => .str x
  | lst h1 h2 _ ih => exact fun c => .lst (SqL.of h1) (dp_all h2 (by rwa [PyData.canLay0] at c) fun i v d a b => ih i v d a b)
  | tup h1 h2 _ ih => exact fun c => .tup h1 (dp_all h2 (by rwa [PyData.canLay0] at c) fun i v d a b => ih i v d a b)
  | scr h1 => exact fun c => by rw [Pl.scr, PyData.canLay0] at c; cases c
theorem Rp.dp {v : V} {d : D} (h : Rp K H v d) (s : SeqAt.shaped d = true) : Dp K H v d := by
  unfold SeqAt.shaped at s
  rw [Bool.and_eq_true] at s
  exact h.dp0 s.1
theorem Rp.scr_inv {v : V} {kvs : List (D × D)} (h : Rp K H v (.dict kvs)) : ∃ (p : Addr) (ns : List Int), v = .ref p ∧ kvs = ns.map (fun i => (PyData.int i, PyData.none)) ∧ SqL K H p (ns.map V.int) := by
  generalize e : PyData.dict kvs = d at h
  cases h with
  | scr h1 =>
    unfold Pl.scr at e
    cases e
    exact ⟨_, _, rfl, rfl, h1⟩
  | _ => cases e

/-! ### scalars -/
def isSc : D → Bool
  | .none | .bool _ | .int _ | .str _ => true
  | _ => false
theorem Rp.sc {v : V} {d : D} (h : Rp K H v d) (e : isSc d = true) : Rp K H' v d := by
  cases h with
  | non => exact .non
  | bl b => exact .bl b
  | int i => exact .int i
  | str x => exact .str x
  | lst _ _ _ => cases e
  | tup _ _ _ => cases e
  | scr _ => cases e
theorem RpA.sc {vs : List V} {ds : List D} (h : RpA K H vs ds) (e : ds.all isSc = true) : RpA K H' vs ds :=
  ⟨h.1, fun i v d a b => (h.2 i v d a b).sc (List.all_eq_true.mp e d (List.mem_of_getElem? b))⟩

/-! ### parts of heaps -/
/-- what is new in H' since H, over G -/
def nw (H G H' : Hp) : Hp := fun p => match H p with
  | none => H' p
  | some _ => G p
def nul : Hp := fun _ => none
def rm (p : Addr) (H : Hp) : Hp := fun q => if q = p then none else H q
theorem nw_old {p : Addr} {o : HO} (h : H p = some o) : nw H G H' p = G p := by unfold nw; rw [h]
theorem nw_new {p : Addr} (h : H p = none) : nw H G H' p = H' p := by unfold nw; rw [h]
theorem rm_ne {p q : Addr} (h : q ≠ p) : rm p H q = H q := if_neg h
theorem rm_eq {p : Addr} : rm p H p = none := if_pos rfl
theorem same_rm {p : Addr} : Same (rm p H) H := fun q o h => by
  by_cases e : q = p
  · subst e; rw [rm_eq] at h; cases h
  · rwa [rm_ne e] at h
theorem same_nw (g : Same G H) (s : Same H H') : Same (nw H G H') H' := fun p o h => by
  cases e : H p with
  | none => rwa [nw_new e] at h
  | some u => rw [nw_old e] at h; exact s _ _ (g _ _ h)
theorem nw_base (g : Same G H) (s : Same H H') : Same G (nw H G H') := fun p o h => by
  rw [nw_old (g _ _ h)]; exact h
theorem nul_same : Same nul H := fun p o h => by cases h
theorem nw_nul (g : Same G H) : Same (nw H nul H') (nw H G H') := fun p o h => by
  cases e : H p with
  | none => rw [nw_new e] at h ⊢; exact h
  | some u => rw [nw_old e] at h; cases h
/-- the later end -/
theorem nw_up (s : Same H1 H2) : Same (nw H G H1) (nw H G H2) := fun p o h => by
  cases e : H p with
  | none => rw [nw_new e] at h ⊢; exact s _ _ h
  | some u => rw [nw_old e] at h ⊢; exact h
/-- the earlier start -/
theorem nw_dn (g : Same G H) (s : Same H H1) : Same (nw H1 G H2) (nw H G H2) := fun p o h => by
  cases e : H1 p with
  | none =>
    have e0 : H p = none := by
      cases q : H p with
      | none => rfl
      | some u => rw [s _ _ q] at e; cases e
    rw [nw_new e] at h
    rw [nw_new e0]
    exact h
  | some u =>
    rw [nw_old e] at h
    rw [nw_old (g _ _ h)]
    exact h
theorem same_upd {p : Addr} {o : HO} (n : H p = none) : Same H (upd H p o) := fun q u h => by
  rw [upd_ne (ne_of_none h n)]; exact h
/-- a new object: what was new stays away from it -/
theorem nw_rm {p : Addr} {o : HO} (g : Same G H) (s : Same H H1) (n : H1 p = none) : Same (nw H G H1) (rm p (nw H G (upd H1 p o))) := fun q u h => by
  have h1 : H1 q = some u := same_nw g s _ _ h
  have hq : q ≠ p := ne_of_none h1 n
  rw [rm_ne hq]
  exact nw_up (same_upd n) _ _ h
theorem none_of_same {p : Addr} (s : Same H H') (h : H' p = none) : H p = none := by
  cases q : H p with
  | none => rfl
  | some u => rw [s _ _ q] at h; cases h
theorem nw_upd {p : Addr} {o : HO} (s : Same H H1) (n : H1 p = none) : nw H G (upd H1 p o) p = some o := by
  rw [nw_new (none_of_same s n), upd_same]

/-! ### what an expression gives -/
def ExRep (K : PySem.W.Frag) (H0 H G H' : Hp) : Md → V → D → Prop
  | .tm, v, d => Rp K H' v d
  | .bo, v, d => Rp K H0 v d
  | .bw, v, d => ∃ p xs ds, v = .ref p ∧ d = .list ds ∧ H' p = some (.lst xs) ∧ RpA K (nw H G H') xs ds
  | .sh, v, d => Rp K (nw H G H') v d
  | .ow, v, d => ∃ p xs ds, v = .ref p ∧ d = .list ds ∧ H p = none ∧ H' p = some (.lst xs) ∧ RpA K (rm p (nw H G H')) xs ds
  | .is, v, d => Rp K (nw H nul H') v d
theorem ExRep.rp {m : Md} {v : V} {d : D} (b : Same H0 H) (g : Same G H) (s : Same H H') (h : ExRep K H0 H G H' m v d) : Rp K H' v d := by
  cases m with
  | tm => exact h
  | bo => exact Rp.mono h fun p o q => s _ _ (b _ _ q)
  | bw => obtain ⟨p, xs, ds, rfl, rfl, e, r⟩ := h; exact (r.mono (same_nw g s)).lst e
  | sh => exact Rp.mono h (same_nw g s)
  | ow => obtain ⟨p, xs, ds, rfl, rfl, _, e, r⟩ := h; exact ((r.mono same_rm).mono (same_nw g s)).lst e
  | is => exact (Rp.mono h (nw_nul g)).mono (same_nw g s)
theorem rm_mono {p : Addr} (s : Same H H') : Same (rm p H) (rm p H') := fun q o h => by
  by_cases e : q = p
  · subst e; rw [rm_eq] at h; cases h
  · rw [rm_ne e] at h ⊢; exact s _ _ h
theorem ExRep.up {m : Md} {v : V} {d : D} (h : ExRep K H0 H G H1 m v d) (s : Same H1 H2) : ExRep K H0 H G H2 m v d := by
  cases m with
  | tm => exact Rp.mono h s
  | bo => exact h
  | bw => obtain ⟨p, xs, ds, rfl, rfl, e, r⟩ := h; exact ⟨p, xs, ds, rfl, rfl, s _ _ e, r.mono (nw_up s)⟩
  | sh => exact Rp.mono h (nw_up s)
  | ow => obtain ⟨p, xs, ds, rfl, rfl, n, e, r⟩ := h; exact ⟨p, xs, ds, rfl, rfl, n, s _ _ e, r.mono (rm_mono (nw_up s))⟩
  | is => exact Rp.mono h (nw_up s)
theorem ExRep.dn {m : Md} {v : V} {d : D} (h : ExRep K H0 H1 G H2 m v d) (g : Same G H) (s : Same H H1) : ExRep K H0 H G H2 m v d := by
  cases m with
  | tm => exact h
  | bo => exact h
  | bw => obtain ⟨p, xs, ds, rfl, rfl, e, r⟩ := h; exact ⟨p, xs, ds, rfl, rfl, e, r.mono (nw_dn g s)⟩
  | sh => exact Rp.mono h (nw_dn g s)
  | ow => obtain ⟨p, xs, ds, rfl, rfl, n, e, r⟩ := h; exact ⟨p, xs, ds, rfl, rfl, none_of_same s n, e, r.mono (rm_mono (nw_dn g s))⟩
  | is => exact Rp.mono h (nw_dn nul_same s)
/-- a scalar, whatever its mode -/
theorem ExRep.scal {m : Md} {v : V} {d : D} (b : Same H0 H) (g : Same G H) (s : Same H H') (h : ExRep K H0 H G H' m v d) (e : isSc d = true) : ∀ H2 G2 H3 : Hp, ExRep K H0 H2 G2 H3 .sh v d := fun _ _ _ => (h.rp b g s).sc e
/-- may its items be kept -/
def elOk (m : Md) (ds : List D) : Bool := match m with
  | .tm | .bo => ds.all isSc
  | _ => true
theorem ExRep.els {m : Md} {v : V} {ds : List D} (b : Same H0 H) (g : Same G H) (s : Same H H') (h : ExRep K H0 H G H' m v (.list ds)) (e : elOk m ds = true) :
    ∃ p xs, v = .ref p ∧ H' p = some (.lst xs) ∧ RpA K (nw H G H') xs ds := by
  cases m with
  | tm =>
    cases (show Rp K H' v (.list ds) from h) with
    | @lst a xs _ h1 h2 h3 => exact ⟨a, xs, rfl, h1, RpA.sc (H := H') ⟨h2, h3⟩ e⟩
  | bo =>
    cases (show Rp K H0 v (.list ds) from h) with
    | @lst a xs _ h1 h2 h3 => exact ⟨a, xs, rfl, s _ _ (b _ _ h1), RpA.sc (H := H0) ⟨h2, h3⟩ e⟩
  | bw => obtain ⟨p, xs, es, rfl, q, e, r⟩ := h; cases q; exact ⟨p, xs, rfl, e, r⟩
  | sh =>
    cases (show Rp K (nw H G H') v (.list ds) from h) with
    | @lst a xs _ h1 h2 h3 => exact ⟨a, xs, rfl, same_nw g s _ _ h1, h2, h3⟩
  | ow => obtain ⟨p, xs, es, rfl, q, _, e, r⟩ := h; cases q; exact ⟨p, xs, rfl, e, r.mono same_rm⟩
  | is =>
    cases (show Rp K (nw H nul H') v (.list ds) from h) with
    | @lst a xs _ h1 h2 h3 => exact ⟨a, xs, rfl, same_nw g s _ _ (nw_nul g _ _ h1), RpA.mono (H := nw H nul H') ⟨h2, h3⟩ (nw_nul g)⟩
theorem ExRep.elsT {m : Md} {v : V} {ds : List D} (b : Same H0 H) (g : Same G H) (s : Same H H') (h : ExRep K H0 H G H' m v (.tuple ds)) (e : elOk m ds = true) :
    ∃ p xs, v = .ref p ∧ SqT K H' p xs ∧ RpA K (nw H G H') xs ds := by
  cases m with
  | tm =>
    cases (show Rp K H' v (.tuple ds) from h) with
    | @tup a xs _ h1 h2 h3 => exact ⟨a, xs, rfl, h1, RpA.sc (H := H') ⟨h2, h3⟩ e⟩
  | bo =>
    cases (show Rp K H0 v (.tuple ds) from h) with
    | @tup a xs _ h1 h2 h3 => exact ⟨a, xs, rfl, Same.sqT s (Same.sqT b h1), RpA.sc (H := H0) ⟨h2, h3⟩ e⟩
  | bw => obtain ⟨p, xs, es, _, q, _⟩ := h; cases q
  | sh =>
    cases (show Rp K (nw H G H') v (.tuple ds) from h) with
    | @tup a xs _ h1 h2 h3 => exact ⟨a, xs, rfl, Same.sqT (same_nw g s) h1, h2, h3⟩
  | ow => obtain ⟨p, xs, es, _, q, _⟩ := h; cases q
  | is =>
    cases (show Rp K (nw H nul H') v (.tuple ds) from h) with
    | @tup a xs _ h1 h2 h3 => exact ⟨a, xs, rfl, Same.sqT (same_nw g s) (Same.sqT (nw_nul g) h1), RpA.mono (H := nw H nul H') ⟨h2, h3⟩ (nw_nul g)⟩

/-! ### the slots -/
def SlotOk (K : PySem.W.Frag) (H0 G R : Hp) : Md → V → D → Prop
  | .sh, v, d => Rp K G v d
  | .ow, v, d => ∃ p xs ds, v = .ref p ∧ d = .list ds ∧ R p = some (.lst xs) ∧ (∀ q, q ≠ p → R q = none) ∧ RpA K G xs ds
  | .is, v, d => Rp K R v d
  | .bo, v, d => Rp K H0 v d
  | _, _, _ => False
structure Ab (K : PySem.W.Frag) (H0 G0 G : Hp) (R : Nat → Hp) (env : PEnv) (σ : St) (H : Hp) : Prop where
  g0 : Same G0 G
  gH : Same G H
  bH : Same H0 H
  gN : ∀ p o, G p = some o → G0 p = some o ∨ H0 p = none
  rH : ∀ i, Same (R i) H
  rN : ∀ i p o, R i p = some o → G p = none ∧ H0 p = none
  rd : ∀ i j p o, i ≠ j → R i p = some o → R j p = none
  len : env.length = σ.length
  sl : ∀ i m d, env[i]? = some (some (m, d)) → ∃ v, σ[i]? = some (some v) ∧ SlotOk K H0 G (R i) m v d
variable {R : Nat → Hp} {env : PEnv} {σ : St}
theorem Ab.up (a : Ab K H0 G0 G R env σ H) (s : Same H H') : Ab K H0 G0 G R env σ H' :=
  { a with gH := fun p o h => s _ _ (a.gH _ _ h), bH := fun p o h => s _ _ (a.bH _ _ h), rH := fun i p o h => s _ _ (a.rH i _ _ h) }
/-- what is new is kept for good -/
theorem SlotOk.mono {m : Md} {v : V} {d : D} {G' Ri : Hp} (h : SlotOk K H0 G Ri m v d) (s : Same G G') : SlotOk K H0 G' Ri m v d := by
  cases m with
  | sh => exact Rp.mono h s
  | ow => obtain ⟨p, xs, ds, e1, e2, e3, e4, r⟩ := h; exact ⟨p, xs, ds, e1, e2, e3, e4, r.mono s⟩
  | is => exact h
  | bo => exact h
  | tm => exact h
  | bw => exact h
theorem Ab.grow (a : Ab K H0 G0 G R env σ H) (s : Same H H') {G' : Hp} (s1 : Same G G') (s2 : Same G' (nw H G H')) : Ab K H0 G0 G' R env σ H' where
  g0 := fun p o h => s1 _ _ (a.g0 _ _ h)
  gH := fun p o h => same_nw a.gH s _ _ (s2 _ _ h)
  bH := fun p o h => s _ _ (a.bH _ _ h)
  gN := fun p o h => by
    have h2 := s2 _ _ h
    cases e : H p with
    | none => exact .inr (none_of_same a.bH e)
    | some u => rw [nw_old e] at h2; exact a.gN _ _ h2
  rH := fun i p o h => s _ _ (a.rH i _ _ h)
  rN := fun i p o h => by
    obtain ⟨n1, n2⟩ := a.rN i p o h
    refine ⟨?_, n2⟩
    cases q : G' p with
    | none => rfl
    | some u =>
      have h2 := s2 _ _ q
      rw [nw_old (a.rH i _ _ h), n1] at h2
      cases h2
  rd := a.rd
  len := a.len
  sl := fun i m d h => by
    obtain ⟨v, e, r⟩ := a.sl i m d h
    exact ⟨v, e, r.mono s1⟩
def setR (R : Nat → Hp) (i : Nat) (r : Hp) : Nat → Hp := fun j => if j = i then r else R j
theorem setR_same {i : Nat} {r : Hp} : setR R i r i = r := if_pos rfl
theorem setR_ne {i j : Nat} {r : Hp} (h : j ≠ i) : setR R i r j = R j := if_neg h
theorem set_some {α : Type} {l : List α} {i j : Nat} {x y : α} (h : (l.set i x)[j]? = some y) : (j = i ∧ x = y ∧ i < l.length) ∨ (j ≠ i ∧ l[j]? = some y) := by
  by_cases e : i = j
  · subst e
    by_cases hl : i < l.length
    · rw [List.getElem?_set_self hl] at h
      exact .inl ⟨rfl, Option.some.inj h, hl⟩
    · rw [List.getElem?_eq_none (by rw [List.length_set]; exact Nat.le_of_not_lt hl)] at h
      cases h
  · rw [List.getElem?_set_ne e] at h
    exact .inr ⟨fun z => e z.symm, h⟩
/-- a slot gets a value of a new part -/
theorem Ab.put (a : Ab K H0 G0 G R env σ H) (i : Nat) (r : Hp) (v : V) (s : Option (Md × D)) (rH : Same r H) (rN : ∀ p o, r p = some o → G p = none ∧ H0 p = none)
    (rd : ∀ j p o, j ≠ i → R j p = some o → r p = none) (ok : ∀ m d, s = some (m, d) → SlotOk K H0 G r m v d) :
    Ab K H0 G0 G (setR R i r) (env.set i s) (σ.set i (some v)) H where
  g0 := a.g0
  gH := a.gH
  bH := a.bH
  gN := a.gN
  rH := fun j => by
    by_cases e : j = i
    · subst e; rw [setR_same]; exact rH
    · rw [setR_ne e]; exact a.rH j
  rN := fun j p o h => by
    by_cases e : j = i
    · subst e; rw [setR_same] at h; exact rN p o h
    · rw [setR_ne e] at h; exact a.rN j p o h
  rd := fun j k p o n h => by
    by_cases e : j = i
    · subst e
      rw [setR_same] at h
      rw [setR_ne (fun z => n z.symm)]
      cases q : R k p with
      | none => rfl
      | some u => rw [rd k p u (fun z => n z.symm) q] at h; cases h
    · rw [setR_ne e] at h
      by_cases e2 : k = i
      · subst e2; rw [setR_same]; exact rd j p o e h
      · rw [setR_ne e2]; exact a.rd j k p o n h
  len := by rw [List.length_set, List.length_set, a.len]
  sl := fun j m d h => by
    rcases set_some h with ⟨e, e2, hl⟩ | ⟨e, h⟩
    · subst e
      refine ⟨v, List.getElem?_set_self (by rw [← a.len]; exact hl), ?_⟩
      rw [setR_same]
      exact ok m d e2
    · obtain ⟨w, e1, r1⟩ := a.sl j m d h
      refine ⟨w, by rw [List.getElem?_set_ne (Ne.symm e)]; exact e1, ?_⟩
      rw [setR_ne e]
      exact r1
/-- how a slot holds what an expression gave -/
def slMode : Md → D → Option (Md × D)
  | .sh, d => some (.sh, d)
  | .ow, d => some (.ow, d)
  | .is, d => some (.is, d)
  | .bo, d => some (.bo, d)
  | _, d => if isSc d then some (.sh, d) else none
/-- an assignment: x = e -/
theorem Ab.store (a : Ab K H0 G0 G R env σ H) (s : Same H H') {m m' : Md} {v : V} {d d' : D} (r : ExRep K H0 H G H' m v d) (i : Nat) (hm : slMode m d = some (m', d')) :
    ∃ G' R', Same G G' ∧ Same G' (nw H G H') ∧ Ab K H0 G0 G' R' (env.set i (some (m', d'))) (σ.set i (some v)) H' := by
  have plain : Rp K (nw H G H') v d → some (Md.sh, d) = some (m', d') → ∃ G' R', Same G G' ∧ Same G' (nw H G H') ∧ Ab K H0 G0 G' R' (env.set i (some (m', d'))) (σ.set i (some v)) H' := fun r1 e => by
    cases e
    refine ⟨nw H G H', _, nw_base a.gH s, fun _ _ h => h, (a.grow s (nw_base a.gH s) (fun _ _ h => h)).put i nul v _ nul_same (fun p o h => by cases h) (fun j p o _ _ => rfl) fun m2 d2 e => ?_⟩
    cases e
    exact r1
  have fresh : ∀ {p o}, H p = none → nw H nul H' p = some o → G p = none ∧ H0 p = none := fun {p o} hn _ => ⟨none_of_same a.gH hn, none_of_same a.bH hn⟩
  have sc : isSc d = true → (if isSc d then some (Md.sh, d) else none) = some (m', d') → ∃ G' R', Same G G' ∧ Same G' (nw H G H') ∧ Ab K H0 G0 G' R' (env.set i (some (m', d'))) (σ.set i (some v)) H' := fun q e => by
    rw [if_pos q] at e
    exact plain ((r.rp a.bH a.gH s).sc q) e
  cases m with
  | sh => exact plain r hm
  | ow =>
    cases hm
    obtain ⟨p, xs, ds, rfl, rfl, hn, hp, hr⟩ := r
    have hN : ∀ q o, (fun q => if q = p then some (HO.lst xs) else none : Hp) q = some o → q = p := fun q o h => by
      by_cases e : q = p
      · exact e
      · simp only [if_neg e] at h
        cases h
    refine ⟨rm p (nw H G H'), _, fun q o h => ?_, same_rm, (a.grow s (fun q o h => ?_) same_rm).put i (fun q => if q = p then some (.lst xs) else none) (.ref p) _ (fun q o h => ?_) (fun q o h => ?_) (fun j q o _ h => ?_) fun m2 d2 e => ?_⟩
    · rw [rm_ne (ne_of_none (a.gH _ _ h) hn)]
      exact nw_base a.gH s _ _ h
    · rw [rm_ne (ne_of_none (a.gH _ _ h) hn)]
      exact nw_base a.gH s _ _ h
    · have e := hN q o h
      subst e
      simp only [if_true] at h
      rw [← h]
      exact hp
    · have e := hN q o h
      subst e
      exact ⟨rm_eq, none_of_same a.bH hn⟩
    · have e : q ≠ p := ne_of_none (a.rH j _ _ h) hn
      exact if_neg e
    · cases e
      exact ⟨p, xs, ds, rfl, rfl, if_pos rfl, fun q hq => if_neg hq, hr⟩
  | is =>
    cases hm
    have hN : ∀ {p o}, nw H nul H' p = some o → H p = none := fun {p o} h => by
      cases e : H p with
      | none => rfl
      | some u => rw [nw_old e] at h; cases h
    refine ⟨G, _, fun _ _ h => h, nw_base a.gH s, (a.up s).put i (nw H nul H') v _ (same_nw nul_same s) (fun p o h => fresh (hN h) h) (fun j p o _ h => ?_) fun m2 d2 e => ?_⟩
    · rw [nw_old (a.rH j _ _ h)]
      rfl
    · cases e
      exact r
  | bo =>
    cases hm
    refine ⟨G, _, fun _ _ h => h, nw_base a.gH s, (a.up s).put i nul v _ nul_same (fun p o h => by cases h) (fun j p o _ _ => rfl) fun m2 d2 e => ?_⟩
    cases e
    exact r
  | bw =>
    cases q : isSc d with
    | true => exact sc q hm
    | false =>
      have e : (if isSc d then some (Md.sh, d) else none) = some (m', d') := hm
      rw [q] at e
      cases e
  | tm =>
    cases q : isSc d with
    | true => exact sc q hm
    | false =>
      have e : (if isSc d then some (Md.sh, d) else none) = some (m', d') := hm
      rw [q] at e
      cases e
/-- from now on a slot's own things are kept for good -/
theorem Ab.freeze (a : Ab K H0 G0 G R env σ H) {i : Nat} {m : Md} {d : D} (h : env[i]? = some (some (m, d))) (hm : m = .ow ∨ m = .is) :
    ∃ G' R', Ab K H0 G0 G' R' (env.set i (some (.sh, d))) σ H := by
  obtain ⟨v, e, r⟩ := a.sl i m d h
  have hi : i < σ.length := (List.getElem?_eq_some_iff.mp e).1
  have hR : ∀ p o, R i p = some o → G p = none := fun p o h => (a.rN i p o h).1
  have sG : Same G (fun p => match R i p with | some o => some o | none => G p) := fun p o h => by
    cases q : R i p with
    | none => simpa [q] using h
    | some u => rw [hR p u q] at h; cases h
  have sR : Same (R i) (fun p => match R i p with | some o => some o | none => G p) := fun p o h => by simp [h]
  have ok : Rp K (fun p => match R i p with | some o => some o | none => G p) v d := by
    rcases hm with rfl | rfl
    · obtain ⟨p, xs, ds, rfl, rfl, e3, _, r⟩ := r
      exact (r.mono sG).lst (sR _ _ e3)
    · exact Rp.mono r sR
  refine ⟨_, setR R i nul, ⟨fun p o h => sG _ _ (a.g0 _ _ h), fun p o h => ?_, a.bH, fun p o h => ?_, fun j => ?_, fun j p o h => ?_, fun j k p o n h => ?_, by rw [List.length_set, a.len], fun j m2 d2 h2 => ?_⟩⟩
  · cases q : R i p with
    | none => simp only [q] at h; exact a.gH _ _ h
    | some u => simp only [q] at h; rw [← h]; exact a.rH i _ _ q
  · cases q : R i p with
    | none => simp only [q] at h; exact a.gN _ _ h
    | some u => exact .inr (a.rN i p u q).2
  · by_cases e : j = i
    · subst e; rw [setR_same]; exact nul_same
    · rw [setR_ne e]; exact a.rH j
  · by_cases e : j = i
    · subst e; rw [setR_same] at h; cases h
    · rw [setR_ne e] at h
      refine ⟨?_, (a.rN j p o h).2⟩
      have q : R i p = none := a.rd j i p o e h
      simp only [q]
      exact (a.rN j p o h).1
  · by_cases e : j = i
    · subst e; rw [setR_same] at h; cases h
    · rw [setR_ne e] at h
      by_cases e2 : k = i
      · subst e2; rw [setR_same]; rfl
      · rw [setR_ne e2]; exact a.rd j k p o n h
  · rcases set_some h2 with ⟨e1, e2, hl⟩ | ⟨e1, h2⟩
    · subst e1
      cases e2
      exact ⟨v, e, ok⟩
    · obtain ⟨w, e3, r3⟩ := a.sl j m2 d2 h2
      refine ⟨w, e3, ?_⟩
      rw [setR_ne e1]
      exact r3.mono sG
/-- a slot's own list is changed: new items ys, borne by a greater G -/
theorem Ab.change (a : Ab K H0 G0 G R env σ H) {i : Nat} {ds es : List D} (h : env[i]? = some (some (.ow, .list ds))) :
    ∃ p xs, σ[i]? = some (some (.ref p)) ∧ H p = some (.lst xs) ∧ RpA K G xs ds ∧ G p = none ∧
      ∀ ys, RpA K G ys es → Ab K H0 G0 G (setR R i (fun q => if q = p then some (.lst ys) else none)) (env.set i (some (.ow, .list es))) σ (upd H p (.lst ys)) := by
  obtain ⟨v, e, p, xs, ds', rfl, q, e3, e4, r⟩ := a.sl i _ _ h
  cases q
  have hp := a.rN i p _ e3
  have hHp : H p = some (.lst xs) := a.rH i _ _ e3
  refine ⟨p, xs, e, hHp, r, hp.1, fun ys ry => ?_⟩
  have hN : ∀ {q o}, (fun q => if q = p then some (HO.lst ys) else none : Hp) q = some o → q = p := fun {q o} h => by
    by_cases e : q = p
    · exact e
    · simp only [if_neg e] at h
      cases h
  have keep : ∀ {q o}, q ≠ p → H q = some o → upd H p (.lst ys) q = some o := fun {q o} n h => by rw [upd_ne n]; exact h
  refine ⟨a.g0, fun q o h => keep (fun z => ?_) (a.gH _ _ h), fun q o h => keep (fun z => ?_) (a.bH _ _ h), a.gN, fun j => ?_, fun j q o h => ?_, fun j k q o n h => ?_, by rw [List.length_set, a.len], fun j m2 d2 h2 => ?_⟩
  · rw [z, hp.1] at h; cases h
  · rw [z, hp.2] at h; cases h
  · by_cases e5 : j = i
    · subst e5
      rw [setR_same]
      intro q o h
      have e6 := hN h
      subst e6
      simp only [if_true] at h
      rw [upd_same, h]
    · rw [setR_ne e5]
      intro q o h
      refine keep (fun z => ?_) (a.rH j _ _ h)
      rw [z] at h
      rw [a.rd j i p o e5 h] at e3
      cases e3
  · by_cases e5 : j = i
    · subst e5
      rw [setR_same] at h
      have e6 := hN h
      subst e6
      exact hp
    · rw [setR_ne e5] at h
      exact a.rN j q o h
  · by_cases e5 : j = i
    · subst e5
      rw [setR_same] at h
      rw [setR_ne (fun z => n z.symm)]
      have e6 := hN h
      subst e6
      exact a.rd j k _ _ n e3
    · rw [setR_ne e5] at h
      by_cases e6 : k = i
      · subst e6
        rw [setR_same]
        refine if_neg fun z => ?_
        have h3 : R j q = some o := by assumption
        rw [z] at h3
        rw [a.rd j k p o n h3] at e3
        cases e3
      · rw [setR_ne e6]
        exact a.rd j k q o n h
  · rcases set_some h2 with ⟨e1, e2, hl⟩ | ⟨e1, h2⟩
    · subst e1
      cases e2
      refine ⟨.ref p, e, p, ys, es, rfl, rfl, ?_, ?_, ry⟩
      · rw [setR_same]; exact if_pos rfl
      · intro q hq; rw [setR_same]; exact if_neg hq
    · obtain ⟨w, e5, r5⟩ := a.sl j m2 d2 h2
      refine ⟨w, e5, ?_⟩
      rw [setR_ne e1]
      exact r5
end Pl

/-! Pl2: what operators give of trees; readings of expressions by trees. -/
namespace Pl
open PySem PySem.Spec PyProof.Rows L2

/-! ### the operators -/
def int2 (d e : D) (k : Int → Int → Res) : Res := match d, e with
  | .int i, .int j => k i j
  | _, _ => .st
def okI (i : Int) : Res := .ok .sh (.int i)
def okB (b : Bool) : Res := .ok .sh (.bool b)
def okS (s : Str) : Res := .ok .sh (.str s)
def addD (m : Md) (d : D) (m' : Md) (e : D) : Res := match d, e with
  | .int i, .int j => okI (i + j)
  | .str x, .str y => if x.length + y.length ≤ sizeLine then okS (x ++ y) else .st
  | .list xs, .list ys => if elOk m xs = true ∧ elOk m' ys = true ∧ xs.length + ys.length ≤ sizeLine then .ok .ow (.list (xs ++ ys)) else .st
  | .tuple xs, .tuple ys => if elOk m xs = true ∧ elOk m' ys = true ∧ xs ≠ [] ∧ ys ≠ [] ∧ xs.length + ys.length ≤ sizeLine then .ok .sh (.tuple (xs ++ ys)) else .st
  | _, _ => .st
def binD (o : Operator) (m : Md) (d : D) (m' : Md) (e : D) : Res := match o with
  | .Add => addD m d m' e
  | .Sub => int2 d e fun i j => okI (i - j)
  | .Mult => int2 d e fun i j => if (-(2 ^ 64) < i ∧ i < 2 ^ 64) ∨ (-(2 ^ 64) < j ∧ j < 2 ^ 64) then okI (i * j) else .st
  | .FloorDiv => int2 d e fun i j => if 0 < j ∧ j < 2 ^ 64 then okI (i / j) else .st
  | .Mod => int2 d e fun i j => if 0 < j then okI (i % j) else .st
  | .Pow => int2 d e fun i j => if 0 ≤ j ∧ j ≤ 1000000 ∧ i.natAbs < 2 ^ 64 then okI (i ^ j.toNat) else .st
  | .LShift => int2 d e fun i j => if 0 ≤ j ∧ j ≤ 1000000 ∧ i.natAbs < 2 ^ 64 then okI (i * 2 ^ j.toNat) else .st
  | .RShift => int2 d e fun i j => if 0 ≤ j then okI (i / 2 ^ j.toNat) else .st
  | .BitAnd => int2 d e fun i j => okI (Builtin.bitAnd i j)
  | .BitOr => int2 d e fun i j => okI (Builtin.bitOr i j)
  | .BitXor => int2 d e fun i j => okI (Builtin.bitXor i j)
  | _ => .st
def intsOf : List D → Option (List Int)
  | [] => some []
  | .int i :: r => (intsOf r).map (i :: ·)
  | _ :: _ => none
def ltD : D → D → Option Bool
  | .int i, .int j => some (decide (i < j))
  | .str x, .str y => some (decide (x.cps.toList < y.cps.toList))
  | .tuple xs, .tuple ys => match intsOf xs, intsOf ys with
    | some ns, some ms => some (HT.lexLt ns ms)
    | _, _ => none
  | _, _ => none
def leD : D → D → Option Bool
  | .int i, .int j => some (decide (i ≤ j))
  | .str x, .str y => some (!decide (y.cps.toList < x.cps.toList))
  | _, _ => none
def gtD : D → D → Option Bool
  | .int i, .int j => some (decide (j < i))
  | _, _ => none
def geD : D → D → Option Bool
  | .int i, .int j => some (decide (j ≤ i))
  | .str x, .str y => some (!decide (x.cps.toList < y.cps.toList))
  | _, _ => none
def shp (d : D) : Bool := SeqAt.shaped d
def eqD (d e : D) : Option Bool := if shp d = true ∧ shp e = true then some (PyData.eqv d e) else none
def inD (d : D) : D → Option Bool
  | .list ds => if shp d = true ∧ shp (.list ds) = true then some (ds.any fun z => PyData.eqv z d) else none
  | _ => none
def isNon : D → Bool
  | .none => true
  | _ => false
def isD (d : D) : D → Option Bool
  | .none => some (isNon d)
  | _ => none
def cmpD (o : CmpOp) (d e : D) : Option Bool := match o with
  | .Eq => eqD d e
  | .NotEq => (eqD d e).map (!·)
  | .Lt => ltD d e
  | .LtE => leD d e
  | .Gt => gtD d e
  | .GtE => geD d e
  | .In => inD d e
  | .NotIn => (inD d e).map (!·)
  | .Is => isD d e
  | .IsNot => (isD d e).map (!·)
def cmpR (o : CmpOp) (d e : D) : Res := match cmpD o d e with
  | some b => okB b
  | none => .st
def elmM : Md → Md
  | .bo => .bo
  | .tm => .tm
  | _ => .sh
def elm (m : Md) (e : D) : Md := if isSc e = true then .sh else elmM m
def ixD (m : Md) (d : D) (e : D) : Res := match d, e with
  | .list ds, .int i => match atI ds i with
    | some z => .ok (elm m z) z
    | none => .st
  | .tuple ds, .int i => match atI ds i with
    | some z => .ok (elm m z) z
    | none => .st
  | .dict kvs, .int i => match atI kvs i with
    | some (.int z, _) => okI z
    | _ => .st
  | .str z, .int i => if z.length ≤ sizeLine then (match atI z.cps.toList i with
    | some c => okS ⟨#[c]⟩
    | none => .st) else .st
  | _, _ => .st
def cutL {α : Type} (xs : List α) (lo hi : Option Int) : List α := (xs.drop (HT.sIx xs.length 0 lo)).take (HT.sIx xs.length xs.length hi - HT.sIx xs.length 0 lo)

/-! ### readings -/
/-- an end, from where the expression began: H, G -/
def Fin (K : PySem.W.Frag) (mg : Str → Option Value) (W : WX) (σ : St) (H0 H G : Hp) : Res → VK → Prop
  | .ok m d, Q => ∀ v H', Same H H' → ExRep K H0 H G H' m v d → Q v H'
  | .ex c a, _ => ∀ C dd H', mg c = some (.ref C) → Same H H' → H' dd = some (.xd [("at", .int a)]) → W (.ref C) (some dd) σ H'
  | .st, _ => False
def tEv (X : Cx) (H0 G0 : Hp) (W : WX) (f : PEnv → Res) : TE := fun σ H Q => ∃ G R env, Ab X.K H0 G0 G R env σ H ∧ Fin X.K X.mg W σ H0 H G (f env) Q
abbrev EX (X : Cx) (H0 G0 : Hp) (W : WX) (e : Expr) (f : PEnv → Res) : Prop := PE X e (tEv X H0 G0 W f)
theorem pe_imp {X : Cx} {e : Expr} {t t' : TE} (h : PE X e t) (i : ∀ σ H Q, t' σ H Q → t σ H Q) : PE X e t' := ⟨fun pins s σ H Q I q => h.run pins s σ H Q I (i σ H Q q)⟩

variable {X : Cx} {H0 G0 G H H1 H2 : Hp} {W : WX} {σ : St} {Q : VK} {f g : PEnv → Res} {m : Md} {d : D} {v : V}
theorem Fin.here {i : D} (h : Fin X.K X.mg W σ H0 H G (.ok m d) Q) (s : Same H H1) (r : ExRep X.K H0 H G H1 m v d) : Q v H1 := h v H1 s r
theorem Fin.int {i : Int} (h : Fin X.K X.mg W σ H0 H G (okI i) Q) (s : Same H H1) : Q (.int i) H1 := h _ _ s (.int i)
theorem Fin.bl {i : Bool} (h : Fin X.K X.mg W σ H0 H G (okB i) Q) (s : Same H H1) : Q (.bl i) H1 := h _ _ s (.bl i)
theorem Fin.str {i : Str} (h : Fin X.K X.mg W σ H0 H G (okS i) Q) (s : Same H H1) : Q (.str i) H1 := h _ _ s (.str i)
theorem Fin.sc (h : Fin X.K X.mg W σ H0 H G (.ok .sh d) Q) (s : Same H H1) (r : Rp X.K H1 v d) (e : isSc d = true) : Q v H1 := h _ _ s (r.sc e)
theorem Fin.mono {r : Res} {Q' : VK} (h : Fin X.K X.mg W σ H0 H G r Q) (i : ∀ v H', Q v H' → Q' v H') : Fin X.K X.mg W σ H0 H G r Q' := by
  cases r with
  | ok m d => exact fun v H' s e => i v H' (h v H' s e)
  | ex c a => exact h
  | st => exact h
theorem tEv.mono {Q' : VK} (h : tEv X H0 G0 W f σ H Q) (i : ∀ v H', Q v H' → Q' v H') : tEv X H0 G0 W f σ H Q' :=
  let ⟨G, R, env, a, h⟩ := h
  ⟨G, R, env, a, h.mono i⟩
theorem seq1 {k : Md → D → Res} (h : tEv X H0 G0 W (fun env => (f env).bind k) σ H Q) :
    tEv X H0 G0 W f σ H fun x H1 => ∃ G m d, Same H0 H ∧ Same G H ∧ Same H H1 ∧ ExRep X.K H0 H G H1 m x d ∧ Fin X.K X.mg W σ H0 H G (k m d) Q := by
  obtain ⟨G, R, env, a, h⟩ := h
  dsimp only at h
  refine ⟨G, R, env, a, ?_⟩
  cases hf : f env with
  | ok m d =>
    rw [hf] at h
    exact fun x H1 s1 r1 => ⟨G, m, d, a.bH, a.gH, s1, r1, h⟩
  | ex c i => rw [hf] at h; exact h
  | st => rw [hf] at h; exact h
theorem seq2 {k : Md → D → Md → D → Res} (h : tEv X H0 G0 W (fun env => (f env).bind fun m d => (g env).bind fun m' d' => k m d m' d') σ H Q) :
    tEv X H0 G0 W f σ H fun x H1 => tEv X H0 G0 W g σ H1 fun y H2 => ∃ G m d m' d', Same H0 H ∧ Same G H ∧ Same H H2 ∧ ExRep X.K H0 H G H2 m x d ∧ ExRep X.K H0 H G H2 m' y d' ∧ Fin X.K X.mg W σ H0 H G (k m d m' d') Q := by
  obtain ⟨G, R, env, a, h⟩ := h
  dsimp only at h
  refine ⟨G, R, env, a, ?_⟩
  cases hf : f env with
  | ok m d =>
    rw [hf] at h
    refine fun x H1 s1 r1 => ⟨G, R, env, a.up s1, ?_⟩
    cases hg : g env with
    | ok m' d' =>
      simp only [Res.bind, hg] at h
      exact fun y H2 s2 r2 => ⟨G, m, d, m', d', a.bH, a.gH, s1.trans s2, r1.up s2, r2.dn a.gH s1, h⟩
    | ex c i =>
      simp only [Res.bind, hg] at h
      exact fun C dd H' e1 e2 e3 => h C dd H' e1 (s1.trans e2) e3
    | st => simp only [Res.bind, hg] at h; exact h
  | ex c i => rw [hf] at h; exact h
  | st => rw [hf] at h; exact h
theorem Fin.int2 {d e : D} {k : Int → Int → Res} (h : Fin X.K X.mg W σ H0 H G (int2 d e k) Q) : ∃ i j, d = .int i ∧ e = .int j ∧ Fin X.K X.mg W σ H0 H G (k i j) Q := by
  unfold Pl.int2 at h
  split at h
  · exact ⟨_, _, rfl, rfl, h⟩
  · exact h.elim
theorem Rp.int_inv {K : PySem.W.Frag} {i : Int} (h : Rp K H v (.int i)) : v = .int i := by cases h; rfl
theorem Rp.str_inv {K : PySem.W.Frag} {i : Str} (h : Rp K H v (.str i)) : v = .str i := by cases h; rfl
theorem Rp.bl_inv {K : PySem.W.Frag} {i : Bool} (h : Rp K H v (.bool i)) : v = .bl i := by cases h; rfl
theorem Rp.non_inv {K : PySem.W.Frag} (h : Rp K H v .none) : v = .non := by cases h; rfl
theorem Fin.ite {c : Prop} [Decidable c] {r : Res} (h : Fin X.K X.mg W σ H0 H G (if c then r else .st) Q) : c ∧ Fin X.K X.mg W σ H0 H G r Q := by
  by_cases e : c
  · rw [if_pos e] at h; exact ⟨e, h⟩
  · rw [if_neg e] at h; exact h.elim

/-- the name in slot i -/
def rdM (d : D) : Md → Res
  | .sh => .ok .sh d
  | .bo => .ok .bo d
  | .ow => .ok .bw d
  | _ => .ok .tm d
def rdS (env : PEnv) (i : Nat) : Res := match env[i]? with
  | some (some (m, d)) => if isSc d = true then .ok .sh d else rdM d m
  | _ => .st
theorem Ab.rd1 {K : PySem.W.Frag} {R : Nat → Hp} {env : PEnv} {i : Nat} (a : Ab K H0 G0 G R env σ H) {m : Md} {d : D} (h : rdS env i = .ok m d) :
    ∃ v, σ[i]? = some (some v) ∧ ExRep K H0 H G H m v d := by
  unfold rdS at h
  cases e : env[i]? with
  | none => rw [e] at h; cases h
  | some s =>
    cases s with
    | none => rw [e] at h; cases h
    | some p =>
      obtain ⟨m2, d2⟩ := p
      rw [e] at h
      obtain ⟨v, e1, r⟩ := a.sl i m2 d2 e
      have full : Rp K H v d2 := by
        cases m2 with
        | sh => exact Rp.mono r a.gH
        | ow => obtain ⟨p, xs, ds, rfl, rfl, e3, e4, r⟩ := r; exact (r.mono a.gH).lst (a.rH i _ _ e3)
        | is => exact Rp.mono r (a.rH i)
        | bo => exact Rp.mono r a.bH
        | tm => exact r.elim
        | bw => exact r.elim
      refine ⟨v, e1, ?_⟩
      have h : (if isSc d2 = true then Res.ok .sh d2 else rdM d2 m2) = .ok m d := h
      by_cases q : isSc d2 = true
      · rw [if_pos q] at h
        cases h
        exact full.sc q
      · rw [if_neg q] at h
        cases m2 with
        | sh => cases h; exact Rp.mono r (nw_base a.gH (Same.refl H))
        | ow =>
          cases h
          obtain ⟨p, xs, ds, rfl, rfl, e3, e4, r⟩ := r
          exact ⟨p, xs, ds, rfl, rfl, a.rH i _ _ e3, r.mono (nw_base a.gH (Same.refl H))⟩
        | is => cases h; exact full
        | bo => cases h; exact r
        | tm => exact r.elim
        | bw => exact r.elim
theorem ex_var (i : Nat) {x : Str} {pos : Pos} (hN : X.N[i]? = some x) (hv : Vis X.env.scope x) (hd : (x == ("__debug__" : Str)) = false) (hcd : (x == ("__classdict__" : Str)) = false) : EX X H0 G0 W (.Name x pos) (fun env => rdS env i) := by
  refine pe_imp (pe_var hN hv hd hcd) fun σ H Q h => ?_
  obtain ⟨G, R, env, a, h⟩ := h
  dsimp only at h
  cases hf : rdS env i with
  | ok m d =>
    rw [hf] at h
    obtain ⟨v, e1, r⟩ := a.rd1 hf
    exact ⟨v, e1, h v H (Same.refl H) r⟩
  | ex c i =>
    unfold rdS at hf
    split at hf
    · split at hf
      · cases hf
      · unfold rdM at hf
        split at hf <;> cases hf
    · cases hf
  | st => rw [hf] at h; exact h.elim
theorem ex_int {i : Int} {j : Nat} {pos : Pos} : EX X H0 G0 W (.Constant (.int i) j pos) (fun _ => okI i) :=
  pe_imp pe_int fun σ H Q ⟨G, R, env, a, h⟩ => h.int (Same.refl H)
theorem ex_bl {i : Bool} {j : Nat} {pos : Pos} : EX X H0 G0 W (.Constant (.bool i) j pos) (fun _ => okB i) :=
  pe_imp pe_bl fun σ H Q ⟨G, R, env, a, h⟩ => h.bl (Same.refl H)
theorem ex_str {i : Str} {j : Nat} {pos : Pos} : EX X H0 G0 W (.Constant (.str i) j pos) (fun _ => okS i) :=
  pe_imp pe_str fun σ H Q ⟨G, R, env, a, h⟩ => h.str (Same.refl H)
theorem ex_non {j : Nat} {pos : Pos} : EX X H0 G0 W (.Constant .none j pos) (fun _ => .ok .sh .none) :=
  pe_imp pe_non fun σ H Q ⟨G, R, env, a, h⟩ => h _ _ (Same.refl H) .non
/-- a constant of the module -/
theorem ex_glob {x : Str} {u : Value} {pos : Pos} (hg : Gl X x) (hm : X.mg x = some u) (r : RelV v u) (rp : Rp X.K nul v d) (hd : (x == ("__debug__" : Str)) = false) : EX X H0 G0 W (.Name x pos) (fun _ => .ok .sh d) :=
  pe_imp (pe_glob hg hm r hd) fun σ H Q ⟨G, R, env, a, h⟩ => h _ _ (Same.refl H) (Rp.mono rp nul_same)

/-! ### operators -/
section
variable {a b : Expr} {pos : Pos}
abbrev bin2 (f g : PEnv → Res) (k : Md → D → Md → D → Res) : PEnv → Res := fun env => (f env).bind fun m d => (g env).bind fun m' d' => k m d m' d'
theorem ex_op {o : Operator} {r : R2} {k : Md → D → Md → D → Res} (ho : OpR X (binaryOp o) r) (ha : EX X H0 G0 W a f) (hb : EX X H0 G0 W b g)
    (h : ∀ σ H H2 G m d m' d' x y Q, Same H0 H → Same G H → Same H H2 → ExRep X.K H0 H G H2 m x d → ExRep X.K H0 H G H2 m' y d' → Fin X.K X.mg W σ H0 H G (k m d m' d') Q → r x y H2 Q) :
    EX X H0 G0 W (.BinOp a o b pos) (bin2 f g k) := by
  refine pe_imp (pe_op ho ha hb) fun σ H Q q => ?_
  exact (seq2 q).mono fun x H1 q1 => q1.mono fun y H2 ⟨G3, m3, d3, m4, d4, e1, e2, e3, e4, e5, e6⟩ => h _ _ _ _ _ _ _ _ _ _ _ e1 e2 e3 e4 e5 e6
theorem intsE {K : PySem.W.Frag} {x y : V} {m m' : Md} {i j : Int} (b : Same H0 H) (g : Same G H) (s : Same H H2) (r1 : ExRep K H0 H G H2 m x (.int i)) (r2 : ExRep K H0 H G H2 m' y (.int j)) : x = .int i ∧ y = .int j :=
  ⟨(r1.rp b g s).int_inv, (r2.rp b g s).int_inv⟩
theorem ex_bin {o : Operator} (ha : EX X H0 G0 W a f) (hb : EX X H0 G0 W b g) (ho : o ≠ .MatMult ∧ o ≠ .Div) : EX X H0 G0 W (.BinOp a o b pos) (bin2 f g (binD o)) := by
  cases o with
  | Add =>
    refine ex_op (op_add.or (op_add_str.or (op_cat.or op_catT))) ha hb fun σ H H2 G m d m' d' x y Q e1 e2 e3 r1 r2 h => ?_
    replace h : Fin X.K X.mg W σ H0 H G (addD m d m' d') Q := h
    unfold addD at h
    split at h
    · rename_i i j
      obtain ⟨rfl, rfl⟩ := intsE e1 e2 e3 r1 r2
      exact .inl ⟨i, j, rfl, rfl, h.int e3⟩
    · rename_i s t
      obtain ⟨hl, h⟩ := h.ite
      have x1 := (r1.rp e1 e2 e3).str_inv
      have x2 := (r2.rp e1 e2 e3).str_inv
      subst x1 x2
      exact .inr (.inl ⟨s, t, rfl, rfl, hl, h.str e3⟩)
    · rename_i s t
      obtain ⟨⟨h1, h2, hl⟩, h⟩ := h.ite
      obtain ⟨p, xs, rfl, hp, rp⟩ := r1.els e1 e2 e3 h1
      obtain ⟨q, ys, rfl, hq, rq⟩ := r2.els e1 e2 e3 h2
      refine .inr (.inr (.inl ⟨p, q, xs, ys, rfl, rfl, hp, hq, by rw [rp.1, rq.1]; exact hl, fun n hn => ?_⟩))
      exact h _ _ (e3.trans (same_upd hn)) ⟨n, xs ++ ys, _, rfl, rfl, none_of_same e3 hn, upd_same, (rp.append rq).mono (nw_rm e2 e3 hn)⟩
    · rename_i s t
      obtain ⟨⟨h1, h2, h3, h4, hl⟩, h⟩ := h.ite
      obtain ⟨p, xs, rfl, hp, rp⟩ := r1.elsT e1 e2 e3 h1
      obtain ⟨q, ys, rfl, hq, rq⟩ := r2.elsT e1 e2 e3 h2
      have n1 : xs ≠ [] := fun z => h3 (List.eq_nil_of_length_eq_zero (by rw [← rp.1, z]; rfl))
      have n2 : ys ≠ [] := fun z => h4 (List.eq_nil_of_length_eq_zero (by rw [← rq.1, z]; rfl))
      refine .inr (.inr (.inr ⟨p, q, xs, ys, rfl, rfl, hp, hq, n1, by rw [rp.1, rq.1]; exact hl, fun z => absurd z n2, fun _ n hn => ?_⟩))
      exact h _ _ (e3.trans (same_upd hn)) (RpA.tup ((rp.append rq).mono (nw_up (same_upd hn))) (SqT.of (nw_upd e3 hn)))
    · exact h.elim
  | Sub =>
    refine ex_op op_sub ha hb fun σ H H2 G m d m' d' x y Q e1 e2 e3 r1 r2 h => ?_
    obtain ⟨i, j, rfl, rfl, h⟩ := Fin.int2 h
    obtain ⟨rfl, rfl⟩ := intsE e1 e2 e3 r1 r2
    exact ⟨i, j, rfl, rfl, h.int e3⟩
  | Mult =>
    refine ex_op op_mul ha hb fun σ H H2 G m d m' d' x y Q e1 e2 e3 r1 r2 h => ?_
    obtain ⟨i, j, rfl, rfl, h⟩ := Fin.int2 h
    obtain ⟨rfl, rfl⟩ := intsE e1 e2 e3 r1 r2
    obtain ⟨c, h⟩ := h.ite
    exact ⟨i, j, rfl, rfl, c, h.int e3⟩
  | FloorDiv =>
    refine ex_op op_fdivW ha hb fun σ H H2 G m d m' d' x y Q e1 e2 e3 r1 r2 h => ?_
    obtain ⟨i, j, rfl, rfl, h⟩ := Fin.int2 h
    obtain ⟨rfl, rfl⟩ := intsE e1 e2 e3 r1 r2
    obtain ⟨c, h⟩ := h.ite
    exact ⟨i, j, rfl, rfl, wide_div c.1 (b := 64) (by have := c.2; omega) (by decide) (by decide), h.int e3⟩
  | Mod =>
    refine ex_op op_mod ha hb fun σ H H2 G m d m' d' x y Q e1 e2 e3 r1 r2 h => ?_
    obtain ⟨i, j, rfl, rfl, h⟩ := Fin.int2 h
    obtain ⟨rfl, rfl⟩ := intsE e1 e2 e3 r1 r2
    obtain ⟨c, h⟩ := h.ite
    exact ⟨i, j, rfl, rfl, c, h.int e3⟩
  | Pow =>
    refine ex_op op_pow ha hb fun σ H H2 G m d m' d' x y Q e1 e2 e3 r1 r2 h => ?_
    obtain ⟨i, j, rfl, rfl, h⟩ := Fin.int2 h
    obtain ⟨rfl, rfl⟩ := intsE e1 e2 e3 r1 r2
    obtain ⟨c, h⟩ := h.ite
    exact ⟨i, j, rfl, rfl, c, h.int e3⟩
  | LShift =>
    refine ex_op op_shl ha hb fun σ H H2 G m d m' d' x y Q e1 e2 e3 r1 r2 h => ?_
    obtain ⟨i, j, rfl, rfl, h⟩ := Fin.int2 h
    obtain ⟨rfl, rfl⟩ := intsE e1 e2 e3 r1 r2
    obtain ⟨c, h⟩ := h.ite
    exact ⟨i, j, rfl, rfl, c, h.int e3⟩
  | RShift =>
    refine ex_op op_shr ha hb fun σ H H2 G m d m' d' x y Q e1 e2 e3 r1 r2 h => ?_
    obtain ⟨i, j, rfl, rfl, h⟩ := Fin.int2 h
    obtain ⟨rfl, rfl⟩ := intsE e1 e2 e3 r1 r2
    obtain ⟨c, h⟩ := h.ite
    exact ⟨i, j, rfl, rfl, c, h.int e3⟩
  | BitAnd =>
    refine ex_op op_and ha hb fun σ H H2 G m d m' d' x y Q e1 e2 e3 r1 r2 h => ?_
    obtain ⟨i, j, rfl, rfl, h⟩ := Fin.int2 h
    obtain ⟨rfl, rfl⟩ := intsE e1 e2 e3 r1 r2
    exact ⟨i, j, rfl, rfl, h.int e3⟩
  | BitOr =>
    refine ex_op op_or ha hb fun σ H H2 G m d m' d' x y Q e1 e2 e3 r1 r2 h => ?_
    obtain ⟨i, j, rfl, rfl, h⟩ := Fin.int2 h
    obtain ⟨rfl, rfl⟩ := intsE e1 e2 e3 r1 r2
    exact ⟨i, j, rfl, rfl, h.int e3⟩
  | BitXor =>
    refine ex_op op_xor ha hb fun σ H H2 G m d m' d' x y Q e1 e2 e3 r1 r2 h => ?_
    obtain ⟨i, j, rfl, rfl, h⟩ := Fin.int2 h
    obtain ⟨rfl, rfl⟩ := intsE e1 e2 e3 r1 r2
    exact ⟨i, j, rfl, rfl, h.int e3⟩
  | MatMult => exact absurd rfl ho.1
  | Div => exact absurd rfl ho.2
end
end Pl

/-! Pl3: readings of expressions by trees, further: comparisons, tests, items, cuts, displays, calls. -/
namespace Pl
open PySem PySem.Spec PyProof.Rows L2
variable {X : Cx} {H0 G0 G H H1 H2 : Hp} {W : WX} {σ : St} {Q : VK} {f g : PEnv → Res} {m : Md} {d : D} {v : V}
section
variable {a b c e : Expr} {pos : Pos} {es : List Expr}

/-! ### comparisons -/
/-- a comparison's rule, of trees -/
def CR2 (X : Cx) (o : CmpOp) (r : R2) : Prop := ∀ (H : Hp) (x y : V) (d e : D) (k : Bool) (Q : VK), Rp X.K H x d → Rp X.K H y e → cmpD o d e = some k → Q (.bl k) H → r x y H Q
theorem intsOf_rp {K : PySem.W.Frag} : ∀ {ds : List D} {ns : List Int} {xs : List V}, intsOf ds = some ns → RpA K H xs ds → xs = ns.map V.int
  | [], ns, xs, h, r => by
    cases h
    exact List.eq_nil_of_length_eq_zero r.1
  | d :: ds, ns, xs, h, r => by
    cases d with
    | int i =>
      obtain ⟨ms, h1, h2⟩ := Option.map_eq_some_iff.mp (show (intsOf ds).map (i :: ·) = some ns from h)
      subst h2
      cases xs with
      | nil => have := r.1; cases this
      | cons x xs =>
        have h3 := r.head.int_inv
        subst h3
        rw [intsOf_rp h1 r.tail]
        rfl
    | none => cases h
    | bool _ => cases h
    | str _ => cases h
    | list _ => cases h
    | tuple _ => cases h
    | dict _ => cases h
theorem Rp.tup_inv {K : PySem.W.Frag} {ds : List D} (h : Rp K H v (.tuple ds)) : ∃ p xs, v = .ref p ∧ SqT K H p xs ∧ RpA K H xs ds := by
  cases h with
  | @tup p xs _ h1 h2 h3 => exact ⟨p, xs, rfl, h1, h2, h3⟩
theorem Rp.lst_inv {K : PySem.W.Frag} {ds : List D} (h : Rp K H v (.list ds)) : ∃ p xs, v = .ref p ∧ H p = some (.lst xs) ∧ RpA K H xs ds := by
  cases h with
  | @lst p xs _ h1 h2 h3 => exact ⟨p, xs, rfl, h1, h2, h3⟩
theorem isNon_rp {K : PySem.W.Frag} (h : Rp K H v d) : decide (v = .non) = isNon d := by
  cases h <;> rfl
theorem eqD_some {d e : D} {k : Bool} (h : eqD d e = some k) : SeqAt.shaped d = true ∧ SeqAt.shaped e = true ∧ PyData.eqv d e = k := by
  unfold eqD at h
  split at h
  · rename_i c
    exact ⟨c.1, c.2, Option.some.inj h⟩
  · cases h
theorem inD_some {d e : D} {k : Bool} (h : inD d e = some k) : ∃ ds, e = .list ds ∧ SeqAt.shaped d = true ∧ SeqAt.shaped (.list ds) = true ∧ (ds.any fun z => PyData.eqv z d) = k := by
  cases e with
  | list ds =>
    replace h : (if shp d = true ∧ shp (.list ds) = true then some (ds.any fun z => PyData.eqv z d) else none) = some k := h
    by_cases c : shp d = true ∧ shp (.list ds) = true
    · rw [if_pos c] at h
      exact ⟨ds, rfl, c.1, c.2, Option.some.inj h⟩
    · rw [if_neg c] at h
      cases h
  | none => cases h
  | bool _ => cases h
  | int _ => cases h
  | str _ => cases h
  | tuple _ => cases h
  | dict _ => cases h
theorem map_not {o : Option Bool} {k : Bool} (h : o.map (!·) = some k) : ∃ j, o = some j ∧ k = !j := by
  cases o with
  | none => cases h
  | some j => exact ⟨j, rfl, (Option.some.inj h).symm⟩
theorem isD_some {d e : D} {k : Bool} (h : isD d e = some k) : e = .none ∧ k = isNon d := by
  cases e <;> first | (cases h; done) | exact ⟨rfl, (Option.some.inj h).symm⟩
theorem cr_any (hu : X.A.units + 65 < cLine) (o : CmpOp) : ∃ r, OpR X (compareOp o) r ∧ CR2 X o r := by
  cases o with
  | Eq => exact ⟨_, op_eqD (by omega), fun H x y d e k Q rx ry h q => by
      obtain ⟨s1, s2, rfl⟩ := eqD_some h
      exact ⟨d, e, rx.dp s1, ry.dp s2, s1, s2, q⟩⟩
  | NotEq => exact ⟨_, op_neD (by omega), fun H x y d e k Q rx ry h q => by
      obtain ⟨j, h2, rfl⟩ := map_not h
      obtain ⟨s1, s2, rfl⟩ := eqD_some h2
      exact ⟨d, e, rx.dp s1, ry.dp s2, s1, s2, q⟩⟩
  | Lt => exact ⟨_, op_lt.or (op_lt_str.or (op_ltT (by omega))), fun H x y d e k Q rx ry h q => by
      replace h : ltD d e = some k := h
      unfold ltD at h
      split at h
      · cases h; have h1 := rx.int_inv; have h2 := ry.int_inv; subst h1 h2; exact .inl ⟨_, _, rfl, rfl, q⟩
      · cases h; have h1 := rx.str_inv; have h2 := ry.str_inv; subst h1 h2; exact .inr (.inl ⟨_, _, rfl, rfl, q⟩)
      · split at h
        · rename_i i1 i2
          cases h
          obtain ⟨p, xs, rfl, hp, r1⟩ := rx.tup_inv
          obtain ⟨p2, xs2, rfl, hp2, r2⟩ := ry.tup_inv
          rw [intsOf_rp i1 r1] at hp
          rw [intsOf_rp i2 r2] at hp2
          exact .inr (.inr ⟨p, p2, _, _, rfl, rfl, hp, hp2, q⟩)
        · cases h
      · cases h⟩
  | LtE => exact ⟨_, op_le.or op_le_str, fun H x y d e k Q rx ry h q => by
      replace h : leD d e = some k := h
      unfold leD at h
      split at h
      · cases h; have h1 := rx.int_inv; have h2 := ry.int_inv; subst h1 h2; exact .inl ⟨_, _, rfl, rfl, q⟩
      · cases h; have h1 := rx.str_inv; have h2 := ry.str_inv; subst h1 h2; exact .inr ⟨_, _, rfl, rfl, q⟩
      · cases h⟩
  | Gt => exact ⟨_, op_gt, fun H x y d e k Q rx ry h q => by
      replace h : gtD d e = some k := h
      unfold gtD at h
      split at h
      · cases h; have h1 := rx.int_inv; have h2 := ry.int_inv; subst h1 h2; exact ⟨_, _, rfl, rfl, q⟩
      · cases h⟩
  | GtE => exact ⟨_, op_ge.or op_ge_str, fun H x y d e k Q rx ry h q => by
      replace h : geD d e = some k := h
      unfold geD at h
      split at h
      · cases h; have h1 := rx.int_inv; have h2 := ry.int_inv; subst h1 h2; exact .inl ⟨_, _, rfl, rfl, q⟩
      · cases h; have h1 := rx.str_inv; have h2 := ry.str_inv; subst h1 h2; exact .inr ⟨_, _, rfl, rfl, q⟩
      · cases h⟩
  | In => exact ⟨_, op_inD hu, fun H x y d e k Q rx ry h q => by
      obtain ⟨ds, rfl, s1, s2, rfl⟩ := inD_some h
      exact ⟨d, ds, rx.dp s1, ry.dp s2, s1, s2, q⟩⟩
  | NotIn => exact ⟨_, op_notInD hu, fun H x y d e k Q rx ry h q => by
      obtain ⟨j, h2, rfl⟩ := map_not h
      obtain ⟨ds, rfl, s1, s2, rfl⟩ := inD_some h2
      exact ⟨d, ds, rx.dp s1, ry.dp s2, s1, s2, q⟩⟩
  | Is => exact ⟨_, op_isN, fun H x y d e k Q rx ry h q => by
      obtain ⟨rfl, rfl⟩ := isD_some h
      exact ⟨ry.non_inv, by rw [isNon_rp rx]; exact q⟩⟩
  | IsNot => exact ⟨_, op_notN, fun H x y d e k Q rx ry h q => by
      obtain ⟨j, h2, rfl⟩ := map_not h
      obtain ⟨rfl, rfl⟩ := isD_some h2
      exact ⟨ry.non_inv, by rw [isNon_rp rx]; exact q⟩⟩
theorem cmp_step {o : CmpOp} {r : R2} {k : Md → D → Md → D → Res} (cr : CR2 X o r) (hk : ∀ m d m' d', k m d m' d' = cmpR o d d') (q : tEv X H0 G0 W (bin2 f g k) σ H Q) : tOp r (tEv X H0 G0 W f) (tEv X H0 G0 W g) σ H Q :=
  (seq2 q).mono fun x H1 q1 => q1.mono fun y H2 ⟨G, m, d, m', d', e1, e2, e3, r1, r2, h⟩ => by
    rw [hk] at h
    unfold cmpR at h
    split at h
    · rename_i k' hk'
      exact cr _ _ _ _ _ _ _ (r1.rp e1 e2 e3) (r2.rp e1 e2 e3) hk' (h.bl e3)
    · exact h.elim
theorem ex_cmp {o : CmpOp} (hu : X.A.units + 65 < cLine) (ha : EX X H0 G0 W a f) (hb : EX X H0 G0 W b g) (hm : behindInMarks o b = false) : EX X H0 G0 W (.Compare a [o] [b] pos) (bin2 f g fun _ d _ e => cmpR o d e) := by
  obtain ⟨r, ho, cr⟩ := cr_any hu o
  exact pe_imp (pe_cmpR ho ha hb hm) fun σ H Q q => cmp_step cr (fun _ _ _ _ => rfl) q
/-- a test: its reading -/
abbrev TX (X : Cx) (H0 G0 : Hp) (W : WX) (e : Expr) (f : PEnv → Res) : Prop := PT X e (tTest (tEv X H0 G0 W f))
theorem pt_imp {t t' : TT} (h : PT X e t) (i : ∀ σ H Q, t' σ H Q → t σ H Q) : PT X e t' := ⟨fun pins s σ H Q I q => h.run pins s σ H Q I (i σ H Q q)⟩
theorem tx_cmp {o : CmpOp} (hu : X.A.units + 65 < cLine) (ha : EX X H0 G0 W a f) (hb : EX X H0 G0 W b g) (hm : behindInMarks o b = false) : TX X H0 G0 W (.Compare a [o] [b] pos) (bin2 f g fun _ d _ e => cmpR o d e) := by
  obtain ⟨r, ho, cr⟩ := cr_any hu o
  exact pt_imp (pt_cmpR ho ha hb hm) fun σ H Q q => cmp_step cr (fun _ _ _ _ => rfl) q
/-- a < b < c -/
def chR (o : Option Bool) (r : Res) : Res := match o with
  | some true => r
  | some false => okB false
  | none => .st
def chainR (o o' : CmpOp) (f g h : PEnv → Res) : PEnv → Res := fun env => (f env).bind fun _ d => (g env).bind fun _ e => chR (cmpD o d e) ((h env).bind fun _ z => cmpR o' e z)
theorem Fin.up {r : Res} (g : Same G H) (b : Same H0 H) (s : Same H H1) (h : Fin X.K X.mg W σ H0 H G r Q) : Fin X.K X.mg W σ H0 H1 G r Q := by
  cases r with
  | ok m d => exact fun v H' s' r => h v H' (s.trans s') (r.dn g s)
  | ex c a => exact fun C dd H' e1 e2 e3 => h C dd H' e1 (s.trans e2) e3
  | st => exact h
theorem chain_step {o o' : CmpOp} {r r' : R2} {h : PEnv → Res} (cr : CR2 X o r) (cr' : CR2 X o' r') (q : tEv X H0 G0 W (chainR o o' f g h) σ H Q) : tChain r r' (tEv X H0 G0 W f) (tEv X H0 G0 W g) (tEv X H0 G0 W h) σ H Q := by
  obtain ⟨G, R, env, a, q⟩ := q
  unfold chainR at q
  refine ⟨G, R, env, a, ?_⟩
  cases hf : f env with
  | ex c i => rw [hf] at q; exact q
  | st => rw [hf] at q; exact q
  | ok m d =>
    rw [hf] at q
    refine fun x H1 s1 r1 => ⟨G, R, env, a.up s1, ?_⟩
    cases hg : g env with
    | ex c i => simp only [Res.bind, hg] at q; exact fun C dd H' e1 e2 e3 => q C dd H' e1 (s1.trans e2) e3
    | st => simp only [Res.bind, hg] at q; exact q
    | ok m' d' =>
      simp only [Res.bind, hg] at q
      intro y H2 s2 r2
      have x1 : Rp X.K H2 x d := (r1.rp a.bH a.gH s1).mono s2
      have y1 : Rp X.K H2 y d' := r2.rp (a.up s1).bH (a.up s1).gH s2
      cases hk : cmpD o d d' with
      | none => rw [hk] at q; exact q.elim
      | some k =>
        rw [hk] at q
        refine cr _ _ _ _ _ _ _ x1 y1 hk ⟨k, rfl, ?_⟩
        cases k with
        | false => exact iteF (Fin.bl (H := H) (H0 := H0) (G := G) (X := X) (W := W) (σ := σ) q (s1.trans s2))
        | true =>
          refine iteT ⟨G, R, env, (a.up s1).up s2, ?_⟩
          cases hh : h env with
          | ex c i => simp only [hh] at q; exact fun C dd H' e1 e2 e3 => q C dd H' e1 ((s1.trans s2).trans e2) e3
          | st => simp only [hh] at q; exact q
          | ok m3 d3 =>
            simp only [hh] at q
            intro z H3 s3 r3
            unfold cmpR at q
            split at q
            · rename_i k' hk'
              exact cr' _ _ _ _ _ _ _ (y1.mono s3) (r3.rp ((a.up s1).up s2).bH ((a.up s1).up s2).gH s3) hk' (Fin.bl (H := H) (H0 := H0) (G := G) (X := X) (W := W) (σ := σ) q ((s1.trans s2).trans s3))
            · exact q.elim
theorem ex_chain {o o' : CmpOp} {h : PEnv → Res} (hu : X.A.units + 65 < cLine) (ha : EX X H0 G0 W a f) (hb : EX X H0 G0 W b g) (hc : EX X H0 G0 W c h) (hm : lastMarks [o, o'] [b, c] = false) : EX X H0 G0 W (.Compare a [o, o'] [b, c] pos) (chainR o o' f g h) := by
  obtain ⟨r, ho, cr⟩ := cr_any hu o
  obtain ⟨r', ho', cr'⟩ := cr_any hu o'
  exact pe_imp (pe_chain ho ho' ha hb hc hm) fun σ H Q q => chain_step cr cr' q
theorem tx_chain {o o' : CmpOp} {h : PEnv → Res} (hu : X.A.units + 65 < cLine) (ha : EX X H0 G0 W a f) (hb : EX X H0 G0 W b g) (hc : EX X H0 G0 W c h) (hm : lastMarks [o, o'] [b, c] = false) : TX X H0 G0 W (.Compare a [o, o'] [b, c] pos) (chainR o o' f g h) := by
  obtain ⟨r, ho, cr⟩ := cr_any hu o
  obtain ⟨r', ho', cr'⟩ := cr_any hu o'
  exact pt_imp (pt_chain ho ho' ha hb hc hm) fun σ H Q q => chain_step cr cr' q

/-! ### truth, and, or, not -/
def truD : D → Option Bool
  | .none => some false
  | .bool b => some b
  | .int i => some (i != 0)
  | .str y => if y.length ≤ sizeLine then some ((y.length : Int) != 0) else none
  | .list ds => some (!ds.isEmpty)
  | .tuple ds => some (!ds.isEmpty)
  | _ => none
def truR (d : D) : Res := match truD d with
  | some b => okB b
  | none => .st
def notR (d : D) : Res := match d with
  | .bool b => okB (!b)
  | _ => .st
def brR (d : D) (a b : Res) : Res := match d with
  | .bool true => a
  | .bool false => b
  | _ => .st
def andR (f g : PEnv → Res) : PEnv → Res := fun env => (f env).bind fun _ d => brR d (g env) (okB false)
def orR (f g : PEnv → Res) : PEnv → Res := fun env => (f env).bind fun _ d => brR d (okB true) (g env)
def iteR (t f g : PEnv → Res) : PEnv → Res := fun env => (t env).bind fun _ d => brR d (f env) (g env)
abbrev un1 (f : PEnv → Res) (k : Md → D → Res) : PEnv → Res := fun env => (f env).bind k
theorem isEmpty_len {α β : Type} {xs : List α} {ys : List β} (h : xs.length = ys.length) : xs.isEmpty = ys.isEmpty := by
  cases xs <;> cases ys <;> first | rfl | cases h
theorem truD_rp {K : PySem.W.Frag} {k : Bool} (h : truD d = some k) (r : Rp K H v d) : TruV K v H k := by
  cases r with
  | non => exact (Option.some.inj h).symm
  | bl b => exact (Option.some.inj h).symm
  | int i => exact (Option.some.inj h).symm
  | str y =>
    replace h : (if y.length ≤ sizeLine then some ((y.length : Int) != 0) else none) = some k := h
    by_cases c : y.length ≤ sizeLine
    · rw [if_pos c] at h
      exact ⟨c, (Option.some.inj h).symm⟩
    · rw [if_neg c] at h
      cases h
  | @lst p xs ds h1 h2 h3 => exact .inl ⟨xs, SqL.of h1, by rw [isEmpty_len h2]; exact (Option.some.inj h).symm⟩
  | @tup p xs ds h1 h2 h3 => exact .inr (.inl ⟨xs, h1, by rw [isEmpty_len h2]; exact (Option.some.inj h).symm⟩)
  | scr h1 => cases h
theorem tx_tru (ha : EX X H0 G0 W a f) (he : ∀ whole, isTrue a X.env whole = (do let v ← whole; standAt a.pos; holding [v] (truthy v))) : TX X H0 G0 W a (un1 f fun _ d => truR d) := by
  refine pt_imp (pt_truth ha he) fun σ H Q q => ?_
  refine (seq1 q).mono fun x H1 ⟨G, m, d, e1, e2, e3, r, h⟩ => ?_
  unfold truR at h
  split at h
  · rename_i k hk
    obtain ⟨k', e, q⟩ := h.bl e3
    cases e
    exact ⟨_, truD_rp hk (r.rp e1 e2 e3), q⟩
  · exact h.elim
theorem tx_not (ha : TX X H0 G0 W a f) : TX X H0 G0 W (.UnaryOp .Not a pos) (un1 f fun _ d => notR d) := by
  refine pt_imp (pt_not ha) fun σ H Q q => ?_
  refine (seq1 q).mono fun x H1 ⟨G, m, d, e1, e2, e3, r, h⟩ => ?_
  unfold notR at h
  split at h
  · obtain ⟨k', e, q⟩ := h.bl e3
    cases e
    exact ⟨_, (r.rp e1 e2 e3).bl_inv, q⟩
  · exact h.elim
theorem ex_not (ha : EX X H0 G0 W a f) : EX X H0 G0 W (.UnaryOp .Not a pos) (un1 f fun _ d => notR d) := by
  refine pe_imp (pe_not ha) fun σ H Q q => ?_
  refine (seq1 q).mono fun x H1 ⟨G, m, d, e1, e2, e3, r, h⟩ => ?_
  unfold notR at h
  split at h
  · exact ⟨_, (r.rp e1 e2 e3).bl_inv, h.bl e3⟩
  · exact h.elim
/-- the three ways of a first part -/
theorem fork {t f g : PEnv → Res} (q : tEv X H0 G0 W (iteR t f g) σ H Q) : tEv X H0 G0 W t σ H fun x H1 => ∃ b, x = .bl b ∧ if b = true then tEv X H0 G0 W f σ H1 Q else tEv X H0 G0 W g σ H1 Q := by
  obtain ⟨G, R, env, a, q⟩ := q
  unfold iteR at q
  refine ⟨G, R, env, a, ?_⟩
  cases hf : t env with
  | ex c i => rw [hf] at q; exact q
  | st => rw [hf] at q; exact q
  | ok m d =>
    simp only [hf, Res.bind] at q
    intro x H1 s1 r1
    unfold brR at q
    split at q
    · exact ⟨true, (r1.rp a.bH a.gH s1).bl_inv, iteT ⟨G, R, env, a.up s1, q.up a.gH a.bH s1⟩⟩
    · exact ⟨false, (r1.rp a.bH a.gH s1).bl_inv, iteF ⟨G, R, env, a.up s1, q.up a.gH a.bH s1⟩⟩
    · exact q.elim
theorem andR_ite : andR f g = iteR f g (fun _ => okB false) := rfl
theorem orR_ite : orR f g = iteR f (fun _ => okB true) g := rfl
theorem okB_end {k : Bool} (h : tEv X H0 G0 W (fun _ => okB k) σ H Q) : Q (.bl k) H := let ⟨G, R, env, a, h⟩ := h; Fin.bl (H := H) (H0 := H0) (G := G) (X := X) (W := W) (σ := σ) h (Same.refl H)
theorem ex_and (ha : EX X H0 G0 W a f) (hb : EX X H0 G0 W (.BoolOp .And (b :: es) pos) g) : EX X H0 G0 W (.BoolOp .And (a :: b :: es) pos) (andR f g) := by
  refine pe_imp (pe_and ha hb) fun σ H Q q => ?_
  rw [andR_ite] at q
  refine (fork q).mono fun x H1 ⟨k, e, q⟩ => ⟨k, e, ?_⟩
  cases k with
  | true => exact iteT (by rw [if_pos rfl] at q; exact q)
  | false => exact iteF (okB_end (by rw [if_neg Bool.false_ne_true] at q; exact q))
theorem ex_or (ha : EX X H0 G0 W a f) (hb : EX X H0 G0 W (.BoolOp .Or (b :: es) pos) g) : EX X H0 G0 W (.BoolOp .Or (a :: b :: es) pos) (orR f g) := by
  refine pe_imp (pe_or ha hb) fun σ H Q q => ?_
  rw [orR_ite] at q
  refine (fork q).mono fun x H1 ⟨k, e, q⟩ => ⟨k, e, ?_⟩
  cases k with
  | true => exact iteT (okB_end (by rw [if_pos rfl] at q; exact q))
  | false => exact iteF (by rw [if_neg Bool.false_ne_true] at q; exact q)
theorem ex_one {op : BoolOp} (ha : EX X H0 G0 W a f) : EX X H0 G0 W (.BoolOp op [a] pos) f := pe_one ha
abbrev TW (X : Cx) (H0 G0 : Hp) (W : WX) (e : Expr) (f : PEnv → Res) : Prop := PW X e (tTest (tEv X H0 G0 W f))
theorem pw_imp {t t' : TT} (h : PW X e t) (i : ∀ σ H Q, t' σ H Q → t σ H Q) : PW X e t' := ⟨fun w pins s σ H Q I q => h.run w pins s σ H Q I (i σ H Q q)⟩
theorem tw_and1 (ha : TX X H0 G0 W a f) : TW X H0 G0 W (.BoolOp .And [a] pos) f := pw_and1 ha
theorem tw_or1 (ha : TX X H0 G0 W a f) : TW X H0 G0 W (.BoolOp .Or [a] pos) f := pw_or1 ha
theorem tw_and (ha : TX X H0 G0 W a f) (hb : TW X H0 G0 W (.BoolOp .And (b :: es) pos) g) : TW X H0 G0 W (.BoolOp .And (a :: b :: es) pos) (andR f g) := by
  refine pw_imp (pw_and ha hb) fun σ H Q q => ?_
  have q : tEv X H0 G0 W (andR f g) σ H (fun x H' => ∃ k, x = .bl k ∧ Q k H') := q
  rw [andR_ite] at q
  refine (fork q).mono fun x H1 ⟨k, e, q⟩ => ⟨k, e, ?_⟩
  cases k with
  | true => exact iteT (by rw [if_pos rfl] at q; exact q)
  | false =>
    rw [if_neg Bool.false_ne_true] at q
    obtain ⟨k, e, q⟩ := okB_end q
    cases e
    exact iteF q
theorem tw_or (ha : TX X H0 G0 W a f) (hb : TW X H0 G0 W (.BoolOp .Or (b :: es) pos) g) : TW X H0 G0 W (.BoolOp .Or (a :: b :: es) pos) (orR f g) := by
  refine pw_imp (pw_or ha hb) fun σ H Q q => ?_
  have q : tEv X H0 G0 W (orR f g) σ H (fun x H' => ∃ k, x = .bl k ∧ Q k H') := q
  rw [orR_ite] at q
  refine (fork q).mono fun x H1 ⟨k, e, q⟩ => ⟨k, e, ?_⟩
  cases k with
  | true =>
    rw [if_pos rfl] at q
    obtain ⟨k, e, q⟩ := okB_end q
    cases e
    exact iteT q
  | false => exact iteF (by rw [if_neg Bool.false_ne_true] at q; exact q)
theorem ex_ife {t : PEnv → Res} (hc : TX X H0 G0 W c t) (ha : EX X H0 G0 W a f) (hb : EX X H0 G0 W b g) : EX X H0 G0 W (.IfExp c a b pos) (iteR t f g) := by
  refine pe_imp (pe_ifExp hc ha hb) fun σ H Q q => ?_
  exact fork q

/-! ### items, cuts -/
theorem ex_neg (ha : EX X H0 G0 W a f) : EX X H0 G0 W (.UnaryOp .USub a pos) (un1 f fun _ d => match d with | .int i => okI (-i) | _ => .st) := by
  refine pe_imp (pe_un un_neg ha) fun σ H Q q => ?_
  refine (seq1 q).mono fun x H1 ⟨G, m, d, e1, e2, e3, r, h⟩ => ?_
  split at h
  · exact ⟨_, (r.rp e1 e2 e3).int_inv, h.int e3⟩
  · exact h.elim
theorem RpA.atI {K : PySem.W.Frag} {xs : List V} {ds : List D} {i : Int} {z : D} (r : RpA K H xs ds) (h : atI ds i = some z) : ∃ v, atI xs i = some v ∧ Rp K H v z := by
  unfold L2.atI at h ⊢
  rw [r.1]
  cases hj : ixN ds.length i with
  | none => rw [hj] at h; cases h
  | some j =>
    rw [hj] at h
    exact r.get h
theorem ExRep.itemL {K : PySem.W.Frag} {ds : List D} {i : Int} {z : D} (b : Same H0 H) (g : Same G H) (s : Same H H1) (r : ExRep K H0 H G H1 m v (.list ds)) (h : L2.atI ds i = some z) :
    ∃ p xs w, v = .ref p ∧ SqL K H1 p xs ∧ L2.atI xs i = some w ∧ ExRep K H0 H G H1 (elm m z) w z := by
  obtain ⟨p, xs, e1, hp, ra⟩ := (r.rp b g s).lst_inv
  obtain ⟨w, hw, rw1⟩ := ra.atI h
  refine ⟨p, xs, w, e1, SqL.of hp, hw, ?_⟩
  unfold elm
  by_cases q : isSc z = true
  · rw [if_pos q]; exact rw1.sc q
  · rw [if_neg q]
    have other : elOk m ds = true → ExRep K H0 H G H1 .sh w z := fun ok => by
      obtain ⟨p2, xs2, e2, hp2, ra2⟩ := r.els b g s ok
      rw [e1] at e2
      cases e2
      rw [hp] at hp2
      cases hp2
      obtain ⟨w2, hw2, rw2⟩ := ra2.atI h
      rw [hw] at hw2
      cases hw2
      exact rw2
    cases m with
    | tm => exact rw1
    | bo =>
      obtain ⟨p2, xs2, e2, hp2, ra2⟩ := (show Rp K H0 v (.list ds) from r).lst_inv
      rw [e1] at e2
      cases e2
      rw [s _ _ (b _ _ hp2)] at hp
      cases hp
      obtain ⟨w2, hw2, rw2⟩ := ra2.atI h
      rw [hw] at hw2
      cases hw2
      exact rw2
    | sh => exact other rfl
    | ow => exact other rfl
    | is => exact other rfl
    | bw => exact other rfl
theorem RpA.same {K : PySem.W.Frag} {xs ys : List V} (r : xs = ys) : ys = xs := r.symm
/-- the items of a tuple that can be kept -/
theorem ExRep.itemT {K : PySem.W.Frag} {ds : List D} {i : Int} {z : D} (b : Same H0 H) (g : Same G H) (s : Same H H1) (r : ExRep K H0 H G H1 m v (.tuple ds)) (h : L2.atI ds i = some z) :
    ∃ p xs w, v = .ref p ∧ SqT K H1 p xs ∧ L2.atI xs i = some w ∧ ExRep K H0 H G H1 (elm m z) w z := by
  have mk : ∀ {p : Addr} {xs : List V} {w : V}, v = .ref p → SqT K H1 p xs → L2.atI xs i = some w → (isSc z = false → ExRep K H0 H G H1 (elm m z) w z) → Rp K H1 w z → ∃ p xs w, v = .ref p ∧ SqT K H1 p xs ∧ L2.atI xs i = some w ∧ ExRep K H0 H G H1 (elm m z) w z := fun {p xs w} e1 e2 e3 e4 e5 => by
    refine ⟨p, xs, w, e1, e2, e3, ?_⟩
    cases q : isSc z with
    | true => unfold elm; rw [if_pos q]; exact e5.sc q
    | false => exact e4 q
  have el : isSc z = false → elm m z = elmM m := fun q => by unfold elm; rw [if_neg (by rw [q]; exact Bool.false_ne_true)]
  have other : elOk m ds = true → elm m z = .sh ∨ isSc z = true → ∃ p xs w, v = .ref p ∧ SqT K H1 p xs ∧ L2.atI xs i = some w ∧ ExRep K H0 H G H1 (elm m z) w z := fun ok e => by
    obtain ⟨p, xs, e2, hp, ra⟩ := r.elsT b g s ok
    obtain ⟨w, hw, rw1⟩ := ra.atI h
    refine mk e2 hp hw (fun q => ?_) (rw1.mono (same_nw g s))
    rcases e with e | e
    · rw [e]; exact rw1
    · rw [q] at e; cases e
  have e0 : isSc z = true ∨ isSc z = false := by cases isSc z <;> simp
  cases m with
  | tm =>
    obtain ⟨p, xs, e1, hp, ra⟩ := (show Rp K H1 v (.tuple ds) from r).tup_inv
    obtain ⟨w, hw, rw1⟩ := ra.atI h
    exact mk e1 hp hw (fun q => by rw [el q]; exact rw1) rw1
  | bo =>
    obtain ⟨p, xs, e1, hp, ra⟩ := (show Rp K H0 v (.tuple ds) from r).tup_inv
    obtain ⟨w, hw, rw1⟩ := ra.atI h
    exact mk e1 (Same.sqT s (Same.sqT b hp)) hw (fun q => by rw [el q]; exact rw1) ((rw1.mono b).mono s)
  | sh => exact other rfl (e0.elim .inr fun q => .inl (el q))
  | ow => exact other rfl (e0.elim .inr fun q => .inl (el q))
  | is => exact other rfl (e0.elim .inr fun q => .inl (el q))
  | bw => exact other rfl (e0.elim .inr fun q => .inl (el q))
theorem ex_ix (ha : EX X H0 G0 W a f) (hb : EX X H0 G0 W b g) (hs : PlainIx b) : EX X H0 G0 W (.Subscript a b pos) (bin2 f g fun m d _ e => ixD m d e) := by
  refine pe_imp (pe_ix ix_seq ha hb hs) fun σ H Q q => ?_
  refine (seq2 q).mono fun x H1 q1 => q1.mono fun y H2 ⟨G, m, d, m', d', e1, e2, e3, r1, r2, h⟩ => ?_
  unfold ixD at h
  split at h
  · split at h
    · rename_i z hz
      have y1 := (r2.rp e1 e2 e3).int_inv
      subst y1
      obtain ⟨p, xs, w, rfl, hp, hw, rw1⟩ := r1.itemL e1 e2 e3 hz
      exact .inl ⟨p, xs, _, w, rfl, rfl, hp, hw, h _ _ e3 rw1⟩
    · exact h.elim
  · split at h
    · rename_i z hz
      have y1 := (r2.rp e1 e2 e3).int_inv
      subst y1
      obtain ⟨p, xs, w, rfl, hp, hw, rw1⟩ := r1.itemT e1 e2 e3 hz
      exact .inr (.inl ⟨p, xs, _, w, rfl, rfl, hp, hw, h _ _ e3 rw1⟩)
    · exact h.elim
  · split at h
    · rename_i kvs i z y hz
      have y1 := (r2.rp e1 e2 e3).int_inv
      subst y1
      obtain ⟨p, ns, rfl, rfl, hp⟩ := (r1.rp e1 e2 e3).scr_inv
      refine .inl ⟨p, _, _, .int z, rfl, rfl, hp, ?_, h.int e3⟩
      unfold L2.atI at hz ⊢
      rw [List.length_map] at hz ⊢
      obtain ⟨j, hj, hz⟩ := Option.bind_eq_some_iff.mp hz
      rw [hj, Option.bind_some, List.getElem?_map]
      rw [List.getElem?_map] at hz
      obtain ⟨n, hn, e⟩ := Option.map_eq_some_iff.mp hz
      cases e
      rw [hn]
      rfl
    · exact h.elim
  · obtain ⟨hl, h⟩ := h.ite
    split at h
    · rename_i z i c hc
      have y1 := (r2.rp e1 e2 e3).int_inv
      have x1 := (r1.rp e1 e2 e3).str_inv
      subst y1 x1
      exact .inr (.inr ⟨_, _, c, rfl, rfl, hl, hc, h.str e3⟩)
    · exact h.elim
  · exact h.elim
/-- a part of a cut: nothing, or an int -/
def partD : D → Option (Option Int)
  | .none => some none
  | .int i => some (some i)
  | _ => none
def cutD (m : Md) (d lo hi : D) : Res := match partD lo, partD hi with
  | some l, some u => match d with
    | .list ds => if elOk m ds = true then .ok .ow (.list (cutL ds l u)) else .st
    | .tuple ds => if elOk m ds = true ∧ ¬ (HT.sIx ds.length 0 l = 0 ∧ HT.sIx ds.length ds.length u = ds.length) then .ok .sh (.tuple (cutL ds l u)) else .st
    | .str z => if z.length ≤ sizeLine then okS (cutS z l u) else .st
    | _ => .st
  | _, _ => .st
theorem RpA.cut {K : PySem.W.Frag} {xs : List V} {ds : List D} (r : RpA K H xs ds) (l u : Option Int) : RpA K H (cutV xs l u) (cutL ds l u) := by
  unfold cutV cutL
  rw [r.1]
  exact (r.drop _).take _
/-- a part's reading -/
def tPx (X : Cx) (H0 G0 : Hp) (W : WX) (f : PEnv → Res) : TO := fun σ H Q => tEv X H0 G0 W f σ H fun x H' => ∃ p, (x = .non ∧ p = none ∨ ∃ i, x = .int i ∧ p = some i) ∧ Q p H'
structure PX (X : Cx) (H0 G0 : Hp) (W : WX) (e : Option Expr) (f : PEnv → Res) : Prop where
  po : PO X e (tPx X H0 G0 W f)
  form : ∀ env m d, f env = .ok m d → d = .none ∨ ∃ i, d = .int i
def partR (d : D) : Res := match d with
  | .int i => okI i
  | _ => .st
theorem px_none : PX X H0 G0 W none (fun _ => .ok .sh .none) := ⟨⟨fun pins s σ H Q I h => po_none.run pins s σ H Q I (by
  obtain ⟨G, R, env, a, h⟩ := h
  obtain ⟨p, e, q⟩ := h .non H (Same.refl H) (.non)
  rcases e with ⟨_, rfl⟩ | ⟨i, e, _⟩
  · exact q
  · cases e)⟩, fun env m d h => by cases h; exact .inl rfl⟩
theorem px_some {e : Expr} (he : EX X H0 G0 W e f) : PX X H0 G0 W (some e) (un1 f fun _ d => partR d) := ⟨⟨fun pins s σ H Q I h => (po_some he).run pins s σ H Q I (by
  refine (seq1 h).mono fun x H1 ⟨G, m, d, e1, e2, e3, r, h⟩ => ?_
  unfold partR at h
  split at h
  · have x1 := (r.rp e1 e2 e3).int_inv
    subst x1
    obtain ⟨p, e, q⟩ := h.int e3
    rcases e with ⟨e, _⟩ | ⟨i, e, rfl⟩
    · cases e
    · cases e
      exact ⟨_, rfl, q⟩
  · exact h.elim)⟩, fun env m d h => by
    unfold un1 at h
    cases hf : f env with
    | ok m2 d2 =>
      rw [hf] at h
      replace h : partR d2 = Res.ok m d := h
      unfold partR at h
      split at h
      · cases h; exact .inr ⟨_, rfl⟩
      · cases h
    | ex c i => rw [hf] at h; cases h
    | st => rw [hf] at h; cases h⟩
def sl3 (f g h : PEnv → Res) (k : Md → D → D → D → Res) : PEnv → Res := fun env => (f env).bind fun m d => (g env).bind fun _ l => (h env).bind fun _ u => k m d l u
theorem part_of {K : PySem.W.Frag} {y : V} {l : D} (f : l = .none ∨ ∃ i, l = .int i) (r : Rp K H y l) : ∃ p, partD l = some p ∧ ((y = .non ∧ p = none) ∨ ∃ i, y = .int i ∧ p = some i) := by
  rcases f with rfl | ⟨i, rfl⟩
  · exact ⟨none, rfl, .inl ⟨r.non_inv, rfl⟩⟩
  · exact ⟨some i, rfl, .inr ⟨i, r.int_inv, rfl⟩⟩
theorem ex_cut {lo hi : Option Expr} {p2 : Pos} {h : PEnv → Res} (ha : EX X H0 G0 W a f) (hl : PX X H0 G0 W lo g) (hh : PX X H0 G0 W hi h) : EX X H0 G0 W (.Subscript a (.Slice lo hi none p2) pos) (sl3 f g h cutD) := by
  refine pe_imp (pe_slice (sl_list.or (sl_tup.or sl_str)) ha hl.po hh.po) fun σ H Q q => ?_
  obtain ⟨G, R, env, ab, q⟩ := q
  unfold sl3 at q
  refine ⟨G, R, env, ab, ?_⟩
  cases hf : f env with
  | ex c i => rw [hf] at q; exact q
  | st => rw [hf] at q; exact q
  | ok m d =>
    rw [hf] at q
    refine fun x H1 s1 r1 => ⟨G, R, env, ab.up s1, ?_⟩
    cases hg : g env with
    | ex c i => simp only [Res.bind, hg] at q; exact fun C dd H' e1 e2 e3 => q C dd H' e1 (s1.trans e2) e3
    | st => simp only [Res.bind, hg] at q; exact q
    | ok m2 l =>
      simp only [Res.bind, hg] at q
      intro y H2 s2 r2
      have ab2 := (ab.up s1).up s2
      obtain ⟨pl, hpl, yl⟩ := part_of (hl.form _ _ _ hg) (r2.rp (ab.up s1).bH (ab.up s1).gH s2)
      refine ⟨pl, yl, G, R, env, ab2, ?_⟩
      cases hh2 : h env with
      | ex c i => simp only [hh2] at q; exact fun C dd H' e1 e2 e3 => q C dd H' e1 ((s1.trans s2).trans e2) e3
      | st => simp only [hh2] at q; exact q
      | ok m3 u =>
        simp only [hh2] at q
        intro z H3 s3 r3
        obtain ⟨pu, hpu, zu⟩ := part_of (hh.form _ _ _ hh2) (r3.rp ab2.bH ab2.gH s3)
        refine ⟨pu, zu, ?_⟩
        have sA : Same H H3 := (s1.trans s2).trans s3
        have rx : ExRep X.K H0 H G H3 m x d := (r1.up s2).up s3
        unfold cutD at q
        rw [hpl, hpu] at q
        dsimp only at q
        split at q
        · rename_i ds
          obtain ⟨c, q⟩ := Fin.ite (X := X) (W := W) (σ := σ) q
          obtain ⟨p, xs, rfl, hp, rp⟩ := rx.els ab.bH ab.gH sA c
          refine .inl ⟨p, xs, rfl, SqL.of hp, fun n hn => ?_⟩
          exact q _ _ (sA.trans (same_upd hn)) ⟨n, cutV xs pl pu, _, rfl, rfl, none_of_same sA hn, upd_same, (rp.cut pl pu).mono (nw_rm ab.gH sA hn)⟩
        · rename_i ds
          obtain ⟨c, q⟩ := Fin.ite (X := X) (W := W) (σ := σ) q
          obtain ⟨p, xs, rfl, hp, rp⟩ := rx.elsT ab.bH ab.gH sA c.1
          refine .inr (.inl ⟨p, xs, rfl, hp, by rw [rp.1]; exact c.2, fun n hn => ?_⟩)
          exact q _ _ (sA.trans (same_upd hn)) (RpA.tup ((rp.cut pl pu).mono (nw_up (same_upd hn))) (SqT.of (nw_upd sA hn)))
        · rename_i s
          obtain ⟨c, q⟩ := Fin.ite (X := X) (W := W) (σ := σ) q
          have x1 := (rx.rp ab.bH ab.gH sA).str_inv
          subst x1
          exact .inr (.inr ⟨s, rfl, c, q _ _ sA (.str _)⟩)
        · exact q.elim
end
end Pl

/-! Pl4: argument lists, displays, calls, what loops walk, targets. -/
namespace Pl
open PySem PySem.Spec PyProof.Rows L2
variable {X : Cx} {H0 G0 G H H1 H2 : Hp} {W : WX} {σ : St} {Q : VK} {f g : PEnv → Res} {m : Md} {d : D} {v : V}
section
variable {a b c e : Expr} {pos : Pos} {es : List Expr}

/-! ### argument lists -/
inductive ResL where
  | ok (l : List (Md × D)) | ex (c : Str) (a : Int) | st
def ResL.bind : ResL → (List (Md × D) → Res) → Res
  | .ok l, k => k l
  | .ex c a, _ => .ex c a
  | .st, _ => .st
def ExReps (K : PySem.W.Frag) (H0 H G H' : Hp) (l : List (Md × D)) (vs : List V) : Prop :=
  vs.length = l.length ∧ ∀ (i : Nat) p v, l[i]? = some p → vs[i]? = some v → ExRep K H0 H G H' p.1 v p.2
theorem ExReps.nil {K : PySem.W.Frag} : ExReps K H0 H G H1 [] [] := ⟨rfl, fun i p v h _ => by simp at h⟩
theorem ExReps.cons {K : PySem.W.Frag} {l : List (Md × D)} {vs : List V} (h : ExRep K H0 H G H1 m v d) (t : ExReps K H0 H G H1 l vs) : ExReps K H0 H G H1 ((m, d) :: l) (v :: vs) :=
  ⟨by rw [List.length_cons, List.length_cons, t.1], fun i p w h1 h2 => by
    cases i with
    | zero => simp at h1 h2; subst h1; subst h2; exact h
    | succ i => exact t.2 i p w (by simpa using h1) (by simpa using h2)⟩
theorem ExReps.app {K : PySem.W.Frag} {l l' : List (Md × D)} {vs vs' : List V} (h : ExReps K H0 H G H1 l vs) (t : ExReps K H0 H G H1 l' vs') : ExReps K H0 H G H1 (l ++ l') (vs ++ vs') := by
  refine ⟨by rw [List.length_append, List.length_append, h.1, t.1], fun i p w h1 h2 => ?_⟩
  by_cases hi : i < vs.length
  · rw [List.getElem?_append_left hi] at h2
    rw [List.getElem?_append_left (by rw [← h.1]; exact hi)] at h1
    exact h.2 i p w h1 h2
  · rw [List.getElem?_append_right (Nat.le_of_not_lt hi)] at h2
    rw [List.getElem?_append_right (by rw [← h.1]; exact Nat.le_of_not_lt hi), ← h.1] at h1
    exact t.2 _ p w h1 h2
theorem ExReps.up {K : PySem.W.Frag} {l : List (Md × D)} {vs : List V} (h : ExReps K H0 H G H1 l vs) (s : Same H1 H2) : ExReps K H0 H G H2 l vs :=
  ⟨h.1, fun i p w h1 h2 => (h.2 i p w h1 h2).up s⟩
theorem ExReps.dn {K : PySem.W.Frag} {l : List (Md × D)} {vs : List V} (h : ExReps K H0 H1 G H2 l vs) (g : Same G H) (s : Same H H1) : ExReps K H0 H G H2 l vs :=
  ⟨h.1, fun i p w h1 h2 => (h.2 i p w h1 h2).dn g s⟩
theorem ExReps.head {K : PySem.W.Frag} {p : Md × D} {l : List (Md × D)} {vs : List V} (h : ExReps K H0 H G H1 (p :: l) vs) : ∃ v ws, vs = v :: ws ∧ ExRep K H0 H G H1 p.1 v p.2 ∧ ExReps K H0 H G H1 l ws := by
  cases vs with
  | nil => have := h.1; cases this
  | cons v ws => exact ⟨v, ws, rfl, h.2 0 p v rfl rfl, by simpa using h.1, fun i p w h1 h2 => h.2 (i + 1) p w (by simpa using h1) (by simpa using h2)⟩
theorem ExReps.none {K : PySem.W.Frag} {vs : List V} (h : ExReps K H0 H G H1 [] vs) : vs = [] := List.eq_nil_of_length_eq_zero h.1
def FinL (K : PySem.W.Frag) (mg : Str → Option Value) (W : WX) (σ : St) (H0 H G : Hp) : ResL → (List V → Hp → Prop) → Prop
  | .ok l, Q => ∀ vs H', Same H H' → ExReps K H0 H G H' l vs → Q vs H'
  | .ex c a, _ => ∀ C dd H', mg c = some (.ref C) → Same H H' → H' dd = some (.xd [("at", .int a)]) → W (.ref C) (some dd) σ H'
  | .st, _ => False
def tEvs (X : Cx) (H0 G0 : Hp) (W : WX) (f : PEnv → ResL) : TA := fun σ H Q => ∃ G R env, Ab X.K H0 G0 G R env σ H ∧ FinL X.K X.mg W σ H0 H G (f env) Q
abbrev AX (X : Cx) (H0 G0 : Hp) (W : WX) (es : List Expr) (f : PEnv → ResL) : Prop := PA X es (tEvs X H0 G0 W f)
theorem pa_imp {t t' : TA} (h : PA X es t) (i : ∀ σ H Q, t' σ H Q → t σ H Q) : PA X es t' := ⟨fun pos pins s σ H Q I q => h.run pos pins s σ H Q I (i σ H Q q)⟩
def consR (f : PEnv → Res) (fs : PEnv → ResL) : PEnv → ResL := fun env => match f env with
  | .ok m d => match fs env with
    | .ok l => .ok ((m, d) :: l)
    | .ex c a => .ex c a
    | .st => .st
  | .ex c a => .ex c a
  | .st => .st
def starR (f : PEnv → Res) (fs : PEnv → ResL) : PEnv → ResL := fun env => match f env with
  | .ok m (.list ds) => if elOk m ds = true then (match fs env with
    | .ok l => .ok (ds.map (fun d => (Md.sh, d)) ++ l)
    | .ex c a => .ex c a
    | .st => .st) else .st
  | .ex c a => .ex c a
  | _ => .st
variable {fs : PEnv → ResL}
theorem ax_nil : AX X H0 G0 W [] (fun _ => .ok []) := pa_imp pa_nil fun σ H Q ⟨G, R, env, a, h⟩ => h [] H (Same.refl H) .nil
theorem ax_cons (he : EX X H0 G0 W e f) (ht : AX X H0 G0 W es fs) (hs : starEach (e :: es) X.env = (false, eval e X.env) :: starEach es X.env) : AX X H0 G0 W (e :: es) (consR f fs) := by
  refine pa_imp (pa_cons he ht hs) fun σ H Q q => ?_
  obtain ⟨G, R, env, a, q⟩ := q
  unfold consR at q
  refine ⟨G, R, env, a, ?_⟩
  cases hf : f env with
  | ex c i => rw [hf] at q; exact q
  | st => rw [hf] at q; exact q
  | ok m d =>
    rw [hf] at q
    refine fun x H1 s1 r1 => ⟨G, R, env, a.up s1, ?_⟩
    cases hg : fs env with
    | ex c i => simp only [hg] at q; exact fun C dd H' e1 e2 e3 => q C dd H' e1 (s1.trans e2) e3
    | st => simp only [hg] at q; exact q
    | ok l =>
      simp only [hg] at q
      exact fun vs H2 s2 r2 => q _ _ (s1.trans s2) (.cons (r1.up s2) (r2.dn a.gH s1))
theorem RpA.sh {K : PySem.W.Frag} {xs : List V} {ds : List D} (h : RpA K (nw H G H1) xs ds) : ExReps K H0 H G H1 (ds.map fun d => (Md.sh, d)) xs :=
  ⟨by rw [List.length_map]; exact h.1, fun i p w h1 h2 => by
    rw [List.getElem?_map] at h1
    obtain ⟨z, h3, rfl⟩ := Option.map_eq_some_iff.mp h1
    exact h.2 i w z h2 h3⟩
theorem ax_star {p : Pos} (he : EX X H0 G0 W e f) (ht : AX X H0 G0 W es fs) (hs : starEach (.Starred e p :: es) X.env = (true, eval e X.env) :: starEach es X.env) : AX X H0 G0 W (.Starred e p :: es) (starR f fs) := by
  refine pa_imp (StX.pa_star he ht hs) fun σ H Q q => ?_
  obtain ⟨G, R, env, a, q⟩ := q
  unfold starR at q
  refine ⟨G, R, env, a, ?_⟩
  cases hf : f env with
  | ex c i => rw [hf] at q; exact q
  | st => rw [hf] at q; exact q
  | ok m d =>
    rw [hf] at q
    cases d with
    | list ds =>
      dsimp only at q
      by_cases c : elOk m ds = true
      · rw [if_pos c] at q
        refine fun x H1 s1 r1 => ?_
        obtain ⟨p, xs, rfl, hp, rp⟩ := r1.els a.bH a.gH s1 c
        refine ⟨p, xs, rfl, .inr (SqL.of hp), G, R, env, a.up s1, ?_⟩
        cases hg : fs env with
        | ex c i => simp only [hg] at q; exact fun C dd H' e1 e2 e3 => q C dd H' e1 (s1.trans e2) e3
        | st => simp only [hg] at q; exact q
        | ok l =>
          simp only [hg] at q
          exact fun vs H2 s2 r2 => q _ _ (s1.trans s2) (.app (rp.sh.up s2) (r2.dn a.gH s1))
      · rw [if_neg c] at q
        exact q.elim
    | none => exact q.elim
    | bool _ => exact q.elim
    | int _ => exact q.elim
    | str _ => exact q.elim
    | tuple _ => exact q.elim
    | dict _ => exact q.elim
/-- what may be kept in a container, or handed to one that keeps it -/
def keepMd : Md → Bool
  | .sh | .ow | .is => true
  | _ => false
def keepM (m : Md) (d : D) : Bool := isSc d || keepMd m
theorem ExRep.keep {K : PySem.W.Frag} (b : Same H0 H) (g : Same G H) (s : Same H H1) (r : ExRep K H0 H G H1 m v d) (h : keepM m d = true) : Rp K (nw H G H1) v d := by
  cases q : isSc d with
  | true => exact (r.rp b g s).sc q
  | false =>
    cases m with
    | sh => exact r
    | ow => obtain ⟨p, xs, ds, rfl, rfl, n, e, r⟩ := r; exact (r.mono same_rm).lst (by rw [nw_new n]; exact e)
    | is => exact Rp.mono r (nw_nul g)
    | bw => unfold keepM at h; rw [q] at h; cases h
    | bo => unfold keepM at h; rw [q] at h; cases h
    | tm => unfold keepM at h; rw [q] at h; cases h
theorem ExReps.keep {K : PySem.W.Frag} {l : List (Md × D)} {vs : List V} (b : Same H0 H) (g : Same G H) (s : Same H H1) (r : ExReps K H0 H G H1 l vs) (h : (l.all fun p => keepM p.1 p.2) = true) : RpA K (nw H G H1) vs (l.map (·.2)) :=
  ⟨by rw [List.length_map]; exact r.1, fun i w z h1 h2 => by
    rw [List.getElem?_map] at h2
    obtain ⟨p, h3, rfl⟩ := Option.map_eq_some_iff.mp h2
    exact (r.2 i p w h3 h1).keep b g s (List.all_eq_true.mp h p (List.mem_of_getElem? h3))⟩
def lstR (l : List (Md × D)) : Res := if (l.all fun p => keepM p.1 p.2) = true ∧ l.length ≤ sizeLine then .ok .ow (.list (l.map (·.2))) else .st
def tupR (l : List (Md × D)) : Res := if (l.all fun p => keepM p.1 p.2) = true ∧ l.length ≤ sizeLine then .ok .sh (.tuple (l.map (·.2))) else .st
abbrev lb (fs : PEnv → ResL) (k : List (Md × D) → Res) : PEnv → Res := fun env => (fs env).bind k
theorem seqL {k : List (Md × D) → Res} (h : tEv X H0 G0 W (lb fs k) σ H Q) :
    tEvs X H0 G0 W fs σ H fun xs H1 => ∃ G l, Same H0 H ∧ Same G H ∧ Same H H1 ∧ ExReps X.K H0 H G H1 l xs ∧ Fin X.K X.mg W σ H0 H G (k l) Q := by
  obtain ⟨G, R, env, a, h⟩ := h
  refine ⟨G, R, env, a, ?_⟩
  dsimp only [lb] at h
  cases hf : fs env with
  | ok l =>
    rw [hf] at h
    exact fun x H1 s1 r1 => ⟨G, l, a.bH, a.gH, s1, r1, h⟩
  | ex c i => rw [hf] at h; exact h
  | st => rw [hf] at h; exact h
theorem tEvs.mono {Q Q' : List V → Hp → Prop} (h : tEvs X H0 G0 W fs σ H Q) (i : ∀ v H', Q v H' → Q' v H') : tEvs X H0 G0 W fs σ H Q' := by
  obtain ⟨G, R, env, a, h⟩ := h
  refine ⟨G, R, env, a, ?_⟩
  cases hf : fs env with
  | ok l => rw [hf] at h; exact fun v H' s e => i v H' (h v H' s e)
  | ex c a => rw [hf] at h; exact h
  | st => rw [hf] at h; exact h
theorem ex_lst (ha : AX X H0 G0 W es fs) : EX X H0 G0 W (.List es pos) (lb fs lstR) := by
  refine pe_imp (pe_lst ha) fun σ H Q q => ?_
  refine (seqL q).mono fun xs H1 ⟨G, l, e1, e2, e3, r, h⟩ => ?_
  obtain ⟨c, h⟩ := Fin.ite (X := X) (W := W) (σ := σ) h
  refine ⟨by rw [r.1]; exact c.2, fun n hn => ?_⟩
  exact h _ _ (e3.trans (same_upd hn)) ⟨n, xs, _, rfl, rfl, none_of_same e3 hn, upd_same, (r.keep e1 e2 e3 c.1).mono (nw_rm e2 e3 hn)⟩
theorem ex_tup {k : Nat} (ha : AX X H0 G0 W es fs) : EX X H0 G0 W (.Tuple es k pos) (lb fs tupR) := by
  refine pe_imp (pe_tup ha) fun σ H Q q => ?_
  refine (seqL q).mono fun xs H1 ⟨G, l, e1, e2, e3, r, h⟩ => ?_
  obtain ⟨c, h⟩ := Fin.ite (X := X) (W := W) (σ := σ) h
  refine ⟨by rw [r.1]; exact c.2, fun n hn => ?_⟩
  exact h _ _ (e3.trans (same_upd hn)) (RpA.tup ((r.keep e1 e2 e3 c.1).mono (nw_up (same_upd hn))) (SqT.of (nw_upd e3 hn)))

/-! ### built-ins by name -/
/-- a built-in's rule, of trees -/
def BR (X : Cx) (k : List (Md × D) → Res) (r : List V → Hp → VK → Prop) : Prop := ∀ (W : WX) (σ : St) (H0 H G H1 : Hp) (l : List (Md × D)) (vs : List V) (Q : VK), Same H0 H → Same G H → Same H H1 → ExReps X.K H0 H G H1 l vs → Fin X.K X.mg W σ H0 H G (k l) Q → r vs H1 Q
theorem ex_biB {x : Str} {p : Pos} {id : String} {r : List V → Hp → VK → Prop} {k : List (Md × D) → Res} (hc : CallR X (.builtin id) r) (br : BR X k r) (hg : Gl X x) (hm : X.mg x = none) (hv : bootBuiltins x = some (.builtin id)) (ha : AX X H0 G0 W (e :: es) fs)
    (hn : x ≠ "__name__") (hdb : (x == ("__debug__" : Str)) = false) (he : starEach (e :: es) X.env = (false, eval e X.env) :: starEach es X.env) (hpl : (backTo pos (starEach es X.env)).any (·.1) = false) :
    EX X H0 G0 W (.Call (.Name x p) (e :: es) [] pos) (lb fs k) := by
  refine pe_imp (pe_callB hc hg hm hv ha hn hdb he hpl) fun σ H Q q => ?_
  exact (seqL q).mono fun xs H1 ⟨G, l, e1, e2, e3, r1, h⟩ => br _ _ _ _ _ _ _ _ _ e1 e2 e3 r1 h
theorem ex_biT {x : Str} {p : Pos} {T : String} {r : List V → Hp → VK → Prop} {k : List (Md × D) → Res} (hc : CallR X (.type T) r) (br : BR X k r) (hg : Gl X x) (hm : X.mg x = none) (hv : bootBuiltins x = some (.type T)) (ha : AX X H0 G0 W (e :: es) fs)
    (hn : x ≠ "__name__") (hdb : (x == ("__debug__" : Str)) = false) (he : starEach (e :: es) X.env = (false, eval e X.env) :: starEach es X.env) (hpl : (backTo pos (starEach es X.env)).any (·.1) = false) :
    EX X H0 G0 W (.Call (.Name x p) (e :: es) [] pos) (lb fs k) := by
  refine pe_imp (pe_callTy hc hg hm hv ha hn hdb he hpl) fun σ H Q q => ?_
  exact (seqL q).mono fun xs H1 ⟨G, l, e1, e2, e3, r1, h⟩ => br _ _ _ _ _ _ _ _ _ e1 e2 e3 r1 h
def of1 (k : Md → D → Res) : List (Md × D) → Res
  | [(m, d)] => k m d
  | _ => .st
def of2 (k : Md → D → Md → D → Res) : List (Md × D) → Res
  | [(m, d), (m', d')] => k m d m' d'
  | _ => .st
theorem BR.of1 {k : Md → D → Res} {r : List V → Hp → VK → Prop} (h : ∀ (W : WX) (σ : St) (H0 H G H1 : Hp) (m : Md) (d : D) (v : V) (Q : VK), Same H0 H → Same G H → Same H H1 → ExRep X.K H0 H G H1 m v d → Fin X.K X.mg W σ H0 H G (k m d) Q → r [v] H1 Q) : BR X (Pl.of1 k) r := by
  intro W σ H0 H G H1 l vs Q e1 e2 e3 rs q
  unfold Pl.of1 at q
  split at q
  · obtain ⟨v, ws, rfl, r1, r2⟩ := rs.head
    rw [r2.none]
    exact h _ _ _ _ _ _ _ _ _ _ e1 e2 e3 r1 q
  · exact q.elim
theorem BR.of2 {k : Md → D → Md → D → Res} {r : List V → Hp → VK → Prop} (h : ∀ (W : WX) (σ : St) (H0 H G H1 : Hp) (m : Md) (d : D) (m' : Md) (d' : D) (v w : V) (Q : VK), Same H0 H → Same G H → Same H H1 → ExRep X.K H0 H G H1 m v d → ExRep X.K H0 H G H1 m' w d' → Fin X.K X.mg W σ H0 H G (k m d m' d') Q → r [v, w] H1 Q) : BR X (Pl.of2 k) r := by
  intro W σ H0 H G H1 l vs Q e1 e2 e3 rs q
  unfold Pl.of2 at q
  split at q
  · obtain ⟨v, ws, rfl, r1, r2⟩ := rs.head
    obtain ⟨w, ws, rfl, r3, r4⟩ := r2.head
    rw [r4.none]
    exact h _ _ _ _ _ _ _ _ _ _ _ _ _ e1 e2 e3 r1 r3 q
  · exact q.elim
def lenD (_ : Md) : D → Res
  | .list ds => okI ds.length
  | .tuple ds => okI ds.length
  | .dict kvs => okI kvs.length
  | .str z => if z.length ≤ sizeLine then okI z.length else .st
  | _ => .st
theorem br_len : BR X (of1 lenD) (fun xs H Q => ∃ x n, xs = [x] ∧ LenV X.K x H n ∧ Q (.int n) H) := .of1 fun W σ H0 H G H1 m d v Q e1 e2 e3 r h => by
  unfold lenD at h
  split at h
  · obtain ⟨p, xs, rfl, hp, ra⟩ := (r.rp e1 e2 e3).lst_inv
    exact ⟨_, _, rfl, .inl ⟨xs, SqL.of hp, rfl⟩, by rw [ra.1]; exact h.int e3⟩
  · obtain ⟨p, xs, rfl, hp, ra⟩ := (r.rp e1 e2 e3).tup_inv
    exact ⟨_, _, rfl, .inr ⟨xs, hp, rfl⟩, by rw [ra.1]; exact h.int e3⟩
  · obtain ⟨p, ns, rfl, rfl, hp⟩ := (r.rp e1 e2 e3).scr_inv
    exact ⟨_, _, rfl, .inl ⟨_, hp, rfl⟩, by rw [List.length_map] at h ⊢; exact h.int e3⟩
  · obtain ⟨c, h⟩ := h.ite
    have x1 := (r.rp e1 e2 e3).str_inv
    subst x1
    exact ⟨_, _, rfl, ⟨c, rfl⟩, h.int e3⟩
  · exact h.elim
def minI (i j : Int) : Int := if j < i then j else i
def maxI (i j : Int) : Int := if j > i then j else i
theorem br_min : BR X (of2 fun _ d _ e => int2 d e fun i j => okI (minI i j)) (fun xs H Q => ∃ i j, xs = [.int i, .int j] ∧ Q (.int (if j < i then j else i)) H) := .of2 fun W σ H0 H G H1 m d m' d' v w Q e1 e2 e3 r1 r2 h => by
  obtain ⟨i, j, rfl, rfl, h⟩ := Fin.int2 h
  obtain ⟨rfl, rfl⟩ := intsE e1 e2 e3 r1 r2
  exact ⟨i, j, rfl, h.int e3⟩
theorem br_max : BR X (of2 fun _ d _ e => int2 d e fun i j => okI (maxI i j)) (fun xs H Q => ∃ i j, xs = [.int i, .int j] ∧ Q (.int (if j > i then j else i)) H) := .of2 fun W σ H0 H G H1 m d m' d' v w Q e1 e2 e3 r1 r2 h => by
  obtain ⟨i, j, rfl, rfl, h⟩ := Fin.int2 h
  obtain ⟨rfl, rfl⟩ := intsE e1 e2 e3 r1 r2
  exact ⟨i, j, rfl, h.int e3⟩
def int1 (d : D) (k : Int → Res) : Res := match d with
  | .int i => k i
  | _ => .st
theorem Fin.int1 {d : D} {k : Int → Res} (h : Fin X.K X.mg W σ H0 H G (Pl.int1 d k) Q) : ∃ i, d = .int i ∧ Fin X.K X.mg W σ H0 H G (k i) Q := by
  unfold Pl.int1 at h
  split at h
  · exact ⟨_, rfl, h⟩
  · exact h.elim
def absI (i : Int) : Int := if i < 0 then -i else i
theorem br_abs : BR X (of1 fun _ d => int1 d fun i => okI (absI i)) (fun xs H Q => ∃ i, xs = [.int i] ∧ Q (.int (if i < 0 then -i else i)) H) := .of1 fun W σ H0 H G H1 m d v Q e1 e2 e3 r h => by
  obtain ⟨i, rfl, h⟩ := Fin.int1 h
  have x1 := (r.rp e1 e2 e3).int_inv
  subst x1
  exact ⟨i, rfl, h.int e3⟩
def intD (_ : Md) : D → Res
  | .int i => okI i
  | .bool b => okI (if b then 1 else 0)
  | _ => .st
theorem br_int : BR X (of1 intD) (fun xs H Q => (∃ i, xs = [.int i] ∧ Q (.int i) H) ∨ ∃ k, xs = [.bl k] ∧ Q (.int (if k then 1 else 0)) H) := .of1 fun W σ H0 H G H1 m d v Q e1 e2 e3 r h => by
  unfold intD at h
  split at h
  · have x1 := (r.rp e1 e2 e3).int_inv
    subst x1
    exact .inl ⟨_, rfl, h.int e3⟩
  · have x1 := (r.rp e1 e2 e3).bl_inv
    subst x1
    exact .inr ⟨_, rfl, h.int e3⟩
  · exact h.elim
def ordD (_ : Md) : D → Res
  | .str z => if z.length = 1 then okI (z.cps.getD 0 0 : Nat) else .st
  | _ => .st
theorem br_ord : BR X (of1 ordD) (fun xs H Q => ∃ x, xs = [.str x] ∧ x.length = 1 ∧ Q (.int (x.cps.getD 0 0 : Nat)) H) := .of1 fun W σ H0 H G H1 m d v Q e1 e2 e3 r h => by
  unfold ordD at h
  split at h
  · obtain ⟨c, h⟩ := h.ite
    have x1 := (r.rp e1 e2 e3).str_inv
    subst x1
    exact ⟨_, rfl, c, h.int e3⟩
  · exact h.elim
def listD (m : Md) : D → Res
  | .list ds => if elOk m ds = true then .ok .ow (.list ds) else .st
  | .tuple ds => if elOk m ds = true then .ok .ow (.list ds) else .st
  | _ => .st
theorem br_list : BR X (of1 listD) (fun xs H Q => ∃ p ys, xs = [.ref p] ∧ (SqL X.K H p ys ∨ SqT X.K H p ys) ∧ ∀ l, H l = none → Q (.ref l) (upd H l (.lst ys))) := .of1 fun W σ H0 H G H1 m d v Q e1 e2 e3 r h => by
  unfold listD at h
  split at h
  · obtain ⟨c, h⟩ := h.ite
    obtain ⟨p, xs, rfl, hp, rp⟩ := r.els e1 e2 e3 c
    exact ⟨p, xs, rfl, .inl (SqL.of hp), fun n hn => h _ _ (e3.trans (same_upd hn)) ⟨n, xs, _, rfl, rfl, none_of_same e3 hn, upd_same, rp.mono (nw_rm e2 e3 hn)⟩⟩
  · obtain ⟨c, h⟩ := h.ite
    obtain ⟨p, xs, rfl, hp, rp⟩ := r.elsT e1 e2 e3 c
    exact ⟨p, xs, rfl, .inr hp, fun n hn => h _ _ (e3.trans (same_upd hn)) ⟨n, xs, _, rfl, rfl, none_of_same e3 hn, upd_same, rp.mono (nw_rm e2 e3 hn)⟩⟩
  · exact h.elim
def tupD (m : Md) : D → Res
  | .list ds => if elOk m ds = true then .ok .sh (.tuple ds) else .st
  | .tuple ds => .ok m (.tuple ds)
  | _ => .st
theorem br_tuple : BR X (of1 tupD) (fun xs H Q => ∃ p ys, xs = [.ref p] ∧ ((SqL X.K H p ys ∧ ∀ l, H l = none → Q (.ref l) (upd H l (.tup ys))) ∨ (SqT X.K H p ys ∧ Q (.ref p) H))) := .of1 fun W σ H0 H G H1 m d v Q e1 e2 e3 r h => by
  unfold tupD at h
  split at h
  · obtain ⟨c, h⟩ := h.ite
    obtain ⟨p, xs, rfl, hp, rp⟩ := r.els e1 e2 e3 c
    exact ⟨p, xs, rfl, .inl ⟨SqL.of hp, fun n hn => h _ _ (e3.trans (same_upd hn)) (RpA.tup (rp.mono (nw_up (same_upd hn))) (SqT.of (nw_upd e3 hn)))⟩⟩
  · obtain ⟨p, xs, rfl, hp, rp⟩ := (r.rp e1 e2 e3).tup_inv
    exact ⟨p, xs, rfl, .inr ⟨hp, h _ _ e3 r⟩⟩
  · exact h.elim
def sumD (_ : Md) : D → Res
  | .list ds => match intsOf ds with
    | some ns => okI ns.sum
    | none => .st
  | _ => .st
theorem br_sum : BR X (of1 sumD) (rSum X.K) := .of1 fun W σ H0 H G H1 m d v Q e1 e2 e3 r h => by
  unfold sumD at h
  split at h
  · split at h
    · rename_i ns hn
      obtain ⟨p, xs, rfl, hp, ra⟩ := (r.rp e1 e2 e3).lst_inv
      rw [intsOf_rp hn ra] at hp
      exact ⟨p, ns, rfl, SqL.of hp, h.int e3⟩
    · exact h.elim
  · exact h.elim
def maxL : List Int → Int
  | [] => 0
  | [x] => x
  | x :: y :: r => maxI x (maxL (y :: r))
theorem maxL_mem : ∀ (x : Int) (l : List Int), maxL (x :: l) ∈ x :: l
  | x, [] => by simp [maxL]
  | x, y :: r => by
    have h := maxL_mem y r
    show maxI x (maxL (y :: r)) ∈ _
    unfold maxI
    split
    · exact List.mem_cons_of_mem _ h
    · exact List.mem_cons_self
theorem maxL_ge : ∀ (l : List Int) (z : Int), z ∈ l → z ≤ maxL l
  | [], z, h => by simp at h
  | [x], z, h => by simp at h; subst h; exact Int.le_refl _
  | x :: y :: r, z, h => by
    show z ≤ maxI x (maxL (y :: r))
    unfold maxI
    rcases List.mem_cons.mp h with rfl | h
    · split <;> omega
    · have := maxL_ge (y :: r) z h
      split <;> omega
def maxD (_ : Md) : D → Res
  | .list ds => match intsOf ds with
    | some (n :: ns) => okI (maxL (n :: ns))
    | _ => .st
  | _ => .st
theorem br_maxL : BR X (of1 maxD) (rMax X.K) := .of1 fun W σ H0 H G H1 m d v Q e1 e2 e3 r h => by
  unfold maxD at h
  split at h
  · split at h
    · rename_i n ns hn
      obtain ⟨p, xs, rfl, hp, ra⟩ := (r.rp e1 e2 e3).lst_inv
      rw [intsOf_rp hn ra] at hp
      refine ⟨p, n :: ns, rfl, SqL.of hp, by simp, fun m h1 h2 => ?_⟩
      have e : m = maxL (n :: ns) := Int.le_antisymm (maxL_ge _ _ h1) (h2 _ (maxL_mem n ns))
      rw [e]
      exact h.int e3
    · exact h.elim
  · exact h.elim
def blsOf : List D → Option (List Bool)
  | [] => some []
  | .bool i :: r => (blsOf r).map (i :: ·)
  | _ :: _ => none
theorem blsOf_rp {K : PySem.W.Frag} : ∀ {ds : List D} {ns : List Bool} {xs : List V}, blsOf ds = some ns → RpA K H xs ds → xs = ns.map V.bl
  | [], ns, xs, h, r => by
    cases h
    exact List.eq_nil_of_length_eq_zero r.1
  | d :: ds, ns, xs, h, r => by
    cases d with
    | bool i =>
      obtain ⟨ms, h1, h2⟩ := Option.map_eq_some_iff.mp (show (blsOf ds).map (i :: ·) = some ns from h)
      subst h2
      cases xs with
      | nil => have := r.1; cases this
      | cons x xs =>
        have h3 := r.head.bl_inv
        subst h3
        rw [blsOf_rp h1 r.tail]
        rfl
    | none => cases h
    | int _ => cases h
    | str _ => cases h
    | list _ => cases h
    | tuple _ => cases h
    | dict _ => cases h
def allD (_ : Md) : D → Res
  | .list ds => match blsOf ds with
    | some ns => okB (ns.all id)
    | none => .st
  | _ => .st
theorem br_all : BR X (of1 allD) (rAll X.K) := .of1 fun W σ H0 H G H1 m d v Q e1 e2 e3 r h => by
  unfold allD at h
  split at h
  · split at h
    · rename_i ns hn
      obtain ⟨p, xs, rfl, hp, ra⟩ := (r.rp e1 e2 e3).lst_inv
      rw [blsOf_rp hn ra] at hp
      exact ⟨p, ns, rfl, SqL.of hp, h.bl e3⟩
    · exact h.elim
  · exact h.elim
/-- isinstance(e, T), T a built-in type -/
def tyN : D → Option String
  | .none => some "NoneType"
  | .bool _ => some "bool"
  | .int _ => some "int"
  | .str _ => some "str"
  | .list _ => some "list"
  | .tuple _ => some "tuple"
  | _ => none
def isiR (T : String) (d : D) : Res := match tyN d with
  | some n => match kitB n T with
    | some b => okB b
    | none => .st
  | none => .st
end
end Pl

/-! Pl5: isinstance, calls of own defs, what loops walk, targets, comprehensions. -/
namespace Pl
open PySem PySem.Spec PyProof.Rows L2
variable {X : Cx} {H0 G0 G H H1 H2 H' G' : Hp} {W : WX} {σ : St} {Q : VK} {f g : PEnv → Res} {m : Md} {d : D} {v : V}
section
variable {a b c e : Expr} {pos : Pos} {es : List Expr} {fs : PEnv → ResL}

theorem Rp.ty {K : PySem.W.Frag} {n : String} (r : Rp K H v d) (h : tyN d = some n) : TyX K H v (.type n) := by
  cases r with
  | non => cases h; exact .base .non
  | bl b => cases h; exact .base (.bl b)
  | int i => cases h; exact .base (.int i)
  | str x => cases h; exact .base (.str x)
  | lst h1 _ _ => cases h; exact .base (.lst h1)
  | tup h1 _ _ =>
    cases h
    rcases h1 with (h1 | ⟨o, h1⟩) | ⟨o, its, k, h1, h2, _⟩
    · exact .base (.tup h1)
    · exact .fTuple h1
    · exact .kTuple h1 h2
  | scr h1 => cases h
theorem ex_isi {T x : Str} {p p2 : Pos} {n : String} (ha : EX X H0 G0 W e f) (hx : x = "isinstance") (hg : Gl X x) (hm : X.mg x = none) (hgT : Gl X T) (hmT : X.mg T = none) (hv : bootBuiltins T = some (.type n))
    (hn : T ≠ "__name__") (hdb : (T == ("__debug__" : Str)) = false) (he : starEach (e :: [.Name T p2]) X.env = (false, eval e X.env) :: starEach [.Name T p2] X.env) :
    EX X H0 G0 W (.Call (.Name x p) [e, .Name T p2] [] pos) (un1 f fun _ d => isiR n d) := by
  subst hx
  refine pe_imp (pe_callB call_isi hg hm boot_isinstance (pa_cons ha (pa_cons (pe_bltn (v := .ty n) hgT hmT hv rfl hn hdb) pa_nil rfl) he) (by decide) (by decide) he rfl) fun σ H Q q => ?_
  refine (seq1 q).mono fun x H1 ⟨G, m, d, e1, e2, e3, r, h⟩ => ?_
  unfold isiR at h
  split at h
  · rename_i t ht
    split at h
    · rename_i k hk
      exact ⟨x, .ty n, .type t, .type n, k, rfl, .ty n, (r.rp e1 e2 e3).ty ht, kit_ty hk, h.bl e3⟩
    · exact h.elim
  · exact h.elim

/-! ### own defs -/
structure Fi where
  np : Nat
  dfl : List D
  shs : List Bool
  sem : List D → Res
def retM (m : Md) : Md := if m = .ow then .ow else .sh
def FinF (K : PySem.W.Frag) (mg : Str → Option Value) (E : XK) (H G0 : Hp) : Res → VK → Prop
  | .ok m d, Q => ∀ v H', Same H H' → ExRep K nul H G0 H' (retM m) v d → Q v H'
  | .ex c a, _ => ∀ C dd H', mg c = some (.ref C) → Same H H' → H' dd = some (.xd [("at", .int a)]) → E (.ref C) (some dd) H'
  | .st, _ => False
/-- what a def promises, of trees -/
def spF (K : PySem.W.Frag) (mg : Str → Option Value) (fi : Fi) : Sp := fun vs H Q E => ∃ (G0 : Hp) (ds : List D), Same G0 H ∧ vs.length = ds.length ∧ ds.length = fi.np + fi.dfl.length ∧
  (∀ (i : Nat) v d, vs[i]? = some v → ds[i]? = some d → Rp K H v d ∧ (fi.shs[i]? = some true → Rp K G0 v d)) ∧ FinF K mg E H G0 (fi.sem ds) Q
def isoF (fi : Fi) : Bool := !fi.shs.any id
def shOk : List Bool → List (Md × D) → Bool
  | true :: bs, (m, d) :: l => keepM m d && shOk bs l
  | false :: bs, _ :: l => shOk bs l
  | _, _ => true
def calM (fi : Fi) (m : Md) (d : D) : Md := if isSc d = true then .sh else if isoF fi = true then (if m = .ow then .ow else .is) else retM m
def callR (fi : Fi) (l : List (Md × D)) : Res := if l.length = fi.np ∧ shOk fi.shs l = true then (match fi.sem (l.map (·.2) ++ fi.dfl) with
  | .ok m d => .ok (calM fi m d) d
  | .ex c a => .ex c a
  | .st => .st) else .st
structure FnI (P : Program) (w : World) (K : PySem.W.Frag) (mg : Str → Option Value) (base : Heap) (k : Nat) (x : Str) (fi : Fi) : Prop where
  ex : ∃ (f : Addr) (fd : FuncData) (ps : List Str) (dfs : List Value) (dvs : List V), mg x = some (.ref f) ∧ PySem.W.keepIn K (.ref f) = true ∧ FnOk P w K mg base (L2.CX P w) k f fd ps (spF K mg fi) ∧ Binds K fd ps dfs ∧ Vals dvs dfs ∧ RpA K nul dvs fi.dfl
theorem FnI.mono {P : Program} {w : World} {K : PySem.W.Frag} {mg : Str → Option Value} {base : Heap} {j k : Nat} {x : Str} {fi : Fi} (F : FnI P w K mg base j x fi) (h : j ≤ k) : FnI P w K mg base k x fi := by
  obtain ⟨f, fd, ps, dfs, dvs, h1, h2, h3, h4, h5, h6⟩ := F.ex
  exact ⟨f, fd, ps, dfs, dvs, h1, h2, h3.mono h, h4, h5, h6⟩
theorem shOk_at : ∀ {bs : List Bool} {l : List (Md × D)} {i : Nat} {p : Md × D}, shOk bs l = true → bs[i]? = some true → l[i]? = some p → keepM p.1 p.2 = true
  | [], l, i, p, h, e, _ => by simp at e
  | b :: bs, [], i, p, h, _, e => by simp at e
  | b :: bs, (m, d) :: l, 0, p, h, e1, e2 => by
    simp at e1 e2
    subst e1
    subst e2
    have h : (keepM m d && shOk bs l) = true := h
    exact (Bool.and_eq_true_iff.mp h).1
  | b :: bs, (m, d) :: l, i + 1, p, h, e1, e2 => by
    have h2 : shOk bs l = true := by
      cases b with
      | true => exact (Bool.and_eq_true_iff.mp (show (keepM m d && shOk bs l) = true from h)).2
      | false => exact h
    exact shOk_at h2 (by simpa using e1) (by simpa using e2)
theorem nw_nw (g : Same G H) (s : Same H H1) (s2 : Same H1 H2) : Same (nw H1 (nw H G H1) H2) (nw H G H2) := fun p o h => by
  cases e : H1 p with
  | none =>
    rw [nw_new e] at h
    rw [nw_new (none_of_same s e)]
    exact h
  | some u =>
    rw [nw_old e] at h
    exact nw_up s2 _ _ h
theorem ex_call {x : Str} {p : Pos} {k : Nat} {fi : Fi} (F : FnI X.prog X.w X.K X.mg X.base k x fi) (hr : Room k X.A) (hg : Gl X x) (tk : Takes X W) (ha : AX X H0 G0 W (e :: es) fs) (hdb : (x == ("__debug__" : Str)) = false)
    (he : starEach (e :: es) X.env = (false, eval e X.env) :: starEach es X.env) (hpl : (backTo pos (starEach es X.env)).any (·.1) = false) :
    EX X H0 G0 W (.Call (.Name x p) (e :: es) [] pos) (lb fs (callR fi)) := by
  obtain ⟨fa, fd, ps, dfs, dvs, h1, h2, h3, h4, h5, h6⟩ := F.ex
  refine pe_imp (pe_callSD h3 hr hg h1 h2 h4 h5 (passAt tk) ha hdb he hpl) fun σ H Q q => ?_
  refine (seqL q).mono fun xs H1 ⟨G, l, e1, e2, e3, r, h⟩ => ?_
  unfold callR at h
  obtain ⟨⟨c1, c2⟩, h⟩ := Fin.ite (X := X) (W := W) (σ := σ) h
  refine ⟨if isoF fi = true then nul else nw H G H1, l.map (·.2) ++ fi.dfl, ?_, ?_, ?_, fun i v d hv hd => ?_, ?_⟩
  · split
    · exact nul_same
    · exact same_nw e2 e3
  · rw [List.length_append, List.length_append, List.length_map, r.1, h6.1]
  · rw [List.length_append, List.length_map, c1]
  · by_cases hi : i < xs.length
    · rw [List.getElem?_append_left hi] at hv
      rw [List.getElem?_append_left (by rw [List.length_map, ← r.1]; exact hi), List.getElem?_map] at hd
      obtain ⟨pq, h7, rfl⟩ := Option.map_eq_some_iff.mp hd
      have r1 := r.2 i pq v h7 hv
      refine ⟨r1.rp e1 e2 e3, fun hs => ?_⟩
      have iso : isoF fi = false := by
        unfold isoF
        rw [List.any_eq_true.mpr ⟨true, List.mem_of_getElem? hs, rfl⟩]
        rfl
      rw [iso, if_neg Bool.false_ne_true]
      exact r1.keep e1 e2 e3 (shOk_at c2 hs h7)
    · rw [List.getElem?_append_right (Nat.le_of_not_lt hi)] at hv
      rw [List.getElem?_append_right (by rw [List.length_map, ← r.1]; exact Nat.le_of_not_lt hi), List.length_map, ← r.1] at hd
      have r1 := h6.2 _ v d hv hd
      exact ⟨r1.mono nul_same, fun _ => r1.mono nul_same⟩
  · cases hs : fi.sem (l.map (·.2) ++ fi.dfl) with
    | ex cc i => rw [hs] at h; exact fun C dd H' e4 e5 e6 => h C dd H' e4 (e3.trans e5) e6
    | st => rw [hs] at h; exact h
    | ok m d =>
      rw [hs] at h
      intro v H2 s2 rr
      refine h v H2 (e3.trans s2) ?_
      unfold calM
      have g1 : Same (if isoF fi = true then nul else nw H G H1) H1 := by
        split
        · exact nul_same
        · exact same_nw e2 e3
      cases q : isSc d with
      | true => rw [if_pos rfl]; exact (rr.rp nul_same g1 s2).sc q
      | false =>
        rw [if_neg Bool.false_ne_true]
        cases q2 : isoF fi with
        | true =>
          rw [q2, if_pos rfl] at rr
          rw [if_pos rfl]
          by_cases q3 : m = .ow
          · rw [if_pos q3]
            unfold retM at rr
            rw [if_pos q3] at rr
            obtain ⟨p, ys, es, rfl, rfl, n, e, rx⟩ := rr
            exact ⟨p, ys, es, rfl, rfl, none_of_same e3 n, e, rx.mono (rm_mono fun p o h => nw_nul e2 _ _ (nw_dn nul_same e3 _ _ h))⟩
          · rw [if_neg q3]
            unfold retM at rr
            rw [if_neg q3] at rr
            exact Rp.mono rr (nw_dn nul_same e3)
        | false =>
          rw [q2, if_neg Bool.false_ne_true] at rr
          rw [if_neg Bool.false_ne_true]
          unfold retM at rr ⊢
          by_cases q3 : m = .ow
          · rw [if_pos q3] at rr ⊢
            obtain ⟨p, ys, es, rfl, rfl, n, e, rx⟩ := rr
            exact ⟨p, ys, es, rfl, rfl, none_of_same e3 n, e, rx.mono (rm_mono (nw_nw e2 e3 s2))⟩
          · rw [if_neg q3] at rr ⊢
            exact Rp.mono rr (nw_nw e2 e3 s2)

/-! ### what a loop walks -/
inductive ResI where
  | ok (m : Md) (ds : List D) | ex (c : Str) (a : Int) | st
def kpOf (H0 N H1 : Hp) : Md → Hp
  | .bo => H0
  | .tm => H1
  | .bw => H1
  | _ => N
theorem elm_sc (h : isSc d = true) : elm m d = .sh := if_pos h
theorem elm_ns (h : isSc d = false) : elm m d = elmM m := if_neg (by rw [h]; exact Bool.false_ne_true)
/-- the items of J, while what keeps them stands -/
def ItOk (K : PySem.W.Frag) (H0 H G H1 : Hp) (m : Md) (ds : List D) (J : It) : Prop :=
  ∀ H' G' : Hp, Same (kpOf H0 (nw H G H1) H1 m) H' → Same (nw H G H1) G' → Same G' H' → J.stop ds.length H' ∧
    ∀ (i : Nat) d, ds[i]? = some d → J.go i H' ∧ ∀ x H'', J.yld i H' x H'' → Same H' H'' ∧ ExRep K H0 H' G' H'' (elm m d) x d
def FinI (K : PySem.W.Frag) (mg : Str → Option Value) (W : WX) (σ : St) (H0 H G : Hp) : ResI → (It → Hp → Prop) → Prop
  | .ok m ds, Q => ∀ J H1, Same H H1 → ItOk K H0 H G H1 m ds J → Q J H1
  | .ex c a, _ => ∀ C dd H', mg c = some (.ref C) → Same H H' → H' dd = some (.xd [("at", .int a)]) → W (.ref C) (some dd) σ H'
  | .st, _ => False
def tIt (X : Cx) (H0 G0 : Hp) (W : WX) (f : PEnv → ResI) : TI := fun σ H R => ∃ G Rg env, Ab X.K H0 G0 G Rg env σ H ∧ FinI X.K X.mg W σ H0 H G (f env) R
abbrev IX (X : Cx) (H0 G0 : Hp) (W : WX) (tg e : Expr) (f : PEnv → ResI) : Prop := PI X tg e (tIt X H0 G0 W f)
def itD (m : Md) : D → ResI
  | .list ds => .ok m ds
  | .tuple ds => .ok m ds
  | .str z => .ok .sh (z.cps.toList.map fun c => .str ⟨#[c]⟩)
  | _ => .st
def itR (f : PEnv → Res) : PEnv → ResI := fun env => match f env with
  | .ok m d => itD m d
  | .ex c a => .ex c a
  | .st => .st
theorem item_rep {K : PySem.W.Frag} {x : V} (h1 : isSc d = true → Rp K H2 x d) (h2 : isSc d = false → ExRep K H0 H G H2 (elmM m) x d) : ExRep K H0 H G H2 (elm m d) x d := by
  cases q : isSc d with
  | true => rw [elm_sc q]; exact (h1 q).sc q
  | false => rw [elm_ns q]; exact h2 q
/-- how the items of a walked thing are borne -/
def Items (K : PySem.W.Frag) (H0 H G H1 : Hp) (m : Md) (ds : List D) (xs : List V) : Prop :=
  xs.length = ds.length ∧ ∀ H' G' H'' : Hp, Same (kpOf H0 (nw H G H1) H1 m) H' → Same (nw H G H1) G' → Same G' H' → Same H' H'' → ∀ (i : Nat) x d, xs[i]? = some x → ds[i]? = some d → ExRep K H0 H' G' H'' (elm m d) x d
theorem items_sh {K : PySem.W.Frag} {xs : List V} {ds : List D} (ra : RpA K (nw H G H1) xs ds) (hm : elmM m = .sh) : Items K H0 H G H1 m ds xs :=
  ⟨ra.1, fun H' G' H'' k1 k2 k3 k4 i x d hx hd => item_rep (fun q => (ra.2 i x d hx hd).sc q) fun q => by
    rw [hm]
    exact (((ra.2 i x d hx hd).mono k2).mono (nw_base k3 k4) : Rp K (nw H' G' H'') x d)⟩
theorem items_bo {K : PySem.W.Frag} {xs : List V} {ds : List D} (ra : RpA K H0 xs ds) : Items K H0 H G H1 .bo ds xs :=
  ⟨ra.1, fun H' G' H'' k1 k2 k3 k4 i x d hx hd => item_rep (fun q => (ra.2 i x d hx hd).sc q) fun q => ra.2 i x d hx hd⟩
theorem items_tm {K : PySem.W.Frag} {xs : List V} {ds : List D} (ra : RpA K H1 xs ds) : Items K H0 H G H1 .tm ds xs :=
  ⟨ra.1, fun H' G' H'' k1 k2 k3 k4 i x d hx hd => item_rep (fun q => (ra.2 i x d hx hd).sc q) fun q => ((ra.2 i x d hx hd).mono k1).mono k4⟩
theorem ExRep.its {K : PySem.W.Frag} {ds : List D} (b : Same H0 H) (g : Same G H) (s : Same H H1) (r : ExRep K H0 H G H1 m v (.list ds)) :
    ∃ p xs, v = .ref p ∧ kpOf H0 (nw H G H1) H1 m p = some (.lst xs) ∧ Items K H0 H G H1 m ds xs := by
  cases m with
  | bo =>
    obtain ⟨p, xs, e, hp, ra⟩ := (show Rp K H0 v (.list ds) from r).lst_inv
    exact ⟨p, xs, e, hp, items_bo ra⟩
  | tm =>
    obtain ⟨p, xs, e, hp, ra⟩ := (show Rp K H1 v (.list ds) from r).lst_inv
    exact ⟨p, xs, e, hp, items_tm ra⟩
  | bw => obtain ⟨p, xs, es, e, q, hp, ra⟩ := r; cases q; exact ⟨p, xs, e, hp, items_sh ra rfl⟩
  | sh =>
    obtain ⟨p, xs, e, hp, ra⟩ := (show Rp K (nw H G H1) v (.list ds) from r).lst_inv
    exact ⟨p, xs, e, hp, items_sh ra rfl⟩
  | ow => obtain ⟨p, xs, es, e, q, n, hp, ra⟩ := r; cases q; exact ⟨p, xs, e, by rw [show kpOf H0 (nw H G H1) H1 .ow = nw H G H1 from rfl, nw_new n]; exact hp, items_sh (ra.mono same_rm) rfl⟩
  | is =>
    obtain ⟨p, xs, e, hp, ra⟩ := ((show Rp K (nw H nul H1) v (.list ds) from r).mono (nw_nul g)).lst_inv
    exact ⟨p, xs, e, hp, items_sh ra rfl⟩
theorem ExRep.itsT {K : PySem.W.Frag} {ds : List D} (b : Same H0 H) (g : Same G H) (s : Same H H1) (r : ExRep K H0 H G H1 m v (.tuple ds)) :
    ∃ p xs, v = .ref p ∧ SqT K (kpOf H0 (nw H G H1) H1 m) p xs ∧ Items K H0 H G H1 m ds xs := by
  cases m with
  | bo =>
    obtain ⟨p, xs, e, hp, ra⟩ := (show Rp K H0 v (.tuple ds) from r).tup_inv
    exact ⟨p, xs, e, hp, items_bo ra⟩
  | tm =>
    obtain ⟨p, xs, e, hp, ra⟩ := (show Rp K H1 v (.tuple ds) from r).tup_inv
    exact ⟨p, xs, e, hp, items_tm ra⟩
  | bw => obtain ⟨p, xs, es, e, q, hp, ra⟩ := r; cases q
  | sh =>
    obtain ⟨p, xs, e, hp, ra⟩ := (show Rp K (nw H G H1) v (.tuple ds) from r).tup_inv
    exact ⟨p, xs, e, hp, items_sh ra rfl⟩
  | ow => obtain ⟨p, xs, es, e, q, _⟩ := r; cases q
  | is =>
    obtain ⟨p, xs, e, hp, ra⟩ := ((show Rp K (nw H nul H1) v (.tuple ds) from r).mono (nw_nul g)).tup_inv
    exact ⟨p, xs, e, hp, items_sh ra rfl⟩
theorem get_lt {α β : Type} {xs : List α} {ds : List β} (h : xs.length = ds.length) {i : Nat} {d : β} (e : ds[i]? = some d) : ∃ x, xs[i]? = some x :=
  ⟨xs[i]'(by rw [h]; exact (List.getElem?_eq_some_iff.mp e).1), List.getElem?_eq_getElem _⟩
theorem Items.itl {K : PySem.W.Frag} {xs : List V} {ds : List D} {p : Addr} (h : Items K H0 H G H1 m ds xs) (hp : kpOf H0 (nw H G H1) H1 m p = some (.lst xs)) : ItOk K H0 H G H1 m ds (Itl K p) := fun H' G' k1 k2 k3 => by
  have hp' : SqL K H' p xs := SqL.of (k1 _ _ hp)
  refine ⟨⟨xs, hp', Nat.le_of_eq h.1⟩, fun i d hd => ?_⟩
  obtain ⟨x, hx⟩ := get_lt h.1 hd
  refine ⟨⟨xs, x, hp', hx⟩, fun y H'' hy => ?_⟩
  obtain ⟨rfl, e⟩ := hy
  exact ⟨Same.refl _, h.2 _ _ _ k1 k2 k3 (Same.refl _) i y d (e _ hp') hd⟩
theorem Items.itt {K : PySem.W.Frag} {xs : List V} {ds : List D} {p : Addr} (h : Items K H0 H G H1 m ds xs) (hp : SqT K (kpOf H0 (nw H G H1) H1 m) p xs) : ItOk K H0 H G H1 m ds (Itt K p) := fun H' G' k1 k2 k3 => by
  have hp' : SqT K H' p xs := Same.sqT k1 hp
  refine ⟨⟨xs, hp', Nat.le_of_eq h.1⟩, fun i d hd => ?_⟩
  obtain ⟨x, hx⟩ := get_lt h.1 hd
  refine ⟨⟨xs, x, hp', hx⟩, fun y H'' hy => ?_⟩
  obtain ⟨rfl, e⟩ := hy
  exact ⟨Same.refl _, h.2 _ _ _ k1 k2 k3 (Same.refl _) i y d (e _ hp') hd⟩
theorem ix_any {tg : Expr} (he : EX X H0 G0 W e f) : IX X H0 G0 W tg e (itR f) := by
  refine ⟨fun pins s σ H R I h => ?_⟩
  obtain ⟨G, Rg, env, ab, h⟩ := h
  unfold itR at h
  cases hf : f env with
  | ex c i =>
    rw [hf] at h
    exact (pi_list he).run pins s σ H R I ⟨G, Rg, env, ab, by rw [hf]; exact h⟩
  | st => rw [hf] at h; exact h.elim
  | ok m d =>
    rw [hf] at h
    cases d with
    | list ds =>
      refine (pi_list he).run pins s σ H R I ⟨G, Rg, env, ab, ?_⟩
      rw [hf]
      intro x H1 s1 r1
      obtain ⟨p, xs, rfl, hp, hi⟩ := r1.its ab.bH ab.gH s1
      obtain ⟨p2, xs2, e2, hp2, _⟩ := (r1.rp ab.bH ab.gH s1).lst_inv
      cases e2
      exact ⟨p, rfl, ⟨xs2, SqL.of hp2⟩, h _ _ s1 (hi.itl hp)⟩
    | tuple ds =>
      refine (pi_tup he).run pins s σ H R I ⟨G, Rg, env, ab, ?_⟩
      rw [hf]
      intro x H1 s1 r1
      obtain ⟨p, xs, rfl, hp, hi⟩ := r1.itsT ab.bH ab.gH s1
      obtain ⟨p2, xs2, e2, hp2, _⟩ := (r1.rp ab.bH ab.gH s1).tup_inv
      cases e2
      exact ⟨p, rfl, ⟨xs2, hp2⟩, h _ _ s1 (hi.itt hp)⟩
    | str z =>
      refine (pi_str he).run pins s σ H R I ⟨G, Rg, env, ab, ?_⟩
      rw [hf]
      intro x H1 s1 r1
      have x1 := (r1.rp ab.bH ab.gH s1).str_inv
      subst x1
      refine ⟨z, rfl, h _ _ s1 fun H' G' k1 k2 k3 => ⟨?_, fun i d hd => ?_⟩⟩
      · show z.cps.size ≤ _
        rw [List.length_map, Array.length_toList]
        exact Nat.le_refl _
      · rw [List.getElem?_map] at hd
        obtain ⟨c, hc, rfl⟩ := Option.map_eq_some_iff.mp hd
        have hc' : z.cps[i]? = some c := by rw [← hc]; simp
        refine ⟨(Array.getElem?_eq_some_iff.mp hc').1, fun y H'' hy => ?_⟩
        obtain ⟨rfl, c', e, rfl⟩ := hy
        rw [hc'] at e
        cases e
        exact ⟨Same.refl _, .str _⟩
    | none => exact h.elim
    | bool _ => exact h.elim
    | int _ => exact h.elim
    | dict _ => exact h.elim
def rngL (lo : Int) (n : Nat) : List D := (List.range n).map fun (i : Nat) => PyData.int (lo + i)
def rngI : List (Md × D) → ResI
  | [(_, .int j)] => if -(2 ^ 62) ≤ j ∧ j < 2 ^ 62 then .ok .sh (rngL 0 j.toNat) else .st
  | [(_, .int i), (_, .int j)] => if -(2 ^ 62) ≤ i ∧ i < 2 ^ 62 ∧ -(2 ^ 62) ≤ j ∧ j < 2 ^ 62 then .ok .sh (rngL i (j - i).toNat) else .st
  | _ => .st
def rngR (fs : PEnv → ResL) : PEnv → ResI := fun env => match fs env with
  | .ok l => rngI l
  | .ex c a => .ex c a
  | .st => .st
theorem it_rng {K : PySem.W.Frag} {lo : Int} {n : Nat} : ItOk K H0 H G H1 .sh (rngL lo n) (Itr lo n) := fun H' G' k1 k2 k3 => by
  unfold rngL
  refine ⟨?_, fun i d hd => ?_⟩
  · rw [List.length_map, List.length_range]
    exact Nat.le_refl n
  · rw [List.getElem?_map] at hd
    obtain ⟨j, hj, rfl⟩ := Option.map_eq_some_iff.mp hd
    have hi : i < n := by
      have := (List.getElem?_eq_some_iff.mp hj).1
      rwa [List.length_range] at this
    rw [List.getElem?_range hi] at hj
    cases hj
    refine ⟨hi, fun y H'' hy => ?_⟩
    obtain ⟨rfl, rfl⟩ := hy
    exact ⟨Same.refl _, .int _⟩
theorem ix_rng1 {tg : Expr} {p : Pos} (hg : Gl X "range") (hm : X.mg "range" = none) (ha : AX X H0 G0 W [a] fs) (hs : starEach [a] X.env = [(false, eval a X.env)]) (form : ∀ env l, fs env = .ok l → l.length = 1) : IX X H0 G0 W tg (.Call (.Name "range" p) [a] [] pos) (rngR fs) := by
  refine ⟨fun pins s σ H R I h => (pi_range1 hg hm ha hs).run pins s σ H R I ?_⟩
  obtain ⟨G, Rg, env, ab, h⟩ := h
  unfold rngR at h
  refine ⟨G, Rg, env, ab, ?_⟩
  cases hf : fs env with
  | ex c i => rw [hf] at h; exact h
  | st => rw [hf] at h; exact h
  | ok l =>
    rw [hf] at h
    intro xs H1 s1 r1
    have hl := form _ _ hf
    obtain ⟨p, rfl⟩ := List.length_eq_one_iff.mp hl
    obtain ⟨m, d⟩ := p
    obtain ⟨v, ws, rfl, r2, r3⟩ := r1.head
    rw [r3.none]
    cases d with
    | int j =>
      replace h : FinI X.K X.mg W σ H0 H G (if -(2 ^ 62) ≤ j ∧ j < 2 ^ 62 then .ok .sh (rngL 0 j.toNat) else .st) R := h
      by_cases c : -(2 ^ 62) ≤ j ∧ j < 2 ^ 62
      · rw [if_pos c] at h
        have x1 := (r2.rp ab.bH ab.gH s1).int_inv
        subst x1
        exact ⟨j, rfl, c.1, c.2, h _ _ s1 it_rng⟩
      · rw [if_neg c] at h; exact h.elim
    | none => exact h.elim
    | bool _ => exact h.elim
    | str _ => exact h.elim
    | list _ => exact h.elim
    | tuple _ => exact h.elim
    | dict _ => exact h.elim
theorem ix_rng2 {tg : Expr} {p : Pos} (hg : Gl X "range") (hm : X.mg "range" = none) (ha : AX X H0 G0 W [a, b] fs) (hs : starEach [a, b] X.env = [(false, eval a X.env), (false, eval b X.env)]) (hs2 : starEach [b] X.env = [(false, eval b X.env)]) (form : ∀ env l, fs env = .ok l → l.length = 2) : IX X H0 G0 W tg (.Call (.Name "range" p) [a, b] [] pos) (rngR fs) := by
  refine ⟨fun pins s σ H R I h => (pi_range2 hg hm ha hs hs2).run pins s σ H R I ?_⟩
  obtain ⟨G, Rg, env, ab, h⟩ := h
  unfold rngR at h
  refine ⟨G, Rg, env, ab, ?_⟩
  cases hf : fs env with
  | ex c i => rw [hf] at h; exact h
  | st => rw [hf] at h; exact h
  | ok l =>
    rw [hf] at h
    intro xs H1 s1 r1
    have hl := form _ _ hf
    match l, hl with
    | [(m, d), (m', d')], _ =>
    obtain ⟨v, ws, rfl, r2, r3⟩ := r1.head
    obtain ⟨w, ws, rfl, r4, r5⟩ := r3.head
    rw [r5.none]
    cases d with
    | int i =>
      cases d' with
      | int j =>
        replace h : FinI X.K X.mg W σ H0 H G (if -(2 ^ 62) ≤ i ∧ i < 2 ^ 62 ∧ -(2 ^ 62) ≤ j ∧ j < 2 ^ 62 then .ok .sh (rngL i (j - i).toNat) else .st) R := h
        by_cases c : -(2 ^ 62) ≤ i ∧ i < 2 ^ 62 ∧ -(2 ^ 62) ≤ j ∧ j < 2 ^ 62
        · rw [if_pos c] at h
          have x1 := (r2.rp ab.bH ab.gH s1).int_inv
          have x2 := (r4.rp ab.bH ab.gH s1).int_inv
          subst x1 x2
          exact ⟨i, j, rfl, c, h _ _ s1 it_rng⟩
        · rw [if_neg c] at h; exact h.elim
      | none => exact h.elim
      | bool _ => exact h.elim
      | str _ => exact h.elim
      | list _ => exact h.elim
      | tuple _ => exact h.elim
      | dict _ => exact h.elim
    | none => exact h.elim
    | bool _ => exact h.elim
    | str _ => exact h.elim
    | list _ => exact h.elim
    | tuple _ => exact h.elim
    | dict _ => exact h.elim

/-! ### targets -/
abbrev Bd := Md → D → PEnv → Option PEnv
def bdN (i : Nat) : Bd := fun m d env => (slMode m d).map fun s => env.set i (some s)
def bdL : List Nat → List (Md × D) → PEnv → Option PEnv
  | [], [], env => some env
  | i :: is, (m, d) :: l, env => (slMode m d).bind fun s => bdL is l (env.set i (some s))
  | _, _, _ => none
def bdT (is : List Nat) : Bd := fun m d env => match d with
  | .tuple ds => bdL is (ds.map fun z => (elm m z, z)) env
  | _ => none
/-- only the slots is are changed -/
def OnlyAt (is : List Nat) (σ σ' : St) : Prop := σ'.length = σ.length ∧ ∀ j, j ∉ is → σ'[j]? = σ[j]?
def tBd (X : Cx) (H0 G0 : Hp) (is : List Nat) (b : Bd) : TG := fun v σ H Q => ∃ Hs G R env m d env', Ab X.K H0 G0 G R env σ Hs ∧ Same Hs H ∧ ExRep X.K H0 Hs G H m v d ∧ b m d env = some env' ∧
  ∀ G' R' σ', Same G G' → Same G' (nw Hs G H) → Ab X.K H0 G0 G' R' env' σ' H → OnlyAt is σ σ' → Q σ' H
abbrev GX (X : Cx) (H0 G0 : Hp) (tg : Expr) (is : List Nat) (b : Bd) : Prop := PG X tg (tBd X H0 G0 is b)
theorem pg_imp {tg : Expr} {t t' : TG} (h : PG X tg t) (i : ∀ v σ H Q, t' v σ H Q → t v σ H Q) : PG X tg t' := ⟨fun pins s σ H v u Q I r q => h.run pins s σ H v u Q I r (i v σ H Q q)⟩
theorem gx_name {i : Nat} {x : Str} (hN : X.N.Nodup) (hi : X.N[i]? = some x) (hx : Loc X.env.scope x) (hf : X.fn x = true ∨ X.env.scope.names.lookup x = some .local) : GX X H0 G0 (.Name x pos) [i] (bdN i) := by
  refine pg_imp (pg_name hN hi hx hf) fun v σ H Q h => ?_
  obtain ⟨Hs, G, R, env, m, d, env', ab, s, r, hb, q⟩ := h
  obtain ⟨⟨m', d'⟩, hm, rfl⟩ := Option.map_eq_some_iff.mp hb
  obtain ⟨G', R', g1, g2, ab'⟩ := ab.store s r i hm
  refine q _ _ _ g1 g2 ab' ⟨List.length_set .., fun j hj => ?_⟩
  exact List.getElem?_set_ne (fun e => hj (by rw [e]; exact List.mem_singleton.mpr rfl))
def tBds (X : Cx) (H0 G0 : Hp) (is : List Nat) : TGs := fun vs σ H Q => ∃ G R env l env', Ab X.K H0 G0 G R env σ H ∧ ExReps X.K H0 H G H l vs ∧ bdL is l env = some env' ∧
  ∀ G' R' σ', Same G G' → Same G' G → Ab X.K H0 G0 G' R' env' σ' H → OnlyAt is σ σ' → Q σ' H
theorem nw_self : Same (nw H G H) G := fun p o h => by
  cases e : H p with
  | none => rw [nw_new e, e] at h; cases h
  | some u => rwa [nw_old e] at h
theorem ExRep.wide {K : PySem.W.Frag} {G' : Hp} (h : ExRep K H0 H G H1 m v d) (s : Same G G') : ExRep K H0 H G' H1 m v d := by
  have n : Same (nw H G H1) (nw H G' H1) := fun p o h => by
    cases e : H p with
    | none => rw [nw_new e] at h ⊢; exact h
    | some u => rw [nw_old e] at h ⊢; exact s _ _ h
  cases m with
  | tm => exact h
  | bo => exact h
  | bw => obtain ⟨p, xs, ds, e1, e2, e3, r⟩ := h; exact ⟨p, xs, ds, e1, e2, e3, r.mono n⟩
  | sh => exact Rp.mono h n
  | ow => obtain ⟨p, xs, ds, e1, e2, e3, e4, r⟩ := h; exact ⟨p, xs, ds, e1, e2, e3, e4, r.mono (rm_mono n)⟩
  | is => exact h
theorem ExReps.wide {K : PySem.W.Frag} {G' : Hp} {l : List (Md × D)} {vs : List V} (h : ExReps K H0 H G H1 l vs) (s : Same G G') : ExReps K H0 H G' H1 l vs :=
  ⟨h.1, fun i p w h1 h2 => (h.2 i p w h1 h2).wide s⟩
inductive GXs (X : Cx) (H0 G0 : Hp) : List Expr → List Nat → Prop
  | nil : GXs X H0 G0 [] []
  | cons {x : Str} {pos : Pos} {i : Nat} {ts : List Expr} {is : List Nat} (h : GX X H0 G0 (.Name x pos) [i] (bdN i)) (t : GXs X H0 G0 ts is) : GXs X H0 G0 (.Name x pos :: ts) (i :: is)
theorem gxs_pgs {ts : List Expr} {is : List Nat} (h : GXs X H0 G0 ts is) : PGs X ts (tBds X H0 G0 is) := by
  induction h with
  | nil => exact ⟨fun pins s σ H vs us Q I r q => pgs_nil.run pins s σ H vs us Q I r (by
      obtain ⟨G, R, env, l, env', ab, rs, hb, q⟩ := q
      cases l with
      | nil =>
        cases hb
        exact ⟨rs.none, q _ _ _ (fun _ _ h => h) (fun _ _ h => h) ab ⟨rfl, fun _ _ => rfl⟩⟩
      | cons p l => cases hb)⟩
  | @cons x pos i ts is h t ih => exact ⟨fun pins s σ H vs us Q I r q => (pgs_cons h ih).run pins s σ H vs us Q I r (by
      obtain ⟨G, R, env, l, env', ab, rs, hb, q⟩ := q
      cases l with
      | nil => cases hb
      | cons p l =>
        obtain ⟨m, d⟩ := p
        obtain ⟨v, ws, rfl, r1, r2⟩ := rs.head
        obtain ⟨⟨m', d'⟩, hm, hb⟩ := Option.bind_eq_some_iff.mp hb
        refine ⟨v, ws, rfl, H, G, R, env, m, d, env.set i (some (m', d')), ab, Same.refl _, r1, by unfold bdN; rw [hm]; rfl, fun G' R' σ' g1 g2 ab' o1 => ?_⟩
        refine ⟨G', R', _, l, env', ab', r2.wide g1, hb, fun G2 R2 σ2 g3 g4 ab2 o2 => ?_⟩
        refine q _ _ _ (fun p o h => g3 _ _ (g1 _ _ h)) (fun p o h => nw_self _ _ (g2 _ _ (g4 _ _ h))) ab2 ⟨o2.1.trans o1.1, fun j hj => ?_⟩
        rw [o2.2 j (fun z => hj (List.mem_cons_of_mem _ z)), o1.2 j (fun z => hj (by rw [List.mem_singleton.mp z]; exact List.mem_cons_self))])⟩
theorem gxs_assign {ts : List Expr} {is : List Nat} (h : GXs X H0 G0 ts is) : (assignEach ts X.env).length = is.length ∧ (assignEach ts X.env).findIdx? (·.1) = none := by
  induction h with
  | nil => exact ⟨rfl, rfl⟩
  | @cons x pos i ts is _ _ ih =>
    have e : assignEach (.Name x pos :: ts) X.env = (false, assign (.Name x pos) X.env) :: assignEach ts X.env := rfl
    rw [e]
    refine ⟨by rw [List.length_cons, List.length_cons, ih.1], ?_⟩
    rw [List.findIdx?_cons, ih.2]
    rfl
theorem bdL_len : ∀ {is : List Nat} {l : List (Md × D)} {env env' : PEnv}, bdL is l env = some env' → l.length = is.length
  | [], [], _, _, _ => rfl
  | [], _ :: _, _, _, h => by cases h
  | _ :: _, [], _, _, h => by cases h
  | i :: is, (m, d) :: l, env, env', h => by
    obtain ⟨s, _, h⟩ := Option.bind_eq_some_iff.mp h
    rw [List.length_cons, List.length_cons, bdL_len h]
theorem gx_tup {ts : List Expr} {is : List Nat} {k : Nat} (hc : X.calm = true) (h : GXs X H0 G0 ts is) : GX X H0 G0 (.Tuple ts k pos) is (bdT is) := by
  obtain ⟨a1, a2⟩ := gxs_assign h
  refine pg_imp (pg_tup hc (gxs_pgs h) a1 a2) fun v σ H Q q => ?_
  obtain ⟨Hs, G, R, env, m, d, env', ab, s, r, hb, q⟩ := q
  unfold bdT at hb
  split at hb
  · rename_i ds
    obtain ⟨p, xs, rfl, hp, hi⟩ := r.itsT ab.bH ab.gH s
    have hl := bdL_len hb
    rw [List.length_map] at hl
    have kH : Same (kpOf H0 (nw Hs G H) H m) H := by
      cases m with
      | bo => exact fun p o h => s _ _ (ab.bH _ _ h)
      | tm => exact Same.refl _
      | bw => exact Same.refl _
      | sh => exact same_nw ab.gH s
      | ow => exact same_nw ab.gH s
      | is => exact same_nw ab.gH s
    refine ⟨p, xs, rfl, Same.sqT kH hp, by rw [hi.1, hl], nw Hs G H, R, env, _, env', ab.grow s (nw_base ab.gH s) (fun _ _ h => h), ⟨by rw [List.length_map]; exact hi.1, fun i pq w h1 h2 => ?_⟩, hb, fun G' R' σ' g1 g2 ab' o => ?_⟩
    · rw [List.getElem?_map] at h1
      obtain ⟨z, hz, rfl⟩ := Option.map_eq_some_iff.mp h1
      exact hi.2 H (nw Hs G H) H kH (fun _ _ h => h) (same_nw ab.gH s) (Same.refl _) i w z h2 hz
    · exact q _ _ _ (fun p o h => g1 _ _ (nw_base ab.gH s _ _ h)) g2 ab' o
  · cases hb

/-! ### comprehensions -/
def wipeE (env : PEnv) : List Nat → PEnv
  | [] => env
  | v :: vs => (wipeE env vs).set v none
theorem wipeE_length (env : PEnv) : ∀ vs : List Nat, (wipeE env vs).length = env.length
  | [] => rfl
  | v :: vs => by unfold wipeE; rw [List.length_set, wipeE_length env vs]
theorem wipeE_some {env : PEnv} {i : Nat} {x : Md × D} : ∀ {vs : List Nat}, (wipeE env vs)[i]? = some (some x) → env[i]? = some (some x) ∧ i ∉ vs
  | [], h => ⟨h, by simp⟩
  | v :: vs, h => by
    unfold wipeE at h
    rcases set_some h with ⟨_, e, _⟩ | ⟨e, h⟩
    · cases e
    · obtain ⟨h1, h2⟩ := wipeE_some h
      exact ⟨h1, by simp only [List.mem_cons, not_or]; exact ⟨e, h2⟩⟩
theorem wipe_at {σ : St} {i : Nat} : ∀ {vs : List Nat}, i ∈ vs → i < σ.length → (wipe σ vs)[i]? = some none
  | [], h, _ => by simp at h
  | v :: vs, h, hl => by
    unfold wipe
    by_cases e : v = i
    · subst e
      rw [List.getElem?_set_self (by rw [wipe_length]; exact hl)]
    · rw [List.getElem?_set_ne e]
      rcases List.mem_cons.mp h with z | h
      · exact absurd z.symm e
      · exact wipe_at h hl
theorem wipe_only {σ σ' : St} {vs is : List Nat} (o : OnlyAt is (wipe σ vs) σ') (h : ∀ i ∈ is, i ∈ vs) : wipe σ' vs = wipe σ vs := by
  refine List.ext_getElem? fun j => ?_
  by_cases hj : j ∈ vs
  · by_cases hl : j < σ.length
    · rw [wipe_at hj (by rw [o.1, wipe_length]; exact hl), wipe_at hj hl]
    · rw [List.getElem?_eq_none (by rw [wipe_length, o.1, wipe_length]; exact Nat.le_of_not_lt hl), List.getElem?_eq_none (by rw [wipe_length]; exact Nat.le_of_not_lt hl)]
  · rw [wipe_out hj, o.2 j (fun z => hj (h j z))]
theorem Ab.wiped {K : PySem.W.Frag} {R : Nat → Hp} {env : PEnv} (a : Ab K H0 G0 G R env σ H) (vs : List Nat) : Ab K H0 G0 G R (wipeE env vs) (wipe σ vs) H where
  g0 := a.g0
  gH := a.gH
  bH := a.bH
  gN := a.gN
  rH := a.rH
  rN := a.rN
  rd := a.rd
  len := by rw [wipeE_length, wipe_length, a.len]
  sl := fun i m d h => by
    obtain ⟨h1, h2⟩ := wipeE_some h
    obtain ⟨v, e, r⟩ := a.sl i m d h1
    exact ⟨v, by rw [wipe_out h2]; exact e, r⟩
/-- the items that a comprehension makes -/
def lcGo (vs : List Nat) (b : Bd) (c : PEnv → Res) (g : PEnv → Res) (env : PEnv) : Md → List D → Option (List D)
  | _, [] => some []
  | m, d :: ds => (b (elm m d) d (wipeE env vs)).bind fun env' => match c env' with
    | .ok _ (.bool true) => match g env' with
      | .ok m' z => if keepM m' z = true then (lcGo vs b c g env m ds).map (z :: ·) else none
      | _ => none
    | .ok _ (.bool false) => lcGo vs b c g env m ds
    | _ => none
def lcD (vs : List Nat) (b : Bd) (c g : PEnv → Res) (env : PEnv) (m : Md) (ds : List D) : Res := if ds.length ≤ sizeLine then (match lcGo vs b c g env m ds with
  | some zs => .ok .ow (.list zs)
  | none => .st) else .st
def lcR (it : PEnv → ResI) (vs : List Nat) (b : Bd) (c g : PEnv → Res) : PEnv → Res := fun env => match it env with
  | .ok m ds => lcD vs b c g env m ds
  | .ex c a => .ex c a
  | .st => .st
theorem drop_at {α : Type} {ds : List α} {i : Nat} {d : α} (h : ds[i]? = some d) : ds.drop i = d :: ds.drop (i + 1) := by
  obtain ⟨hi, e⟩ := List.getElem?_eq_some_iff.mp h
  rw [← e]
  exact List.drop_eq_getElem_cons hi
theorem kp_same {m : Md} {N : Hp} (b : Same H0 H2) (n : Same N H2) (h : Same H1 H2) : Same (kpOf H0 N H1 m) H2 := by
  cases m with
  | bo => exact b
  | tm => exact h
  | bw => exact h
  | sh => exact n
  | ow => exact n
  | is => exact n
/-- the reading of a comprehension -/
theorem lc_read {it : PEnv → ResI} {vs : List Nat} {b : Bd} {is : List Nat} {c g : PEnv → Res} (hv : ∀ i ∈ is, i ∈ vs) {tt : TT}
    (ht : ∀ σ H (Qt : Bool → Hp → Prop), tTest (tEv X H0 G0 (fun _ _ _ _ => False) c) σ H Qt → tt σ H Qt)
    (q : tEv X H0 G0 W (lcR it vs b c g) σ H Q) : tLc (tIt X H0 G0 W it) (tBd X H0 G0 is b) tt (tEv X H0 G0 (fun _ _ _ _ => False) g) vs σ H Q := by
  obtain ⟨G, R, env, ab, q⟩ := q
  unfold lcR at q
  refine ⟨G, R, env, ab, ?_⟩
  cases hi : it env with
  | ex cc i => rw [hi] at q; exact q
  | st => rw [hi] at q; exact q
  | ok m ds =>
    rw [hi] at q
    intro J H1 s1 hJ D hD
    dsimp only at q
    unfold lcD at q
    obtain ⟨hz, q⟩ := Fin.ite (X := X) (W := W) (σ := σ) q
    split at q
    case h_2 => exact q.elim
    rename_i zs hzs
    have gD : ∀ {G' : Hp}, Same G' (nw H G H1) → G' D = none := fun {G'} h => by
      cases e : G' D with
      | none => rfl
      | some u =>
        have := same_nw ab.gH s1 _ _ (h _ _ e)
        rw [hD] at this
        cases this
    have GD : G D = none := gD (nw_base ab.gH s1)
    refine ⟨fun i k Hh => k = ds.length - i ∧ i ≤ ds.length ∧ Same H1 Hh ∧ ∃ acc done rest, Hh D = some (.lst acc) ∧ RpA X.K (rm D (nw H G Hh)) acc done ∧ lcGo vs b c g env m (ds.drop i) = some rest ∧ zs = done ++ rest ∧ done.length ≤ i,
      ⟨ds.length, rfl, Nat.zero_le _, same_upd hD, [], [], zs, upd_same, .nil, hzs, rfl, Nat.le_refl _⟩, ?_⟩
    rintro i k Hh ⟨rfl, hi1, sh, acc, done, rest, hacc, ra, hgo, e, hdl⟩
    have sHh : Same H Hh := s1.trans sh
    have nwh : Same (nw H G H1) Hh := fun p o h => sh _ _ (same_nw ab.gH s1 _ _ h)
    have kp : Same (kpOf H0 (nw H G H1) H1 m) Hh := kp_same (fun p o h => sHh _ _ (ab.bH _ _ h)) nwh sh
    obtain ⟨j1, j2⟩ := hJ Hh (nw H G H1) kp (fun _ _ h => h) nwh
    by_cases hlt : i < ds.length
    · have hd : ds[i]? = some ds[i] := List.getElem?_eq_getElem hlt
      obtain ⟨jg, jy⟩ := j2 i _ hd
      refine .inr ⟨jg, fun H' => Same H1 H' ∧ ∃ acc done rest, H' D = some (.lst acc) ∧ RpA X.K (rm D (nw H G H')) acc done ∧ lcGo vs b c g env m (ds.drop (i + 1)) = some rest ∧ zs = done ++ rest ∧ done.length ≤ i + 1,
        fun H' ⟨h1, h2⟩ => ⟨ds.length - (i + 1), by omega, rfl, hlt, h1, h2⟩, fun x H' hy => ?_⟩
      obtain ⟨s2, rx⟩ := jy x H' hy
      rw [drop_at hd] at hgo
      unfold lcGo at hgo
      obtain ⟨env', hb, h2⟩ := Option.bind_eq_some_iff.mp hgo
      -- the target
      refine ⟨Hh, nw H G H1, R, _, _, _, env', (ab.grow sHh (nw_base ab.gH s1) (nw_up sh)).wiped vs, s2, rx, hb, fun G' R' σ' g1 g2 ab' o => ⟨wipe_only o hv, ht _ _ _ ⟨G', R', env', ab', ?_⟩⟩⟩
      have G'D : G' D = none := by
        cases e2 : G' D with
        | none => rfl
        | some u =>
          have h3 := g2 _ _ e2
          rw [nw_old hacc] at h3
          rw [gD (G' := nw H G H1) (fun _ _ h => h)] at h3
          cases h3
      have keepG : ∀ {H3 H4 : Hp}, Same H' H3 → Same H3 H4 → Same (nw H3 G' H4) (rm D (nw H G H4)) := fun {H3 H4} s3 s4 p o h => by
        have hp : p ≠ D := fun z => by
          subst z
          rw [nw_old (s3 _ _ (s2 _ _ hacc)), G'D] at h
          cases h
        rw [rm_ne hp]
        cases e3 : H3 p with
        | none =>
          rw [nw_new e3] at h
          have e6 : H p = none := none_of_same (H := H) (H' := H3) (fun p o h => s3 _ _ (s2 _ _ (sHh _ _ h))) e3
          rw [nw_new e6]
          exact h
        | some u =>
          rw [nw_old e3] at h
          have h5 := g2 _ _ h
          cases e4 : Hh p with
          | none =>
            rw [nw_new (none_of_same sHh e4)]
            rw [nw_new e4] at h5
            exact s4 _ _ (s3 _ _ h5)
          | some u2 =>
            rw [nw_old e4] at h5
            exact nw_up (fun p o h => s4 _ _ (s3 _ _ (s2 _ _ (sh _ _ h)))) _ _ h5
      have old : ∀ {H4 : Hp}, Same H' H4 → RpA X.K (rm D (nw H G H4)) acc done := fun {H4} s4 => ra.mono (rm_mono (nw_up (s2.trans s4)))
      split at h2
      · rename_i m1 hc
        rw [hc]
        intro y H3 s3 ry
        refine ⟨true, (ry.rp ab'.bH ab'.gH s3).bl_inv, iteT ⟨G', R', env', ab'.up s3, ?_⟩⟩
        split at h2
        · rename_i m' z hg
          rw [hg]
          intro w H4 s4 rw4
          split at h2
          · rename_i k
            obtain ⟨rest', h3, rfl⟩ := Option.map_eq_some_iff.mp h2
            refine ⟨acc, s4 _ _ (s3 _ _ (s2 _ _ hacc)), ?_, ?_⟩
            · rw [ra.1]
              exact Nat.lt_of_le_of_lt hdl (Nat.lt_of_lt_of_le hlt hz)
            · have hup : Same (rm D (nw H G H4)) (rm D (nw H G (upd H4 D (.lst (acc ++ [w]))))) := fun p o h => by
                by_cases ep : p = D
                · subst ep; rw [rm_eq] at h; cases h
                · rw [rm_ne ep] at h ⊢
                  cases e5 : H p with
                  | none => rw [nw_new e5] at h ⊢; rw [upd_ne ep]; exact h
                  | some u => rw [nw_old e5] at h ⊢; exact h
              refine ⟨fun p o h => ?_, acc ++ [w], done ++ [z], rest', upd_same, ?_, h3, by rw [e]; simp, by simp; omega⟩
              · rw [upd_ne (ne_of_none h hD)]
                exact s4 _ _ (s3 _ _ (s2 _ _ (sh _ _ h)))
              · have rz := rw4.keep (ab'.up s3).bH (ab'.up s3).gH s4 k
                exact ((old (s3.trans s4)).append (RpA.cons (rz.mono (keepG s3 s4)) .nil)).mono hup
          · cases h2
        · cases h2
      · rename_i m1 hc
        rw [hc]
        intro y H3 s3 ry
        refine ⟨false, (ry.rp ab'.bH ab'.gH s3).bl_inv, iteF ⟨fun p o h => s3 _ _ (s2 _ _ (sh _ _ h)), acc, done, rest, s3 _ _ (s2 _ _ hacc), old s3, h2, e, by omega⟩⟩
      · cases h2
    · have ei : i = ds.length := by omega
      subst ei
      refine .inl ⟨j1, ?_⟩
      rw [List.drop_length] at hgo
      have er : rest = [] := by
        have : lcGo vs b c g env m [] = some [] := by rw [lcGo]
        rw [this] at hgo
        exact (Option.some.inj hgo).symm
      subst er
      rw [List.append_nil] at e
      subst e
      exact q _ _ sHh ⟨D, acc, _, rfl, rfl, none_of_same s1 hD, hacc, ra⟩
theorem ex_lc {elt tg iter : Expr} {ifs : List Expr} {scope : Scope} {own : List (Str × Nat)} {it : PEnv → ResI} {is : List Nat} {b : Bd} {c g : PEnv → Res} {tt : TT} (hc : X.calm = true) (hN : X.N.Nodup) (hi : IX X H0 G0 W tg iter it) (ok : BlkOk X.N X.env.scope scope own)
    (hv : ∀ i ∈ is, i ∈ own.map (·.2)) (hg : ∀ (s : Shared) (H : Hp) (C : Addr) (cl : List (Str × Addr)) (fp : List Addr), GX (X.blk s H scope (compEnvC scope cl C X.env) fp) H0 G0 tg is b)
    (ht : ∀ (s : Shared) (H : Hp) (C : Addr) (cl : List (Str × Addr)) (fp : List Addr), PTs (X.blk s H scope (compEnvC scope cl C X.env) fp) ifs tt)
    (htt : ∀ σ H (Qt : Bool → Hp → Prop), tTest (tEv X H0 G0 (fun _ _ _ _ => False) c) σ H Qt → tt σ H Qt)
    (he : ∀ (s : Shared) (H : Hp) (C : Addr) (cl : List (Str × Addr)) (fp : List Addr), EX (X.blk s H scope (compEnvC scope cl C X.env) fp) H0 G0 (fun _ _ _ _ => False) elt g)
    (hs : ∀ x, foldedSetIterable iter X.env x = pure x) : EX X H0 G0 W (.ListComp elt [⟨tg, iter, ifs, 0⟩] scope pos) (lcR it (own.map (·.2)) b c g) :=
  pe_imp (pe_lc (g := tBd X H0 G0 is b) (te := tEv X H0 G0 (fun _ _ _ _ => False) g) hc hN hi ok hg ht he hs) fun σ H Q q => lc_read hv htt q
theorem tt_yes (σ : St) (H : Hp) (Qt : Bool → Hp → Prop) (h : tTest (tEv X H0 G0 (fun _ _ _ _ => False) (fun _ => okB true)) σ H Qt) : tYes σ H Qt := by
  obtain ⟨k, e, q⟩ := okB_end (Q := fun x H' => ∃ k, x = .bl k ∧ Qt k H') h
  cases e
  exact q
end
end Pl

/-! Pl6: statements. -/
namespace Pl
open PySem PySem.Spec PyProof.Rows L2
variable {X : Cx} {H0 G0 G H H1 H2 H' G' : Hp} {W : WX} {σ : St} {Q : VK} {f g : PEnv → Res} {m : Md} {d : D} {v : V} {R : Nat → Hp} {env : PEnv}

/-- what is wanted behind a statement, of trees -/
structure Post where
  nx : PEnv → Prop
  rt : Md → D → Prop
  bk : PEnv → Prop := fun _ => False
  ct : PEnv → Prop := fun _ => False
  ex : Str → Int → PEnv → Prop := fun _ _ _ => False
abbrev TP := Post → PEnv → Prop
def RetRep (K : PySem.W.Frag) (H0 G0 H' : Hp) (m : Md) (v : V) (d : D) : Prop := ExRep K nul H0 G0 H' (retM m) v d
structure Link (X : Cx) (H0 G0 : Hp) (W : WX) (post : Post) (D : Ends) : Prop where
  nx : ∀ env σ H G R, post.nx env → Ab X.K H0 G0 G R env σ H → D.nx σ H
  bk : ∀ env σ H G R, post.bk env → Ab X.K H0 G0 G R env σ H → D.bk σ H
  ct : ∀ env σ H G R, post.ct env → Ab X.K H0 G0 G R env σ H → D.ct σ H
  rt : ∀ m d v H, post.rt m d → Same H0 H → RetRep X.K H0 G0 H m v d → D.rt v H
  ex : ∀ c a env σ H G R C dd, post.ex c a env → Ab X.K H0 G0 G R env σ H → X.mg c = some (.ref C) → H dd = some (.xd [("at", .int a)]) → W (.ref C) (some dd) σ H
def tSt (X : Cx) (H0 G0 : Hp) (W : WX) (t : TP) : TS := fun D σ H => ∃ G R env post, Ab X.K H0 G0 G R env σ H ∧ t post env ∧ Link X H0 G0 W post D
abbrev SX (X : Cx) (H0 G0 : Hp) (W : WX) (st : Stmt) (t : TP) : Prop := PS X st (tSt X H0 G0 W t)
abbrev SXs (X : Cx) (H0 G0 : Hp) (W : WX) (st : List Stmt) (t : TP) : Prop := PSs X st (tSt X H0 G0 W t)
theorem ps_imp {st : Stmt} {t t' : TS} (h : PS X st t) (i : ∀ D σ H, t' D σ H → t D σ H) : PS X st t' := ⟨fun pins s σ H D I q => h.run pins s σ H D I (i D σ H q)⟩
theorem pss_imp {st : List Stmt} {t t' : TS} (h : PSs X st t) (i : ∀ D σ H, t' D σ H → t D σ H) : PSs X st t' := ⟨fun pins s σ H D I q => h.run pins s σ H D I (i D σ H q)⟩
section
variable {a b c e : Expr} {pos : Pos} {es : List Expr} {fs : PEnv → ResL} {st : Stmt} {sts : List Stmt} {t u : TP} {post : Post} {D : Ends}

/-! ### blocks, the simplest statements -/
def nxP : TP := fun post env => post.nx env
def seqP (t u : TP) : TP := fun post env => t { post with nx := u post } env
theorem sx_nil : SXs X H0 G0 W [] nxP := pss_imp pss_nil fun D σ H ⟨G, R, env, post, ab, h, l⟩ => l.nx _ _ _ _ _ h ab
theorem sx_cons (h1 : SX X H0 G0 W st t) (h2 : SXs X H0 G0 W sts u) : SXs X H0 G0 W (st :: sts) (seqP t u) := by
  refine pss_imp (pss_cons h1 h2) fun D σ H ⟨G, R, env, post, ab, h, l⟩ => ?_
  exact ⟨G, R, env, _, ab, h, ⟨fun env σ H G R q ab => ⟨G, R, env, post, ab, q, l⟩, l.bk, l.ct, l.rt, l.ex⟩⟩
theorem sx_one (h1 : SX X H0 G0 W st t) : SXs X H0 G0 W [st] t := pss_one h1
theorem sx_pass : SX X H0 G0 W (.Pass pos) nxP := ps_imp ps_pass fun D σ H ⟨G, R, env, post, ab, h, l⟩ => l.nx _ _ _ _ _ h ab
theorem sx_break : SX X H0 G0 W (.Break pos) (fun post env => post.bk env) := ps_imp ps_break fun D σ H ⟨G, R, env, post, ab, h, l⟩ => l.bk _ _ _ _ _ h ab
theorem sx_continue : SX X H0 G0 W (.Continue pos) (fun post env => post.ct env) := ps_imp ps_continue fun D σ H ⟨G, R, env, post, ab, h, l⟩ => l.ct _ _ _ _ _ h ab
/-- something is kept for good ahead of a statement -/
def frzP (i : Nat) (t : TP) : TP := fun post env => match env[i]? with
  | some (some (.ow, d)) => t post (env.set i (some (.sh, d)))
  | some (some (.is, d)) => t post (env.set i (some (.sh, d)))
  | _ => t post env
theorem frz_in {D : Ends} (q : tSt X H0 G0 W (frzP i t) D σ H) : tSt X H0 G0 W t D σ H := by
  obtain ⟨G, R, env, post, ab, h, l⟩ := q
  unfold frzP at h
  split at h
  · rename_i d e
    obtain ⟨G', R', ab'⟩ := ab.freeze e (.inl rfl)
    exact ⟨G', R', _, post, ab', h, l⟩
  · rename_i d e
    obtain ⟨G', R', ab'⟩ := ab.freeze e (.inr rfl)
    exact ⟨G', R', _, post, ab', h, l⟩
  · exact ⟨G, R, _, post, ab, h, l⟩
theorem sx_frz {i : Nat} (h : SX X H0 G0 W st t) : SX X H0 G0 W st (frzP i t) := ps_imp h fun D σ H q => frz_in q

/-! ### an expression in a statement -/
def resP (r : Res) (post : Post) (env : PEnv) (k : Md → PyData → Prop) : Prop := match r with
  | .ok m d => k m d
  | .ex c a => post.ex c a env
  | .st => False
theorem res_in {K : PySem.W.Frag} {k : Md → PyData → Prop} (ab : Ab X.K H0 G0 G R env σ H) (l : Link X H0 G0 W post D) (h : resP (f env) post env k)
    (q : ∀ m d v H', f env = .ok m d → k m d → Same H H' → ExRep X.K H0 H G H' m v d → Q v H') : tEv X H0 G0 W f σ H Q := by
  refine ⟨G, R, env, ab, ?_⟩
  cases hf : f env with
  | ok m d => rw [hf] at h; exact fun v H' s r => q m d v H' hf h s r
  | ex c a => rw [hf] at h; exact fun C dd H' e1 e2 e3 => l.ex _ _ _ _ _ _ _ _ _ h (ab.up e2) e1 e3
  | st => rw [hf] at h; exact h
def bdP (o : Option PEnv) (k : PEnv → Prop) : Prop := match o with
  | some e => k e
  | none => False
theorem bd_in {o : Option PEnv} {k : PEnv → Prop} (h : bdP o k) : ∃ e, o = some e ∧ k e := by
  cases o with
  | some e => exact ⟨e, rfl, h⟩
  | none => exact h.elim
/-- target = e -/
def asgP (b : Bd) (f : PEnv → Res) : TP := fun post env => resP (f env) post env fun m d => bdP (b m d env) post.nx
theorem sx_asg {tg : Expr} {is : List Nat} {b : Bd} (he : EX X H0 G0 W e f) (hg : GX X H0 G0 tg is b) (hs : swapsWithSole [tg] e pos.line X.env = pure false) (hw : swappedStores [tg] e X.env = pure none) (h1 : (assignEach [tg] X.env).map (·.2) = [assign tg X.env]) :
    SX X H0 G0 W (.Assign [tg] e pos) (asgP b f) := by
  refine ps_imp (ps_asg he hg hs hw h1) fun D σ H ⟨G, R, env, post, ab, h, l⟩ => ?_
  refine res_in (K := X.K) ab l h fun m d v H' hf k s r => ?_
  obtain ⟨env', hb, k⟩ := bd_in k
  exact ⟨H, G, R, env, m, d, env', ab, s, r, hb, fun G' R' σ' g1 g2 ab' o => l.nx _ _ _ _ _ k ab'⟩
/-- name = [..] on one line -/
theorem sx_setLc {i : Nat} {y : Str} {py : Pos} {elt tg iter : Expr} {ifs : List Expr} {scope : Scope} {own : List (Str × Nat)} {it : PEnv → ResI} {is : List Nat} {b : Bd} {c g : PEnv → Res} {tt : TT} {spos : Pos} (hc : X.calm = true) (hN : X.N.Nodup) (hy : X.N[i]? = some y) (hyl : X.env.scope.names.lookup y = some .local)
    (hsw : swapsWith (.ListComp elt [⟨tg, iter, ifs, 0⟩] scope pos) (some (.Name y py)) spos.line X.env = pure true) (hi : IX X H0 G0 W tg iter it) (ok : BlkOk X.N X.env.scope scope own)
    (hv : ∀ i ∈ is, i ∈ own.map (·.2)) (hg : ∀ (s : Shared) (H : Hp) (C : Addr) (cl : List (Str × Addr)) (fp : List Addr), GX (X.blk s H scope (compEnvC scope cl C X.env) fp) H0 G0 tg is b)
    (ht : ∀ (s : Shared) (H : Hp) (C : Addr) (cl : List (Str × Addr)) (fp : List Addr), PTs (X.blk s H scope (compEnvC scope cl C X.env) fp) ifs tt)
    (htt : ∀ σ H (Qt : Bool → Hp → Prop), tTest (tEv X H0 G0 (fun _ _ _ _ => False) c) σ H Qt → tt σ H Qt)
    (he : ∀ (s : Shared) (H : Hp) (C : Addr) (cl : List (Str × Addr)) (fp : List Addr), EX (X.blk s H scope (compEnvC scope cl C X.env) fp) H0 G0 (fun _ _ _ _ => False) elt g)
    (hs : ∀ x, foldedSetIterable iter X.env x = pure x) : SX X H0 G0 W (.Assign [.Name y py] (.ListComp elt [⟨tg, iter, ifs, 0⟩] scope pos) spos) (asgP (bdN i) (lcR it (own.map (·.2)) b c g)) := by
  refine ps_imp (ps_setLc (g := tBd X H0 G0 is b) (te := tEv X H0 G0 (fun _ _ _ _ => False) g) hc hN hy hyl hsw hi ok hg ht he hs) fun D σ H ⟨G, R, env, post, ab, h, l⟩ => ?_
  refine lc_read hv htt (res_in (K := X.K) ab l h fun m d v H' hf k s r => ?_)
  obtain ⟨env', hb, k⟩ := bd_in k
  obtain ⟨⟨m', d'⟩, hm, rfl⟩ := Option.map_eq_some_iff.mp hb
  obtain ⟨G', R', g1, g2, ab'⟩ := ab.store s r i hm
  exact l.nx _ _ _ _ _ k ab'
/-- return e -/
def rtM (m : Md) (d : PyData) : Bool := isSc d || keepMd m
def retP (f : PEnv → Res) : TP := fun post env => resP (f env) post env fun m d => rtM m d = true ∧ post.rt m d
theorem ret_rep {K : PySem.W.Frag} (ab : Ab K H0 G0 G R env σ H) (s : Same H H1) (r : ExRep K H0 H G H1 m v d) (h : rtM m d = true) : RetRep K H0 G0 H1 m v d := by
  have n : Same (nw H G H1) (nw H0 G0 H1) := fun p o h => by
    cases e : H p with
    | none => rw [nw_new e] at h; rw [nw_new (none_of_same ab.bH e)]; exact h
    | some u =>
      rw [nw_old e] at h
      cases e0 : H0 p with
      | none => rw [nw_new e0]; exact s _ _ (ab.gH _ _ h)
      | some u0 =>
        rw [nw_old e0]
        rcases ab.gN _ _ h with q | q
        · exact q
        · rw [e0] at q; cases q
  unfold RetRep retM
  cases q : isSc d with
  | true =>
    have r0 := r.rp ab.bH ab.gH s
    by_cases e : m = .ow
    · subst e
      obtain ⟨p, xs, ds, _, rfl, _⟩ := r
      cases q
    · rw [if_neg e]; exact r0.sc q
  | false =>
    unfold rtM at h
    rw [q] at h
    cases m with
    | sh => exact Rp.mono r n
    | ow => obtain ⟨p, xs, ds, rfl, rfl, e1, e2, r⟩ := r; exact ⟨p, xs, ds, rfl, rfl, none_of_same ab.bH e1, e2, r.mono (rm_mono n)⟩
    | is => exact (Rp.mono r (nw_nul ab.gH)).mono n
    | bw => cases h
    | bo => cases h
    | tm => cases h
theorem sx_ret (he : EX X H0 G0 W e f) : SX X H0 G0 W (.Return (some e) pos) (retP f) := by
  refine ps_imp (ps_ret he) fun D σ H ⟨G, R, env, post, ab, h, l⟩ => ?_
  exact res_in (K := X.K) ab l h fun m d v H' hf k s r => l.rt _ _ _ _ k.2 (ab.bH.trans s) (ret_rep ab s r k.1)
theorem sx_retN : SX X H0 G0 W (.Return none pos) (fun post env => post.rt .sh .none) :=
  ps_imp ps_retN fun D σ H ⟨G, R, env, post, ab, h, l⟩ => l.rt _ _ _ _ h ab.bH (Rp.non)
/-- return x, x a name -/
def retV (i : Nat) : TP := fun post env => match env[i]? with
  | some (some (m, d)) => rtM m d = true ∧ post.rt m d
  | _ => False
theorem sx_retV {i : Nat} {x : Str} {p : Pos} (hN : X.N[i]? = some x) (hv : Vis X.env.scope x) (hd : (x == ("__debug__" : Str)) = false) (hcd : (x == ("__classdict__" : Str)) = false) : SX X H0 G0 W (.Return (some (.Name x p)) pos) (retV i) := by
  refine ps_imp (ps_ret (pe_var hN hv hd hcd)) fun D σ H ⟨G, R, env, post, ab, h, l⟩ => ?_
  unfold retV at h
  split at h
  · rename_i m d e
    obtain ⟨v, e1, r⟩ := ab.sl i m d e
    refine ⟨v, e1, l.rt _ _ _ _ h.2 ab.bH ?_⟩
    have n : Same G (nw H0 G0 H) := fun p o h => by
      cases e0 : H0 p with
      | none => rw [nw_new e0]; exact ab.gH _ _ h
      | some u0 =>
        rw [nw_old e0]
        rcases ab.gN _ _ h with q | q
        · exact q
        · rw [e0] at q; cases q
    have nR : Same (R i) (nw H0 G0 H) := fun p o h => by
      rw [nw_new (ab.rN i p o h).2]
      exact ab.rH i _ _ h
    unfold RetRep retM
    cases m with
    | sh => exact Rp.mono r n
    | ow =>
      obtain ⟨p, xs, ds, rfl, rfl, e2, e3, r⟩ := r
      refine ⟨p, xs, ds, rfl, rfl, (ab.rN i p _ e2).2, ab.rH i _ _ e2, r.mono fun q o h => ?_⟩
      have hq : q ≠ p := fun z => by
        subst z
        rw [(ab.rN i q _ e2).1] at h
        cases h
      rw [rm_ne hq]
      exact n _ _ h
    | is => exact Rp.mono r nR
    | bw => exact r.elim
    | bo =>
      have q : isSc d = true := by
        have := h.1
        unfold rtM keepMd at this
        simpa using this
      exact Rp.sc r q
    | tm => exact r.elim
  · exact h.elim
/-- if -/
def brP (d : PyData) (A B : Prop) : Prop := match d with
  | .bool true => A
  | .bool false => B
  | _ => False
def ifP (c : PEnv → Res) (t u : TP) : TP := fun post env => resP (c env) post env fun _ d => brP d (t post env) (u post env)
theorem sx_if {A B : List Stmt} (hc : TX X H0 G0 W c f) (h1 : SXs X H0 G0 W A t) (h2 : SXs X H0 G0 W B u) : SX X H0 G0 W (.If c A B pos) (ifP f t u) := by
  refine ps_imp (ps_if hc h1 h2) fun D σ H ⟨G, R, env, post, ab, h, l⟩ => ?_
  refine res_in (K := X.K) ab l h fun m d v H' hf k s r => ?_
  unfold brP at k
  split at k
  · exact ⟨true, (r.rp ab.bH ab.gH s).bl_inv, iteT ⟨G, R, env, post, ab.up s, k, l⟩⟩
  · exact ⟨false, (r.rp ab.bH ab.gH s).bl_inv, iteF ⟨G, R, env, post, ab.up s, k, l⟩⟩
  · exact k.elim
/-- while -/
def whP (c : PEnv → Res) (t : TP) : TP := fun post env => ∃ I : Nat → PEnv → Prop, (∃ n, I n env) ∧ ∀ n env, I n env → resP (c env) post env fun _ d => brP d (t { post with nx := fun e => ∃ n', n' < n ∧ I n' e, ct := fun e => ∃ n', n' < n ∧ I n' e, bk := post.nx } env) (post.nx env)
theorem sx_while {A : List Stmt} (hp : PassesOwn (model X.prog X.w) X.A X.env X.xe) (hc : TX X H0 G0 W c f) (h1 : SXs X H0 G0 W A t) : SX X H0 G0 W (.While c A [] pos) (whP f t) := by
  refine ps_imp (ps_while hp hc h1) fun D σ H ⟨G, R, env, post, ab, ⟨I, ⟨n, h0⟩, h⟩, l⟩ => ?_
  refine ⟨fun n σ H => ∃ G R env, Ab X.K H0 G0 G R env σ H ∧ I n env, ⟨n, G, R, env, ab, h0⟩, ?_⟩
  rintro n σ H ⟨G, R, env, ab, hI⟩
  refine res_in (K := X.K) ab l (h n env hI) fun m d v H' hf k s r => ?_
  unfold brP at k
  split at k
  · refine ⟨true, (r.rp ab.bH ab.gH s).bl_inv, iteT ⟨fun σ' H' => ∃ n', n' < n ∧ ∃ G R env, Ab X.K H0 G0 G R env σ' H' ∧ I n' env, fun _ _ q => q, G, R, env, _, ab.up s, k, ⟨fun env σ H G R q ab => ?_, fun env σ H G R q ab => l.nx _ _ _ _ _ q ab, fun env σ H G R q ab => ?_, l.rt, l.ex⟩⟩⟩
    · obtain ⟨n', h1, h2⟩ := q
      exact ⟨n', h1, G, R, env, ab, h2⟩
    · obtain ⟨n', h1, h2⟩ := q
      exact ⟨n', h1, G, R, env, ab, h2⟩
  · exact ⟨false, (r.rp ab.bH ab.gH s).bl_inv, iteF (l.nx _ _ _ _ _ k (ab.up s))⟩
  · exact k.elim
/-- for -/
def okLoop : Md → Bool
  | .bw => false
  | .tm => false
  | _ => true
def forP (it : PEnv → ResI) (b : Bd) (t : TP) : TP := fun post env => match it env with
  | .ok m ds => okLoop m = true ∧ ∃ I : Nat → PEnv → Prop, I 0 env ∧ ∀ i env, I i env → (i = ds.length → post.nx env) ∧
      ∀ d, ds[i]? = some d → bdP (b (elm m d) d env) fun env' => t { post with nx := I (i + 1), ct := I (i + 1), bk := post.nx } env'
  | .ex c a => post.ex c a env
  | .st => False
theorem Ab.rebase {Gs : Hp} (a : Ab X.K H0 Gs G R env σ H) (h : ∀ p o, Gs p = some o → G0 p = some o ∨ H0 p = none) (g : Same G0 Gs) : Ab X.K H0 G0 G R env σ H :=
  { a with g0 := fun p o q => a.g0 _ _ (g _ _ q), gN := fun p o q => (a.gN p o q).elim (h p o) Or.inr }
theorem RetRep.rebase {K : PySem.W.Frag} {Gs : Hp} (r : RetRep K H0 Gs H m v d) (h : ∀ p o, Gs p = some o → G0 p = some o ∨ H0 p = none) : RetRep K H0 G0 H m v d := by
  have n : Same (nw H0 Gs H) (nw H0 G0 H) := fun p o q => by
    cases e0 : H0 p with
    | none => rw [nw_new e0] at q ⊢; exact q
    | some u0 =>
      rw [nw_old e0] at q ⊢
      rcases h p o q with z | z
      · exact z
      · rw [e0] at z; cases z
  unfold RetRep retM at r ⊢
  by_cases e : m = .ow
  · rw [if_pos e] at r ⊢
    obtain ⟨p, xs, ds, e1, e2, e3, e4, r⟩ := r
    exact ⟨p, xs, ds, e1, e2, e3, e4, r.mono (rm_mono n)⟩
  · rw [if_neg e] at r ⊢
    exact Rp.mono r n
theorem sx_for {tg : Expr} {is : List Nat} {b : Bd} {it : PEnv → ResI} {A : List Stmt} (hp : PassesOwn (model X.prog X.w) X.A X.env X.xe) (hc : X.calm = true) (hi : IX X H0 G0 W tg e it) (hg : ∀ G0, GX X H0 G0 tg is b) (h1 : ∀ G0, SXs X H0 G0 W A t) (hs : ∀ x, foldedSetIterable e X.env x = pure x) :
    SX X H0 G0 W (.For tg e A [] pos) (forP it b t) := by
  -- the targets and the body by what they read off any base
  have hg' : PG X tg (fun v σ H Q => ∃ Gs, tBd X H0 Gs is b v σ H Q) := ⟨fun pins s σ H v u Q I r ⟨Gs, q⟩ => (hg Gs).run pins s σ H v u Q I r q⟩
  have hb' : PSs X A (fun D σ H => ∃ Gs, tSt X H0 Gs W t D σ H) := ⟨fun pins s σ H D I ⟨Gs, q⟩ => (h1 Gs).run pins s σ H D I q⟩
  refine ps_imp (ps_for hp hc hi hg' hb' hs) fun D σ H ⟨G, R, env, post, ab, h, l⟩ => ?_
  unfold forP at h
  refine ⟨G, R, env, ab, ?_⟩
  cases hf : it env with
  | ex c a => rw [hf] at h; exact fun C dd H' e1 e2 e3 => l.ex _ _ _ _ _ _ _ _ _ h (ab.up e2) e1 e3
  | st => rw [hf] at h; exact h
  | ok m ds =>
    rw [hf] at h
    obtain ⟨hm, I, h0, h⟩ := h
    intro J H1 s1 hJ
    have gs : ∀ p o, nw H G H1 p = some o → G0 p = some o ∨ H0 p = none := fun p o q => by
      cases e : H p with
      | none => exact .inr (none_of_same ab.bH e)
      | some u => rw [nw_old e] at q; exact ab.gN _ _ q
    have gg : Same G0 (nw H G H1) := fun p o q => nw_base ab.gH s1 _ _ (ab.g0 _ _ q)
    have ab1 : Ab X.K H0 (nw H G H1) (nw H G H1) R env σ H1 :=
      { ab.grow s1 (nw_base ab.gH s1) (fun _ _ h => h) with g0 := fun _ _ h => h, gN := fun p o q => .inl q }
    refine ⟨fun i k σ H' => k = ds.length - i ∧ i ≤ ds.length ∧ ∃ G2 R2 env2, Ab X.K H0 (nw H G H1) G2 R2 env2 σ H' ∧ I i env2, ?_, ?_⟩
    · exact ⟨ds.length, rfl, Nat.zero_le _, _, R, env, ab1, h0⟩
    rintro i k σ2 H2 ⟨rfl, hi1, G2, R2, env2, ab2, hI⟩
    have kp : Same (kpOf H0 (nw H G H1) H1 m) H2 := by
      cases m with
      | bo => exact ab2.bH
      | tm => cases hm
      | bw => cases hm
      | sh => exact fun p o q => ab2.gH _ _ (ab2.g0 _ _ q)
      | ow => exact fun p o q => ab2.gH _ _ (ab2.g0 _ _ q)
      | is => exact fun p o q => ab2.gH _ _ (ab2.g0 _ _ q)
    obtain ⟨j1, j2⟩ := hJ H2 G2 kp ab2.g0 ab2.gH
    obtain ⟨q1, q2⟩ := h i env2 hI
    by_cases hlt : i < ds.length
    · have hd : ds[i]? = some ds[i] := List.getElem?_eq_getElem hlt
      obtain ⟨jg, jy⟩ := j2 i _ hd
      obtain ⟨env', hb, q⟩ := bd_in (q2 _ hd)
      refine .inr ⟨jg, fun σ' H' => ∃ G2 R2 env2, Ab X.K H0 (nw H G H1) G2 R2 env2 σ' H' ∧ I (i + 1) env2, fun σ' H' ⟨G3, R3, env3, ab3, h3⟩ => ⟨ds.length - (i + 1), by omega, rfl, hlt, G3, R3, env3, ab3, h3⟩, fun x H' hy => ?_⟩
      obtain ⟨s2, rx⟩ := jy x H' hy
      refine ⟨nw H G H1, H2, G2, R2, env2, _, _, env', ab2, s2, rx, hb, fun G3 R3 σ3 g1 g2 ab3 o => ⟨nw H G H1, G3, R3, env', _, ab3, q, ⟨fun env σ H G R q ab => ⟨G, R, env, ab, q⟩, fun env σ H G R q ab => l.nx _ _ _ _ _ q (ab.rebase gs gg), fun env σ H G R q ab => ⟨G, R, env, ab, q⟩, fun m d v H q s r => l.rt _ _ _ _ q s (r.rebase gs), fun c a env σ H G R C dd q ab => l.ex _ _ _ _ _ _ _ _ _ q (ab.rebase gs gg)⟩⟩⟩
    · have ei : i = ds.length := by omega
      subst ei
      exact .inl ⟨j1, l.nx _ _ _ _ _ (q1 rfl) (ab2.rebase gs gg)⟩
end
end Pl

/-! Pl7: lists that are changed, counters, raise. -/
namespace Pl
open PySem PySem.Spec PyProof.Rows L2
variable {X : Cx} {H0 G0 G H H1 H2 H' G' : Hp} {W : WX} {σ : St} {Q : VK} {f g : PEnv → Res} {m : Md} {d : D} {v : V} {R : Nat → Hp} {env : PEnv}
section
variable {a b c e o : Expr} {pos apos cpos : Pos} {es : List Expr} {fs : PEnv → ResL} {st : Stmt} {sts : List Stmt} {t u : TP} {post : Post} {D : Ends}

/-- the list in slot i, of one's own -/
def owP (env : PEnv) (i : Nat) (k : List PyData → Prop) : Prop := match env[i]? with
  | some (some (.ow, .list ds)) => k ds
  | _ => False
theorem ow_in {i : Nat} {k : List PyData → Prop} (h : owP env i k) : ∃ ds, env[i]? = some (some (.ow, .list ds)) ∧ k ds := by
  unfold owP at h
  split at h
  · exact ⟨_, by assumption, h⟩
  · exact h.elim
/-- what is needed of o.name(..) as a statement -/
structure MOk (X : Cx) (o : Expr) (name : Str) (es : List Expr) (apos cpos : Pos) : Prop where
  hbase : attributeBase o name X.env (eval o X.env) = eval o X.env
  hline : (apos.endLine == cpos.line) = true
def appP (i : Nat) (f : PEnv → Res) : TP := fun post env => owP env i fun ds => resP (f env) post env fun m d => keepM m d = true ∧ ds.length < sizeLine ∧ post.nx (env.set i (some (.ow, .list (ds ++ [d]))))
theorem Ab.slot {K : PySem.W.Frag} {i : Nat} {ds : List PyData} (ab : Ab K H0 G0 G R env σ H) (h : env[i]? = some (some (.ow, .list ds))) : ∃ p xs, σ[i]? = some (some (.ref p)) ∧ H p = some (.lst xs) := by
  obtain ⟨v, e, p, xs, ds', rfl, q, e3, e4, r⟩ := ab.sl i _ _ h
  exact ⟨p, xs, e, ab.rH i _ _ e3⟩
theorem sx_append {i : Nat} {x : Str} {px : Pos} (hN : X.N[i]? = some x) (hv : Vis X.env.scope x) (hd : (x == ("__debug__" : Str)) = false) (hcd : (x == ("__classdict__" : Str)) = false) (he : EX X H0 G0 W e f)
    (hb : attributeBase (.Name x px) "append" X.env (eval (.Name x px) X.env) = eval (.Name x px) X.env) (hline : (apos.endLine == cpos.line) = true) (hs : starEach [e] X.env = [(false, eval e X.env)])
    (hsw : swapsWith (.Call (.Attribute (.Name x px) "append" apos) [e] [] cpos) none pos.line X.env = pure false) :
    SX X H0 G0 W (.Expr (.Call (.Attribute (.Name x px) "append" apos) [e] [] cpos) pos) (appP i f) := by
  refine ps_imp (ps_expr (pe_bm PySem.F.plainAttrs_list PySem.F.slot_list_append PySem.F.type_list_append mt_append (pe_var hN hv hd hcd) (pa_cons he pa_nil hs) hb (by rw [hs]; rfl) hline hs (by rfl)) hsw) fun D σ H ⟨G, R, env, post, ab, h, l⟩ => ?_
  obtain ⟨ds, hi, h⟩ := ow_in h
  obtain ⟨p, xs, e1, e2⟩ := ab.slot hi
  refine ⟨.ref p, e1, .inl ⟨rfl, xs, SqL.of e2⟩, res_in (K := X.K) ab l h fun m d v H' hf k s r => ?_⟩
  obtain ⟨k1, k2, k⟩ := k
  have ab2 := ab.grow s (nw_base ab.gH s) (fun _ _ h => h)
  obtain ⟨p2, xs2, e3, e4, r2, _, ch⟩ := ab2.change (es := ds ++ [d]) hi
  rw [e1] at e3
  cases e3
  refine ⟨p, xs2, v, rfl, rfl, e4, by rw [r2.1]; exact k2, ?_⟩
  exact l.nx _ _ _ _ _ k (ch _ (r2.append (RpA.cons (r.keep ab.bH ab.gH s k1) .nil)))
def lsP (d : PyData) (k : List PyData → Prop) : Prop := match d with
  | .list zs => k zs
  | _ => False
def inP (d : PyData) (k : Int → Prop) : Prop := match d with
  | .int i => k i
  | _ => False
def extP (i : Nat) (f : PEnv → Res) : TP := fun post env => owP env i fun ds => resP (f env) post env fun m d => lsP d fun zs => elOk m zs = true ∧ ds.length + zs.length ≤ sizeLine ∧ post.nx (env.set i (some (.ow, .list (ds ++ zs))))
theorem sx_extend {i : Nat} {x : Str} {px : Pos} (hN : X.N[i]? = some x) (hv : Vis X.env.scope x) (hd : (x == ("__debug__" : Str)) = false) (hcd : (x == ("__classdict__" : Str)) = false) (he : EX X H0 G0 W e f)
    (hb : attributeBase (.Name x px) "extend" X.env (eval (.Name x px) X.env) = eval (.Name x px) X.env) (hline : (apos.endLine == cpos.line) = true) (hs : starEach [e] X.env = [(false, eval e X.env)])
    (hsw : swapsWith (.Call (.Attribute (.Name x px) "extend" apos) [e] [] cpos) none pos.line X.env = pure false) :
    SX X H0 G0 W (.Expr (.Call (.Attribute (.Name x px) "extend" apos) [e] [] cpos) pos) (extP i f) := by
  refine ps_imp (ps_expr (pe_bm PySem.F.plainAttrs_list PySem.F.slot_list_extend PySem.F.type_list_extend mt_extend (pe_var hN hv hd hcd) (pa_cons he pa_nil hs) hb (by rw [hs]; rfl) hline hs (by rfl)) hsw) fun D σ H ⟨G, R, env, post, ab, h, l⟩ => ?_
  obtain ⟨ds, hi, h⟩ := ow_in h
  obtain ⟨p, xs, e1, e2⟩ := ab.slot hi
  refine ⟨.ref p, e1, .inl ⟨rfl, xs, SqL.of e2⟩, res_in (K := X.K) ab l h fun m d v H' hf k s r => ?_⟩
  unfold lsP at k
  split at k
  · rename_i zs
    obtain ⟨k1, k2, k⟩ := k
    obtain ⟨q, ys, rfl, hq, rq⟩ := r.els ab.bH ab.gH s k1
    have ab2 := ab.grow s (nw_base ab.gH s) (fun _ _ h => h)
    obtain ⟨p2, xs2, e3, e4, r2, _, ch⟩ := ab2.change (es := ds ++ zs) hi
    rw [e1] at e3
    cases e3
    refine ⟨p, q, xs2, ys, rfl, rfl, e4, hq, by rw [r2.1, rq.1]; exact k2, ?_⟩
    exact l.nx _ _ _ _ _ k (ch _ (r2.append rq))
  · exact k.elim
def popP (i : Nat) : TP := fun post env => owP env i fun ds => ds ≠ [] ∧ post.nx (env.set i (some (.ow, .list ds.dropLast)))
theorem sx_pop {i : Nat} {x : Str} {px : Pos} (hN : X.N[i]? = some x) (hv : Vis X.env.scope x) (hd : (x == ("__debug__" : Str)) = false) (hcd : (x == ("__classdict__" : Str)) = false)
    (hb : attributeBase (.Name x px) "pop" X.env (eval (.Name x px) X.env) = eval (.Name x px) X.env) (hline : (apos.endLine == cpos.line) = true)
    (hsw : swapsWith (.Call (.Attribute (.Name x px) "pop" apos) [] [] cpos) none pos.line X.env = pure false) :
    SX X H0 G0 W (.Expr (.Call (.Attribute (.Name x px) "pop" apos) [] [] cpos) pos) (popP i) := by
  refine ps_imp (ps_expr (pe_bm0 PySem.F.plainAttrs_list PySem.F.slot_list_pop PySem.F.type_list_pop mt_pop (pe_var hN hv hd hcd) hb hline) hsw) fun D σ H ⟨G, R, env, post, ab, h, l⟩ => ?_
  obtain ⟨ds, hi, k1, k⟩ := ow_in h
  obtain ⟨p, xs, e1, e2, r2, _, ch⟩ := ab.change (es := ds.dropLast) hi
  have hx : xs.length ≠ 0 := fun z => k1 (List.eq_nil_of_length_eq_zero (by rw [← r2.1, z]))
  refine ⟨.ref p, e1, .inl ⟨rfl, xs, SqL.of e2⟩, p, xs, xs[xs.length - 1], rfl, rfl, e2, List.getElem?_eq_getElem _, ?_⟩
  exact l.nx _ _ _ _ _ k (ch _ r2.dropLast)
/-- x[k] = e, x a list of one's own -/
def stoP (i : Nat) (f g : PEnv → Res) : TP := fun post env => owP env i fun ds => resP (f env) post env fun m d => resP (g env) post env fun _ z => inP z fun k => keepM m d = true ∧ ∃ j, ixN ds.length k = some j ∧ post.nx (env.set i (some (.ow, .list (ds.set j d))))
theorem sx_store {i : Nat} {x : Str} {px tp : Pos} (hN : X.N[i]? = some x) (hv : Vis X.env.scope x) (hd : (x == ("__debug__" : Str)) = false) (hcd : (x == ("__classdict__" : Str)) = false) (he : EX X H0 G0 W e f) (hk : EX X H0 G0 W o g)
    (hs : swapsWithSole [.Subscript (.Name x px) o tp] e pos.line X.env = pure false) (hw : swappedStores [.Subscript (.Name x px) o tp] e X.env = pure none) (h1 : (assignEach [.Subscript (.Name x px) o tp] X.env).map (·.2) = [assign (.Subscript (.Name x px) o tp) X.env])
    (hg : ∀ {to ti : TE} (ho : PE X (.Name x px) to) (hi : PE X o ti), PG X (.Subscript (.Name x px) o tp) (gSub to ti rSetL)) : SX X H0 G0 W (.Assign [.Subscript (.Name x px) o tp] e pos) (stoP i f g) := by
  refine ps_imp (ps_asg he (hg (pe_var hN hv hd hcd) hk) hs hw h1) fun D σ H ⟨G, R, env, post, ab, h, l⟩ => ?_
  obtain ⟨ds, hi, h⟩ := ow_in h
  obtain ⟨p, xs, e1, e2⟩ := ab.slot hi
  refine res_in (K := X.K) ab l h fun m d v H' hf k s r => ?_
  refine ⟨.ref p, e1, res_in (K := X.K) (ab.up s) l k fun m2 z y H2 hg2 k s2 r2 => ?_⟩
  unfold inP at k
  split at k
  · rename_i k0
    obtain ⟨k1, j, k2, k⟩ := k
    have y1 := (r2.rp (ab.up s).bH (ab.up s).gH s2).int_inv
    subst y1
    have sA := s.trans s2
    have ab2 := ab.grow sA (nw_base ab.gH sA) (fun _ _ h => h)
    obtain ⟨p2, xs2, e3, e4, r3, _, ch⟩ := ab2.change (es := ds.set j d) hi
    rw [e1] at e3
    cases e3
    refine ⟨p, xs2, k0, j, rfl, rfl, e4, by rw [r3.1]; exact k2, ?_⟩
    exact l.nx _ _ _ _ _ k (ch _ (r3.set ((r.up s2).keep ab.bH ab.gH sA k1) j))
  · exact k.elim
/-- x += e, ints -/
def augP (i : Nat) (h : Int → Int → Int) (f : PEnv → Res) : TP := fun post env => match env[i]? with
  | some (some (_, .int k)) => resP (f env) post env fun _ d => inP d fun j => post.nx (env.set i (some (.sh, .int (h k j))))
  | _ => False
theorem sx_aug {i : Nat} {x : Str} {px : Pos} {op : Operator} {h : Int → Int → Int} (ho : PIp X op (ipI h)) (hN : X.N.Nodup) (hi : X.N[i]? = some x) (hx : Loc X.env.scope x) (he : EX X H0 G0 W e f) (hf : X.fn x = true ∨ X.env.scope.names.lookup x = some .local) :
    SX X H0 G0 W (.AugAssign (.Name x px) op e pos) (augP i h f) := by
  refine ps_imp (ps_aug hN hi hx he ho hf) fun D σ H ⟨G, R, env, post, ab, q, l⟩ => ?_
  unfold augP at q
  split at q
  · rename_i m0 k e0
    obtain ⟨v0, e1, r0⟩ := ab.sl i _ _ e0
    have full : Rp X.K H v0 (.int k) := by
      have rd : rdS env i = .ok .sh (.int k) := by unfold rdS; rw [e0]; rfl
      obtain ⟨v1, e2, r1⟩ := ab.rd1 rd
      rw [e1] at e2
      cases e2
      exact r1.rp ab.bH ab.gH (Same.refl H)
    have v1 := full.int_inv
    subst v1
    refine ⟨.int k, e1, res_in (K := X.K) ab l q fun m d v H' hf k2 s r => ?_⟩
    unfold inP at k2
    split at k2
    · have x1 := (r.rp ab.bH ab.gH s).int_inv
      subst x1
      refine ⟨_, _, rfl, rfl, ?_⟩
      obtain ⟨G', R', g1, g2, ab'⟩ := ab.store s (m := .sh) (m' := .sh) (d' := .int (h k _)) (Rp.int _) i rfl
      exact l.nx _ _ _ _ _ k2 ab'
    · exact k2.elim
  · exact q.elim

/-! ### raise -/
/-- an exception class of the program: C(e) -/
structure ExI (P : Program) (w : World) (K : PySem.W.Frag) (mg : Str → Option Value) (base : Heap) (k : Nat) (c : Str) : Prop where
  ex : ∃ (C fI : Addr) (fd : FuncData) (ps : List Str), mg c = some (.ref C) ∧ OexC K C ∧ PySem.W.findIn K (.ref C) "__init__" = some (some (.ref fI)) ∧ PySem.W.typeIn K (.ref fI) = some (.type "function") ∧
    FnOk P w K mg base (L2.CX P w) k fI fd ps (fun vs H Q _ => ∃ (a C : Addr) (i : Int), vs = [.ref a, .int i] ∧ H a = some (exo a C none) ∧ OexC K C ∧ PySem.W.findIn K (.ref C) "at" = some none ∧ ∀ dx, H dx = none → dx ≠ a → Q .non (upd (upd H dx (exd dx [("at", .int i)])) a (exo a C (some dx)))) ∧ Binds K fd ps [] ∧
    PySem.W.findIn K (.ref C) "at" = some none
theorem ExI.mono {P : Program} {w : World} {K : PySem.W.Frag} {mg : Str → Option Value} {base : Heap} {j k : Nat} {c : Str} (F : ExI P w K mg base j c) (h : j ≤ k) : ExI P w K mg base k c := by
  obtain ⟨C, fI, fd, ps, h1, h2, h3, h4, h5, h6, h7⟩ := F.ex
  exact ⟨C, fI, fd, ps, h1, h2, h3, h4, h5.mono h, h6, h7⟩
theorem passF {X : Cx} {W : WX} (tk : Takes X W) : Passes (L2.CX X.prog X.w) X (fun _ _ _ => False) := fun _ _ _ _ e s' I c => tk e s' (XE.of_call I (fun _ _ _ h => h.elim) c)
def raiP (c : Str) (f : PEnv → Res) : TP := fun post env => resP (f env) post env fun _ d => inP d fun a => post.ex c a env
theorem sx_raise {x : Str} {p : Pos} {k : Nat} (hc : X.calm = true) (tk : Takes X W) (F : ExI X.prog X.w X.K X.mg X.base k x) (hr : Room (k + 1) X.A) (hg : Gl X x) (he : EX X H0 G0 W e f) (hdb : (x == ("__debug__" : Str)) = false) (hs : starEach [e] X.env = [(false, eval e X.env)]) :
    SX X H0 G0 W (.Raise (some (.Call (.Name x p) [e] [] pos)) none cpos) (raiP x f) := by
  obtain ⟨C, fI, fd, ps, h1, h2, h3, h4, h5, h6, h7⟩ := F.ex
  refine ps_imp (ps_raise hc tk (pmk_oex h2 h3 h4 h5 hr h6 .nil (passF tk) hg h1 (pa_cons he pa_nil hs) hdb hs rfl)) fun D σ H ⟨G, R, env, post, ab, h, l⟩ => ?_
  refine res_in (K := X.K) ab l h fun m d v H' hf k s r => ?_
  unfold inP at k
  split at k
  · rename_i i
    have x1 := (r.rp ab.bH ab.gH s).int_inv
    subst x1
    refine ⟨(by show 1 ≤ 1000; decide), fun a na => ⟨a, C, i, rfl, upd_same, h2, h7, fun dx ndx hne => ⟨rfl, dx, [("at", .int i)], upd_same, by rw [upd_ne hne, upd_same], ?_, ?_⟩⟩⟩
    · rw [upd_ne hne] at ndx
      exact ndx
    · have ndx' : H' dx = none := by rw [upd_ne hne] at ndx; exact ndx
      refine l.ex _ _ env σ _ G R C dx k (ab.up fun q o hq => ?_) h1 upd_same
      have h1 := s _ _ hq
      have n1 : q ≠ dx := ne_of_none h1 ndx'
      have n2 : q ≠ a := ne_of_none h1 na
      rw [upd_ne n1, del_ne n2, upd_ne n2, upd_ne n1, upd_ne n2]
      exact h1
  · exact k.elim
end
end Pl

/-! Pl8: a small language of its own for what defs do, its meaning, and that a text is one of it. -/
namespace Pl
open PySem PySem.Spec PyProof.Rows L2

inductive Bi where | len | min2 | max2 | abs | int | ord | list | tuple | sum | maxL | all
  deriving DecidableEq
inductive Tg where
  | n (i : Nat) | t (is : List Nat)
mutual
inductive Ex where
  | v (i : Nat) | int (i : Int) | str (s : Str) | bl (b : Bool) | non | g (k : Nat)
  | bin (o : Operator) (a b : Ex) | cmp (o : CmpOp) (a b : Ex) | chain (o o' : CmpOp) (a b c : Ex)
  | and (a b : Ex) | or (a b : Ex) | not (a : Ex) | tru (a : Ex) | ite (t a b : Ex) | neg (a : Ex)
  | ix (a b : Ex) | cut (a lo hi : Ex) | no | part (a : Ex)
  | lst (es : Exs) | tup (es : Exs) | bi (b : Bi) (es : Exs) | isi (T : String) (a : Ex) | call (k : Nat) (es : Exs)
  | lc (it : Iter) (own : List (Str × Nat)) (tg : Tg) (c : Ex) (g : Ex)
inductive Exs where
  | nil | cons (e : Ex) (es : Exs) | star (e : Ex) (es : Exs)
inductive Iter where
  | e (a : Ex) | rng (es : Exs)
end
/-- what stands at the numbers -/
structure Tab where
  fn : Nat → Fi
  cn : Nat → PyData
def biK : Bi → List (Md × PyData) → Res
  | .len => of1 lenD
  | .min2 => of2 fun _ d _ e => int2 d e fun i j => okI (minI i j)
  | .max2 => of2 fun _ d _ e => int2 d e fun i j => okI (maxI i j)
  | .abs => of1 fun _ d => int1 d fun i => okI (absI i)
  | .int => of1 intD
  | .ord => of1 ordD
  | .list => of1 listD
  | .tuple => of1 tupD
  | .sum => of1 sumD
  | .maxL => of1 maxD
  | .all => of1 allD
def negD : PyData → Res
  | .int i => okI (-i)
  | _ => .st
def tgB : Tg → Bd
  | .n i => bdN i
  | .t is => bdT is
def tgI : Tg → List Nat
  | .n i => [i]
  | .t is => is
mutual
def ev (T : Tab) : Ex → PEnv → Res
  | .v i => fun env => rdS env i
  | .int i => fun _ => okI i
  | .str s => fun _ => okS s
  | .bl b => fun _ => okB b
  | .non => fun _ => .ok .sh .none
  | .g k => fun _ => .ok .sh (T.cn k)
  | .bin o a b => bin2 (ev T a) (ev T b) (binD o)
  | .cmp o a b => bin2 (ev T a) (ev T b) (fun _ d _ e => cmpR o d e)
  | .chain o o' a b c => chainR o o' (ev T a) (ev T b) (ev T c)
  | .and a b => andR (ev T a) (ev T b)
  | .or a b => orR (ev T a) (ev T b)
  | .not a => un1 (ev T a) (fun _ d => notR d)
  | .tru a => un1 (ev T a) (fun _ d => truR d)
  | .ite t a b => iteR (ev T t) (ev T a) (ev T b)
  | .neg a => un1 (ev T a) (fun _ d => negD d)
  | .ix a b => bin2 (ev T a) (ev T b) (fun m d _ e => ixD m d e)
  | .cut a lo hi => sl3 (ev T a) (ev T lo) (ev T hi) cutD
  | .no => fun _ => .ok .sh .none
  | .part a => un1 (ev T a) (fun _ d => partR d)
  | .lst es => lb (evs T es) lstR
  | .tup es => lb (evs T es) tupR
  | .bi b es => lb (evs T es) (biK b)
  | .isi n a => un1 (ev T a) (fun _ d => isiR n d)
  | .call k es => lb (evs T es) (callR (T.fn k))
  | .lc it own tg c g => lcR (evi T it) (own.map (·.2)) (tgB tg) (ev T c) (ev T g)
def evs (T : Tab) : Exs → PEnv → ResL
  | .nil => fun _ => .ok []
  | .cons e es => consR (ev T e) (evs T es)
  | .star e es => starR (ev T e) (evs T es)
def evi (T : Tab) : Iter → PEnv → ResI
  | .e a => itR (ev T a)
  | .rng es => rngR (evs T es)
end
/-- where a text stands -/
structure Ctx where
  N : List Str
  sc : Scope
  fnc : Str → Bool
  fn : List Str
  cn : List Str
  bis : List Str
  exs : List Str
def visB (sc : Scope) (x : Str) : Bool := match sc.names.lookup x with
  | some .local => true
  | some .cell => true
  | some .free => true
  | _ => false
def glB (sc : Scope) (x : Str) : Bool := decide (sc.names.lookup x = some .globalImplicit)
def plainNm (x : Str) : Bool := !(x == ("__debug__" : Str)) && !(x == ("__classdict__" : Str)) && !decide (x = "__name__")
def nmB (C : Ctx) (i : Nat) (x : Str) : Bool := decide (C.N[i]? = some x) && visB C.sc x && plainNm x
/-- a name that may be stored to -/
def stB (C : Ctx) (i : Nat) (x : Str) : Bool := decide (C.N[i]? = some x) && (decide (C.sc.names.lookup x = some .local) || (decide (C.sc.names.lookup x = some .cell) && C.fnc x))
def gnB (C : Ctx) (x : Str) : Bool := glB C.sc x && plainNm x
def tgsB (C : Ctx) : List Nat → List Expr → Bool
  | [], [] => true
  | i :: is, .Name x _ :: ts => stB C i x && tgsB C is ts
  | _, _ => false
def tgC (C : Ctx) : Tg → Expr → Bool
  | .n i, .Name x _ => stB C i x
  | .t is, .Tuple ts _ _ => tgsB C is ts
  | _, _ => false
def biNm : Bi → Str
  | .len => "len" | .min2 => "min" | .max2 => "max" | .abs => "abs" | .int => "int" | .ord => "ord" | .list => "list" | .tuple => "tuple" | .sum => "sum" | .maxL => "max" | .all => "all"
def noStar : List Expr → Bool
  | [] => true
  | .Starred _ _ :: _ => false
  | _ :: es => noStar es
def blkCtx (C : Ctx) (scope : Scope) : Ctx := { C with sc := relS scope C.sc, fnc := fun x => scope.names.lookup x == some .cell }
def isPlainT : Expr → Bool
  | .Name _ _ | .Call _ _ _ _ | .Subscript _ _ _ | .BinOp _ _ _ _ | .Constant _ _ _ | .List _ _ | .Attribute _ _ _ => true
  | _ => false
def tyNames : List String := ["int", "bool", "list", "tuple", "str"]
mutual
/-- is the text e this expression? (tt: where it is a test) -/
def chk (C : Ctx) : Bool → Ex → Expr → Bool
  | false, .v i, .Name x _ => nmB C i x
  | false, .int i, .Constant (.int j) _ _ => decide (i = j)
  | false, .str i, .Constant (.str j) _ _ => decide (i = j)
  | false, .bl i, .Constant (.bool j) _ _ => decide (i = j)
  | false, .non, .Constant .none _ _ => true
  | false, .g k, .Name x _ => decide (C.cn[k]? = some x) && gnB C x
  | false, .bin o a b, .BinOp a' o' b' _ => decide (o = o') && decide (o ≠ .MatMult) && decide (o ≠ .Div) && chk C false a a' && chk C false b b'
  | _, .cmp o a b, .Compare a' [o'] [b'] _ => decide (o = o') && chk C false a a' && chk C false b b'
  | _, .chain o1 o2 a b c, .Compare a' [o1', o2'] [b', c'] _ => decide (o1 = o1') && decide (o2 = o2') && chk C false a a' && chk C false b b' && chk C false c c'
  | tt, .and a b, .BoolOp .And (a' :: b' :: es) pos => chk C tt a a' && (match es with
    | [] => chk C tt b b'
    | _ => chk C tt b (.BoolOp .And (b' :: es) pos))
  | tt, .or a b, .BoolOp .Or (a' :: b' :: es) pos => chk C tt a a' && (match es with
    | [] => chk C tt b b'
    | _ => chk C tt b (.BoolOp .Or (b' :: es) pos))
  | tt, .not a, .UnaryOp .Not a' _ => chk C tt a a'
  | true, .tru a, e => isPlainT e && chk C false a e
  | false, .ite t a b, .IfExp t' a' b' _ => chk C true t t' && chk C false a a' && chk C false b b'
  | false, .neg a, .UnaryOp .USub a' _ => chk C false a a'
  | false, .ix a b, .Subscript a' b' _ => chk C false a a' && chk C false b b'
  | false, .cut a lo hi, .Subscript a' (.Slice lo' hi' none _) _ => chk C false a a' && chkP C lo lo' && chkP C hi hi'
  | false, .lst es, .List es' _ => chks C es es'
  | false, .tup es, .Tuple es' _ _ => chks C es es'
  | false, .bi b es, .Call (.Name x _) (a :: as) [] _ => decide (x = biNm b) && gnB C x && C.bis.contains x && noStar (a :: as) && chks C es (a :: as)
  | false, .isi n a, .Call (.Name x _) [a', .Name T _] [] _ => decide (x = "isinstance") && decide (T = Str.ofString n) && tyNames.contains n && gnB C x && C.bis.contains x && gnB C T && C.bis.contains T && chk C false a a'
  | false, .call k es, .Call (.Name x _) (a :: as) [] _ => decide (C.fn[k]? = some x) && gnB C x && noStar (a :: as) && chks C es (a :: as)
  | false, .lc it own tg (.bl true) g, .ListComp g' [⟨tg', it', [], 0⟩] scope _ => chki C it it' && blkC C.N C.sc scope own && (tgI tg).all (own.map (·.2)).contains && tgC (blkCtx C scope) tg tg' && chk (blkCtx C scope) false g g'
  | false, .lc it own tg c g, .ListComp g' [⟨tg', it', [c'], 0⟩] scope _ => chki C it it' && blkC C.N C.sc scope own && (tgI tg).all (own.map (·.2)).contains && tgC (blkCtx C scope) tg tg' && chk (blkCtx C scope) true c c' && chk (blkCtx C scope) false g g'
  | _, _, _ => false
def chkP (C : Ctx) : Ex → Option Expr → Bool
  | .no, none => true
  | .part a, some a' => chk C false a a'
  | _, _ => false
def chks (C : Ctx) : Exs → List Expr → Bool
  | .nil, [] => true
  | .star e es, .Starred e' _ :: es' => chk C false e e' && chks C es es'
  | .cons e es, e' :: es' => chk C false e e' && chks C es es'
  | _, _ => false
def chki (C : Ctx) : Iter → Expr → Bool
  | .rng (.cons a .nil), .Call (.Name x _) [a'] [] _ => decide (x = "range") && gnB C x && C.bis.contains x && chk C false a a'
  | .rng (.cons a (.cons b .nil)), .Call (.Name x _) [a', b'] [] _ => decide (x = "range") && gnB C x && C.bis.contains x && chk C false a a' && chk C false b b'
  | .e a, e => chk C false a e
  | _, _ => false
end
end Pl

/-! Pl9: what the small language says of an expression is so. -/
namespace Pl
open PySem PySem.Spec PyProof.Rows L2

structure Cok (T : Tab) (C : Ctx) (k : Nat) (X : Cx) : Prop where
  hN : X.N = C.N
  nd : C.N.Nodup
  sc : X.env.scope = C.sc
  kind : C.sc.kind = .function
  calm : X.calm = true
  room : Room k X.A
  fnc : ∀ x, C.fnc x = true → X.fn x = true
  fns : ∀ i x, C.fn[i]? = some x → FnI X.prog X.w X.K X.mg X.base k x (T.fn i)
  cns : ∀ i x, C.cn[i]? = some x → ∃ u v, X.mg x = some u ∧ RelV v u ∧ Rp X.K nul v (T.cn i)
  bis : ∀ x, C.bis.contains x = true → X.mg x = none
  exs : ∀ x, C.exs.contains x = true → ∃ j, j + 1 ≤ k ∧ ExI X.prog X.w X.K X.mg X.base j x
variable {T : Tab} {C : Ctx} {k : Nat} {X : Cx} {H0 G0 : Hp} {W : WX}
theorem vis_of {sc : Scope} {x : Str} (h : visB sc x = true) : Vis sc x := by
  unfold visB at h
  split at h
  · exact .inl (by assumption)
  · exact .inr (.inl (by assumption))
  · exact .inr (.inr (by assumption))
  · cases h
structure Nm (X : Cx) (i : Nat) (x : Str) : Prop where
  hN : X.N[i]? = some x
  vis : Vis X.env.scope x
  d1 : (x == ("__debug__" : Str)) = false
  d2 : (x == ("__classdict__" : Str)) = false
theorem plain_of {x : Str} (h : plainNm x = true) : (x == ("__debug__" : Str)) = false ∧ (x == ("__classdict__" : Str)) = false ∧ x ≠ "__name__" := by
  unfold plainNm at h
  simp only [Bool.and_eq_true, Bool.not_eq_true', decide_eq_false_iff_not] at h
  exact ⟨h.1.1, h.1.2, h.2⟩
theorem nm_of {i : Nat} {x : Str} (c : Cok T C k X) (h : nmB C i x = true) : Nm X i x := by
  unfold nmB at h
  simp only [Bool.and_eq_true, decide_eq_true_eq] at h
  obtain ⟨p1, p2, _⟩ := plain_of h.2
  exact ⟨by rw [c.hN]; exact h.1.1, by rw [c.sc]; exact vis_of h.1.2, p1, p2⟩
structure Gn (X : Cx) (x : Str) : Prop where
  gl : Gl X x
  d1 : (x == ("__debug__" : Str)) = false
  d3 : x ≠ "__name__"
theorem gn_of {x : Str} (c : Cok T C k X) (h : gnB C x = true) : Gn X x := by
  unfold gnB glB at h
  simp only [Bool.and_eq_true, decide_eq_true_eq] at h
  obtain ⟨p1, _, p3⟩ := plain_of h.2
  exact ⟨by unfold Gl Env.kindOf; rw [c.sc]; exact h.1, p1, p3⟩
structure Sn (X : Cx) (i : Nat) (x : Str) : Prop where
  nd : X.N.Nodup
  hN : X.N[i]? = some x
  loc : Loc X.env.scope x
  hf : X.fn x = true ∨ X.env.scope.names.lookup x = some .local
theorem sn_of {i : Nat} {x : Str} (c : Cok T C k X) (h : stB C i x = true) : Sn X i x := by
  unfold stB at h
  simp only [Bool.and_eq_true, Bool.or_eq_true, decide_eq_true_eq] at h
  obtain ⟨h1, h2⟩ := h
  refine ⟨by rw [c.hN]; exact c.nd, by rw [c.hN]; exact h1, ?_, ?_⟩
  · rw [c.sc]
    exact h2.elim .inl fun z => .inr z.1
  · rcases h2 with z | z
    · exact .inr (by rw [c.sc]; exact z)
    · exact .inl (c.fnc x z.2)
theorem gxs_of (c : Cok T C k X) : ∀ {is : List Nat} {ts : List Expr}, tgsB C is ts = true → GXs X H0 G0 ts is
  | [], [], _ => .nil
  | [], _ :: _, h => by simp [tgsB] at h
  | _ :: _, [], h => by simp [tgsB] at h
  | i :: is, t :: ts, h => by
    cases t with
    | Name x p =>
      simp only [tgsB, Bool.and_eq_true] at h
      have s := sn_of c h.1
      exact .cons (gx_name s.nd s.hN s.loc s.hf) (gxs_of c h.2)
    | _ => simp [tgsB] at h
theorem gx_of (c : Cok T C k X) {tg : Tg} {t : Expr} (h : tgC C tg t = true) : GX X H0 G0 t (tgI tg) (tgB tg) := by
  cases tg with
  | n i =>
    cases t with
    | Name x p => have s := sn_of c h; exact gx_name s.nd s.hN s.loc s.hf
    | _ => simp [tgC] at h
  | t is =>
    cases t with
    | Tuple ts kk p => exact gx_tup c.calm (gxs_of c h)
    | _ => simp [tgC] at h
theorem tg_plain {C : Ctx} {tg : Tg} {t : Expr} (h : tgC C tg t = true) (env : Env) : (assignEach [t] env).map (·.2) = [assign t env] := by
  cases tg with
  | n i =>
    cases t with
    | Name x p => rfl
    | _ => simp [tgC] at h
  | t is =>
    cases t with
    | Tuple ts kk p => rfl
    | _ => simp [tgC] at h
theorem cok_blk (c : Cok T C k X) (s : Shared) (H : Hp) (C' : Addr) (cl : List (Str × Addr)) (fp : List Addr) {scope : Scope} (hk : scope.kind = .function) :
    Cok T (blkCtx C scope) k (X.blk s H scope (compEnvC scope cl C' X.env) fp) where
  hN := c.hN
  nd := c.nd
  sc := by
    show relS scope X.env.scope = relS scope C.sc
    rw [c.sc]
  kind := hk
  calm := c.calm
  room := c.room
  fnc := fun x h => h
  fns := c.fns
  cns := c.cns
  bis := c.bis
  exs := c.exs
/-- what is read off the form alone -/
theorem star_of : ∀ {tt : Bool} {x : Ex} {e : Expr} {es : List Expr} {env : Env}, chk C tt x e = true → starEach (e :: es) env = (false, eval e env) :: starEach es env := by
  intro tt x e es env h
  cases e with
  | Starred e p => cases tt <;> cases x <;> simp [chk, isPlainT] at h
  | _ => rfl
theorem noStar_cons {e : Expr} {es : List Expr} (h : noStar (e :: es) = true) : noStar es = true ∧ ∀ env, starEach (e :: es) env = (false, eval e env) :: starEach es env := by
  cases e <;> first | (simp [noStar] at h; done) | exact ⟨h, fun _ => rfl⟩
theorem noStar_plain {pos : Pos} {env : Env} : ∀ {es : List Expr}, noStar es = true → (backTo pos (starEach es env)).any (·.1) = false
  | [], _ => rfl
  | e :: es, h => by
    obtain ⟨h1, h2⟩ := noStar_cons h
    rw [h2]
    show (false || (backTo pos (starEach es env)).any (·.1)) = false
    rw [noStar_plain h1]
    rfl
theorem mark_of {tt : Bool} {x : Ex} {e : Expr} {o : CmpOp} (h : chk C tt x e = true) : behindInMarks o e = false := by
  cases e with
  | Set _ _ _ => cases tt <;> cases x <;> simp [chk, isPlainT] at h
  | _ => rfl
theorem ix_of {tt : Bool} {x : Ex} {e : Expr} (h : chk C tt x e = true) : PlainIx e := by
  cases e with
  | Slice _ _ _ _ => cases tt <;> cases x <;> simp [chk, isPlainT] at h
  | _ => exact fun _ _ => rfl
theorem plainT {e : Expr} (h : isPlainT e = true) (env : Env) : ∀ whole, isTrue e env whole = (do let v ← whole; standAt e.pos; holding [v] (truthy v)) := by
  cases e with
  | Name _ _ => exact fun _ => rfl
  | Call _ _ _ _ => exact fun _ => rfl
  | Subscript _ _ _ => exact fun _ => rfl
  | BinOp _ _ _ _ => exact fun _ => rfl
  | Constant _ _ _ => exact fun _ => rfl
  | List _ _ => exact fun _ => rfl
  | Attribute _ _ _ => exact fun _ => rfl
  | _ => cases h
theorem fold_of {it : Iter} {e : Expr} (h : chki C it e = true) (env : Env) : ∀ x, foldedSetIterable e env x = pure x := by
  cases e with
  | Set _ _ _ =>
    cases it with
    | e a => cases a <;> simp [chki, chk, isPlainT] at h
    | rng es => cases es with
      | nil => simp [chki] at h
      | cons a es => cases es with
        | nil => simp [chki] at h
        | cons b es => cases es <;> simp [chki] at h
        | star b es => simp [chki] at h
      | star a es => simp [chki] at h
  | _ => exact fun _ => rfl
theorem bi_sound (c : Cok T C k X) {b : Bi} {x : Str} {e : Expr} {es : List Expr} {p pos : Pos} {fs : PEnv → ResL} (hx : x = biNm b) (g : Gn X x) (hm : X.mg x = none) (ns : noStar (e :: es) = true) (ha : AX X H0 G0 W (e :: es) fs) :
    EX X H0 G0 W (.Call (.Name x p) (e :: es) [] pos) (lb fs (biK b)) := by
  obtain ⟨h1, h2⟩ := noStar_cons ns
  have he := h2 X.env
  have hpl := noStar_plain (pos := pos) (env := X.env) h1
  cases b <;> subst hx
  case len => exact ex_biB call_len br_len g.gl hm boot_len ha g.d3 g.d1 he hpl
  case min2 => exact ex_biB (call_min2 c.calm) br_min g.gl hm boot_min ha g.d3 g.d1 he hpl
  case max2 => exact ex_biB (call_max2 c.calm) br_max g.gl hm boot_max ha g.d3 g.d1 he hpl
  case abs => exact ex_biB call_abs br_abs g.gl hm boot_abs ha g.d3 g.d1 he hpl
  case int => exact ex_biT call_int1 br_int g.gl hm boot_int ha g.d3 g.d1 he hpl
  case ord => exact ex_biB call_ord br_ord g.gl hm boot_ord ha g.d3 g.d1 he hpl
  case list => exact ex_biT call_list_of br_list g.gl hm boot_list ha g.d3 g.d1 he hpl
  case tuple => exact ex_biT call_tuple_of br_tuple g.gl hm boot_tuple ha g.d3 g.d1 he hpl
  case sum => exact ex_biB (cr_sum c.calm) br_sum g.gl hm boot_sum ha g.d3 g.d1 he hpl
  case maxL => exact ex_biB (cr_max c.calm) br_maxL g.gl hm boot_max ha g.d3 g.d1 he hpl
  case all => exact ex_biB (cr_all c.calm) br_all g.gl hm boot_all ha g.d3 g.d1 he hpl
theorem tyNames_boot {n : String} (h : tyNames.contains n = true) : bootBuiltins (Str.ofString n) = some (.type n) := by
  have h : n = "int" ∨ n = "bool" ∨ n = "list" ∨ n = "tuple" ∨ n = "str" := by simpa [tyNames] using h
  rcases h with rfl | rfl | rfl | rfl | rfl
  · exact boot_int
  · exact boot_bool
  · exact boot_list
  · exact boot_tuple
  · exact boot_str
end Pl

/-! Pl10: soundness of expressions. -/
namespace Pl
open PySem PySem.Spec PyProof.Rows L2
/-- what is said of an expression e -/
def SE (X : Cx) (H0 G0 : Hp) (W : WX) (tt : Bool) (e : Expr) (f : PEnv → Res) : Prop := match tt with
  | false => EX X H0 G0 W e f
  | true => TX X H0 G0 W e f ∧ ∀ op es pos, e = .BoolOp op es pos → TW X H0 G0 W e f
variable {T : Tab}
theorem se_v {X : Cx} {H0 G0 : Hp} {W : WX} {e : Expr} {f : PEnv → Res} (h : SE X H0 G0 W false e f) : EX X H0 G0 W e f := h
theorem se_t {X : Cx} {H0 G0 : Hp} {W : WX} {e : Expr} {f : PEnv → Res} (h : SE X H0 G0 W true e f) : TX X H0 G0 W e f := h.1
theorem se_of {X : Cx} {H0 G0 : Hp} {W : WX} {tt : Bool} {e : Expr} {f : PEnv → Res} (h1 : EX X H0 G0 W e f) (h2 : TX X H0 G0 W e f) (h3 : ∀ op es pos, e ≠ .BoolOp op es pos) : SE X H0 G0 W tt e f := by
  cases tt
  · exact h1
  · exact ⟨h2, fun op es pos q => absurd q (h3 op es pos)⟩
theorem evs_len : ∀ {es : Exs} {env : PEnv} {l : List (Md × PyData)} {n : Nat}, evs T es env = .ok l → (match es, n with | .nil, 0 => True | .cons _ .nil, 1 => True | .cons _ (.cons _ .nil), 2 => True | _, _ => False) → l.length = n := by
  intro es env l n h hn
  match es, n, hn with
  | .nil, 0, _ =>
    rw [evs] at h
    cases h
    rfl
  | .cons a .nil, 1, _ =>
    rw [evs, evs] at h
    unfold consR at h
    split at h
    · cases h; rfl
    · cases h
    · cases h
  | .cons a (.cons b .nil), 2, _ =>
    rw [evs, evs, evs] at h
    unfold consR at h
    split at h
    · split at h
      · rename_i q
        cases h
        split at q
        · cases q; rfl
        · cases q
        · cases q
      · cases h
      · cases h
    · cases h
    · cases h
mutual
theorem sound_e (H0 G0 : Hp) (k : Nat) : ∀ (x : Ex) (tt : Bool) (e : Expr) (C : Ctx) (X : Cx) (W : WX), Cok T C k X → Takes X W → chk C tt x e = true → SE X H0 G0 W tt e (ev T x)
  | x, tt, e, C, X, W, c, tk, h => by
    have hu : X.A.units + 65 < cLine := by have := c.room.un; omega
    rw [chk.eq_def] at h
    split at h
    · -- a name
      have n := nm_of c h
      exact ex_var _ n.hN n.vis n.d1 n.d2
    · have e1 := of_decide_eq_true h; subst e1; exact ex_int
    · have e1 := of_decide_eq_true h; subst e1; exact ex_str
    · have e1 := of_decide_eq_true h; subst e1; exact ex_bl
    · exact ex_non
    · simp only [Bool.and_eq_true, decide_eq_true_eq] at h
      obtain ⟨u, v, h1, h2, h3⟩ := c.cns _ _ h.1
      have g := gn_of c h.2
      exact ex_glob g.gl h1 h2 h3 g.d1
    · rename_i o a b a' o' b' p
      simp only [Bool.and_eq_true, decide_eq_true_eq] at h
      obtain ⟨⟨⟨⟨rfl, h2⟩, h3⟩, h4⟩, h5⟩ := h
      exact ex_bin (sound_e H0 G0 k a false a' C X W c tk h4) (sound_e H0 G0 k b false b' C X W c tk h5) ⟨h2, h3⟩
    · rename_i o a b a' o' b' p
      simp only [Bool.and_eq_true, decide_eq_true_eq] at h
      obtain ⟨⟨rfl, h4⟩, h5⟩ := h
      have r1 := sound_e H0 G0 k a false a' C X W c tk h4
      have r2 := sound_e H0 G0 k b false b' C X W c tk h5
      exact se_of (ex_cmp hu r1 r2 (mark_of h5)) (tx_cmp hu r1 r2 (mark_of h5)) (fun _ _ _ q => by cases q)
    · rename_i o1 o2 a b d a' o1' o2' b' d' p
      simp only [Bool.and_eq_true, decide_eq_true_eq] at h
      obtain ⟨⟨⟨⟨rfl, rfl⟩, h4⟩, h5⟩, h6⟩ := h
      have r1 := sound_e H0 G0 k a false a' C X W c tk h4
      have r2 := sound_e H0 G0 k b false b' C X W c tk h5
      have r3 := sound_e H0 G0 k d false d' C X W c tk h6
      exact se_of (ex_chain hu r1 r2 r3 (mark_of h6)) (tx_chain hu r1 r2 r3 (mark_of h6)) (fun _ _ _ q => by cases q)
    · rename_i a b a' b' es pos
      simp only [Bool.and_eq_true] at h
      obtain ⟨h1, h2⟩ := h
      have r1 := sound_e H0 G0 k a tt a' C X W c tk h1
      split at h2
      · have r2 := sound_e H0 G0 k b tt b' C X W c tk h2
        cases tt with
        | false => exact ex_and r1 (ex_one r2)
        | true => exact ⟨(tw_and r1.1 (tw_and1 r2.1)).pt, fun _ _ _ _ => tw_and r1.1 (tw_and1 r2.1)⟩
      · have r2 := sound_e H0 G0 k b tt _ C X W c tk h2
        cases tt with
        | false => exact ex_and r1 r2
        | true => exact ⟨(tw_and r1.1 (r2.2 _ _ _ rfl)).pt, fun _ _ _ _ => tw_and r1.1 (r2.2 _ _ _ rfl)⟩
    · rename_i a b a' b' es pos
      simp only [Bool.and_eq_true] at h
      obtain ⟨h1, h2⟩ := h
      have r1 := sound_e H0 G0 k a tt a' C X W c tk h1
      split at h2
      · have r2 := sound_e H0 G0 k b tt b' C X W c tk h2
        cases tt with
        | false => exact ex_or r1 (ex_one r2)
        | true => exact ⟨(tw_or r1.1 (tw_or1 r2.1)).pt, fun _ _ _ _ => tw_or r1.1 (tw_or1 r2.1)⟩
      · have r2 := sound_e H0 G0 k b tt _ C X W c tk h2
        cases tt with
        | false => exact ex_or r1 r2
        | true => exact ⟨(tw_or r1.1 (r2.2 _ _ _ rfl)).pt, fun _ _ _ _ => tw_or r1.1 (r2.2 _ _ _ rfl)⟩
    · rename_i a a' p
      have r1 := sound_e H0 G0 k a tt a' C X W c tk h
      cases tt with
      | false => exact ex_not r1
      | true => exact ⟨tx_not r1.1, fun _ _ _ q => by cases q⟩
    · rename_i a
      simp only [Bool.and_eq_true] at h
      refine ⟨tx_tru (sound_e H0 G0 k a false e C X W c tk h.2) (plainT h.1 _), fun op es pos q => ?_⟩
      subst q
      cases h.1
    · rename_i t a b t' a' b' p
      simp only [Bool.and_eq_true] at h
      exact ex_ife (sound_e H0 G0 k t true t' C X W c tk h.1.1).1 (sound_e H0 G0 k a false a' C X W c tk h.1.2) (sound_e H0 G0 k b false b' C X W c tk h.2)
    · rename_i a a' p
      exact ex_neg (sound_e H0 G0 k a false a' C X W c tk h)
    · rename_i a b a' b' p
      simp only [Bool.and_eq_true] at h
      exact ex_ix (sound_e H0 G0 k a false a' C X W c tk h.1) (sound_e H0 G0 k b false b' C X W c tk h.2) (ix_of h.2)
    · rename_i a lo hi a' lo' hi' p p2
      simp only [Bool.and_eq_true] at h
      exact ex_cut (sound_e H0 G0 k a false a' C X W c tk h.1.1) (sound_p H0 G0 k lo lo' C X W c tk h.1.2) (sound_p H0 G0 k hi hi' C X W c tk h.2)
    · rename_i es es' p
      exact ex_lst (sound_s H0 G0 k es es' C X W c tk h)
    · rename_i es es' kk p
      exact ex_tup (sound_s H0 G0 k es es' C X W c tk h)
    · rename_i b es x p a as p2
      simp only [Bool.and_eq_true, decide_eq_true_eq] at h
      obtain ⟨⟨⟨⟨h1, h2⟩, h3⟩, h4⟩, h5⟩ := h
      exact bi_sound c h1 (gn_of c h2) (c.bis _ h3) h4 (sound_s H0 G0 k es _ C X W c tk h5)
    · rename_i n a x p a' T' p2 p3
      simp only [Bool.and_eq_true, decide_eq_true_eq] at h
      obtain ⟨⟨⟨⟨⟨⟨⟨h1, h2⟩, h3⟩, h4⟩, h5⟩, h6⟩, h7⟩, h8⟩ := h
      have g := gn_of c h4
      have g2 := gn_of c h6
      subst h2
      exact ex_isi (sound_e H0 G0 k a false a' C X W c tk h8) h1 g.gl (c.bis _ h5) g2.gl (c.bis _ h7) (tyNames_boot h3) g2.d3 g2.d1 (star_of h8)
    · rename_i i es x p a as p2
      simp only [Bool.and_eq_true, decide_eq_true_eq] at h
      obtain ⟨⟨⟨h1, h2⟩, h3⟩, h4⟩ := h
      have g := gn_of c h2
      obtain ⟨n1, n2⟩ := noStar_cons h3
      exact ex_call (c.fns _ _ h1) c.room g.gl tk (sound_s H0 G0 k es _ C X W c tk h4) g.d1 (n2 _) (noStar_plain n1)
    · rename_i it own tg g g' tg' it' scope p
      simp only [Bool.and_eq_true] at h
      obtain ⟨⟨⟨⟨h1, h2⟩, h3⟩, h4⟩, h5⟩ := h
      have bk : BlkOk X.N X.env.scope scope own := by rw [c.hN, c.sc]; exact blkOk_by h2
      exact ex_lc c.calm (by rw [c.hN]; exact c.nd) (sound_i H0 G0 k it tg' it' C X W c tk h1) bk (fun i hi => by
          have := List.all_eq_true.mp h3 i hi
          simpa using this)
        (fun s H C' cl fp => gx_of (cok_blk c s H C' cl fp bk.kind) h4) (fun s H C' cl fp => pts_nil) tt_yes
        (fun s H C' cl fp => sound_e H0 G0 k g false g' (blkCtx C scope) _ _ (cok_blk c s H C' cl fp bk.kind) takes_none5 h5) (fold_of h1 _)
    · rename_i it own tg cc g g' tg' it' c' scope p
      simp only [Bool.and_eq_true] at h
      obtain ⟨⟨⟨⟨⟨h1, h2⟩, h3⟩, h4⟩, h6⟩, h5⟩ := h
      have bk : BlkOk X.N X.env.scope scope own := by rw [c.hN, c.sc]; exact blkOk_by h2
      exact ex_lc c.calm (by rw [c.hN]; exact c.nd) (sound_i H0 G0 k it tg' it' C X W c tk h1) bk (fun i hi => by
          have := List.all_eq_true.mp h3 i hi
          simpa using this)
        (fun s H C' cl fp => gx_of (cok_blk c s H C' cl fp bk.kind) h4) (fun s H C' cl fp => pts_one (sound_e H0 G0 k cc true c' (blkCtx C scope) _ _ (cok_blk c s H C' cl fp bk.kind) takes_none5 h6).1) (fun _ _ _ q => q)
        (fun s H C' cl fp => sound_e H0 G0 k g false g' (blkCtx C scope) _ _ (cok_blk c s H C' cl fp bk.kind) takes_none5 h5) (fold_of h1 _)
    · cases h
theorem sound_p (H0 G0 : Hp) (k : Nat) : ∀ (x : Ex) (e : Option Expr) (C : Ctx) (X : Cx) (W : WX), Cok T C k X → Takes X W → chkP C x e = true → PX X H0 G0 W e (ev T x)
  | x, e, C, X, W, c, tk, h => by
    rw [chkP.eq_def] at h
    split at h
    · exact px_none
    · rename_i a a'
      exact px_some (sound_e H0 G0 k a false a' C X W c tk h)
    · cases h
theorem sound_s (H0 G0 : Hp) (k : Nat) : ∀ (x : Exs) (e : List Expr) (C : Ctx) (X : Cx) (W : WX), Cok T C k X → Takes X W → chks C x e = true → AX X H0 G0 W e (evs T x)
  | x, e, C, X, W, c, tk, h => by
    rw [chks.eq_def] at h
    split at h
    · exact ax_nil
    · rename_i a es a' p es'
      simp only [Bool.and_eq_true] at h
      exact ax_star (sound_e H0 G0 k a false a' C X W c tk h.1) (sound_s H0 G0 k es es' C X W c tk h.2) rfl
    · rename_i a es a' es'
      simp only [Bool.and_eq_true] at h
      exact ax_cons (sound_e H0 G0 k a false a' C X W c tk h.1) (sound_s H0 G0 k es es' C X W c tk h.2) (star_of h.1)
    · cases h
theorem sound_i (H0 G0 : Hp) (k : Nat) : ∀ (x : Iter) (tg e : Expr) (C : Ctx) (X : Cx) (W : WX), Cok T C k X → Takes X W → chki C x e = true → IX X H0 G0 W tg e (evi T x)
  | x, tg, e, C, X, W, c, tk, h => by
    rw [chki.eq_def] at h
    split at h
    · rename_i a x p a' p2
      simp only [Bool.and_eq_true, decide_eq_true_eq] at h
      obtain ⟨⟨⟨rfl, h2⟩, h3⟩, h4⟩ := h
      have g := gn_of c h2
      exact ix_rng1 g.gl (c.bis _ h3) (ax_cons (sound_e H0 G0 k a false a' C X W c tk h4) ax_nil (star_of h4)) (star_of h4) (fun env l q => evs_len (T := T) (es := .cons a .nil) (n := 1) (by rw [evs, evs]; exact q) True.intro)
    · rename_i a b x p a' b' p2
      simp only [Bool.and_eq_true, decide_eq_true_eq] at h
      obtain ⟨⟨⟨⟨rfl, h2⟩, h3⟩, h4⟩, h5⟩ := h
      have g := gn_of c h2
      exact ix_rng2 g.gl (c.bis _ h3) (ax_cons (sound_e H0 G0 k a false a' C X W c tk h4) (ax_cons (sound_e H0 G0 k b false b' C X W c tk h5) ax_nil (star_of h5)) (star_of h4)) (by rw [star_of h4, star_of h5]; rfl) (star_of h5) (fun env l q => evs_len (T := T) (es := .cons a (.cons b .nil)) (n := 2) (by rw [evs, evs, evs]; exact q) True.intro)
    · rename_i a
      exact ix_any (sound_e H0 G0 k a false _ C X W c tk h)
    · cases h
end
end Pl

/-! Pl11: statements of the small language, and their soundness. -/
namespace Pl
open PySem PySem.Spec PyProof.Rows L2
inductive Sm where
  | nil | seq (s r : Sm) | pass | brk | cnt | frz (i : Nat) (s : Sm)
  | asg (tg : Tg) (e : Ex) | ret (e : Ex) | retN | retV (i : Nat) | iff (c : Ex) (a b : Sm) | wh (c : Ex) (a : Sm) | for (it : Iter) (tg : Tg) (a : Sm)
  | app (i : Nat) (e : Ex) | ext (i : Nat) (e : Ex) | pop (i : Nat) | sto (i : Nat) (k e : Ex) | aug (i : Nat) (e : Ex) | rai (c : Str) (e : Ex)
def run (T : Tab) : Sm → TP
  | .nil => nxP
  | .seq s r => seqP (run T s) (run T r)
  | .pass => nxP
  | .brk => fun post env => post.bk env
  | .cnt => fun post env => post.ct env
  | .frz i s => frzP i (run T s)
  | .asg tg e => asgP (tgB tg) (ev T e)
  | .ret e => retP (ev T e)
  | .retN => fun post env => post.rt .sh .none
  | .retV i => retV i
  | .iff c a b => ifP (ev T c) (run T a) (run T b)
  | .wh c a => whP (ev T c) (run T a)
  | .for it tg a => forP (evi T it) (tgB tg) (run T a)
  | .app i e => appP i (ev T e)
  | .ext i e => extP i (ev T e)
  | .pop i => popP i
  | .sto i k e => stoP i (ev T e) (ev T k)
  | .aug i e => augP i (fun x y => x + y) (ev T e)
  | .rai c e => raiP c (ev T e)
def isTup : Expr → Bool
  | .Tuple _ _ _ => true
  | _ => false
/-- an assignment's form -/
def asgF (C : Ctx) (t e : Expr) : Bool := match t, e with
  | .Name y py, .ListComp _ _ scope p => if C.sc.names.lookup y = some .local then (py.line == p.line) && !(scope.names.any fun (n, k) => n == y && (k == .local || k == .cell)) else true
  | .Name _ _, _ => true
  | .Tuple _ _ _, e => !isTup e
  | _, _ => false
mutual
def chkS (C : Ctx) : Sm → Stmt → Bool
  | .pass, .Pass _ => true
  | .brk, .Break _ => true
  | .cnt, .Continue _ => true
  | .frz _ s, st => chkS C s st
  | .asg tg e, .Assign [t] e' _ => tgC C tg t && chk C false e e' && asgF C t e'
  | .retV i, .Return (some (.Name x _)) _ => nmB C i x
  | .ret e, .Return (some e') _ => chk C false e e'
  | .retN, .Return none _ => true
  | .iff c a b, .If c' a' b' _ => chk C true c c' && chkB C a a' && chkB C b b'
  | .wh c a, .While c' a' [] _ => chk C true c c' && chkB C a a'
  | .for it tg a, .For t it' a' [] _ => chki C it it' && tgC C tg t && chkB C a a'
  | .app i e, .Expr (.Call (.Attribute (.Name x _) m ap) [e'] [] cp) _ => decide (m = "append") && nmB C i x && (ap.endLine == cp.line) && chk C false e e'
  | .ext i e, .Expr (.Call (.Attribute (.Name x _) m ap) [e'] [] cp) _ => decide (m = "extend") && nmB C i x && (ap.endLine == cp.line) && chk C false e e'
  | .pop i, .Expr (.Call (.Attribute (.Name x _) m ap) [] [] cp) _ => decide (m = "pop") && nmB C i x && (ap.endLine == cp.line)
  | .sto i k e, .Assign [.Subscript (.Name x _) k' _] e' _ => nmB C i x && chk C false k k' && chk C false e e'
  | .aug i e, .AugAssign (.Name x _) .Add e' _ => stB C i x && chk C false e e'
  | .rai c e, .Raise (some (.Call (.Name x _) [e'] [] _)) none _ => decide (c = x) && gnB C x && C.exs.contains x && chk C false e e'
  | _, _ => false
def chkB (C : Ctx) : Sm → List Stmt → Bool
  | .nil, [] => true
  | .seq s r, st :: sts => chkS C s st && chkB C r sts
  | _, _ => false
end
variable {T : Tab}
theorem sw_cell {y : Str} {py p : Pos} {elt : Expr} {gs : List Comprehension} {scope : Scope} {l : Nat} {env : Env} (h : env.scope.names.lookup y ≠ some .local) : swapsWith (.ListComp elt gs scope p) (some (.Name y py)) l env = pure false := by
  have ky : (env.kindOf y == some .local) = false := by
    unfold Env.kindOf
    cases e : env.scope.names.lookup y with
    | none => rfl
    | some kk => cases kk <;> first | rfl | exact absurd e h
  unfold swapsWith
  simp only [ky, Bool.and_false, Bool.false_and]
theorem sw_plain {e : Expr} {t : Option Expr} {l : Nat} {env : Env} (h : ∀ a b c d, e ≠ .ListComp a b c d) (h2 : ∀ a b c d, e ≠ .SetComp a b c d) (h3 : ∀ a b c d p, e ≠ .DictComp a b c d p) : swapsWith e t l env = pure false := by
  cases e <;> first | rfl | exact absurd rfl (h _ _ _ _) | exact absurd rfl (h2 _ _ _ _) | exact absurd rfl (h3 _ _ _ _ _)
theorem chk_noSet {C : Ctx} {x : Ex} {e : Expr} (h : chk C false x e = true) : (∀ a b c d, e ≠ .SetComp a b c d) ∧ (∀ a b c d p, e ≠ .DictComp a b c d p) := by
  constructor
  · rintro a b c d rfl
    cases x <;> simp [chk, isPlainT] at h
  · rintro a b c d p rfl
    cases x <;> simp [chk, isPlainT] at h
theorem chk_lc {C : Ctx} {x : Ex} {a : Expr} {b : List Comprehension} {c : Scope} {d : Pos} (h : chk C false x (.ListComp a b c d) = true) : ∃ it own tg cc g, x = .lc it own tg cc g := by
  cases x <;> first | exact ⟨_, _, _, _, _, rfl⟩ | (simp [chk, isPlainT] at h)
/-- the parts of a comprehension -/
structure LcP (T : Tab) (X : Cx) (H0 G0 : Hp) (W : WX) (it : Iter) (own : List (Str × Nat)) (tg : Tg) (cc g : Ex) (elt : Expr) (gs : List Comprehension) (scope : Scope) : Prop where
  ex : ∃ (tg' it' : Expr) (ifs : List Expr) (tt : TT), gs = [⟨tg', it', ifs, 0⟩] ∧ IX X H0 G0 W tg' it' (evi T it) ∧ BlkOk X.N X.env.scope scope own ∧ (∀ i ∈ tgI tg, i ∈ own.map (·.2)) ∧
      (∀ (s : Shared) (H : Hp) (C : Addr) (cl : List (Str × Addr)) (fp : List Addr), GX (X.blk s H scope (compEnvC scope cl C X.env) fp) H0 G0 tg' (tgI tg) (tgB tg)) ∧
      (∀ (s : Shared) (H : Hp) (C : Addr) (cl : List (Str × Addr)) (fp : List Addr), PTs (X.blk s H scope (compEnvC scope cl C X.env) fp) ifs tt) ∧
      (∀ σ H (Qt : Bool → Hp → Prop), tTest (tEv X H0 G0 (fun _ _ _ _ => False) (ev T cc)) σ H Qt → tt σ H Qt) ∧
      (∀ (s : Shared) (H : Hp) (C : Addr) (cl : List (Str × Addr)) (fp : List Addr), EX (X.blk s H scope (compEnvC scope cl C X.env) fp) H0 G0 (fun _ _ _ _ => False) elt (ev T g)) ∧ (∀ x, foldedSetIterable it' X.env x = pure x)
theorem lc_main (H0 G0 : Hp) (k : Nat) {it : Iter} {own : List (Str × Nat)} {tg : Tg} {cc g : Ex} {elt tg' it' : Expr} {ifs : List Expr} {scope : Scope} {C : Ctx} {X : Cx} {W : WX} {tt : TT} (c : Cok T C k X) (tk : Takes X W)
    (t1 : ∀ (s : Shared) (H : Hp) (C : Addr) (cl : List (Str × Addr)) (fp : List Addr), PTs (X.blk s H scope (compEnvC scope cl C X.env) fp) ifs tt) (t2 : ∀ σ H (Qt : Bool → Hp → Prop), tTest (tEv X H0 G0 (fun _ _ _ _ => False) (ev T cc)) σ H Qt → tt σ H Qt)
    (h1 : chki C it it' = true) (h2 : blkC C.N C.sc scope own = true) (h3 : (tgI tg).all (own.map (·.2)).contains = true) (h4 : tgC (blkCtx C scope) tg tg' = true) (h5 : chk (blkCtx C scope) false g elt = true) :
    LcP T X H0 G0 W it own tg cc g elt [⟨tg', it', ifs, 0⟩] scope := by
  have bk : BlkOk X.N X.env.scope scope own := by rw [c.hN, c.sc]; exact blkOk_by h2
  exact ⟨tg', it', ifs, tt, rfl, sound_i H0 G0 k it tg' it' C X W c tk h1, bk, fun i hi => by
      have := List.all_eq_true.mp h3 i hi
      simpa using this,
    fun s H C' cl fp => gx_of (cok_blk c s H C' cl fp bk.kind) h4, t1, t2, fun s H C' cl fp => sound_e H0 G0 k g false elt (blkCtx C scope) _ _ (cok_blk c s H C' cl fp bk.kind) takes_none5 h5, fold_of h1 _⟩
theorem lc_parts (H0 G0 : Hp) (k : Nat) {it : Iter} {own : List (Str × Nat)} {tg : Tg} {cc g : Ex} {elt : Expr} {gs : List Comprehension} {scope : Scope} {p : Pos} {C : Ctx} {X : Cx} {W : WX} (c : Cok T C k X) (tk : Takes X W) (h : chk C false (.lc it own tg cc g) (.ListComp elt gs scope p) = true) :
    LcP T X H0 G0 W it own tg cc g elt gs scope := by
  generalize hx : Ex.lc it own tg cc g = x at h
  generalize he : Expr.ListComp elt gs scope p = e at h
  generalize ht : false = tt at h
  rw [chk.eq_def] at h
  split at h <;> first
    | (cases hx; done)
    | (cases he; done)
    | (cases ht; done)
    | skip
  · cases hx
    cases he
    simp only [Bool.and_eq_true] at h
    obtain ⟨⟨⟨⟨h1, h2⟩, h3⟩, h4⟩, h5⟩ := h
    exact lc_main H0 G0 k c tk (fun s H C' cl fp => pts_nil) tt_yes h1 h2 h3 h4 h5
  · rename_i c' _ _
    cases hx
    cases he
    simp only [Bool.and_eq_true] at h
    obtain ⟨⟨⟨⟨⟨h1, h2⟩, h3⟩, h4⟩, h6⟩, h5⟩ := h
    have bk : BlkOk X.N X.env.scope scope own := by rw [c.hN, c.sc]; exact blkOk_by h2
    exact lc_main H0 G0 k c tk (fun s H C' cl fp => pts_one (sound_e H0 G0 k cc true c' (blkCtx C scope) _ _ (cok_blk c s H C' cl fp bk.kind) takes_none5 h6).1) (fun _ _ _ q => q) h1 h2 h3 h4 h5
  · cases h
theorem sound_asg (H0 G0 : Hp) (k : Nat) {tg : Tg} {e : Ex} {t e' : Expr} {pos : Pos} {C : Ctx} {X : Cx} {W : WX} (c : Cok T C k X) (tk : Takes X W) (h1 : tgC C tg t = true) (h2 : chk C false e e' = true) (h3 : asgF C t e' = true) : SX X H0 G0 W (.Assign [t] e' pos) (asgP (tgB tg) (ev T e)) := by
  have hw : swappedStores [t] e' X.env = pure none := by
    cases t with
    | Name y py => cases e' <;> rfl
    | Tuple ts kk p => cases e' <;> first | rfl | (simp [asgF, isTup] at h3)
    | _ => simp [asgF] at h3
  have go : swapsWithSole [t] e' pos.line X.env = pure false → SX X H0 G0 W (.Assign [t] e' pos) (asgP (tgB tg) (ev T e)) := fun hs =>
    sx_asg (sound_e H0 G0 k e false e' C X W c tk h2) (gx_of c h1) hs hw (tg_plain h1 _)
  obtain ⟨n1, n2⟩ := chk_noSet h2
  cases e' with
  | ListComp elt gs scope p =>
    cases t with
    | Tuple ts kk tp => exact go rfl
    | Name y py =>
      by_cases hl : C.sc.names.lookup y = some .local
      · -- the swapped form
        obtain ⟨it, own, tg2, cc, g, rfl⟩ := chk_lc h2
        have h4 : ((py.line == p.line) && !(scope.names.any fun (n, k) => n == y && (k == .local || k == .cell))) = true := by
          have : (if C.sc.names.lookup y = some .local then (py.line == p.line) && !(scope.names.any fun (n, k) => n == y && (k == .local || k == .cell)) else true) = true := h3
          rwa [if_pos hl] at this
        simp only [Bool.and_eq_true, Bool.not_eq_true'] at h4
        cases tg with
        | t is => simp [tgC] at h1
        | n i =>
        have sn := sn_of c h1
        have hyl : X.env.scope.names.lookup y = some .local := by rw [c.sc]; exact hl
        obtain ⟨tg', it', ifs, tt, rfl, b1, b2, b3, b4, b5, b6, b7, b8⟩ := (lc_parts H0 G0 k c tk h2).ex
        have r := sx_setLc (i := i) (spos := pos) c.calm sn.nd sn.hN hyl (sw_true (by rw [c.sc]; exact c.kind) hyl h4.1 h4.2) b1 b2 b3 b4 b5 b6 b7 b8
        rw [ev]
        exact r
      · exact go (sw_cell (l := pos.line) (by rw [c.sc]; exact hl))
    | _ => simp [asgF] at h3
  | SetComp a b c d => exact absurd rfl (n1 a b c d)
  | DictComp a b c d p => exact absurd rfl (n2 a b c d p)
  | _ => exact go rfl
theorem attr_name {x m : Str} {px : Pos} {env : Env} : attributeBase (.Name x px) m env (eval (.Name x px) env) = eval (.Name x px) env := rfl
mutual
theorem sound_st (k : Nat) : ∀ (s : Sm) (st : Stmt) (H0 G0 : Hp) (C : Ctx) (X : Cx) (W : WX), Cok T C k X → Takes X W → PassesOwn (model X.prog X.w) X.A X.env X.xe → chkS C s st = true → SX X H0 G0 W st (run T s)
  | s, st, H0, G0, C, X, W, c, tk, hp, h => by
    rw [chkS.eq_def] at h
    split at h
    · exact sx_pass
    · exact sx_break
    · exact sx_continue
    · rename_i i s
      exact sx_frz (sound_st k s st H0 G0 C X W c tk hp h)
    · simp only [Bool.and_eq_true] at h
      exact sound_asg H0 G0 k c tk h.1.1 h.1.2 h.2
    · have n := nm_of c h
      exact sx_retV n.hN n.vis n.d1 n.d2
    · rename_i e e' p
      exact sx_ret (sound_e H0 G0 k e false e' C X W c tk h)
    · exact sx_retN
    · rename_i cc a b c' a' b' p
      simp only [Bool.and_eq_true] at h
      exact sx_if (sound_e H0 G0 k cc true c' C X W c tk h.1.1).1 (sound_b k a a' H0 G0 C X W c tk hp h.1.2) (sound_b k b b' H0 G0 C X W c tk hp h.2)
    · rename_i cc a c' a' p
      simp only [Bool.and_eq_true] at h
      exact sx_while hp (sound_e H0 G0 k cc true c' C X W c tk h.1).1 (sound_b k a a' H0 G0 C X W c tk hp h.2)
    · rename_i it tg a t it' a' p
      simp only [Bool.and_eq_true] at h
      exact sx_for hp c.calm (sound_i H0 G0 k it t it' C X W c tk h.1.1) (fun G0 => gx_of c h.1.2) (fun G0 => sound_b k a a' H0 G0 C X W c tk hp h.2) (fold_of h.1.1 _)
    · rename_i i e x px m ap e' cp p
      simp only [Bool.and_eq_true, decide_eq_true_eq] at h
      obtain ⟨⟨⟨rfl, h2⟩, h3⟩, h4⟩ := h
      have n := nm_of c h2
      exact sx_append n.hN n.vis n.d1 n.d2 (sound_e H0 G0 k e false e' C X W c tk h4) attr_name h3 (star_of h4) rfl
    · rename_i i e x px m ap e' cp p
      simp only [Bool.and_eq_true, decide_eq_true_eq] at h
      obtain ⟨⟨⟨rfl, h2⟩, h3⟩, h4⟩ := h
      have n := nm_of c h2
      exact sx_extend n.hN n.vis n.d1 n.d2 (sound_e H0 G0 k e false e' C X W c tk h4) attr_name h3 (star_of h4) rfl
    · rename_i i x px m ap cp p
      simp only [Bool.and_eq_true, decide_eq_true_eq] at h
      obtain ⟨⟨rfl, h2⟩, h3⟩ := h
      have n := nm_of c h2
      exact sx_pop n.hN n.vis n.d1 n.d2 attr_name h3 rfl
    · rename_i i kk e x px k' tp e' p
      simp only [Bool.and_eq_true] at h
      have n := nm_of c h.1.1
      have hs : swapsWithSole [.Subscript (.Name x px) k' tp] e' p.line X.env = pure false := by
        obtain ⟨n1, n2⟩ := chk_noSet h.2
        cases e' <;> rfl
      have hw : swappedStores [.Subscript (.Name x px) k' tp] e' X.env = pure none := by cases e' <;> rfl
      refine sx_store n.hN n.vis n.d1 n.d2 (sound_e H0 G0 k e false e' C X W c tk h.2) (sound_e H0 G0 k kk false k' C X W c tk h.1.2) hs hw rfl fun ho hi => ?_
      cases k' with
      | Slice _ _ _ _ =>
        have := h.1.2
        cases kk <;> simp [chk, isPlainT] at this
      | _ => exact pg_sub ho hi set_list
    · rename_i i e x px e' p
      simp only [Bool.and_eq_true] at h
      have sn := sn_of c h.1
      exact sx_aug ip_add sn.nd sn.hN sn.loc (sound_e H0 G0 k e false e' C X W c tk h.2) sn.hf
    · rename_i cn e x px e' p1 p2
      simp only [Bool.and_eq_true, decide_eq_true_eq] at h
      obtain ⟨⟨⟨rfl, h2⟩, h3⟩, h4⟩ := h
      have g := gn_of c h2
      obtain ⟨j, hj, E⟩ := c.exs _ h3
      exact sx_raise c.calm tk E (c.room.mono hj) g.gl (sound_e H0 G0 k e false e' C X W c tk h4) g.d1 (star_of h4)
    · cases h
theorem sound_b (k : Nat) : ∀ (s : Sm) (st : List Stmt) (H0 G0 : Hp) (C : Ctx) (X : Cx) (W : WX), Cok T C k X → Takes X W → PassesOwn (model X.prog X.w) X.A X.env X.xe → chkB C s st = true → SXs X H0 G0 W st (run T s)
  | s, st, H0, G0, C, X, W, c, tk, hp, h => by
    rw [chkB.eq_def] at h
    split at h
    · exact sx_nil
    · rename_i s r st sts
      simp only [Bool.and_eq_true] at h
      exact sx_cons (sound_st k s st H0 G0 C X W c tk hp h.1) (sound_b k r sts H0 G0 C X W c tk hp h.2)
    · cases h
end
end Pl

/-! Pl12: defs and the law. -/
namespace Pl
open PySem PySem.Spec PyProof.Rows L2
section
variable {P : Program} {w : World} {K : PySem.W.Frag} {mg : Str → Option Value} {base : Heap} {T : Tab}
/-- what is known at the names a text uses -/
structure Gam (T : Tab) (C : Ctx) (P : Program) (w : World) (K : PySem.W.Frag) (mg : Str → Option Value) (base : Heap) (k : Nat) : Prop where
  fns : ∀ i x, C.fn[i]? = some x → FnI P w K mg base k x (T.fn i)
  cns : ∀ i x, C.cn[i]? = some x → ∃ u v, mg x = some u ∧ RelV v u ∧ Rp K nul v (T.cn i)
  bis : ∀ x, C.bis.contains x = true → mg x = none
  exs : ∀ x, C.exs.contains x = true → ∃ j, j + 1 ≤ k ∧ ExI P w K mg base j x
def inE : List Bool → List PyData → PEnv
  | _, [] => []
  | [], d :: ds => some (.bo, d) :: inE [] ds
  | b :: bs, d :: ds => some (if b = true then .sh else .bo, d) :: inE bs ds
def startE (shs : List Bool) (n : Nat) (ds : List PyData) : PEnv := inE shs ds ++ List.replicate (n - ds.length) none
theorem inE_len : ∀ {bs : List Bool} {ds : List PyData}, (inE bs ds).length = ds.length
  | [], [] => rfl
  | _ :: _, [] => rfl
  | [], d :: ds => by
    show (inE [] ds).length + 1 = ds.length + 1
    rw [inE_len]
  | b :: bs, d :: ds => by
    show (inE bs ds).length + 1 = ds.length + 1
    rw [inE_len]
theorem inE_at : ∀ {bs : List Bool} {ds : List PyData} {i : Nat} {m : Md} {d : PyData}, (inE bs ds)[i]? = some (some (m, d)) → ds[i]? = some d ∧ ((m = .sh ∧ bs[i]? = some true) ∨ m = .bo)
  | [], [], i, m, d, h => by simp [inE] at h
  | _ :: _, [], i, m, d, h => by simp [inE] at h
  | [], e :: ds, 0, m, d, h => by
    simp [inE] at h
    obtain ⟨rfl, rfl⟩ := h
    exact ⟨rfl, .inr rfl⟩
  | [], e :: ds, i + 1, m, d, h => by
    obtain ⟨h1, h2⟩ := inE_at (bs := []) (ds := ds) (i := i) (m := m) (d := d) (by simpa [inE] using h)
    refine ⟨by simpa using h1, ?_⟩
    rcases h2 with ⟨_, h2⟩ | h2
    · simp at h2
    · exact .inr h2
  | b :: bs, e :: ds, 0, m, d, h => by
    simp [inE] at h
    obtain ⟨h1, rfl⟩ := h
    refine ⟨rfl, ?_⟩
    cases b with
    | true => rw [if_pos rfl] at h1; subst h1; exact .inl ⟨rfl, rfl⟩
    | false => rw [if_neg Bool.false_ne_true] at h1; subst h1; exact .inr rfl
  | b :: bs, e :: ds, i + 1, m, d, h => by
    obtain ⟨h1, h2⟩ := inE_at (bs := bs) (ds := ds) (i := i) (m := m) (d := d) (by simpa [inE] using h)
    exact ⟨by simpa using h1, by simpa using h2⟩
/-- a def's text does what its function says -/
def postR : Res → Post
  | .ok m d => { nx := fun _ => d = .none ∧ m ≠ .ow, rt := fun m' d' => (m' = .ow ↔ m = .ow) ∧ d' = d }
  | .ex c a => { nx := fun _ => False, rt := fun _ _ => False, ex := fun c' a' _ => c' = c ∧ a' = a }
  | .st => { nx := fun _ => True, rt := fun _ _ => True, bk := fun _ => True, ct := fun _ => True, ex := fun _ _ _ => True }
def Meets (T : Tab) (s : Sm) (fi : Fi) (n : Nat) : Prop := ∀ ds, ds.length = fi.np + fi.dfl.length → fi.sem ds ≠ .st → run T s (postR (fi.sem ds)) (startE fi.shs n ds)
theorem retM_iff {m m' : Md} (h : m' = .ow ↔ m = .ow) : retM m' = retM m := by
  unfold retM
  by_cases e : m = .ow
  · rw [if_pos e, if_pos (h.mpr e)]
  · rw [if_neg e, if_neg (fun z => e (h.mp z))]
theorem start_at {vs : List V} {n : Nat} {i : Nat} {v : V} (h : vs[i]? = some v) (l : List (Option V)) : (vs.map some ++ l)[i]? = some (some v) := by
  have hi : i < vs.length := (List.getElem?_eq_some_iff.mp h).1
  rw [List.getElem?_append_left (by rw [List.length_map]; exact hi), List.getElem?_map, h]
  rfl
theorem fn_pl {x qual : Str} {st : Stmt} {f : Addr} {fd : FuncData} {ps : List Str} {k : Nat} {fi : Fi} {C : Ctx} {s : Sm} (F : Fun K x qual st f fd) (S : FnScope C.N ps (defScope st)) (hps : ps.length = fi.np + fi.dfl.length)
    (hsc : C.sc = defScope st) (g : Gam T C P w K mg base k) (hk : chkB C s (defBody st) = true) (hm : Meets T s fi C.N.length) : FnOk P w K mg base (L2.CX P w) (k + 1) f fd ps (spF K mg fi) := by
  have hN : ps.length ≤ C.N.length := by
    have := congrArg List.length S.pre
    rw [List.length_take] at this
    omega
  refine F.okX S (fun vs H Q E ⟨G0, ds, _, h1, h2, _⟩ => by rw [h1, h2, hps]) (fun cdv A outer s0 H vs Q E hr h => ?_)
  have c : Cok T C k (cxOf (L2.CX P w) P w K mg base C.N qual (defScope st) f cdv A outer s0 H E) :=
    ⟨rfl, S.nd, hsc.symm, by rw [hsc]; exact S.kind, rfl, hr, fun _ _ => rfl, g.fns, g.cns, g.bis, g.exs⟩
  obtain ⟨G0, ds, hG, h1, h2, h3, h4⟩ := h
  refine ⟨_, sound_b k s (defBody st) H G0 C _ (fun cls d _ H => E cls d H) c (takes_of rfl rfl rfl rfl) (passes_of rfl) hk, ?_⟩
  have hst : fi.sem ds ≠ .st := fun z => by rw [z] at h4; exact h4
  refine ⟨G0, fun _ => nul, startE fi.shs C.N.length ds, postR (fi.sem ds), ⟨fun _ _ h => h, hG, Same.refl H, fun p o h => .inl h, fun i => nul_same, fun i p o h => (by cases h), fun i j p o _ h => (by cases h), ?_, fun i m d h => ?_⟩, hm ds h2 hst, ?_⟩
  · unfold startE L2.start
    rw [List.length_append, List.length_append, List.length_replicate, List.length_replicate, inE_len, List.length_map, h1]
  · have hi : i < ds.length := by
      refine Nat.lt_of_not_le fun z => ?_
      unfold startE at h
      rw [List.getElem?_append_right (by rw [inE_len]; exact z)] at h
      have := List.mem_of_getElem? h
      have := List.eq_of_mem_replicate this
      cases this
    unfold startE at h
    rw [List.getElem?_append_left (by rw [inE_len]; exact hi)] at h
    obtain ⟨e1, e2⟩ := inE_at h
    obtain ⟨v, hv⟩ := get_lt h1 e1
    obtain ⟨r1, r2⟩ := h3 i v d hv e1
    refine ⟨v, start_at (n := 0) hv _, ?_⟩
    rcases e2 with ⟨rfl, e2⟩ | rfl
    · exact r2 e2
    · exact r1
  · cases e : fi.sem ds with
    | st => exact absurd e hst
    | ok m d =>
      rw [e] at h4
      refine ⟨fun env σ H' G R ⟨q1, q2⟩ ab => ?_, fun _ _ _ _ _ q => q.elim, fun _ _ _ _ _ q => q.elim, fun m' d' v H' ⟨q1, q2⟩ s r => ?_, fun _ _ _ _ _ _ _ _ _ q => q.elim⟩
      · subst q1
        refine h4 _ _ ab.bH ?_
        unfold retM
        rw [if_neg q2]
        exact Rp.non
      · subst q2
        unfold RetRep at r
        rw [retM_iff q1] at r
        exact h4 _ _ s r
    | ex cc a =>
      rw [e] at h4
      exact ⟨fun _ _ _ _ _ q => q.elim, fun _ _ _ _ _ q => q.elim, fun _ _ _ _ _ q => q.elim, fun _ _ _ _ q => q.elim, fun c' a' env σ H' G R C' dd ⟨q1, q2⟩ ab e1 e2 => by
        subst q1 q2
        exact h4 _ _ _ e1 ab.bH e2⟩

/-! ### the errors' own __init__ -/
abbrev spInit (K : PySem.W.Frag) : Sp := fun vs H Q _ => ∃ (a C : Addr) (i : Int), vs = [.ref a, .int i] ∧ H a = some (exo a C none) ∧ OexC K C ∧ PySem.W.findIn K (.ref C) "at" = some none ∧ ∀ dx, H dx = none → dx ≠ a → Q .non (upd (upd H dx (exd dx [("at", .int i)])) a (exo a C (some dx)))
/-- what the draws are -/
def DrOk (L : List Int) : Prop := L.length ≤ 3780 ∧ ∀ d ∈ L, 0 ≤ d ∧ d < 65536
def spDraws (K : PySem.W.Frag) : Sp := fun vs H Q _ => ∃ (a : Addr) (ns : List Int), vs = [.ref a] ∧ SqL K H a (ns.map V.int) ∧ ns.length ≤ 63 ∧ ∀ L H' p, DrOk L → Same H H' → H p = none → H' p = some (.lst (L.map V.int)) → Q (.ref p) H'
def spLaw (K : PySem.W.Frag) : Sp := fun vs H Q _ => ∃ (a : Addr) (ns : List Int), vs = [.ref a] ∧ SqL K H a (ns.map V.int) ∧ ns.length ≤ 63 ∧ ∀ H', Q (.bl true) H'
def dI (L : List Int) : PyData := .list (L.map PyData.int)
theorem RpA.ofInts {H : Hp} : ∀ L : List Int, RpA K H (L.map V.int) (L.map PyData.int)
  | [] => .nil
  | i :: L => .cons (.int i) (RpA.ofInts L)
/-- the law's first statement -/
def lawHead (C : Ctx) : Stmt → Bool
  | .Assign [.Name y _] (.Call (.Name x _) [.Name z _] [] _) _ => decide (x = "_law_draws") && stB C 1 y && nmB C 0 z && gnB C x
  | _ => false
def lawPost : Post := { nx := fun _ => False, rt := fun _ d => d = .bool true }
def lawE (n : Nat) (L : List Int) : PEnv := none :: some (.ow, dI L) :: List.replicate (n - 2) none
theorem law_pl {x qual : Str} {st st0 : Stmt} {rest : List Stmt} {f fD : Addr} {fd fdD : FuncData} {p : Str} {k : Nat} {C : Ctx} {s : Sm} (F : Fun K x qual st f fd) (S : FnScope C.N [p] (defScope st))
    (hsc : C.sc = defScope st) (g : Gam T C P w K mg base k) (hb : defBody st = st0 :: rest) (h0 : lawHead C st0 = true) (hk : chkB C s rest = true)
    (mD : mg "_law_draws" = some (.ref fD)) (kD : PySem.W.keepIn K (.ref fD) = true) (GD : FnOk P w K mg base (L2.CX P w) k fD fdD ["_law_script"] (spDraws K)) (bD : Binds K fdD ["_law_script"] [])
    (hm : ∀ L, DrOk L → run T s lawPost (lawE C.N.length L)) : FnOk P w K mg base (L2.CX P w) (k + 1) f fd [p] (spLaw K) := by
  refine F.okX S (fun vs H Q E ⟨a, ns, h1, _⟩ => by rw [h1]; rfl) (fun cdv A outer s0 H vs Q E hr h => ?_)
  have c : Cok T C k (cxOf (L2.CX P w) P w K mg base C.N qual (defScope st) f cdv A outer s0 H E) :=
    ⟨rfl, S.nd, hsc.symm, by rw [hsc]; exact S.kind, rfl, hr, fun _ _ => rfl, g.fns, g.cns, g.bis, g.exs⟩
  obtain ⟨a, ns, rfl, hS, hl, q⟩ := h
  unfold lawHead at h0
  split at h0
  · rename_i y py x2 px z pz pc pa
    simp only [Bool.and_eq_true, decide_eq_true_eq] at h0
    obtain ⟨⟨⟨rfl, h2⟩, h3⟩, h4⟩ := h0
    have sn := sn_of c h2
    have nm := nm_of c h3
    have gn := gn_of c h4
    have hlen : 2 ≤ C.N.length := by
      have h5 := sn.hN
      have := (List.getElem?_eq_some_iff.mp h5).1
      exact this
    have tk : Takes (cxOf (L2.CX P w) P w K mg base C.N qual (defScope st) f cdv A outer s0 H E) (fun cls d _ H => E cls d H) := takes_of rfl rfl rfl rfl
    have e1 := pe_call GD hr gn.gl mD kD bD .nil (passF tk) (pa_cons (pe_var nm.hN nm.vis nm.d1 nm.d2) pa_nil (es := []) (e := .Name z pz) rfl) (p := px) (pos := pc) gn.d1 rfl rfl
    have r0 := ps_set (pos := pa) (pos' := py) sn.nd sn.hN sn.loc e1 rfl sn.hf
    rw [hb]
    refine ⟨_, pss_cons r0 (sound_b k s rest H H C _ (fun cls d _ H => E cls d H) c tk (passes_of rfl) hk), ?_⟩
    refine ⟨.ref a, rfl, a, ns, rfl, hS, hl, fun L H' pL hL sm nL hp => ?_⟩
    have ab0 : Ab K H H H (fun _ => nul) (List.replicate C.N.length none) (L2.start C.N [.ref a]) H :=
      ⟨fun _ _ h => h, fun _ _ h => h, fun _ _ h => h, fun p o h => .inl h, fun i => nul_same, fun i p o h => (by cases h), fun i j p o _ h => (by cases h), by
        unfold L2.start
        rw [List.length_replicate, List.length_append, List.length_replicate, List.length_map, List.length_cons, List.length_nil]
        omega, fun i m d h => by
        have := List.eq_of_mem_replicate (List.mem_of_getElem? h)
        cases this⟩
    obtain ⟨G', R', g1, g2, ab⟩ := ab0.store (m := .ow) (d := dI L) (v := .ref pL) sm ⟨pL, _, _, rfl, rfl, nL, hp, RpA.ofInts L⟩ 1 rfl
    have ee : (List.replicate C.N.length none).set 1 (some (Md.ow, dI L)) = lawE C.N.length L := by
      obtain ⟨n, hn⟩ : ∃ n, C.N.length = n + 2 := ⟨C.N.length - 2, by omega⟩
      rw [hn]
      rfl
    rw [ee] at ab
    refine ⟨G', R', _, lawPost, ab, hm L hL, ⟨fun _ _ _ _ _ z => z.elim, fun _ _ _ _ _ z => z.elim, fun _ _ _ _ _ z => z.elim, fun m d v H2 e s r => ?_, fun _ _ _ _ _ _ _ _ _ z => z.elim⟩⟩
    have e : d = .bool true := e
    subst e
    have v1 : v = .bl true := by
      unfold RetRep retM at r
      split at r
      · obtain ⟨_, _, _, _, z, _⟩ := r
        cases z
      · exact Rp.bl_inv r
    subst v1
    exact q _
  · cases h0
end
end Pl

/-! Pl13: functions by their typed arguments; the script; the ends. -/
namespace Pl
open PySem PySem.Spec PyProof.Rows L2
/-- a def by typed arguments: enc tells them as trees, pre what is asked, res what comes -/
noncomputable def Fi.of {α : Type} (np : Nat) (shs : List Bool) (enc : α → List PyData) (pre : α → Prop) (res : α → Res) : Fi :=
  ⟨np, [], shs, fun ds => open Classical in if h : ∃ x, enc x = ds ∧ pre x then res h.choose else .st⟩
theorem Fi.of_sem {α : Type} {np : Nat} {shs : List Bool} {enc : α → List PyData} {pre : α → Prop} {res : α → Res} (inj : ∀ x y, enc x = enc y → x = y) (x : α) (h : pre x) : (Fi.of np shs enc pre res).sem (enc x) = res x := by
  have e : ∃ y, enc y = enc x ∧ pre y := ⟨x, rfl, h⟩
  have e1 : (Fi.of np shs enc pre res).sem (enc x) = res e.choose := dif_pos e
  rw [e1, inj _ _ e.choose_spec.1]
theorem Fi.of_meets {α : Type} {np : Nat} {shs : List Bool} {enc : α → List PyData} {pre : α → Prop} {res : α → Res} {T : Tab} {s : Sm} {n : Nat} (h : ∀ x, pre x → run T s (postR (res x)) (startE shs n (enc x))) : Meets T s (Fi.of np shs enc pre res) n := by
  intro ds _ hs
  by_cases e : ∃ y, enc y = ds ∧ pre y
  · have e1 : (Fi.of np shs enc pre res).sem ds = res e.choose := dif_pos e
    rw [e1]
    have q := h e.choose e.choose_spec.2
    rw [e.choose_spec.1] at q
    exact q
  · exact absurd (show (Fi.of np shs enc pre res).sem ds = .st from dif_neg e) hs
theorem int_inj {a b : Int} (h : PyData.int a = PyData.int b) : a = b := by cases h; rfl
theorem map_inj {α β : Type} {f : α → β} (hf : ∀ x y, f x = f y → x = y) : ∀ {l l' : List α}, l.map f = l'.map f → l = l'
  | [], [], _ => rfl
  | [], _ :: _, h => by cases h
  | _ :: _, [], h => by cases h
  | x :: l, y :: l', h => by
    rw [List.map_cons, List.map_cons] at h
    injection h with h1 h2
    rw [hf _ _ h1, map_inj hf h2]
theorem dI_inj {a b : List Int} (h : dI a = dI b) : a = b := by
  unfold dI at h
  injection h with h
  exact map_inj (fun _ _ => int_inj) h
theorem dI_eq {a b : List Int} : dI a = dI b ↔ a = b := ⟨dI_inj, fun h => by rw [h]⟩
theorem scr_inj {a b : List Int} (h : scr a = scr b) : a = b := by
  unfold scr at h
  injection h with h
  exact map_inj (fun x y h => by injection h with h _; exact int_inj h) h
/-- the law: for every script -/
noncomputable def fiLaw : Fi := Fi.of 1 [] (fun ns : List Int => [scr ns]) (fun ns => ns.length ≤ 63) (fun _ => okB true)
theorem law_inj (x y : List Int) (h : [scr x] = [scr y]) : x = y := by
  injection h with h _
  exact scr_inj h
section
variable {P : Program} {w : World} {K : PySem.W.Frag} {mg : Str → Option Value} {base : Heap} {T : Tab}
theorem FnI.mk' {x : Str} {f : Addr} {fd : FuncData} {ps : List Str} {k : Nat} {fi : Fi} (h1 : mg x = some (.ref f)) (h2 : PySem.W.keepIn K (.ref f) = true) (h3 : FnOk P w K mg base (L2.CX P w) k f fd ps (spF K mg fi)) (h4 : Binds K fd ps []) (hd : fi.dfl = [] := by rfl) : FnI P w K mg base k x fi :=
  ⟨f, fd, ps, [], [], h1, h2, h3, h4, .nil, by rw [hd]; exact .nil⟩
def FnsOk (T : Tab) (P : Program) (w : World) (K : PySem.W.Frag) (mg : Str → Option Value) (base : Heap) (k : Nat) (l : List Str) : Prop := ∀ i x, l[i]? = some x → FnI P w K mg base k x (T.fn i)
theorem FnsOk.snoc {k : Nat} {l : List Str} {y : Str} {fi : Fi} (h : ∀ i x, l[i]? = some x → FnI P w K mg base k x (T.fn i)) (F : FnI P w K mg base (k + 1) y fi) (e : T.fn l.length = fi := by rfl) : FnsOk T P w K mg base (k + 1) (l ++ [y]) := by
  intro i x hx
  by_cases hi : i < l.length
  · rw [List.getElem?_append_left hi] at hx
    exact (h i x hx).mono (Nat.le_succ k)
  · rw [List.getElem?_append_right (Nat.le_of_not_lt hi)] at hx
    cases hj : i - l.length with
    | zero =>
      rw [hj] at hx
      have hx : y = x := Option.some.inj hx
      subst hx
      have ei : i = l.length := by omega
      subst ei
      rw [e]
      exact F
    | succ j => rw [hj] at hx; cases hx
abbrev spLawS (K : PySem.W.Frag) : Sp := fun vs H Q _ => ∃ (a : Addr) (ns : List Int), vs = [.ref a] ∧ SqL K H a (ns.map V.int) ∧ ns.length ≤ 63 ∧ ∀ H', Q (.bl true) H'
theorem law_sp (vs : List V) (H : Hp) (Q : VK) (E : XK) (h : spLawS K vs H Q E) : spF K mg fiLaw vs H Q E := by
  obtain ⟨a, ns, rfl, hS, hl, q⟩ := h
  refine ⟨nul, [scr ns], nul_same, rfl, rfl, fun i v d hv hd => ?_, ?_⟩
  · cases i with
    | zero =>
      simp at hv hd
      subst hv hd
      exact ⟨.scr hS, fun z => by simp [fiLaw, Fi.of] at z⟩
    | succ i => simp at hv
  · have e : fiLaw.sem [scr ns] = okB true := Fi.of_sem (enc := fun ns : List Int => [scr ns]) law_inj ns hl
    rw [e]
    intro v H' s r
    have r : Rp K (nw H nul H') v (.bool true) := r
    rw [r.bl_inv]
    exact q _
theorem cx_never {H : Hp} {s s' : Shared} {o : List PySem.Env} {e : Value} (h : L2.CX P w o H s (fun _ _ _ => False) e s') : False := by
  obtain ⟨_, _, _, _, _, _, _, _, _, _, _, _, z⟩ := h
  exact z
end
end Pl

/-! Pl14: reckoning in the small language. -/
namespace Pl
open PySem PySem.Spec PyProof.Rows L2
section
variable {m m' : Md} {d e : PyData} {k : Md → PyData → Res} {kp : Md → PyData → Prop} {post : Post} {env : PEnv} {i j : Int} {n : Nat} {c : Prop} [Decidable c] {b : Bool} {A B : Prop} {x y : Res} {L : List Int} {l : List PyData}
theorem bind_ok : (Res.ok m d).bind k = k m d := rfl
theorem bind_ite : (if c then x else y).bind k = if c then x.bind k else y.bind k := by split <;> rfl
theorem resP_ok : resP (.ok m d) post env kp = kp m d := rfl
theorem resP_ex {s : Str} {a : Int} : resP (.ex s a) post env kp = post.ex s a env := rfl
theorem resP_st : resP .st post env kp = False := rfl
theorem resP_ite : resP (if c then x else y) post env kp = if c then resP x post env kp else resP y post env kp := by split <;> rfl
theorem brP_b : brP (.bool b) A B = if b = true then A else B := by cases b <;> rfl
theorem brR_b : brR (.bool b) x y = if b = true then x else y := by cases b <;> rfl
theorem okI_ok : okI i = .ok .sh (.int i) := rfl
theorem okB_ok : okB b = .ok .sh (.bool b) := rfl
theorem okS_ok {s : Str} : okS s = .ok .sh (.str s) := rfl
theorem add_ii : binD .Add m (.int i) m' (.int j) = .ok .sh (.int (i + j)) := rfl
theorem sub_ii : binD .Sub m (.int i) m' (.int j) = .ok .sh (.int (i - j)) := rfl
theorem mul_r (h1 : -18446744073709551616 < j) (h2 : j < 18446744073709551616) : binD .Mult m (.int i) m' (.int j) = .ok .sh (.int (i * j)) := by
  show (if (-(2 ^ 64) < i ∧ i < 2 ^ 64) ∨ (-(2 ^ 64) < j ∧ j < 2 ^ 64) then okI (i * j) else .st) = _
  rw [if_pos (.inr ⟨by omega, by omega⟩)]
  rfl
theorem mul_l (h1 : -18446744073709551616 < i) (h2 : i < 18446744073709551616) : binD .Mult m (.int i) m' (.int j) = .ok .sh (.int (i * j)) := by
  show (if (-(2 ^ 64) < i ∧ i < 2 ^ 64) ∨ (-(2 ^ 64) < j ∧ j < 2 ^ 64) then okI (i * j) else .st) = _
  rw [if_pos (.inl ⟨by omega, by omega⟩)]
  rfl
theorem div_p (h1 : 0 < j) (h2 : j < 18446744073709551616) : binD .FloorDiv m (.int i) m' (.int j) = .ok .sh (.int (i / j)) := by
  show (if 0 < j ∧ j < 2 ^ 64 then okI (i / j) else .st) = _
  rw [if_pos ⟨h1, by omega⟩]
  rfl
theorem mod_p (h1 : 0 < j) : binD .Mod m (.int i) m' (.int j) = .ok .sh (.int (i % j)) := if_pos h1
theorem pow_18 : binD .Pow m (.int 10) m' (.int 18) = .ok .sh (.int 1000000000000000000) := by
  show (if (0 : Int) ≤ 18 ∧ (18 : Int) ≤ 1000000 ∧ (10 : Int).natAbs < 2 ^ 64 then okI (10 ^ (18 : Int).toNat) else .st) = _
  rw [if_pos (by decide)]
  rfl
theorem shl_p (h0 : 0 ≤ j) (h1 : j ≤ 1000000) (h2 : 0 ≤ i) (h3 : i < 18446744073709551616) : binD .LShift m (.int i) m' (.int j) = .ok .sh (.int (i * 2 ^ j.toNat)) := by
  show (if 0 ≤ j ∧ j ≤ 1000000 ∧ i.natAbs < 2 ^ 64 then okI (i * 2 ^ j.toNat) else .st) = _
  rw [if_pos ⟨h0, h1, by omega⟩]
  rfl
theorem shr_p (h0 : 0 ≤ j) : binD .RShift m (.int i) m' (.int j) = .ok .sh (.int (i / 2 ^ j.toNat)) := if_pos h0
theorem and_ii : binD .BitAnd m (.int i) m' (.int j) = .ok .sh (.int (Builtin.bitAnd i j)) := rfl
theorem or_ii : binD .BitOr m (.int i) m' (.int j) = .ok .sh (.int (Builtin.bitOr i j)) := rfl
theorem xor_ii : binD .BitXor m (.int i) m' (.int j) = .ok .sh (.int (Builtin.bitXor i j)) := rfl
theorem lt_ii : cmpR .Lt (.int i) (.int j) = .ok .sh (.bool (decide (i < j))) := rfl
theorem le_ii : cmpR .LtE (.int i) (.int j) = .ok .sh (.bool (decide (i ≤ j))) := rfl
theorem gt_ii : cmpR .Gt (.int i) (.int j) = .ok .sh (.bool (decide (j < i))) := rfl
theorem ge_ii : cmpR .GtE (.int i) (.int j) = .ok .sh (.bool (decide (j ≤ i))) := rfl
theorem shp_int : shp (.int i) = true := by simp [shp, SeqAt.shaped, PyData.canLay0, PyData.depth]
theorem shp_bool : shp (.bool b) = true := by simp [shp, SeqAt.shaped, PyData.canLay0, PyData.depth]
theorem shp_non : shp .none = true := by simp [shp, SeqAt.shaped, PyData.canLay0, PyData.depth]
theorem eq_of {h1 : shp d = true} {h2 : shp e = true} : cmpR .Eq d e = .ok .sh (.bool (PyData.eqv d e)) := by
  unfold cmpR cmpD eqD
  rw [if_pos ⟨h1, h2⟩]
  rfl
theorem ne_of' {h1 : shp d = true} {h2 : shp e = true} : cmpR .NotEq d e = .ok .sh (.bool (!PyData.eqv d e)) := by
  unfold cmpR cmpD eqD
  rw [if_pos ⟨h1, h2⟩]
  rfl
theorem eqv_ii : PyData.eqv (.int i) (.int j) = decide (i = j) := by rw [PyData.eqv]; exact Bool.beq_eq_decide_eq _ _
theorem eq_ii : cmpR .Eq (.int i) (.int j) = .ok .sh (.bool (decide (i = j))) := by rw [eq_of (h1 := shp_int) (h2 := shp_int), eqv_ii]
theorem ne_ii : cmpR .NotEq (.int i) (.int j) = .ok .sh (.bool (!decide (i = j))) := by rw [ne_of' (h1 := shp_int) (h2 := shp_int), eqv_ii]
theorem isN_any : cmpR .Is d .none = .ok .sh (.bool (isNon d)) := rfl
theorem notN_any : cmpR .IsNot d .none = .ok .sh (.bool (!isNon d)) := rfl
/-! lists of ints -/
theorem depthAll_ints : ∀ L : List Int, PyData.depthAll (L.map PyData.int) ≤ 1
  | [] => by simp [PyData.depthAll]
  | i :: L => by
    have := depthAll_ints L
    simp only [List.map_cons, PyData.depthAll, PyData.depth]
    omega
theorem lay_ints : ∀ L : List Int, PyData.canLayAll0 (L.map PyData.int) = true
  | [] => rfl
  | i :: L => by rw [List.map_cons, PyData.canLayAll0, lay_ints L]; rfl
theorem shp_dI : shp (dI L) = true := by
  have h := depthAll_ints L
  simp only [shp, SeqAt.shaped, dI, PyData.canLay0, lay_ints, PyData.depth, Bool.true_and, decide_eq_true_eq]
  omega
theorem eqvAll_ints : ∀ L M : List Int, PyData.eqvAll (L.map PyData.int) (M.map PyData.int) = decide (L = M)
  | [], [] => rfl
  | [], _ :: _ => rfl
  | _ :: _, [] => rfl
  | i :: L, j :: M => by
    rw [List.map_cons, List.map_cons, PyData.eqvAll, eqv_ii, eqvAll_ints L M, ← Bool.decide_and]
    exact decide_eq_decide.mpr (by rw [List.cons.injEq])
theorem eqv_dI {M : List Int} : PyData.eqv (dI L) (dI M) = decide (L = M) := by
  unfold dI
  rw [PyData.eqv, eqvAll_ints]
theorem eq_dI {M : List Int} : cmpR .Eq (dI L) (dI M) = .ok .sh (.bool (decide (L = M))) := by rw [eq_of (h1 := shp_dI) (h2 := shp_dI), eqv_dI]
theorem ne_dI {M : List Int} : cmpR .NotEq (dI L) (dI M) = .ok .sh (.bool (!decide (L = M))) := by rw [ne_of' (h1 := shp_dI) (h2 := shp_dI), eqv_dI]
theorem sc_dI : isSc (dI L) = false := rfl
theorem sc_scr : isSc (scr L) = false := rfl
theorem sc_int : isSc (.int i) = true := rfl
theorem sc_bool : isSc (.bool b) = true := rfl
theorem sc_str {s : Str} : isSc (.str s) = true := rfl
theorem sc_non : isSc .none = true := rfl
theorem sc_lst : isSc (.list l) = false := rfl
theorem sc_tup : isSc (.tuple l) = false := rfl
theorem len_dI : lenD m (dI L) = .ok .sh (.int L.length) := by show Res.ok .sh (PyData.int (L.map PyData.int).length) = _; rw [List.length_map]
theorem len_scr : lenD m (scr L) = .ok .sh (.int L.length) := by show Res.ok .sh (PyData.int (L.map fun i => (PyData.int i, PyData.none)).length) = _; rw [List.length_map]
theorem len_lst : lenD m (.list l) = .ok .sh (.int l.length) := rfl
theorem len_tup : lenD m (.tuple l) = .ok .sh (.int l.length) := rfl
theorem int_i : intD m (.int i) = .ok .sh (.int i) := rfl
theorem int_b : intD m (.bool b) = .ok .sh (.int (if b then 1 else 0)) := rfl
theorem of1_1 {k : Md → PyData → Res} : of1 k [(m, d)] = k m d := rfl
theorem of2_2 {k : Md → PyData → Md → PyData → Res} : of2 k [(m, d), (m', e)] = k m d m' e := rfl
theorem int1_i {k : Int → Res} : int1 (.int i) k = k i := rfl
theorem int2_i {k : Int → Int → Res} : int2 (.int i) (.int j) k = k i j := rfl
theorem list_dI (h : m = .sh ∨ m = .ow ∨ m = .is ∨ m = .bw ∨ m = .bo ∨ m = .tm) : listD m (dI L) = .ok .ow (dI L) := by
  have e : (L.map PyData.int).all isSc = true := by rw [List.all_map]; exact List.all_eq_true.mpr fun _ _ => rfl
  unfold listD dI
  dsimp only
  rcases h with rfl | rfl | rfl | rfl | rfl | rfl <;> first | rfl | rw [elOk, if_pos e]
theorem list_dI' : listD m (dI L) = .ok .ow (dI L) := list_dI (by cases m <;> simp)
theorem app_dI : PyData.list (L.map PyData.int ++ [.int i]) = dI (L ++ [i]) := by unfold dI; rw [List.map_append]; rfl
theorem dI_nil : PyData.list [] = dI [] := rfl
theorem intsOf_map : ∀ L : List Int, intsOf (L.map PyData.int) = some L
  | [] => rfl
  | i :: L => by rw [List.map_cons, intsOf, intsOf_map L]; rfl
theorem sum_dI : sumD m (dI L) = .ok .sh (.int L.sum) := by unfold sumD dI; dsimp only; rw [intsOf_map]; rfl
theorem atI_map {α β : Type} (f : α → β) (L : List α) (i : Int) : atI (L.map f) i = (atI L i).map f := by
  unfold L2.atI
  rw [List.length_map]
  cases ixN L.length i with
  | none => rfl
  | some j => rw [Option.bind_some, Option.bind_some, List.getElem?_map]
theorem atI_pos {α : Type} {L : List α} {i : Int} (h0 : 0 ≤ i) (h1 : i < L.length) : ∃ h : i.toNat < L.length, atI L i = some L[i.toNat] := by
  have h : i.toNat < L.length := by omega
  refine ⟨h, ?_⟩
  obtain ⟨k, rfl⟩ : ∃ k : Nat, i = k := ⟨i.toNat, by omega⟩
  exact atI_nat (List.getElem?_eq_getElem h)
/-- an item by its place -/
def nth (L : List Int) (i : Int) : Int := L.getD i.toNat 0
theorem nth_mem {L : List Int} {i : Int} (h0 : 0 ≤ i) (h1 : i < L.length) : nth L i ∈ L := by
  have h : i.toNat < L.length := by omega
  unfold nth
  rw [List.getD_eq_getElem?_getD, List.getElem?_eq_getElem h]
  exact List.getElem_mem h
theorem ix_dI (h0 : 0 ≤ i) (h1 : i < L.length) : ixD m (dI L) (.int i) = .ok .sh (.int (nth L i)) := by
  obtain ⟨h, e⟩ := atI_pos h0 h1
  unfold ixD dI
  dsimp only
  rw [atI_map, e]
  dsimp only [Option.map_some]
  rw [elm_sc rfl]
  unfold nth
  rw [List.getD_eq_getElem?_getD, List.getElem?_eq_getElem h]
  rfl
theorem ix_scr (h0 : 0 ≤ i) (h1 : i < L.length) : ixD m (scr L) (.int i) = .ok .sh (.int (nth L i)) := by
  obtain ⟨h, e⟩ := atI_pos h0 h1
  unfold ixD scr
  dsimp only
  rw [atI_map, e]
  unfold nth
  rw [List.getD_eq_getElem?_getD, List.getElem?_eq_getElem h]
  rfl
/-! slots -/
theorem rd_s {s : Option (Md × PyData)} : rdS (s :: env) (n + 1) = rdS env n := rfl
theorem rd_0 : rdS (some (m, d) :: env) 0 = if isSc d = true then .ok .sh d else rdM d m := rfl
theorem ow_s {s : Option (Md × PyData)} {k : List PyData → Prop} : owP (s :: env) (n + 1) k = owP env n k := rfl
theorem ow_0 {k : List PyData → Prop} : owP (some (.ow, .list l) :: env) 0 k = k l := rfl
theorem ow_dI {k : List PyData → Prop} : owP (some (.ow, dI L) :: env) 0 k = k (L.map .int) := rfl
theorem keep_sc (h : isSc d = true) : keepM m d = true := by unfold keepM; rw [h]; rfl
theorem keep_sh : keepM .sh d = true := by unfold keepM; rw [show keepMd .sh = true from rfl, Bool.or_true]
theorem keep_ow : keepM .ow d = true := by unfold keepM; rw [show keepMd .ow = true from rfl, Bool.or_true]
theorem keep_is : keepM .is d = true := by unfold keepM; rw [show keepMd .is = true from rfl, Bool.or_true]
theorem rt_sc (h : isSc d = true) : rtM m d = true := by unfold rtM; rw [h]; rfl
theorem rt_sh : rtM .sh d = true := by unfold rtM; rw [show keepMd .sh = true from rfl, Bool.or_true]
theorem rt_ow : rtM .ow d = true := by unfold rtM; rw [show keepMd .ow = true from rfl, Bool.or_true]
theorem bdP_s' : True := trivial
theorem bdP_s {s : PEnv} {k : PEnv → Prop} : bdP (some s) k = k s := rfl
theorem sm_sh : slMode .sh d = some (.sh, d) := rfl
theorem sm_ow : slMode .ow d = some (.ow, d) := rfl
theorem sm_is : slMode .is d = some (.is, d) := rfl
theorem sm_bo : slMode .bo d = some (.bo, d) := rfl
theorem nx_ok : (postR (.ok m d)).nx env = (d = .none ∧ m ≠ .ow) := rfl
theorem rt_ok : (postR (.ok m d)).rt m' e = ((m' = .ow ↔ m = .ow) ∧ e = d) := rfl
theorem st_bo : inE [] (d :: l) = some (.bo, d) :: inE [] l := rfl
theorem st_b {b : Bool} {bs : List Bool} : inE (b :: bs) (d :: l) = some (if b = true then .sh else .bo, d) :: inE bs l := rfl
theorem st_nil {bs : List Bool} : inE bs [] = [] := by cases bs <;> rfl
theorem ints_at {i : Nat} (h : (L.map PyData.int)[i]? = some d) : ∃ z, L[i]? = some z ∧ d = .int z := by
  rw [List.getElem?_map] at h
  obtain ⟨z, h1, h2⟩ := Option.map_eq_some_iff.mp h
  exact ⟨z, h1, h2.symm⟩
theorem rng_at {lo : Int} {i : Nat} (h : (rngL lo n)[i]? = some d) : i < n ∧ d = .int (lo + i) := by
  unfold rngL at h
  rw [List.getElem?_map] at h
  obtain ⟨z, h1, h2⟩ := Option.map_eq_some_iff.mp h
  have hi : i < n := by
    have := (List.getElem?_eq_some_iff.mp h1).1
    rwa [List.length_range] at this
  rw [List.getElem?_range hi] at h1
  cases h1
  exact ⟨hi, h2.symm⟩
theorem rng_len {lo : Int} : (rngL lo n).length = n := by unfold rngL; rw [List.length_map, List.length_range]
theorem for_inv {it : PEnv → ResI} {b : Bd} {t : TP} {ds : List PyData} (hi : it env = .ok m ds) (hm : okLoop m = true) (I : Nat → PEnv → Prop) (h0 : I 0 env) (he : ∀ env, I ds.length env → post.nx env)
    (hs : ∀ i env d, ds[i]? = some d → I i env → bdP (b (elm m d) d env) fun env' => t { post with nx := I (i + 1), ct := I (i + 1), bk := post.nx } env') : forP it b t post env := by
  unfold forP
  rw [hi]
  exact ⟨hm, I, h0, fun i env hI => ⟨fun e => he env (by rw [← e]; exact hI), fun d hd => hs i env d hd hI⟩⟩
theorem for_rng {it : PEnv → ResI} {b : Bd} {t : TP} {lo : Int} (hi : it env = .ok .sh (rngL lo n)) (I : Nat → PEnv → Prop) (h0 : I 0 env) (he : ∀ env, I n env → post.nx env)
    (hs : ∀ (i : Nat) (z : Int) env, i < n → z = lo + i → I i env → bdP (b .sh (.int z) env) fun env' => t { post with nx := I (i + 1), ct := I (i + 1), bk := post.nx } env') : forP it b t post env :=
  for_inv hi rfl I h0 (fun env h => he env (by rw [rng_len] at h; exact h)) fun i env d hd hI => by
    obtain ⟨h1, rfl⟩ := rng_at hd
    rw [elm_sc rfl]
    exact hs i _ env h1 rfl hI
theorem for_ints {it : PEnv → ResI} {b : Bd} {t : TP} (hi : it env = .ok m (L.map .int)) (hm : okLoop m = true) (I : Nat → PEnv → Prop) (h0 : I 0 env) (he : ∀ env, I L.length env → post.nx env)
    (hs : ∀ (i : Nat) env z, L[i]? = some z → I i env → bdP (b .sh (.int z) env) fun env' => t { post with nx := I (i + 1), ct := I (i + 1), bk := post.nx } env') : forP it b t post env :=
  for_inv hi hm I h0 (fun env h => he env (by rw [List.length_map] at h; exact h)) fun i env d hd hI => by
    obtain ⟨z, h1, rfl⟩ := ints_at hd
    rw [elm_sc rfl]
    exact hs i env z h1 hI
end
/-! what is said, step by step -/
section
variable {T : Tab} {post : Post} {env : PEnv}
theorem run_nil : run T .nil post env = post.nx env := by rw [run]; rfl
theorem run_seq {s r : Sm} : run T (.seq s r) post env = run T s { post with nx := run T r post } env := by rw [run]; rfl
theorem run_pass : run T .pass post env = post.nx env := by rw [run]; rfl
theorem run_brk : run T .brk post env = post.bk env := by rw [run]
theorem run_cnt : run T .cnt post env = post.ct env := by rw [run]
theorem run_frz {i : Nat} {s : Sm} : run T (.frz i s) post env = frzP i (run T s) post env := by rw [run]
theorem run_asg {tg : Tg} {e : Ex} : run T (.asg tg e) post env = resP (ev T e env) post env fun m d => bdP (tgB tg m d env) post.nx := by rw [run]; rfl
theorem run_ret {e : Ex} : run T (.ret e) post env = resP (ev T e env) post env fun m d => rtM m d = true ∧ post.rt m d := by rw [run]; rfl
theorem run_retN : run T .retN post env = post.rt .sh .none := by rw [run]
theorem run_retV {i : Nat} : run T (.retV i) post env = retV i post env := by rw [run]
theorem run_iff {c : Ex} {a b : Sm} : run T (.iff c a b) post env = resP (ev T c env) post env fun _ d => brP d (run T a post env) (run T b post env) := by rw [run]; rfl
theorem run_wh {c : Ex} {a : Sm} : run T (.wh c a) post env = whP (ev T c) (run T a) post env := by rw [run]
theorem run_for {it : Iter} {tg : Tg} {a : Sm} : run T (.for it tg a) post env = forP (evi T it) (tgB tg) (run T a) post env := by rw [run]
theorem run_app {i : Nat} {e : Ex} : run T (.app i e) post env = owP env i fun ds => resP (ev T e env) post env fun m d => keepM m d = true ∧ ds.length < sizeLine ∧ post.nx (env.set i (some (.ow, .list (ds ++ [d])))) := by rw [run]; rfl
theorem run_ext {i : Nat} {e : Ex} : run T (.ext i e) post env = owP env i fun ds => resP (ev T e env) post env fun m d => lsP d fun zs => elOk m zs = true ∧ ds.length + zs.length ≤ sizeLine ∧ post.nx (env.set i (some (.ow, .list (ds ++ zs)))) := by rw [run]; rfl
theorem run_pop {i : Nat} : run T (.pop i) post env = owP env i fun ds => ds ≠ [] ∧ post.nx (env.set i (some (.ow, .list ds.dropLast))) := by rw [run]; rfl
theorem run_sto {i : Nat} {k e : Ex} : run T (.sto i k e) post env = owP env i fun ds => resP (ev T e env) post env fun m d => resP (ev T k env) post env fun _ z => inP z fun k => keepM m d = true ∧ ∃ j, ixN ds.length k = some j ∧ post.nx (env.set i (some (.ow, .list (ds.set j d)))) := by rw [run]; rfl
theorem run_aug {i : Nat} {e : Ex} : run T (.aug i e) post env = augP i (fun x y => x + y) (ev T e) post env := by rw [run]
theorem run_rai {c : Str} {e : Ex} : run T (.rai c e) post env = resP (ev T e env) post env fun _ d => inP d fun a => post.ex c a env := by rw [run]; rfl
theorem ev_v {i : Nat} : ev T (.v i) env = rdS env i := by rw [ev]
theorem ev_int {i : Int} : ev T (.int i) env = .ok .sh (.int i) := by rw [ev]; rfl
theorem ev_str {s : Str} : ev T (.str s) env = .ok .sh (.str s) := by rw [ev]; rfl
theorem ev_bl {b : Bool} : ev T (.bl b) env = .ok .sh (.bool b) := by rw [ev]; rfl
theorem ev_non : ev T .non env = .ok .sh .none := by rw [ev]
theorem ev_g {k : Nat} : ev T (.g k) env = .ok .sh (T.cn k) := by rw [ev]
theorem ev_bin {o : Operator} {a b : Ex} : ev T (.bin o a b) env = (ev T a env).bind fun m d => (ev T b env).bind fun m' e => binD o m d m' e := by rw [ev]
theorem ev_cmp {o : CmpOp} {a b : Ex} : ev T (.cmp o a b) env = (ev T a env).bind fun _ d => (ev T b env).bind fun _ e => cmpR o d e := by rw [ev]
theorem ev_chain {o o' : CmpOp} {a b c : Ex} : ev T (.chain o o' a b c) env = (ev T a env).bind fun _ d => (ev T b env).bind fun _ e => chR (cmpD o d e) ((ev T c env).bind fun _ z => cmpR o' e z) := by rw [ev]; rfl
theorem ev_and {a b : Ex} : ev T (.and a b) env = (ev T a env).bind fun _ d => brR d (ev T b env) (.ok .sh (.bool false)) := by rw [ev]; rfl
theorem ev_or {a b : Ex} : ev T (.or a b) env = (ev T a env).bind fun _ d => brR d (.ok .sh (.bool true)) (ev T b env) := by rw [ev]; rfl
theorem ev_not {a : Ex} : ev T (.not a) env = (ev T a env).bind fun _ d => notR d := by rw [ev]
theorem ev_tru {a : Ex} : ev T (.tru a) env = (ev T a env).bind fun _ d => truR d := by rw [ev]
theorem ev_ite {t a b : Ex} : ev T (.ite t a b) env = (ev T t env).bind fun _ d => brR d (ev T a env) (ev T b env) := by rw [ev]; rfl
theorem ev_neg {a : Ex} : ev T (.neg a) env = (ev T a env).bind fun _ d => negD d := by rw [ev]
theorem ev_ix {a b : Ex} : ev T (.ix a b) env = (ev T a env).bind fun m d => (ev T b env).bind fun _ e => ixD m d e := by rw [ev]
theorem ev_cut {a lo hi : Ex} : ev T (.cut a lo hi) env = (ev T a env).bind fun m d => (ev T lo env).bind fun _ l => (ev T hi env).bind fun _ u => cutD m d l u := by rw [ev]; rfl
theorem ev_no : ev T .no env = .ok .sh .none := by rw [ev]
theorem ev_part {a : Ex} : ev T (.part a) env = (ev T a env).bind fun _ d => partR d := by rw [ev]
theorem ev_lst {es : Exs} : ev T (.lst es) env = (evs T es env).bind lstR := by rw [ev]
theorem ev_tup {es : Exs} : ev T (.tup es) env = (evs T es env).bind tupR := by rw [ev]
theorem ev_bi {b : Bi} {es : Exs} : ev T (.bi b es) env = (evs T es env).bind (biK b) := by rw [ev]
theorem ev_isi {n : String} {a : Ex} : ev T (.isi n a) env = (ev T a env).bind fun _ d => isiR n d := by rw [ev]
theorem ev_call {k : Nat} {es : Exs} : ev T (.call k es) env = (evs T es env).bind (callR (T.fn k)) := by rw [ev]
theorem ev_lc {it : Iter} {own : List (Str × Nat)} {tg : Tg} {c g : Ex} : ev T (.lc it own tg c g) env = lcR (evi T it) (own.map (·.2)) (tgB tg) (ev T c) (ev T g) env := by rw [ev]
def ResL.cons (m : Md) (d : PyData) : ResL → ResL
  | .ok l => .ok ((m, d) :: l)
  | .ex c a => .ex c a
  | .st => .st
def Res.consL (r : Res) (t : ResL) : ResL := match r with
  | .ok m d => t.cons m d
  | .ex c a => .ex c a
  | .st => .st
theorem evs_nil : evs T .nil env = .ok [] := by rw [evs]
theorem evs_cons {e : Ex} {es : Exs} : evs T (.cons e es) env = (ev T e env).consL (evs T es env) := by
  rw [evs]
  unfold consR Res.consL ResL.cons
  cases ev T e env with
  | ok m d => cases evs T es env <;> rfl
  | ex c a => rfl
  | st => rfl
theorem evs_star {e : Ex} {es : Exs} : evs T (.star e es) env = starR (ev T e) (evs T es) env := by rw [evs]
theorem consL_ok {m : Md} {d : PyData} {l : List (Md × PyData)} : (Res.ok m d).consL (.ok l) = .ok ((m, d) :: l) := rfl
theorem bindL_ok {l : List (Md × PyData)} {k : List (Md × PyData) → Res} : (ResL.ok l).bind k = k l := rfl
theorem evi_e {a : Ex} : evi T (.e a) env = itR (ev T a) env := by rw [evi]
theorem evi_rng {es : Exs} : evi T (.rng es) env = rngR (evs T es) env := by rw [evi]
theorem rng_1 {es : Exs} {m : Md} {j : Int} (h : evs T es env = .ok [(m, .int j)]) (h1 : -(2 ^ 62) ≤ j ∧ j < 2 ^ 62) : evi T (.rng es) env = .ok .sh (rngL 0 j.toNat) := by
  rw [evi_rng]
  unfold rngR
  rw [h]
  exact if_pos h1
theorem rng_2 {es : Exs} {m m' : Md} {i j : Int} (h : evs T es env = .ok [(m, .int i), (m', .int j)]) (h1 : -(2 ^ 62) ≤ i ∧ i < 2 ^ 62 ∧ -(2 ^ 62) ≤ j ∧ j < 2 ^ 62) : evi T (.rng es) env = .ok .sh (rngL i (j - i).toNat) := by
  rw [evi_rng]
  unfold rngR
  rw [h]
  exact if_pos h1
theorem it_lst {a : Ex} {m : Md} {l : List PyData} (h : ev T a env = .ok m (.list l)) : evi T (.e a) env = .ok m l := by
  rw [evi_e]
  unfold itR
  rw [h]
  rfl
theorem it_tup {a : Ex} {m : Md} {l : List PyData} (h : ev T a env = .ok m (.tuple l)) : evi T (.e a) env = .ok m l := by
  rw [evi_e]
  unfold itR
  rw [h]
  rfl
end
end Pl

/-! Pl15: the defs that all laws share. -/
namespace Pl
open PySem PySem.Spec PyProof.Rows L2
local macro_rules | `(tactic| walk_at "pl") => `(tactic| simp only [run_nil, run_seq, run_pass, run_brk, run_cnt, run_frz, run_asg, run_ret, run_retN, run_retV, run_iff, run_app, run_ext, run_pop, run_sto, run_aug, run_rai, ev_v, ev_int, ev_str, ev_bl, ev_non, ev_g, ev_bin, ev_cmp, ev_chain, ev_and, ev_or, ev_not, ev_tru, ev_ite, ev_neg, ev_ix, ev_cut, ev_no, ev_part, ev_lst, ev_tup, ev_bi, ev_isi, ev_call, evs_nil, evs_cons, evs_star, consL_ok, bindL_ok,
  bind_ok, bind_ite, resP_ok, resP_ex, resP_st, resP_ite, brP_b, brR_b, okI_ok, okB_ok, okS_ok,
  add_ii, sub_ii, mul_r, mul_l, div_p, mod_p, pow_18, shl_p, shr_p, and_ii, or_ii, xor_ii, lt_ii, le_ii, gt_ii, ge_ii, eq_ii, ne_ii, isN_any, notN_any, eq_dI, ne_dI, sc_dI, sc_scr, sc_int, sc_bool, sc_str, sc_non, sc_lst, sc_tup, len_dI, len_scr, len_lst, len_tup, int_i, int_b, of1_1, of2_2, int1_i, int2_i,
  list_dI', app_dI, dI_nil, sum_dI, rd_s, rd_0, rdM, ow_s, ow_dI, ow_0, keep_sc, keep_sh, keep_ow, keep_is, rt_sc, rt_sh, rt_ow, bdP_s, sm_sh, sm_ow, sm_is, sm_bo, nx_ok, rt_ok, st_bo, st_b, st_nil, startE, biK, tgB, bdN, truR, truD, notR, lstR, tupR, retV,
  List.getElem?_cons_succ, List.getElem?_cons_zero, List.set_cons_succ, List.set_cons_zero, Option.map_some, if_true, if_false, Bool.false_eq_true, reduceCtorEq, decide_eq_true_eq, List.cons_append, List.nil_append, List.length_cons, List.length_nil, Nat.reduceAdd, Nat.reduceSub, List.replicate_succ, List.replicate_zero, Nat.reduceLeDiff, true_and, and_true, List.all_cons, List.all_nil, Bool.and_true, List.map_cons, List.map_nil, ne_eq, not_false_eq_true, iff_true, true_iff, iff_false, false_iff, Bool.not_eq_true', decide_eq_false_iff_not, Int.reduceNeg, Int.reduceLE, Int.reduceLT])
variable {T : Tab}
/-! _law_at -/
def m_at : Sm := (.seq (.iff (.cmp .Lt (.v 1) (.bi .len (.cons (.v 0) .nil))) (.seq (.ret (.bin .Mod (.bi .int (.cons (.ix (.v 0) (.v 1)) .nil)) (.v 2))) .nil) .nil) (.seq (.ret (.int 0)) .nil))
def atF (L : List Int) (k m : Int) : Int := if k < L.length then nth L k % m else 0
noncomputable def fi_at : Fi := Fi.of 3 [] (fun x : List Int × Int × Int => [dI x.1, .int x.2.1, .int x.2.2]) (fun x => 0 ≤ x.2.1 ∧ 0 < x.2.2) (fun x => okI (atF x.1 x.2.1 x.2.2))
theorem at_sem {L : List Int} {k m : Int} (h1 : 0 ≤ k) (h2 : 0 < m) : fi_at.sem [dI L, .int k, .int m] = .ok .sh (.int (atF L k m)) :=
  Fi.of_sem (enc := fun x : List Int × Int × Int => [dI x.1, .int x.2.1, .int x.2.2]) (fun ⟨a, b, c⟩ ⟨a', b', c'⟩ h => by simpa [dI_eq] using h) (L, k, m) ⟨h1, h2⟩
theorem atF_ge {L : List Int} {k m : Int} (h : 0 < m) : 0 ≤ atF L k m := by
  unfold atF
  split
  · exact Int.emod_nonneg _ (by omega)
  · exact Int.le_refl 0
theorem atF_lt {L : List Int} {k m : Int} (h : 0 < m) : atF L k m < m := by
  unfold atF
  split
  · exact Int.emod_lt_of_pos _ h
  · exact h
theorem meets_at : Meets T m_at fi_at 3 := Fi.of_meets fun ⟨L, k, m⟩ ⟨h1, h2⟩ => by
  unfold m_at
  walk_at "pl"
  dsimp only at h1 h2
  unfold atF
  by_cases h : k < L.length
  · rw [if_pos h, if_pos h, ix_dI h1 h]
    walk_at "pl"
    rw [mod_p h2]
    walk_at "pl"
  · rw [if_neg h, if_neg h]
/-! _law_is_integer -/
def m_isint : Sm := (.seq (.ret (.and (.isi "int" (.v 0)) (.not (.isi "bool" (.v 0))))) .nil)
theorem kit1 : kitB "int" "int" = some true := by decide +kernel
theorem kit2 : kitB "int" "bool" = some false := by decide +kernel
theorem kit3 : kitB "list" "list" = some true := by decide +kernel
theorem kit4 : kitB "tuple" "tuple" = some true := by decide +kernel
theorem isi_int {i : Int} : isiR "int" (.int i) = okB true := by unfold isiR tyN; dsimp only; rw [kit1]
theorem isi_bool {i : Int} : isiR "bool" (.int i) = okB false := by unfold isiR tyN; dsimp only; rw [kit2]
theorem isi_list {l : List PyData} : isiR "list" (.list l) = okB true := by unfold isiR tyN; dsimp only; rw [kit3]
theorem isi_dI {L : List Int} : isiR "list" (dI L) = okB true := isi_list
theorem isi_tup {l : List PyData} : isiR "tuple" (.tuple l) = okB true := by unfold isiR tyN; dsimp only; rw [kit4]
noncomputable def fi_isint : Fi := Fi.of 1 [] (fun x : Int => [.int x]) (fun _ => True) (fun _ => okB true)
theorem isint_sem {i : Int} : fi_isint.sem [.int i] = .ok .sh (.bool true) := Fi.of_sem (enc := fun x : Int => [.int x]) (fun a b h => by
  injection h with h _
  exact int_inj h) i trivial
theorem meets_isint : Meets T m_isint fi_isint 1 := Fi.of_meets fun i _ => by
  unfold m_isint
  walk_at "pl"
  rw [isi_int, isi_bool]
  walk_at "pl"
  simp
/-! _law_draws -/
def m_draws : Sm := (.seq (.asg (.n 1) (.lst .nil)) (.seq (.for (.rng (.cons (.bi .min2 (.cons (.int 63) (.cons (.bi .len (.cons (.v 0) .nil)) .nil))) .nil)) (.n 2) (.seq (.asg (.n 3) (.bi .abs (.cons (.ix (.v 0) (.v 2)) .nil))) (.seq (.iff (.cmp .GtE (.v 3) (.bin .Pow (.int 10) (.int 18))) (.seq (.for (.rng (.cons (.int 60) .nil)) (.n 4) (.seq (.iff (.cmp .Gt (.v 3) (.int 0)) (.seq (.app 1 (.bin .Mod (.bi .int (.cons (.v 3) .nil)) (.int 65536))) (.seq (.asg (.n 3) (.bin .FloorDiv (.v 3) (.int 65536))) .nil)) .nil) .nil)) .nil) (.seq (.asg (.n 5) (.bin .Mod (.bi .int (.cons (.bin .Add (.bin .Mult (.v 3) (.int 48271)) (.bin .Mult (.bin .Add (.v 2) (.int 1)) (.int 69621))) .nil)) (.int 2147483647))) (.seq (.asg (.n 5) (.bin .Mod (.bi .int (.cons (.bin .Add (.bin .Add (.bin .Mult (.v 5) (.int 16807)) (.bin .Mult (.int 11) (.v 2))) (.int 5)) .nil)) (.int 2147483629))) (.seq (.app 1 (.bin .Mod (.bi .int (.cons (.v 5) .nil)) (.int 65536))) (.seq (.app 1 (.bin .Mod (.bi .int (.cons (.bin .FloorDiv (.v 5) (.int 65536)) .nil)) (.int 32768))) .nil))))) .nil))) (.seq (.retV 1) .nil)))
def digs : Nat → Int → List Int
  | 0, _ => []
  | n + 1, r => if 0 < r then r % 65536 :: digs n (r / 65536) else []
def mix1 (k r : Int) : Int := (r * 48271 + (k + 1) * 69621) % 2147483647
def mix2 (k r : Int) : Int := (mix1 k r * 16807 + 11 * k + 5) % 2147483629
def drawOne (k r : Int) : List Int := if 1000000000000000000 ≤ r then digs 60 r else [mix2 k r % 65536, mix2 k r / 65536 % 32768]
def drawsTo (ns : List Int) : Nat → List Int
  | 0 => []
  | i + 1 => drawsTo ns i ++ drawOne i (absI (nth ns i))
def drawsF (ns : List Int) : List Int := drawsTo ns ns.length
noncomputable def fi_draws : Fi := Fi.of 1 [] (fun ns : List Int => [scr ns]) (fun ns => ns.length ≤ 63) (fun ns => .ok .ow (dI (drawsF ns)))
theorem draws_sem {ns : List Int} (h : ns.length ≤ 63) : fi_draws.sem [scr ns] = .ok .ow (dI (drawsF ns)) := Fi.of_sem (enc := fun ns : List Int => [scr ns]) law_inj ns h
theorem digs_ok : ∀ (n : Nat) (r : Int), (digs n r).length ≤ n ∧ ∀ d ∈ digs n r, 0 ≤ d ∧ d < 65536
  | 0, r => ⟨Nat.le_refl 0, fun d h => by simp [digs] at h⟩
  | n + 1, r => by
    obtain ⟨h1, h2⟩ := digs_ok n (r / 65536)
    unfold digs
    split
    · refine ⟨by rw [List.length_cons]; omega, fun d h => ?_⟩
      rcases List.mem_cons.mp h with rfl | h
      · exact ⟨Int.emod_nonneg _ (by decide), Int.emod_lt_of_pos _ (by decide)⟩
      · exact h2 d h
    · exact ⟨Nat.zero_le _, fun d h => by simp at h⟩
theorem drawOne_ok (k r : Int) : (drawOne k r).length ≤ 60 ∧ ∀ d ∈ drawOne k r, 0 ≤ d ∧ d < 65536 := by
  unfold drawOne
  split
  · exact digs_ok 60 r
  · refine ⟨by simp, fun d h => ?_⟩
    have h1 := Int.emod_nonneg (mix2 k r) (show (65536 : Int) ≠ 0 by decide)
    have h2 := Int.emod_lt_of_pos (mix2 k r) (show (0 : Int) < 65536 by decide)
    have h3 := Int.emod_nonneg (mix2 k r / 65536) (show (32768 : Int) ≠ 0 by decide)
    have h4 := Int.emod_lt_of_pos (mix2 k r / 65536) (show (0 : Int) < 32768 by decide)
    simp only [List.mem_cons, List.not_mem_nil, or_false] at h
    rcases h with rfl | rfl
    · exact ⟨h1, h2⟩
    · exact ⟨h3, by omega⟩
theorem drawsTo_ok (ns : List Int) : ∀ i : Nat, (drawsTo ns i).length ≤ 60 * i ∧ ∀ d ∈ drawsTo ns i, 0 ≤ d ∧ d < 65536
  | 0 => ⟨Nat.le_refl 0, fun d h => by simp [drawsTo] at h⟩
  | i + 1 => by
    obtain ⟨h1, h2⟩ := drawsTo_ok ns i
    obtain ⟨h3, h4⟩ := drawOne_ok i (absI (nth ns i))
    unfold drawsTo
    refine ⟨by rw [List.length_append]; omega, fun d h => ?_⟩
    rcases List.mem_append.mp h with h | h
    · exact h2 d h
    · exact h4 d h
theorem drawsF_ok {ns : List Int} (h : ns.length ≤ 63) : DrOk (drawsF ns) := by
  obtain ⟨h1, h2⟩ := drawsTo_ok ns ns.length
  exact ⟨by unfold drawsF; omega, h2⟩
theorem line_big : 100000 ≤ sizeLine := by rw [sizeLine_eq]; decide
theorem digs_stop : ∀ (n : Nat) {r : Int}, ¬ 0 < r → digs n r = []
  | 0, _, _ => rfl
  | n + 1, r, h => by unfold digs; rw [if_neg h]
def shr : Nat → Int → Int
  | 0, r => r
  | n + 1, r => if 0 < r then shr n (r / 65536) else r
theorem shr_stop : ∀ (n : Nat) {r : Int}, ¬ 0 < r → shr n r = r
  | 0, _, _ => rfl
  | n + 1, r, h => by unfold shr; rw [if_neg h]
theorem digs_succ : ∀ (n : Nat) (r : Int), digs (n + 1) r = digs n r ++ (if 0 < shr n r then [shr n r % 65536] else []) ∧ shr (n + 1) r = (if 0 < shr n r then shr n r / 65536 else shr n r)
  | 0, r => by
    constructor
    · show (if 0 < r then r % 65536 :: [] else []) = [] ++ _
      rfl
    · rfl
  | n + 1, r => by
    obtain ⟨h1, h2⟩ := digs_succ n (r / 65536)
    by_cases h : 0 < r
    · have e1 : digs (n + 1 + 1) r = r % 65536 :: digs (n + 1) (r / 65536) := by rw [digs, if_pos h]
      have e2 : digs (n + 1) r = r % 65536 :: digs n (r / 65536) := by rw [digs, if_pos h]
      have e3 : shr (n + 1 + 1) r = shr (n + 1) (r / 65536) := by rw [shr, if_pos h]
      have e4 : shr (n + 1) r = shr n (r / 65536) := by rw [shr, if_pos h]
      rw [e1, e2, e3, e4]
      exact ⟨by rw [h1]; rfl, h2⟩
    · rw [digs_stop _ h, digs_stop _ h, shr_stop _ h, shr_stop _ h, if_neg h, if_neg h]
      exact ⟨rfl, rfl⟩
theorem app_len {L : List Int} {n : Nat} (h : L.length ≤ n) (hn : n < 16777216) : (L.map PyData.int).length < sizeLine := by
  rw [List.length_map, sizeLine_eq]
  omega
theorem app_dI2 {L : List Int} {a b : Int} : PyData.list (L.map PyData.int ++ [.int a] ++ [.int b]) = dI (L ++ [a, b]) := by
  unfold dI
  rw [List.map_append, List.append_assoc]
  rfl
theorem meets_draws : Meets T m_draws fi_draws 6 := Fi.of_meets fun ns hl => by
  unfold m_draws
  walk_at "pl"
  have em : minI 63 ns.length = ns.length := by unfold minI; split <;> omega
  rw [if_pos (Nat.zero_le _), run_for]
  refine for_rng (n := ns.length) (lo := 0) ?_ (fun i env => ∃ y2 y3 y4 y5, env = [some (.bo, scr ns), some (.ow, dI (drawsTo ns i)), y2, y3, y4, y5]) ⟨_, _, _, _, rfl⟩ (fun env h => ?_) fun i z env hi hz h => ?_
  · rw [rng_1 (m := .sh) (j := ns.length) (by walk_at "pl"; rw [em]) (by omega), Int.toNat_natCast]
  · obtain ⟨y2, y3, y4, y5, rfl⟩ := h
    walk_at "pl"
    rfl
  · obtain ⟨y2, y3, y4, y5, rfl⟩ := h
    have h0 : (0 : Int) ≤ z := by omega
    have h1 : z < ns.length := by omega
    have hn : drawsTo ns (i + 1) = drawsTo ns i ++ drawOne z (absI (nth ns z)) := by
      rw [hz, Int.zero_add]; rfl
    have hb := (drawsTo_ok ns i).1
    walk_at "pl"
    rw [ix_scr h0 h1]
    walk_at "pl"
    generalize absI (nth ns z) = r at hn ⊢
    by_cases hr : 1000000000000000000 ≤ r
    · have ed : drawOne z r = digs 60 r := if_pos hr
      rw [if_pos hr, run_for]
      refine for_rng (n := 60) (lo := 0) ?_ (fun j env => ∃ y4, env = [some (.bo, scr ns), some (.ow, dI (drawsTo ns i ++ digs j r)), some (.sh, .int z), some (.sh, .int (shr j r)), y4, y5]) ⟨y4, ?_⟩ (fun env h => ?_) fun j w env hj hw h => ?_
      · rw [rng_1 (m := .sh) (j := 60) (by walk_at "pl") (by omega)]
        rfl
      · rw [digs, List.append_nil, shr]
      · obtain ⟨y4, rfl⟩ := h
        walk_at "pl"
        exact ⟨_, _, _, _, by rw [hn, ed]⟩
      · obtain ⟨y4, rfl⟩ := h
        obtain ⟨k1, k2⟩ := digs_succ j r
        have hb2 := (digs_ok j r).1
        walk_at "pl"
        rw [k1, k2]
        by_cases hp : 0 < shr j r
        · rw [if_pos hp, if_pos hp, if_pos hp]
          refine ⟨app_len (n := 60 * 63 + 60) (by rw [List.length_append]; omega) (by decide), some (.sh, .int w), ?_⟩
          rw [List.append_assoc]
        · rw [if_neg hp, if_neg hp, if_neg hp, List.append_nil]
          exact ⟨_, rfl⟩
    · have ed : drawOne z r = [mix2 z r % 65536, mix2 z r / 65536 % 32768] := if_neg hr
      rw [if_neg hr]
      refine ⟨app_len (n := 60 * 63) (by omega) (by decide), ?_, ?_⟩
      · rw [List.length_append, List.length_map, sizeLine_eq]
        simp only [List.length_cons, List.length_nil]
        omega
      · rw [app_dI2, hn, ed]
        exact ⟨_, _, _, _, rfl⟩
end Pl

/-! Pl16: comprehensions, calls, bits. -/
namespace Pl
open PySem PySem.Spec PyProof.Rows L2
variable {T : Tab} {env : PEnv} {m : Md} {lo : Int} {n : Nat}
theorem lc_go {vs : List Nat} {b : Bd} {c g : PEnv → Res} (p : PyData → Bool) (F : PyData → PyData) : ∀ ds : List PyData,
    (∀ d ∈ ds, ∃ env' mc, b (elm m d) d (wipeE env vs) = some env' ∧ c env' = .ok mc (.bool (p d)) ∧ (p d = true → ∃ m', g env' = .ok m' (F d) ∧ keepM m' (F d) = true)) →
    lcGo vs b c g env m ds = some ((ds.filter p).map F)
  | [], _ => by rw [lcGo]; rfl
  | d :: ds, h => by
    obtain ⟨env', mc, h1, h2, h3⟩ := h d (List.mem_cons_self ..)
    have ih := lc_go p F ds fun e he => h e (List.mem_cons_of_mem _ he)
    rw [lcGo, h1, Option.bind_some, h2]
    cases hp : p d with
    | true =>
      obtain ⟨m', h4, h5⟩ := h3 hp
      dsimp only
      rw [h4]
      dsimp only
      rw [if_pos h5, ih, List.filter_cons_of_pos hp]
      rfl
    | false =>
      dsimp only
      rw [ih, List.filter_cons_of_neg (by rw [hp]; exact Bool.false_ne_true)]
theorem ev_lcN {it : Iter} {own : List (Str × Nat)} {tg : Tg} {c g : Ex} {ds : List PyData} (p : PyData → Bool) (F : PyData → PyData) (hi : evi T it env = .ok m ds) (hl : ds.length ≤ sizeLine)
    (h : ∀ d ∈ ds, ∃ env' mc, tgB tg (elm m d) d (wipeE env (own.map (·.2))) = some env' ∧ ev T c env' = .ok mc (.bool (p d)) ∧ (p d = true → ∃ m', ev T g env' = .ok m' (F d) ∧ keepM m' (F d) = true)) :
    ev T (.lc it own tg c g) env = .ok .ow (.list ((ds.filter p).map F)) := by
  rw [ev_lc]
  unfold lcR lcD
  rw [hi]
  dsimp only
  rw [if_pos hl, lc_go p F ds h]
/-- the numbers of a range -/
def rgI (lo : Int) (n : Nat) : List Int := (List.range n).map fun i : Nat => lo + i
theorem rgI_len : (rgI lo n).length = n := by unfold rgI; rw [List.length_map, List.length_range]
theorem rgI_mem {z : Int} : z ∈ rgI lo n ↔ lo ≤ z ∧ z < lo + n := by
  unfold rgI
  rw [List.mem_map]
  constructor
  · rintro ⟨i, h, rfl⟩
    rw [List.mem_range] at h
    omega
  · intro h
    exact ⟨(z - lo).toNat, by rw [List.mem_range]; omega, by omega⟩
theorem rngL_I : rngL lo n = (rgI lo n).map .int := by unfold rngL rgI; rw [List.map_map]; rfl
theorem filter_ints (p : Int → Bool) (q : PyData → Bool) (h : ∀ z, q (.int z) = p z) : ∀ L : List Int, (L.map PyData.int).filter q = (L.filter p).map .int
  | [] => rfl
  | z :: L => by
    rw [List.map_cons]
    cases hp : p z with
    | true => rw [List.filter_cons_of_pos (by rw [h]; exact hp), List.filter_cons_of_pos hp, filter_ints p q h L]; rfl
    | false => rw [List.filter_cons_of_neg (by rw [h, hp]; exact Bool.false_ne_true), List.filter_cons_of_neg (by rw [hp]; exact Bool.false_ne_true), filter_ints p q h L]
def ofI {α : Type} (dflt : α) (f : Int → α) : PyData → α
  | .int z => f z
  | _ => dflt
/-- a comprehension over numbers, with a test -/
theorem lc_intsF {x : Str} {s : Nat} {it : Iter} {c g : Ex} {L : List Int} (p : Int → Bool) (f : Int → PyData) (hi : evi T it env = .ok m (L.map .int)) (hl : L.length ≤ 16777216)
    (h : ∀ z ∈ L, ∃ mc, ev T c (env.set s (some (.sh, .int z))) = .ok mc (.bool (p z)) ∧ (p z = true → ∃ m', ev T g (env.set s (some (.sh, .int z))) = .ok m' (f z) ∧ keepM m' (f z) = true)) :
    ev T (.lc it [(x, s)] (.n s) c g) env = .ok .ow (.list ((L.filter p).map f)) := by
  rw [ev_lcN (ofI false p) (ofI .none f) hi (by rw [List.length_map, sizeLine_eq]; omega), filter_ints p _ fun _ => rfl, List.map_map]
  · rfl
  · intro d hd
    obtain ⟨z, hz, rfl⟩ := List.mem_map.mp hd
    obtain ⟨mc, h1, h2⟩ := h z hz
    refine ⟨env.set s (some (.sh, .int z)), mc, ?_, h1, h2⟩
    rw [elm_sc rfl]
    show (slMode .sh (PyData.int z)).map (fun q => ((wipeE env []).set s none).set s (some q)) = _
    rw [sm_sh, Option.map_some, List.set_set]
    rfl
theorem lc_intsP {x : Str} {s : Nat} {it : Iter} {g : Ex} {L : List Int} (f : Int → PyData) (hi : evi T it env = .ok m (L.map .int)) (hl : L.length ≤ 16777216)
    (h : ∀ z ∈ L, ∃ m', ev T g (env.set s (some (.sh, .int z))) = .ok m' (f z) ∧ keepM m' (f z) = true) :
    ev T (.lc it [(x, s)] (.n s) (.bl true) g) env = .ok .ow (.list (L.map f)) := by
  rw [lc_intsF (fun _ => true) f hi hl fun z hz => ⟨.sh, ev_bl, fun _ => h z hz⟩, List.filter_eq_self.mpr fun _ _ => rfl]
theorem lc_ints {x : Str} {s : Nat} {it : Iter} {g : Ex} {L : List Int} (f : Int → Int) (hi : evi T it env = .ok m (L.map .int)) (hl : L.length ≤ 16777216)
    (h : ∀ z ∈ L, ev T g (env.set s (some (.sh, .int z))) = .ok .sh (.int (f z))) :
    ev T (.lc it [(x, s)] (.n s) (.bl true) g) env = .ok .ow (dI (L.map f)) := by
  rw [lc_intsP (fun z => .int (f z)) hi hl fun z hz => ⟨.sh, h z hz, keep_sh⟩]
  unfold dI
  rw [List.map_map]
  rfl
theorem lc_rngP {x : Str} {s : Nat} {it : Iter} {g : Ex} (f : Int → PyData) (hi : evi T it env = .ok .sh (rngL lo n)) (hl : n ≤ 16777216)
    (h : ∀ z, lo ≤ z → z < lo + n → ∃ m', ev T g (env.set s (some (.sh, .int z))) = .ok m' (f z) ∧ keepM m' (f z) = true) :
    ev T (.lc it [(x, s)] (.n s) (.bl true) g) env = .ok .ow (.list ((rgI lo n).map f)) :=
  lc_intsP f (by rw [hi, rngL_I]) (by rw [rgI_len]; exact hl) fun z hz => h z (rgI_mem.mp hz).1 (rgI_mem.mp hz).2
theorem lc_rng {x : Str} {s : Nat} {it : Iter} {g : Ex} (f : Int → Int) (hi : evi T it env = .ok .sh (rngL lo n)) (hl : n ≤ 16777216)
    (h : ∀ z, lo ≤ z → z < lo + n → ev T g (env.set s (some (.sh, .int z))) = .ok .sh (.int (f z))) :
    ev T (.lc it [(x, s)] (.n s) (.bl true) g) env = .ok .ow (dI ((rgI lo n).map f)) :=
  lc_ints f (by rw [hi, rngL_I]) (by rw [rgI_len]; exact hl) fun z hz => h z (rgI_mem.mp hz).1 (rgI_mem.mp hz).2
theorem rng_n {es : Exs} {j : Int} (h : evs T es env = .ok [(m, .int j)]) (hj : j = n) (hn : n < 4611686018427387904) : evi T (.rng es) env = .ok .sh (rngL 0 n) := by
  subst hj
  rw [rng_1 h (by omega), Int.toNat_natCast]
theorem rng_2n {m' : Md} {es : Exs} {i j : Int} (h : evs T es env = .ok [(m, .int i), (m', .int j)]) (hj : j = i + n) (hi : -4611686018427387904 ≤ i) (hn : i + n < 4611686018427387904) : evi T (.rng es) env = .ok .sh (rngL i n) := by
  subst hj
  rw [rng_2 h (by omega), show (i + n - i).toNat = n by omega]
theorem le_size {k : Nat} (h : k ≤ 16777216) : (k ≤ sizeLine) = True := by rw [sizeLine_eq]; exact eq_true h
theorem lt_size {k : Nat} (h : k < 16777216) : (k < sizeLine) = True := by rw [sizeLine_eq]; exact eq_true h
section
variable {b : Bool} {i : Int} {L : List Int} {l : List PyData} {y : Str}
theorem tru_b : truR (.bool b) = .ok .sh (.bool b) := rfl
theorem tru_i : truR (.int i) = .ok .sh (.bool (i != 0)) := rfl
theorem tru_n : truR .none = .ok .sh (.bool false) := rfl
theorem tru_l : truR (.list l) = .ok .sh (.bool (!l.isEmpty)) := rfl
theorem tru_t : truR (.tuple l) = .ok .sh (.bool (!l.isEmpty)) := rfl
theorem tru_dI : truR (dI L) = .ok .sh (.bool (!L.isEmpty)) := by
  show Res.ok .sh (PyData.bool (!(L.map PyData.int).isEmpty)) = _
  rw [List.isEmpty_map]
theorem not_b : notR (.bool b) = .ok .sh (.bool (!b)) := rfl
end
/-! calls -/
theorem call_sc {fi : Fi} {l : List (Md × PyData)} {d : PyData} (h : fi.sem (l.map (·.2)) = .ok m d) (hd : isSc d = true) (h1 : l.length = fi.np) (h2 : fi.shs = []) (h3 : fi.dfl = []) : callR fi l = .ok .sh d := by
  unfold callR
  rw [if_pos ⟨h1, by rw [h2]; rfl⟩, h3, List.append_nil, h]
  dsimp only
  unfold calM
  rw [if_pos hd]
theorem call_ow {fi : Fi} {l : List (Md × PyData)} {d : PyData} (h : fi.sem (l.map (·.2)) = .ok .ow d) (hd : isSc d = false) (h1 : l.length = fi.np) (h2 : fi.shs = []) (h3 : fi.dfl = []) : callR fi l = .ok .ow d := by
  unfold callR
  rw [if_pos ⟨h1, by rw [h2]; rfl⟩, h3, List.append_nil, h]
  dsimp only
  unfold calM isoF
  rw [h2, if_neg (by rw [hd]; exact Bool.false_ne_true)]
  rfl
theorem call_is {fi : Fi} {l : List (Md × PyData)} {d : PyData} (h : fi.sem (l.map (·.2)) = .ok .sh d) (hd : isSc d = false) (h1 : l.length = fi.np) (h2 : fi.shs = []) (h3 : fi.dfl = []) : callR fi l = .ok .is d := by
  unfold callR
  rw [if_pos ⟨h1, by rw [h2]; rfl⟩, h3, List.append_nil, h]
  dsimp only
  unfold calM isoF
  rw [h2, if_neg (by rw [hd]; exact Bool.false_ne_true)]
  rfl
theorem call_ex {fi : Fi} {l : List (Md × PyData)} {c : Str} {a : Int} (h : fi.sem (l.map (·.2)) = .ex c a) (h1 : l.length = fi.np) (h2 : fi.shs = []) (h3 : fi.dfl = []) : callR fi l = .ex c a := by
  unfold callR
  rw [if_pos ⟨h1, by rw [h2]; rfl⟩, h3, List.append_nil, h]
theorem scr_sc {ns : List Int} : isSc (scr ns) = false := rfl
/-! places -/
theorem nth_get {L : List Int} {i : Nat} {z : Int} (h : L[i]? = some z) : nth L i = z := by
  unfold nth
  rw [Int.toNat_natCast, List.getD_eq_getElem?_getD, h]
  rfl
theorem get_nth {L : List Int} {i : Nat} (h : i < L.length) : L[i]? = some (nth L i) := by
  rw [nth_get (List.getElem?_eq_getElem h), List.getElem?_eq_getElem h]
theorem nth_map_rng {f : Int → Int} {i : Int} (h0 : 0 ≤ i) (h1 : i < n) : nth ((rgI lo n).map f) i = f (lo + i) := by
  obtain ⟨k, rfl⟩ : ∃ k : Nat, i = k := ⟨i.toNat, by omega⟩
  refine nth_get ?_
  unfold rgI
  rw [List.map_map, List.getElem?_map, List.getElem?_range (by omega)]
  rfl
theorem nth_set {L : List Int} {j : Nat} {x : Int} (i : Int) (h0 : 0 ≤ i) (h1 : i < L.length) : nth (L.set j x) i = if i = j then x else nth L i := by
  obtain ⟨k, rfl⟩ : ∃ k : Nat, i = k := ⟨i.toNat, by omega⟩
  unfold nth
  rw [Int.toNat_natCast, List.getD_eq_getElem?_getD, List.getD_eq_getElem?_getD, List.getElem?_set]
  by_cases h : j = k
  · subst h
    rw [if_pos rfl, if_pos (by omega), if_pos rfl]
    rfl
  · rw [if_neg h, if_neg (by omega)]
theorem set_dI {L : List Int} {j : Nat} {x : Int} : PyData.list ((L.map PyData.int).set j (.int x)) = dI (L.set j x) := by unfold dI; rw [List.map_set]
theorem ixN_p {n : Nat} {i : Int} (h0 : 0 ≤ i) (h1 : i < n) : ixN n i = some i.toNat := by
  unfold L2.ixN
  rw [if_pos h0, if_pos h1]
/-! bits of what is not below 0 -/
theorem xor_nn {a b : Nat} : Builtin.bitXor (a : Int) (b : Int) = ((a ^^^ b : Nat) : Int) := by rw [Bits.bitXor_pp (by omega) (by omega)]; rfl
theorem and_nn {a b : Nat} : Builtin.bitAnd (a : Int) (b : Int) = ((a &&& b : Nat) : Int) := rfl
theorem and_1 {a : Nat} : Builtin.bitAnd (a : Int) 1 = ((a % 2 : Nat) : Int) := by rw [show (1 : Int) = ((1 : Nat) : Int) from rfl, and_nn, Nat.and_one_is_mod]
theorem and_mask {a k : Nat} {c : Int} (h : c = ((2 ^ k - 1 : Nat) : Int)) : Builtin.bitAnd (a : Int) c = ((a % 2 ^ k : Nat) : Int) := by rw [h, and_nn, Nat.and_two_pow_sub_one_eq_mod]
theorem shr_n {a k : Nat} : (a : Int) / 2 ^ k = ((a / 2 ^ k : Nat) : Int) := by rw [Int.natCast_ediv, Int.natCast_pow]; rfl
end Pl
namespace K01
open PySem PySem.Spec PyProof.Rows L2 Pl
local macro_rules | `(tactic| walk_at "pl") => `(tactic| simp only [run_nil, run_seq, run_pass, run_brk, run_cnt, run_frz, run_asg, run_ret, run_retN, run_retV, run_iff, run_app, run_ext, run_pop, run_sto, run_aug, run_rai, ev_v, ev_int, ev_str, ev_bl, ev_non, ev_g, ev_bin, ev_cmp, ev_chain, ev_and, ev_or, ev_not, ev_tru, ev_ite, ev_neg, ev_ix, ev_cut, ev_no, ev_part, ev_lst, ev_tup, ev_bi, ev_isi, ev_call, evs_nil, evs_cons, evs_star, consL_ok, bindL_ok,
  bind_ok, bind_ite, resP_ok, resP_ex, resP_st, resP_ite, brP_b, brR_b, okI_ok, okB_ok, okS_ok,
  add_ii, sub_ii, mul_r, mul_l, div_p, mod_p, pow_18, shl_p, shr_p, and_ii, or_ii, xor_ii, lt_ii, le_ii, gt_ii, ge_ii, eq_ii, ne_ii, isN_any, notN_any, eq_dI, ne_dI, sc_dI, sc_scr, sc_int, sc_bool, sc_str, sc_non, sc_lst, sc_tup, len_dI, len_scr, len_lst, len_tup, int_i, int_b, of1_1, of2_2, int1_i, int2_i,
  list_dI', app_dI, dI_nil, sum_dI, rd_s, rd_0, rdM, ow_s, ow_dI, ow_0, keep_sc, keep_sh, keep_ow, keep_is, rt_sc, rt_sh, rt_ow, bdP_s, sm_sh, sm_ow, sm_is, sm_bo, nx_ok, rt_ok, st_bo, st_b, st_nil, startE, biK, tgB, bdN, tru_b, tru_i, tru_n, tru_l, tru_t, tru_dI, not_b, isi_int, isi_dI, isi_list, isi_tup, not_true_eq_false, not_false_eq_true, lstR, tupR, retV,
  List.getElem?_cons_succ, List.getElem?_cons_zero, List.set_cons_succ, List.set_cons_zero, Option.map_some, if_true, if_false, Bool.false_eq_true, reduceCtorEq, decide_eq_true_eq, List.cons_append, List.nil_append, List.length_cons, List.length_nil, Nat.reduceAdd, Nat.reduceSub, List.replicate_succ, List.replicate_zero, Nat.reduceLeDiff, true_and, and_true, List.all_cons, List.all_nil, Bool.and_true, List.map_cons, List.map_nil, ne_eq, not_false_eq_true, iff_true, true_iff, iff_false, false_iff, Bool.not_eq_true', decide_eq_false_iff_not, Int.reduceNeg, Int.reduceLE, Int.reduceLT, frzP, augP, ixN_p, le_size, lt_size, Nat.reduceLT, decide_true, decide_false, eq_self, Bool.not_true, Bool.not_false, Nat.zero_le])
/-! ### the text of law_k01_checksum_of_a_row -/
def topS (i : Nat) : Stmt := PySem.Challenge.pw_spoolbox_k01_checksum_of_a_row.main.body.getD i (.Pass ⟨0, 0, 0, 0⟩)
/-! checksum -/
abbrev s_checksum : Stmt := topS 3
def c_checksum : Pl.Ctx := { N := ["row", "rest", "value", "_"], sc := defScope s_checksum, fnc := fun _ => true, fn := [], cn := ["FULL", "POLYNOMIAL"], bis := ["range"], exs := [] }
def m_checksum : Sm := (.seq (.asg (.n 1) (.g 0)) (.seq (.frz 0 (.for (.e (.v 0)) (.n 2) (.seq (.asg (.n 1) (.bin .BitXor (.v 1) (.v 2))) (.seq (.for (.rng (.cons (.int 8) .nil)) (.n 3) (.seq (.iff (.tru (.bin .BitAnd (.v 1) (.int 1))) (.seq (.asg (.n 1) (.bin .BitXor (.bin .RShift (.v 1) (.int 1)) (.g 1))) .nil) (.seq (.asg (.n 1) (.bin .RShift (.v 1) (.int 1))) .nil)) .nil)) .nil)))) (.seq (.ret (.bin .BitXor (.v 1) (.g 0))) .nil)))
theorem sc_checksum : FnScope c_checksum.N ["row"] (defScope s_checksum) := ⟨rfl, rfl, rfl, by decide +kernel, rfl, by decide +kernel, by decide +kernel⟩
theorem ck_checksum : chkB c_checksum m_checksum (defBody s_checksum) = true := by decide +kernel
/-! four_bytes -/
abbrev s_four_bytes : Stmt := topS 4
def c_four_bytes : Pl.Ctx := { N := ["number", "k"], sc := defScope s_four_bytes, fnc := fun _ => true, fn := ["checksum"], cn := ["FULL", "POLYNOMIAL"], bis := ["range"], exs := [] }
def m_four_bytes : Sm := (.seq (.ret (.lc (.rng (.cons (.int 4) .nil)) [("k", 1)] (.n 1) (.bl true) (.bin .BitAnd (.bin .RShift (.v 0) (.bin .Mult (.int 8) (.v 1))) (.int 255)))) .nil)
theorem sc_four_bytes : FnScope c_four_bytes.N ["number"] (defScope s_four_bytes) := ⟨rfl, rfl, rfl, by decide +kernel, rfl, by decide +kernel, by decide +kernel⟩
theorem ck_four_bytes : chkB c_four_bytes m_four_bytes (defBody s_four_bytes) = true := by decide +kernel
/-! number_of -/
abbrev s_number_of : Stmt := topS 5
def c_number_of : Pl.Ctx := { N := ["row"], sc := defScope s_number_of, fnc := fun _ => true, fn := ["checksum", "four_bytes"], cn := ["FULL", "POLYNOMIAL"], bis := [], exs := [] }
def m_number_of : Sm := (.seq (.ret (.bin .Add (.bin .Add (.bin .Add (.ix (.v 0) (.int 0)) (.bin .LShift (.ix (.v 0) (.int 1)) (.int 8))) (.bin .LShift (.ix (.v 0) (.int 2)) (.int 16))) (.bin .LShift (.ix (.v 0) (.int 3)) (.int 24)))) .nil)
theorem sc_number_of : FnScope c_number_of.N ["row"] (defScope s_number_of) := ⟨rfl, rfl, rfl, by decide +kernel, rfl, by decide +kernel, by decide +kernel⟩
theorem ck_number_of : chkB c_number_of m_number_of (defBody s_number_of) = true := by decide +kernel
/-! _law_draws -/
abbrev s_l_draws : Stmt := topS 7
def c_l_draws : Pl.Ctx := { N := ["_law_script", "_law_draws_here", "_law_k", "_law_rest", "_law_turn", "_law_mixed"], sc := defScope s_l_draws, fnc := fun _ => true, fn := ["checksum", "four_bytes", "number_of"], cn := ["FULL", "POLYNOMIAL"], bis := ["abs", "int", "len", "min", "range"], exs := [] }
def m_l_draws : Sm := (.seq (.asg (.n 1) (.lst .nil)) (.seq (.for (.rng (.cons (.bi .min2 (.cons (.int 63) (.cons (.bi .len (.cons (.v 0) .nil)) .nil))) .nil)) (.n 2) (.seq (.asg (.n 3) (.bi .abs (.cons (.ix (.v 0) (.v 2)) .nil))) (.seq (.iff (.cmp .GtE (.v 3) (.bin .Pow (.int 10) (.int 18))) (.seq (.for (.rng (.cons (.int 60) .nil)) (.n 4) (.seq (.iff (.cmp .Gt (.v 3) (.int 0)) (.seq (.app 1 (.bin .Mod (.bi .int (.cons (.v 3) .nil)) (.int 65536))) (.seq (.asg (.n 3) (.bin .FloorDiv (.v 3) (.int 65536))) .nil)) .nil) .nil)) .nil) (.seq (.asg (.n 5) (.bin .Mod (.bi .int (.cons (.bin .Add (.bin .Mult (.v 3) (.int 48271)) (.bin .Mult (.bin .Add (.v 2) (.int 1)) (.int 69621))) .nil)) (.int 2147483647))) (.seq (.asg (.n 5) (.bin .Mod (.bi .int (.cons (.bin .Add (.bin .Add (.bin .Mult (.v 5) (.int 16807)) (.bin .Mult (.int 11) (.v 2))) (.int 5)) .nil)) (.int 2147483629))) (.seq (.app 1 (.bin .Mod (.bi .int (.cons (.v 5) .nil)) (.int 65536))) (.seq (.app 1 (.bin .Mod (.bi .int (.cons (.bin .FloorDiv (.v 5) (.int 65536)) .nil)) (.int 32768))) .nil))))) .nil))) (.seq (.retV 1) .nil)))
theorem sc_l_draws : FnScope c_l_draws.N ["_law_script"] (defScope s_l_draws) := ⟨rfl, rfl, rfl, by decide +kernel, rfl, by decide +kernel, by decide +kernel⟩
theorem ck_l_draws : chkB c_l_draws m_l_draws (defBody s_l_draws) = true := by decide +kernel
/-! _law_at -/
abbrev s_l_at : Stmt := topS 8
def c_l_at : Pl.Ctx := { N := ["_law_draws_here", "_law_k", "_law_many"], sc := defScope s_l_at, fnc := fun _ => true, fn := ["checksum", "four_bytes", "number_of", "_law_draws"], cn := ["FULL", "POLYNOMIAL"], bis := ["int", "len"], exs := [] }
def m_l_at : Sm := (.seq (.iff (.cmp .Lt (.v 1) (.bi .len (.cons (.v 0) .nil))) (.seq (.ret (.bin .Mod (.bi .int (.cons (.ix (.v 0) (.v 1)) .nil)) (.v 2))) .nil) .nil) (.seq (.ret (.int 0)) .nil))
theorem sc_l_at : FnScope c_l_at.N ["_law_draws_here", "_law_k", "_law_many"] (defScope s_l_at) := ⟨rfl, rfl, rfl, by decide +kernel, rfl, by decide +kernel, by decide +kernel⟩
theorem ck_l_at : chkB c_l_at m_l_at (defBody s_l_at) = true := by decide +kernel
/-! _law_is_integer -/
abbrev s_l_is_integer : Stmt := topS 9
def c_l_is_integer : Pl.Ctx := { N := ["_law_actual"], sc := defScope s_l_is_integer, fnc := fun _ => true, fn := ["checksum", "four_bytes", "number_of", "_law_draws", "_law_at"], cn := ["FULL", "POLYNOMIAL"], bis := ["bool", "int", "isinstance"], exs := [] }
def m_l_is_integer : Sm := (.seq (.ret (.and (.isi "int" (.v 0)) (.not (.isi "bool" (.v 0))))) .nil)
theorem sc_l_is_integer : FnScope c_l_is_integer.N ["_law_actual"] (defScope s_l_is_integer) := ⟨rfl, rfl, rfl, by decide +kernel, rfl, by decide +kernel, by decide +kernel⟩
theorem ck_l_is_integer : chkB c_l_is_integer m_l_is_integer (defBody s_l_is_integer) = true := by decide +kernel
/-! _law_check -/
abbrev s_l_check : Stmt := topS 10
def c_l_check : Pl.Ctx := { N := ["_law_row", "_law_rest", "_law_byte", "_law_k", "_law_low"], sc := defScope s_l_check, fnc := fun _ => true, fn := ["checksum", "four_bytes", "number_of", "_law_draws", "_law_at", "_law_is_integer"], cn := ["FULL", "POLYNOMIAL"], bis := ["range"], exs := [] }
def m_l_check : Sm := (.seq (.asg (.n 1) (.int 4294967295)) (.seq (.frz 0 (.for (.e (.v 0)) (.n 2) (.seq (.for (.rng (.cons (.int 8) .nil)) (.n 3) (.seq (.asg (.n 4) (.bin .BitAnd (.bin .BitXor (.bin .RShift (.v 2) (.v 3)) (.v 1)) (.int 1))) (.seq (.asg (.n 1) (.bin .RShift (.v 1) (.int 1))) (.seq (.iff (.cmp .Eq (.v 4) (.int 1)) (.seq (.asg (.n 1) (.bin .BitXor (.v 1) (.int 3988292384))) .nil) .nil) .nil)))) .nil))) (.seq (.ret (.bin .BitXor (.v 1) (.int 4294967295))) .nil)))
theorem sc_l_check : FnScope c_l_check.N ["_law_row"] (defScope s_l_check) := ⟨rfl, rfl, rfl, by decide +kernel, rfl, by decide +kernel, by decide +kernel⟩
theorem ck_l_check : chkB c_l_check m_l_check (defBody s_l_check) = true := by decide +kernel
/-! _law_bits -/
abbrev s_l_bits : Stmt := topS 11
def c_l_bits : Pl.Ctx := { N := ["_law_row", "_law_k"], sc := defScope s_l_bits, fnc := fun _ => true, fn := ["checksum", "four_bytes", "number_of", "_law_draws", "_law_at", "_law_is_integer", "_law_check"], cn := ["FULL", "POLYNOMIAL"], bis := ["int", "len", "range"], exs := [] }
def m_l_bits : Sm := (.seq (.ret (.lc (.rng (.cons (.bin .Mult (.int 8) (.bi .len (.cons (.v 0) .nil))) .nil)) [("_law_k", 1)] (.n 1) (.bl true) (.bin .BitAnd (.bin .RShift (.ix (.v 0) (.bi .int (.cons (.bin .FloorDiv (.v 1) (.int 8)) .nil))) (.bin .BitAnd (.v 1) (.int 7))) (.int 1)))) .nil)
theorem sc_l_bits : FnScope c_l_bits.N ["_law_row"] (defScope s_l_bits) := ⟨rfl, rfl, rfl, by decide +kernel, rfl, by decide +kernel, by decide +kernel⟩
theorem ck_l_bits : chkB c_l_bits m_l_bits (defBody s_l_bits) = true := by decide +kernel
/-! _law_bytes -/
abbrev s_l_bytes : Stmt := topS 12
def c_l_bytes : Pl.Ctx := { N := ["_law_bits_here", "_law_k", "_law_j"], sc := defScope s_l_bytes, fnc := fun _ => true, fn := ["checksum", "four_bytes", "number_of", "_law_draws", "_law_at", "_law_is_integer", "_law_check", "_law_bits"], cn := ["FULL", "POLYNOMIAL"], bis := ["len", "range", "sum"], exs := [] }
def m_l_bytes : Sm := (.seq (.ret (.lc (.rng (.cons (.bin .FloorDiv (.bi .len (.cons (.v 0) .nil)) (.int 8)) .nil)) [("_law_k", 1)] (.n 1) (.bl true) (.bi .sum (.cons (.lc (.rng (.cons (.int 8) .nil)) [("_law_j", 2)] (.n 2) (.bl true) (.bin .LShift (.ix (.v 0) (.bin .Add (.bin .Mult (.int 8) (.v 1)) (.v 2))) (.v 2))) .nil)))) .nil)
theorem sc_l_bytes : FnScope c_l_bytes.N ["_law_bits_here"] (defScope s_l_bytes) := ⟨rfl, rfl, rfl, by decide +kernel, rfl, by decide +kernel, by decide +kernel⟩
theorem ck_l_bytes : chkB c_l_bytes m_l_bytes (defBody s_l_bytes) = true := by decide +kernel
/-! law -/
abbrev s_law : Stmt := topS 13
def c_law : Pl.Ctx := { N := ["_law_script", "_law_draws_here", "_law_row", "_law_kept", "_law_told", "_law_number", "_law_word", "_law_bits_here", "_law_place", "_law_k"], sc := defScope s_law, fnc := fun _ => true, fn := ["checksum", "four_bytes", "number_of", "_law_draws", "_law_at", "_law_is_integer", "_law_check", "_law_bits", "_law_bytes"], cn := ["FULL", "POLYNOMIAL"], bis := ["isinstance", "len", "list", "range"], exs := [] }
def m_law : Sm := (.seq (.asg (.n 1) (.call 3 (.cons (.v 0) .nil))) (.seq (.asg (.n 2) (.lc (.rng (.cons (.call 4 (.cons (.v 1) (.cons (.int 0) (.cons (.int 41) .nil)))) .nil)) [("_law_k", 9)] (.n 9) (.bl true) (.call 4 (.cons (.v 1) (.cons (.bin .Add (.int 4) (.v 9)) (.cons (.int 256) .nil)))))) (.seq (.asg (.n 3) (.bi .list (.cons (.v 2) .nil))) (.seq (.asg (.n 4) (.call 0 (.cons (.v 2) .nil))) (.seq (.iff (.or (.not (.tru (.call 5 (.cons (.v 4) .nil)))) (.or (.cmp .NotEq (.v 4) (.call 6 (.cons (.v 3) .nil))) (.cmp .NotEq (.v 2) (.v 3)))) (.seq (.ret (.bl false)) .nil) .nil) (.seq (.asg (.n 5) (.bin .Add (.call 4 (.cons (.v 1) (.cons (.int 1) (.cons (.int 65536) .nil)))) (.bin .Mult (.int 65536) (.call 4 (.cons (.v 1) (.cons (.int 2) (.cons (.int 65536) .nil))))))) (.seq (.asg (.n 6) (.call 1 (.cons (.v 5) .nil))) (.seq (.iff (.or (.not (.tru (.isi "list" (.v 6)))) (.cmp .NotEq (.v 6) (.lst (.cons (.bin .BitAnd (.v 5) (.int 255)) (.cons (.bin .BitAnd (.bin .RShift (.v 5) (.int 8)) (.int 255)) (.cons (.bin .BitAnd (.bin .RShift (.v 5) (.int 16)) (.int 255)) (.cons (.bin .RShift (.v 5) (.int 24)) .nil))))))) (.seq (.ret (.bl false)) .nil) .nil) (.seq (.iff (.or (.not (.tru (.call 5 (.cons (.call 2 (.cons (.v 6) .nil)) .nil)))) (.or (.cmp .NotEq (.call 2 (.cons (.v 6) .nil)) (.v 5)) (.cmp .NotEq (.call 0 (.cons (.lst .nil) .nil)) (.int 0)))) (.seq (.ret (.bl false)) .nil) .nil) (.seq (.asg (.n 7) (.call 7 (.cons (.v 2) .nil))) (.seq (.iff (.cmp .Eq (.bi .len (.cons (.v 7) .nil)) (.int 0)) (.seq (.ret (.bl true)) .nil) .nil) (.seq (.asg (.n 8) (.call 4 (.cons (.v 1) (.cons (.int 3) (.cons (.bi .len (.cons (.v 7) .nil)) .nil))))) (.seq (.sto 7 (.v 8) (.bin .Sub (.int 1) (.ix (.v 7) (.v 8)))) (.seq (.for (.rng (.cons (.int 1) (.cons (.int 32) .nil))) (.n 9) (.seq (.iff (.and (.cmp .Lt (.bin .Add (.v 8) (.v 9)) (.bi .len (.cons (.v 7) .nil))) (.cmp .Eq (.bin .BitAnd (.bin .RShift (.v 5) (.v 9)) (.int 1)) (.int 1))) (.seq (.sto 7 (.bin .Add (.v 8) (.v 9)) (.bin .Sub (.int 1) (.ix (.v 7) (.bin .Add (.v 8) (.v 9))))) .nil) .nil) .nil)) (.seq (.ret (.cmp .NotEq (.call 0 (.cons (.call 8 (.cons (.v 7) .nil)) .nil)) (.v 4))) .nil)))))))))))))))
theorem sc_law : FnScope c_law.N ["_law_script"] (defScope s_law) := ⟨rfl, rfl, rfl, by decide +kernel, rfl, by decide +kernel, by decide +kernel⟩
theorem ck_law : chkB c_law m_law (defBody s_law) = true := by decide +kernel
noncomputable abbrev fi_l_draws := Pl.fi_draws
noncomputable abbrev fi_l_at := Pl.fi_at
noncomputable abbrev fi_l_is_integer := Pl.fi_isint
open Pl
abbrev PP : Nat := 3988292384
abbrev FF : Nat := 4294967295
/-- one turn of the register -/
def one (r : Nat) : Nat := if r % 2 = 1 then r / 2 ^^^ PP else r / 2
def stp : Nat → Nat → Nat
  | 0, r => r
  | n + 1, r => one (stp n r)
/-- one turn with a bit -/
def ob (b r : Nat) : Nat := if (b ^^^ r) % 2 = 1 then r / 2 ^^^ PP else r / 2
theorem xor_mod2 (a b : Nat) : (a ^^^ b) % 2 = (a + b) % 2 := by
  have := @Nat.xor_mod_two_eq_one a b
  omega
theorem one_xor (a w : Nat) : one (a ^^^ w) = ob w a ^^^ (w / 2) := by
  unfold one ob
  rw [Nat.xor_comm w a, Nat.xor_div_two]
  split
  · rw [Nat.xor_assoc, Nat.xor_assoc, Nat.xor_comm (w / 2)]
  · rfl
theorem ob_mod (b r : Nat) : ob (b % 2) r = ob b r := by
  unfold ob
  rw [xor_mod2, xor_mod2 b r]
  rw [show (b % 2 + r) % 2 = (b + r) % 2 by omega]
/-- the turns with the bits of v -/
def obs (v : Nat) : Nat → Nat → Nat
  | 0, r => r
  | n + 1, r => ob (v / 2 ^ n) (obs v n r)
theorem stp_obs (v r : Nat) : ∀ n : Nat, stp n (r ^^^ v) = obs v n r ^^^ (v / 2 ^ n)
  | 0 => by rw [stp, obs, Nat.pow_zero, Nat.div_one]
  | n + 1 => by rw [stp, stp_obs v r n, one_xor, obs, Nat.div_div_eq_div_mul, ← Nat.pow_succ]
theorem obs_stp {v r n : Nat} (h : v < 2 ^ n) : stp n (r ^^^ v) = obs v n r := by
  rw [stp_obs, Nat.div_eq_of_lt h, Nat.xor_zero]
theorem one_lt {r : Nat} (h : r < 2 ^ 32) : one r < 2 ^ 32 := by
  unfold one
  split
  · exact Nat.xor_lt_two_pow (by omega) (by decide)
  · omega
theorem stp_lt {r : Nat} (h : r < 2 ^ 32) : ∀ n, stp n r < 2 ^ 32
  | 0 => h
  | n + 1 => one_lt (stp_lt h n)
theorem xor_eq0 {a b : Nat} (h : a ^^^ b = 0) : a = b := by
  have e : (a ^^^ b) ^^^ b = 0 ^^^ b := by rw [h]
  rwa [Nat.xor_assoc, Nat.xor_self, Nat.xor_zero, Nat.zero_xor] at e
theorem one_0 {r : Nat} (h : r < 2 ^ 32) (e : one r = 0) : r = 0 := by
  unfold one at e
  split at e
  · have := xor_eq0 e
    unfold PP at this
    omega
  · omega
theorem stp_0 {r : Nat} (h : r < 2 ^ 32) : ∀ n, stp n r = 0 → r = 0
  | 0, e => e
  | n + 1, e => stp_0 h n (one_0 (stp_lt h n) e)
theorem ob_xor (a b r s : Nat) : ob a r ^^^ ob b s = ob (a ^^^ b) (r ^^^ s) := by
  unfold ob
  have h1 := xor_mod2 a r
  have h2 := xor_mod2 b s
  have h3 := xor_mod2 (a ^^^ b) (r ^^^ s)
  have h4 := xor_mod2 a b
  have h5 := xor_mod2 r s
  rw [Nat.xor_div_two]
  by_cases p : (a ^^^ r) % 2 = 1 <;> by_cases q : (b ^^^ s) % 2 = 1
  · rw [if_pos p, if_pos q, if_neg (by omega), Nat.xor_assoc, ← Nat.xor_assoc PP, Nat.xor_comm PP, Nat.xor_assoc (s / 2), Nat.xor_self, Nat.xor_zero]
  · rw [if_pos p, if_neg q, if_pos (by omega), Nat.xor_assoc, Nat.xor_assoc, Nat.xor_comm PP]
  · rw [if_neg p, if_pos q, if_pos (by omega), Nat.xor_assoc]
  · rw [if_neg p, if_neg q, if_neg (by omega)]
/-! rows -/
/-- the checksum's register behind i bytes, byte by byte -/
def crcTo (L : List Int) : Nat → Nat
  | 0 => FF
  | i + 1 => stp 8 (crcTo L i ^^^ (nth L i).toNat)
/-- and bit by bit -/
def chkTo (L : List Int) : Nat → Nat
  | 0 => FF
  | i + 1 => obs (nth L i).toNat 8 (chkTo L i)
def ckF (L : List Int) : Int := ((crcTo L L.length ^^^ FF : Nat) : Int)
def chF (L : List Int) : Int := ((chkTo L L.length ^^^ FF : Nat) : Int)
def Bytes (L : List Int) : Prop := ∀ z ∈ L, 0 ≤ z ∧ z < 256
theorem Bytes.at {L : List Int} (h : Bytes L) {i : Nat} (hi : i < L.length) : 0 ≤ nth L i ∧ nth L i < 256 := h _ (nth_mem (by omega) (by omega))
theorem crc_chk {L : List Int} (h : Bytes L) : ∀ i ≤ L.length, crcTo L i = chkTo L i
  | 0, _ => rfl
  | i + 1, hi => by
    have b := h.at (i := i) (by omega)
    rw [crcTo, chkTo, crc_chk h i (by omega), obs_stp (by omega)]
theorem ck_ch {L : List Int} (h : Bytes L) : ckF L = chF L := by unfold ckF chF; rw [crc_chk h _ (Nat.le_refl _)]
/-- the register behind i bits -/
def bitTo (M : List Int) : Nat → Nat
  | 0 => FF
  | i + 1 => ob (nth M i).toNat (bitTo M i)
theorem chk_bits {L M : List Int} {n : Nat} (h : ∀ i < n, ∀ j < 8, (nth L (i : Nat)).toNat / 2 ^ j % 2 = (nth M ((8 * i + j : Nat) : Int)).toNat % 2) : ∀ i ≤ n, chkTo L i = bitTo M (8 * i)
  | 0, _ => rfl
  | i + 1, hi => by
    have ih := chk_bits h i (by omega)
    have k : ∀ j ≤ 8, obs (nth L (i : Nat)).toNat j (chkTo L i) = bitTo M (8 * i + j) := by
      intro j
      induction j with
      | zero => intro _; rw [obs, ih]; rfl
      | succ j ihj =>
        intro hj
        rw [obs, ihj (by omega), ← ob_mod, h i (by omega) j (by omega), ob_mod, ← Nat.add_assoc, bitTo]
    rw [chkTo, k 8 (Nat.le_refl 8)]
    rfl
def bitsF (L : List Int) : List Int := (rgI 0 (8 * L.length)).map fun k => nth L (k / 8) / 2 ^ (k % 8).toNat % 2
def bytesF (M : List Int) : List Int := (rgI 0 (M.length / 8)).map fun k => ((rgI 0 8).map fun j => nth M (8 * k + j) * 2 ^ j.toNat).sum
theorem bits_len (L : List Int) : (bitsF L).length = 8 * L.length := by unfold bitsF; rw [List.length_map, rgI_len]
theorem bytes_len (M : List Int) : (bytesF M).length = M.length / 8 := by unfold bytesF; rw [List.length_map, rgI_len]
def Bits (M : List Int) : Prop := ∀ z ∈ M, z = 0 ∨ z = 1
theorem bits_ok (L : List Int) : Bits (bitsF L) := fun z h => by
  obtain ⟨k, _, rfl⟩ := List.mem_map.mp h
  omega
theorem bits_at {L : List Int} (i j : Nat) (hi : i < L.length) (hj : j < 8) : nth (bitsF L) ((8 * i + j : Nat) : Int) = nth L i / 2 ^ j % 2 := by
  unfold bitsF
  rw [nth_map_rng (by omega) (by omega)]
  rw [show (0 + ((8 * i + j : Nat) : Int)) / 8 = (i : Int) by omega, show ((0 + ((8 * i + j : Nat) : Int)) % 8).toNat = j by omega]
theorem Bits.at {M : List Int} (h : Bits M) {i : Nat} (hi : i < M.length) : nth M i = 0 ∨ nth M i = 1 := h _ (nth_mem (by omega) (by omega))
theorem sum8 (f : Int → Int) : ((rgI 0 8).map f).sum = f 0 + (f 1 + (f 2 + (f 3 + (f 4 + (f 5 + (f 6 + (f 7 + 0))))))) := rfl
/-- the number of k bits from the j-th on -/
def val (n : Nat → Nat) : Nat → Nat → Nat
  | _, 0 => 0
  | j, k + 1 => n j + 2 * val n (j + 1) k
theorem val_bit {n : Nat → Nat} (h : ∀ j, n j < 2) : ∀ (k i j : Nat), i < k → val n j k / 2 ^ i % 2 = n (j + i)
  | k + 1, 0, j, _ => by
    have := h j
    rw [val, Nat.pow_zero, Nat.div_one]
    show _ = n j
    omega
  | k + 1, i + 1, j, hi => by
    have := h j
    rw [val, Nat.pow_succ, Nat.mul_comm (2 ^ i), ← Nat.div_div_eq_div_mul, show (n j + 2 * val n (j + 1) k) / 2 = val n (j + 1) k by omega, val_bit h k i (j + 1) (by omega), show j + 1 + i = j + (i + 1) by omega]
theorem val_lt {n : Nat → Nat} (h : ∀ j, n j < 2) : ∀ (k j : Nat), val n j k < 2 ^ k
  | 0, _ => Nat.one_pos
  | k + 1, j => by
    have := h j
    have := val_lt h k (j + 1)
    rw [val, Nat.pow_succ]
    omega
theorem bytes_at {M : List Int} (h : Bits M) {i : Nat} (hi : 8 * i + 8 ≤ M.length) : (0 ≤ nth (bytesF M) i ∧ nth (bytesF M) i < 256) ∧ ∀ j < 8, (nth (bytesF M) i).toNat / 2 ^ j % 2 = (nth M ((8 * i + j : Nat) : Int)).toNat % 2 := by
  have e : nth (bytesF M) i = ((rgI 0 8).map fun j => nth M (8 * (0 + (i : Int)) + j) * 2 ^ j.toNat).sum := by
    unfold bytesF
    rw [nth_map_rng (by omega) (by omega)]
  let n : Nat → Nat := fun j => (nth M ((8 * i + j : Nat) : Int)).toNat % 2
  have hn : ∀ j, n j < 2 := fun j => Nat.mod_lt _ (by decide)
  have b : ∀ j : Nat, j < 8 → nth M (8 * (0 + (i : Int)) + j) = (n j : Int) := fun j hj => by
    have := h.at (i := 8 * i + j) (by omega)
    rw [show 8 * (0 + (i : Int)) + j = ((8 * i + j : Nat) : Int) by omega]
    show _ = (((nth M ((8 * i + j : Nat) : Int)).toNat % 2 : Nat) : Int)
    omega
  have e' : nth (bytesF M) i = (val n 0 8 : Nat) := by
    rw [e, sum8]
    have b0 := b 0 (by omega)
    have b1 := b 1 (by omega)
    have b2 := b 2 (by omega)
    have b3 := b 3 (by omega)
    have b4 := b 4 (by omega)
    have b5 := b 5 (by omega)
    have b6 := b 6 (by omega)
    have b7 := b 7 (by omega)
    simp only [Int.cast_ofNat_Int] at b0 b1 b2 b3 b4 b5 b6 b7
    rw [b0, b1, b2, b3, b4, b5, b6, b7]
    simp only [val]
    generalize n 0 = x0
    generalize n (0 + 1) = x1
    generalize n (0 + 1 + 1) = x2
    generalize n (0 + 1 + 1 + 1) = x3
    generalize n (0 + 1 + 1 + 1 + 1) = x4
    generalize n (0 + 1 + 1 + 1 + 1 + 1) = x5
    generalize n (0 + 1 + 1 + 1 + 1 + 1 + 1) = x6
    generalize n (0 + 1 + 1 + 1 + 1 + 1 + 1 + 1) = x7
    simp only [show ((0 : Int).toNat) = 0 from rfl, show ((1 : Int).toNat) = 1 from rfl, show ((2 : Int).toNat) = 2 from rfl, show ((3 : Int).toNat) = 3 from rfl, show ((4 : Int).toNat) = 4 from rfl, show ((5 : Int).toNat) = 5 from rfl, show ((6 : Int).toNat) = 6 from rfl, show ((7 : Int).toNat) = 7 from rfl]
    omega
  have hl := val_lt hn 8 0
  refine ⟨by rw [e']; omega, fun j hj => ?_⟩
  rw [e', Int.toNat_natCast, val_bit hn 8 j 0 hj, Nat.zero_add]
/-! the burst -/
/-- what stands in the bits when n turns have changed them -/
def Burst (M M' : List Int) (place : Nat) (v : Nat) : Prop := M'.length = M.length ∧ ∀ i < M.length, nth M' (i : Nat) = if place ≤ i ∧ v / 2 ^ (i - place) % 2 = 1 then 1 - nth M (i : Nat) else nth M (i : Nat)
theorem Burst.bits {M M' : List Int} {p v : Nat} (b : Burst M M' p v) (h : Bits M) {i : Nat} (hi : i < M.length) : nth M' (i : Nat) = 0 ∨ nth M' (i : Nat) = 1 := by
  have := h.at hi
  rw [b.2 i hi]
  split <;> omega
theorem mem_nth {M : List Int} {z : Int} (h : z ∈ M) : ∃ i : Nat, i < M.length ∧ nth M i = z := by
  obtain ⟨i, hi, e⟩ := List.getElem_of_mem h
  exact ⟨i, hi, nth_get (by rw [List.getElem?_eq_getElem hi, e])⟩
theorem Burst.bits' {M M' : List Int} {p v : Nat} (b : Burst M M' p v) (h : Bits M) : Bits M' := fun z hz => by
  obtain ⟨i, hi, rfl⟩ := mem_nth hz
  exact b.bits h (by rw [← b.1]; exact hi)
theorem burst_to {M M' : List Int} {p v : Nat} (b : Burst M M' p v) (h : Bits M) : ∀ i ≤ M.length, bitTo M' i ^^^ bitTo M i = if i ≤ p then 0 else obs v (i - p) 0
  | 0, _ => by rw [if_pos (Nat.zero_le _)]; exact Nat.xor_self _
  | i + 1, hi => by
    have ih := burst_to b h i (by omega)
    have e := b.2 i (by omega)
    have z := h.at (i := i) (by omega)
    rw [bitTo, bitTo, ob_xor, ih]
    by_cases hp : i + 1 ≤ p
    · rw [if_pos (by omega), if_pos hp]
      rw [if_neg (by omega)] at e
      rw [e, Nat.xor_self]
      rfl
    · rw [if_neg hp]
      have s : i + 1 - p = (i - p) + 1 := by omega
      have k : (if i ≤ p then 0 else obs v (i - p) 0) = obs v (i - p) 0 := by
        split
        · rw [show i - p = 0 by omega]; rfl
        · rfl
      rw [k, s, obs, ← ob_mod, ← ob_mod (v / _)]
      congr 1
      rw [xor_mod2]
      split at e
      · rename_i q
        rw [e, q.2]
        omega
      · rename_i q
        rw [e]
        omega
theorem obs_mod {v m : Nat} {r : Nat} : ∀ n ≤ m, obs (v % 2 ^ m) n r = obs v n r
  | 0, _ => rfl
  | n + 1, h => by
    rw [obs, obs, obs_mod n (by omega), ← ob_mod, ← ob_mod (v / _)]
    congr 1
    have e := Nat.testBit_mod_two_pow v m n
    rw [Nat.testBit_eq_decide_div_mod_eq, Nat.testBit_eq_decide_div_mod_eq, decide_eq_true (show n < m by omega), Bool.true_and] at e
    have e2 := decide_eq_decide.mp e
    omega
theorem burst_ne {M M' : List Int} {p v : Nat} (b : Burst M M' p v) (h : Bits M) (hp : p < M.length) (hv : v % 2 = 1) (hb : v < 2 ^ 32) : bitTo M' M.length ≠ bitTo M M.length := by
  intro e
  have d := burst_to b h M.length (Nat.le_refl _)
  rw [e, Nat.xor_self, if_neg (by omega)] at d
  generalize hm : M.length - p = m at d
  have pos : 0 < 2 ^ m := Nat.two_pow_pos m
  rw [← obs_mod m (Nat.le_refl m), ← obs_stp (Nat.mod_lt _ pos), Nat.zero_xor] at d
  have z := stp_0 (Nat.lt_of_le_of_lt (Nat.mod_le _ _) hb) m d.symm
  have e2 := Nat.mod_mod_of_dvd v (show 2 ∣ 2 ^ m from Nat.dvd_of_pow_dvd (by omega) (Nat.dvd_refl _) |> fun (x : 2 ^ 1 ∣ 2 ^ m) => x)
  rw [z] at e2
  omega
/-- a burst always changes the checksum -/
theorem burst_ck {L M' : List Int} {p v : Nat} (hL : Bytes L) (b : Burst (bitsF L) M' p v) (hp : p < 8 * L.length) (hv : v % 2 = 1) (hb : v < 2 ^ 32) : ckF (bytesF M') ≠ ckF L := by
  have hB := bits_ok L
  have hM := b.bits' hB
  have l1 : M'.length = 8 * L.length := by rw [b.1, bits_len]
  have l2 : (bytesF M').length = L.length := by rw [bytes_len, l1]; omega
  have hB' : Bytes (bytesF M') := fun z hz => by
    obtain ⟨i, hi, rfl⟩ := mem_nth hz
    exact (bytes_at hM (by omega)).1
  rw [ck_ch hL, ck_ch hB']
  unfold chF
  have c1 : chkTo L L.length = bitTo (bitsF L) (8 * L.length) := chk_bits (n := L.length) (fun i hi j hj => by
    have q := hL.at hi
    rw [bits_at i j hi hj]
    obtain ⟨a, ha⟩ : ∃ a : Nat, nth L i = a := ⟨(nth L i).toNat, by omega⟩
    rw [ha, Int.toNat_natCast, shr_n]
    omega) _ (Nat.le_refl _)
  have c2 : chkTo (bytesF M') L.length = bitTo M' (8 * L.length) := chk_bits (n := L.length) (fun i hi j hj => (bytes_at hM (by omega)).2 j hj) _ (Nat.le_refl _)
  rw [l2, c1, c2]
  intro e
  have n1 : bitTo M' (8 * L.length) ^^^ FF = bitTo (bitsF L) (8 * L.length) ^^^ FF := by omega
  have n2 := burst_ne b hB (by rw [bits_len]; exact hp) hv hb
  rw [bits_len] at n2
  refine n2 ?_
  have n3 : (bitTo M' (8 * L.length) ^^^ FF) ^^^ FF = (bitTo (bitsF L) (8 * L.length) ^^^ FF) ^^^ FF := by rw [n1]
  rwa [Nat.xor_assoc, Nat.xor_assoc, Nat.xor_self, Nat.xor_zero, Nat.xor_zero] at n3
/-! how the law makes its burst -/
def Part (M M' : List Int) (p v i : Nat) : Prop := M'.length = M.length ∧ ∀ q < M.length, nth M' (q : Nat) = if p ≤ q ∧ q - p ≤ i ∧ v / 2 ^ (q - p) % 2 = 1 then 1 - nth M (q : Nat) else nth M (q : Nat)
theorem part_0 {M : List Int} {p v : Nat} (hv : v % 2 = 1) : Part M (M.set p (1 - nth M (p : Nat))) p v 0 := by
  refine ⟨List.length_set, fun q hq => ?_⟩
  rw [nth_set _ (by omega) (by omega)]
  by_cases h : q = p
  · subst h
    rw [if_pos rfl, if_pos ⟨Nat.le_refl _, by omega, by rw [Nat.sub_self, Nat.pow_zero, Nat.div_one]; exact hv⟩]
  · rw [if_neg (by omega), if_neg (by omega)]
theorem part_set {M M' : List Int} {p v i : Nat} (h : Part M M' p v i) (hl : p + (i + 1) < M.length) (hb : v / 2 ^ (i + 1) % 2 = 1) : Part M (M'.set (p + (i + 1)) (1 - nth M' ((p + (i + 1) : Nat) : Int))) p v (i + 1) := by
  refine ⟨by rw [List.length_set, h.1], fun q hq => ?_⟩
  rw [nth_set _ (by omega) (by rw [h.1]; omega)]
  by_cases e : q = p + (i + 1)
  · subst e
    have e2 := h.2 _ hl
    rw [if_neg (by omega)] at e2
    rw [if_pos rfl, e2, if_pos ⟨by omega, by omega, by rw [show p + (i + 1) - p = i + 1 by omega]; exact hb⟩]
  · rw [if_neg (by omega), h.2 q hq]
    by_cases c : p ≤ q ∧ q - p ≤ i ∧ v / 2 ^ (q - p) % 2 = 1
    · rw [if_pos c, if_pos ⟨c.1, by omega, c.2.2⟩]
    · rw [if_neg c, if_neg (fun d => c ⟨d.1, by omega, d.2.2⟩)]
theorem part_skip {M M' : List Int} {p v i : Nat} (h : Part M M' p v i) (hn : ¬ (p + (i + 1) < M.length ∧ v / 2 ^ (i + 1) % 2 = 1)) : Part M M' p v (i + 1) := by
  refine ⟨h.1, fun q hq => ?_⟩
  rw [h.2 q hq]
  by_cases e : q = p + (i + 1)
  · subst e
    rw [if_neg (by omega), if_neg (fun d => hn ⟨hq, by have := d.2.2; rwa [show p + (i + 1) - p = i + 1 by omega] at this⟩)]
  · by_cases c : p ≤ q ∧ q - p ≤ i ∧ v / 2 ^ (q - p) % 2 = 1
    · rw [if_pos c, if_pos ⟨c.1, by omega, c.2.2⟩]
    · rw [if_neg c, if_neg (fun d => c ⟨d.1, by omega, d.2.2⟩)]
theorem part_end {M M' : List Int} {p v : Nat} (h : Part M M' p v 31) (hb : v < 2 ^ 32) : Burst M M' p v := by
  refine ⟨h.1, fun q hq => ?_⟩
  rw [h.2 q hq]
  by_cases c : p ≤ q ∧ v / 2 ^ (q - p) % 2 = 1
  · have : q - p ≤ 31 := by
      apply Nat.le_of_not_lt
      intro z
      have e : v / 2 ^ (q - p) = 0 := Nat.div_eq_of_lt (Nat.lt_of_lt_of_le hb (Nat.pow_le_pow_right (by decide) (by omega)))
      omega
    rw [if_pos c, if_pos ⟨c.1, this, c.2⟩]
  · rw [if_neg c, if_neg (fun d => c ⟨d.1, d.2.2⟩)]
/-- the number of the burst: its lowest bit is set -/
def vOf (n : Nat) : Nat := 2 * (n / 2) + 1
theorem vOf_odd (n : Nat) : vOf n % 2 = 1 := by unfold vOf; omega
theorem vOf_lt {n : Nat} (h : n < 2 ^ 32) : vOf n < 2 ^ 32 := by unfold vOf; omega
theorem vOf_bit (n i : Nat) : vOf n / 2 ^ (i + 1) = n / 2 ^ (i + 1) := by
  rw [Nat.pow_succ, Nat.mul_comm, ← Nat.div_div_eq_div_mul, ← Nat.div_div_eq_div_mul, show vOf n / 2 = n / 2 by unfold vOf; omega]
def fourF (n : Int) : List Int := (rgI 0 4).map fun k => n / 2 ^ (8 * k).toNat % 256
def numF (L : List Int) : Int := nth L 0 + nth L 1 * 2 ^ 8 + nth L 2 * 2 ^ 16 + nth L 3 * 2 ^ 24
noncomputable def fi_checksum : Fi := Fi.of 1 [] (fun L : List Int => [dI L]) Bytes (fun L => okI (ckF L))
noncomputable def fi_four_bytes : Fi := Fi.of 1 [] (fun n : Int => [.int n]) (fun _ => True) (fun n => .ok .ow (dI (fourF n)))
noncomputable def fi_number_of : Fi := Fi.of 1 [] (fun L : List Int => [dI L]) (fun L => L.length = 4 ∧ Bytes L) (fun L => okI (numF L))
noncomputable def fi_l_check : Fi := Fi.of 1 [] (fun L : List Int => [dI L]) Bytes (fun L => okI (chF L))
noncomputable def fi_l_bits : Fi := Fi.of 1 [] (fun L : List Int => [dI L]) (fun L => L.length ≤ 1000) (fun L => .ok .ow (dI (bitsF L)))
noncomputable def fi_l_bytes : Fi := Fi.of 1 [] (fun L : List Int => [dI L]) (fun L => Bits L ∧ L.length ≤ 8000) (fun L => .ok .ow (dI (bytesF L)))
noncomputable def Tb : Pl.Tab := { fn := fun i => match i with
  | 0 => fi_checksum
  | 1 => fi_four_bytes
  | 2 => fi_number_of
  | 3 => fi_l_draws
  | 4 => fi_l_at
  | 5 => fi_l_is_integer
  | 6 => fi_l_check
  | 7 => fi_l_bits
  | 8 => fi_l_bytes
  | _ => ⟨0, [], [], fun _ => .st⟩, cn := fun i => match i with
  | 0 => (.int 4294967295) -- FULL
  | 1 => (.int 3988292384) -- POLYNOMIAL
  | _ => .none }
theorem meets_l_draws : Meets Tb m_l_draws fi_l_draws 6 := Pl.meets_draws
theorem meets_l_at : Meets Tb m_l_at fi_l_at 3 := Pl.meets_at
theorem meets_l_is_integer : Meets Tb m_l_is_integer fi_l_is_integer 1 := Pl.meets_isint
theorem cn0 : Tb.cn 0 = .int ((FF : Nat) : Int) := rfl
theorem cn1 : Tb.cn 1 = .int ((PP : Nat) : Int) := rfl
theorem ne0 {i : Int} : (i != 0) = true ↔ ¬ i = 0 := by simp
theorem sh1 {a : Nat} : (a : Int) / 2 ^ (1 : Int).toNat = ((a / 2 : Nat) : Int) := shr_n
local macro_rules | `(tactic| walk_at "pl") => `(tactic| simp only [run_nil, run_seq, run_pass, run_brk, run_cnt, run_frz, run_asg, run_ret, run_retN, run_retV, run_iff, run_app, run_ext, run_pop, run_sto, run_aug, run_rai, ev_v, ev_int, ev_str, ev_bl, ev_non, ev_g, ev_bin, ev_cmp, ev_chain, ev_and, ev_or, ev_not, ev_tru, ev_ite, ev_neg, ev_ix, ev_cut, ev_no, ev_part, ev_lst, ev_tup, ev_bi, ev_isi, ev_call, evs_nil, evs_cons, evs_star, consL_ok, bindL_ok,
  bind_ok, bind_ite, resP_ok, resP_ex, resP_st, resP_ite, brP_b, brR_b, okI_ok, okB_ok, okS_ok,
  add_ii, sub_ii, mul_r, mul_l, div_p, mod_p, pow_18, shl_p, shr_p, and_ii, or_ii, xor_ii, lt_ii, le_ii, gt_ii, ge_ii, eq_ii, ne_ii, isN_any, notN_any, eq_dI, ne_dI, sc_dI, sc_scr, sc_int, sc_bool, sc_str, sc_non, sc_lst, sc_tup, len_dI, len_scr, len_lst, len_tup, int_i, int_b, of1_1, of2_2, int1_i, int2_i,
  list_dI', app_dI, dI_nil, sum_dI, rd_s, rd_0, rdM, ow_s, ow_dI, ow_0, keep_sc, keep_sh, keep_ow, keep_is, rt_sc, rt_sh, rt_ow, bdP_s, sm_sh, sm_ow, sm_is, sm_bo, nx_ok, rt_ok, st_bo, st_b, st_nil, startE, biK, tgB, bdN, tru_b, tru_i, tru_n, tru_l, tru_t, tru_dI, not_b, isi_int, isi_dI, isi_list, isi_tup, not_true_eq_false, not_false_eq_true, lstR, tupR, retV,
  List.getElem?_cons_succ, List.getElem?_cons_zero, List.set_cons_succ, List.set_cons_zero, Option.map_some, if_true, if_false, Bool.false_eq_true, reduceCtorEq, decide_eq_true_eq, List.cons_append, List.nil_append, List.length_cons, List.length_nil, Nat.reduceAdd, Nat.reduceSub, List.replicate_succ, List.replicate_zero, Nat.reduceLeDiff, true_and, and_true, List.all_cons, List.all_nil, Bool.and_true, List.map_cons, List.map_nil, ne_eq, not_false_eq_true, iff_true, true_iff, iff_false, false_iff, Bool.not_eq_true', decide_eq_false_iff_not, Int.reduceNeg, Int.reduceLE, Int.reduceLT, frzP, augP, ixN_p, le_size, lt_size, Nat.reduceLT, decide_true, decide_false, eq_self, Bool.not_true, Bool.not_false, Nat.zero_le, cn0, cn1, and_1, xor_nn, sh1])
theorem meets_checksum : Meets Tb m_checksum fi_checksum 4 := Fi.of_meets fun L hL => by
  unfold m_checksum
  walk_at "pl"
  rw [run_for]
  refine for_ints (m := .bo) (L := L) ?_ rfl (fun i env => ∃ y2 y3, env = [some (.bo, dI L), some (.sh, .int (crcTo L i : Nat)), y2, y3]) ⟨_, _, rfl⟩ (fun env h => ?_) fun i env z hz h => ?_
  · exact it_lst (by walk_at "pl"; rfl)
  · obtain ⟨y2, y3, rfl⟩ := h
    walk_at "pl"
    rfl
  · obtain ⟨y2, y3, rfl⟩ := h
    have ez := nth_get hz
    have hb := hL z (List.mem_of_getElem? hz)
    obtain ⟨a, rfl⟩ : ∃ a : Nat, z = a := ⟨z.toNat, by omega⟩
    walk_at "pl"
    rw [run_for]
    refine for_rng (n := 8) (lo := 0) ?_ (fun j env => ∃ y3, env = [some (.bo, dI L), some (.sh, .int (stp j (crcTo L i ^^^ a) : Nat)), some (.sh, .int a), y3]) ⟨y3, rfl⟩ (fun env h => ?_) fun j w env hj hw h => ?_
    · rw [rng_1 (m := .sh) (j := 8) (by walk_at "pl") (by omega)]
      rfl
    · obtain ⟨y3, rfl⟩ := h
      walk_at "pl"
      refine ⟨some (.sh, .int a), y3, ?_⟩
      rw [crcTo, ez, Int.toNat_natCast]
    · obtain ⟨y3, rfl⟩ := h
      generalize crcTo L i ^^^ a = r
      walk_at "pl"
      by_cases q : stp j r % 2 = 1
      · rw [if_pos (by rw [q]; rfl)]
        refine ⟨some (.sh, .int w), ?_⟩
        rw [stp, one, if_pos q]
      · rw [if_neg (by rw [show stp j r % 2 = 0 by omega]; exact fun h => by cases h)]
        refine ⟨some (.sh, .int w), ?_⟩
        rw [stp, one, if_neg q]
theorem meets_four_bytes : Meets Tb m_four_bytes fi_four_bytes 2 := Fi.of_meets fun n _ => by
  unfold m_four_bytes
  walk_at "pl"
  rw [lc_rng (fun k => n / 2 ^ (8 * k).toNat % 256) (rng_n (n := 4) (m := .sh) (by walk_at "pl"; rfl) rfl (by decide)) (by decide) fun z h0 h1 => ?_]
  · walk_at "pl"
    rfl
  · walk_at "pl"
    rw [shr_p (by omega)]
    walk_at "pl"
    rw [bitAnd_m8]
theorem meets_number_of : Meets Tb m_number_of fi_number_of 1 := Fi.of_meets fun L ⟨hl, hL⟩ => by
  unfold m_number_of
  walk_at "pl"
  have b1 := hL _ (nth_mem (L := L) (i := 1) (by omega) (by omega))
  have b2 := hL _ (nth_mem (L := L) (i := 2) (by omega) (by omega))
  have b3 := hL _ (nth_mem (L := L) (i := 3) (by omega) (by omega))
  rw [ix_dI (i := 0) (by omega) (by omega), ix_dI (i := 1) (by omega) (by omega), ix_dI (i := 2) (by omega) (by omega), ix_dI (i := 3) (by omega) (by omega)]
  walk_at "pl"
  rw [shl_p (j := 8) (by omega) (by omega) (by omega) (by omega), shl_p (j := 16) (by omega) (by omega) (by omega) (by omega), shl_p (j := 24) (by omega) (by omega) (by omega) (by omega)]
  walk_at "pl"
  rfl
theorem meets_l_check : Meets Tb m_l_check fi_l_check 5 := Fi.of_meets fun L hL => by
  unfold m_l_check
  walk_at "pl"
  rw [run_for]
  refine for_ints (m := .bo) (L := L) ?_ rfl (fun i env => ∃ y2 y3 y4, env = [some (.bo, dI L), some (.sh, .int (chkTo L i : Nat)), y2, y3, y4]) ⟨_, _, _, rfl⟩ (fun env h => ?_) fun i env z hz h => ?_
  · exact it_lst (by walk_at "pl"; rfl)
  · obtain ⟨y2, y3, y4, rfl⟩ := h
    walk_at "pl"
    rw [show (4294967295 : Int) = ((FF : Nat) : Int) from rfl, xor_nn]
    rfl
  · obtain ⟨y2, y3, y4, rfl⟩ := h
    have ez := nth_get hz
    have hb := hL z (List.mem_of_getElem? hz)
    obtain ⟨a, rfl⟩ : ∃ a : Nat, z = a := ⟨z.toNat, by omega⟩
    walk_at "pl"
    rw [run_for]
    refine for_rng (n := 8) (lo := 0) ?_ (fun j env => ∃ y3 y4, env = [some (.bo, dI L), some (.sh, .int (obs a j (chkTo L i) : Nat)), some (.sh, .int a), y3, y4]) ⟨y3, y4, rfl⟩ (fun env h => ?_) fun j w env hj hw h => ?_
    · rw [rng_1 (m := .sh) (j := 8) (by walk_at "pl") (by omega)]
      rfl
    · obtain ⟨y3, y4, rfl⟩ := h
      walk_at "pl"
      refine ⟨some (.sh, .int a), y3, y4, ?_⟩
      rw [chkTo, ez, Int.toNat_natCast]
    · obtain ⟨y3, y4, rfl⟩ := h
      generalize chkTo L i = r
      walk_at "pl"
      rw [shr_p (by omega), show w.toNat = j by omega, shr_n]
      walk_at "pl"
      rw [show (3988292384 : Int) = ((PP : Nat) : Int) from rfl, xor_nn]
      by_cases q : (a / 2 ^ j ^^^ obs a j r) % 2 = 1
      · rw [if_pos (by rw [q]; rfl), obs, ob, if_pos q]
        exact ⟨_, _, rfl⟩
      · rw [if_neg (by omega), obs, ob, if_neg q]
        exact ⟨_, _, rfl⟩
theorem meets_l_bits : Meets Tb m_l_bits fi_l_bits 2 := Fi.of_meets fun L hl => by
  unfold m_l_bits
  walk_at "pl"
  rw [lc_rng (fun k => nth L (k / 8) / 2 ^ (k % 8).toNat % 2) (rng_n (n := 8 * L.length) (m := .sh) (by walk_at "pl"; rfl) (by omega) (by omega)) (by omega) fun z h0 h1 => ?_]
  · walk_at "pl"
    rfl
  · walk_at "pl"
    rw [ix_dI (by omega) (by omega)]
    walk_at "pl"
    rw [bitAnd_m3, shr_p (by omega)]
    walk_at "pl"
    rw [bitAnd_m1]
theorem meets_l_bytes : Meets Tb m_l_bytes fi_l_bytes 3 := Fi.of_meets fun M hM => by
  have hB := hM.1
  have hl := hM.2
  unfold m_l_bytes
  walk_at "pl"
  rw [lc_rng (fun k => ((rgI 0 8).map fun j => nth M (8 * k + j) * 2 ^ j.toNat).sum) (rng_n (n := M.length / 8) (m := .sh) (by walk_at "pl"; rfl) (by omega) (by omega)) (by omega) fun z h0 h1 => ?_]
  · walk_at "pl"
    rfl
  · walk_at "pl"
    rw [lc_rng (fun j => nth M (8 * z + j) * 2 ^ j.toNat) (rng_n (n := 8) (m := .sh) (by walk_at "pl"; rfl) rfl (by decide)) (by decide) fun j g0 g1 => ?_]
    · walk_at "pl"
    · walk_at "pl"
      have b := hB _ (nth_mem (L := M) (i := 8 * z + j) (by omega) (by omega))
      rw [ix_dI (by omega) (by omega)]
      walk_at "pl"
      rw [shl_p (by omega) (by omega) (by omega) (by omega)]
theorem call_draws {m : Md} {ns : List Int} (h : ns.length ≤ 63) : callR (Tb.fn 3) [(m, scr ns)] = .ok .ow (dI (drawsF ns)) := call_ow (draws_sem h) rfl rfl rfl rfl
theorem call_at {m m1 m2 : Md} {L : List Int} {k n : Int} (h1 : 0 ≤ k) (h2 : 0 < n) : callR (Tb.fn 4) [(m, dI L), (m1, .int k), (m2, .int n)] = .ok .sh (.int (atF L k n)) := call_sc (at_sem h1 h2) rfl rfl rfl rfl
theorem call_isint {m : Md} {i : Int} : callR (Tb.fn 5) [(m, .int i)] = .ok .sh (.bool true) := call_sc isint_sem rfl rfl rfl rfl
theorem dI1 (x y : List Int) (h : [dI x] = [dI y]) : x = y := by simpa [dI_eq] using h
theorem int1 (x y : Int) (h : [PyData.int x] = [PyData.int y]) : x = y := by simpa using h
theorem call_checksum {m : Md} {L : List Int} (h : Bytes L) : callR (Tb.fn 0) [(m, dI L)] = .ok .sh (.int (ckF L)) := call_sc (fi := fi_checksum) (show fi_checksum.sem [dI L] = .ok .sh (.int (ckF L)) from Fi.of_sem (enc := fun L : List Int => [dI L]) dI1 L h) rfl rfl rfl rfl
theorem call_four {m : Md} {n : Int} : callR (Tb.fn 1) [(m, .int n)] = .ok .ow (dI (fourF n)) := call_ow (fi := fi_four_bytes) (show fi_four_bytes.sem [.int n] = .ok .ow (dI (fourF n)) from Fi.of_sem (enc := fun n : Int => [.int n]) int1 n trivial) rfl rfl rfl rfl
theorem call_number {m : Md} {L : List Int} (h : L.length = 4 ∧ Bytes L) : callR (Tb.fn 2) [(m, dI L)] = .ok .sh (.int (numF L)) := call_sc (fi := fi_number_of) (show fi_number_of.sem [dI L] = .ok .sh (.int (numF L)) from Fi.of_sem (enc := fun L : List Int => [dI L]) dI1 L h) rfl rfl rfl rfl
theorem call_check {m : Md} {L : List Int} (h : Bytes L) : callR (Tb.fn 6) [(m, dI L)] = .ok .sh (.int (chF L)) := call_sc (fi := fi_l_check) (show fi_l_check.sem [dI L] = .ok .sh (.int (chF L)) from Fi.of_sem (enc := fun L : List Int => [dI L]) dI1 L h) rfl rfl rfl rfl
theorem call_bits {m : Md} {L : List Int} (h : L.length ≤ 1000) : callR (Tb.fn 7) [(m, dI L)] = .ok .ow (dI (bitsF L)) := call_ow (fi := fi_l_bits) (show fi_l_bits.sem [dI L] = .ok .ow (dI (bitsF L)) from Fi.of_sem (enc := fun L : List Int => [dI L]) dI1 L h) rfl rfl rfl rfl
theorem call_bytes {m : Md} {L : List Int} (h : Bits L ∧ L.length ≤ 8000) : callR (Tb.fn 8) [(m, dI L)] = .ok .ow (dI (bytesF L)) := call_ow (fi := fi_l_bytes) (show fi_l_bytes.sem [dI L] = .ok .ow (dI (bytesF L)) from Fi.of_sem (enc := fun L : List Int => [dI L]) dI1 L h) rfl rfl rfl rfl
local macro_rules | `(tactic| walk_at "pl") => `(tactic| simp only [run_nil, run_seq, run_pass, run_brk, run_cnt, run_frz, run_asg, run_ret, run_retN, run_retV, run_iff, run_app, run_ext, run_pop, run_sto, run_aug, run_rai, ev_v, ev_int, ev_str, ev_bl, ev_non, ev_g, ev_bin, ev_cmp, ev_chain, ev_and, ev_or, ev_not, ev_tru, ev_ite, ev_neg, ev_ix, ev_cut, ev_no, ev_part, ev_lst, ev_tup, ev_bi, ev_isi, ev_call, evs_nil, evs_cons, evs_star, consL_ok, bindL_ok,
  bind_ok, bind_ite, resP_ok, resP_ex, resP_st, resP_ite, brP_b, brR_b, okI_ok, okB_ok, okS_ok,
  add_ii, sub_ii, mul_r, mul_l, div_p, mod_p, pow_18, shl_p, shr_p, and_ii, or_ii, xor_ii, lt_ii, le_ii, gt_ii, ge_ii, eq_ii, ne_ii, isN_any, notN_any, eq_dI, ne_dI, sc_dI, sc_scr, sc_int, sc_bool, sc_str, sc_non, sc_lst, sc_tup, len_dI, len_scr, len_lst, len_tup, int_i, int_b, of1_1, of2_2, int1_i, int2_i,
  list_dI', app_dI, dI_nil, sum_dI, rd_s, rd_0, rdM, ow_s, ow_dI, ow_0, keep_sc, keep_sh, keep_ow, keep_is, rt_sc, rt_sh, rt_ow, bdP_s, sm_sh, sm_ow, sm_is, sm_bo, nx_ok, rt_ok, st_bo, st_b, st_nil, startE, biK, tgB, bdN, tru_b, tru_i, tru_n, tru_l, tru_t, tru_dI, not_b, isi_int, isi_dI, isi_list, isi_tup, not_true_eq_false, not_false_eq_true, lstR, tupR, retV,
  List.getElem?_cons_succ, List.getElem?_cons_zero, List.set_cons_succ, List.set_cons_zero, Option.map_some, if_true, if_false, Bool.false_eq_true, reduceCtorEq, decide_eq_true_eq, List.cons_append, List.nil_append, List.length_cons, List.length_nil, Nat.reduceAdd, Nat.reduceSub, List.replicate_succ, List.replicate_zero, Nat.reduceLeDiff, true_and, and_true, List.all_cons, List.all_nil, Bool.and_true, List.map_cons, List.map_nil, ne_eq, not_false_eq_true, iff_true, true_iff, iff_false, false_iff, Bool.not_eq_true', decide_eq_false_iff_not, Int.reduceNeg, Int.reduceLE, Int.reduceLT, frzP, augP, ixN_p, le_size, lt_size, Nat.reduceLT, decide_true, decide_false, eq_self, Bool.not_true, Bool.not_false, Nat.zero_le, cn0, cn1, call_at, call_isint, call_four])
theorem four_ok {n : Int} (h0 : 0 ≤ n) (h1 : n < 4294967296) : fourF n = [n % 256, n / 256 % 256, n / 65536 % 256, n / 16777216] ∧ (fourF n).length = 4 ∧ Bytes (fourF n) ∧ numF (fourF n) = n := by
  have e : fourF n = [n % 256, n / 256 % 256, n / 65536 % 256, n / 16777216] := by
    have e1 : fourF n = [n / 1 % 256, n / 256 % 256, n / 65536 % 256, n / 16777216 % 256] := rfl
    rw [e1, show n / 1 = n by omega, show n / 16777216 % 256 = n / 16777216 by omega]
  rw [e]
  refine ⟨rfl, rfl, fun z hz => ?_, ?_⟩
  · simp only [List.mem_cons, List.not_mem_nil, or_false] at hz
    omega
  · show n % 256 + n / 256 % 256 * 256 + n / 65536 % 256 * 65536 + n / 16777216 * 16777216 = n
    omega
theorem bytes_nil : Bytes [] := fun z h => by cases h
theorem ck_nil : ckF [] = 0 := by decide
theorem meets_law : Meets Tb m_law fiLaw 10 := Fi.of_meets fun ns hns => by
  unfold m_law
  walk_at "pl"
  rw [call_draws hns]
  generalize drawsF ns = L
  walk_at "pl"
  have a1 := atF_ge (L := L) (k := 0) (m := 41) (by decide)
  have a2 := atF_lt (L := L) (k := 0) (m := 41) (by decide)
  rw [lc_rng (fun k => atF L (4 + k) 256) (rng_n (n := (atF L 0 41).toNat) (m := .sh) (by walk_at "pl"; rfl) (by omega) (by omega)) (by omega) fun z h0 h1 => ?_]
  rotate_left
  · walk_at "pl"
    rw [call_at (by omega) (by decide)]
  generalize hR : (rgI 0 (atF L 0 41).toNat).map (fun k => atF L (4 + k) 256) = R
  have bR : Bytes R := fun z hz => by
    rw [← hR] at hz
    obtain ⟨k, _, rfl⟩ := List.mem_map.mp hz
    exact ⟨atF_ge (by decide), atF_lt (by decide)⟩
  have lR : R.length ≤ 40 := by rw [← hR, List.length_map, rgI_len]; omega
  clear hR a1 a2
  walk_at "pl"
  rw [call_checksum bR]
  walk_at "pl"
  rw [call_check bR]
  walk_at "pl"
  rw [ck_ch bR]
  walk_at "pl"
  have n1 := atF_ge (L := L) (k := 1) (m := 65536) (by decide)
  have n2 := atF_lt (L := L) (k := 1) (m := 65536) (by decide)
  have n3 := atF_ge (L := L) (k := 2) (m := 65536) (by decide)
  have n4 := atF_lt (L := L) (k := 2) (m := 65536) (by decide)
  obtain ⟨n, hn⟩ : ∃ n : Nat, atF L 1 65536 + 65536 * atF L 2 65536 = n := ⟨(atF L 1 65536 + 65536 * atF L 2 65536).toNat, by omega⟩
  have hn2 : n < 2 ^ 32 := by omega
  rw [hn]
  obtain ⟨f1, f2, f3, f4⟩ := four_ok (n := n) (by omega) (by omega)
  rw [show ∀ a b c d : Int, PyData.list [.int a, .int b, .int c, .int d] = dI [a, b, c, d] from fun _ _ _ _ => rfl, bitAnd_m8, bitAnd_m8, bitAnd_m8]
  rw [show [(n : Int) % 256, n / 2 ^ (8 : Int).toNat % 256, n / 2 ^ (16 : Int).toNat % 256, n / 2 ^ (24 : Int).toNat] = fourF n from f1.symm]
  walk_at "pl"
  rw [call_number ⟨f2, f3⟩, call_checksum bytes_nil, f4, ck_nil]
  walk_at "pl"
  rw [call_bits (by omega)]
  walk_at "pl"
  rw [bits_len]
  by_cases hz : ((8 * R.length : Nat) : Int) = 0
  · rw [if_pos hz]
    trivial
  rw [if_neg hz, call_at (by decide) (by omega)]
  have p0 := atF_ge (L := L) (k := 3) (m := ((8 * R.length : Nat) : Int)) (by omega)
  have p1 := atF_lt (L := L) (k := 3) (m := ((8 * R.length : Nat) : Int)) (by omega)
  obtain ⟨p, hp⟩ : ∃ p : Nat, atF L 3 ((8 * R.length : Nat) : Int) = p := ⟨(atF L 3 ((8 * R.length : Nat) : Int)).toNat, by omega⟩
  rw [hp] at p0 p1 ⊢
  walk_at "pl"
  rw [ix_dI (by omega) (by rw [bits_len]; omega)]
  walk_at "pl"
  refine ⟨p, by rw [ixN_p (by omega) (by rw [List.length_map, bits_len]; omega), Int.toNat_natCast], ?_⟩
  rw [set_dI, run_for]
  refine for_rng (n := 31) (lo := 1) ?_ (fun i env => ∃ M' y9, Part (bitsF R) M' p (vOf n) i ∧ env = [some (.bo, scr ns), some (.ow, dI L), some (.ow, dI R), some (.ow, dI R), some (.sh, .int (chF R)), some (.sh, .int n), some (.ow, dI (fourF n)), some (.ow, dI M'), some (.sh, .int p), y9]) ⟨_, _, part_0 (vOf_odd n), rfl⟩ (fun env h => ?_) fun i z env hi hz h => ?_
  · exact rng_2n (m := .sh) (m' := .sh) (by walk_at "pl"; rfl) (by decide) (by decide) (by decide)
  · obtain ⟨M', y9, hM, rfl⟩ := h
    have hB := part_end hM (vOf_lt hn2)
    have lM : M'.length = 8 * R.length := by rw [hM.1, bits_len]
    have bM := hB.bits' (bits_ok R)
    have hck := burst_ck bR hB (by omega) (vOf_odd n) (vOf_lt hn2)
    have bb : Bytes (bytesF M') := fun z hz => by
      obtain ⟨i, hi, rfl⟩ := mem_nth hz
      rw [bytes_len] at hi
      exact (bytes_at bM (by omega)).1
    walk_at "pl"
    rw [call_bytes ⟨bM, by omega⟩]
    walk_at "pl"
    rw [call_checksum bb]
    walk_at "pl"
    rw [ck_ch bR] at hck
    simp [hck]
  · obtain ⟨M', y9, hM, rfl⟩ := h
    have lM : M'.length = 8 * R.length := by rw [hM.1, bits_len]
    have ez : z = ((i + 1 : Nat) : Int) := by omega
    subst ez
    walk_at "pl"
    rw [shr_p (by omega), Int.toNat_natCast, shr_n]
    walk_at "pl"
    have lB := bits_len R
    by_cases c1 : (p : Int) + ((i + 1 : Nat) : Int) < M'.length
    · rw [if_pos c1, and_1]
      by_cases c2 : n / 2 ^ (i + 1) % 2 = 1
      · rw [if_pos (by rw [c2]; rfl), ix_dI (by omega) (by omega)]
        walk_at "pl"
        refine ⟨p + (i + 1), by rw [ixN_p (by omega) (by rw [List.length_map]; omega)]; congr 1, ?_⟩
        rw [set_dI, show (p : Int) + ((i + 1 : Nat) : Int) = ((p + (i + 1) : Nat) : Int) by omega]
        exact ⟨_, _, part_set hM (by omega) (by rw [vOf_bit]; exact c2), rfl⟩
      · rw [if_neg (by omega)]
        exact ⟨_, _, part_skip hM (fun d => c2 (by rw [← vOf_bit]; exact d.2)), rfl⟩
    · rw [if_neg c1]
      exact ⟨_, _, part_skip hM (fun d => c1 (by omega)), rfl⟩
section
variable {P : Program} {w : World} {K : PySem.W.Frag} {mg : Str → Option Value} {base : Heap}
/-- what the top has left -/
structure Hy (K : PySem.W.Frag) (mg : Str → Option Value) : Prop where
  f_checksum : ∃ f fd, mg "checksum" = some (.ref f) ∧ Fun K "checksum" "checksum" s_checksum f fd
  f_four_bytes : ∃ f fd, mg "four_bytes" = some (.ref f) ∧ Fun K "four_bytes" "four_bytes" s_four_bytes f fd
  f_number_of : ∃ f fd, mg "number_of" = some (.ref f) ∧ Fun K "number_of" "number_of" s_number_of f fd
  f_l_draws : ∃ f fd, mg "_law_draws" = some (.ref f) ∧ Fun K "_law_draws" "_law_draws" s_l_draws f fd
  f_l_at : ∃ f fd, mg "_law_at" = some (.ref f) ∧ Fun K "_law_at" "_law_at" s_l_at f fd
  f_l_is_integer : ∃ f fd, mg "_law_is_integer" = some (.ref f) ∧ Fun K "_law_is_integer" "_law_is_integer" s_l_is_integer f fd
  f_l_check : ∃ f fd, mg "_law_check" = some (.ref f) ∧ Fun K "_law_check" "_law_check" s_l_check f fd
  f_l_bits : ∃ f fd, mg "_law_bits" = some (.ref f) ∧ Fun K "_law_bits" "_law_bits" s_l_bits f fd
  f_l_bytes : ∃ f fd, mg "_law_bytes" = some (.ref f) ∧ Fun K "_law_bytes" "_law_bytes" s_l_bytes f fd
  f_law : ∃ f fd, mg "law" = some (.ref f) ∧ Fun K "law" "law" s_law f fd
  z_abs : mg "abs" = none
  z_bool : mg "bool" = none
  z_int : mg "int" = none
  z_isinstance : mg "isinstance" = none
  z_len : mg "len" = none
  z_list : mg "list" = none
  z_min : mg "min" = none
  z_range : mg "range" = none
  z_sum : mg "sum" = none
  k_FULL : ∃ t, mg "FULL" = some (.int 4294967295 t)
  k_POLYNOMIAL : ∃ t, mg "POLYNOMIAL" = some (.int 3988292384 t)
theorem cns_ok (h : Hy K mg) : ∀ (i : Nat) (x : Str), (["FULL", "POLYNOMIAL"] : List Str)[i]? = some x → ∃ u v, mg x = some u ∧ RelV v u ∧ Rp K nul v (Tb.cn i) := by
  intro i x e
  match i, e with
  | 0, e => cases e; obtain ⟨t, q⟩ := h.k_FULL; exact ⟨_, .int _, q, ⟨t, rfl⟩, .int _⟩
  | 1, e => cases e; obtain ⟨t, q⟩ := h.k_POLYNOMIAL; exact ⟨_, .int _, q, ⟨t, rfl⟩, .int _⟩
  | _ + 2, e => cases e
theorem bis_checksum (h : Hy K mg) : ∀ x, c_checksum.bis.contains x = true → mg x = none := by
  intro x e
  rw [List.contains_iff_mem] at e
  simp only [c_checksum, List.mem_cons, List.not_mem_nil, or_false] at e
  subst e; exact h.z_range
theorem gam_checksum (h : Hy K mg) : Gam Tb c_checksum P w K mg base 0 := ⟨fun i x e => absurd e (by simp [c_checksum]), cns_ok h, bis_checksum h, fun x e => by cases e⟩
theorem fnok_checksum (h : Hy K mg) : FnI P w K mg base 1 "checksum" fi_checksum := by
  obtain ⟨f, fd, h1, h2⟩ := h.f_checksum
  exact FnI.mk' h1 h2.kp (fn_pl (C := c_checksum) (s := m_checksum) h2 sc_checksum rfl rfl (gam_checksum h) ck_checksum meets_checksum) (h2.binds (ps := ["row"]) fun _ _ _ _ _ _ us hl => match us, hl with | [_], _ => rfl)
theorem fns_checksum (h : Hy K mg) : FnsOk Tb P w K mg base 1 ["checksum"] := FnsOk.snoc (l := []) (fun i x e => absurd e (by simp [c_checksum])) (fnok_checksum h)
theorem bis_four_bytes (h : Hy K mg) : ∀ x, c_four_bytes.bis.contains x = true → mg x = none := by
  intro x e
  rw [List.contains_iff_mem] at e
  simp only [c_four_bytes, List.mem_cons, List.not_mem_nil, or_false] at e
  subst e; exact h.z_range
theorem gam_four_bytes (h : Hy K mg) : Gam Tb c_four_bytes P w K mg base 1 := ⟨fns_checksum h, cns_ok h, bis_four_bytes h, fun x e => by cases e⟩
theorem fnok_four_bytes (h : Hy K mg) : FnI P w K mg base 2 "four_bytes" fi_four_bytes := by
  obtain ⟨f, fd, h1, h2⟩ := h.f_four_bytes
  exact FnI.mk' h1 h2.kp (fn_pl (C := c_four_bytes) (s := m_four_bytes) h2 sc_four_bytes rfl rfl (gam_four_bytes h) ck_four_bytes meets_four_bytes) (h2.binds (ps := ["number"]) fun _ _ _ _ _ _ us hl => match us, hl with | [_], _ => rfl)
theorem fns_four_bytes (h : Hy K mg) : FnsOk Tb P w K mg base 2 ["checksum", "four_bytes"] := FnsOk.snoc (l := ["checksum"]) (fns_checksum h) (fnok_four_bytes h)
theorem bis_number_of (h : Hy K mg) : ∀ x, c_number_of.bis.contains x = true → mg x = none := by
  intro x e
  cases e
theorem gam_number_of (h : Hy K mg) : Gam Tb c_number_of P w K mg base 2 := ⟨fns_four_bytes h, cns_ok h, bis_number_of h, fun x e => by cases e⟩
theorem fnok_number_of (h : Hy K mg) : FnI P w K mg base 3 "number_of" fi_number_of := by
  obtain ⟨f, fd, h1, h2⟩ := h.f_number_of
  exact FnI.mk' h1 h2.kp (fn_pl (C := c_number_of) (s := m_number_of) h2 sc_number_of rfl rfl (gam_number_of h) ck_number_of meets_number_of) (h2.binds (ps := ["row"]) fun _ _ _ _ _ _ us hl => match us, hl with | [_], _ => rfl)
theorem fns_number_of (h : Hy K mg) : FnsOk Tb P w K mg base 3 ["checksum", "four_bytes", "number_of"] := FnsOk.snoc (l := ["checksum", "four_bytes"]) (fns_four_bytes h) (fnok_number_of h)
theorem bis_l_draws (h : Hy K mg) : ∀ x, c_l_draws.bis.contains x = true → mg x = none := by
  intro x e
  rw [List.contains_iff_mem] at e
  simp only [c_l_draws, List.mem_cons, List.not_mem_nil, or_false] at e
  rcases e with rfl | rfl | rfl | rfl | rfl
  · exact h.z_abs
  · exact h.z_int
  · exact h.z_len
  · exact h.z_min
  · exact h.z_range
theorem gam_l_draws (h : Hy K mg) : Gam Tb c_l_draws P w K mg base 3 := ⟨fns_number_of h, cns_ok h, bis_l_draws h, fun x e => by cases e⟩
theorem fnok_l_draws (h : Hy K mg) : FnI P w K mg base 4 "_law_draws" fi_l_draws := by
  obtain ⟨f, fd, h1, h2⟩ := h.f_l_draws
  exact FnI.mk' h1 h2.kp (fn_pl (C := c_l_draws) (s := m_l_draws) h2 sc_l_draws rfl rfl (gam_l_draws h) ck_l_draws meets_l_draws) (h2.binds (ps := ["_law_script"]) fun _ _ _ _ _ _ us hl => match us, hl with | [_], _ => rfl)
theorem fns_l_draws (h : Hy K mg) : FnsOk Tb P w K mg base 4 ["checksum", "four_bytes", "number_of", "_law_draws"] := FnsOk.snoc (l := ["checksum", "four_bytes", "number_of"]) (fns_number_of h) (fnok_l_draws h)
theorem bis_l_at (h : Hy K mg) : ∀ x, c_l_at.bis.contains x = true → mg x = none := by
  intro x e
  rw [List.contains_iff_mem] at e
  simp only [c_l_at, List.mem_cons, List.not_mem_nil, or_false] at e
  rcases e with rfl | rfl
  · exact h.z_int
  · exact h.z_len
theorem gam_l_at (h : Hy K mg) : Gam Tb c_l_at P w K mg base 4 := ⟨fns_l_draws h, cns_ok h, bis_l_at h, fun x e => by cases e⟩
theorem fnok_l_at (h : Hy K mg) : FnI P w K mg base 5 "_law_at" fi_l_at := by
  obtain ⟨f, fd, h1, h2⟩ := h.f_l_at
  exact FnI.mk' h1 h2.kp (fn_pl (C := c_l_at) (s := m_l_at) h2 sc_l_at rfl rfl (gam_l_at h) ck_l_at meets_l_at) (h2.binds (ps := ["_law_draws_here", "_law_k", "_law_many"]) fun _ _ _ _ _ _ us hl => match us, hl with | [_, _, _], _ => rfl)
theorem fns_l_at (h : Hy K mg) : FnsOk Tb P w K mg base 5 ["checksum", "four_bytes", "number_of", "_law_draws", "_law_at"] := FnsOk.snoc (l := ["checksum", "four_bytes", "number_of", "_law_draws"]) (fns_l_draws h) (fnok_l_at h)
theorem bis_l_is_integer (h : Hy K mg) : ∀ x, c_l_is_integer.bis.contains x = true → mg x = none := by
  intro x e
  rw [List.contains_iff_mem] at e
  simp only [c_l_is_integer, List.mem_cons, List.not_mem_nil, or_false] at e
  rcases e with rfl | rfl | rfl
  · exact h.z_bool
  · exact h.z_int
  · exact h.z_isinstance
theorem gam_l_is_integer (h : Hy K mg) : Gam Tb c_l_is_integer P w K mg base 5 := ⟨fns_l_at h, cns_ok h, bis_l_is_integer h, fun x e => by cases e⟩
theorem fnok_l_is_integer (h : Hy K mg) : FnI P w K mg base 6 "_law_is_integer" fi_l_is_integer := by
  obtain ⟨f, fd, h1, h2⟩ := h.f_l_is_integer
  exact FnI.mk' h1 h2.kp (fn_pl (C := c_l_is_integer) (s := m_l_is_integer) h2 sc_l_is_integer rfl rfl (gam_l_is_integer h) ck_l_is_integer meets_l_is_integer) (h2.binds (ps := ["_law_actual"]) fun _ _ _ _ _ _ us hl => match us, hl with | [_], _ => rfl)
theorem fns_l_is_integer (h : Hy K mg) : FnsOk Tb P w K mg base 6 ["checksum", "four_bytes", "number_of", "_law_draws", "_law_at", "_law_is_integer"] := FnsOk.snoc (l := ["checksum", "four_bytes", "number_of", "_law_draws", "_law_at"]) (fns_l_at h) (fnok_l_is_integer h)
theorem bis_l_check (h : Hy K mg) : ∀ x, c_l_check.bis.contains x = true → mg x = none := by
  intro x e
  rw [List.contains_iff_mem] at e
  simp only [c_l_check, List.mem_cons, List.not_mem_nil, or_false] at e
  subst e; exact h.z_range
theorem gam_l_check (h : Hy K mg) : Gam Tb c_l_check P w K mg base 6 := ⟨fns_l_is_integer h, cns_ok h, bis_l_check h, fun x e => by cases e⟩
theorem fnok_l_check (h : Hy K mg) : FnI P w K mg base 7 "_law_check" fi_l_check := by
  obtain ⟨f, fd, h1, h2⟩ := h.f_l_check
  exact FnI.mk' h1 h2.kp (fn_pl (C := c_l_check) (s := m_l_check) h2 sc_l_check rfl rfl (gam_l_check h) ck_l_check meets_l_check) (h2.binds (ps := ["_law_row"]) fun _ _ _ _ _ _ us hl => match us, hl with | [_], _ => rfl)
theorem fns_l_check (h : Hy K mg) : FnsOk Tb P w K mg base 7 ["checksum", "four_bytes", "number_of", "_law_draws", "_law_at", "_law_is_integer", "_law_check"] := FnsOk.snoc (l := ["checksum", "four_bytes", "number_of", "_law_draws", "_law_at", "_law_is_integer"]) (fns_l_is_integer h) (fnok_l_check h)
theorem bis_l_bits (h : Hy K mg) : ∀ x, c_l_bits.bis.contains x = true → mg x = none := by
  intro x e
  rw [List.contains_iff_mem] at e
  simp only [c_l_bits, List.mem_cons, List.not_mem_nil, or_false] at e
  rcases e with rfl | rfl | rfl
  · exact h.z_int
  · exact h.z_len
  · exact h.z_range
theorem gam_l_bits (h : Hy K mg) : Gam Tb c_l_bits P w K mg base 7 := ⟨fns_l_check h, cns_ok h, bis_l_bits h, fun x e => by cases e⟩
theorem fnok_l_bits (h : Hy K mg) : FnI P w K mg base 8 "_law_bits" fi_l_bits := by
  obtain ⟨f, fd, h1, h2⟩ := h.f_l_bits
  exact FnI.mk' h1 h2.kp (fn_pl (C := c_l_bits) (s := m_l_bits) h2 sc_l_bits rfl rfl (gam_l_bits h) ck_l_bits meets_l_bits) (h2.binds (ps := ["_law_row"]) fun _ _ _ _ _ _ us hl => match us, hl with | [_], _ => rfl)
theorem fns_l_bits (h : Hy K mg) : FnsOk Tb P w K mg base 8 ["checksum", "four_bytes", "number_of", "_law_draws", "_law_at", "_law_is_integer", "_law_check", "_law_bits"] := FnsOk.snoc (l := ["checksum", "four_bytes", "number_of", "_law_draws", "_law_at", "_law_is_integer", "_law_check"]) (fns_l_check h) (fnok_l_bits h)
theorem bis_l_bytes (h : Hy K mg) : ∀ x, c_l_bytes.bis.contains x = true → mg x = none := by
  intro x e
  rw [List.contains_iff_mem] at e
  simp only [c_l_bytes, List.mem_cons, List.not_mem_nil, or_false] at e
  rcases e with rfl | rfl | rfl
  · exact h.z_len
  · exact h.z_range
  · exact h.z_sum
theorem gam_l_bytes (h : Hy K mg) : Gam Tb c_l_bytes P w K mg base 8 := ⟨fns_l_bits h, cns_ok h, bis_l_bytes h, fun x e => by cases e⟩
theorem fnok_l_bytes (h : Hy K mg) : FnI P w K mg base 9 "_law_bytes" fi_l_bytes := by
  obtain ⟨f, fd, h1, h2⟩ := h.f_l_bytes
  exact FnI.mk' h1 h2.kp (fn_pl (C := c_l_bytes) (s := m_l_bytes) h2 sc_l_bytes rfl rfl (gam_l_bytes h) ck_l_bytes meets_l_bytes) (h2.binds (ps := ["_law_bits_here"]) fun _ _ _ _ _ _ us hl => match us, hl with | [_], _ => rfl)
theorem fns_l_bytes (h : Hy K mg) : FnsOk Tb P w K mg base 9 ["checksum", "four_bytes", "number_of", "_law_draws", "_law_at", "_law_is_integer", "_law_check", "_law_bits", "_law_bytes"] := FnsOk.snoc (l := ["checksum", "four_bytes", "number_of", "_law_draws", "_law_at", "_law_is_integer", "_law_check", "_law_bits"]) (fns_l_bits h) (fnok_l_bytes h)
theorem bis_law (h : Hy K mg) : ∀ x, c_law.bis.contains x = true → mg x = none := by
  intro x e
  rw [List.contains_iff_mem] at e
  simp only [c_law, List.mem_cons, List.not_mem_nil, or_false] at e
  rcases e with rfl | rfl | rfl | rfl
  · exact h.z_isinstance
  · exact h.z_len
  · exact h.z_list
  · exact h.z_range
theorem gam_law (h : Hy K mg) : Gam Tb c_law P w K mg base 9 := ⟨fns_l_bytes h, cns_ok h, bis_law h, fun x e => by cases e⟩
theorem law_ok {f : Addr} {fd : FuncData} (h : Hy K mg) (F : Fun K "law" "law" s_law f fd) : FnOk P w K mg base (L2.CX P w) 10 f fd ["_law_script"] (spF K mg fiLaw) := fn_pl (C := c_law) (s := m_law) F sc_law rfl rfl (gam_law h) ck_law meets_law
end
theorem all_mk {l : PySem.W.OpenLaw} {w : World} {K : PySem.W.Frag} {h : Heap} {mg : Str → Option Value} {fa : Addr} (X : K.In h) (G : h.Ns mainGlobals mg) (hfa : mg "law" = some (.ref fa))
    {f_checksum : Addr} {oc_checksum kV_checksum dc_checksum pm_checksum cd_checksum ct_checksum : Value} {od_checksum an_checksum : Option Addr} {sl_checksum : Array (Option Value)} {f_four_bytes : Addr} {oc_four_bytes kV_four_bytes dc_four_bytes pm_four_bytes cd_four_bytes ct_four_bytes : Value} {od_four_bytes an_four_bytes : Option Addr} {sl_four_bytes : Array (Option Value)} {f_number_of : Addr} {oc_number_of kV_number_of dc_number_of pm_number_of cd_number_of ct_number_of : Value} {od_number_of an_number_of : Option Addr} {sl_number_of : Array (Option Value)} {f_l_draws : Addr} {oc_l_draws kV_l_draws dc_l_draws pm_l_draws cd_l_draws ct_l_draws : Value} {od_l_draws an_l_draws : Option Addr} {sl_l_draws : Array (Option Value)} {f_l_at : Addr} {oc_l_at kV_l_at dc_l_at pm_l_at cd_l_at ct_l_at : Value} {od_l_at an_l_at : Option Addr} {sl_l_at : Array (Option Value)} {f_l_is_integer : Addr} {oc_l_is_integer kV_l_is_integer dc_l_is_integer pm_l_is_integer cd_l_is_integer ct_l_is_integer : Value} {od_l_is_integer an_l_is_integer : Option Addr} {sl_l_is_integer : Array (Option Value)} {f_l_check : Addr} {oc_l_check kV_l_check dc_l_check pm_l_check cd_l_check ct_l_check : Value} {od_l_check an_l_check : Option Addr} {sl_l_check : Array (Option Value)} {f_l_bits : Addr} {oc_l_bits kV_l_bits dc_l_bits pm_l_bits cd_l_bits ct_l_bits : Value} {od_l_bits an_l_bits : Option Addr} {sl_l_bits : Array (Option Value)} {f_l_bytes : Addr} {oc_l_bytes kV_l_bytes dc_l_bytes pm_l_bytes cd_l_bytes ct_l_bytes : Value} {od_l_bytes an_l_bytes : Option Addr} {sl_l_bytes : Array (Option Value)} {f_law : Addr} {oc_law kV_law dc_law pm_law cd_law ct_law : Value} {od_law an_law : Option Addr} {sl_law : Array (Option Value)} {t_FULL : Tok} {t_POLYNOMIAL : Tok}
    (a_checksum : PySem.W.nsIn K mainGlobals "checksum" = some (some (.ref f_checksum))) (l_checksum : K.lookup f_checksum = some ⟨oc_checksum, od_checksum, .func (PySem.W.fnOf "checksum" "checksum" (defArgs s_checksum) (defBody s_checksum) (defScope s_checksum) .none kV_checksum dc_checksum pm_checksum an_checksum cd_checksum ct_checksum), sl_checksum⟩) (c_checksum' : PySem.W.codeIn K cd_checksum "checksum" = true) (k_checksum' : PySem.W.keepIn K (.ref f_checksum) = true) (a_four_bytes : PySem.W.nsIn K mainGlobals "four_bytes" = some (some (.ref f_four_bytes))) (l_four_bytes : K.lookup f_four_bytes = some ⟨oc_four_bytes, od_four_bytes, .func (PySem.W.fnOf "four_bytes" "four_bytes" (defArgs s_four_bytes) (defBody s_four_bytes) (defScope s_four_bytes) .none kV_four_bytes dc_four_bytes pm_four_bytes an_four_bytes cd_four_bytes ct_four_bytes), sl_four_bytes⟩) (c_four_bytes' : PySem.W.codeIn K cd_four_bytes "four_bytes" = true) (k_four_bytes' : PySem.W.keepIn K (.ref f_four_bytes) = true) (a_number_of : PySem.W.nsIn K mainGlobals "number_of" = some (some (.ref f_number_of))) (l_number_of : K.lookup f_number_of = some ⟨oc_number_of, od_number_of, .func (PySem.W.fnOf "number_of" "number_of" (defArgs s_number_of) (defBody s_number_of) (defScope s_number_of) .none kV_number_of dc_number_of pm_number_of an_number_of cd_number_of ct_number_of), sl_number_of⟩) (c_number_of' : PySem.W.codeIn K cd_number_of "number_of" = true) (k_number_of' : PySem.W.keepIn K (.ref f_number_of) = true) (a_l_draws : PySem.W.nsIn K mainGlobals "_law_draws" = some (some (.ref f_l_draws))) (l_l_draws : K.lookup f_l_draws = some ⟨oc_l_draws, od_l_draws, .func (PySem.W.fnOf "_law_draws" "_law_draws" (defArgs s_l_draws) (defBody s_l_draws) (defScope s_l_draws) .none kV_l_draws dc_l_draws pm_l_draws an_l_draws cd_l_draws ct_l_draws), sl_l_draws⟩) (c_l_draws' : PySem.W.codeIn K cd_l_draws "_law_draws" = true) (k_l_draws' : PySem.W.keepIn K (.ref f_l_draws) = true) (a_l_at : PySem.W.nsIn K mainGlobals "_law_at" = some (some (.ref f_l_at))) (l_l_at : K.lookup f_l_at = some ⟨oc_l_at, od_l_at, .func (PySem.W.fnOf "_law_at" "_law_at" (defArgs s_l_at) (defBody s_l_at) (defScope s_l_at) .none kV_l_at dc_l_at pm_l_at an_l_at cd_l_at ct_l_at), sl_l_at⟩) (c_l_at' : PySem.W.codeIn K cd_l_at "_law_at" = true) (k_l_at' : PySem.W.keepIn K (.ref f_l_at) = true) (a_l_is_integer : PySem.W.nsIn K mainGlobals "_law_is_integer" = some (some (.ref f_l_is_integer))) (l_l_is_integer : K.lookup f_l_is_integer = some ⟨oc_l_is_integer, od_l_is_integer, .func (PySem.W.fnOf "_law_is_integer" "_law_is_integer" (defArgs s_l_is_integer) (defBody s_l_is_integer) (defScope s_l_is_integer) .none kV_l_is_integer dc_l_is_integer pm_l_is_integer an_l_is_integer cd_l_is_integer ct_l_is_integer), sl_l_is_integer⟩) (c_l_is_integer' : PySem.W.codeIn K cd_l_is_integer "_law_is_integer" = true) (k_l_is_integer' : PySem.W.keepIn K (.ref f_l_is_integer) = true) (a_l_check : PySem.W.nsIn K mainGlobals "_law_check" = some (some (.ref f_l_check))) (l_l_check : K.lookup f_l_check = some ⟨oc_l_check, od_l_check, .func (PySem.W.fnOf "_law_check" "_law_check" (defArgs s_l_check) (defBody s_l_check) (defScope s_l_check) .none kV_l_check dc_l_check pm_l_check an_l_check cd_l_check ct_l_check), sl_l_check⟩) (c_l_check' : PySem.W.codeIn K cd_l_check "_law_check" = true) (k_l_check' : PySem.W.keepIn K (.ref f_l_check) = true) (a_l_bits : PySem.W.nsIn K mainGlobals "_law_bits" = some (some (.ref f_l_bits))) (l_l_bits : K.lookup f_l_bits = some ⟨oc_l_bits, od_l_bits, .func (PySem.W.fnOf "_law_bits" "_law_bits" (defArgs s_l_bits) (defBody s_l_bits) (defScope s_l_bits) .none kV_l_bits dc_l_bits pm_l_bits an_l_bits cd_l_bits ct_l_bits), sl_l_bits⟩) (c_l_bits' : PySem.W.codeIn K cd_l_bits "_law_bits" = true) (k_l_bits' : PySem.W.keepIn K (.ref f_l_bits) = true) (a_l_bytes : PySem.W.nsIn K mainGlobals "_law_bytes" = some (some (.ref f_l_bytes))) (l_l_bytes : K.lookup f_l_bytes = some ⟨oc_l_bytes, od_l_bytes, .func (PySem.W.fnOf "_law_bytes" "_law_bytes" (defArgs s_l_bytes) (defBody s_l_bytes) (defScope s_l_bytes) .none kV_l_bytes dc_l_bytes pm_l_bytes an_l_bytes cd_l_bytes ct_l_bytes), sl_l_bytes⟩) (c_l_bytes' : PySem.W.codeIn K cd_l_bytes "_law_bytes" = true) (k_l_bytes' : PySem.W.keepIn K (.ref f_l_bytes) = true) (a_law : PySem.W.nsIn K mainGlobals "law" = some (some (.ref f_law))) (l_law : K.lookup f_law = some ⟨oc_law, od_law, .func (PySem.W.fnOf "law" "law" (defArgs s_law) (defBody s_law) (defScope s_law) .none kV_law dc_law pm_law an_law cd_law ct_law), sl_law⟩) (c_law' : PySem.W.codeIn K cd_law "law" = true) (k_law' : PySem.W.keepIn K (.ref f_law) = true) (z_abs : PySem.W.nsIn K mainGlobals "abs" = some none) (z_bool : PySem.W.nsIn K mainGlobals "bool" = some none) (z_int : PySem.W.nsIn K mainGlobals "int" = some none) (z_isinstance : PySem.W.nsIn K mainGlobals "isinstance" = some none) (z_len : PySem.W.nsIn K mainGlobals "len" = some none) (z_list : PySem.W.nsIn K mainGlobals "list" = some none) (z_min : PySem.W.nsIn K mainGlobals "min" = some none) (z_range : PySem.W.nsIn K mainGlobals "range" = some none) (z_sum : PySem.W.nsIn K mainGlobals "sum" = some none) (k_FULL : PySem.W.nsIn K mainGlobals "FULL" = some (some (.int 4294967295 t_FULL))) (k_POLYNOMIAL : PySem.W.nsIn K mainGlobals "POLYNOMIAL" = some (some (.int 3988292384 t_POLYNOMIAL))) :
    ∃ fd : FuncData, (∀ (s : Shared) (v : Value), BindsTo s fd ⟨[v], []⟩ [("_law_script", v)]) ∧ ∀ base : Heap, K.In base → base.Ns mainGlobals mg → FnOk l.prog w K mg base (L2.CX l.prog w) 10 fa fd ["_law_script"] (spF K mg fiLaw) := by
  have e := hfa.symm.trans (PySem.W.mg_of X G a_law)
  cases e
  have hy : Hy K mg := {
    f_checksum := ⟨_, _, PySem.W.mg_of X G a_checksum, fun_mk (st := s_checksum) l_checksum c_checksum' k_checksum'⟩
    f_four_bytes := ⟨_, _, PySem.W.mg_of X G a_four_bytes, fun_mk (st := s_four_bytes) l_four_bytes c_four_bytes' k_four_bytes'⟩
    f_number_of := ⟨_, _, PySem.W.mg_of X G a_number_of, fun_mk (st := s_number_of) l_number_of c_number_of' k_number_of'⟩
    f_l_draws := ⟨_, _, PySem.W.mg_of X G a_l_draws, fun_mk (st := s_l_draws) l_l_draws c_l_draws' k_l_draws'⟩
    f_l_at := ⟨_, _, PySem.W.mg_of X G a_l_at, fun_mk (st := s_l_at) l_l_at c_l_at' k_l_at'⟩
    f_l_is_integer := ⟨_, _, PySem.W.mg_of X G a_l_is_integer, fun_mk (st := s_l_is_integer) l_l_is_integer c_l_is_integer' k_l_is_integer'⟩
    f_l_check := ⟨_, _, PySem.W.mg_of X G a_l_check, fun_mk (st := s_l_check) l_l_check c_l_check' k_l_check'⟩
    f_l_bits := ⟨_, _, PySem.W.mg_of X G a_l_bits, fun_mk (st := s_l_bits) l_l_bits c_l_bits' k_l_bits'⟩
    f_l_bytes := ⟨_, _, PySem.W.mg_of X G a_l_bytes, fun_mk (st := s_l_bytes) l_l_bytes c_l_bytes' k_l_bytes'⟩
    f_law := ⟨_, _, PySem.W.mg_of X G a_law, fun_mk (st := s_law) l_law c_law' k_law'⟩
    z_abs := PySem.W.mg_none_of X G z_abs
    z_bool := PySem.W.mg_none_of X G z_bool
    z_int := PySem.W.mg_none_of X G z_int
    z_isinstance := PySem.W.mg_none_of X G z_isinstance
    z_len := PySem.W.mg_none_of X G z_len
    z_list := PySem.W.mg_none_of X G z_list
    z_min := PySem.W.mg_none_of X G z_min
    z_range := PySem.W.mg_none_of X G z_range
    z_sum := PySem.W.mg_none_of X G z_sum
    k_FULL := ⟨_, PySem.W.mg_of X G k_FULL⟩
    k_POLYNOMIAL := ⟨_, PySem.W.mg_of X G k_POLYNOMIAL⟩
  }
  exact ⟨_, fun s v => .of_eq rfl, fun base _ _ => law_ok hy (fun_mk (st := s_law) l_law c_law' k_law')⟩
theorem all_wr {l : PySem.W.OpenLaw} {w : World} {K : PySem.W.Frag} {mg : Str → Option Value} {fa : Addr} {k : Nat}
    (h : ∃ fd : FuncData, (∀ (s : Shared) (v : Value), BindsTo s fd ⟨[v], []⟩ [("_law_script", v)]) ∧ ∀ base : Heap, K.In base → base.Ns mainGlobals mg → FnOk l.prog w K mg base (L2.CX l.prog w) k fa fd ["_law_script"] (spF K mg fiLaw)) :
    ∃ fd : FuncData, (∀ (s : Shared) (v : Value), BindsTo s fd ⟨[v], []⟩ [("_law_script", v)]) ∧ ∀ base : Heap, K.In base → base.Ns mainGlobals mg → FnOk l.prog w K mg base (L2.CX l.prog w) k fa fd ["_law_script"] (spLawS K) := by
  obtain ⟨fd, h1, h2⟩ := h
  exact ⟨fd, h1, fun base a b => (h2 base a b).imp law_sp⟩
end K01
open PySem PySem.W PyProof.Rows
set_option maxHeartbeats 0 in
theorem PySem.Challenge.cw_spoolbox_k01_checksum_of_a_row_holds : PySem.Challenge.rw_spoolbox_k01_checksum_of_a_row.Holds := by
  w_on; o_law; k_head; (case hw => w_witness2)
  k_fill
  refine L2.walk_of (l := PySem.Challenge.rw_spoolbox_k01_checksum_of_a_row) (n := 63) (k := 10) (x := "_law_script") (CX := fun w => L2.CX PySem.Challenge.rw_spoolbox_k01_checksum_of_a_row.prog w) (sp := fun w => Pl.spLawS _) rfl (by decide) rfl ⟨rfl, by decide, by decide⟩ (fun w h Y => PySem.W.kIn_of Y) ?F (fun _ _ a ns hl _ hS => ⟨a, ns, rfl, hS, hl, fun _ => rfl⟩) (fun _ _ _ _ _ h => Pl.cx_never h)
  case F =>
    intro w mg fa h KX G hmg
    refine' K01.all_wr (K01.all_mk KX G hmg ?a_checksum ?l_checksum ?c_checksum' ?k_checksum' ?a_four_bytes ?l_four_bytes ?c_four_bytes' ?k_four_bytes' ?a_number_of ?l_number_of ?c_number_of' ?k_number_of' ?a_l_draws ?l_l_draws ?c_l_draws' ?k_l_draws' ?a_l_at ?l_l_at ?c_l_at' ?k_l_at' ?a_l_is_integer ?l_l_is_integer ?c_l_is_integer' ?k_l_is_integer' ?a_l_check ?l_l_check ?c_l_check' ?k_l_check' ?a_l_bits ?l_l_bits ?c_l_bits' ?k_l_bits' ?a_l_bytes ?l_l_bytes ?c_l_bytes' ?k_l_bytes' ?a_law ?l_law ?c_law' ?k_law' ?z_abs ?z_bool ?z_int ?z_isinstance ?z_len ?z_list ?z_min ?z_range ?z_sum ?k_FULL ?k_POLYNOMIAL)
    (case a_checksum => k_is); (case l_checksum => k_is); (case c_checksum' => k_is); (case k_checksum' => k_is); (case a_four_bytes => k_is); (case l_four_bytes => k_is); (case c_four_bytes' => k_is); (case k_four_bytes' => k_is); (case a_number_of => k_is); (case l_number_of => k_is); (case c_number_of' => k_is); (case k_number_of' => k_is); (case a_l_draws => k_is); (case l_l_draws => k_is); (case c_l_draws' => k_is); (case k_l_draws' => k_is); (case a_l_at => k_is); (case l_l_at => k_is); (case c_l_at' => k_is); (case k_l_at' => k_is); (case a_l_is_integer => k_is); (case l_l_is_integer => k_is); (case c_l_is_integer' => k_is); (case k_l_is_integer' => k_is); (case a_l_check => k_is); (case l_l_check => k_is); (case c_l_check' => k_is); (case k_l_check' => k_is); (case a_l_bits => k_is); (case l_l_bits => k_is); (case c_l_bits' => k_is); (case k_l_bits' => k_is); (case a_l_bytes => k_is); (case l_l_bytes => k_is); (case c_l_bytes' => k_is); (case k_l_bytes' => k_is); (case a_law => k_is); (case l_law => k_is); (case c_law' => k_is); (case k_law' => k_is); (case z_abs => k_is); (case z_bool => k_is); (case z_int => k_is); (case z_isinstance => k_is); (case z_len => k_is); (case z_list => k_is); (case z_min => k_is); (case z_range => k_is); (case z_sum => k_is); (case k_FULL => k_is); (case k_POLYNOMIAL => k_is)
