import PyProof.Rows.All
import Wide.All
import OpenK.AllK
import Wide.FinOn
import HandS.ForMost
import HandS.More
import HandS.Conv
import HandS.Zip
import HandS.Style
import HandS.IsInst
import HandS.NoneIn
import HandS.SortInts
import PySem.Challenge.RW_ringfloor_k57_whole_pairs
set_option Elab.async false
set_option linter.all false
set_option maxRecDepth 100000
set_option maxHeartbeats 4000000
namespace RF
open PySem PySem.Spec PyProof.Rows L2
/-! ### values, readings -/
def vn (n : Nat) : V := .int (n : Int)
abbrev vns (l : List Nat) : List V := l.map vn
abbrev LI (H : Hp) (a : Addr) (l : List Nat) : Prop := H a = some (.lst (vns l))
theorem vn_inj {a b : Nat} (h : vn a = vn b) : a = b := by
  have := V.int.inj h
  omega
theorem vns_get {l : List Nat} {i x : Nat} (h : l[i]? = some x) : (vns l)[i]? = some (vn x) := by
  rw [List.getElem?_map, h]; rfl
theorem vns_get' {l : List Nat} {i : Nat} {v : V} (h : (vns l)[i]? = some v) : ∃ x, l[i]? = some x ∧ v = vn x := by
  rw [List.getElem?_map] at h
  cases e : l[i]? with
  | none => rw [e] at h; cases h
  | some x => rw [e] at h; exact ⟨x, rfl, (Option.some.inj h).symm⟩
theorem vns_len (l : List Nat) : (vns l).length = l.length := List.length_map _
theorem vns_int (l : List Nat) : vns l = (l.map Int.ofNat).map V.int := by
  rw [List.map_map]; rfl
/-- the prior item of a ring -/
theorem prev_at {l : List Nat} {i : Nat} (h : i < l.length) : atI (vns l) ((i : Int) - 1) = some (vn (l.getD ((i + (l.length - 1)) % l.length) 0)) := by
  cases i with
  | zero =>
    have e : ((0 : Nat) : Int) - 1 = -1 := by omega
    rw [e]
    obtain ⟨m, x, rfl⟩ : ∃ m x, l = m ++ [x] := ⟨l.dropLast, l.getLast (by intro z; rw [z] at h; cases h), (List.dropLast_concat_getLast _).symm⟩
    have e2 : (0 + ((m ++ [x]).length - 1)) % (m ++ [x]).length = m.length := by
      rw [List.length_append, List.length_singleton]
      rw [Nat.zero_add, Nat.add_sub_cancel]
      exact Nat.mod_eq_of_lt (by omega)
    rw [e2]
    show atI (List.map vn (m ++ [x])) (-1) = _
    rw [List.map_append, List.map_singleton, atI_last]
    rw [List.getD_eq_getElem?_getD, List.getElem?_append_right (Nat.le_refl _), Nat.sub_self]
    rfl
  | succ i =>
    have e : ((i + 1 : Nat) : Int) - 1 = (i : Int) := by omega
    rw [e]
    have e2 : (i + 1 + (l.length - 1)) % l.length = i := by
      have : i + 1 + (l.length - 1) = i + l.length := by omega
      rw [this, Nat.add_mod_right]
      exact Nat.mod_eq_of_lt (by omega)
    rw [e2]
    refine atI_nat (vns_get ?_)
    rw [List.getD_eq_getElem?_getD, List.getElem?_eq_getElem (show i < l.length by omega)]
    rfl
theorem atn {l : List Nat} {j x : Nat} (h : l[j]? = some x) : atI (vns l) (j : Int) = some (vn x) := atI_nat (vns_get h)
theorem flat_vns : ∀ l : List Nat, (vns l).all flatV = true
  | [] => rfl
  | _ :: r => by
    show (true && (vns r).all flatV) = true
    rw [flat_vns r]; rfl
theorem eqV_vn (a b : Nat) : eqV (vn a) (vn b) = decide (a = b) := by
  show ((a : Int) == (b : Int)) = decide (a = b)
  by_cases h : a = b
  · subst h; simp
  · rw [decide_eq_false h]
    exact beq_eq_false_iff_ne.mpr (by omega)
theorem inV_vns (x : Nat) (l : List Nat) : inV (vn x) (vns l) = decide (x ∈ l) := by
  unfold inV
  rw [List.any_map]
  by_cases h : x ∈ l
  · rw [decide_eq_true h]
    exact List.any_eq_true.mpr ⟨x, h, by show eqV (vn x) (vn x) = true; rw [eqV_vn]; simp⟩
  · rw [decide_eq_false h]
    refine List.any_eq_false.mpr fun y hy => ?_
    show ¬ eqV (vn y) (vn x) = true
    rw [eqV_vn]
    intro z
    have := of_decide_eq_true z
    exact h (this ▸ hy)
theorem drop_cut (xs : List V) (k : Nat) (h : k ≤ xs.length) : cutV xs (some (k : Int)) none = xs.drop k := by
  unfold cutV
  rw [HT.sIx_nat, HT.sIx_none, Nat.min_eq_left h]
  exact List.take_of_length_le (by rw [List.length_drop]; exact Nat.le_refl _)
theorem take_cut (xs : List V) (k : Nat) (h : k ≤ xs.length) : cutV xs none (some (k : Int)) = xs.take k := by
  unfold cutV
  rw [HT.sIx_none, HT.sIx_nat, Nat.min_eq_left h, Nat.sub_zero]
  rfl
/-! ### heaps -/
theorem same_upd {H : Hp} {p : Addr} {o : HO} (h : H p = none) : Same H (upd H p o) := fun b x e => by
  rw [upd_ne (ne_of_none e h)]
  exact e
theorem same_mut {H0 H : Hp} {p : Addr} {o : HO} (s : Same H0 H) (h : H0 p = none) : Same H0 (upd H p o) := fun b x e => by
  rw [upd_ne (ne_of_none e h)]
  exact s b x e
theorem same_new {H0 H : Hp} {p : Addr} {o : HO} (s : Same H0 H) (h : H p = none) : Same H0 (upd H p o) := s.trans (same_upd h)
/-- rows: addresses and what they hold -/
def LX (H : Hp) (rs : List Addr) (rows : List (List Nat)) : Prop := rs.length = rows.length ∧ ∀ (i : Nat) r row, rs[i]? = some r → rows[i]? = some row → LI H r row
def LR (H : Hp) (a : Addr) (rows : List (List Nat)) : Prop := ∃ rs : List Addr, H a = some (.lst (rs.map V.ref)) ∧ LX H rs rows
theorem LX.mono {H H' : Hp} {rs : List Addr} {rows : List (List Nat)} (s : Same H H') (h : LX H rs rows) : LX H' rs rows := ⟨h.1, fun i r row e1 e2 => s _ _ (h.2 i r row e1 e2)⟩
theorem LR.mono {H H' : Hp} {a : Addr} {rows : List (List Nat)} (s : Same H H') (h : LR H a rows) : LR H' a rows := let ⟨rs, e, x⟩ := h; ⟨rs, s _ _ e, x.mono s⟩
theorem LX.nil {H : Hp} : LX H [] [] := ⟨rfl, fun i r row e => by simp at e⟩
theorem LX.snoc {H : Hp} {rs : List Addr} {rows : List (List Nat)} {r : Addr} {row : List Nat} (h : LX H rs rows) (hr : LI H r row) : LX H (rs ++ [r]) (rows ++ [row]) := by
  refine ⟨by rw [List.length_append, List.length_append, h.1]; rfl, fun i q w e1 e2 => ?_⟩
  by_cases hi : i < rs.length
  · rw [List.getElem?_append_left hi] at e1
    rw [List.getElem?_append_left (by rw [← h.1]; exact hi)] at e2
    exact h.2 i q w e1 e2
  · have hi' : rs.length ≤ i := by omega
    rw [List.getElem?_append_right hi'] at e1
    rw [List.getElem?_append_right (by rw [← h.1]; exact hi'), ← h.1] at e2
    have e0 : i - rs.length = 0 := by
      have := (List.getElem?_eq_some_iff.mp e1).1
      rw [List.length_singleton] at this
      omega
    rw [e0] at e1 e2
    cases Option.some.inj e1
    cases Option.some.inj e2
    exact hr
theorem LX.get {H : Hp} {rs : List Addr} {rows : List (List Nat)} {i : Nat} {row : List Nat} (h : LX H rs rows) (e : rows[i]? = some row) : ∃ r, rs[i]? = some r ∧ LI H r row := by
  have hi : i < rs.length := by
    rw [h.1]; exact (List.getElem?_eq_some_iff.mp e).1
  exact ⟨rs[i], List.getElem?_eq_getElem hi, h.2 i _ _ (List.getElem?_eq_getElem hi) e⟩
theorem ref_get {rs : List Addr} {i : Nat} {r : Addr} (h : rs[i]? = some r) : (rs.map V.ref)[i]? = some (.ref r) := by
  rw [List.getElem?_map, h]; rfl
theorem ref_get' {rs : List Addr} {i : Nat} {v : V} (h : (rs.map V.ref)[i]? = some v) : ∃ r, rs[i]? = some r ∧ v = .ref r := by
  rw [List.getElem?_map] at h
  cases e : rs[i]? with
  | none => rw [e] at h; cases h
  | some x => rw [e] at h; exact ⟨x, rfl, (Option.some.inj h).symm⟩
theorem LX.set {H : Hp} {rs : List Addr} {rows : List (List Nat)} {r : Addr} {row : List Nat} (h : LX H rs rows) (i : Nat) (hr : LI H r row) : LX H (rs.set i r) (rows.set i row) := by
  refine ⟨by rw [List.length_set, List.length_set, h.1], fun j q w e1 e2 => ?_⟩
  rw [List.getElem?_set] at e1 e2
  by_cases hij : i = j
  · rw [if_pos hij] at e1 e2
    by_cases hl : j < rs.length
    · rw [if_pos (by omega)] at e1
      rw [if_pos (by rw [← h.1]; omega)] at e2
      cases Option.some.inj e1
      cases Option.some.inj e2
      exact hr
    · rw [if_neg (by omega)] at e1
      cases e1
  · rw [if_neg hij] at e1 e2
    exact h.2 j q w e1 e2
theorem ref_set (rs : List Addr) (i : Nat) (r : Addr) : (rs.map V.ref).set i (.ref r) = (rs.set i r).map V.ref := List.map_set.symm
theorem ref_snoc (rs : List Addr) (r : Addr) : rs.map V.ref ++ [.ref r] = (rs ++ [r]).map V.ref := by rw [List.map_append]; rfl
/-! ### expressions that leave the heap -/
def Va (te : TE) (σ : L2.St) (H : Hp) (v : V) : Prop := ∀ Q : VK, Q v H → te σ H Q
def RV (r : R2) (x y : V) (H : Hp) (z : V) : Prop := ∀ Q : VK, Q z H → r x y H Q
def An (t : TT) (σ : L2.St) (H : Hp) (b : Bool) : Prop := ∀ Q : Bool → Hp → Prop, Q b H → t σ H Q
def VA (t : TA) (σ : L2.St) (H : Hp) (vs : List V) : Prop := ∀ Q : List V → Hp → Prop, Q vs H → t σ H Q
section
variable {K : PySem.W.Frag} {σ : L2.St} {H : Hp} {i : Nat} {v x y z : V} {ta tb te td ty : TE} {b c : Bool} {a p d : Addr} {t u : TT} {xs : List V} {m n : Int} {r : R2}
theorem vv {i : Nat} (h : σ[i]? = some (some v) := by rfl) : Va (tVar i) σ H v := fun _ q => ⟨v, h, q⟩
theorem vc : Va (tC v) σ H v := fun _ q => q
theorem vto (h : Va te σ H v) (e : v = x) : Va te σ H x := e ▸ h
theorem vop (ha : Va ta σ H x) (hb : Va tb σ H y) (hr : RV r x y H z) : Va (tOp r ta tb) σ H z := fun Q q => ha _ (hb _ (hr Q q))
theorem vadd (ha : Va ta σ H (.int m)) (hb : Va tb σ H (.int n)) : Va (tOp (rI0 fun i j => .int (i + j)) ta tb) σ H (.int (m + n)) := vop ha hb fun Q q => ⟨m, n, rfl, rfl, q⟩
theorem vsub (ha : Va ta σ H (.int m)) (hb : Va tb σ H (.int n)) : Va (tOp (rI0 fun i j => .int (i - j)) ta tb) σ H (.int (m - n)) := vop ha hb fun Q q => ⟨m, n, rfl, rfl, q⟩
theorem vmul (ha : Va ta σ H (.int m)) (hb : Va tb σ H (.int n)) (h : CMul m n) : Va (tOp (rI CMul fun i j => .int (i * j)) ta tb) σ H (.int (m * n)) := vop ha hb fun Q q => ⟨m, n, rfl, rfl, h, q⟩
theorem vmulL (ha : Va ta σ H (.int m)) (hb : Va tb σ H (.int n)) (h : -(2 ^ 64) < m ∧ m < 2 ^ 64) : Va (tOp (rI CMul fun i j => .int (i * j)) ta tb) σ H (.int (m * n)) := vmul ha hb (.inl h)
theorem vmulR (ha : Va ta σ H (.int m)) (hb : Va tb σ H (.int n)) (h : -(2 ^ 64) < n ∧ n < 2 ^ 64) : Va (tOp (rI CMul fun i j => .int (i * j)) ta tb) σ H (.int (m * n)) := vmul ha hb (.inr h)
theorem vmod (ha : Va ta σ H (.int m)) (hb : Va tb σ H (.int n)) (h : 0 < n) : Va (tOp (rI (fun _ j => 0 < j) fun i j => .int (i % j)) ta tb) σ H (.int (m % n)) := vop ha hb fun Q q => ⟨m, n, rfl, rfl, h, q⟩
theorem vdiv (ha : Va ta σ H (.int m)) (hb : Va tb σ H (.int n)) (h : 0 < n ∧ n < 1073741824) : Va (tOp (rI CDiv fun i j => .int (i / j)) ta tb) σ H (.int (m / n)) := vop ha hb fun Q q => ⟨m, n, rfl, rfl, h, q⟩
theorem vcn {z : Int} (n : Nat) (h : z = (n : Int) := by rfl) : Va (tC (.int z)) σ H (vn n) := fun Q q => by
  show Q (V.int z) H
  rw [h]; exact q
theorem vaddn {a b : Nat} (ha : Va ta σ H (vn a)) (hb : Va tb σ H (vn b)) : Va (tOp (rI0 fun i j => .int (i + j)) ta tb) σ H (vn (a + b)) := vto (vadd ha hb) (congrArg V.int (by omega))
theorem vsubn {a b : Nat} (ha : Va ta σ H (vn a)) (hb : Va tb σ H (vn b)) (h : b ≤ a) : Va (tOp (rI0 fun i j => .int (i - j)) ta tb) σ H (vn (a - b)) := vto (vsub ha hb) (congrArg V.int (by omega))
theorem vmuln {a b : Nat} (ha : Va ta σ H (vn a)) (hb : Va tb σ H (vn b)) (h : a < 2 ^ 64 ∨ b < 2 ^ 64) : Va (tOp (rI CMul fun i j => .int (i * j)) ta tb) σ H (vn (a * b)) := vto (vmul ha hb (by
  rcases h with h | h
  · exact .inl ⟨by omega, by omega⟩
  · exact .inr ⟨by omega, by omega⟩)) (congrArg V.int (Int.natCast_mul a b).symm)
theorem vmodn {a b : Nat} (ha : Va ta σ H (vn a)) (hb : Va tb σ H (vn b)) (h : 0 < b) : Va (tOp (rI (fun _ j => 0 < j) fun i j => .int (i % j)) ta tb) σ H (vn (a % b)) := vto (vmod ha hb (by omega)) (congrArg V.int (Int.natCast_emod a b).symm)
theorem vdivn {a b : Nat} (ha : Va ta σ H (vn a)) (hb : Va tb σ H (vn b)) (h : 0 < b ∧ b < 1073741824) : Va (tOp (rI CDiv fun i j => .int (i / j)) ta tb) σ H (vn (a / b)) := vto (vdiv ha hb ⟨by omega, by omega⟩) (congrArg V.int (Int.natCast_ediv a b).symm)
theorem prev_mod (i k : Nat) (h : 0 < k) : ((i : Int) - 1) % (k : Int) = (((i + (k - 1)) % k : Nat) : Int) := by
  have e : ((i : Int) - 1) % (k : Int) = ((i : Int) - 1 + (k : Int)) % (k : Int) := by rw [Int.add_emod_right]
  have e2 : ((i : Int) - 1 + (k : Int)) = ((i + (k - 1) : Nat) : Int) := by omega
  rw [e, e2, Int.natCast_emod]
theorem vneg (ha : Va ta σ H (.int m)) : Va (tUn (rU fun i => .int (-i)) ta) σ H (.int (-m)) := fun Q q => ha _ ⟨m, rfl, q⟩
theorem vix (ha : Va ta σ H (.ref p)) (hb : Va tb σ H (.int m)) (hx : atI xs m = some v) (hp : H p = some (.lst xs) := by assumption) : Va (tOp (rIxL K) ta tb) σ H v := vop ha hb fun Q q => ⟨p, xs, m, v, rfl, rfl, SqL.of hp, hx, q⟩
theorem vixn {l : List Nat} {j k : Nat} (ha : Va ta σ H (.ref p)) (hb : Va tb σ H (vn j)) (hx : l[j]? = some k := by assumption) (hp : LI H p l := by assumption) : Va (tOp (rIxL K) ta tb) σ H (vn k) := vix ha hb (atn hx) hp
theorem vixr {rs : List Addr} {j : Nat} {k : Addr} (ha : Va ta σ H (.ref p)) (hb : Va tb σ H (vn j)) (hx : rs[j]? = some k := by assumption) (hp : H p = some (.lst (rs.map V.ref)) := by assumption) : Va (tOp (rIxL K) ta tb) σ H (.ref k) := vix ha hb (atI_nat (ref_get hx)) hp
theorem vixT (ha : Va ta σ H (.ref p)) (hb : Va tb σ H (.int m)) (hx : atI xs m = some v) (hp : H p = some (.tup xs) := by assumption) : Va (tOp (rIxT K) ta tb) σ H v := vop ha hb fun Q q => ⟨p, xs, m, v, rfl, rfl, SqT.of hp, hx, q⟩
theorem vlen {n : Nat} (ha : Va ta σ H (.ref p)) (hn : xs.length = n) (hp : H p = some (.lst xs) := by assumption) : Va (tCB (fun xs H Q => ∃ p ys, xs = [V.ref p] ∧ (SqL K H p ys ∨ SqT K H p ys) ∧ Q (.int ys.length) H) (tCons ta tNil)) σ H (vn n) := fun Q q =>
  ha _ ⟨p, xs, rfl, .inl (SqL.of hp), by rw [hn]; exact q⟩
theorem vlenT {n : Nat} (ha : Va ta σ H (.ref p)) (hn : xs.length = n) (hp : H p = some (.tup xs) := by assumption) : Va (tCB (fun xs H Q => ∃ p ys, xs = [V.ref p] ∧ (SqL K H p ys ∨ SqT K H p ys) ∧ Q (.int ys.length) H) (tCons ta tNil)) σ H (vn n) := fun Q q =>
  ha _ ⟨p, xs, rfl, .inr (SqT.of hp), by rw [hn]; exact q⟩
theorem vlenD {n : Nat} {kvs : List (Key × V)} (ha : Va ta σ H (.ref p)) (hn : kvs.length = n) (hp : H p = some (.dK kvs) := by assumption) : Va (tCB (fun xs H Q => ∃ a kvs, xs = [V.ref a] ∧ H a = some (.dK kvs) ∧ Q (.int kvs.length) H) (tCons ta tNil)) σ H (vn n) := fun Q q =>
  ha _ ⟨p, kvs, rfl, hp, by rw [hn]; exact q⟩
def kvm (l : List (Nat × V)) : List (Key × V) := l.map fun p => (Sum.inl (p.1 : Int), p.2)
theorem valV_kvm (k : Nat) : ∀ l : List (Nat × V), valV (kvm l) (.inl (k : Int)) = l.lookup k
  | [] => rfl
  | (j, v) :: r => by
    show valV ((Sum.inl (j : Int), v) :: kvm r) (.inl (k : Int)) = _
    by_cases h : j = k
    · subst h
      rw [valV_pos rfl, List.lookup_cons_self]
    · rw [valV_neg (fun z => h (by have := Sum.inl.inj z; omega)), valV_kvm k r, List.lookup_cons]
      have : (k == j) = false := beq_eq_false_iff_ne.mpr (Ne.symm h)
      rw [this]
theorem kvm_len (l : List (Nat × V)) : (kvm l).length = l.length := List.length_map _
theorem kvm_snoc {l : List (Nat × V)} {k : Nat} (v : V) (h : l.lookup k = none) : putK (kvm l) (.inl (k : Int)) v = kvm (l ++ [(k, v)]) := by
  rw [putK_new v (by rw [valV_kvm]; exact h)]
  unfold kvm
  rw [List.map_append]
  rfl
theorem lookup_none {α : Type} {g : α → Nat} {f : α → V} {k : Nat} : ∀ {l : List α}, (∀ e ∈ l, g e ≠ k) → (l.map fun e => (g e, f e)).lookup k = none
  | [], _ => rfl
  | a :: r, h => by
    rw [List.map_cons, List.lookup_cons]
    have : (k == g a) = false := beq_eq_false_iff_ne.mpr (Ne.symm (h a List.mem_cons_self))
    rw [this]
    exact lookup_none fun e he => h e (List.mem_cons_of_mem _ he)
theorem lookup_some {α : Type} {g : α → Nat} {f : α → V} : ∀ {l : List α} {a : α}, a ∈ l → (∀ b ∈ l, g b = g a → f b = f a) → (l.map fun e => (g e, f e)).lookup (g a) = some (f a)
  | [], _, h, _ => by cases h
  | b :: r, a, h, hi => by
    rw [List.map_cons, List.lookup_cons]
    by_cases e : g a = g b
    · rw [show (g a == g b) = true from beq_iff_eq.mpr e]
      show some (f b) = _
      rw [hi b List.mem_cons_self e.symm]
    · rw [show (g a == g b) = false from beq_eq_false_iff_ne.mpr e]
      rcases List.mem_cons.mp h with rfl | h
      · exact absurd rfl e
      · exact lookup_some h fun c hc => hi c (List.mem_cons_of_mem _ hc)
theorem vdget {kvs : List (Key × V)} (ha : Va td σ H (.ref d)) (hb : Va ty σ H (.int m)) (hv : valV kvs (.inl m) = some v) (hd : H d = some (.dK kvs) := by assumption) : Va (tDGet td ty) σ H v := fun Q q =>
  ha _ (hb _ ⟨d, v, rfl, hv ▸ DGet.k (k := Sum.inl m) hd, q⟩)
theorem vdin {kvs : List (Key × V)} (hb : Va ty σ H (.int m)) (ha : Va td σ H (.ref d)) (hv : (valV kvs (.inl m)).isSome = b) (hd : H d = some (.dK kvs) := by assumption) : Va (tDIn ty td) σ H (.bl b) := fun Q q =>
  hb _ (ha _ ⟨d, _, rfl, DGet.k (k := Sum.inl m) hd, hv ▸ q⟩)
theorem vdnotin {kvs : List (Key × V)} (hb : Va ty σ H (.int m)) (ha : Va td σ H (.ref d)) (hv : (valV kvs (.inl m)).isSome = b) (hd : H d = some (.dK kvs) := by assumption) : Va (tDNotIn ty td) σ H (.bl (!b)) := fun Q q =>
  hb _ (ha _ ⟨d, _, rfl, DGet.k (k := Sum.inl m) hd, hv ▸ q⟩)
theorem vin {l : List Nat} {k : Nat} (ha : Va ta σ H (vn k)) (hb : Va tb σ H (.ref p)) (hp : LI H p l := by assumption) : Va (tOp (rIn K false) ta tb) σ H (.bl (decide (k ∈ l))) := vop ha hb fun Q q =>
  ⟨p, vns l, rfl, .inl (SqL.of hp), rfl, flat_vns l, by show Q (.bl (if false = true then _ else inV (vn k) (vns l))) H; rw [if_neg Bool.false_ne_true, inV_vns]; exact q⟩
theorem vmax2 (ha : Va ta σ H (.int m)) (hb : Va tb σ H (.int n)) : Va (tCB (fun xs H Q => ∃ i j, xs = [V.int i, V.int j] ∧ Q (.int (if j > i then j else i)) H) (tCons ta (tCons tb tNil))) σ H (.int (if n > m then n else m)) := fun Q q =>
  ha _ (hb _ ⟨m, n, rfl, q⟩)
theorem vandF (ha : Va ta σ H (.bl false)) : Va (tAndV ta tb) σ H (.bl false) := fun Q q => ha _ ⟨false, rfl, by rw [if_neg Bool.false_ne_true]; exact q⟩
theorem vandT (ha : Va ta σ H (.bl true)) (hb : Va tb σ H v) : Va (tAndV ta tb) σ H v := fun Q q => ha _ ⟨true, rfl, by rw [if_pos rfl]; exact hb _ q⟩
theorem vand (ha : Va ta σ H (.bl b)) (hb : Va tb σ H (.bl c)) : Va (tAndV ta tb) σ H (.bl (b && c)) := by
  cases b with
  | false => exact vandF ha
  | true => exact vandT ha hb
theorem vnotV (ha : Va ta σ H (.bl b)) : Va (tNotV ta) σ H (.bl (!b)) := fun Q q => ha _ ⟨b, rfl, q⟩
/-! comparisons as values -/
theorem veq (ha : Va ta σ H x) (hb : Va tb σ H y) (hs : scal x y = true := by rfl) : Va (tOp rEq ta tb) σ H (.bl (decide (x = y))) := vop ha hb fun Q q => ⟨hs, q⟩
theorem vne (ha : Va ta σ H x) (hb : Va tb σ H y) (hs : scal x y = true := by rfl) : Va (tOp rNe ta tb) σ H (.bl (!decide (x = y))) := vop ha hb fun Q q => ⟨hs, q⟩
theorem vint_eq {m n : Int} {p : Prop} [Decidable p] (h : m = n ↔ p) : decide (V.int m = V.int n) = decide p := by
  by_cases hp : p
  · rw [decide_eq_true hp, decide_eq_true (by rw [h.mpr hp])]
  · rw [decide_eq_false hp, decide_eq_false fun z => hp (h.mp (V.int.inj z))]
theorem veqP {q : Prop} [Decidable q] (ha : Va ta σ H (.int m)) (hb : Va tb σ H (.int n)) (h : m = n ↔ q) : Va (tOp rEq ta tb) σ H (.bl (decide q)) := vint_eq h ▸ veq ha hb
theorem vneP {q : Prop} [Decidable q] (ha : Va ta σ H (.int m)) (hb : Va tb σ H (.int n)) (h : m = n ↔ q) : Va (tOp rNe ta tb) σ H (.bl (!decide q)) := vint_eq h ▸ vne ha hb
theorem vlt (ha : Va ta σ H (.int m)) (hb : Va tb σ H (.int n)) : Va (tOp (rI0 fun i j => .bl (decide (i < j))) ta tb) σ H (.bl (decide (m < n))) := vop ha hb fun Q q => ⟨m, n, rfl, rfl, q⟩
theorem vgt (ha : Va ta σ H (.int m)) (hb : Va tb σ H (.int n)) : Va (tOp (rI0 fun i j => .bl (decide (j < i))) ta tb) σ H (.bl (decide (n < m))) := vop ha hb fun Q q => ⟨m, n, rfl, rfl, q⟩
theorem vge (ha : Va ta σ H (.int m)) (hb : Va tb σ H (.int n)) : Va (tOp (rI0 fun i j => .bl (decide (j ≤ i))) ta tb) σ H (.bl (decide (n ≤ m))) := vop ha hb fun Q q => ⟨m, n, rfl, rfl, q⟩
theorem visN (ha : Va ta σ H x) : Va (tOp (fun x y H Q => y = .non ∧ Q (.bl (decide (x = .non))) H) ta (tC .non)) σ H (.bl (decide (x = .non))) := fun Q q => ha _ ⟨rfl, q⟩
theorem vnotN (ha : Va ta σ H x) : Va (tOp (fun x y H Q => y = .non ∧ Q (.bl (!decide (x = .non))) H) ta (tC .non)) σ H (.bl (!decide (x = .non))) := fun Q q => ha _ ⟨rfl, q⟩
/-! tests -/
theorem at_ (h : Va te σ H (.bl b)) : An (tTest te) σ H b := fun Q q => h _ ⟨b, rfl, q⟩
theorem aB (h : Va te σ H (.bl b)) : An (tB te) σ H b := fun Q q => h _ ⟨b, rfl, q⟩
theorem anot (h : An t σ H b) : An (tNot t) σ H (!b) := fun Q q => h _ q
theorem aand (h1 : An t σ H b) (h2 : b = true → An u σ H c) : An (tAnd t u) σ H (b && c) := fun Q q => h1 _ (by
  cases b with
  | true => rw [if_pos rfl]; exact h2 rfl _ q
  | false => rw [if_neg Bool.false_ne_true]; exact q)
theorem aor (h1 : An t σ H b) (h2 : b = false → An u σ H c) : An (tOr t u) σ H (b || c) := fun Q q => h1 _ (by
  cases b with
  | true => rw [if_pos rfl]; exact q
  | false => rw [if_neg Bool.false_ne_true]; exact h2 rfl _ q)
theorem ato (h : An t σ H b) (e : b = c) : An t σ H c := e ▸ h
/-! arguments -/
theorem a0 : VA tNil σ H [] := fun _ q => q
theorem ac {tr : TA} {vs : List V} (h : Va te σ H v) (hr : VA tr σ H vs) : VA (tCons te tr) σ H (v :: vs) := fun Q q => h _ (hr _ q)
theorem a1 {t1 : TE} {v1 : V} (h1 : Va t1 σ H v1) : VA (tCons t1 tNil) σ H [v1] := ac h1 a0
theorem a2 {t1 t2 : TE} {v1 v2 : V} (h1 : Va t1 σ H v1) (h2 : Va t2 σ H v2) : VA (tCons t1 (tCons t2 tNil)) σ H [v1, v2] := ac h1 (a1 h2)
theorem a3 {t1 t2 t3 : TE} {v1 v2 v3 : V} (h1 : Va t1 σ H v1) (h2 : Va t2 σ H v2) (h3 : Va t3 σ H v3) : VA (tCons t1 (tCons t2 (tCons t3 tNil))) σ H [v1, v2, v3] := ac h1 (a2 h2 h3)
theorem a4 {t1 t2 t3 t4 : TE} {v1 v2 v3 v4 : V} (h1 : Va t1 σ H v1) (h2 : Va t2 σ H v2) (h3 : Va t3 σ H v3) (h4 : Va t4 σ H v4) : VA (tCons t1 (tCons t2 (tCons t3 (tCons t4 tNil)))) σ H [v1, v2, v3, v4] := ac h1 (a3 h2 h3 h4)
/-! values that are used: with what follows -/
theorem ex {Q : VK} (h : Va te σ H v) (q : Q v H) : te σ H Q := h Q q
theorem ex_call {sp : Sp} {E : XK} {ta : TA} {vs : List V} {Q : VK} (h : VA ta σ H vs) (q : sp vs H Q E) : tCall sp [] E ta σ H Q := h _ (by show sp (vs ++ []) H Q E; rw [List.append_nil]; exact q)
theorem ex_cons {tr : TA} {Q : List V → Hp → Prop} (h : te σ H fun x H1 => tr σ H1 fun xs H2 => Q (x :: xs) H2) : tCons te tr σ H Q := h
theorem ex_cv {tr : TA} {Q : List V → Hp → Prop} (h : Va te σ H v) (k : tr σ H fun xs H2 => Q (v :: xs) H2) : tCons te tr σ H Q := h _ k
theorem ex_nil {Q : List V → Hp → Prop} (h : Q [] H) : tNil σ H Q := h
theorem ex_callc {sp : Sp} {E : XK} {ta : TA} {Q : VK} (h : ta σ H fun vs H1 => sp (vs ++ []) H1 Q E) : tCall sp [] E ta σ H Q := h
theorem ex_opx {Q : VK} (h : ta σ H fun x H1 => tb σ H1 fun y H2 => r x y H2 Q) : tOp r ta tb σ H Q := h
theorem cat_n {Q : VK} {l1 l2 : Addr} {xs ys : List V} (h1 : H l1 = some (.lst xs)) (h2 : H l2 = some (.lst ys)) (hl : xs.length + ys.length ≤ 16000000) (q : ∀ p, H p = none → Q (.ref p) (upd H p (.lst (xs ++ ys)))) : rCat (.ref l1) (.ref l2) H Q := ⟨l1, l2, xs, ys, rfl, rfl, h1, h2, by rw [sizeLine_eq]; omega, q⟩
theorem ex_listof {Q : VK} (ha : Va ta σ H (.ref p)) (hp : H p = some (.lst xs)) (q : ∀ l, H l = none → Q (.ref l) (upd H l (.lst xs))) : tCB (fun xs H Q => ∃ p ys, xs = [V.ref p] ∧ (SqL K H p ys ∨ SqT K H p ys) ∧ ∀ l, H l = none → Q (.ref l) (upd H l (.lst ys))) (tCons ta tNil) σ H Q := ha _ ⟨p, xs, rfl, .inl (SqL.of hp), q⟩
theorem ex_op {Q : VK} (ha : Va ta σ H x) (q : tb σ H fun y H2 => r x y H2 Q) : tOp r ta tb σ H Q := ha _ q
theorem ex_cat {Q : VK} {l1 l2 : Addr} {xs ys : List V} (ha : Va ta σ H (.ref l1)) (hb : Va tb σ H (.ref l2)) (h1 : H l1 = some (.lst xs)) (h2 : H l2 = some (.lst ys)) (hl : xs.length + ys.length ≤ sizeLine) (q : ∀ p, H p = none → Q (.ref p) (upd H p (.lst (xs ++ ys)))) : tOp rCat ta tb σ H Q :=
  ha _ (hb _ ⟨l1, l2, xs, ys, rfl, rfl, h1, h2, hl, q⟩)
theorem ex_lst {Q : VK} {t : TA} {vs : List V} (h : VA t σ H vs) (hl : vs.length ≤ sizeLine) (q : ∀ p, H p = none → Q (.ref p) (upd H p (.lst vs))) : tLst t σ H Q := h _ ⟨hl, q⟩
theorem ex_tupx {Q : VK} {t : TA} (h : t σ H fun xs H1 => xs.length ≤ sizeLine ∧ ∀ p, H1 p = none → Q (.ref p) (upd H1 p (.tup xs))) : tTup t σ H Q := h
theorem ex_tup {Q : VK} {t : TA} {vs : List V} (h : VA t σ H vs) (hl : vs.length ≤ sizeLine) (q : ∀ p, H p = none → Q (.ref p) (upd H p (.tup vs))) : tTup t σ H Q := h _ ⟨hl, q⟩
/-- [x] * n -/
theorem ex_rep {Q : VK} (ha : Va ta σ H x) (q : ∀ p, H p = none → tb σ (upd H p (.lst [x])) fun y H2 => rRep (.ref p) y H2 Q) : tOp rRep (tLst (tCons ta tNil)) tb σ H Q :=
  ha _ ⟨by show 1 ≤ sizeLine; decide, fun p hp => q p hp⟩
theorem rep_n {Q : VK} {n : Nat} (hp : H p = some (.lst [x])) (hn : n ≤ 1000000) (q : ∀ q, H q = none → Q (.ref q) (upd H q (.lst (List.replicate n x)))) : rRep (.ref p) (vn n) H Q := by
  refine ⟨p, n, [x], rfl, rfl, hp, by omega, by omega, ?_, fun l hl => ?_⟩
  · rw [sizeLine_eq, Int.toNat_natCast, List.length_singleton]
    omega
  · have e : (List.replicate (n : Int).toNat [x]).flatten = List.replicate n x := by
      rw [Int.toNat_natCast]
      clear hn q
      induction n with
      | zero => rfl
      | succ n ih =>
        rw [List.replicate_succ, List.flatten_cons, ih]
        rfl
    rw [e]
    exact q l hl
theorem ex_sl {Q : VK} {l : Addr} {lo hi : TO} {o1 o2 : Option Int} (ha : Va ta σ H (.ref l)) (h1 : ∀ R : Option Int → Hp → Prop, R o1 H → lo σ H R) (h2 : ∀ R : Option Int → Hp → Prop, R o2 H → hi σ H R) (hl : H l = some (.lst xs)) (q : ∀ p, H p = none → Q (.ref p) (upd H p (.lst (cutV xs o1 o2)))) : tSl (rSlL K) ta lo hi σ H Q :=
  ha _ (h1 _ (h2 _ ⟨l, xs, rfl, SqL.of hl, q⟩))
theorem po0 : ∀ R : Option Int → Hp → Prop, R none H → tNoPart σ H R := fun _ r => r
theorem po1 (h : Va te σ H (.int m)) : ∀ R : Option Int → Hp → Prop, R (some m) H → tPart te σ H R := fun _ r => h _ ⟨m, rfl, r⟩
/-- xs[k:], xs[:k] -/
theorem ex_drop {Q : VK} {l : Addr} {k : Nat} (ha : Va ta σ H (.ref l)) (h1 : Va tb σ H (vn k)) (hl : H l = some (.lst xs)) (hk : k ≤ xs.length) (q : ∀ p, H p = none → Q (.ref p) (upd H p (.lst (xs.drop k)))) : tSl (rSlL K) ta (tPart tb) tNoPart σ H Q :=
  ex_sl ha (po1 h1) po0 hl (by rw [drop_cut xs k hk]; exact q)
theorem ex_take {Q : VK} {l : Addr} {k : Nat} (ha : Va ta σ H (.ref l)) (h1 : Va tb σ H (vn k)) (hl : H l = some (.lst xs)) (hk : k ≤ xs.length) (q : ∀ p, H p = none → Q (.ref p) (upd H p (.lst (xs.take k)))) : tSl (rSlL K) ta tNoPart (tPart tb) σ H Q :=
  ex_sl ha po0 (po1 h1) hl (by rw [take_cut xs k hk]; exact q)
/-- xs.index(y), nats -/
theorem vindex {l : List Nat} {k j : Nat} (ha : Va ta σ H (.ref p)) (hb : Va tb σ H (vn k)) (hj : l[j]? = some k) (hno : ∀ m, m < j → l[m]? ≠ some k) (hp : LI H p l := by assumption) : Va (tBM K "list" (rIndex K) ta (tCons tb tNil)) σ H (vn j) := fun Q q =>
  ha _ ⟨.inl ⟨rfl, _, SqL.of hp⟩, hb _ ⟨p, vns l, vn k, j, vn k, rfl, rfl, SqL.of hp, rfl, flat_vns l, vns_get hj, by rw [eqV_vn]; exact decide_eq_true rfl, fun m z' hm hz => by
    obtain ⟨x, hx, rfl⟩ := vns_get' hz
    rw [eqV_vn]
    refine decide_eq_false fun e => hno m hm ?_
    rw [hx, e], q⟩⟩
theorem ex_bm {rr : V → List V → Hp → VK → Prop} {ta' : TA} {Q : VK} (ho : Va ta σ H (.ref p)) (hp : H p = some (.lst xs)) (h : ta' σ H fun vs H2 => rr (.ref p) vs H2 Q) : tBM K "list" rr ta ta' σ H Q := ho _ ⟨.inl ⟨rfl, _, SqL.of hp⟩, h⟩
theorem vmin {l : List Nat} (ha : Va ta σ H (.ref p)) (h0 : 0 < l.length) (hp : LI H p l) {Q : VK} (q : ∀ m, m ∈ l → (∀ y ∈ l, m ≤ y) → Q (vn m) H) : tCB (rMin K) (tCons ta tNil) σ H Q :=
  ha _ ⟨p, l.map Int.ofNat, rfl, by rw [← vns_int]; exact SqL.of hp, by rw [List.length_map]; exact h0, fun m hm hle => by
    obtain ⟨k, hk, rfl⟩ := List.mem_map.mp hm
    exact q k hk fun y hy => by
      have := hle (Int.ofNat y) (List.mem_map.mpr ⟨y, hy, rfl⟩)
      exact Int.ofNat_le.mp this⟩
theorem sum_cast : ∀ l : List Nat, (l.map Int.ofNat).sum = ((l.sum : Nat) : Int)
  | [] => rfl
  | x :: r => by
    rw [List.map_cons, List.sum_cons, List.sum_cons, sum_cast r]
    show (x : Int) + _ = _
    omega
theorem vsum {l : List Nat} (ha : Va ta σ H (.ref p)) (hp : LI H p l := by assumption) : Va (tCB (rSum K) (tCons ta tNil)) σ H (vn l.sum) := fun Q q =>
  ha _ ⟨p, l.map Int.ofNat, rfl, by rw [← vns_int]; exact SqL.of hp, by rw [sum_cast]; exact q⟩
theorem dec0 {n : Nat} : decide ((0 : Int) < (n : Int)) = decide (0 < n) := decide_eq_decide.mpr (by omega)
/-! ### statements -/
variable {D : Ends} {ts us : TS}
theorem pn {A : L2.St → Hp → Prop} {B : VK} {C E : L2.St → Hp → Prop} (h : A σ H) : (Ends.mk A B C E).nx σ H := h
theorem pr {A : L2.St → Hp → Prop} {B : VK} {C E : L2.St → Hp → Prop} (h : B v H) : (Ends.mk A B C E).rt v H := h
theorem pb {A : L2.St → Hp → Prop} {B : VK} {C E : L2.St → Hp → Prop} (h : C σ H) : (Ends.mk A B C E).bk σ H := h
theorem pc {A : L2.St → Hp → Prop} {B : VK} {C E : L2.St → Hp → Prop} (h : E σ H) : (Ends.mk A B C E).ct σ H := h
theorem sq (h : ts { D with nx := us D } σ H) : tSeq ts us D σ H := h
theorem s_nx (h : D.nx σ H) : tNext D σ H := h
theorem s_ct (h : D.ct σ H) : tCont D σ H := h
theorem s_bk (h : D.bk σ H) : tBreak D σ H := h
theorem s_set (h : Va te σ H v) (k : D.nx (σ.set i (some v)) H) : tAsg te (gName i) D σ H := h _ k
theorem s_asg (h : te σ H fun x H1 => D.nx (σ.set i (some x)) H1) : tAsg te (gName i) D σ H := h
theorem s_call {sp : Sp} {E : XK} {ta : TA} {vs : List V} (h : VA ta σ H vs) (k : sp vs H (fun x H1 => D.nx (σ.set i (some x)) H1) E) : tAsg (tCall sp [] E ta) (gName i) D σ H := ex_call (Q := fun x H1 => D.nx (σ.set i (some x)) H1) h k
theorem s_ret (h : Va te σ H v) (k : D.rt v H) : tRet te D σ H := h _ k
theorem s_retx (h : te σ H D.rt) : tRet te D σ H := h
theorem s_if (h : An t σ H b) (h1 : b = true → ts D σ H) (h2 : b = false → us D σ H) : tIfS t ts us D σ H := h _ (by
  cases b with
  | true => rw [if_pos rfl]; exact h1 rfl
  | false => rw [if_neg Bool.false_ne_true]; exact h2 rfl)
theorem s_ifp {q : Prop} [Decidable q] (h : An t σ H (decide q)) (h1 : q → ts D σ H) (h2 : ¬ q → us D σ H) : tIfS t ts us D σ H := s_if h (fun e => h1 (of_decide_eq_true e)) (fun e => h2 (of_decide_eq_false e))
theorem s_drop (h : Va te σ H v) (k : D.nx σ H) : tDrop te D σ H := h _ k
theorem s_dropx (h : te σ H fun _ H1 => D.nx σ H1) : tDrop te D σ H := h
theorem s_app {l : Addr} (ho : Va ta σ H (.ref l)) (he : Va te σ H v) (hl : H l = some (.lst xs)) (hz : xs.length < 1000000) (k : D.nx σ (upd H l (.lst (xs ++ [v])))) : tDrop (tBM K "list" rAppend ta (tCons te tNil)) D σ H :=
  ho _ ⟨.inl ⟨rfl, _, SqL.of hl⟩, he _ ⟨l, xs, v, rfl, rfl, hl, by rw [sizeLine_eq]; omega, k⟩⟩
theorem s_appx {l : Addr} (ho : Va ta σ H (.ref l)) (hl : H l = some (.lst xs)) (he : te σ H fun v H2 => rAppend (.ref l) [v] H2 fun _ H3 => D.nx σ H3) : tDrop (tBM K "list" rAppend ta (tCons te tNil)) D σ H :=
  ho _ ⟨.inl ⟨rfl, _, SqL.of hl⟩, he⟩
theorem app_n {l : Addr} {Q : VK} (hl : H l = some (.lst xs)) (hz : xs.length < 1000000) (k : Q .non (upd H l (.lst (xs ++ [v])))) : rAppend (.ref l) [v] H Q := ⟨l, xs, v, rfl, rfl, hl, by rw [sizeLine_eq]; omega, k⟩
theorem ixN_nat {n j : Nat} (h : j < n) : ixN n (j : Int) = some j := by
  unfold ixN
  rw [if_pos (by omega), if_pos (by omega), Int.toNat_natCast]
theorem s_setL {l : Addr} {j : Nat} (he : Va te σ H v) (ho : Va ta σ H (.ref l)) (hi : Va tb σ H (vn j)) (hl : H l = some (.lst xs)) (hj : j < xs.length) (k : D.nx σ (upd H l (.lst (xs.set j v)))) : tAsg te (gSub ta tb rSetL) D σ H :=
  he _ (ho _ (hi _ ⟨l, xs, j, j, rfl, rfl, hl, ixN_nat hj, k⟩))
theorem setL_n {l : Addr} {j : Nat} {Q : Hp → Prop} (hl : H l = some (.lst xs)) (hj : j < xs.length) (k : Q (upd H l (.lst (xs.set j v)))) : rSetL (.ref l) (vn j) v H Q := ⟨l, xs, j, j, rfl, rfl, hl, ixN_nat hj, k⟩
theorem s_dput {kvs : List (Key × V)} (he : Va te σ H v) (ho : Va td σ H (.ref d)) (hi : Va ty σ H (.int m)) (hl : kvs.length < 1000000) (hd : H d = some (.dK kvs)) (k : D.nx σ (upd H d (.dK (putK kvs (.inl m) v)))) : sDPut td ty te D σ H :=
  he _ (ho _ (hi _ ⟨d, _, rfl, DPut.k (k := Sum.inl m) hd (by rw [sizeLine_eq]; omega), k⟩))
theorem s_augI {f : Int → Int → Int} {m n : Int} (hx : σ[i]? = some (some (.int m))) (h : Va te σ H (.int n)) (k : D.nx (σ.set i (some (.int (f m n)))) H) : tAug i te (ipI f) D σ H := ⟨_, hx, h _ ⟨m, n, rfl, rfl, k⟩⟩
/-- x = xs.pop() -/
theorem s_pop {l : Addr} (ho : Va ta σ H (.ref l)) (hl : H l = some (.lst (xs ++ [v]))) (k : D.nx (σ.set i (some v)) (upd H l (.lst xs))) : tAsg (tBM0 K "list" rPop ta) (gName i) D σ H :=
  ho _ ⟨.inl ⟨rfl, _, SqL.of hl⟩, l, xs ++ [v], v, rfl, rfl, hl, by rw [List.length_append, List.length_singleton, Nat.add_sub_cancel, List.getElem?_append_right (Nat.le_refl _), Nat.sub_self]; rfl, by
    rw [List.dropLast_concat]; exact k⟩
theorem s_popD {l : Addr} (ho : Va ta σ H (.ref l)) (hl : H l = some (.lst (xs ++ [v]))) (k : D.nx σ (upd H l (.lst xs))) : tDrop (tBM0 K "list" rPop ta) D σ H :=
  ho _ ⟨.inl ⟨rfl, _, SqL.of hl⟩, l, xs ++ [v], v, rfl, rfl, hl, by rw [List.length_append, List.length_singleton, Nat.add_sub_cancel, List.getElem?_append_right (Nat.le_refl _), Nat.sub_self]; rfl, by
    rw [List.dropLast_concat]; exact k⟩
/-- {k: v} -/
theorem ex_disp {Q : VK} (hk : Va tb σ H (.int m)) (hv : ∀ H', Same H H' → Va te σ H' v) (hk' : ∀ H', Same H H' → Va tb σ H' (.int m)) (q : ∀ p, H p = none → Q (.ref p) (upd H p (.dK [(.inl m, v)]))) : tDisp [(tb, te)] σ H Q := fun p hp => by
  have s := same_upd (o := HO.dK []) hp
  refine hk' _ s _ (hv _ s _ ⟨upd_same, [(Sum.inl m, v)], rfl, by show 1 ≤ 15; decide, ?_⟩)
  rw [upd_upd]
  exact q p hp
theorem s_ifx {w : TS} (h : t σ H fun b H1 => if b = true then ts D σ H1 else w D σ H1) : tIfS t ts w D σ H := h
theorem q_ifx {w : TS} (h : t σ H fun b H1 => if b = true then ts { D with nx := us D } σ H1 else w { D with nx := us D } σ H1) : tSeq (tIfS t ts w) us D σ H := h
theorem orx {Q : Bool → Hp → Prop} (h : An t σ H false) (k : u σ H Q) : tOr t u σ H Q := h _ (iteF k)
theorem andx {Q : Bool → Hp → Prop} (h : An t σ H true) (k : u σ H Q) : tAnd t u σ H Q := h _ (iteT k)
theorem notcall {sp : Sp} {E : XK} {ta : TA} {vs : List V} {Q : Bool → Hp → Prop} (h : VA ta σ H vs) (k : sp vs H (fun x H1 => ∃ c, x = V.bl c ∧ Q (!c) H1) E) : tNot (tB (tCall sp [] E ta)) σ H Q := ex_call (Q := fun x H1 => ∃ c, x = V.bl c ∧ Q (!c) H1) h k
/-! the same, something behind -/
theorem q_set (h : Va te σ H v) (k : us D (σ.set i (some v)) H) : tSeq (tAsg te (gName i)) us D σ H := sq (s_set h k)
theorem q_asg (h : te σ H fun x H1 => us D (σ.set i (some x)) H1) : tSeq (tAsg te (gName i)) us D σ H := h
theorem q_call {sp : Sp} {E : XK} {ta : TA} {vs : List V} (h : VA ta σ H vs) (k : sp vs H (fun x H1 => us D (σ.set i (some x)) H1) E) : tSeq (tAsg (tCall sp [] E ta) (gName i)) us D σ H := sq (s_call h k)
theorem q_if {w : TS} (h : An t σ H b) (h1 : b = true → ts { D with nx := us D } σ H) (h2 : b = false → w { D with nx := us D } σ H) : tSeq (tIfS t ts w) us D σ H := sq (s_if h h1 h2)
theorem q_ifp {w : TS} {q : Prop} [Decidable q] (h : An t σ H (decide q)) (h1 : q → ts { D with nx := us D } σ H) (h2 : ¬ q → w { D with nx := us D } σ H) : tSeq (tIfS t ts w) us D σ H := sq (s_ifp h h1 h2)
/-- an if without an else -/
theorem q_when {q : Prop} [Decidable q] (h : An t σ H (decide q)) (h1 : q → ts { D with nx := us D } σ H) (h2 : ¬ q → us D σ H) : tSeq (tIfS t ts tNext) us D σ H := sq (s_ifp h h1 h2)
theorem s_when {q : Prop} [Decidable q] (h : An t σ H (decide q)) (h1 : q → ts D σ H) (h2 : ¬ q → D.nx σ H) : tIfS t ts tNext D σ H := s_ifp h h1 h2
theorem q_no (h : An t σ H false) (k : us D σ H) : tSeq (tIfS t ts tNext) us D σ H := sq (s_if h (fun z => nomatch z) fun _ => k)
theorem q_app {l : Addr} (ho : Va ta σ H (.ref l)) (he : Va te σ H v) (hl : H l = some (.lst xs)) (hz : xs.length < 1000000) (k : us D σ (upd H l (.lst (xs ++ [v])))) : tSeq (tDrop (tBM K "list" rAppend ta (tCons te tNil))) us D σ H := sq (s_app ho he hl hz k)
theorem q_setL {l : Addr} {j : Nat} (he : Va te σ H v) (ho : Va ta σ H (.ref l)) (hi : Va tb σ H (vn j)) (hl : H l = some (.lst xs)) (hj : j < xs.length) (k : us D σ (upd H l (.lst (xs.set j v)))) : tSeq (tAsg te (gSub ta tb rSetL)) us D σ H := sq (s_setL he ho hi hl hj k)
theorem q_dput {kvs : List (Key × V)} (he : Va te σ H v) (ho : Va td σ H (.ref d)) (hi : Va ty σ H (.int m)) (hl : kvs.length < 1000000) (hd : H d = some (.dK kvs)) (k : us D σ (upd H d (.dK (putK kvs (.inl m) v)))) : tSeq (sDPut td ty te) us D σ H := sq (s_dput he ho hi hl hd k)
theorem q_pop {l : Addr} (ho : Va ta σ H (.ref l)) (hl : H l = some (.lst (xs ++ [v]))) (k : us D (σ.set i (some v)) (upd H l (.lst xs))) : tSeq (tAsg (tBM0 K "list" rPop ta) (gName i)) us D σ H := sq (s_pop ho hl k)
/-! loops -/
theorem s_while (W : Nat → L2.St → Hp → Prop) (m0 : Nat) (h0 : W m0 σ H)
    (hs : ∀ m σ H, W m σ H → ∃ b, An t σ H b ∧ (b = true → ts { D with nx := fun σ' H' => ∃ m', m' < m ∧ W m' σ' H', ct := fun σ' H' => ∃ m', m' < m ∧ W m' σ' H', bk := D.nx } σ H) ∧ (b = false → D.nx σ H)) : tWhile t ts D σ H := by
  refine ⟨W, ⟨m0, h0⟩, fun m σ H w => ?_⟩
  obtain ⟨b, hb, h1, h2⟩ := hs m σ H w
  refine hb _ ?_
  cases b with
  | true => rw [if_pos rfl]; exact ⟨_, fun _ _ h => h, h1 rfl⟩
  | false => rw [if_neg Bool.false_ne_true]; exact h2 rfl
theorem s_forL {g : TG} (h : Va te σ H (.ref a)) (hx : H a = some (.lst xs)) (Pv : Nat → L2.St → Hp → Prop) (h0 : Pv 0 σ H) (hl : ∀ i σ H, i ≤ xs.length → Pv i σ H → H a = some (.lst xs))
    (hs : ∀ i x σ H, xs[i]? = some x → Pv i σ H → g x σ H fun σ2 H2 => ts { D with nx := Pv (i + 1), ct := Pv (i + 1), bk := D.nx } σ2 H2) (hd : ∀ σ H, Pv xs.length σ H → D.nx σ H) : tFor (iList K te) g ts D σ H :=
  h _ ⟨a, rfl, ⟨_, SqL.of hx⟩, for_list (K := K) (a := a) (xs := xs) Pv h0 (fun i σ H hi p => SqL.of (hl i σ H hi p)) hs hd⟩
theorem s_forLn (h : Va te σ H (.ref a)) (hx : H a = some (.lst xs)) (Pv : Nat → L2.St → Hp → Prop) (h0 : Pv 0 σ H) (hl : ∀ i σ H, i ≤ xs.length → Pv i σ H → H a = some (.lst xs))
    (hs : ∀ j x σ H, xs[j]? = some x → Pv j σ H → ts { D with nx := Pv (j + 1), ct := Pv (j + 1), bk := D.nx } (σ.set i (some x)) H) (hd : ∀ σ H, Pv xs.length σ H → D.nx σ H) : tFor (iList K te) (gName i) ts D σ H := s_forL h hx Pv h0 hl hs hd
theorem s_forR1 {n : Nat} {ta : TA} (h : VA ta σ H [vn n]) (hn : n ≤ 1000000) (Pv : Nat → L2.St → Hp → Prop) (h0 : Pv 0 σ H)
    (hs : ∀ (j : Nat) σ H, j < n → Pv j σ H → ts { D with nx := Pv (j + 1), ct := Pv (j + 1), bk := D.nx } (σ.set i (some (vn j))) H) (hd : ∀ σ H, Pv n σ H → D.nx σ H) : tFor (iRng1 ta) (gName i) ts D σ H :=
  h _ ⟨n, rfl, by omega, by omega, for_range (lo := 0) (n := (n : Int).toNat) Pv h0 (fun j σ H hj p => by
    have e : V.int (0 + (j : Int)) = vn j := by show V.int _ = V.int _; rw [Int.zero_add]
    rw [e]
    exact hs j σ H (by omega) p) (by rw [Int.toNat_natCast]; exact hd)⟩
theorem s_forE {K : PySem.W.Frag} {i1 i2 : Nat} {ta : TA} (h : VA ta σ H [.ref a]) (hx : H a = some (.lst xs)) (Pv : Nat → L2.St → Hp → Prop) (h0 : Pv 0 σ H) (hl : ∀ i σ H, i ≤ xs.length → Pv i σ H → H a = some (.lst xs))
    (hs : ∀ (j : Nat) x σ H H', xs[j]? = some x → Pv j σ H → Same H H' → ts { D with nx := Pv (j + 1), ct := Pv (j + 1), bk := D.nx } ((σ.set i1 (some (vn j))).set i2 (some x)) H') (hd : ∀ σ H, Pv xs.length σ H → D.nx σ H) : tFor (iEnum K ta) (gTup K 2 (gCons (gName i1) (gCons (gName i2) gNil))) ts D σ H :=
  h _ ⟨a, xs, rfl, SqL.of hx, by
    refine ⟨fun i m σ H => m = xs.length - i ∧ i ≤ xs.length ∧ Pv i σ H, ⟨xs.length, rfl, Nat.zero_le _, h0⟩, ?_⟩
    rintro i m σ H ⟨rfl, hi, p⟩
    have q := hl i σ H hi p
    by_cases hlt : i < xs.length
    · have hxi : xs[i]? = some xs[i] := List.getElem?_eq_getElem hlt
      refine .inr ⟨⟨xs, _, SqL.of q, hxi⟩, Pv (i + 1), fun σ' H' p' => ⟨xs.length - (i + 1), by omega, rfl, hlt, p'⟩, fun v H' y => ?_⟩
      obtain ⟨T, x', rfl, hT, rfl, f1⟩ := y
      exact ⟨T, [.int (i : Nat), x'], rfl, SqT.of upd_same, rfl, _, _, rfl, _, _, rfl, rfl, hs i x' σ H _ (f1 xs (SqL.of q)) p (same_upd hT)⟩
    · have e : i = xs.length := by omega
      subst e
      exact .inl ⟨⟨xs, SqL.of q, Nat.le_refl _⟩, hd σ H p⟩⟩
/-- for k in d, for v in d.values(): under the lock the dict can't be read, and is as it was behind -/
theorem s_forK {kvs : List (Key × V)} (h : ∀ H, Va te σ H (.ref d)) (hd0 : H d = some (.dK kvs)) (Pv : Nat → L2.St → Hp → Prop) (h0 : Pv 0 σ H)
    (hl : ∀ i σ H, i ≤ kvs.length → Pv i σ H → H d = some (.dK kvs))
    (hs : ∀ (j : Nat) k v σ H, kvs[j]? = some (k, v) → Pv j σ H → ∀ od, ts { nx := fun σ' H' => H' d = some (.frz od (.dK kvs)) ∧ Pv (j + 1) σ' (upd H' d (.dK kvs)), rt := fun v H' => H' d = some (.frz od (.dK kvs)) ∧ D.rt v (upd H' d (.dK kvs)), ct := fun σ' H' => H' d = some (.frz od (.dK kvs)) ∧ Pv (j + 1) σ' (upd H' d (.dK kvs)), bk := fun σ' H' => H' d = some (.frz od (.dK kvs)) ∧ D.nx σ' (upd H' d (.dK kvs)) } (σ.set i (some (kV k))) (upd H d (.frz od (.dK kvs))))
    (hd : ∀ σ H, Pv kvs.length σ H → D.nx σ H) : tLock (tFor (iKeys te) (gName i) ts) D σ H := by
  refine ⟨d, .dK kvs, hd0, trivial, fun od => ?_⟩
  refine h _ _ ⟨d, od, rfl, .inl ⟨kvs, upd_same, ?_⟩⟩
  refine ⟨fun i m σ H => m = kvs.length - i ∧ i ≤ kvs.length ∧ H d = some (.frz od (.dK kvs)) ∧ Pv i σ (upd H d (.dK kvs)), ⟨kvs.length, rfl, Nat.zero_le _, upd_same, ?_⟩, ?_⟩
  · rw [upd_upd]
    have e : upd H d (.dK kvs) = H := by
      funext b
      by_cases z : b = d
      · subst z; rw [upd_same, hd0]
      · rw [upd_ne z]
    rw [e]
    exact h0
  rintro i m σ H ⟨rfl, hi, q, p⟩
  by_cases hlt : i < kvs.length
  · refine .inr ⟨⟨q, hlt⟩, fun σ' H' => H' d = some (.frz od (.dK kvs)) ∧ Pv (i + 1) σ' (upd H' d (.dK kvs)), fun σ' H' p' => ⟨kvs.length - (i + 1), by omega, rfl, hlt, p'⟩, fun v H' y => ?_⟩
    obtain ⟨rfl, k, v, e, rfl⟩ := y
    have := hs i k v σ (upd H' d (.dK kvs)) e p od
    rw [upd_upd] at this
    have e2 : upd H' d (.frz od (.dK kvs)) = H' := by
      funext b
      by_cases z : b = d
      · subst z; rw [upd_same, q]
      · rw [upd_ne z]
    rw [e2] at this
    exact this
  · have e : i = kvs.length := by omega
    subst e
    exact .inl ⟨⟨q, Nat.le_refl _⟩, q, hd σ _ p⟩
theorem s_forV {kvs : List (Key × V)} (h : ∀ H, Va te σ H (.ref d)) (hd0 : H d = some (.dK kvs)) (Pv : Nat → L2.St → Hp → Prop) (h0 : Pv 0 σ H)
    (hs : ∀ (j : Nat) k v σ H, kvs[j]? = some (k, v) → Pv j σ H → ∀ od, ts { nx := fun σ' H' => H' d = some (.frz od (.dK kvs)) ∧ Pv (j + 1) σ' (upd H' d (.dK kvs)), rt := fun v H' => H' d = some (.frz od (.dK kvs)) ∧ D.rt v (upd H' d (.dK kvs)), ct := fun σ' H' => H' d = some (.frz od (.dK kvs)) ∧ Pv (j + 1) σ' (upd H' d (.dK kvs)), bk := fun σ' H' => H' d = some (.frz od (.dK kvs)) ∧ D.nx σ' (upd H' d (.dK kvs)) } (σ.set i (some v)) (upd H d (.frz od (.dK kvs))))
    (hd : ∀ σ H, Pv kvs.length σ H → D.nx σ H) : tLock (tFor (iVals te) (gName i) ts) D σ H := by
  refine ⟨d, .dK kvs, hd0, trivial, fun od => ?_⟩
  refine h _ _ ⟨d, od, kvs, rfl, upd_same, ?_⟩
  refine ⟨fun i m σ H => m = kvs.length - i ∧ i ≤ kvs.length ∧ H d = some (.frz od (.dK kvs)) ∧ Pv i σ (upd H d (.dK kvs)), ⟨kvs.length, rfl, Nat.zero_le _, upd_same, ?_⟩, ?_⟩
  · rw [upd_upd]
    have e : upd H d (.dK kvs) = H := by
      funext b
      by_cases z : b = d
      · subst z; rw [upd_same, hd0]
      · rw [upd_ne z]
    rw [e]
    exact h0
  rintro i m σ H ⟨rfl, hi, q, p⟩
  by_cases hlt : i < kvs.length
  · refine .inr ⟨⟨q, hlt⟩, fun σ' H' => H' d = some (.frz od (.dK kvs)) ∧ Pv (i + 1) σ' (upd H' d (.dK kvs)), fun σ' H' p' => ⟨kvs.length - (i + 1), by omega, rfl, hlt, p'⟩, fun v H' y => ?_⟩
    obtain ⟨rfl, k, e⟩ := y
    have := hs i k v σ (upd H' d (.dK kvs)) e p od
    rw [upd_upd] at this
    have e2 : upd H' d (.frz od (.dK kvs)) = H' := by
      funext b
      by_cases z : b = d
      · subst z; rw [upd_same, q]
      · rw [upd_ne z]
    rw [e2] at this
    exact this
  · have e : i = kvs.length := by omega
    subst e
    exact .inl ⟨⟨q, Nat.le_refl _⟩, q, hd σ _ p⟩
/-! comprehensions whose elements are made without objects -/
theorem ex_lc {Q : VK} {tl : TE} {vs : List Nat} {ys : List V} (h : Va tl σ H (.ref a)) (hx : H a = some (.lst xs)) (hw : ∀ x, wipe ((wipe σ vs).set i (some x)) vs = wipe σ vs) (hy : ys.length = xs.length) (hz : xs.length ≤ 1000000)
    (he : ∀ (j : Nat) x y H', xs[j]? = some x → ys[j]? = some y → Same H H' → Va te ((wipe σ vs).set i (some x)) H' y) (q : ∀ p, H p = none → Q (.ref p) (upd H p (.lst ys))) : tLc (iList K tl) (gName i) tYes te vs σ H Q := by
  refine h _ ⟨a, rfl, ⟨_, SqL.of hx⟩, fun p hp => ?_⟩
  have npa : a ≠ p := ne_of_none hx hp
  refine lc_list (xs := xs) (fun j H' => H' = upd H p (.lst (ys.take j))) rfl (fun j H' _ e => by rw [e]; exact SqL.of ((upd_ne npa).trans hx)) (fun j x H' hj e => ⟨hw x, ?_⟩) (fun H' e => ?_)
  · subst e
    have hj' : j < ys.length := by
      rw [hy]; exact (List.getElem?_eq_some_iff.mp hj).1
    have ej : ys[j]? = some ys[j] := List.getElem?_eq_getElem hj'
    simp only [tYes, if_true]
    refine he j x _ _ hj ej (same_upd hp) _ ⟨_, upd_same, ?_, ?_⟩
    · rw [sizeLine_eq, List.length_take]
      omega
    · rw [upd_upd, List.take_add_one, ej]
      rfl
  · subst e
    rw [List.take_of_length_le (by omega)]
    exact q p hp
/-- elements that are new lists of nats -/
theorem ex_lcO {Q : VK} {tl : TE} {vs : List Nat} {ys : List (List Nat)} (h : Va tl σ H (.ref a)) (hx : H a = some (.lst xs)) (hw : ∀ x, wipe ((wipe σ vs).set i (some x)) vs = wipe σ vs) (hy : ys.length = xs.length) (hz : xs.length ≤ 1000000)
    (he : ∀ (j : Nat) x y H', xs[j]? = some x → ys[j]? = some y → Same H H' → ∀ Q : VK, (∀ H2 r, Same H' H2 → H' r = none → LI H2 r y → Q (.ref r) H2) → te ((wipe σ vs).set i (some x)) H' Q) (q : ∀ H2 p, Same H H2 → H p = none → LR H2 p ys → Q (.ref p) H2) : tLc (iList K tl) (gName i) tYes te vs σ H Q := by
  refine h _ ⟨a, rfl, ⟨_, SqL.of hx⟩, fun p hp => ?_⟩
  have npa : a ≠ p := ne_of_none hx hp
  refine lc_list (xs := xs) (fun j H' => Same H H' ∧ ∃ rs : List Addr, H' p = some (.lst (rs.map V.ref)) ∧ LX H' rs (ys.take j)) ⟨same_upd hp, [], upd_same, LX.nil⟩ (fun j H' _ e => SqL.of (e.1 _ _ hx)) (fun j x H' hj e => ⟨hw x, ?_⟩) (fun H' e => ?_)
  · obtain ⟨sm, rs, hp', hX⟩ := e
    have hj' : j < ys.length := by
      rw [hy]; exact (List.getElem?_eq_some_iff.mp hj).1
    have ej : ys[j]? = some ys[j] := List.getElem?_eq_getElem hj'
    simp only [tYes, if_true]
    refine he j x _ _ hj ej sm _ fun H2 r s2 nr hr => ⟨_, s2 _ _ hp', ?_, ?_, rs ++ [r], ?_, ?_⟩
    · have := hX.1
      rw [List.length_take] at this
      rw [sizeLine_eq, List.length_map]
      omega
    · exact same_mut (sm.trans s2) hp
    · rw [upd_same, ref_snoc]
    · rw [List.take_add_one, ej]
      have npr : ∀ (j : Nat) (r' : Addr) (w : List Nat), LI H2 r' w → r' ≠ p → LI (upd H2 p (.lst (rs.map V.ref ++ [.ref r]))) r' w := fun j r' w hh hn => (upd_ne hn).trans hh
      have hrp : r ≠ p := fun z => by rw [z, hp'] at nr; cases nr
      have hX2 : LX (upd H2 p (.lst (rs.map V.ref ++ [.ref r]))) rs (ys.take j) := ⟨hX.1, fun k r' w e1 e2 => npr k r' w (s2 _ _ (hX.2 k r' w e1 e2)) fun z => by
        have := hX.2 k r' w e1 e2
        rw [z] at this
        have := HO.lst.inj (Option.some.inj (hp'.symm.trans this))
        cases rs with
        | nil => simp at e1
        | cons r0 rr =>
          cases w with
          | nil => simp at this
          | cons w0 wr => simp [vn] at this⟩
      exact hX2.snoc (npr 0 r _ hr hrp)
  · obtain ⟨sm, rs, hp', hX⟩ := e
    rw [List.take_of_length_le (by omega)] at hX
    exact q H' p sm hp ⟨rs, hp', hX⟩
theorem ex_lcR {Q : VK} {ta : TA} {vs : List Nat} {n : Nat} {ys : List V} (h : VA ta σ H [vn n]) (hn : n ≤ 1000000) (hw : ∀ x, wipe ((wipe σ vs).set i (some x)) vs = wipe σ vs) (hy : ys.length = n)
    (he : ∀ (j : Nat) y H', ys[j]? = some y → Same H H' → Va te ((wipe σ vs).set i (some (vn j))) H' y) (q : ∀ p, H p = none → Q (.ref p) (upd H p (.lst ys))) : tLc (iRng1 ta) (gName i) tYes te vs σ H Q := by
  refine h _ ⟨n, rfl, by omega, by omega, fun p hp => ?_⟩
  refine lc_range (lo := 0) (n := (n : Int).toNat) (fun j H' => H' = upd H p (.lst (ys.take j))) rfl (fun j H' hj e => ?_) (fun H' e => ?_)
  · have e0 : V.int (0 + (j : Int)) = vn j := by show V.int _ = V.int _; rw [Int.zero_add]
    rw [e0]
    refine ⟨hw _, ?_⟩
    subst e
    have hj' : j < ys.length := by omega
    have ej : ys[j]? = some ys[j] := List.getElem?_eq_getElem hj'
    simp only [tYes, if_true]
    refine he j _ _ ej (same_upd hp) _ ⟨_, upd_same, ?_, ?_⟩
    · rw [sizeLine_eq, List.length_take]
      omega
    · rw [upd_upd, List.take_add_one, ej]
      rfl
  · subst e
    rw [List.take_of_length_le (by omega)]
    exact q p hp
end
/-! ### rules within a comprehension: the part K by its name -/
section
variable {X : Cx} {K : PySem.W.Frag}
theorem ix_listK (h : X.K = K) : IxR X (rIxL K) := h ▸ ix_list
theorem call_len_seqK (h : X.K = K) : CallR X (.builtin "len") (fun xs H Q => ∃ p ys, xs = [V.ref p] ∧ (SqL K H p ys ∨ SqT K H p ys) ∧ Q (.int ys.length) H) := h ▸ call_len_seq
theorem call_list_ofK (h : X.K = K) : CallR X (.type "list") (fun xs H Q => ∃ p ys, xs = [V.ref p] ∧ (SqL K H p ys ∨ SqT K H p ys) ∧ ∀ l, H l = none → Q (.ref l) (upd H l (.lst ys))) := h ▸ call_list_of
theorem op_in_seqK (h : X.K = K) : OpR X (compareOp .In) (rIn K false) := h ▸ op_in_seq
theorem pe_revLK {e : Expr} {te : TE} {k : Nat} {p1 p2 p3 pos : Pos} (h : X.K = K) (he : PE X e te) : PE X (.Subscript e (.Slice none none (some (.UnaryOp .USub (.Constant (.int 1) k p1) p2)) p3) pos) (tRevL K te) := h ▸ pe_revL he
theorem pi_listK {tg l : Expr} {tl : TE} (h : X.K = K) (hl : PE X l tl) : PI X tg l (iList K tl) := h ▸ pi_list hl
end
/-! ### two rules -/
section
variable {X : Cx}
/-- xs[i], by values -/
def rGetL (K : PySem.W.Frag) : V → V → Hp → VK → Prop := fun x y H Q => ∃ p xs j v, x = .ref p ∧ y = vn j ∧ H p = some (.lst xs) ∧ xs[j]? = some v ∧ Q v H
theorem get_list : PGet X (rGetL X.K) := by
  intro pins s σ H o i ov iv Q I rx ry h
  obtain ⟨p, xs, j, z, rfl, rfl, hq, he, q⟩ := h
  cases rx
  obtain ⟨t, rfl⟩ := ry
  obtain ⟨its, r, pl, hz⟩ := I.list (SqL.of (K := X.K) hq)
  obtain ⟨w, ew, rw'⟩ := r.get he
  have hn := line63
  have hj : j < xs.length := (List.getElem?_eq_some_iff.mp he).1
  have fin : EP X pins σ Q w s := ⟨z, H, I, rw', q⟩
  exact wpAny_getItem_list (x := w) pl.isList (by omega) (by omega) (by rw [Int.toNat_natCast]; simpa using ew) fin
/-- sorted(d), d a dict of int keys, of any number -/
theorem call_sortedDA (hcalm : X.calm = true) : CallR X (.builtin "sorted") (fun xs H Q => ∃ (a : Addr) (kvs : List (Key × V)) (ks : List Int), xs = [.ref a] ∧ H a = some (.dK kvs) ∧ kvs.map (·.1) = ks.map Sum.inl ∧
    ∀ (ys : List Int) (p : Addr), ys.Perm ks → ys.Pairwise (· ≤ ·) → H p = none → Q (.ref p) (upd H p (.lst (ys.map V.int)))) := by
  intro pins s σ H xs us Q I r q
  obtain ⟨a, kvs, ks, ex, hd, hks, q⟩ := q
  subst ex
  obtain ⟨u, eu, rx⟩ := vals1 r
  subst eu
  cases rx
  obtain ⟨z, lo, vs, rel, dd⟩ := dk_rd I.hok (.inl hd)
  obtain ⟨ep, hat⟩ := dd.dictAt
  have hkeys : vs.map (·.1) = ks.map Sum.inl := rel.keys.symm.trans hks
  have hl : vs.length = ks.length := by
    have e := congrArg List.length hkeys
    rw [List.length_map, List.length_map] at e
    exact e
  have h16 : vs.length ≤ sizeLine := by rw [← rel.length]; exact z
  refine Calls.call_function_entry PyProof.Rows.kind_sorted PyProof.Rows.plain_sorted PyProof.Rows.entry_sorted (PyProof.Rows.args_sorted1 _) ?_
  unfold Builtin.«sorted»
  refine wpAny_bind (m := checkCount "sorted" 1 1 _) (wpAny_pure ?_)
  refine wpAny_bind (PySem.W.kdu_collect (A := X.A.in1) (PySem.W.kdl_dict (knd := mixKind X.prog X.w) (kvs := vs) (ep := ep) lo) (I.ok.hd hcalm) hat h16 fun h' tk acc hk hacc => ?_)
  have hal : acc.toList.length = ks.length := by rw [Array.length_toList, hacc.1, hl]
  have hS : IntsAre acc.toList ks := ints_each hal fun j v e => by
    obtain ⟨k, x, e1, e2⟩ := hacc.2 j v (by rw [← Array.getElem?_toList]; exact e)
    have e3 : (vs.map (·.1))[j]? = some k := by rw [List.getElem?_map, e1]; rfl
    rw [hkeys, List.getElem?_map] at e3
    cases e4 : ks[j]? with
    | none => rw [e4] at e3; cases e3
    | some y =>
      rw [e4] at e3
      have e5 : Sum.inl y = k := Option.some.inj e3
      subst e5
      rcases keyIs_shape (show keyIs (Sum.inl y) v = true from e2) with ⟨i, t, ek, ev⟩ | ⟨z, t, ek, ev⟩
      · cases ek
        exact ⟨y, t, rfl, ev⟩
      · cases ek
  have I1 : Inv X pins σ H { s with heap := h', toks := tk } := I.kept hk
  have hz2 : acc.toList.length ≤ sizeLine := by rw [hal, ← hl]; exact h16
  refine wpAny_bind (wpAny_newList ?_ hz2)
  have hoL : (h'.push (seqObj "list" acc.toList.toArray 0)).get? h'.objs.size = some (seqObj "list" acc.toList.toArray 0) := Heap.get?_push_size _ rfl
  show wpAny _ _ _ _ _ { s with heap := h'.push (seqObj "list" acc.toList.toArray 0), toks := tk }
  refine wpAny_bind (wpAny_holding (wpAny_call_entry PyProof.Rows.slot_list_sort ⟨_, hoL, rfl⟩ PyProof.Rows.entry_list_sort
    (SrtO.list_sort_ord SrtO.swo_int (s := { s with heap := h'.push (seqObj "list" acc.toList.toArray 0), toks := tk }) hoL hz2 (fun h2 => SrtO.ints_sortable hS h2) fun out g1 g2 => ⟨_, rfl, ?_⟩) (PyProof.Rows.args_list_sort _)))
  obtain ⟨k1, k2, k3⟩ := SrtO.ints_out hS g1 g2
  obtain ⟨e', he'⟩ := PyProof.Rows.sortedHeap_at (vs := acc.toList) (out := out.toArray) hoL
  have hlen : ((out.map SrtO.iv).map V.int).length ≤ sizeLine := by
    rw [List.length_map, k2.length_eq, ← hal]
    exact hz2
  refine wpAny_pure ⟨_, rfl, .ref h'.objs.size, upd H h'.objs.size (.lst ((out.map SrtO.iv).map V.int)), I1.laid (t' := tk) (fun b u e => ?_) (Nat.le_refl _)
    (show ObjOk X.prog X.w _ _ _ (.lst ((out.map SrtO.iv).map V.int)) from ⟨hlen, out, e', vals_of_ints k1, he'⟩), rfl, q _ _ k2 k3 (I1.hok.fresh (Nat.le_refl _))⟩
  have hb : b < h'.objs.size := Heap.lt_size e
  rw [PyProof.Rows.sortedHeap_old (Nat.ne_of_lt hb) (by rw [size_push']; exact Nat.lt_succ_of_lt hb)]
  exact Heap.get?_push_of_some _ e
end
end RF
namespace RF
/-! ### plain: drawings -/
def mate (e : Nat) : Nat := e + 1 - 2 * (e % 2)
def seat (D : List (List Nat)) (x : Nat) : Nat := D.findIdx (fun r => decide (x ∈ r))
def seatL (D : List (List Nat)) : List Nat := (List.range D.flatten.length).map (seat D)
def nxt (r : List Nat) (x : Nat) : Nat := r.getD ((r.idxOf x + 1) % r.length) 0
def row (D : List (List Nat)) (p : Nat) : List Nat := D.getD p []
def behind (D : List (List Nat)) (x : Nat) : Nat := nxt (row D (seat D x)) x
def behL (D : List (List Nat)) : List Nat := (List.range D.flatten.length).map (behind D)
/-- every end below 2 m just once -/
structure Dr (D : List (List Nat)) (m : Nat) : Prop where
  nd : D.flatten.Nodup
  mem : ∀ x, x ∈ D.flatten ↔ x < 2 * m
theorem mate_lt {e m : Nat} (h : e < 2 * m) : mate e < 2 * m := by unfold mate; omega
theorem mate_mate (e : Nat) : mate (mate e) = e := by unfold mate; omega
theorem mate_ne (e : Nat) : mate e ≠ e := by unfold mate; omega
theorem mate_half (e : Nat) : mate e / 2 = e / 2 := by unfold mate; omega
theorem half_eq {a b : Nat} (h : a / 2 = b / 2) : a = b ∨ a = mate b := by unfold mate; omega
theorem mate_inj {a b : Nat} (h : mate a = mate b) : a = b := by
  rw [← mate_mate a, h, mate_mate]
theorem nodup_sub_len : ∀ {l₁ l₂ : List Nat}, l₁.Nodup → (∀ x ∈ l₁, x ∈ l₂) → l₁.length ≤ l₂.length
  | [], _, _, _ => Nat.zero_le _
  | a :: r, l₂, nd, h => by
    obtain ⟨h1, h2⟩ := List.nodup_cons.mp nd
    have ha : a ∈ l₂ := h a List.mem_cons_self
    have := nodup_sub_len (l₂ := l₂.erase a) h2 fun x hx => by
      have hx2 := h x (List.mem_cons_of_mem _ hx)
      exact (List.mem_erase_of_ne (fun e => h1 (by rw [← e]; exact hx))).mpr hx2
    rw [List.length_erase_of_mem ha] at this
    have hpos : 0 < l₂.length := List.length_pos_of_mem ha
    rw [List.length_cons]
    omega
theorem Dr.len {D : List (List Nat)} {m : Nat} (h : Dr D m) : D.flatten.length = 2 * m := by
  apply Nat.le_antisymm
  · have := nodup_sub_len (l₂ := List.range (2 * m)) h.nd fun x hx => List.mem_range.mpr ((h.mem x).mp hx)
    rw [List.length_range] at this
    exact this
  · have := nodup_sub_len (l₁ := List.range (2 * m)) (l₂ := D.flatten) List.nodup_range fun x hx => (h.mem x).mpr (List.mem_range.mp hx)
    rw [List.length_range] at this
    exact this
theorem mem_flat {D : List (List Nat)} {x : Nat} : x ∈ D.flatten ↔ ∃ (i : Nat) (r : List Nat), D[i]? = some r ∧ x ∈ r := by
  rw [List.mem_flatten]
  constructor
  · rintro ⟨r, hr, hx⟩
    obtain ⟨i, hi⟩ := List.getElem?_of_mem hr
    exact ⟨i, r, hi, hx⟩
  · rintro ⟨i, r, hi, hx⟩
    exact ⟨r, List.mem_of_getElem? hi, hx⟩
/-- in a list of lists without doubles no number stands in two -/
theorem flat_uniq : ∀ {D : List (List Nat)} {x i j : Nat} {r q : List Nat}, D.flatten.Nodup → D[i]? = some r → x ∈ r → D[j]? = some q → x ∈ q → i = j
  | [], _, _, _, _, _, _, h, _, _, _ => by simp at h
  | a :: D, x, 0, 0, r, q, _, _, _, _, _ => rfl
  | a :: D, x, 0, j + 1, r, q, nd, h1, h2, h3, h4 => by
    rw [List.flatten_cons, List.nodup_append] at nd
    cases Option.some.inj h1
    exact absurd rfl (nd.2.2 x h2 x (mem_flat.mpr ⟨j, q, h3, h4⟩))
  | a :: D, x, i + 1, 0, r, q, nd, h1, h2, h3, h4 => by
    rw [List.flatten_cons, List.nodup_append] at nd
    cases Option.some.inj h3
    exact absurd rfl (nd.2.2 x h4 x (mem_flat.mpr ⟨i, r, h1, h2⟩))
  | a :: D, x, i + 1, j + 1, r, q, nd, h1, h2, h3, h4 => by
    rw [List.flatten_cons, List.nodup_append] at nd
    rw [flat_uniq (D := D) nd.2.1 h1 h2 h3 h4]
theorem row_nodup : ∀ {D : List (List Nat)} {i : Nat} {r : List Nat}, D.flatten.Nodup → D[i]? = some r → r.Nodup
  | [], _, _, _, h => by simp at h
  | a :: D, 0, r, nd, h => by
    rw [List.flatten_cons, List.nodup_append] at nd
    cases Option.some.inj h
    exact nd.1
  | a :: D, i + 1, r, nd, h => by
    rw [List.flatten_cons, List.nodup_append] at nd
    exact row_nodup (D := D) nd.2.1 h
theorem seat_at {D : List (List Nat)} {x i : Nat} {r : List Nat} (nd : D.flatten.Nodup) (h : D[i]? = some r) (hx : x ∈ r) : seat D x = i := by
  have hi : i < D.length := (List.getElem?_eq_some_iff.mp h).1
  have hr : D[i] = r := (List.getElem?_eq_some_iff.mp h).2
  unfold seat
  have hlt : D.findIdx (fun r => decide (x ∈ r)) < D.length := List.findIdx_lt_length_of_exists ⟨r, List.mem_of_getElem? h, decide_eq_true hx⟩
  have hp := List.findIdx_getElem (p := fun r => decide (x ∈ r)) (w := hlt)
  exact flat_uniq nd (List.getElem?_eq_getElem hlt) (of_decide_eq_true hp) h hx
theorem seat_row {D : List (List Nat)} {m x : Nat} (h : Dr D m) (hx : x < 2 * m) : ∃ r, D[seat D x]? = some r ∧ x ∈ r := by
  obtain ⟨i, r, h1, h2⟩ := mem_flat.mp ((h.mem x).mpr hx)
  exact ⟨r, by rw [seat_at h.nd h1 h2]; exact h1, h2⟩
theorem seat_lt {D : List (List Nat)} {m x : Nat} (h : Dr D m) (hx : x < 2 * m) : seat D x < D.length := by
  obtain ⟨r, h1, _⟩ := seat_row h hx
  exact (List.getElem?_eq_some_iff.mp h1).1
theorem row_of {D : List (List Nat)} {i : Nat} {r : List Nat} (h : D[i]? = some r) : row D i = r := by
  unfold row
  rw [List.getD_eq_getElem?_getD, h]; rfl
theorem mem_row {D : List (List Nat)} {m x : Nat} (h : Dr D m) (hx : x < 2 * m) : x ∈ row D (seat D x) := by
  obtain ⟨r, h1, h2⟩ := seat_row h hx
  rw [row_of h1]; exact h2
theorem row_get {D : List (List Nat)} {p : Nat} (h : p < D.length) : D[p]? = some (row D p) := by
  rw [List.getElem?_eq_getElem h, row_of (List.getElem?_eq_getElem h)]
theorem row_mem_lt {D : List (List Nat)} {p x : Nat} (hx : x ∈ row D p) : p < D.length := by
  apply Classical.byContradiction
  intro h
  unfold row at hx
  rw [List.getD_eq_getElem?_getD, List.getElem?_eq_none (by omega)] at hx
  cases hx
theorem row_end {D : List (List Nat)} {m p x : Nat} (h : Dr D m) (hx : x ∈ row D p) : x < 2 * m ∧ seat D x = p := by
  have hp := row_get (row_mem_lt hx)
  exact ⟨(h.mem x).mp (mem_flat.mpr ⟨p, _, hp, hx⟩), seat_at h.nd hp hx⟩
theorem mem_row_iff {D : List (List Nat)} {m p x : Nat} (h : Dr D m) : x ∈ row D p ↔ x < 2 * m ∧ seat D x = p := by
  constructor
  · exact row_end h
  · rintro ⟨h1, rfl⟩
    exact mem_row h h1
theorem seatL_get {D : List (List Nat)} {m x : Nat} (h : Dr D m) (hx : x < 2 * m) : (seatL D)[x]? = some (seat D x) := by
  unfold seatL
  rw [List.getElem?_map, List.getElem?_range (by rw [h.len]; exact hx)]; rfl
theorem behL_get {D : List (List Nat)} {m x : Nat} (h : Dr D m) (hx : x < 2 * m) : (behL D)[x]? = some (behind D x) := by
  unfold behL
  rw [List.getElem?_map, List.getElem?_range (by rw [h.len]; exact hx)]; rfl
theorem seatL_len {D : List (List Nat)} {m : Nat} (h : Dr D m) : (seatL D).length = 2 * m := by
  unfold seatL
  rw [List.length_map, List.length_range, h.len]
theorem behL_len {D : List (List Nat)} {m : Nat} (h : Dr D m) : (behL D).length = 2 * m := by
  unfold behL
  rw [List.length_map, List.length_range, h.len]
theorem nxt_mem {r : List Nat} {x : Nat} (h : x ∈ r) : nxt r x ∈ r := by
  unfold nxt
  have hp : 0 < r.length := List.length_pos_of_mem h
  have hl : (r.idxOf x + 1) % r.length < r.length := Nat.mod_lt _ hp
  rw [List.getD_eq_getElem?_getD, List.getElem?_eq_getElem hl]
  exact List.getElem_mem hl
theorem behind_lt {D : List (List Nat)} {m x : Nat} (h : Dr D m) (hx : x < 2 * m) : behind D x < 2 * m := (row_end h (nxt_mem (mem_row h hx))).1
theorem seat_behind {D : List (List Nat)} {m x : Nat} (h : Dr D m) (hx : x < 2 * m) : seat D (behind D x) = seat D x := (row_end h (nxt_mem (mem_row h hx))).2
theorem idxOf_get {r : List Nat} {j x : Nat} (nd : r.Nodup) (h : r[j]? = some x) : r.idxOf x = j := by
  have hj := (List.getElem?_eq_some_iff.mp h).1
  have e := (List.getElem?_eq_some_iff.mp h).2
  rw [← e]
  exact nd.idxOf_getElem j hj
theorem nxt_get {r : List Nat} {j x : Nat} (nd : r.Nodup) (h : r[j]? = some x) : r[(j + 1) % r.length]? = some (nxt r x) := by
  have hj := (List.getElem?_eq_some_iff.mp h).1
  have hl : (j + 1) % r.length < r.length := Nat.mod_lt _ (by omega)
  unfold nxt
  rw [idxOf_get nd h, List.getD_eq_getElem?_getD, List.getElem?_eq_getElem hl]; rfl
theorem set_range {N k v : Nat} (f : Nat → Nat) : ((List.range N).map f).set k v = (List.range N).map (fun x => if x = k then v else f x) := by
  apply List.ext_getElem?
  intro i
  rw [List.getElem?_set]
  by_cases hi : i < N
  · rw [List.getElem?_map, List.getElem?_range hi, List.getElem?_map, List.getElem?_range hi]
    by_cases e : k = i
    · subst e
      rw [if_pos rfl, if_pos (by rw [List.length_map, List.length_range]; exact hi)]
      simp
    · rw [if_neg e]
      simp [Ne.symm e]
  · rw [List.getElem?_eq_none (l := (List.range N).map f) (by rw [List.length_map, List.length_range]; omega), List.getElem?_eq_none (l := (List.range N).map _) (by rw [List.length_map, List.length_range]; omega), List.length_map, List.length_range]
    split
    · rw [if_neg (by omega)]
    · rfl
theorem map_range_congr {N : Nat} {f g : Nat → Nat} (h : ∀ x, x < N → f x = g x) : (List.range N).map f = (List.range N).map g :=
  List.map_congr_left fun x hx => h x (List.mem_range.mp hx)
theorem replicate_range (n v : Nat) : List.replicate n v = (List.range n).map fun _ => v := by
  apply List.ext_getElem?
  intro i
  rw [List.getElem?_replicate, List.getElem?_map]
  by_cases h : i < n
  · rw [if_pos h, List.getElem?_range h]; rfl
  · rw [if_neg h, List.getElem?_eq_none (by rw [List.length_range]; omega)]; rfl
theorem take_succ_get {α : Type} {l : List α} {i : Nat} {x : α} (h : l[i]? = some x) : l.take (i + 1) = l.take i ++ [x] := by
  rw [List.take_add_one, h]; rfl
/-! walks and rounds -/
def IsWalk (D : List (List Nat)) (m : Nat) (w : List Nat) : Prop := (∀ e ∈ w, e < 2 * m) ∧ ∀ i, i < w.length → seat D (mate (w.getD ((i + (w.length - 1)) % w.length) 0)) = seat D (w.getD i 0)
structure IsRound (D : List (List Nat)) (m : Nat) (w : List Nat) : Prop where
  walk : IsWalk D m w
  ne : w ≠ []
  places : (w.map (seat D)).Nodup
  ties : (w.map (· / 2)).Nodup
end RF
namespace RF
/-! ### plain: the cut drawing -/
def prv (w : List Nat) (i : Nat) : Nat := w.getD ((i + (w.length - 1)) % w.length) 0
def ringAt (D : List (List Nat)) (w : List Nat) (i : Nat) : List Nat := (row D (seat D (w.getD i 0))).drop ((row D (seat D (w.getD i 0))).idxOf (mate (prv w i))) ++ (row D (seat D (w.getD i 0))).take ((row D (seat D (w.getD i 0))).idxOf (mate (prv w i)))
def cutIx (D : List (List Nat)) (w : List Nat) (i : Nat) : Nat := (ringAt D w i).idxOf (w.getD i 0)
def cutL (D : List (List Nat)) (w : List Nat) (i : Nat) : List Nat := (ringAt D w i).take (cutIx D w i + 1)
def cutR (D : List (List Nat)) (m : Nat) (w : List Nat) (i : Nat) : List Nat := [2 * m + 2 * i] ++ (ringAt D w i).drop (cutIx D w i + 1) ++ [2 * m + 2 * ((i + (w.length - 1)) % w.length) + 1]
/-- cut as far as the j-th end -/
structure CutJ (D : List (List Nat)) (m : Nat) (w : List Nat) (j : Nat) (R : List (List Nat)) : Prop where
  len : R.length = D.length + j
  old : ∀ p, p < D.length → (∀ i, i < j → seat D (w.getD i 0) ≠ p) → R[p]? = some (row D p)
  left : ∀ i, i < j → ∃ l, R[seat D (w.getD i 0)]? = some l ∧ l.Perm (cutL D w i)
  right : ∀ i, i < j → ∃ l, R[D.length + i]? = some l ∧ l.Perm (cutR D m w i)
theorem getD_get {w : List Nat} {i e : Nat} (h : w[i]? = some e) : w.getD i 0 = e := by
  rw [List.getD_eq_getElem?_getD, h]; rfl
theorem get_getD {w : List Nat} {i : Nat} (h : i < w.length) : w[i]? = some (w.getD i 0) := by
  rw [List.getElem?_eq_getElem h, getD_get (List.getElem?_eq_getElem h)]
theorem prv_mem {w : List Nat} {i : Nat} (h : i < w.length) : prv w i ∈ w := by
  have hl : (i + (w.length - 1)) % w.length < w.length := Nat.mod_lt _ (by omega)
  unfold prv
  rw [getD_get (List.getElem?_eq_getElem hl)]
  exact List.getElem_mem hl
theorem rot_perm (l : List Nat) (k : Nat) : (l.drop k ++ l.take k).Perm l := by
  have := List.perm_append_comm (l₁ := l.drop k) (l₂ := l.take k)
  rw [List.take_append_drop] at this
  exact this
theorem IsRound.lt {D : List (List Nat)} {m : Nat} {w : List Nat} (h : IsRound D m w) {i : Nat} (hi : i < w.length) : w.getD i 0 < 2 * m := h.walk.1 _ (List.mem_of_getElem? (get_getD hi))
theorem IsRound.plt {D : List (List Nat)} {m : Nat} {w : List Nat} (h : IsRound D m w) {i : Nat} (hi : i < w.length) : prv w i < 2 * m := h.walk.1 _ (prv_mem hi)
theorem IsRound.come {D : List (List Nat)} {m : Nat} {w : List Nat} (h : IsRound D m w) {i : Nat} (hi : i < w.length) : seat D (mate (prv w i)) = seat D (w.getD i 0) := h.walk.2 i hi
theorem come_mem {D : List (List Nat)} {m : Nat} {w : List Nat} (hD : Dr D m) (h : IsRound D m w) {i : Nat} (hi : i < w.length) : mate (prv w i) ∈ row D (seat D (w.getD i 0)) := by
  rw [← h.come hi]
  exact mem_row hD (mate_lt (h.plt hi))
theorem ring_perm (D : List (List Nat)) (w : List Nat) (i : Nat) : (ringAt D w i).Perm (row D (seat D (w.getD i 0))) := rot_perm _ _
theorem ring_mem {D : List (List Nat)} {m : Nat} {w : List Nat} (hD : Dr D m) (h : IsRound D m w) {i : Nat} (hi : i < w.length) : w.getD i 0 ∈ ringAt D w i := (ring_perm D w i).mem_iff.mpr (mem_row hD (h.lt hi))
theorem round_len {D : List (List Nat)} {m : Nat} {w : List Nat} (hD : Dr D m) (h : IsRound D m w) : w.length ≤ D.length := by
  have := nodup_sub_len (l₂ := List.range D.length) h.places fun x hx => by
    obtain ⟨e, he, rfl⟩ := List.mem_map.mp hx
    exact List.mem_range.mpr (seat_lt hD (h.walk.1 e he))
  rw [List.length_map, List.length_range] at this
  exact this
theorem round_len2 {D : List (List Nat)} {m : Nat} {w : List Nat} (h : IsRound D m w) : w.length ≤ m := by
  have := nodup_sub_len (l₂ := List.range m) h.ties fun x hx => by
    obtain ⟨e, he, rfl⟩ := List.mem_map.mp hx
    have := h.walk.1 e he
    exact List.mem_range.mpr (by omega)
  rw [List.length_map, List.length_range] at this
  exact this
theorem round_inj {D : List (List Nat)} {m : Nat} {w : List Nat} (h : IsRound D m w) {i j : Nat} (hi : i < w.length) (hj : j < w.length) (e : seat D (w.getD i 0) = seat D (w.getD j 0)) : i = j := by
  have nd := h.places
  have hi' : i < (w.map (seat D)).length := by rw [List.length_map]; exact hi
  have hj' : j < (w.map (seat D)).length := by rw [List.length_map]; exact hj
  refine (List.getElem_inj (h₀ := hi') (h₁ := hj') nd).mp ?_
  rw [List.getElem_map, List.getElem_map]
  have e1 := getD_get (List.getElem?_eq_getElem hi)
  have e2 := getD_get (List.getElem?_eq_getElem hj)
  rw [← e1, ← e2]
  exact e
theorem CutJ.step {D : List (List Nat)} {m : Nat} {w : List Nat} {j : Nat} {R : List (List Nat)} {l r : List Nat} (hD : Dr D m) (hR : IsRound D m w) (hj : j < w.length) (h : CutJ D m w j R) (hl : l.Perm (cutL D w j)) (hr : r.Perm (cutR D m w j)) :
    CutJ D m w (j + 1) (R.set (seat D (w.getD j 0)) l ++ [r]) := by
  have hs : seat D (w.getD j 0) < D.length := seat_lt hD (hR.lt hj)
  have hlen : (R.set (seat D (w.getD j 0)) l).length = D.length + j := by rw [List.length_set, h.len]
  refine ⟨by rw [List.length_append, hlen, List.length_singleton, Nat.add_assoc], fun p hp hno => ?_, fun i hi => ?_, fun i hi => ?_⟩
  · rw [List.getElem?_append_left (by omega), List.getElem?_set, if_neg (hno j (by omega))]
    exact h.old p hp fun i hi => hno i (by omega)
  · by_cases e : i = j
    · subst e
      refine ⟨l, ?_, hl⟩
      rw [List.getElem?_append_left (by omega), List.getElem?_set, if_pos rfl, if_pos (by rw [h.len]; omega)]
    · obtain ⟨l', e1, e2⟩ := h.left i (by omega)
      refine ⟨l', ?_, e2⟩
      have hs' : seat D (w.getD i 0) < D.length := seat_lt hD (hR.lt (by omega))
      rw [List.getElem?_append_left (by omega), List.getElem?_set, if_neg fun z => e (round_inj hR (by omega) hj z.symm)]
      exact e1
  · by_cases e : i = j
    · subst e
      refine ⟨r, ?_, hr⟩
      rw [List.getElem?_append_right (by omega), hlen, Nat.sub_self]
      rfl
    · obtain ⟨l', e1, e2⟩ := h.right i (by omega)
      refine ⟨l', ?_, e2⟩
      rw [List.getElem?_append_left (by omega), List.getElem?_set, if_neg (by omega)]
      exact e1
end RF
namespace RF
/-! ### plain: lands -/
def phi (D : List (List Nat)) (e : Nat) : Nat := behind D (mate e)
def fwalk (f : Nat → Nat) : Nat → List Nat → Nat → List Nat
  | 0, _, _ => []
  | k + 1, S, e => if e ∈ S then [] else e :: fwalk f k (e :: S) (f e)
def lstep (f : Nat → Nat) (N : Nat) (st : List Nat × List (List Nat)) (s : Nat) : List Nat × List (List Nat) :=
  if s ∈ st.1 then st else ((fwalk f N st.1 s).reverse ++ st.1, st.2 ++ [fwalk f N st.1 s])
def lgo (f : Nat → Nat) (N j : Nat) : List Nat × List (List Nat) := (List.range j).foldl (lstep f N) ([], [])
def bares (D : List (List Nat)) : List (List Nat) := (D.filter fun r => r.isEmpty).map fun _ => []
def landsF (D : List (List Nat)) : List (List Nat) := (lgo (phi D) D.flatten.length D.flatten.length).2 ++ bares D
theorem lgo_succ (f : Nat → Nat) (N j : Nat) : lgo f N (j + 1) = lstep f N (lgo f N j) j := by
  unfold lgo
  rw [List.range_succ, List.foldl_append]; rfl
theorem phi_lt {D : List (List Nat)} {m e : Nat} (h : Dr D m) (he : e < 2 * m) : phi D e < 2 * m := behind_lt h (mate_lt he)
theorem fwalk_mem (f : Nat → Nat) (k : Nat) {S : List Nat} {e : Nat} (h : e ∈ S) : fwalk f k S e = [] := by
  cases k with
  | zero => rfl
  | succ k => unfold fwalk; rw [if_pos h]
theorem fwalk_step (f : Nat → Nat) (k : Nat) {S : List Nat} {e : Nat} (h : e ∉ S) : fwalk f (k + 1) S e = e :: fwalk f k (e :: S) (f e) := by
  rw [fwalk, if_neg h]
/-- what is met is new, and below N -/
theorem fwalk_new {f : Nat → Nat} {N : Nat} (hf : ∀ x, x < N → f x < N) : ∀ (k : Nat) (S : List Nat) (e : Nat), S.Nodup → (∀ x ∈ S, x < N) → e < N →
    ((fwalk f k S e).reverse ++ S).Nodup ∧ ∀ x ∈ fwalk f k S e, x < N
  | 0, S, e, nd, _, _ => ⟨by simpa [fwalk] using nd, fun x hx => by simp [fwalk] at hx⟩
  | k + 1, S, e, nd, hS, he => by
    unfold fwalk
    by_cases h : e ∈ S
    · rw [if_pos h]
      exact ⟨by simpa using nd, fun x hx => by cases hx⟩
    · rw [if_neg h]
      have ih := fwalk_new hf k (e :: S) (f e) (List.nodup_cons.mpr ⟨h, nd⟩) (fun x hx => by
        rcases List.mem_cons.mp hx with rfl | hx
        · exact he
        · exact hS x hx) (hf e he)
      refine ⟨?_, fun x hx => ?_⟩
      · rw [List.reverse_cons, List.append_assoc]
        exact ih.1
      · rcases List.mem_cons.mp hx with rfl | hx
        · exact he
        · exact ih.2 x hx
structure LOk (N j : Nat) (st : List Nat × List (List Nat)) : Prop where
  nd : st.1.Nodup
  lt : ∀ x ∈ st.1, x < N
  all : ∀ x, x < j → x ∈ st.1
  flat : st.2.flatten.Perm st.1
theorem lok {f : Nat → Nat} {N : Nat} (hf : ∀ x, x < N → f x < N) : ∀ j, j ≤ N → LOk N j (lgo f N j)
  | 0, _ => ⟨List.nodup_nil, fun x hx => (by cases hx), fun x hx => absurd hx (Nat.not_lt_zero _), List.Perm.refl _⟩
  | j + 1, hj => by
    have ih := lok hf j (by omega)
    rw [lgo_succ]
    unfold lstep
    by_cases h : j ∈ (lgo f N j).1
    · rw [if_pos h]
      exact ⟨ih.nd, ih.lt, fun x hx => by
        rcases Nat.lt_succ_iff_lt_or_eq.mp hx with h' | rfl
        · exact ih.all x h'
        · exact h, ih.flat⟩
    · rw [if_neg h]
      obtain ⟨n1, n2⟩ := fwalk_new hf N (lgo f N j).1 j ih.nd ih.lt (by omega)
      refine ⟨n1, fun x hx => ?_, fun x hx => ?_, ?_⟩
      · rcases List.mem_append.mp hx with h' | h'
        · exact n2 x (List.mem_reverse.mp h')
        · exact ih.lt x h'
      · rcases Nat.lt_succ_iff_lt_or_eq.mp hx with h' | rfl
        · exact List.mem_append_right _ (ih.all x h')
        · refine List.mem_append_left _ (List.mem_reverse.mpr ?_)
          obtain ⟨M, rfl⟩ : ∃ M, N = M + 1 := ⟨N - 1, by omega⟩
          unfold fwalk
          rw [if_neg h]
          exact List.mem_cons_self
      · show (((lgo f N j).2 ++ [fwalk f N (lgo f N j).1 j]).flatten).Perm _
        rw [List.flatten_append, List.flatten_singleton]
        exact (List.perm_append_comm).trans ((List.reverse_perm _).symm.append ih.flat)
theorem bares_flat (D : List (List Nat)) : (bares D).flatten = [] := by
  unfold bares
  induction (D.filter fun r => r.isEmpty) with
  | nil => rfl
  | cons a r ih => rw [List.map_cons, List.flatten_cons, ih]; rfl
theorem landsF_dr {D : List (List Nat)} {m : Nat} (h : Dr D m) : Dr (landsF D) m := by
  have hl := lok (f := phi D) (N := D.flatten.length) (fun x hx => by rw [h.len] at hx ⊢; exact phi_lt h hx) _ (Nat.le_refl _)
  have hp : (landsF D).flatten.Perm (lgo (phi D) D.flatten.length D.flatten.length).1 := by
    unfold landsF
    rw [List.flatten_append, bares_flat, List.append_nil]
    exact hl.flat
  refine ⟨hp.nodup_iff.mpr hl.nd, fun x => ?_⟩
  rw [hp.mem_iff, ← h.len]
  exact ⟨hl.lt x, hl.all x⟩
end RF
namespace RF
/-! ### plain: parts -/
inductive Reach (D : List (List Nat)) (s : Nat) : Nat → Prop
  | refl : Reach D s s
  | step {p e : Nat} : Reach D s p → e ∈ row D p → Reach D s (seat D (mate e))
theorem Reach.trans {D : List (List Nat)} {a b c : Nat} (h1 : Reach D a b) (h2 : Reach D b c) : Reach D a c := by
  induction h2 with
  | refl => exact h1
  | step _ he ih => exact .step ih he
theorem Reach.symm {D : List (List Nat)} {m a b : Nat} (h : Dr D m) (h1 : Reach D a b) : Reach D b a := by
  induction h1 with
  | refl => exact .refl
  | @step p e _ he ih =>
    obtain ⟨hlt, hs⟩ := row_end h he
    have h2 : mate e ∈ row D (seat D (mate e)) := mem_row h (mate_lt hlt)
    have h3 : Reach D (seat D (mate e)) (seat D (mate (mate e))) := .step .refl h2
    rw [mate_mate, hs] at h3
    exact h3.trans ih
theorem Reach.lt {D : List (List Nat)} {m a b : Nat} (h : Dr D m) (ha : a < D.length) (h1 : Reach D a b) : b < D.length := by
  induction h1 with
  | refl => exact ha
  | step _ he _ => exact seat_lt h (mate_lt (row_end h he).1)
noncomputable def reachB (D : List (List Nat)) (s q : Nat) : Bool := @decide (Reach D s q) (Classical.propDecidable _)
noncomputable def firstB (D : List (List Nat)) (s : Nat) : Bool := @decide (∀ t, t < s → ¬ Reach D t s) (Classical.propDecidable _)
theorem reachB_iff {D : List (List Nat)} {s q : Nat} : reachB D s q = true ↔ Reach D s q := by unfold reachB; exact @decide_eq_true_iff _ (Classical.propDecidable _)
theorem firstB_iff {D : List (List Nat)} {s : Nat} : firstB D s = true ↔ ∀ t, t < s → ¬ Reach D t s := by unfold firstB; exact @decide_eq_true_iff _ (Classical.propDecidable _)
noncomputable def comp (D : List (List Nat)) (s : Nat) : List Nat := (List.range D.length).filter (reachB D s)
noncomputable def firsts (D : List (List Nat)) (j : Nat) : List Nat := (List.range j).filter (firstB D)
noncomputable def partsJ (D : List (List Nat)) (j : Nat) : List (List Nat) := (firsts D j).map (comp D)
noncomputable def partsF (D : List (List Nat)) : List (List Nat) := partsJ D D.length
theorem mem_comp {D : List (List Nat)} {m s q : Nat} (h : Dr D m) (hs : s < D.length) : q ∈ comp D s ↔ Reach D s q := by
  unfold comp
  rw [List.mem_filter, List.mem_range, reachB_iff]
  exact ⟨fun z => z.2, fun z => ⟨z.lt h hs, z⟩⟩
theorem comp_lt {D : List (List Nat)} {s q : Nat} (h : q ∈ comp D s) : q < D.length := List.mem_range.mp (List.mem_filter.mp h).1
theorem comp_sorted (D : List (List Nat)) (s : Nat) : (comp D s).Pairwise (· < ·) := List.Pairwise.filter _ List.pairwise_lt_range
theorem comp_nodup (D : List (List Nat)) (s : Nat) : (comp D s).Nodup := (comp_sorted D s).imp Nat.ne_of_lt
theorem comp_len (D : List (List Nat)) (s : Nat) : (comp D s).length ≤ D.length := by
  have := List.length_filter_le (reachB D s) (List.range D.length)
  rw [List.length_range] at this
  exact this
/-- the sorted numbers of a list without doubles that has the part's places -/
theorem sorted_comp {D : List (List Nat)} {m s : Nat} {K : List Nat} {ys : List Int} (h : Dr D m) (hs : s < D.length) (nd : K.Nodup) (hK : ∀ q, q ∈ K ↔ Reach D s q) (hp : ys.Perm (K.map Int.ofNat)) (ho : ys.Pairwise (· ≤ ·)) : ys = (comp D s).map Int.ofNat := by
  have p2 : K.Perm (comp D s) := (List.perm_ext_iff_of_nodup nd (comp_nodup D s)).mpr fun q => by rw [hK, mem_comp h hs]
  refine (hp.trans (p2.map Int.ofNat)).eq_of_pairwise (fun x y _ _ h1 h2 => Int.le_antisymm h1 h2) ho ?_
  refine List.pairwise_map.mpr ((comp_sorted D s).imp fun {a b} hab => ?_)
  exact Int.ofNat_le.mpr (Nat.le_of_lt hab)
/-- a set of places that is closed and begun rightly is the part -/
theorem reach_of {D : List (List Nat)} {s : Nat} {K : List Nat} (hs : s ∈ K) (hc : ∀ p ∈ K, ∀ e ∈ row D p, seat D (mate e) ∈ K) : ∀ q, Reach D s q → q ∈ K := by
  intro q hq
  induction hq with
  | refl => exact hs
  | step _ he ih => exact hc _ ih _ he
theorem firsts_succ (D : List (List Nat)) (j : Nat) : firsts D (j + 1) = firsts D j ++ (if firstB D j = true then [j] else []) := by
  unfold firsts
  rw [List.range_succ, List.filter_append]
  congr 1
  rw [List.filter_cons]
  rfl
theorem partsJ_new {D : List (List Nat)} {j : Nat} (h : ∀ t, t < j → ¬ Reach D t j) : partsJ D (j + 1) = partsJ D j ++ [comp D j] := by
  unfold partsJ
  rw [firsts_succ, if_pos (firstB_iff.mpr h), List.map_append]
  rfl
theorem partsJ_old {D : List (List Nat)} {j : Nat} (h : ¬ ∀ t, t < j → ¬ Reach D t j) : partsJ D (j + 1) = partsJ D j := by
  unfold partsJ
  rw [firsts_succ, if_neg fun z => h (firstB_iff.mp z), List.append_nil]
theorem partsJ_len (D : List (List Nat)) (j : Nat) : (partsJ D j).length ≤ j := by
  unfold partsJ firsts
  rw [List.length_map]
  have := List.length_filter_le (firstB D) (List.range j)
  rw [List.length_range] at this
  exact this
theorem mem_partsJ {D : List (List Nat)} {m : Nat} (h : Dr D m) : ∀ j, j ≤ D.length → ∀ q, q ∈ (partsJ D j).flatten ↔ ∃ t, t < j ∧ Reach D t q
  | 0, _, q => ⟨fun z => by simp [partsJ, firsts] at z, fun ⟨t, ht, _⟩ => absurd ht (Nat.not_lt_zero _)⟩
  | j + 1, hj, q => by
    have ih := mem_partsJ h j (by omega) q
    by_cases hn : ∀ t, t < j → ¬ Reach D t j
    · rw [partsJ_new hn, List.flatten_append, List.flatten_singleton, List.mem_append, ih, mem_comp h (by omega)]
      constructor
      · rintro (⟨t, ht, hr⟩ | hr)
        · exact ⟨t, by omega, hr⟩
        · exact ⟨j, by omega, hr⟩
      · rintro ⟨t, ht, hr⟩
        rcases Nat.lt_succ_iff_lt_or_eq.mp ht with h1 | rfl
        · exact .inl ⟨t, h1, hr⟩
        · exact .inr hr
    · rw [partsJ_old hn, ih]
      constructor
      · rintro ⟨t, ht, hr⟩
        exact ⟨t, by omega, hr⟩
      · rintro ⟨t, ht, hr⟩
        rcases Nat.lt_succ_iff_lt_or_eq.mp ht with h1 | rfl
        · exact ⟨t, h1, hr⟩
        · obtain ⟨t', ht'⟩ := Classical.not_forall.mp hn
          obtain ⟨h2, h3⟩ := Classical.not_imp.mp ht'
          exact ⟨t', h2, (Classical.not_not.mp h3).trans hr⟩
theorem partsJ_nodup {D : List (List Nat)} {m : Nat} (h : Dr D m) : ∀ j, j ≤ D.length → (partsJ D j).flatten.Nodup
  | 0, _ => by simp [partsJ, firsts]
  | j + 1, hj => by
    have ih := partsJ_nodup h j (by omega)
    by_cases hn : ∀ t, t < j → ¬ Reach D t j
    · rw [partsJ_new hn, List.flatten_append, List.flatten_singleton, List.nodup_append]
      refine ⟨ih, comp_nodup D j, fun x hx y hy e => ?_⟩
      subst e
      obtain ⟨t, ht, hr⟩ := (mem_partsJ h j (by omega) x).mp hx
      have hj2 := (mem_comp h (by omega)).mp hy
      exact hn t ht (hr.trans (hj2.symm h))
    · rw [partsJ_old hn]
      exact ih
theorem partsJ_flen {D : List (List Nat)} {m : Nat} (h : Dr D m) {j : Nat} (hj : j ≤ D.length) : (partsJ D j).flatten.length ≤ D.length := by
  have := nodup_sub_len (l₂ := List.range D.length) (partsJ_nodup h j hj) fun x hx => by
    obtain ⟨t, ht, hr⟩ := (mem_partsJ h j hj x).mp hx
    exact List.mem_range.mpr (hr.lt h (by omega))
  rw [List.length_range] at this
  exact this
theorem part_mem {D : List (List Nat)} {P : List Nat} (hP : P ∈ partsF D) : ∃ s, s < D.length ∧ P = comp D s ∧ ∀ t, t < s → ¬ Reach D t s := by
  unfold partsF partsJ at hP
  obtain ⟨s, hs, rfl⟩ := List.mem_map.mp hP
  unfold firsts at hs
  obtain ⟨h1, h2⟩ := List.mem_filter.mp hs
  exact ⟨s, List.mem_range.mp h1, rfl, firstB_iff.mp h2⟩
end RF
namespace RF
/-! ### plain: holes -/
def hdAt (D : List (List Nat)) (p : Nat) (l : List Nat) : Bool := !l.isEmpty && decide (seat D (l.getD 0 0) = p)
def hdIn (D : List (List Nat)) (P : List Nat) (l : List Nat) : Bool := !l.isEmpty && decide (seat D (l.getD 0 0) ∈ P)
def endsOf (D : List (List Nat)) (P : List Nat) : Nat := (P.map fun p => (row D p).length).sum
def manyOf (D : List (List Nat)) (P : List Nat) : Nat := if endsOf D P = 0 then 1 else (landsF D).countP (hdIn D P)
def holeOf (D : List (List Nat)) (P : List Nat) : Int := (2 - (P.length : Int) + ((endsOf D P / 2 : Nat) : Int) - (manyOf D P : Int)) / 2
noncomputable def holesF (D : List (List Nat)) : List Int := (partsF D).map (holeOf D)
theorem count_one (D : List (List Nat)) (l : List Nat) : ∀ {P : List Nat}, P.Nodup → (P.map fun p => [l].countP (hdAt D p)).sum = [l].countP (hdIn D P)
  | [], _ => by simp [hdIn]
  | a :: P, nd => by
    obtain ⟨h1, h2⟩ := List.nodup_cons.mp nd
    have ih := count_one D l h2
    rw [List.map_cons, List.sum_cons, ih]
    rw [List.countP_singleton, List.countP_singleton, List.countP_singleton]
    unfold hdAt hdIn
    by_cases hl : l.isEmpty = true
    · rw [hl]; rfl
    · have hl' : (!l.isEmpty) = true := by simpa using hl
      rw [hl', Bool.true_and, Bool.true_and, Bool.true_and]
      by_cases hs : seat D (l.getD 0 0) = a
      · have hn : seat D (l.getD 0 0) ∉ P := hs ▸ h1
        rw [if_pos (decide_eq_true hs), if_neg (by rw [decide_eq_false hn]; decide), if_pos (decide_eq_true (List.mem_cons.mpr (Or.inl hs)))]
      · rw [if_neg (by rw [decide_eq_false hs]; decide)]
        by_cases hp : seat D (l.getD 0 0) ∈ P
        · rw [if_pos (decide_eq_true hp), if_pos (decide_eq_true (List.mem_cons.mpr (Or.inr hp)))]
        · rw [if_neg (by rw [decide_eq_false hp]; decide), if_neg (by
            rw [decide_eq_false fun z => (List.mem_cons.mp z).elim hs hp]; decide)]
theorem sum_add (f g : Nat → Nat) : ∀ P : List Nat, (P.map fun p => f p + g p).sum = (P.map f).sum + (P.map g).sum
  | [] => rfl
  | a :: P => by
    simp only [List.map_cons, List.sum_cons, sum_add f g P]
    omega
/-- the lands begun at the places of a part -/
theorem count_parts (D : List (List Nat)) {P : List Nat} (nd : P.Nodup) : ∀ L : List (List Nat), (P.map fun p => L.countP (hdAt D p)).sum = L.countP (hdIn D P)
  | [] => by
    have : ∀ P : List Nat, (P.map fun _ => 0).sum = 0 := fun P => by
      induction P with
      | nil => rfl
      | cons a r ih => rw [List.map_cons, List.sum_cons, ih]
    simpa using this P
  | l :: L => by
    have e : ∀ p, (l :: L).countP (hdAt D p) = [l].countP (hdAt D p) + L.countP (hdAt D p) := fun p => by
      rw [← List.countP_append]; rfl
    have e2 : (l :: L).countP (hdIn D P) = [l].countP (hdIn D P) + L.countP (hdIn D P) := by
      rw [← List.countP_append]; rfl
    rw [List.map_congr_left (fun p _ => e p), sum_add, count_one D l nd, count_parts D nd L, e2]
theorem ends_flat (D : List (List Nat)) (P : List Nat) : endsOf D P = ((P.map (row D)).flatten).length := by
  unfold endsOf
  rw [List.length_flatten, List.map_map]
  rfl
end RF
namespace RF
/-! ### plain: trees of places -/
def tkeys (root : Nat) (T : List (Nat × Nat)) : List Nat := root :: T.map (·.1)
/-- the way up, over the tree's entries from the last one -/
def pathR (D : List (List Nat)) : List (Nat × Nat) → Nat → List Nat
  | [], _ => []
  | (q, e) :: r, x => if x = q then e :: pathR D r (seat D (mate e)) else pathR D r x
def path (D : List (List Nat)) (T : List (Nat × Nat)) (x : Nat) : List Nat := pathR D T.reverse x
structure IsTree (D : List (List Nat)) (root : Nat) (T : List (Nat × Nat)) : Prop where
  nd : (tkeys root T).Nodup
  edge : ∀ (i : Nat) q e, T[i]? = some (q, e) → e ∈ row D q ∧ seat D (mate e) ∈ tkeys root (T.take i)
  reach : ∀ q ∈ tkeys root T, Reach D root q
structure IsBfs (D : List (List Nat)) (root : Nat) (T : List (Nat × Nat)) : Prop where
  tree : IsTree D root T
  all : ∀ q, Reach D root q → q ∈ tkeys root T
  dist : ∃ d : Nat → Nat, d root = 0 ∧ (∀ q e, (q, e) ∈ T → d q = d (seat D (mate e)) + 1) ∧ ∀ q ∈ tkeys root T, ∀ e ∈ row D q, d (seat D (mate e)) ≤ d q + 1
/-- the search ahead of its place at -/
structure BfsI (D : List (List Nat)) (root : Nat) (T : List (Nat × Nat)) (at_ : Nat) (dn : List Nat) (d : Nat → Nat) : Prop where
  tree : IsTree D root T
  d0 : d root = 0
  dp : ∀ q e, (q, e) ∈ T → d q = d (seat D (mate e)) + 1
  mono : ∀ (i j : Nat) a b, (tkeys root T)[i]? = some a → (tkeys root T)[j]? = some b → i ≤ j → d a ≤ d b
  done : ∀ (i : Nat) p, i < at_ → (tkeys root T)[i]? = some p → ∀ e ∈ row D p, seat D (mate e) ∈ tkeys root T ∧ d (seat D (mate e)) ≤ d p + 1
  top : ∀ p, (tkeys root T)[at_]? = some p → ∀ q ∈ tkeys root T, d q ≤ d p + 1
  here : ∀ p, (tkeys root T)[at_]? = some p → ∀ e ∈ dn, seat D (mate e) ∈ tkeys root T
theorem tkeys_snoc (root : Nat) (T : List (Nat × Nat)) (q e : Nat) : tkeys root (T ++ [(q, e)]) = tkeys root T ++ [q] := by
  unfold tkeys
  rw [List.map_append]; rfl
theorem BfsI.first {D : List (List Nat)} {root : Nat} : BfsI D root [] 0 [] (fun _ => 0) := by
  refine ⟨⟨by simp [tkeys], fun i q e h => (by simp at h), fun q hq => ?_⟩, rfl, fun q e h => (by cases h), fun i j a b _ _ _ => Nat.le_refl _, fun i p h => absurd h (Nat.not_lt_zero _), fun p _ q _ => Nat.zero_le _, fun p _ e he => (by cases he)⟩
  cases List.mem_singleton.mp hq
  exact .refl
/-- an end that leads to a new place -/
theorem BfsI.add {D : List (List Nat)} {m root : Nat} {T : List (Nat × Nat)} {at_ p e : Nat} {dn : List Nat} {d : Nat → Nat} (hD : Dr D m) (h : BfsI D root T at_ dn d) (hp : (tkeys root T)[at_]? = some p) (he : e ∈ row D p) (hn : seat D (mate e) ∉ tkeys root T) :
    BfsI D root (T ++ [(seat D (mate e), mate e)]) at_ (dn ++ [e]) (fun x => if x = seat D (mate e) then d p + 1 else d x) := by
  obtain ⟨hlt, hse⟩ := row_end hD he
  have hpm : p ∈ tkeys root T := List.mem_of_getElem? hp
  have hat : at_ < (tkeys root T).length := (List.getElem?_eq_some_iff.mp hp).1
  have old : ∀ {x : Nat}, x ∈ tkeys root T → (if x = seat D (mate e) then d p + 1 else d x) = d x := by
    intro x hx
    by_cases z : x = seat D (mate e)
    · exact absurd (z ▸ hx) hn
    · exact if_neg z
  have new : (if seat D (mate e) = seat D (mate e) then d p + 1 else d (seat D (mate e))) = d p + 1 := if_pos rfl
  have hroot : root ∈ tkeys root T := List.mem_cons_self
  have kx : ∀ {i a}, (tkeys root T ++ [seat D (mate e)])[i]? = some a → (i < (tkeys root T).length ∧ (tkeys root T)[i]? = some a) ∨ (i = (tkeys root T).length ∧ a = seat D (mate e)) := fun {i a} hi => by
    by_cases hl : i < (tkeys root T).length
    · rw [List.getElem?_append_left hl] at hi
      exact .inl ⟨hl, hi⟩
    · rw [List.getElem?_append_right (by omega)] at hi
      have := (List.getElem?_eq_some_iff.mp hi).1
      rw [List.length_singleton] at this
      have e0 : i - (tkeys root T).length = 0 := by omega
      rw [e0] at hi
      exact .inr ⟨by omega, (Option.some.inj hi).symm⟩
  refine ⟨⟨?_, fun i q e' hi => ?_, fun q hq => ?_⟩, ?_, fun q e' hq => ?_, fun i j a b hi hj hij => ?_, fun i p' hi hk e' he' => ?_, fun p' hk q hq => ?_, fun p' hk e' he' => ?_⟩
  · rw [tkeys_snoc]
    rw [List.nodup_append]
    refine ⟨h.tree.nd, by simp, fun x hx y hy z => ?_⟩
    cases List.mem_singleton.mp hy
    exact hn (z ▸ hx)
  · by_cases hl : i < T.length
    · rw [List.getElem?_append_left hl] at hi
      rw [List.take_append_of_le_length (by omega)]
      exact h.tree.edge i q e' hi
    · rw [List.getElem?_append_right (by omega)] at hi
      have := (List.getElem?_eq_some_iff.mp hi).1
      rw [List.length_singleton] at this
      have e0 : i - T.length = 0 := by omega
      rw [e0] at hi
      cases Option.some.inj hi
      refine ⟨mem_row hD (mate_lt hlt), ?_⟩
      rw [mate_mate, hse, show i = T.length by omega, List.take_left']
      · exact hpm
      · rfl
  · rw [tkeys_snoc] at hq
    rcases List.mem_append.mp hq with hq | hq
    · exact h.tree.reach q hq
    · cases List.mem_singleton.mp hq
      exact .step (h.tree.reach p hpm) he
  · show (if root = _ then _ else _) = 0
    rw [old hroot]
    exact h.d0
  · rcases List.mem_append.mp hq with hq | hq
    · show (if q = _ then _ else _) = (if seat D (mate e') = _ then _ else _) + 1
      obtain ⟨i, hi⟩ := List.getElem?_of_mem hq
      have hqk : q ∈ tkeys root T := List.mem_cons_of_mem _ (List.mem_map.mpr ⟨(q, e'), hq, rfl⟩)
      have hpk : seat D (mate e') ∈ tkeys root T := by
        have := (h.tree.edge i q e' hi).2
        rcases List.mem_cons.mp this with z | z
        · rw [z]; exact hroot
        · obtain ⟨x, hx, ex⟩ := List.mem_map.mp z
          exact List.mem_cons_of_mem _ (List.mem_map.mpr ⟨x, List.mem_of_mem_take hx, ex⟩)
      rw [old hqk, old hpk]
      exact h.dp q e' hq
    · cases List.mem_singleton.mp hq
      show (if seat D (mate e) = _ then _ else _) = (if seat D (mate (mate e)) = _ then _ else _) + 1
      rw [new, mate_mate, hse, old hpm]
  · rw [tkeys_snoc] at hi hj
    show (if a = _ then _ else _) ≤ (if b = _ then _ else _)
    rcases kx hi with ⟨h1, h2⟩ | ⟨h1, h2⟩
    · rw [old (List.mem_of_getElem? h2)]
      rcases kx hj with ⟨h3, h4⟩ | ⟨h3, h4⟩
      · rw [old (List.mem_of_getElem? h4)]
        exact h.mono i j a b h2 h4 hij
      · rw [h4, new]
        exact h.top p hp a (List.mem_of_getElem? h2)
    · rcases kx hj with ⟨h3, h4⟩ | ⟨h3, h4⟩
      · omega
      · rw [h2, h4]; exact Nat.le_refl _
  · rw [tkeys_snoc] at hk ⊢
    rcases kx hk with ⟨h1, h2⟩ | ⟨h1, h2⟩
    · obtain ⟨q1, q2⟩ := h.done i p' hi h2 e' he'
      refine ⟨List.mem_append_left _ q1, ?_⟩
      show (if seat D (mate e') = _ then _ else _) ≤ (if p' = _ then _ else _) + 1
      rw [old q1, old (List.mem_of_getElem? h2)]
      exact q2
    · omega
  · rw [tkeys_snoc] at hk hq
    rcases kx hk with ⟨h1, h2⟩ | ⟨h1, h2⟩
    · rw [hp] at h2
      cases Option.some.inj h2
      show (if q = _ then _ else _) ≤ (if p = _ then _ else _) + 1
      rw [old hpm]
      rcases List.mem_append.mp hq with hq | hq
      · rw [old hq]
        exact h.top p hp q hq
      · cases List.mem_singleton.mp hq
        rw [new]; exact Nat.le_refl _
    · omega
  · rw [tkeys_snoc] at hk ⊢
    rcases List.mem_append.mp he' with he' | he'
    · refine List.mem_append_left _ (h.here p hp e' he')
    · cases List.mem_singleton.mp he'
      exact List.mem_append_right _ (List.mem_singleton.mpr rfl)
/-- an end that leads to a place that is there -/
theorem BfsI.skip {D : List (List Nat)} {root : Nat} {T : List (Nat × Nat)} {at_ e : Nat} {dn : List Nat} {d : Nat → Nat} (h : BfsI D root T at_ dn d) (hn : seat D (mate e) ∈ tkeys root T) : BfsI D root T at_ (dn ++ [e]) d := by
  refine ⟨h.tree, h.d0, h.dp, h.mono, h.done, h.top, fun p hp e' he' => ?_⟩
  rcases List.mem_append.mp he' with he' | he'
  · exact h.here p hp e' he'
  · cases List.mem_singleton.mp he'
    exact hn
/-- the next place -/
theorem BfsI.next {D : List (List Nat)} {root : Nat} {T : List (Nat × Nat)} {at_ p : Nat} {d : Nat → Nat} (hp : (tkeys root T)[at_]? = some p) (h : BfsI D root T at_ (row D p) d) : BfsI D root T (at_ + 1) [] d := by
  refine ⟨h.tree, h.d0, h.dp, h.mono, fun i q hi hk e he => ?_, fun q hk x hx => ?_, fun _ _ e he => (by cases he)⟩
  · by_cases z : i = at_
    · subst z
      rw [hp] at hk
      cases Option.some.inj hk
      have h1 := h.here p hp e he
      exact ⟨h1, h.top p hp _ h1⟩
    · exact h.done i q (by omega) hk e he
  · have h1 := h.top p hp x hx
    have h2 := h.mono at_ (at_ + 1) p q hp hk (by omega)
    omega
theorem BfsI.bfs {D : List (List Nat)} {root : Nat} {T : List (Nat × Nat)} {at_ : Nat} {dn : List Nat} {d : Nat → Nat} (h : BfsI D root T at_ dn d) (hl : (tkeys root T).length ≤ at_) : IsBfs D root T := by
  have all : ∀ p ∈ tkeys root T, ∀ e ∈ row D p, seat D (mate e) ∈ tkeys root T ∧ d (seat D (mate e)) ≤ d p + 1 := fun p hp e he => by
    obtain ⟨i, hi⟩ := List.getElem?_of_mem hp
    have := (List.getElem?_eq_some_iff.mp hi).1
    exact h.done i p (by omega) hi e he
  exact ⟨h.tree, reach_of List.mem_cons_self fun p hp e he => (all p hp e he).1, d, h.d0, h.dp, fun q hq e he => (all q hq e he).2⟩
theorem IsTree.len {D : List (List Nat)} {m root : Nat} {T : List (Nat × Nat)} (hD : Dr D m) (hr : root < D.length) (h : IsTree D root T) : (tkeys root T).length ≤ D.length := by
  have := nodup_sub_len (l₂ := List.range D.length) h.nd fun x hx => List.mem_range.mpr ((h.reach x hx).lt hD hr)
  rw [List.length_range] at this
  exact this
theorem pathR_old {D : List (List Nat)} {x : Nat} : ∀ {R : List (Nat × Nat)}, x ∉ R.map (·.1) → pathR D R x = []
  | [], _ => rfl
  | (q, e) :: r, h => by
    rw [List.map_cons, List.mem_cons] at h
    rw [pathR, if_neg fun z => h (Or.inl z)]
    exact pathR_old fun z => h (Or.inr z)
/-- the way from a place is its end and the way from where that leads -/
theorem pathR_app {D : List (List Nat)} {x : Nat} : ∀ {R S : List (Nat × Nat)}, x ∉ R.map (·.1) → pathR D (R ++ S) x = pathR D S x
  | [], _, _ => rfl
  | (q, e) :: r, S, h => by
    rw [List.map_cons, List.mem_cons] at h
    show pathR D ((q, e) :: (r ++ S)) x = _
    rw [pathR, if_neg fun z => h (Or.inl z)]
    exact pathR_app fun z => h (Or.inr z)
theorem path_root {D : List (List Nat)} {root : Nat} {T : List (Nat × Nat)} (h : IsTree D root T) : path D T root = [] := by
  refine pathR_old fun z => ?_
  rw [List.map_reverse, List.mem_reverse] at z
  exact (List.nodup_cons.mp h.nd).1 z
theorem path_step {D : List (List Nat)} {root : Nat} {T : List (Nat × Nat)} {i q e : Nat} (h : IsTree D root T) (hi : T[i]? = some (q, e)) : path D T q = e :: path D T (seat D (mate e)) ∧ path D T (seat D (mate e)) = path D (T.take i) (seat D (mate e)) := by
  have hil := (List.getElem?_eq_some_iff.mp hi).1
  have eT : T = T.take i ++ (q, e) :: T.drop (i + 1) := by
    have h1 : T.drop i = (q, e) :: T.drop (i + 1) := by
      rw [List.drop_eq_getElem_cons hil]
      rw [(List.getElem?_eq_some_iff.mp hi).2]
    rw [← h1, List.take_append_drop]
  have eR : T.reverse = (T.drop (i + 1)).reverse ++ ((q, e) :: (T.take i).reverse) := by
    conv => lhs; rw [eT]
    rw [List.reverse_append, List.reverse_cons, List.append_assoc]
    rfl
  have nd := h.nd
  unfold tkeys at nd
  rw [eT, List.map_append, List.map_cons] at nd
  have nd1 := List.nodup_cons.mp nd
  rw [List.nodup_append] at nd1
  obtain ⟨n0, n1, n2, n3⟩ := nd1
  have n2' := List.nodup_cons.mp n2
  have hq : q ∉ ((T.drop (i + 1)).reverse).map (·.1) := fun z => by
    rw [List.map_reverse, List.mem_reverse] at z
    exact n2'.1 z
  have hpar := (h.edge i q e hi).2
  have hp : seat D (mate e) ∉ ((T.drop (i + 1)).reverse).map (·.1) ∧ seat D (mate e) ≠ q := by
    rcases List.mem_cons.mp hpar with z | z
    · rw [z]
      refine ⟨fun y => n0 (List.mem_append_right _ (List.mem_cons_of_mem _ ?_)), fun y => n0 (List.mem_append_right _ ?_)⟩
      · rw [List.map_reverse, List.mem_reverse] at y
        exact y
      · rw [y]; exact List.mem_cons_self
    · refine ⟨fun y => ?_, fun y => ?_⟩
      · rw [List.map_reverse, List.mem_reverse] at y
        exact n3 _ z _ (List.mem_cons_of_mem _ y) rfl
      · exact n3 _ z _ List.mem_cons_self y
  have e1 : path D T (seat D (mate e)) = path D (T.take i) (seat D (mate e)) := by
    unfold path
    rw [eR, pathR_app hp.1, pathR, if_neg hp.2]
  refine ⟨?_, e1⟩
  rw [e1]
  unfold path
  rw [eR, pathR_app hq, pathR, if_pos rfl]
theorem tree_entry {root q : Nat} {T : List (Nat × Nat)} (hq : q ∈ tkeys root T) (hr : q ≠ root) : ∃ (i : Nat) (e : Nat), T[i]? = some (q, e) := by
  rcases List.mem_cons.mp hq with z | z
  · exact absurd z hr
  · obtain ⟨x, hx, ex⟩ := List.mem_map.mp z
    obtain ⟨i, hi⟩ := List.getElem?_of_mem hx
    exact ⟨i, x.2, by rw [hi, ← ex]⟩
theorem tkeys_take {root : Nat} {T : List (Nat × Nat)} {i x : Nat} (h : x ∈ tkeys root (T.take i)) : x ∈ tkeys root T := by
  rcases List.mem_cons.mp h with z | z
  · rw [z]; exact List.mem_cons_self
  · obtain ⟨y, hy, ey⟩ := List.mem_map.mp z
    exact List.mem_cons_of_mem _ (List.mem_map.mpr ⟨y, List.mem_of_mem_take hy, ey⟩)
end RF
namespace RF
/-! ### plain: the tree of lands -/
structure IsLT (L : List (List Nat)) (ins : Nat → Prop) (first : Nat) (T : List (Nat × Nat)) : Prop where
  nd : (tkeys first T).Nodup
  edge : ∀ (i : Nat) q e, T[i]? = some (q, e) → e ∈ row L q ∧ ¬ ins (e / 2) ∧ seat L (mate e) ∈ tkeys first (T.take i)
  lt : ∀ q ∈ tkeys first T, q < L.length
structure LtI (L : List (List Nat)) (ins : Nat → Prop) (first : Nat) (T : List (Nat × Nat)) (at_ : Nat) (dn : List Nat) : Prop where
  tree : IsLT L ins first T
  done : ∀ (i : Nat) p, i < at_ → (tkeys first T)[i]? = some p → ∀ e ∈ row L p, ¬ ins (e / 2) → seat L (mate e) ∈ tkeys first T
  here : ∀ p, (tkeys first T)[at_]? = some p → ∀ e ∈ dn, ¬ ins (e / 2) → seat L (mate e) ∈ tkeys first T
theorem LtI.first {L : List (List Nat)} {ins : Nat → Prop} {f : Nat} (hf : f < L.length) : LtI L ins f [] 0 [] := by
  refine ⟨⟨by simp [tkeys], fun i q e h => (by simp at h), fun q hq => ?_⟩, fun i p h => absurd h (Nat.not_lt_zero _), fun p _ e he => (by cases he)⟩
  cases List.mem_singleton.mp hq
  exact hf
theorem LtI.add {L : List (List Nat)} {ins : Nat → Prop} {m f : Nat} {T : List (Nat × Nat)} {at_ p e : Nat} {dn : List Nat} (hD : Dr L m) (h : LtI L ins f T at_ dn) (hp : (tkeys f T)[at_]? = some p) (he : e ∈ row L p) (hi : ¬ ins (e / 2)) (hn : seat L (mate e) ∉ tkeys f T) :
    LtI L ins f (T ++ [(seat L (mate e), mate e)]) at_ (dn ++ [e]) := by
  obtain ⟨hlt, hse⟩ := row_end hD he
  have hpm : p ∈ tkeys f T := List.mem_of_getElem? hp
  have hat : at_ < (tkeys f T).length := (List.getElem?_eq_some_iff.mp hp).1
  refine ⟨⟨?_, fun i q e' hi' => ?_, fun q hq => ?_⟩, fun i p' hlt' hk e' he' hi' => ?_, fun p' hk e' he' hi' => ?_⟩
  · rw [tkeys_snoc, List.nodup_append]
    refine ⟨h.tree.nd, by simp, fun x hx y hy z => ?_⟩
    cases List.mem_singleton.mp hy
    exact hn (z ▸ hx)
  · by_cases hl : i < T.length
    · rw [List.getElem?_append_left hl] at hi'
      rw [List.take_append_of_le_length (by omega)]
      exact h.tree.edge i q e' hi'
    · rw [List.getElem?_append_right (by omega)] at hi'
      have := (List.getElem?_eq_some_iff.mp hi').1
      rw [List.length_singleton] at this
      have e0 : i - T.length = 0 := by omega
      rw [e0] at hi'
      cases Option.some.inj hi'
      refine ⟨mem_row hD (mate_lt hlt), by rw [mate_half]; exact hi, ?_⟩
      rw [mate_mate, hse, show i = T.length by omega, List.take_left']
      · exact hpm
      · rfl
  · rw [tkeys_snoc] at hq
    rcases List.mem_append.mp hq with hq | hq
    · exact h.tree.lt q hq
    · cases List.mem_singleton.mp hq
      exact seat_lt hD (mate_lt hlt)
  · rw [tkeys_snoc] at hk ⊢
    rw [List.getElem?_append_left (by omega)] at hk
    exact List.mem_append_left _ (h.done i p' hlt' hk e' he' hi')
  · rw [tkeys_snoc] at hk ⊢
    rcases List.mem_append.mp he' with he' | he'
    · exact List.mem_append_left _ (h.here p hp e' he' hi')
    · cases List.mem_singleton.mp he'
      exact List.mem_append_right _ (List.mem_singleton.mpr rfl)
theorem LtI.skip {L : List (List Nat)} {ins : Nat → Prop} {f : Nat} {T : List (Nat × Nat)} {at_ e : Nat} {dn : List Nat} (h : LtI L ins f T at_ dn) (hn : ¬ ins (e / 2) → seat L (mate e) ∈ tkeys f T) : LtI L ins f T at_ (dn ++ [e]) := by
  refine ⟨h.tree, h.done, fun p hp e' he' hi => ?_⟩
  rcases List.mem_append.mp he' with he' | he'
  · exact h.here p hp e' he' hi
  · cases List.mem_singleton.mp he'
    exact hn hi
theorem LtI.next {L : List (List Nat)} {ins : Nat → Prop} {f : Nat} {T : List (Nat × Nat)} {at_ p : Nat} (hp : (tkeys f T)[at_]? = some p) (h : LtI L ins f T at_ (row L p)) : LtI L ins f T (at_ + 1) [] := by
  refine ⟨h.tree, fun i q hi hk e he hin => ?_, fun _ _ e he => (by cases he)⟩
  by_cases z : i = at_
  · subst z
    rw [hp] at hk
    cases Option.some.inj hk
    exact h.here p hp e he hin
  · exact h.done i q (by omega) hk e he hin
theorem LtI.all {L : List (List Nat)} {ins : Nat → Prop} {f : Nat} {T : List (Nat × Nat)} {at_ : Nat} {dn : List Nat} (h : LtI L ins f T at_ dn) (hl : (tkeys f T).length ≤ at_) : ∀ p ∈ tkeys f T, ∀ e ∈ row L p, ¬ ins (e / 2) → seat L (mate e) ∈ tkeys f T := fun p hp e he hi => by
  obtain ⟨i, hi'⟩ := List.getElem?_of_mem hp
  have := (List.getElem?_eq_some_iff.mp hi').1
  exact h.done i p (by omega) hi' e he hi
theorem IsLT.len {L : List (List Nat)} {ins : Nat → Prop} {f : Nat} {T : List (Nat × Nat)} (h : IsLT L ins f T) : (tkeys f T).length ≤ L.length := by
  have := nodup_sub_len (l₂ := List.range L.length) h.nd fun x hx => List.mem_range.mpr (h.lt x hx)
  rw [List.length_range] at this
  exact this
/-- ties of a tree's entries -/
def ties (T : List (Nat × Nat)) : List Nat := T.map fun p => p.2 / 2
end RF
namespace RF
/-! ### plain: chains of ends -/
inductive Chain (D : List (List Nat)) : Nat → List Nat → Nat → Prop
  | nil (x : Nat) : Chain D x [] x
  | cons {x e y : Nat} {c : List Nat} : e ∈ row D x → Chain D (seat D (mate e)) c y → Chain D x (e :: c) y
theorem Chain.app {D : List (List Nat)} {x y z : Nat} {c c' : List Nat} (h : Chain D x c y) (h' : Chain D y c' z) : Chain D x (c ++ c') z := by
  induction h with
  | nil => exact h'
  | cons he _ ih => exact .cons he (ih h')
theorem Chain.split {D : List (List Nat)} {x z : Nat} : ∀ {c c' : List Nat}, Chain D x (c ++ c') z → ∃ y, Chain D x c y ∧ Chain D y c' z
  | [], _, h => ⟨x, .nil x, h⟩
  | e :: c, c', h => by
    cases h with
    | cons he h' =>
      obtain ⟨y, h1, h2⟩ := Chain.split h'
      exact ⟨y, .cons he h1, h2⟩
theorem Chain.rev {D : List (List Nat)} {m x y : Nat} {c : List Nat} (hD : Dr D m) (h : Chain D x c y) : Chain D y (c.reverse.map mate) x := by
  induction h with
  | nil => exact .nil _
  | @cons x e y c he _ ih =>
    obtain ⟨hlt, hs⟩ := row_end hD he
    rw [List.reverse_cons, List.map_append]
    refine ih.app ?_
    refine .cons (mem_row hD (mate_lt hlt)) ?_
    rw [mate_mate, hs]
    exact .nil _
theorem Chain.last {D : List (List Nat)} {x y y' : Nat} {c : List Nat} (h : Chain D x c y) (h' : Chain D x c y') : y = y' := by
  induction h with
  | nil => cases h'; rfl
  | cons he _ ih => cases h' with | cons _ h2 => exact ih h2
theorem Chain.reach {D : List (List Nat)} {x y : Nat} {c : List Nat} (h : Chain D x c y) : Reach D x y := by
  induction h with
  | nil => exact .refl
  | cons he _ ih => exact Reach.trans (.step .refl he) ih
theorem Chain.of_reach {D : List (List Nat)} {x y : Nat} (h : Reach D x y) : ∃ c, Chain D x c y := by
  induction h with
  | refl => exact ⟨[], .nil _⟩
  | @step p e _ he ih =>
    obtain ⟨c, hc⟩ := ih
    exact ⟨c ++ [e], hc.app (.cons he (.nil _))⟩
theorem Chain.ends {D : List (List Nat)} {m x y : Nat} {c : List Nat} (hD : Dr D m) (h : Chain D x c y) : ∀ e ∈ c, e < 2 * m := by
  induction h with
  | nil => intro e he; cases he
  | cons he _ ih =>
    intro e' he'
    rcases List.mem_cons.mp he' with rfl | h
    · exact (row_end hD he).1
    · exact ih e' h
/-- where it goes, end by end -/
theorem Chain.at {D : List (List Nat)} {m x y : Nat} {c : List Nat} (hD : Dr D m) (h : Chain D x c y) : (∀ e, c[0]? = some e → seat D e = x) ∧ (∀ (i : Nat) e f, c[i]? = some e → c[i + 1]? = some f → seat D f = seat D (mate e)) ∧ (∀ e, c.getLast? = some e → seat D (mate e) = y) := by
  induction h with
  | nil => exact ⟨fun e h => by simp at h, fun i e f h => by simp at h, fun e h => by simp at h⟩
  | @cons x e y c he hc ih =>
    obtain ⟨i1, i2, i3⟩ := ih
    refine ⟨fun e' h => ?_, fun i e' f h1 h2 => ?_, fun e' h => ?_⟩
    · cases Option.some.inj h
      exact (row_end hD he).2
    · cases i with
      | zero =>
        cases Option.some.inj h1
        exact i1 f (by simpa using h2)
      | succ i => exact i2 i e' f (by simpa using h1) (by simpa using h2)
    · cases c with
      | nil =>
        cases hc
        cases Option.some.inj h
        rfl
      | cons a r =>
        rw [List.getLast?_cons_cons] at h
        exact i3 e' h
theorem Chain.walk {D : List (List Nat)} {m x : Nat} {w : List Nat} (hD : Dr D m) (h : Chain D x w x) : IsWalk D m w := by
  obtain ⟨h1, h2, h3⟩ := h.at hD
  refine ⟨h.ends hD, fun i hi => ?_⟩
  cases i with
  | zero =>
    have e1 : (0 + (w.length - 1)) % w.length = w.length - 1 := by
      rw [Nat.zero_add]
      exact Nat.mod_eq_of_lt (by omega)
    rw [e1]
    have hl : w.length - 1 < w.length := by omega
    rw [h1 _ (get_getD hi)]
    refine h3 _ ?_
    rw [List.getLast?_eq_getElem?, get_getD hl]
  | succ i =>
    have e1 : (i + 1 + (w.length - 1)) % w.length = i := by
      have : i + 1 + (w.length - 1) = i + w.length := by omega
      rw [this, Nat.add_mod_right]
      exact Nat.mod_eq_of_lt (by omega)
    rw [e1]
    exact (h2 i _ _ (get_getD (by omega)) (get_getD hi)).symm
/-! the tree's ways -/
theorem path_chain {D : List (List Nat)} {root : Nat} {T : List (Nat × Nat)} (h : IsTree D root T) : ∀ (n x : Nat), x ∈ tkeys root T → (path D T x).length = n → Chain D x (path D T x) root
  | n, x, hx, hn => by
    by_cases hr : x = root
    · subst hr
      rw [path_root h]
      exact .nil _
    · obtain ⟨i, e, hi⟩ := tree_entry hx hr
      obtain ⟨h1, _⟩ := path_step h hi
      obtain ⟨he, hp⟩ := h.edge i x e hi
      rw [h1]
      refine .cons he (path_chain h _ _ (tkeys_take hp) rfl)
  termination_by n => n
  decreasing_by
    rw [h1, List.length_cons] at hn
    omega
/-- an end on a way is the entry of its place; the rest is the way from where it leads -/
theorem path_suffix {D : List (List Nat)} {m root : Nat} {T : List (Nat × Nat)} (hD : Dr D m) (h : IsTree D root T) : ∀ (a : List Nat) (x e : Nat) (b : List Nat), x ∈ tkeys root T → path D T x = a ++ e :: b → (seat D e, e) ∈ T ∧ seat D e ∈ tkeys root T ∧ path D T (seat D e) = e :: b ∧ seat D (mate e) ∈ tkeys root T ∧ path D T (seat D (mate e)) = b
  | a, x, e, b, hx, hp => by
    by_cases hr : x = root
    · subst hr
      rw [path_root h] at hp
      cases a <;> cases hp
    · obtain ⟨i, e', hi⟩ := tree_entry hx hr
      obtain ⟨h1, _⟩ := path_step h hi
      obtain ⟨he, hpar⟩ := h.edge i x e' hi
      rw [h1] at hp
      cases a with
      | nil =>
        obtain ⟨rfl, rfl⟩ := List.cons.inj hp
        have hs := (row_end hD he).2
        rw [hs]
        exact ⟨List.mem_of_getElem? hi, hx, h1, tkeys_take hpar, rfl⟩
      | cons a0 a =>
        have h3 := (List.cons.inj hp).2
        exact path_suffix hD h a _ e b (tkeys_take hpar) h3
/-- the breadth-first way is a shortest one -/
theorem bfs_min {D : List (List Nat)} {m root x : Nat} {T : List (Nat × Nat)} {c : List Nat} (hD : Dr D m) (h : IsBfs D root T) (hc : Chain D x c root) : x ∈ tkeys root T ∧ (path D T x).length ≤ c.length := by
  have hx : x ∈ tkeys root T := h.all x (Reach.symm hD hc.reach)
  refine ⟨hx, ?_⟩
  obtain ⟨d, d0, dp, dn⟩ := h.dist
  have h1 : ∀ n y, y ∈ tkeys root T → (path D T y).length = n → d y = (path D T y).length := by
    intro n
    induction n with
    | zero =>
      intro y hy hn
      by_cases hr : y = root
      · subst hr; rw [path_root h.tree, d0]; rfl
      · obtain ⟨i, e, hi⟩ := tree_entry hy hr
        rw [(path_step h.tree hi).1, List.length_cons] at hn
        omega
    | succ n ih =>
      intro y hy hn
      by_cases hr : y = root
      · subst hr; rw [path_root h.tree, d0]; rfl
      · obtain ⟨i, e, hi⟩ := tree_entry hy hr
        have hs := (path_step h.tree hi).1
        rw [hs, List.length_cons] at hn ⊢
        have hp := tkeys_take (h.tree.edge i y e hi).2
        rw [dp y e (List.mem_of_getElem? hi), ih _ hp (by omega)]
  rw [← h1 _ x hx rfl]
  have h2 : ∀ {x c y}, Chain D x c y → y = root → d x ≤ c.length := by
    intro x c y hc
    induction hc with
    | nil => intro e; rw [e, d0]; exact Nat.zero_le _
    | @cons x e y c he hc' ih =>
      intro ey
      have := ih ey
      have hlt := (row_end hD he).1
      have hq : seat D (mate e) ∈ tkeys root T := h.all _ (Reach.symm hD (ey ▸ hc'.reach))
      have := dn (seat D (mate e)) hq (mate e) (mem_row hD (mate_lt hlt))
      rw [mate_mate, (row_end hD he).2] at this
      rw [List.length_cons]
      omega
  exact h2 hc rfl
end RF
namespace RF
/-! ### plain: the round along a tie beyond the tree -/
theorem nodup_of_idx {l : List Nat} (h : ∀ (i j : Nat) x, i < j → l[i]? = some x → l[j]? = some x → False) : l.Nodup := by
  refine List.pairwise_iff_getElem.mpr fun i j hi hj hij e => ?_
  exact h i j l[i] hij (List.getElem?_eq_getElem hi) (by rw [List.getElem?_eq_getElem hj, e])
theorem split_at' {l : List Nat} {i x : Nat} (h : l[i]? = some x) : l = l.take i ++ x :: l.drop (i + 1) := by
  have hi := (List.getElem?_eq_some_iff.mp h).1
  have e := (List.getElem?_eq_some_iff.mp h).2
  have h1 : l.drop i = x :: l.drop (i + 1) := by rw [List.drop_eq_getElem_cons hi, e]
  rw [← h1, List.take_append_drop]
theorem last_app (a : List Nat) (x : Nat) (b : List Nat) : (a ++ x :: b).getLast? = (x :: b).getLast? := by
  rw [List.getLast?_append, List.getLast?_eq_getLast (List.cons_ne_nil x b)]; rfl
/-- an end's entry -/
def Ent (D : List (List Nat)) (T : List (Nat × Nat)) (e : Nat) : Prop := (seat D e, e) ∈ T
theorem ent_half {D : List (List Nat)} {m root : Nat} {T : List (Nat × Nat)} (hD : Dr D m) (h : IsTree D root T) {a b : Nat} (ha : Ent D T a) (hb : Ent D T b) (e : a / 2 = b / 2) : a = b := by
  rcases half_eq e with h1 | h1
  · exact h1
  · obtain ⟨i, hi⟩ := List.getElem?_of_mem ha
    obtain ⟨j, hj⟩ := List.getElem?_of_mem hb
    have l1 := congrArg List.length (path_step h hi).1
    have l2 := congrArg List.length (path_step h hj).1
    have e2 : mate a = b := by rw [h1, mate_mate]
    rw [List.length_cons, e2] at l1
    rw [List.length_cons, ← h1] at l2
    omega
theorem ent_tie {T : List (Nat × Nat)} {D : List (List Nat)} {e : Nat} (h : Ent D T e) : e / 2 ∈ ties T := List.mem_map.mpr ⟨_, h, rfl⟩
structure AlongOk (D : List (List Nat)) (m : Nat) (T : List (Nat × Nat)) (e : Nat) (w : List Nat) : Prop where
  round : IsRound D m w
  first : w[0]? = some e
  tree : ∀ x ∈ w, x / 2 = e / 2 ∨ x / 2 ∈ ties T
theorem along_ok {D : List (List Nat)} {m root e : Nat} {T : List (Nat × Nat)} {o k s : List Nat} (hD : Dr D m) (h : IsTree D root T) (he : e < 2 * m) (h1 : seat D e ∈ tkeys root T) (h2 : seat D (mate e) ∈ tkeys root T) (ht : e / 2 ∉ ties T)
    (p1 : path D T (seat D (mate e)) = o ++ s) (p2 : path D T (seat D e) = k ++ s) (hend : o = [] ∨ k = [] ∨ o.getLast? ≠ k.getLast?) : AlongOk D m T e ([e] ++ o ++ k.reverse.map mate) := by
  -- the ends of both ways
  have eo : ∀ a x b, o = a ++ x :: b → Ent D T x ∧ path D T (seat D x) = x :: b ++ s ∧ path D T (seat D (mate x)) = b ++ s := fun a x b z => by
    have := path_suffix hD h a _ x (b ++ s) h2 (by rw [p1, z, List.append_assoc]; rfl)
    exact ⟨this.1, this.2.2.1, this.2.2.2.2⟩
  have ek : ∀ a x b, k = a ++ x :: b → Ent D T x ∧ path D T (seat D x) = x :: b ++ s ∧ path D T (seat D (mate x)) = b ++ s := fun a x b z => by
    have := path_suffix hD h a _ x (b ++ s) h1 (by rw [p2, z, List.append_assoc]; rfl)
    exact ⟨this.1, this.2.2.1, this.2.2.2.2⟩
  have mo : ∀ x ∈ o, Ent D T x := fun x hx => by
    obtain ⟨a, b, z⟩ := List.append_of_mem hx
    exact (eo a x b z).1
  have mk : ∀ x ∈ k, Ent D T x := fun x hx => by
    obtain ⟨a, b, z⟩ := List.append_of_mem hx
    exact (ek a x b z).1
  -- both come to one place
  have c1 := path_chain h _ _ h2 rfl
  have c2 := path_chain h _ _ h1 rfl
  rw [p1] at c1
  rw [p2] at c2
  obtain ⟨z, o1, s1⟩ := c1.split
  obtain ⟨z', k1, s2⟩ := c2.split
  have ez : z = z' := by
    cases s with
    | nil => cases s1; cases s2; rfl
    | cons x r =>
      cases s1 with
      | cons hx _ =>
        cases s2 with
        | cons hx' _ => exact (row_end hD hx).2.symm.trans (row_end hD hx').2
  subst ez
  have ch : Chain D (seat D e) ([e] ++ o ++ k.reverse.map mate) (seat D e) := by
    refine Chain.app ?_ (k1.rev hD)
    exact .cons (mem_row hD he) o1
  -- places
  have uo : (o.map (seat D)).Nodup := by
    refine nodup_of_idx fun i j x hij hi hj => ?_
    rw [List.getElem?_map] at hi hj
    cases ho : o[i]? with
    | none => rw [ho] at hi; cases hi
    | some a =>
      cases ho' : o[j]? with
      | none => rw [ho'] at hj; cases hj
      | some b =>
        rw [ho] at hi
        rw [ho'] at hj
        have z' : seat D a = seat D b := (Option.some.inj hi).trans (Option.some.inj hj).symm
        have q1 := (eo _ _ _ (split_at' ho)).2.1
        have q2 := (eo _ _ _ (split_at' ho')).2.1
        rw [z', q2] at q1
        have := congrArg List.length q1
        have h1 := (List.getElem?_eq_some_iff.mp ho).1
        have h2 := (List.getElem?_eq_some_iff.mp ho').1
        simp only [List.length_append, List.length_cons, List.length_drop] at this
        omega
  have vk : (seat D e :: k.map fun x => seat D (mate x)).Nodup := by
    have hl : ∀ (i : Nat) y, (seat D e :: k.map fun x => seat D (mate x))[i]? = some y → (path D T y).length = k.length - i + s.length := fun i y hi => by
      cases i with
      | zero =>
        cases Option.some.inj hi
        rw [p2, List.length_append, Nat.sub_zero]
      | succ i =>
        rw [List.getElem?_cons_succ, List.getElem?_map] at hi
        cases hk : k[i]? with
        | none => rw [hk] at hi; cases hi
        | some x =>
          rw [hk] at hi
          cases Option.some.inj hi
          have hil := (List.getElem?_eq_some_iff.mp hk).1
          have hx := (List.getElem?_eq_some_iff.mp hk).2
          have q := (ek _ _ _ (split_at' hk)).2.2
          rw [q, List.length_append, List.length_drop]
    refine nodup_of_idx fun i j x hij hi hj => ?_
    have a1 := hl i _ hi
    have a2 := hl j _ hj
    have hj' := (List.getElem?_eq_some_iff.mp hj).1
    rw [List.length_cons, List.length_map] at hj'
    omega
  have pv : ∀ y ∈ (seat D e :: k.map fun x => seat D (mate x)), ∃ a b, k = a ++ b ∧ path D T y = b ++ s := fun y hy => by
    rcases List.mem_cons.mp hy with rfl | hy
    · exact ⟨[], k, rfl, p2⟩
    · obtain ⟨x, hx, rfl⟩ := List.mem_map.mp hy
      obtain ⟨a, b, z⟩ := List.append_of_mem hx
      exact ⟨a ++ [x], b, by rw [List.append_assoc]; exact z, (ek a x b z).2.2⟩
  have disj : ∀ x ∈ o, ∀ y ∈ (seat D e :: k.map fun x => seat D (mate x)), seat D x ≠ y := fun x hx y hy ee => by
    obtain ⟨a, b, za⟩ := List.append_of_mem hx
    obtain ⟨a', b', zb, zp⟩ := pv y hy
    have q := (eo a x b za).2.1
    rw [ee, zp] at q
    have q' := List.append_cancel_right q
    subst q'
    rcases hend with z | z | z
    · rw [z] at hx; cases hx
    · rw [z] at zb; cases a' <;> cases zb
    · apply z
      rw [za, zb, last_app, last_app]
  refine ⟨⟨ch.walk hD, by simp, ?_, ?_⟩, rfl, fun x hx => ?_⟩
  · have e1 : ([e] ++ o ++ k.reverse.map mate).map (seat D) = seat D e :: (o.map (seat D) ++ (k.map fun x => seat D (mate x)).reverse) := by
      rw [List.map_append, List.map_append, List.map_map, ← List.map_reverse]
      rfl
    rw [e1]
    have pm : (seat D e :: (o.map (seat D) ++ (k.map fun x => seat D (mate x)).reverse)).Perm (o.map (seat D) ++ (seat D e :: k.map fun x => seat D (mate x))) := by
      refine List.Perm.trans (List.Perm.cons _ (List.Perm.append_left _ (List.reverse_perm _))) ?_
      exact List.perm_middle.symm
    rw [pm.nodup_iff, List.nodup_append]
    refine ⟨uo, vk, fun x hx y hy => ?_⟩
    obtain ⟨x', hx', rfl⟩ := List.mem_map.mp hx
    exact disj x' hx' y hy
  · have e1 : ([e] ++ o ++ k.reverse.map mate).map (· / 2) = e / 2 :: (o.map (· / 2) ++ (k.map (· / 2)).reverse) := by
      rw [List.map_append, List.map_append, List.map_map, ← List.map_reverse]
      show _ :: (_ ++ _) = _
      congr 2
      exact List.map_congr_left fun x _ => mate_half x
    rw [e1]
    have ndk : k.Nodup := by
      have hkk : (k.map (seat D)).Nodup := by
        refine nodup_of_idx fun i j x hij hi hj => ?_
        rw [List.getElem?_map] at hi hj
        cases ho : k[i]? with
        | none => rw [ho] at hi; cases hi
        | some a =>
          cases ho' : k[j]? with
          | none => rw [ho'] at hj; cases hj
          | some b =>
            rw [ho] at hi
            rw [ho'] at hj
            have z' : seat D a = seat D b := (Option.some.inj hi).trans (Option.some.inj hj).symm
            have q1 := (ek _ _ _ (split_at' ho)).2.1
            have q2 := (ek _ _ _ (split_at' ho')).2.1
            rw [z', q2] at q1
            have := congrArg List.length q1
            have h1 := (List.getElem?_eq_some_iff.mp ho).1
            have h2 := (List.getElem?_eq_some_iff.mp ho').1
            simp only [List.length_append, List.length_cons, List.length_drop] at this
            omega
      exact List.Pairwise.of_map (seat D) (fun a b hab e => hab (e ▸ rfl)) hkk
    have ndo : o.Nodup := List.Pairwise.of_map (seat D) (fun a b hab e => hab (e ▸ rfl)) uo
    have ndok : (o ++ k).Nodup := by
      rw [List.nodup_append]
      refine ⟨ndo, ndk, fun x hx y hy ee => ?_⟩
      subst ee
      obtain ⟨a, b, zb⟩ := List.append_of_mem hy
      cases a with
      | nil =>
        refine disj x hx (seat D e) List.mem_cons_self ?_
        have q := (ek [] x b zb).2.1
        have q2 : path D T (seat D e) = x :: (b ++ s) := by rw [p2, zb]; rfl
        have := path_suffix hD h [] _ x (b ++ s) h1 q2
        have hc := path_chain h _ _ h1 rfl
        rw [q2] at hc
        cases hc with | cons hx _ => exact (row_end hD hx).2
      | cons a0 ar =>
        -- the place of x is where the end ahead of it leads
        have hn : (a0 :: ar) ≠ [] := List.cons_ne_nil _ _
        have zl : a0 :: ar = (a0 :: ar).dropLast ++ [(a0 :: ar).getLast hn] := (List.dropLast_concat_getLast hn).symm
        have zb2 : k = (a0 :: ar).dropLast ++ (a0 :: ar).getLast hn :: (x :: b) := by
          rw [zb]
          conv => lhs; rw [zl]
          rw [List.append_assoc]; rfl
        have hmem : (a0 :: ar).getLast hn ∈ k := by rw [zb2]; exact List.mem_append_right _ List.mem_cons_self
        refine disj x hx (seat D (mate ((a0 :: ar).getLast hn))) (List.mem_cons_of_mem _ (List.mem_map.mpr ⟨_, hmem, rfl⟩)) ?_
        have := (k1.at hD).2.1 ((a0 :: ar).dropLast.length) ((a0 :: ar).getLast hn) x (by rw [zb2, List.getElem?_append_right (Nat.le_refl _), Nat.sub_self]; rfl) (by rw [zb2, List.getElem?_append_right (by omega)]; rw [show (a0 :: ar).dropLast.length + 1 - (a0 :: ar).dropLast.length = 1 by omega]; rfl)
        exact this
    have hE : ∀ x ∈ o ++ k, Ent D T x := fun x hx => (List.mem_append.mp hx).elim (mo x) (mk x)
    have ndt : ((o ++ k).map (· / 2)).Nodup := by
      refine List.pairwise_map.mpr (ndok.imp_of_mem fun {a b} ha hb hab ee => hab (ent_half hD h (hE a ha) (hE b hb) ee))
    have pm : (e / 2 :: (o.map (· / 2) ++ (k.map (· / 2)).reverse)).Perm (e / 2 :: (o ++ k).map (· / 2)) := by
      rw [List.map_append]
      exact List.Perm.cons _ (List.Perm.append_left _ (List.reverse_perm _))
    rw [pm.nodup_iff, List.nodup_cons]
    refine ⟨fun z => ?_, ndt⟩
    obtain ⟨x, hx, ex⟩ := List.mem_map.mp z
    exact ht (ex ▸ ent_tie (hE x hx))
  · rcases List.mem_append.mp hx with hx | hx
    · rcases List.mem_append.mp hx with hx | hx
      · cases List.mem_singleton.mp hx
        exact .inl rfl
      · exact .inr (ent_tie (mo x hx))
    · obtain ⟨y, hy, rfl⟩ := List.mem_map.mp hx
      rw [mate_half]
      exact .inr (ent_tie (mk y (List.mem_reverse.mp hy)))
end RF
namespace RF
/-! ### plain: where the ends stand in the cut drawing -/
theorem flat_nodup_of : ∀ {R : List (List Nat)}, (∀ (i : Nat) r, R[i]? = some r → r.Nodup) → (∀ (i j : Nat) r q x, R[i]? = some r → R[j]? = some q → x ∈ r → x ∈ q → i = j) → R.flatten.Nodup
  | [], _, _ => by simp
  | a :: R, h1, h2 => by
    rw [List.flatten_cons, List.nodup_append]
    refine ⟨h1 0 a rfl, flat_nodup_of (fun i r h => h1 (i + 1) r h) (fun i j r q x e1 e2 m1 m2 => ?_), fun x hx y hy e => ?_⟩
    · have := h2 (i + 1) (j + 1) r q x e1 e2 m1 m2
      omega
    · subst e
      obtain ⟨i, r, hi, hr⟩ := mem_flat.mp hy
      have := h2 0 (i + 1) a r x rfl hi hx hr
      omega
theorem ixget {l : List Nat} {x : Nat} (h : x ∈ l) : l[l.idxOf x]? = some x := by
  have hk : l.idxOf x < l.length := List.idxOf_lt_length_iff.mpr h
  rw [List.getElem?_eq_getElem hk, List.getElem_idxOf hk]
def tix (D : List (List Nat)) (w : List Nat) (x : Nat) : Nat := (w.map (seat D)).idxOf (seat D x)
def cs (D : List (List Nat)) (m : Nat) (w : List Nat) (x : Nat) : Nat :=
  if x < 2 * m then (if tix D w x < w.length ∧ x ∉ cutL D w (tix D w x) then D.length + tix D w x else seat D x)
  else if x % 2 = 0 then D.length + (x - 2 * m) / 2 else D.length + ((x - 2 * m) / 2 + 1) % w.length
section
variable {D : List (List Nat)} {m : Nat} {w : List Nat} {R : List (List Nat)}
theorem tix_at (hR : IsRound D m w) {i x : Nat} (hi : i < w.length) (hs : seat D x = seat D (w.getD i 0)) : tix D w x = i := by
  unfold tix
  refine idxOf_get hR.places ?_
  rw [List.getElem?_map, get_getD hi, hs]; rfl
theorem tix_mem {x : Nat} (h : seat D x ∈ w.map (seat D)) : tix D w x < w.length ∧ seat D (w.getD (tix D w x) 0) = seat D x := by
  have h1 : (w.map (seat D))[tix D w x]? = some (seat D x) := ixget h
  have hl := (List.getElem?_eq_some_iff.mp h1).1
  rw [List.length_map] at hl
  rw [List.getElem?_map, get_getD hl] at h1
  exact ⟨hl, Option.some.inj h1⟩
theorem tix_no {x : Nat} (h : ∀ i, i < w.length → seat D (w.getD i 0) ≠ seat D x) : ¬ tix D w x < w.length := by
  intro z
  have hz : tix D w x < (w.map (seat D)).length := by rw [List.length_map]; exact z
  have hm : seat D x ∈ w.map (seat D) := List.idxOf_lt_length_iff.mp hz
  exact h _ z (tix_mem hm).2
theorem tix_or (x : Nat) : (tix D w x < w.length ∧ seat D (w.getD (tix D w x) 0) = seat D x) ∨ ∀ i, i < w.length → seat D (w.getD i 0) ≠ seat D x := by
  by_cases hm : seat D x ∈ w.map (seat D)
  · exact .inl (tix_mem hm)
  · exact .inr fun i hi e => hm (by rw [← e]; exact List.mem_map.mpr ⟨_, List.mem_of_getElem? (get_getD hi), rfl⟩)
theorem ring_nodup (hD : Dr D m) (hR : IsRound D m w) {i : Nat} (hi : i < w.length) : (ringAt D w i).Nodup :=
  (ring_perm D w i).nodup_iff.mpr (row_nodup hD.nd (row_get (seat_lt hD (hR.lt hi))))
theorem ring_split (i : Nat) : ringAt D w i = cutL D w i ++ (ringAt D w i).drop (cutIx D w i + 1) := (List.take_append_drop _ _).symm
theorem mem_ring (hD : Dr D m) (hR : IsRound D m w) {i x : Nat} (hi : i < w.length) : x ∈ ringAt D w i ↔ x < 2 * m ∧ seat D x = seat D (w.getD i 0) := by
  rw [(ring_perm D w i).mem_iff, mem_row_iff hD]
theorem cutL_mem (hD : Dr D m) (hR : IsRound D m w) {i x : Nat} (hi : i < w.length) (hx : x ∈ cutL D w i) : x < 2 * m ∧ seat D x = seat D (w.getD i 0) :=
  (mem_ring hD hR hi).mp (List.mem_of_mem_take hx)
/-- each row of the cut drawing: where its ends stand -/
theorem cs_row (hD : Dr D m) (hR : IsRound D m w) (hC : CutJ D m w w.length R) {q x : Nat} {r : List Nat} (hq : R[q]? = some r) (hx : x ∈ r) : x < 2 * (m + w.length) ∧ cs D m w x = q := by
  have hql : q < D.length + w.length := by rw [← hC.len]; exact (List.getElem?_eq_some_iff.mp hq).1
  by_cases hqn : q < D.length
  · by_cases ht : ∀ i, i < w.length → seat D (w.getD i 0) ≠ q
    · -- an old row
      rw [hC.old q hqn ht] at hq
      cases Option.some.inj hq
      obtain ⟨h1, h2⟩ := row_end hD hx
      refine ⟨by omega, ?_⟩
      unfold cs
      rw [if_pos h1, if_neg fun z => tix_no (x := x) (fun i hi => by rw [h2]; exact ht i hi) z.1, h2]
    · -- a left row
      obtain ⟨i, hi⟩ := Classical.not_forall.mp ht
      obtain ⟨hi, e⟩ := Classical.not_imp.mp hi
      have e := Classical.not_not.mp e
      obtain ⟨l, h1, h2⟩ := hC.left i hi
      rw [e, hq] at h1
      cases Option.some.inj h1
      have hx' := h2.mem_iff.mp hx
      obtain ⟨h3, h4⟩ := cutL_mem hD hR hi hx'
      refine ⟨by omega, ?_⟩
      unfold cs
      rw [if_pos h3, tix_at hR hi h4, if_neg fun z => z.2 hx', h4, e]
  · -- a right row
    obtain ⟨i, rfl⟩ : ∃ i, q = D.length + i := ⟨q - D.length, by omega⟩
    have hi : i < w.length := by omega
    obtain ⟨l, h1, h2⟩ := hC.right i hi
    rw [hq] at h1
    cases Option.some.inj h1
    have hx' := h2.mem_iff.mp hx
    unfold cutR at hx'
    rw [List.mem_append, List.mem_append, List.mem_singleton, List.mem_singleton] at hx'
    rcases hx' with (h3 | h3) | h3
    · refine ⟨by omega, ?_⟩
      unfold cs
      rw [if_neg (by omega), if_pos (by omega), h3]
      congr 1
      omega
    · have hm : x ∈ ringAt D w i := List.mem_of_mem_drop h3
      obtain ⟨h4, h5⟩ := (mem_ring hD hR hi).mp hm
      refine ⟨by omega, ?_⟩
      unfold cs
      have hn : x ∉ cutL D w i := fun z => by
        have nd := ring_nodup hD hR hi
        rw [ring_split i, List.nodup_append] at nd
        exact nd.2.2 x z x h3 rfl
      rw [if_pos h4, tix_at hR hi h5, if_pos ⟨hi, hn⟩]
    · have hlt : (i + (w.length - 1)) % w.length < w.length := Nat.mod_lt _ (by omega)
      have hmod : ((i + (w.length - 1)) % w.length + 1) % w.length = i := by
        rw [Nat.mod_add_mod]
        have : i + (w.length - 1) + 1 = i + w.length := by omega
        rw [this, Nat.add_mod_right]
        exact Nat.mod_eq_of_lt hi
      refine ⟨by omega, ?_⟩
      unfold cs
      rw [if_neg (by omega), if_neg (by omega), h3]
      have : (2 * m + 2 * ((i + (w.length - 1)) % w.length) + 1 - 2 * m) / 2 = (i + (w.length - 1)) % w.length := by omega
      rw [this, hmod]
theorem cs_in (hD : Dr D m) (hR : IsRound D m w) (hC : CutJ D m w w.length R) {x : Nat} (hx : x < 2 * (m + w.length)) : ∃ r, R[cs D m w x]? = some r ∧ x ∈ r := by
  by_cases h : x < 2 * m
  · rcases tix_or (D := D) (w := w) x with ⟨h1, h2⟩ | h1
    · have hm : x ∈ ringAt D w (tix D w x) := (mem_ring hD hR h1).mpr ⟨h, h2.symm⟩
      by_cases hc : x ∈ cutL D w (tix D w x)
      · obtain ⟨l, e1, e2⟩ := hC.left _ h1
        have e : cs D m w x = seat D x := by unfold cs; rw [if_pos h, if_neg fun z => z.2 hc]
        rw [e, ← h2]
        exact ⟨l, e1, e2.mem_iff.mpr hc⟩
      · obtain ⟨l, e1, e2⟩ := hC.right _ h1
        have e : cs D m w x = D.length + tix D w x := by unfold cs; rw [if_pos h, if_pos ⟨h1, hc⟩]
        rw [e]
        refine ⟨l, e1, e2.mem_iff.mpr ?_⟩
        rw [ring_split] at hm
        unfold cutR
        rcases List.mem_append.mp hm with z | z
        · exact absurd z hc
        · exact List.mem_append_left _ (List.mem_append_right _ z)
    · have e : cs D m w x = seat D x := by unfold cs; rw [if_pos h, if_neg fun z => tix_no h1 z.1]
      rw [e]
      exact ⟨_, hC.old _ (seat_lt hD h) h1, mem_row hD h⟩
  · by_cases h2 : x % 2 = 0
    · have e : cs D m w x = D.length + (x - 2 * m) / 2 := by unfold cs; rw [if_neg h, if_pos h2]
      obtain ⟨l, e1, e2⟩ := hC.right ((x - 2 * m) / 2) (by omega)
      rw [e]
      refine ⟨l, e1, e2.mem_iff.mpr ?_⟩
      unfold cutR
      refine List.mem_append_left _ (List.mem_append_left _ (List.mem_singleton.mpr ?_))
      omega
    · have e : cs D m w x = D.length + ((x - 2 * m) / 2 + 1) % w.length := by unfold cs; rw [if_neg h, if_neg h2]
      have hk : (x - 2 * m) / 2 < w.length := by omega
      obtain ⟨l, e1, e2⟩ := hC.right (((x - 2 * m) / 2 + 1) % w.length) (Nat.mod_lt _ (by omega))
      rw [e]
      refine ⟨l, e1, e2.mem_iff.mpr ?_⟩
      unfold cutR
      refine List.mem_append_right _ (List.mem_singleton.mpr ?_)
      have : (((x - 2 * m) / 2 + 1) % w.length + (w.length - 1)) % w.length = (x - 2 * m) / 2 := by
        rw [Nat.mod_add_mod]
        have : (x - 2 * m) / 2 + 1 + (w.length - 1) = (x - 2 * m) / 2 + w.length := by omega
        rw [this, Nat.add_mod_right]
        exact Nat.mod_eq_of_lt hk
      rw [this]
      omega
theorem cutR_nodup (hD : Dr D m) (hR : IsRound D m w) {i : Nat} (hi : i < w.length) : (cutR D m w i).Nodup := by
  unfold cutR
  have nd := ring_nodup hD hR hi
  have hlt : ∀ x ∈ (ringAt D w i).drop (cutIx D w i + 1), x < 2 * m := fun x hx => ((mem_ring hD hR hi).mp (List.mem_of_mem_drop hx)).1
  rw [List.nodup_append, List.nodup_append]
  refine ⟨⟨by simp, List.Nodup.sublist (List.drop_sublist _ _) nd, fun x hx y hy => ?_⟩, by simp, fun x hx y hy => ?_⟩
  · have := hlt y hy
    have := List.mem_singleton.mp hx
    omega
  · have h1 := List.mem_singleton.mp hy
    rcases List.mem_append.mp hx with h2 | h2
    · have := List.mem_singleton.mp h2
      omega
    · have := hlt x h2
      omega
theorem cut_dr (hD : Dr D m) (hR : IsRound D m w) (hC : CutJ D m w w.length R) : Dr R (m + w.length) := by
  refine ⟨flat_nodup_of (fun q r hq => ?_) (fun i j r q x h1 h2 m1 m2 => (cs_row hD hR hC h1 m1).2.symm.trans (cs_row hD hR hC h2 m2).2), fun x => ⟨fun hx => ?_, fun hx => ?_⟩⟩
  · have hql : q < D.length + w.length := by rw [← hC.len]; exact (List.getElem?_eq_some_iff.mp hq).1
    by_cases hqn : q < D.length
    · by_cases ht : ∀ i, i < w.length → seat D (w.getD i 0) ≠ q
      · rw [hC.old q hqn ht] at hq
        cases Option.some.inj hq
        exact row_nodup hD.nd (row_get hqn)
      · obtain ⟨i, hi⟩ := Classical.not_forall.mp ht
        obtain ⟨hi, e⟩ := Classical.not_imp.mp hi
        have e := Classical.not_not.mp e
        obtain ⟨l, h1, h2⟩ := hC.left i hi
        rw [e, hq] at h1
        cases Option.some.inj h1
        rw [h2.nodup_iff]
        exact List.Nodup.sublist (List.take_sublist _ _) (ring_nodup hD hR hi)
    · obtain ⟨i, rfl⟩ : ∃ i, q = D.length + i := ⟨q - D.length, by omega⟩
      obtain ⟨l, h1, h2⟩ := hC.right i (by omega)
      rw [hq] at h1
      cases Option.some.inj h1
      rw [h2.nodup_iff]
      exact cutR_nodup hD hR (by omega)
  · obtain ⟨q, r, hq, hr⟩ := mem_flat.mp hx
    exact (cs_row hD hR hC hq hr).1
  · obtain ⟨r, hr, hm⟩ := cs_in hD hR hC hx
    exact mem_flat.mpr ⟨_, r, hr, hm⟩
theorem cut_seat (hD : Dr D m) (hR : IsRound D m w) (hC : CutJ D m w w.length R) {x : Nat} (hx : x < 2 * (m + w.length)) : seat R x = cs D m w x := by
  obtain ⟨r, hr, hm⟩ := cs_in hD hR hC hx
  exact seat_at (cut_dr hD hR hC).nd hr hm
/-! the ends of the turn in the cut drawing -/
theorem b_left (hD : Dr D m) (hR : IsRound D m w) {i : Nat} (hi : i < w.length) : w.getD i 0 ∈ cutL D w i := by
  have h := ring_mem hD hR hi
  have hk : cutIx D w i < (ringAt D w i).length := List.idxOf_lt_length_iff.mpr h
  have e : (ringAt D w i)[cutIx D w i]? = some (w.getD i 0) := ixget h
  exact List.mem_of_getElem? (i := cutIx D w i) (by unfold cutL; rw [List.getElem?_take, if_pos (by omega)]; exact e)
theorem ring_zero (hD : Dr D m) (hR : IsRound D m w) {i : Nat} (hi : i < w.length) : (ringAt D w i)[0]? = some (mate (prv w i)) := by
  have h := come_mem hD hR hi
  have hk : (row D (seat D (w.getD i 0))).idxOf (mate (prv w i)) < (row D (seat D (w.getD i 0))).length := List.idxOf_lt_length_iff.mpr h
  unfold ringAt
  rw [List.getElem?_append_left (by rw [List.length_drop]; omega), List.getElem?_drop, Nat.add_zero, ixget h]
theorem a_left (hD : Dr D m) (hR : IsRound D m w) {i : Nat} (hi : i < w.length) : mate (prv w i) ∈ cutL D w i :=
  List.mem_of_getElem? (i := 0) (by unfold cutL; rw [List.getElem?_take, if_pos (by omega)]; exact ring_zero hD hR hi)
theorem prv_next {i : Nat} (hi : i < w.length) : prv w ((i + 1) % w.length) = w.getD i 0 := by
  unfold prv
  congr 1
  rw [Nat.mod_add_mod]
  have : i + 1 + (w.length - 1) = i + w.length := by omega
  rw [this, Nat.add_mod_right]
  exact Nat.mod_eq_of_lt hi
theorem seat_mate_b (hR : IsRound D m w) {i : Nat} (hi : i < w.length) : seat D (mate (w.getD i 0)) = seat D (w.getD ((i + 1) % w.length) 0) := by
  have hl : (i + 1) % w.length < w.length := Nat.mod_lt _ (by omega)
  have := hR.come hl
  rw [prv_next hi] at this
  exact this
theorem cs_b (hD : Dr D m) (hR : IsRound D m w) {i : Nat} (hi : i < w.length) : cs D m w (w.getD i 0) = seat D (w.getD i 0) := by
  unfold cs
  rw [if_pos (hR.lt hi), tix_at hR hi rfl, if_neg fun z => z.2 (b_left hD hR hi)]
theorem cs_mate_b (hD : Dr D m) (hR : IsRound D m w) {i : Nat} (hi : i < w.length) : cs D m w (mate (w.getD i 0)) = seat D (w.getD ((i + 1) % w.length) 0) := by
  have hl : (i + 1) % w.length < w.length := Nat.mod_lt _ (by omega)
  have h1 := seat_mate_b hR hi
  have h2 := a_left hD hR hl
  rw [prv_next hi] at h2
  unfold cs
  rw [if_pos (mate_lt (hR.lt hi)), tix_at hR hl h1, if_neg fun z => z.2 h2, h1]
/-- an end of a tie of the turn is one of its ends, or the mate of one -/
theorem turn_tie {x : Nat} (h : x / 2 ∈ w.map (· / 2)) : ∃ i, i < w.length ∧ (x = w.getD i 0 ∨ x = mate (w.getD i 0)) := by
  obtain ⟨b, hb, e⟩ := List.mem_map.mp h
  obtain ⟨i, hi⟩ := List.getElem?_of_mem hb
  have hl := (List.getElem?_eq_some_iff.mp hi).1
  refine ⟨i, hl, ?_⟩
  rw [getD_get hi]
  exact half_eq e.symm
theorem turn_left (hD : Dr D m) (hR : IsRound D m w) {x : Nat} (h : x / 2 ∈ w.map (· / 2)) : cs D m w x ∈ w.map (seat D) := by
  obtain ⟨i, hi, rfl | rfl⟩ := turn_tie h
  · rw [cs_b hD hR hi]
    exact List.mem_map.mpr ⟨_, List.mem_of_getElem? (get_getD hi), rfl⟩
  · rw [cs_mate_b hD hR hi]
    exact List.mem_map.mpr ⟨_, List.mem_of_getElem? (get_getD (Nat.mod_lt _ (by omega))), rfl⟩
theorem turn_lt (hD : Dr D m) (hR : IsRound D m w) {q : Nat} (h : q ∈ w.map (seat D)) : q < D.length := by
  obtain ⟨x, hx, rfl⟩ := List.mem_map.mp h
  exact seat_lt hD (hR.walk.1 x hx)
end
end RF
namespace RF
/-! ### plain: the round that goes over the turn once -/
def leftE (D : List (List Nat)) (w : List Nat) (i : Nat) : List Nat := ((ringAt D w i).take (cutIx D w i)).drop 1
def cnt (D : List (List Nat)) (w : List Nat) (e : Nat) : Nat := (List.range w.length).countP fun i => decide (e ∈ leftE D w i)
def crossD (D : List (List Nat)) (w v : List Nat) : Int := (v.map fun e => (cnt D w e : Int) - (cnt D w (mate e) : Int)).sum
def oldE (w : List Nat) (m x : Nat) : Nat := if x < 2 * m then x else if x % 2 = 1 then mate (w.getD ((x - 2 * m) / 2) 0) else w.getD ((x - 2 * m) / 2) 0
def base (D : List (List Nat)) (w : List Nat) (q : Nat) : Nat := if q < D.length then q else seat D (w.getD (q - D.length) 0)
def fl (D : List (List Nat)) (w : List Nat) (q : Nat) : Int := if q ∈ w.map (seat D) then 1 else 0
theorem countP_one {p : Nat → Bool} {t : Nat} : ∀ k, (∀ i, i < k → p i = true → i = t) → (List.range k).countP p = if t < k ∧ p t = true then 1 else 0
  | 0, _ => by simp
  | k + 1, h => by
    rw [List.range_succ, List.countP_append, countP_one k fun i hi hp => h i (by omega) hp, List.countP_singleton]
    by_cases hk : p k = true
    · have := h k (by omega) hk
      subst this
      rw [if_neg (by omega), if_pos hk, if_pos ⟨by omega, hk⟩]
    · rw [if_neg hk, Nat.add_zero]
      by_cases ht : t < k ∧ p t = true
      · rw [if_pos ht, if_pos ⟨by omega, ht.2⟩]
      · rw [if_neg ht, if_neg]
        rintro ⟨h1, h2⟩
        rcases Nat.lt_succ_iff_lt_or_eq.mp h1 with h3 | h3
        · exact ht ⟨h3, h2⟩
        · rw [h3] at h2; exact hk h2
section
variable {D : List (List Nat)} {m : Nat} {w : List Nat} {R : List (List Nat)}
theorem tie_inj (hR : IsRound D m w) {i j : Nat} (hi : i < w.length) (hj : j < w.length) (e : w.getD i 0 / 2 = w.getD j 0 / 2) : i = j := by
  have hi' : i < (w.map (· / 2)).length := by rw [List.length_map]; exact hi
  have hj' : j < (w.map (· / 2)).length := by rw [List.length_map]; exact hj
  refine (List.getElem_inj (h₀ := hi') (h₁ := hj') hR.ties).mp ?_
  rw [List.getElem_map, List.getElem_map]
  have e1 := getD_get (List.getElem?_eq_getElem hi)
  have e2 := getD_get (List.getElem?_eq_getElem hj)
  rw [← e1, ← e2]
  exact e
theorem a_ne_b (hR : IsRound D m w) {i : Nat} (hi : i < w.length) : mate (prv w i) ≠ w.getD i 0 := by
  intro e
  have hl : (i + (w.length - 1)) % w.length < w.length := Nat.mod_lt _ (by omega)
  have h1 : (w.getD ((i + (w.length - 1)) % w.length) 0) / 2 = w.getD i 0 / 2 := by
    rw [← e, mate_half]; rfl
  have h2 := tie_inj hR hl hi h1
  have h3 : prv w i = w.getD i 0 := by unfold prv; rw [h2]
  rw [h3] at e
  exact mate_ne _ e
theorem cutIx_pos (hD : Dr D m) (hR : IsRound D m w) {i : Nat} (hi : i < w.length) : 0 < cutIx D w i := by
  apply Nat.pos_of_ne_zero
  intro z
  have h1 : (ringAt D w i)[cutIx D w i]? = some (w.getD i 0) := ixget (ring_mem hD hR hi)
  rw [z, ring_zero hD hR hi] at h1
  exact a_ne_b hR hi (Option.some.inj h1)
theorem cutL_split (hD : Dr D m) (hR : IsRound D m w) {i : Nat} (hi : i < w.length) : cutL D w i = mate (prv w i) :: (leftE D w i ++ [w.getD i 0]) := by
  have h1 : (ringAt D w i)[cutIx D w i]? = some (w.getD i 0) := ixget (ring_mem hD hR hi)
  have h0 := ring_zero hD hR hi
  have hp := cutIx_pos hD hR hi
  unfold cutL leftE
  rw [take_succ_get h1]
  cases hr : ringAt D w i with
  | nil => rw [hr] at h0; cases h0
  | cons a r =>
    rw [hr] at h0
    cases Option.some.inj h0
    obtain ⟨c, hc⟩ : ∃ c, cutIx D w i = c + 1 := ⟨cutIx D w i - 1, by omega⟩
    rw [hc]
    rfl
theorem left_nodup (hD : Dr D m) (hR : IsRound D m w) {i : Nat} (hi : i < w.length) : w.getD i 0 ∉ leftE D w i ∧ mate (prv w i) ∉ leftE D w i := by
  have nd : (cutL D w i).Nodup := List.Nodup.sublist (List.take_sublist _ _) (ring_nodup hD hR hi)
  rw [cutL_split hD hR hi, List.nodup_cons, List.nodup_append] at nd
  exact ⟨fun z => nd.2.2.2 _ z _ (List.mem_singleton.mpr rfl) rfl, fun z => nd.1 (List.mem_append_left _ z)⟩
theorem left_sub (hD : Dr D m) (hR : IsRound D m w) {i x : Nat} (hi : i < w.length) (hx : x ∈ leftE D w i) : x ∈ cutL D w i := by
  rw [cutL_split hD hR hi]
  exact List.mem_cons_of_mem _ (List.mem_append_left _ hx)
theorem cnt_turn (hD : Dr D m) (hR : IsRound D m w) {x : Nat} (h : x / 2 ∈ w.map (· / 2)) : cnt D w x = 0 := by
  unfold cnt
  refine List.countP_eq_zero.mpr fun i hi => ?_
  have hi := List.mem_range.mp hi
  rw [decide_eq_true_iff]
  intro hx
  have hs := (cutL_mem hD hR hi (left_sub hD hR hi hx)).2
  obtain ⟨j, hj, rfl | rfl⟩ := turn_tie h
  · have := round_inj hR hj hi hs
    subst this
    exact (left_nodup hD hR hi).1 hx
  · rw [seat_mate_b hR hj] at hs
    have := round_inj hR (Nat.mod_lt _ (by omega)) hi hs
    subst this
    have h2 := (left_nodup hD hR hi).2
    rw [prv_next hj] at h2
    exact h2 hx
theorem not_turn_right (hD : Dr D m) (hR : IsRound D m w) (i : Nat) : D.length + i ∉ w.map (seat D) := fun z => by
  have := turn_lt hD hR z
  omega
theorem cnt_non (hD : Dr D m) (hR : IsRound D m w) {x : Nat} (hx : x < 2 * m) (h : x / 2 ∉ w.map (· / 2)) : (cnt D w x : Int) = fl D w (cs D m w x) := by
  have hne : ∀ i, i < w.length → x ≠ w.getD i 0 ∧ x ≠ mate (prv w i) := fun i hi => by
    refine ⟨fun z => h (List.mem_map.mpr ⟨_, List.mem_of_getElem? (get_getD hi), by rw [z]⟩), fun z => h (List.mem_map.mpr ⟨prv w i, prv_mem hi, by rw [z, mate_half]⟩)⟩
  have hiff : ∀ i, i < w.length → (x ∈ leftE D w i ↔ x ∈ cutL D w i) := fun i hi => by
    refine ⟨left_sub hD hR hi, fun z => ?_⟩
    rw [cutL_split hD hR hi] at z
    rcases List.mem_cons.mp z with z | z
    · exact absurd z (hne i hi).2
    · rcases List.mem_append.mp z with z | z
      · exact z
      · exact absurd (List.mem_singleton.mp z) (hne i hi).1
  have hone : ∀ i, i < w.length → decide (x ∈ leftE D w i) = true → i = tix D w x := fun i hi hp => by
    have := (cutL_mem hD hR hi (left_sub hD hR hi (of_decide_eq_true hp))).2
    exact (tix_at hR hi this).symm
  unfold cnt
  rw [countP_one _ hone]
  rcases tix_or (D := D) (w := w) x with ⟨h1, h2⟩ | h1
  · by_cases hc : x ∈ cutL D w (tix D w x)
    · have e : cs D m w x = seat D x := by unfold cs; rw [if_pos hx, if_neg fun z => z.2 hc]
      rw [if_pos ⟨h1, decide_eq_true ((hiff _ h1).mpr hc)⟩, e]
      unfold fl
      rw [if_pos]
      · rfl
      · rw [← h2]
        exact List.mem_map.mpr ⟨_, List.mem_of_getElem? (get_getD h1), rfl⟩
    · have e : cs D m w x = D.length + tix D w x := by unfold cs; rw [if_pos hx, if_pos ⟨h1, hc⟩]
      rw [if_neg fun z => hc ((hiff _ h1).mp (of_decide_eq_true z.2)), e]
      unfold fl
      rw [if_neg (not_turn_right hD hR _)]
      rfl
  · have hn := tix_no (D := D) (w := w) (x := x) h1
    have e : cs D m w x = seat D x := by unfold cs; rw [if_pos hx, if_neg fun z => hn z.1]
    rw [if_neg fun z => hn z.1, e]
    unfold fl
    rw [if_neg]
    · rfl
    · intro z
      obtain ⟨b, hb, e⟩ := List.mem_map.mp z
      obtain ⟨i, hi⟩ := List.getElem?_of_mem hb
      refine h1 i (List.getElem?_eq_some_iff.mp hi).1 ?_
      rw [getD_get hi]; exact e
/-! from the cut drawing to the drawing -/
theorem old_mate {x : Nat} (hx : x < 2 * (m + w.length)) : oldE w m (mate x) = mate (oldE w m x) := by
  unfold oldE
  by_cases h : x < 2 * m
  · rw [if_pos (mate_lt h), if_pos h]
  · have h1 : ¬ mate x < 2 * m := by unfold mate; omega
    rw [if_neg h1, if_neg h]
    have e : (mate x - 2 * m) / 2 = (x - 2 * m) / 2 := by unfold mate; omega
    rw [e]
    by_cases h2 : x % 2 = 1
    · rw [if_pos h2, if_neg (by unfold mate; omega), mate_mate]
    · rw [if_neg h2, if_pos (by unfold mate; omega)]
theorem old_lt (hR : IsRound D m w) {x : Nat} (hx : x < 2 * (m + w.length)) : oldE w m x < 2 * m := by
  unfold oldE
  by_cases h : x < 2 * m
  · rw [if_pos h]; exact h
  · rw [if_neg h]
    have hk : (x - 2 * m) / 2 < w.length := by omega
    by_cases h2 : x % 2 = 1
    · rw [if_pos h2]; exact mate_lt (hR.lt hk)
    · rw [if_neg h2]; exact hR.lt hk
theorem old_seat (hD : Dr D m) (hR : IsRound D m w) {x : Nat} (hx : x < 2 * (m + w.length)) : seat D (oldE w m x) = base D w (cs D m w x) := by
  unfold oldE
  by_cases h : x < 2 * m
  · rw [if_pos h]
    unfold cs base
    rw [if_pos h]
    by_cases h1 : tix D w x < w.length ∧ x ∉ cutL D w (tix D w x)
    · rw [if_pos h1, if_neg (by omega), Nat.add_sub_cancel_left]
      rcases tix_or (D := D) (w := w) x with ⟨_, h2⟩ | h2
      · exact h2.symm
      · exact absurd h1.1 (tix_no h2)
    · rw [if_neg h1, if_pos (seat_lt hD h)]
  · rw [if_neg h]
    have hk : (x - 2 * m) / 2 < w.length := by omega
    by_cases h2 : x % 2 = 1
    · have e : cs D m w x = D.length + ((x - 2 * m) / 2 + 1) % w.length := by unfold cs; rw [if_neg h, if_neg (by omega)]
      rw [if_pos h2, e]
      unfold base
      rw [if_neg (by omega), Nat.add_sub_cancel_left]
      exact seat_mate_b hR hk
    · have e : cs D m w x = D.length + (x - 2 * m) / 2 := by unfold cs; rw [if_neg h, if_pos (by omega)]
      rw [if_neg h2, e]
      unfold base
      rw [if_neg (by omega), Nat.add_sub_cancel_left]
theorem old_turn {x : Nat} (hx : x < 2 * (m + w.length)) (h : ¬ x < 2 * m) : oldE w m x / 2 ∈ w.map (· / 2) := by
  unfold oldE
  rw [if_neg h]
  have hk : (x - 2 * m) / 2 < w.length := by omega
  by_cases h2 : x % 2 = 1
  · rw [if_pos h2, mate_half]
    exact List.mem_map.mpr ⟨_, List.mem_of_getElem? (get_getD hk), rfl⟩
  · rw [if_neg h2]
    exact List.mem_map.mpr ⟨_, List.mem_of_getElem? (get_getD hk), rfl⟩
theorem cs_right {x : Nat} (h : ¬ x < 2 * m) : D.length ≤ cs D m w x := by
  unfold cs
  rw [if_neg h]
  split <;> omega
theorem step_fl (hD : Dr D m) (hR : IsRound D m w) (hC : CutJ D m w w.length R) {q e : Nat} (he : e ∈ row R q) : (cnt D w (mate (oldE w m e)) : Int) - (cnt D w (oldE w m e) : Int) = fl D w (seat R (mate e)) - fl D w q := by
  obtain ⟨hlt, hs⟩ := row_end (cut_dr hD hR hC) he
  rw [cut_seat hD hR hC (mate_lt hlt), ← hs, cut_seat hD hR hC hlt]
  by_cases ht : oldE w m e / 2 ∈ w.map (· / 2)
  · rw [cnt_turn hD hR ht, cnt_turn hD hR (x := mate (oldE w m e)) (by rw [mate_half]; exact ht)]
    by_cases h : e < 2 * m
    · have ho : oldE w m e = e := by unfold oldE; rw [if_pos h]
      rw [ho] at ht
      unfold fl
      rw [if_pos (turn_left hD hR ht), if_pos (turn_left hD hR (x := mate e) (by rw [mate_half]; exact ht))]
      rfl
    · have h' : ¬ mate e < 2 * m := by unfold mate; omega
      unfold fl
      rw [if_neg fun z => (by have := turn_lt hD hR z; have := cs_right (D := D) (w := w) h'; omega), if_neg fun z => (by have := turn_lt hD hR z; have := cs_right (D := D) (w := w) h; omega)]
      rfl
  · have h : e < 2 * m := Classical.byContradiction fun h => ht (old_turn hlt h)
    have ho : oldE w m e = e := by unfold oldE; rw [if_pos h]
    rw [ho] at ht ⊢
    rw [cnt_non hD hR h ht, cnt_non hD hR (mate_lt h) (by rw [mate_half]; exact ht)]
theorem chain_fl (hD : Dr D m) (hR : IsRound D m w) (hC : CutJ D m w w.length R) {x y : Nat} {c : List Nat} (h : Chain R x c y) : (c.map fun e => (cnt D w (mate (oldE w m e)) : Int) - (cnt D w (oldE w m e) : Int)).sum = fl D w y - fl D w x := by
  induction h with
  | nil => simp
  | cons he _ ih =>
    rw [List.map_cons, List.sum_cons, ih, step_fl hD hR hC he]
    omega
theorem chain_old (hD : Dr D m) (hR : IsRound D m w) (hC : CutJ D m w w.length R) {x y : Nat} {c : List Nat} (h : Chain R x c y) : Chain D (base D w x) (c.map (oldE w m)) (base D w y) := by
  induction h with
  | nil => exact .nil _
  | @cons x e y c he _ ih =>
    obtain ⟨hlt, hs⟩ := row_end (cut_dr hD hR hC) he
    have h1 := old_seat hD hR hlt
    rw [← cut_seat hD hR hC hlt, hs] at h1
    have h2 := old_seat hD hR (mate_lt hlt)
    rw [← cut_seat hD hR hC (mate_lt hlt), old_mate hlt] at h2
    rw [List.map_cons]
    refine .cons ?_ (h2 ▸ ih)
    rw [← h1]
    exact mem_row hD (old_lt hR hlt)
theorem chain_mid {x y e : Nat} {A B : List Nat} (h : Chain R x (A ++ e :: B) y) : e ∈ row R (seat R e) → Chain R x (A ++ [e]) (seat R (mate e)) ∧ Chain R (seat R (mate e)) B y := by
  intro he
  obtain ⟨u, h1, h2⟩ := h.split
  cases h2 with
  | cons h3 h4 => exact ⟨h1.app (.cons h3 (.nil _)), h4⟩
theorem chain_nil {D : List (List Nat)} {x y : Nat} (h : Chain D x [] y) : x = y := by
  cases h; rfl
/-- the round told: from a shortest way in the cut drawing, from a new place to the old one beside it -/
theorem over_ok (hD : Dr D m) (hR : IsRound D m w) (hC : CutJ D m w w.length R) {i : Nat} {c : List Nat} (hi : i < w.length) (hc : Chain R (D.length + i) c (seat D (w.getD i 0)))
    (hmin : ∀ j, j < w.length → ∀ c', Chain R (D.length + j) c' (seat D (w.getD j 0)) → c.length ≤ c'.length) :
    IsRound D m ((c.map (oldE w m)).reverse.map mate) ∧ crossD D w ((c.map (oldE w m)).reverse.map mate) = 1 := by
  have hDR := cut_dr hD hR hC
  have hpl : seat D (w.getD i 0) < D.length := seat_lt hD (hR.lt hi)
  have bx : base D w (D.length + i) = seat D (w.getD i 0) := by
    unfold base
    rw [if_neg (by omega), Nat.add_sub_cancel_left]
  have by' : base D w (seat D (w.getD i 0)) = seat D (w.getD i 0) := by
    unfold base
    rw [if_pos hpl]
  have hch := (chain_old hD hR hC hc).rev hD
  rw [bx, by'] at hch
  have hce := hc.ends hDR
  -- no two places of the way lie over one place
  have sub : ∀ {c1 c2 c3 : List Nat} {u v : Nat}, c = c1 ++ c2 ++ c3 → c2 ≠ [] → c1 ≠ [] → Chain R (D.length + i) c1 u → Chain R u c2 v → Chain R v c3 (seat D (w.getD i 0)) → base D w u ≠ base D w v := by
    intro c1 c2 c3 u v ec n2 n1 h1 h2 h3 e
    have l1 : 0 < c1.length := List.length_pos_iff.mpr n1
    have l2 : 0 < c2.length := List.length_pos_iff.mpr n2
    have lc : c.length = c1.length + c2.length + c3.length := by rw [ec, List.length_append, List.length_append]
    by_cases huv : u = v
    · subst huv
      have := hmin i hi _ (h1.app h3)
      rw [List.length_append] at this
      omega
    · have hu : u < D.length + w.length := by
        have := (Reach.lt hDR (by rw [hC.len]; omega) h1.reach); rw [hC.len] at this; exact this
      have hv : v < D.length + w.length := by
        have := (Reach.lt hDR (by rw [hC.len]; omega) h2.reach); rw [hC.len] at this; exact this
      unfold base at e
      by_cases a : u < D.length
      · rw [if_pos a] at e
        by_cases b : v < D.length
        · rw [if_pos b] at e; exact huv e
        · rw [if_neg b] at e
          obtain ⟨j, rfl⟩ : ∃ j, v = D.length + j := ⟨v - D.length, by omega⟩
          rw [Nat.add_sub_cancel_left] at e
          have := hmin j (by omega) _ (e ▸ h2.rev hDR)
          rw [List.length_map, List.length_reverse] at this
          omega
      · rw [if_neg a] at e
        obtain ⟨j, rfl⟩ : ∃ j, u = D.length + j := ⟨u - D.length, by omega⟩
        rw [Nat.add_sub_cancel_left] at e
        by_cases b : v < D.length
        · rw [if_pos b] at e
          have := hmin j (by omega) _ (e ▸ h2)
          omega
        · rw [if_neg b] at e
          obtain ⟨j', rfl⟩ : ∃ j', v = D.length + j' := ⟨v - D.length, by omega⟩
          rw [Nat.add_sub_cancel_left] at e
          exact huv (by rw [round_inj hR (by omega) (by omega) e])
  have seatm : ∀ e ∈ c, seat D (mate (oldE w m e)) = base D w (seat R (mate e)) := fun e he => by
    have hlt := hce e he
    rw [← old_mate hlt, old_seat hD hR (mate_lt hlt), cut_seat hD hR hC (mate_lt hlt)]
  have seato : ∀ e ∈ c, seat D (oldE w m e) = base D w (seat R e) := fun e he => by
    have hlt := hce e he
    rw [old_seat hD hR hlt, cut_seat hD hR hC hlt]
  -- two ends of the way, one behind the other
  have two : ∀ (a b : Nat) e f, a < b → c[a]? = some e → c[b]? = some f → ∃ A B C, c = A ++ e :: (B ++ f :: C) := fun a b e f hab h1 h2 => by
    have e1 := split_at' h1
    have hl := (List.getElem?_eq_some_iff.mp h1).1
    have h3 : (c.drop (a + 1))[b - a - 1]? = some f := by
      rw [List.getElem?_drop]
      rw [show a + 1 + (b - a - 1) = b by omega]
      exact h2
    have e2 := split_at' h3
    exact ⟨_, _, _, e1.trans (by rw [← e2])⟩
  have inr : ∀ e ∈ c, e ∈ row R (seat R e) := fun e he => mem_row hDR (hce e he)
  have placeNe : ∀ (a b : Nat) e f, a < b → c[a]? = some e → c[b]? = some f → base D w (seat R (mate e)) ≠ base D w (seat R (mate f)) := fun a b e f hab h1 h2 => by
    obtain ⟨A, B, C, ec⟩ := two a b e f hab h1 h2
    have hh := hc
    rw [ec] at hh
    obtain ⟨g1, g2⟩ := chain_mid hh (inr e (List.mem_of_getElem? h1))
    obtain ⟨g3, g4⟩ := chain_mid g2 (inr f (List.mem_of_getElem? h2))
    exact sub (c1 := A ++ [e]) (c2 := B ++ [f]) (c3 := C) (by rw [ec]; simp) (by simp) (by simp) g1 g3 g4
  have hne : c ≠ [] := fun z => by
    rw [z] at hc
    generalize hq : D.length + i = q at hc
    cases hc
    omega
  refine ⟨⟨hch.walk hD, by simpa using hne, ?_, ?_⟩, ?_⟩
  · have e1 : ((c.map (oldE w m)).reverse.map mate).map (seat D) = (c.map fun e => base D w (seat R (mate e))).reverse := by
      rw [← List.map_reverse, List.map_map, List.map_map, ← List.map_reverse]
      refine List.map_congr_left fun e he => ?_
      exact seatm e (List.mem_reverse.mp he)
    rw [e1, (List.reverse_perm _).nodup_iff]
    refine nodup_of_idx fun a b x hab ha hb => ?_
    rw [List.getElem?_map] at ha hb
    cases h1 : c[a]? with
    | none => rw [h1] at ha; cases ha
    | some e =>
      cases h2 : c[b]? with
      | none => rw [h2] at hb; cases hb
      | some f =>
        rw [h1] at ha
        rw [h2] at hb
        exact placeNe a b e f hab h1 h2 ((Option.some.inj ha).trans (Option.some.inj hb).symm)
  · have e1 : ((c.map (oldE w m)).reverse.map mate).map (· / 2) = (c.map fun e => oldE w m e / 2).reverse := by
      rw [← List.map_reverse, List.map_map, List.map_map, ← List.map_reverse]
      exact List.map_congr_left fun e _ => mate_half _
    rw [e1, (List.reverse_perm _).nodup_iff]
    refine nodup_of_idx fun a b x hab ha hb => ?_
    rw [List.getElem?_map] at ha hb
    cases h1 : c[a]? with
    | none => rw [h1] at ha; cases ha
    | some e =>
      cases h2 : c[b]? with
      | none => rw [h2] at hb; cases hb
      | some f =>
        rw [h1] at ha
        rw [h2] at hb
        have hef : oldE w m e / 2 = oldE w m f / 2 := (Option.some.inj ha).trans (Option.some.inj hb).symm
        have me := List.mem_of_getElem? h1
        have mf := List.mem_of_getElem? h2
        have le := hce e me
        have lf := hce f mf
        rcases half_eq hef with z | z
        · refine placeNe a b e f hab h1 h2 ?_
          rw [← seatm e me, ← seatm f mf, z]
        · -- e's old tie is f's, walked back
          have hsf : base D w (seat R (mate e)) = base D w (seat R f) := by
            rw [← seatm e me, ← seato f mf, z, mate_mate]
          obtain ⟨A, B, C, ec⟩ := two a b e f hab h1 h2
          have hh := hc
          rw [ec] at hh
          obtain ⟨g1, g2⟩ := chain_mid hh (inr e me)
          obtain ⟨g3, g4⟩ := chain_mid g2 (inr f mf)
          obtain ⟨v, k1, k2⟩ := g2.split
          have ev : v = seat R f := by
            cases k2 with | cons hx _ => exact (row_end hDR hx).2.symm
          subst ev
          by_cases hB : B = []
          · subst hB
            have ek : seat R (mate e) = seat R f := chain_nil k1
            -- the two stand side by side
            have hsame : e = mate f := by
              by_cases q1 : e < 2 * m
              · by_cases q2 : f < 2 * m
                · unfold oldE at z
                  rw [if_pos q1, if_pos q2] at z
                  exact z
                · have ho : oldE w m e = e := by unfold oldE; rw [if_pos q1]
                  have t1 : e / 2 ∈ w.map (· / 2) := by
                    have := old_turn lf q2
                    rw [← hef, ho] at this
                    exact this
                  have t2 := turn_lt hD hR (turn_left hD hR (x := mate e) (by rw [mate_half]; exact t1))
                  have t3 := cs_right (D := D) (w := w) q2
                  rw [← cut_seat hD hR hC (mate_lt le)] at t2
                  rw [← cut_seat hD hR hC lf] at t3
                  omega
              · by_cases q2 : f < 2 * m
                · have ho : oldE w m f = f := by unfold oldE; rw [if_pos q2]
                  have t1 : f / 2 ∈ w.map (· / 2) := by
                    have := old_turn le q1
                    rw [hef, ho] at this
                    exact this
                  have t2 := turn_lt hD hR (turn_left hD hR t1)
                  have t3 := cs_right (D := D) (w := w) (x := mate e) (m := m) (by unfold mate; omega)
                  rw [← cut_seat hD hR hC lf] at t2
                  rw [← cut_seat hD hR hC (mate_lt le)] at t3
                  omega
                · -- both are copies
                  have q3 : ¬ mate f < 2 * m := by unfold mate; omega
                  have z2 : oldE w m e = oldE w m (mate f) := by rw [old_mate lf]; exact z
                  have kk : ∀ {x}, ¬ x < 2 * m → x < 2 * (m + w.length) → oldE w m x / 2 = w.getD ((x - 2 * m) / 2) 0 / 2 := fun {x} hx _ => by
                    unfold oldE
                    rw [if_neg hx]
                    split
                    · rw [mate_half]
                    · rfl
                  have t1 := kk q1 le
                  have t2 := kk q3 (mate_lt lf)
                  have mfl := mate_lt lf
                  rw [z2, t2] at t1
                  have t3 := tie_inj hR (by omega) (by omega) t1
                  unfold oldE at z2
                  rw [if_neg q1, if_neg q3, t3] at z2
                  by_cases p1 : e % 2 = 1
                  · by_cases p2 : mate f % 2 = 1
                    · omega
                    · rw [if_pos p1, if_neg p2] at z2
                      exact absurd z2 (mate_ne _)
                  · by_cases p2 : mate f % 2 = 1
                    · rw [if_neg p1, if_pos p2] at z2
                      exact absurd z2.symm (mate_ne _)
                    · omega
            obtain ⟨u, j1, j2⟩ := hh.split
            have eu : u = seat R e := by
              cases j2 with | cons hx _ => exact (row_end hDR hx).2.symm
            subst eu
            rw [hsame] at j1
            have := hmin i hi _ (j1.app g4)
            rw [ec] at this
            simp only [List.length_append, List.length_cons, List.length_nil] at this
            omega
          · exact sub (c1 := A ++ [e]) (c2 := B) (c3 := f :: C) (by rw [ec]; simp) hB (by simp) g1 k1 k2 hsf
  · have hs := chain_fl hD hR hC hc
    unfold crossD
    have e1 : (((c.map (oldE w m)).reverse.map mate).map fun e => (cnt D w e : Int) - (cnt D w (mate e) : Int)) = (c.map fun e => (cnt D w (mate (oldE w m e)) : Int) - (cnt D w (oldE w m e) : Int)).reverse := by
      rw [← List.map_reverse, List.map_map, List.map_map, ← List.map_reverse]
      refine List.map_congr_left fun e _ => ?_
      show (cnt D w (mate (oldE w m e)) : Int) - (cnt D w (mate (mate (oldE w m e))) : Int) = _
      rw [mate_mate]
    rw [e1, List.sum_reverse, hs]
    unfold fl
    rw [if_pos (List.mem_map.mpr ⟨_, List.mem_of_getElem? (get_getD hi), rfl⟩), if_neg (not_turn_right hD hR i)]
    rfl
end
end RF
namespace RF
/-! ### plain: lands are closed under their step -/
theorem sub_eq {l₁ l₂ : List Nat} (nd : l₁.Nodup) (h : ∀ x ∈ l₁, x ∈ l₂) (hl : l₂.length ≤ l₁.length) : ∀ x ∈ l₂, x ∈ l₁ := by
  intro x hx
  apply Classical.byContradiction
  intro hn
  have := nodup_sub_len (l₂ := l₂) (List.nodup_cons.mpr ⟨hn, nd⟩) fun y hy => by
    rcases List.mem_cons.mp hy with rfl | hy
    · exact hx
    · exact h y hy
  rw [List.length_cons] at this
  omega
theorem idxOf_some {l : List Nat} {x : Nat} (h : x ∈ l) : l[l.idxOf x]? = some x := by
  have hk : l.idxOf x < l.length := List.idxOf_lt_length_iff.mpr h
  rw [List.getElem?_eq_getElem hk, List.getElem_idxOf hk]
theorem nodup_fst' {T : List (Nat × Nat)} (h : (T.map (·.1)).Nodup) {a b : Nat × Nat} (ha : a ∈ T) (hb : b ∈ T) (e : a.1 = b.1) : a = b := by
  obtain ⟨i, hi⟩ := List.getElem?_of_mem ha
  obtain ⟨j, hj⟩ := List.getElem?_of_mem hb
  have h1 := (List.getElem?_eq_some_iff.mp hi).1
  have h2 := (List.getElem?_eq_some_iff.mp hj).1
  have hij : i = j := by
    refine (List.getElem_inj (h₀ := by rw [List.length_map]; exact h1) (h₁ := by rw [List.length_map]; exact h2) h).mp ?_
    rw [List.getElem_map, List.getElem_map, (List.getElem?_eq_some_iff.mp hi).2, (List.getElem?_eq_some_iff.mp hj).2]
    exact e
  rw [hij, hj] at hi
  exact (Option.some.inj hi).symm
theorem idx_inj {r : List Nat} {x y : Nat} (hx : x ∈ r) (hy : y ∈ r) (e : r.idxOf x = r.idxOf y) : x = y := by
  have h1 := idxOf_some hx
  have h2 := idxOf_some hy
  rw [e, h2] at h1
  exact (Option.some.inj h1).symm
theorem nxt_inj {r : List Nat} {x y : Nat} (nd : r.Nodup) (hx : x ∈ r) (hy : y ∈ r) (e : nxt r x = nxt r y) : x = y := by
  have h1 := nxt_get nd (idxOf_some hx)
  have h2 := nxt_get nd (idxOf_some hy)
  rw [e] at h1
  have l1 := (List.getElem?_eq_some_iff.mp (idxOf_some hx)).1
  have l2 := (List.getElem?_eq_some_iff.mp (idxOf_some hy)).1
  have e1 := idxOf_get nd h1
  have e2 := idxOf_get nd h2
  rw [e1] at e2
  refine idx_inj hx hy ?_
  by_cases c1 : r.idxOf x + 1 = r.length
  · by_cases c2 : r.idxOf y + 1 = r.length
    · omega
    · rw [c1, Nat.mod_self, Nat.mod_eq_of_lt (by omega : r.idxOf y + 1 < r.length)] at e2
      omega
  · rw [Nat.mod_eq_of_lt (by omega : r.idxOf x + 1 < r.length)] at e2
    by_cases c2 : r.idxOf y + 1 = r.length
    · rw [c2, Nat.mod_self] at e2
      omega
    · rw [Nat.mod_eq_of_lt (by omega : r.idxOf y + 1 < r.length)] at e2
      omega
theorem behind_inj {D : List (List Nat)} {m x y : Nat} (h : Dr D m) (hx : x < 2 * m) (hy : y < 2 * m) (e : behind D x = behind D y) : x = y := by
  have hs : seat D x = seat D y := by rw [← seat_behind h hx, ← seat_behind h hy, e]
  unfold behind at e
  rw [hs] at e
  have hmy := mem_row h hy
  have hmx := mem_row h hx
  rw [hs] at hmx
  exact nxt_inj (row_nodup h.nd (row_get (row_mem_lt hmy))) hmx hmy e
theorem phi_inj {D : List (List Nat)} {m x y : Nat} (h : Dr D m) (hx : x < 2 * m) (hy : y < 2 * m) (e : phi D x = phi D y) : x = y := mate_inj (behind_inj h (mate_lt hx) (mate_lt hy) e)
/-- a walk's items lead on, within it and what was met -/
theorem fwalk_on (f : Nat → Nat) : ∀ (k : Nat) (S : List Nat) (e : Nat) (i : Nat) x, (fwalk f k S e)[i]? = some x → ((∃ y, (fwalk f k S e)[i + 1]? = some y ∧ y = f x) ∨ (i + 1 = (fwalk f k S e).length ∧ (f x ∈ (fwalk f k S e).reverse ++ S ∨ (fwalk f k S e).length = k)))
  | 0, _, _, _, _, h => by simp [fwalk] at h
  | k + 1, S, e, i, x, h => by
    by_cases he : e ∈ S
    · rw [fwalk_mem f _ he] at h
      simp at h
    · rw [fwalk_step f k he] at h ⊢
      have hrev : ∀ z, z ∈ (fwalk f k (e :: S) (f e)).reverse ++ (e :: S) → z ∈ (e :: fwalk f k (e :: S) (f e)).reverse ++ S := fun z hz => by
        rw [List.reverse_cons, List.append_assoc]
        exact hz
      cases i with
      | zero =>
        cases Option.some.inj h
        cases hw : fwalk f k (e :: S) (f e) with
        | nil =>
          right
          refine ⟨rfl, ?_⟩
          cases k with
          | zero => right; rfl
          | succ k =>
            left
            by_cases hm : f e ∈ e :: S
            · simpa using hm
            · rw [fwalk_step f k hm] at hw
              cases hw
        | cons a r =>
          left
          refine ⟨a, rfl, ?_⟩
          cases k with
          | zero => simp [fwalk] at hw
          | succ k =>
            by_cases hm : f e ∈ e :: S
            · rw [fwalk_mem f _ hm] at hw; cases hw
            · rw [fwalk_step f k hm] at hw
              exact (List.cons.inj hw).1.symm
      | succ i =>
        rw [List.getElem?_cons_succ] at h
        rcases fwalk_on f k (e :: S) (f e) i x h with ⟨y, h1, h2⟩ | ⟨h1, h2⟩
        · left
          exact ⟨y, by rw [List.getElem?_cons_succ]; exact h1, h2⟩
        · right
          refine ⟨by rw [List.length_cons]; omega, ?_⟩
          rcases h2 with h2 | h2
          · left; exact hrev _ h2
          · right; rw [List.length_cons]; omega
theorem fwalk_len (f : Nat → Nat) : ∀ (k : Nat) (S : List Nat) (e : Nat), (fwalk f k S e).length ≤ k
  | 0, _, _ => Nat.le_refl _
  | k + 1, S, e => by
    by_cases he : e ∈ S
    · rw [fwalk_mem f _ he]; exact Nat.zero_le _
    · rw [fwalk_step f k he, List.length_cons]
      have := fwalk_len f k (e :: S) (f e)
      omega
/-- met ends and lands are closed -/
structure LCl (f : Nat → Nat) (st : List Nat × List (List Nat)) : Prop where
  all : ∀ x ∈ st.1, f x ∈ st.1
  land : ∀ l ∈ st.2, ∀ x ∈ l, f x ∈ l
theorem lcl {f : Nat → Nat} {N : Nat} (hf : ∀ x, x < N → f x < N) (hinj : ∀ x y, x < N → y < N → f x = f y → x = y) : ∀ j, j ≤ N → LCl f (lgo f N j)
  | 0, _ => ⟨fun x hx => (by cases hx), fun l hl => (by cases hl)⟩
  | j + 1, hj => by
    have ih := lcl hf hinj j (by omega)
    have ok := lok hf j (by omega)
    rw [lgo_succ]
    unfold lstep
    by_cases h : j ∈ (lgo f N j).1
    · rw [if_pos h]; exact ih
    · rw [if_neg h]
      -- what is not met does not lead to what is met
      have out : ∀ x, x < N → x ∉ (lgo f N j).1 → f x ∉ (lgo f N j).1 := fun x hx hn hz => by
        have nd : ((lgo f N j).1.map f).Nodup := by
          refine List.pairwise_map.mpr (ok.nd.imp_of_mem fun {a b} ha hb hab e => hab (hinj a b (ok.lt a ha) (ok.lt b hb) e))
        have hs := sub_eq (l₂ := (lgo f N j).1) nd (fun y hy => by
          obtain ⟨z, hz, rfl⟩ := List.mem_map.mp hy
          exact ih.all z hz) (by rw [List.length_map]; exact Nat.le_refl _) _ hz
        obtain ⟨y, hy, e⟩ := List.mem_map.mp hs
        have := hinj y x (ok.lt y hy) hx e
        exact hn (this ▸ hy)
      obtain ⟨n1, n2⟩ := fwalk_new hf N (lgo f N j).1 j ok.nd ok.lt (by omega)
      have new : ∀ x ∈ fwalk f N (lgo f N j).1 j, x ∉ (lgo f N j).1 := fun x hx hz => by
        rw [List.nodup_append] at n1
        exact n1.2.2 x (List.mem_reverse.mpr hx) x hz rfl
      have cl : ∀ x ∈ fwalk f N (lgo f N j).1 j, f x ∈ fwalk f N (lgo f N j).1 j := fun x hx => by
        obtain ⟨i, hi⟩ := List.getElem?_of_mem hx
        rcases fwalk_on f N _ j i x hi with ⟨y, h1, h2⟩ | ⟨h1, h2 | h2⟩
        · rw [← h2]; exact List.mem_of_getElem? h1
        · rcases List.mem_append.mp h2 with h3 | h3
          · exact List.mem_reverse.mp h3
          · exact absurd h3 (out x (n2 x hx) (new x hx))
        · rw [List.nodup_append] at n1
          have nd := (List.reverse_perm _).nodup_iff.mp n1.1
          refine sub_eq (l₂ := List.range N) nd (fun y hy => List.mem_range.mpr (n2 y hy)) (by rw [List.length_range, h2]; exact Nat.le_refl _) _ (List.mem_range.mpr (hf x (n2 x hx)))
      refine ⟨fun x hx => ?_, fun l hl x hx => ?_⟩
      · rcases List.mem_append.mp hx with h1 | h1
        · exact List.mem_append_left _ (List.mem_reverse.mpr (cl x (List.mem_reverse.mp h1)))
        · exact List.mem_append_right _ (ih.all x h1)
      · rcases List.mem_append.mp hl with h1 | h1
        · exact ih.land l h1 x hx
        · cases List.mem_singleton.mp h1
          exact cl x hx
theorem land_closed {D : List (List Nat)} {m : Nat} (h : Dr D m) {l : List Nat} (hl : l ∈ landsF D) {x : Nat} (hx : x ∈ l) : phi D x ∈ l := by
  unfold landsF at hl
  rcases List.mem_append.mp hl with h1 | h1
  · exact (lcl (f := phi D) (N := D.flatten.length) (fun x hx => by rw [h.len] at hx ⊢; exact phi_lt h hx) (fun x y hx hy e => phi_inj h (by rw [← h.len]; exact hx) (by rw [← h.len]; exact hy) e) _ (Nat.le_refl _)).land l h1 x hx
  · unfold bares at h1
    obtain ⟨_, _, rfl⟩ := List.mem_map.mp h1
    cases hx
theorem land_phi {D : List (List Nat)} {m x : Nat} (h : Dr D m) (hx : x < 2 * m) : seat (landsF D) (phi D x) = seat (landsF D) x := by
  obtain ⟨r, h1, h2⟩ := seat_row (landsF_dr h) hx
  exact seat_at (landsF_dr h).nd h1 (land_closed h (List.mem_of_getElem? h1) h2)
/-- the ends of a land follow one from another -/
theorem fwalk_rel (f : Nat → Nat) (Rl : Nat → Nat → Prop) (hr : ∀ x, Rl x x) (ht : ∀ x y z, Rl x y → Rl y z → Rl x z) : ∀ (k : Nat) (S : List Nat) (e : Nat) (N : Nat), (∀ x, x < N → f x < N) → (∀ x, x < N → Rl x (f x)) → e < N → ∀ x ∈ fwalk f k S e, Rl e x
  | 0, _, _, _, _, _, _, x, h => by simp [fwalk] at h
  | k + 1, S, e, N, hf, hs, he, x, h => by
    by_cases hm : e ∈ S
    · rw [fwalk_mem f _ hm] at h; cases h
    · rw [fwalk_step f k hm] at h
      rcases List.mem_cons.mp h with rfl | h
      · exact hr _
      · exact ht _ _ _ (hs e he) (fwalk_rel f Rl hr ht k _ _ N hf hs (hf e he) x h)
/-- a relation that the step keeps holds from a land's first end to each of its ends -/
theorem land_rel {D : List (List Nat)} {m : Nat} (h : Dr D m) (Rl : Nat → Nat → Prop) (hr : ∀ x, Rl x x) (ht : ∀ x y z, Rl x y → Rl y z → Rl x z) (hs : ∀ x, x < 2 * m → Rl x (phi D x)) {l : List Nat} (hl : l ∈ landsF D) {x : Nat} (hx : x ∈ l) : Rl (l.getD 0 0) x := by
  have all : ∀ j, ∀ l ∈ (lgo (phi D) D.flatten.length j).2, j ≤ D.flatten.length → ∀ x ∈ l, Rl (l.getD 0 0) x := by
    intro j
    induction j with
    | zero => intro l hl; cases hl
    | succ j ih =>
      intro l hl hj x hx
      rw [lgo_succ] at hl
      unfold lstep at hl
      by_cases hm : j ∈ (lgo (phi D) D.flatten.length j).1
      · rw [if_pos hm] at hl
        exact ih l hl (by omega) x hx
      · rw [if_neg hm] at hl
        rcases List.mem_append.mp hl with h1 | h1
        · exact ih l h1 (by omega) x hx
        · cases List.mem_singleton.mp h1
          have hN := h.len
          obtain ⟨N, eN⟩ : ∃ N, D.flatten.length = N + 1 := ⟨D.flatten.length - 1, by omega⟩
          have e0 : (fwalk (phi D) D.flatten.length (lgo (phi D) D.flatten.length j).1 j).getD 0 0 = j := by
            rw [show fwalk (phi D) D.flatten.length (lgo (phi D) D.flatten.length j).1 j = fwalk (phi D) (N + 1) (lgo (phi D) D.flatten.length j).1 j by rw [← eN]]
            rw [fwalk_step _ _ hm]; rfl
          rw [e0]
          exact fwalk_rel (phi D) Rl hr ht _ _ _ (2 * m) (fun x hx => phi_lt h hx) hs (by omega) x hx
  unfold landsF at hl
  rcases List.mem_append.mp hl with h1 | h1
  · exact all _ l h1 (Nat.le_refl _) x hx
  · unfold bares at h1
    obtain ⟨_, _, rfl⟩ := List.mem_map.mp h1
    cases hx
/-! round a place -/
theorem around {r : List Nat} {S : Nat → Prop} {z : Nat} (nd : r.Nodup) (hz : z ∈ r) (h0 : S (nxt r z)) (hs : ∀ y ∈ r, S y → y ≠ z → S (nxt r y)) : ∀ y ∈ r, S y := by
  have hc := idxOf_some hz
  have hl := (List.getElem?_eq_some_iff.mp hc).1
  have main : ∀ t, t < r.length → ∀ y, r[(r.idxOf z + 1 + t) % r.length]? = some y → S y := by
    intro t
    induction t with
    | zero =>
      intro _ y hy
      rw [Nat.add_zero, nxt_get nd hc] at hy
      cases Option.some.inj hy
      exact h0
    | succ t ih =>
      intro ht y hy
      have hlt : (r.idxOf z + 1 + t) % r.length < r.length := Nat.mod_lt _ (by omega)
      have hy' := ih (by omega) _ (List.getElem?_eq_getElem hlt)
      have hne : r[(r.idxOf z + 1 + t) % r.length] ≠ z := fun e => by
        have := idxOf_get nd (List.getElem?_eq_getElem hlt)
        rw [e] at this
        by_cases c : r.idxOf z + 1 + t < r.length
        · rw [Nat.mod_eq_of_lt c] at this; omega
        · have e2 : (r.idxOf z + 1 + t) % r.length = r.idxOf z + 1 + t - r.length := by
            rw [Nat.mod_eq_sub_mod (by omega)]
            exact Nat.mod_eq_of_lt (by omega)
          omega
      have := hs _ (List.getElem_mem hlt) hy' hne
      have hn := nxt_get nd (List.getElem?_eq_getElem hlt)
      have e3 : ((r.idxOf z + 1 + t) % r.length + 1) % r.length = (r.idxOf z + 1 + (t + 1)) % r.length := by
        rw [Nat.mod_add_mod]; congr 1
      rw [e3, hy] at hn
      rw [Option.some.inj hn]
      exact this
  intro y hy
  have hyi := idxOf_some hy
  have hyl := (List.getElem?_eq_some_iff.mp hyi).1
  by_cases c : r.idxOf z + 1 ≤ r.idxOf y
  · refine main (r.idxOf y - (r.idxOf z + 1)) (by omega) y ?_
    rw [show r.idxOf z + 1 + (r.idxOf y - (r.idxOf z + 1)) = r.idxOf y by omega, Nat.mod_eq_of_lt hyl]
    exact hyi
  · refine main (r.idxOf y + r.length - (r.idxOf z + 1)) (by omega) y ?_
    rw [show r.idxOf z + 1 + (r.idxOf y + r.length - (r.idxOf z + 1)) = r.idxOf y + r.length by omega, Nat.add_mod_right, Nat.mod_eq_of_lt hyl]
    exact hyi
theorem around_all {r : List Nat} {S : Nat → Prop} {y0 : Nat} (nd : r.Nodup) (h : y0 ∈ r) (h0 : S y0) (hs : ∀ y ∈ r, S y → S (nxt r y)) : ∀ y ∈ r, S y :=
  around nd h (hs y0 h h0) fun y hy hS _ => hs y hy hS
/-- a set of ends that is closed under the step, and under the mates of ties beyond the tree, has all ends of the part -/
theorem contour {D : List (List Nat)} {m root : Nat} {T : List (Nat × Nat)} {S : Nat → Prop} (hD : Dr D m) (hT : IsTree D root T) (hphi : ∀ x, x < 2 * m → S x → S (phi D x)) (hmate : ∀ x, x < 2 * m → S x → x / 2 ∉ ties T → S (mate x))
    {x0 : Nat} (hx0 : x0 ∈ row D root) (h0 : S x0) : ∀ q ∈ tkeys root T, ∀ x ∈ row D q, S x := by
  have hb : ∀ {q x}, x ∈ row D q → behind D x = nxt (row D q) x := fun {q x} hx => by unfold behind; rw [(row_end hD hx).2]
  have hnd : ∀ {q x}, x ∈ row D q → (row D q).Nodup := fun {q x} hx => row_nodup hD.nd (row_get (row_mem_lt hx))
  -- going on at a place, but from its own end up
  have down : ∀ (n i : Nat), T.length - i = n → i ≤ T.length → ∀ q, (tkeys root T)[i]? = some q → ∀ x ∈ row D q, S x → (q, x) ∉ T → S (behind D x) := by
    intro n
    induction n using Nat.strongRecOn with
    | _ n ih =>
      intro i hn hi q hq x hx hS hpar
      obtain ⟨hlt, hse⟩ := row_end hD hx
      by_cases ht : x / 2 ∈ ties T
      · obtain ⟨⟨q', e'⟩, hmem, he⟩ := List.mem_map.mp ht
        obtain ⟨j, hj⟩ := List.getElem?_of_mem hmem
        have hjl := (List.getElem?_eq_some_iff.mp hj).1
        obtain ⟨he1, he2⟩ := hT.edge j q' e' hj
        obtain ⟨hlt', hse'⟩ := row_end hD he1
        rcases half_eq he with z | z
        · -- x is the entry of its own place
          have : e' = x := z
          subst this
          exact absurd (by rw [← hse, hse']; exact hmem) hpar
        · have z : e' = mate x := z
          have hq' : (tkeys root T)[j + 1]? = some q' := by
            unfold tkeys
            rw [List.getElem?_cons_succ, List.getElem?_map, hj]; rfl
          have hij : i ≤ j := by
            rw [z, mate_mate, hse] at he2
            obtain ⟨k, hk⟩ := List.getElem?_of_mem he2
            have hkl := (List.getElem?_eq_some_iff.mp hk).1
            unfold tkeys at hkl
            rw [List.length_cons, List.length_map, List.length_take] at hkl
            have hk2 : (tkeys root T)[k]? = some q := by
              unfold tkeys at hk ⊢
              cases k with
              | zero => exact hk
              | succ k =>
                rw [List.getElem?_cons_succ, List.getElem?_map, List.getElem?_take] at hk
                rw [List.getElem?_cons_succ, List.getElem?_map]
                by_cases c : k < j
                · rw [if_pos c] at hk; exact hk
                · rw [if_neg c] at hk; cases hk
            have := (List.getElem_inj (h₀ := (List.getElem?_eq_some_iff.mp hk2).1) (h₁ := (List.getElem?_eq_some_iff.mp hq).1) hT.nd).mp (by rw [(List.getElem?_eq_some_iff.mp hk2).2, (List.getElem?_eq_some_iff.mp hq).2])
            omega
          have ihj := ih (T.length - (j + 1)) (by omega) (j + 1) rfl (by omega) q' hq'
          -- from x on into the place q', round it, and back
          have s1 : S (behind D e') := by
            have := hphi x hlt hS
            unfold phi at this
            rw [z]
            exact this
          have hall := around (S := S) (hnd he1) he1 (by rw [← hb he1]; exact s1) (fun y hy hSy hne => by
            rw [← hb hy]
            refine ihj y hy hSy fun hm => hne ?_
            exact congrArg Prod.snd (nodup_fst' (List.nodup_cons.mp hT.nd).2 hm hmem rfl))
          have s2 := hphi e' hlt' (hall e' he1)
          unfold phi at s2
          rw [z, mate_mate] at s2
          exact s2
      · have s1 := hmate x hlt hS ht
        have s2 := hphi (mate x) (mate_lt hlt) s1
        unfold phi at s2
        rw [mate_mate] at s2
        exact s2
  have dn : ∀ q ∈ tkeys root T, ∀ x ∈ row D q, S x → (q, x) ∉ T → S (behind D x) := fun q hq => by
    obtain ⟨i, hi⟩ := List.getElem?_of_mem hq
    have hil := (List.getElem?_eq_some_iff.mp hi).1
    unfold tkeys at hil
    rw [List.length_cons, List.length_map] at hil
    exact down _ i rfl (by omega) q hi
  -- from the root up
  have up : ∀ (i : Nat) q, (tkeys root T)[i]? = some q → ∀ x ∈ row D q, S x := by
    intro i
    induction i using Nat.strongRecOn with
    | _ i ih =>
      intro q hq
      cases i with
      | zero =>
        cases Option.some.inj hq
        refine around_all (hnd hx0) hx0 h0 fun y hy hS => ?_
        rw [← hb hy]
        refine dn root List.mem_cons_self y hy hS fun hm => ?_
        exact (List.nodup_cons.mp hT.nd).1 (List.mem_map.mpr ⟨_, hm, rfl⟩)
      | succ i =>
        unfold tkeys at hq
        rw [List.getElem?_cons_succ, List.getElem?_map] at hq
        cases hTi : T[i]? with
        | none => rw [hTi] at hq; cases hq
        | some p =>
          obtain ⟨q', e'⟩ := p
          rw [hTi] at hq
          cases Option.some.inj hq
          obtain ⟨he1, he2⟩ := hT.edge i q' e' hTi
          obtain ⟨hlt', hse'⟩ := row_end hD he1
          have hmem := List.mem_of_getElem? hTi
          obtain ⟨k, hk⟩ := List.getElem?_of_mem he2
          have hkl := (List.getElem?_eq_some_iff.mp hk).1
          unfold tkeys at hkl
          rw [List.length_cons, List.length_map, List.length_take] at hkl
          have hk2 : (tkeys root T)[k]? = some (seat D (mate e')) := by
            unfold tkeys at hk ⊢
            cases k with
            | zero => exact hk
            | succ k =>
              rw [List.getElem?_cons_succ, List.getElem?_map, List.getElem?_take] at hk
              rw [List.getElem?_cons_succ, List.getElem?_map]
              by_cases c : k < i
              · rw [if_pos c] at hk; exact hk
              · rw [if_neg c] at hk; cases hk
          have s0 := ih k (by omega) _ hk2 (mate e') (mem_row hD (mate_lt hlt'))
          have s1 := hphi (mate e') (mate_lt hlt') s0
          unfold phi at s1
          rw [mate_mate] at s1
          have hqk : q' ∈ tkeys root T := List.mem_cons_of_mem _ (List.mem_map.mpr ⟨_, hmem, rfl⟩)
          refine around (hnd he1) he1 (by rw [← hb he1]; exact s1) fun y hy hSy hne => ?_
          rw [← hb hy]
          refine dn q' hqk y hy hSy fun hm => hne ?_
          exact congrArg Prod.snd (nodup_fst' (List.nodup_cons.mp hT.nd).2 hm hmem rfl)
  intro q hq
  obtain ⟨i, hi⟩ := List.getElem?_of_mem hq
  exact up i q hi
end RF
namespace RF
/-! ### plain: the round along a tie left parts nothing; some tie is left -/
def NonSep (D : List (List Nat)) (m : Nat) (w : List Nat) : Prop := ∀ R, CutJ D m w w.length R → ∃ i, i < w.length ∧ Reach R (seat D (w.getD i 0)) (D.length + i)
/-- what both_trees tells -/
structure Both (D : List (List Nat)) (m root : Nat) (T TW : List (Nat × Nat)) : Prop where
  bfs : IsBfs D root T
  lt : IsLT (landsF D) (fun k => k ∈ ties T) (seat (landsF D) ((row D root).getD 0 0)) TW
  cl : ∀ l ∈ tkeys (seat (landsF D) ((row D root).getD 0 0)) TW, ∀ e ∈ row (landsF D) l, e / 2 ∉ ties T → seat (landsF D) (mate e) ∈ tkeys (seat (landsF D) ((row D root).getD 0 0)) TW
theorem land_mem {D : List (List Nat)} {m x : Nat} (hD : Dr D m) (hx : x < 2 * m) : x ∈ row (landsF D) (seat (landsF D) x) := mem_row (landsF_dr hD) hx
/-- every end of the part stands in a land of the tree of lands -/
theorem Both.all {D : List (List Nat)} {m root : Nat} {T TW : List (Nat × Nat)} (hD : Dr D m) (hne : row D root ≠ []) (h : Both D m root T TW) : ∀ q ∈ tkeys root T, ∀ x ∈ row D q, seat (landsF D) x ∈ tkeys (seat (landsF D) ((row D root).getD 0 0)) TW := by
  have h0 : (row D root)[0]? = some ((row D root).getD 0 0) := get_getD (List.length_pos_iff.mpr hne)
  refine contour (S := fun x => seat (landsF D) x ∈ tkeys (seat (landsF D) ((row D root).getD 0 0)) TW) hD h.bfs.tree (fun x hx hS => ?_) (fun x hx hS ht => ?_) (List.mem_of_getElem? h0) List.mem_cons_self
  · show seat (landsF D) (phi D x) ∈ _
    rw [land_phi hD hx]; exact hS
  · exact h.cl _ hS x (land_mem hD hx) ht
theorem LT_rel {D : List (List Nat)} {m f : Nat} {ins : Nat → Prop} {TW : List (Nat × Nat)} (hD : Dr D m) (Rl : Nat → Nat → Prop) (hr : ∀ x, Rl x x) (hsy : ∀ x y, Rl x y → Rl y x) (ht : ∀ x y z, Rl x y → Rl y z → Rl x z) (hs : ∀ x, x < 2 * m → Rl x (phi D x))
    (h : IsLT (landsF D) ins f TW) (hm : ∀ q e, (q, e) ∈ TW → Rl e (mate e)) {x0 : Nat} (h0 : x0 ∈ row (landsF D) f) : ∀ l ∈ tkeys f TW, ∀ x ∈ row (landsF D) l, Rl x0 x := by
  have inland : ∀ l, l < (landsF D).length → ∀ x ∈ row (landsF D) l, ∀ y ∈ row (landsF D) l, Rl x y := fun l hl x hx y hy => by
    have hmem := List.mem_of_getElem? (row_get hl)
    exact ht _ _ _ (hsy _ _ (land_rel hD Rl hr ht hs hmem hx)) (land_rel hD Rl hr ht hs hmem hy)
  have main : ∀ (i : Nat) l, (tkeys f TW)[i]? = some l → ∀ x ∈ row (landsF D) l, Rl x0 x := by
    intro i
    induction i using Nat.strongRecOn with
    | _ i ih =>
      intro l hl x hx
      cases i with
      | zero =>
        cases Option.some.inj hl
        exact inland _ (h.lt _ List.mem_cons_self) x0 h0 x hx
      | succ i =>
        unfold tkeys at hl
        rw [List.getElem?_cons_succ, List.getElem?_map] at hl
        cases hTi : TW[i]? with
        | none => rw [hTi] at hl; cases hl
        | some p =>
          obtain ⟨q', e'⟩ := p
          rw [hTi] at hl
          cases Option.some.inj hl
          obtain ⟨he1, _, he2⟩ := h.edge i q' e' hTi
          have hmem := List.mem_of_getElem? hTi
          obtain ⟨k, hk⟩ := List.getElem?_of_mem he2
          have hkl := (List.getElem?_eq_some_iff.mp hk).1
          unfold tkeys at hkl
          rw [List.length_cons, List.length_map, List.length_take] at hkl
          have hk2 : (tkeys f TW)[k]? = some (seat (landsF D) (mate e')) := by
            unfold tkeys at hk ⊢
            cases k with
            | zero => exact hk
            | succ k =>
              rw [List.getElem?_cons_succ, List.getElem?_map, List.getElem?_take] at hk
              rw [List.getElem?_cons_succ, List.getElem?_map]
              by_cases c : k < i
              · rw [if_pos c] at hk; exact hk
              · rw [if_neg c] at hk; cases hk
          have hlt' := (row_end (landsF_dr hD) he1).1
          have s0 := ih k (by omega) _ hk2 (mate e') (land_mem hD (mate_lt hlt'))
          have hq : q' < (landsF D).length := row_mem_lt he1
          exact ht _ _ _ s0 (ht _ _ _ (hsy _ _ (hm q' e' hmem)) (inland q' hq e' he1 x hx))
  intro l hl
  obtain ⟨i, hi⟩ := List.getElem?_of_mem hl
  exact main i l hi
/-- what stands behind, in a row turned to begin elsewhere -/
theorem nxt_rot {r : List Nat} {k x : Nat} (nd : r.Nodup) (hx : x ∈ r) : nxt (r.drop k ++ r.take k) x = nxt r x := by
  have nd2 : (r.drop k ++ r.take k).Nodup := (rot_perm r k).nodup_iff.mpr nd
  have hi := idxOf_some hx
  have hil := (List.getElem?_eq_some_iff.mp hi).1
  have hn := nxt_get nd hi
  have hlen : (r.drop k ++ r.take k).length = r.length := (rot_perm r k).length_eq
  by_cases hk : k < r.length
  · have rot : ∀ j y, j < r.length → r[j]? = some y → (r.drop k ++ r.take k)[(j + (r.length - k)) % r.length]? = some y := fun j y hj hy => by
      by_cases c : k ≤ j
      · have e : (j + (r.length - k)) % r.length = j - k := by
          have : j + (r.length - k) = (j - k) + r.length := by omega
          rw [this, Nat.add_mod_right]
          exact Nat.mod_eq_of_lt (by omega)
        rw [e, List.getElem?_append_left (by rw [List.length_drop]; omega), List.getElem?_drop, show k + (j - k) = j by omega]
        exact hy
      · have e : (j + (r.length - k)) % r.length = j + (r.length - k) := Nat.mod_eq_of_lt (by omega)
        rw [e, List.getElem?_append_right (by rw [List.length_drop]; omega), List.length_drop, show j + (r.length - k) - (r.length - k) = j by omega, List.getElem?_take, if_pos (by omega)]
        exact hy
    have h1 := nxt_get nd2 (rot _ _ hil hi)
    have hl2 := (List.getElem?_eq_some_iff.mp hn).1
    have h2 := rot _ _ hl2 hn
    rw [hlen] at h1
    have e : ((r.idxOf x + (r.length - k)) % r.length + 1) % r.length = ((r.idxOf x + 1) % r.length + (r.length - k)) % r.length := by
      rw [Nat.mod_add_mod, Nat.mod_add_mod]
      congr 1; omega
    rw [e, h2] at h1
    exact (Option.some.inj h1).symm
  · rw [List.drop_eq_nil_of_le (by omega), List.nil_append, List.take_of_length_le (by omega)]
theorem mem_row_of {D : List (List Nat)} {m x p : Nat} (hD : Dr D m) (e : p = seat D x) (hx : x < 2 * m) : x ∈ row D p := by
  rw [e]; exact mem_row hD hx
section
variable {D : List (List Nat)} {m : Nat} {w : List Nat} {R : List (List Nat)}
/-- the place, in the cut drawing, of the land at an end's left -/
def lam (D : List (List Nat)) (m : Nat) (w : List Nat) (e : Nat) : Nat := if e ∈ w.map mate then D.length else cs D m w e
theorem right_on (hD : Dr D m) (hR : IsRound D m w) (hC : CutJ D m w w.length R) {i : Nat} (hi : i < w.length) : Reach R (D.length + i) (D.length + (i + 1) % w.length) := by
  have hDR := cut_dr hD hR hC
  have hlt : 2 * m + 2 * i < 2 * (m + w.length) := by omega
  have hs := cut_seat hD hR hC hlt
  have e1 : cs D m w (2 * m + 2 * i) = D.length + i := by
    unfold cs
    rw [if_neg (by omega), if_pos (by omega)]
    congr 1; omega
  have hm := mem_row hDR hlt
  rw [hs, e1] at hm
  have h2 : Reach R (D.length + i) (seat R (mate (2 * m + 2 * i))) := .step .refl hm
  rw [cut_seat hD hR hC (mate_lt hlt)] at h2
  have e2 : mate (2 * m + 2 * i) = 2 * m + 2 * i + 1 := by unfold mate; omega
  have e3 : cs D m w (2 * m + 2 * i + 1) = D.length + (i + 1) % w.length := by
    unfold cs
    rw [if_neg (by omega), if_neg (by omega)]
    have : (2 * m + 2 * i + 1 - 2 * m) / 2 = i := by omega
    rw [this]
  rw [e2, e3] at h2
  exact h2
theorem right_all (hD : Dr D m) (hR : IsRound D m w) (hC : CutJ D m w w.length R) : ∀ i, i < w.length → Reach R D.length (D.length + i)
  | 0, _ => .refl
  | i + 1, hi => by
    have := right_on hD hR hC (i := i) (by omega)
    rw [Nat.mod_eq_of_lt hi] at this
    exact (right_all hD hR hC i (by omega)).trans this
theorem edge_reach (hD : Dr D m) (hR : IsRound D m w) (hC : CutJ D m w w.length R) {x : Nat} (hx : x < 2 * m) : Reach R (cs D m w x) (cs D m w (mate x)) := by
  have hDR := cut_dr hD hR hC
  have hlt : x < 2 * (m + w.length) := by omega
  have hm := mem_row hDR hlt
  rw [cut_seat hD hR hC hlt] at hm
  have := Reach.step (D := R) (s := cs D m w x) .refl hm
  rw [cut_seat hD hR hC (mate_lt hlt)] at this
  exact this
theorem turn_of_mate {e : Nat} (h : e ∈ w.map mate) : e / 2 ∈ w.map (· / 2) := by
  obtain ⟨b, hb, rfl⟩ := List.mem_map.mp h
  rw [mate_half]
  exact List.mem_map.mpr ⟨b, hb, rfl⟩
/-- at the step the land at the left stays in its part -/
theorem lam_phi (hD : Dr D m) (hR : IsRound D m w) (hC : CutJ D m w w.length R) {e : Nat} (he : e < 2 * m) : Reach R (lam D m w e) (lam D m w (phi D e)) := by
  have hDR := cut_dr hD hR hC
  have hxl := mate_lt he
  have hyl := phi_lt hD he
  have hys : seat D (phi D e) = seat D (mate e) := seat_behind hD hxl
  -- an end that is no end of the turn
  have non : ∀ z, z / 2 ∉ w.map (· / 2) → lam D m w z = cs D m w z := fun z hz => by
    unfold lam
    rw [if_neg fun h => hz (turn_of_mate h)]
  rcases tix_or (D := D) (w := w) (mate e) with ⟨hi, hp⟩ | hno
  · revert hi hp
    generalize tix D w (mate e) = i
    intro hi hp
    have hring : ∀ z, z ∈ ringAt D w i ↔ z < 2 * m ∧ seat D z = seat D (w.getD i 0) := fun z => mem_ring hD hR hi
    have ndr := ring_nodup hD hR hi
    have hxr : mate e ∈ ringAt D w i := (hring _).mpr ⟨hxl, hp.symm⟩
    have hyr : phi D e ∈ ringAt D w i := (hring _).mpr ⟨hyl, by rw [hys, hp]⟩
    have hxi := idxOf_some hxr
    have hxil := (List.getElem?_eq_some_iff.mp hxi).1
    have hbi : (ringAt D w i)[cutIx D w i]? = some (w.getD i 0) := ixget (ring_mem hD hR hi)
    have hbil := (List.getElem?_eq_some_iff.mp hbi).1
    have h0 := ring_zero hD hR hi
    have hc0 := cutIx_pos hD hR hi
    -- the step in the ring
    have hy : (ringAt D w i)[((ringAt D w i).idxOf (mate e) + 1) % (ringAt D w i).length]? = some (phi D e) := by
      have := nxt_get ndr hxi
      have e2 : nxt (ringAt D w i) (mate e) = phi D e := by
        unfold phi behind
        rw [← hp]
        exact nxt_rot (row_nodup hD.nd (row_get (seat_lt hD (hR.lt hi)))) (mem_row_of hD hp hxl)
      rw [e2] at this
      exact this
    revert hxi hxil hy
    generalize (ringAt D w i).idxOf (mate e) = t
    intro hxi hxil hy
    -- ends of the turn at this place
    have tends : ∀ z, z / 2 ∈ w.map (· / 2) → seat D z = seat D (w.getD i 0) → z = w.getD i 0 ∨ z = mate (prv w i) := fun z hz hs => by
      obtain ⟨j, hj, rfl | rfl⟩ := turn_tie hz
      · left
        rw [round_inj hR hj hi hs]
      · right
        rw [seat_mate_b hR hj] at hs
        have := round_inj hR (Nat.mod_lt _ (by omega)) hi hs
        subst this
        rw [prv_next hj]
    have prvi : (i + (w.length - 1)) % w.length < w.length := Nat.mod_lt _ (by omega)
    have nxi : ((i + (w.length - 1)) % w.length + 1) % w.length = i := by
      rw [Nat.mod_add_mod]
      have : i + (w.length - 1) + 1 = i + w.length := by omega
      rw [this, Nat.add_mod_right]
      exact Nat.mod_eq_of_lt hi
    have bmate : w.getD i 0 ∉ w.map mate := fun z => by
      obtain ⟨b, hb, eb⟩ := List.mem_map.mp z
      obtain ⟨j, hj⟩ := List.getElem?_of_mem hb
      have hjl := (List.getElem?_eq_some_iff.mp hj).1
      have h1 : w.getD j 0 / 2 = w.getD i 0 / 2 := by rw [getD_get hj, ← eb, mate_half]
      have h2 := tie_inj hR hjl hi h1
      rw [← h2, getD_get hj] at eb
      exact mate_ne _ eb
    have amate : mate (prv w i) ∈ w.map mate := List.mem_map.mpr ⟨_, prv_mem hi, rfl⟩
    have e_eq : e = mate (mate e) := (mate_mate e).symm
    -- where x stands: left of the turn or right of it
    have csx : ∀ z k, (ringAt D w i)[k]? = some z → (k ≤ cutIx D w i → cs D m w z = seat D (w.getD i 0)) ∧ (cutIx D w i < k → cs D m w z = D.length + i) := fun z k hk => by
      have hz := (hring z).mp (List.mem_of_getElem? hk)
      refine ⟨fun h => ?_, fun h => ?_⟩
      · have hc : z ∈ cutL D w i := List.mem_of_getElem? (i := k) (by unfold cutL; rw [List.getElem?_take, if_pos (by omega)]; exact hk)
        unfold cs
        rw [if_pos hz.1, tix_at hR hi hz.2, if_neg fun y => y.2 hc, hz.2]
      · have hc : z ∉ cutL D w i := fun y => by
          obtain ⟨k', hk'⟩ := List.getElem?_of_mem y
          unfold cutL at hk'
          rw [List.getElem?_take] at hk'
          by_cases c : k' < cutIx D w i + 1
          · rw [if_pos c] at hk'
            have e1 := idxOf_get ndr hk
            have e2 := idxOf_get ndr hk'
            omega
          · rw [if_neg c] at hk'; cases hk'
        unfold cs
        rw [if_pos hz.1, tix_at hR hi hz.2, if_pos ⟨hi, hc⟩]
    have right0 : Reach R D.length (D.length + i) := right_all hD hR hC i hi
    by_cases ht : t < cutIx D w i
    · -- left
      have hyt : (ringAt D w i)[t + 1]? = some (phi D e) := by
        rw [Nat.mod_eq_of_lt (by omega)] at hy; exact hy
      have hyc := (csx _ _ hyt).1 (by omega)
      have hyn : phi D e ∉ w.map mate := fun z => by
        have h1 := tends _ (turn_of_mate z) (by rw [hys, hp])
        rcases h1 with h1 | h1
        · rw [h1] at z; exact bmate z
        · have e1 := idxOf_get ndr hyt
          have e2 := idxOf_get ndr h0
          rw [h1] at e1
          omega
      have ly : lam D m w (phi D e) = seat D (w.getD i 0) := by
        unfold lam
        rw [if_neg hyn]; exact hyc
      rw [ly]
      have hxc := (csx _ _ hxi).1 (by omega)
      have hel : Reach R (cs D m w e) (seat D (w.getD i 0)) := by
        have := edge_reach hD hR hC he
        rw [hxc] at this
        exact this
      have hen : e ∉ w.map mate := fun z => by
        have h1 : mate e / 2 ∈ w.map (· / 2) := by rw [mate_half]; exact turn_of_mate z
        rcases tends _ h1 hp.symm with h2 | h2
        · have e1 := idxOf_get ndr hxi
          have e2 := idxOf_get ndr hbi
          rw [h2] at e1
          omega
        · have h3 := mate_inj h2
          rw [h3] at z
          obtain ⟨b, hb, eb⟩ := List.mem_map.mp z
          obtain ⟨j, hj⟩ := List.getElem?_of_mem hb
          have hjl := (List.getElem?_eq_some_iff.mp hj).1
          have hpe : prv w i = w.getD ((i + (w.length - 1)) % w.length) 0 := rfl
          have h4 : w.getD j 0 / 2 = w.getD ((i + (w.length - 1)) % w.length) 0 / 2 := by rw [getD_get hj, ← hpe, ← eb, mate_half]
          have h5 := tie_inj hR hjl prvi h4
          rw [hpe, ← h5, getD_get hj] at eb
          exact mate_ne _ eb
      unfold lam
      rw [if_neg hen]
      exact hel
    · -- right
      have ly : Reach R (D.length + i) (lam D m w (phi D e)) := by
        by_cases hlast : t + 1 = (ringAt D w i).length
        · rw [hlast, Nat.mod_self, h0] at hy
          rw [← Option.some.inj hy]
          unfold lam
          rw [if_pos amate]
          exact right0.symm hDR
        · rw [Nat.mod_eq_of_lt (by omega)] at hy
          have hyc := (csx _ _ hy).2 (by omega)
          have hyn : phi D e ∉ w.map mate := fun z => by
            have h1 := tends _ (turn_of_mate z) (by rw [hys, hp])
            rcases h1 with h1 | h1
            · rw [h1] at z; exact bmate z
            · have e1 := idxOf_get ndr hy
              have e2 := idxOf_get ndr h0
              rw [h1] at e1
              omega
          unfold lam
          rw [if_neg hyn, hyc]
          exact .refl
      refine Reach.trans ?_ ly
      by_cases hb : t = cutIx D w i
      · rw [hb, hbi] at hxi
        have hx := Option.some.inj hxi
        have hem : e ∈ w.map mate := by
          rw [e_eq, ← hx]
          exact List.mem_map.mpr ⟨_, List.mem_of_getElem? (get_getD hi), rfl⟩
        unfold lam
        rw [if_pos hem]
        exact right0
      · have hxc := (csx _ _ hxi).2 (by omega)
        have hel : Reach R (cs D m w e) (D.length + i) := by
          have := edge_reach hD hR hC he
          rw [hxc] at this
          exact this
        have hen : e ∉ w.map mate := fun z => by
          have h1 : mate e / 2 ∈ w.map (· / 2) := by rw [mate_half]; exact turn_of_mate z
          rcases tends _ h1 hp.symm with h2 | h2
          · have e1 := idxOf_get ndr hxi
            have e2 := idxOf_get ndr hbi
            rw [h2] at e1
            omega
          · have e1 := idxOf_get ndr hxi
            have e2 := idxOf_get ndr h0
            rw [h2] at e1
            omega
        unfold lam
        rw [if_neg hen]
        exact hel
  · -- a place beside the turn
    have hx : mate e / 2 ∉ w.map (· / 2) := fun z => by
      obtain ⟨j, hj, h1 | h1⟩ := turn_tie z
      · exact hno j hj (by rw [h1])
      · rw [h1, seat_mate_b hR hj] at hno
        exact hno _ (Nat.mod_lt _ (by omega)) rfl
    have he' : e / 2 ∉ w.map (· / 2) := by rw [mate_half] at hx; exact hx
    have hy : phi D e / 2 ∉ w.map (· / 2) := fun z => by
      obtain ⟨j, hj, h1 | h1⟩ := turn_tie z
      · exact hno j hj (by rw [← hys, h1])
      · rw [h1, seat_mate_b hR hj] at hys
        exact hno _ (Nat.mod_lt _ (by omega)) hys
    have csn : ∀ z, z < 2 * m → seat D z = seat D (mate e) → cs D m w z = seat D (mate e) := fun z hz hs => by
      unfold cs
      rw [if_pos hz, if_neg fun y => tix_no (fun i hi => by rw [hs]; exact hno i hi) y.1, hs]
    rw [non e he', non _ hy, csn _ hyl hys]
    have := edge_reach hD hR hC he
    rw [csn _ hxl rfl] at this
    exact this
end
/-- the round along a tie that is in neither tree parts nothing -/
theorem non_sep {D : List (List Nat)} {m root k : Nat} {T TW : List (Nat × Nat)} {w : List Nat} (hD : Dr D m) (hne : row D root ≠ []) (h : Both D m root T TW) (hk : ∃ q ∈ tkeys root T, ∃ e ∈ row D q, e / 2 = k) (hkT : k ∉ ties T) (hkW : k ∉ ties TW)
    (hA : AlongOk D m T (2 * k) w) : NonSep D m w := by
  intro R hC
  have hR := hA.round
  have hDR := cut_dr hD hR hC
  have h0l : 0 < w.length := List.length_pos_iff.mpr hR.ne
  have w0 : w.getD 0 0 = 2 * k := getD_get hA.first
  have hk2 : 2 * k / 2 = k := by omega
  obtain ⟨q0, hq0, e0, he0, hek⟩ := hk
  have hlt0 := (row_end hD he0).1
  have hlt : 2 * k < 2 * m := by omega
  -- both ends of the tie stand in the part
  have hboth : ∀ x, x / 2 = k → ∃ q ∈ tkeys root T, x ∈ row D q := fun x hx => by
    rcases half_eq (hx.trans hek.symm) with z | z
    · exact ⟨q0, hq0, z ▸ he0⟩
    · refine ⟨seat D (mate e0), h.bfs.all _ (Reach.step (h.bfs.tree.reach q0 hq0) he0), ?_⟩
      rw [z]
      exact mem_row hD (mate_lt hlt0)
  have hall := h.all hD hne
  have h00 : (row D root)[0]? = some ((row D root).getD 0 0) := get_getD (List.length_pos_iff.mpr hne)
  have hx0 := (row_end hD (List.mem_of_getElem? h00)).1
  -- no tie of the tree of lands belongs to the round
  have hoff : ∀ q e, (q, e) ∈ TW → e / 2 ∉ w.map (· / 2) := fun q e hm z => by
    obtain ⟨x, hx, ex⟩ := List.mem_map.mp z
    obtain ⟨i, hi⟩ := List.getElem?_of_mem hm
    obtain ⟨he1, he2, _⟩ := h.lt.edge i q e hi
    rcases hA.tree x hx with h1 | h1
    · exact hkW (List.mem_map.mpr ⟨_, hm, by show e / 2 = k; rw [← ex]; show x / 2 = k; rw [h1, hk2]⟩)
    · apply he2
      have ex' : x / 2 = e / 2 := ex
      rw [← ex']
      exact h1
  have hrel := LT_rel (Rl := fun x y => Reach R (lam D m w x) (lam D m w y)) hD (fun _ => .refl) (fun _ _ z => z.symm hDR) (fun _ _ _ a b => a.trans b) (fun x hx => lam_phi hD hR hC hx) h.lt (fun q e hm => by
    have ho := hoff q e hm
    obtain ⟨i, hi⟩ := List.getElem?_of_mem hm
    obtain ⟨he1, _, _⟩ := h.lt.edge i q e hi
    have hl := (row_end (landsF_dr hD) he1).1
    have h1 : lam D m w e = cs D m w e := by unfold lam; rw [if_neg fun z => ho (turn_of_mate z)]
    have h2 : lam D m w (mate e) = cs D m w (mate e) := by unfold lam; rw [if_neg fun z => ho (by rw [← mate_half e]; exact turn_of_mate z)]
    show Reach R (lam D m w e) (lam D m w (mate e))
    rw [h1, h2]
    exact edge_reach hD hR hC hl) (land_mem hD hx0)
  obtain ⟨q1, hq1, hr1⟩ := hboth (2 * k) hk2
  obtain ⟨q2, hq2, hr2⟩ := hboth (mate (2 * k)) (by rw [mate_half]; exact hk2)
  have r1 := hrel _ (hall q1 hq1 _ hr1) _ (land_mem hD hlt)
  have r2 := hrel _ (hall q2 hq2 _ hr2) _ (land_mem hD (mate_lt hlt))
  have r3 : Reach R (lam D m w (2 * k)) (lam D m w (mate (2 * k))) := (Reach.symm hDR r1).trans r2
  have l2 : lam D m w (mate (2 * k)) = D.length := by
    unfold lam
    rw [if_pos (List.mem_map.mpr ⟨_, List.mem_of_getElem? hA.first, rfl⟩)]
  have l1 : lam D m w (2 * k) = seat D (w.getD 0 0) := by
    unfold lam
    rw [if_neg, ← w0, cs_b hD hR h0l]
    intro z
    obtain ⟨b, hb, eb⟩ := List.mem_map.mp z
    obtain ⟨j, hj⟩ := List.getElem?_of_mem hb
    have hjl := (List.getElem?_eq_some_iff.mp hj).1
    have h4 : w.getD j 0 / 2 = w.getD 0 0 / 2 := by rw [getD_get hj, w0, ← eb, mate_half]
    have h5 := tie_inj hR hjl h0l h4
    have h6 : b = 2 * k := by rw [← getD_get hj, h5, w0]
    rw [h6] at eb
    exact mate_ne _ eb
  rw [l1, l2] at r3
  exact ⟨0, h0l, r3⟩
/-! a tie is left -/
theorem count_keys {L : List (List Nat)} {p : List Nat → Bool} {K : List Nat} (nd : K.Nodup) (hl : ∀ l ∈ K, l < L.length) (hp : ∀ l ∈ K, p (row L l) = true) : K.length ≤ L.countP p := by
  have e : L = (List.range L.length).map (row L) := by
    apply List.ext_getElem?
    intro i
    rw [List.getElem?_map]
    by_cases h : i < L.length
    · rw [List.getElem?_range h, row_get h]; rfl
    · rw [List.getElem?_eq_none (by omega), List.getElem?_eq_none (by rw [List.length_range]; omega)]; rfl
  have h1 := nodup_sub_len (l₂ := (List.range L.length).filter fun l => p (row L l)) nd fun x hx => List.mem_filter.mpr ⟨List.mem_range.mpr (hl x hx), hp x hx⟩
  have h2 : L.countP p = ((List.range L.length).filter fun l => p (row L l)).length := by
    conv => lhs; rw [e]
    rw [List.countP_map, List.countP_eq_length_filter]; rfl
  omega
theorem left_some {D : List (List Nat)} {m root : Nat} {T TW : List (Nat × Nat)} {P left : List Nat} (hD : Dr D m) (hne : row D root ≠ []) (h : Both D m root T TW) (hP : ∀ q, q ∈ P ↔ q ∈ tkeys root T) (ndP : P.Nodup) (hh : 0 < holeOf D P)
    (hl : ∀ k, k ∈ left ↔ (∃ q ∈ tkeys root T, ∃ e ∈ row D q, e / 2 = k) ∧ k ∉ ties T ∧ k ∉ ties TW) : left ≠ [] := by
  intro hn
  have hall := h.all hD hne
  have hdl := landsF_dr hD
  -- all ends' ties stand in one of the trees
  have cov : ∀ q ∈ P, ∀ e ∈ row D q, e / 2 ∈ ties T ∨ e / 2 ∈ ties TW := fun q hq e he => by
    apply Classical.byContradiction
    intro z
    have h1 : e / 2 ∈ left := (hl _).mpr ⟨⟨q, (hP q).mp hq, e, he, rfl⟩, fun y => z (.inl y), fun y => z (.inr y)⟩
    rw [hn] at h1
    cases h1
  have hE : endsOf D P ≤ 2 * (T.length + TW.length) := by
    rw [ends_flat]
    have nd : ((P.map (row D)).flatten).Nodup := flat_nodup_of (fun i r hi => by
      rw [List.getElem?_map] at hi
      cases hq : P[i]? with
      | none => rw [hq] at hi; cases hi
      | some q =>
        rw [hq] at hi
        cases Option.some.inj hi
        by_cases hql : q < D.length
        · exact row_nodup hD.nd (row_get hql)
        · have : row D q = [] := by unfold row; rw [List.getD_eq_getElem?_getD, List.getElem?_eq_none (by omega)]; rfl
          rw [this]; exact List.nodup_nil) (fun i j r q x hi hj hr hq => by
      rw [List.getElem?_map] at hi hj
      cases h1 : P[i]? with
      | none => rw [h1] at hi; cases hi
      | some a =>
        cases h2 : P[j]? with
        | none => rw [h2] at hj; cases hj
        | some b =>
          rw [h1] at hi
          rw [h2] at hj
          cases Option.some.inj hi
          cases Option.some.inj hj
          have e1 := (row_end hD hr).2
          have e2 := (row_end hD hq).2
          have eab : a = b := e1.symm.trans e2
          exact (List.getElem_inj (h₀ := (List.getElem?_eq_some_iff.mp h1).1) (h₁ := (List.getElem?_eq_some_iff.mp h2).1) ndP).mp (by rw [(List.getElem?_eq_some_iff.mp h1).2, (List.getElem?_eq_some_iff.mp h2).2, eab]))
    have hs := nodup_sub_len (l₂ := ((ties T ++ ties TW).map fun t => 2 * t) ++ ((ties T ++ ties TW).map fun t => 2 * t + 1)) nd fun x hx => by
      obtain ⟨r, hr, hxr⟩ := List.mem_flatten.mp hx
      obtain ⟨q, hq, rfl⟩ := List.mem_map.mp hr
      have hc : x / 2 ∈ ties T ++ ties TW := List.mem_append.mpr (cov q hq x hxr)
      by_cases hpar : x % 2 = 0
      · exact List.mem_append_left _ (List.mem_map.mpr ⟨x / 2, hc, by omega⟩)
      · exact List.mem_append_right _ (List.mem_map.mpr ⟨x / 2, hc, by omega⟩)
    rw [List.length_append, List.length_map, List.length_map, List.length_append] at hs
    unfold ties at hs
    rw [List.length_map, List.length_map] at hs
    omega
  have hV : T.length + 1 ≤ P.length := by
    have := nodup_sub_len (l₂ := P) h.bfs.tree.nd fun x hx => (hP x).mpr hx
    unfold tkeys at this
    rw [List.length_cons, List.length_map] at this
    exact this
  -- each land of the tree of lands is begun in the part
  have h00 : (row D root)[0]? = some ((row D root).getD 0 0) := get_getD (List.length_pos_iff.mpr hne)
  have hx0m := List.mem_of_getElem? h00
  have hx0 := (row_end hD hx0m).1
  have hsame : ∀ l x y, x ∈ row (landsF D) l → y ∈ row (landsF D) l → seat D x ∈ tkeys root T → seat D y ∈ tkeys root T := fun l x y hx hy hs => by
    have hll := row_mem_lt hx
    have hmem := List.mem_of_getElem? (row_get hll)
    have rr := fun z (hz : z ∈ row (landsF D) l) => land_rel hD (fun a b => Reach D (seat D a) (seat D b)) (fun _ => .refl) (fun _ _ _ a b => a.trans b) (fun a ha => by
      have h1 : seat D (phi D a) = seat D (mate a) := seat_behind hD (mate_lt ha)
      rw [h1]
      exact .step .refl (mem_row hD ha)) hmem hz
    exact h.bfs.all _ ((h.bfs.tree.reach _ hs).trans ((Reach.symm hD (rr x hx)).trans (rr y hy)))
  have hin : ∀ l ∈ tkeys (seat (landsF D) ((row D root).getD 0 0)) TW, ∃ x ∈ row (landsF D) l, seat D x ∈ tkeys root T := by
    have main : ∀ (i : Nat) l, (tkeys (seat (landsF D) ((row D root).getD 0 0)) TW)[i]? = some l → ∃ x ∈ row (landsF D) l, seat D x ∈ tkeys root T := by
      intro i
      induction i using Nat.strongRecOn with
      | _ i ih =>
        intro l hl'
        cases i with
        | zero =>
          cases Option.some.inj hl'
          exact ⟨_, land_mem hD hx0, by rw [(row_end hD hx0m).2]; exact List.mem_cons_self⟩
        | succ i =>
          unfold tkeys at hl'
          rw [List.getElem?_cons_succ, List.getElem?_map] at hl'
          cases hTi : TW[i]? with
          | none => rw [hTi] at hl'; cases hl'
          | some p =>
            obtain ⟨q', e'⟩ := p
            rw [hTi] at hl'
            cases Option.some.inj hl'
            obtain ⟨he1, _, he2⟩ := h.lt.edge i q' e' hTi
            have hlt' := (row_end hdl he1).1
            obtain ⟨k, hk⟩ := List.getElem?_of_mem he2
            have hkl := (List.getElem?_eq_some_iff.mp hk).1
            unfold tkeys at hkl
            rw [List.length_cons, List.length_map, List.length_take] at hkl
            have hk2 : (tkeys (seat (landsF D) ((row D root).getD 0 0)) TW)[k]? = some (seat (landsF D) (mate e')) := by
              unfold tkeys at hk ⊢
              cases k with
              | zero => exact hk
              | succ k =>
                rw [List.getElem?_cons_succ, List.getElem?_map, List.getElem?_take] at hk
                rw [List.getElem?_cons_succ, List.getElem?_map]
                by_cases c : k < i
                · rw [if_pos c] at hk; exact hk
                · rw [if_neg c] at hk; cases hk
            obtain ⟨x, hx, hs⟩ := ih k (by omega) _ hk2
            have hm := hsame _ x (mate e') hx (land_mem hD (mate_lt hlt')) hs
            refine ⟨e', he1, ?_⟩
            have := h.bfs.all _ (Reach.step (h.bfs.tree.reach _ hm) (mem_row hD (mate_lt hlt')))
            rw [mate_mate] at this
            exact this
    intro l hl'
    obtain ⟨i, hi⟩ := List.getElem?_of_mem hl'
    exact main i l hi
  have hF : TW.length + 1 ≤ (landsF D).countP (hdIn D P) := by
    have := count_keys (L := landsF D) (p := hdIn D P) h.lt.nd h.lt.lt fun l hl' => by
      obtain ⟨x, hx, hs⟩ := hin l hl'
      have hpos : 0 < (row (landsF D) l).length := List.length_pos_of_mem hx
      have h0m := List.mem_of_getElem? (get_getD hpos)
      have := hsame l x _ hx h0m hs
      unfold hdIn
      have he : (row (landsF D) l).isEmpty = false := by
        cases hr : row (landsF D) l with
        | nil => rw [hr] at hpos; cases hpos
        | cons a r => rfl
      rw [he, decide_eq_true ((hP _).mpr this)]
      rfl
    unfold tkeys at this
    rw [List.length_cons, List.length_map] at this
    exact this
  -- the count
  unfold holeOf at hh
  unfold manyOf at hh
  by_cases hz : endsOf D P = 0
  · rw [if_pos hz, hz] at hh
    omega
  · rw [if_neg hz] at hh
    omega
end RF
namespace RF
/-! ### plain: one more tie, and the lands beside it -/
def Unlike (D : List (List Nat)) (x y : Nat) : Prop := seat (landsF D) x ≠ seat (landsF D) y
noncomputable def sel (N : Nat) (B : Nat → Prop) : List Nat := (List.range N).filter fun x => @decide (B x) (Classical.propDecidable _)
theorem mem_sel {N x : Nat} {B : Nat → Prop} : x ∈ sel N B ↔ x < N ∧ B x := by
  unfold sel
  rw [List.mem_filter, List.mem_range]
  exact and_congr Iff.rfl (@decide_eq_true_iff _ (Classical.propDecidable _))
theorem sel_nd (N : Nat) (B : Nat → Prop) : (sel N B).Nodup := List.nodup_range.sublist List.filter_sublist
theorem map_nodup {f : Nat → Nat} {l : List Nat} (nd : l.Nodup) (hf : ∀ x ∈ l, ∀ y ∈ l, f x = f y → x = y) : (l.map f).Nodup := by
  rw [List.Nodup, List.pairwise_map]
  exact nd.imp_of_mem fun {a b} ha hb hn e => hn (hf a ha b hb e)
theorem sep_back {D : List (List Nat)} {m : Nat} (h : Dr D m) {B : Nat → Prop} (hB : ∀ x, x < 2 * m → B x → B (phi D x)) {x : Nat} (hx : x < 2 * m) (b : B (phi D x)) : B x := by
  have hin : phi D x ∈ sel (2 * m) B := mem_sel.mpr ⟨phi_lt h hx, b⟩
  have := sub_eq (l₁ := (sel (2 * m) B).map (phi D)) (l₂ := sel (2 * m) B) (map_nodup (sel_nd _ _) fun x hx y hy => phi_inj h (mem_sel.mp hx).1 (mem_sel.mp hy).1) (fun y hy => by
    obtain ⟨z, hz, rfl⟩ := List.mem_map.mp hy
    obtain ⟨h1, h2⟩ := mem_sel.mp hz
    exact mem_sel.mpr ⟨phi_lt h h1, hB z h1 h2⟩) (by rw [List.length_map]; exact Nat.le_refl _) _ hin
  obtain ⟨z, hz, e⟩ := List.mem_map.mp this
  obtain ⟨h1, h2⟩ := mem_sel.mp hz
  rw [← phi_inj h h1 hx e]; exact h2
/-- what the step keeps parts lands -/
theorem sep_unlike {D : List (List Nat)} {m : Nat} (h : Dr D m) {B : Nat → Prop} (hB : ∀ x, x < 2 * m → B x → B (phi D x)) {x y : Nat} (hx : x < 2 * m) (hy : y < 2 * m) (bx : B x) (ny : ¬ B y) : Unlike D x y := fun e => by
  have hdl := landsF_dr h
  obtain ⟨r, h1, h2⟩ := seat_row hdl hx
  obtain ⟨r', h3, h4⟩ := seat_row hdl hy
  rw [e, h3] at h1
  have er : r' = r := Option.some.inj h1
  subst er
  have hr : ∀ z, z ∈ r' → (B (r'.getD 0 0) ↔ B z) := fun z hz => land_rel h (fun a b => B a ↔ B b) (fun _ => Iff.rfl) (fun a b c p q => p.trans q) (fun a ha => ⟨hB a ha, sep_back h hB ha⟩) (List.mem_of_getElem? h3) hz
  exact ny ((hr y h4).mp ((hr x h2).mpr bx))
def iter (f : Nat → Nat) : Nat → Nat → Nat
  | 0, x => x
  | k + 1, x => f (iter f k x)
theorem iter_lt {f : Nat → Nat} {N : Nat} (hf : ∀ x, x < N → f x < N) {x : Nat} (hx : x < N) : ∀ k, iter f k x < N
  | 0 => hx
  | k + 1 => hf _ (iter_lt hf hx k)
theorem iter_add (f : Nat → Nat) (x a : Nat) : ∀ b, iter f (a + b) x = iter f b (iter f a x)
  | 0 => rfl
  | b + 1 => congrArg f (iter_add f x a b)
theorem exists_min {P : Nat → Prop} : ∀ n, P n → ∃ i, P i ∧ ∀ j, j < i → ¬ P j := by
  intro n
  induction n using Nat.strongRecOn with
  | ind n ih =>
    intro hn
    by_cases h : ∃ j, j < n ∧ P j
    · obtain ⟨j, hj, hp⟩ := h
      exact ih j hj hp
    · exact ⟨n, hn, fun j hj hp => h ⟨j, hj, hp⟩⟩
theorem like_iter {D : List (List Nat)} {m : Nat} (h : Dr D m) {x y : Nat} (hx : x < 2 * m) (hy : y < 2 * m) (e : seat (landsF D) x = seat (landsF D) y) : ∃ i, iter (phi D) i x = y ∧ ∀ j, j < i → iter (phi D) j x ≠ y := by
  have : ∃ i, iter (phi D) i x = y := Classical.byContradiction fun hn => sep_unlike h (B := fun z => ∃ i, iter (phi D) i x = z) (fun z hz ⟨i, hi⟩ => ⟨i + 1, congrArg (phi D) hi⟩) hx hy ⟨0, rfl⟩ hn e
  obtain ⟨i, hi⟩ := this
  obtain ⟨k, h1, h2⟩ := exists_min (P := fun i => iter (phi D) i x = y) i hi
  exact ⟨k, h1, h2⟩
/-! an end put into a row -/
def insB (e n : Nat) (r : List Nat) : List Nat := if e ∈ r then r.take (r.idxOf e) ++ [n] ++ r.drop (r.idxOf e) else r
theorem insB_perm {e n : Nat} {r : List Nat} (h : e ∈ r) : (insB e n r).Perm (n :: r) := by
  unfold insB
  rw [if_pos h, List.append_assoc]
  have := List.perm_middle (a := n) (l₁ := r.take (r.idxOf e)) (l₂ := r.drop (r.idxOf e))
  rw [List.take_append_drop] at this
  exact this
theorem insB_no {e n : Nat} {r : List Nat} (h : e ∉ r) : insB e n r = r := if_neg h
theorem map_no {e n : Nat} : ∀ {D : List (List Nat)}, e ∉ D.flatten → D.map (insB e n) = D
  | [], _ => rfl
  | a :: D, h => by
    rw [List.flatten_cons, List.mem_append, not_or] at h
    rw [List.map_cons, insB_no h.1, map_no h.2]
theorem ins_flatp {e n : Nat} : ∀ {D : List (List Nat)}, D.flatten.Nodup → e ∈ D.flatten → (D.map (insB e n)).flatten.Perm (n :: D.flatten)
  | [], _, h => by cases h
  | a :: D, nd, h => by
    rw [List.flatten_cons, List.nodup_append] at nd
    rw [List.map_cons, List.flatten_cons, List.flatten_cons]
    by_cases ha : e ∈ a
    · have hn : e ∉ D.flatten := fun z => nd.2.2 e ha e z rfl
      rw [map_no hn]
      exact (insB_perm ha).append_right _
    · rw [insB_no ha]
      rw [List.flatten_cons, List.mem_append] at h
      exact ((ins_flatp nd.2.1 (h.resolve_left ha)).append_left a).trans List.perm_middle
section
variable {e n : Nat} {r : List Nat}
theorem insB_lo (h : e ∈ r) {j : Nat} (hj : j < r.idxOf e) : (insB e n r)[j]? = r[j]? := by
  have hk : r.idxOf e < r.length := List.idxOf_lt_length_iff.mpr h
  unfold insB
  rw [if_pos h, List.append_assoc, List.getElem?_append_left (by rw [List.length_take]; omega), List.getElem?_take, if_pos hj]
theorem insB_at (h : e ∈ r) : (insB e n r)[r.idxOf e]? = some n := by
  have hk : r.idxOf e < r.length := List.idxOf_lt_length_iff.mpr h
  unfold insB
  rw [if_pos h, List.append_assoc, List.getElem?_append_right (by rw [List.length_take]; omega), List.length_take, Nat.min_eq_left (Nat.le_of_lt hk), Nat.sub_self]
  rfl
theorem insB_hi (h : e ∈ r) {j : Nat} (hj : r.idxOf e ≤ j) : (insB e n r)[j + 1]? = r[j]? := by
  have hk : r.idxOf e < r.length := List.idxOf_lt_length_iff.mpr h
  unfold insB
  rw [if_pos h, List.getElem?_append_right (by rw [List.length_append, List.length_take, List.length_singleton]; omega), List.length_append, List.length_take, List.length_singleton, Nat.min_eq_left (Nat.le_of_lt hk), List.getElem?_drop]
  congr 1
  omega
theorem insB_len (h : e ∈ r) : (insB e n r).length = r.length + 1 := by rw [(insB_perm h).length_eq]; rfl
theorem insB_nd (nd : r.Nodup) (hn : n ∉ r) : (insB e n r).Nodup := by
  by_cases h : e ∈ r
  · exact (insB_perm h).symm.nodup (List.nodup_cons.mpr ⟨hn, nd⟩)
  · rw [insB_no h]; exact nd
theorem nxt_new (nd : r.Nodup) (hn : n ∉ r) (h : e ∈ r) : nxt (insB e n r) n = e := by
  have hk : r.idxOf e < r.length := List.idxOf_lt_length_iff.mpr h
  have h1 := nxt_get (insB_nd (e := e) nd hn) (insB_at h)
  rw [insB_len h, Nat.mod_eq_of_lt (by omega), insB_hi h (Nat.le_refl _), idxOf_some h] at h1
  exact (Option.some.inj h1).symm
theorem nxt_old (nd : r.Nodup) (hn : n ∉ r) {x : Nat} (hx : x ∈ r) : nxt (insB e n r) x = if nxt r x = e then n else nxt r x := by
  by_cases h : e ∈ r
  · have hk : r.idxOf e < r.length := List.idxOf_lt_length_iff.mpr h
    have hxj := idxOf_some hx
    have hj := (List.getElem?_eq_some_iff.mp hxj).1
    have h0 := nxt_get nd hxj
    have ek := idxOf_some h
    have key : ∀ t, r[t]? = some (nxt r x) → (nxt r x = e ↔ t = r.idxOf e) := fun t ht => ⟨fun z => by
      rw [z] at ht
      exact (idxOf_get nd ht).symm, fun z => by
      rw [z, ek] at ht
      exact (Option.some.inj ht).symm⟩
    by_cases hjk : r.idxOf x < r.idxOf e
    · have h1 := nxt_get (insB_nd (e := e) nd hn) ((insB_lo h hjk).trans hxj)
      rw [insB_len h, Nat.mod_eq_of_lt (by omega)] at h1
      rw [Nat.mod_eq_of_lt (by omega)] at h0
      by_cases hc : r.idxOf x + 1 = r.idxOf e
      · rw [if_pos ((key _ h0).mpr hc)]
        rw [hc, insB_at h] at h1
        exact (Option.some.inj h1).symm
      · rw [if_neg fun z => hc ((key _ h0).mp z)]
        rw [insB_lo h (by omega), h0] at h1
        exact (Option.some.inj h1).symm
    · have h1 := nxt_get (insB_nd (e := e) nd hn) ((insB_hi h (Nat.le_of_not_lt hjk)).trans hxj)
      rw [insB_len h] at h1
      by_cases hc : r.idxOf x + 1 = r.length
      · rw [hc, Nat.mod_self] at h1 h0
        by_cases h00 : r.idxOf e = 0
        · rw [if_pos ((key _ h0).mpr h00.symm)]
          have := insB_at (n := n) h
          rw [h00] at this
          rw [this] at h1
          exact (Option.some.inj h1).symm
        · rw [if_neg fun z => h00 ((key _ h0).mp z).symm]
          rw [insB_lo h (by omega), h0] at h1
          exact (Option.some.inj h1).symm
      · rw [Nat.mod_eq_of_lt (by omega)] at h1 h0
        rw [if_neg fun z => by have := (key _ h0).mp z; omega]
        rw [insB_hi h (by omega), h0] at h1
        exact (Option.some.inj h1).symm
  · rw [insB_no h, if_neg fun (z : nxt r x = e) => h (by rw [← z]; exact nxt_mem hx)]
end
theorem behind_at {D : List (List Nat)} {x p : Nat} {r : List Nat} (nd : D.flatten.Nodup) (h : D[p]? = some r) (hx : x ∈ r) : behind D x = nxt r x := by
  unfold behind
  rw [seat_at nd h hx, row_of h]
theorem behind_ins {D : List (List Nat)} {e n : Nat} (nd : D.flatten.Nodup) (hn : n ∉ D.flatten) (he : e ∈ D.flatten) : behind (D.map (insB e n)) n = e ∧ ∀ x ∈ D.flatten, behind (D.map (insB e n)) x = if behind D x = e then n else behind D x := by
  have hp := ins_flatp (n := n) nd he
  have nd' : (D.map (insB e n)).flatten.Nodup := hp.symm.nodup (List.nodup_cons.mpr ⟨hn, nd⟩)
  have hg : ∀ {p : Nat} {r : List Nat}, D[p]? = some r → (D.map (insB e n))[p]? = some (insB e n r) := fun h => by rw [List.getElem?_map, h]; rfl
  have hnr : ∀ {p : Nat} {r : List Nat}, D[p]? = some r → n ∉ r := fun h z => hn (mem_flat.mpr ⟨_, _, h, z⟩)
  constructor
  · obtain ⟨p, r, h1, h2⟩ := mem_flat.mp he
    rw [behind_at nd' (hg h1) ((insB_perm h2).mem_iff.mpr List.mem_cons_self), nxt_new (row_nodup nd h1) (hnr h1) h2]
  · intro x hx
    obtain ⟨p, r, h1, h2⟩ := mem_flat.mp hx
    have hx' : x ∈ insB e n r := by
      by_cases h : e ∈ r
      · exact (insB_perm h).mem_iff.mpr (List.mem_cons_of_mem _ h2)
      · rw [insB_no h]; exact h2
    rw [behind_at nd' (hg h1) hx', behind_at nd h1 h2, nxt_old (row_nodup nd h1) (hnr h1) h2]
def tiedR (D : List (List Nat)) (t a b : Nat) : List (List Nat) := (D.map (insB a (2 * t))).map (insB b (2 * t + 1))
section
variable {D : List (List Nat)} {t a b : Nat}
theorem tied1 (h : Dr D t) (ha : a < 2 * t) : (D.map (insB a (2 * t))).flatten.Perm (2 * t :: D.flatten) := ins_flatp h.nd ((h.mem a).mpr ha)
theorem tied_nd1 (h : Dr D t) (ha : a < 2 * t) : (D.map (insB a (2 * t))).flatten.Nodup := (tied1 h ha).symm.nodup (List.nodup_cons.mpr ⟨fun z => by have := (h.mem _).mp z; omega, h.nd⟩)
theorem tied2 (h : Dr D t) (ha : a < 2 * t) (hb : b < 2 * t) : (tiedR D t a b).flatten.Perm ((2 * t + 1) :: (2 * t) :: D.flatten) :=
  (ins_flatp (tied_nd1 h ha) ((tied1 h ha).mem_iff.mpr (List.mem_cons_of_mem _ ((h.mem b).mpr hb)))).trans ((tied1 h ha).cons _)
theorem tied_dr (h : Dr D t) (ha : a < 2 * t) (hb : b < 2 * t) : Dr (tiedR D t a b) (t + 1) := by
  have hp := tied2 h ha hb
  refine ⟨hp.symm.nodup (List.nodup_cons.mpr ⟨fun z => ?_, List.nodup_cons.mpr ⟨fun z => ?_, h.nd⟩⟩), fun x => ?_⟩
  · rcases List.mem_cons.mp z with z | z
    · omega
    · have := (h.mem _).mp z; omega
  · have := (h.mem _).mp z; omega
  · rw [hp.mem_iff, List.mem_cons, List.mem_cons, h.mem]
    omega
theorem tied_unlike (h : Dr D t) (ha : a < 2 * t) (hb : b < 2 * t) (e : seat (landsF D) a = seat (landsF D) b) : Unlike (tiedR D t a b) (2 * t + 1) (2 * t) := by
  obtain ⟨i, hi, hmin⟩ := like_iter h ha hb e
  have nd1 := tied_nd1 h ha
  have p1 := tied1 h ha
  have b1 := behind_ins (n := 2 * t) h.nd (fun z => by have := (h.mem _).mp z; omega) ((h.mem a).mpr ha)
  have hb1 : b ∈ (D.map (insB a (2 * t))).flatten := p1.mem_iff.mpr (List.mem_cons_of_mem _ ((h.mem b).mpr hb))
  have hn1 : 2 * t + 1 ∉ (D.map (insB a (2 * t))).flatten := fun z => by
    rcases List.mem_cons.mp (p1.mem_iff.mp z) with z | z
    · omega
    · have := (h.mem _).mp z; omega
  have b2 := behind_ins nd1 hn1 hb1
  have hlt : ∀ k, iter (phi D) k a < 2 * t := iter_lt (fun x hx => phi_lt h hx) ha
  refine sep_unlike (tied_dr h ha hb) (B := fun z => z = 2 * t + 1 ∨ ∃ j, j < i ∧ z = iter (phi D) j a) (fun z hz hB => ?_) (by omega) (by omega) (.inl rfl) (fun hB => ?_)
  · rcases hB with rfl | ⟨j, hj, rfl⟩
    · have hm : mate (2 * t + 1) = 2 * t := by unfold mate; omega
      have : phi (tiedR D t a b) (2 * t + 1) = if a = b then 2 * t + 1 else a := by
        unfold phi
        rw [hm]
        show behind ((D.map (insB a (2 * t))).map (insB b (2 * t + 1))) (2 * t) = _
        rw [b2.2 (2 * t) (p1.mem_iff.mpr List.mem_cons_self), b1.1]
      rw [this]
      by_cases hab : a = b
      · rw [if_pos hab]; exact .inl rfl
      · rw [if_neg hab]
        refine .inr ⟨0, Nat.pos_of_ne_zero fun z => hab ?_, rfl⟩
        rw [z] at hi
        exact hi
    · have hl := mate_lt (hlt j)
      have e1 : behind (D.map (insB a (2 * t))) (mate (iter (phi D) j a)) = if iter (phi D) (j + 1) a = a then 2 * t else iter (phi D) (j + 1) a := b1.2 _ ((h.mem _).mpr hl)
      have hne : iter (phi D) (j + 1) a = a → False := fun z => by
        have : iter (phi D) (i - (j + 1)) a = b := by
          have h2 := iter_add (phi D) a (j + 1) (i - (j + 1))
          rw [show j + 1 + (i - (j + 1)) = i by omega, hi, z] at h2
          exact h2.symm
        exact hmin _ (by omega) this
      rw [if_neg hne] at e1
      have e2 : phi (tiedR D t a b) (iter (phi D) j a) = if iter (phi D) (j + 1) a = b then 2 * t + 1 else iter (phi D) (j + 1) a := by
        have := b2.2 (mate (iter (phi D) j a)) (p1.mem_iff.mpr (List.mem_cons_of_mem _ ((h.mem _).mpr hl)))
        rw [e1] at this
        exact this
      rw [e2]
      by_cases hc : iter (phi D) (j + 1) a = b
      · rw [if_pos hc]; exact .inl rfl
      · rw [if_neg hc]
        refine .inr ⟨j + 1, ?_, rfl⟩
        apply Classical.byContradiction
        intro z
        exact hc (by rw [show j + 1 = i by omega]; exact hi)
  · rcases hB with z | ⟨j, _, z⟩
    · omega
    · have := hlt j; omega
end
/-- the first tie of all -/
theorem first_dr {D : List (List Nat)} (h : Dr D 0) (h0 : D ≠ []) : Dr (D.set 0 (row D 0 ++ [0, 1])) 1 ∧ Unlike (D.set 0 (row D 0 ++ [0, 1])) 1 0 := by
  have hf : D.flatten = [] := List.length_eq_zero_iff.mp h.len
  have hr : row D 0 = [] := by
    have := row_get (D := D) (p := 0) (List.length_pos_iff.mpr h0)
    cases hq : row D 0 with
    | nil => rfl
    | cons x r =>
      have : x ∈ D.flatten := mem_flat.mpr ⟨0, _, this, by rw [hq]; exact List.mem_cons_self⟩
      rw [hf] at this; cases this
  rw [hr]
  have e : (D.set 0 ([] ++ [0, 1])).flatten = [0, 1] := by
    cases D with
    | nil => exact absurd rfl h0
    | cons a D =>
      rw [List.flatten_cons] at hf
      have := (List.append_eq_nil_iff.mp hf).2
      show [0, 1] ++ D.flatten = _
      rw [this]; rfl
  have hd : Dr (D.set 0 ([] ++ [0, 1])) 1 := ⟨by rw [e]; decide, fun x => by
    rw [e, List.mem_cons, List.mem_singleton]
    omega⟩
  have hg : (D.set 0 ([] ++ [0, 1]))[0]? = some [0, 1] := by
    rw [List.getElem?_set, if_pos rfl, if_pos (List.length_pos_iff.mpr h0)]; rfl
  refine ⟨hd, sep_unlike hd (B := fun z => z = 1) (fun z _ hz => ?_) (by decide) (by decide) rfl (by decide)⟩
  subst hz
  show behind _ (mate 1) = 1
  rw [show mate 1 = 0 from rfl, behind_at hd.nd hg (by decide)]
  decide
end RF
namespace RF
open PySem PySem.Spec PyProof.Rows L2
/-! ### the text -/
def topS (i : Nat) : Stmt := PySem.Challenge.pw_ringfloor_k57_whole_pairs.main.body.getD i (.Pass ⟨0, 0, 0, 0⟩)
abbrev s_mate_of : Stmt := topS 1
abbrev nm_mate_of : List Str := ["end"]
theorem sc_mate_of : FnScope nm_mate_of ["end"] (defScope s_mate_of) := ⟨rfl, rfl, rfl, by decide +kernel, rfl, by decide +kernel, by decide +kernel⟩
abbrev s_least_first : Stmt := topS 2
abbrev nm_least_first : List Str := ["row", "at"]
theorem sc_least_first : FnScope nm_least_first ["row"] (defScope s_least_first) := ⟨rfl, rfl, rfl, by decide +kernel, rfl, by decide +kernel, by decide +kernel⟩
abbrev s_begun_at : Stmt := topS 3
abbrev nm_begun_at : List Str := ["row", "end", "at"]
theorem sc_begun_at : FnScope nm_begun_at ["row", "end"] (defScope s_begun_at) := ⟨rfl, rfl, rfl, by decide +kernel, rfl, by decide +kernel, by decide +kernel⟩
abbrev s_count_ends : Stmt := topS 4
abbrev nm_count_ends : List Str := ["drawing", "row"]
theorem sc_count_ends : FnScope nm_count_ends ["drawing"] (defScope s_count_ends) := ⟨rfl, rfl, rfl, by decide +kernel, rfl, by decide +kernel, by decide +kernel⟩
abbrev s_seats_of : Stmt := topS 5
abbrev nm_seats_of : List Str := ["drawing", "seats", "place", "row", "end"]
theorem sc_seats_of : FnScope nm_seats_of ["drawing"] (defScope s_seats_of) := ⟨rfl, rfl, rfl, by decide +kernel, rfl, by decide +kernel, by decide +kernel⟩
abbrev s_behind_of : Stmt := topS 6
abbrev nm_behind_of : List Str := ["drawing", "behind", "row", "at", "end"]
theorem sc_behind_of : FnScope nm_behind_of ["drawing"] (defScope s_behind_of) := ⟨rfl, rfl, rfl, by decide +kernel, rfl, by decide +kernel, by decide +kernel⟩
abbrev s_is_walk : Stmt := topS 11
abbrev nm_is_walk : List Str := ["drawing", "ends", "seats", "end", "at"]
theorem sc_is_walk : FnScope nm_is_walk ["drawing", "ends"] (defScope s_is_walk) := ⟨rfl, rfl, rfl, by decide +kernel, rfl, by decide +kernel, by decide +kernel⟩
abbrev s_is_round : Stmt := topS 12
abbrev nm_is_round : List Str := ["drawing", "ends", "seats", "places", "ties", "end"]
theorem sc_is_round : FnScope nm_is_round ["drawing", "ends"] (defScope s_is_round) := ⟨rfl, rfl, rfl, by decide +kernel, rfl, by decide +kernel, by decide +kernel⟩
abbrev s_ask_round : Stmt := topS 13
abbrev nm_ask_round : List Str := ["drawing", "ends"]
theorem sc_ask_round : FnScope nm_ask_round ["drawing", "ends"] (defScope s_ask_round) := ⟨rfl, rfl, rfl, by decide +kernel, rfl, by decide +kernel, by decide +kernel⟩
abbrev s_cut_along : Stmt := topS 15
abbrev nm_cut_along : List Str := ["drawing", "turn", "ends", "home", "rows", "at", "out", "ring", "cut", "before", "row"]
theorem sc_cut_along : FnScope nm_cut_along ["drawing", "turn"] (defScope s_cut_along) := ⟨rfl, rfl, rfl, by decide +kernel, rfl, by decide +kernel, by decide +kernel⟩
abbrev s_lands_of : Stmt := topS 17
abbrev nm_lands_of : List Str := ["drawing", "behind", "seen", "lands", "start", "land", "end", "row"]
theorem sc_lands_of : FnScope nm_lands_of ["drawing"] (defScope s_lands_of) := ⟨rfl, rfl, rfl, by decide +kernel, rfl, by decide +kernel, by decide +kernel⟩
abbrev s_part_about : Stmt := topS 18
abbrev nm_part_about : List Str := ["drawing", "seats", "start", "seen", "waiting", "place", "end", "goal"]
theorem sc_part_about : FnScope nm_part_about ["drawing", "seats", "start"] (defScope s_part_about) := ⟨rfl, rfl, rfl, by decide +kernel, rfl, by decide +kernel, by decide +kernel⟩
abbrev s_parts_of : Stmt := topS 19
abbrev nm_parts_of : List Str := ["drawing", "seats", "seen", "parts", "start", "part", "place"]
theorem sc_parts_of : FnScope nm_parts_of ["drawing"] (defScope s_parts_of) := ⟨rfl, rfl, rfl, by decide +kernel, rfl, by decide +kernel, by decide +kernel⟩
abbrev s_holes_of : Stmt := topS 20
abbrev nm_holes_of : List Str := ["drawing", "seats", "begun", "land", "holes", "part", "ends", "many", "place"]
theorem sc_holes_of : FnScope nm_holes_of ["drawing"] (defScope s_holes_of) := ⟨rfl, rfl, rfl, by decide +kernel, rfl, by decide +kernel, by decide +kernel⟩
abbrev s_tree_from : Stmt := topS 22
abbrev nm_tree_from : List Str := ["drawing", "root", "seats", "nearer", "waiting", "at", "end", "goal"]
theorem sc_tree_from : FnScope nm_tree_from ["drawing", "root"] (defScope s_tree_from) := ⟨rfl, rfl, rfl, by decide +kernel, rfl, by decide +kernel, by decide +kernel⟩
abbrev s_way_up : Stmt := topS 23
abbrev nm_way_up : List Str := ["seats", "nearer", "place", "way"]
theorem sc_way_up : FnScope nm_way_up ["seats", "nearer", "place"] (defScope s_way_up) := ⟨rfl, rfl, rfl, by decide +kernel, rfl, by decide +kernel, by decide +kernel⟩
abbrev s_turned_about : Stmt := topS 24
abbrev nm_turned_about : List Str := ["way", "end"]
theorem sc_turned_about : FnScope nm_turned_about ["way"] (defScope s_turned_about) := ⟨rfl, rfl, rfl, by decide +kernel, rfl, by decide +kernel, by decide +kernel⟩
abbrev s_round_along : Stmt := topS 25
abbrev nm_round_along : List Str := ["seats", "nearer", "end", "out", "back"]
theorem sc_round_along : FnScope nm_round_along ["seats", "nearer", "end"] (defScope s_round_along) := ⟨rfl, rfl, rfl, by decide +kernel, rfl, by decide +kernel, by decide +kernel⟩
abbrev s_land_numbers : Stmt := topS 26
abbrev nm_land_numbers : List Str := ["lands", "numbers", "number", "land", "end"]
theorem sc_land_numbers : FnScope nm_land_numbers ["lands"] (defScope s_land_numbers) := ⟨rfl, rfl, rfl, by decide +kernel, rfl, by decide +kernel, by decide +kernel⟩
abbrev s_land_tree : Stmt := topS 27
abbrev nm_land_tree : List Str := ["lands", "nearer", "first", "inside", "end", "numbers", "towards", "waiting", "at", "beyond"]
theorem sc_land_tree : FnScope nm_land_tree ["lands", "nearer", "first"] (defScope s_land_tree) := ⟨rfl, rfl, rfl, by decide +kernel, rfl, by decide +kernel, by decide +kernel⟩
abbrev s_left_ties : Stmt := topS 28
abbrev nm_left_ties : List Str := ["drawing", "nearer", "towards", "inside", "end", "left", "place"]
theorem sc_left_ties : FnScope nm_left_ties ["drawing", "nearer", "towards"] (defScope s_left_ties) := ⟨rfl, rfl, rfl, by decide +kernel, rfl, by decide +kernel, by decide +kernel⟩
abbrev s_both_trees : Stmt := topS 29
abbrev nm_both_trees : List Str := ["drawing", "root", "lands", "nearer", "first", "towards"]
theorem sc_both_trees : FnScope nm_both_trees ["drawing", "root"] (defScope s_both_trees) := ⟨rfl, rfl, rfl, by decide +kernel, rfl, by decide +kernel, by decide +kernel⟩
abbrev s_old_end : Stmt := topS 31
abbrev nm_old_end : List Str := ["turn", "ties", "end", "one"]
theorem sc_old_end : FnScope nm_old_end ["turn", "ties", "end"] (defScope s_old_end) := ⟨rfl, rfl, rfl, by decide +kernel, rfl, by decide +kernel, by decide +kernel⟩
abbrev s_shortest_back : Stmt := topS 32
abbrev nm_shortest_back : List Str := ["cut", "seats", "places", "turn", "best", "at", "goal", "nearer", "way"]
theorem sc_shortest_back : FnScope nm_shortest_back ["cut", "seats", "places", "turn"] (defScope s_shortest_back) := ⟨rfl, rfl, rfl, by decide +kernel, rfl, by decide +kernel, by decide +kernel⟩
abbrev s_turn_over : Stmt := topS 33
abbrev nm_turn_over : List Str := ["drawing", "turn", "cut", "seats", "ties", "way", "end"]
theorem sc_turn_over : FnScope nm_turn_over ["drawing", "turn"] (defScope s_turn_over) := ⟨rfl, rfl, rfl, by decide +kernel, rfl, by decide +kernel, by decide +kernel⟩
abbrev s_pair_of : Stmt := topS 34
abbrev nm_pair_of : List Str := ["drawing", "seats", "part", "holes", "nearer", "towards", "left", "turn"]
theorem sc_pair_of : FnScope nm_pair_of ["drawing"] (defScope s_pair_of) := ⟨rfl, rfl, rfl, by decide +kernel, rfl, by decide +kernel, by decide +kernel⟩
abbrev s_L_cell : Stmt := topS 36
abbrev nm_L_cell : List Str := ["_law_script", "_law_k"]
theorem sc_L_cell : FnScope nm_L_cell ["_law_script", "_law_k"] (defScope s_L_cell) := ⟨rfl, rfl, rfl, by decide +kernel, rfl, by decide +kernel, by decide +kernel⟩
abbrev s_L_draws : Stmt := topS 37
abbrev nm_L_draws : List Str := ["_law_cell_here", "_law_sizes", "_law_rest", "_law_found", "_law_k", "_law_size", "_law_mixed"]
theorem sc_L_draws : FnScope nm_L_draws ["_law_cell_here", "_law_sizes"] (defScope s_L_draws) := ⟨rfl, rfl, rfl, by decide +kernel, rfl, by decide +kernel, by decide +kernel⟩
abbrev s_L_mate : Stmt := topS 38
abbrev nm_L_mate : List Str := ["_law_end"]
theorem sc_L_mate : FnScope nm_L_mate ["_law_end"] (defScope s_L_mate) := ⟨rfl, rfl, rfl, by decide +kernel, rfl, by decide +kernel, by decide +kernel⟩
abbrev s_L_settled : Stmt := topS 39
abbrev nm_L_settled : List Str := ["_law_rows", "_law_found", "_law_row", "_law_at"]
theorem sc_L_settled : FnScope nm_L_settled ["_law_rows"] (defScope s_L_settled) := ⟨rfl, rfl, rfl, by decide +kernel, rfl, by decide +kernel, by decide +kernel⟩
abbrev s_L_drawing : Stmt := topS 40
abbrev nm_L_drawing : List Str := ["_law_script", "_law_base", "_law_most", "_law_ties", "_law_thin", "_law_bare", "_law_one", "_law_two", "_law_k", "_law_picks", "_law_cuts", "_law_left", "_law_rows", "_law_at"]
theorem sc_L_drawing : FnScope nm_L_drawing ["_law_script", "_law_base", "_law_most"] (defScope s_L_drawing) := ⟨rfl, rfl, rfl, by decide +kernel, rfl, by decide +kernel, by decide +kernel⟩
abbrev s_L_seats : Stmt := topS 41
abbrev nm_L_seats : List Str := ["_law_drawing_here", "_law_seats_here", "_law_place", "_law_end"]
theorem sc_L_seats : FnScope nm_L_seats ["_law_drawing_here"] (defScope s_L_seats) := ⟨rfl, rfl, rfl, by decide +kernel, rfl, by decide +kernel, by decide +kernel⟩
abbrev s_L_behind : Stmt := topS 42
abbrev nm_L_behind : List Str := ["_law_drawing_here", "_law_behind_here", "_law_row", "_law_k"]
theorem sc_L_behind : FnScope nm_L_behind ["_law_drawing_here"] (defScope s_L_behind) := ⟨rfl, rfl, rfl, by decide +kernel, rfl, by decide +kernel, by decide +kernel⟩
abbrev s_L_lands : Stmt := topS 43
abbrev nm_L_lands : List Str := ["_law_drawing_here", "_law_behind_here", "_law_seen", "_law_lands_here", "_law_start", "_law_land", "_law_end", "_law_row"]
theorem sc_L_lands : FnScope nm_L_lands ["_law_drawing_here"] (defScope s_L_lands) := ⟨rfl, rfl, rfl, by decide +kernel, rfl, by decide +kernel, by decide +kernel⟩
abbrev s_L_tied : Stmt := topS 44
abbrev nm_L_tied : List Str := ["_law_rows", "_law_tie", "_law_one", "_law_two", "_law_high", "_law_lands_here", "_law_home", "_law_number", "_law_end", "_law_first", "_law_ends", "_law_second", "_law_name", "_law_row"]
theorem sc_L_tied : FnScope nm_L_tied ["_law_rows", "_law_tie", "_law_one", "_law_two", "_law_high"] (defScope s_L_tied) := ⟨rfl, rfl, rfl, by decide +kernel, rfl, by decide +kernel, by decide +kernel⟩
abbrev s_L_renamed : Stmt := topS 45
abbrev nm_L_renamed : List Str := ["_law_rows", "_law_ties", "_law_cell_here", "_law_k", "_law_picks", "_law_left", "_law_names", "_law_tie", "_law_name", "_law_found", "_law_row", "_law_end"]
theorem sc_L_renamed : FnScope nm_L_renamed ["_law_rows", "_law_ties", "_law_cell_here"] (defScope s_L_renamed) := ⟨rfl, rfl, rfl, by decide +kernel, rfl, by decide +kernel, by decide +kernel⟩
abbrev s_L_grown : Stmt := topS 46
abbrev nm_L_grown : List Str := ["_law_script", "_law_base", "_law_holes_here", "_law_seats_here", "_law_more", "_law_late", "_law_tree", "_law_picks", "_law_rows", "_law_k", "_law_row", "_law_high"]
theorem sc_L_grown : FnScope nm_L_grown ["_law_script", "_law_base", "_law_holes_here"] (defScope s_L_grown) := ⟨rfl, rfl, rfl, by decide +kernel, rfl, by decide +kernel, by decide +kernel⟩
abbrev s_L_kind : Stmt := topS 47
abbrev nm_L_kind : List Str := ["_law_sort", "_law_rows", "_law_columns", "_law_shift", "_law_found", "_law_i", "_law_j", "_law_here", "_law_left", "_law_below", "_law_slanted", "_law_row"]
theorem sc_L_kind : FnScope nm_L_kind ["_law_sort", "_law_rows", "_law_columns", "_law_shift"] (defScope s_L_kind) := ⟨rfl, rfl, rfl, by decide +kernel, rfl, by decide +kernel, by decide +kernel⟩
abbrev s_L_numbers : Stmt := topS 48
abbrev nm_L_numbers : List Str := ["_law_cell_here", "_law_most", "_law_one", "_law_two", "_law_three", "_law_four", "_law_rows", "_law_columns"]
theorem sc_L_numbers : FnScope nm_L_numbers ["_law_cell_here", "_law_most"] (defScope s_L_numbers) := ⟨rfl, rfl, rfl, by decide +kernel, rfl, by decide +kernel, by decide +kernel⟩
abbrev s_L_crossed : Stmt := topS 49
abbrev nm_L_crossed : List Str := ["_law_one", "_law_two", "_law_rows", "_law_k"]
theorem sc_L_crossed : FnScope nm_L_crossed ["_law_one", "_law_two"] (defScope s_L_crossed) := ⟨rfl, rfl, rfl, by decide +kernel, rfl, by decide +kernel, by decide +kernel⟩
abbrev s_L_some : Stmt := topS 50
abbrev nm_L_some : List Str := ["_law_script", "_law_choice", "_law_numbers_here", "_law_drawing_here"]
theorem sc_L_some : FnScope nm_L_some ["_law_script", "_law_choice"] (defScope s_L_some) := ⟨rfl, rfl, rfl, by decide +kernel, rfl, by decide +kernel, by decide +kernel⟩
abbrev s_L_is_walk : Stmt := topS 51
abbrev nm_L_is_walk : List Str := ["_law_drawing_here", "_law_ends", "_law_seats_here", "_law_end", "_law_k"]
theorem sc_L_is_walk : FnScope nm_L_is_walk ["_law_drawing_here", "_law_ends"] (defScope s_L_is_walk) := ⟨rfl, rfl, rfl, by decide +kernel, rfl, by decide +kernel, by decide +kernel⟩
abbrev s_L_is_turn : Stmt := topS 52
abbrev nm_L_is_turn : List Str := ["_law_drawing_here", "_law_ends", "_law_seats_here", "_law_end"]
theorem sc_L_is_turn : FnScope nm_L_is_turn ["_law_drawing_here", "_law_ends"] (defScope s_L_is_turn) := ⟨rfl, rfl, rfl, by decide +kernel, rfl, by decide +kernel, by decide +kernel⟩
abbrev s_L_lefts : Stmt := topS 53
abbrev nm_L_lefts : List Str := ["_law_drawing_here", "_law_walk", "_law_behind_here", "_law_counts", "_law_k", "_law_comes", "_law_end"]
theorem sc_L_lefts : FnScope nm_L_lefts ["_law_drawing_here", "_law_walk"] (defScope s_L_lefts) := ⟨rfl, rfl, rfl, by decide +kernel, rfl, by decide +kernel, by decide +kernel⟩
abbrev s_L_crossing : Stmt := topS 54
abbrev nm_L_crossing : List Str := ["_law_drawing_here", "_law_walk", "_law_other", "_law_counts", "_law_end"]
theorem sc_L_crossing : FnScope nm_L_crossing ["_law_drawing_here", "_law_walk", "_law_other"] (defScope s_L_crossing) := ⟨rfl, rfl, rfl, by decide +kernel, rfl, by decide +kernel, by decide +kernel⟩
abbrev s_L_wholes : Stmt := topS 55
abbrev nm_L_wholes : List Str := ["_law_found", "_law_number"]
theorem sc_L_wholes : FnScope nm_L_wholes ["_law_found"] (defScope s_L_wholes) := ⟨rfl, rfl, rfl, by decide +kernel, rfl, by decide +kernel, by decide +kernel⟩
abbrev s_L_parts : Stmt := topS 56
abbrev nm_L_parts : List Str := ["_law_drawing_here", "_law_seats_here", "_law_seen", "_law_parts_here", "_law_start", "_law_part", "_law_waiting", "_law_place", "_law_end"]
theorem sc_L_parts : FnScope nm_L_parts ["_law_drawing_here"] (defScope s_L_parts) := ⟨rfl, rfl, rfl, by decide +kernel, rfl, by decide +kernel, by decide +kernel⟩
abbrev s_L_holes : Stmt := topS 57
abbrev nm_L_holes : List Str := ["_law_drawing_here", "_law_lands_here", "_law_found", "_law_part", "_law_ends", "_law_place", "_law_many", "_law_land"]
theorem sc_L_holes : FnScope nm_L_holes ["_law_drawing_here"] (defScope s_L_holes) := ⟨rfl, rfl, rfl, by decide +kernel, rfl, by decide +kernel, by decide +kernel⟩
abbrev s_L_paper : Stmt := topS 58
abbrev nm_L_paper : List Str := ["_law_drawing_here", "_law_found", "_law_turn"]
theorem sc_L_paper : FnScope nm_L_paper ["_law_drawing_here", "_law_found"] (defScope s_L_paper) := ⟨rfl, rfl, rfl, by decide +kernel, rfl, by decide +kernel, by decide +kernel⟩
abbrev s_law : Stmt := topS 59
abbrev nm_law : List Str := ["_law_script", "_law_choice", "_law_large", "_law_one", "_law_two", "_law_drawing_here", "_law_handed", "_law_found", "_law_about", "_law_other", "_law_row"]
theorem sc_law : FnScope nm_law ["_law_script"] (defScope s_law) := ⟨rfl, rfl, rfl, by decide +kernel, rfl, by decide +kernel, by decide +kernel⟩
structure Txt (K : PySem.W.Frag) (mg : Str → Option Value) (fa : Nat → Addr) (fd : Nat → FuncData) : Prop where
  b_bool : mg "bool" = none
  b_enumerate : mg "enumerate" = none
  b_int : mg "int" = none
  b_isinstance : mg "isinstance" = none
  b_len : mg "len" = none
  b_list : mg "list" = none
  b_max : mg "max" = none
  b_min : mg "min" = none
  b_range : mg "range" = none
  b_reversed : mg "reversed" = none
  b_set : mg "set" = none
  b_sorted : mg "sorted" = none
  b_sum : mg "sum" = none
  b_tuple : mg "tuple" = none
  b_zip : mg "zip" = none
  g_mate_of : mg "mate_of" = some (.ref (fa 1))
  F_mate_of : Fun K "mate_of" "mate_of" s_mate_of (fa 1) (fd 1)
  B_mate_of : Binds K (fd 1) ["end"] []
  g_least_first : mg "least_first" = some (.ref (fa 2))
  F_least_first : Fun K "least_first" "least_first" s_least_first (fa 2) (fd 2)
  B_least_first : Binds K (fd 2) ["row"] []
  g_begun_at : mg "begun_at" = some (.ref (fa 3))
  F_begun_at : Fun K "begun_at" "begun_at" s_begun_at (fa 3) (fd 3)
  B_begun_at : Binds K (fd 3) ["row", "end"] []
  g_count_ends : mg "count_ends" = some (.ref (fa 4))
  F_count_ends : Fun K "count_ends" "count_ends" s_count_ends (fa 4) (fd 4)
  B_count_ends : Binds K (fd 4) ["drawing"] []
  g_seats_of : mg "seats_of" = some (.ref (fa 5))
  F_seats_of : Fun K "seats_of" "seats_of" s_seats_of (fa 5) (fd 5)
  B_seats_of : Binds K (fd 5) ["drawing"] []
  g_behind_of : mg "behind_of" = some (.ref (fa 6))
  F_behind_of : Fun K "behind_of" "behind_of" s_behind_of (fa 6) (fd 6)
  B_behind_of : Binds K (fd 6) ["drawing"] []
  g_is_walk : mg "is_walk" = some (.ref (fa 11))
  F_is_walk : Fun K "is_walk" "is_walk" s_is_walk (fa 11) (fd 11)
  B_is_walk : Binds K (fd 11) ["drawing", "ends"] []
  g_is_round : mg "is_round" = some (.ref (fa 12))
  F_is_round : Fun K "is_round" "is_round" s_is_round (fa 12) (fd 12)
  B_is_round : Binds K (fd 12) ["drawing", "ends"] []
  g_ask_round : mg "ask_round" = some (.ref (fa 13))
  F_ask_round : Fun K "ask_round" "ask_round" s_ask_round (fa 13) (fd 13)
  B_ask_round : Binds K (fd 13) ["drawing", "ends"] []
  g_cut_along : mg "cut_along" = some (.ref (fa 15))
  F_cut_along : Fun K "cut_along" "cut_along" s_cut_along (fa 15) (fd 15)
  B_cut_along : Binds K (fd 15) ["drawing", "turn"] []
  g_lands_of : mg "lands_of" = some (.ref (fa 17))
  F_lands_of : Fun K "lands_of" "lands_of" s_lands_of (fa 17) (fd 17)
  B_lands_of : Binds K (fd 17) ["drawing"] []
  g_part_about : mg "part_about" = some (.ref (fa 18))
  F_part_about : Fun K "part_about" "part_about" s_part_about (fa 18) (fd 18)
  B_part_about : Binds K (fd 18) ["drawing", "seats", "start"] []
  g_parts_of : mg "parts_of" = some (.ref (fa 19))
  F_parts_of : Fun K "parts_of" "parts_of" s_parts_of (fa 19) (fd 19)
  B_parts_of : Binds K (fd 19) ["drawing"] []
  g_holes_of : mg "holes_of" = some (.ref (fa 20))
  F_holes_of : Fun K "holes_of" "holes_of" s_holes_of (fa 20) (fd 20)
  B_holes_of : Binds K (fd 20) ["drawing"] []
  g_tree_from : mg "tree_from" = some (.ref (fa 22))
  F_tree_from : Fun K "tree_from" "tree_from" s_tree_from (fa 22) (fd 22)
  B_tree_from : Binds K (fd 22) ["drawing", "root"] []
  g_way_up : mg "way_up" = some (.ref (fa 23))
  F_way_up : Fun K "way_up" "way_up" s_way_up (fa 23) (fd 23)
  B_way_up : Binds K (fd 23) ["seats", "nearer", "place"] []
  g_turned_about : mg "turned_about" = some (.ref (fa 24))
  F_turned_about : Fun K "turned_about" "turned_about" s_turned_about (fa 24) (fd 24)
  B_turned_about : Binds K (fd 24) ["way"] []
  g_round_along : mg "round_along" = some (.ref (fa 25))
  F_round_along : Fun K "round_along" "round_along" s_round_along (fa 25) (fd 25)
  B_round_along : Binds K (fd 25) ["seats", "nearer", "end"] []
  g_land_numbers : mg "land_numbers" = some (.ref (fa 26))
  F_land_numbers : Fun K "land_numbers" "land_numbers" s_land_numbers (fa 26) (fd 26)
  B_land_numbers : Binds K (fd 26) ["lands"] []
  g_land_tree : mg "land_tree" = some (.ref (fa 27))
  F_land_tree : Fun K "land_tree" "land_tree" s_land_tree (fa 27) (fd 27)
  B_land_tree : Binds K (fd 27) ["lands", "nearer", "first"] []
  g_left_ties : mg "left_ties" = some (.ref (fa 28))
  F_left_ties : Fun K "left_ties" "left_ties" s_left_ties (fa 28) (fd 28)
  B_left_ties : Binds K (fd 28) ["drawing", "nearer", "towards"] []
  g_both_trees : mg "both_trees" = some (.ref (fa 29))
  F_both_trees : Fun K "both_trees" "both_trees" s_both_trees (fa 29) (fd 29)
  B_both_trees : Binds K (fd 29) ["drawing", "root"] []
  g_old_end : mg "old_end" = some (.ref (fa 31))
  F_old_end : Fun K "old_end" "old_end" s_old_end (fa 31) (fd 31)
  B_old_end : Binds K (fd 31) ["turn", "ties", "end"] []
  g_shortest_back : mg "shortest_back" = some (.ref (fa 32))
  F_shortest_back : Fun K "shortest_back" "shortest_back" s_shortest_back (fa 32) (fd 32)
  B_shortest_back : Binds K (fd 32) ["cut", "seats", "places", "turn"] []
  g_turn_over : mg "turn_over" = some (.ref (fa 33))
  F_turn_over : Fun K "turn_over" "turn_over" s_turn_over (fa 33) (fd 33)
  B_turn_over : Binds K (fd 33) ["drawing", "turn"] []
  g_pair_of : mg "pair_of" = some (.ref (fa 34))
  F_pair_of : Fun K "pair_of" "pair_of" s_pair_of (fa 34) (fd 34)
  B_pair_of : Binds K (fd 34) ["drawing"] []
  g_L_cell : mg "_law_cell" = some (.ref (fa 36))
  F_L_cell : Fun K "_law_cell" "_law_cell" s_L_cell (fa 36) (fd 36)
  B_L_cell : Binds K (fd 36) ["_law_script", "_law_k"] []
  g_L_draws : mg "_law_draws" = some (.ref (fa 37))
  F_L_draws : Fun K "_law_draws" "_law_draws" s_L_draws (fa 37) (fd 37)
  B_L_draws : Binds K (fd 37) ["_law_cell_here", "_law_sizes"] []
  g_L_mate : mg "_law_mate" = some (.ref (fa 38))
  F_L_mate : Fun K "_law_mate" "_law_mate" s_L_mate (fa 38) (fd 38)
  B_L_mate : Binds K (fd 38) ["_law_end"] []
  g_L_settled : mg "_law_settled" = some (.ref (fa 39))
  F_L_settled : Fun K "_law_settled" "_law_settled" s_L_settled (fa 39) (fd 39)
  B_L_settled : Binds K (fd 39) ["_law_rows"] []
  g_L_drawing : mg "_law_drawing" = some (.ref (fa 40))
  F_L_drawing : Fun K "_law_drawing" "_law_drawing" s_L_drawing (fa 40) (fd 40)
  B_L_drawing : Binds K (fd 40) ["_law_script", "_law_base", "_law_most"] []
  g_L_seats : mg "_law_seats" = some (.ref (fa 41))
  F_L_seats : Fun K "_law_seats" "_law_seats" s_L_seats (fa 41) (fd 41)
  B_L_seats : Binds K (fd 41) ["_law_drawing_here"] []
  g_L_behind : mg "_law_behind" = some (.ref (fa 42))
  F_L_behind : Fun K "_law_behind" "_law_behind" s_L_behind (fa 42) (fd 42)
  B_L_behind : Binds K (fd 42) ["_law_drawing_here"] []
  g_L_lands : mg "_law_lands" = some (.ref (fa 43))
  F_L_lands : Fun K "_law_lands" "_law_lands" s_L_lands (fa 43) (fd 43)
  B_L_lands : Binds K (fd 43) ["_law_drawing_here"] []
  g_L_tied : mg "_law_tied" = some (.ref (fa 44))
  F_L_tied : Fun K "_law_tied" "_law_tied" s_L_tied (fa 44) (fd 44)
  B_L_tied : Binds K (fd 44) ["_law_rows", "_law_tie", "_law_one", "_law_two", "_law_high"] []
  g_L_renamed : mg "_law_renamed" = some (.ref (fa 45))
  F_L_renamed : Fun K "_law_renamed" "_law_renamed" s_L_renamed (fa 45) (fd 45)
  B_L_renamed : Binds K (fd 45) ["_law_rows", "_law_ties", "_law_cell_here"] []
  g_L_grown : mg "_law_grown" = some (.ref (fa 46))
  F_L_grown : Fun K "_law_grown" "_law_grown" s_L_grown (fa 46) (fd 46)
  B_L_grown : Binds K (fd 46) ["_law_script", "_law_base", "_law_holes_here"] []
  g_L_kind : mg "_law_kind" = some (.ref (fa 47))
  F_L_kind : Fun K "_law_kind" "_law_kind" s_L_kind (fa 47) (fd 47)
  B_L_kind : Binds K (fd 47) ["_law_sort", "_law_rows", "_law_columns", "_law_shift"] []
  g_L_numbers : mg "_law_numbers" = some (.ref (fa 48))
  F_L_numbers : Fun K "_law_numbers" "_law_numbers" s_L_numbers (fa 48) (fd 48)
  B_L_numbers : Binds K (fd 48) ["_law_cell_here", "_law_most"] []
  g_L_crossed : mg "_law_crossed" = some (.ref (fa 49))
  F_L_crossed : Fun K "_law_crossed" "_law_crossed" s_L_crossed (fa 49) (fd 49)
  B_L_crossed : Binds K (fd 49) ["_law_one", "_law_two"] []
  g_L_some : mg "_law_some" = some (.ref (fa 50))
  F_L_some : Fun K "_law_some" "_law_some" s_L_some (fa 50) (fd 50)
  B_L_some : Binds K (fd 50) ["_law_script", "_law_choice"] []
  g_L_is_walk : mg "_law_is_walk" = some (.ref (fa 51))
  F_L_is_walk : Fun K "_law_is_walk" "_law_is_walk" s_L_is_walk (fa 51) (fd 51)
  B_L_is_walk : Binds K (fd 51) ["_law_drawing_here", "_law_ends"] []
  g_L_is_turn : mg "_law_is_turn" = some (.ref (fa 52))
  F_L_is_turn : Fun K "_law_is_turn" "_law_is_turn" s_L_is_turn (fa 52) (fd 52)
  B_L_is_turn : Binds K (fd 52) ["_law_drawing_here", "_law_ends"] []
  g_L_lefts : mg "_law_lefts" = some (.ref (fa 53))
  F_L_lefts : Fun K "_law_lefts" "_law_lefts" s_L_lefts (fa 53) (fd 53)
  B_L_lefts : Binds K (fd 53) ["_law_drawing_here", "_law_walk"] []
  g_L_crossing : mg "_law_crossing" = some (.ref (fa 54))
  F_L_crossing : Fun K "_law_crossing" "_law_crossing" s_L_crossing (fa 54) (fd 54)
  B_L_crossing : Binds K (fd 54) ["_law_drawing_here", "_law_walk", "_law_other"] []
  g_L_wholes : mg "_law_wholes" = some (.ref (fa 55))
  F_L_wholes : Fun K "_law_wholes" "_law_wholes" s_L_wholes (fa 55) (fd 55)
  B_L_wholes : Binds K (fd 55) ["_law_found"] []
  g_L_parts : mg "_law_parts" = some (.ref (fa 56))
  F_L_parts : Fun K "_law_parts" "_law_parts" s_L_parts (fa 56) (fd 56)
  B_L_parts : Binds K (fd 56) ["_law_drawing_here"] []
  g_L_holes : mg "_law_holes" = some (.ref (fa 57))
  F_L_holes : Fun K "_law_holes" "_law_holes" s_L_holes (fa 57) (fd 57)
  B_L_holes : Binds K (fd 57) ["_law_drawing_here"] []
  g_L_paper : mg "_law_paper" = some (.ref (fa 58))
  F_L_paper : Fun K "_law_paper" "_law_paper" s_L_paper (fa 58) (fd 58)
  B_L_paper : Binds K (fd 58) ["_law_drawing_here", "_law_found"] []
  g_law : mg "law" = some (.ref (fa 59))
  F_law : Fun K "law" "law" s_law (fa 59) (fd 59)
  B_law : Binds K (fd 59) ["_law_script"] []
end RF
namespace RF
open PySem PySem.Spec PyProof.Rows L2
/-! ### promises and defs: ends -/
def spMate : Sp := fun vs H Q _ => ∃ e, vs = [vn e] ∧ Q (vn (mate e)) H
theorem vmate {σ : L2.St} {H : Hp} {ta : TE} {E : XK} {e : Nat} (h : Va ta σ H (vn e)) : Va (tCall spMate [] E (tCons ta tNil)) σ H (vn (mate e)) := fun Q q => ex_call (a1 h) ⟨e, rfl, q⟩
theorem mate_int (e : Nat) : (V.int ((e : Int) + 1 - 2 * ((e : Int) % 2))) = vn (mate e) := by
  show V.int _ = V.int _
  unfold mate
  congr 1
  omega
theorem ok_mate_of {P : Program} {w : World} {K : PySem.W.Frag} {mg : Str → Option Value} {base : Heap} {fa : Nat → Addr} {fd : Nat → FuncData} (TX : Txt K mg fa fd) : FnOk P w K mg base CX0 1 (fa 1) (fd 1) ["end"] spMate := by
  refine TX.F_mate_of.ok sc_mate_of (fun vs H Q E h => ?_) (fun cdv A outer s H vs Q E hr h => ?_)
  · obtain ⟨e, rfl, q⟩ := h
    rfl
  · have nd := sc_mate_of.nd
    have hu := hu_of hr
    obtain ⟨e, rfl, q⟩ := h
    refine ⟨_, (pss_one (ps_ret (pe_op op_sub (pe_op op_add (pv 0) pe_int) (pe_op op_mul pe_int (pe_op op_mod (pv 0) pe_int))))), ?_⟩
    refine s_ret (vto (vsub (vadd vv vc) (vmulL vc (vmod vv vc (by decide)) ⟨by decide, by decide⟩)) (mate_int e)) q

theorem ok_L_mate {P : Program} {w : World} {K : PySem.W.Frag} {mg : Str → Option Value} {base : Heap} {fa : Nat → Addr} {fd : Nat → FuncData} (TX : Txt K mg fa fd) : FnOk P w K mg base CX0 1 (fa 38) (fd 38) ["_law_end"] spMate := by
  refine TX.F_L_mate.ok sc_L_mate (fun vs H Q E h => ?_) (fun cdv A outer s H vs Q E hr h => ?_)
  · obtain ⟨e, rfl, q⟩ := h
    rfl
  · have nd := sc_L_mate.nd
    have hu := hu_of hr
    obtain ⟨e, rfl, q⟩ := h
    refine ⟨_, (pss_one (ps_ret (pe_op op_sub (pe_op op_add (pv 0) pe_int) (pe_op op_mul pe_int (pe_op op_mod (pv 0) pe_int))))), ?_⟩
    refine s_ret (vto (vsub (vadd vv vc) (vmulL vc (vmod vv vc (by decide)) ⟨by decide, by decide⟩)) (mate_int e)) q

def spLeast : Sp := fun vs H Q _ => ∃ a l, vs = [.ref a] ∧ LI H a l ∧ l.length ≤ 300000 ∧ ∀ H' p k, Same H H' → H p = none → k ≤ l.length → LI H' p (l.drop k ++ l.take k) → Q (.ref p) H'
theorem idx_get {l : List Nat} {x : Nat} (h : x ∈ l) : l[l.idxOf x]? = some x := by
  have hk : l.idxOf x < l.length := List.idxOf_lt_length_iff.mpr h
  rw [List.getElem?_eq_getElem hk, List.getElem_idxOf hk]
theorem idx_no {l : List Nat} {x j : Nat} (h : j < l.idxOf x) : l[j]? ≠ some x := by
  intro e
  have hj := (List.getElem?_eq_some_iff.mp e).1
  have e2 := (List.getElem?_eq_some_iff.mp e).2
  have := List.not_of_lt_findIdx (p := fun y => y == x) h
  rw [e2] at this
  simp at this
/-- xs[k:] + xs[:k] -/
theorem ex_cut2 {K : PySem.W.Frag} {σ : L2.St} {H : Hp} {ta tb : TE} {a : Addr} {l : List Nat} {k : Nat} {Q : VK} (ha : ∀ {H}, Va ta σ H (.ref a)) (hb : ∀ {H}, Va tb σ H (vn k)) (hl : LI H a l) (hz : l.length ≤ 300000) (hk : k ≤ l.length) (q : ∀ H' p, Same H H' → H p = none → LI H' p (l.drop k ++ l.take k) → Q (.ref p) H') :
    tOp rCat (tSl (rSlL K) ta (tPart tb) tNoPart) (tSl (rSlL K) ta tNoPart (tPart tb)) σ H Q := by
  refine ex_drop (Q := fun x H1 => tSl (rSlL K) ta tNoPart (tPart tb) σ H1 fun y H2 => rCat x y H2 Q) ha hb hl (by rw [vns_len]; exact hk) fun p hp => ?_
  have s1 : Same H (upd H p (.lst ((vns l).drop k))) := same_upd hp
  refine ex_take (Q := fun y H2 => rCat (.ref p) y H2 Q) ha hb (s1 _ _ hl) (by rw [vns_len]; exact hk) fun p2 hp2 => ?_
  have ne : p ≠ p2 := ne_of_none (upd_same (H := H)) hp2
  refine ⟨p, p2, (vns l).drop k, (vns l).take k, rfl, rfl, by rw [upd_ne ne, upd_same], upd_same, ?_, fun p3 hp3 => ?_⟩
  · rw [List.length_drop, List.length_take, vns_len, sizeLine_eq]
    omega
  · have s3 : Same H (upd (upd (upd H p (.lst ((vns l).drop k))) p2 (.lst ((vns l).take k))) p3 (.lst ((vns l).drop k ++ (vns l).take k))) := (s1.trans (same_upd hp2)).trans (same_upd hp3)
    refine q _ p3 s3 ((s1.trans (same_upd hp2)).free hp3) ?_
    show _ = some (HO.lst (vns (l.drop k ++ l.take k)))
    rw [upd_same]
    show _ = some (HO.lst (List.map vn (l.drop k ++ l.take k)))
    rw [List.map_append, List.map_drop, List.map_take]
theorem ok_least_first {P : Program} {w : World} {K : PySem.W.Frag} {mg : Str → Option Value} {base : Heap} {fa : Nat → Addr} {fd : Nat → FuncData} (TX : Txt K mg fa fd) : FnOk P w K mg base CX0 1 (fa 2) (fd 2) ["row"] spLeast := by
  refine TX.F_least_first.ok sc_least_first (fun vs H Q E h => ?_) (fun cdv A outer s H vs Q E hr h => ?_)
  · obtain ⟨a, l, rfl, hl, hz, q⟩ := h
    rfl
  · have nd := sc_least_first.nd
    have hu := hu_of hr
    obtain ⟨a, l, rfl, hl, hz, q⟩ := h
    refine ⟨_, (pss_cons (ps_if (pt_cmpR op_eq (pe_callB call_len_seq (by rfl) TX.b_len PySem.boot_len (pa_cons (pv 0) pa_nil)) pe_int (nomark _)) (pss_one (ps_ret (pe_lst pa_nil))) pss_nil)
      (pss_cons (ps_set (i := 1) nd rfl (Or.inl rfl) (pe_bm PySem.F.plainAttrs_list PySem.F.slot_list_index PySem.F.type_list_index mt_index (pv 0) (pa_cons (pe_callB (cr_min rfl) (by rfl) TX.b_min (by decide +kernel) (pa_cons (pv 0) pa_nil)) pa_nil)))
      (pss_one (ps_ret (pe_op op_cat (pe_slice sl_list (pv 0) (po_some (pv 1)) po_none) (pe_slice sl_list (pv 0) po_none (po_some (pv 1)))))))), ?_⟩
    refine sq (s_ifp (at_ (veqP (q := l = []) (vlen vv (vns_len l)) vc ?_)) (fun e => s_retx (ex_lst a0 (Nat.zero_le _) fun p hp => ?_)) (fun e => ?_))
    · cases l with
      | nil => simp
      | cons x r => simp; omega
    · subst e
      exact q _ p 0 (same_upd hp) hp (Nat.zero_le _) upd_same
    have h0 : 0 < l.length := List.length_pos_iff.mpr e
    refine s_nx (pn (q_asg ?_))
    refine ex_bm vv hl (ex_cons (vmin vv h0 hl fun m hm hle => ?_))
    have hk : l.idxOf m < l.length := List.idxOf_lt_length_iff.mpr hm
    refine ⟨a, vns l, vn m, l.idxOf m, vn m, rfl, rfl, SqL.of hl, rfl, flat_vns l, vns_get (idx_get hm), by rw [eqV_vn]; exact decide_eq_true rfl, fun j z hj hz => ?_, ?_⟩
    · obtain ⟨x, hx, rfl⟩ := vns_get' hz
      rw [eqV_vn]
      exact decide_eq_false fun e => idx_no hj (e ▸ hx)
    refine s_retx ?_
    refine ex_cut2 vv vv hl hz (Nat.le_of_lt hk) fun H' p s hp hl' => ?_
    exact q H' p _ s hp (Nat.le_of_lt hk) hl'

def spBegun : Sp := fun vs H Q _ => ∃ a l e, vs = [.ref a, vn e] ∧ LI H a l ∧ e ∈ l ∧ l.length ≤ 300000 ∧ ∀ H' p, Same H H' → H p = none → LI H' p (l.drop (l.idxOf e) ++ l.take (l.idxOf e)) → Q (.ref p) H'
theorem ok_begun_at {P : Program} {w : World} {K : PySem.W.Frag} {mg : Str → Option Value} {base : Heap} {fa : Nat → Addr} {fd : Nat → FuncData} (TX : Txt K mg fa fd) : FnOk P w K mg base CX0 1 (fa 3) (fd 3) ["row", "end"] spBegun := by
  refine TX.F_begun_at.ok sc_begun_at (fun vs H Q E h => ?_) (fun cdv A outer s H vs Q E hr h => ?_)
  · obtain ⟨a, l, e, rfl, hl, he, hz, q⟩ := h
    rfl
  · have nd := sc_begun_at.nd
    have hu := hu_of hr
    obtain ⟨a, l, e, rfl, hl, he, hz, q⟩ := h
    refine ⟨_, (pss_cons (ps_set (i := 2) nd rfl (Or.inl rfl) (pe_bm PySem.F.plainAttrs_list PySem.F.slot_list_index PySem.F.type_list_index mt_index (pv 0) (pa_cons (pv 1) pa_nil)))
      (pss_one (ps_ret (pe_op op_cat (pe_slice sl_list (pv 0) (po_some (pv 2)) po_none) (pe_slice sl_list (pv 0) po_none (po_some (pv 2))))))), ?_⟩
    have hk : l.idxOf e < l.length := List.idxOf_lt_length_iff.mpr he
    refine q_set (vindex vv vv (idx_get he) (fun m hm => idx_no hm) hl) ?_
    refine s_retx ?_
    refine ex_cut2 vv vv hl hz (Nat.le_of_lt hk) fun H' p s hp hl' => ?_
    exact q H' p s hp hl'

def spCount : Sp := fun vs H Q _ => ∃ a rows, vs = [.ref a] ∧ LR H a rows ∧ rows.length ≤ 300000 ∧ ∀ H', Same H H' → Q (vn rows.flatten.length) H'
theorem ok_count_ends {P : Program} {w : World} {K : PySem.W.Frag} {mg : Str → Option Value} {base : Heap} {fa : Nat → Addr} {fd : Nat → FuncData} (TX : Txt K mg fa fd) : FnOk P w K mg base CX0 1 (fa 4) (fd 4) ["drawing"] spCount := by
  refine TX.F_count_ends.ok sc_count_ends (fun vs H Q E h => ?_) (fun cdv A outer s H vs Q E hr h => ?_)
  · obtain ⟨a, rows, rfl, ⟨rs, ha, hx⟩, hz, q⟩ := h
    rfl
  · have nd := sc_count_ends.nd
    have hu := hu_of hr
    obtain ⟨a, rows, rfl, ⟨rs, ha, hx⟩, hz, q⟩ := h
    refine ⟨_, (pss_one (ps_ret (pe_callB (cr_sum rfl) (by rfl) TX.b_sum (by decide +kernel) (pa_cons (pe_lc (own := [("row", 1)]) (g := gName 1) (tt := tYes) (by rfl) nd (pi_list (pv 0)) (blkOk_by (own := [("row", 1)]) (N := nm_count_ends) (sc := (defScope s_count_ends)) (by decide +kernel)) (fun _ _ _ _ _ => (pg_name (i := 1) nd rfl (Or.inl rfl))) (fun _ _ _ _ _ => pts_nil) (fun _ _ _ _ _ => (pe_callB (call_len_seqK (K := K) rfl) (by rfl) TX.b_len PySem.boot_len (pa_cons (pv 1) pa_nil)))) pa_nil)))), ?_⟩
    refine s_retx (ex_cons ?_)
    refine ex_lc (ys := vns (rows.map List.length)) vv ha (fun _ => rfl) (by rw [List.length_map, List.length_map, List.length_map, hx.1]) (by rw [List.length_map, hx.1]; omega) (fun j x y H' e1 e2 s => ?_) fun p hp => ?_
    · obtain ⟨r, hr, rfl⟩ := ref_get' e1
      obtain ⟨n, hn, rfl⟩ := vns_get' e2
      rw [List.getElem?_map] at hn
      cases hw : rows[j]? with
      | none => rw [hw] at hn; cases hn
      | some w =>
        rw [hw] at hn
        cases Option.some.inj hn
        exact vlen vv (vns_len w) (s _ _ (hx.2 j r w hr hw))
    · refine vsum (K := K) (ta := tC (.ref p)) (σ := []) vc upd_same _ ?_
      rw [← List.length_flatten]
      exact q _ (same_upd hp)

end RF
namespace RF
open PySem PySem.Spec PyProof.Rows L2
/-! ### promises and defs: seats, behind -/
def spSeats : Sp := fun vs H Q _ => ∃ a rows m, vs = [.ref a] ∧ LR H a rows ∧ Dr rows m ∧ rows.length ≤ 300000 ∧ m ≤ 150000 ∧ ∀ H' p, Same H H' → H p = none → LI H' p (seatL rows) → Q (.ref p) H'
theorem vns_set (l : List Nat) (k v : Nat) : (vns l).set k (vn v) = vns (l.set k v) := List.map_set.symm
theorem mod_cast1 (i n : Nat) : ((i : Int) + 1) % (n : Int) = (((i + 1) % n : Nat) : Int) := by
  rw [Int.natCast_emod]; rfl
theorem done_step {D : List (List Nat)} {i j x : Nat} {r : List Nat} (hi : D[i]? = some r) (hj : r[j]? = some x) : ∀ y, y ∈ (D.take i).flatten ++ r.take (j + 1) → y = x ∨ y ∈ (D.take i).flatten ++ r.take j := by
  intro y hy
  rw [take_succ_get hj, ← List.append_assoc, List.mem_append, List.mem_singleton] at hy
  exact hy.symm
theorem done_row {D : List (List Nat)} {i : Nat} {r : List Nat} (hi : D[i]? = some r) : (D.take (i + 1)).flatten = (D.take i).flatten ++ r.take r.length := by
  rw [take_succ_get hi, List.flatten_append, List.take_length]
  simp
theorem ok_seats_of {P : Program} {w : World} {K : PySem.W.Frag} {mg : Str → Option Value} {base : Heap} {fa : Nat → Addr} {fd : Nat → FuncData} (TX : Txt K mg fa fd) : FnOk P w K mg base CX0 2 (fa 5) (fd 5) ["drawing"] spSeats := by
  refine TX.F_seats_of.ok sc_seats_of (fun vs H Q E h => ?_) (fun cdv A outer s H vs Q E hr h => ?_)
  · obtain ⟨a, rows, m, rfl, ⟨rs, ha, hx⟩, hD, hz, hm, q⟩ := h
    rfl
  · have nd := sc_seats_of.nd
    have hu := hu_of hr
    obtain ⟨a, rows, m, rfl, ⟨rs, ha, hx⟩, hD, hz, hm, q⟩ := h
    refine ⟨_, (pss_cons (ps_set (i := 1) nd rfl (Or.inl rfl) (pe_op op_rep (pe_lst (pa_cons pe_int pa_nil)) (pe_call (ok_count_ends TX) (hr.mono (by decide)) (by rfl) TX.g_count_ends TX.F_count_ends.kp TX.B_count_ends .nil pass0 (pa_cons (pv 0) pa_nil))))
      (pss_cons (ps_for PassesOwn.never (by rfl) (pi_enum (by rfl) TX.b_enumerate (pa_cons (pv 0) pa_nil)) (pg_tup (by rfl) (pgs_cons (pg_name (i := 2) nd rfl (Or.inl rfl)) (pgs_cons (pg_name (i := 3) nd rfl (Or.inl rfl)) pgs_nil))) (pss_one (ps_for PassesOwn.never (by rfl) (pi_list (pv 3)) (pg_name (i := 4) nd rfl (Or.inl rfl)) (pss_one (ps_asg (pv 2) (pg_sub (pv 1) (pv 4) set_list))))))
      (pss_one (ps_ret (pv 1))))), ?_⟩
    -- seats = [0] * count_ends(drawing)
    refine q_asg (ex_rep (x := vn 0) vc fun p hp => ?_)
    have s1 : Same H (upd H p (.lst [vn 0])) := same_upd hp
    refine ex_call (a1 vv) ⟨a, rows, rfl, ⟨rs, s1 _ _ ha, hx.mono s1⟩, hz, fun H2 s2 => ?_⟩
    refine rep_n (s2 _ _ upd_same) (by rw [hD.len]; omega) fun o ho => ?_
    have s3 : Same H H2 := s1.trans s2
    have ho0 : H o = none := s3.free ho
    have s4 : Same H (upd H2 o (.lst (List.replicate rows.flatten.length (vn 0)))) := s3.trans (same_upd ho)
    -- for place, row in enumerate(drawing)
    refine sq (s_forE (a1 vv) (s4 _ _ ha) (fun i σ H' => ∃ y2 y3 y4 f, σ = [some (.ref a), some (.ref o), y2, y3, y4] ∧ Same H H' ∧ LI H' o ((List.range (2 * m)).map f) ∧ ∀ x ∈ (rows.take i).flatten, f x = seat rows x)
      ⟨none, none, none, fun _ => 0, rfl, s4, ?_, fun x hx => by simp at hx⟩ (fun i σ H' _ h => ?_) (fun j x σ H1 H2 hj h s => ?_) (fun σ H' h => ?_))
    · show upd H2 o _ o = _
      rw [upd_same, hD.len]
      show _ = some (HO.lst (List.map vn ((List.range (2 * m)).map fun _ => 0)))
      rw [← replicate_range, List.map_replicate]
    · obtain ⟨_, _, _, _, _, sm, _⟩ := h
      exact sm _ _ ha
    · obtain ⟨y2, y3, y4, f, rfl, sm, hL, hf⟩ := h
      obtain ⟨r, hr, rfl⟩ := ref_get' hj
      have hjl : j < rows.length := by rw [← hx.1]; exact (List.getElem?_eq_some_iff.mp hr).1
      have hw : rows[j]? = some (row rows j) := row_get hjl
      have hLr : LI H r (row rows j) := hx.2 j r _ hr hw
      -- for end in row: seats[end] = place
      refine s_forLn vv (s _ _ (sm _ _ hLr)) (fun i σ H' => ∃ y4 f, σ = [some (.ref a), some (.ref o), some (vn j), some (.ref r), y4] ∧ Same H H' ∧ LI H' o ((List.range (2 * m)).map f) ∧ ∀ x ∈ (rows.take j).flatten ++ (row rows j).take i, f x = seat rows x)
        ⟨y4, f, rfl, sm.trans s, s _ _ hL, fun x hx => hf x (by simpa using hx)⟩ (fun i σ H' _ h => ?_) (fun i x σ H' hi h => ?_) (fun σ H' h => ?_)
      · obtain ⟨_, _, _, sm', _⟩ := h
        exact sm' _ _ hLr
      · obtain ⟨y4', f', rfl, sm', hL', hf'⟩ := h
        obtain ⟨e, he, rfl⟩ := vns_get' hi
        have hmem : e ∈ row rows j := List.mem_of_getElem? he
        obtain ⟨hlt, hst⟩ := row_end hD hmem
        refine s_setL (j := e) vv vv vv hL' (by rw [vns_len, List.length_map, List.length_range]; exact hlt) (pn ?_)
        refine ⟨_, fun x => if x = e then j else f' x, rfl, same_mut sm' ho0, ?_, fun x hx => ?_⟩
        · show upd H' o _ o = _
          rw [upd_same, ← set_range, vns_set]
        · show (if x = e then j else f' x) = _
          rcases done_step hw he x hx with h | h
          · rw [if_pos h, h, hst]
          · by_cases z : x = e
            · rw [if_pos z, z, hst]
            · rw [if_neg z]; exact hf' x h
      · obtain ⟨y4', f', rfl, sm', hL', hf'⟩ := h
        refine pn ⟨_, _, _, f', rfl, sm', hL', fun x hx => hf' x ?_⟩
        rw [vns_len]
        rw [done_row hw] at hx
        exact hx
    · obtain ⟨y2, y3, y4, f, rfl, sm, hL, hf⟩ := h
      refine s_ret vv (q H' o sm ho0 ?_)
      have e : seatL rows = (List.range (2 * m)).map f := by
        unfold seatL
        rw [hD.len]
        have hx' := hx
        refine map_range_congr fun x hx => (hf x ?_).symm
        rw [List.length_map, List.take_of_length_le (Nat.le_of_eq hx'.1.symm)]
        exact (hD.mem x).mpr hx
      rw [e]
      exact hL

def spBeh : Sp := fun vs H Q _ => ∃ a rows m, vs = [.ref a] ∧ LR H a rows ∧ Dr rows m ∧ rows.length ≤ 300000 ∧ m ≤ 150000 ∧ ∀ H' p, Same H H' → H p = none → LI H' p (behL rows) → Q (.ref p) H'
theorem ok_behind_of {P : Program} {w : World} {K : PySem.W.Frag} {mg : Str → Option Value} {base : Heap} {fa : Nat → Addr} {fd : Nat → FuncData} (TX : Txt K mg fa fd) : FnOk P w K mg base CX0 2 (fa 6) (fd 6) ["drawing"] spBeh := by
  refine TX.F_behind_of.ok sc_behind_of (fun vs H Q E h => ?_) (fun cdv A outer s H vs Q E hr h => ?_)
  · obtain ⟨a, rows, m, rfl, ⟨rs, ha, hx⟩, hD, hz, hm, q⟩ := h
    rfl
  · have nd := sc_behind_of.nd
    have hu := hu_of hr
    obtain ⟨a, rows, m, rfl, ⟨rs, ha, hx⟩, hD, hz, hm, q⟩ := h
    refine ⟨_, (pss_cons (ps_set (i := 1) nd rfl (Or.inl rfl) (pe_op op_rep (pe_lst (pa_cons pe_int pa_nil)) (pe_call (ok_count_ends TX) (hr.mono (by decide)) (by rfl) TX.g_count_ends TX.F_count_ends.kp TX.B_count_ends .nil pass0 (pa_cons (pv 0) pa_nil))))
      (pss_cons (ps_for PassesOwn.never (by rfl) (pi_list (pv 0)) (pg_name (i := 2) nd rfl (Or.inl rfl)) (pss_one (ps_for PassesOwn.never (by rfl) (pi_enum (by rfl) TX.b_enumerate (pa_cons (pv 2) pa_nil)) (pg_tup (by rfl) (pgs_cons (pg_name (i := 3) nd rfl (Or.inl rfl)) (pgs_cons (pg_name (i := 4) nd rfl (Or.inl rfl)) pgs_nil))) (pss_one (ps_asg (pe_ix ix_list (pv 2) (pe_op op_mod (pe_op op_add (pv 3) pe_int) (pe_callB call_len_seq (by rfl) TX.b_len PySem.boot_len (pa_cons (pv 2) pa_nil))) (fun _ _ => rfl)) (pg_sub (pv 1) (pv 4) set_list))))))
      (pss_one (ps_ret (pv 1))))), ?_⟩
    refine q_asg (ex_rep (x := vn 0) vc fun p hp => ?_)
    have s1 : Same H (upd H p (.lst [vn 0])) := same_upd hp
    refine ex_call (a1 vv) ⟨a, rows, rfl, ⟨rs, s1 _ _ ha, hx.mono s1⟩, hz, fun H2 s2 => ?_⟩
    refine rep_n (s2 _ _ upd_same) (by rw [hD.len]; omega) fun o ho => ?_
    have s3 : Same H H2 := s1.trans s2
    have ho0 : H o = none := s3.free ho
    have s4 : Same H (upd H2 o (.lst (List.replicate rows.flatten.length (vn 0)))) := s3.trans (same_upd ho)
    refine sq (s_forLn vv (s4 _ _ ha) (fun i σ H' => ∃ y2 y3 y4 f, σ = [some (.ref a), some (.ref o), y2, y3, y4] ∧ Same H H' ∧ LI H' o ((List.range (2 * m)).map f) ∧ ∀ x ∈ (rows.take i).flatten, f x = behind rows x)
      ⟨none, none, none, fun _ => 0, rfl, s4, ?_, fun x hx => by simp at hx⟩ (fun i σ H' _ h => ?_) (fun j x σ H1 hj h => ?_) (fun σ H' h => ?_))
    · show upd H2 o _ o = _
      rw [upd_same, hD.len]
      show _ = some (HO.lst (List.map vn ((List.range (2 * m)).map fun _ => 0)))
      rw [← replicate_range, List.map_replicate]
    · obtain ⟨_, _, _, _, _, sm, _⟩ := h
      exact sm _ _ ha
    · obtain ⟨y2, y3, y4, f, rfl, sm, hL, hf⟩ := h
      obtain ⟨r, hr, rfl⟩ := ref_get' hj
      have hjl : j < rows.length := by rw [← hx.1]; exact (List.getElem?_eq_some_iff.mp hr).1
      have hw : rows[j]? = some (row rows j) := row_get hjl
      have hLr : LI H r (row rows j) := hx.2 j r _ hr hw
      have hnd : (row rows j).Nodup := row_nodup hD.nd hw
      refine s_forE (a1 vv) (sm _ _ hLr) (fun i σ H' => ∃ y3 y4 f, σ = [some (.ref a), some (.ref o), some (.ref r), y3, y4] ∧ Same H H' ∧ LI H' o ((List.range (2 * m)).map f) ∧ ∀ x ∈ (rows.take j).flatten ++ (row rows j).take i, f x = behind rows x)
        ⟨y3, y4, f, rfl, sm, hL, fun x hx => hf x (by simpa using hx)⟩ (fun i σ H' _ h => ?_) (fun i x σ H' H2' hi h s => ?_) (fun σ H' h => ?_)
      · obtain ⟨_, _, _, _, sm', _⟩ := h
        exact sm' _ _ hLr
      · obtain ⟨y3', y4', f', rfl, sm', hL', hf'⟩ := h
        obtain ⟨e, he, rfl⟩ := vns_get' hi
        have hmem : e ∈ row rows j := List.mem_of_getElem? he
        obtain ⟨hlt, hst⟩ := row_end hD hmem
        have hb : behind rows e = nxt (row rows j) e := by unfold behind; rw [hst]
        have hil := (List.getElem?_eq_some_iff.mp he).1
        have sm2 := sm'.trans s
        have hLr2 := sm2 _ _ hLr
        refine s_setL (j := e) (v := vn (behind rows e)) (vix vv (vmod (vadd vv vc) (vlen vv (vns_len _) hLr2) (by show (0 : Int) < _; omega)) ?_ hLr2) vv vv (s _ _ hL') (by rw [vns_len, List.length_map, List.length_range]; exact hlt) (pn ?_)
        · have e2 : ((i : Int) + 1) % ((row rows j).length : Int) = (((i + 1) % (row rows j).length : Nat) : Int) := mod_cast1 _ _
          show atI _ (((i : Int) + 1) % ((row rows j).length : Int)) = _
          rw [e2, hb]
          exact atn (nxt_get hnd he)
        refine ⟨_, _, fun x => if x = e then behind rows e else f' x, rfl, same_mut sm2 ho0, ?_, fun x hx => ?_⟩
        · show upd H2' o _ o = _
          rw [upd_same, ← set_range, vns_set]
        · show (if x = e then behind rows e else f' x) = _
          rcases done_step hw he x hx with h | h
          · rw [if_pos h, h]
          · by_cases z : x = e
            · rw [if_pos z, z]
            · rw [if_neg z]; exact hf' x h
      · obtain ⟨y3', y4', f', rfl, sm', hL', hf'⟩ := h
        refine pn ⟨_, _, _, f', rfl, sm', hL', fun x hx => hf' x ?_⟩
        rw [vns_len]
        rw [done_row hw] at hx
        exact hx
    · obtain ⟨y2, y3, y4, f, rfl, sm, hL, hf⟩ := h
      refine s_ret vv (q H' o sm ho0 ?_)
      have e : behL rows = (List.range (2 * m)).map f := by
        unfold behL
        rw [hD.len]
        have hx' := hx
        refine map_range_congr fun x hx => (hf x ?_).symm
        rw [List.length_map, List.take_of_length_le (Nat.le_of_eq hx'.1.symm)]
        exact (hD.mem x).mpr hx
      rw [e]
      exact hL

end RF
namespace RF
open PySem PySem.Spec PyProof.Rows L2
/-! ### promises and defs: walks, rounds -/
def spIsWalk : Sp := fun vs H Q _ => ∃ a b rows m w, vs = [.ref a, .ref b] ∧ LR H a rows ∧ LI H b w ∧ Dr rows m ∧ IsWalk rows m w ∧ rows.length ≤ 300000 ∧ m ≤ 150000 ∧ w.length ≤ 300000 ∧ ∀ H', Same H H' → Q (.bl true) H'
def spIsRound : Sp := fun vs H Q _ => ∃ a b rows m w, vs = [.ref a, .ref b] ∧ LR H a rows ∧ LI H b w ∧ Dr rows m ∧ IsRound rows m w ∧ rows.length ≤ 300000 ∧ m ≤ 150000 ∧ w.length ≤ 300000 ∧ ∀ H', Same H H' → Q (.bl true) H'
def spAskRound : Sp := fun vs H Q _ => ∃ a b rows m w, vs = [.ref a, .ref b] ∧ LR H a rows ∧ LI H b w ∧ Dr rows m ∧ IsRound rows m w ∧ rows.length ≤ 300000 ∧ m ≤ 150000 ∧ w.length ≤ 300000 ∧ ∀ H', Same H H' → Q .non H'
theorem ok_is_walk {P : Program} {w : World} {K : PySem.W.Frag} {mg : Str → Option Value} {base : Heap} {fa : Nat → Addr} {fd : Nat → FuncData} (TX : Txt K mg fa fd) : FnOk P w K mg base CX0 3 (fa 11) (fd 11) ["drawing", "ends"] spIsWalk := by
  refine TX.F_is_walk.ok sc_is_walk (fun vs H Q E h => ?_) (fun cdv A outer s H vs Q E hr h => ?_)
  · obtain ⟨a, b, rows, m, w, rfl, hA, hB, hD, hW, hz, hm, hw, q⟩ := h
    rfl
  · have nd := sc_is_walk.nd
    have hu := hu_of hr
    obtain ⟨a, b, rows, m, w, rfl, hA, hB, hD, hW, hz, hm, hw, q⟩ := h
    refine ⟨_, (pss_cons (ps_set (i := 2) nd rfl (Or.inl rfl) (pe_call (ok_seats_of TX) (hr.mono (by decide)) (by rfl) TX.g_seats_of TX.F_seats_of.kp TX.B_seats_of .nil pass0 (pa_cons (pv 0) pa_nil)))
      (pss_cons (ps_for PassesOwn.never (by rfl) (pi_list (pv 1)) (pg_name (i := 3) nd rfl (Or.inl rfl)) (pss_one (ps_if (PW.pt (pw_or (pt_cmpR op_lt (pv 3) pe_int (nomark _)) (pw_or1 (pt_cmpR op_ge (pv 3) (pe_callB call_len_seq (by rfl) TX.b_len PySem.boot_len (pa_cons (pv 2) pa_nil)) (nomark _))))) (pss_one (ps_ret pe_bl)) pss_nil)))
      (pss_cons (ps_for PassesOwn.never (by rfl) (pi_enum (by rfl) TX.b_enumerate (pa_cons (pv 1) pa_nil)) (pg_tup (by rfl) (pgs_cons (pg_name (i := 4) nd rfl (Or.inl rfl)) (pgs_cons (pg_name (i := 3) nd rfl (Or.inl rfl)) pgs_nil))) (pss_one (ps_if (pt_cmpR op_ne (pe_ix ix_list (pv 2) (pe_call (ok_mate_of TX) (hr.mono (by decide)) (by rfl) TX.g_mate_of TX.F_mate_of.kp TX.B_mate_of .nil pass0 (pa_cons (pe_ix ix_list (pv 1) (pe_op op_sub (pv 4) pe_int) (fun _ _ => rfl)) pa_nil)) (fun _ _ => rfl)) (pe_ix ix_list (pv 2) (pv 3) (fun _ _ => rfl)) (nomark _)) (pss_one (ps_ret pe_bl)) pss_nil)))
      (pss_one (ps_ret pe_bl))))), ?_⟩
    refine q_call (a1 vv) ⟨a, rows, m, rfl, hA, hD, hz, hm, fun H1 p s1 np hp => ?_⟩
    have hB1 := s1 _ _ hB
    refine sq (s_forLn vv hB1 (fun i σ H' => ∃ y3 y4, σ = [some (.ref a), some (.ref b), some (.ref p), y3, y4] ∧ H' = H1)
      ⟨none, none, rfl, rfl⟩ (fun i σ H' _ h => ?_) (fun j x σ H' hj h => ?_) (fun σ H' h => ?_))
    · obtain ⟨_, _, _, rfl⟩ := h
      exact hB1
    · obtain ⟨y3, y4, rfl, rfl⟩ := h
      obtain ⟨e, he, rfl⟩ := vns_get' hj
      have hlt := hW.1 e (List.mem_of_getElem? he)
      refine s_when (q := False) (ato (aor (at_ (vlt vv vc)) fun _ => at_ (vge vv (vlen vv (vns_len _) hp))) ?_) (fun z => z.elim) (fun _ => pn ⟨_, _, rfl, rfl⟩)
      rw [seatL_len hD]
      have h1 : decide ((e : Int) < 0) = false := decide_eq_false (by omega)
      have h2 : decide (((2 * m : Nat) : Int) ≤ (e : Int)) = false := decide_eq_false (by omega)
      rw [h1, h2]
      rfl
    · obtain ⟨y3, y4, rfl, rfl⟩ := h
      refine pn (sq (s_forE (a1 vv) hB1 (fun i σ H2 => ∃ y3 y4, σ = [some (.ref a), some (.ref b), some (.ref p), y3, y4] ∧ Same H' H2)
        ⟨_, _, rfl, Same.refl _⟩ (fun i σ H2 _ h => ?_) (fun j x σ H2 H3 hj h s => ?_) (fun σ H2 h => ?_)))
      · obtain ⟨_, _, _, sm⟩ := h
        exact sm _ _ hB1
      · obtain ⟨y3', y4', rfl, sm⟩ := h
        obtain ⟨e, he, rfl⟩ := vns_get' hj
        have hjl := (List.getElem?_eq_some_iff.mp he).1
        have hlt := hW.1 e (List.mem_of_getElem? he)
        have sm2 := sm.trans s
        have hp3 := sm2 _ _ hp
        have hB3 := sm2 _ _ hB1
        have hpl : w.getD ((j + (w.length - 1)) % w.length) 0 < 2 * m := by
          have hl : (j + (w.length - 1)) % w.length < w.length := Nat.mod_lt _ (by omega)
          rw [List.getD_eq_getElem?_getD, List.getElem?_eq_getElem hl]
          exact hW.1 _ (List.getElem_mem hl)
        have hst := hW.2 j hjl
        rw [List.getD_eq_getElem?_getD (l := w) (i := j), he] at hst
        refine s_when (q := False) (ato (at_ (vneP (q := True) (vixn vv (vmate (vix vv (vsub vv vc) (prev_at hjl) hB3)) (seatL_get hD (mate_lt hpl)) hp3) (vixn vv vv (seatL_get hD hlt) hp3) ?_)) rfl) (fun z => z.elim) (fun _ => pn ⟨_, _, rfl, sm2⟩)
        rw [hst]
        simp
      · obtain ⟨_, _, rfl, sm⟩ := h
        exact pn (s_ret vc (q H2 (s1.trans sm)))

theorem ok_is_round {P : Program} {w : World} {K : PySem.W.Frag} {mg : Str → Option Value} {base : Heap} {fa : Nat → Addr} {fd : Nat → FuncData} (TX : Txt K mg fa fd) : FnOk P w K mg base CX0 4 (fa 12) (fd 12) ["drawing", "ends"] spIsRound := by
  refine TX.F_is_round.ok sc_is_round (fun vs H Q E h => ?_) (fun cdv A outer s H vs Q E hr h => ?_)
  · obtain ⟨a, b, rows, m, w, rfl, hA, hB, hD, hR, hz, hm, hw, q⟩ := h
    rfl
  · have nd := sc_is_round.nd
    have hu := hu_of hr
    obtain ⟨a, b, rows, m, w, rfl, hA, hB, hD, hR, hz, hm, hw, q⟩ := h
    refine ⟨_, (pss_cons (ps_if (PW.pt (pw_or (pt_cmpR op_eq (pe_callB call_len_seq (by rfl) TX.b_len PySem.boot_len (pa_cons (pv 1) pa_nil)) pe_int (nomark _)) (pw_or1 (pt_not (pt_val (pe_call (ok_is_walk TX) (hr.mono (by decide)) (by rfl) TX.g_is_walk TX.F_is_walk.kp TX.B_is_walk .nil pass0 (pa_cons (pv 0) (pa_cons (pv 1) pa_nil)))))))) (pss_one (ps_ret pe_bl)) pss_nil)
      (pss_cons (ps_set (i := 2) nd rfl (Or.inl rfl) (pe_call (ok_seats_of TX) (hr.mono (by decide)) (by rfl) TX.g_seats_of TX.F_seats_of.kp TX.B_seats_of .nil pass0 (pa_cons (pv 0) pa_nil)))
      (pss_cons (ps_set (i := 3) nd rfl (Or.inl rfl) pe_dnewK)
      (pss_cons (ps_set (i := 4) nd rfl (Or.inl rfl) pe_dnewK)
      (pss_cons (ps_for PassesOwn.never (by rfl) (pi_list (pv 1)) (pg_name (i := 5) nd rfl (Or.inl rfl)) (pss_cons (ps_if (PW.pt (pw_or (pt_cmp (pc_din hu (pe_ix ix_list (pv 2) (pv 5) (fun _ _ => rfl)) (pv 3))) (pw_or1 (pt_cmp (pc_din hu (pe_op op_fdiv (pv 5) pe_int) (pv 4)))))) (pss_one (ps_ret pe_bl)) pss_nil)
      (pss_cons (ps_dput hu (pv 3) (pe_ix ix_list (pv 2) (pv 5) (fun _ _ => rfl)) pe_bl rfl)
      (pss_one (ps_dput hu (pv 4) (pe_op op_fdiv (pv 5) pe_int) pe_bl rfl)))))
      (pss_one (ps_ret pe_bl))))))), ?_⟩
    have h0 : 0 < w.length := List.length_pos_iff.mpr hR.ne
    refine q_ifx (orx (ato (at_ (veqP (q := False) (vlen vv (vns_len w) hB) vc (by constructor <;> intro z; omega; exact z.elim))) rfl) (notcall (a2 vv vv) ⟨a, b, rows, m, w, rfl, hA, hB, hD, hR.walk, hz, hm, hw, fun H1 s1 => ⟨true, rfl, iteF (s_nx (pn ?_))⟩⟩))
    refine q_call (a1 vv) ⟨a, rows, m, rfl, hA.mono s1, hD, hz, hm, fun H2 p s2 np hp => ?_⟩
    refine q_asg fun d1 n1 => ?_
    refine q_asg fun d2 n2 => ?_
    have s3 : Same H (upd (upd H2 d1 (.dK [])) d2 (.dK [])) := ((s1.trans s2).trans (same_upd n1)).trans (same_upd n2)
    have hB3 := s3 _ _ hB
    have nd1 : H d1 = none := (s1.trans s2).free n1
    have nd2 : H d2 = none := ((s1.trans s2).trans (same_upd n1)).free n2
    have ne : d1 ≠ d2 := ne_of_none upd_same n2
    have np1 : p ≠ d1 := ne_of_none hp n1
    have np2 : p ≠ d2 := ne_of_none ((same_upd n1) _ _ hp) n2
    refine sq (s_forLn vv hB3 (fun i σ H' => ∃ y5, σ = [some (.ref a), some (.ref b), some (.ref p), some (.ref d1), some (.ref d2), y5] ∧ Same H H' ∧ LI H' p (seatL rows) ∧ H' d1 = some (.dK (kvm ((w.take i).map fun e => (seat rows e, V.bl true)))) ∧ H' d2 = some (.dK (kvm ((w.take i).map fun e => (e / 2, V.bl true)))))
      ⟨none, rfl, s3, ?_, ?_, upd_same⟩ (fun i σ H' _ h => ?_) (fun j x σ H' hj h => ?_) (fun σ H' h => ?_))
    · exact (upd_ne np2).trans ((upd_ne np1).trans hp)
    · exact (upd_ne ne).trans upd_same
    · obtain ⟨_, _, sm, _⟩ := h
      exact sm _ _ hB
    · obtain ⟨y5, rfl, sm, hp', e1, e2⟩ := h
      obtain ⟨e, he, rfl⟩ := vns_get' hj
      have hjl := (List.getElem?_eq_some_iff.mp he).1
      have hlt := hR.walk.1 e (List.mem_of_getElem? he)
      have hl1 : ((w.take j).map fun e => (seat rows e, V.bl true)).lookup (seat rows e) = none := lookup_none fun x hx z => by
        have nd := hR.places
        rw [← List.take_append_drop j w, List.map_append, List.nodup_append] at nd
        refine nd.2.2 (seat rows x) (List.mem_map.mpr ⟨x, hx, rfl⟩) (seat rows e) (List.mem_map.mpr ⟨e, ?_, rfl⟩) z
        exact List.mem_of_getElem? (i := 0) (by rw [List.getElem?_drop]; exact he)
      have hl2 : ((w.take j).map fun e => (e / 2, V.bl true)).lookup (e / 2) = none := lookup_none fun x hx z => by
        have nd := hR.ties
        rw [← List.take_append_drop j w, List.map_append, List.nodup_append] at nd
        refine nd.2.2 (x / 2) (List.mem_map.mpr ⟨x, hx, rfl⟩) (e / 2) (List.mem_map.mpr ⟨e, ?_, rfl⟩) z
        exact List.mem_of_getElem? (i := 0) (by rw [List.getElem?_drop]; exact he)
      have gs := seatL_get hD hlt
      have dv : (e : Int) / 2 = ((e / 2 : Nat) : Int) := by omega
      have len1 : ∀ {f : Nat → Nat × V}, (kvm ((w.take j).map f)).length < 1000000 := by
        intro f
        rw [kvm_len, List.length_map, List.length_take]
        omega
      refine q_no (ato (aor (aB (vdin (vixn vv vv gs hp') vv (by rw [valV_kvm, hl1]; all_goals rfl) e1)) fun _ => aB (vdin (vto (vdiv vv vc ⟨by decide, by decide⟩) (congrArg V.int dv)) vv (by rw [valV_kvm, hl2]; all_goals rfl) e2)) rfl) ?_
      refine q_dput vc vv (vixn vv vv gs hp') len1 e1 ?_
      rw [kvm_snoc _ hl1]
      refine s_dput vc vv (vto (vdiv vv vc ⟨by decide, by decide⟩) (congrArg V.int dv)) len1 ((upd_ne ne.symm).trans e2) (pn ?_)
      rw [kvm_snoc _ hl2]
      refine ⟨_, rfl, same_mut (same_mut sm nd1) nd2, (upd_ne np2).trans ((upd_ne np1).trans hp'), ?_, ?_⟩
      · rw [upd_ne ne, upd_same, take_succ_get he, List.map_append]; rfl
      · rw [upd_same, take_succ_get he, List.map_append]; rfl
    · obtain ⟨_, rfl, sm, _⟩ := h
      exact pn (s_ret vc (q H' sm))

theorem ok_ask_round {P : Program} {w : World} {K : PySem.W.Frag} {mg : Str → Option Value} {base : Heap} {fa : Nat → Addr} {fd : Nat → FuncData} (TX : Txt K mg fa fd) : FnOk P w K mg base CX0 5 (fa 13) (fd 13) ["drawing", "ends"] spAskRound := by
  refine TX.F_ask_round.ok sc_ask_round (fun vs H Q E h => ?_) (fun cdv A outer s H vs Q E hr h => ?_)
  · obtain ⟨a, b, rows, m, w, rfl, hA, hB, hD, hR, hz, hm, hw, q⟩ := h
    rfl
  · have nd := sc_ask_round.nd
    have hu := hu_of hr
    obtain ⟨a, b, rows, m, w, rfl, hA, hB, hD, hR, hz, hm, hw, q⟩ := h
    refine ⟨_, (pss_one (ps_if (pt_not (pt_val (pe_call (ok_is_round TX) (hr.mono (by decide)) (by rfl) TX.g_is_round TX.F_is_round.kp TX.B_is_round .nil pass0 (pa_cons (pv 0) (pa_cons (pv 1) pa_nil))))) (pss_one ps_never) pss_nil)), ?_⟩
    refine s_ifx (notcall (a2 vv vv) ⟨a, b, rows, m, w, rfl, hA, hB, hD, hR, hz, hm, hw, fun H1 s1 => ⟨true, rfl, iteF (s_nx (pn (q H1 s1)))⟩⟩)

end RF
namespace RF
open PySem PySem.Spec PyProof.Rows L2
/-! ### promises and defs: the cut -/
def spCut : Sp := fun vs H Q _ => ∃ a b rows m w, vs = [.ref a, .ref b] ∧ LR H a rows ∧ LI H b w ∧ Dr rows m ∧ IsRound rows m w ∧ rows.length ≤ 100000 ∧ m ≤ 100000 ∧ ∀ H' t c x y R, Same H H' → H' t = some (.tup [.ref c, x, y]) → LR H' c R → CutJ rows m w w.length R → Q (.ref t) H'
theorem ok_cut_along {P : Program} {w : World} {K : PySem.W.Frag} {mg : Str → Option Value} {base : Heap} {fa : Nat → Addr} {fd : Nat → FuncData} (TX : Txt K mg fa fd) : FnOk P w K mg base CX0 5 (fa 15) (fd 15) ["drawing", "turn"] spCut := by
  refine TX.F_cut_along.ok sc_cut_along (fun vs H Q E h => ?_) (fun cdv A outer s H vs Q E hr h => ?_)
  · obtain ⟨a, b, rows, m, w, rfl, hA, hB, hD, hR, hz, hm, q⟩ := h
    rfl
  · have nd := sc_cut_along.nd
    have hu := hu_of hr
    obtain ⟨a, b, rows, m, w, rfl, hA, hB, hD, hR, hz, hm, q⟩ := h
    refine ⟨_, (pss_cons (ps_if (pt_not (pt_val (pe_call (ok_is_round TX) (hr.mono (by decide)) (by rfl) TX.g_is_round TX.F_is_round.kp TX.B_is_round .nil pass0 (pa_cons (pv 0) (pa_cons (pv 1) pa_nil))))) (pss_one ps_never) pss_nil)
      (pss_cons (ps_set (i := 2) nd rfl (Or.inr rfl) (pe_call (ok_count_ends TX) (hr.mono (by decide)) (by rfl) TX.g_count_ends TX.F_count_ends.kp TX.B_count_ends .nil pass0 (pa_cons (pv 0) pa_nil)))
      (pss_cons (ps_set (i := 3) nd rfl (Or.inl rfl) (pe_call (ok_seats_of TX) (hr.mono (by decide)) (by rfl) TX.g_seats_of TX.F_seats_of.kp TX.B_seats_of .nil pass0 (pa_cons (pv 0) pa_nil)))
      (pss_cons (ps_setLc (i := 4) (own := [("row", 10)]) (g := gName 10) (tt := tYes) (by rfl) nd rfl rfl (sw_true rfl rfl rfl (by decide +kernel)) (pi_list (pv 0)) (blkOk_by (own := [("row", 10)]) (N := nm_cut_along) (sc := (defScope s_cut_along)) (by decide +kernel)) (fun _ _ _ _ _ => (pg_name (i := 10) nd rfl (Or.inl rfl))) (fun _ _ _ _ _ => pts_nil) (fun _ _ _ _ _ => (pe_callTy (call_list_ofK (K := K) rfl) (by rfl) TX.b_list (by decide +kernel) (pa_cons (pv 10) pa_nil))))
      (pss_cons (ps_for PassesOwn.never (by rfl) (pi_enum (by rfl) TX.b_enumerate (pa_cons (pv 1) pa_nil)) (pg_tup (by rfl) (pgs_cons (pg_name (i := 5) nd rfl (Or.inl rfl)) (pgs_cons (pg_name (i := 6) nd rfl (Or.inl rfl)) pgs_nil))) (pss_cons (ps_set (i := 7) nd rfl (Or.inl rfl) (pe_call (ok_begun_at TX) (hr.mono (by decide)) (by rfl) TX.g_begun_at TX.F_begun_at.kp TX.B_begun_at .nil pass0 (pa_cons (pe_ix ix_list (pv 0) (pe_ix ix_list (pv 3) (pv 6) (fun _ _ => rfl)) (fun _ _ => rfl)) (pa_cons (pe_call (ok_mate_of TX) (hr.mono (by decide)) (by rfl) TX.g_mate_of TX.F_mate_of.kp TX.B_mate_of .nil pass0 (pa_cons (pe_ix ix_list (pv 1) (pe_op op_sub (pv 5) pe_int) (fun _ _ => rfl)) pa_nil)) pa_nil))))
      (pss_cons (ps_set (i := 8) nd rfl (Or.inl rfl) (pe_bm PySem.F.plainAttrs_list PySem.F.slot_list_index PySem.F.type_list_index mt_index (pv 7) (pa_cons (pv 6) pa_nil)))
      (pss_cons (ps_asg (pe_call (ok_least_first TX) (hr.mono (by decide)) (by rfl) TX.g_least_first TX.F_least_first.kp TX.B_least_first .nil pass0 (pa_cons (pe_slice sl_list (pv 7) po_none (po_some (pe_op op_add (pv 8) pe_int))) pa_nil)) (pg_sub (pv 4) (pe_ix ix_list (pv 3) (pv 6) (fun _ _ => rfl)) set_list))
      (pss_cons (ps_set (i := 9) nd rfl (Or.inl rfl) (pe_op op_mod (pe_op op_sub (pv 5) pe_int) (pe_callB call_len_seq (by rfl) TX.b_len PySem.boot_len (pa_cons (pv 1) pa_nil))))
      (pss_one (ps_expr (pe_bm PySem.F.plainAttrs_list PySem.F.slot_list_append PySem.F.type_list_append mt_append (pv 4) (pa_cons (pe_call (ok_least_first TX) (hr.mono (by decide)) (by rfl) TX.g_least_first TX.F_least_first.kp TX.B_least_first .nil pass0 (pa_cons (pe_op op_cat (pe_op op_cat (pe_lst (pa_cons (pe_op op_add (pv 2) (pe_op op_mul pe_int (pv 5))) pa_nil)) (pe_slice sl_list (pv 7) (po_some (pe_op op_add (pv 8) pe_int)) po_none)) (pe_lst (pa_cons (pe_op op_add (pe_op op_add (pv 2) (pe_op op_mul pe_int (pv 9))) pe_int) pa_nil))) pa_nil)) pa_nil)))))))))
      (pss_one (ps_ret (pe_tup (pa_cons (pv 4) (pa_cons (pe_callTy call_list_of (by rfl) TX.b_list (by decide +kernel) (pa_cons (pv 1) pa_nil)) (pa_cons (pe_lc (own := [("at", 5)]) (g := gName 5) (tt := tYes) (by rfl) nd (pi_range1 (by rfl) TX.b_range (pa_cons (pe_callB call_len_seq (by rfl) TX.b_len PySem.boot_len (pa_cons (pv 1) pa_nil)) pa_nil)) (blkOk_by (own := [("at", 5)]) (N := nm_cut_along) (sc := (defScope s_cut_along)) (by decide +kernel)) (fun _ _ _ _ _ => (pg_name (i := 5) nd rfl (Or.inl rfl))) (fun _ _ _ _ _ => pts_nil) (fun _ _ _ _ _ => (pe_op op_add (pv 2) (pe_op op_mul pe_int (pv 5))))) pa_nil))))))))))), ?_⟩
    have hw : w.length ≤ 100000 := Nat.le_trans (round_len hD hR) hz
    refine q_ifx (notcall (a2 vv vv) ⟨a, b, rows, m, w, rfl, hA, hB, hD, hR, by omega, by omega, by omega, fun H1 s1 => ⟨true, rfl, iteF (s_nx (pn ?_))⟩⟩)
    refine q_call (a1 vv) ⟨a, rows, rfl, hA.mono s1, by omega, fun H2 s2 => ?_⟩
    refine q_call (a1 vv) ⟨a, rows, m, rfl, hA.mono (s1.trans s2), hD, by omega, by omega, fun H3 p s3 np hp => ?_⟩
    have s13 := (s1.trans s2).trans s3
    obtain ⟨rs, ha, hx⟩ := hA.mono s13
    -- rows = [list(row) for row in drawing]
    refine q_asg (ex_lcO (ys := rows) vv ha (fun _ => rfl) (by rw [List.length_map, hx.1]) (by rw [List.length_map, hx.1]; omega) (fun j x y H' e1 e2 s Q' q' => ?_) fun H4 c s4 nc hc => ?_)
    · obtain ⟨r, hr, rfl⟩ := ref_get' e1
      have hl := s _ _ (hx.2 j r y hr e2)
      exact ex_listof vv hl fun l nl => q' _ l (same_upd nl) nl upd_same
    have s14 := s13.trans s4
    have nc0 : H c = none := s13.free nc
    obtain ⟨cs, hc1, hc2⟩ := hc
    rw [hD.len]
    -- for at, out in enumerate(turn)
    refine sq (s_forE (a1 vv) (s14 _ _ hB) (fun j σ H' => ∃ y5 y6 y7 y8 y9 R rs', σ = [some (.ref a), some (.ref b), some (vn (2 * m)), some (.ref p), some (.ref c), y5, y6, y7, y8, y9, none] ∧ Same H H' ∧ LI H' p (seatL rows) ∧ H' c = some (.lst (rs'.map V.ref)) ∧ LX H' rs' R ∧ CutJ rows m w j R)
      ⟨none, none, none, none, none, rows, cs, rfl, s14, s4 _ _ hp, hc1, hc2, ⟨rfl, fun p hp _ => row_get hp, fun i hi => absurd hi (Nat.not_lt_zero _), fun i hi => absurd hi (Nat.not_lt_zero _)⟩⟩ (fun i σ H' _ h => ?_) (fun j x σ H' H5 hj h s => ?_) (fun σ H' h => ?_))
    · obtain ⟨_, _, _, _, _, _, _, _, sm, _⟩ := h
      exact sm _ _ hB
    · obtain ⟨y5, y6, y7, y8, y9, R, rs', rfl, sm, hp', hc', hX, hJ⟩ := h
      obtain ⟨e, he, rfl⟩ := vns_get' hj
      have hjl := (List.getElem?_eq_some_iff.mp he).1
      have eD : w.getD j 0 = e := getD_get he
      have hlt : e < 2 * m := by rw [← eD]; exact hR.lt hjl
      have gs := seatL_get hD hlt
      have hsl := seat_lt hD hlt
      have sm5 := sm.trans s
      have hB5 := sm5 _ _ hB
      have hp5 := s _ _ hp'
      obtain ⟨rs0, ha5, hx5⟩ := hA.mono sm5
      obtain ⟨r0, hr0, hl0⟩ := hx5.get (row_get hsl)
      have hrl : (row rows (seat rows e)).length ≤ 2 * m := by
        have nd := row_nodup hD.nd (row_get hsl)
        have := nodup_sub_len (l₂ := List.range (2 * m)) nd fun x hx => List.mem_range.mpr (row_end hD hx).1
        rw [List.length_range] at this
        exact this
      have hcm : mate (prv w j) ∈ row rows (seat rows e) := by rw [← eD]; exact come_mem hD hR hjl
      -- ring = begun_at(drawing[home[out]], mate_of(turn[at - 1]))
      refine q_call (a2 (vixr vv (vixn vv vv gs hp5) hr0 ha5) (vmate (vix vv (vsub vv vc) (prev_at hjl) hB5))) ⟨r0, row rows (seat rows e), mate (prv w j), rfl, hl0, hcm, by omega, fun H6 pr s6 npr hpr => ?_⟩
      have hring : LI H6 pr (ringAt rows w j) := by
        unfold ringAt
        rw [eD]
        exact hpr
      have hrm : e ∈ ringAt rows w j := by
        have := ring_mem hD hR hjl
        rw [eD] at this
        exact this
      have hrlen : (ringAt rows w j).length ≤ 2 * m := by
        rw [(ring_perm rows w j).length_eq, eD]
        exact hrl
      have eix : (ringAt rows w j).idxOf e = cutIx rows w j := by unfold cutIx; rw [eD]
      have hix : cutIx rows w j < (ringAt rows w j).length := by rw [← eix]; exact List.idxOf_lt_length_iff.mpr hrm
      -- cut = ring.index(out)
      refine q_set (v := vn (cutIx rows w j)) (vindex vv vv (by rw [← eix]; exact idx_get hrm) (fun k hk => idx_no (by rw [eix]; exact hk)) hring) ?_
      have s56 := s6
      -- rows[home[out]] = least_first(ring[:cut + 1])
      refine sq (ex_callc (ex_cons (ex_take vv (vaddn vv (vcn 1)) hring (by rw [vns_len]; omega) fun q1 n1 => ex_nil ?_)))
      have hq1 : LI (upd H6 q1 (.lst ((vns (ringAt rows w j)).take (cutIx rows w j + 1)))) q1 (cutL rows w j) := by
        show upd _ _ _ _ = some (HO.lst (List.map vn (List.take _ _)))
        rw [upd_same, List.map_take]
      refine ⟨q1, cutL rows w j, rfl, hq1, by unfold cutL; rw [List.length_take]; omega, fun H7 l1 k1 s7 nl1 hk1 hl1 => ?_⟩
      have s67 : Same H6 H7 := (same_upd n1).trans s7
      have s57 : Same H5 H7 := s6.trans s67
      have nl1' : H5 l1 = none := (s6.trans (same_upd n1)).free nl1
      have hc7 := s57 _ _ (s _ _ hc')
      have hl1c : l1 ≠ c := fun z => by rw [z] at nl1'; rw [s _ _ hc'] at nl1'; cases nl1'
      have hrs' : rs'.length = rows.length + j := by rw [hX.1, hJ.len]
      refine vv (i := 4) rfl _ ((vixn vv vv gs (s57 _ _ hp5)) _ (setL_n (j := seat rows e) hc7 (by rw [List.length_map, hrs']; omega) (pn ?_)))
      rw [ref_set]
      have sm7 : Same H H7 := sm5.trans s57
      -- before = (at - 1) % len(turn)
      have sm8 : Same H (upd H7 c (.lst ((rs'.set (seat rows e) l1).map V.ref))) := same_mut sm7 nc0
      refine q_set (v := vn ((j + (w.length - 1)) % w.length)) (vto (vmod (vsub vv vc) (vlen vv (vns_len w) (sm8 _ _ hB)) (by show (0 : Int) < _; omega)) (congrArg V.int (prev_mod j w.length (by omega)))) ?_
      have nring : pr ≠ c := fun z => by
        have := s _ _ hc'
        rw [← z] at this
        rw [this] at npr
        cases npr
      have hring8 : LI (upd H7 c (.lst ((rs'.set (seat rows e) l1).map V.ref))) pr (ringAt rows w j) := (upd_ne nring).trans (s67 _ _ hring)
      have hc8 : (upd H7 c (.lst ((rs'.set (seat rows e) l1).map V.ref))) c = some (.lst ((rs'.set (seat rows e) l1).map V.ref)) := upd_same
      -- rows.append(least_first([ends + 2 * at] + ring[cut + 1:] + [ends + 2 * before + 1]))
      revert hring8 hc8 sm8
      have hX8 : LX (upd H7 c (.lst ((rs'.set (seat rows e) l1).map V.ref))) (rs'.set (seat rows e) l1) (R.set (seat rows e) ((cutL rows w j).drop k1 ++ (cutL rows w j).take k1)) := by
        refine LX.set ⟨hX.1, fun k r' w' e1 e2 => ?_⟩ _ ((upd_ne hl1c).trans hl1)
        have h7 := s57 _ _ (s _ _ (hX.2 k r' w' e1 e2))
        by_cases z : r' = c
        · rw [z] at h7
          have := HO.lst.inj (Option.some.inj (hc7.symm.trans h7))
          cases rs' with
          | nil => simp at e1
          | cons r0 rr =>
            cases w' with
            | nil => simp at this
            | cons w0 wr => simp [vn] at this
        · exact (upd_ne z).trans h7
      have hp8 : LI (upd H7 c (.lst ((rs'.set (seat rows e) l1).map V.ref))) p (seatL rows) := (upd_ne (fun z => by
        have h7 := s57 _ _ hp5
        rw [z] at h7
        have := HO.lst.inj (Option.some.inj (hc7.symm.trans h7))
        have hl : (rs'.map V.ref).length = (seatL rows).length := by rw [this, vns_len]
        cases rs' with
        | nil => simp at hrs'; omega
        | cons r0 rr =>
          cases hs : seatL rows with
          | nil => rw [hs] at this; simp at this
          | cons w0 wr => rw [hs] at this; simp [vn] at this)).trans (s57 _ _ hp5)
      revert hX8 hp8
      generalize upd H7 c (.lst ((rs'.set (seat rows e) l1).map V.ref)) = H8
      intro hX8 hp8 sm8 hring8 hc8
      refine s_appx vv hc8 (ex_callc (ex_cons (ex_opx (ex_opx (ex_lst (a1 (vaddn vv (vmuln (vcn 2) vv (.inl (by decide))))) (by show 1 ≤ sizeLine; decide) fun g1 ng1 => ?_)))))
      have s9 := same_upd (o := HO.lst [vn (2 * m + 2 * j)]) ng1
      refine ex_drop vv (vaddn vv (vcn 1)) (s9 _ _ hring8) (by rw [vns_len]; omega) fun g2 ng2 => ?_
      have s10 := same_upd (o := HO.lst ((vns (ringAt rows w j)).drop (cutIx rows w j + 1))) ng2
      refine cat_n (s10 _ _ upd_same) upd_same (by rw [List.length_drop, vns_len, List.length_singleton]; omega) fun g3 ng3 => ?_
      have s11 := same_upd (o := HO.lst ([vn (2 * m + 2 * j)] ++ (vns (ringAt rows w j)).drop (cutIx rows w j + 1))) ng3
      refine ex_lst (a1 (vaddn (vaddn vv (vmuln (vcn 2) vv (.inl (by decide)))) (vcn 1))) (by show 1 ≤ sizeLine; decide) fun g4 ng4 => ?_
      have s12 := same_upd (o := HO.lst [vn (2 * m + 2 * ((j + (w.length - 1)) % w.length) + 1)]) ng4
      refine cat_n (s12 _ _ upd_same) upd_same (by rw [List.length_append, List.length_drop, vns_len, List.length_singleton, List.length_singleton]; omega) fun g5 ng5 => ex_nil ?_
      have s13' := same_upd (o := HO.lst ([vn (2 * m + 2 * j)] ++ (vns (ringAt rows w j)).drop (cutIx rows w j + 1) ++ [vn (2 * m + 2 * ((j + (w.length - 1)) % w.length) + 1)])) ng5
      have s813 := (((s9.trans s10).trans s11).trans s12).trans s13'
      have hg5 : ([vn (2 * m + 2 * j)] ++ (vns (ringAt rows w j)).drop (cutIx rows w j + 1) ++ [vn (2 * m + 2 * ((j + (w.length - 1)) % w.length) + 1)]) = vns (cutR rows m w j) := by
        show _ = List.map vn ([2 * m + 2 * j] ++ (ringAt rows w j).drop (cutIx rows w j + 1) ++ [2 * m + 2 * ((j + (w.length - 1)) % w.length) + 1])
        rw [List.map_append, List.map_append, List.map_drop]
        rfl
      rw [hg5] at s813 ⊢
      refine ⟨g5, cutR rows m w j, rfl, upd_same, by unfold cutR; rw [List.length_append, List.length_append, List.length_drop, List.length_singleton, List.length_singleton]; omega, fun H9 l2 k2 s14' nl2 hk2 hl2 => ?_⟩
      have s89 : Same H8 H9 := s813.trans s14'
      have nl2' : H8 l2 = none := s813.free nl2
      have hl2c : l2 ≠ c := fun z => by rw [z, hc8] at nl2'; cases nl2'
      refine app_n (s89 _ _ hc8) (by rw [List.length_map, List.length_set, hrs']; omega) (pn ?_)
      refine ⟨_, _, _, _, _, R.set (seat rows e) ((cutL rows w j).drop k1 ++ (cutL rows w j).take k1) ++ [(cutR rows m w j).drop k2 ++ (cutR rows m w j).take k2], (rs'.set (seat rows e) l1) ++ [l2], rfl, same_mut (sm8.trans s89) nc0, ?_, ?_, ?_, ?_⟩
      · refine (upd_ne fun z => ?_).trans (s89 _ _ hp8)
        rw [z] at hp8
        have := HO.lst.inj (Option.some.inj (hc8.symm.trans hp8))
        cases hrr : rs'.set (seat rows e) l1 with
        | nil =>
          have := congrArg List.length hrr
          rw [List.length_set, hrs', List.length_nil] at this
          omega
        | cons r0 rr =>
          rw [hrr] at this
          cases hs : seatL rows with
          | nil => rw [hs] at this; simp at this
          | cons w0 wr => rw [hs] at this; simp [vn] at this
      · rw [upd_same, ref_snoc]
      · refine LX.snoc ⟨hX8.1, fun k r' w' e1 e2 => ?_⟩ ((upd_ne hl2c).trans hl2)
        have h9 := s89 _ _ (hX8.2 k r' w' e1 e2)
        by_cases z : r' = c
        · rw [z] at h9
          have := HO.lst.inj (Option.some.inj ((s89 _ _ hc8).symm.trans h9))
          cases hrr : rs'.set (seat rows e) l1 with
          | nil => rw [hrr] at e1; simp at e1
          | cons r0 rr =>
            rw [hrr] at this
            cases w' with
            | nil => simp at this
            | cons w0 wr => simp [vn] at this
        · exact (upd_ne z).trans h9
      · rw [← eD]
        exact hJ.step hD hR hjl (rot_perm _ _) (rot_perm _ _)
    · obtain ⟨y5, y6, y7, y8, y9, R, rs', rfl, sm, hp', hc', hX, hJ⟩ := h
      rw [vns_len] at hJ
      have hB' := sm _ _ hB
      refine pn (s_retx ?_)
      refine ex_tupx (ex_cv vv ?_)
      refine ex_cons (ex_listof vv hB' fun l nl => ?_)
      have s1' := same_upd (o := HO.lst (vns w)) nl
      refine ex_cons ?_
      refine ex_lcR (n := w.length) (ys := (List.range w.length).map fun i => vn (2 * m + 2 * i)) (a1 (vlen vv (vns_len w) (s1' _ _ hB'))) (by omega) (fun _ => rfl) (by rw [List.length_map, List.length_range]) (fun i y H2 e1 s => ?_) fun p2 np2 => ex_nil ?_
      · have hi : i < w.length := by
          have := (List.getElem?_eq_some_iff.mp e1).1
          rw [List.length_map, List.length_range] at this
          exact this
        rw [List.getElem?_map, List.getElem?_range hi] at e1
        cases Option.some.inj e1
        exact vaddn vv (vmuln (vcn 2) vv (.inl (by decide)))
      · refine ⟨by show 3 ≤ sizeLine; decide, fun t nt => ?_⟩
        have s2' := same_upd (o := HO.lst ((List.range w.length).map fun i => vn (2 * m + 2 * i))) np2
        have s3' := same_upd (o := HO.tup [.ref c, .ref l, .ref p2]) nt
        have sAll := (s1'.trans s2').trans s3'
        exact q _ t c _ _ R (sm.trans sAll) upd_same ⟨rs', sAll _ _ hc', hX.mono sAll⟩ hJ

end RF
namespace RF
open PySem PySem.Spec PyProof.Rows L2
/-! ### promises and defs: lands -/
def LB (H : Hp) (a : Addr) (N : Nat) (g : Nat → Bool) : Prop := H a = some (.lst ((List.range N).map fun x => V.bl (g x)))
theorem bools_get {N x : Nat} (g : Nat → Bool) (h : x < N) : ((List.range N).map fun x => V.bl (g x))[x]? = some (V.bl (g x)) := by
  rw [List.getElem?_map, List.getElem?_range h]; rfl
theorem bools_set {N k : Nat} (g : Nat → Bool) (b : Bool) : ((List.range N).map fun x => V.bl (g x)).set k (V.bl b) = (List.range N).map (fun x => V.bl (if x = k then b else g x)) := by
  apply List.ext_getElem?
  intro i
  rw [List.getElem?_set]
  by_cases hi : i < N
  · rw [List.getElem?_map, List.getElem?_range hi, List.getElem?_map, List.getElem?_range hi]
    by_cases e : k = i
    · subst e
      rw [if_pos rfl, if_pos (by rw [List.length_map, List.length_range]; exact hi)]
      simp
    · rw [if_neg e]
      simp [Ne.symm e]
  · rw [List.getElem?_eq_none (l := (List.range N).map fun x => V.bl (g x)) (by rw [List.length_map, List.length_range]; omega), List.getElem?_eq_none (l := (List.range N).map _) (by rw [List.length_map, List.length_range]; omega), List.length_map, List.length_range]
    split
    · rw [if_neg (by omega)]
    · rfl
theorem bools_rep (n : Nat) (b : Bool) : List.replicate n (V.bl b) = (List.range n).map fun _ => V.bl b := by
  apply List.ext_getElem?
  intro i
  rw [List.getElem?_replicate, List.getElem?_map]
  by_cases h : i < n
  · rw [if_pos h, List.getElem?_range h]; rfl
  · rw [if_neg h, List.getElem?_eq_none (by rw [List.length_range]; omega)]; rfl
theorem LX.off {H : Hp} {rs : List Addr} {rows : List (List Nat)} {p : Addr} {o : HO} (h : LX H rs rows) (n : ∀ r ∈ rs, r ≠ p) : LX (upd H p o) rs rows := ⟨h.1, fun i r row e1 e2 => (upd_ne (n r (List.mem_of_getElem? e1))).trans (h.2 i r row e1 e2)⟩
theorem snocP {rs : List Addr} {P : Addr → Prop} {l : Addr} (n : ∀ r ∈ rs, P r) (h : P l) : ∀ r ∈ rs ++ [l], P r := fun r hr => by
  rcases List.mem_append.mp hr with z | z
  · exact n r z
  · cases List.mem_singleton.mp z
    exact h
/-- a list of lists, its lists new since H0 -/
def FR (H0 H : Hp) (a : Addr) (rows : List (List Nat)) : Prop := ∃ rs : List Addr, H a = some (.lst (rs.map V.ref)) ∧ LX H rs rows ∧ ∀ r ∈ rs, H0 r = none
theorem FR.lr {H0 H : Hp} {a : Addr} {rows : List (List Nat)} (h : FR H0 H a rows) : LR H a rows := let ⟨rs, e, x, _⟩ := h; ⟨rs, e, x⟩
theorem len0 (l : List Nat) : ((l.length : Int) = 0) ↔ l = [] := by
  cases l with
  | nil => simp
  | cons x r => simp; omega
def spLands : Sp := fun vs H Q _ => ∃ a rows m, vs = [.ref a] ∧ LR H a rows ∧ Dr rows m ∧ rows.length ≤ 100000 ∧ m ≤ 100000 ∧ ∀ H' p, Same H H' → H p = none → FR H H' p (landsF rows) → Q (.ref p) H'
theorem ok_lands_of {P : Program} {w : World} {K : PySem.W.Frag} {mg : Str → Option Value} {base : Heap} {fa : Nat → Addr} {fd : Nat → FuncData} (TX : Txt K mg fa fd) : FnOk P w K mg base CX0 3 (fa 17) (fd 17) ["drawing"] spLands := by
  refine TX.F_lands_of.ok sc_lands_of (fun vs H Q E h => ?_) (fun cdv A outer s H vs Q E hr h => ?_)
  · obtain ⟨a, rows, m, rfl, hA, hD, hz, hm, q⟩ := h
    rfl
  · have nd := sc_lands_of.nd
    have hu := hu_of hr
    obtain ⟨a, rows, m, rfl, hA, hD, hz, hm, q⟩ := h
    refine ⟨_, (pss_cons (ps_set (i := 1) nd rfl (Or.inl rfl) (pe_call (ok_behind_of TX) (hr.mono (by decide)) (by rfl) TX.g_behind_of TX.F_behind_of.kp TX.B_behind_of .nil pass0 (pa_cons (pv 0) pa_nil)))
      (pss_cons (ps_set (i := 2) nd rfl (Or.inl rfl) (pe_op op_rep (pe_lst (pa_cons pe_bl pa_nil)) (pe_callB call_len_seq (by rfl) TX.b_len PySem.boot_len (pa_cons (pv 1) pa_nil))))
      (pss_cons (ps_set (i := 3) nd rfl (Or.inl rfl) (pe_lst pa_nil))
      (pss_cons (ps_for PassesOwn.never (by rfl) (pi_range1 (by rfl) TX.b_range (pa_cons (pe_callB call_len_seq (by rfl) TX.b_len PySem.boot_len (pa_cons (pv 1) pa_nil)) pa_nil)) (pg_name (i := 4) nd rfl (Or.inl rfl)) (pss_cons (ps_if (pt_val (pe_ix ix_list (pv 2) (pv 4) (fun _ _ => rfl))) (pss_one ps_continue) pss_nil)
      (pss_cons (ps_set (i := 5) nd rfl (Or.inl rfl) (pe_lst pa_nil))
      (pss_cons (ps_set (i := 6) nd rfl (Or.inl rfl) (pv 4))
      (pss_cons (ps_while PassesOwn.never (pt_not (pt_val (pe_ix ix_list (pv 2) (pv 6) (fun _ _ => rfl)))) (pss_cons (ps_asg pe_bl (pg_sub (pv 2) (pv 6) set_list))
      (pss_cons (ps_expr (pe_bm PySem.F.plainAttrs_list PySem.F.slot_list_append PySem.F.type_list_append mt_append (pv 5) (pa_cons (pv 6) pa_nil)))
      (pss_one (ps_set (i := 6) nd rfl (Or.inl rfl) (pe_ix ix_list (pv 1) (pe_call (ok_mate_of TX) (hr.mono (by decide)) (by rfl) TX.g_mate_of TX.F_mate_of.kp TX.B_mate_of .nil pass0 (pa_cons (pv 6) pa_nil)) (fun _ _ => rfl)))))))
      (pss_one (ps_expr (pe_bm PySem.F.plainAttrs_list PySem.F.slot_list_append PySem.F.type_list_append mt_append (pv 3) (pa_cons (pv 5) pa_nil)))))))))
      (pss_cons (ps_for PassesOwn.never (by rfl) (pi_list (pv 0)) (pg_name (i := 7) nd rfl (Or.inl rfl)) (pss_one (ps_if (pt_cmpR op_eq (pe_callB call_len_seq (by rfl) TX.b_len PySem.boot_len (pa_cons (pv 7) pa_nil)) pe_int (nomark _)) (pss_one (ps_expr (pe_bm PySem.F.plainAttrs_list PySem.F.slot_list_append PySem.F.type_list_append mt_append (pv 3) (pa_cons (pe_lst pa_nil) pa_nil)))) pss_nil)))
      (pss_one (ps_ret (pv 3)))))))), ?_⟩
    refine q_call (a1 vv) ⟨a, rows, m, rfl, hA, hD, by omega, by omega, fun H1 b s1 nb hb => ?_⟩
    have hbl : (vns (behL rows)).length = 2 * m := by rw [vns_len, behL_len hD]
    -- seen = [False] * len(behind)
    refine q_asg (ex_rep (x := .bl false) vc fun p hp => ex (vlen vv hbl (same_upd hp _ _ hb)) (rep_n upd_same (by omega) fun sn nsn => ?_))
    have s2 : Same H1 (upd (upd H1 p (.lst [.bl false])) sn (.lst (List.replicate (2 * m) (.bl false)))) := (same_upd hp).trans (same_upd nsn)
    have nbs : b ≠ sn := ne_of_none ((same_upd hp) _ _ hb) nsn
    have nsn0 : H sn = none := s1.free ((same_upd hp).free nsn)
    have hsn : (upd (upd H1 p (.lst [.bl false])) sn (.lst (List.replicate (2 * m) (.bl false)))) sn = some (.lst ((List.range (2 * m)).map fun x => V.bl (decide (x ∈ (lgo (phi rows) (2 * m) 0).1)))) := by
      rw [upd_same, bools_rep]; rfl
    revert s2 hsn
    generalize upd (upd H1 p (.lst [.bl false])) sn (.lst (List.replicate (2 * m) (.bl false))) = H2
    intro s2 hsn
    -- lands = []
    refine q_asg (ex_lst a0 (Nat.zero_le _) fun c nc => ?_)
    have s3 : Same H2 (upd H2 c (.lst [])) := same_upd nc
    have nc0 : H c = none := (s1.trans s2).free nc
    have nbc : b ≠ c := ne_of_none (s2 _ _ hb) nc
    have ncs : c ≠ sn := fun z => by rw [z, hsn] at nc; cases nc
    refine sq (s_forR1 (n := 2 * m) (a1 (vlen vv hbl ((s2.trans s3) _ _ hb))) (by omega) (fun j σ H' => ∃ y4 y5 y6 y7 rs, σ = [some (.ref a), some (.ref b), some (.ref sn), some (.ref c), y4, y5, y6, y7] ∧ Same H H' ∧ LI H' b (behL rows) ∧ LB H' sn (2 * m) (fun x => decide (x ∈ (lgo (phi rows) (2 * m) j).1)) ∧ H' c = some (.lst (rs.map V.ref)) ∧ LX H' rs (lgo (phi rows) (2 * m) j).2 ∧ (∀ r ∈ rs, r ≠ sn ∧ r ≠ c ∧ H r = none) ∧ rs.length ≤ j)
      ⟨none, none, none, none, [], rfl, (s1.trans s2).trans s3, (s2.trans s3) _ _ hb, s3 _ _ hsn, upd_same, LX.nil, fun r hr => (by cases hr), Nat.le_refl _⟩ (fun j σ H' hj h => ?_) (fun σ H' h => ?_))
    · obtain ⟨y4, y5, y6, y7, rs, rfl, sm, hb', hs', hc', hX, hn, hrl⟩ := h
      have hlok := lok (f := phi rows) (N := 2 * m) (fun x hx => phi_lt hD hx) j (by omega)
      refine q_if (aB (vix vv vv (atI_nat (bools_get _ hj)) hs')) (fun e => s_ct (pc ⟨_, _, _, _, rs, rfl, sm, hb', ?_, hc', ?_, hn, by omega⟩)) (fun e => s_nx (pn ?_))
      · rw [lgo_succ]; unfold lstep; rw [if_pos (of_decide_eq_true e)]; exact hs'
      · rw [lgo_succ]; unfold lstep; rw [if_pos (of_decide_eq_true e)]; exact hX
      have hjn : j ∉ (lgo (phi rows) (2 * m) j).1 := of_decide_eq_false e
      -- land = []; end = start
      refine q_asg (ex_lst a0 (Nat.zero_le _) fun l nl => ?_)
      have s4 : Same H' (upd H' l (.lst [])) := same_upd nl
      have nl0 : H l = none := sm.free nl
      have nls : l ≠ sn := fun z => by rw [z] at nl; unfold LB at hs'; rw [hs'] at nl; cases nl
      have nlc : l ≠ c := fun z => by rw [z, hc'] at nl; cases nl
      have nlb : l ≠ b := fun z => by rw [z] at nl; rw [hb'] at nl; cases nl
      have nlr : ∀ r ∈ rs, r ≠ l := fun r hr z => by
        obtain ⟨i, hi⟩ := List.getElem?_of_mem hr
        have hi' := (List.getElem?_eq_some_iff.mp hi).1
        have := hX.2 i r _ hi (row_get (by rw [← hX.1]; exact hi'))
        rw [z] at this
        rw [this] at nl
        cases nl
      refine q_set vv ?_
      -- while not seen[end]
      refine sq (s_while (fun k σ H'' => ∃ e lw, σ = [some (.ref a), some (.ref b), some (.ref sn), some (.ref c), some (vn j), some (.ref l), some (vn e), y7] ∧ Same H H'' ∧ LI H'' b (behL rows) ∧ LB H'' sn (2 * m) (fun x => decide (x ∈ lw.reverse ++ (lgo (phi rows) (2 * m) j).1)) ∧ H'' c = some (.lst (rs.map V.ref)) ∧ LX H'' rs (lgo (phi rows) (2 * m) j).2 ∧ LI H'' l lw ∧ e < 2 * m ∧
          lw ++ fwalk (phi rows) k (lw.reverse ++ (lgo (phi rows) (2 * m) j).1) e = fwalk (phi rows) (2 * m) (lgo (phi rows) (2 * m) j).1 j ∧ (lw.reverse ++ (lgo (phi rows) (2 * m) j).1).Nodup ∧ (∀ x ∈ lw.reverse ++ (lgo (phi rows) (2 * m) j).1, x < 2 * m) ∧ k + lw.length = 2 * m)
        (2 * m) ⟨j, [], rfl, sm.trans s4, s4 _ _ hb', s4 _ _ hs', s4 _ _ hc', hX.mono s4, upd_same, hj, rfl, hlok.nd, hlok.lt, rfl⟩ (fun k σ H5 h => ?_))
      obtain ⟨e1, lw, rfl, sm5, hb5, hs5, hc5, hX5, hl5, he5, hf5, hn5, hlt5, hk5⟩ := h
      refine ⟨_, anot (aB (vix vv vv (atI_nat (bools_get _ he5)) hs5)), fun hno => ?_, fun hyes => ?_⟩
      · have hnm : e1 ∉ lw.reverse ++ (lgo (phi rows) (2 * m) j).1 := fun z => by
          rw [decide_eq_true z] at hno
          cases hno
        have hcnt := nodup_sub_len (l₂ := List.range (2 * m)) (List.nodup_cons.mpr ⟨hnm, hn5⟩) fun x hx => by
          rcases List.mem_cons.mp hx with rfl | hx
          · exact List.mem_range.mpr he5
          · exact List.mem_range.mpr (hlt5 x hx)
        rw [List.length_cons, List.length_append, List.length_reverse, List.length_range] at hcnt
        obtain ⟨k', rfl⟩ : ∃ k', k = k' + 1 := ⟨k - 1, by omega⟩
        rw [fwalk_step _ _ hnm] at hf5
        refine q_setL (j := e1) (v := .bl true) vc vv vv hs5 (by rw [List.length_map, List.length_range]; exact he5) ?_
        refine q_app vv vv ((upd_ne nls).trans hl5) (by rw [vns_len]; omega) ?_
        refine s_set (v := vn (phi rows e1)) (vixn vv (vmate vv) (behL_get hD (mate_lt he5)) ((upd_ne nlb.symm).trans ((upd_ne nbs).trans hb5))) (pn ⟨k', Nat.lt_succ_self k', phi rows e1, lw ++ [e1], rfl, same_mut (same_mut sm5 nsn0) nl0, (upd_ne nlb.symm).trans ((upd_ne nbs).trans hb5), ?_, (upd_ne (fun z => nlc z.symm)).trans ((upd_ne ncs).trans hc5), (hX5.off fun r hr => (hn r hr).1).off nlr, ?_, phi_lt hD he5, ?_, ?_, ?_, ?_⟩)
        · refine (upd_ne nls.symm).trans ?_
          rw [upd_same, bools_set]
          refine congrArg some (congrArg HO.lst (List.map_congr_left fun x _ => congrArg V.bl ?_))
          rw [List.reverse_append]
          show (if x = e1 then true else decide (x ∈ lw.reverse ++ (lgo (phi rows) (2 * m) j).1)) = decide (x ∈ e1 :: (lw.reverse ++ (lgo (phi rows) (2 * m) j).1))
          by_cases z : x = e1
          · rw [if_pos z, decide_eq_true (by rw [z]; exact List.mem_cons_self)]
          · rw [if_neg z]
            refine decide_eq_decide.mpr ⟨fun h => List.mem_cons_of_mem _ h, fun h => ?_⟩
            rcases List.mem_cons.mp h with h | h
            · exact absurd h z
            · exact h
        · refine upd_same.trans ?_
          show _ = some (HO.lst (List.map vn (lw ++ [e1])))
          rw [List.map_append]; rfl
        · rw [List.reverse_append]
          show lw ++ [e1] ++ fwalk (phi rows) k' (e1 :: (lw.reverse ++ _)) (phi rows e1) = _
          rw [← hf5, List.append_assoc]
          rfl
        · rw [List.reverse_append]
          exact List.nodup_cons.mpr ⟨hnm, hn5⟩
        · rw [List.reverse_append]
          intro x hx
          rcases List.mem_cons.mp hx with rfl | hx
          · exact he5
          · exact hlt5 x hx
        · rw [List.length_append, List.length_singleton]; omega
      · have hm' : e1 ∈ lw.reverse ++ (lgo (phi rows) (2 * m) j).1 := Classical.byContradiction fun z => by
          rw [decide_eq_false z] at hyes
          cases hyes
        rw [fwalk_mem _ _ hm', List.append_nil] at hf5
        subst hf5
        refine pn (s_app vv vv hc5 (by rw [List.length_map]; omega) (pn ⟨_, _, _, _, rs ++ [l], rfl, same_mut sm5 nc0, (upd_ne nbc).trans hb5, ?_, by rw [upd_same, ref_snoc], ?_, snocP hn ⟨nls, nlc, nl0⟩, by rw [List.length_append, List.length_singleton]; omega⟩))
        · refine (upd_ne ncs.symm).trans ?_
          rw [lgo_succ]; unfold lstep; rw [if_neg hjn]
          exact hs5
        · rw [lgo_succ]; unfold lstep; rw [if_neg hjn]
          exact (hX5.off fun r hr => (hn r hr).2.1).snoc ((upd_ne nlc).trans hl5)
    · obtain ⟨y4, y5, y6, y7, rs, rfl, sm, hb', hs', hc', hX, hn, hrl⟩ := h
      obtain ⟨as, ha, hxa⟩ := hA
      -- for row in drawing: if len(row) == 0: lands.append([])
      refine pn (sq (s_forLn vv (sm _ _ ha) (fun i σ H' => ∃ y7 rs', σ = [some (.ref a), some (.ref b), some (.ref sn), some (.ref c), y4, y5, y6, y7] ∧ Same H H' ∧ LB H' sn (2 * m) (fun x => decide (x ∈ (lgo (phi rows) (2 * m) (2 * m)).1)) ∧ H' c = some (.lst (rs'.map V.ref)) ∧ LX H' rs' ((lgo (phi rows) (2 * m) (2 * m)).2 ++ bares (rows.take i)) ∧ (∀ r ∈ rs', r ≠ sn ∧ r ≠ c ∧ H r = none) ∧ rs'.length ≤ 2 * m + i)
        ⟨_, rs, rfl, sm, hs', hc', by simpa [bares] using hX, hn, by omega⟩ (fun i σ H' _ h => ?_) (fun i x σ H6 hi h => ?_) (fun σ H' h => ?_)))
      · obtain ⟨_, _, _, sm', _⟩ := h
        exact sm' _ _ ha
      · obtain ⟨y7', rs', rfl, sm6, hs6, hc6, hX6, hn6, hl6⟩ := h
        obtain ⟨r, hr, rfl⟩ := ref_get' hi
        have hil : i < rows.length := by rw [← hxa.1]; exact (List.getElem?_eq_some_iff.mp hr).1
        have hrow := row_get hil
        have hlr := sm6 _ _ (hxa.2 i r _ hr hrow)
        refine s_when (at_ (veqP (q := row rows i = []) (vlen vv (vns_len _) hlr) vc (len0 _))) (fun e => ?_) (fun e => pn ⟨_, rs', rfl, sm6, hs6, hc6, ?_, hn6, by omega⟩)
        · refine s_appx vv hc6 (ex_lst a0 (Nat.zero_le _) fun l nl => ?_)
          have nlc : l ≠ c := fun z => by rw [z, hc6] at nl; cases nl
          have nls : l ≠ sn := fun z => by rw [z] at nl; unfold LB at hs6; rw [hs6] at nl; cases nl
          refine app_n ((upd_ne nlc.symm).trans hc6) (by rw [List.length_map]; omega) (pn ⟨_, rs' ++ [l], rfl, same_mut (sm6.trans (same_upd nl)) nc0, (upd_ne ncs.symm).trans ((upd_ne nls.symm).trans hs6), by rw [upd_same, ref_snoc], ?_, snocP hn6 ⟨nls, nlc, sm6.free nl⟩, by rw [List.length_append, List.length_singleton]; omega⟩)
          have eb : bares (rows.take (i + 1)) = bares (rows.take i) ++ [[]] := by
            unfold bares
            rw [take_succ_get hrow, List.filter_append, List.map_append, e]
            rfl
          rw [eb, ← List.append_assoc]
          exact ((hX6.mono (same_upd nl)).off fun r hr => (hn6 r hr).2.1).snoc ((upd_ne nlc).trans upd_same)
        · have eb : bares (rows.take (i + 1)) = bares (rows.take i) := by
            unfold bares
            rw [take_succ_get hrow, List.filter_append, List.map_append]
            have : ([row rows i].filter fun r => r.isEmpty) = [] := by
              cases hq : row rows i with
              | nil => exact absurd hq e
              | cons x r => rfl
            rw [this, List.map_nil, List.append_nil]
          rw [eb]
          exact hX6
      · obtain ⟨y7', rs', rfl, sm6, hs6, hc6, hX6, hn6, hl6⟩ := h
        refine pn (s_ret vv (q H' c sm6 nc0 ⟨rs', hc6, ?_, fun r hr => (hn6 r hr).2.2⟩))
        unfold landsF
        rw [hD.len]
        rw [List.length_map, List.take_of_length_le (Nat.le_of_eq hxa.1.symm)] at hX6
        exact hX6

end RF
namespace RF
open PySem PySem.Spec PyProof.Rows L2
/-! ### promises and defs: parts -/
def seenK (K : List Nat) : List (Key × V) := kvm (K.map fun q => (q, V.bl true))
theorem bl_in {K : List Nat} {q : Nat} (h : q ∈ K) : (K.map fun q => (q, V.bl true)).lookup q = some (.bl true) := lookup_some (g := fun x => x) (f := fun _ => V.bl true) h (fun _ _ _ => rfl)
theorem bl_no {K : List Nat} {q : Nat} (h : q ∉ K) : (K.map fun q => (q, V.bl true)).lookup q = none := lookup_none (g := fun x => x) (f := fun _ => V.bl true) (fun e he z => h (by rw [← z]; exact he))
theorem seenK_in (K : List Nat) (q : Nat) : (valV (seenK K) (.inl (q : Int))).isSome = decide (q ∈ K) := by
  unfold seenK
  rw [valV_kvm]
  by_cases h : q ∈ K
  · rw [bl_in h, decide_eq_true h]; rfl
  · rw [bl_no h, decide_eq_false h]; rfl
theorem seenK_put {K : List Nat} {q : Nat} (h : q ∉ K) : putK (seenK K) (.inl (q : Int)) (V.bl true) = seenK (K ++ [q]) := by
  unfold seenK
  rw [kvm_snoc _ (bl_no h), List.map_append]
  rfl
theorem seenK_len (K : List Nat) : (seenK K).length = K.length := by
  unfold seenK
  rw [kvm_len, List.length_map]
theorem seenK_keys (K : List Nat) : (seenK K).map (·.1) = (K.map Int.ofNat).map Sum.inl := by
  unfold seenK kvm
  rw [List.map_map, List.map_map, List.map_map]
  rfl
def spAbout : Sp := fun vs H Q _ => ∃ a b rows m s, vs = [.ref a, .ref b, vn s] ∧ LR H a rows ∧ LI H b (seatL rows) ∧ Dr rows m ∧ s < rows.length ∧ rows.length ≤ 100000 ∧ m ≤ 100000 ∧ ∀ H' p, Same H H' → H p = none → LI H' p (comp rows s) → Q (.ref p) H'
theorem ok_part_about {P : Program} {w : World} {K : PySem.W.Frag} {mg : Str → Option Value} {base : Heap} {fa : Nat → Addr} {fd : Nat → FuncData} (TX : Txt K mg fa fd) : FnOk P w K mg base CX0 2 (fa 18) (fd 18) ["drawing", "seats", "start"] spAbout := by
  refine TX.F_part_about.ok sc_part_about (fun vs H Q E h => ?_) (fun cdv A outer s H vs Q E hr h => ?_)
  · obtain ⟨a, b, rows, m, st, rfl, hA, hB, hD, hst, hz, hm, q⟩ := h
    rfl
  · have nd := sc_part_about.nd
    have hu := hu_of hr
    obtain ⟨a, b, rows, m, st, rfl, hA, hB, hD, hst, hz, hm, q⟩ := h
    refine ⟨_, (pss_cons (ps_set (i := 3) nd rfl (Or.inl rfl) (pe_disp (pps_cons (pv 2) pe_bl pps_nil) (by rfl) (by rfl) (fun z => by cases z) (by decide)))
      (pss_cons (ps_set (i := 4) nd rfl (Or.inl rfl) (pe_lst (pa_cons (pv 2) pa_nil)))
      (pss_cons (ps_while PassesOwn.never (pt_cmpR op_gt (pe_callB call_len_seq (by rfl) TX.b_len PySem.boot_len (pa_cons (pv 4) pa_nil)) pe_int (nomark _)) (pss_cons (ps_set (i := 5) nd rfl (Or.inl rfl) (pe_bm0 PySem.F.plainAttrs_list PySem.F.slot_list_pop PySem.F.type_list_pop mt_pop (pv 4)))
      (pss_one (ps_for PassesOwn.never (by rfl) (pi_list (pe_ix ix_list (pv 0) (pv 5) (fun _ _ => rfl))) (pg_name (i := 6) nd rfl (Or.inl rfl)) (pss_cons (ps_set (i := 7) nd rfl (Or.inl rfl) (pe_ix ix_list (pv 1) (pe_call (ok_mate_of TX) (hr.mono (by decide)) (by rfl) TX.g_mate_of TX.F_mate_of.kp TX.B_mate_of .nil pass0 (pa_cons (pv 6) pa_nil)) (fun _ _ => rfl)))
      (pss_one (ps_if (pt_cmp (pc_dnotin hu (pv 7) (pv 3))) (pss_cons (ps_dput hu (pv 3) (pv 7) pe_bl rfl)
      (pss_one (ps_expr (pe_bm PySem.F.plainAttrs_list PySem.F.slot_list_append PySem.F.type_list_append mt_append (pv 4) (pa_cons (pv 7) pa_nil))))) pss_nil)))))))
      (pss_one (ps_ret (pe_callB (call_sortedDA rfl) (by rfl) TX.b_sorted (by decide +kernel) (pa_cons (pv 3) pa_nil))))))), ?_⟩
    refine q_asg (ex_disp vv (fun _ _ => vc) (fun _ _ => vv) fun d nd0 => ?_)
    have s1 : Same H (upd H d (.dK [(Sum.inl (st : Int), V.bl true)])) := same_upd nd0
    refine q_asg (ex_lst (a1 vv) (by show 1 ≤ sizeLine; decide) fun w nw => ?_)
    have s2 := same_upd (o := HO.lst [vn st]) nw
    have nw0 : H w = none := s1.free nw
    have ndw : d ≠ w := ne_of_none upd_same nw
    obtain ⟨as, ha, hxa⟩ := hA
    refine sq (s_while (fun M σ H' => ∃ K W y5 y6 y7, σ = [some (.ref a), some (.ref b), some (vn st), some (.ref d), some (.ref w), y5, y6, y7] ∧ Same H H' ∧ H' d = some (.dK (seenK K)) ∧ LI H' w W ∧ K.Nodup ∧ (∀ k ∈ K, Reach rows st k) ∧ st ∈ K ∧ (∀ x ∈ W, x ∈ K) ∧ (∀ k ∈ K, k ∉ W → ∀ e ∈ row rows k, seat rows (mate e) ∈ K) ∧ 2 * (rows.length - K.length) + W.length ≤ M ∧ K.length ≤ rows.length ∧ M ≤ 200000)
      (2 * rows.length) ⟨[st], [st], none, none, none, rfl, s1.trans s2, (upd_ne ndw).trans upd_same, upd_same, List.nodup_cons.mpr ⟨by simp, List.nodup_nil⟩, fun k hk => by cases List.mem_singleton.mp hk; exact .refl, List.mem_singleton.mpr rfl, fun x hx => hx, fun k hk hn => absurd hk hn, by simp; omega, by simp; omega, by omega⟩ (fun M σ H' h => ?_))
    obtain ⟨K, W, y5, y6, y7, rfl, sm, hd, hw, hn, hr, hs, hW, hcl, hM, hKl, hMb⟩ := h
    refine ⟨_, at_ (vgt (vlen vv (vns_len W) hw) vc), fun hyes => ?_, fun hno => ?_⟩
    · have hpos : 0 < W.length := by have := of_decide_eq_true hyes; omega
      obtain ⟨W', pl, rfl⟩ : ∃ W' x, W = W' ++ [x] := ⟨W.dropLast, W.getLast (by intro z; rw [z] at hpos; cases hpos), (List.dropLast_concat_getLast _).symm⟩
      have ew : vns (W' ++ [pl]) = vns W' ++ [vn pl] := by show List.map vn _ = _; rw [List.map_append]; rfl
      have hw2' : H' w = some (.lst (vns W' ++ [vn pl])) := by rw [← ew]; exact hw
      refine q_pop vv hw2' ?_
      have hpl := hr pl (hW pl (by simp))
      have hpll := hpl.lt hD hst
      have hrow := row_get hpll
      obtain ⟨r0, hr0, hl0⟩ := hxa.get hrow
      have sm' : Same H (upd H' w (.lst (vns W'))) := same_mut sm nw0
      rw [List.length_append, List.length_singleton] at hM
      -- for end in drawing[place]
      refine s_forLn (vixr vv vv hr0 (sm' _ _ ha)) (sm' _ _ hl0) (fun i σ H2 => ∃ K2 W2 y6 y7, σ = [some (.ref a), some (.ref b), some (vn st), some (.ref d), some (.ref w), some (vn pl), y6, y7] ∧ Same H H2 ∧ H2 d = some (.dK (seenK K2)) ∧ LI H2 w W2 ∧ K2.Nodup ∧ (∀ k ∈ K2, Reach rows st k) ∧ (∀ x ∈ K, x ∈ K2) ∧ (∀ x ∈ W', x ∈ W2) ∧ (∀ x ∈ W2, x ∈ K2) ∧ (∀ k ∈ K2, k ∉ W2 → k ∈ K ∧ k ∉ W') ∧ (∀ e ∈ (row rows pl).take i, seat rows (mate e) ∈ K2) ∧ 2 * (rows.length - K2.length) + W2.length + 1 ≤ M ∧ K2.length ≤ rows.length)
        ⟨K, W', y6, y7, rfl, sm', (upd_ne ndw).trans hd, upd_same, hn, hr, fun x h => h, fun x h => h, fun x hx => hW x (List.mem_append_left _ hx), fun k hk h => ⟨hk, h⟩, fun e he => by simp at he, by omega, hKl⟩ (fun i σ H2 _ h => ?_) (fun i x σ H2 hi h => ?_) (fun σ H2 h => ?_)
      · obtain ⟨_, _, _, _, _, sm2, _⟩ := h
        exact sm2 _ _ hl0
      · obtain ⟨K2, W2, y6', y7', rfl, sm2, hd2, hw2, hn2, hr2, hKK, hWW, hWK, hcl2, hdn, hM2, hK2⟩ := h
        obtain ⟨e, he, rfl⟩ := vns_get' hi
        have hem := List.mem_of_getElem? he
        obtain ⟨hlt, hse⟩ := row_end hD hem
        refine q_set (v := vn (seat rows (mate e))) (vixn vv (vmate vv) (seatL_get hD (mate_lt hlt)) (sm2 _ _ hB)) ?_
        refine s_when (aB (vto (vdnotin vv vv (seenK_in K2 _) hd2) (by rw [← decide_not]))) (fun hnew => ?_) (fun hold => pn ⟨K2, W2, _, _, rfl, sm2, hd2, hw2, hn2, hr2, hKK, hWW, hWK, hcl2, fun e' he' => ?_, hM2, hK2⟩)
        · have hre : Reach rows st (seat rows (mate e)) := .step hpl hem
          have hcnt := nodup_sub_len (l₂ := List.range rows.length) (List.nodup_cons.mpr ⟨hnew, hn2⟩) fun x hx => by
            rcases List.mem_cons.mp hx with rfl | hx
            · exact List.mem_range.mpr (hre.lt hD hst)
            · exact List.mem_range.mpr ((hr2 x hx).lt hD hst)
          rw [List.length_cons, List.length_range] at hcnt
          refine q_dput vc vv vv (by rw [seenK_len]; omega) hd2 ?_
          rw [seenK_put hnew]
          refine s_app vv vv ((upd_ne ndw.symm).trans hw2) (by rw [vns_len]; omega) (pn ⟨K2 ++ [seat rows (mate e)], W2 ++ [seat rows (mate e)], _, _, rfl, same_mut (same_mut sm2 nd0) nw0, (upd_ne ndw).trans upd_same, ?_, ?_, ?_, fun x hx => List.mem_append_left _ (hKK x hx), fun x hx => List.mem_append_left _ (hWW x hx), ?_, ?_, ?_, ?_, ?_⟩)
          · refine upd_same.trans ?_
            show _ = some (HO.lst (List.map vn _))
            rw [List.map_append]; rfl
          · exact nd_snoc hn2 hnew
          · intro k hk
            rcases List.mem_append.mp hk with h | h
            · exact hr2 k h
            · cases List.mem_singleton.mp h; exact hre
          · intro x hx
            rcases List.mem_append.mp hx with h | h
            · exact List.mem_append_left _ (hWK x h)
            · exact List.mem_append_right _ h
          · intro k hk hnk
            rcases List.mem_append.mp hk with h | h
            · exact hcl2 k h fun z => hnk (List.mem_append_left _ z)
            · exact absurd (List.mem_append_right _ h) hnk
          · intro e' he'
            rw [take_succ_get he] at he'
            rcases List.mem_append.mp he' with h | h
            · exact List.mem_append_left _ (hdn e' h)
            · cases List.mem_singleton.mp h; exact List.mem_append_right _ (List.mem_singleton.mpr rfl)
          · rw [List.length_append, List.length_append, List.length_singleton]; omega
          · rw [List.length_append, List.length_singleton]; omega
        · rw [take_succ_get he] at he'
          rcases List.mem_append.mp he' with h | h
          · exact hdn e' h
          · cases List.mem_singleton.mp h
            exact Classical.not_not.mp hold
      · obtain ⟨K2, W2, y6', y7', rfl, sm2, hd2, hw2, hn2, hr2, hKK, hWW, hWK, hcl2, hdn, hM2, hK2⟩ := h
        refine pn ⟨2 * (rows.length - K2.length) + W2.length, by omega, K2, W2, _, _, _, rfl, sm2, hd2, hw2, hn2, hr2, hKK _ hs, hWK, fun k hk hnk e he => ?_, Nat.le_refl _, hK2, by omega⟩
        obtain ⟨h1, h2⟩ := hcl2 k hk hnk
        by_cases hkp : k = pl
        · subst hkp
          rw [vns_len, List.take_length] at hdn
          exact hdn e he
        · refine hKK _ (hcl k h1 (fun z => ?_) e he)
          rcases List.mem_append.mp z with h | h
          · exact h2 h
          · exact hkp (List.mem_singleton.mp h)
    · have h0 : W = [] := by
        have := of_decide_eq_false hno
        cases W with
        | nil => rfl
        | cons x r => rw [List.length_cons] at this; omega
      subst h0
      have hK : ∀ q, q ∈ K ↔ Reach rows st q := fun q => ⟨hr q, reach_of hs (fun p hp e he => hcl p hp (by simp) e he) q⟩
      refine pn (s_retx ?_)
      refine ex_cv vv (ex_nil ⟨d, seenK K, K.map Int.ofNat, rfl, hd, seenK_keys K, fun ys p hp ho np => ?_⟩)
      have ey := sorted_comp hD hst hn hK hp ho
      refine q _ p (sm.trans (same_upd np)) (sm.free np) ?_
      rw [ey]
      show _ = some (HO.lst (vns _))
      rw [vns_int, upd_same]

def spParts : Sp := fun vs H Q _ => ∃ a rows m, vs = [.ref a] ∧ LR H a rows ∧ Dr rows m ∧ rows.length ≤ 100000 ∧ m ≤ 100000 ∧ ∀ H' p, Same H H' → H p = none → FR H H' p (partsF rows) → Q (.ref p) H'
theorem ok_parts_of {P : Program} {w : World} {K : PySem.W.Frag} {mg : Str → Option Value} {base : Heap} {fa : Nat → Addr} {fd : Nat → FuncData} (TX : Txt K mg fa fd) : FnOk P w K mg base CX0 3 (fa 19) (fd 19) ["drawing"] spParts := by
  refine TX.F_parts_of.ok sc_parts_of (fun vs H Q E h => ?_) (fun cdv A outer s H vs Q E hr h => ?_)
  · obtain ⟨a, rows, m, rfl, hA, hD, hz, hm, q⟩ := h
    rfl
  · have nd := sc_parts_of.nd
    have hu := hu_of hr
    obtain ⟨a, rows, m, rfl, hA, hD, hz, hm, q⟩ := h
    refine ⟨_, (pss_cons (ps_set (i := 1) nd rfl (Or.inl rfl) (pe_call (ok_seats_of TX) (hr.mono (by decide)) (by rfl) TX.g_seats_of TX.F_seats_of.kp TX.B_seats_of .nil pass0 (pa_cons (pv 0) pa_nil)))
      (pss_cons (ps_set (i := 2) nd rfl (Or.inl rfl) pe_dnewK)
      (pss_cons (ps_set (i := 3) nd rfl (Or.inl rfl) (pe_lst pa_nil))
      (pss_cons (ps_for PassesOwn.never (by rfl) (pi_range1 (by rfl) TX.b_range (pa_cons (pe_callB call_len_seq (by rfl) TX.b_len PySem.boot_len (pa_cons (pv 0) pa_nil)) pa_nil)) (pg_name (i := 4) nd rfl (Or.inl rfl)) (pss_one (ps_if (pt_cmp (pc_dnotin hu (pv 4) (pv 2))) (pss_cons (ps_set (i := 5) nd rfl (Or.inl rfl) (pe_call (ok_part_about TX) (hr.mono (by decide)) (by rfl) TX.g_part_about TX.F_part_about.kp TX.B_part_about .nil pass0 (pa_cons (pv 0) (pa_cons (pv 1) (pa_cons (pv 4) pa_nil)))))
      (pss_cons (ps_for PassesOwn.never (by rfl) (pi_list (pv 5)) (pg_name (i := 6) nd rfl (Or.inl rfl)) (pss_one (ps_dput hu (pv 2) (pv 6) pe_bl rfl)))
      (pss_one (ps_expr (pe_bm PySem.F.plainAttrs_list PySem.F.slot_list_append PySem.F.type_list_append mt_append (pv 3) (pa_cons (pv 5) pa_nil)))))) pss_nil)))
      (pss_one (ps_ret (pv 3))))))), ?_⟩
    refine q_call (a1 vv) ⟨a, rows, m, rfl, hA, hD, by omega, by omega, fun H1 b s1 nb hb => ?_⟩
    refine q_asg fun d ndd => ?_
    refine q_asg (ex_lst a0 (Nat.zero_le _) fun c nc => ?_)
    have nd0 : H d = none := s1.free ndd
    have s2 := same_upd (o := HO.dK []) ndd
    have s3 := same_upd (o := HO.lst []) nc
    have nc0 : H c = none := (s1.trans s2).free nc
    have ndc : d ≠ c := ne_of_none upd_same nc
    have nbd : b ≠ d := ne_of_none hb ndd
    have nbc : b ≠ c := ne_of_none (s2 _ _ hb) nc
    have sAll := (s1.trans s2).trans s3
    obtain ⟨as, ha, hxa⟩ := id hA
    refine sq (s_forR1 (n := rows.length) (a1 (vlen vv (by rw [List.length_map, hxa.1]) (sAll _ _ ha))) (by omega) (fun j σ H' => ∃ y4 y5 y6 rs, σ = [some (.ref a), some (.ref b), some (.ref d), some (.ref c), y4, y5, y6] ∧ Same H H' ∧ LI H' b (seatL rows) ∧ H' d = some (.dK (seenK (partsJ rows j).flatten)) ∧ H' c = some (.lst (rs.map V.ref)) ∧ LX H' rs (partsJ rows j) ∧ (∀ r ∈ rs, r ≠ d ∧ r ≠ c ∧ H r = none))
      ⟨none, none, none, [], rfl, sAll, (s2.trans s3) _ _ hb, (upd_ne ndc).trans upd_same, upd_same, LX.nil, fun r hr => (by cases hr)⟩ (fun j σ H' hj h => ?_) (fun σ H' h => ?_))
    · obtain ⟨y4, y5, y6, rs, rfl, sm, hb', hd', hc', hX, hn⟩ := h
      have hmem := mem_partsJ hD j (by omega) j
      have hrl : rs.length ≤ j := by rw [hX.1]; exact partsJ_len rows j
      refine s_when (aB (vto (vdnotin vv vv (seenK_in _ _) hd') (by rw [← decide_not]))) (fun hnew => ?_) (fun hold => pn ⟨_, _, _, rs, rfl, sm, hb', ?_, hc', ?_, hn⟩)
      · have hfirst : ∀ t, t < j → ¬ Reach rows t j := fun t ht z => hnew (hmem.mpr ⟨t, ht, z⟩)
        refine q_call (a3 vv vv vv) ⟨a, b, rows, m, j, rfl, hA.mono sm, hb', hD, hj, hz, hm, fun H2 l s2 nl hl => ?_⟩
        have nld : l ≠ d := fun z => by rw [z, hd'] at nl; cases nl
        have nlc : l ≠ c := fun z => by rw [z, hc'] at nl; cases nl
        have hnd2 := partsJ_nodup hD (j + 1) (by omega)
        rw [partsJ_new hfirst, List.flatten_append, List.flatten_singleton] at hnd2
        have hl2 := partsJ_flen hD (j := j + 1) (by omega)
        rw [partsJ_new hfirst, List.flatten_append, List.flatten_singleton, List.length_append] at hl2
        refine sq (s_forLn vv hl (fun i σ H3 => ∃ y6, σ = [some (.ref a), some (.ref b), some (.ref d), some (.ref c), some (vn j), some (.ref l), y6] ∧ Same H H3 ∧ LI H3 b (seatL rows) ∧ H3 d = some (.dK (seenK ((partsJ rows j).flatten ++ (comp rows j).take i))) ∧ H3 c = some (.lst (rs.map V.ref)) ∧ LX H3 rs (partsJ rows j) ∧ LI H3 l (comp rows j))
          ⟨y6, rfl, sm.trans s2, s2 _ _ hb', by simpa using s2 _ _ hd', s2 _ _ hc', hX.mono s2, hl⟩ (fun i σ H3 _ h => ?_) (fun i x σ H3 hi h => ?_) (fun σ H3 h => ?_))
        · obtain ⟨_, _, _, _, _, _, _, hl3⟩ := h
          exact hl3
        · obtain ⟨y6', rfl, sm3, hb3, hd3, hc3, hX3, hl3⟩ := h
          obtain ⟨k, hk, rfl⟩ := vns_get' hi
          have hil := (List.getElem?_eq_some_iff.mp hk).1
          have hnk : k ∉ (partsJ rows j).flatten ++ (comp rows j).take i := by
            have e1 : (partsJ rows j).flatten ++ comp rows j = ((partsJ rows j).flatten ++ (comp rows j).take i) ++ (comp rows j).drop i := by
              rw [List.append_assoc, List.take_append_drop]
            rw [e1, List.nodup_append] at hnd2
            intro z
            refine hnd2.2.2 k z k ?_ rfl
            exact List.mem_of_getElem? (i := 0) (by rw [List.getElem?_drop]; exact hk)
          refine s_dput vc vv vv (by rw [seenK_len, List.length_append, List.length_take]; omega) hd3 (pn ?_)
          rw [seenK_put hnk, List.append_assoc, ← take_succ_get hk]
          exact ⟨_, rfl, same_mut sm3 nd0, (upd_ne nbd).trans hb3, upd_same, (upd_ne ndc.symm).trans hc3, hX3.off fun r hr => (hn r hr).1, (upd_ne nld).trans hl3⟩
        · obtain ⟨y6', rfl, sm3, hb3, hd3, hc3, hX3, hl3⟩ := h
          rw [vns_len, List.take_length] at hd3
          refine pn (s_app vv vv hc3 (by rw [List.length_map]; omega) (pn ⟨_, _, _, rs ++ [l], rfl, same_mut sm3 nc0, (upd_ne nbc).trans hb3, ?_, by rw [upd_same, ref_snoc], ?_, snocP hn ⟨nld, nlc, sm.free nl⟩⟩))
          · rw [partsJ_new hfirst, List.flatten_append, List.flatten_singleton]
            exact (upd_ne ndc).trans hd3
          · rw [partsJ_new hfirst]
            exact (hX3.off fun r hr => (hn r hr).2.1).snoc ((upd_ne nlc).trans hl3)
      · have : ¬ ∀ t, t < j → ¬ Reach rows t j := fun z => hold fun h => by
          obtain ⟨t, ht, hr⟩ := hmem.mp h
          exact z t ht hr
        rw [partsJ_old this]; exact hd'
      · have : ¬ ∀ t, t < j → ¬ Reach rows t j := fun z => hold fun h => by
          obtain ⟨t, ht, hr⟩ := hmem.mp h
          exact z t ht hr
        rw [partsJ_old this]; exact hX
    · obtain ⟨y4, y5, y6, rs, rfl, sm, hb', hd', hc', hX, hn⟩ := h
      exact pn (s_ret vv (q H' c sm nc0 ⟨rs, hc', hX, fun r hr => (hn r hr).2.2⟩))

end RF
namespace RF
open PySem PySem.Spec PyProof.Rows L2
/-! ### promises and defs: holes -/
section
variable {K : PySem.W.Frag} {σ : L2.St} {H : Hp} {i : Nat} {te ta tb : TE} {a l : Addr} {xs : List V} {ts : TS} {D : Ends} {g : TG}
theorem s_forx (h : te σ H fun x H1 => ∃ a, x = .ref a ∧ (∃ xs, SqL K H1 a xs) ∧ ∃ W : Nat → Nat → L2.St → Hp → Prop, (∃ m, W 0 m σ H1) ∧ ∀ i m σ H, W i m σ H →
    ((Itl K a).stop i H ∧ D.nx σ H) ∨ ((Itl K a).go i H ∧ ∃ N : L2.St → Hp → Prop, (∀ σ' H', N σ' H' → ∃ m', m' < m ∧ W (i + 1) m' σ' H') ∧ ∀ x H', (Itl K a).yld i H x H' → g x σ H' fun σ2 H2 => ts { D with nx := N, ct := N, bk := D.nx } σ2 H2)) : tFor (iList K te) g ts D σ H := h
theorem forL_n (hx : H a = some (.lst xs)) (Pv : Nat → L2.St → Hp → Prop) (h0 : Pv 0 σ H) (hl : ∀ i σ H, i ≤ xs.length → Pv i σ H → H a = some (.lst xs))
    (hs : ∀ j x σ H, xs[j]? = some x → Pv j σ H → ts { D with nx := Pv (j + 1), ct := Pv (j + 1), bk := D.nx } (σ.set i (some x)) H) (hd : ∀ σ H, Pv xs.length σ H → D.nx σ H) :
    ∃ a', V.ref a = .ref a' ∧ (∃ xs, SqL K H a' xs) ∧ ∃ W : Nat → Nat → L2.St → Hp → Prop, (∃ m, W 0 m σ H) ∧ ∀ i' m σ H, W i' m σ H →
    ((Itl K a').stop i' H ∧ D.nx σ H) ∨ ((Itl K a').go i' H ∧ ∃ N : L2.St → Hp → Prop, (∀ σ' H', N σ' H' → ∃ m', m' < m ∧ W (i' + 1) m' σ' H') ∧ ∀ x H', (Itl K a').yld i' H x H' → gName i x σ H' fun σ2 H2 => ts { D with nx := N, ct := N, bk := D.nx } σ2 H2) :=
  ⟨a, rfl, ⟨xs, SqL.of hx⟩, for_list (K := K) (a := a) (xs := xs) Pv h0 (fun i σ H hi p => SqL.of (hl i σ H hi p)) hs hd⟩
theorem s_augL {L : List Nat} {j x c : Nat} (ho : Va ta σ H (.ref l)) (hi : Va tb σ H (vn j)) (he : Va te σ H (vn c)) (hl : LI H l L) (hj : L[j]? = some x) (k : D.nx σ (upd H l (.lst (vns (L.set j (x + c)))))) : tAugS ta tb te (rGetL K) (ipI fun i j => i + j) rSetL D σ H := by
  have hjl := (List.getElem?_eq_some_iff.mp hj).1
  refine ho _ (hi _ ⟨l, vns L, j, vn x, rfl, rfl, hl, vns_get hj, he _ ⟨x, c, rfl, rfl, ?_⟩⟩)
  refine setL_n hl (by rw [vns_len]; exact hjl) ?_
  have e : V.int ((x : Int) + (c : Int)) = vn (x + c) := congrArg V.int (by omega)
  show D.nx σ (upd H l (.lst ((vns L).set j (V.int ((x : Int) + (c : Int))))))
  rw [e, vns_set]
  exact k
theorem sum_n {l : List Nat} {Q : VK} (hp : LI H a l) (q : Q (vn l.sum) H) : rSum K [.ref a] H Q := ⟨a, l.map Int.ofNat, rfl, by rw [← vns_int]; exact SqL.of hp, by rw [sum_cast]; exact q⟩
theorem q_ifset {t : TT} {us : TS} {q : Prop} [Decidable q] {x0 x1 y : V} (h : An t σ H (decide q)) (he : q → Va te σ H x1) (hσ : σ.set i (some x0) = σ) (h1 : q → y = x1) (h0 : ¬ q → y = x0) (k : us D (σ.set i (some y)) H) : tSeq (tIfS t (tAsg te (gName i)) tNext) us D σ H := by
  refine sq (s_ifp h (fun hq => s_set (he hq) ?_) fun hq => ?_)
  · rw [← h1 hq]; exact k
  · have e : σ = σ.set i (some y) := by rw [h0 hq, hσ]
    show us D σ H
    rw [e]; exact k
end
theorem rep0 (n : Nat) : List.replicate n (vn 0) = vns ((List.range n).map fun _ => 0) := by
  show _ = List.map vn _
  rw [← replicate_range, List.map_replicate]
theorem range_get {n j : Nat} (f : Nat → Nat) (h : j < n) : ((List.range n).map f)[j]? = some (f j) := by
  rw [List.getElem?_map, List.getElem?_range h]; rfl
theorem ints_snoc (l : List Int) (z : Int) : l.map V.int ++ [V.int z] = (l ++ [z]).map V.int := by rw [List.map_append]; rfl
theorem landsF_len {D : List (List Nat)} {m : Nat} (h : Dr D m) : (landsF D).length ≤ 2 * m + D.length := by
  unfold landsF bares
  rw [List.length_append, List.length_map]
  have h1 := List.length_filter_le (fun r : List Nat => r.isEmpty) D
  have h2 : ∀ j, (lgo (phi D) D.flatten.length j).2.length ≤ j := fun j => by
    induction j with
    | zero => exact Nat.le_refl _
    | succ j ih =>
      rw [lgo_succ]
      unfold lstep
      split
      · omega
      · rw [List.length_append, List.length_singleton]; omega
  have := h2 D.flatten.length
  rw [h.len] at this ⊢
  omega
def spHoles : Sp := fun vs H Q _ => ∃ a rows m, vs = [.ref a] ∧ LR H a rows ∧ Dr rows m ∧ rows.length ≤ 100000 ∧ m ≤ 100000 ∧ ∀ H' p, Same H H' → H p = none → H' p = some (.lst ((holesF rows).map V.int)) → Q (.ref p) H'
theorem ok_holes_of {P : Program} {w : World} {K : PySem.W.Frag} {mg : Str → Option Value} {base : Heap} {fa : Nat → Addr} {fd : Nat → FuncData} (TX : Txt K mg fa fd) : FnOk P w K mg base CX0 4 (fa 20) (fd 20) ["drawing"] spHoles := by
  refine TX.F_holes_of.ok sc_holes_of (fun vs H Q E h => ?_) (fun cdv A outer s H vs Q E hr h => ?_)
  · obtain ⟨a, rows, m, rfl, hA, hD, hz, hm, q⟩ := h
    rfl
  · have nd := sc_holes_of.nd
    have hu := hu_of hr
    obtain ⟨a, rows, m, rfl, hA, hD, hz, hm, q⟩ := h
    refine ⟨_, (pss_cons (ps_set (i := 1) nd rfl (Or.inl rfl) (pe_call (ok_seats_of TX) (hr.mono (by decide)) (by rfl) TX.g_seats_of TX.F_seats_of.kp TX.B_seats_of .nil pass0 (pa_cons (pv 0) pa_nil)))
      (pss_cons (ps_set (i := 2) nd rfl (Or.inr rfl) (pe_op op_rep (pe_lst (pa_cons pe_int pa_nil)) (pe_callB call_len_seq (by rfl) TX.b_len PySem.boot_len (pa_cons (pv 0) pa_nil))))
      (pss_cons (ps_for PassesOwn.never (by rfl) (pi_list (pe_call (ok_lands_of TX) (hr.mono (by decide)) (by rfl) TX.g_lands_of TX.F_lands_of.kp TX.B_lands_of .nil pass0 (pa_cons (pv 0) pa_nil))) (pg_name (i := 3) nd rfl (Or.inl rfl)) (pss_one (ps_if (pt_cmpR op_gt (pe_callB call_len_seq (by rfl) TX.b_len PySem.boot_len (pa_cons (pv 3) pa_nil)) pe_int (nomark _)) (pss_one (ps_augS (pv 2) (pe_ix ix_list (pv 1) (pe_ix ix_list (pv 3) pe_int (fun _ _ => rfl)) (fun _ _ => rfl)) get_list pe_int ip_add set_list)) pss_nil)))
      (pss_cons (ps_set (i := 4) nd rfl (Or.inl rfl) (pe_lst pa_nil))
      (pss_cons (ps_for PassesOwn.never (by rfl) (pi_list (pe_call (ok_parts_of TX) (hr.mono (by decide)) (by rfl) TX.g_parts_of TX.F_parts_of.kp TX.B_parts_of .nil pass0 (pa_cons (pv 0) pa_nil))) (pg_name (i := 5) nd rfl (Or.inl rfl)) (pss_cons (ps_set (i := 6) nd rfl (Or.inl rfl) (pe_callB (cr_sum rfl) (by rfl) TX.b_sum (by decide +kernel) (pa_cons (pe_lc (own := [("place", 8)]) (g := gName 8) (tt := tYes) (by rfl) nd (pi_list (pv 5)) (blkOk_by (own := [("place", 8)]) (N := nm_holes_of) (sc := (defScope s_holes_of)) (by decide +kernel)) (fun _ _ _ _ _ => (pg_name (i := 8) nd rfl (Or.inl rfl))) (fun _ _ _ _ _ => pts_nil) (fun _ _ _ _ _ => (pe_callB (call_len_seqK (K := K) rfl) (by rfl) TX.b_len PySem.boot_len (pa_cons (pe_ix (ix_listK (K := K) rfl) (pv 0) (pv 8) (fun _ _ => rfl)) pa_nil)))) pa_nil)))
      (pss_cons (ps_set (i := 7) nd rfl (Or.inl rfl) (pe_callB (cr_sum rfl) (by rfl) TX.b_sum (by decide +kernel) (pa_cons (pe_lc (own := [("place", 8)]) (g := gName 8) (tt := tYes) (by rfl) nd (pi_list (pv 5)) (blkOk_by (own := [("place", 8)]) (N := nm_holes_of) (sc := (defScope s_holes_of)) (by decide +kernel)) (fun _ _ _ _ _ => (pg_name (i := 8) nd rfl (Or.inl rfl))) (fun _ _ _ _ _ => pts_nil) (fun _ _ _ _ _ => (pe_ix (ix_listK (K := K) rfl) (pv 2) (pv 8) (fun _ _ => rfl)))) pa_nil)))
      (pss_cons (ps_if (pt_cmpR op_eq (pv 6) pe_int (nomark _)) (pss_one (ps_set (i := 7) nd rfl (Or.inl rfl) pe_int)) pss_nil)
      (pss_one (ps_expr (pe_bm PySem.F.plainAttrs_list PySem.F.slot_list_append PySem.F.type_list_append mt_append (pv 4) (pa_cons (pe_op op_fdiv (pe_op op_sub (pe_op op_add (pe_op op_sub pe_int (pe_callB call_len_seq (by rfl) TX.b_len PySem.boot_len (pa_cons (pv 5) pa_nil))) (pe_op op_fdiv (pv 6) pe_int)) (pv 7)) pe_int) pa_nil))))))))
      (pss_one (ps_ret (pv 4)))))))), ?_⟩
    refine q_call (a1 vv) ⟨a, rows, m, rfl, hA, hD, by omega, by omega, fun H1 b s1 nb hb => ?_⟩
    obtain ⟨as, ha, hxa⟩ := id hA
    -- begun = [0] * len(drawing)
    refine q_asg (ex_rep (x := vn 0) vc fun p hp => ex (vlen vv (by rw [List.length_map, hxa.1]) (same_upd hp _ _ (s1 _ _ ha))) (rep_n upd_same (by omega) fun g ng => ?_))
    have s2 : Same H1 (upd (upd H1 p (.lst [vn 0])) g (.lst (List.replicate rows.length (vn 0)))) := (same_upd hp).trans (same_upd ng)
    have ng0 : H g = none := s1.free ((same_upd hp).free ng)
    have nbg : b ≠ g := ne_of_none ((same_upd hp) _ _ hb) ng
    have hg : LI (upd (upd H1 p (.lst [vn 0])) g (.lst (List.replicate rows.length (vn 0)))) g ((List.range rows.length).map fun _ => 0) := by
      show upd _ _ _ _ = _
      rw [upd_same, rep0]
    revert s2 hg
    generalize upd (upd H1 p (.lst [vn 0])) g (.lst (List.replicate rows.length (vn 0))) = H2
    intro s2 hg
    have s12 := s1.trans s2
    -- for land in lands_of(drawing)
    refine sq (s_forx (ex_call (a1 vv) ⟨a, rows, m, rfl, hA.mono s12, hD, hz, hm, fun H3 lp s3 nlp hlp => ?_⟩))
    obtain ⟨ls, hl1, hlx, hlf⟩ := hlp
    have nlg : lp ≠ g := fun z => by rw [z] at nlp; rw [hg] at nlp; cases nlp
    have hdl := landsF_dr hD
    have hlg : ∀ r ∈ ls, r ≠ g := fun r hr z => by have := hlf r hr; rw [z, hg] at this; cases this
    refine forL_n hl1 (fun i σ H' => ∃ y3 y4 y5 y6 y7 y8 f, σ = [some (.ref a), some (.ref b), some (.ref g), y3, y4, y5, y6, y7, y8] ∧ Same H H' ∧ LI H' b (seatL rows) ∧ LI H' g ((List.range rows.length).map f) ∧ H' lp = some (.lst (ls.map V.ref)) ∧ LX H' ls (landsF rows) ∧ ∀ p, p < rows.length → f p = ((landsF rows).take i).countP (hdAt rows p))
      ⟨none, none, none, none, none, none, fun _ => 0, rfl, s12.trans s3, s3 _ _ (s2 _ _ hb), s3 _ _ hg, hl1, hlx, fun p _ => rfl⟩ (fun i σ H' _ h => ?_) (fun j x σ H' hj h => ?_) (fun σ H' h => ?_)
    · obtain ⟨_, _, _, _, _, _, _, _, _, _, _, h1, _⟩ := h
      exact h1
    · obtain ⟨y3, y4, y5, y6, y7, y8, f, rfl, sm, hb', hg', hlp', hlx', hf⟩ := h
      obtain ⟨r, hr, rfl⟩ := ref_get' hj
      have hjl : j < (landsF rows).length := by rw [← hlx.1]; exact (List.getElem?_eq_some_iff.mp hr).1
      have hland := row_get hjl
      have hdlen := landsF_len hD
      have hlr := hlx'.2 j r _ hr hland
      have hcnt : ∀ p, ((landsF rows).take (j + 1)).countP (hdAt rows p) = ((landsF rows).take j).countP (hdAt rows p) + (if hdAt rows p (row (landsF rows) j) = true then 1 else 0) := fun p => by
        rw [take_succ_get hland, List.countP_append, List.countP_singleton]
      refine s_when (q := row (landsF rows) j ≠ []) (ato (at_ (vgt (vlen vv (vns_len _) hlr) vc)) ?_) (fun e => ?_) (fun e => pn ⟨_, _, _, _, _, _, f, rfl, sm, hb', hg', hlp', hlx', fun p hp => ?_⟩)
      · refine decide_eq_decide.mpr ?_
        cases hq : row (landsF rows) j with
        | nil => simp
        | cons x r => simp
      · obtain ⟨e0, rest, hq⟩ : ∃ e0 rest, row (landsF rows) j = e0 :: rest := by
          cases hq : row (landsF rows) j with
          | nil => exact absurd hq e
          | cons x r => exact ⟨x, r, rfl⟩
        have h0 : (row (landsF rows) j)[0]? = some e0 := by rw [hq]; rfl
        have hlt : e0 < 2 * m := (row_end hdl (List.mem_of_getElem? h0)).1
        have hsl := seat_lt hD hlt
        refine s_augL (j := seat rows e0) (x := f (seat rows e0)) (c := 1) vv (vixn vv (vix vv vc (atn (j := 0) h0) hlr) (seatL_get hD hlt) hb') (vcn 1) hg' (range_get f hsl) (pn ?_)
        rw [set_range]
        refine ⟨_, _, _, _, _, _, fun x => if x = seat rows e0 then f (seat rows e0) + 1 else f x, rfl, same_mut sm ng0, (upd_ne nbg).trans hb', upd_same, (upd_ne nlg).trans hlp', hlx'.off hlg, fun p hp => ?_⟩
        · rw [hcnt]
          have hh : hdAt rows p (row (landsF rows) j) = decide (seat rows e0 = p) := by
            unfold hdAt; rw [hq]; rfl
          rw [hh]
          show (if p = seat rows e0 then f (seat rows e0) + 1 else f p) = _
          by_cases z : p = seat rows e0
          · rw [if_pos z, ← z, hf p hp]
            simp
          · rw [if_neg z, hf p hp, decide_eq_false (Ne.symm z)]
            rfl
      · rw [hcnt, hf p hp]
        have hh : hdAt rows p (row (landsF rows) j) = false := by
          unfold hdAt
          rw [Classical.not_not.mp e]; rfl
        rw [hh]; rfl
    · obtain ⟨y3, y4, y5, y6, y7, y8, f, rfl, sm, hb', hg', hlp', hlx', hf⟩ := h
      rw [List.length_map, hlx.1, List.take_length] at hf
      refine pn (q_asg (ex_lst a0 (Nat.zero_le _) fun h nh => ?_))
      have s4 : Same H' (upd H' h (.lst [])) := same_upd nh
      have nh0 : H h = none := sm.free nh
      have ngh : g ≠ h := ne_of_none hg' nh
      -- for part in parts_of(drawing)
      refine sq (s_forx (ex_call (a1 vv) ⟨a, rows, m, rfl, hA.mono (sm.trans s4), hD, hz, hm, fun H5 pp s5 npp hpp => ?_⟩))
      obtain ⟨ps, hp1, hpx, hpf⟩ := hpp
      have hh5 : H5 h = some (.lst ([] : List V)) := s5 _ _ upd_same
      have nph : pp ≠ h := fun z => by rw [z, upd_same] at npp; cases npp
      have hph : ∀ r ∈ ps, r ≠ h := fun r hr z => by have := hpf r hr; rw [z, upd_same] at this; cases this
      refine forL_n hp1 (fun i σ H6 => ∃ y5 y6 y7 y8, σ = [some (.ref a), some (.ref b), some (.ref g), y3, some (.ref h), y5, y6, y7, y8] ∧ Same H H6 ∧ LI H6 g ((List.range rows.length).map f) ∧ H6 pp = some (.lst (ps.map V.ref)) ∧ LX H6 ps (partsF rows) ∧ H6 h = some (.lst ((((partsF rows).take i).map (holeOf rows)).map V.int)))
        ⟨y5, y6, y7, y8, rfl, (sm.trans s4).trans s5, s5 _ _ (s4 _ _ hg'), hp1, hpx, hh5⟩ (fun i σ H6 _ h => ?_) (fun j x σ H6 hj h => ?_) (fun σ H6 h => ?_)
      · obtain ⟨_, _, _, _, _, _, _, h1, _⟩ := h
        exact h1
      · obtain ⟨y5', y6', y7', y8', rfl, sm6, hg6, hp6, hpx6, hh6⟩ := h
        obtain ⟨r, hr, rfl⟩ := ref_get' hj
        have hjl : j < (partsF rows).length := by rw [← hpx.1]; exact (List.getElem?_eq_some_iff.mp hr).1
        have hpart := row_get hjl
        have hpl : (partsF rows).length ≤ rows.length := partsJ_len rows rows.length
        have hlr := hpx6.2 j r _ hr hpart
        obtain ⟨s0, hs0, eP, _⟩ := part_mem (List.mem_of_getElem? hpart)
        have hPn : (row (partsF rows) j).Nodup := by rw [eP]; exact comp_nodup rows s0
        have hPl : (row (partsF rows) j).length ≤ rows.length := by rw [eP]; exact comp_len rows s0
        have hPm : ∀ p ∈ row (partsF rows) j, p < rows.length := fun p hp => by rw [eP] at hp; exact comp_lt hp
        -- ends = sum([len(drawing[place]) for place in part])
        refine q_asg (ex_cons ?_)
        refine ex_lc (ys := vns ((row (partsF rows) j).map fun p => (row rows p).length)) vv hlr (fun _ => rfl) (by rw [vns_len, List.length_map, vns_len]) (by rw [vns_len]; omega) (fun i x y H' e1 e2 s => ?_) fun p1 np1 => ?_
        · obtain ⟨k, hk, rfl⟩ := vns_get' e1
          obtain ⟨n, hn, rfl⟩ := vns_get' e2
          rw [List.getElem?_map, hk] at hn
          cases Option.some.inj hn
          obtain ⟨r2, hr2, hl2⟩ := hxa.get (row_get (hPm k (List.mem_of_getElem? hk)))
          have smm := sm6.trans s
          exact vlen (vixr vv vv hr2 (smm _ _ ha)) (vns_len _) (smm _ _ hl2)
        have s7 : Same H6 (upd H6 p1 (.lst (vns ((row (partsF rows) j).map fun p => (row rows p).length)))) := same_upd np1
        refine ex_nil (sum_n upd_same ?_)
        -- many = sum([begun[place] for place in part])
        have hg7 := s7 _ _ hg6
        have hlr7 := s7 _ _ hlr
        revert s7 hg7 hlr7
        generalize upd H6 p1 (.lst (vns ((row (partsF rows) j).map fun p => (row rows p).length))) = H7
        intro s7 hg7 hlr7
        refine q_asg (ex_cons ?_)
        refine ex_lc (ys := vns ((row (partsF rows) j).map f)) vv hlr7 (fun _ => rfl) (by rw [vns_len, List.length_map, vns_len]) (by rw [vns_len]; omega) (fun i x y H' e1 e2 s => ?_) fun p2 np2 => ?_
        · obtain ⟨k, hk, rfl⟩ := vns_get' e1
          obtain ⟨n, hn, rfl⟩ := vns_get' e2
          rw [List.getElem?_map, hk] at hn
          cases Option.some.inj hn
          exact vixn vv vv (range_get f (hPm k (List.mem_of_getElem? hk))) (s _ _ hg7)
        have s8 : Same H7 (upd H7 p2 (.lst (vns ((row (partsF rows) j).map f)))) := same_upd np2
        refine ex_nil (sum_n upd_same ?_)
        have hlr8 := s8 _ _ hlr7
        have s68 := s7.trans s8
        revert hlr8 s68
        generalize upd H7 p2 (.lst (vns ((row (partsF rows) j).map f))) = H8
        intro hlr8 s68
        have eE : ((row (partsF rows) j).map fun p => (row rows p).length).sum = endsOf rows (row (partsF rows) j) := rfl
        have eM : ((row (partsF rows) j).map f).sum = (landsF rows).countP (hdIn rows (row (partsF rows) j)) := by
          rw [← count_parts rows hPn]
          exact congrArg List.sum (List.map_congr_left fun p hp => hf p (hPm p hp))
        rw [eE, eM]
        have hh8 := s68 _ _ hh6
        have sm8 := sm6.trans s68
        refine q_ifset (q := endsOf rows (row (partsF rows) j) = 0) (y := vn (manyOf rows (row (partsF rows) j))) (x1 := vn 1) (x0 := vn ((landsF rows).countP (hdIn rows (row (partsF rows) j)))) (at_ (veqP vv vc (by constructor <;> intro z <;> omega))) (fun _ => vcn 1) rfl (fun e => by unfold manyOf; rw [if_pos e]) (fun e => by unfold manyOf; rw [if_neg e]) ?_
        refine s_app vv (vdiv (vsub (vadd (vsub vc (vlen vv (vns_len _) hlr8)) (vdivn vv (vcn 2) (by decide))) vv) vc ⟨by decide, by decide⟩) hh8 (by rw [List.length_map, List.length_map, List.length_take]; omega) (pn ?_)
        refine ⟨_, _, _, _, rfl, same_mut sm8 nh0, (upd_ne ngh).trans (s68 _ _ hg6), (upd_ne nph).trans (s68 _ _ hp6), (hpx6.mono s68).off hph, ?_⟩
        rw [upd_same, take_succ_get hpart, List.map_append, List.map_append]
        rfl
      · obtain ⟨y5', y6', y7', y8', rfl, sm6, hg6, hp6, hpx6, hh6⟩ := h
        rw [List.length_map, hpx.1, List.take_length] at hh6
        exact pn (s_ret vv (q H6 h sm6 nh0 hh6))

end RF
namespace RF
open PySem PySem.Spec PyProof.Rows L2
/-! ### promises and defs: trees of places, ways, rounds -/
theorem vltn {σ : L2.St} {H : Hp} {ta tb : TE} {a b : Nat} (ha : Va ta σ H (vn a)) (hb : Va tb σ H (vn b)) : Va (tOp (rI0 fun i j => .bl (decide (i < j))) ta tb) σ H (.bl (decide (a < b))) := vto (vlt ha hb) (congrArg V.bl (decide_eq_decide.mpr (by omega)))
def treeK (root : Nat) (T : List (Nat × Nat)) : List (Key × V) := kvm ((root, V.int (-1)) :: T.map fun p => (p.1, vn p.2))
theorem treeK_len (root : Nat) (T : List (Nat × Nat)) : (treeK root T).length = T.length + 1 := by
  unfold treeK
  rw [kvm_len, List.length_cons, List.length_map]
theorem treeK_no {root q : Nat} {T : List (Nat × Nat)} (h : q ∉ tkeys root T) : ((root, V.int (-1)) :: T.map fun p => (p.1, vn p.2)).lookup q = none := by
  unfold tkeys at h
  rw [List.mem_cons] at h
  rw [List.lookup_cons, show (q == root) = false from beq_eq_false_iff_ne.mpr fun z => h (Or.inl z)]
  exact lookup_none (g := fun p : Nat × Nat => p.1) (f := fun p => vn p.2) fun e he z => h (Or.inr (List.mem_map.mpr ⟨e, he, z⟩))
theorem treeK_root (root : Nat) (T : List (Nat × Nat)) : valV (treeK root T) (.inl (root : Int)) = some (.int (-1)) := by
  unfold treeK
  rw [valV_kvm, List.lookup_cons_self]
theorem nodup_fst {T : List (Nat × Nat)} (h : (T.map (·.1)).Nodup) {a b : Nat × Nat} (ha : a ∈ T) (hb : b ∈ T) (e : a.1 = b.1) : a = b := by
  obtain ⟨i, hi⟩ := List.getElem?_of_mem ha
  obtain ⟨j, hj⟩ := List.getElem?_of_mem hb
  have h1 := (List.getElem?_eq_some_iff.mp hi).1
  have h2 := (List.getElem?_eq_some_iff.mp hj).1
  have hij : i = j := by
    refine (List.getElem_inj (h₀ := by rw [List.length_map]; exact h1) (h₁ := by rw [List.length_map]; exact h2) h).mp ?_
    rw [List.getElem_map, List.getElem_map, (List.getElem?_eq_some_iff.mp hi).2, (List.getElem?_eq_some_iff.mp hj).2]
    exact e
  rw [hij, hj] at hi
  exact (Option.some.inj hi).symm
theorem treeK_get {root q e : Nat} {T : List (Nat × Nat)} (nd : (tkeys root T).Nodup) (h : (q, e) ∈ T) : valV (treeK root T) (.inl (q : Int)) = some (vn e) := by
  obtain ⟨n1, n2⟩ := List.nodup_cons.mp nd
  have hq : q ∈ T.map (·.1) := List.mem_map.mpr ⟨(q, e), h, rfl⟩
  unfold treeK
  rw [valV_kvm, List.lookup_cons, show (q == root) = false from beq_eq_false_iff_ne.mpr fun z => n1 (z ▸ hq)]
  exact lookup_some (g := fun p : Nat × Nat => p.1) (f := fun p => vn p.2) h fun b hb z => by rw [nodup_fst n2 hb h z]
theorem treeK_in {root : Nat} {T : List (Nat × Nat)} (nd : (tkeys root T).Nodup) (q : Nat) : (valV (treeK root T) (.inl (q : Int))).isSome = decide (q ∈ tkeys root T) := by
  by_cases h : q ∈ tkeys root T
  · rw [decide_eq_true h]
    rcases List.mem_cons.mp h with z | z
    · rw [z, treeK_root]; rfl
    · obtain ⟨x, hx, ex⟩ := List.mem_map.mp z
      rw [treeK_get (e := x.2) nd (by rw [← ex]; exact hx)]; rfl
  · rw [decide_eq_false h]
    unfold treeK
    rw [valV_kvm, treeK_no h]; rfl
theorem treeK_put {root q : Nat} {T : List (Nat × Nat)} (e : Nat) (h : q ∉ tkeys root T) : putK (treeK root T) (.inl (q : Int)) (vn e) = treeK root (T ++ [(q, e)]) := by
  unfold treeK
  rw [kvm_snoc _ (treeK_no h), List.map_append]
  rfl
theorem vns_snoc (l : List Nat) (x : Nat) : vns l ++ [vn x] = vns (l ++ [x]) := by show _ = List.map vn _; rw [List.map_append]; rfl
def spTree : Sp := fun vs H Q _ => ∃ a rows m root, vs = [.ref a, vn root] ∧ LR H a rows ∧ Dr rows m ∧ root < rows.length ∧ rows.length ≤ 300000 ∧ m ≤ 150000 ∧ ∀ H' p T, Same H H' → H p = none → H' p = some (.dK (treeK root T)) → IsBfs rows root T → Q (.ref p) H'
theorem ok_tree_from {P : Program} {w : World} {K : PySem.W.Frag} {mg : Str → Option Value} {base : Heap} {fa : Nat → Addr} {fd : Nat → FuncData} (TX : Txt K mg fa fd) : FnOk P w K mg base CX0 3 (fa 22) (fd 22) ["drawing", "root"] spTree := by
  refine TX.F_tree_from.ok sc_tree_from (fun vs H Q E h => ?_) (fun cdv A outer s H vs Q E hr h => ?_)
  · obtain ⟨a, rows, m, root, rfl, hA, hD, hrt, hz, hm, q⟩ := h
    rfl
  · have nd := sc_tree_from.nd
    have hu := hu_of hr
    obtain ⟨a, rows, m, root, rfl, hA, hD, hrt, hz, hm, q⟩ := h
    refine ⟨_, (pss_cons (ps_set (i := 2) nd rfl (Or.inl rfl) (pe_call (ok_seats_of TX) (hr.mono (by decide)) (by rfl) TX.g_seats_of TX.F_seats_of.kp TX.B_seats_of .nil pass0 (pa_cons (pv 0) pa_nil)))
      (pss_cons (ps_set (i := 3) nd rfl (Or.inl rfl) (pe_disp (pps_cons (pv 1) (pe_un un_neg pe_int) pps_nil) (by rfl) (by rfl) (fun z => by cases z) (by decide)))
      (pss_cons (ps_set (i := 4) nd rfl (Or.inl rfl) (pe_lst (pa_cons (pv 1) pa_nil)))
      (pss_cons (ps_set (i := 5) nd rfl (Or.inl rfl) pe_int)
      (pss_cons (ps_while PassesOwn.never (pt_cmpR op_lt (pv 5) (pe_callB call_len_seq (by rfl) TX.b_len PySem.boot_len (pa_cons (pv 4) pa_nil)) (nomark _)) (pss_cons (ps_for PassesOwn.never (by rfl) (pi_list (pe_ix ix_list (pv 0) (pe_ix ix_list (pv 4) (pv 5) (fun _ _ => rfl)) (fun _ _ => rfl))) (pg_name (i := 6) nd rfl (Or.inl rfl)) (pss_cons (ps_set (i := 7) nd rfl (Or.inl rfl) (pe_ix ix_list (pv 2) (pe_call (ok_mate_of TX) (hr.mono (by decide)) (by rfl) TX.g_mate_of TX.F_mate_of.kp TX.B_mate_of .nil pass0 (pa_cons (pv 6) pa_nil)) (fun _ _ => rfl)))
      (pss_one (ps_if (pt_cmp (pc_dnotin hu (pv 7) (pv 3))) (pss_cons (ps_dput hu (pv 3) (pv 7) (pe_call (ok_mate_of TX) (hr.mono (by decide)) (by rfl) TX.g_mate_of TX.F_mate_of.kp TX.B_mate_of .nil pass0 (pa_cons (pv 6) pa_nil)) rfl)
      (pss_one (ps_expr (pe_bm PySem.F.plainAttrs_list PySem.F.slot_list_append PySem.F.type_list_append mt_append (pv 4) (pa_cons (pv 7) pa_nil))))) pss_nil))))
      (pss_one (ps_aug (i := 5) nd rfl (Or.inl rfl) pe_int ip_add))))
      (pss_one (ps_ret (pv 3)))))))), ?_⟩
    refine q_call (a1 vv) ⟨a, rows, m, rfl, hA, hD, by omega, by omega, fun H1 b s1 nb hb => ?_⟩
    refine q_asg (ex_disp vv (fun _ _ => vneg vc) (fun _ _ => vv) fun d nd0 => ?_)
    have s2 : Same H1 (upd H1 d (.dK [(Sum.inl (root : Int), V.int (-1))])) := same_upd nd0
    refine q_asg (ex_lst (a1 vv) (by show 1 ≤ sizeLine; decide) fun w nw => ?_)
    have s3 := same_upd (o := HO.lst [vn root]) nw
    have nd1 : H d = none := s1.free nd0
    have nw1 : H w = none := (s1.trans s2).free nw
    have ndw : d ≠ w := ne_of_none upd_same nw
    have nbd : b ≠ d := ne_of_none hb nd0
    have nbw : b ≠ w := ne_of_none (s2 _ _ hb) nw
    refine q_set (vcn 0) ?_
    obtain ⟨as, ha, hxa⟩ := hA
    refine sq (s_while (fun M σ H' => ∃ k T dd y6 y7, σ = [some (.ref a), some (vn root), some (.ref b), some (.ref d), some (.ref w), some (vn k), y6, y7] ∧ Same H H' ∧ LI H' b (seatL rows) ∧ H' d = some (.dK (treeK root T)) ∧ LI H' w (tkeys root T) ∧ BfsI rows root T k [] dd ∧ rows.length ≤ M + k)
      rows.length ⟨0, [], _, none, none, rfl, (s1.trans s2).trans s3, s3 _ _ (s2 _ _ hb), (upd_ne ndw).trans upd_same, upd_same, BfsI.first, by omega⟩ (fun M σ H' h => ?_))
    obtain ⟨k, T, dd, y6, y7, rfl, sm, hb', hd, hw, hI, hM⟩ := h
    have hlen := hI.tree.len hD hrt
    refine ⟨_, at_ (vltn vv (vlen vv (vns_len _) hw)), fun hyes => ?_, fun hno => ?_⟩
    · have hk : k < (tkeys root T).length := of_decide_eq_true hyes
      have hp := get_getD hk
      revert hp
      generalize (tkeys root T).getD k 0 = p
      intro hp
      have hpr := hI.tree.reach p (List.mem_of_getElem? hp)
      have hpl := hpr.lt hD hrt
      have hrow := row_get hpl
      obtain ⟨r0, hr0, hl0⟩ := hxa.get hrow
      refine sq (s_forLn (vixr vv (vixn vv vv hp hw) hr0 (sm _ _ ha)) (sm _ _ hl0) (fun i σ H2 => ∃ T2 d2 y6 y7, σ = [some (.ref a), some (vn root), some (.ref b), some (.ref d), some (.ref w), some (vn k), y6, y7] ∧ Same H H2 ∧ LI H2 b (seatL rows) ∧ H2 d = some (.dK (treeK root T2)) ∧ LI H2 w (tkeys root T2) ∧ BfsI rows root T2 k ((row rows p).take i) d2 ∧ (tkeys root T2)[k]? = some p)
        ⟨T, dd, _, _, rfl, sm, hb', hd, hw, hI, hp⟩ (fun i σ H2 _ h => ?_) (fun i x σ H2 hi h => ?_) (fun σ H2 h => ?_))
      · obtain ⟨_, _, _, _, _, sm2, _⟩ := h
        exact sm2 _ _ hl0
      · obtain ⟨T2, d2, y6', y7', rfl, sm2, hb2, hd2, hw2, hI2, hp2⟩ := h
        obtain ⟨e, he, rfl⟩ := vns_get' hi
        have hem := List.mem_of_getElem? he
        obtain ⟨hlt, hse⟩ := row_end hD hem
        have hlen2 := hI2.tree.len hD hrt
        have hl3 : T2.length + 1 = (tkeys root T2).length := by unfold tkeys; rw [List.length_cons, List.length_map]
        refine q_set (v := vn (seat rows (mate e))) (vixn vv (vmate vv) (seatL_get hD (mate_lt hlt)) hb2) ?_
        refine s_when (aB (vto (vdnotin vv vv (treeK_in hI2.tree.nd _) hd2) (by rw [← decide_not]))) (fun hnew => ?_) (fun hold => pn ⟨T2, d2, _, _, rfl, sm2, hb2, hd2, hw2, ?_, hp2⟩)
        · refine q_dput (v := vn (mate e)) (vmate vv) vv vv (by rw [treeK_len]; omega) hd2 ?_
          rw [treeK_put (mate e) hnew]
          refine s_app vv vv ((upd_ne ndw.symm).trans hw2) (by rw [vns_len]; omega) (pn ⟨T2 ++ [(seat rows (mate e), mate e)], fun x => if x = seat rows (mate e) then d2 p + 1 else d2 x, _, _, rfl, same_mut (same_mut sm2 nd1) nw1, (upd_ne nbw).trans ((upd_ne nbd).trans hb2), (upd_ne ndw).trans upd_same, ?_, ?_, ?_⟩)
          · rw [tkeys_snoc]
            refine upd_same.trans ?_
            rw [vns_snoc]
          · rw [take_succ_get he]
            exact hI2.add hD hp2 hem hnew
          · rw [tkeys_snoc, List.getElem?_append_left (List.getElem?_eq_some_iff.mp hp2).1]
            exact hp2
        · rw [take_succ_get he]
          exact hI2.skip (Classical.not_not.mp hold)
      · obtain ⟨T2, d2, y6', y7', rfl, sm2, hb2, hd2, hw2, hI2, hp2⟩ := h
        rw [vns_len, List.take_length] at hI2
        refine pn (s_augI (m := k) (n := 1) rfl vc (pn ⟨M - 1, by omega, k + 1, T2, d2, _, _, rfl, sm2, hb2, hd2, hw2, hI2.next hp2, by omega⟩))
    · have hk : (tkeys root T).length ≤ k := by have := of_decide_eq_false hno; omega
      exact pn (s_ret vv (q H' d T sm nd1 hd (hI.bfs hk)))

theorem pathR_len {D : List (List Nat)} : ∀ (R : List (Nat × Nat)) (x : Nat), (pathR D R x).length ≤ R.length
  | [], _ => Nat.le_refl _
  | (q, e) :: r, x => by
    rw [pathR]
    split
    · rw [List.length_cons, List.length_cons]
      have := pathR_len (D := D) r (seat D (mate e))
      omega
    · rw [List.length_cons]
      have := pathR_len (D := D) r x
      omega
theorem path_len (D : List (List Nat)) (T : List (Nat × Nat)) (x : Nat) : (path D T x).length ≤ T.length := by
  have := pathR_len (D := D) T.reverse x
  rw [List.length_reverse] at this
  exact this
def spUp : Sp := fun vs H Q _ => ∃ b d rows m root T x, vs = [.ref b, .ref d, vn x] ∧ LI H b (seatL rows) ∧ H d = some (.dK (treeK root T)) ∧ Dr rows m ∧ IsTree rows root T ∧ root < rows.length ∧ x ∈ tkeys root T ∧ rows.length ≤ 300000 ∧ ∀ H' p, Same H H' → H p = none → LI H' p (path rows T x) → Q (.ref p) H'
theorem ok_way_up {P : Program} {w : World} {K : PySem.W.Frag} {mg : Str → Option Value} {base : Heap} {fa : Nat → Addr} {fd : Nat → FuncData} (TX : Txt K mg fa fd) : FnOk P w K mg base CX0 2 (fa 23) (fd 23) ["seats", "nearer", "place"] spUp := by
  refine TX.F_way_up.ok sc_way_up (fun vs H Q E h => ?_) (fun cdv A outer s H vs Q E hr h => ?_)
  · obtain ⟨b, d, rows, m, root, T, x, rfl, hB, hd, hD, hT, hrt, hx, hz, q⟩ := h
    rfl
  · have nd := sc_way_up.nd
    have hu := hu_of hr
    obtain ⟨b, d, rows, m, root, T, x, rfl, hB, hd, hD, hT, hrt, hx, hz, q⟩ := h
    refine ⟨_, (pss_cons (ps_set (i := 3) nd rfl (Or.inl rfl) (pe_lst pa_nil))
      (pss_cons (ps_while PassesOwn.never (pt_cmpR op_ge (pe_dget hu (pv 1) (pv 2) (fun _ _ => rfl)) pe_int (nomark _)) (pss_cons (ps_expr (pe_bm PySem.F.plainAttrs_list PySem.F.slot_list_append PySem.F.type_list_append mt_append (pv 3) (pa_cons (pe_dget hu (pv 1) (pv 2) (fun _ _ => rfl)) pa_nil)))
      (pss_one (ps_set (i := 2) nd rfl (Or.inl rfl) (pe_ix ix_list (pv 0) (pe_call (ok_mate_of TX) (hr.mono (by decide)) (by rfl) TX.g_mate_of TX.F_mate_of.kp TX.B_mate_of .nil pass0 (pa_cons (pe_dget hu (pv 1) (pv 2) (fun _ _ => rfl)) pa_nil)) (fun _ _ => rfl))))))
      (pss_one (ps_ret (pv 3))))), ?_⟩
    refine q_asg (ex_lst a0 (Nat.zero_le _) fun w nw => ?_)
    have s1 := same_upd (o := HO.lst []) nw
    have hTl := hT.len hD hrt
    have hl3 : T.length + 1 = (tkeys root T).length := by unfold tkeys; rw [List.length_cons, List.length_map]
    refine sq (s_while (fun M σ H' => ∃ y W, σ = [some (.ref b), some (.ref d), some (vn y), some (.ref w)] ∧ Same H H' ∧ LI H' w W ∧ y ∈ tkeys root T ∧ W ++ path rows T y = path rows T x ∧ M = (path rows T y).length)
      (path rows T x).length ⟨x, [], rfl, s1, upd_same, hx, rfl, rfl⟩ (fun M σ H' h => ?_))
    obtain ⟨y, W, rfl, sm, hw, hy, hp, hM⟩ := h
    have hd' := sm _ _ hd
    have hpl := path_len rows T x
    rw [← hp, List.length_append] at hpl
    by_cases hyr : y = root
    · subst hyr
      refine ⟨false, ato (at_ (vge (vdget vv vv (treeK_root _ T) hd') vc)) rfl, fun z => (nomatch z), fun _ => ?_⟩
      rw [path_root hT, List.append_nil] at hp
      subst hp
      exact pn (s_ret vv (q H' w sm nw hw))
    · obtain ⟨i, e, hi⟩ := tree_entry hy hyr
      obtain ⟨hp1, _⟩ := path_step hT hi
      obtain ⟨he, hpar⟩ := hT.edge i y e hi
      obtain ⟨hlt, _⟩ := row_end hD he
      have hget := treeK_get hT.nd (List.mem_of_getElem? hi)
      refine ⟨true, ato (at_ (vge (vdget vv vv hget hd') vc)) (decide_eq_true (by omega)), fun _ => ?_, fun z => (nomatch z)⟩
      refine q_app (v := vn e) vv (vdget vv vv hget hd') hw (by rw [vns_len]; omega) ?_
      have sm2 : Same H (upd H' w (.lst (vns W ++ [vn e]))) := same_mut sm nw
      refine s_set (v := vn (seat rows (mate e))) (vixn vv (vmate (vdget vv vv hget (sm2 _ _ hd))) (seatL_get hD (mate_lt hlt)) (sm2 _ _ hB)) (pn ⟨(path rows T (seat rows (mate e))).length, ?_, seat rows (mate e), W ++ [e], rfl, sm2, ?_, tkeys_take hpar, ?_, rfl⟩)
      · rw [hM, hp1, List.length_cons]; omega
      · refine upd_same.trans ?_
        rw [vns_snoc]
      · rw [← hp, hp1, List.append_assoc]; rfl

end RF
namespace RF
open PySem PySem.Spec PyProof.Rows L2
/-! ### promises and defs: rounds along the tree, land numbers -/
theorem ex_lcV {K : PySem.W.Frag} {σ : L2.St} {H : Hp} {i : Nat} {te : TE} {a : Addr} {xs ys : List V} {Q : VK} {ta : TA} {vs : List Nat} (h : VA ta σ H [.ref a]) (hx : H a = some (.lst xs)) (hw : ∀ x, wipe ((wipe σ vs).set i (some x)) vs = wipe σ vs) (hy : ys.length = xs.length) (hz : xs.length ≤ 1000000)
    (he : ∀ (j : Nat) x y H', xs[xs.length - 1 - j]? = some x → ys[j]? = some y → Same H H' → Va te ((wipe σ vs).set i (some x)) H' y) (q : ∀ p, H p = none → Q (.ref p) (upd H p (.lst ys))) : tLc (iRev K ta) (gName i) tYes te vs σ H Q := by
  refine h _ ⟨a, xs, rfl, SqL.of hx, fun p hp => ?_⟩
  have npa : a ≠ p := ne_of_none hx hp
  refine ⟨fun j m H' => m = xs.length - j ∧ j ≤ xs.length ∧ H' = upd H p (.lst (ys.take j)), ⟨xs.length, rfl, Nat.zero_le _, rfl⟩, ?_⟩
  rintro j m H' ⟨rfl, hj, rfl⟩
  have hx' : ∀ o, (upd H p o) a = some (.lst xs) := fun o => (upd_ne npa).trans hx
  by_cases hlt : j < xs.length
  · have hk : xs.length - 1 - j < xs.length := by omega
    refine .inr ⟨⟨hlt, xs, _, SqL.of (hx' _), List.getElem?_eq_getElem hk⟩, fun H' => H' = upd H p (.lst (ys.take (j + 1))), fun H' e => ⟨xs.length - (j + 1), by omega, rfl, hlt, e⟩, fun x H' y => ?_⟩
    obtain ⟨rfl, f1⟩ := y
    refine ⟨hw x, ?_⟩
    have ej : ys[j]? = some (ys[j]'(by omega)) := List.getElem?_eq_getElem (by omega)
    simp only [tYes, if_true]
    refine he j x _ _ (f1 xs (SqL.of (hx' _))) ej (same_upd hp) _ ⟨_, upd_same, ?_, ?_⟩
    · rw [sizeLine_eq, List.length_take]
      omega
    · rw [upd_upd, List.take_add_one, ej]
      rfl
  · have e : j = xs.length := by omega
    subst e
    refine .inl ⟨Nat.le_refl _, ?_⟩
    rw [List.take_of_length_le (by omega)]
    exact q p hp
def spTurned : Sp := fun vs H Q _ => ∃ a l, vs = [.ref a] ∧ LI H a l ∧ l.length ≤ 300000 ∧ ∀ H' p, Same H H' → H p = none → LI H' p (l.reverse.map mate) → Q (.ref p) H'
theorem ok_turned_about {P : Program} {w : World} {K : PySem.W.Frag} {mg : Str → Option Value} {base : Heap} {fa : Nat → Addr} {fd : Nat → FuncData} (TX : Txt K mg fa fd) : FnOk P w K mg base CX0 2 (fa 24) (fd 24) ["way"] spTurned := by
  refine TX.F_turned_about.ok sc_turned_about (fun vs H Q E h => ?_) (fun cdv A outer s H vs Q E hr h => ?_)
  · obtain ⟨a, l, rfl, hl, hz, q⟩ := h
    rfl
  · have nd := sc_turned_about.nd
    have hu := hu_of hr
    obtain ⟨a, l, rfl, hl, hz, q⟩ := h
    refine ⟨_, (pss_one (ps_ret (pe_lc (own := [("end", 1)]) (g := gName 1) (tt := tYes) (by rfl) nd (pi_reversed (by rfl) TX.b_reversed (pa_cons (pv 0) pa_nil)) (blkOk_by (own := [("end", 1)]) (N := nm_turned_about) (sc := (defScope s_turned_about)) (by decide +kernel)) (fun _ _ _ _ _ => (pg_name (i := 1) nd rfl (Or.inl rfl))) (fun _ _ _ _ _ => pts_nil) (fun _ _ _ _ _ => (pe_call (ok_mate_of TX) (hr.mono (by decide)) (by rfl) TX.g_mate_of TX.F_mate_of.kp TX.B_mate_of .nil pass0 (pa_cons (pv 1) pa_nil)))))), ?_⟩
    refine s_retx (ex_lcV (ys := vns (l.reverse.map mate)) (a1 vv) hl (fun _ => rfl) (by rw [vns_len, vns_len, List.length_map, List.length_reverse]) (by rw [vns_len]; omega) (fun j x y H' e1 e2 s => ?_) fun p hp => q _ p (same_upd hp) hp upd_same)
    have hj : j < l.length := by
      have := (List.getElem?_eq_some_iff.mp e2).1
      rw [vns_len, List.length_map, List.length_reverse] at this
      exact this
    obtain ⟨e, he, rfl⟩ := vns_get' e1
    obtain ⟨f, hf, rfl⟩ := vns_get' e2
    rw [List.getElem?_map, List.getElem?_reverse hj] at hf
    rw [vns_len] at he
    rw [he] at hf
    cases Option.some.inj hf
    exact vmate vv

theorem last_atn {l : List Nat} {x : Nat} (h : l.getLast? = some x) : atI (vns l) (-1) = some (vn x) := by
  cases hl : l with
  | nil => rw [hl] at h; cases h
  | cons a r =>
    have hne : l ≠ [] := by rw [hl]; exact List.cons_ne_nil _ _
    rw [← hl, ← List.dropLast_concat_getLast hne]
    rw [List.getLast?_eq_getLast hne] at h
    rw [Option.some.inj h]
    show atI (List.map vn (l.dropLast ++ [x])) (-1) = _
    rw [List.map_append]
    exact atI_last _ _
def spAlong : Sp := fun vs H Q _ => ∃ b d rows m root T e, vs = [.ref b, .ref d, vn e] ∧ LI H b (seatL rows) ∧ H d = some (.dK (treeK root T)) ∧ Dr rows m ∧ IsTree rows root T ∧ root < rows.length ∧ e < 2 * m ∧ seat rows e ∈ tkeys root T ∧ seat rows (mate e) ∈ tkeys root T ∧ rows.length ≤ 100000 ∧
  ∀ H' p o k s, Same H H' → H p = none → path rows T (seat rows (mate e)) = o ++ s → path rows T (seat rows e) = k ++ s → (o = [] ∨ k = [] ∨ o.getLast? ≠ k.getLast?) → LI H' p ([e] ++ o ++ k.reverse.map mate) → Q (.ref p) H'
theorem ok_round_along {P : Program} {w : World} {K : PySem.W.Frag} {mg : Str → Option Value} {base : Heap} {fa : Nat → Addr} {fd : Nat → FuncData} (TX : Txt K mg fa fd) : FnOk P w K mg base CX0 3 (fa 25) (fd 25) ["seats", "nearer", "end"] spAlong := by
  refine TX.F_round_along.ok sc_round_along (fun vs H Q E h => ?_) (fun cdv A outer s H vs Q E hr h => ?_)
  · obtain ⟨b, d, rows, m, root, T, e, rfl, hB, hd, hD, hT, hrt, he, h1, h2, hz, q⟩ := h
    rfl
  · have nd := sc_round_along.nd
    have hu := hu_of hr
    obtain ⟨b, d, rows, m, root, T, e, rfl, hB, hd, hD, hT, hrt, he, h1, h2, hz, q⟩ := h
    refine ⟨_, (pss_cons (ps_set (i := 3) nd rfl (Or.inl rfl) (pe_call (ok_way_up TX) (hr.mono (by decide)) (by rfl) TX.g_way_up TX.F_way_up.kp TX.B_way_up .nil pass0 (pa_cons (pv 0) (pa_cons (pv 1) (pa_cons (pe_ix ix_list (pv 0) (pe_call (ok_mate_of TX) (hr.mono (by decide)) (by rfl) TX.g_mate_of TX.F_mate_of.kp TX.B_mate_of .nil pass0 (pa_cons (pv 2) pa_nil)) (fun _ _ => rfl)) pa_nil)))))
      (pss_cons (ps_set (i := 4) nd rfl (Or.inl rfl) (pe_call (ok_way_up TX) (hr.mono (by decide)) (by rfl) TX.g_way_up TX.F_way_up.kp TX.B_way_up .nil pass0 (pa_cons (pv 0) (pa_cons (pv 1) (pa_cons (pe_ix ix_list (pv 0) (pv 2) (fun _ _ => rfl)) pa_nil)))))
      (pss_cons (ps_while PassesOwn.never (PW.pt (pw_and (pt_cmpR op_gt (pe_callB call_len_seq (by rfl) TX.b_len PySem.boot_len (pa_cons (pv 3) pa_nil)) pe_int (nomark _)) (pw_and (pt_cmpR op_gt (pe_callB call_len_seq (by rfl) TX.b_len PySem.boot_len (pa_cons (pv 4) pa_nil)) pe_int (nomark _)) (pw_and1 (pt_cmpR op_eq (pe_ix ix_list (pv 3) (pe_un un_neg pe_int) (fun _ _ => rfl)) (pe_ix ix_list (pv 4) (pe_un un_neg pe_int) (fun _ _ => rfl)) (nomark _)))))) (pss_cons (ps_expr (pe_bm0 PySem.F.plainAttrs_list PySem.F.slot_list_pop PySem.F.type_list_pop mt_pop (pv 3)))
      (pss_one (ps_expr (pe_bm0 PySem.F.plainAttrs_list PySem.F.slot_list_pop PySem.F.type_list_pop mt_pop (pv 4))))))
      (pss_one (ps_ret (pe_op op_cat (pe_op op_cat (pe_lst (pa_cons (pv 2) pa_nil)) (pv 3)) (pe_call (ok_turned_about TX) (hr.mono (by decide)) (by rfl) TX.g_turned_about TX.F_turned_about.kp TX.B_turned_about .nil pass0 (pa_cons (pv 4) pa_nil)))))))), ?_⟩
    have hTl := hT.len hD hrt
    have hl3 : T.length + 1 = (tkeys root T).length := by unfold tkeys; rw [List.length_cons, List.length_map]
    have hp1 := path_len rows T (seat rows (mate e))
    have hp2 := path_len rows T (seat rows e)
    refine q_call (a3 vv vv (vixn vv (vmate vv) (seatL_get hD (mate_lt he)))) ⟨b, d, rows, m, root, T, _, rfl, hB, hd, hD, hT, hrt, h2, by omega, fun H1 po s1 npo hpo => ?_⟩
    have hB1 := s1 _ _ hB
    refine q_call (a3 vv vv (vixn vv vv (seatL_get hD he))) ⟨b, d, rows, m, root, T, _, rfl, hB1, s1 _ _ hd, hD, hT, hrt, h1, by omega, fun H2 pk s2 npk hpk => ?_⟩
    have npk0 : H pk = none := s1.free npk
    have nok : po ≠ pk := ne_of_none hpo npk
    refine sq (s_while (fun M σ H' => ∃ o k s, σ = [some (.ref b), some (.ref d), some (vn e), some (.ref po), some (.ref pk)] ∧ Same H H' ∧ LI H' po o ∧ LI H' pk k ∧ path rows T (seat rows (mate e)) = o ++ s ∧ path rows T (seat rows e) = k ++ s ∧ M = o.length)
      (path rows T (seat rows (mate e))).length ⟨_, _, [], rfl, s1.trans s2, s2 _ _ hpo, hpk, (List.append_nil _).symm, (List.append_nil _).symm, rfl⟩ (fun M σ H' h => ?_))
    obtain ⟨o, k, s, rfl, sm, ho, hk, e1, e2, hM⟩ := h
    have hol : o.length ≤ 100000 := by rw [e1, List.length_append] at hp1; omega
    have hkl : k.length ≤ 100000 := by rw [e2, List.length_append] at hp2; omega
    refine ⟨decide (0 < o.length) && (decide (0 < k.length) && decide (o.getLast? = k.getLast?)), aand (ato (at_ (vgt (vlen vv (vns_len o) ho) vc)) dec0) fun ho0 => aand (ato (at_ (vgt (vlen vv (vns_len k) hk) vc)) dec0) fun hk0 => ?_, fun hyes => ?_, fun hno => ?_⟩
    · have hne : o ≠ [] := List.length_pos_iff.mp (of_decide_eq_true ho0)
      have hnk : k ≠ [] := List.length_pos_iff.mp (of_decide_eq_true hk0)
      refine at_ (veqP (vix vv (vneg vc) (last_atn (List.getLast?_eq_getLast hne)) ho) (vix vv (vneg vc) (last_atn (List.getLast?_eq_getLast hnk)) hk) ?_)
      rw [List.getLast?_eq_getLast hne, List.getLast?_eq_getLast hnk]
      constructor
      · intro z; exact congrArg some (by omega)
      · intro z; exact congrArg Int.ofNat (Option.some.inj z)
    · rw [Bool.and_eq_true, Bool.and_eq_true, decide_eq_true_iff, decide_eq_true_iff, decide_eq_true_iff] at hyes
      obtain ⟨y1, y2, y3⟩ := hyes
      have hne : o ≠ [] := List.length_pos_iff.mp y1
      have hnk : k ≠ [] := List.length_pos_iff.mp y2
      rw [List.getLast?_eq_getLast hne, List.getLast?_eq_getLast hnk] at y3
      have hx := Option.some.inj y3
      obtain ⟨o', x, rfl⟩ : ∃ o' x, o = o' ++ [x] := ⟨o.dropLast, o.getLast hne, (List.dropLast_concat_getLast _).symm⟩
      obtain ⟨k', x', rfl⟩ : ∃ k' x', k = k' ++ [x'] := ⟨k.dropLast, k.getLast hnk, (List.dropLast_concat_getLast _).symm⟩
      rw [List.getLast_concat, List.getLast_concat] at hx
      subst hx
      have ho' : H' po = some (.lst (vns o' ++ [vn x])) := by rw [vns_snoc]; exact ho
      have hk' : H' pk = some (.lst (vns k' ++ [vn x])) := by rw [vns_snoc]; exact hk
      refine sq (s_popD vv ho' (pn (s_popD vv ((upd_ne nok.symm).trans hk') (pn ⟨o'.length, by rw [hM, List.length_append, List.length_singleton]; omega, o', k', x :: s, rfl, same_mut (same_mut sm ?_) npk0, (upd_ne nok).trans upd_same, upd_same, ?_, ?_, rfl⟩))))
      · exact npo
      · rw [e1, List.append_assoc]; rfl
      · rw [e2, List.append_assoc]; rfl
    · have hend : o = [] ∨ k = [] ∨ o.getLast? ≠ k.getLast? := by
        by_cases z1 : o = []
        · exact .inl z1
        by_cases z2 : k = []
        · exact .inr (.inl z2)
        refine .inr (.inr fun z3 => ?_)
        rw [decide_eq_true (List.length_pos_iff.mpr z1), decide_eq_true (List.length_pos_iff.mpr z2), decide_eq_true z3] at hno
        cases hno
      refine pn (s_retx (ex_opx (ex_opx (ex_lst (a1 vv) (by show 1 ≤ sizeLine; decide) fun g1 ng1 => ?_))))
      have s3 := same_upd (o := HO.lst [vn e]) ng1
      refine ex vv (cat_n upd_same (s3 _ _ ho) (by rw [vns_len, List.length_singleton]; omega) fun g2 ng2 => ?_)
      have s4 := same_upd (o := HO.lst ([vn e] ++ vns o)) ng2
      refine ex_call (a1 vv) ⟨pk, k, rfl, s4 _ _ (s3 _ _ hk), by omega, fun H5 g3 s5 ng3 hg3 => ?_⟩
      refine cat_n (s5 _ _ upd_same) hg3 (by rw [List.length_append, vns_len, vns_len, List.length_map, List.length_reverse, List.length_singleton]; omega) fun g4 ng4 => ?_
      have sAll := (((sm.trans s3).trans s4).trans s5)
      refine q _ g4 o k s (sAll.trans (same_upd ng4)) (sAll.free ng4) e1 e2 hend ?_
      refine upd_same.trans ?_
      show _ = some (HO.lst (List.map vn ([e] ++ o ++ k.reverse.map mate)))
      rw [List.map_append, List.map_append]
      rfl

def numK (L : List (List Nat)) : List (Key × V) := kvm (L.flatten.map fun x => (x, vn (seat L x)))
def spNums : Sp := fun vs H Q _ => ∃ a L m, vs = [.ref a] ∧ LR H a L ∧ Dr L m ∧ L.length ≤ 300000 ∧ m ≤ 150000 ∧ ∀ H' p, Same H H' → H p = none → H' p = some (.dK (numK L)) → Q (.ref p) H'
theorem take_row {L : List (List Nat)} {j : Nat} (h : j < L.length) : (L.take (j + 1)).flatten = (L.take j).flatten ++ row L j := by
  rw [take_succ_get (row_get h), List.flatten_append, List.flatten_singleton]
/-- an end of row j is in none of the rows ahead, nor ahead in its row -/
theorem fresh_end {L : List (List Nat)} {j i x : Nat} (nd : L.flatten.Nodup) (h : j < L.length) (hx : (row L j)[i]? = some x) : x ∉ (L.take j).flatten ++ (row L j).take i := by
  have e1 : L.flatten = ((L.take j).flatten ++ (row L j).take i) ++ ((row L j).drop i ++ (L.drop (j + 1)).flatten) := by
    rw [List.append_assoc, ← List.append_assoc ((row L j).take i), List.take_append_drop, ← List.append_assoc, ← take_row h, ← List.flatten_append, List.take_append_drop]
  rw [e1, List.nodup_append] at nd
  intro z
  refine nd.2.2 x z x (List.mem_append_left _ ?_) rfl
  exact List.mem_of_getElem? (i := 0) (by rw [List.getElem?_drop]; exact hx)
theorem flat_len {L : List (List Nat)} {j i m : Nat} (h : Dr L m) (hj : j < L.length) : ((L.take j).flatten ++ (row L j).take i).length ≤ 2 * m := by
  have e1 : L.flatten = ((L.take j).flatten ++ (row L j).take i) ++ ((row L j).drop i ++ (L.drop (j + 1)).flatten) := by
    rw [List.append_assoc, ← List.append_assoc ((row L j).take i), List.take_append_drop, ← List.append_assoc, ← take_row hj, ← List.flatten_append, List.take_append_drop]
  have := congrArg List.length e1
  rw [h.len, List.length_append] at this
  omega
theorem ok_land_numbers {P : Program} {w : World} {K : PySem.W.Frag} {mg : Str → Option Value} {base : Heap} {fa : Nat → Addr} {fd : Nat → FuncData} (TX : Txt K mg fa fd) : FnOk P w K mg base CX0 1 (fa 26) (fd 26) ["lands"] spNums := by
  refine TX.F_land_numbers.ok sc_land_numbers (fun vs H Q E h => ?_) (fun cdv A outer s H vs Q E hr h => ?_)
  · obtain ⟨a, L, m, rfl, ⟨rs, ha, hx⟩, hD, hz, hm, q⟩ := h
    rfl
  · have nd := sc_land_numbers.nd
    have hu := hu_of hr
    obtain ⟨a, L, m, rfl, ⟨rs, ha, hx⟩, hD, hz, hm, q⟩ := h
    refine ⟨_, (pss_cons (ps_set (i := 1) nd rfl (Or.inl rfl) pe_dnewK)
      (pss_cons (ps_for PassesOwn.never (by rfl) (pi_enum (by rfl) TX.b_enumerate (pa_cons (pv 0) pa_nil)) (pg_tup (by rfl) (pgs_cons (pg_name (i := 2) nd rfl (Or.inl rfl)) (pgs_cons (pg_name (i := 3) nd rfl (Or.inl rfl)) pgs_nil))) (pss_one (ps_for PassesOwn.never (by rfl) (pi_list (pv 3)) (pg_name (i := 4) nd rfl (Or.inl rfl)) (pss_one (ps_dput hu (pv 1) (pv 4) (pv 2) rfl)))))
      (pss_one (ps_ret (pv 1))))), ?_⟩
    refine q_asg fun d nd0 => ?_
    have s1 := same_upd (o := HO.dK []) nd0
    refine sq (s_forE (a1 vv) (s1 _ _ ha) (fun i σ H' => ∃ y2 y3 y4, σ = [some (.ref a), some (.ref d), y2, y3, y4] ∧ Same H H' ∧ H' d = some (.dK (kvm ((L.take i).flatten.map fun x => (x, vn (seat L x))))))
      ⟨none, none, none, rfl, s1, upd_same⟩ (fun i σ H' _ h => ?_) (fun j x σ H1 H2 hj h s => ?_) (fun σ H' h => ?_))
    · obtain ⟨_, _, _, _, sm, _⟩ := h
      exact sm _ _ ha
    · obtain ⟨y2, y3, y4, rfl, sm, hd⟩ := h
      obtain ⟨r, hr, rfl⟩ := ref_get' hj
      have hjl : j < L.length := by rw [← hx.1]; exact (List.getElem?_eq_some_iff.mp hr).1
      have hw := row_get hjl
      have hLr := hx.2 j r _ hr hw
      refine s_forLn vv (s _ _ (sm _ _ hLr)) (fun i σ H' => ∃ y4, σ = [some (.ref a), some (.ref d), some (vn j), some (.ref r), y4] ∧ Same H H' ∧ H' d = some (.dK (kvm (((L.take j).flatten ++ (row L j).take i).map fun x => (x, vn (seat L x))))))
        ⟨y4, rfl, sm.trans s, by simpa using s _ _ hd⟩ (fun i σ H' _ h => ?_) (fun i x σ H' hi h => ?_) (fun σ H' h => ?_)
      · obtain ⟨_, _, sm', _⟩ := h
        exact sm' _ _ hLr
      · obtain ⟨y4', rfl, sm', hd'⟩ := h
        obtain ⟨e, he, rfl⟩ := vns_get' hi
        have hst := (row_end hD (List.mem_of_getElem? he)).2
        have hf := fresh_end hD.nd hjl he
        have hfl := flat_len (i := i) hD hjl
        have hno : (((L.take j).flatten ++ (row L j).take i).map fun x => (x, vn (seat L x))).lookup e = none := lookup_none (g := fun x => x) (f := fun x => vn (seat L x)) fun y hy z => hf (z ▸ hy)
        refine s_dput (v := vn j) vv vv vv (by rw [kvm_len, List.length_map]; omega) hd' (pn ?_)
        rw [kvm_snoc _ hno]
        refine ⟨_, rfl, same_mut sm' nd0, ?_⟩
        rw [upd_same, take_succ_get he, ← List.append_assoc, List.map_append (l₂ := [e]), List.map_singleton, hst]
      · obtain ⟨y4', rfl, sm', hd'⟩ := h
        rw [vns_len, List.take_length, ← take_row hjl] at hd'
        exact pn ⟨_, _, _, rfl, sm', hd'⟩
    · obtain ⟨y2, y3, y4, rfl, sm, hd⟩ := h
      rw [List.length_map, hx.1, List.take_length] at hd
      exact pn (s_ret vv (q H' d sm nd0 hd))

end RF
namespace RF
open PySem PySem.Spec PyProof.Rows L2
/-! ### promises and defs: the tree of lands, the ties left -/
def InsV (H : Hp) (a : Addr) (S : List Nat) (n : Nat) : Prop := ∃ kvs : List (Key × V), H a = some (.dK kvs) ∧ kvs.length ≤ n ∧ ∀ k : Nat, (valV kvs (.inl (k : Int))).isSome = decide (k ∈ S)
theorem insV_put {kvs : List (Key × V)} {S : List Nat} {t : Nat} (h : ∀ k : Nat, (valV kvs (.inl (k : Int))).isSome = decide (k ∈ S)) : ∀ k : Nat, (valV (putK kvs (.inl (t : Int)) (V.bl true)) (.inl (k : Int))).isSome = decide (k ∈ S ++ [t]) := by
  intro k
  rw [valV_put]
  by_cases z : k = t
  · subst z
    rw [if_pos rfl, decide_eq_true (List.mem_append_right _ (List.mem_singleton.mpr rfl))]; rfl
  · rw [if_neg fun y => z (by have := Sum.inl.inj y; omega), h k]
    refine decide_eq_decide.mpr ⟨fun y => List.mem_append_left _ y, fun y => ?_⟩
    rcases List.mem_append.mp y with y | y
    · exact y
    · exact absurd (List.mem_singleton.mp y) z
theorem insV_neg {kvs : List (Key × V)} {S : List Nat} (h : ∀ k : Nat, (valV kvs (.inl (k : Int))).isSome = decide (k ∈ S)) : ∀ k : Nat, (valV (putK kvs (.inl (-1)) (V.bl true)) (.inl (k : Int))).isSome = decide (k ∈ S) := by
  intro k
  rw [valV_put, if_neg fun y => (by have := Sum.inl.inj y; omega), h k]
/-- for end in d.values(): inside[end // 2] = True -/
theorem s_insides {σ : L2.St} {H : Hp} {D : Ends} {jd n root : Nat} {d ins : Addr} {S : List Nat} {T : List (Nat × Nat)} (hj : σ[jd]? = some (some (.ref d))) (hjn : jd ≠ 4) (h3 : σ[3]? = some (some (.ref ins))) (hl : 4 < σ.length) (hd : H d = some (.dK (treeK root T))) (hne : ins ≠ d)
    (hI : InsV H ins S n) (hn : n + T.length ≤ 900000) (k : ∀ y H', (∀ a, a ≠ ins → H' a = H a) → InsV H' ins (S ++ ties T) (n + T.length + 1) → D.nx (σ.set 4 y) H') :
    tLock (tFor (iVals (tVar jd)) (gName 4) (sDPut (tVar 3) (tOp (rI CDiv fun i j => V.int (i / j)) (tVar 4) (tC (V.int 2))) (tC (V.bl true)))) D σ H := by
  obtain ⟨kv0, hk0, hkl0, hkv0⟩ := hI
  have e4 : σ[4]? = some σ[4] := List.getElem?_eq_getElem hl
  refine s_forV (kvs := treeK root T) (fun H => vv hj) hd (fun j σ' H' => ∃ y, σ' = σ.set 4 y ∧ (∀ a, a ≠ ins → H' a = H a) ∧ ∃ kvs : List (Key × V), H' ins = some (.dK kvs) ∧ kvs.length ≤ n + j ∧ ∀ k : Nat, (valV kvs (.inl (k : Int))).isSome = decide (k ∈ S ++ ties (T.take (j - 1))))
    ⟨σ[4], ?_, fun _ _ => rfl, kv0, hk0, hkl0, fun k => ?_⟩ (fun j kk v σ' H' hkv h od => ?_) (fun σ' H' h => ?_)
  · rw [List.set_getElem_self]
  · rw [hkv0 k]; simp [ties]
  · obtain ⟨y, rfl, hH, kvs, hk, hkl, hkv1⟩ := h
    have e3 : ∀ v, ((σ.set 4 y).set 4 (some v))[3]? = some (some (.ref ins)) := fun v => by
      rw [List.set_set, List.getElem?_set_ne (by omega)]; exact h3
    have e4' : ∀ v, ((σ.set 4 y).set 4 (some v))[4]? = some (some v) := fun v => by
      rw [List.set_set, List.getElem?_set_self hl]
    have hd' : H' d = some (.dK (treeK root T)) := by rw [hH d hne.symm]; exact hd
    have hki : (upd H' d (.frz od (.dK (treeK root T)))) ins = some (.dK kvs) := (upd_ne hne).trans hk
    have hjl := (List.getElem?_eq_some_iff.mp hkv).1
    rw [treeK_len] at hjl
    have back : ∀ X, upd (upd (upd H' d (.frz od (.dK (treeK root T)))) ins X) d (.dK (treeK root T)) = upd H' ins X := fun X => by
      funext a
      by_cases z1 : a = d
      · subst z1
        rw [upd_same, upd_ne hne.symm]; exact hd'.symm
      · rw [upd_ne z1]
        by_cases z2 : a = ins
        · subst z2; rw [upd_same, upd_same]
        · rw [upd_ne z2, upd_ne z2, upd_ne z1]
    cases j with
    | zero =>
      have ev : v = V.int (-1) := by
        have := Option.some.inj hkv
        exact (congrArg Prod.snd this).symm
      subst ev
      refine s_dput (m := -1) vc (vv (e3 _)) (vto (vdiv (vv (e4' _)) vc ⟨by decide, by decide⟩) rfl) (by omega) hki (pn ⟨(upd_ne hne.symm).trans upd_same, some (V.int (-1)), ?_, ?_, putK kvs (.inl (-1)) (.bl true), ?_, ?_, ?_⟩)
      · rw [List.set_set]
      · intro a ha
        rw [back, upd_ne ha]; exact hH a ha
      · rw [back]; exact upd_same
      · exact Nat.le_trans (length_putK _ _ _) (by omega)
      · exact insV_neg hkv1
    | succ j =>
      have hjT : j < T.length := by omega
      obtain ⟨q, e, hTe⟩ : ∃ q e, T[j]? = some (q, e) := ⟨T[j].1, T[j].2, List.getElem?_eq_getElem hjT⟩
      have ev : v = vn e := by
        unfold treeK kvm at hkv
        rw [List.map_cons, List.getElem?_cons_succ, List.getElem?_map, List.getElem?_map, hTe] at hkv
        exact (congrArg Prod.snd (Option.some.inj hkv)).symm
      subst ev
      refine s_dput (m := ((e / 2 : Nat) : Int)) vc (vv (e3 _)) (vdivn (vv (e4' _)) (vcn 2) ⟨by decide, by decide⟩) (by omega) hki (pn ⟨(upd_ne hne.symm).trans upd_same, some (vn e), ?_, ?_, putK kvs (.inl ((e / 2 : Nat) : Int)) (.bl true), ?_, ?_, ?_⟩)
      · rw [List.set_set]
      · intro a ha
        rw [back, upd_ne ha]; exact hH a ha
      · rw [back]; exact upd_same
      · exact Nat.le_trans (length_putK _ _ _) (by omega)
      · have := insV_put (t := e / 2) hkv1
        have et : ties (T.take (j + 1 + 1 - 1)) = ties (T.take (j + 1 - 1)) ++ [e / 2] := by
          unfold ties
          rw [Nat.add_sub_cancel, Nat.add_sub_cancel, take_succ_get hTe, List.map_append]; rfl
        rw [et, ← List.append_assoc]
        exact this
  · obtain ⟨y, rfl, hH, kvs, hk, hkl, hkv1⟩ := h
    rw [treeK_len, Nat.add_sub_cancel, List.take_length] at hkv1
    rw [treeK_len] at hkl
    exact k y H' hH ⟨kvs, hk, by omega, hkv1⟩
theorem ex_dgetx {σ : L2.St} {H : Hp} {td ty : TE} {Q : VK} (h : td σ H fun x H1 => ty σ H1 fun y H2 => ∃ a v, x = .ref a ∧ DGet H2 a y (some v) ∧ Q v H2) : tDGet td ty σ H Q := h
theorem dget_n {H : Hp} {d : Addr} {kvs : List (Key × V)} {k : Nat} {v : V} {Q : VK} (hv : valV kvs (.inl (k : Int)) = some v) (hd : H d = some (.dK kvs)) (q : Q v H) : ∃ a v', V.ref d = .ref a ∧ DGet H a (vn k) (some v') ∧ Q v' H := ⟨d, v, rfl, hv ▸ DGet.k (k := Sum.inl (k : Int)) hd, q⟩
theorem numK_get {L : List (List Nat)} {x : Nat} (h : x ∈ L.flatten) : valV (numK L) (.inl (x : Int)) = some (vn (seat L x)) := by
  unfold numK
  rw [valV_kvm]
  exact lookup_some (g := fun x => x) (f := fun x => vn (seat L x)) h fun b _ e => by rw [e]
theorem insV_in {H : Hp} {a : Addr} {S : List Nat} {n : Nat} {σ : L2.St} {td ty : TE} {k : Nat} (hI : InsV H a S n) (hb : Va ty σ H (vn k)) (ha : Va td σ H (.ref a)) : Va (tDNotIn ty td) σ H (.bl (!decide (k ∈ S))) := by
  obtain ⟨kvs, h1, _, h2⟩ := hI
  exact vdnotin hb ha (h2 k) h1
def spLT : Sp := fun vs H Q _ => ∃ a d L m root T f, vs = [.ref a, .ref d, vn f] ∧ LR H a L ∧ Dr L m ∧ H d = some (.dK (treeK root T)) ∧ T.length ≤ 200000 ∧ f < L.length ∧ L.length ≤ 300000 ∧ m ≤ 150000 ∧ ∀ H' p TW, Same H H' → H p = none → H' p = some (.dK (treeK f TW)) → IsLT L (fun k => k ∈ ties T) f TW → (∀ l ∈ tkeys f TW, ∀ e ∈ row L l, e / 2 ∉ ties T → seat L (mate e) ∈ tkeys f TW) → Q (.ref p) H'
theorem ok_land_tree {P : Program} {w : World} {K : PySem.W.Frag} {mg : Str → Option Value} {base : Heap} {fa : Nat → Addr} {fd : Nat → FuncData} (TX : Txt K mg fa fd) : FnOk P w K mg base CX0 2 (fa 27) (fd 27) ["lands", "nearer", "first"] spLT := by
  refine TX.F_land_tree.ok sc_land_tree (fun vs H Q E h => ?_) (fun cdv A outer s H vs Q E hr h => ?_)
  · obtain ⟨a, d0, L, m, root, T, f, rfl, hA, hD, hd0, hTl, hf, hz, hm, q⟩ := h
    rfl
  · have nd := sc_land_tree.nd
    have hu := hu_of hr
    obtain ⟨a, d0, L, m, root, T, f, rfl, hA, hD, hd0, hTl, hf, hz, hm, q⟩ := h
    refine ⟨_, (pss_cons (ps_set (i := 3) nd rfl (Or.inl rfl) pe_dnewK)
      (pss_cons (ps_lock (ps_for PassesOwn.never (by rfl) (pi_values (pv 1)) (pg_name (i := 4) nd rfl (Or.inl rfl)) (pss_one (ps_dput hu (pv 3) (pe_op op_fdiv (pv 4) pe_int) pe_bl rfl))))
      (pss_cons (ps_set (i := 5) nd rfl (Or.inl rfl) (pe_call (ok_land_numbers TX) (hr.mono (by decide)) (by rfl) TX.g_land_numbers TX.F_land_numbers.kp TX.B_land_numbers .nil pass0 (pa_cons (pv 0) pa_nil)))
      (pss_cons (ps_set (i := 6) nd rfl (Or.inl rfl) (pe_disp (pps_cons (pv 2) (pe_un un_neg pe_int) pps_nil) (by rfl) (by rfl) (fun z => by cases z) (by decide)))
      (pss_cons (ps_set (i := 7) nd rfl (Or.inl rfl) (pe_lst (pa_cons (pv 2) pa_nil)))
      (pss_cons (ps_set (i := 8) nd rfl (Or.inl rfl) pe_int)
      (pss_cons (ps_while PassesOwn.never (pt_cmpR op_lt (pv 8) (pe_callB call_len_seq (by rfl) TX.b_len PySem.boot_len (pa_cons (pv 7) pa_nil)) (nomark _)) (pss_cons (ps_for PassesOwn.never (by rfl) (pi_list (pe_ix ix_list (pv 0) (pe_ix ix_list (pv 7) (pv 8) (fun _ _ => rfl)) (fun _ _ => rfl))) (pg_name (i := 4) nd rfl (Or.inl rfl)) (pss_cons (ps_set (i := 9) nd rfl (Or.inl rfl) (pe_dget hu (pv 5) (pe_call (ok_mate_of TX) (hr.mono (by decide)) (by rfl) TX.g_mate_of TX.F_mate_of.kp TX.B_mate_of .nil pass0 (pa_cons (pv 4) pa_nil)) (fun _ _ => rfl)))
      (pss_one (ps_if (PW.pt (pw_and (pt_cmp (pc_dnotin hu (pe_op op_fdiv (pv 4) pe_int) (pv 3))) (pw_and1 (pt_cmp (pc_dnotin hu (pv 9) (pv 6)))))) (pss_cons (ps_dput hu (pv 6) (pv 9) (pe_call (ok_mate_of TX) (hr.mono (by decide)) (by rfl) TX.g_mate_of TX.F_mate_of.kp TX.B_mate_of .nil pass0 (pa_cons (pv 4) pa_nil)) rfl)
      (pss_one (ps_expr (pe_bm PySem.F.plainAttrs_list PySem.F.slot_list_append PySem.F.type_list_append mt_append (pv 7) (pa_cons (pv 9) pa_nil))))) pss_nil))))
      (pss_one (ps_aug (i := 8) nd rfl (Or.inl rfl) pe_int ip_add))))
      (pss_one (ps_ret (pv 6)))))))))), ?_⟩
    refine q_asg fun ins nins => ?_
    have s1 := same_upd (o := HO.dK []) nins
    have hne : ins ≠ d0 := fun z => by rw [z, hd0] at nins; cases nins
    refine sq (s_insides (S := []) (n := 0) rfl (by decide) rfl (by show 4 < 10; decide) (s1 _ _ hd0) hne ⟨[], upd_same, Nat.le_refl _, fun k => rfl⟩ (by omega) fun y H1 hH1 hI1 => pn ?_)
    rw [List.nil_append, Nat.zero_add] at hI1
    have sm1 : Same H H1 := fun b o e => by
      have hb : b ≠ ins := fun z => by rw [z, nins] at e; cases e
      rw [hH1 b hb, upd_ne hb]; exact e
    refine q_call (a1 vv) ⟨a, L, m, rfl, hA.mono sm1, hD, by omega, by omega, fun H2 nm s2 nnm hnm => ?_⟩
    refine q_asg (ex_disp vv (fun _ _ => vneg vc) (fun _ _ => vv) fun d nd0 => ?_)
    have s3 : Same H2 (upd H2 d (.dK [(Sum.inl (f : Int), V.int (-1))])) := same_upd nd0
    refine q_asg (ex_lst (a1 vv) (by show 1 ≤ sizeLine; decide) fun w nw => ?_)
    have s4 := same_upd (o := HO.lst [vn f]) nw
    have nd1 : H d = none := (sm1.trans s2).free nd0
    have nw1 : H w = none := ((sm1.trans s2).trans s3).free nw
    have ndw : d ≠ w := ne_of_none upd_same nw
    obtain ⟨ki, hki, hkl, hkv⟩ := hI1
    have nid : ins ≠ d := ne_of_none (s2 _ _ hki) nd0
    have niw : ins ≠ w := ne_of_none (s3 _ _ (s2 _ _ hki)) nw
    have nnd : nm ≠ d := ne_of_none hnm nd0
    have nnw : nm ≠ w := ne_of_none (s3 _ _ hnm) nw
    refine q_set (vcn 0) ?_
    obtain ⟨as, ha, hxa⟩ := hA
    refine sq (s_while (fun M σ H' => ∃ k TW y4 y9, σ = [some (.ref a), some (.ref d0), some (vn f), some (.ref ins), y4, some (.ref nm), some (.ref d), some (.ref w), some (vn k), y9] ∧ Same H H' ∧ H' nm = some (.dK (numK L)) ∧ H' ins = some (.dK ki) ∧ H' d = some (.dK (treeK f TW)) ∧ LI H' w (tkeys f TW) ∧ LtI L (fun k => k ∈ ties T) f TW k [] ∧ L.length ≤ M + k)
      L.length ⟨0, [], y, none, rfl, ((sm1.trans s2).trans s3).trans s4, s4 _ _ (s3 _ _ hnm), s4 _ _ (s3 _ _ (s2 _ _ hki)), (upd_ne ndw).trans upd_same, upd_same, LtI.first hf, by omega⟩ (fun M σ H' h => ?_))
    obtain ⟨k, TW, y4, y9, rfl, sm, hnm', hin', hd, hw, hI, hM⟩ := h
    have hlen := hI.tree.len
    refine ⟨_, at_ (vltn vv (vlen vv (vns_len _) hw)), fun hyes => ?_, fun hno => ?_⟩
    · have hk : k < (tkeys f TW).length := of_decide_eq_true hyes
      have hp := get_getD hk
      revert hp
      generalize (tkeys f TW).getD k 0 = p
      intro hp
      have hpl := hI.tree.lt p (List.mem_of_getElem? hp)
      have hrow := row_get hpl
      obtain ⟨r0, hr0, hl0⟩ := hxa.get hrow
      refine sq (s_forLn (vixr vv (vixn vv vv hp hw) hr0 (sm _ _ ha)) (sm _ _ hl0) (fun i σ H2 => ∃ T2 y4 y9, σ = [some (.ref a), some (.ref d0), some (vn f), some (.ref ins), y4, some (.ref nm), some (.ref d), some (.ref w), some (vn k), y9] ∧ Same H H2 ∧ H2 nm = some (.dK (numK L)) ∧ H2 ins = some (.dK ki) ∧ H2 d = some (.dK (treeK f T2)) ∧ LI H2 w (tkeys f T2) ∧ LtI L (fun k => k ∈ ties T) f T2 k ((row L p).take i) ∧ (tkeys f T2)[k]? = some p)
        ⟨TW, _, _, rfl, sm, hnm', hin', hd, hw, hI, hp⟩ (fun i σ H2 _ h => ?_) (fun i x σ H2 hi h => ?_) (fun σ H2 h => ?_))
      · obtain ⟨_, _, _, _, sm2, _⟩ := h
        exact sm2 _ _ hl0
      · obtain ⟨T2, y4', y9', rfl, sm2, hnm2, hin2, hd2, hw2, hI2, hp2⟩ := h
        obtain ⟨e, he, rfl⟩ := vns_get' hi
        have hem := List.mem_of_getElem? he
        obtain ⟨hlt, hse⟩ := row_end hD hem
        have hlen2 := hI2.tree.len
        have hl3 : T2.length + 1 = (tkeys f T2).length := by unfold tkeys; rw [List.length_cons, List.length_map]
        refine q_set (v := vn (seat L (mate e))) (vdget vv (vmate vv) (numK_get ((hD.mem _).mpr (mate_lt hlt))) hnm2) ?_
        refine s_when (q := e / 2 ∉ ties T ∧ seat L (mate e) ∉ tkeys f T2) (ato (aand (aB (vdnotin (vdivn vv (vcn 2) ⟨by decide, by decide⟩) vv (hkv (e / 2)) hin2)) fun _ => aB (vdnotin vv vv (treeK_in hI2.tree.nd _) hd2)) (by rw [← decide_not, ← decide_not]; exact (Bool.decide_and _ _).symm)) (fun hnew => ?_) (fun hold => pn ⟨T2, _, _, rfl, sm2, hnm2, hin2, hd2, hw2, ?_, hp2⟩)
        · refine q_dput (v := vn (mate e)) (vmate vv) vv vv (by rw [treeK_len]; omega) hd2 ?_
          rw [treeK_put (mate e) hnew.2]
          refine s_app vv vv ((upd_ne ndw.symm).trans hw2) (by rw [vns_len]; omega) (pn ⟨T2 ++ [(seat L (mate e), mate e)], _, _, rfl, same_mut (same_mut sm2 nd1) nw1, (upd_ne nnw).trans ((upd_ne nnd).trans hnm2), (upd_ne niw).trans ((upd_ne nid).trans hin2), (upd_ne ndw).trans upd_same, ?_, ?_, ?_⟩)
          · rw [tkeys_snoc]
            refine upd_same.trans ?_
            rw [vns_snoc]
          · rw [take_succ_get he]
            exact hI2.add hD hp2 hem hnew.1 hnew.2
          · rw [tkeys_snoc, List.getElem?_append_left (List.getElem?_eq_some_iff.mp hp2).1]
            exact hp2
        · rw [take_succ_get he]
          exact hI2.skip fun z => Classical.not_not.mp fun z2 => hold ⟨z, z2⟩
      · obtain ⟨T2, y4', y9', rfl, sm2, hnm2, hin2, hd2, hw2, hI2, hp2⟩ := h
        rw [vns_len, List.take_length] at hI2
        refine pn (s_augI (m := k) (n := 1) rfl vc (pn ⟨M - 1, by omega, k + 1, T2, _, _, rfl, sm2, hnm2, hin2, hd2, hw2, hI2.next hp2, by omega⟩))
    · have hk : (tkeys f TW).length ≤ k := by have := of_decide_eq_false hno; omega
      exact pn (s_ret vv (q H' d TW sm nd1 hd hI.tree (hI.all hk)))

theorem seenK_old {K : List Nat} {q : Nat} (h : q ∈ K) : putK (seenK K) (.inl (q : Int)) (V.bl true) = seenK K := by
  unfold putK
  have e : ((seenK K).any fun kv => decide (kv.1 = Sum.inl (q : Int))) = true := by
    rw [valV_any, seenK_in, decide_eq_true h]
  rw [if_pos e]
  unfold seenK kvm
  simp only [List.map_map]
  refine List.map_congr_left fun x _ => ?_
  show (if (Sum.inl (x : Int) : Key) = Sum.inl (q : Int) then _ else _) = _
  split <;> rfl
def spLeft : Sp := fun vs H Q _ => ∃ a d1 d2 rows m r1 T1 r2 T2, vs = [.ref a, .ref d1, .ref d2] ∧ LR H a rows ∧ Dr rows m ∧ H d1 = some (.dK (treeK r1 T1)) ∧ H d2 = some (.dK (treeK r2 T2)) ∧ (∀ q ∈ tkeys r1 T1, q < rows.length) ∧ T1.length ≤ 200000 ∧ T2.length ≤ 400000 ∧ rows.length ≤ 100000 ∧ m ≤ 100000 ∧
  ∀ H' p left, Same H H' → H p = none → LI H' p left → (∀ k, k ∈ left ↔ (∃ q ∈ tkeys r1 T1, ∃ e ∈ row rows q, e / 2 = k) ∧ k ∉ ties T1 ∧ k ∉ ties T2) → Q (.ref p) H'
theorem ok_left_ties {P : Program} {w : World} {K : PySem.W.Frag} {mg : Str → Option Value} {base : Heap} {fa : Nat → Addr} {fd : Nat → FuncData} (TX : Txt K mg fa fd) : FnOk P w K mg base CX0 1 (fa 28) (fd 28) ["drawing", "nearer", "towards"] spLeft := by
  refine TX.F_left_ties.ok sc_left_ties (fun vs H Q E h => ?_) (fun cdv A outer s H vs Q E hr h => ?_)
  · obtain ⟨a, d1, d2, rows, m, r1, T1, r2, T2, rfl, hA, hD, hd1, hd2, hkeys, hT1, hT2, hz, hm, q⟩ := h
    rfl
  · have nd := sc_left_ties.nd
    have hu := hu_of hr
    obtain ⟨a, d1, d2, rows, m, r1, T1, r2, T2, rfl, hA, hD, hd1, hd2, hkeys, hT1, hT2, hz, hm, q⟩ := h
    refine ⟨_, (pss_cons (ps_set (i := 3) nd rfl (Or.inl rfl) pe_dnewK)
      (pss_cons (ps_lock (ps_for PassesOwn.never (by rfl) (pi_values (pv 1)) (pg_name (i := 4) nd rfl (Or.inl rfl)) (pss_one (ps_dput hu (pv 3) (pe_op op_fdiv (pv 4) pe_int) pe_bl rfl))))
      (pss_cons (ps_lock (ps_for PassesOwn.never (by rfl) (pi_values (pv 2)) (pg_name (i := 4) nd rfl (Or.inl rfl)) (pss_one (ps_dput hu (pv 3) (pe_op op_fdiv (pv 4) pe_int) pe_bl rfl))))
      (pss_cons (ps_set (i := 5) nd rfl (Or.inl rfl) pe_dnewK)
      (pss_cons (ps_lock (ps_for PassesOwn.never (by rfl) (pi_keys (pv 1)) (pg_name (i := 6) nd rfl (Or.inl rfl)) (pss_one (ps_for PassesOwn.never (by rfl) (pi_list (pe_ix ix_list (pv 0) (pv 6) (fun _ _ => rfl))) (pg_name (i := 4) nd rfl (Or.inl rfl)) (pss_one (ps_if (pt_cmp (pc_dnotin hu (pe_op op_fdiv (pv 4) pe_int) (pv 3))) (pss_one (ps_dput hu (pv 5) (pe_op op_fdiv (pv 4) pe_int) pe_bl rfl)) pss_nil))))))
      (pss_one (ps_ret (pe_callB (call_sortedDA rfl) (by rfl) TX.b_sorted (by decide +kernel) (pa_cons (pv 5) pa_nil))))))))), ?_⟩
    refine q_asg fun ins nins => ?_
    have s1 := same_upd (o := HO.dK []) nins
    have hne1 : ins ≠ d1 := fun z => by rw [z, hd1] at nins; cases nins
    have hne2 : ins ≠ d2 := fun z => by rw [z, hd2] at nins; cases nins
    refine sq (s_insides (S := []) (n := 0) rfl (by decide) rfl (by show 4 < 7; decide) (s1 _ _ hd1) hne1 ⟨[], upd_same, Nat.le_refl _, fun k => rfl⟩ (by omega) fun y H1 hH1 hI1 => pn ?_)
    rw [List.nil_append, Nat.zero_add] at hI1
    have hd21 : H1 d2 = some (.dK (treeK r2 T2)) := by rw [hH1 d2 hne2.symm, upd_ne hne2.symm]; exact hd2
    refine sq (s_insides (σ := [some (.ref a), some (.ref d1), some (.ref d2), some (.ref ins), y, none, none]) rfl (by decide) rfl (by show 4 < 7; decide) hd21 hne2 hI1 (by omega) fun y2 H2 hH2 hI2 => pn ?_)
    have sm2 : Same H H2 := fun b o e => by
      have hb : b ≠ ins := fun z => by rw [z, nins] at e; cases e
      rw [hH2 b hb, hH1 b hb, upd_ne hb]; exact e
    obtain ⟨ki, hki, hkl, hkv⟩ := hI2
    refine q_asg fun d nd0 => ?_
    have nd1 : H d = none := sm2.free nd0
    have nid : ins ≠ d := ne_of_none hki nd0
    have s3 := same_upd (o := HO.dK []) nd0
    obtain ⟨as, ha, hxa⟩ := hA
    have hdd1 : d ≠ d1 := fun z => by rw [z, hd1] at nd1; cases nd1
    have hkn : ∀ {k : Nat}, k ∉ ties T1 ++ ties T2 ↔ k ∉ ties T1 ∧ k ∉ ties T2 := fun {k} => by rw [List.mem_append, not_or]
    have hkeyAt : ∀ (j : Nat) kk v, (treeK r1 T1)[j]? = some (kk, v) → ∃ p, (tkeys r1 T1)[j]? = some p ∧ kk = Sum.inl (p : Int) := fun j kk v h => by
      unfold treeK kvm at h
      rw [List.getElem?_map] at h
      cases j with
      | zero => exact ⟨r1, rfl, (congrArg Prod.fst (Option.some.inj h)).symm⟩
      | succ j =>
        rw [List.getElem?_cons_succ, List.getElem?_map] at h
        unfold tkeys
        rw [List.getElem?_cons_succ, List.getElem?_map]
        cases hT : T1[j]? with
        | none => rw [hT] at h; cases h
        | some p => rw [hT] at h; exact ⟨p.1, rfl, (congrArg Prod.fst (Option.some.inj h)).symm⟩
    -- for place in nearer: for end in drawing[place]: ..
    refine sq (s_forK (kvs := treeK r1 T1) (fun H => vv) (s3 _ _ (sm2 _ _ hd1)) (fun i σ H' => ∃ y4 y6 Lk, σ = [some (.ref a), some (.ref d1), some (.ref d2), some (.ref ins), y4, some (.ref d), y6] ∧ Same H H' ∧ H' ins = some (.dK ki) ∧ H' d = some (.dK (seenK Lk)) ∧ Lk.Nodup ∧ (∀ k ∈ Lk, k < m) ∧ ∀ k, k ∈ Lk ↔ (∃ q ∈ (tkeys r1 T1).take i, ∃ e ∈ row rows q, e / 2 = k) ∧ k ∉ ties T1 ++ ties T2)
      ⟨y2, none, [], rfl, sm2.trans s3, (upd_ne nid).trans hki, upd_same, List.nodup_nil, fun k hk => (by cases hk), fun k => ⟨fun z => (by cases z), fun ⟨⟨q, hq, _⟩, _⟩ => (by simp at hq)⟩⟩ (fun i σ H' _ h => ?_) (fun j kk v σ H' hkj h od => ?_) (fun σ H' h => ?_))
    · obtain ⟨_, _, _, _, sm', _⟩ := h
      exact sm' _ _ hd1
    · obtain ⟨y4, y6, Lk, rfl, sm', hin', hd', hn', hlt', hiff⟩ := h
      obtain ⟨p, hp, rfl⟩ := hkeyAt j kk v hkj
      have hpl := hkeys p (List.mem_of_getElem? hp)
      have hrow := row_get hpl
      obtain ⟨r0, hr0, hl0⟩ := hxa.get hrow
      have had1 : a ≠ d1 := ne_of ha hd1 (by intro z; cases z)
      have hrd1 : r0 ≠ d1 := ne_of hl0 hd1 (by intro z; cases z)
      have hid1 : ins ≠ d1 := hne1
      refine s_forLn (vixr vv vv hr0 ((upd_ne had1).trans (sm' _ _ ha))) ((upd_ne hrd1).trans (sm' _ _ hl0)) (fun i σ H3 => ∃ y4 Lk, σ = [some (.ref a), some (.ref d1), some (.ref d2), some (.ref ins), y4, some (.ref d), some (vn p)] ∧ (∀ b, b ≠ d → b ≠ d1 → H3 b = H' b) ∧ H3 d1 = some (.frz od (.dK (treeK r1 T1))) ∧ H3 d = some (.dK (seenK Lk)) ∧ Lk.Nodup ∧ (∀ k ∈ Lk, k < m) ∧ ∀ k, k ∈ Lk ↔ ((∃ q ∈ (tkeys r1 T1).take j, ∃ e ∈ row rows q, e / 2 = k) ∨ ∃ e ∈ (row rows p).take i, e / 2 = k) ∧ k ∉ ties T1 ++ ties T2)
        ⟨y4, Lk, rfl, fun b _ h2 => upd_ne h2, upd_same, (upd_ne hdd1).trans hd', hn', hlt', fun k => by rw [hiff k]; simp⟩ (fun i σ H3 _ h => ?_) (fun i x σ H3 hi h => ?_) (fun σ H3 h => ?_)
      · obtain ⟨_, _, _, hH3, _⟩ := h
        have hr0d : r0 ≠ d := ne_of_none hl0 nd1
        rw [hH3 r0 hr0d hrd1]
        exact sm' _ _ hl0
      · obtain ⟨y4', Lk', rfl, hH3, hd13, hd3, hn3, hlt3, hiff3⟩ := h
        obtain ⟨e, he, rfl⟩ := vns_get' hi
        have hem := List.mem_of_getElem? he
        obtain ⟨hlt, hse⟩ := row_end hD hem
        have hin3 : H3 ins = some (.dK ki) := by rw [hH3 ins nid hid1]; exact hin'
        have hstep : ∀ k, (∃ e' ∈ (row rows p).take (i + 1), e' / 2 = k) ↔ (∃ e' ∈ (row rows p).take i, e' / 2 = k) ∨ e / 2 = k := fun k => by
          rw [take_succ_get he]
          constructor
          · rintro ⟨e', h1, h2⟩
            rcases List.mem_append.mp h1 with h1 | h1
            · exact .inl ⟨e', h1, h2⟩
            · cases List.mem_singleton.mp h1; exact .inr h2
          · rintro (⟨e', h1, h2⟩ | h2)
            · exact ⟨e', List.mem_append_left _ h1, h2⟩
            · exact ⟨e, List.mem_append_right _ (List.mem_singleton.mpr rfl), h2⟩
        refine s_when (q := e / 2 ∉ ties T1 ++ ties T2) (aB (vto (vdnotin (vdivn vv (vcn 2) ⟨by decide, by decide⟩) vv (hkv (e / 2)) hin3) (by rw [← decide_not]))) (fun hnew => ?_) (fun hold => pn ⟨_, Lk', rfl, hH3, hd13, hd3, hn3, hlt3, fun k => ?_⟩)
        · have hcnt := nodup_sub_len (l₂ := List.range m) hn3 fun x hx => List.mem_range.mpr (hlt3 x hx)
          rw [List.length_range] at hcnt
          refine s_dput (m := ((e / 2 : Nat) : Int)) vc vv (vdivn vv (vcn 2) ⟨by decide, by decide⟩) (by rw [seenK_len]; omega) hd3 (pn ?_)
          by_cases hk : e / 2 ∈ Lk'
          · rw [seenK_old hk]
            refine ⟨_, Lk', rfl, fun b h1 h2 => (upd_ne h1).trans (hH3 b h1 h2), (upd_ne hdd1.symm).trans hd13, upd_same, hn3, hlt3, fun k => ?_⟩
            rw [hiff3 k, hstep k]
            constructor
            · rintro ⟨h1 | h1, h2⟩
              · exact ⟨.inl h1, h2⟩
              · exact ⟨.inr (.inl h1), h2⟩
            · rintro ⟨h1 | h1 | h1, h2⟩
              · exact ⟨.inl h1, h2⟩
              · exact ⟨.inr h1, h2⟩
              · rw [← h1]; exact (hiff3 _).mp hk
          · rw [seenK_put hk]
            refine ⟨_, Lk' ++ [e / 2], rfl, fun b h1 h2 => (upd_ne h1).trans (hH3 b h1 h2), (upd_ne hdd1.symm).trans hd13, upd_same, nd_snoc hn3 hk, fun k hk => ?_, fun k => ?_⟩
            · rcases List.mem_append.mp hk with h | h
              · exact hlt3 k h
              · cases List.mem_singleton.mp h; omega
            · rw [List.mem_append, List.mem_singleton, hiff3 k, hstep k]
              constructor
              · rintro (⟨h1 | h1, h2⟩ | h1)
                · exact ⟨.inl h1, h2⟩
                · exact ⟨.inr (.inl h1), h2⟩
                · exact ⟨.inr (.inr h1.symm), by rw [h1]; exact hnew⟩
              · rintro ⟨h1 | h1 | h1, h2⟩
                · exact .inl ⟨.inl h1, h2⟩
                · exact .inl ⟨.inr h1, h2⟩
                · exact .inr h1.symm
        · rw [hiff3 k, hstep k]
          constructor
          · rintro ⟨h1 | h1, h2⟩
            · exact ⟨.inl h1, h2⟩
            · exact ⟨.inr (.inl h1), h2⟩
          · rintro ⟨h1 | h1 | h1, h2⟩
            · exact ⟨.inl h1, h2⟩
            · exact ⟨.inr h1, h2⟩
            · rw [← h1] at h2; exact absurd h2 hold
      · obtain ⟨y4', Lk', rfl, hH3, hd13, hd3, hn3, hlt3, hiff3⟩ := h
        rw [vns_len, List.take_length] at hiff3
        refine pn ⟨hd13, _, _, Lk', rfl, fun b o eb => ?_, ?_, (upd_ne hdd1).trans hd3, hn3, hlt3, fun k => ?_⟩
        · by_cases z : b = d1
          · subst z; rw [upd_same, ← hd1]; exact eb
          · have z2 : b ≠ d := fun y => by rw [y, nd1] at eb; cases eb
            rw [upd_ne z, hH3 b z2 z]; exact sm' _ _ eb
        · rw [upd_ne hid1, hH3 ins nid hid1]; exact hin'
        · rw [hiff3 k, take_succ_get hp]
          constructor
          · rintro ⟨⟨q, hq, h1⟩ | h1, h2⟩
            · exact ⟨⟨q, List.mem_append_left _ hq, h1⟩, h2⟩
            · exact ⟨⟨p, List.mem_append_right _ (List.mem_singleton.mpr rfl), h1⟩, h2⟩
          · rintro ⟨⟨q, hq, h1⟩, h2⟩
            rcases List.mem_append.mp hq with hq | hq
            · exact ⟨.inl ⟨q, hq, h1⟩, h2⟩
            · cases List.mem_singleton.mp hq; exact ⟨.inr h1, h2⟩
    · obtain ⟨y4, y6, Lk, rfl, sm', hin', hd', hn', hlt', hiff⟩ := h
      have etk : (tkeys r1 T1).take (treeK r1 T1).length = tkeys r1 T1 := by
        refine List.take_of_length_le ?_
        rw [treeK_len]; unfold tkeys; rw [List.length_cons, List.length_map]; exact Nat.le_refl _
      rw [etk] at hiff
      refine pn (s_retx ?_)
      refine ex_cv vv (ex_nil ⟨d, seenK Lk, Lk.map Int.ofNat, rfl, hd', seenK_keys Lk, fun ys p hp ho np => ?_⟩)
      have ey : ys = (ys.map Int.toNat).map Int.ofNat := by
        rw [List.map_map]
        conv => lhs; rw [← List.map_id ys]
        refine List.map_congr_left fun x hx => ?_
        obtain ⟨k, _, rfl⟩ := List.mem_map.mp (hp.mem_iff.mp hx)
        rfl
      refine q _ p (ys.map Int.toNat) (sm'.trans (same_upd np)) (sm'.free np) ?_ fun k => ?_
      · show _ = some (HO.lst (vns _))
        rw [vns_int, ← ey, upd_same]
      · rw [← hkn, ← hiff k]
        constructor
        · intro hk
          obtain ⟨x, hx, rfl⟩ := List.mem_map.mp hk
          obtain ⟨k, h1, rfl⟩ := List.mem_map.mp (hp.mem_iff.mp hx)
          exact h1
        · intro hk
          exact List.mem_map.mpr ⟨Int.ofNat k, hp.mem_iff.mpr (List.mem_map.mpr ⟨k, hk, rfl⟩), rfl⟩

def spBoth : Sp := fun vs H Q _ => ∃ a rows m root, vs = [.ref a, vn root] ∧ LR H a rows ∧ Dr rows m ∧ root < rows.length ∧ row rows root ≠ [] ∧ rows.length ≤ 100000 ∧ m ≤ 100000 ∧
  ∀ H' t d1 d2 l T TW left, Same H H' → H' t = some (.tup [.ref d1, .ref d2, .ref l]) → H' d1 = some (.dK (treeK root T)) → LI H' l left → IsBfs rows root T → IsLT (landsF rows) (fun k => k ∈ ties T) (seat (landsF rows) ((row rows root).getD 0 0)) TW →
    (∀ x ∈ tkeys (seat (landsF rows) ((row rows root).getD 0 0)) TW, ∀ e ∈ row (landsF rows) x, e / 2 ∉ ties T → seat (landsF rows) (mate e) ∈ tkeys (seat (landsF rows) ((row rows root).getD 0 0)) TW) →
    (∀ k, k ∈ left ↔ (∃ q ∈ tkeys root T, ∃ e ∈ row rows q, e / 2 = k) ∧ k ∉ ties T ∧ k ∉ ties TW) → Q (.ref t) H'
theorem ok_both_trees {P : Program} {w : World} {K : PySem.W.Frag} {mg : Str → Option Value} {base : Heap} {fa : Nat → Addr} {fd : Nat → FuncData} (TX : Txt K mg fa fd) : FnOk P w K mg base CX0 4 (fa 29) (fd 29) ["drawing", "root"] spBoth := by
  refine TX.F_both_trees.ok sc_both_trees (fun vs H Q E h => ?_) (fun cdv A outer s H vs Q E hr h => ?_)
  · obtain ⟨a, rows, m, root, rfl, hA, hD, hrt, hne, hz, hm, q⟩ := h
    rfl
  · have nd := sc_both_trees.nd
    have hu := hu_of hr
    obtain ⟨a, rows, m, root, rfl, hA, hD, hrt, hne, hz, hm, q⟩ := h
    refine ⟨_, (pss_cons (ps_set (i := 2) nd rfl (Or.inl rfl) (pe_call (ok_lands_of TX) (hr.mono (by decide)) (by rfl) TX.g_lands_of TX.F_lands_of.kp TX.B_lands_of .nil pass0 (pa_cons (pv 0) pa_nil)))
      (pss_cons (ps_set (i := 3) nd rfl (Or.inl rfl) (pe_call (ok_tree_from TX) (hr.mono (by decide)) (by rfl) TX.g_tree_from TX.F_tree_from.kp TX.B_tree_from .nil pass0 (pa_cons (pv 0) (pa_cons (pv 1) pa_nil))))
      (pss_cons (ps_set (i := 4) nd rfl (Or.inl rfl) (pe_dget hu (pe_call (ok_land_numbers TX) (hr.mono (by decide)) (by rfl) TX.g_land_numbers TX.F_land_numbers.kp TX.B_land_numbers .nil pass0 (pa_cons (pv 2) pa_nil)) (pe_ix ix_list (pe_ix ix_list (pv 0) (pv 1) (fun _ _ => rfl)) pe_int (fun _ _ => rfl)) (fun _ _ => rfl)))
      (pss_cons (ps_set (i := 5) nd rfl (Or.inl rfl) (pe_call (ok_land_tree TX) (hr.mono (by decide)) (by rfl) TX.g_land_tree TX.F_land_tree.kp TX.B_land_tree .nil pass0 (pa_cons (pv 2) (pa_cons (pv 3) (pa_cons (pv 4) pa_nil)))))
      (pss_one (ps_ret (pe_tup (pa_cons (pv 3) (pa_cons (pv 5) (pa_cons (pe_call (ok_left_ties TX) (hr.mono (by decide)) (by rfl) TX.g_left_ties TX.F_left_ties.kp TX.B_left_ties .nil pass0 (pa_cons (pv 0) (pa_cons (pv 3) (pa_cons (pv 5) pa_nil)))) pa_nil)))))))))), ?_⟩
    refine q_call (a1 vv) ⟨a, rows, m, rfl, hA, hD, hz, hm, fun H1 lp s1 nlp hlp => ?_⟩
    have hdl := landsF_dr hD
    have hll := landsF_len hD
    refine q_call (a2 vv vv) ⟨a, rows, m, root, rfl, hA.mono s1, hD, hrt, by omega, by omega, fun H2 d1 T s2 nd1 hd1 hT => ?_⟩
    have hTl := hT.tree.len hD hrt
    have hl3 : T.length + 1 = (tkeys root T).length := by unfold tkeys; rw [List.length_cons, List.length_map]
    obtain ⟨x0, rest, hx0⟩ : ∃ x0 rest, row rows root = x0 :: rest := by
      cases hq : row rows root with
      | nil => exact absurd hq hne
      | cons x r => exact ⟨x, r, rfl⟩
    have h00 : (row rows root)[0]? = some x0 := by rw [hx0]; rfl
    have eg : (row rows root).getD 0 0 = x0 := getD_get h00
    have hx0l := (row_end hD (List.mem_of_getElem? h00)).1
    have hlr2 := hlp.lr.mono s2
    refine q_asg (ex_dgetx (ex_call (a1 vv) ⟨lp, landsF rows, m, rfl, hlr2, hdl, by omega, by omega, fun H3 nm s3 nnm hnm => ?_⟩))
    obtain ⟨as, ha, hxa⟩ := hA.mono ((s1.trans s2).trans s3)
    obtain ⟨r0, hr0, hl0⟩ := hxa.get (row_get hrt)
    refine ex (vix (vixr vv vv hr0 ha) vc (atn (j := 0) h00) hl0) (dget_n (numK_get ((hdl.mem _).mpr hx0l)) hnm ?_)
    have hf : seat (landsF rows) x0 < (landsF rows).length := seat_lt hdl hx0l
    refine q_call (a3 vv vv vv) ⟨lp, d1, landsF rows, m, root, T, _, rfl, hlr2.mono s3, hdl, s3 _ _ hd1, by omega, hf, by omega, by omega, fun H4 d2 TW s4 nd2 hd2 hTW hcl => ?_⟩
    have hTWl := hTW.len
    have hl4 : TW.length + 1 = (tkeys (seat (landsF rows) x0) TW).length := by unfold tkeys; rw [List.length_cons, List.length_map]
    have sm4 := ((s1.trans s2).trans s3).trans s4
    refine s_retx (ex_tupx (ex_cv vv (ex_cv vv (ex_cons (ex_call (a3 vv vv vv) ⟨a, d1, d2, rows, m, root, T, _, TW, rfl, hA.mono sm4, hD, s4 _ _ (s3 _ _ hd1), hd2, fun p hp => (hT.tree.reach p hp).lt hD hrt, by omega, by omega, hz, hm, fun H5 l left s5 nl hl hiff => ex_nil ⟨by show 3 ≤ sizeLine; decide, fun t nt => ?_⟩⟩)))))
    have s6 := same_upd (o := HO.tup [.ref d1, .ref d2, .ref l]) nt
    rw [eg] at q
    exact q _ t d1 d2 l T TW left ((sm4.trans s5).trans s6) upd_same (s6 _ _ (s5 _ _ (s4 _ _ (s3 _ _ hd1)))) (s6 _ _ hl) hT hTW hcl hiff

end RF
namespace RF
open PySem PySem.Spec PyProof.Rows L2
/-! ### promises and defs: the round over the turn, the pair -/
def spOld : Sp := fun vs H Q _ => ∃ b w t x, vs = [.ref b, vn t, vn x] ∧ LI H b w ∧ x < 2 * (t + w.length) ∧ t < 1000000 ∧ Q (vn (oldE w t x)) H
theorem vold {σ : L2.St} {H : Hp} {t1 t2 t3 : TE} {E : XK} {b : Addr} {w : List Nat} {t x : Nat} (h1 : Va t1 σ H (.ref b)) (h2 : Va t2 σ H (vn t)) (h3 : Va t3 σ H (vn x)) (hb : LI H b w) (hx : x < 2 * (t + w.length)) (ht : t < 1000000) : Va (tCall spOld [] E (tCons t1 (tCons t2 (tCons t3 tNil)))) σ H (vn (oldE w t x)) := fun Q q => ex_call (a3 h1 h2 h3) ⟨b, w, t, x, rfl, hb, hx, ht, q⟩
theorem ok_old_end {P : Program} {w : World} {K : PySem.W.Frag} {mg : Str → Option Value} {base : Heap} {fa : Nat → Addr} {fd : Nat → FuncData} (TX : Txt K mg fa fd) : FnOk P w K mg base CX0 2 (fa 31) (fd 31) ["turn", "ties", "end"] spOld := by
  refine TX.F_old_end.ok sc_old_end (fun vs H Q E h => ?_) (fun cdv A outer s H vs Q E hr h => ?_)
  · obtain ⟨b, w, t, x, rfl, hb, hx, ht, q⟩ := h
    rfl
  · have nd := sc_old_end.nd
    have hu := hu_of hr
    obtain ⟨b, w, t, x, rfl, hb, hx, ht, q⟩ := h
    refine ⟨_, (pss_cons (ps_if (pt_cmpR op_lt (pv 2) (pe_op op_mul pe_int (pv 1)) (nomark _)) (pss_one (ps_ret (pv 2))) pss_nil)
      (pss_cons (ps_set (i := 3) nd rfl (Or.inl rfl) (pe_ix ix_list (pv 0) (pe_op op_fdiv (pe_op op_sub (pv 2) (pe_op op_mul pe_int (pv 1))) pe_int) (fun _ _ => rfl)))
      (pss_cons (ps_if (pt_cmpR op_eq (pe_op op_mod (pv 2) pe_int) pe_int (nomark _)) (pss_one (ps_ret (pe_call (ok_mate_of TX) (hr.mono (by decide)) (by rfl) TX.g_mate_of TX.F_mate_of.kp TX.B_mate_of .nil pass0 (pa_cons (pv 3) pa_nil)))) pss_nil)
      (pss_one (ps_ret (pv 3)))))), ?_⟩
    refine q_when (at_ (vltn vv (vmuln (vcn 2) vv (.inl (by decide))))) (fun h => s_ret vv ?_) (fun h => ?_)
    · unfold oldE at q
      rw [if_pos h] at q
      exact q
    · unfold oldE at q
      rw [if_neg h] at q
      have hk : (x - 2 * t) / 2 < w.length := by omega
      refine q_set (v := vn (w.getD ((x - 2 * t) / 2) 0)) (vixn vv (vdivn (vsubn vv (vmuln (vcn 2) vv (.inl (by decide))) (by omega)) (vcn 2) ⟨by decide, by decide⟩) (get_getD hk) hb) ?_
      refine q_when (q := x % 2 = 1) (at_ (veqP (vmodn vv (vcn 2) (by decide)) vc (by constructor <;> intro z <;> omega))) (fun h2 => s_ret (vmate vv) ?_) (fun h2 => s_ret vv ?_)
      · rw [if_pos h2] at q; exact q
      · rw [if_neg h2] at q; exact q

def spShort : Sp := fun vs H Q _ => ∃ c s b R mR n w, vs = [.ref c, .ref s, vn n, .ref b] ∧ LR H c R ∧ LI H s (seatL R) ∧ LI H b w ∧ Dr R mR ∧ (∀ e ∈ w, e < 2 * mR) ∧ n + w.length ≤ R.length ∧ R.length ≤ 300000 ∧ mR ≤ 150000 ∧
  (∀ H', Same H H' → (∀ j, j < w.length → ¬ Reach R (seat R (w.getD j 0)) (n + j)) → Q .non H') ∧
  (∀ H' p way i, Same H H' → H p = none → LI H' p way → i < w.length → Chain R (n + i) way (seat R (w.getD i 0)) → (∀ j, j < w.length → ∀ c', Chain R (n + j) c' (seat R (w.getD j 0)) → way.length ≤ c'.length) → Q (.ref p) H')
theorem ok_shortest_back {P : Program} {w : World} {K : PySem.W.Frag} {mg : Str → Option Value} {base : Heap} {fa : Nat → Addr} {fd : Nat → FuncData} (TX : Txt K mg fa fd) : FnOk P w K mg base CX0 4 (fa 32) (fd 32) ["cut", "seats", "places", "turn"] spShort := by
  refine TX.F_shortest_back.ok sc_shortest_back (fun vs H Q E h => ?_) (fun cdv A outer s H vs Q E hr h => ?_)
  · obtain ⟨c, s0, b, R, mR, n, w, rfl, hC, hS, hB, hD, hw, hn, hz, hm, q1, q2⟩ := h
    rfl
  · have nd := sc_shortest_back.nd
    have hu := hu_of hr
    obtain ⟨c, s0, b, R, mR, n, w, rfl, hC, hS, hB, hD, hw, hn, hz, hm, q1, q2⟩ := h
    refine ⟨_, (pss_cons (ps_set (i := 4) nd rfl (Or.inl rfl) pe_non)
      (pss_cons (ps_for PassesOwn.never (by rfl) (pi_range1 (by rfl) TX.b_range (pa_cons (pe_callB call_len_seq (by rfl) TX.b_len PySem.boot_len (pa_cons (pv 3) pa_nil)) pa_nil)) (pg_name (i := 5) nd rfl (Or.inl rfl)) (pss_cons (ps_set (i := 6) nd rfl (Or.inl rfl) (pe_ix ix_list (pv 1) (pe_ix ix_list (pv 3) (pv 5) (fun _ _ => rfl)) (fun _ _ => rfl)))
      (pss_cons (ps_set (i := 7) nd rfl (Or.inl rfl) (pe_call (ok_tree_from TX) (hr.mono (by decide)) (by rfl) TX.g_tree_from TX.F_tree_from.kp TX.B_tree_from .nil pass0 (pa_cons (pv 0) (pa_cons (pv 6) pa_nil))))
      (pss_one (ps_if (pt_cmp (pc_din hu (pe_op op_add (pv 2) (pv 5)) (pv 7))) (pss_cons (ps_set (i := 8) nd rfl (Or.inl rfl) (pe_call (ok_way_up TX) (hr.mono (by decide)) (by rfl) TX.g_way_up TX.F_way_up.kp TX.B_way_up .nil pass0 (pa_cons (pv 1) (pa_cons (pv 7) (pa_cons (pe_op op_add (pv 2) (pv 5)) pa_nil)))))
      (pss_one (ps_if (PW.pt (pw_or (pt_cmpR op_isN (pv 4) pe_non (nomark _)) (pw_or1 (pt_cmpR op_lt (pe_callB call_len_seq (by rfl) TX.b_len PySem.boot_len (pa_cons (pv 8) pa_nil)) (pe_callB call_len_seq (by rfl) TX.b_len PySem.boot_len (pa_cons (pv 4) pa_nil)) (nomark _))))) (pss_one (ps_set (i := 4) nd rfl (Or.inl rfl) (pv 8))) pss_nil))) pss_nil)))))
      (pss_one (ps_ret (pv 4))))), ?_⟩
    refine q_set vc ?_
    have ok0 : ∀ (j : Nat) (h : j < w.length), w.getD j 0 < 2 * mR := fun j h => hw _ (List.mem_of_getElem? (get_getD h))
    refine sq (s_forR1 (n := w.length) (a1 (vlen vv (vns_len w) hB)) (by omega) (fun j σ H' => ∃ best y5 y6 y7 y8, σ = [some (.ref c), some (.ref s0), some (vn n), some (.ref b), some best, y5, y6, y7, y8] ∧ Same H H' ∧
        ((best = .non ∧ ∀ i, i < j → ¬ Reach R (seat R (w.getD i 0)) (n + i)) ∨ ∃ p way i, best = .ref p ∧ H p = none ∧ LI H' p way ∧ i < j ∧ Chain R (n + i) way (seat R (w.getD i 0)) ∧ ∀ i', i' < j → ∀ c', Chain R (n + i') c' (seat R (w.getD i' 0)) → way.length ≤ c'.length))
      ⟨.non, none, none, none, none, rfl, Same.refl H, .inl ⟨rfl, fun i hi => absurd hi (Nat.not_lt_zero _)⟩⟩ (fun j σ H' hj h => ?_) (fun σ H' h => ?_))
    · obtain ⟨best, y5, y6, y7, y8, rfl, sm, hbest⟩ := h
      have hwj := get_getD hj
      have hlt := ok0 j hj
      refine q_set (v := vn (seat R (w.getD j 0))) (vixn vv (vixn vv vv hwj (sm _ _ hB)) (seatL_get hD hlt) (sm _ _ hS)) ?_
      refine q_call (a2 vv vv) ⟨c, R, mR, _, rfl, hC.mono sm, hD, seat_lt hD hlt, hz, hm, fun H1 d T s1 nd hd hT => ?_⟩
      have hTl := hT.tree.len hD (seat_lt hD hlt)
      have sm1 := sm.trans s1
      refine s_when (aB (vdin (vaddn vv vv) vv (treeK_in hT.tree.nd _) hd)) (fun hin => ?_) (fun hout => pn ⟨best, _, _, _, _, rfl, sm1, ?_⟩)
      · refine q_call (a3 vv vv (vaddn vv vv)) ⟨s0, d, R, mR, _, T, n + j, rfl, sm1 _ _ hS, hd, hD, hT.tree, seat_lt hD hlt, hin, hz, fun H2 p s2 np hp => ?_⟩
        have hch := path_chain hT.tree _ _ hin rfl
        have hmin : ∀ c', Chain R (n + j) c' (seat R (w.getD j 0)) → (path R T (n + j)).length ≤ c'.length := fun c' h => (bfs_min hD hT h).2
        have sm2 := sm1.trans s2
        have hp0 : H p = none := sm1.free np
        rcases hbest with ⟨rfl, hno⟩ | ⟨p0, way, i, rfl, np0, hp0', hi, hc0, hm0⟩
        · refine s_when (q := True) (ato (aor (b := true) (c := true) (ato (at_ (visN vv)) rfl) (fun z => (nomatch z))) rfl) (fun _ => s_set vv ?_) (fun z => absurd trivial z)
          refine ⟨.ref p, _, _, _, _, rfl, sm2, .inr ⟨p, _, j, rfl, hp0, hp, Nat.lt_succ_self j, hch, fun i' hi' c' hc' => ?_⟩⟩
          rcases Nat.lt_succ_iff_lt_or_eq.mp hi' with h1 | h1
          · exact absurd (Reach.symm hD hc'.reach) (hno i' h1)
          · subst h1; exact hmin c' hc'
        · have hp02 := s2 _ _ (s1 _ _ hp0')
          refine s_when (q := (path R T (n + j)).length < way.length) (ato (aor (b := false) (ato (at_ (visN vv)) rfl) (fun _ => at_ (vltn (vlen vv (vns_len _) hp) (vlen vv (vns_len _) hp02)))) (Bool.false_or _)) (fun hlt' => s_set vv ?_) (fun hge => ?_)
          · refine ⟨.ref p, _, _, _, _, rfl, sm2, .inr ⟨p, _, j, rfl, hp0, hp, Nat.lt_succ_self j, hch, fun i' hi' c' hc' => ?_⟩⟩
            rcases Nat.lt_succ_iff_lt_or_eq.mp hi' with h1 | h1
            · have := hm0 i' h1 c' hc'; omega
            · subst h1; exact hmin c' hc'
          · refine ⟨.ref p0, _, _, _, _, rfl, sm2, .inr ⟨p0, way, i, rfl, np0, hp02, by omega, hc0, fun i' hi' c' hc' => ?_⟩⟩
            rcases Nat.lt_succ_iff_lt_or_eq.mp hi' with h1 | h1
            · exact hm0 i' h1 c' hc'
            · subst h1; have := hmin c' hc'; omega
      · have hnr : ¬ Reach R (seat R (w.getD j 0)) (n + j) := fun z => hout (hT.all _ z)
        rcases hbest with ⟨rfl, hno⟩ | ⟨p0, way, i, rfl, np0, hp0', hi, hc0, hm0⟩
        · refine .inl ⟨rfl, fun i hi => ?_⟩
          rcases Nat.lt_succ_iff_lt_or_eq.mp hi with h1 | h1
          · exact hno i h1
          · subst h1; exact hnr
        · refine .inr ⟨p0, way, i, rfl, np0, s1 _ _ hp0', by omega, hc0, fun i' hi' c' hc' => ?_⟩
          rcases Nat.lt_succ_iff_lt_or_eq.mp hi' with h1 | h1
          · exact hm0 i' h1 c' hc'
          · subst h1; exact absurd (Reach.symm hD hc'.reach) hnr
    · obtain ⟨best, y5, y6, y7, y8, rfl, sm, hbest⟩ := h
      refine pn (s_ret vv ?_)
      rcases hbest with ⟨rfl, hno⟩ | ⟨p0, way, i, rfl, np0, hp0', hi, hc0, hm0⟩
      · exact q1 H' sm hno
      · exact q2 H' p0 way i sm np0 hp0' hi hc0 hm0

def spOver : Sp := fun vs H Q _ => ∃ a b rows m w, vs = [.ref a, .ref b] ∧ LR H a rows ∧ LI H b w ∧ Dr rows m ∧ IsRound rows m w ∧ NonSep rows m w ∧ rows.length ≤ 50000 ∧ m ≤ 50000 ∧ ∀ H' p v, Same H H' → H p = none → LI H' p v → IsRound rows m v → crossD rows w v = 1 → Q (.ref p) H'
theorem ok_turn_over {P : Program} {w : World} {K : PySem.W.Frag} {mg : Str → Option Value} {base : Heap} {fa : Nat → Addr} {fd : Nat → FuncData} (TX : Txt K mg fa fd) : FnOk P w K mg base CX0 6 (fa 33) (fd 33) ["drawing", "turn"] spOver := by
  refine TX.F_turn_over.ok sc_turn_over (fun vs H Q E h => ?_) (fun cdv A outer s H vs Q E hr h => ?_)
  · obtain ⟨a, b, rows, m, w, rfl, hA, hB, hD, hR, hN, hz, hm, q⟩ := h
    rfl
  · have nd := sc_turn_over.nd
    have hu := hu_of hr
    obtain ⟨a, b, rows, m, w, rfl, hA, hB, hD, hR, hN, hz, hm, q⟩ := h
    refine ⟨_, (pss_cons (ps_expr (pe_call (ok_ask_round TX) (hr.mono (by decide)) (by rfl) TX.g_ask_round TX.F_ask_round.kp TX.B_ask_round .nil pass0 (pa_cons (pv 0) (pa_cons (pv 1) pa_nil))))
      (pss_cons (ps_set (i := 2) nd rfl (Or.inl rfl) (pe_ix ix_tup (pe_call (ok_cut_along TX) (hr.mono (by decide)) (by rfl) TX.g_cut_along TX.F_cut_along.kp TX.B_cut_along .nil pass0 (pa_cons (pv 0) (pa_cons (pv 1) pa_nil))) pe_int (fun _ _ => rfl)))
      (pss_cons (ps_set (i := 3) nd rfl (Or.inl rfl) (pe_call (ok_seats_of TX) (hr.mono (by decide)) (by rfl) TX.g_seats_of TX.F_seats_of.kp TX.B_seats_of .nil pass0 (pa_cons (pv 2) pa_nil)))
      (pss_cons (ps_set (i := 4) nd rfl (Or.inr rfl) (pe_op op_sub (pe_op op_fdiv (pe_callB call_len_seq (by rfl) TX.b_len PySem.boot_len (pa_cons (pv 3) pa_nil)) pe_int) (pe_callB call_len_seq (by rfl) TX.b_len PySem.boot_len (pa_cons (pv 1) pa_nil))))
      (pss_cons (ps_set (i := 5) nd rfl (Or.inl rfl) (pe_call (ok_shortest_back TX) (hr.mono (by decide)) (by rfl) TX.g_shortest_back TX.F_shortest_back.kp TX.B_shortest_back .nil pass0 (pa_cons (pv 2) (pa_cons (pv 3) (pa_cons (pe_callB call_len_seq (by rfl) TX.b_len PySem.boot_len (pa_cons (pv 0) pa_nil)) (pa_cons (pv 1) pa_nil))))))
      (pss_cons (ps_if (pt_cmpR op_isN (pv 5) pe_non (nomark _)) (pss_one (ps_ret pe_non)) pss_nil)
      (pss_one (ps_ret (pe_call (ok_turned_about TX) (hr.mono (by decide)) (by rfl) TX.g_turned_about TX.F_turned_about.kp TX.B_turned_about .nil pass0 (pa_cons (pe_lc (own := [("end", 6)]) (g := gName 6) (tt := tYes) (by rfl) nd (pi_list (pv 5)) (blkOk_by (own := [("end", 6)]) (N := nm_turn_over) (sc := (defScope s_turn_over)) (by decide +kernel)) (fun _ _ _ _ _ => (pg_name (i := 6) nd rfl (Or.inl rfl))) (fun _ _ _ _ _ => pts_nil) (fun _ _ _ _ _ => (pe_call (ok_old_end TX) (hr.mono (by decide)) (by rfl) TX.g_old_end TX.F_old_end.kp TX.B_old_end .nil pass0 (pa_cons (pv 1) (pa_cons (pv 4) (pa_cons (pv 6) pa_nil)))))) pa_nil)))))))))), ?_⟩
    have hwl := round_len hD hR
    have hwl2 := round_len2 hR
    refine sq (s_dropx (ex_call (a2 vv vv) ⟨a, b, rows, m, w, rfl, hA, hB, hD, hR, by omega, by omega, by omega, fun H1 s1 => pn ?_⟩))
    -- cut = cut_along(drawing, turn)[0]
    refine q_asg (ex_opx (ex_call (a2 vv vv) ⟨a, b, rows, m, w, rfl, hA.mono s1, s1 _ _ hB, hD, hR, by omega, by omega, fun H2 t c x y R s2 ht hc hC => ex vc ⟨t, _, 0, .ref c, rfl, rfl, SqT.of ht, atI_nat (j := 0) rfl, ?_⟩⟩))
    have hDR := cut_dr hD hR hC
    have hRl : R.length = rows.length + w.length := hC.len
    refine q_call (a1 vv) ⟨c, R, _, rfl, hc, hDR, by omega, by omega, fun H3 s0 s3 ns0 hs0 => ?_⟩
    have sm3 := (s1.trans s2).trans s3
    have hB3 := sm3 _ _ hB
    obtain ⟨as, ha, hxa⟩ := hA.mono sm3
    refine q_set (v := vn m) (vto (vsubn (vdivn (vlen vv (by rw [vns_len, seatL_len hDR]) hs0) (vcn 2) ⟨by decide, by decide⟩) (vlen vv (vns_len w) hB3) (by omega)) (congrArg vn (by omega))) ?_
    refine q_call (a4 vv vv (vlen vv (by rw [List.length_map, hxa.1]) ha) vv) ⟨c, s0, b, R, _, rows.length, w, rfl, hc.mono s3, hs0, hB3, hDR, fun e he => by have := hR.walk.1 e he; omega, by omega, by omega, by omega, fun H4 s4 hno => ?_, fun H4 p way i s4 np hp hi hch hmin => ?_⟩
    · obtain ⟨i, hi, hr⟩ := hN R hC
      have hsi : seat R (w.getD i 0) = seat rows (w.getD i 0) := by
        have := hR.lt hi
        rw [cut_seat hD hR hC (by omega), cs_b hD hR hi]
      exact absurd (hsi ▸ hr) (hno i hi)
    · have hsj : ∀ j, j < w.length → seat R (w.getD j 0) = seat rows (w.getD j 0) := fun j hj => by
        have := hR.lt hj
        rw [cut_seat hD hR hC (by omega), cs_b hD hR hj]
      refine q_no (ato (at_ (visN vv)) rfl) ?_
      have hce := hch.ends hDR
      have hB4 := s4 _ _ hB3
      -- a way has no more ends than there are places
      have hok := over_ok hD hR hC hi (hsj i hi ▸ hch) (fun j hj c' hc' => hmin j hj c' (by rw [hsj j hj]; exact hc'))
      have hvl := round_len hD hok.1
      rw [List.length_map, List.length_reverse, List.length_map] at hvl
      refine s_retx (ex_callc (ex_cons ?_))
      refine ex_lc (ys := vns (way.map (oldE w m))) vv hp (fun _ => rfl) (by rw [vns_len, vns_len, List.length_map]) (by rw [vns_len]; omega) (fun j x y H' e1 e2 s => ?_) fun p2 np2 => ex_nil ?_
      · obtain ⟨e, he, rfl⟩ := vns_get' e1
        obtain ⟨f, hf, rfl⟩ := vns_get' e2
        rw [List.getElem?_map, he] at hf
        cases Option.some.inj hf
        exact vold vv vv vv (s _ _ hB4) (hce e (List.mem_of_getElem? he)) (by omega)
      · have sm4 := sm3.trans s4
        have s5 := same_upd (o := HO.lst (vns (way.map (oldE w m)))) np2
        refine ⟨p2, way.map (oldE w m), rfl, upd_same, by rw [List.length_map]; omega, fun H6 p3 s6 np3 hp3 => ?_⟩
        exact q H6 p3 _ ((sm4.trans s5).trans s6) ((sm4.trans s5).free np3) hp3 hok.1 hok.2

theorem s_forZx {K : PySem.W.Frag} {σ : L2.St} {H : Hp} {ta : TA} {g : TG} {ts : TS} {D : Ends} (h : ta σ H fun vs H1 => ∃ a b xs ys, vs = [V.ref a, V.ref b] ∧ SqL K H1 a xs ∧ SqL K H1 b ys ∧ ∃ W : Nat → Nat → L2.St → Hp → Prop, (∃ m, W 0 m σ H1) ∧ ∀ i m σ H, W i m σ H →
    ((Itz K a b).stop i H ∧ D.nx σ H) ∨ ((Itz K a b).go i H ∧ ∃ N : L2.St → Hp → Prop, (∀ σ' H', N σ' H' → ∃ m', m' < m ∧ W (i + 1) m' σ' H') ∧ ∀ x H', (Itz K a b).yld i H x H' → g x σ H' fun σ2 H2 => ts { D with nx := N, ct := N, bk := D.nx } σ2 H2)) : tFor (iZip K ta) g ts D σ H := h
def spPair : Sp := fun vs H Q _ => ∃ a rows m, vs = [.ref a] ∧ LR H a rows ∧ Dr rows m ∧ rows.length ≤ 50000 ∧ m ≤ 50000 ∧
  (∀ H', Same H H' → (∀ h ∈ holesF rows, h ≤ 0) → Q .non H') ∧
  (∀ H' t p1 p2 w v, Same H H' → H' t = some (.tup [.ref p1, .ref p2]) → LI H' p1 w → LI H' p2 v → p1 ≠ p2 → H p1 = none → H p2 = none → IsRound rows m w → IsRound rows m v → crossD rows w v = 1 → (∃ h ∈ holesF rows, 0 < h) → Q (.ref t) H')
theorem sum_zero {f : Nat → Nat} : ∀ {P : List Nat}, (∀ q ∈ P, f q = 0) → (P.map f).sum = 0
  | [], _ => rfl
  | a :: r, h => by
    rw [List.map_cons, List.sum_cons, h a List.mem_cons_self, sum_zero fun q hq => h q (List.mem_cons_of_mem _ hq)]
theorem take_succ_getI {l : List Int} {i : Nat} {x : Int} (h : l[i]? = some x) : l.take (i + 1) = l.take i ++ [x] := by
  rw [List.take_add_one, h]; rfl
theorem s_asgx {σ : L2.St} {H : Hp} {te : TE} {g : TG} {D : Ends} (h : te σ H fun x H1 => g x σ H1 D.nx) : tAsg te g D σ H := h
theorem chain_head {D : List (List Nat)} {x y : Nat} (h : Reach D x y) (hn : x ≠ y) : row D x ≠ [] := by
  obtain ⟨c, hc⟩ := Chain.of_reach h
  cases hc with
  | nil => exact absurd rfl hn
  | cons he _ => intro z; rw [z] at he; cases he
theorem ok_pair_of {P : Program} {w : World} {K : PySem.W.Frag} {mg : Str → Option Value} {base : Heap} {fa : Nat → Addr} {fd : Nat → FuncData} (TX : Txt K mg fa fd) : FnOk P w K mg base CX0 7 (fa 34) (fd 34) ["drawing"] spPair := by
  refine TX.F_pair_of.ok sc_pair_of (fun vs H Q E h => ?_) (fun cdv A outer s H vs Q E hr h => ?_)
  · obtain ⟨a, rows, m, rfl, hA, hD, hz, hm, q1, q2⟩ := h
    rfl
  · have nd := sc_pair_of.nd
    have hu := hu_of hr
    obtain ⟨a, rows, m, rfl, hA, hD, hz, hm, q1, q2⟩ := h
    refine ⟨_, (pss_cons (ps_set (i := 1) nd rfl (Or.inl rfl) (pe_call (ok_seats_of TX) (hr.mono (by decide)) (by rfl) TX.g_seats_of TX.F_seats_of.kp TX.B_seats_of .nil pass0 (pa_cons (pv 0) pa_nil)))
      (pss_cons (ps_for PassesOwn.never (by rfl) (pi_zip (by rfl) TX.b_zip (pa_cons (pe_call (ok_parts_of TX) (hr.mono (by decide)) (by rfl) TX.g_parts_of TX.F_parts_of.kp TX.B_parts_of .nil pass0 (pa_cons (pv 0) pa_nil)) (pa_cons (pe_call (ok_holes_of TX) (hr.mono (by decide)) (by rfl) TX.g_holes_of TX.F_holes_of.kp TX.B_holes_of .nil pass0 (pa_cons (pv 0) pa_nil)) pa_nil))) (pg_tup (by rfl) (pgs_cons (pg_name (i := 2) nd rfl (Or.inl rfl)) (pgs_cons (pg_name (i := 3) nd rfl (Or.inl rfl)) pgs_nil))) (pss_one (ps_if (pt_cmpR op_gt (pv 3) pe_int (nomark _)) (pss_cons (ps_asg (pe_call (ok_both_trees TX) (hr.mono (by decide)) (by rfl) TX.g_both_trees TX.F_both_trees.kp TX.B_both_trees .nil pass0 (pa_cons (pv 0) (pa_cons (pe_ix ix_list (pv 2) pe_int (fun _ _ => rfl)) pa_nil))) (pg_tup (by rfl) (pgs_cons (pg_name (i := 4) nd rfl (Or.inl rfl)) (pgs_cons (pg_name (i := 5) nd rfl (Or.inl rfl)) (pgs_cons (pg_name (i := 6) nd rfl (Or.inl rfl)) pgs_nil)))))
      (pss_cons (ps_set (i := 7) nd rfl (Or.inl rfl) (pe_call (ok_round_along TX) (hr.mono (by decide)) (by rfl) TX.g_round_along TX.F_round_along.kp TX.B_round_along .nil pass0 (pa_cons (pv 1) (pa_cons (pv 4) (pa_cons (pe_op op_mul pe_int (pe_ix ix_list (pv 6) pe_int (fun _ _ => rfl))) pa_nil)))))
      (pss_one (ps_ret (pe_tup (pa_cons (pv 7) (pa_cons (pe_call (ok_turn_over TX) (hr.mono (by decide)) (by rfl) TX.g_turn_over TX.F_turn_over.kp TX.B_turn_over .nil pass0 (pa_cons (pv 0) (pa_cons (pv 7) pa_nil))) pa_nil))))))) pss_nil)))
      (pss_one (ps_ret pe_non)))), ?_⟩
    refine q_call (a1 vv) ⟨a, rows, m, rfl, hA, hD, by omega, by omega, fun H1 b s1 nb hb => ?_⟩
    refine sq (s_forZx (ex_cons (ex_call (a1 vv) ⟨a, rows, m, rfl, hA.mono s1, hD, by omega, by omega, fun H2 pp s2 npp hpp => ex_cons (ex_call (a1 vv) ⟨a, rows, m, rfl, hA.mono (s1.trans s2), hD, by omega, by omega, fun H3 hh s3 nhh hhh => ex_nil ?_⟩)⟩)))
    obtain ⟨ps, hp1, hpx⟩ := hpp.lr.mono s3
    have sm3 := (s1.trans s2).trans s3
    have hlen : (ps.map V.ref).length = ((holesF rows).map V.int).length := by
      rw [List.length_map, List.length_map, hpx.1]
      unfold holesF
      rw [List.length_map]
    refine ⟨pp, hh, _, _, rfl, SqL.of hp1, SqL.of hhh, RZ.for_zipL hlen (fun i σ H' => ∃ y2 y3, σ = [some (.ref a), some (.ref b), y2, y3, none, none, none, none] ∧ Same H3 H' ∧ ∀ h ∈ (holesF rows).take i, h ≤ 0)
      ⟨none, none, rfl, Same.refl _, fun h hh => (by simp at hh)⟩ (fun i σ H' h => ?_) (fun i x y Tt σ H' hi hy h nT => ?_) (fun σ H' h => ?_)⟩
    · obtain ⟨_, _, _, sm, _⟩ := h
      exact ⟨SqL.of (sm _ _ hp1), SqL.of (sm _ _ hhh)⟩
    · obtain ⟨y2, y3, rfl, sm, hle⟩ := h
      refine ⟨Tt, _, rfl, SqT.of upd_same, rfl, _, _, rfl, _, _, rfl, rfl, ?_⟩
      have smT : Same H3 (upd H' Tt (.tup [x, y])) := sm.trans (same_upd nT)
      revert smT
      generalize upd H' Tt (.tup [x, y]) = H4
      intro smT
      obtain ⟨r, hr, rfl⟩ := ref_get' hi
      have hil : i < (partsF rows).length := by rw [← hpx.1]; exact (List.getElem?_eq_some_iff.mp hr).1
      have hpart := row_get hil
      have hlr := smT _ _ (hpx.2 i r _ hr hpart)
      obtain ⟨s0, hs0, eP, hfirst⟩ := part_mem (List.mem_of_getElem? hpart)
      have hhole : (holesF rows)[i]? = some (holeOf rows (row (partsF rows) i)) := by
        unfold holesF
        rw [List.getElem?_map, hpart]; rfl
      have hyv : y = .int (holeOf rows (row (partsF rows) i)) := by
        rw [List.getElem?_map, hhole] at hy
        exact (Option.some.inj hy).symm
      subst hyv
      revert eP hlr hhole hy hpart
      generalize row (partsF rows) i = P
      intro hpart hlr eP hhole hy
      have sm4 := sm3.trans smT
      refine s_when (q := 0 < holeOf rows P) (at_ (vgt vv vc)) (fun hpos => ?_) (fun hneg => pn ⟨_, _, rfl, smT, fun h hh => ?_⟩)
      · have hPm : ∀ q, q ∈ P ↔ Reach rows s0 q := fun q => by rw [eP]; exact mem_comp hD hs0
        have hPn : P.Nodup := by rw [eP]; exact comp_nodup rows s0
        have hP0 : 0 < P.length := List.length_pos_of_mem ((hPm s0).mpr .refl)
        have h0 := get_getD hP0
        revert h0
        generalize P.getD 0 0 = r0
        intro h0
        have hr0 : Reach rows s0 r0 := (hPm r0).mp (List.mem_of_getElem? h0)
        have hr0l := hr0.lt hD hs0
        have hE : endsOf rows P ≠ 0 := fun z => by
          unfold holeOf manyOf at hpos
          rw [if_pos z, z] at hpos
          omega
        have hne : row rows r0 ≠ [] := fun z => by
          apply hE
          unfold endsOf
          have : ∀ q ∈ P, (row rows q).length = 0 := fun q hq => by
            by_cases e : r0 = q
            · rw [← e, z]; rfl
            · exact absurd z (chain_head ((Reach.symm hD hr0).trans ((hPm q).mp hq)) e)
          exact sum_zero this
        have hA4 := hA.mono sm4
        refine sq (s_asgx (ex_call (a2 vv (vixn vv vc h0 hlr)) ⟨a, rows, m, r0, rfl, hA4, hD, hr0l, hne, by omega, by omega, fun H5 t d1 d2 l T TW left s5 ht hd1 hl hT hTW hcl hleft => ⟨t, _, rfl, SqT.of ht, rfl, _, _, rfl, _, _, rfl, _, _, rfl, rfl, pn ?_⟩⟩))
        have hBoth : Both rows m r0 T TW := ⟨hT, hTW, hcl⟩
        have hPk : ∀ q, q ∈ P ↔ q ∈ tkeys r0 T := fun q => by
          rw [hPm]
          exact ⟨fun z => hT.all _ ((Reach.symm hD hr0).trans z), fun z => hr0.trans (hT.tree.reach q z)⟩
        have hl0 := left_some hD hne hBoth hPk hPn hpos hleft
        have hk := get_getD (List.length_pos_iff.mpr hl0)
        revert hk
        generalize left.getD 0 0 = k
        intro hk
        obtain ⟨⟨q0, hq0, e0, he0, hek⟩, hkT, hkW⟩ := (hleft k).mp (List.mem_of_getElem? hk)
        have hlt0 := (row_end hD he0).1
        have hlt : 2 * k < 2 * m := by omega
        have hin : ∀ x, x / 2 = k → seat rows x ∈ tkeys r0 T := fun x hx => by
          rcases half_eq (hx.trans hek.symm) with z | z
          · rw [z, (row_end hD he0).2]; exact hq0
          · rw [z]; exact hT.all _ (Reach.step (hT.tree.reach q0 hq0) he0)
        have sm5 := sm4.trans s5
        refine q_call (a3 vv vv (vmuln (vcn 2) (vixn vv vc hk hl) (.inl (by decide)))) ⟨b, d1, rows, m, r0, T, 2 * k, rfl, s5 _ _ (smT _ _ ((s2.trans s3) _ _ hb)), hd1, hD, hT.tree, hr0l, hlt, hin _ (by omega), hin _ (by rw [mate_half]; omega), by omega, fun H6 p1 o kk s s6 np1 e1 e2 hend hp1' => ?_⟩
        have hal := along_ok hD hT.tree hlt (hin _ (by omega)) (hin _ (by rw [mate_half]; omega)) (by rw [show 2 * k / 2 = k by omega]; exact hkT) e1 e2 hend
        have hns := non_sep hD hne hBoth ⟨q0, hq0, e0, he0, hek⟩ hkT hkW hal
        have sm6 := sm5.trans s6
        refine s_retx (ex_tupx (ex_cv vv (ex_cons (ex_call (a2 vv vv) ⟨a, p1, rows, m, _, rfl, hA.mono sm6, hp1', hD, hal.round, hns, hz, hm, fun H7 p2 v s7 np2 hp2 hv hcr => ex_nil ⟨by show 2 ≤ sizeLine; decide, fun t2 nt2 => ?_⟩⟩))))
        have s8 := same_upd (o := HO.tup [.ref p1, .ref p2]) nt2
        exact q2 _ t2 p1 p2 _ v ((sm6.trans s7).trans s8) upd_same (s8 _ _ (s7 _ _ hp1')) (s8 _ _ hp2) (ne_of_none hp1' np2) (sm5.free np1) (sm6.free np2) hal.round hv hcr ⟨_, List.mem_of_getElem? hhole, hpos⟩
      · rw [take_succ_getI hhole] at hh
        rcases List.mem_append.mp hh with h1 | h1
        · exact hle h h1
        · rw [List.mem_singleton.mp h1]; omega
    · obtain ⟨y2, y3, rfl, sm, hle⟩ := h
      rw [List.length_map, hpx.1] at hle
      have : (holesF rows).take (partsF rows).length = holesF rows := by
        refine List.take_of_length_le ?_
        unfold holesF
        rw [List.length_map]; exact Nat.le_refl _
      rw [this] at hle
      exact pn (s_ret vc (q1 H' (sm3.trans sm) hle))

end RF
namespace RF
open PySem PySem.Spec PyProof.Rows L2
/-! ### promises and defs: the law's draws, settled rows, dicts -/
def spCell (K : PySem.W.Frag) : Sp := fun vs H Q _ => ∃ (a : Addr) (ns : List Int) (k : Nat), vs = [.ref a, vn k] ∧ SqL K H a (ns.map V.int) ∧ k < 1000 ∧ ∀ z, Q (.int z) H
theorem vlenS {K : PySem.W.Frag} {σ : L2.St} {H : Hp} {ta : TE} {p : Addr} {xs : List V} {n : Nat} (ha : Va ta σ H (.ref p)) (hn : xs.length = n) (hp : SqL K H p xs) : Va (tCB (fun xs H Q => ∃ p ys, xs = [V.ref p] ∧ (SqL K H p ys ∨ SqT K H p ys) ∧ Q (.int ys.length) H) (tCons ta tNil)) σ H (vn n) := fun Q q =>
  ha _ ⟨p, xs, rfl, .inl hp, by rw [hn]; exact q⟩
theorem vixS {K : PySem.W.Frag} {σ : L2.St} {H : Hp} {ta tb : TE} {p : Addr} {ns : List Int} {j : Nat} {z : Int} (ha : Va ta σ H (.ref p)) (hb : Va tb σ H (vn j)) (hp : SqL K H p (ns.map V.int)) (hj : ns[j]? = some z) : Va (tOp (rIxL K) ta tb) σ H (.int z) :=
  vop ha hb fun Q q => ⟨p, ns.map V.int, j, .int z, rfl, rfl, hp, atI_nat (by rw [List.getElem?_map, hj]; rfl), q⟩

theorem ok_L_cell {P : Program} {w : World} {K : PySem.W.Frag} {mg : Str → Option Value} {base : Heap} {fa : Nat → Addr} {fd : Nat → FuncData} (TX : Txt K mg fa fd) : FnOk P w K mg base CX0 1 (fa 36) (fd 36) ["_law_script", "_law_k"] (spCell K) := by
  refine TX.F_L_cell.ok sc_L_cell (fun vs H Q E h => ?_) (fun cdv A outer s H vs Q E hr h => ?_)
  · obtain ⟨a, ns, k, rfl, hS, hk, q⟩ := h
    rfl
  · have nd := sc_L_cell.nd
    have hu := hu_of hr
    obtain ⟨a, ns, k, rfl, hS, hk, q⟩ := h
    refine ⟨_, (pss_cons (ps_if (pt_cmpR op_eq (pe_callB call_len_seq (by rfl) TX.b_len PySem.boot_len (pa_cons (pv 0) pa_nil)) pe_int (nomark _)) (pss_one (ps_ret (pe_op op_add (pe_op op_mul pe_int (pv 1)) pe_int))) pss_nil)
      (pss_cons (ps_if (pt_cmpR op_lt (pv 1) (pe_callB call_len_seq (by rfl) TX.b_len PySem.boot_len (pa_cons (pv 0) pa_nil)) (nomark _)) (pss_one (ps_ret (pe_ix ix_list (pv 0) (pv 1) (fun _ _ => rfl)))) pss_nil)
      (pss_one (ps_ret (pe_op op_add (pe_op op_mul (pe_op op_mod (pe_ix ix_list (pv 0) (pe_op op_mod (pv 1) (pe_callB call_len_seq (by rfl) TX.b_len PySem.boot_len (pa_cons (pv 0) pa_nil))) (fun _ _ => rfl)) pe_int) pe_int) (pe_op op_mul pe_int (pv 1))))))), ?_⟩
    refine q_when (q := ns.length = 0) (at_ (veqP (vlenS vv (List.length_map _) hS) vc (by omega))) (fun h => s_ret (vadd (vmulL vc vv ⟨by decide, by decide⟩) vc) (q _)) (fun h => ?_)
    refine q_when (q := k < ns.length) (at_ (vltn vv (vlenS vv (List.length_map _) hS))) (fun h2 => s_ret (vixS vv vv hS (List.getElem?_eq_getElem h2)) (q _)) (fun h2 => ?_)
    have h3 : k % ns.length < ns.length := Nat.mod_lt _ (by omega)
    exact s_ret (vadd (vmulR (vmod (vixS vv (vmodn vv (vlenS vv (List.length_map _) hS) (by omega)) hS (List.getElem?_eq_getElem h3)) vc (by decide)) vc ⟨by decide, by decide⟩) (vmulL vc vv ⟨by decide, by decide⟩)) (q _)

def spDraws : Sp := fun vs H Q _ => ∃ c s sizes, vs = [.int c, .ref s] ∧ LI H s sizes ∧ (∀ n ∈ sizes, 0 < n ∧ n < 1000000) ∧ sizes.length ≤ 2000 ∧ ∀ H' p found, Same H H' → H p = none → LI H' p found → found.length = sizes.length → (∀ (i x y : Nat), found[i]? = some x → sizes[i]? = some y → x < y) → Q (.ref p) H'
theorem vmodN {σ : L2.St} {H : Hp} {ta tb : TE} {m : Int} {n : Nat} (ha : Va ta σ H (.int m)) (hb : Va tb σ H (vn n)) (h : 0 < n) : Va (tOp (rI (fun _ j => 0 < j) fun i j => .int (i % j)) ta tb) σ H (vn (m % (n : Int)).toNat) := vto (vmod ha hb (by omega)) (congrArg V.int (by
  rw [Int.toNat_of_nonneg (Int.emod_nonneg _ (by omega))]))
theorem modN_lt {m : Int} {n : Nat} (h : 0 < n) : (m % (n : Int)).toNat < n := by
  have h1 := Int.emod_nonneg m (b := (n : Int)) (by omega)
  have h2 := Int.emod_lt_of_pos m (b := (n : Int)) (by omega)
  omega
theorem vpow {σ : L2.St} {H : Hp} {ta tb : TE} {m n : Int} (ha : Va ta σ H (.int m)) (hb : Va tb σ H (.int n)) (h : CPow m n) : Va (tOp (rI CPow fun i j => .int (i ^ j.toNat)) ta tb) σ H (.int (m ^ n.toNat)) := vop ha hb fun Q q => ⟨m, n, rfl, rfl, h, q⟩
theorem ok_L_draws {P : Program} {w : World} {K : PySem.W.Frag} {mg : Str → Option Value} {base : Heap} {fa : Nat → Addr} {fd : Nat → FuncData} (TX : Txt K mg fa fd) : FnOk P w K mg base CX0 1 (fa 37) (fd 37) ["_law_cell_here", "_law_sizes"] spDraws := by
  refine TX.F_L_draws.ok sc_L_draws (fun vs H Q E h => ?_) (fun cdv A outer s H vs Q E hr h => ?_)
  · obtain ⟨c, s0, sizes, rfl, hS, hz, hl, q⟩ := h
    rfl
  · have nd := sc_L_draws.nd
    have hu := hu_of hr
    obtain ⟨c, s0, sizes, rfl, hS, hz, hl, q⟩ := h
    refine ⟨_, (pss_cons (ps_set (i := 2) nd rfl (Or.inl rfl) pe_int)
      (pss_cons (ps_if (pt_cmpR op_ge (pv 0) (pe_op op_pow pe_int pe_int) (nomark _)) (pss_one (ps_set (i := 2) nd rfl (Or.inl rfl) (pv 0))) pss_nil)
      (pss_cons (ps_set (i := 3) nd rfl (Or.inl rfl) (pe_lst pa_nil))
      (pss_cons (ps_for PassesOwn.never (by rfl) (pi_enum (by rfl) TX.b_enumerate (pa_cons (pv 1) pa_nil)) (pg_tup (by rfl) (pgs_cons (pg_name (i := 4) nd rfl (Or.inl rfl)) (pgs_cons (pg_name (i := 5) nd rfl (Or.inl rfl)) pgs_nil))) (pss_one (ps_if (pt_cmpR op_gt (pv 2) pe_int (nomark _)) (pss_cons (ps_expr (pe_bm PySem.F.plainAttrs_list PySem.F.slot_list_append PySem.F.type_list_append mt_append (pv 3) (pa_cons (pe_op op_mod (pv 2) (pv 5)) pa_nil)))
      (pss_one (ps_set (i := 2) nd rfl (Or.inl rfl) (pe_op op_fdiv (pv 2) (pv 5))))) (pss_cons (ps_set (i := 6) nd rfl (Or.inl rfl) (pe_op op_mod (pe_op op_pow (pe_op op_add (pe_op op_add (pe_op op_add (pe_op op_mod (pv 0) pe_int) (pe_op op_mul (pe_op op_mul pe_int (pv 4)) (pv 4))) (pe_op op_mul pe_int (pv 4))) pe_int) pe_int) pe_int))
      (pss_one (ps_expr (pe_bm PySem.F.plainAttrs_list PySem.F.slot_list_append PySem.F.type_list_append mt_append (pv 3) (pa_cons (pe_op op_mod (pe_op op_mod (pe_op op_add (pe_op op_mul (pv 6) pe_int) (pe_op op_mul pe_int (pv 4))) pe_int) (pv 5)) pa_nil))))))))
      (pss_one (ps_ret (pv 3))))))), ?_⟩
    refine q_set vc ?_
    -- rest
    refine sq (s_if (at_ (vge vv (vpow vc vc ⟨by decide, by decide, by decide⟩))) (fun _ => s_set vv (pn ?_)) (fun _ => s_nx (pn ?_)))
    all_goals
      refine q_asg (ex_lst a0 (Nat.zero_le _) fun f nf => ?_)
      have s1 := same_upd (o := HO.lst []) nf
      refine sq (s_forE (a1 vv) (s1 _ _ hS) (fun j σ H' => ∃ (rest : Int) (y4 y5 y6 : Option V) (fnd : List Nat), σ = [some (.int c), some (.ref s0), some (.int rest), some (.ref f), y4, y5, y6] ∧ Same H H' ∧ LI H' f fnd ∧ fnd.length = j ∧ ∀ (i x y : Nat), fnd[i]? = some x → sizes[i]? = some y → x < y)
        ⟨_, none, none, none, [], rfl, s1, upd_same, rfl, fun i x y hh => (by simp at hh)⟩ (fun i σ H' _ h => ?_) (fun j x σ H' H5 hj h s => ?_) (fun σ H' h => ?_))
      · obtain ⟨_, _, _, _, _, _, sm, _⟩ := h
        exact sm _ _ hS
      · obtain ⟨rest, y4, y5, y6, fnd, rfl, sm, hf, hfl, hlt⟩ := h
        obtain ⟨n, hn, rfl⟩ := vns_get' hj
        have hjl := (List.getElem?_eq_some_iff.mp hn).1
        have hn0 := hz n (List.mem_of_getElem? hn)
        have hf5 := s _ _ hf
        have sm5 := sm.trans s
        have fin : ∀ x, x < n → Same H (upd H5 f (.lst (vns fnd ++ [vn x]))) ∧ LI (upd H5 f (.lst (vns fnd ++ [vn x]))) f (fnd ++ [x]) ∧ (fnd ++ [x]).length = j + 1 ∧ ∀ (i x' y : Nat), (fnd ++ [x])[i]? = some x' → sizes[i]? = some y → x' < y := fun x hx => by
          refine ⟨same_mut sm5 nf, ?_, by rw [List.length_append, hfl]; rfl, fun i x' y e1 e2 => ?_⟩
          · show _ = some (HO.lst (List.map vn (fnd ++ [x])))
            rw [upd_same, List.map_append]; rfl
          · by_cases hi : i < fnd.length
            · rw [List.getElem?_append_left hi] at e1
              exact hlt i x' y e1 e2
            · rw [List.getElem?_append_right (by omega)] at e1
              have e0 : i - fnd.length = 0 := by
                have := (List.getElem?_eq_some_iff.mp e1).1
                rw [List.length_singleton] at this
                omega
              rw [e0] at e1
              cases Option.some.inj e1
              have : i = j := by omega
              rw [this, hn] at e2
              cases Option.some.inj e2
              exact hx
        refine s_if (at_ (vgt vv vc)) (fun _ => ?_) (fun _ => ?_)
        · obtain ⟨t1, t2, t3, t4⟩ := fin _ (modN_lt (m := rest) hn0.1)
          refine q_app vv (vmodN vv vv hn0.1) hf5 (by rw [vns_len]; omega) ?_
          exact s_set (vdiv vv vv ⟨by omega, by omega⟩) (pn ⟨_, _, _, _, _, rfl, t1, t2, t3, t4⟩)
        · refine q_set (vmod (vpow (vadd (vadd (vadd (vmod vv vc (by decide)) (vmulL (vmulL vc vv ⟨by decide, by decide⟩) vv ⟨by omega, by omega⟩)) (vmulL vc vv ⟨by decide, by decide⟩)) vc) vc ⟨by decide, by decide, ?_⟩) vc (by decide)) ?_
          · have h1 := Int.emod_nonneg c (b := 2147483647) (by decide)
            have h2 := Int.emod_lt_of_pos c (b := 2147483647) (by decide)
            have h3 : (1009 * (j : Int)) * (j : Int) ≤ 1009 * 2000 * 2000 := by
              have : (1009 * (j : Int)) ≤ 1009 * 2000 := by omega
              exact Int.mul_le_mul this (by omega) (by omega) (by omega)
            have h4 : 0 ≤ (1009 * (j : Int)) * (j : Int) := Int.mul_nonneg (by omega) (by omega)
            omega
          · obtain ⟨t1, t2, t3, t4⟩ := fin _ (modN_lt (m := _) hn0.1)
            exact s_app vv (vmodN (vmod (vadd (vmulR vv vc ⟨by decide, by decide⟩) (vmulL vc vv ⟨by decide, by decide⟩)) vc (by decide)) vv hn0.1) hf5 (by rw [vns_len]; omega) (pn ⟨_, _, _, _, _, rfl, t1, t2, t3, t4⟩)
      · obtain ⟨rest, y4, y5, y6, fnd, rfl, sm, hf, hfl, hlt⟩ := h
        rw [vns_len] at hfl
        exact pn (s_ret vv (q H' f fnd sm nf hf hfl hlt))

end RF
namespace RF
open PySem PySem.Spec PyProof.Rows L2
/-! ### promises and defs: settled rows, the law's dicts -/
/-- the same rows, each turned -/
def PermR (rows rows' : List (List Nat)) : Prop := rows'.length = rows.length ∧ ∀ (i : Nat) r r', rows[i]? = some r → rows'[i]? = some r' → r'.Perm r
theorem PermR.flat : ∀ {rows rows' : List (List Nat)}, PermR rows rows' → rows'.flatten.Perm rows.flatten
  | [], [], _ => List.Perm.refl _
  | [], _ :: _, h => by have := h.1; simp at this
  | _ :: _, [], h => by have := h.1; simp at this
  | a :: r, b :: s, h => by
    rw [List.flatten_cons, List.flatten_cons]
    refine List.Perm.append (h.2 0 a b rfl rfl) (PermR.flat ⟨?_, fun i x y e1 e2 => h.2 (i + 1) x y e1 e2⟩)
    have := h.1
    rw [List.length_cons, List.length_cons] at this
    omega
theorem Dr.flatPerm {D E : List (List Nat)} {m : Nat} (h : Dr D m) (p : E.flatten.Perm D.flatten) : Dr E m := ⟨p.symm.nodup h.nd, fun x => p.mem_iff.trans (h.mem x)⟩
theorem q_ifk {σ : L2.St} {H : Hp} {t : TT} {ts us : TS} {D : Ends} {i : Nat} {q : Prop} [Decidable q] (C : Nat → Prop) (h : An t σ H (decide q)) (h1 : q → ∀ D' : Ends, (∀ k, C k → D'.nx (σ.set i (some (vn k))) H) → ts D' σ H) (h0 : ¬ q → ∃ k, C k ∧ σ.set i (some (vn k)) = σ) (k : ∀ k, C k → us D (σ.set i (some (vn k))) H) : tSeq (tIfS t ts tNext) us D σ H :=
  q_when h (fun e => h1 e _ k) (fun e => by
    obtain ⟨j, c, z⟩ := h0 e
    have := k j c
    rw [z] at this
    exact this)
/-- a dict of nats by nats, in the order of their coming -/
def mapK (f : Nat → Nat) (l : List Nat) : List (Key × V) := kvm (l.map fun x => (x, vn (f x)))
theorem mapK_get {f : Nat → Nat} {l : List Nat} {x : Nat} (h : x ∈ l) : valV (mapK f l) (.inl (x : Int)) = some (vn (f x)) := by
  unfold mapK
  rw [valV_kvm]
  exact lookup_some (g := fun x => x) (f := fun x => vn (f x)) h fun b _ e => by rw [e]
theorem mapK_no {f : Nat → Nat} {l : List Nat} {x : Nat} (h : x ∉ l) : valV (mapK f l) (.inl (x : Int)) = none := by
  unfold mapK
  rw [valV_kvm]
  exact lookup_none (g := fun x => x) (f := fun x => vn (f x)) fun e he z => h (z ▸ he)
theorem mapK_len (f : Nat → Nat) (l : List Nat) : (mapK f l).length = l.length := by
  unfold mapK; rw [kvm_len, List.length_map]
theorem mapK_in (f : Nat → Nat) (l : List Nat) (x : Nat) : (valV (mapK f l) (.inl (x : Int))).isSome = decide (x ∈ l) := by
  by_cases h : x ∈ l
  · rw [mapK_get h, decide_eq_true h]; rfl
  · rw [mapK_no h, decide_eq_false h]; rfl
theorem mapK_put {f : Nat → Nat} {l : List Nat} {x y : Nat} (h : x ∉ l) (e : y = f x) : putK (mapK f l) (.inl (x : Int)) (vn y) = mapK f (l ++ [x]) := by
  subst e
  unfold mapK
  rw [kvm_snoc _ (lookup_none (g := fun x => x) (f := fun x => vn (f x)) fun e he (z : e = x) => h (z ▸ he)), List.map_append]; rfl
theorem ne_lst {H : Hp} {r d : Addr} {l : List Nat} {k : List (Key × V)} (h : LI H r l) (h' : H d = some (.dK k)) : r ≠ d := fun z => by
  unfold LI at h
  rw [z, h'] at h; cases h
def spSettled : Sp := fun vs H Q _ => ∃ a rows, vs = [.ref a] ∧ LR H a rows ∧ rows.length ≤ 2000 ∧ (∀ r ∈ rows, r.length ≤ 2000) ∧ ∀ H' p rows', Same H H' → H p = none → FR H H' p rows' → PermR rows rows' → Q (.ref p) H'
theorem ok_L_settled {P : Program} {w : World} {K : PySem.W.Frag} {mg : Str → Option Value} {base : Heap} {fa : Nat → Addr} {fd : Nat → FuncData} (TX : Txt K mg fa fd) : FnOk P w K mg base CX0 1 (fa 39) (fd 39) ["_law_rows"] spSettled := by
  refine TX.F_L_settled.ok sc_L_settled (fun vs H Q E h => ?_) (fun cdv A outer s H vs Q E hr h => ?_)
  · obtain ⟨a, rows, rfl, hA, hz, hr0, q⟩ := h
    rfl
  · have nd := sc_L_settled.nd
    have hu := hu_of hr
    obtain ⟨a, rows, rfl, hA, hz, hr0, q⟩ := h
    refine ⟨_, (pss_cons (ps_set (i := 1) nd rfl (Or.inl rfl) (pe_lst pa_nil))
      (pss_cons (ps_for PassesOwn.never (by rfl) (pi_list (pv 0)) (pg_name (i := 2) nd rfl (Or.inl rfl)) (pss_cons (ps_set (i := 3) nd rfl (Or.inl rfl) pe_int)
      (pss_cons (ps_if (pt_cmpR op_gt (pe_callB call_len_seq (by rfl) TX.b_len PySem.boot_len (pa_cons (pv 2) pa_nil)) pe_int (nomark _)) (pss_one (ps_set (i := 3) nd rfl (Or.inl rfl) (pe_bm PySem.F.plainAttrs_list PySem.F.slot_list_index PySem.F.type_list_index mt_index (pv 2) (pa_cons (pe_callB (cr_min rfl) (by rfl) TX.b_min (by decide +kernel) (pa_cons (pv 2) pa_nil)) pa_nil)))) pss_nil)
      (pss_one (ps_expr (pe_bm PySem.F.plainAttrs_list PySem.F.slot_list_append PySem.F.type_list_append mt_append (pv 1) (pa_cons (pe_op op_cat (pe_slice sl_list (pv 2) (po_some (pv 3)) po_none) (pe_slice sl_list (pv 2) po_none (po_some (pv 3)))) pa_nil)))))))
      (pss_one (ps_ret (pv 1))))), ?_⟩
    obtain ⟨as, ha, hxa⟩ := hA
    refine q_asg (ex_lst a0 (Nat.zero_le _) fun c nc => ?_)
    have s1 := same_upd (o := HO.lst []) nc
    refine sq (s_forLn vv (s1 _ _ ha) (fun i σ H' => ∃ y2 y3 rs R, σ = [some (.ref a), some (.ref c), y2, y3] ∧ Same H H' ∧ H' c = some (.lst (rs.map V.ref)) ∧ LX H' rs R ∧ (∀ r ∈ rs, r ≠ c ∧ H r = none) ∧ R.length = i ∧ ∀ (j : Nat) r r', rows[j]? = some r → R[j]? = some r' → r'.Perm r)
      ⟨none, none, [], [], rfl, s1, upd_same, LX.nil, fun r hr => (by cases hr), rfl, fun j r r' _ h => (by simp at h)⟩ (fun i σ H' _ h => ?_) (fun i x σ H' hi h => ?_) (fun σ H' h => ?_))
    · obtain ⟨_, _, _, _, _, sm, _⟩ := h
      exact sm _ _ ha
    · obtain ⟨y2, y3, rs, R, rfl, sm, hc, hX, hn, hRl, hp⟩ := h
      obtain ⟨r, hr, rfl⟩ := ref_get' hi
      have hil : i < rows.length := by rw [← hxa.1]; exact (List.getElem?_eq_some_iff.mp hr).1
      have hrow := row_get hil
      have hlr := sm _ _ (hxa.2 i r _ hr hrow)
      have hrl := hr0 _ (List.mem_of_getElem? hrow)
      refine q_set (v := vn 0) (vcn 0) ?_
      refine q_ifk (i := 3) (q := 0 < (row rows i).length) (fun k => k ≤ (row rows i).length) (ato (at_ (vgt (vlen vv (vns_len _) hlr) vc)) dec0) (fun h0 D' hD' => ?_) (fun _ => ⟨0, Nat.zero_le _, rfl⟩) (fun k hk => ?_)
      · refine s_asg (ex_bm vv hlr (ex_cons (vmin vv h0 hlr fun m hm hle => ?_)))
        have hk : (row rows i).idxOf m < (row rows i).length := List.idxOf_lt_length_iff.mpr hm
        refine ⟨r, vns (row rows i), vn m, (row rows i).idxOf m, vn m, rfl, rfl, SqL.of hlr, rfl, flat_vns _, vns_get (idx_get hm), by rw [eqV_vn]; exact decide_eq_true rfl, fun j z hj hz => ?_, hD' _ (Nat.le_of_lt hk)⟩
        obtain ⟨x, hx, rfl⟩ := vns_get' hz
        rw [eqV_vn]
        exact decide_eq_false fun e => idx_no hj (e ▸ hx)
      refine s_appx vv hc (ex_cut2 vv vv hlr (by omega) hk fun H2 p s2 np hp2 => ?_)
      have npc : p ≠ c := fun z => by rw [z, hc] at np; cases np
      refine app_n (s2 _ _ hc) (by rw [List.length_map, hX.1, hRl]; omega) (pn ⟨_, _, rs ++ [p], R ++ [(row rows i).drop k ++ (row rows i).take k], rfl, same_mut (sm.trans s2) nc, by rw [upd_same, ref_snoc], ((hX.mono s2).off fun r hr => (hn r hr).1).snoc ((upd_ne npc).trans hp2), snocP hn ⟨npc, sm.free np⟩, by rw [List.length_append, hRl]; rfl, fun j w w' e1 e2 => ?_⟩)
      by_cases hj : j < R.length
      · rw [List.getElem?_append_left hj] at e2
        exact hp j w w' e1 e2
      · rw [List.getElem?_append_right (by omega)] at e2
        have e0 : j - R.length = 0 := by
          have := (List.getElem?_eq_some_iff.mp e2).1
          rw [List.length_singleton] at this
          omega
        rw [e0] at e2
        cases Option.some.inj e2
        have : j = i := by omega
        rw [this, hrow] at e1
        cases Option.some.inj e1
        have := (List.perm_append_comm (l₁ := (row rows i).drop k) (l₂ := (row rows i).take k))
        rw [List.take_append_drop] at this
        exact this
    · obtain ⟨y2, y3, rs, R, rfl, sm, hc, hX, hn, hRl, hp⟩ := h
      rw [List.length_map, hxa.1] at hRl
      exact pn (s_ret vv (q H' c R sm nc ⟨rs, hc, hX, fun r hr => (hn r hr).2⟩ ⟨hRl, hp⟩))

theorem done_not {D : List (List Nat)} {i j x : Nat} {r : List Nat} (nd : D.flatten.Nodup) (hi : D[i]? = some r) (hj : r[j]? = some x) : x ∉ (D.take i).flatten ++ r.take j := by
  have e : D.flatten = ((D.take i).flatten ++ r.take j) ++ (r.drop j ++ (D.drop (i + 1)).flatten) := by
    have h1 := (List.getElem?_eq_some_iff.mp hi).1
    conv => lhs; rw [← List.take_append_drop i D, List.drop_eq_getElem_cons h1, (List.getElem?_eq_some_iff.mp hi).2, List.flatten_append, List.flatten_cons]
    rw [List.append_assoc, ← List.append_assoc (r.take j), List.take_append_drop]
  rw [e, List.nodup_append] at nd
  intro z
  exact nd.2.2 x z x (List.mem_append_left _ (List.mem_of_getElem? (i := 0) (by rw [List.getElem?_drop]; exact hj))) rfl
theorem take_flat {D : List (List Nat)} {i : Nat} {r : List Nat} (hi : D[i]? = some r) : (D.take i).flatten ++ r = (D.take (i + 1)).flatten := by
  rw [take_succ_get hi, List.flatten_append, List.flatten_singleton]
theorem done_len {D : List (List Nat)} {i j : Nat} {r : List Nat} {x : Nat} (hi : D[i]? = some r) (hj : r[j]? = some x) : ((D.take i).flatten ++ r.take j).length < D.flatten.length := by
  have e : D.flatten = ((D.take i).flatten ++ r.take j) ++ (r.drop j ++ (D.drop (i + 1)).flatten) := by
    have h1 := (List.getElem?_eq_some_iff.mp hi).1
    conv => lhs; rw [← List.take_append_drop i D, List.drop_eq_getElem_cons h1, (List.getElem?_eq_some_iff.mp hi).2, List.flatten_append, List.flatten_cons]
    rw [List.append_assoc, ← List.append_assoc (r.take j), List.take_append_drop]
  have hjl := (List.getElem?_eq_some_iff.mp hj).1
  rw [e, List.length_append (as := _ ++ _), List.length_append (as := r.drop j), List.length_drop]
  omega
def spLSeats : Sp := fun vs H Q _ => ∃ a rows m, vs = [.ref a] ∧ LR H a rows ∧ Dr rows m ∧ rows.length ≤ 100000 ∧ m ≤ 100000 ∧ ∀ H' d, Same H H' → H d = none → H' d = some (.dK (mapK (seat rows) rows.flatten)) → Q (.ref d) H'
theorem ok_L_seats {P : Program} {w : World} {K : PySem.W.Frag} {mg : Str → Option Value} {base : Heap} {fa : Nat → Addr} {fd : Nat → FuncData} (TX : Txt K mg fa fd) : FnOk P w K mg base CX0 1 (fa 41) (fd 41) ["_law_drawing_here"] spLSeats := by
  refine TX.F_L_seats.ok sc_L_seats (fun vs H Q E h => ?_) (fun cdv A outer s H vs Q E hr h => ?_)
  · obtain ⟨a, rows, m, rfl, hA, hD, hz, hm, q⟩ := h
    rfl
  · have nd := sc_L_seats.nd
    have hu := hu_of hr
    obtain ⟨a, rows, m, rfl, hA, hD, hz, hm, q⟩ := h
    refine ⟨_, (pss_cons (ps_set (i := 1) nd rfl (Or.inl rfl) pe_dnewK)
      (pss_cons (ps_for PassesOwn.never (by rfl) (pi_range1 (by rfl) TX.b_range (pa_cons (pe_callB call_len_seq (by rfl) TX.b_len PySem.boot_len (pa_cons (pv 0) pa_nil)) pa_nil)) (pg_name (i := 2) nd rfl (Or.inl rfl)) (pss_one (ps_for PassesOwn.never (by rfl) (pi_list (pe_ix ix_list (pv 0) (pv 2) (fun _ _ => rfl))) (pg_name (i := 3) nd rfl (Or.inl rfl)) (pss_one (ps_dput hu (pv 1) (pv 3) (pv 2) rfl)))))
      (pss_one (ps_ret (pv 1))))), ?_⟩
    obtain ⟨as, ha, hxa⟩ := id hA
    have hfl := hD.len
    refine q_asg fun d nd => ?_
    have s1 := same_upd (o := HO.dK []) nd
    refine sq (s_forR1 (n := rows.length) (a1 (vlen vv (by rw [List.length_map, hxa.1]) (s1 _ _ ha))) (by omega) (fun i σ H' => ∃ y2 y3, σ = [some (.ref a), some (.ref d), y2, y3] ∧ Same H H' ∧ H' d = some (.dK (mapK (seat rows) (rows.take i).flatten)))
      ⟨none, none, rfl, s1, upd_same⟩ (fun i σ H' hi h => ?_) (fun σ H' h => ?_))
    · obtain ⟨y2, y3, rfl, sm, hd⟩ := h
      have hrow := row_get hi
      obtain ⟨r, hr, hlr⟩ := (hxa.mono sm).get hrow
      refine s_forLn (vixr vv vv hr (sm _ _ ha)) hlr (fun j σ H' => ∃ y3, σ = [some (.ref a), some (.ref d), some (vn i), y3] ∧ Same H H' ∧ LI H' r (row rows i) ∧ H' d = some (.dK (mapK (seat rows) ((rows.take i).flatten ++ (row rows i).take j))))
        ⟨_, rfl, sm, hlr, by rw [List.take_zero, List.append_nil]; exact hd⟩ (fun j σ H' _ h => ?_) (fun j x σ H' hj h => ?_) (fun σ H' h => ?_)
      · obtain ⟨_, _, _, h, _⟩ := h
        exact h
      · obtain ⟨y3, rfl, sm3, hl3, hd3⟩ := h
        obtain ⟨e, he, rfl⟩ := vns_get' hj
        have hdl := done_len hrow he
        refine s_dput (v := vn i) vv vv vv (by rw [mapK_len]; omega) hd3 (pn ⟨_, rfl, same_mut sm3 nd, ?_, ?_⟩)
        · exact (upd_ne (ne_lst hl3 hd3)).trans hl3
        · rw [upd_same, mapK_put (done_not hD.nd hrow he) (seat_at hD.nd hrow (List.mem_of_getElem? he)).symm, List.append_assoc, ← take_succ_get he]
      · obtain ⟨y3, rfl, sm3, hl3, hd3⟩ := h
        rw [vns_len, List.take_length, take_flat hrow] at hd3
        exact pn ⟨_, _, rfl, sm3, hd3⟩
    · obtain ⟨y2, y3, rfl, sm, hd⟩ := h
      rw [List.take_length] at hd
      exact pn (s_ret vv (q H' d sm nd hd))

def spLBehind : Sp := fun vs H Q _ => ∃ a rows m, vs = [.ref a] ∧ LR H a rows ∧ Dr rows m ∧ rows.length ≤ 100000 ∧ m ≤ 100000 ∧ ∀ H' d, Same H H' → H d = none → H' d = some (.dK (mapK (behind rows) rows.flatten)) → Q (.ref d) H'
theorem ok_L_behind {P : Program} {w : World} {K : PySem.W.Frag} {mg : Str → Option Value} {base : Heap} {fa : Nat → Addr} {fd : Nat → FuncData} (TX : Txt K mg fa fd) : FnOk P w K mg base CX0 1 (fa 42) (fd 42) ["_law_drawing_here"] spLBehind := by
  refine TX.F_L_behind.ok sc_L_behind (fun vs H Q E h => ?_) (fun cdv A outer s H vs Q E hr h => ?_)
  · obtain ⟨a, rows, m, rfl, hA, hD, hz, hm, q⟩ := h
    rfl
  · have nd := sc_L_behind.nd
    have hu := hu_of hr
    obtain ⟨a, rows, m, rfl, hA, hD, hz, hm, q⟩ := h
    refine ⟨_, (pss_cons (ps_set (i := 1) nd rfl (Or.inl rfl) pe_dnewK)
      (pss_cons (ps_for PassesOwn.never (by rfl) (pi_list (pv 0)) (pg_name (i := 2) nd rfl (Or.inl rfl)) (pss_one (ps_for PassesOwn.never (by rfl) (pi_range1 (by rfl) TX.b_range (pa_cons (pe_callB call_len_seq (by rfl) TX.b_len PySem.boot_len (pa_cons (pv 2) pa_nil)) pa_nil)) (pg_name (i := 3) nd rfl (Or.inl rfl)) (pss_one (ps_dput hu (pv 1) (pe_ix ix_list (pv 2) (pv 3) (fun _ _ => rfl)) (pe_ix ix_list (pv 2) (pe_op op_mod (pe_op op_add (pv 3) pe_int) (pe_callB call_len_seq (by rfl) TX.b_len PySem.boot_len (pa_cons (pv 2) pa_nil))) (fun _ _ => rfl)) rfl)))))
      (pss_one (ps_ret (pv 1))))), ?_⟩
    obtain ⟨as, ha, hxa⟩ := id hA
    have hfl := hD.len
    refine q_asg fun d nd => ?_
    have s1 := same_upd (o := HO.dK []) nd
    refine sq (s_forLn vv (s1 _ _ ha) (fun i σ H' => ∃ y2 y3, σ = [some (.ref a), some (.ref d), y2, y3] ∧ Same H H' ∧ H' d = some (.dK (mapK (behind rows) (rows.take i).flatten)))
      ⟨none, none, rfl, s1, upd_same⟩ (fun i σ H' _ h => ?_) (fun i x σ H' hi h => ?_) (fun σ H' h => ?_))
    · obtain ⟨_, _, _, sm, _⟩ := h
      exact sm _ _ ha
    · obtain ⟨y2, y3, rfl, sm, hd⟩ := h
      obtain ⟨r, hr, rfl⟩ := ref_get' hi
      have hil : i < rows.length := by rw [← hxa.1]; exact (List.getElem?_eq_some_iff.mp hr).1
      have hrow := row_get hil
      have hlr := sm _ _ (hxa.2 i r _ hr hrow)
      have hnd := row_nodup hD.nd hrow
      have hrl : (row rows i).length ≤ 2 * m := by
        have := nodup_sub_len (l₂ := List.range (2 * m)) hnd fun x hx => List.mem_range.mpr (row_end hD hx).1
        rw [List.length_range] at this
        exact this
      refine s_forR1 (n := (row rows i).length) (a1 (vlen vv (vns_len _) hlr)) (by omega) (fun j σ H' => ∃ y3, σ = [some (.ref a), some (.ref d), some (.ref r), y3] ∧ Same H H' ∧ LI H' r (row rows i) ∧ H' d = some (.dK (mapK (behind rows) ((rows.take i).flatten ++ (row rows i).take j))))
        ⟨_, rfl, sm, hlr, by rw [List.take_zero, List.append_nil]; exact hd⟩ (fun j σ H' hj h => ?_) (fun σ H' h => ?_)
      · obtain ⟨y3, rfl, sm3, hl3, hd3⟩ := h
        have he := List.getElem?_eq_getElem hj
        revert he
        generalize (row rows i)[j] = e
        intro he
        have hdl := done_len hrow he
        refine s_dput (v := vn (nxt (row rows i) e)) (vixn vv (vmodn (vaddn vv (vcn 1)) (vlen vv (vns_len _) hl3) (by omega)) (nxt_get hnd he) hl3) vv (vixn vv vv he hl3) (by rw [mapK_len]; omega) hd3 (pn ⟨_, rfl, same_mut sm3 nd, ?_, ?_⟩)
        · exact (upd_ne (ne_lst hl3 hd3)).trans hl3
        · rw [upd_same, mapK_put (done_not hD.nd hrow he) (by unfold behind; rw [seat_at hD.nd hrow (List.mem_of_getElem? he)]), List.append_assoc, ← take_succ_get he]
      · obtain ⟨y3, rfl, sm3, hl3, hd3⟩ := h
        rw [List.take_length, take_flat hrow] at hd3
        exact pn ⟨_, _, rfl, sm3, hd3⟩
    · obtain ⟨y2, y3, rfl, sm, hd⟩ := h
      rw [List.length_map, hxa.1, List.take_length] at hd
      exact pn (s_ret vv (q H' d sm nd hd))

end RF
namespace RF
open PySem PySem.Spec PyProof.Rows L2
/-! ### promises and defs: the law's lands -/
theorem not_dec (p : Prop) [Decidable p] : (!decide p) = decide (¬ p) := (decide_not).symm
theorem LX.app {H : Hp} {rs bs : List Addr} {rows brows : List (List Nat)} (h : LX H rs rows) (h2 : LX H bs brows) : LX H (rs ++ bs) (rows ++ brows) := by
  refine ⟨by rw [List.length_append, List.length_append, h.1, h2.1], fun i q w e1 e2 => ?_⟩
  by_cases hi : i < rs.length
  · rw [List.getElem?_append_left hi] at e1
    rw [List.getElem?_append_left (by rw [← h.1]; exact hi)] at e2
    exact h.2 i q w e1 e2
  · rw [List.getElem?_append_right (by omega)] at e1
    rw [List.getElem?_append_right (by rw [← h.1]; omega), ← h.1] at e2
    exact h2.2 _ q w e1 e2
theorem ex_lcL {K : PySem.W.Frag} {σ : L2.St} {H : Hp} {g : TG} {tt : TT} {te : TE} {a : Addr} {xs : List V} {Q : VK} {tl : TE} {vs : List Nat} (h : Va tl σ H (.ref a)) (hx : H a = some (.lst xs)) (k : ∀ p, H p = none → ∃ Pv : Nat → Hp → Prop, Pv 0 (upd H p (.lst [])) ∧ (∀ i H, i ≤ xs.length → Pv i H → SqL K H a xs) ∧
    (∀ i x H, xs[i]? = some x → Pv i H → g x (wipe σ vs) H fun σ2 H2 => wipe σ2 vs = wipe σ vs ∧ tt σ2 H2 fun b H3 =>
      if b = true then te σ2 H3 fun y H4 => ∃ acc, H4 p = some (.lst acc) ∧ acc.length < sizeLine ∧ Pv (i + 1) (upd H4 p (.lst (acc ++ [y]))) else Pv (i + 1) H3) ∧ ∀ H, Pv xs.length H → Q (.ref p) H) : tLc (iList K tl) g tt te vs σ H Q := by
  refine h _ ⟨a, rfl, ⟨_, SqL.of hx⟩, fun p hp => ?_⟩
  obtain ⟨Pv, h0, hl, hs, hd⟩ := k p hp
  exact lc_list (xs := xs) Pv h0 hl hs hd
def spLLands : Sp := fun vs H Q _ => ∃ a rows m, vs = [.ref a] ∧ LR H a rows ∧ Dr rows m ∧ rows.length ≤ 100000 ∧ m ≤ 100000 ∧ ∀ H' p, Same H H' → H p = none → FR H H' p (landsF rows) → Q (.ref p) H'
theorem ok_L_lands {P : Program} {w : World} {K : PySem.W.Frag} {mg : Str → Option Value} {base : Heap} {fa : Nat → Addr} {fd : Nat → FuncData} (TX : Txt K mg fa fd) : FnOk P w K mg base CX0 2 (fa 43) (fd 43) ["_law_drawing_here"] spLLands := by
  refine TX.F_L_lands.ok sc_L_lands (fun vs H Q E h => ?_) (fun cdv A outer s H vs Q E hr h => ?_)
  · obtain ⟨a, rows, m, rfl, hA, hD, hz, hm, q⟩ := h
    rfl
  · have nd := sc_L_lands.nd
    have hu := hu_of hr
    obtain ⟨a, rows, m, rfl, hA, hD, hz, hm, q⟩ := h
    refine ⟨_, (pss_cons (ps_set (i := 1) nd rfl (Or.inl rfl) (pe_call (ok_L_behind TX) (hr.mono (by decide)) (by rfl) TX.g_L_behind TX.F_L_behind.kp TX.B_L_behind .nil pass0 (pa_cons (pv 0) pa_nil)))
      (pss_cons (ps_set (i := 2) nd rfl (Or.inl rfl) pe_dnewK)
      (pss_cons (ps_set (i := 3) nd rfl (Or.inl rfl) (pe_lst pa_nil))
      (pss_cons (ps_for PassesOwn.never (by rfl) (pi_range1 (by rfl) TX.b_range (pa_cons (pe_callB call_lenD (by rfl) TX.b_len PySem.boot_len (pa_cons (pv 1) pa_nil)) pa_nil)) (pg_name (i := 4) nd rfl (Or.inl rfl)) (pss_cons (ps_set (i := 5) nd rfl (Or.inl rfl) (pe_lst pa_nil))
      (pss_cons (ps_set (i := 6) nd rfl (Or.inl rfl) (pv 4))
      (pss_cons (ps_while PassesOwn.never (pt_cmp (pc_dnotin hu (pv 6) (pv 2))) (pss_cons (ps_dput hu (pv 2) (pv 6) pe_bl rfl)
      (pss_cons (ps_expr (pe_bm PySem.F.plainAttrs_list PySem.F.slot_list_append PySem.F.type_list_append mt_append (pv 5) (pa_cons (pv 6) pa_nil)))
      (pss_one (ps_set (i := 6) nd rfl (Or.inl rfl) (pe_dget hu (pv 1) (pe_call (ok_L_mate TX) (hr.mono (by decide)) (by rfl) TX.g_L_mate TX.F_L_mate.kp TX.B_L_mate .nil pass0 (pa_cons (pv 6) pa_nil)) (fun _ _ => rfl)))))))
      (pss_one (ps_if (pt_cmpR op_gt (pe_callB call_len_seq (by rfl) TX.b_len PySem.boot_len (pa_cons (pv 5) pa_nil)) pe_int (nomark _)) (pss_one (ps_expr (pe_bm PySem.F.plainAttrs_list PySem.F.slot_list_append PySem.F.type_list_append mt_append (pv 3) (pa_cons (pv 5) pa_nil)))) pss_nil))))))
      (pss_one (ps_ret (pe_op op_cat (pv 3) (pe_lc (own := [("_law_row", 7)]) (g := gName 7) (by rfl) nd (pi_list (pv 0)) (blkOk_by (own := [("_law_row", 7)]) (N := nm_L_lands) (sc := (defScope s_L_lands)) (by decide +kernel)) (fun _ _ _ _ _ => (pg_name (i := 7) nd rfl (Or.inl rfl))) (fun _ _ _ _ _ => (pts_one (pt_cmpR op_eq (pe_callB (call_len_seqK (K := K) rfl) (by rfl) TX.b_len PySem.boot_len (pa_cons (pv 7) pa_nil)) pe_int (nomark _)))) (fun _ _ _ _ _ => (pe_lst pa_nil)))))))))), ?_⟩
    refine q_call (a1 vv) ⟨a, rows, m, rfl, hA, hD, by omega, by omega, fun H1 b s1 nb hb => ?_⟩
    have hbl : (mapK (behind rows) rows.flatten).length = 2 * m := by rw [mapK_len, hD.len]
    refine q_asg fun sn nsn => ?_
    have s2 := same_upd (o := HO.dK []) nsn
    refine q_asg (ex_lst a0 (Nat.zero_le _) fun c nc => ?_)
    have s3 := same_upd (o := HO.lst []) nc
    have nsn0 : H sn = none := s1.free nsn
    have nc0 : H c = none := (s1.trans s2).free nc
    have nbs : b ≠ sn := ne_of_none hb nsn
    have nbc : b ≠ c := ne_of_none (s2 _ _ hb) nc
    have ncs : sn ≠ c := ne_of_none upd_same nc
    have s12 := (s1.trans s2).trans s3
    have hb3 := (s2.trans s3) _ _ hb
    have hs3 := s3 _ _ (upd_same (H := H1) (a := sn) (o := HO.dK []))
    revert s12 hb3 hs3
    generalize hH4 : upd (upd H1 sn (.dK [])) c (.lst []) = H4
    intro s12 hb3 hs3
    have hc4 : H4 c = some (.lst (([] : List Addr).map V.ref)) := by rw [← hH4]; exact upd_same
    refine sq (s_forR1 (n := 2 * m) (a1 (vlenD vv hbl hb3)) (by omega) (fun j σ H' => ∃ y4 y5 y6 rs, σ = [some (.ref a), some (.ref b), some (.ref sn), some (.ref c), y4, y5, y6, none] ∧ Same H H' ∧ H' b = some (.dK (mapK (behind rows) rows.flatten)) ∧ H' sn = some (.dK (seenK (lgo (phi rows) (2 * m) j).1.reverse)) ∧ H' c = some (.lst (rs.map V.ref)) ∧ LX H' rs (lgo (phi rows) (2 * m) j).2 ∧ (∀ r ∈ rs, r ≠ sn ∧ r ≠ c ∧ H r = none) ∧ rs.length ≤ j)
      ⟨none, none, none, [], rfl, s12, hb3, hs3, hc4, LX.nil, fun r hr => (by cases hr), Nat.le_refl _⟩ (fun j σ H' hj h => ?_) (fun σ H' h => ?_))
    · obtain ⟨y4, y5, y6, rs, rfl, sm, hb', hs', hc', hX, hn, hrl⟩ := h
      have hlok := lok (f := phi rows) (N := 2 * m) (fun x hx => phi_lt hD hx) j (by omega)
      refine q_asg (ex_lst a0 (Nat.zero_le _) fun l nl => ?_)
      have s4 : Same H' (upd H' l (.lst [])) := same_upd nl
      have nl0 : H l = none := sm.free nl
      have nls : sn ≠ l := ne_of_none hs' nl
      have nlc : c ≠ l := ne_of_none hc' nl
      have nlb : b ≠ l := ne_of_none hb' nl
      have nlr : ∀ r ∈ rs, r ≠ l := fun r hr z => by
        obtain ⟨i, hi⟩ := List.getElem?_of_mem hr
        have hi' := (List.getElem?_eq_some_iff.mp hi).1
        have := hX.2 i r _ hi (row_get (by rw [← hX.1]; exact hi'))
        rw [z] at this
        rw [this] at nl
        cases nl
      refine q_set vv ?_
      refine sq (s_while (fun k σ H'' => ∃ e lw, σ = [some (.ref a), some (.ref b), some (.ref sn), some (.ref c), some (vn j), some (.ref l), some (vn e), none] ∧ Same H H'' ∧ H'' b = some (.dK (mapK (behind rows) rows.flatten)) ∧ H'' sn = some (.dK (seenK ((lgo (phi rows) (2 * m) j).1.reverse ++ lw))) ∧ H'' c = some (.lst (rs.map V.ref)) ∧ LX H'' rs (lgo (phi rows) (2 * m) j).2 ∧ LI H'' l lw ∧ e < 2 * m ∧
          lw ++ fwalk (phi rows) k (lw.reverse ++ (lgo (phi rows) (2 * m) j).1) e = fwalk (phi rows) (2 * m) (lgo (phi rows) (2 * m) j).1 j ∧ (lw.reverse ++ (lgo (phi rows) (2 * m) j).1).Nodup ∧ (∀ x ∈ lw.reverse ++ (lgo (phi rows) (2 * m) j).1, x < 2 * m) ∧ k + lw.length = 2 * m)
        (2 * m) ⟨j, [], rfl, sm.trans s4, s4 _ _ hb', by rw [List.append_nil]; exact s4 _ _ hs', s4 _ _ hc', hX.mono s4, upd_same, hj, rfl, hlok.nd, hlok.lt, rfl⟩ (fun k σ H5 h => ?_))
      obtain ⟨e1, lw, rfl, sm5, hb5, hs5, hc5, hX5, hl5, he5, hf5, hn5, hlt5, hk5⟩ := h
      have hmi : e1 ∈ (lgo (phi rows) (2 * m) j).1.reverse ++ lw ↔ e1 ∈ lw.reverse ++ (lgo (phi rows) (2 * m) j).1 := by
        rw [List.mem_append, List.mem_append, List.mem_reverse, List.mem_reverse, Or.comm]
      refine ⟨_, aB (vdnotin vv vv (seenK_in _ _) hs5), fun hno => ?_, fun hyes => ?_⟩
      · have hnm : e1 ∉ lw.reverse ++ (lgo (phi rows) (2 * m) j).1 := fun z => by
          rw [decide_eq_true (hmi.mpr z)] at hno
          cases hno
        have hnm2 := fun z => hnm (hmi.mp z)
        have hcnt := nodup_sub_len (l₂ := List.range (2 * m)) (List.nodup_cons.mpr ⟨hnm, hn5⟩) fun x hx => by
          rcases List.mem_cons.mp hx with rfl | hx
          · exact List.mem_range.mpr he5
          · exact List.mem_range.mpr (hlt5 x hx)
        rw [List.length_cons, List.length_append, List.length_reverse, List.length_range] at hcnt
        obtain ⟨k', rfl⟩ : ∃ k', k = k' + 1 := ⟨k - 1, by omega⟩
        rw [fwalk_step _ _ hnm] at hf5
        refine q_dput (v := .bl true) vc vv vv (by rw [seenK_len, List.length_append, List.length_reverse]; omega) hs5 ?_
        rw [seenK_put hnm2, List.append_assoc]
        refine q_app vv vv ((upd_ne nls.symm).trans hl5) (by rw [vns_len]; omega) ?_
        refine s_set (v := vn (phi rows e1)) (vdget vv (vmate vv) (mapK_get ((hD.mem _).mpr (mate_lt he5))) ((upd_ne nlb).trans ((upd_ne nbs).trans hb5))) (pn ⟨k', Nat.lt_succ_self k', phi rows e1, lw ++ [e1], rfl, same_mut (same_mut sm5 nsn0) nl0, (upd_ne nlb).trans ((upd_ne nbs).trans hb5), (upd_ne nls).trans upd_same, (upd_ne nlc).trans ((upd_ne ncs.symm).trans hc5), (hX5.off fun r hr => (hn r hr).1).off nlr, ?_, phi_lt hD he5, ?_, ?_, ?_, ?_⟩)
        · refine upd_same.trans ?_
          show _ = some (HO.lst (List.map vn (lw ++ [e1])))
          rw [List.map_append]; rfl
        · rw [List.reverse_append]
          show lw ++ [e1] ++ fwalk (phi rows) k' (e1 :: (lw.reverse ++ _)) (phi rows e1) = _
          rw [← hf5, List.append_assoc]
          rfl
        · rw [List.reverse_append]
          exact List.nodup_cons.mpr ⟨hnm, hn5⟩
        · rw [List.reverse_append]
          intro x hx
          rcases List.mem_cons.mp hx with rfl | hx
          · exact he5
          · exact hlt5 x hx
        · rw [List.length_append, List.length_singleton]; omega
      · have hm' : e1 ∈ lw.reverse ++ (lgo (phi rows) (2 * m) j).1 := Classical.byContradiction fun z => by
          rw [decide_eq_false (fun y => z (hmi.mp y))] at hyes
          cases hyes
        rw [fwalk_mem _ _ hm', List.append_nil] at hf5
        subst hf5
        refine pn (s_when (q := 0 < (fwalk (phi rows) (2 * m) (lgo (phi rows) (2 * m) j).1 j).length) (ato (at_ (vgt (vlen vv (vns_len _) hl5) vc)) dec0) (fun hpos => ?_) (fun hnp => pn ⟨_, _, _, rs, rfl, sm5, hb5, ?_, hc5, ?_, hn, by omega⟩))
        · have hjn : j ∉ (lgo (phi rows) (2 * m) j).1 := fun z => by rw [fwalk_mem _ _ z] at hpos; cases hpos
          refine s_app vv vv hc5 (by rw [List.length_map]; omega) (pn ⟨_, _, _, rs ++ [l], rfl, same_mut sm5 nc0, (upd_ne nbc).trans hb5, ?_, by rw [upd_same, ref_snoc], ?_, snocP hn ⟨nls.symm, nlc.symm, nl0⟩, by rw [List.length_append, List.length_singleton]; omega⟩)
          · refine (upd_ne ncs).trans ?_
            rw [lgo_succ]; unfold lstep; rw [if_neg hjn, hs5, List.reverse_append, List.reverse_reverse]
          · rw [lgo_succ]; unfold lstep; rw [if_neg hjn]
            exact (hX5.off fun r hr => (hn r hr).2.1).snoc ((upd_ne nlc.symm).trans hl5)
        · have hjn : j ∈ (lgo (phi rows) (2 * m) j).1 := Classical.byContradiction fun z => by
            obtain ⟨k', ek⟩ : ∃ k', 2 * m = k' + 1 := ⟨2 * m - 1, by omega⟩
            apply hnp
            have := fwalk_step (phi rows) k' z
            rw [← ek] at this
            rw [this, List.length_cons]
            omega
          rw [lgo_succ]; unfold lstep; rw [if_pos hjn]
          rw [fwalk_mem _ _ hjn, List.append_nil] at hs5
          exact hs5
        · have hjn : j ∈ (lgo (phi rows) (2 * m) j).1 := Classical.byContradiction fun z => by
            obtain ⟨k', ek⟩ : ∃ k', 2 * m = k' + 1 := ⟨2 * m - 1, by omega⟩
            apply hnp
            have := fwalk_step (phi rows) k' z
            rw [← ek] at this
            rw [this, List.length_cons]
            omega
          rw [lgo_succ]; unfold lstep; rw [if_pos hjn]
          exact hX5
    · obtain ⟨y4, y5, y6, rs, rfl, sm, hb', hs', hc', hX, hn, hrl⟩ := h
      obtain ⟨as, ha, hxa⟩ := hA
      refine pn (s_retx (ex_opx (ex vv ?_)))
      have ha' := sm _ _ ha
      refine ex_lcL (xs := as.map V.ref) vv ha' fun p np => ?_
      have npa : a ≠ p := ne_of_none ha' np
      have npc : c ≠ p := ne_of_none hc' np
      have nps : sn ≠ p := ne_of_none hs' np
      have smp := sm.trans (same_upd (o := HO.lst []) np)
      have np0 : H p = none := sm.free np
      refine ⟨fun i H3 => ∃ bs, Same H H3 ∧ H3 c = some (.lst (rs.map V.ref)) ∧ LX H3 rs (lgo (phi rows) (2 * m) (2 * m)).2 ∧ H3 p = some (.lst (bs.map V.ref)) ∧ LX H3 bs (bares (rows.take i)) ∧ (∀ r ∈ bs, r ≠ p ∧ H r = none) ∧ bs.length ≤ i,
        ⟨[], smp, (upd_ne npc).trans hc', hX.mono (same_upd np), upd_same, LX.nil, fun r hr => (by cases hr), Nat.le_refl _⟩, (fun i H3 _ h => ?_), (fun i x H3 hi h => ?_), (fun H3 h => ?_)⟩
      · obtain ⟨_, sm3, _⟩ := h
        exact SqL.of (sm3 _ _ ha)
      · obtain ⟨bs, sm3, hc3, hX3, hp3, hB3, hn3, hbl3⟩ := h
        obtain ⟨r, hr, rfl⟩ := ref_get' hi
        have hil : i < rows.length := by rw [← hxa.1]; exact (List.getElem?_eq_some_iff.mp hr).1
        have hrow := row_get hil
        have hlr := sm3 _ _ (hxa.2 i r _ hr hrow)
        refine ⟨rfl, at_ (veqP (q := row rows i = []) (vlen vv (vns_len _) hlr) vc (len0 _)) _ ?_⟩
        by_cases e : row rows i = []
        · rw [if_pos (decide_eq_true e)]
          refine ex_lst a0 (Nat.zero_le _) fun l nl => ?_
          have npl : p ≠ l := ne_of_none hp3 nl
          have ncl : c ≠ l := ne_of_none hc3 nl
          have s5 := same_upd (o := HO.lst []) nl
          refine ⟨_, (upd_ne npl).trans hp3, by rw [List.length_map, sizeLine_eq]; omega, bs ++ [l], same_mut (sm3.trans s5) np0, (upd_ne npc).trans ((upd_ne ncl).trans hc3), (hX3.mono s5).off fun r hr z => ?_, by rw [upd_same, ref_snoc], ?_, snocP hn3 ⟨npl.symm, sm3.free nl⟩, by rw [List.length_append, List.length_singleton]; omega⟩
          · have h1 := (hn r hr).2.1
            obtain ⟨i', hi'⟩ := List.getElem?_of_mem hr
            have hl' := hX.2 i' r _ hi' (row_get (by rw [← hX.1]; exact (List.getElem?_eq_some_iff.mp hi').1))
            rw [z] at hl'
            unfold LI at hl'
            rw [np] at hl'; cases hl'
          · have eb : bares (rows.take (i + 1)) = bares (rows.take i) ++ [[]] := by
              unfold bares
              rw [take_succ_get hrow, List.filter_append, List.map_append, e]
              rfl
            rw [eb]
            exact ((hB3.mono s5).off fun r hr => (hn3 r hr).1).snoc ((upd_ne npl.symm).trans upd_same)
        · rw [if_neg (by rw [decide_eq_false e]; decide)]
          refine ⟨bs, sm3, hc3, hX3, hp3, ?_, hn3, by omega⟩
          have eb : bares (rows.take (i + 1)) = bares (rows.take i) := by
            unfold bares
            rw [take_succ_get hrow, List.filter_append, List.map_append]
            have : ([row rows i].filter fun r => r.isEmpty) = [] := by
              cases hq : row rows i with
              | nil => exact absurd hq e
              | cons x r => rfl
            rw [this, List.map_nil, List.append_nil]
          rw [eb]
          exact hB3
      · obtain ⟨bs, sm3, hc3, hX3, hp3, hB3, hn3, hbl3⟩ := h
        rw [List.length_map, hxa.1] at hbl3
        rw [List.length_map, hxa.1, List.take_length] at hB3
        refine cat_n hc3 hp3 (by rw [List.length_map, List.length_map]; omega) fun t nt => ?_
        have s6 := same_upd (o := HO.lst (rs.map V.ref ++ bs.map V.ref)) nt
        refine q _ t (sm3.trans s6) (sm3.free nt) ⟨rs ++ bs, by rw [upd_same, List.map_append], ?_, fun r hr => ?_⟩
        · unfold landsF
          rw [hD.len]
          exact (hX3.mono s6).app (hB3.mono s6)
        · rcases List.mem_append.mp hr with h | h
          · exact (hn r h).2.2
          · exact (hn3 r h).2

end RF
namespace RF
open PySem PySem.Spec PyProof.Rows L2
/-! ### promises and defs: the law's parts, holes -/
theorem rows_nd {D : List (List Nat)} {m : Nat} (h : Dr D m) : ∀ {P : List Nat}, P.Nodup → ((P.map (row D)).flatten).Nodup
  | [], _ => List.nodup_nil
  | a :: P, nd => by
    obtain ⟨h1, h2⟩ := List.nodup_cons.mp nd
    rw [List.map_cons, List.flatten_cons, List.nodup_append]
    refine ⟨?_, rows_nd h h2, fun x hx y hy e => ?_⟩
    · by_cases ha : a < D.length
      · exact row_nodup h.nd (row_get ha)
      · have : row D a = [] := by
          unfold row
          rw [List.getD_eq_getElem?_getD, List.getElem?_eq_none (by omega)]; rfl
        rw [this]; exact List.nodup_nil
    · subst e
      obtain ⟨r, hr, hx2⟩ := List.mem_flatten.mp hy
      obtain ⟨p, hp, rfl⟩ := List.mem_map.mp hr
      have e1 := (row_end h hx).2
      have e2 := (row_end h hx2).2
      exact h1 (by rw [← e1, e2]; exact hp)
theorem ends_le {D : List (List Nat)} {m : Nat} (h : Dr D m) {P : List Nat} (nd : P.Nodup) : endsOf D P ≤ 2 * m := by
  rw [ends_flat]
  have := nodup_sub_len (l₂ := List.range (2 * m)) (rows_nd h nd) fun x hx => by
    obtain ⟨r, hr, hx2⟩ := List.mem_flatten.mp hx
    obtain ⟨p, hp, rfl⟩ := List.mem_map.mp hr
    exact List.mem_range.mpr (row_end h hx2).1
  rw [List.length_range] at this
  exact this
theorem ends_snoc (D : List (List Nat)) (P : List Nat) (k : Nat) : endsOf D (P ++ [k]) = endsOf D P + (row D k).length := by
  unfold endsOf
  rw [List.map_append, List.sum_append]
  simp
theorem mem_ends {D : List (List Nat)} {m : Nat} (h : Dr D m) {P : List Nat} {x : Nat} (hx : x < 2 * m) : x ∈ (P.map (row D)).flatten ↔ seat D x ∈ P := by
  constructor
  · intro hy
    obtain ⟨r, hr, hx2⟩ := List.mem_flatten.mp hy
    obtain ⟨p, hp, rfl⟩ := List.mem_map.mp hr
    rw [(row_end h hx2).2]; exact hp
  · intro hp
    exact List.mem_flatten.mpr ⟨_, List.mem_map.mpr ⟨_, hp, rfl⟩, mem_row h hx⟩
theorem count_sum (p : List Nat → Bool) : ∀ L : List (List Nat), (L.map fun l => if p l = true then 1 else 0).sum = L.countP p
  | [] => rfl
  | a :: L => by
    rw [List.map_cons, List.sum_cons, count_sum p L, List.countP_cons]
    omega
theorem vint1 {σ : L2.St} {H : Hp} {te : TE} {b : Bool} (h : Va te σ H (.bl b)) : Va (tCB (fun xs H Q => (∃ i, xs = [V.int i] ∧ Q (.int i) H) ∨ ∃ k, xs = [V.bl k] ∧ Q (.int (if k then 1 else 0)) H) (tCons te tNil)) σ H (vn (if b = true then 1 else 0)) := fun Q q =>
  h _ (.inr ⟨b, rfl, by cases b <;> exact q⟩)
def spLParts : Sp := fun vs H Q _ => ∃ a rows m, vs = [.ref a] ∧ LR H a rows ∧ Dr rows m ∧ rows.length ≤ 100000 ∧ m ≤ 100000 ∧ ∀ H' p, Same H H' → H p = none → FR H H' p (partsF rows) → Q (.ref p) H'
theorem ok_L_parts {P : Program} {w : World} {K : PySem.W.Frag} {mg : Str → Option Value} {base : Heap} {fa : Nat → Addr} {fd : Nat → FuncData} (TX : Txt K mg fa fd) : FnOk P w K mg base CX0 2 (fa 56) (fd 56) ["_law_drawing_here"] spLParts := by
  refine TX.F_L_parts.ok sc_L_parts (fun vs H Q E h => ?_) (fun cdv A outer s H vs Q E hr h => ?_)
  · obtain ⟨a, rows, m, rfl, hA, hD, hz, hm, q⟩ := h
    rfl
  · have nd := sc_L_parts.nd
    have hu := hu_of hr
    obtain ⟨a, rows, m, rfl, hA, hD, hz, hm, q⟩ := h
    refine ⟨_, (pss_cons (ps_set (i := 1) nd rfl (Or.inr rfl) (pe_call (ok_L_seats TX) (hr.mono (by decide)) (by rfl) TX.g_L_seats TX.F_L_seats.kp TX.B_L_seats .nil pass0 (pa_cons (pv 0) pa_nil)))
      (pss_cons (ps_set (i := 2) nd rfl (Or.inl rfl) pe_dnewK)
      (pss_cons (ps_set (i := 3) nd rfl (Or.inl rfl) (pe_lst pa_nil))
      (pss_cons (ps_for PassesOwn.never (by rfl) (pi_range1 (by rfl) TX.b_range (pa_cons (pe_callB call_len_seq (by rfl) TX.b_len PySem.boot_len (pa_cons (pv 0) pa_nil)) pa_nil)) (pg_name (i := 4) nd rfl (Or.inl rfl)) (pss_cons (ps_set (i := 5) nd rfl (Or.inl rfl) (pe_lst pa_nil))
      (pss_cons (ps_set (i := 6) nd rfl (Or.inl rfl) (pe_lst (pa_cons (pv 4) pa_nil)))
      (pss_cons (ps_while PassesOwn.never (pt_cmpR op_gt (pe_callB call_len_seq (by rfl) TX.b_len PySem.boot_len (pa_cons (pv 6) pa_nil)) pe_int (nomark _)) (pss_cons (ps_set (i := 7) nd rfl (Or.inl rfl) (pe_bm0 PySem.F.plainAttrs_list PySem.F.slot_list_pop PySem.F.type_list_pop mt_pop (pv 6)))
      (pss_one (ps_if (pt_cmp (pc_dnotin hu (pv 7) (pv 2))) (pss_cons (ps_dput hu (pv 2) (pv 7) pe_bl rfl)
      (pss_cons (ps_expr (pe_bm PySem.F.plainAttrs_list PySem.F.slot_list_append PySem.F.type_list_append mt_append (pv 5) (pa_cons (pv 7) pa_nil)))
      (pss_one (ps_expr (pe_bm PySem.F.plainAttrs_list PySem.F.slot_list_extend PySem.F.type_list_extend mt_extend (pv 6) (pa_cons (pe_lc (own := [("_law_end", 8)]) (g := gName 8) (tt := tYes) (by rfl) nd (pi_list (pe_ix ix_list (pv 0) (pv 7) (fun _ _ => rfl))) (blkOk_by (own := [("_law_end", 8)]) (N := nm_L_parts) (sc := (defScope s_L_parts)) (by decide +kernel)) (fun _ _ _ _ _ => (pg_name (i := 8) nd rfl (Or.inl rfl))) (fun _ _ _ _ _ => pts_nil) (fun _ _ _ _ _ => (pe_dget hu (pv 1) (pe_call (ok_L_mate TX) (hr.mono (by decide)) (by rfl) TX.g_L_mate TX.F_L_mate.kp TX.B_L_mate .nil pass0 (pa_cons (pv 8) pa_nil)) (fun _ _ => rfl)))) pa_nil)))))) pss_nil))))
      (pss_one (ps_if (pt_cmpR op_gt (pe_callB call_len_seq (by rfl) TX.b_len PySem.boot_len (pa_cons (pv 5) pa_nil)) pe_int (nomark _)) (pss_one (ps_expr (pe_bm PySem.F.plainAttrs_list PySem.F.slot_list_append PySem.F.type_list_append mt_append (pv 3) (pa_cons (pe_callB cr_sortedI (by rfl) TX.b_sorted (by decide +kernel) (pa_cons (pv 5) pa_nil)) pa_nil)))) pss_nil))))))
      (pss_one (ps_ret (pv 3))))))), ?_⟩
    refine q_call (a1 vv) ⟨a, rows, m, rfl, hA, hD, by omega, by omega, fun H1 b s1 nb hb => ?_⟩
    refine q_asg fun d ndd => ?_
    refine q_asg (ex_lst a0 (Nat.zero_le _) fun c nc => ?_)
    have nd0 : H d = none := s1.free ndd
    have s2 := same_upd (o := HO.dK []) ndd
    have s3 := same_upd (o := HO.lst []) nc
    have nc0 : H c = none := (s1.trans s2).free nc
    have ndc : d ≠ c := ne_of_none upd_same nc
    have nbd : b ≠ d := ne_of_none hb ndd
    have nbc : b ≠ c := ne_of_none (s2 _ _ hb) nc
    have sAll := (s1.trans s2).trans s3
    obtain ⟨as, ha, hxa⟩ := id hA
    refine sq (s_forR1 (n := rows.length) (a1 (vlen vv (by rw [List.length_map, hxa.1]) (sAll _ _ ha))) (by omega) (fun j σ H' => ∃ y4 y5 y6 y7 rs S, σ = [some (.ref a), some (.ref b), some (.ref d), some (.ref c), y4, y5, y6, y7, none] ∧ Same H H' ∧ H' b = some (.dK (mapK (seat rows) rows.flatten)) ∧ H' d = some (.dK (seenK S)) ∧ H' c = some (.lst (rs.map V.ref)) ∧ LX H' rs (partsJ rows j) ∧ (∀ r ∈ rs, r ≠ d ∧ r ≠ c ∧ H r = none) ∧ S.Nodup ∧ (∀ q, q ∈ S ↔ ∃ t, t < j ∧ Reach rows t q))
      ⟨none, none, none, none, [], [], rfl, sAll, (s2.trans s3) _ _ hb, (upd_ne ndc).trans upd_same, upd_same, LX.nil, fun r hr => (by cases hr), List.nodup_nil, fun q => ⟨fun h => (by cases h), fun ⟨t, ht, _⟩ => absurd ht (Nat.not_lt_zero _)⟩⟩ (fun j σ H' hj h => ?_) (fun σ H' h => ?_))
    · obtain ⟨y4, y5, y6, y7, rs, S, rfl, sm, hb', hd', hc', hX, hn, hSn, hS⟩ := h
      have hrl : rs.length ≤ j := by rw [hX.1]; exact partsJ_len rows j
      refine q_asg (ex_lst a0 (Nat.zero_le _) fun l nl => ?_)
      have s4 := same_upd (o := HO.lst []) nl
      have nl0 : H l = none := sm.free nl
      have ndl : d ≠ l := ne_of_none hd' nl
      have ncl : c ≠ l := ne_of_none hc' nl
      have nbl : b ≠ l := ne_of_none hb' nl
      refine q_asg (ex_lst (a1 vv) (by show 1 ≤ sizeLine; decide) fun w nw => ?_)
      have s5 := same_upd (o := HO.lst [vn j]) nw
      have nw' : H' w = none := s4.free nw
      have nw0 : H w = none := sm.free nw'
      have ndw : d ≠ w := ne_of_none hd' nw'
      have ncw : c ≠ w := ne_of_none hc' nw'
      have nbw : b ≠ w := ne_of_none hb' nw'
      have nlw : l ≠ w := ne_of_none upd_same nw
      have s45 := s4.trans s5
      have hrsl : ∀ r ∈ rs, r ≠ l := fun r hr z => by
        obtain ⟨i, hi⟩ := List.getElem?_of_mem hr
        have := hX.2 i r _ hi (row_get (by rw [← hX.1]; exact (List.getElem?_eq_some_iff.mp hi).1))
        rw [z] at this
        rw [this] at nl; cases nl
      have hrsw : ∀ r ∈ rs, r ≠ w := fun r hr z => by
        obtain ⟨i, hi⟩ := List.getElem?_of_mem hr
        have := hX.2 i r _ hi (row_get (by rw [← hX.1]; exact (List.getElem?_eq_some_iff.mp hi).1))
        rw [z] at this
        rw [this] at nw'; cases nw'
      refine sq (s_while (fun M σ H2 => ∃ y7 P W, σ = [some (.ref a), some (.ref b), some (.ref d), some (.ref c), some (vn j), some (.ref l), some (.ref w), y7, none] ∧ Same H H2 ∧ H2 b = some (.dK (mapK (seat rows) rows.flatten)) ∧ H2 d = some (.dK (seenK (S ++ P))) ∧ H2 c = some (.lst (rs.map V.ref)) ∧ LX H2 rs (partsJ rows j) ∧ LI H2 l P ∧ LI H2 w W ∧ (S ++ P).Nodup ∧ (∀ k ∈ P, Reach rows j k) ∧ (∀ x ∈ W, Reach rows j x) ∧ (j ∈ S ++ P ∨ j ∈ W) ∧ (∀ k ∈ P, ∀ e ∈ row rows k, seat rows (mate e) ∈ S ++ P ∨ seat rows (mate e) ∈ W) ∧ W.length + (2 * m - endsOf rows (S ++ P)) ≤ M ∧ M ≤ 2 * m + 1)
        (2 * m + 1) ⟨_, [], [j], rfl, sm.trans s45, s45 _ _ hb', by rw [List.append_nil]; exact s45 _ _ hd', s45 _ _ hc', hX.mono s45, s5 _ _ upd_same, upd_same, by rw [List.append_nil]; exact hSn, fun k hk => (by cases hk), fun x hx => by cases List.mem_singleton.mp hx; exact .refl, .inr (List.mem_singleton.mpr rfl), fun k hk => (by cases hk), by rw [List.length_singleton]; omega, Nat.le_refl _⟩ (fun M σ H2 h => ?_))
      obtain ⟨y7, P, W, rfl, sm2, hb2, hd2, hc2, hX2, hl2, hw2, hn2, hPr, hWr, hj2, hcl, hM, hMb⟩ := h
      refine ⟨_, at_ (vgt (vlen vv (vns_len W) hw2) vc), fun hyes => ?_, fun hno => ?_⟩
      · have hpos : 0 < W.length := by have := of_decide_eq_true hyes; omega
        obtain ⟨W', pl, rfl⟩ : ∃ W' x, W = W' ++ [x] := ⟨W.dropLast, W.getLast (by intro z; rw [z] at hpos; cases hpos), (List.dropLast_concat_getLast _).symm⟩
        have ew : vns (W' ++ [pl]) = vns W' ++ [vn pl] := by show List.map vn _ = _; rw [List.map_append]; rfl
        have hw2' : H2 w = some (.lst (vns W' ++ [vn pl])) := by rw [← ew]; exact hw2
        refine q_pop vv hw2' ?_
        have hpl := hWr pl (by simp)
        have hpll := hpl.lt hD hj
        have hrow := row_get hpll
        rw [List.length_append, List.length_singleton] at hM
        have hel := ends_le hD hn2
        have hd3 := (upd_ne (o := HO.lst (vns W')) ndw).trans hd2
        have hSPl : (S ++ P).length ≤ rows.length := by
          have := nodup_sub_len (l₂ := List.range rows.length) hn2 fun x hx => by
            rcases List.mem_append.mp hx with h | h
            · obtain ⟨t, ht, hr⟩ := (hS x).mp h
              exact List.mem_range.mpr (hr.lt hD (by omega))
            · exact List.mem_range.mpr ((hPr x h).lt hD hj)
          rw [List.length_range] at this
          exact this
        have hPl : P.length ≤ rows.length := by rw [List.length_append] at hSPl; omega
        refine s_when (aB (vto (vdnotin vv vv (seenK_in _ _) hd3) (by rw [← decide_not]))) (fun hnew => ?_) (fun hold => pn ⟨M - 1, by omega, _, P, W', rfl, same_mut sm2 nw0, (upd_ne nbw).trans hb2, hd3, (upd_ne ncw).trans hc2, hX2.off hrsw, (upd_ne nlw).trans hl2, upd_same, hn2, hPr, fun x hx => hWr x (List.mem_append_left _ hx), ?_, fun k hk e he => ?_, by omega, by omega⟩)
        · -- a new place
          refine q_dput vc vv vv (by rw [seenK_len]; omega) hd3 ?_
          rw [seenK_put hnew, List.append_assoc]
          refine q_app vv vv ((upd_ne ndl.symm).trans ((upd_ne nlw).trans hl2)) (by rw [vns_len]; omega) ?_
          have smn : Same H (upd (upd (upd H2 w (.lst (vns W'))) d (.dK (seenK (S ++ (P ++ [pl]))))) l (.lst (vns P ++ [vn pl]))) := same_mut (same_mut (same_mut sm2 nw0) nd0) nl0
          have hb5 : (upd (upd (upd H2 w (.lst (vns W'))) d (.dK (seenK (S ++ (P ++ [pl]))))) l (.lst (vns P ++ [vn pl]))) b = some (.dK (mapK (seat rows) rows.flatten)) := (upd_ne nbl).trans ((upd_ne nbd).trans ((upd_ne nbw).trans hb2))
          have hd5 : (upd (upd (upd H2 w (.lst (vns W'))) d (.dK (seenK (S ++ (P ++ [pl]))))) l (.lst (vns P ++ [vn pl]))) d = some (.dK (seenK (S ++ (P ++ [pl])))) := (upd_ne ndl).trans upd_same
          have hc5 : (upd (upd (upd H2 w (.lst (vns W'))) d (.dK (seenK (S ++ (P ++ [pl]))))) l (.lst (vns P ++ [vn pl]))) c = some (.lst (rs.map V.ref)) := (upd_ne ncl).trans ((upd_ne ndc.symm).trans ((upd_ne ncw).trans hc2))
          have hX5 : LX (upd (upd (upd H2 w (.lst (vns W'))) d (.dK (seenK (S ++ (P ++ [pl]))))) l (.lst (vns P ++ [vn pl]))) rs (partsJ rows j) := ((hX2.off hrsw).off fun r hr => (hn r hr).1).off hrsl
          have hl5 : LI (upd (upd (upd H2 w (.lst (vns W'))) d (.dK (seenK (S ++ (P ++ [pl]))))) l (.lst (vns P ++ [vn pl]))) l (P ++ [pl]) := by
            show _ = some (HO.lst (List.map vn _))
            rw [upd_same, List.map_append]; rfl
          have hw5 : LI (upd (upd (upd H2 w (.lst (vns W'))) d (.dK (seenK (S ++ (P ++ [pl]))))) l (.lst (vns P ++ [vn pl]))) w W' := (upd_ne nlw.symm).trans ((upd_ne ndw.symm).trans upd_same)
          revert smn hb5 hd5 hc5 hX5 hl5 hw5
          generalize upd (upd (upd H2 w (.lst (vns W'))) d (.dK (seenK (S ++ (P ++ [pl]))))) l (.lst (vns P ++ [vn pl])) = H5
          intro smn hb5 hd5 hc5 hX5 hl5 hw5
          obtain ⟨r0, hr0, hl0⟩ := (hxa.mono smn).get hrow
          have hrl2 : (row rows pl).length ≤ 2 * m := by
            have := nodup_sub_len (l₂ := List.range (2 * m)) (row_nodup hD.nd hrow) fun x hx => List.mem_range.mpr (row_end hD hx).1
            rw [List.length_range] at this
            exact this
          refine s_dropx (ex_bm vv hw5 (ex_cons ?_))
          refine ex_lc (ys := vns ((row rows pl).map fun e => seat rows (mate e))) (vixr vv vv hr0 (smn _ _ ha)) hl0 (fun _ => rfl) (by rw [vns_len, vns_len, List.length_map]) (by rw [vns_len]; omega) (fun i x y H' e1 e2 s => ?_) fun p np => ?_
          · obtain ⟨e, he, rfl⟩ := vns_get' e1
            obtain ⟨f, hf, rfl⟩ := vns_get' e2
            rw [List.getElem?_map, he] at hf
            cases Option.some.inj hf
            exact vdget vv (vmate vv) (mapK_get ((hD.mem _).mpr (mate_lt (row_end hD (List.mem_of_getElem? he)).1))) (s _ _ hb5)
          · have s7 := same_upd (o := HO.lst (vns ((row rows pl).map fun e => seat rows (mate e)))) np
            have hnd' : (S ++ (P ++ [pl])).Nodup := by rw [← List.append_assoc]; exact nd_snoc hn2 hnew
            have hel' := ends_le hD hnd'
            have ees : endsOf rows (S ++ (P ++ [pl])) = endsOf rows (S ++ P) + (row rows pl).length := by rw [← List.append_assoc, ends_snoc]
            refine ex_nil ⟨w, p, _, _, rfl, rfl, s7 _ _ hw5, upd_same, by rw [vns_len, vns_len, List.length_map, sizeLine_eq]; omega, pn ⟨M - 1, by omega, _, P ++ [pl], W' ++ (row rows pl).map (fun e => seat rows (mate e)), rfl, same_mut (smn.trans s7) nw0, (upd_ne nbw).trans (s7 _ _ hb5), (upd_ne ndw).trans (s7 _ _ hd5), (upd_ne ncw).trans (s7 _ _ hc5), (hX5.mono s7).off hrsw, (upd_ne nlw).trans (s7 _ _ hl5), ?_, hnd', fun k hk => ?_, fun x hx => ?_, ?_, fun k hk e he => ?_, ?_, by omega⟩⟩
            · refine upd_same.trans ?_
              show _ = some (HO.lst (List.map vn _))
              rw [List.map_append]
            · rcases List.mem_append.mp hk with h | h
              · exact hPr k h
              · cases List.mem_singleton.mp h; exact hpl
            · rcases List.mem_append.mp hx with h | h
              · exact hWr x (List.mem_append_left _ h)
              · obtain ⟨e, he, rfl⟩ := List.mem_map.mp h
                exact .step hpl he
            · rcases hj2 with h | h
              · left; rw [← List.append_assoc]; exact List.mem_append_left _ h
              · rcases List.mem_append.mp h with h | h
                · exact .inr (List.mem_append_left _ h)
                · left; rw [List.mem_singleton.mp h]; simp
            · rcases List.mem_append.mp hk with h | h
              · rcases hcl k h e he with z | z
                · left; rw [← List.append_assoc]; exact List.mem_append_left _ z
                · rcases List.mem_append.mp z with z | z
                  · exact .inr (List.mem_append_left _ z)
                  · left; rw [List.mem_singleton.mp z]; simp
              · cases List.mem_singleton.mp h
                exact .inr (List.mem_append_right _ (List.mem_map.mpr ⟨e, he, rfl⟩))
            · rw [List.length_append, List.length_map, ees]
              omega
        · have hin := Classical.not_not.mp hold
          rcases hj2 with h | h
          · exact .inl h
          · rcases List.mem_append.mp h with h | h
            · exact .inr h
            · left; rw [List.mem_singleton.mp h]; exact hin
        · have hin := Classical.not_not.mp hold
          rcases hcl k hk e he with z | z
          · exact .inl z
          · rcases List.mem_append.mp z with z | z
            · exact .inr z
            · left; rw [List.mem_singleton.mp z]; exact hin
      · have h0 : W = [] := by
          have := of_decide_eq_false hno
          cases W with
          | nil => rfl
          | cons x r => rw [List.length_cons] at this; omega
        subst h0
        have hjm : j ∈ S ++ P := hj2.elim id fun z => by cases z
        have hall : ∀ q, Reach rows j q → q ∈ S ++ P := reach_of hjm fun p hp e he => by
          rcases List.mem_append.mp hp with h | h
          · obtain ⟨t, ht, hr⟩ := (hS p).mp h
            exact List.mem_append_left _ ((hS _).mpr ⟨t, ht, .step hr he⟩)
          · exact (hcl p h e he).elim id fun z => by cases z
        have hS' : ∀ q, q ∈ S ++ P ↔ ∃ t, t < j + 1 ∧ Reach rows t q := fun q => by
          constructor
          · intro h
            rcases List.mem_append.mp h with h | h
            · obtain ⟨t, ht, hr⟩ := (hS q).mp h
              exact ⟨t, by omega, hr⟩
            · exact ⟨j, Nat.lt_succ_self j, hPr q h⟩
          · rintro ⟨t, ht, hr⟩
            rcases Nat.lt_succ_iff_lt_or_eq.mp ht with h1 | h1
            · exact List.mem_append_left _ ((hS q).mpr ⟨t, h1, hr⟩)
            · subst h1; exact hall q hr
        have hP0 : j ∈ S → P = [] := fun hjS => by
          cases P with
          | nil => rfl
          | cons k r =>
            obtain ⟨t, ht, hr⟩ := (hS j).mp hjS
            rw [List.nodup_append] at hn2
            exact absurd rfl (hn2.2.2 k ((hS k).mpr ⟨t, ht, hr.trans (hPr k List.mem_cons_self)⟩) k List.mem_cons_self)
        refine pn (s_when (q := 0 < P.length) (ato (at_ (vgt (vlen vv (vns_len _) hl2) vc)) dec0) (fun hpos => ?_) (fun hnp => pn ⟨_, _, _, _, rs, S ++ P, rfl, sm2, hb2, hd2, hc2, ?_, hn, hn2, hS'⟩))
        · have hjn : j ∉ S := fun z => by rw [hP0 z] at hpos; cases hpos
          have hfirst : ∀ t, t < j → ¬ Reach rows t j := fun t ht z => hjn ((hS j).mpr ⟨t, ht, z⟩)
          have hPn : P.Nodup := (List.nodup_append.mp hn2).2.1
          have hPall : ∀ q, q ∈ P ↔ Reach rows j q := fun q => by
            refine ⟨hPr q, fun h => ?_⟩
            rcases List.mem_append.mp (hall q h) with z | z
            · obtain ⟨t, ht, hr⟩ := (hS q).mp z
              exact absurd (hr.trans (Reach.symm hD h)) (hfirst t ht)
            · exact z
          refine s_appx vv hc2 (ex_cv vv (ex_nil ⟨l, P.map Int.ofNat, rfl, by rw [← vns_int]; exact SqL.of hl2, fun ys p hp ho np => ?_⟩))
          have ey := sorted_comp hD hj hPn hPall hp ho
          have npd : p ≠ d := fun z => by rw [z, hd2] at np; cases np
          have npc : p ≠ c := fun z => by rw [z, hc2] at np; cases np
          have s8 := same_upd (o := HO.lst (ys.map V.int)) np
          refine app_n (s8 _ _ hc2) (by rw [List.length_map]; omega) (pn ⟨_, _, _, _, rs ++ [p], S ++ P, rfl, same_mut (sm2.trans s8) nc0, (upd_ne nbc).trans (s8 _ _ hb2), (upd_ne ndc).trans (s8 _ _ hd2), by rw [upd_same, ref_snoc], ?_, snocP hn ⟨npd, npc, sm2.free np⟩, hn2, hS'⟩)
          rw [partsJ_new hfirst]
          refine ((hX2.mono s8).off fun r hr => (hn r hr).2.1).snoc ((upd_ne npc).trans ?_)
          rw [upd_same, ey, ← vns_int]
        · have hP : P = [] := by
            cases P with
            | nil => rfl
            | cons x r => rw [List.length_cons] at hnp; omega
          subst hP
          rw [List.append_nil] at hjm
          have : ¬ ∀ t, t < j → ¬ Reach rows t j := fun z => by
            obtain ⟨t, ht, hr⟩ := (hS j).mp hjm
            exact z t ht hr
          rw [partsJ_old this]; exact hX2
    · obtain ⟨y4, y5, y6, y7, rs, S, rfl, sm, hb', hd', hc', hX, hn, hSn, hS⟩ := h
      exact pn (s_ret vv (q H' c sm nc0 ⟨rs, hc', hX, fun r hr => (hn r hr).2.2⟩))

end RF
namespace RF
open PySem PySem.Spec PyProof.Rows L2
/-! ### promises and defs: the law's holes -/
def spLHoles : Sp := fun vs H Q _ => ∃ a rows m, vs = [.ref a] ∧ LR H a rows ∧ Dr rows m ∧ rows.length ≤ 100000 ∧ m ≤ 100000 ∧ ∀ H' p, Same H H' → H p = none → H' p = some (.lst ((holesF rows).map V.int)) → Q (.ref p) H'
theorem ok_L_holes {P : Program} {w : World} {K : PySem.W.Frag} {mg : Str → Option Value} {base : Heap} {fa : Nat → Addr} {fd : Nat → FuncData} (TX : Txt K mg fa fd) : FnOk P w K mg base CX0 3 (fa 57) (fd 57) ["_law_drawing_here"] spLHoles := by
  refine TX.F_L_holes.ok sc_L_holes (fun vs H Q E h => ?_) (fun cdv A outer s H vs Q E hr h => ?_)
  · obtain ⟨a, rows, m, rfl, hA, hD, hz, hm, q⟩ := h
    rfl
  · have nd := sc_L_holes.nd
    have hu := hu_of hr
    obtain ⟨a, rows, m, rfl, hA, hD, hz, hm, q⟩ := h
    refine ⟨_, (pss_cons (ps_set (i := 1) nd rfl (Or.inl rfl) (pe_call (ok_L_lands TX) (hr.mono (by decide)) (by rfl) TX.g_L_lands TX.F_L_lands.kp TX.B_L_lands .nil pass0 (pa_cons (pv 0) pa_nil)))
      (pss_cons (ps_set (i := 2) nd rfl (Or.inl rfl) (pe_lst pa_nil))
      (pss_cons (ps_for PassesOwn.never (by rfl) (pi_list (pe_call (ok_L_parts TX) (hr.mono (by decide)) (by rfl) TX.g_L_parts TX.F_L_parts.kp TX.B_L_parts .nil pass0 (pa_cons (pv 0) pa_nil))) (pg_name (i := 3) nd rfl (Or.inl rfl)) (pss_cons (ps_set (i := 4) nd rfl (Or.inr rfl) (pe_lst pa_nil))
      (pss_cons (ps_for PassesOwn.never (by rfl) (pi_list (pv 3)) (pg_name (i := 5) nd rfl (Or.inl rfl)) (pss_one (ps_expr (pe_bm PySem.F.plainAttrs_list PySem.F.slot_list_extend PySem.F.type_list_extend mt_extend (pv 4) (pa_cons (pe_ix ix_list (pv 0) (pv 5) (fun _ _ => rfl)) pa_nil)))))
      (pss_cons (ps_set (i := 6) nd rfl (Or.inl rfl) (pe_callB (cr_sum rfl) (by rfl) TX.b_sum (by decide +kernel) (pa_cons (pe_lc (own := [("_law_land", 7)]) (g := gName 7) (tt := tYes) (by rfl) nd (pi_list (pv 1)) (blkOk_by (own := [("_law_land", 7)]) (N := nm_L_holes) (sc := (defScope s_L_holes)) (by decide +kernel)) (fun _ _ _ _ _ => (pg_name (i := 7) nd rfl (Or.inl rfl))) (fun _ _ _ _ _ => pts_nil) (fun _ _ _ _ _ => (pe_callTy call_int1 (by rfl) TX.b_int (by decide +kernel) (pa_cons (pe_and (pe_cmpR op_gt (pe_callB (call_len_seqK (K := K) rfl) (by rfl) TX.b_len PySem.boot_len (pa_cons (pv 7) pa_nil)) pe_int (nomark _)) (pe_one (pe_cmpR (op_in_seqK (K := K) rfl) (pe_ix (ix_listK (K := K) rfl) (pv 7) pe_int (fun _ _ => rfl)) (pv 4) (by rfl)))) pa_nil)))) pa_nil)))
      (pss_cons (ps_if (pt_cmpR op_eq (pe_callB call_len_seq (by rfl) TX.b_len PySem.boot_len (pa_cons (pv 4) pa_nil)) pe_int (nomark _)) (pss_one (ps_set (i := 6) nd rfl (Or.inl rfl) pe_int)) pss_nil)
      (pss_one (ps_expr (pe_bm PySem.F.plainAttrs_list PySem.F.slot_list_append PySem.F.type_list_append mt_append (pv 2) (pa_cons (pe_op op_fdiv (pe_op op_sub (pe_op op_add (pe_op op_sub pe_int (pe_callB call_len_seq (by rfl) TX.b_len PySem.boot_len (pa_cons (pv 3) pa_nil))) (pe_op op_fdiv (pe_callB call_len_seq (by rfl) TX.b_len PySem.boot_len (pa_cons (pv 4) pa_nil)) pe_int)) (pv 6)) pe_int) pa_nil)))))))))
      (pss_one (ps_ret (pv 2)))))), ?_⟩
    refine q_call (a1 vv) ⟨a, rows, m, rfl, hA, hD, hz, hm, fun H1 lp s1 nlp hlp => ?_⟩
    obtain ⟨as, ha, hxa⟩ := id hA
    refine q_asg (ex_lst a0 (Nat.zero_le _) fun h nh => ?_)
    have s2 := same_upd (o := HO.lst []) nh
    have nh0 : H h = none := s1.free nh
    obtain ⟨ls, hl1, hlx, _⟩ := hlp
    have nlh : lp ≠ h := ne_of_none hl1 nh
    have hlsh : ∀ r ∈ ls, r ≠ h := fun r hr z => by
      obtain ⟨i, hi⟩ := List.getElem?_of_mem hr
      have := hlx.2 i r _ hi (row_get (by rw [← hlx.1]; exact (List.getElem?_eq_some_iff.mp hi).1))
      rw [z] at this
      rw [this] at nh; cases nh
    refine sq (s_forx (ex_call (a1 vv) ⟨a, rows, m, rfl, hA.mono (s1.trans s2), hD, hz, hm, fun H3 pp s3 npp hpp => ?_⟩))
    obtain ⟨ps, hp1, hpx, hpf⟩ := hpp
    have hh3 : H3 h = some (.lst ([] : List V)) := s3 _ _ upd_same
    have nph : pp ≠ h := fun z => by rw [z, upd_same] at npp; cases npp
    have hph : ∀ r ∈ ps, r ≠ h := fun r hr z => by have := hpf r hr; rw [z, upd_same] at this; cases this
    have hdl := landsF_dr hD
    have hll := landsF_len hD
    refine forL_n hp1 (fun i σ H6 => ∃ y3 y4 y5 y6, σ = [some (.ref a), some (.ref lp), some (.ref h), y3, y4, y5, y6, none] ∧ Same H H6 ∧ H6 lp = some (.lst (ls.map V.ref)) ∧ LX H6 ls (landsF rows) ∧ H6 pp = some (.lst (ps.map V.ref)) ∧ LX H6 ps (partsF rows) ∧ H6 h = some (.lst ((((partsF rows).take i).map (holeOf rows)).map V.int)))
      ⟨none, none, none, none, rfl, (s1.trans s2).trans s3, s3 _ _ (s2 _ _ hl1), (hlx.mono s2).mono s3, hp1, hpx, hh3⟩ (fun i σ H6 _ h => ?_) (fun j x σ H6 hj h => ?_) (fun σ H6 h => ?_)
    · obtain ⟨_, _, _, _, _, _, _, _, h1, _⟩ := h
      exact h1
    · obtain ⟨y3, y4, y5, y6, rfl, sm6, hl6, hlx6, hp6, hpx6, hh6⟩ := h
      obtain ⟨r, hr, rfl⟩ := ref_get' hj
      have hjl : j < (partsF rows).length := by rw [← hpx.1]; exact (List.getElem?_eq_some_iff.mp hr).1
      have hpart := row_get hjl
      have hpl : (partsF rows).length ≤ rows.length := partsJ_len rows rows.length
      have hlr := hpx6.2 j r _ hr hpart
      obtain ⟨s0, hs0, eP, _⟩ := part_mem (List.mem_of_getElem? hpart)
      have hPn : (row (partsF rows) j).Nodup := by rw [eP]; exact comp_nodup rows s0
      have hPl : (row (partsF rows) j).length ≤ rows.length := by rw [eP]; exact comp_len rows s0
      have hPm : ∀ p ∈ row (partsF rows) j, p < rows.length := fun p hp => by rw [eP] at hp; exact comp_lt hp
      have hEl := ends_le hD hPn
      -- ends
      refine q_asg (ex_lst a0 (Nat.zero_le _) fun el nel => ?_)
      have s7 := same_upd (o := HO.lst []) nel
      have nel0 : H el = none := sm6.free nel
      have nhe : h ≠ el := ne_of_none hh6 nel
      have npe : pp ≠ el := ne_of_none hp6 nel
      have nle : lp ≠ el := ne_of_none hl6 nel
      have nre : r ≠ el := ne_of_none hlr nel
      have offx : ∀ {rs : List Addr} {R : List (List Nat)}, LX H6 rs R → ∀ r ∈ rs, r ≠ el := fun hX r hr z => by
        obtain ⟨i, hi⟩ := List.getElem?_of_mem hr
        have := hX.2 i r _ hi (row_get (by rw [← hX.1]; exact (List.getElem?_eq_some_iff.mp hi).1))
        rw [z] at this
        rw [this] at nel; cases nel
      have sme := sm6.trans s7
      refine sq (s_forLn vv (s7 _ _ hlr) (fun i σ H7 => ∃ y5, σ = [some (.ref a), some (.ref lp), some (.ref h), some (.ref r), some (.ref el), y5, y6, none] ∧ Same H H7 ∧ H7 lp = some (.lst (ls.map V.ref)) ∧ LX H7 ls (landsF rows) ∧ H7 pp = some (.lst (ps.map V.ref)) ∧ LX H7 ps (partsF rows) ∧ H7 h = some (.lst ((((partsF rows).take j).map (holeOf rows)).map V.int)) ∧ LI H7 el ((((row (partsF rows) j).take i).map (row rows)).flatten))
        ⟨_, rfl, sme, s7 _ _ hl6, hlx6.mono s7, s7 _ _ hp6, hpx6.mono s7, s7 _ _ hh6, upd_same⟩ (fun i σ H7 _ h => ?_) (fun i x σ H7 hi h => ?_) (fun σ H7 h => ?_))
      · obtain ⟨_, _, _, _, _, _, h1, _⟩ := h
        exact h1.2 j r _ hr hpart
      · obtain ⟨y5', rfl, sm7, hl7, hlx7, hp7, hpx7, hh7, he7⟩ := h
        obtain ⟨k, hk, rfl⟩ := vns_get' hi
        have hkl := hPm k (List.mem_of_getElem? hk)
        obtain ⟨r2, hr2, hl2⟩ := (hxa.mono sm7).get (row_get hkl)
        have hb : ((((row (partsF rows) j).take i).map (row rows)).flatten).length + (row rows k).length ≤ 2 * m := by
          rw [← ends_flat, ← ends_snoc, ← take_succ_get hk]
          exact ends_le hD (hPn.sublist (List.take_sublist _ _))
        refine s_dropx (ex_bm vv he7 (ex_cv (vixr vv vv hr2 (sm7 _ _ ha)) (ex_nil ⟨el, r2, _, _, rfl, rfl, he7, hl2, by rw [vns_len, vns_len, sizeLine_eq]; omega, pn ⟨_, rfl, same_mut sm7 nel0, (upd_ne nle).trans hl7, hlx7.off (offx hlx6), (upd_ne npe).trans hp7, hpx7.off (offx hpx6), (upd_ne nhe).trans hh7, ?_⟩⟩)))
        refine upd_same.trans ?_
        show _ = some (HO.lst (List.map vn _))
        rw [take_succ_get hk, List.map_append (f := row rows), List.flatten_append, List.map_append]
        simp
      · obtain ⟨y5', rfl, sm7, hl7, hlx7, hp7, hpx7, hh7, he7⟩ := h
        rw [vns_len, List.take_length] at he7
        have hlr7 := hpx7.2 j r _ hr hpart
        refine pn (q_asg (ex_cons ?_))
        refine ex_lc (ys := vns ((landsF rows).map fun l => if hdIn rows (row (partsF rows) j) l = true then 1 else 0)) vv hl7 (fun _ => rfl) (by rw [vns_len, List.length_map, List.length_map, hlx7.1]) (by rw [List.length_map, hlx7.1]; omega) (fun i x y H' e1 e2 s => ?_) fun p1 np1 => ?_
        · obtain ⟨r2, hr2, rfl⟩ := ref_get' e1
          obtain ⟨n, hn, rfl⟩ := vns_get' e2
          rw [List.getElem?_map] at hn
          cases hq : (landsF rows)[i]? with
          | none => rw [hq] at hn; cases hn
          | some land =>
            rw [hq] at hn
            cases Option.some.inj hn
            have hl2 := s _ _ (hlx7.2 i r2 _ hr2 hq)
            refine vint1 ?_
            cases land with
            | nil => exact vandF (vto (vgt (vlen vv (n := 0) rfl hl2) vc) rfl)
            | cons e0 rest =>
              have hlt : e0 < 2 * m := (hdl.mem e0).mp (mem_flat.mpr ⟨i, _, hq, List.mem_cons_self⟩)
              refine vandT (vto (vgt (vlen vv (vns_len _) hl2) vc) ?_) (vto (vin (vix vv vc (atn (j := 0) (x := e0) rfl) hl2) vv (s _ _ he7)) ?_)
              · rw [dec0]; rw [List.length_cons, decide_eq_true (Nat.succ_pos _)]
              · congr 1
                unfold hdIn
                show _ = (true && decide (seat rows e0 ∈ _))
                rw [Bool.true_and]
                exact decide_eq_decide.mpr (mem_ends hD hlt)
        · have s8 : Same H7 (upd H7 p1 (.lst (vns ((landsF rows).map fun l => if hdIn rows (row (partsF rows) j) l = true then 1 else 0)))) := same_upd np1
          refine ex_nil (sum_n upd_same ?_)
          rw [count_sum]
          have hlr8 := s8 _ _ hlr7
          have he8 := s8 _ _ he7
          have hh8 := s8 _ _ hh7
          have hl8 := s8 _ _ hl7
          have hp8 := s8 _ _ hp7
          have hlx8 := hlx7.mono s8
          have hpx8 := hpx7.mono s8
          have sm8 := sm7.trans s8
          revert hlr8 he8 hh8 hl8 hp8 hlx8 hpx8 sm8
          generalize upd H7 p1 (.lst (vns ((landsF rows).map fun l => if hdIn rows (row (partsF rows) j) l = true then 1 else 0))) = H8
          intro hlr8 he8 hh8 hl8 hp8 hlx8 hpx8 sm8
          have ele := (ends_flat rows (row (partsF rows) j)).symm
          refine q_ifset (q := endsOf rows (row (partsF rows) j) = 0) (y := vn (manyOf rows (row (partsF rows) j))) (x1 := vn 1) (x0 := vn ((landsF rows).countP (hdIn rows (row (partsF rows) j)))) (at_ (veqP (vlen vv (by rw [vns_len, ele]) he8) vc (by constructor <;> intro z <;> omega))) (fun _ => vcn 1) rfl (fun e => by unfold manyOf; rw [if_pos e]) (fun e => by unfold manyOf; rw [if_neg e]) ?_
          refine s_app vv (vdiv (vsub (vadd (vsub vc (vlen vv (vns_len _) hlr8)) (vdivn (vlen vv (by rw [vns_len, ele]) he8) (vcn 2) (by decide))) vv) vc ⟨by decide, by decide⟩) hh8 (by rw [List.length_map, List.length_map, List.length_take]; omega) (pn ?_)
          refine ⟨_, _, _, _, rfl, same_mut sm8 nh0, (upd_ne nlh).trans hl8, hlx8.off hlsh, (upd_ne nph).trans hp8, hpx8.off hph, ?_⟩
          rw [upd_same, take_succ_get hpart, List.map_append, List.map_append]
          rfl
    · obtain ⟨y3, y4, y5, y6, rfl, sm6, hl6, hlx6, hp6, hpx6, hh6⟩ := h
      rw [List.length_map, hpx.1, List.take_length] at hh6
      exact pn (s_ret vv (q H6 h sm6 nh0 hh6))

end RF
namespace RF
open PySem PySem.Spec PyProof.Rows L2
/-! ### promises and defs: the law's walks, turns, crossings, and the judgement of a pair -/
def spLWalk : Sp := fun vs H Q _ => ∃ a b rows m w, vs = [.ref a, .ref b] ∧ LR H a rows ∧ LI H b w ∧ Dr rows m ∧ IsWalk rows m w ∧ rows.length ≤ 100000 ∧ m ≤ 100000 ∧ w.length ≤ 100000 ∧ ∀ H', Same H H' → Q (.bl true) H'
theorem ok_L_is_walk {P : Program} {w : World} {K : PySem.W.Frag} {mg : Str → Option Value} {base : Heap} {fa : Nat → Addr} {fd : Nat → FuncData} (TX : Txt K mg fa fd) : FnOk P w K mg base CX0 2 (fa 51) (fd 51) ["_law_drawing_here", "_law_ends"] spLWalk := by
  refine TX.F_L_is_walk.ok sc_L_is_walk (fun vs H Q E h => ?_) (fun cdv A outer s H vs Q E hr h => ?_)
  · obtain ⟨a, b, rows, m, w, rfl, hA, hB, hD, hW, hz, hm, hwl, q⟩ := h
    rfl
  · have nd := sc_L_is_walk.nd
    have hu := hu_of hr
    obtain ⟨a, b, rows, m, w, rfl, hA, hB, hD, hW, hz, hm, hwl, q⟩ := h
    refine ⟨_, (pss_cons (ps_set (i := 2) nd rfl (Or.inl rfl) (pe_call (ok_L_seats TX) (hr.mono (by decide)) (by rfl) TX.g_L_seats TX.F_L_seats.kp TX.B_L_seats .nil pass0 (pa_cons (pv 0) pa_nil)))
      (pss_cons (ps_for PassesOwn.never (by rfl) (pi_list (pv 1)) (pg_name (i := 3) nd rfl (Or.inl rfl)) (pss_one (ps_if (pt_cmp (pc_dnotin hu (pv 3) (pv 2))) (pss_one (ps_ret pe_bl)) pss_nil)))
      (pss_cons (ps_for PassesOwn.never (by rfl) (pi_range1 (by rfl) TX.b_range (pa_cons (pe_callB call_len_seq (by rfl) TX.b_len PySem.boot_len (pa_cons (pv 1) pa_nil)) pa_nil)) (pg_name (i := 4) nd rfl (Or.inl rfl)) (pss_one (ps_if (pt_cmpR op_ne (pe_dget hu (pv 2) (pe_call (ok_L_mate TX) (hr.mono (by decide)) (by rfl) TX.g_L_mate TX.F_L_mate.kp TX.B_L_mate .nil pass0 (pa_cons (pe_ix ix_list (pv 1) (pe_op op_sub (pv 4) pe_int) (fun _ _ => rfl)) pa_nil)) (fun _ _ => rfl)) (pe_dget hu (pv 2) (pe_ix ix_list (pv 1) (pv 4) (fun _ _ => rfl)) (fun _ _ => rfl)) (nomark _)) (pss_one (ps_ret pe_bl)) pss_nil)))
      (pss_one (ps_ret pe_bl))))), ?_⟩
    refine q_call (a1 vv) ⟨a, rows, m, rfl, hA, hD, hz, hm, fun H1 d s1 nd hd => ?_⟩
    have hB1 := s1 _ _ hB
    refine sq (s_forLn vv hB1 (fun i σ H' => ∃ y3, σ = [some (.ref a), some (.ref b), some (.ref d), y3, none] ∧ H' = H1) ⟨none, rfl, rfl⟩ (fun i σ H' _ h => ?_) (fun i x σ H' hi h => ?_) (fun σ H' h => ?_))
    · obtain ⟨_, _, rfl⟩ := h
      exact hB1
    · obtain ⟨y3, rfl, rfl⟩ := h
      obtain ⟨e, he, rfl⟩ := vns_get' hi
      have hlt := hW.1 e (List.mem_of_getElem? he)
      exact s_if (b := false) (ato (aB (vdnotin vv vv (mapK_in _ _ _) hd)) (by rw [decide_eq_true ((hD.mem _).mpr hlt)]; rfl)) (fun z => nomatch z) (fun _ => pn ⟨_, rfl, rfl⟩)
    · obtain ⟨y3, rfl, rfl⟩ := h
      refine pn (sq (s_forR1 (n := w.length) (a1 (vlen vv (vns_len w) hB1)) (by omega) (fun i σ H'' => ∃ y4, σ = [some (.ref a), some (.ref b), some (.ref d), y3, y4] ∧ H'' = H') ⟨none, rfl, rfl⟩ (fun i σ H'' hi h => ?_) (fun σ H'' h => ?_)))
      · obtain ⟨y4, rfl, rfl⟩ := h
        have hpl : (i + (w.length - 1)) % w.length < w.length := Nat.mod_lt _ (by omega)
        have h1 := hW.1 _ (List.mem_of_getElem? (get_getD hi))
        have h2 := hW.1 _ (List.mem_of_getElem? (get_getD hpl))
        refine s_if (b := false) (ato (at_ (vneP (q := seat rows (mate (w.getD ((i + (w.length - 1)) % w.length) 0)) = seat rows (w.getD i 0)) (vdget vv (vmate (vix vv (vsub vv vc) (prev_at hi) hB1)) (mapK_get ((hD.mem _).mpr (mate_lt h2))) hd) (vdget vv (vixn vv vv (get_getD hi) hB1) (mapK_get ((hD.mem _).mpr h1)) hd) (by constructor <;> intro z <;> omega))) (by rw [decide_eq_true (hW.2 i hi)]; rfl)) (fun z => nomatch z) (fun _ => pn ⟨_, rfl, rfl⟩)
      · obtain ⟨y4, rfl, rfl⟩ := h
        exact pn (s_ret vc (q _ s1))

def spLTurn : Sp := fun vs H Q _ => ∃ a b rows m w, vs = [.ref a, .ref b] ∧ LR H a rows ∧ LI H b w ∧ Dr rows m ∧ IsRound rows m w ∧ rows.length ≤ 4000 ∧ m ≤ 100000 ∧ ∀ H', Same H H' → Q (.bl true) H'
theorem ex_lenSet {K : PySem.W.Frag} {σ : L2.St} {H : Hp} {ta : TE} {Q : VK} (h : ta σ H fun x H1 => ∃ (l : Addr) (ns : List Int), x = .ref l ∧ SqL K H1 l (ns.map V.int) ∧ ns.Nodup ∧ ns.length ≤ 4000 ∧ Q (.int (ns.length : Nat)) H1) : RZ.tLenSetI K ta σ H Q := h
theorem nodup_int {l : List Nat} (h : l.Nodup) : (l.map Int.ofNat).Nodup := by
  rw [List.Nodup, List.pairwise_map]
  exact h.imp fun {a b} hn e => hn (by
    have := Int.ofNat.inj e
    exact this)
theorem ok_L_is_turn {P : Program} {w : World} {K : PySem.W.Frag} {mg : Str → Option Value} {base : Heap} {fa : Nat → Addr} {fd : Nat → FuncData} (TX : Txt K mg fa fd) : FnOk P w K mg base CX0 3 (fa 52) (fd 52) ["_law_drawing_here", "_law_ends"] spLTurn := by
  refine TX.F_L_is_turn.ok sc_L_is_turn (fun vs H Q E h => ?_) (fun cdv A outer s H vs Q E hr h => ?_)
  · obtain ⟨a, b, rows, m, w, rfl, hA, hB, hD, hR, hz, hm, q⟩ := h
    rfl
  · have nd := sc_L_is_turn.nd
    have hu := hu_of hr
    obtain ⟨a, b, rows, m, w, rfl, hA, hB, hD, hR, hz, hm, q⟩ := h
    refine ⟨_, (pss_cons (ps_if (PW.pt (pw_or (pt_cmpR op_eq (pe_callB call_len_seq (by rfl) TX.b_len PySem.boot_len (pa_cons (pv 1) pa_nil)) pe_int (nomark _)) (pw_or1 (pt_not (pt_val (pe_call (ok_L_is_walk TX) (hr.mono (by decide)) (by rfl) TX.g_L_is_walk TX.F_L_is_walk.kp TX.B_L_is_walk .nil pass0 (pa_cons (pv 0) (pa_cons (pv 1) pa_nil)))))))) (pss_one (ps_ret pe_bl)) pss_nil)
      (pss_cons (ps_set (i := 2) nd rfl (Or.inr rfl) (pe_call (ok_L_seats TX) (hr.mono (by decide)) (by rfl) TX.g_L_seats TX.F_L_seats.kp TX.B_L_seats .nil pass0 (pa_cons (pv 0) pa_nil)))
      (pss_cons (ps_if (pt_cmpR op_ne (RZ.pe_lenSetI (by rfl) TX.b_len (by rfl) TX.b_set (pe_lc (own := [("_law_end", 3)]) (g := gName 3) (tt := tYes) (by rfl) nd (pi_list (pv 1)) (blkOk_by (own := [("_law_end", 3)]) (N := nm_L_is_turn) (sc := (defScope s_L_is_turn)) (by decide +kernel)) (fun _ _ _ _ _ => (pg_name (i := 3) nd rfl (Or.inl rfl))) (fun _ _ _ _ _ => pts_nil) (fun _ _ _ _ _ => (pe_dget hu (pv 2) (pv 3) (fun _ _ => rfl))))) (pe_callB call_len_seq (by rfl) TX.b_len PySem.boot_len (pa_cons (pv 1) pa_nil)) (nomark _)) (pss_one (ps_ret pe_bl)) pss_nil)
      (pss_one (ps_ret (pe_cmpR op_eq (RZ.pe_lenSetI (by rfl) TX.b_len (by rfl) TX.b_set (pe_lc (own := [("_law_end", 3)]) (g := gName 3) (tt := tYes) (by rfl) nd (pi_list (pv 1)) (blkOk_by (own := [("_law_end", 3)]) (N := nm_L_is_turn) (sc := (defScope s_L_is_turn)) (by decide +kernel)) (fun _ _ _ _ _ => (pg_name (i := 3) nd rfl (Or.inl rfl))) (fun _ _ _ _ _ => pts_nil) (fun _ _ _ _ _ => (pe_op op_fdiv (pv 3) pe_int)))) (pe_callB call_len_seq (by rfl) TX.b_len PySem.boot_len (pa_cons (pv 1) pa_nil)) (nomark _))))))), ?_⟩
    have hwl : w.length ≤ 4000 := Nat.le_trans (round_len hD hR) hz
    have h0 : w.length ≠ 0 := fun z => hR.ne (List.length_eq_zero_iff.mp z)
    refine q_ifx (orx (ato (at_ (veqP (q := w.length = 0) (vlen vv (vns_len w) hB) vc (by omega))) (decide_eq_false h0)) (notcall (a2 vv vv) ⟨a, b, rows, m, w, rfl, hA, hB, hD, hR.walk, by omega, by omega, by omega, fun H1 s1 => ⟨true, rfl, iteF (s_nx (pn ?_))⟩⟩))
    refine q_call (a1 vv) ⟨a, rows, m, rfl, hA.mono s1, hD, by omega, hm, fun H2 d s2 nd hd => ?_⟩
    have s12 := s1.trans s2
    have hB2 := s12 _ _ hB
    have hmap : ∀ (f : Nat → Nat), ((w.map f).map Int.ofNat).length = w.length := fun f => by rw [List.length_map, List.length_map]
    refine q_ifx (ex_opx (ex_lenSet ?_))
    refine ex_lc (ys := vns (w.map (seat rows))) vv hB2 (fun _ => rfl) (by rw [vns_len, vns_len, List.length_map]) (by rw [vns_len]; omega) (fun i x y H' e1 e2 s => ?_) fun p np => ?_
    · obtain ⟨e, he, rfl⟩ := vns_get' e1
      obtain ⟨f, hf, rfl⟩ := vns_get' e2
      rw [List.getElem?_map, he] at hf
      cases Option.some.inj hf
      exact vdget vv vv (mapK_get ((hD.mem _).mpr (hR.walk.1 e (List.mem_of_getElem? he)))) (s _ _ hd)
    · have s3 := same_upd (o := HO.lst (vns (w.map (seat rows)))) np
      refine ⟨p, (w.map (seat rows)).map Int.ofNat, rfl, by rw [← vns_int]; exact SqL.of upd_same, nodup_int hR.places, by rw [hmap]; exact hwl, ?_⟩
      have hB3 := s3 _ _ hB2
      have s13 := s12.trans s3
      revert hB3 s13
      generalize upd H2 p (.lst (vns (w.map (seat rows)))) = H3
      intro hB3 s13
      refine ex (vlen vv (vns_len w) hB3) ⟨rfl, false, congrArg V.bl ?_, iteF ?_⟩
      · rw [hmap]; simp [vn]
      refine s_nx (pn (s_retx (ex_opx (ex_lenSet ?_))))
      refine ex_lc (ys := vns (w.map (· / 2))) vv hB3 (fun _ => rfl) (by rw [vns_len, vns_len, List.length_map]) (by rw [vns_len]; omega) (fun i x y H' e1 e2 s => ?_) fun p2 np2 => ?_
      · obtain ⟨e, he, rfl⟩ := vns_get' e1
        obtain ⟨f, hf, rfl⟩ := vns_get' e2
        rw [List.getElem?_map, he] at hf
        cases Option.some.inj hf
        exact vdivn vv (vcn 2) (by decide)
      · have s4 := same_upd (o := HO.lst (vns (w.map (· / 2)))) np2
        refine ⟨p2, (w.map (· / 2)).map Int.ofNat, rfl, by rw [← vns_int]; exact SqL.of upd_same, nodup_int hR.ties, by rw [hmap]; exact hwl, ?_⟩
        refine ex (vlen vv (vns_len w) (s4 _ _ hB3)) ⟨rfl, ?_⟩
        have e : decide (V.int (((w.map (· / 2)).map Int.ofNat).length : Nat) = vn w.length) = true := decide_eq_true (by rw [hmap]; rfl)
        rw [e]
        exact q _ (s13.trans s4)

/-! the ring about a seat, end by end -/
theorem rot_get {r : List Nat} {k t : Nat} (hk : k ≤ r.length) (ht : t < r.length) : (r.drop k ++ r.take k)[t]? = r[(k + t) % r.length]? := by
  by_cases h : t < r.length - k
  · rw [List.getElem?_append_left (by rw [List.length_drop]; exact h), List.getElem?_drop, Nat.mod_eq_of_lt (by omega)]
  · rw [List.getElem?_append_right (by rw [List.length_drop]; omega), List.length_drop, List.getElem?_take, if_pos (by omega)]
    congr 1
    rw [Nat.mod_eq_sub_mod (by omega), Nat.mod_eq_of_lt (by omega)]
    omega
theorem ring_next {D : List (List Nat)} {m : Nat} {w : List Nat} (hD : Dr D m) (hR : IsRound D m w) {i t x y : Nat} (hi : i < w.length) (h1 : (ringAt D w i)[t]? = some x) (h2 : (ringAt D w i)[t + 1]? = some y) : behind D x = y := by
  have hs := seat_lt hD (hR.lt hi)
  have hrow := row_get hs
  have hnd := row_nodup hD.nd hrow
  have hl1 := (List.getElem?_eq_some_iff.mp h1).1
  have hl2 := (List.getElem?_eq_some_iff.mp h2).1
  have hp := (ring_perm D w i).length_eq
  have hk : (row D (seat D (w.getD i 0))).idxOf (mate (prv w i)) < (row D (seat D (w.getD i 0))).length := List.idxOf_lt_length_iff.mpr (come_mem hD hR hi)
  have hx : x ∈ row D (seat D (w.getD i 0)) := (ring_perm D w i).mem_iff.mp (List.mem_of_getElem? h1)
  unfold ringAt at h1 h2
  rw [rot_get (Nat.le_of_lt hk) (by omega)] at h1 h2
  have hn := nxt_get hnd h1
  unfold behind
  rw [(row_end hD hx).2]
  rw [Nat.mod_add_mod] at hn
  rw [← Nat.add_assoc, hn] at h2
  exact Option.some.inj h2
theorem take_drop1 {l : List Nat} {t x : Nat} (h : l[t]? = some x) (ht : 0 < t) : (l.take (t + 1)).drop 1 = (l.take t).drop 1 ++ [x] := by
  have hl := (List.getElem?_eq_some_iff.mp h).1
  rw [take_succ_get h, List.drop_append_of_le_length (by rw [List.length_take]; omega)]
theorem ring_nd {D : List (List Nat)} {m : Nat} {w : List Nat} (hD : Dr D m) (hR : IsRound D m w) {i : Nat} (hi : i < w.length) : (ringAt D w i).Nodup :=
  (ring_perm D w i).symm.nodup (row_nodup hD.nd (row_get (seat_lt hD (hR.lt hi))))
theorem nd_get {l : List Nat} (nd : l.Nodup) {i j x : Nat} (h1 : l[i]? = some x) (h2 : l[j]? = some x) : i = j := by
  rw [← idxOf_get nd h1, ← idxOf_get nd h2]
def cntJ (D : List (List Nat)) (w : List Nat) (j e : Nat) : Nat := (List.range j).countP fun i => decide (e ∈ leftE D w i)
theorem cntJ_succ (D : List (List Nat)) (w : List Nat) (j e : Nat) : cntJ D w (j + 1) e = cntJ D w j e + (if e ∈ leftE D w j then 1 else 0) := by
  unfold cntJ
  rw [List.range_succ, List.countP_append, List.countP_singleton]
  by_cases h : e ∈ leftE D w j
  · rw [decide_eq_true h, if_pos h, if_pos rfl]
  · rw [decide_eq_false h, if_neg h, if_neg Bool.false_ne_true]
def spLLefts : Sp := fun vs H Q _ => ∃ a b rows m w, vs = [.ref a, .ref b] ∧ LR H a rows ∧ LI H b w ∧ Dr rows m ∧ IsRound rows m w ∧ rows.length ≤ 4000 ∧ m ≤ 100000 ∧ ∀ H' c, Same H H' → H c = none → LI H' c ((List.range (2 * m)).map (cnt rows w)) → Q (.ref c) H'
theorem ok_L_lefts {P : Program} {w : World} {K : PySem.W.Frag} {mg : Str → Option Value} {base : Heap} {fa : Nat → Addr} {fd : Nat → FuncData} (TX : Txt K mg fa fd) : FnOk P w K mg base CX0 2 (fa 53) (fd 53) ["_law_drawing_here", "_law_walk"] spLLefts := by
  refine TX.F_L_lefts.ok sc_L_lefts (fun vs H Q E h => ?_) (fun cdv A outer s H vs Q E hr h => ?_)
  · obtain ⟨a, b, rows, m, w, rfl, hA, hB, hD, hR, hz, hm, q⟩ := h
    rfl
  · have nd := sc_L_lefts.nd
    have hu := hu_of hr
    obtain ⟨a, b, rows, m, w, rfl, hA, hB, hD, hR, hz, hm, q⟩ := h
    refine ⟨_, (pss_cons (ps_set (i := 2) nd rfl (Or.inl rfl) (pe_call (ok_L_behind TX) (hr.mono (by decide)) (by rfl) TX.g_L_behind TX.F_L_behind.kp TX.B_L_behind .nil pass0 (pa_cons (pv 0) pa_nil)))
      (pss_cons (ps_set (i := 3) nd rfl (Or.inl rfl) (pe_op op_rep (pe_lst (pa_cons pe_int pa_nil)) (pe_callB call_lenD (by rfl) TX.b_len PySem.boot_len (pa_cons (pv 2) pa_nil))))
      (pss_cons (ps_for PassesOwn.never (by rfl) (pi_range1 (by rfl) TX.b_range (pa_cons (pe_callB call_len_seq (by rfl) TX.b_len PySem.boot_len (pa_cons (pv 1) pa_nil)) pa_nil)) (pg_name (i := 4) nd rfl (Or.inl rfl)) (pss_cons (ps_set (i := 5) nd rfl (Or.inl rfl) (pe_call (ok_L_mate TX) (hr.mono (by decide)) (by rfl) TX.g_L_mate TX.F_L_mate.kp TX.B_L_mate .nil pass0 (pa_cons (pe_ix ix_list (pv 1) (pe_op op_sub (pv 4) pe_int) (fun _ _ => rfl)) pa_nil)))
      (pss_cons (ps_set (i := 6) nd rfl (Or.inl rfl) (pe_dget hu (pv 2) (pv 5) (fun _ _ => rfl)))
      (pss_one (ps_while PassesOwn.never (PW.pt (pw_and (pt_cmpR op_ne (pv 6) (pe_ix ix_list (pv 1) (pv 4) (fun _ _ => rfl)) (nomark _)) (pw_and1 (pt_cmpR op_ne (pv 6) (pv 5) (nomark _))))) (pss_cons (ps_asg (pe_op op_add (pe_ix ix_list (pv 3) (pv 6) (fun _ _ => rfl)) pe_int) (pg_sub (pv 3) (pv 6) set_list))
      (pss_one (ps_set (i := 6) nd rfl (Or.inl rfl) (pe_dget hu (pv 2) (pv 6) (fun _ _ => rfl))))))))))
      (pss_one (ps_ret (pv 3)))))), ?_⟩
    have hwl : w.length ≤ 4000 := Nat.le_trans (round_len hD hR) hz
    refine q_call (a1 vv) ⟨a, rows, m, rfl, hA, hD, by omega, hm, fun H1 d s1 nd hd => ?_⟩
    have hdl : (mapK (behind rows) rows.flatten).length = 2 * m := by rw [mapK_len, hD.len]
    refine q_asg (ex_rep (x := vn 0) vc fun p hp => ex (vlenD vv hdl (same_upd hp _ _ hd)) (rep_n upd_same (by omega) fun g ng => ?_))
    have s2 : Same H1 (upd (upd H1 p (.lst [vn 0])) g (.lst (List.replicate (2 * m) (vn 0)))) := (same_upd hp).trans (same_upd ng)
    have ng0 : H g = none := s1.free ((same_upd hp).free ng)
    have ndg : d ≠ g := ne_of_none ((same_upd hp) _ _ hd) ng
    have hg : LI (upd (upd H1 p (.lst [vn 0])) g (.lst (List.replicate (2 * m) (vn 0)))) g ((List.range (2 * m)).map (cntJ rows w 0)) := by
      show upd _ _ _ _ = _
      rw [upd_same, rep0]; rfl
    revert s2 hg
    generalize upd (upd H1 p (.lst [vn 0])) g (.lst (List.replicate (2 * m) (vn 0))) = H2
    intro s2 hg
    have s12 := s1.trans s2
    refine sq (s_forR1 (n := w.length) (a1 (vlen vv (vns_len w) (s12 _ _ hB))) (by omega) (fun i σ H' => ∃ y4 y5 y6, σ = [some (.ref a), some (.ref b), some (.ref d), some (.ref g), y4, y5, y6] ∧ Same H H' ∧ H' d = some (.dK (mapK (behind rows) rows.flatten)) ∧ LI H' g ((List.range (2 * m)).map (cntJ rows w i)))
      ⟨none, none, none, rfl, s12, s2 _ _ hd, hg⟩ (fun i σ H' hi h => ?_) (fun σ H' h => ?_))
    · obtain ⟨y4, y5, y6, rfl, sm, hd', hg'⟩ := h
      have hB' := sm _ _ hB
      have hpl : (i + (w.length - 1)) % w.length < w.length := Nat.mod_lt _ (by omega)
      have h0 := ring_zero hD hR hi
      have hc0 := cutIx_pos hD hR hi
      have hcx : (ringAt rows w i)[cutIx rows w i]? = some (w.getD i 0) := idx_get (ring_mem hD hR hi)
      have hcl := (List.getElem?_eq_some_iff.mp hcx).1
      have hnd := ring_nd hD hR hi
      have hrl : ∀ x ∈ ringAt rows w i, x < 2 * m := fun x hx => (row_end hD ((ring_perm rows w i).mem_iff.mp hx)).1
      have hcm : mate (prv w i) < 2 * m := mate_lt (hR.plt hi)
      have h1 : (ringAt rows w i)[1]? = some ((ringAt rows w i).getD 1 0) := get_getD (by omega)
      refine q_set (v := vn (mate (prv w i))) (vmate (vix vv (vsub vv vc) (prev_at hi) hB')) ?_
      refine q_set (v := vn ((ringAt rows w i).getD 1 0)) (vdget vv vv ((mapK_get ((hD.mem _).mpr hcm)).trans (by rw [ring_next hD hR hi h0 h1])) hd') ?_
      refine s_while (fun M σ H2 => ∃ t x, σ = [some (.ref a), some (.ref b), some (.ref d), some (.ref g), some (vn i), some (vn (mate (prv w i))), some (vn x)] ∧ Same H H2 ∧ H2 d = some (.dK (mapK (behind rows) rows.flatten)) ∧ 0 < t ∧ t ≤ cutIx rows w i ∧ M = cutIx rows w i - t ∧ (ringAt rows w i)[t]? = some x ∧ LI H2 g ((List.range (2 * m)).map fun e => cntJ rows w i e + if e ∈ ((ringAt rows w i).take t).drop 1 then 1 else 0))
        (cutIx rows w i - 1) ⟨1, _, rfl, sm, hd', Nat.one_pos, hc0, rfl, h1, ?_⟩ (fun M σ H2 h => ?_)
      · refine hg'.trans (congrArg (fun z => some (HO.lst (vns z))) (map_range_congr fun e _ => ?_))
        rw [if_neg]
        · rfl
        · intro z
          have : ((ringAt rows w i).take 1).drop 1 = [] := List.drop_eq_nil_of_le (by rw [List.length_take]; omega)
          rw [this] at z; cases z
      · obtain ⟨t, x, rfl, sm2, hd2, ht0, htc, rfl, hx, hg2⟩ := h
        have hB2 := sm2 _ _ hB
        have hxl := hrl x (List.mem_of_getElem? hx)
        refine ⟨decide (t < cutIx rows w i), ?_, fun hyes => ?_, fun hno => ?_⟩
        · by_cases hlt : t < cutIx rows w i
          · rw [decide_eq_true hlt]
            refine ato (aand (b := true) (c := true) (ato (at_ (vneP (q := x = w.getD i 0) vv (vixn vv vv (get_getD hi) hB2) (by omega))) ?_) (fun _ => ato (at_ (vneP (q := x = mate (prv w i)) vv vv (by omega))) ?_)) rfl
            · rw [decide_eq_false fun z => ?_]; rfl
              have := nd_get hnd hx (z ▸ hcx)
              omega
            · rw [decide_eq_false fun z => ?_]; rfl
              have := nd_get hnd hx (z ▸ h0)
              omega
          · have : t = cutIx rows w i := by omega
            rw [decide_eq_false hlt]
            rw [this, hcx] at hx
            cases Option.some.inj hx
            exact ato (aand (b := false) (c := false) (ato (at_ (vneP (q := w.getD i 0 = w.getD i 0) vv (vixn vv vv (get_getD hi) hB2) (by omega))) (by rw [decide_eq_true rfl]; rfl)) (fun z => nomatch z)) rfl
        · have hlt := of_decide_eq_true hyes
          have hy : (ringAt rows w i)[t + 1]? = some ((ringAt rows w i).getD (t + 1) 0) := get_getD (by omega)
          have hn := ring_next hD hR hi hx hy
          have hxn : x ∉ ((ringAt rows w i).take t).drop 1 := fun z => by
            obtain ⟨k, hk⟩ := List.getElem?_of_mem (List.mem_of_mem_drop z)
            rw [List.getElem?_take] at hk
            by_cases hkt : k < t
            · rw [if_pos hkt] at hk
              have := nd_get hnd hk hx
              omega
            · rw [if_neg hkt] at hk; cases hk
          refine sq (s_setL (j := x) (v := vn (cntJ rows w i x + 0 + 1)) (vaddn (vixn vv vv (range_get (fun e => cntJ rows w i e + if e ∈ ((ringAt rows w i).take t).drop 1 then 1 else 0) hxl |>.trans (by rw [if_neg hxn])) hg2) (vcn 1)) vv vv hg2 (by rw [vns_len, List.length_map, List.length_range]; exact hxl) ?_)
          refine s_set (v := vn ((ringAt rows w i).getD (t + 1) 0)) (vdget vv vv ((mapK_get ((hD.mem _).mpr hxl)).trans (by rw [hn])) ((upd_ne ndg).trans hd2)) (pn ⟨_, ?_, t + 1, _, rfl, same_mut sm2 ng0, (upd_ne ndg).trans hd2, Nat.succ_pos _, hlt, rfl, hy, ?_⟩)
          · omega
          · refine upd_same.trans (congrArg (fun z => some (HO.lst z)) ?_)
            show (List.map vn _).set x (vn _) = List.map vn _
            rw [← List.map_set, set_range]
            refine congrArg (List.map vn) (map_range_congr fun e he => ?_)
            rw [take_drop1 hx ht0]
            by_cases z : e = x
            · subst z
              rw [if_pos rfl, if_pos (List.mem_append_right _ (List.mem_singleton.mpr rfl))]
            · rw [if_neg z]
              congr 1
              by_cases h : e ∈ ((ringAt rows w i).take t).drop 1
              · rw [if_pos h, if_pos (List.mem_append_left _ h)]
              · rw [if_neg h, if_neg fun y => (List.mem_append.mp y).elim h fun y => z (List.mem_singleton.mp y)]
        · have hge := of_decide_eq_false hno
          have : t = cutIx rows w i := by omega
          subst this
          refine pn ⟨_, _, _, rfl, sm2, hd2, hg2.trans (congrArg (fun z => some (HO.lst (vns z))) (map_range_congr fun e _ => ?_))⟩
          rw [cntJ_succ]; rfl
    · obtain ⟨y4, y5, y6, rfl, sm, hd', hg'⟩ := h
      exact pn (s_ret vv (q H' g sm ng0 hg'))

end RF
namespace RF
open PySem PySem.Spec PyProof.Rows L2
/-! ### promises and defs: crossings, whole numbers, the judgement of a pair -/
theorem atnI {l : List Nat} {j x : Nat} (h : l[j]? = some x) : atI (vns l) (j : Int) = some (vn x) := atn h
def spLCross : Sp := fun vs H Q _ => ∃ a b c rows m w v, vs = [.ref a, .ref b, .ref c] ∧ LR H a rows ∧ LI H b w ∧ LI H c v ∧ Dr rows m ∧ IsRound rows m w ∧ (∀ e ∈ v, e < 2 * m) ∧ rows.length ≤ 4000 ∧ m ≤ 100000 ∧ v.length ≤ 100000 ∧ ∀ H', Same H H' → Q (.int (crossD rows w v)) H'
theorem ok_L_crossing {P : Program} {w : World} {K : PySem.W.Frag} {mg : Str → Option Value} {base : Heap} {fa : Nat → Addr} {fd : Nat → FuncData} (TX : Txt K mg fa fd) : FnOk P w K mg base CX0 3 (fa 54) (fd 54) ["_law_drawing_here", "_law_walk", "_law_other"] spLCross := by
  refine TX.F_L_crossing.ok sc_L_crossing (fun vs H Q E h => ?_) (fun cdv A outer s H vs Q E hr h => ?_)
  · obtain ⟨a, b, c, rows, m, w, v, rfl, hA, hB, hC, hD, hR, hv, hz, hm, hvl, q⟩ := h
    rfl
  · have nd := sc_L_crossing.nd
    have hu := hu_of hr
    obtain ⟨a, b, c, rows, m, w, v, rfl, hA, hB, hC, hD, hR, hv, hz, hm, hvl, q⟩ := h
    refine ⟨_, (pss_cons (ps_set (i := 3) nd rfl (Or.inr rfl) (pe_call (ok_L_lefts TX) (hr.mono (by decide)) (by rfl) TX.g_L_lefts TX.F_L_lefts.kp TX.B_L_lefts .nil pass0 (pa_cons (pv 0) (pa_cons (pv 1) pa_nil))))
      (pss_one (ps_ret (pe_callB (cr_sum rfl) (by rfl) TX.b_sum (by decide +kernel) (pa_cons (pe_lc (own := [("_law_end", 4)]) (g := gName 4) (tt := tYes) (by rfl) nd (pi_list (pv 2)) (blkOk_by (own := [("_law_end", 4)]) (N := nm_L_crossing) (sc := (defScope s_L_crossing)) (by decide +kernel)) (fun _ _ _ _ _ => (pg_name (i := 4) nd rfl (Or.inl rfl))) (fun _ _ _ _ _ => pts_nil) (fun _ _ _ _ _ => (pe_op op_sub (pe_ix (ix_listK (K := K) rfl) (pv 3) (pv 4) (fun _ _ => rfl)) (pe_ix (ix_listK (K := K) rfl) (pv 3) (pe_call (ok_L_mate TX) (hr.mono (by decide)) (by rfl) TX.g_L_mate TX.F_L_mate.kp TX.B_L_mate .nil pass0 (pa_cons (pv 4) pa_nil)) (fun _ _ => rfl))))) pa_nil))))), ?_⟩
    refine q_call (a2 vv vv) ⟨a, b, rows, m, w, rfl, hA, hB, hD, hR, hz, hm, fun H1 g s1 ng hg => ?_⟩
    refine s_retx (ex_cons ?_)
    refine ex_lc (ys := (v.map fun e => (cnt rows w e : Int) - (cnt rows w (mate e) : Int)).map V.int) vv (s1 _ _ hC) (fun _ => rfl) (by rw [List.length_map, List.length_map, vns_len]) (by rw [vns_len]; omega) (fun i x y H' e1 e2 s => ?_) fun p np => ?_
    · obtain ⟨e, he, rfl⟩ := vns_get' e1
      rw [List.getElem?_map, List.getElem?_map, he] at e2
      cases Option.some.inj e2
      have hlt := hv e (List.mem_of_getElem? he)
      exact vsub (vixn vv vv (range_get (cnt rows w) hlt) (s _ _ hg)) (vixn vv (vmate vv) (range_get (cnt rows w) (mate_lt hlt)) (s _ _ hg))
    · exact ex_nil ⟨p, _, rfl, SqL.of upd_same, q _ (s1.trans (same_upd np))⟩

theorem visi {K : PySem.W.Frag} {σ : L2.St} {H : Hp} {te : TE} {x : V} {t n : String} {b : Bool} (h : Va te σ H x) (ty : TyX K H x (.type t)) (e : kitB t n = some b) : Va (tCB (rIsi K) (tCons te (tCons (tC (.ty n)) tNil))) σ H (.bl b) := fun Q q =>
  h _ ⟨x, .ty n, .type t, .type n, b, rfl, .ty n, ty, kit_ty e, q⟩
def spLWholes : Sp := fun vs H Q _ => ∃ a w, vs = [.ref a] ∧ LI H a w ∧ Q (.bl true) H
theorem ok_L_wholes {P : Program} {w : World} {K : PySem.W.Frag} {mg : Str → Option Value} {base : Heap} {fa : Nat → Addr} {fd : Nat → FuncData} (TX : Txt K mg fa fd) : FnOk P w K mg base CX0 1 (fa 55) (fd 55) ["_law_found"] spLWholes := by
  refine TX.F_L_wholes.ok sc_L_wholes (fun vs H Q E h => ?_) (fun cdv A outer s H vs Q E hr h => ?_)
  · obtain ⟨a, w, rfl, hA, q⟩ := h
    rfl
  · have nd := sc_L_wholes.nd
    have hu := hu_of hr
    obtain ⟨a, w, rfl, hA, q⟩ := h
    refine ⟨_, (pss_cons (ps_if (pt_not (pt_val (pe_callB call_isi (by rfl) TX.b_isinstance (by decide +kernel) (pa_cons (pv 0) (pa_cons (pe_bltn (v := .ty "list") (by rfl) TX.b_list (by decide +kernel) rfl) pa_nil))))) (pss_one (ps_ret pe_bl)) pss_nil)
      (pss_cons (ps_for PassesOwn.never (by rfl) (pi_list (pv 0)) (pg_name (i := 1) nd rfl (Or.inl rfl)) (pss_one (ps_if (PW.pt (pw_or (pt_not (pt_val (pe_callB call_isi (by rfl) TX.b_isinstance (by decide +kernel) (pa_cons (pv 1) (pa_cons (pe_bltn (v := .ty "int") (by rfl) TX.b_int (by decide +kernel) rfl) pa_nil))))) (pw_or1 (pt_val (pe_callB call_isi (by rfl) TX.b_isinstance (by decide +kernel) (pa_cons (pv 1) (pa_cons (pe_bltn (v := .ty "bool") (by rfl) TX.b_bool (by decide +kernel) rfl) pa_nil))))))) (pss_one (ps_ret pe_bl)) pss_nil)))
      (pss_one (ps_ret pe_bl)))), ?_⟩
    refine q_no (ato (anot (aB (visi vv (.base (.lst hA)) (b := true) (by decide +kernel)))) rfl) ?_
    refine sq (s_forLn vv hA (fun i σ H' => ∃ y, σ = [some (.ref a), y] ∧ H' = H) ⟨none, rfl, rfl⟩ (fun i σ H' _ h => ?_) (fun i x σ H' hi h => ?_) (fun σ H' h => ?_))
    · obtain ⟨_, _, rfl⟩ := h
      exact hA
    · obtain ⟨y, rfl, rfl⟩ := h
      obtain ⟨e, he, rfl⟩ := vns_get' hi
      exact s_if (b := false) (ato (aor (b := false) (c := false) (ato (anot (aB (visi vv (.base (.int _)) (b := true) (by decide +kernel)))) rfl) (fun _ => aB (visi vv (.base (.int _)) (b := false) (by decide +kernel)))) rfl) (fun z => nomatch z) (fun _ => pn ⟨_, rfl, rfl⟩)
    · obtain ⟨y, rfl, rfl⟩ := h
      exact pn (s_ret vc q)

/-- what pair_of answers -/
def PairOk (H : Hp) (rows : List (List Nat)) (m : Nat) (v : V) : Prop :=
  (v = .non ∧ ∀ h ∈ holesF rows, h ≤ 0) ∨ ∃ t p1 p2 w x, v = .ref t ∧ H t = some (.tup [.ref p1, .ref p2]) ∧ LI H p1 w ∧ LI H p2 x ∧ IsRound rows m w ∧ IsRound rows m x ∧ crossD rows w x = 1 ∧ ∃ h ∈ holesF rows, 0 < h
theorem PairOk.mono {H H' : Hp} {rows : List (List Nat)} {m : Nat} {v : V} (s : Same H H') (h : PairOk H rows m v) : PairOk H' rows m v := by
  rcases h with h | ⟨t, p1, p2, w, x, e, h1, h2, h3, r⟩
  · exact .inl h
  · exact .inr ⟨t, p1, p2, w, x, e, s _ _ h1, s _ _ h2, s _ _ h3, r⟩
def spLPaper : Sp := fun vs H Q _ => ∃ a v rows m, vs = [.ref a, v] ∧ LR H a rows ∧ Dr rows m ∧ PairOk H rows m v ∧ rows.length ≤ 4000 ∧ m ≤ 100000 ∧ ∀ H', Same H H' → Q (.bl true) H'
theorem s_forT {K : PySem.W.Frag} {σ : L2.St} {H : Hp} {te : TE} {g : TG} {ts : TS} {D : Ends} {a : Addr} {xs : List V} (h : Va te σ H (.ref a)) (hx : H a = some (.tup xs)) (Pv : Nat → L2.St → Hp → Prop) (h0 : Pv 0 σ H) (hl : ∀ i σ H, i ≤ xs.length → Pv i σ H → H a = some (.tup xs))
    (hs : ∀ i x σ H, xs[i]? = some x → Pv i σ H → g x σ H fun σ2 H2 => ts { D with nx := Pv (i + 1), ct := Pv (i + 1), bk := D.nx } σ2 H2) (hd : ∀ σ H, Pv xs.length σ H → D.nx σ H) : tFor (iTup K te) g ts D σ H :=
  h _ ⟨a, rfl, ⟨_, SqT.of hx⟩, for_tup (K := K) (a := a) (xs := xs) Pv h0 (fun i σ H hi p => SqT.of (hl i σ H hi p)) hs hd⟩
theorem ok_L_paper {P : Program} {w : World} {K : PySem.W.Frag} {mg : Str → Option Value} {base : Heap} {fa : Nat → Addr} {fd : Nat → FuncData} (TX : Txt K mg fa fd) : FnOk P w K mg base CX0 4 (fa 58) (fd 58) ["_law_drawing_here", "_law_found"] spLPaper := by
  refine TX.F_L_paper.ok sc_L_paper (fun vs H Q E h => ?_) (fun cdv A outer s H vs Q E hr h => ?_)
  · obtain ⟨a, v, rows, m, rfl, hA, hD, hP, hz, hm, q⟩ := h
    rfl
  · have nd := sc_L_paper.nd
    have hu := hu_of hr
    obtain ⟨a, v, rows, m, rfl, hA, hD, hP, hz, hm, q⟩ := h
    refine ⟨_, (pss_cons (ps_if (pt_cmpR op_eq (pe_callB (cr_max rfl) (by rfl) TX.b_max (by decide +kernel) (pa_cons (pe_op op_cat (pe_lst (pa_cons pe_int pa_nil)) (pe_call (ok_L_holes TX) (hr.mono (by decide)) (by rfl) TX.g_L_holes TX.F_L_holes.kp TX.B_L_holes .nil pass0 (pa_cons (pv 0) pa_nil))) pa_nil)) pe_int (nomark _)) (pss_one (ps_ret (pe_cmpR op_isN (pv 1) pe_non (nomark _)))) pss_nil)
      (pss_cons (ps_if (PW.pt (pw_or (pt_not (pt_val (pe_callB call_isi (by rfl) TX.b_isinstance (by decide +kernel) (pa_cons (pv 1) (pa_cons (pe_bltn (v := .ty "tuple") (by rfl) TX.b_tuple (by decide +kernel) rfl) pa_nil))))) (pw_or1 (pt_cmpR op_ne (pe_callB call_len_seq (by rfl) TX.b_len PySem.boot_len (pa_cons (pv 1) pa_nil)) pe_int (nomark _))))) (pss_one (ps_ret pe_bl)) pss_nil)
      (pss_cons (ps_for PassesOwn.never (by rfl) (pi_tup (pv 1)) (pg_name (i := 2) nd rfl (Or.inl rfl)) (pss_one (ps_if (PW.pt (pw_or (pt_not (pt_val (pe_call (ok_L_wholes TX) (hr.mono (by decide)) (by rfl) TX.g_L_wholes TX.F_L_wholes.kp TX.B_L_wholes .nil pass0 (pa_cons (pv 2) pa_nil)))) (pw_or1 (pt_not (pt_val (pe_call (ok_L_is_turn TX) (hr.mono (by decide)) (by rfl) TX.g_L_is_turn TX.F_L_is_turn.kp TX.B_L_is_turn .nil pass0 (pa_cons (pv 0) (pa_cons (pv 2) pa_nil)))))))) (pss_one (ps_ret pe_bl)) pss_nil)))
      (pss_one (ps_ret (pe_cmpR op_eq (pe_call (ok_L_crossing TX) (hr.mono (by decide)) (by rfl) TX.g_L_crossing TX.F_L_crossing.kp TX.B_L_crossing .nil pass0 (pa_cons (pv 0) (pa_cons (pe_ix ix_tup (pv 1) pe_int (fun _ _ => rfl)) (pa_cons (pe_ix ix_tup (pv 1) pe_int (fun _ _ => rfl)) pa_nil)))) pe_int (nomark _))))))), ?_⟩
    have key : ∀ (σ : L2.St) (Q : Bool → Hp → Prop), σ[0]? = some (some (.ref a)) → (∀ H', Same H H' → Q (decide (v = .non)) H') → tTest (tOp rEq (tCB (rMax K) (tCons (tOp rCat (tLst (tCons (tC (.int 0)) tNil)) (tCall spLHoles [] E (tCons (tVar 0) tNil))) tNil)) (tC (.int 0))) σ H Q := fun σ Q hσ qq => by
      refine ex_opx (ex_cons (ex_opx (ex_lst (a1 vc) (by show 1 ≤ sizeLine; decide) fun l0 n0 => ?_)))
      have s0 := same_upd (o := HO.lst [V.int 0]) n0
      refine ex_call (a1 (vv hσ)) ⟨a, rows, m, rfl, hA.mono s0, hD, by omega, hm, fun H2 p s2 np hp => ?_⟩
      have hhl : (holesF rows).length ≤ rows.length := by
        unfold holesF
        rw [List.length_map]
        exact partsJ_len rows rows.length
      refine cat_n (s2 _ _ upd_same) hp (by rw [List.length_map]; show 1 + _ ≤ _; omega) fun t nt => ?_
      refine ex_nil ⟨t, 0 :: holesF rows, rfl, SqL.of (by rw [upd_same]; rfl), Nat.succ_pos _, fun mx hmem hle => ?_⟩
      have st := (s0.trans s2).trans (same_upd (o := HO.lst ([V.int 0] ++ (holesF rows).map V.int)) nt)
      refine ex vc ⟨rfl, decide (v = .non), congrArg V.bl (decide_eq_decide.mpr ?_), qq _ st⟩
      have hge : 0 ≤ mx := hle 0 List.mem_cons_self
      rcases hP with ⟨rfl, hn⟩ | ⟨_, _, _, _, _, rfl, _, _, _, _, _, _, x, hx, hpos⟩
      · have : mx = 0 := by
          rcases List.mem_cons.mp hmem with h | h
          · exact h
          · have := hn mx h; omega
        subst this
        exact ⟨fun _ => rfl, fun _ => rfl⟩
      · have := hle x (List.mem_cons_of_mem _ hx)
        constructor
        · intro z
          have := V.int.inj z
          omega
        · intro z; cases z
    refine q_ifx (key _ _ rfl fun H1 s1 => ?_)
    have hP1 := hP.mono s1
    rcases hP with ⟨rfl, hn⟩ | ⟨t, p1, p2, w, x, rfl, ht, hp1, hp2, hw, hx, hc, _⟩
    · exact iteT (s_ret (vto (x := V.bl true) (visN vv) rfl) (q H1 s1))
    refine iteF (s_nx (pn ?_))
    have ht1 := s1 _ _ ht
    refine q_no (ato (aor (b := false) (c := false) (ato (anot (aB (visi vv (.base (.tup ht1)) (b := true) (by decide +kernel)))) rfl) (fun _ => ato (at_ (vneP (q := True) (vlenT vv (n := 2) rfl ht1) (vcn 2) (by constructor <;> intro _ <;> trivial))) (by decide))) rfl) ?_
    refine sq (s_forT vv ht1 (fun i σ H' => ∃ y, σ = [some (.ref a), some (.ref t), y] ∧ Same H H') ⟨none, rfl, s1⟩ (fun i σ H' _ h => ?_) (fun i u σ H' hi h => ?_) (fun σ H' h => ?_))
    · obtain ⟨_, _, sm⟩ := h
      exact sm _ _ ht
    · obtain ⟨y, rfl, sm⟩ := h
      obtain ⟨p, z, rfl, hp, hr⟩ : ∃ p z, u = .ref p ∧ LI H p z ∧ IsRound rows m z := by
        match i, hi with
        | 0, hi => exact ⟨p1, w, (Option.some.inj hi).symm, hp1, hw⟩
        | 1, hi => exact ⟨p2, x, (Option.some.inj hi).symm, hp2, hx⟩
        | k + 2, hi => simp at hi
      exact s_ifx (orx (ato (b := !true) (anot (aB fun Q' q' => ex_call (a1 vv) ⟨p, z, rfl, sm _ _ hp, q'⟩)) rfl) (notcall (a2 vv vv) ⟨a, p, rows, m, z, rfl, hA.mono sm, sm _ _ hp, hD, hr, hz, hm, fun H5 s5 => ⟨true, rfl, iteF (pn ⟨_, rfl, sm.trans s5⟩)⟩⟩))
    · obtain ⟨y, rfl, sm⟩ := h
      refine pn (s_retx (ex_opx (ex_call (a3 vv (vixT vv vc (xs := [.ref p1, .ref p2]) rfl (sm _ _ ht)) (vixT vv vc (xs := [.ref p1, .ref p2]) rfl (sm _ _ ht))) ⟨a, p1, p2, rows, m, w, x, rfl, hA.mono sm, sm _ _ hp1, sm _ _ hp2, hD, hw, hx.walk.1, hz, hm, ?_, fun H5 s5 => ?_⟩)))
      · have := round_len hD hx; omega
      · refine ex vc ⟨rfl, ?_⟩
        rw [hc]
        exact q H5 (sm.trans s5)

end RF
namespace RF
open PySem PySem.Spec PyProof.Rows L2
/-! ### promises and defs: the law's renamed drawing -/
theorem seqIx {j n : Nat} (h : j < n) : seqIndex? (j : Int) n = some j := (L2.ixN_seq (ixN_nat h)).1
theorem ex_popAt {K : PySem.W.Frag} {σ : L2.St} {H : Hp} {ta tb : TE} {l : Addr} {xs : List V} {y : V} {j : Nat} {Q : VK} (ho : Va ta σ H (.ref l)) (hi : Va tb σ H (vn j)) (hl : H l = some (.lst xs)) (hj : xs[j]? = some y) (hz : xs.length < 1000000) (k : Q y (upd H l (.lst (xs.eraseIdx j)))) : tBM K "list" rPopAt ta (tCons tb tNil) σ H Q := by
  have hjl := (List.getElem?_eq_some_iff.mp hj).1
  exact ho _ ⟨.inl ⟨rfl, _, SqL.of hl⟩, hi _ ⟨l, xs, j, j, y, rfl, rfl, hl, by omega, by omega, seqIx hjl, hj, k⟩⟩
theorem erase_perm {α : Type} {x : α} : ∀ {l : List α} {i : Nat}, l[i]? = some x → (x :: l.eraseIdx i).Perm l
  | [], _, h => by simp at h
  | a :: l, 0, h => by
    cases Option.some.inj h
    exact List.Perm.refl _
  | a :: l, i + 1, h => (List.Perm.swap a x _).trans ((erase_perm (l := l) (i := i) h).cons a)
theorem move_perm {α : Type} {F l : List α} {i : Nat} {x : α} (h : l[i]? = some x) : ((F ++ [x]) ++ l.eraseIdx i).Perm (F ++ l) := by
  rw [List.append_assoc]
  exact (erase_perm h).append_left F
theorem map_eraseIdx {α β : Type} (f : α → β) : ∀ (l : List α) (i : Nat), (l.eraseIdx i).map f = (l.map f).eraseIdx i
  | [], i => by simp
  | a :: l, 0 => rfl
  | a :: l, i + 1 => by
    show f a :: (l.eraseIdx i).map f = f a :: (l.map f).eraseIdx i
    rw [map_eraseIdx f l i]
theorem LX.erase {H : Hp} {rs : List Addr} {rows : List (List Nat)} (h : LX H rs rows) (i : Nat) (hi : i < rs.length) : LX H (rs.eraseIdx i) (rows.eraseIdx i) := by
  refine ⟨?_, fun j q w e1 e2 => ?_⟩
  · rw [List.length_eraseIdx_of_lt hi, List.length_eraseIdx_of_lt (by rw [← h.1]; exact hi), h.1]
  · rw [List.getElem?_eraseIdx] at e1 e2
    by_cases hj : j < i
    · rw [if_pos hj] at e1 e2
      exact h.2 _ q w e1 e2
    · rw [if_neg hj] at e1 e2
      exact h.2 _ q w e1 e2
theorem perm_full {l : List Nat} {n : Nat} (nd : l.Nodup) (hl : l.length = n) (hx : ∀ x ∈ l, x < n) : ∀ x, x < n → x ∈ l := fun x h => by
  apply Classical.byContradiction
  intro hn
  have := nodup_sub_len (l₂ := List.range n) (List.nodup_cons.mpr ⟨hn, nd⟩) fun y hy => by
    rcases List.mem_cons.mp hy with rfl | hy
    · exact List.mem_range.mpr h
    · exact List.mem_range.mpr (hx y hy)
  rw [List.length_cons, List.length_range] at this
  omega
/-- from a nodup list of 2 m numbers below 2 m -/
theorem Dr.of {D : List (List Nat)} {m : Nat} (nd : D.flatten.Nodup) (hl : D.flatten.length = 2 * m) (hx : ∀ x ∈ D.flatten, x < 2 * m) : Dr D m := ⟨nd, fun x => ⟨hx x, perm_full nd hl hx x⟩⟩
theorem map_nd {f : Nat → Nat} {l : List Nat} (nd : l.Nodup) (hf : ∀ x ∈ l, ∀ y ∈ l, f x = f y → x = y) : (l.map f).Nodup := by
  rw [List.Nodup, List.pairwise_map]
  exact nd.imp_of_mem fun {a b} ha hb hn e => hn (hf a ha b hb e)
theorem Dr.map {D : List (List Nat)} {m : Nat} {f : Nat → Nat} (h : Dr D m) (hl : ∀ x, x < 2 * m → f x < 2 * m) (hf : ∀ x y, x < 2 * m → y < 2 * m → f x = f y → x = y) : Dr (D.map (List.map f)) m := by
  have e : (D.map (List.map f)).flatten = D.flatten.map f := (List.map_flatten).symm
  refine Dr.of ?_ ?_ fun x hx => ?_
  · rw [e]; exact map_nd h.nd fun x hx y hy => hf x y ((h.mem x).mp hx) ((h.mem y).mp hy)
  · rw [e, List.length_map, h.len]
  · rw [e] at hx
    obtain ⟨y, hy, rfl⟩ := List.mem_map.mp hx
    exact hl y ((h.mem y).mp hy)
theorem row_len {D : List (List Nat)} {m : Nat} (h : Dr D m) {r : List Nat} (hr : r ∈ D) : r.length ≤ 2 * m := by
  obtain ⟨i, hi⟩ := List.getElem?_of_mem hr
  have := nodup_sub_len (l₂ := List.range (2 * m)) (row_nodup h.nd hi) fun x hx => List.mem_range.mpr ((h.mem x).mp (mem_flat.mpr ⟨i, r, hi, hx⟩))
  rw [List.length_range] at this
  exact this
theorem mapK_congr {f g : Nat → Nat} {l : List Nat} (h : ∀ x ∈ l, f x = g x) : mapK f l = mapK g l := by
  unfold mapK
  congr 1
  exact List.map_congr_left fun x hx => by rw [h x hx]
/-- list(range(n)) -/
theorem ex_listRg {σ : L2.St} {H : Hp} {ta : TE} {n : Nat} {Q : VK} (h : Va ta σ H (vn n)) (hn : n ≤ 1000000) (k : ∀ p, H p = none → Q (.ref p) (upd H p (.lst (vns (List.range n))))) : tLstRg (tRg1 ta) σ H Q :=
  h _ ⟨n, rfl, RgOk.of_le (by omega) (by omega) (by omega) (by omega), fun p hp => by
    have e : rgV 0 (n : Int) = vns (List.range n) := by
      unfold rgV
      rw [show ((n : Int) - 0).toNat = n by omega]
      exact List.map_congr_left fun i _ => congrArg V.int (by omega)
    rw [e]; exact k p hp⟩
def subs (n : Nat) : List Nat := (List.range n).map fun k => n - k
theorem subs_get {n j : Nat} (h : j < n) : (subs n)[j]? = some (n - j) := range_get (fun k => n - k) h
theorem subs_pos {n x : Nat} (h : x ∈ subs n) : 0 < x ∧ x ≤ n := by
  obtain ⟨k, hk, rfl⟩ := List.mem_map.mp h
  have := List.mem_range.mp hk
  omega
theorem subs_len (n : Nat) : (subs n).length = n := by unfold subs; rw [List.length_map, List.length_range]
def scIn (x : String) (k : NameKind) : Scope := { kind := .function, names := [(Str.ofString ".0", .local), (Str.ofString x, .local), (Str.ofString "_law_names", k)], isGenerator := false, isCoroutine := false }
theorem bk3_L_renamed : BlkOk nm_L_renamed (scIn "_law_row" .cell) (scIn "_law_end" .free) [("_law_end", 11)] := blkOk_by (by decide +kernel)
def spLRen : Sp := fun vs H Q _ => ∃ a rows m c, vs = [.ref a, vn m, .int c] ∧ LR H a rows ∧ Dr rows m ∧ rows.length ≤ 400 ∧ m ≤ 400 ∧ ∀ H' p rows', Same H H' → H p = none → FR H H' p rows' → Dr rows' m → rows'.length = rows.length → Q (.ref p) H'
theorem ok_L_renamed {P : Program} {w : World} {K : PySem.W.Frag} {mg : Str → Option Value} {base : Heap} {fa : Nat → Addr} {fd : Nat → FuncData} (TX : Txt K mg fa fd) : FnOk P w K mg base CX0 2 (fa 45) (fd 45) ["_law_rows", "_law_ties", "_law_cell_here"] spLRen := by
  refine TX.F_L_renamed.ok sc_L_renamed (fun vs H Q E h => ?_) (fun cdv A outer s H vs Q E hr h => ?_)
  · obtain ⟨a, rows, m, c, rfl, hA, hD, hz, hm, q⟩ := h
    rfl
  · have nd := sc_L_renamed.nd
    have hu := hu_of hr
    obtain ⟨a, rows, m, c, rfl, hA, hD, hz, hm, q⟩ := h
    refine ⟨_, (pss_cons (ps_set (i := 4) nd rfl (Or.inl rfl) (pe_call (ok_L_draws TX) (hr.mono (by decide)) (by rfl) TX.g_L_draws TX.F_L_draws.kp TX.B_L_draws .nil pass0 (pa_cons (pv 2) (pa_cons (pe_op op_cat (pe_op op_cat (pe_lc (own := [("_law_k", 3)]) (g := gName 3) (tt := tYes) (by rfl) nd (pi_range1 (by rfl) TX.b_range (pa_cons (pv 1) pa_nil)) (blkOk_by (own := [("_law_k", 3)]) (N := nm_L_renamed) (sc := (defScope s_L_renamed)) (by decide +kernel)) (fun _ _ _ _ _ => (pg_name (i := 3) nd rfl (Or.inl rfl))) (fun _ _ _ _ _ => pts_nil) (fun _ _ _ _ _ => (pe_op op_sub (pv 1) (pv 3)))) (pe_op op_rep (pe_lst (pa_cons pe_int pa_nil)) (pv 1))) (pe_lc (own := [("_law_k", 3)]) (g := gName 3) (tt := tYes) (by rfl) nd (pi_range1 (by rfl) TX.b_range (pa_cons (pe_callB call_len_seq (by rfl) TX.b_len PySem.boot_len (pa_cons (pv 0) pa_nil)) pa_nil)) (blkOk_by (own := [("_law_k", 3)]) (N := nm_L_renamed) (sc := (defScope s_L_renamed)) (by decide +kernel)) (fun _ _ _ _ _ => (pg_name (i := 3) nd rfl (Or.inl rfl))) (fun _ _ _ _ _ => pts_nil) (fun _ _ _ _ _ => (pe_op op_sub (pe_callB (call_len_seqK (K := K) rfl) (by rfl) TX.b_len PySem.boot_len (pa_cons (pv 0) pa_nil)) (pv 3))))) pa_nil))))
      (pss_cons (ps_set (i := 5) nd rfl (Or.inl rfl) (pe_listRg (by rfl) (by rfl) TX.b_list (prg_1 (by rfl) TX.b_range (pv 1))))
      (pss_cons (ps_set (i := 6) nd rfl (Or.inr rfl) pe_dnewK)
      (pss_cons (ps_for PassesOwn.never (by rfl) (pi_range1 (by rfl) TX.b_range (pa_cons (pv 1) pa_nil)) (pg_name (i := 7) nd rfl (Or.inl rfl)) (pss_cons (ps_set (i := 8) nd rfl (Or.inl rfl) (pe_bm PySem.F.plainAttrs_list PySem.F.slot_list_pop PySem.F.type_list_pop mt_popAt (pv 5) (pa_cons (pe_ix ix_list (pv 4) (pv 7) (fun _ _ => rfl)) pa_nil)))
      (pss_cons (ps_dput hu (pv 6) (pe_op op_mul pe_int (pv 7)) (pe_op op_add (pe_op op_mul pe_int (pv 8)) (pe_ix ix_list (pv 4) (pe_op op_add (pv 1) (pv 7)) (fun _ _ => rfl))) rfl)
      (pss_one (ps_dput hu (pv 6) (pe_op op_add (pe_op op_mul pe_int (pv 7)) pe_int) (pe_op op_sub (pe_op op_add (pe_op op_mul pe_int (pv 8)) pe_int) (pe_ix ix_list (pv 4) (pe_op op_add (pv 1) (pv 7)) (fun _ _ => rfl))) rfl)))))
      (pss_cons (ps_setLc (i := 5) (own := [("_law_row", 10)]) (g := gName 10) (tt := tYes) (by rfl) nd rfl rfl (sw_true rfl rfl rfl (by decide +kernel)) (pi_list (pv 0)) (blkOk_by (own := [("_law_row", 10)]) (N := nm_L_renamed) (sc := (defScope s_L_renamed)) (by decide +kernel)) (fun _ _ _ _ _ => (pg_name (i := 10) nd rfl (Or.inl rfl))) (fun _ _ _ _ _ => pts_nil) (fun _ _ _ _ _ => (pe_lc (own := [("_law_end", 11)]) (g := gName 11) (tt := tYes) (by rfl) nd (pi_listK (K := K) rfl (pv 10)) bk3_L_renamed (fun _ _ _ _ _ => (pg_name (i := 11) nd rfl (Or.inl rfl))) (fun _ _ _ _ _ => pts_nil) (fun _ _ _ _ _ => (pe_dget hu (pv 6) (pv 11) (fun _ _ => rfl))))))
      (pss_cons (ps_set (i := 9) nd rfl (Or.inl rfl) (pe_lst pa_nil))
      (pss_cons (ps_for PassesOwn.never (by rfl) (pi_range1 (by rfl) TX.b_range (pa_cons (pe_callB call_len_seq (by rfl) TX.b_len PySem.boot_len (pa_cons (pv 0) pa_nil)) pa_nil)) (pg_name (i := 3) nd rfl (Or.inl rfl)) (pss_one (ps_expr (pe_bm PySem.F.plainAttrs_list PySem.F.slot_list_append PySem.F.type_list_append mt_append (pv 9) (pa_cons (pe_bm PySem.F.plainAttrs_list PySem.F.slot_list_pop PySem.F.type_list_pop mt_popAt (pv 5) (pa_cons (pe_ix ix_list (pv 4) (pe_op op_add (pe_op op_mul pe_int (pv 1)) (pv 3)) (fun _ _ => rfl)) pa_nil)) pa_nil)))))
      (pss_one (ps_ret (pe_call (ok_L_settled TX) (hr.mono (by decide)) (by rfl) TX.g_L_settled TX.F_L_settled.kp TX.B_L_settled .nil pass0 (pa_cons (pv 9) pa_nil))))))))))), ?_⟩
    obtain ⟨as, ha, hxa⟩ := id hA
    -- the sizes
    refine q_asg (ex_callc (ex_cv vv (ex_cons (ex_opx (ex_opx ?_)))))
    refine ex_lcR (n := m) (ys := vns (subs m)) (a1 vv) (by omega) (fun _ => rfl) (by rw [vns_len, subs_len]) (fun j y H' e s => ?_) fun p1 np1 => ?_
    · obtain ⟨z, hz', rfl⟩ := vns_get' e
      have hj := (List.getElem?_eq_some_iff.mp hz').1
      rw [subs_len] at hj
      rw [subs_get hj] at hz'
      cases Option.some.inj hz'
      exact vsubn vv vv (by omega)
    have s1 := same_upd (o := HO.lst (vns (subs m))) np1
    refine ex_rep vc fun p2 np2 => ex vv (rep_n (n := m) upd_same (by omega) fun p3 np3 => ?_)
    have s2 := same_upd (o := HO.lst [V.int 2]) np2
    have s3 := same_upd (o := HO.lst (List.replicate m (V.int 2))) np3
    refine cat_n (s3 _ _ (s2 _ _ upd_same)) upd_same (by rw [vns_len, subs_len, List.length_replicate]; omega) fun p4 np4 => ?_
    have s4 := same_upd (o := HO.lst (vns (subs m) ++ List.replicate m (V.int 2))) np4
    have sA := ((s1.trans s2).trans s3).trans s4
    refine ex_lcR (n := rows.length) (ys := vns (subs rows.length)) (a1 (vlen vv (by rw [List.length_map, hxa.1]) (sA _ _ ha))) (by omega) (fun _ => rfl) (by rw [vns_len, subs_len]) (fun j y H' e s => ?_) fun p5 np5 => ?_
    · obtain ⟨z, hz', rfl⟩ := vns_get' e
      have hj := (List.getElem?_eq_some_iff.mp hz').1
      rw [subs_len] at hj
      rw [subs_get hj] at hz'
      cases Option.some.inj hz'
      exact vsubn (vlen vv (by rw [List.length_map, hxa.1]) (s _ _ (sA _ _ ha))) vv (by omega)
    have s5 := same_upd (o := HO.lst (vns (subs rows.length))) np5
    refine cat_n (s5 _ _ upd_same) upd_same (by rw [List.length_append, vns_len, vns_len, subs_len, subs_len, List.length_replicate]; omega) fun p6 np6 => ?_
    have hsz : vns (subs m) ++ List.replicate m (V.int 2) ++ vns (subs rows.length) = vns (subs m ++ List.replicate m 2 ++ subs rows.length) := by
      show _ = List.map vn _
      rw [List.map_append, List.map_append, List.map_replicate]; rfl
    rw [hsz]
    have s6 := same_upd (o := HO.lst (vns (subs m ++ List.replicate m 2 ++ subs rows.length))) np6
    have sB := (sA.trans s5).trans s6
    refine ex_nil ⟨c, p6, _, rfl, upd_same, fun n hn => ?_, by simp only [List.length_append, subs_len, List.length_replicate]; omega, fun H1 pk picks s7 npk hpk hpl hpv => ?_⟩
    · rcases List.mem_append.mp hn with h | h
      · rcases List.mem_append.mp h with h | h
        · have := subs_pos h; omega
        · have := (List.mem_replicate.mp h).2; omega
      · have := subs_pos h; omega
    simp only [List.length_append, subs_len, List.length_replicate] at hpl
    have sC := sB.trans s7
    have npk0 : H pk = none := sB.free npk
    -- left = list(range(ties)); names = {}
    refine q_asg (ex_listRg vv (by omega) fun lf nlf => ?_)
    have s8 := same_upd (o := HO.lst (vns (List.range m))) nlf
    refine q_asg fun d nd => ?_
    have s9 := same_upd (o := HO.dK []) nd
    have nlf0 : H lf = none := sC.free nlf
    have nd0 : H d = none := sC.free (s8.free nd)
    have ndl : lf ≠ d := ne_of_none upd_same nd
    have npd : pk ≠ d := ne_of_none (s8 _ _ hpk) nd
    have npl : pk ≠ lf := ne_of_none hpk nlf
    have P1 : ∀ {t : Nat}, t < m → ∃ x, picks[t]? = some x ∧ x < m - t := fun {t} ht => by
      have h1 : t < picks.length := by omega
      refine ⟨_, List.getElem?_eq_getElem h1, hpv t _ _ (List.getElem?_eq_getElem h1) ?_⟩
      rw [List.getElem?_append_left (by rw [List.length_append, subs_len]; omega), List.getElem?_append_left (by rw [subs_len]; exact ht)]
      exact subs_get ht
    have P2 : ∀ {t : Nat}, t < m → ∃ x, picks[m + t]? = some x ∧ x < 2 := fun {t} ht => by
      have h1 : m + t < picks.length := by omega
      refine ⟨_, List.getElem?_eq_getElem h1, hpv (m + t) _ _ (List.getElem?_eq_getElem h1) ?_⟩
      rw [List.getElem?_append_left (by rw [List.length_append, subs_len, List.length_replicate]; omega), List.getElem?_append_right (by rw [subs_len]; omega), subs_len, List.getElem?_replicate, if_pos (by omega)]
    have P3 : ∀ {t : Nat}, t < rows.length → ∃ x, picks[2 * m + t]? = some x ∧ x < rows.length - t := fun {t} ht => by
      have h1 : 2 * m + t < picks.length := by omega
      refine ⟨_, List.getElem?_eq_getElem h1, hpv (2 * m + t) _ _ (List.getElem?_eq_getElem h1) ?_⟩
      rw [List.getElem?_append_right (by rw [List.length_append, subs_len, List.length_replicate]; omega), List.length_append, subs_len, List.length_replicate, show 2 * m + t - (m + m) = t by omega]
      exact subs_get ht
    refine sq (s_forR1 (n := m) (a1 vv) (by omega) (fun t σ H' => ∃ y7 y8 N L f, σ = [some (.ref a), some (vn m), some (.int c), none, some (.ref pk), some (.ref lf), some (.ref d), y7, y8, none, none, none] ∧ Same H H' ∧ LI H' pk picks ∧ LI H' lf L ∧ H' d = some (.dK (mapK f (List.range (2 * t)))) ∧ (N ++ L).Perm (List.range m) ∧ N.length = t ∧ (∀ x, x < 2 * t → f x / 2 = N.getD (x / 2) 0) ∧ ∀ k, k < t → f (2 * k) ≠ f (2 * k + 1))
      ⟨none, none, [], List.range m, fun _ => 0, rfl, (sC.trans s8).trans s9, s9 _ _ (s8 _ _ hpk), s9 _ _ upd_same, upd_same, List.Perm.refl _, rfl, fun x hx => absurd hx (by omega), fun k hk => absurd hk (Nat.not_lt_zero _)⟩ (fun t σ H' ht h => ?_) (fun σ H' h => ?_))
    · obtain ⟨y7, y8, N, L, f, rfl, sm, hpk', hlf', hd', hNL, hNl, hf1, hf2⟩ := h
      obtain ⟨x1, hx1, hx1l⟩ := P1 ht
      obtain ⟨x2, hx2, hx2l⟩ := P2 ht
      have hLl : t + L.length = m := by
        have := hNL.length_eq
        rw [List.length_append, List.length_range, hNl] at this
        exact this
      have hg : L[x1]? = some (L.getD x1 0) := get_getD (by omega)
      refine q_asg (ex_popAt vv (vixn vv vv hx1 hpk') hlf' (vns_get hg) (by rw [vns_len]; omega) ?_)
      revert hg
      generalize L.getD x1 0 = n1
      intro hg
      have sm1 := same_mut (o := HO.lst ((vns L).eraseIdx x1)) sm nlf0
      have hpk1 := (upd_ne (o := HO.lst ((vns L).eraseIdx x1)) npl).trans hpk'
      have hd1 := (upd_ne (o := HO.lst ((vns L).eraseIdx x1)) ndl.symm).trans hd'
      have hlf1 : LI (upd H' lf (.lst ((vns L).eraseIdx x1))) lf (L.eraseIdx x1) := by
        show _ = some (HO.lst (List.map vn _))
        rw [upd_same, map_eraseIdx]
      revert sm1 hpk1 hd1 hlf1
      generalize upd H' lf (.lst ((vns L).eraseIdx x1)) = H2
      intro sm1 hpk1 hd1 hlf1
      have hn1 : n1 < m := by
        have : n1 ∈ N ++ L := List.mem_append_right _ (List.mem_of_getElem? hg)
        exact List.mem_range.mp (hNL.mem_iff.mp this)
      have hmp : ∀ (g : Nat → Nat), (∀ x, x < 2 * t → g x = f x) → mapK f (List.range (2 * t)) = mapK g (List.range (2 * t)) := fun g hg => mapK_congr fun x hx => (hg x (List.mem_range.mp hx)).symm
      have hr2 : ∀ n, List.range n ++ [n] = List.range (n + 1) := fun n => List.range_succ.symm
      let g : Nat → Nat := fun x => if x = 2 * t then 2 * n1 + x2 else if x = 2 * t + 1 then 2 * n1 + 1 - x2 else f x
      have g0 : g (2 * t) = 2 * n1 + x2 := if_pos rfl
      have g1 : g (2 * t + 1) = 2 * n1 + 1 - x2 := by
        show (if 2 * t + 1 = 2 * t then _ else _) = _
        rw [if_neg (by omega), if_pos rfl]
      have g2 : ∀ x, x < 2 * t → g x = f x := fun x hx => by
        show (if x = 2 * t then _ else _) = _
        rw [if_neg (by omega), if_neg (by omega)]
      have hd1' : H2 d = some (.dK (mapK g (List.range (2 * t)))) := by rw [← hmp g g2]; exact hd1
      have npk2 : x2 ≤ 2 * n1 + 1 := by omega
      have e21 : (2 * t : Int) + 1 = ((2 * t + 1 : Nat) : Int) := by omega
      refine q_dput (v := vn (2 * n1 + x2)) (vaddn (vmuln (vcn 2) vv (.inl (by decide))) (vixn vv (vaddn vv vv) hx2 hpk1)) vv (vmuln (vcn 2) vv (.inl (by decide))) (by rw [mapK_len, List.length_range]; omega) hd1' ?_
      rw [mapK_put (fun z => by have := List.mem_range.mp z; omega) g0.symm, hr2]
      refine s_dput (v := vn (2 * n1 + 1 - x2)) (vsubn (vaddn (vmuln (vcn 2) vv (.inl (by decide))) (vcn 1)) (vixn vv (vaddn vv vv) hx2 ((upd_ne npd).trans hpk1)) npk2) vv (vaddn (vmuln (vcn 2) vv (.inl (by decide))) (vcn 1)) (by rw [mapK_len, List.length_range]; omega) upd_same (pn ?_)
      rw [mapK_put (fun z => by have := List.mem_range.mp z; omega) g1.symm, hr2, show 2 * t + 1 + 1 = 2 * (t + 1) by omega]
      refine ⟨_, _, N ++ [n1], L.eraseIdx x1, g, rfl, same_mut (same_mut sm1 nd0) nd0, (upd_ne npd).trans ((upd_ne npd).trans hpk1), (upd_ne ndl).trans ((upd_ne ndl).trans hlf1), upd_same, (move_perm hg).trans hNL, by rw [List.length_append, hNl]; rfl, fun x hx => ?_, fun k hk => ?_⟩
      · by_cases hx2 : x < 2 * t
        · rw [g2 x hx2, hf1 x hx2, List.getD_eq_getElem?_getD, List.getD_eq_getElem?_getD, List.getElem?_append_left (by omega)]
        · have hh : (N ++ [n1]).getD (x / 2) 0 = n1 := by
            rw [List.getD_eq_getElem?_getD, List.getElem?_append_right (by omega), hNl, show x / 2 - t = 0 by omega]; rfl
          rw [hh]
          by_cases h0 : x = 2 * t
          · rw [h0, g0]; omega
          · rw [show x = 2 * t + 1 by omega, g1]; omega
      · by_cases hkt : k < t
        · rw [g2 _ (by omega), g2 _ (by omega)]; exact hf2 k hkt
        · rw [show k = t by omega, g0, g1]; omega
    · obtain ⟨y7, y8, N, L, f, rfl, sm, hpk', hlf', hd', hNL, hNl, hf1, hf2⟩ := h
      have hL0 : L = [] := by
        have := hNL.length_eq
        rw [List.length_append, List.length_range, hNl] at this
        exact List.length_eq_zero_iff.mp (by omega)
      subst hL0
      rw [List.append_nil] at hNL
      have hNn : N.Nodup := hNL.symm.nodup List.nodup_range
      have hNg : ∀ {k}, k < m → N[k]? = some (N.getD k 0) ∧ N.getD k 0 < m := fun {k} hk => by
        have h1 : N[k]? = some (N.getD k 0) := get_getD (by omega)
        exact ⟨h1, List.mem_range.mp (hNL.mem_iff.mp (List.mem_of_getElem? h1))⟩
      have hfl : ∀ x, x < 2 * m → f x < 2 * m := fun x hx => by
        have h1 := hf1 x hx
        have h2 := (hNg (k := x / 2) (by omega)).2
        omega
      have hfi : ∀ x y, x < 2 * m → y < 2 * m → f x = f y → x = y := fun x y hx hy e => by
        have h1 := hf1 x hx
        have h2 := hf1 y hy
        have h3 := (hNg (k := x / 2) (by omega)).1
        have h4 := (hNg (k := y / 2) (by omega)).1
        have h5 : x / 2 = y / 2 := nd_get hNn h3 (by rw [h4]; congr 1; omega)
        apply Classical.byContradiction
        intro hn
        have h6 := hf2 (x / 2) (by omega)
        rcases (show (2 * (x / 2) = x ∧ 2 * (x / 2) + 1 = y) ∨ (2 * (x / 2) = y ∧ 2 * (x / 2) + 1 = x) by omega) with ⟨z1, z2⟩ | ⟨z1, z2⟩
        · rw [z2, z1] at h6; exact h6 e
        · rw [z2, z1] at h6; exact h6 e.symm
      have hD2 : Dr (rows.map (List.map f)) m := hD.map hfl hfi
      -- left = [[names[end] for end in row] for row in rows]
      refine pn (q_asg (ex_lcO (ys := rows.map (List.map f)) vv (sm _ _ ha) (fun _ => rfl) (by rw [List.length_map, List.length_map, hxa.1]) (by rw [List.length_map, hxa.1]; omega) (fun j x y H2 e1 e2 s Q' q' => ?_) fun H2 l2 s10 nl2 hl2 => ?_))
      · obtain ⟨r, hr, rfl⟩ := ref_get' e1
        rw [List.getElem?_map] at e2
        cases hw : rows[j]? with
        | none => rw [hw] at e2; cases e2
        | some w =>
          rw [hw] at e2
          cases Option.some.inj e2
          have hlw := s _ _ (sm _ _ (hxa.2 j r w hr hw))
          refine ex_lc (ys := vns (w.map f)) vv hlw (fun _ => rfl) (by rw [vns_len, vns_len, List.length_map]) (by rw [vns_len]; have := row_len hD (List.mem_of_getElem? hw); omega) (fun i x y H3 f1 f2 s' => ?_) fun p np => q' _ p (same_upd np) np upd_same
          obtain ⟨e, he, rfl⟩ := vns_get' f1
          obtain ⟨e', he', rfl⟩ := vns_get' f2
          rw [List.getElem?_map, he] at he'
          cases Option.some.inj he'
          exact vdget vv vv (mapK_get (List.mem_range.mpr ((hD.mem e).mp (mem_flat.mpr ⟨j, w, hw, List.mem_of_getElem? he⟩)))) (s' _ _ (s _ _ hd'))
      have sm2 := sm.trans s10
      obtain ⟨l2s, hl2a, hl2x⟩ := hl2
      have nl20 : H l2 = none := sm.free nl2
      have hpk2 := s10 _ _ hpk'
      have nplk : pk ≠ l2 := ne_of_none hpk' nl2
      refine q_asg (ex_lst a0 (Nat.zero_le _) fun fo nfo => ?_)
      have s11 := same_upd (o := HO.lst []) nfo
      have nfo0 : H fo = none := sm2.free nfo
      have nlfo : l2 ≠ fo := ne_of_none hl2a nfo
      have npfo : pk ≠ fo := ne_of_none hpk2 nfo
      refine sq (s_forR1 (n := rows.length) (a1 (vlen vv (by rw [List.length_map, hxa.1]) (s11 _ _ (sm2 _ _ ha)))) (by omega) (fun k σ H3 => ∃ y3 F L fs ls, σ = [some (.ref a), some (vn m), some (.int c), y3, some (.ref pk), some (.ref l2), some (.ref d), y7, y8, some (.ref fo), none, none] ∧ Same H H3 ∧ LI H3 pk picks ∧ H3 l2 = some (.lst (ls.map V.ref)) ∧ LX H3 ls L ∧ H3 fo = some (.lst (fs.map V.ref)) ∧ LX H3 fs F ∧ (∀ r ∈ ls, r ≠ l2 ∧ r ≠ fo) ∧ (∀ r ∈ fs, r ≠ l2 ∧ r ≠ fo) ∧ (F ++ L).Perm (rows.map (List.map f)) ∧ F.length = k)
        ⟨_, [], rows.map (List.map f), [], l2s, rfl, sm2.trans s11, s11 _ _ hpk2, s11 _ _ hl2a, hl2x.mono s11, upd_same, LX.nil, fun r hr => ?_, fun r hr => (by cases hr), List.Perm.refl _, rfl⟩ (fun k σ H3 hk h => ?_) (fun σ H3 h => ?_))
      · obtain ⟨i, hi⟩ := List.getElem?_of_mem hr
        have hh := hl2x.2 i r _ hi (row_get (by rw [← hl2x.1]; exact (List.getElem?_eq_some_iff.mp hi).1))
        refine ⟨fun z => ?_, fun z => ?_⟩
        · rw [z] at hh
          have := HO.lst.inj (Option.some.inj (hl2a.symm.trans hh))
          cases hls : l2s with
          | nil => rw [hls] at hi; simp at hi
          | cons r0 rr =>
            cases hw : row (rows.map (List.map f)) i with
            | nil => rw [hls, hw] at this; simp at this
            | cons w0 wr => rw [hls, hw] at this; simp [vn] at this
        · rw [z] at hh
          unfold LI at hh
          rw [hh] at nfo; cases nfo
      · obtain ⟨y3, F, L, fs, ls, rfl, sm3, hpk3, hl3, hX3, hf3, hF3, hnl, hnf, hFL, hFl⟩ := h
        obtain ⟨x3, hx3, hx3l⟩ := P3 hk
        have hLl : k + L.length = rows.length := by
          have := hFL.length_eq
          rw [List.length_append, List.length_map, hFl] at this
          exact this
        have hlsl : ls.length = L.length := hX3.1
        have hx3' : x3 < ls.length := by omega
        have hg := List.getElem?_eq_getElem hx3'
        revert hg
        generalize ls[x3] = r0
        intro hg
        have hgL := row_get (D := L) (p := x3) (by omega)
        have hr0 := hX3.2 x3 r0 _ hg hgL
        have hr0m := List.mem_of_getElem? hg
        refine s_appx vv hf3 (ex_popAt vv (vixn vv (vaddn (vmuln (vcn 2) vv (.inl (by decide))) vv) hx3 hpk3) hl3 (ref_get hg) (by rw [List.length_map]; omega) ?_)
        have hfsl := hF3.1
        refine app_n ((upd_ne nlfo.symm).trans hf3) (by rw [List.length_map]; omega) (pn ⟨_, F ++ [row L x3], L.eraseIdx x3, fs ++ [r0], ls.eraseIdx x3, rfl, same_mut (same_mut sm3 nl20) nfo0, (upd_ne npfo).trans ((upd_ne nplk).trans hpk3), (upd_ne nlfo).trans (by rw [upd_same, map_eraseIdx]), ((hX3.erase x3 hx3').off fun r hr => (hnl r (List.mem_of_mem_eraseIdx hr)).1).off fun r hr => (hnl r (List.mem_of_mem_eraseIdx hr)).2, by rw [upd_same, ref_snoc], ((hF3.off fun r hr => (hnf r hr).1).off fun r hr => (hnf r hr).2).snoc ((upd_ne (hnl r0 hr0m).2).trans ((upd_ne (hnl r0 hr0m).1).trans hr0)), fun r hr => hnl r (List.mem_of_mem_eraseIdx hr), snocP hnf (hnl r0 hr0m), (move_perm hgL).trans hFL, by rw [List.length_append, hFl]; rfl⟩)
      · obtain ⟨y3, F, L, fs, ls, rfl, sm3, hpk3, hl3, hX3, hf3, hF3, hnl, hnf, hFL, hFl⟩ := h
        have hL0 : L = [] := by
          have := hFL.length_eq
          rw [List.length_append, List.length_map, hFl] at this
          exact List.length_eq_zero_iff.mp (by omega)
        subst hL0
        rw [List.append_nil] at hFL
        have hDF : Dr F m := hD2.flatPerm hFL.flatten
        refine pn (s_retx (ex_call (a1 vv) ⟨fo, F, rfl, ⟨fs, hf3, hF3⟩, by omega, fun r hr => by have := row_len hDF hr; omega, fun H5 p rows' s12 np hp hpr => ?_⟩))
        obtain ⟨rs', e1, e2, e3⟩ := hp
        exact q H5 p rows' (sm3.trans s12) (sm3.free np) ⟨rs', e1, e2, fun r hr => sm3.free (e3 r hr)⟩ (hDF.flatPerm hpr.flat) (hpr.1.trans hFl)

end RF
namespace RF
open PySem PySem.Spec PyProof.Rows L2
/-! ### promises and defs: the law's crossed drawing, its kinds, their numbers -/
theorem full_perm : ∀ {l₁ l₂ : List Nat}, l₁.Nodup → (∀ x ∈ l₁, x ∈ l₂) → l₂.length ≤ l₁.length → l₁.Perm l₂
  | [], l₂, _, _, h => by
    rw [List.length_nil] at h
    have : l₂ = [] := List.length_eq_zero_iff.mp (by omega)
    rw [this]
  | a :: l₁, l₂, nd, hs, hl => by
    obtain ⟨h1, h2⟩ := List.nodup_cons.mp nd
    have ha := hs a List.mem_cons_self
    have hp := List.perm_cons_erase ha
    have hle := hp.length_eq
    rw [List.length_cons] at hle hl
    refine ((full_perm (l₂ := l₂.erase a) h2 (fun x hx => ?_) (by omega)).cons a).trans hp.symm
    exact (List.mem_erase_of_ne fun e => h1 (by rw [← e]; exact hx)).mpr (hs x (List.mem_cons_of_mem _ hx))
/-- from a list of 2 m numbers in which all below 2 m stand -/
theorem Dr.of2 {D : List (List Nat)} {m : Nat} (hl : D.flatten.length = 2 * m) (hx : ∀ x, x < 2 * m → x ∈ D.flatten) : Dr D m := by
  have := full_perm (l₁ := List.range (2 * m)) (l₂ := D.flatten) List.nodup_range (fun x h => hx x (List.mem_range.mp h)) (by rw [List.length_range, hl]; exact Nat.le_refl _)
  exact ⟨this.nodup List.nodup_range, fun x => (this.mem_iff (a := x)).symm.trans List.mem_range⟩
theorem flat_len2 {D : List (List Nat)} {k : Nat} (h : ∀ r ∈ D, r.length = k) : D.flatten.length = D.length * k := by
  induction D with
  | nil => simp
  | cons a r ih =>
    rw [List.flatten_cons, List.length_append, ih fun x hx => h x (List.mem_cons_of_mem _ hx), h a List.mem_cons_self, List.length_cons, Nat.succ_mul]
    omega
/-! crossed -/
def loopR (b n : Nat) : List (List Nat) := (List.range (n - 1)).map fun k => [b + 2 * (k + 1) - 1, b + 2 * (k + 1)]
def crossR (p t : Nat) : List (List Nat) := [[0, 2 * p, 2 * p - 1, 2 * (p + t) - 1]] ++ loopR 0 p ++ loopR (2 * p) t
theorem loopR_len (b n : Nat) : (loopR b n).length = n - 1 := by unfold loopR; rw [List.length_map, List.length_range]
theorem loopR_get {b n j : Nat} {y : List Nat} (e : (loopR b n)[j]? = some y) : j < n - 1 ∧ y = [b + 2 * (j + 1) - 1, b + 2 * (j + 1)] := by
  have hj := (List.getElem?_eq_some_iff.mp e).1
  rw [loopR_len] at hj
  unfold loopR at e
  rw [List.getElem?_map, List.getElem?_range hj] at e
  exact ⟨hj, (Option.some.inj e).symm⟩
theorem loopR_mem {b n x : Nat} (h1 : b < x) (h2 : x < b + 2 * n - 1) : x ∈ (loopR b n).flatten := by
  refine List.mem_flatten.mpr ⟨_, List.mem_map.mpr ⟨(x - b + 1) / 2 - 1, List.mem_range.mpr (by omega), rfl⟩, ?_⟩
  rw [List.mem_cons, List.mem_singleton]
  omega
theorem crossR_dr {p t : Nat} (hp : 0 < p) (ht : 0 < t) : Dr (crossR p t) (p + t) := by
  have hl : ∀ b n, (loopR b n).flatten.length = (n - 1) * 2 := fun b n => by
    rw [flat_len2 (k := 2), loopR_len]
    intro r hr
    obtain ⟨k, _, rfl⟩ := List.mem_map.mp hr
    rfl
  refine Dr.of2 ?_ fun x hx => ?_
  · unfold crossR
    rw [List.flatten_append, List.flatten_append, List.length_append, List.length_append, hl, hl]
    show 4 + _ + _ = _
    omega
  · unfold crossR
    rw [List.flatten_append, List.flatten_append, List.mem_append, List.mem_append, List.flatten_singleton]
    rw [List.mem_cons, List.mem_cons, List.mem_cons, List.mem_singleton]
    by_cases h1 : 0 < x ∧ x < 0 + 2 * p - 1
    · exact .inl (.inr (loopR_mem h1.1 h1.2))
    by_cases h2 : 2 * p < x ∧ x < 2 * p + 2 * t - 1
    · exact .inr (loopR_mem h2.1 h2.2)
    · left; left; omega
/-- new lists, over a range -/
theorem ex_lcRO {σ : L2.St} {H : Hp} {i : Nat} {te : TE} {Q : VK} {ta : TA} {vs : List Nat} {lo n : Nat} {ys : List (List Nat)} (h : VA ta σ H [vn lo, vn n]) (hn : n ≤ 1000000) (hlo : lo ≤ 1000000) (hw : ∀ x, wipe ((wipe σ vs).set i (some x)) vs = wipe σ vs) (hy : ys.length = n - lo)
    (he : ∀ (j : Nat) y H', ys[j]? = some y → Same H H' → ∀ Q : VK, (∀ H2 r, Same H' H2 → H' r = none → LI H2 r y → Q (.ref r) H2) → te ((wipe σ vs).set i (some (vn (lo + j)))) H' Q) (q : ∀ H2 p, Same H H2 → H p = none → FR H H2 p ys → Q (.ref p) H2) : tLc (iRng2 ta) (gName i) tYes te vs σ H Q := by
  refine h _ ⟨lo, n, rfl, by omega, fun p hp => ?_⟩
  refine lc_range (lo := (lo : Int)) (n := ((n : Int) - (lo : Int)).toNat) (fun j H' => Same H H' ∧ ∃ rs : List Addr, H' p = some (.lst (rs.map V.ref)) ∧ LX H' rs (ys.take j) ∧ ∀ r ∈ rs, r ≠ p ∧ H r = none) ⟨same_upd hp, [], upd_same, LX.nil, fun r hr => (by cases hr)⟩ (fun j H' hj e => ?_) (fun H' e => ?_)
  · have e0 : V.int ((lo : Int) + (j : Int)) = vn (lo + j) := by show V.int _ = V.int _; congr 1
    rw [e0]
    refine ⟨hw _, ?_⟩
    obtain ⟨sm, rs, hp', hX, hn'⟩ := e
    have hj' : j < ys.length := by omega
    have ej : ys[j]? = some ys[j] := List.getElem?_eq_getElem hj'
    simp only [tYes, if_true]
    refine he j _ _ ej sm _ fun H2 r s2 nr hr => ⟨_, s2 _ _ hp', ?_, ?_, rs ++ [r], ?_, ?_, ?_⟩
    · have := hX.1
      rw [List.length_take] at this
      rw [sizeLine_eq, List.length_map]
      omega
    · exact same_mut (sm.trans s2) hp
    · rw [upd_same, ref_snoc]
    · rw [List.take_add_one, ej]
      have hrp : r ≠ p := fun z => by rw [z, hp'] at nr; cases nr
      exact ((hX.mono s2).off fun r hr => (hn' r hr).1).snoc ((upd_ne hrp).trans hr)
    · exact snocP hn' ⟨fun z => (by rw [z, hp'] at nr; cases nr), sm.free nr⟩
  · obtain ⟨sm, rs, hp', hX, hn'⟩ := e
    rw [List.take_of_length_le (by omega)] at hX
    exact q H' p sm hp ⟨rs, hp', hX, fun r hr => (hn' r hr).2⟩
theorem ex_lstx {σ : L2.St} {H : Hp} {Q : VK} {t : TA} (h : t σ H fun xs H1 => xs.length ≤ sizeLine ∧ ∀ p, H1 p = none → Q (.ref p) (upd H1 p (.lst xs))) : tLst t σ H Q := h
def spLCrossed : Sp := fun vs H Q _ => ∃ p t, vs = [vn p, vn t] ∧ 0 < p ∧ 0 < t ∧ p ≤ 100 ∧ t ≤ 100 ∧ ∀ H' a, Same H H' → H a = none → LR H' a (crossR p t) → Q (.ref a) H'
theorem ok_L_crossed {P : Program} {w : World} {K : PySem.W.Frag} {mg : Str → Option Value} {base : Heap} {fa : Nat → Addr} {fd : Nat → FuncData} (TX : Txt K mg fa fd) : FnOk P w K mg base CX0 1 (fa 49) (fd 49) ["_law_one", "_law_two"] spLCrossed := by
  refine TX.F_L_crossed.ok sc_L_crossed (fun vs H Q E h => ?_) (fun cdv A outer s H vs Q E hr h => ?_)
  · obtain ⟨p, t, rfl, hp, ht, hp1, ht1, q⟩ := h
    rfl
  · have nd := sc_L_crossed.nd
    have hu := hu_of hr
    obtain ⟨p, t, rfl, hp, ht, hp1, ht1, q⟩ := h
    refine ⟨_, (pss_cons (ps_set (i := 2) nd rfl (Or.inl rfl) (pe_lst (pa_cons (pe_lst (pa_cons pe_int (pa_cons (pe_op op_mul pe_int (pv 0)) (pa_cons (pe_op op_sub (pe_op op_mul pe_int (pv 0)) pe_int) (pa_cons (pe_op op_sub (pe_op op_mul pe_int (pe_op op_add (pv 0) (pv 1))) pe_int) pa_nil))))) pa_nil)))
      (pss_cons (ps_set (i := 2) nd rfl (Or.inl rfl) (pe_op op_cat (pv 2) (pe_lc (own := [("_law_k", 3)]) (g := gName 3) (tt := tYes) (by rfl) nd (pi_range2 (by rfl) TX.b_range (pa_cons pe_int (pa_cons (pv 0) pa_nil))) (blkOk_by (own := [("_law_k", 3)]) (N := nm_L_crossed) (sc := (defScope s_L_crossed)) (by decide +kernel)) (fun _ _ _ _ _ => (pg_name (i := 3) nd rfl (Or.inl rfl))) (fun _ _ _ _ _ => pts_nil) (fun _ _ _ _ _ => (pe_lst (pa_cons (pe_op op_sub (pe_op op_mul pe_int (pv 3)) pe_int) (pa_cons (pe_op op_mul pe_int (pv 3)) pa_nil)))))))
      (pss_one (ps_ret (pe_op op_cat (pv 2) (pe_lc (own := [("_law_k", 3)]) (g := gName 3) (tt := tYes) (by rfl) nd (pi_range2 (by rfl) TX.b_range (pa_cons pe_int (pa_cons (pv 1) pa_nil))) (blkOk_by (own := [("_law_k", 3)]) (N := nm_L_crossed) (sc := (defScope s_L_crossed)) (by decide +kernel)) (fun _ _ _ _ _ => (pg_name (i := 3) nd rfl (Or.inl rfl))) (fun _ _ _ _ _ => pts_nil) (fun _ _ _ _ _ => (pe_lst (pa_cons (pe_op op_sub (pe_op op_add (pe_op op_mul pe_int (pv 0)) (pe_op op_mul pe_int (pv 3))) pe_int) (pa_cons (pe_op op_add (pe_op op_mul pe_int (pv 0)) (pe_op op_mul pe_int (pv 3))) pa_nil)))))))))), ?_⟩
    have m1 : ∀ {σ : L2.St} {H : Hp} {te : TE} {x : Nat}, Va te σ H (vn x) → Va (tOp (rI CMul fun i j => .int (i * j)) (tC (.int 2)) te) σ H (vn (2 * x)) := fun h => vmuln (vcn 2) h (.inl (by decide))
    refine q_asg (ex_lstx (ex_cons (ex_lst (vs := vns [0, 2 * p, 2 * p - 1, 2 * (p + t) - 1]) (a4 (vcn 0) (m1 vv) (vsubn (m1 vv) (vcn 1) (by omega)) (vsubn (m1 (vaddn vv vv)) (vcn 1) (by omega))) (by show 4 ≤ sizeLine; decide) fun r0 n0 => ex_nil ⟨by show 1 ≤ sizeLine; decide, fun b nb => ?_⟩)))
    have s1 := same_upd (o := HO.lst (vns [0, 2 * p, 2 * p - 1, 2 * (p + t) - 1])) n0
    have s2 := same_upd (o := HO.lst [V.ref r0]) nb
    have hr0 := s2 _ _ (upd_same (H := H) (a := r0) (o := HO.lst (vns [0, 2 * p, 2 * p - 1, 2 * (p + t) - 1])))
    have hb0 : LX (upd (upd H r0 (.lst (vns [0, 2 * p, 2 * p - 1, 2 * (p + t) - 1]))) b (.lst [V.ref r0])) [r0] [[0, 2 * p, 2 * p - 1, 2 * (p + t) - 1]] := (LX.nil).snoc hr0
    have hb1 := upd_same (H := upd H r0 (.lst (vns [0, 2 * p, 2 * p - 1, 2 * (p + t) - 1]))) (a := b) (o := HO.lst [V.ref r0])
    have s12 := s1.trans s2
    revert hb0 hb1 s12
    generalize upd (upd H r0 (.lst (vns [0, 2 * p, 2 * p - 1, 2 * (p + t) - 1]))) b (.lst [V.ref r0]) = H2
    intro hb0 hb1 s12
    refine q_asg (ex_opx (ex vv (ex_lcRO (lo := 1) (n := p) (ys := loopR 0 p) (a2 (vcn 1) vv) (by omega) (by omega) (fun _ => rfl) (loopR_len 0 p) (fun j y H' e s Q' q' => ?_) fun H3 c s3 nc hc => ?_)))
    · obtain ⟨hj, rfl⟩ := loopR_get e
      exact ex_lst (vs := vns [0 + 2 * (j + 1) - 1, 0 + 2 * (j + 1)]) (a2 (vto (vsubn (m1 vv) (vcn 1) (by omega)) (congrArg vn (by omega))) (vto (m1 vv) (congrArg vn (by omega)))) (by show 2 ≤ sizeLine; decide) fun l nl => q' _ l (same_upd nl) nl upd_same
    · obtain ⟨cs, hc1, hcx, _⟩ := hc
      have hl1 := hcx.1
      rw [loopR_len] at hl1
      refine cat_n (s3 _ _ hb1) hc1 (by rw [List.length_map]; show 1 + _ ≤ _; omega) fun d nd => ?_
      have s4 := same_upd (o := HO.lst ([V.ref r0] ++ cs.map V.ref)) nd
      have hdx := ((hb0.mono s3).app hcx).mono s4
      have hd1 : (upd H3 d (.lst ([V.ref r0] ++ cs.map V.ref))) d = some (.lst (([r0] ++ cs).map V.ref)) := by rw [upd_same, List.map_append]; rfl
      have s14 := (s12.trans s3).trans s4
      revert hdx hd1 s14
      generalize upd H3 d (.lst ([V.ref r0] ++ cs.map V.ref)) = H4
      intro hdx hd1 s14
      refine s_retx (ex_opx (ex vv (ex_lcRO (lo := 1) (n := t) (ys := loopR (2 * p) t) (a2 (vcn 1) vv) (by omega) (by omega) (fun _ => rfl) (loopR_len (2 * p) t) (fun j y H' e s Q' q' => ?_) fun H5 g s5 ng hg => ?_)))
      · obtain ⟨hj, rfl⟩ := loopR_get e
        exact ex_lst (vs := vns [2 * p + 2 * (j + 1) - 1, 2 * p + 2 * (j + 1)]) (a2 (vto (vsubn (vaddn (m1 vv) (m1 vv)) (vcn 1) (by omega)) (congrArg vn (by omega))) (vto (vaddn (m1 vv) (m1 vv)) (congrArg vn (by omega)))) (by show 2 ≤ sizeLine; decide) fun l nl => q' _ l (same_upd nl) nl upd_same
      · obtain ⟨gs, hg1, hgx, _⟩ := hg
        have hl2 := hgx.1
        rw [loopR_len] at hl2
        refine cat_n (s5 _ _ hd1) hg1 (by rw [List.length_map, List.length_map, List.length_append, List.length_singleton]; omega) fun e ne => ?_
        have s6 := same_upd (o := HO.lst (([r0] ++ cs).map V.ref ++ gs.map V.ref)) ne
        exact q _ e ((s14.trans s5).trans s6) ((s14.trans s5).free ne) ⟨([r0] ++ cs) ++ gs, by rw [upd_same, List.map_append (l₁ := [r0] ++ cs)], ((hdx.mono s5).app hgx).mono s6⟩

end RF
namespace RF
open PySem PySem.Spec PyProof.Rows L2
/-! ### promises and defs: the law's numbers and kinds -/
theorem len3' {l : List Nat} (h : l.length = 3) : ∃ a b c, l = [a, b, c] := by
  match l, h with
  | [a, b, c], _ => exact ⟨a, b, c, rfl⟩
theorem len4' {l : List Nat} (h : l.length = 4) : ∃ a b c d, l = [a, b, c, d] := by
  match l, h with
  | [a, b, c, d], _ => exact ⟨a, b, c, d, rfl⟩
theorem len5' {l : List Nat} (h : l.length = 5) : ∃ a b c d e, l = [a, b, c, d, e] := by
  match l, h with
  | [a, b, c, d, e], _ => exact ⟨a, b, c, d, e, rfl⟩
def spLNums : Sp := fun vs H Q _ => ∃ z : Int, vs = [.int z, vn 40] ∧ ∀ H' t r c s, Same H H' → H' t = some (.tup [vn r, vn c, vn s]) → 0 < r → 0 < c → r * c ≤ 40 → s < c → Q (.ref t) H'
theorem vmax2n {σ : L2.St} {H : Hp} {ta tb : TE} {a b : Nat} (ha : Va ta σ H (vn a)) (hb : Va tb σ H (vn b)) : Va (tCB (fun xs H Q => ∃ i j, xs = [V.int i, V.int j] ∧ Q (.int (if j > i then j else i)) H) (tCons ta (tCons tb tNil))) σ H (vn (max a b)) := vto (vmax2 ha hb) (congrArg V.int (by
  rw [Nat.max_def]
  split <;> split <;> omega))
theorem ok_L_numbers {P : Program} {w : World} {K : PySem.W.Frag} {mg : Str → Option Value} {base : Heap} {fa : Nat → Addr} {fd : Nat → FuncData} (TX : Txt K mg fa fd) : FnOk P w K mg base CX0 2 (fa 48) (fd 48) ["_law_cell_here", "_law_most"] spLNums := by
  refine TX.F_L_numbers.ok sc_L_numbers (fun vs H Q E h => ?_) (fun cdv A outer s H vs Q E hr h => ?_)
  · obtain ⟨z, rfl, q⟩ := h
    rfl
  · have nd := sc_L_numbers.nd
    have hu := hu_of hr
    obtain ⟨z, rfl, q⟩ := h
    refine ⟨_, (pss_cons (ps_asg (pe_call (ok_L_draws TX) (hr.mono (by decide)) (by rfl) TX.g_L_draws TX.F_L_draws.kp TX.B_L_draws .nil pass0 (pa_cons (pv 0) (pa_cons (pe_lst (pa_cons pe_int (pa_cons pe_int (pa_cons pe_int (pa_cons pe_int pa_nil))))) pa_nil))) (pg_unl (by rfl) (pgs_cons (pg_name (i := 2) nd rfl (Or.inl rfl)) (pgs_cons (pg_name (i := 3) nd rfl (Or.inl rfl)) (pgs_cons (pg_name (i := 4) nd rfl (Or.inl rfl)) (pgs_cons (pg_name (i := 5) nd rfl (Or.inl rfl)) pgs_nil))))))
      (pss_cons (ps_set (i := 6) nd rfl (Or.inl rfl) (pe_op op_add pe_int (pv 2)))
      (pss_cons (ps_if (pt_cmpR op_eq (pv 2) pe_int (nomark _)) (pss_one (ps_set (i := 6) nd rfl (Or.inl rfl) (pe_op op_add pe_int (pe_op op_mod (pv 3) (pv 1))))) pss_nil)
      (pss_cons (ps_set (i := 7) nd rfl (Or.inl rfl) (pe_op op_add pe_int (pe_op op_mod (pv 4) (pe_callB (call_max2 rfl) (by rfl) TX.b_max (by decide +kernel) (pa_cons pe_int (pa_cons (pe_op op_fdiv (pv 1) (pv 6)) pa_nil))))))
      (pss_one (ps_ret (pe_tup (pa_cons (pv 6) (pa_cons (pv 7) (pa_cons (pe_op op_mod (pv 5) (pv 7)) pa_nil)))))))))), ?_⟩
    refine sq (s_asgx (ex_callc (ex_cv vv (ex_cons (ex_lst (vs := vns [7, 40, 5040, 5040]) (a4 (vcn 7) (vcn 40) (vcn 5040) (vcn 5040)) (by show 4 ≤ sizeLine; decide) fun l nl => ex_nil ⟨z, l, _, rfl, upd_same, fun n hn => ?_, by decide, fun H1 p f s1 np hp hl hv => ?_⟩)))))
    · simp only [List.mem_cons, List.not_mem_nil, or_false] at hn
      omega
    have s0 := (same_upd (o := HO.lst (vns [7, 40, 5040, 5040])) nl).trans s1
    obtain ⟨x1, x2, x3, x4, rfl⟩ := len4' hl
    have h1 := hv 0 x1 7 rfl rfl
    refine ⟨p, _, rfl, SqL.of hp, rfl, _, _, rfl, _, _, rfl, _, _, rfl, _, _, rfl, rfl, pn ?_⟩
    refine q_set (v := vn (1 + x1)) (vaddn (vcn 1) vv) ?_
    refine q_ifset (q := x1 = 6) (x0 := vn (1 + x1)) (x1 := vn (1 + x2 % 40)) (y := vn (if x1 = 6 then 1 + x2 % 40 else 1 + x1)) (at_ (veqP vv vc (by omega))) (fun _ => vaddn (vcn 1) (vmodn vv vv (by decide))) rfl (fun h => by rw [if_pos h]) (fun h => by rw [if_neg h]) ?_
    have hr : 0 < (if x1 = 6 then 1 + x2 % 40 else 1 + x1) ∧ (if x1 = 6 then 1 + x2 % 40 else 1 + x1) ≤ 40 := by split <;> omega
    revert hr
    generalize (if x1 = 6 then 1 + x2 % 40 else 1 + x1) = r
    intro hr
    have hd : 1 ≤ 40 / r := (Nat.one_le_div_iff hr.1).mpr hr.2
    have hm : max 1 (40 / r) = 40 / r := Nat.max_eq_right hd
    refine q_set (v := vn (1 + x3 % max 1 (40 / r))) (vaddn (vcn 1) (vmodn vv (vmax2n (vcn 1) (vdivn vv vv ⟨hr.1, by omega⟩)) (by rw [hm]; exact hd))) ?_
    rw [hm]
    have hc : 1 + x3 % (40 / r) ≤ 40 / r := by
      have := Nat.mod_lt x3 (y := 40 / r) hd
      omega
    refine s_retx (ex_tup (a3 vv vv (vmodn vv vv (by omega))) (by show 3 ≤ sizeLine; decide) fun t nt => q _ t r _ _ (s0.trans (same_upd nt)) upd_same hr.1 (by omega) ?_ (Nat.mod_lt _ (by omega)))
    exact Nat.le_trans (Nat.mul_le_mul (Nat.le_refl r) hc) (Nat.mul_div_le 40 r)

/-! kinds -/
def kL (c h : Nat) : Nat := h / c * c + (h % c + (c - 1)) % c
def kB (r c s h : Nat) : Nat := if h / c = 0 then (r - 1) * c + (h % c + (c - s)) % c else h - c
def kS (r c s h : Nat) : Nat := if h / c = 0 then (r - 1) * c + (h % c + (2 * c - 1 - s)) % c else kL c h - c
def kRow (four : Bool) (r c s h : Nat) : List Nat := if four = true then [4 * h + 2, 4 * h, 4 * kB r c s h + 3, 4 * kL c h + 1] else [6 * h + 2, 6 * h + 4, 6 * h] ++ [6 * kB r c s h + 3, 6 * kS r c s h + 5, 6 * kL c h + 1]
def kRows (four : Bool) (r c s : Nat) : List (List Nat) := (List.range (r * c)).map (kRow four r c s)
def kTies (four : Bool) : Nat := if four = true then 2 else 3
theorem kRow_len (four : Bool) (r c s h : Nat) : (kRow four r c s h).length = 2 * kTies four := by cases four <;> rfl
theorem pl_div {c i j : Nat} (hj : j < c) : (i * c + j) / c = i := by
  rw [Nat.mul_comm, Nat.mul_add_div (by omega), Nat.div_eq_of_lt hj, Nat.add_zero]
theorem pl_mod {c i j : Nat} (hj : j < c) : (i * c + j) % c = j := by
  rw [Nat.mul_comm, Nat.mul_add_mod, Nat.mod_eq_of_lt hj]
theorem pl_lt {r c i j : Nat} (hi : i < r) (hj : j < c) : i * c + j < r * c := by
  have : (i + 1) * c ≤ r * c := Nat.mul_le_mul hi (Nat.le_refl c)
  rw [Nat.succ_mul] at this
  omega
theorem mod_back {c j k : Nat} (hj : j < c) (hk : k ≤ c) : ((j + k) % c + (c - k)) % c = j := by
  rw [Nat.mod_add_mod, show j + k + (c - k) = j + c by omega, Nat.add_mod_right, Nat.mod_eq_of_lt hj]
theorem kL_on {c i j : Nat} (hj : j < c) : kL c (i * c + (j + 1) % c) = i * c + j := by
  have h0 : (j + 1) % c < c := Nat.mod_lt _ (by omega)
  unfold kL
  rw [pl_div h0, pl_mod h0, mod_back hj (by omega)]
theorem kRows_dr (four : Bool) {r c s : Nat} (hr : 0 < r) (hs : s < c) : Dr (kRows four r c s) (kTies four * (r * c)) := by
  have hc : 0 < c := by omega
  refine Dr.of2 ?_ fun x hx => ?_
  · rw [flat_len2 (k := 2 * kTies four)]
    · unfold kRows
      rw [List.length_map, List.length_range, Nat.mul_comm, Nat.mul_assoc]
    · intro l hl
      obtain ⟨h, _, rfl⟩ := List.mem_map.mp hl
      exact kRow_len four r c s h
  · have mem : ∀ h, h < r * c → ∀ y ∈ kRow four r c s h, y ∈ (kRows four r c s).flatten := fun h hh y hy => List.mem_flatten.mpr ⟨_, List.mem_map.mpr ⟨h, List.mem_range.mpr hh, rfl⟩, hy⟩
    -- the seat h = i * c + j
    have split : ∀ h, h < r * c → ∃ i j, i < r ∧ j < c ∧ h = i * c + j := fun h hh => ⟨h / c, h % c, (Nat.div_lt_iff_lt_mul hc).mpr hh, Nat.mod_lt h hc, by rw [Nat.mul_comm]; exact (Nat.div_add_mod h c).symm⟩
    have lefts : ∀ h, h < r * c → ∃ g, g < r * c ∧ kL c g = h := fun h hh => by
      obtain ⟨i, j, hi, hj, rfl⟩ := split h hh
      exact ⟨i * c + (j + 1) % c, pl_lt hi (Nat.mod_lt _ hc), kL_on hj⟩
    have belows : ∀ h, h < r * c → ∃ g, g < r * c ∧ kB r c s g = h := fun h hh => by
      obtain ⟨i, j, hi, hj, rfl⟩ := split h hh
      by_cases hl : i = r - 1
      · have h0 : (j + s) % c < c := Nat.mod_lt _ hc
        refine ⟨0 * c + (j + s) % c, pl_lt hr h0, ?_⟩
        unfold kB
        rw [pl_div h0, pl_mod h0, if_pos rfl, mod_back hj (by omega), ← hl]
      · refine ⟨(i + 1) * c + j, pl_lt (by omega) hj, ?_⟩
        unfold kB
        rw [pl_div hj, if_neg (by omega), Nat.succ_mul]
        omega
    have slants : ∀ h, h < r * c → ∃ g, g < r * c ∧ kS r c s g = h := fun h hh => by
      obtain ⟨i, j, hi, hj, rfl⟩ := split h hh
      by_cases hl : i = r - 1
      · have h0 : (j + (s + 1)) % c < c := Nat.mod_lt _ hc
        refine ⟨0 * c + (j + (s + 1)) % c, pl_lt hr h0, ?_⟩
        unfold kS
        rw [pl_div h0, pl_mod h0, if_pos rfl]
        have : ((j + (s + 1)) % c + (2 * c - 1 - s)) % c = j := by
          rw [show 2 * c - 1 - s = (c - (s + 1)) + c by omega, ← Nat.add_assoc, Nat.add_mod_right, mod_back hj (by omega)]
        rw [this, ← hl]
      · have h0 : (j + 1) % c < c := Nat.mod_lt _ hc
        refine ⟨(i + 1) * c + (j + 1) % c, pl_lt (by omega) h0, ?_⟩
        unfold kS
        rw [pl_div h0, if_neg (by omega), kL_on hj, Nat.succ_mul]
        omega
    cases four with
    | true =>
      have hx' : x < 4 * (r * c) := by unfold kTies at hx; rw [if_pos rfl] at hx; omega
      have hh : x / 4 < r * c := by omega
      rcases (show x = 4 * (x / 4) ∨ x = 4 * (x / 4) + 1 ∨ x = 4 * (x / 4) + 2 ∨ x = 4 * (x / 4) + 3 by omega) with z | z | z | z
      · exact mem _ hh x (by unfold kRow; rw [if_pos rfl]; simp; omega)
      · obtain ⟨g, hg, eg⟩ := lefts _ hh
        exact mem _ hg x (by unfold kRow; rw [if_pos rfl, eg]; simp; omega)
      · exact mem _ hh x (by unfold kRow; rw [if_pos rfl]; simp; omega)
      · obtain ⟨g, hg, eg⟩ := belows _ hh
        exact mem _ hg x (by unfold kRow; rw [if_pos rfl, eg]; simp; omega)
    | false =>
      have hx' : x < 6 * (r * c) := by unfold kTies at hx; rw [if_neg Bool.false_ne_true] at hx; omega
      have hh : x / 6 < r * c := by omega
      rcases (show x = 6 * (x / 6) ∨ x = 6 * (x / 6) + 1 ∨ x = 6 * (x / 6) + 2 ∨ x = 6 * (x / 6) + 3 ∨ x = 6 * (x / 6) + 4 ∨ x = 6 * (x / 6) + 5 by omega) with z | z | z | z | z | z
      · exact mem _ hh x (by unfold kRow; rw [if_neg Bool.false_ne_true]; simp; omega)
      · obtain ⟨g, hg, eg⟩ := lefts _ hh
        exact mem _ hg x (by unfold kRow; rw [if_neg Bool.false_ne_true, eg]; simp; omega)
      · exact mem _ hh x (by unfold kRow; rw [if_neg Bool.false_ne_true]; simp; omega)
      · obtain ⟨g, hg, eg⟩ := belows _ hh
        exact mem _ hg x (by unfold kRow; rw [if_neg Bool.false_ne_true, eg]; simp; omega)
      · exact mem _ hh x (by unfold kRow; rw [if_neg Bool.false_ne_true]; simp; omega)
      · obtain ⟨g, hg, eg⟩ := slants _ hh
        exact mem _ hg x (by unfold kRow; rw [if_neg Bool.false_ne_true, eg]; simp; omega)
theorem imod {z : Int} {n c k : Nat} (h : z + (k : Int) * (c : Int) = (n : Int)) : z % (c : Int) = ((n % c : Nat) : Int) := by
  rw [Int.natCast_emod, ← h, Int.add_mul_emod_self_right]
end RF
namespace RF
open PySem PySem.Spec PyProof.Rows L2
/-! ### promises and defs: the law's kinds -/
def kStr : Bool → V
  | true => .str "fours"
  | false => .str "threes"
theorem kStr_is (b : Bool) : decide (kStr b = V.str "fours") = b := by
  cases b with
  | true => exact decide_eq_true rfl
  | false =>
    refine decide_eq_false fun h => ?_
    have := V.str.inj h
    exact absurd this (by decide)
theorem q_ifc {σ σ' : L2.St} {H : Hp} {t : TT} {ts us : TS} {D : Ends} {q : Prop} [Decidable q] (h : An t σ H (decide q)) (h1 : q → ∀ D' : Ends, D'.nx σ' H → ts D' σ H) (h0 : ¬ q → σ = σ') (k : us D σ' H) : tSeq (tIfS t ts tNext) us D σ H :=
  q_when h (fun e => h1 e _ k) (fun e => by rw [h0 e]; exact k)
def spLKind : Sp := fun vs H Q _ => ∃ four r c s, vs = [kStr four, vn r, vn c, vn s] ∧ 0 < r ∧ s < c ∧ r * c ≤ 40 ∧ ∀ H' p rows', Same H H' → H p = none → FR H H' p rows' → Dr rows' (kTies four * (r * c)) → rows'.length = r * c → Q (.ref p) H'
theorem ok_L_kind {P : Program} {w : World} {K : PySem.W.Frag} {mg : Str → Option Value} {base : Heap} {fa : Nat → Addr} {fd : Nat → FuncData} (TX : Txt K mg fa fd) : FnOk P w K mg base CX0 2 (fa 47) (fd 47) ["_law_sort", "_law_rows", "_law_columns", "_law_shift"] spLKind := by
  refine TX.F_L_kind.ok sc_L_kind (fun vs H Q E h => ?_) (fun cdv A outer s H vs Q E hr h => ?_)
  · obtain ⟨four, r, c, s0, rfl, hr1, hs, hrc, q⟩ := h
    rfl
  · have nd := sc_L_kind.nd
    have hu := hu_of hr
    obtain ⟨four, r, c, s0, rfl, hr1, hs, hrc, q⟩ := h
    refine ⟨_, (pss_cons (ps_set (i := 4) nd rfl (Or.inl rfl) (pe_lst pa_nil))
      (pss_cons (ps_for PassesOwn.never (by rfl) (pi_range1 (by rfl) TX.b_range (pa_cons (pv 1) pa_nil)) (pg_name (i := 5) nd rfl (Or.inl rfl)) (pss_one (ps_for PassesOwn.never (by rfl) (pi_range1 (by rfl) TX.b_range (pa_cons (pv 2) pa_nil)) (pg_name (i := 6) nd rfl (Or.inl rfl)) (pss_cons (ps_set (i := 7) nd rfl (Or.inl rfl) (pe_op op_add (pe_op op_mul (pv 5) (pv 2)) (pv 6)))
      (pss_cons (ps_set (i := 8) nd rfl (Or.inl rfl) (pe_op op_add (pe_op op_mul (pv 5) (pv 2)) (pe_op op_mod (pe_op op_sub (pv 6) pe_int) (pv 2))))
      (pss_cons (ps_set (i := 9) nd rfl (Or.inl rfl) (pe_op op_sub (pv 7) (pv 2)))
      (pss_cons (ps_set (i := 10) nd rfl (Or.inl rfl) (pe_op op_sub (pv 8) (pv 2)))
      (pss_cons (ps_if (pt_cmpR op_eq (pv 5) pe_int (nomark _)) (pss_cons (ps_set (i := 9) nd rfl (Or.inl rfl) (pe_op op_add (pe_op op_mul (pe_op op_sub (pv 1) pe_int) (pv 2)) (pe_op op_mod (pe_op op_sub (pv 6) (pv 3)) (pv 2))))
      (pss_one (ps_set (i := 10) nd rfl (Or.inl rfl) (pe_op op_add (pe_op op_mul (pe_op op_sub (pv 1) pe_int) (pv 2)) (pe_op op_mod (pe_op op_sub (pe_op op_sub (pv 6) pe_int) (pv 3)) (pv 2)))))) pss_nil)
      (pss_one (ps_if (pt_cmpR op_eq (pv 0) pe_str (nomark _)) (pss_one (ps_expr (pe_bm PySem.F.plainAttrs_list PySem.F.slot_list_append PySem.F.type_list_append mt_append (pv 4) (pa_cons (pe_lst (pa_cons (pe_op op_add (pe_op op_mul pe_int (pv 7)) pe_int) (pa_cons (pe_op op_mul pe_int (pv 7)) (pa_cons (pe_op op_add (pe_op op_mul pe_int (pv 9)) pe_int) (pa_cons (pe_op op_add (pe_op op_mul pe_int (pv 8)) pe_int) pa_nil))))) pa_nil)))) (pss_cons (ps_set (i := 11) nd rfl (Or.inl rfl) (pe_lst (pa_cons (pe_op op_add (pe_op op_mul pe_int (pv 7)) pe_int) (pa_cons (pe_op op_add (pe_op op_mul pe_int (pv 7)) pe_int) (pa_cons (pe_op op_mul pe_int (pv 7)) pa_nil)))))
      (pss_one (ps_expr (pe_bm PySem.F.plainAttrs_list PySem.F.slot_list_append PySem.F.type_list_append mt_append (pv 4) (pa_cons (pe_op op_cat (pv 11) (pe_lst (pa_cons (pe_op op_add (pe_op op_mul pe_int (pv 9)) pe_int) (pa_cons (pe_op op_add (pe_op op_mul pe_int (pv 10)) pe_int) (pa_cons (pe_op op_add (pe_op op_mul pe_int (pv 8)) pe_int) pa_nil))))) pa_nil)))))))))))))))
      (pss_one (ps_ret (pe_call (ok_L_settled TX) (hr.mono (by decide)) (by rfl) TX.g_L_settled TX.F_L_settled.kp TX.B_L_settled .nil pass0 (pa_cons (pv 4) pa_nil)))))), ?_⟩
    have hc : 0 < c := by omega
    have hr40 : r ≤ 40 := Nat.le_trans (Nat.le_mul_of_pos_right r hc) hrc
    have hc40 : c ≤ 40 := Nat.le_trans (Nat.le_mul_of_pos_left c hr1) hrc
    refine q_asg (ex_lst a0 (Nat.zero_le _) fun fo nfo => ?_)
    have s1 := same_upd (o := HO.lst []) nfo
    refine sq (s_forR1 (n := r) (a1 vv) (by omega) (fun i σ H' => ∃ y5 y6 y7 y8 y9 y10 y11 rs, σ = [some (kStr four), some (vn r), some (vn c), some (vn s0), some (.ref fo), y5, y6, y7, y8, y9, y10, y11] ∧ Same H H' ∧ H' fo = some (.lst (rs.map V.ref)) ∧ LX H' rs ((List.range (i * c)).map (kRow four r c s0)) ∧ ∀ x ∈ rs, x ≠ fo ∧ H x = none)
      ⟨none, none, none, none, none, none, none, [], rfl, s1, upd_same, by rw [Nat.zero_mul]; exact LX.nil, fun x hx => (by cases hx)⟩ (fun i σ H' hi h => ?_) (fun σ H' h => ?_))
    · obtain ⟨y5, y6, y7, y8, y9, y10, y11, rs, rfl, sm, hf, hX, hn⟩ := h
      refine s_forR1 (n := c) (a1 vv) (by omega) (fun j σ H' => ∃ y6 y7 y8 y9 y10 y11 rs, σ = [some (kStr four), some (vn r), some (vn c), some (vn s0), some (.ref fo), some (vn i), y6, y7, y8, y9, y10, y11] ∧ Same H H' ∧ H' fo = some (.lst (rs.map V.ref)) ∧ LX H' rs ((List.range (i * c + j)).map (kRow four r c s0)) ∧ ∀ x ∈ rs, x ≠ fo ∧ H x = none)
        ⟨_, _, _, _, _, _, rs, rfl, sm, hf, hX, hn⟩ (fun j σ H' hj h => ?_) (fun σ H' h => ?_)
      · obtain ⟨y6, y7, y8, y9, y10, y11, rs, rfl, sm, hf, hX, hn⟩ := h
        have hlt := pl_lt hi hj
        have hrl := hX.1
        rw [List.length_map, List.length_range] at hrl
        have hic : i * c ≤ 40 := by omega
        have er : (List.range (i * c + (j + 1))).map (kRow four r c s0) = (List.range (i * c + j)).map (kRow four r c s0) ++ [kRow four r c s0 (i * c + j)] := by
          rw [← Nat.add_assoc, List.range_succ, List.map_append]; rfl
        have eL : i * c + (j + (c - 1)) % c = kL c (i * c + j) := by unfold kL; rw [pl_div hj, pl_mod hj]
        refine q_set (v := vn (i * c + j)) (vaddn (vmuln vv vv (.inl (by omega))) vv) ?_
        refine q_set (v := vn (kL c (i * c + j))) (vto (vaddn (vmuln vv vv (.inl (by omega))) (vto (vmod (vsub vv vc) vv (by omega)) (congrArg V.int (prev_mod j c hc)))) (congrArg vn eL)) ?_
        have hkL : kL c (i * c + j) ≤ 80 := by
          rw [← eL]
          have := Nat.mod_lt (j + (c - 1)) hc
          omega
        refine q_set (v := .int (((i * c + j : Nat) : Int) - (c : Int))) (vsub vv vv) ?_
        refine q_set (v := .int ((kL c (i * c + j) : Int) - (c : Int))) (vsub vv vv) ?_
        have hrc1 : (r - 1) * c ≤ 40 := Nat.le_trans (Nat.mul_le_mul (Nat.sub_le r 1) (Nat.le_refl c)) hrc
        have hkB : kB r c s0 (i * c + j) ≤ 80 := by
          unfold kB
          rw [pl_div hj, pl_mod hj]
          have := Nat.mod_lt (j + (c - s0)) hc
          split <;> omega
        have hkS : kS r c s0 (i * c + j) ≤ 80 := by
          unfold kS
          rw [pl_div hj, pl_mod hj]
          have := Nat.mod_lt (j + (2 * c - 1 - s0)) hc
          split <;> omega
        refine q_ifc (σ' := [some (kStr four), some (vn r), some (vn c), some (vn s0), some (.ref fo), some (vn i), some (vn j), some (vn (i * c + j)), some (vn (kL c (i * c + j))), some (vn (kB r c s0 (i * c + j))), some (vn (kS r c s0 (i * c + j))), y11]) (q := i = 0) (at_ (veqP vv vc (by omega))) (fun h0 D' hD' => ?_) (fun h0 => ?_) ?_
        · refine q_set (v := vn (kB r c s0 (i * c + j))) (vto (vaddn (vmuln (vsubn vv (vcn 1) (by omega)) vv (.inl (by omega))) (vto (vmod (vsub vv vv) vv (by omega)) (congrArg V.int (imod (n := j + (c - s0)) (k := 1) (by omega))))) (congrArg vn ?_)) ?_
          · unfold kB
            rw [pl_div hj, pl_mod hj, if_pos h0]
          · refine s_set (v := vn (kS r c s0 (i * c + j))) (vto (vaddn (vmuln (vsubn vv (vcn 1) (by omega)) vv (.inl (by omega))) (vto (vmod (vsub (vsub vv vc) vv) vv (by omega)) (congrArg V.int (imod (n := j + (2 * c - 1 - s0)) (k := 2) (by omega))))) (congrArg vn ?_)) hD'
            unfold kS
            rw [pl_div hj, pl_mod hj, if_pos h0]
        · have hge : c ≤ i * c := Nat.le_mul_of_pos_left c (by omega)
          have e1 : V.int (((i * c + j : Nat) : Int) - (c : Int)) = vn (kB r c s0 (i * c + j)) := by
            unfold kB
            rw [pl_div hj, if_neg h0]
            exact congrArg V.int (by omega)
          have e2 : V.int ((kL c (i * c + j) : Int) - (c : Int)) = vn (kS r c s0 (i * c + j)) := by
            unfold kS
            rw [pl_div hj, if_neg h0]
            exact congrArg V.int (by omega)
          rw [← e1, ← e2]; rfl
        have fin : ∀ (H5 : Hp) (l : Addr) y11, Same H' H5 → H' l = none → LI H5 l (kRow four r c s0 (i * c + j)) → ∃ y6 y7 y8 y9 y10 y11' rs', [some (kStr four), some (vn r), some (vn c), some (vn s0), some (.ref fo), some (vn i), some (vn j), some (vn (i * c + j)), some (vn (kL c (i * c + j))), some (vn (kB r c s0 (i * c + j))), some (vn (kS r c s0 (i * c + j))), y11] = [some (kStr four), some (vn r), some (vn c), some (vn s0), some (.ref fo), some (vn i), y6, y7, y8, y9, y10, y11'] ∧ Same H (upd H5 fo (.lst (rs.map V.ref ++ [.ref l]))) ∧ (upd H5 fo (.lst (rs.map V.ref ++ [.ref l]))) fo = some (.lst (rs'.map V.ref)) ∧ LX (upd H5 fo (.lst (rs.map V.ref ++ [.ref l]))) rs' ((List.range (i * c + (j + 1))).map (kRow four r c s0)) ∧ (∀ x ∈ rs', x ≠ fo ∧ H x = none) := fun H5 l y11 s nl hl => by
          have nlf : l ≠ fo := fun z => by rw [z, hf] at nl; cases nl
          refine ⟨_, _, _, _, _, _, rs ++ [l], rfl, same_mut (sm.trans s) nfo, by rw [upd_same, ref_snoc], ?_, snocP hn ⟨nlf, sm.free nl⟩⟩
          rw [er]
          exact ((hX.mono s).off fun x hx => (hn x hx).1).snoc ((upd_ne nlf).trans hl)
        have hrs : rs.length < 1000000 := by omega
        refine s_if (b := four) (ato (at_ (veq vv vc (by cases four <;> rfl))) (kStr_is four)) (fun h4 => ?_) (fun h4 => ?_)
        · subst h4
          refine s_appx vv hf (ex_lst (vs := vns (kRow true r c s0 (i * c + j))) (a4 (vaddn (vmuln (vcn 4) vv (.inl (by decide))) (vcn 2)) (vmuln (vcn 4) vv (.inl (by decide))) (vaddn (vmuln (vcn 4) vv (.inl (by decide))) (vcn 3)) (vaddn (vmuln (vcn 4) vv (.inl (by decide))) (vcn 1))) (by show 4 ≤ sizeLine; decide) fun l nl => ?_)
          have s5 := same_upd (o := HO.lst (vns (kRow true r c s0 (i * c + j)))) nl
          exact app_n (s5 _ _ hf) (by rw [List.length_map]; exact hrs) (pn (fin _ l y11 s5 nl upd_same))
        · subst h4
          refine q_asg (ex_lst (vs := vns [6 * (i * c + j) + 2, 6 * (i * c + j) + 4, 6 * (i * c + j)]) (a3 (vaddn (vmuln (vcn 6) vv (.inl (by decide))) (vcn 2)) (vaddn (vmuln (vcn 6) vv (.inl (by decide))) (vcn 4)) (vmuln (vcn 6) vv (.inl (by decide)))) (by show 3 ≤ sizeLine; decide) fun l1 n1 => ?_)
          have s5 := same_upd (o := HO.lst (vns [6 * (i * c + j) + 2, 6 * (i * c + j) + 4, 6 * (i * c + j)])) n1
          refine s_appx vv (s5 _ _ hf) (ex_opx (ex vv (ex_lst (vs := vns [6 * kB r c s0 (i * c + j) + 3, 6 * kS r c s0 (i * c + j) + 5, 6 * kL c (i * c + j) + 1]) (a3 (vaddn (vmuln (vcn 6) vv (.inl (by decide))) (vcn 3)) (vaddn (vmuln (vcn 6) vv (.inl (by decide))) (vcn 5)) (vaddn (vmuln (vcn 6) vv (.inl (by decide))) (vcn 1))) (by show 3 ≤ sizeLine; decide) fun l2 n2 => ?_)))
          have s6 := same_upd (o := HO.lst (vns [6 * kB r c s0 (i * c + j) + 3, 6 * kS r c s0 (i * c + j) + 5, 6 * kL c (i * c + j) + 1])) n2
          refine cat_n (s6 _ _ upd_same) upd_same (by show 3 + 3 ≤ _; decide) fun l nl => ?_
          have s57 := (s5.trans s6).trans (same_upd (o := HO.lst (vns [6 * (i * c + j) + 2, 6 * (i * c + j) + 4, 6 * (i * c + j)] ++ vns [6 * kB r c s0 (i * c + j) + 3, 6 * kS r c s0 (i * c + j) + 5, 6 * kL c (i * c + j) + 1])) nl)
          exact app_n (s57 _ _ hf) (by rw [List.length_map]; exact hrs) (pn (fin _ l _ s57 ((s5.trans s6).free nl) upd_same))
      · obtain ⟨y6, y7, y8, y9, y10, y11, rs, rfl, sm, hf, hX, hn⟩ := h
        refine pn ⟨_, _, _, _, _, _, _, rs, rfl, sm, hf, ?_, hn⟩
        rw [Nat.succ_mul]; exact hX
    · obtain ⟨y5, y6, y7, y8, y9, y10, y11, rs, rfl, sm, hf, hX, hn⟩ := h
      have hD := kRows_dr four hr1 hs
      refine pn (s_retx (ex_call (a1 vv) ⟨fo, kRows four r c s0, rfl, ⟨rs, hf, hX⟩, ?_, fun l hl => ?_, fun H5 p rows' s12 np hp hpr => ?_⟩))
      · unfold kRows; rw [List.length_map, List.length_range]; omega
      · unfold kRows at hl
        obtain ⟨h, _, rfl⟩ := List.mem_map.mp hl
        rw [kRow_len]; cases four <;> decide
      obtain ⟨rs', e1, e2, e3⟩ := hp
      refine q H5 p rows' (sm.trans s12) (sm.free np) ⟨rs', e1, e2, fun r hr => sm.free (e3 r hr)⟩ (hD.flatPerm hpr.flat) (hpr.1.trans ?_)
      unfold kRows; rw [List.length_map, List.length_range]

end RF
namespace RF
open PySem PySem.Spec PyProof.Rows L2
/-! ### promises and defs: the law's random drawing -/
theorem LX.mut {H : Hp} {rs : List Addr} {R : List (List Nat)} {i : Nat} {r : Addr} {w : List Nat} (h : LX H rs R) (nd : rs.Nodup) (hi : rs[i]? = some r) : LX (upd H r (.lst (vns w))) rs (R.set i w) := by
  refine ⟨by rw [List.length_set, h.1], fun j q v e1 e2 => ?_⟩
  rw [List.getElem?_set] at e2
  by_cases hij : i = j
  · subst hij
    rw [hi] at e1
    cases Option.some.inj e1
    rw [if_pos rfl, if_pos (by rw [← h.1]; exact (List.getElem?_eq_some_iff.mp hi).1)] at e2
    cases Option.some.inj e2
    exact upd_same
  · rw [if_neg hij] at e2
    have hn : q ≠ r := fun z => by
      subst z
      obtain ⟨h1, h2⟩ := List.getElem?_eq_some_iff.mp hi
      obtain ⟨h3, h4⟩ := List.getElem?_eq_some_iff.mp e1
      exact hij ((List.getElem_inj nd).mp (h2.trans h4.symm))
    exact (upd_ne hn).trans (h.2 j q v e1 e2)
theorem LX.take {H : Hp} {rs : List Addr} {R : List (List Nat)} (h : LX H rs R) (k : Nat) : LX H (rs.take k) (R.take k) := by
  refine ⟨by rw [List.length_take, List.length_take, h.1], fun i r w e1 e2 => ?_⟩
  rw [List.getElem?_take] at e1 e2
  by_cases hk : i < k
  · rw [if_pos hk] at e1 e2; exact h.2 i r w e1 e2
  · rw [if_neg hk] at e1; cases e1
theorem LX.drop {H : Hp} {rs : List Addr} {R : List (List Nat)} (h : LX H rs R) (k : Nat) : LX H (rs.drop k) (R.drop k) := by
  refine ⟨by rw [List.length_drop, List.length_drop, h.1], fun i r w e1 e2 => ?_⟩
  rw [List.getElem?_drop] at e1 e2
  exact h.2 _ r w e1 e2
theorem set_flat {x : Nat} {r r' : List Nat} : ∀ {D : List (List Nat)} {i : Nat}, D[i]? = some r → r'.Perm (x :: r) → (D.set i r').flatten.Perm (x :: D.flatten)
  | [], _, h, _ => by simp at h
  | a :: D, 0, h, p => by
    have ea : a = r := Option.some.inj h
    subst ea
    show (r' ++ D.flatten).Perm (x :: (a ++ D.flatten))
    rw [← List.cons_append]
    exact p.append_right _
  | a :: D, i + 1, h, p => by
    show (a ++ (D.set i r').flatten).Perm (x :: (a ++ D.flatten))
    exact ((set_flat (D := D) (i := i) h p).append_left a).trans List.perm_middle
theorem nd_snocA {rs : List Addr} {l : Addr} (nd : rs.Nodup) (h : l ∉ rs) : (rs ++ [l]).Nodup := by
  rw [List.nodup_append]
  exact ⟨nd, List.nodup_cons.mpr ⟨by simp, List.nodup_nil⟩, fun a ha b hb e => h (by rw [← List.mem_singleton.mp hb, ← e]; exact ha)⟩
theorem row_le : ∀ {D : List (List Nat)} {r : List Nat}, r ∈ D → r.length ≤ D.flatten.length
  | [], _, h => by cases h
  | a :: D, r, h => by
    rw [List.flatten_cons, List.length_append]
    rcases List.mem_cons.mp h with rfl | h
    · omega
    · have := row_le h; omega
theorem ex_slx {σ : L2.St} {H : Hp} {r : V → Option Int → Option Int → Hp → VK → Prop} {ta : TE} {tl th : TO} {Q : VK} (h : ta σ H fun x H1 => tl σ H1 fun l H2 => th σ H2 fun u H3 => r x l u H3 Q) : tSl r ta tl th σ H Q := h
theorem ins_flat (R : List (List Nat)) (k : Nat) : (R.take k ++ [[]] ++ R.drop k).flatten = R.flatten := by
  rw [List.flatten_append, List.flatten_append, List.flatten_singleton, List.append_nil, ← List.flatten_append, List.take_append_drop]
theorem q_ifh {σ : L2.St} {H : Hp} {t : TT} {ts us : TS} {D : Ends} {q : Prop} [Decidable q] (C : Hp → Prop) (h : An t σ H (decide q)) (h1 : q → ∀ D' : Ends, (∀ H', C H' → D'.nx σ H') → ts D' σ H) (h0 : ¬ q → C H) (k : ∀ H', C H' → us D σ H') : tSeq (tIfS t ts tNext) us D σ H :=
  q_when h (fun e => h1 e _ k) (fun e => k H (h0 e))
theorem ins_n {H : Hp} {l : Addr} {xs : List V} {y : V} {j : Nat} {Q : VK} (hl : H l = some (.lst xs)) (hz : xs.length < 1000000) (hj : j ≤ 1000000) (k : Q .non (upd H l (.lst (xs.take j ++ [y] ++ xs.drop j)))) : ∃ (l' : Addr) (xs' : List V) (i : Int) (y' : V), V.ref l = .ref l' ∧ [vn j, y] = [.int i, y'] ∧ H l' = some (.lst xs') ∧ xs'.length < sizeLine ∧ 0 ≤ i ∧ i < 2 ^ 63 ∧ Q .non (upd H l' (.lst (xs'.take i.toNat ++ [y'] ++ xs'.drop i.toNat))) :=
  ⟨l, xs, j, y, rfl, rfl, hl, by rw [sizeLine_eq]; omega, by omega, by omega, by rw [Int.toNat_natCast]; exact k⟩
def spLDrawing (K : PySem.W.Frag) : Sp := fun vs H Q _ => ∃ (a : Addr) (ns : List Int), vs = [.ref a, vn 1, vn 8] ∧ SqL K H a (ns.map V.int) ∧ ∀ H' p rows m, Same H H' → H p = none → FR H H' p rows → Dr rows m → m ≤ 8 → rows.length ≤ 100 → Q (.ref p) H'
theorem ok_L_drawing {P : Program} {w : World} {K : PySem.W.Frag} {mg : Str → Option Value} {base : Heap} {fa : Nat → Addr} {fd : Nat → FuncData} (TX : Txt K mg fa fd) : FnOk P w K mg base CX0 2 (fa 40) (fd 40) ["_law_script", "_law_base", "_law_most"] (spLDrawing K) := by
  refine TX.F_L_drawing.ok sc_L_drawing (fun vs H Q E h => ?_) (fun cdv A outer s H vs Q E hr h => ?_)
  · obtain ⟨a, ns, rfl, hS, q⟩ := h
    rfl
  · have nd := sc_L_drawing.nd
    have hu := hu_of hr
    obtain ⟨a, ns, rfl, hS, q⟩ := h
    refine ⟨_, (pss_cons (ps_asg (pe_call (ok_L_draws TX) (hr.mono (by decide)) (by rfl) TX.g_L_draws TX.F_L_draws.kp TX.B_L_draws .nil pass0 (pa_cons (pe_call (ok_L_cell TX) (hr.mono (by decide)) (by rfl) TX.g_L_cell TX.F_L_cell.kp TX.B_L_cell .nil pass0 (pa_cons (pv 0) (pa_cons (pv 1) pa_nil))) (pa_cons (pe_lst (pa_cons (pe_op op_add (pv 2) pe_int) (pa_cons pe_int (pa_cons pe_int (pa_cons pe_int (pa_cons pe_int pa_nil)))))) pa_nil))) (pg_unl (by rfl) (pgs_cons (pg_name (i := 3) nd rfl (Or.inr rfl)) (pgs_cons (pg_name (i := 4) nd rfl (Or.inl rfl)) (pgs_cons (pg_name (i := 5) nd rfl (Or.inl rfl)) (pgs_cons (pg_name (i := 6) nd rfl (Or.inl rfl)) (pgs_cons (pg_name (i := 7) nd rfl (Or.inl rfl)) pgs_nil)))))))
      (pss_cons (ps_set (i := 9) nd rfl (Or.inl rfl) (pe_call (ok_L_draws TX) (hr.mono (by decide)) (by rfl) TX.g_L_draws TX.F_L_draws.kp TX.B_L_draws .nil pass0 (pa_cons (pe_call (ok_L_cell TX) (hr.mono (by decide)) (by rfl) TX.g_L_cell TX.F_L_cell.kp TX.B_L_cell .nil pass0 (pa_cons (pv 0) (pa_cons (pe_op op_add (pv 1) pe_int) pa_nil))) (pa_cons (pe_lc (own := [("_law_k", 8)]) (g := gName 8) (tt := tYes) (by rfl) nd (pi_range1 (by rfl) TX.b_range (pa_cons (pe_op op_mul pe_int (pv 3)) pa_nil)) (blkOk_by (own := [("_law_k", 8)]) (N := nm_L_drawing) (sc := (defScope s_L_drawing)) (by decide +kernel)) (fun _ _ _ _ _ => (pg_name (i := 8) nd rfl (Or.inl rfl))) (fun _ _ _ _ _ => pts_nil) (fun _ _ _ _ _ => (pe_op op_sub (pe_op op_mul pe_int (pv 3)) (pv 8)))) pa_nil))))
      (pss_cons (ps_set (i := 10) nd rfl (Or.inl rfl) (pe_call (ok_L_draws TX) (hr.mono (by decide)) (by rfl) TX.g_L_draws TX.F_L_draws.kp TX.B_L_draws .nil pass0 (pa_cons (pe_call (ok_L_cell TX) (hr.mono (by decide)) (by rfl) TX.g_L_cell TX.F_L_cell.kp TX.B_L_cell .nil pass0 (pa_cons (pv 0) (pa_cons (pe_op op_add (pv 1) pe_int) pa_nil))) (pa_cons (pe_op op_rep (pe_lst (pa_cons (pe_ix ix_list (pe_lst (pa_cons pe_int (pa_cons pe_int (pa_cons pe_int (pa_cons pe_int pa_nil))))) (pv 4) (fun _ _ => rfl)) pa_nil)) (pe_op op_mul pe_int (pv 3))) pa_nil))))
      (pss_cons (ps_set (i := 11) nd rfl (Or.inl rfl) (pe_listRg (by rfl) (by rfl) TX.b_list (prg_1 (by rfl) TX.b_range (pe_op op_mul pe_int (pv 3)))))
      (pss_cons (ps_set (i := 12) nd rfl (Or.inl rfl) (pe_lst pa_nil))
      (pss_cons (ps_for PassesOwn.never (by rfl) (pi_range1 (by rfl) TX.b_range (pa_cons (pe_op op_mul pe_int (pv 3)) pa_nil)) (pg_name (i := 8) nd rfl (Or.inl rfl)) (pss_cons (ps_if (PW.pt (pw_or (pt_cmpR op_eq (pe_ix ix_list (pv 10) (pv 8) (fun _ _ => rfl)) pe_int (nomark _)) (pw_or1 (pt_cmpR op_eq (pe_callB call_len_seq (by rfl) TX.b_len PySem.boot_len (pa_cons (pv 12) pa_nil)) pe_int (nomark _))))) (pss_one (ps_expr (pe_bm PySem.F.plainAttrs_list PySem.F.slot_list_append PySem.F.type_list_append mt_append (pv 12) (pa_cons (pe_lst pa_nil) pa_nil)))) pss_nil)
      (pss_one (ps_expr (pe_bm PySem.F.plainAttrs_list PySem.F.slot_list_append PySem.F.type_list_append mt_append (pe_ix ix_list (pv 12) (pe_un un_neg pe_int) (fun _ _ => rfl)) (pa_cons (pe_bm PySem.F.plainAttrs_list PySem.F.slot_list_pop PySem.F.type_list_pop mt_popAt (pv 11) (pa_cons (pe_ix ix_list (pv 9) (pv 8) (fun _ _ => rfl)) pa_nil)) pa_nil))))))
      (pss_cons (ps_for PassesOwn.never (by rfl) (pi_list (pe_slice sl_list (pe_lst (pa_cons (pv 6) (pa_cons (pv 7) pa_nil))) po_none (po_some (pe_callB (call_max2 rfl) (by rfl) TX.b_max (by decide +kernel) (pa_cons pe_int (pa_cons (pe_op op_sub (pv 5) pe_int) pa_nil)))))) (pg_name (i := 13) nd rfl (Or.inl rfl)) (pss_one (ps_expr (pe_bm PySem.F.plainAttrs_list PySem.F.slot_list_insert PySem.F.type_list_insert mt_insert (pv 12) (pa_cons (pe_op op_mod (pv 13) (pe_op op_add (pe_callB call_len_seq (by rfl) TX.b_len PySem.boot_len (pa_cons (pv 12) pa_nil)) pe_int)) (pa_cons (pe_lst pa_nil) pa_nil))))))
      (pss_one (ps_ret (pe_call (ok_L_settled TX) (hr.mono (by decide)) (by rfl) TX.g_L_settled TX.F_L_settled.kp TX.B_L_settled .nil pass0 (pa_cons (pv 12) pa_nil))))))))))), ?_⟩
    refine sq (s_asgx (ex_callc (ex_cons (ex_call (a2 vv vv) ⟨a, ns, 1, rfl, hS, by decide, fun z1 => ex_cons (ex_lst (vs := vns [9, 4, 4, 60, 60]) (ac (vto (vaddn vv (vcn 1)) rfl) (a4 (vcn 4) (vcn 4) (vcn 60) (vcn 60))) (by show 5 ≤ sizeLine; decide) fun l nl => ex_nil ⟨z1, l, _, rfl, upd_same, fun n hn => ?_, by decide, fun H1 p1 f1 s1 np1 hp1 hl1 hv1 => ?_⟩)⟩))))
    · simp only [List.mem_cons, List.not_mem_nil, or_false] at hn
      omega
    have sA := (same_upd (o := HO.lst (vns [9, 4, 4, 60, 60])) nl).trans s1
    obtain ⟨ties, thin, bare, one, two, rfl⟩ := len5' hl1
    have hties := hv1 0 ties 9 rfl rfl
    have hthin := hv1 1 thin 4 rfl rfl
    have hbare := hv1 2 bare 4 rfl rfl
    have hone := hv1 3 one 60 rfl rfl
    have htwo := hv1 4 two 60 rfl rfl
    refine ⟨p1, _, rfl, SqL.of hp1, rfl, _, _, rfl, _, _, rfl, _, _, rfl, _, _, rfl, _, _, rfl, rfl, pn ?_⟩
    have m2 : ∀ {σ : L2.St} {H : Hp} {te : TE} {x : Nat}, Va te σ H (vn x) → Va (tOp (rI CMul fun i j => .int (i * j)) (tC (.int 2)) te) σ H (vn (2 * x)) := fun h => vmuln (vcn 2) h (.inl (by decide))
    -- picks
    refine q_asg (ex_callc (ex_cons (ex_call (a2 vv (vaddn vv (vcn 1))) ⟨a, ns, 2, rfl, sA.seq hS, by decide, fun z2 => ex_cons ?_⟩)))
    refine ex_lcR (n := 2 * ties) (ys := vns (subs (2 * ties))) (a1 (m2 vv)) (by omega) (fun _ => rfl) (by rw [vns_len, subs_len]) (fun j y H' e s => ?_) fun p2 np2 => ?_
    · obtain ⟨z, hz', rfl⟩ := vns_get' e
      have hj := (List.getElem?_eq_some_iff.mp hz').1
      rw [subs_len] at hj
      rw [subs_get hj] at hz'
      cases Option.some.inj hz'
      exact vsubn (m2 vv) vv (by omega)
    have s2 := same_upd (o := HO.lst (vns (subs (2 * ties)))) np2
    refine ex_nil ⟨z2, p2, _, rfl, upd_same, fun n hn => ?_, by rw [subs_len]; omega, fun H3 pk picks s3 npk hpk hpl hpv => ?_⟩
    · have := subs_pos hn; omega
    rw [subs_len] at hpl
    have P1 : ∀ {t : Nat}, t < 2 * ties → ∃ x, picks[t]? = some x ∧ x < 2 * ties - t := fun {t} ht => ⟨_, List.getElem?_eq_getElem (by omega), hpv t _ _ (List.getElem?_eq_getElem (by omega)) (subs_get ht)⟩
    have sB := (sA.trans s2).trans s3
    -- cuts
    refine q_asg (ex_callc (ex_cons (ex_call (a2 vv (vaddn vv (vcn 2))) ⟨a, ns, 3, rfl, sB.seq hS, by decide, fun z3 => ex_cons ?_⟩)))
    refine ex_opx (ex_lstx (ex_cons (ex_opx (ex_lst (vs := vns [2, 3, 5, 40]) (a4 (vcn 2) (vcn 3) (vcn 5) (vcn 40)) (by show 4 ≤ sizeLine; decide) fun l3 nl3 => ?_))))
    obtain ⟨sz, hsz, hsz2⟩ : ∃ sz, [2, 3, 5, 40][thin]? = some sz ∧ 0 < sz ∧ sz < 100 := by
      rcases (show thin = 0 ∨ thin = 1 ∨ thin = 2 ∨ thin = 3 by omega) with rfl | rfl | rfl | rfl
      · exact ⟨2, rfl, by decide, by decide⟩
      · exact ⟨3, rfl, by decide, by decide⟩
      · exact ⟨5, rfl, by decide, by decide⟩
      · exact ⟨40, rfl, by decide, by decide⟩
    refine ex vv ⟨l3, _, thin, vn sz, rfl, rfl, SqL.of upd_same, atn hsz, ex_nil ⟨by show 1 ≤ sizeLine; decide, fun p4 np4 => ?_⟩⟩
    refine ex (m2 vv) (rep_n (n := 2 * ties) upd_same (by omega) fun p5 np5 => ?_)
    have s5 := ((same_upd (o := HO.lst (vns [2, 3, 5, 40])) nl3).trans (same_upd (o := HO.lst [vn sz]) np4)).trans (same_upd (o := HO.lst (List.replicate (2 * ties) (vn sz))) np5)
    have erep : List.replicate (2 * ties) (vn sz) = vns (List.replicate (2 * ties) sz) := by show _ = List.map vn _; rw [List.map_replicate]
    refine ex_nil ⟨z3, p5, List.replicate (2 * ties) sz, rfl, by show _ = some (HO.lst (vns _)); rw [← erep]; exact upd_same, fun n hn => ?_, by rw [List.length_replicate]; omega, fun H6 ck cuts s6 nck hck hcl _ => ?_⟩
    · rw [(List.mem_replicate.mp hn).2]; omega
    rw [List.length_replicate] at hcl
    have sC := (sB.trans s5).trans s6
    have hpk6 := s6 _ _ (s5 _ _ hpk)
    have nck0 : H ck = none := (sB.trans s5).free nck
    -- left, rows
    refine q_asg (ex_listRg (m2 vv) (by omega) fun lf nlf => ?_)
    have s7 := same_upd (o := HO.lst (vns (List.range (2 * ties)))) nlf
    refine q_asg (ex_lst a0 (Nat.zero_le _) fun ro nro => ?_)
    have s8 := same_upd (o := HO.lst []) nro
    have nlf0 : H lf = none := sC.free nlf
    have nro0 : H ro = none := sC.free (s7.free nro)
    have nlro : lf ≠ ro := ne_of_none upd_same nro
    have npr : pk ≠ ro := ne_of_none (s7 _ _ hpk6) nro
    have npl : pk ≠ lf := ne_of_none hpk6 nlf
    have ncr : ck ≠ ro := ne_of_none (s7 _ _ hck) nro
    have ncl : ck ≠ lf := ne_of_none hck nlf
    have sD := (sC.trans s7).trans s8
    refine sq (s_forR1 (n := 2 * ties) (a1 (m2 vv)) (by omega) (fun k σ H' => ∃ y8 rs R L, σ = [some (.ref a), some (vn 1), some (vn 8), some (vn ties), some (vn thin), some (vn bare), some (vn one), some (vn two), y8, some (.ref pk), some (.ref ck), some (.ref lf), some (.ref ro), none] ∧ Same H H' ∧ LI H' pk picks ∧ LI H' ck cuts ∧ LI H' lf L ∧ H' ro = some (.lst (rs.map V.ref)) ∧ LX H' rs R ∧ rs.Nodup ∧ (∀ r ∈ rs, r ≠ pk ∧ r ≠ ck ∧ r ≠ lf ∧ r ≠ ro ∧ H r = none) ∧ (R.flatten ++ L).Perm (List.range (2 * ties)) ∧ L.length + k = 2 * ties ∧ R.length ≤ k)
      ⟨none, [], [], List.range (2 * ties), rfl, sD, s8 _ _ (s7 _ _ hpk6), s8 _ _ (s7 _ _ hck), s8 _ _ upd_same, upd_same, LX.nil, List.nodup_nil, fun r hr => (by cases hr), List.Perm.refl _, by rw [List.length_range]; rfl, Nat.le_refl _⟩ (fun k σ H' hk h => ?_) (fun σ H' h => ?_))
    · obtain ⟨y8, rs, R, L, rfl, sm, hpk', hck', hlf', hro', hX, hnd, hn, hp, hL, hRl⟩ := h
      have hcg : cuts[k]? = some (cuts.getD k 0) := get_getD (by omega)
      obtain ⟨x1, hx1, hx1l⟩ := P1 hk
      refine q_ifh (q := cuts.getD k 0 = 0 ∨ R.length = 0) (fun H2 => ∃ rs R, Same H H2 ∧ LI H2 pk picks ∧ LI H2 ck cuts ∧ LI H2 lf L ∧ H2 ro = some (.lst (rs.map V.ref)) ∧ LX H2 rs R ∧ rs.Nodup ∧ (∀ r ∈ rs, r ≠ pk ∧ r ≠ ck ∧ r ≠ lf ∧ r ≠ ro ∧ H r = none) ∧ (R.flatten ++ L).Perm (List.range (2 * ties)) ∧ R.length ≤ k + 1 ∧ R ≠ [])
        (ato (aor (at_ (veqP (q := cuts.getD k 0 = 0) (vixn vv vv hcg hck') vc (by omega))) (fun _ => at_ (veqP (q := R.length = 0) (vlen vv (by rw [List.length_map, hX.1]) hro') vc (by omega)))) (Bool.decide_or _ _).symm) (fun _ D' hD' => ?_) (fun h => ⟨rs, R, sm, hpk', hck', hlf', hro', hX, hnd, hn, hp, by omega, fun z => h (.inr (by rw [z]; rfl))⟩) (fun H2 h => ?_)
      · refine s_appx vv hro' (ex_lst a0 (Nat.zero_le _) fun l nl => ?_)
        have s9 := same_upd (o := HO.lst []) nl
        have nlr : l ≠ ro := fun z => by rw [z, hro'] at nl; cases nl
        have nlp : l ≠ pk := fun z => by unfold LI at hpk'; rw [z, hpk'] at nl; cases nl
        have nlc : l ≠ ck := fun z => by unfold LI at hck'; rw [z, hck'] at nl; cases nl
        have nll : l ≠ lf := fun z => by unfold LI at hlf'; rw [z, hlf'] at nl; cases nl
        have nlm : l ∉ rs := fun z => by
          obtain ⟨i, hi⟩ := List.getElem?_of_mem z
          have := hX.2 i l _ hi (row_get (by rw [← hX.1]; exact (List.getElem?_eq_some_iff.mp hi).1))
          unfold LI at this
          rw [this] at nl; cases nl
        have hrl := hX.1
        refine app_n (s9 _ _ hro') (by rw [List.length_map]; omega) (hD' _ ⟨rs ++ [l], R ++ [[]], same_mut (sm.trans s9) nro0, (upd_ne npr).trans (s9 _ _ hpk'), (upd_ne ncr).trans (s9 _ _ hck'), (upd_ne nlro).trans (s9 _ _ hlf'), by rw [upd_same, ref_snoc], ((hX.mono s9).off fun r hr => (hn r hr).2.2.2.1).snoc ((upd_ne nlr).trans upd_same), nd_snocA hnd nlm, snocP hn ⟨nlp, nlc, nll, nlr, sm.free nl⟩, ?_, by rw [List.length_append, List.length_singleton]; omega, by simp⟩)
        rw [List.flatten_append, List.flatten_singleton, List.append_nil]
        exact hp
      · clear hpk' hck' hlf' hro' hX hnd hn hp hRl sm
        clear rs R
        obtain ⟨rs, R, sm, hpk', hck', hlf', hro', hX, hnd, hn, hp, hRl, hR0⟩ := h
        have hrl := hX.1
        have hRpos : 0 < R.length := List.length_pos_iff.mpr hR0
        have hlast : rs[rs.length - 1]? = some (rs[rs.length - 1]'(by omega)) := List.getElem?_eq_getElem (by omega)
        revert hlast
        generalize rs[rs.length - 1]'(by omega) = rl
        intro hlast
        have hrow := row_get (D := R) (p := rs.length - 1) (by omega)
        have hlr := hX.2 _ rl _ hlast hrow
        have hrlm := List.mem_of_getElem? hlast
        have hat : atI (rs.map V.ref) (-1) = some (.ref rl) := by
          have e : rs = rs.take (rs.length - 1) ++ [rl] := by
            have := take_succ_get hlast
            rw [show rs.length - 1 + 1 = rs.length by omega, List.take_length] at this
            exact this
          rw [e, List.map_append]
          exact atI_last _ _
        have hg : L[x1]? = some (L.getD x1 0) := get_getD (by omega)
        revert hg
        generalize L.getD x1 0 = n1
        intro hg
        refine s_appx (vix vv (vneg vc) hat hro') hlr (ex_popAt vv (vixn vv vv hx1 hpk') hlf' (vns_get hg) (by rw [vns_len]; omega) ?_)
        have hrn := hn rl hrlm
        have hLl := hp.length_eq
        rw [List.length_append, List.length_range] at hLl
        have hrwl : (row R (rs.length - 1)).length ≤ R.flatten.length := row_le (List.mem_of_getElem? hrow)
        refine app_n ((upd_ne hrn.2.2.1).trans hlr) (by rw [vns_len]; omega) (pn ⟨_, rs, R.set (rs.length - 1) (row R (rs.length - 1) ++ [n1]), L.eraseIdx x1, rfl, same_mut (same_mut sm nlf0) hrn.2.2.2.2, (upd_ne hrn.1.symm).trans ((upd_ne npl).trans hpk'), (upd_ne hrn.2.1.symm).trans ((upd_ne ncl).trans hck'), ?_, (upd_ne hrn.2.2.2.1.symm).trans ((upd_ne nlro.symm).trans hro'), ?_, hnd, hn, ?_, ?_, by rw [List.length_set]; exact hRl⟩)
        · refine (upd_ne hrn.2.2.1.symm).trans ?_
          show _ = some (HO.lst (List.map vn _))
          rw [upd_same, map_eraseIdx]
        · have : vns (row R (rs.length - 1)) ++ [vn n1] = vns (row R (rs.length - 1) ++ [n1]) := by show _ = List.map vn _; rw [List.map_append]; rfl
          rw [this]
          exact (hX.off fun r hr => (hn r hr).2.2.1).mut hnd hlast
        · have h1 := set_flat (x := n1) hrow (List.perm_append_comm (l₁ := row R (rs.length - 1)) (l₂ := [n1]))
          refine (h1.append_right _).trans (List.Perm.trans ?_ hp)
          rw [List.cons_append]
          exact (List.perm_middle (a := n1) (l₁ := R.flatten) (l₂ := L.eraseIdx x1)).symm.trans ((erase_perm hg).append_left _)
        · rw [List.length_eraseIdx_of_lt (by omega)]; omega
    · obtain ⟨y8, rs, R, L, rfl, sm, hpk', hck', hlf', hro', hX, hnd, hn, hp, hL, hRl⟩ := h
      have hL0 : L = [] := List.length_eq_zero_iff.mp (by omega)
      subst hL0
      rw [List.append_nil] at hp
      have hnr : ∀ r ∈ rs, r ≠ ro := fun r hr => (hn r hr).2.2.2.1
      have hbv : ∀ {σ : L2.St} {H : Hp}, σ[5]? = some (some (vn bare)) → Va (tCB (fun xs H Q => ∃ i j, xs = [V.int i, V.int j] ∧ Q (.int (if j > i then j else i)) H) (tCons (tC (.int 0)) (tCons (tOp (rI0 fun i j => .int (i - j)) (tVar 5) (tC (.int 1))) tNil))) σ H (vn (bare - 1)) := fun h => vto (vmax2 vc (vsub (vv h) vc)) (congrArg V.int (by split <;> omega))
      refine pn (sq (s_forx (ex_slx (ex_lst (vs := vns [one, two]) (a2 vv vv) (by show 2 ≤ sizeLine; decide) fun l nl => po0 _ (po1 (hbv rfl) _ ⟨l, _, rfl, SqL.of upd_same, fun p np => ?_⟩)))))
      rw [take_cut _ _ (by show bare - 1 ≤ 2; omega)]
      have s9 := (same_upd (o := HO.lst (vns [one, two])) nl).trans (same_upd (o := HO.lst ((vns [one, two]).take (bare - 1))) np)
      have hpl9 : (upd (upd H' l (.lst (vns [one, two]))) p (.lst ((vns [one, two]).take (bare - 1)))) p = some (.lst ((vns [one, two]).take (bare - 1))) := upd_same
      have hro9 := s9 _ _ hro'
      have hX9 := hX.mono s9
      have smm := sm.trans s9
      have nprr : p ≠ ro := fun z => by
        have : (upd H' l (.lst (vns [one, two]))) ro = some (.lst (rs.map V.ref)) := (same_upd nl) _ _ hro'
        rw [z, this] at np; cases np
      clear hX hro' sm hpk' hck' hlf' hn hnd
      revert hpl9 hro9 hX9 smm
      generalize upd (upd H' l (.lst (vns [one, two]))) p (.lst ((vns [one, two]).take (bare - 1))) = H9
      intro hpl9 hro9 hX9 smm
      refine forL_n hpl9 (fun i σ H2 => ∃ y13 rs R, σ = [some (.ref a), some (vn 1), some (vn 8), some (vn ties), some (vn thin), some (vn bare), some (vn one), some (vn two), y8, some (.ref pk), some (.ref ck), some (.ref lf), some (.ref ro), y13] ∧ Same H H2 ∧ H2 p = some (.lst ((vns [one, two]).take (bare - 1))) ∧ H2 ro = some (.lst (rs.map V.ref)) ∧ LX H2 rs R ∧ (∀ r ∈ rs, r ≠ ro) ∧ R.flatten.Perm (List.range (2 * ties)) ∧ R.length ≤ 2 * ties + i)
        ⟨none, rs, R, rfl, smm, hpl9, hro9, hX9, hnr, hp, hRl⟩ (fun i σ H2 _ h => ?_) (fun i x σ H2 hi h => ?_) (fun σ H2 h => ?_)
      · obtain ⟨_, _, _, _, _, h1, _⟩ := h
        exact h1
      · obtain ⟨y13, rs, R, rfl, sm2, hp2, hro2, hX2, hn2, hpp2, hRl2⟩ := h
        have hil := (List.getElem?_eq_some_iff.mp hi).1
        rw [List.length_take] at hil
        obtain ⟨e, rfl⟩ : ∃ e, x = vn e := by
          have := List.mem_of_mem_take (List.mem_of_getElem? hi)
          obtain ⟨e, _, he⟩ := List.mem_map.mp this
          exact ⟨e, he.symm⟩
        have hrl := hX2.1
        have hml : e % (R.length + 1) < R.length + 1 := Nat.mod_lt e (Nat.succ_pos R.length)
        refine s_dropx (ex_bm vv hro2 (ex_cv (vmodn vv (vaddn (vlen vv (by rw [List.length_map, hX2.1]) hro2) (vcn 1)) (Nat.succ_pos _)) (ex_cons (ex_lst a0 (Nat.zero_le _) fun l nl => ex_nil ⟨ro, rs.map V.ref, ((e % (R.length + 1) : Nat) : Int), .ref l, rfl, rfl, (same_upd nl) _ _ hro2, by rw [List.length_map, sizeLine_eq]; omega, by omega, by omega, pn ?_⟩))))
        rw [Int.toNat_natCast]
        have s10 := same_upd (o := HO.lst []) nl
        have nlr : l ≠ ro := fun z => by rw [z, hro2] at nl; cases nl
        refine ⟨_, rs.take (e % (R.length + 1)) ++ [l] ++ rs.drop (e % (R.length + 1)), R.take (e % (R.length + 1)) ++ [[]] ++ R.drop (e % (R.length + 1)), rfl, same_mut (sm2.trans s10) nro0, (upd_ne nprr).trans (s10 _ _ hp2), by rw [upd_same, List.map_append, List.map_append, List.map_take, List.map_drop]; rfl, ?_, ?_, by rw [ins_flat]; exact hpp2, ?_⟩
        · have h1 := ((hX2.mono s10).off (p := ro) (o := HO.lst ((rs.map V.ref).take (e % (R.length + 1)) ++ [.ref l] ++ (rs.map V.ref).drop (e % (R.length + 1)))) hn2)
          exact ((h1.take _).snoc ((upd_ne nlr).trans upd_same)).app (h1.drop _)
        · intro r hr
          rcases List.mem_append.mp hr with h | h
          · rcases List.mem_append.mp h with h | h
            · exact hn2 r (List.mem_of_mem_take h)
            · rw [List.mem_singleton.mp h]; exact nlr
          · exact hn2 r (List.mem_of_mem_drop h)
        · simp only [List.length_append, List.length_take, List.length_drop, List.length_singleton]
          omega
      · obtain ⟨y13, rs, R, rfl, sm2, hp2, hro2, hX2, hn2, hpp2, hRl2⟩ := h
        have hlt : ((vns [one, two]).take (bare - 1)).length ≤ 2 := by rw [List.length_take]; exact Nat.min_le_right _ _
        have hDR : Dr R ties := Dr.of (hpp2.symm.nodup List.nodup_range) (by rw [hpp2.length_eq, List.length_range]) fun x hx => List.mem_range.mp (hpp2.mem_iff.mp hx)
        refine pn (s_retx (ex_call (a1 vv) ⟨ro, R, rfl, ⟨rs, hro2, hX2⟩, by omega, fun r hr => by have := row_len hDR hr; omega, fun H5 p' rows' s12 np' hp' hpr => ?_⟩))
        obtain ⟨rs', e1, e2, e3⟩ := hp'
        exact q H5 p' rows' ties (sm2.trans s12) (sm2.free np') ⟨rs', e1, e2, fun r hr => sm2.free (e3 r hr)⟩ (hDR.flatPerm hpr.flat) (by omega) (by rw [hpr.1]; omega)

end RF
namespace RF
open PySem PySem.Spec PyProof.Rows L2
/-! ### promises and defs: the law's new tie -/
def Fr (rs : List Addr) (H H' : Hp) : Prop := ∀ b o, b ∉ rs → H b = some o → H' b = some o
theorem Fr.of {rs : List Addr} {H H' : Hp} (s : Same H H') : Fr rs H H' := fun b o _ e => s b o e
theorem Fr.trans {rs : List Addr} {H H1 H2 : Hp} (f : Fr rs H H1) (g : Fr rs H1 H2) : Fr rs H H2 := fun b o n e => g b o n (f b o n e)
theorem Fr.upd {rs : List Addr} {H H' : Hp} {r : Addr} {o : HO} (f : Fr rs H H') (h : r ∈ rs) : Fr rs H (L2.upd H' r o) := fun b x n e => (upd_ne fun (z : b = r) => n (by rw [z]; exact h)).trans (f b x n e)
theorem refs_ne {H : Hp} {a r : Addr} {rs : List Addr} {w : List Nat} (ha : H a = some (.lst (rs.map V.ref))) (hr : LI H r w) (h0 : rs ≠ []) : r ≠ a := fun z => by
  unfold LI at hr
  rw [z, ha] at hr
  have := HO.lst.inj (Option.some.inj hr)
  cases rs with
  | nil => exact h0 rfl
  | cons x xs =>
    cases w with
    | nil => simp at this
    | cons y ys => simp [vn] at this
theorem ex_lcRF {σ : L2.St} {H : Hp} {i : Nat} {tt : TT} {te : TE} {Q : VK} {ta : TA} {vs : List Nat} {n : Nat} (p : Nat → Bool) (h : VA ta σ H [vn n]) (hn : n ≤ 1000000) (hw : ∀ x, wipe ((wipe σ vs).set i (some x)) vs = wipe σ vs)
    (ht : ∀ j H', j < n → Same H H' → An tt ((wipe σ vs).set i (some (vn j))) H' (p j)) (he : ∀ j H', j < n → Same H H' → Va te ((wipe σ vs).set i (some (vn j))) H' (vn j)) (q : ∀ a, H a = none → Q (.ref a) (upd H a (.lst (vns ((List.range n).filter p))))) : tLc (iRng1 ta) (gName i) tt te vs σ H Q := by
  refine h _ ⟨n, rfl, by omega, by omega, fun a hp => ?_⟩
  refine lc_range (lo := 0) (n := (n : Int).toNat) (fun j H' => H' = upd H a (.lst (vns ((List.range j).filter p)))) rfl (fun j H' hj e => ?_) (fun H' e => ?_)
  · have e0 : V.int (0 + (j : Int)) = vn j := by show V.int _ = V.int _; rw [Int.zero_add]
    rw [e0]
    refine ⟨hw _, ?_⟩
    subst e
    have hs : List.range (j + 1) = List.range j ++ [j] := List.range_succ
    refine ht j _ (by omega) (same_upd hp) _ ?_
    by_cases hj' : p j = true
    · rw [if_pos hj']
      refine he j _ (by omega) (same_upd hp) _ ⟨_, upd_same, ?_, ?_⟩
      · have := List.length_filter_le p (List.range j)
        rw [List.length_range] at this
        rw [vns_len, sizeLine_eq]
        omega
      · rw [upd_upd, hs, List.filter_append]
        show _ = L2.upd H a (.lst (List.map vn _))
        rw [List.map_append, List.filter_cons, if_pos hj']
        rfl
    · rw [if_neg hj']
      show _ = L2.upd H a _
      rw [hs, List.filter_append, List.filter_cons, if_neg hj', List.filter_nil, List.append_nil]
  · subst e
    rw [Int.toNat_natCast]
    exact q a hp
def stg (R : List (List Nat)) (t a b : Nat) : Nat → List (List Nat)
  | 0 => R
  | 1 => R.map (insB a (2 * t))
  | _ => tiedR R t a b
theorem set_self {α : Type} {D : List α} {k : Nat} {r : α} (h : D[k]? = some r) : D.set k r = D := by
  apply List.ext_getElem?
  intro i
  rw [List.getElem?_set]
  by_cases e : k = i
  · subst e
    rw [if_pos rfl, if_pos (List.getElem?_eq_some_iff.mp h).1, h]
  · rw [if_neg e]
def spLTied : Sp := fun vs H Q _ => ∃ a rs R t one two high, vs = [.ref a, vn t, vn one, vn two, .bl high] ∧ H a = some (.lst (rs.map V.ref)) ∧ LX H rs R ∧ rs.Nodup ∧ Dr R t ∧ R ≠ [] ∧ R.length ≤ 200 ∧ t ≤ 200 ∧ (high = true → ∃ x y, x < 2 * t ∧ y < 2 * t ∧ Unlike R x y) ∧
  ∀ H' R', Fr rs H H' → LX H' rs R' → Dr R' (t + 1) → R'.length = R.length → (high = false → Unlike R' (2 * t + 1) (2 * t)) → Q .non H'
theorem ok_L_tied {P : Program} {w : World} {K : PySem.W.Frag} {mg : Str → Option Value} {base : Heap} {fa : Nat → Addr} {fd : Nat → FuncData} (TX : Txt K mg fa fd) : FnOk P w K mg base CX0 3 (fa 44) (fd 44) ["_law_rows", "_law_tie", "_law_one", "_law_two", "_law_high"] spLTied := by
  refine TX.F_L_tied.ok sc_L_tied (fun vs H Q E h => ?_) (fun cdv A outer s H vs Q E hr h => ?_)
  · obtain ⟨a, rs, R, t, one, two, high, rfl, ha, hX, hnd, hD, hR0, hz, ht, hhigh, q⟩ := h
    rfl
  · have nd := sc_L_tied.nd
    have hu := hu_of hr
    obtain ⟨a, rs, R, t, one, two, high, rfl, ha, hX, hnd, hD, hR0, hz, ht, hhigh, q⟩ := h
    refine ⟨_, (pss_cons (ps_if (pt_cmpR op_eq (pv 1) pe_int (nomark _)) (pss_cons (ps_expr (pe_bm PySem.F.plainAttrs_list PySem.F.slot_list_extend PySem.F.type_list_extend mt_extend (pe_ix ix_list (pv 0) pe_int (fun _ _ => rfl)) (pa_cons (pe_lst (pa_cons pe_int (pa_cons pe_int pa_nil))) pa_nil)))
      (pss_one ps_retN)) pss_nil)
      (pss_cons (ps_set (i := 5) nd rfl (Or.inl rfl) (pe_call (ok_L_lands TX) (hr.mono (by decide)) (by rfl) TX.g_L_lands TX.F_L_lands.kp TX.B_L_lands .nil pass0 (pa_cons (pv 0) pa_nil)))
      (pss_cons (ps_set (i := 6) nd rfl (Or.inr rfl) pe_dnewK)
      (pss_cons (ps_for PassesOwn.never (by rfl) (pi_range1 (by rfl) TX.b_range (pa_cons (pe_callB call_len_seq (by rfl) TX.b_len PySem.boot_len (pa_cons (pv 5) pa_nil)) pa_nil)) (pg_name (i := 7) nd rfl (Or.inl rfl)) (pss_one (ps_for PassesOwn.never (by rfl) (pi_list (pe_ix ix_list (pv 5) (pv 7) (fun _ _ => rfl))) (pg_name (i := 8) nd rfl (Or.inl rfl)) (pss_one (ps_dput hu (pv 6) (pv 8) (pv 7) rfl)))))
      (pss_cons (ps_set (i := 9) nd rfl (Or.inr rfl) (pe_op op_mod (pv 2) (pe_op op_mul pe_int (pv 1))))
      (pss_cons (ps_setLc (i := 10) (own := [("_law_end", 8)]) (g := gName 8) (by rfl) nd rfl rfl (sw_true rfl rfl rfl (by decide +kernel)) (pi_range1 (by rfl) TX.b_range (pa_cons (pe_op op_mul pe_int (pv 1)) pa_nil)) (blkOk_by (own := [("_law_end", 8)]) (N := nm_L_tied) (sc := (defScope s_L_tied)) (by decide +kernel)) (fun _ _ _ _ _ => (pg_name (i := 8) nd rfl (Or.inl rfl))) (fun _ _ _ _ _ => (pts_one (pt_cmpR op_eq (pe_cmpR op_ne (pe_dget hu (pv 6) (pv 8) (fun _ _ => rfl)) (pe_dget hu (pv 6) (pv 9) (fun _ _ => rfl)) (nomark _)) (pv 4) (nomark _)))) (fun _ _ _ _ _ => (pv 8)))
      (pss_cons (ps_set (i := 11) nd rfl (Or.inl rfl) (pe_ix ix_list (pv 10) (pe_op op_mod (pv 3) (pe_callB call_len_seq (by rfl) TX.b_len PySem.boot_len (pa_cons (pv 10) pa_nil))) (fun _ _ => rfl)))
      (pss_one (ps_for PassesOwn.never (by rfl) (pi_list (pe_lst (pa_cons (pe_tup (pa_cons (pe_op op_mul pe_int (pv 1)) (pa_cons (pv 9) pa_nil))) (pa_cons (pe_tup (pa_cons (pe_op op_add (pe_op op_mul pe_int (pv 1)) pe_int) (pa_cons (pv 11) pa_nil))) pa_nil)))) (pg_tup (by rfl) (pgs_cons (pg_name (i := 12) nd rfl (Or.inl rfl)) (pgs_cons (pg_name (i := 8) nd rfl (Or.inl rfl)) pgs_nil))) (pss_one (ps_for PassesOwn.never (by rfl) (pi_list (pv 0)) (pg_name (i := 13) nd rfl (Or.inl rfl)) (pss_one (ps_if (pt_cmpR op_in_seq (pv 8) (pv 13) (by rfl)) (pss_one (ps_expr (pe_bm PySem.F.plainAttrs_list PySem.F.slot_list_insert PySem.F.type_list_insert mt_insert (pv 13) (pa_cons (pe_bm PySem.F.plainAttrs_list PySem.F.slot_list_index PySem.F.type_list_index mt_index (pv 13) (pa_cons (pv 8) pa_nil)) (pa_cons (pv 12) pa_nil))))) pss_nil))))))))))))), ?_⟩
    have hRp : 0 < R.length := List.length_pos_iff.mpr hR0
    have hrs0 : rs ≠ [] := fun z => by
      have := hX.1
      rw [z] at this
      simp at this
      omega
    refine q_when (q := t = 0) (at_ (veqP vv vc (by omega))) (fun h0 => ?_) (fun h0 => ?_)
    · subst h0
      have h1 : rs[0]? = some (rs[0]'(by rw [hX.1]; exact hRp)) := List.getElem?_eq_getElem _
      revert h1
      generalize rs[0]'(by rw [hX.1]; exact hRp) = r
      intro h1
      have hrow := row_get hRp
      have hr := hX.2 0 r _ h1 hrow
      obtain ⟨d1, d2⟩ := first_dr hD hR0
      refine sq (s_dropx (ex_bm (vix vv vc (atI_nat (j := 0) (ref_get h1)) ha) hr (ex_cons (ex_lst (vs := vns [0, 1]) (a2 (vcn 0) (vcn 1)) (by show 2 ≤ sizeLine; decide) fun l nl => ex_nil ?_))))
      have s1 := same_upd (o := HO.lst (vns [0, 1])) nl
      have hrl := row_le (List.mem_of_getElem? hrow)
      rw [hD.len] at hrl
      refine ⟨r, l, _, _, rfl, rfl, s1 _ _ hr, upd_same, by rw [vns_len, vns_len, sizeLine_eq]; show _ + 2 ≤ _; omega, pn ?_⟩
      have e : vns (row R 0) ++ vns [0, 1] = vns (row R 0 ++ [0, 1]) := by show _ = List.map vn _; rw [List.map_append]
      rw [e]
      refine q _ (R.set 0 (row R 0 ++ [0, 1])) ((Fr.of s1).upd (List.mem_of_getElem? h1)) ((hX.mono s1).mut hnd h1) d1 (List.length_set ..) fun _ => d2
    have hA : LR H a R := ⟨rs, ha, hX⟩
    refine q_call (a1 vv) ⟨a, R, t, rfl, hA, hD, by omega, by omega, fun H1 lp s1 nlp hlp => ?_⟩
    obtain ⟨ls, hl1, hlx, _⟩ := hlp
    have hdl := landsF_dr hD
    have hll := landsF_len hD
    refine q_asg fun d nd => ?_
    have s2 := same_upd (o := HO.dK []) nd
    have nd0 : H d = none := s1.free nd
    -- home
    refine sq (s_forR1 (n := (landsF R).length) (a1 (vlen vv (by rw [List.length_map, hlx.1]) (s2 _ _ hl1))) (by omega) (fun i σ H' => ∃ y7 y8, σ = [some (.ref a), some (vn t), some (vn one), some (vn two), some (.bl high), some (.ref lp), some (.ref d), y7, y8, none, none, none, none, none] ∧ Same H H' ∧ H' lp = some (.lst (ls.map V.ref)) ∧ LX H' ls (landsF R) ∧ H' d = some (.dK (mapK (seat (landsF R)) ((landsF R).take i).flatten)))
      ⟨none, none, rfl, s1.trans s2, s2 _ _ hl1, hlx.mono s2, upd_same⟩ (fun i σ H' hi h => ?_) (fun σ H' h => ?_))
    · obtain ⟨y7, y8, rfl, sm, hl', hx', hd⟩ := h
      have hrow := row_get hi
      obtain ⟨r, hr, hlr⟩ := hx'.get hrow
      have nld : lp ≠ d := fun z => by rw [z, hd] at hl'; cases hl'
      have nld2 : ∀ x ∈ ls, x ≠ d := fun x hx z => by
        obtain ⟨k, hk⟩ := List.getElem?_of_mem hx
        have := hx'.2 k x _ hk (row_get (by rw [← hx'.1]; exact (List.getElem?_eq_some_iff.mp hk).1))
        unfold LI at this
        rw [z, hd] at this; cases this
      refine s_forLn (vixr vv vv hr hl') hlr (fun j σ H' => ∃ y8, σ = [some (.ref a), some (vn t), some (vn one), some (vn two), some (.bl high), some (.ref lp), some (.ref d), some (vn i), y8, none, none, none, none, none] ∧ Same H H' ∧ H' lp = some (.lst (ls.map V.ref)) ∧ LX H' ls (landsF R) ∧ H' d = some (.dK (mapK (seat (landsF R)) (((landsF R).take i).flatten ++ (row (landsF R) i).take j))))
        ⟨_, rfl, sm, hl', hx', by rw [List.take_zero, List.append_nil]; exact hd⟩ (fun j σ H' _ h => ?_) (fun j x σ H' hj h => ?_) (fun σ H' h => ?_)
      · obtain ⟨_, _, _, _, hx3, _⟩ := h
        exact hx3.2 i r _ hr hrow
      · obtain ⟨y8, rfl, sm3, hl3, hx3, hd3⟩ := h
        obtain ⟨e, he, rfl⟩ := vns_get' hj
        have hdn := done_len hrow he
        rw [hdl.len] at hdn
        refine s_dput (v := vn i) vv vv vv (by rw [mapK_len]; omega) hd3 (pn ⟨_, rfl, same_mut sm3 nd0, (upd_ne nld).trans hl3, hx3.off nld2, ?_⟩)
        rw [upd_same, mapK_put (done_not hdl.nd hrow he) (seat_at hdl.nd hrow (List.mem_of_getElem? he)).symm, List.append_assoc, ← take_succ_get he]
      · obtain ⟨y8, rfl, sm3, hl3, hx3, hd3⟩ := h
        rw [vns_len, List.take_length, take_flat hrow] at hd3
        exact pn ⟨_, _, rfl, sm3, hl3, hx3, hd3⟩
    · obtain ⟨y7, y8, rfl, sm, hl', hx', hd⟩ := h
      rw [List.take_length] at hd
      have hget : ∀ x, x < 2 * t → valV (mapK (seat (landsF R)) (landsF R).flatten) (.inl (x : Int)) = some (vn (seat (landsF R) x)) := fun x hx => mapK_get ((hdl.mem x).mpr hx)
      have hf : one % (2 * t) < 2 * t := Nat.mod_lt _ (by omega)
      have m2 : ∀ {σ : L2.St} {H : Hp} {te : TE} {x : Nat}, Va te σ H (vn x) → Va (tOp (rI CMul fun i j => .int (i * j)) (tC (.int 2)) te) σ H (vn (2 * x)) := fun h => vmuln (vcn 2) h (.inl (by decide))
      refine pn (q_set (v := vn (one % (2 * t))) (vmodn vv (m2 vv) (by omega)) ?_)
      revert hf
      generalize one % (2 * t) = f
      intro hf
      -- the ends to choose from
      refine q_asg (ex_lcRF (n := 2 * t) (fun j => decide (V.bl (!decide (vn (seat (landsF R) j) = vn (seat (landsF R) f))) = V.bl high)) (a1 (m2 vv)) (by omega) (fun _ => rfl) (fun j H2 hj s => at_ (veq (vne (vdget vv vv (hget j hj) (s _ _ hd)) (vdget vv vv (hget f hf) (s _ _ hd))) vv)) (fun j H2 hj s => vv) fun en nen => ?_)
      have s3 := same_upd (o := HO.lst (vns ((List.range (2 * t)).filter fun j => decide (V.bl (!decide (vn (seat (landsF R) j) = vn (seat (landsF R) f))) = V.bl high)))) nen
      have hen := upd_same (H := H') (a := en) (o := HO.lst (vns ((List.range (2 * t)).filter fun j => decide (V.bl (!decide (vn (seat (landsF R) j) = vn (seat (landsF R) f))) = V.bl high))))
      have hmem : ∀ x, x ∈ ((List.range (2 * t)).filter fun j => decide (V.bl (!decide (vn (seat (landsF R) j) = vn (seat (landsF R) f))) = V.bl high)) ↔ x < 2 * t ∧ (high = true ↔ Unlike R x f) := fun x => by
        rw [List.mem_filter, List.mem_range, decide_eq_true_iff]
        refine and_congr Iff.rfl ?_
        unfold Unlike
        by_cases hc : seat (landsF R) x = seat (landsF R) f
        · rw [hc, decide_eq_true rfl]
          cases high <;> simp
        · rw [decide_eq_false fun z => hc (vn_inj z)]
          cases high <;> simp [hc]
      have hne : 0 < ((List.range (2 * t)).filter fun j => decide (V.bl (!decide (vn (seat (landsF R) j) = vn (seat (landsF R) f))) = V.bl high)).length := by
        cases hh : high with
        | false => exact List.length_pos_of_mem (a := f) (hh ▸ (hmem f).mpr ⟨hf, ⟨fun z => (by rw [hh] at z; cases z), fun z => absurd rfl z⟩⟩)
        | true =>
          obtain ⟨x, y, hx, hy, hxy⟩ := hhigh hh
          by_cases hc : Unlike R x f
          · exact List.length_pos_of_mem (a := x) (hh ▸ (hmem x).mpr ⟨hx, ⟨fun _ => hc, fun _ => hh⟩⟩)
          · refine List.length_pos_of_mem (a := y) (hh ▸ (hmem y).mpr ⟨hy, ⟨fun _ z => hxy ?_, fun _ => hh⟩⟩)
            rw [z]
            exact Classical.not_not.mp hc
      revert s3 hen hmem hne
      generalize ((List.range (2 * t)).filter fun j => decide (V.bl (!decide (vn (seat (landsF R) j) = vn (seat (landsF R) f))) = V.bl high)) = En
      intro s3 hen hmem hne
      have hsi : two % En.length < En.length := Nat.mod_lt _ hne
      have hsg : En[two % En.length]? = some (En.getD (two % En.length) 0) := get_getD hsi
      refine q_set (v := vn (En.getD (two % En.length) 0)) (vixn vv (vmodn vv (vlen vv (vns_len _) hen) hne) hsg hen) ?_
      obtain ⟨hsl, hsu⟩ := (hmem _).mp (List.mem_of_getElem? hsg)
      revert hsl hsu
      generalize En.getD (two % En.length) 0 = b
      intro hb hsu
      have s4 := sm.trans s3
      clear s3 hen hsg hsi hne hmem
      revert s4
      generalize upd H' en (.lst (vns En)) = H4
      intro s4
      -- the two names
      refine s_forx (ex_lstx (ex_cons (ex_tup (vs := [vn (2 * t), vn f]) (a2 (m2 vv) vv) (by show 2 ≤ sizeLine; decide) fun t1 n1 => ex_cons (ex_tup (vs := [vn (2 * t + 1), vn b]) (a2 (vaddn (m2 vv) (vcn 1)) vv) (by show 2 ≤ sizeLine; decide) fun t2 n2 => ex_nil ⟨by show 2 ≤ sizeLine; decide, fun l nl => ?_⟩))))
      have f1 := same_upd (o := HO.tup [vn (2 * t), vn f]) n1
      have f2 := same_upd (o := HO.tup [vn (2 * t + 1), vn b]) n2
      have f3 := same_upd (o := HO.lst [V.ref t1, V.ref t2]) nl
      have ht1 := f3 _ _ (f2 _ _ (upd_same (H := H4) (a := t1) (o := HO.tup [vn (2 * t), vn f])))
      have ht2 := f3 _ _ (upd_same (H := upd H4 t1 (.tup [vn (2 * t), vn f])) (a := t2) (o := HO.tup [vn (2 * t + 1), vn b]))
      have hl := upd_same (H := upd (upd H4 t1 (.tup [vn (2 * t), vn f])) t2 (.tup [vn (2 * t + 1), vn b])) (a := l) (o := HO.lst [V.ref t1, V.ref t2])
      have s5 := s4.trans ((f1.trans f2).trans f3)
      revert ht1 ht2 hl s5
      generalize upd (upd (upd H4 t1 (.tup [vn (2 * t), vn f])) t2 (.tup [vn (2 * t + 1), vn b])) l (.lst [V.ref t1, V.ref t2]) = H5
      intro ht1 ht2 hl s5
      have hrsm : ∀ r ∈ rs, ∃ w, LI H5 r w := fun r hr => by
        obtain ⟨k, hk⟩ := List.getElem?_of_mem hr
        exact ⟨_, s5 _ _ (hX.2 k r _ hk (row_get (by rw [← hX.1]; exact (List.getElem?_eq_some_iff.mp hk).1)))⟩
      have nars : a ∉ rs := fun z => by
        obtain ⟨w, hw⟩ := hrsm a z
        exact refs_ne (s5 _ _ ha) hw hrs0 rfl
      have nt1 : t1 ∉ rs := fun z => by
        obtain ⟨w, hw⟩ := hrsm t1 z
        unfold LI at hw
        rw [ht1] at hw; cases hw
      have nt2 : t2 ∉ rs := fun z => by
        obtain ⟨w, hw⟩ := hrsm t2 z
        unfold LI at hw
        rw [ht2] at hw; cases hw
      have nls : l ∉ rs := fun z => by
        obtain ⟨w, hw⟩ := hrsm l z
        exact refs_ne (rs := [t1, t2]) hl hw (by simp) rfl
      have hRb : ∀ i, (stg R t f b i).length = R.length := fun i => by
        match i with
        | 0 => rfl
        | 1 => exact List.length_map _
        | k + 2 => exact (List.length_map _).trans (List.length_map _)
      have hDb : ∀ i, ((stg R t f b i).flatten).length ≤ 2 * t + 2 := fun i => by
        match i with
        | 0 => show R.flatten.length ≤ _; rw [hD.len]; omega
        | 1 =>
          show (R.map (insB f (2 * t))).flatten.length ≤ _
          rw [(tied1 hD hf).length_eq, List.length_cons, hD.len]; omega
        | k + 2 =>
          show (tiedR R t f b).flatten.length ≤ _
          rw [(tied_dr hD hf hb).len]; omega
      have one_row : ∀ (e n i : Nat) (_ : i < 2) (_ : stg R t f b (i + 1) = (stg R t f b i).map (insB e n)) (H6 : Hp) (y : Option V) (D : Ends), Fr rs H5 H6 → LX H6 rs (stg R t f b i) → (∀ (H7 : Hp) (y : Option V), Fr rs H5 H7 → LX H7 rs (stg R t f b (i + 1)) → D.nx [some (.ref a), some (vn t), some (vn one), some (vn two), some (.bl high), some (.ref lp), some (.ref d), y7, some (vn e), some (vn f), some (.ref en), some (vn b), some (vn n), y] H7) →
          tFor (iList K (tVar 0)) (gName 13) (tIfS (tTest (tOp (rIn K false) (tVar 8) (tVar 13))) (tDrop (tBM K "list" (fun x vs H Q => ∃ (l : Addr) (xs : List V) (i : Int) (y : V), x = .ref l ∧ vs = [.int i, y] ∧ H l = some (.lst xs) ∧ xs.length < sizeLine ∧ 0 ≤ i ∧ i < 2 ^ 63 ∧ Q .non (upd H l (.lst (xs.take i.toNat ++ [y] ++ xs.drop i.toNat)))) (tVar 13) (tCons (tBM K "list" (rIndex K) (tVar 13) (tCons (tVar 8) tNil)) (tCons (tVar 12) tNil)))) tNext) D [some (.ref a), some (vn t), some (vn one), some (vn two), some (.bl high), some (.ref lp), some (.ref d), y7, some (vn e), some (vn f), some (.ref en), some (vn b), some (vn n), y] H6 := by
        intro e n i hi2 hst H6 y D fr hX6 hfin
        refine s_forLn vv (fr _ _ nars (s5 _ _ ha)) (fun k σ H7 => ∃ y, σ = [some (.ref a), some (vn t), some (vn one), some (vn two), some (.bl high), some (.ref lp), some (.ref d), y7, some (vn e), some (vn f), some (.ref en), some (vn b), some (vn n), y] ∧ Fr rs H5 H7 ∧ LX H7 rs (((stg R t f b i).take k).map (insB e n) ++ (stg R t f b i).drop k)) ⟨y, rfl, fr, hX6⟩ (fun k σ H7 _ h => ?_) (fun k x σ H7 hk h => ?_) (fun σ H7 h => ?_)
        · obtain ⟨_, _, fr7, _⟩ := h
          exact fr7 _ _ nars (s5 _ _ ha)
        · obtain ⟨y', rfl, fr7, hX7⟩ := h
          obtain ⟨r, hr, rfl⟩ := ref_get' hk
          have hkl : k < (stg R t f b i).length := by rw [hRb, ← hX.1]; exact (List.getElem?_eq_some_iff.mp hr).1
          have hrow := row_get hkl
          have hrow7 : (((stg R t f b i).take k).map (insB e n) ++ (stg R t f b i).drop k)[k]? = some (row (stg R t f b i) k) := by
            rw [List.getElem?_append_right (by rw [List.length_map, List.length_take]; omega), List.length_map, List.length_take, Nat.min_eq_left (Nat.le_of_lt hkl), Nat.sub_self, List.getElem?_drop]
            exact hrow
          have hlr := hX7.2 k r _ hr hrow7
          have hrm := List.mem_of_getElem? hr
          have hrl := Nat.le_trans (row_le (List.mem_of_getElem? hrow)) (hDb i)
          have next : (((stg R t f b i).take k).map (insB e n) ++ (stg R t f b i).drop k).set k (insB e n (row (stg R t f b i) k)) = ((stg R t f b i).take (k + 1)).map (insB e n) ++ (stg R t f b i).drop (k + 1) := by
            rw [List.set_append_right _ _ (by rw [List.length_map, List.length_take]; omega), List.length_map, List.length_take, Nat.min_eq_left (Nat.le_of_lt hkl), Nat.sub_self, take_succ_get hrow, List.map_append, List.append_assoc]
            congr 1
            rw [List.drop_eq_getElem_cons hkl]; rfl
          refine s_when (q := e ∈ row (stg R t f b i) k) (at_ (vin vv vv hlr)) (fun hin => ?_) (fun hout => pn ⟨_, rfl, fr7, ?_⟩)
          · have hk2 : (row (stg R t f b i) k).idxOf e < (row (stg R t f b i) k).length := List.idxOf_lt_length_iff.mpr hin
            refine s_dropx (ex_bm vv hlr (ex_cv (vindex vv vv (idx_get hin) (fun m hm => idx_no hm) hlr) (ex_cv vv (ex_nil ⟨r, vns (row (stg R t f b i) k), (((row (stg R t f b i) k).idxOf e : Nat) : Int), vn n, rfl, rfl, hlr, by rw [vns_len, sizeLine_eq]; omega, by omega, by omega, pn ?_⟩))))
            rw [Int.toNat_natCast]
            have e1 : (vns (row (stg R t f b i) k)).take ((row (stg R t f b i) k).idxOf e) ++ [vn n] ++ (vns (row (stg R t f b i) k)).drop ((row (stg R t f b i) k).idxOf e) = vns (insB e n (row (stg R t f b i) k)) := by
              unfold insB
              rw [if_pos hin]
              show _ = List.map vn _
              rw [List.map_append, List.map_append, List.map_take, List.map_drop]; rfl
            rw [e1]
            refine ⟨_, rfl, fr7.upd hrm, ?_⟩
            rw [← next]
            exact hX7.mut hnd hr
          · rw [← next, insB_no hout]
            have : (((stg R t f b i).take k).map (insB e n) ++ (stg R t f b i).drop k).set k (row (stg R t f b i) k) = ((stg R t f b i).take k).map (insB e n) ++ (stg R t f b i).drop k := set_self hrow7
            rw [this]
            exact hX7
        · obtain ⟨y', rfl, fr7, hX7⟩ := h
          rw [List.length_map, hX.1, ← hRb i, List.take_length, List.drop_length, List.append_nil, ← hst] at hX7
          exact hfin _ _ fr7 hX7
      refine ⟨l, rfl, ⟨_, SqL.of hl⟩, for_list (K := K) (a := l) (xs := [V.ref t1, V.ref t2]) (fun i σ H6 => ∃ y8 y12 y13, σ = [some (.ref a), some (vn t), some (vn one), some (vn two), some (.bl high), some (.ref lp), some (.ref d), y7, y8, some (vn f), some (.ref en), some (vn b), y12, y13] ∧ Fr rs H5 H6 ∧ LX H6 rs (stg R t f b i)) ⟨_, _, _, rfl, fun b o _ e => e, hX.mono s5⟩ (fun i σ H6 _ h => ?_) (fun i x σ H6 hi h => ?_) (fun σ H6 h => ?_)⟩
      · obtain ⟨_, _, _, _, fr, _⟩ := h
        exact SqL.of (fr _ _ nls hl)
      · obtain ⟨y8, y12, y13, rfl, fr, hX6⟩ := h
        match i, hi with
        | 0, hi =>
          cases Option.some.inj hi
          exact ⟨t1, _, rfl, SqT.of (fr _ _ nt1 ht1), rfl, _, _, rfl, _, _, rfl, rfl, one_row f (2 * t) 0 (by decide) rfl H6 y13 _ fr hX6 fun H7 y f7 h7 => pn ⟨_, _, _, rfl, f7, h7⟩⟩
        | 1, hi =>
          cases Option.some.inj hi
          exact ⟨t2, _, rfl, SqT.of (fr _ _ nt2 ht2), rfl, _, _, rfl, _, _, rfl, rfl, one_row b (2 * t + 1) 1 (by decide) rfl H6 y13 _ fr hX6 fun H7 y f7 h7 => pn ⟨_, _, _, rfl, f7, h7⟩⟩
        | k + 2, hi => simp at hi
      · obtain ⟨y8, y12, y13, rfl, fr, hX6⟩ := h
        refine pn (q H6 (tiedR R t f b) ((Fr.of s5).trans fr) hX6 (tied_dr hD hf hb) (hRb 2) fun hh => tied_unlike hD hf hb ?_)
        apply Classical.byContradiction
        intro hc
        have := hsu.mpr fun z => hc z.symm
        rw [hh] at this
        cases this

end RF
namespace RF
open PySem PySem.Spec PyProof.Rows L2
/-! ### promises and defs: the law's grown drawing -/
theorem Fr.same {rs : List Addr} {H0 H H' : Hp} (f : Fr rs H H') (s : Same H0 H) (n : ∀ r ∈ rs, H0 r = none) : Same H0 H' := fun b o e => f b o (fun z => by rw [n b z] at e; cases e) (s b o e)
theorem rep2_n {H : Hp} {p : Addr} {Q : VK} {n x : Nat} (hp : LI H p [x, x]) (hn : n ≤ 1000) (q : ∀ l, H l = none → Q (.ref l) (upd H l (.lst (vns (List.replicate (2 * n) x))))) : rRep (.ref p) (vn n) H Q := by
  refine ⟨p, n, vns [x, x], rfl, rfl, hp, by omega, by omega, ?_, fun l hl => ?_⟩
  · rw [sizeLine_eq, Int.toNat_natCast, vns_len]
    show 2 * n ≤ _
    omega
  · have e : (List.replicate (n : Int).toNat (vns [x, x])).flatten = vns (List.replicate (2 * n) x) := by
      rw [Int.toNat_natCast]
      clear hn q
      induction n with
      | zero => rfl
      | succ n ih =>
        rw [List.replicate_succ, List.flatten_cons, ih, show 2 * (n + 1) = 2 * n + 1 + 1 by omega, List.replicate_succ, List.replicate_succ]
        rfl
    rw [e]
    exact q l hl
theorem perm_ins {r : List Nat} {x k : Nat} : (r.take k ++ [x] ++ r.drop k).Perm (x :: r) := by
  rw [List.append_assoc]
  have := List.perm_middle (a := x) (l₁ := r.take k) (l₂ := r.drop k)
  rw [List.take_append_drop] at this
  exact this
theorem grow_dr {R : List (List Nat)} {k i : Nat} {r r' : List Nat} (h : Dr R k) (hi : R[i]? = some r) (p : r'.Perm (2 * k :: r)) : Dr (R.set i r' ++ [[2 * k + 1]]) (k + 1) := by
  have hp : (R.set i r' ++ [[2 * k + 1]]).flatten.Perm ((2 * k + 1) :: (2 * k) :: R.flatten) := by
    rw [List.flatten_append, List.flatten_singleton]
    refine (List.perm_append_comm (l₁ := (R.set i r').flatten) (l₂ := [2 * k + 1])).trans ?_
    exact (set_flat hi p).cons _
  refine ⟨hp.symm.nodup (List.nodup_cons.mpr ⟨fun z => ?_, List.nodup_cons.mpr ⟨fun z => ?_, h.nd⟩⟩), fun x => ?_⟩
  · rcases List.mem_cons.mp z with z | z
    · omega
    · have := (h.mem _).mp z; omega
  · have := (h.mem _).mp z; omega
  · rw [hp.mem_iff, List.mem_cons, List.mem_cons, h.mem]
    omega
def spLGrown (K : PySem.W.Frag) : Sp := fun vs H Q _ => ∃ (a : Addr) (ns : List Int) (holes : Nat), vs = [.ref a, vn 1, vn holes] ∧ holes ≤ 1 ∧ SqL K H a (ns.map V.int) ∧ ∀ H' p rows m, Same H H' → H p = none → FR H H' p rows → Dr rows m → m ≤ 20 → rows.length ≤ 100 → Q (.ref p) H'
theorem ok_L_grown {P : Program} {w : World} {K : PySem.W.Frag} {mg : Str → Option Value} {base : Heap} {fa : Nat → Addr} {fd : Nat → FuncData} (TX : Txt K mg fa fd) : FnOk P w K mg base CX0 4 (fa 46) (fd 46) ["_law_script", "_law_base", "_law_holes_here"] (spLGrown K) := by
  refine TX.F_L_grown.ok sc_L_grown (fun vs H Q E h => ?_) (fun cdv A outer s H vs Q E hr h => ?_)
  · obtain ⟨a, ns, holes, rfl, hh, hS, q⟩ := h
    rfl
  · have nd := sc_L_grown.nd
    have hu := hu_of hr
    obtain ⟨a, ns, holes, rfl, hh, hS, q⟩ := h
    refine ⟨_, (pss_cons (ps_asg (pe_call (ok_L_draws TX) (hr.mono (by decide)) (by rfl) TX.g_L_draws TX.F_L_draws.kp TX.B_L_draws .nil pass0 (pa_cons (pe_call (ok_L_cell TX) (hr.mono (by decide)) (by rfl) TX.g_L_cell TX.F_L_cell.kp TX.B_L_cell .nil pass0 (pa_cons (pv 0) (pa_cons (pv 1) pa_nil))) (pa_cons (pe_lst (pa_cons pe_int (pa_cons pe_int (pa_cons pe_int pa_nil)))) pa_nil))) (pg_unl (by rfl) (pgs_cons (pg_name (i := 3) nd rfl (Or.inl rfl)) (pgs_cons (pg_name (i := 4) nd rfl (Or.inl rfl)) (pgs_cons (pg_name (i := 5) nd rfl (Or.inl rfl)) pgs_nil)))))
      (pss_cons (ps_set (i := 6) nd rfl (Or.inl rfl) (pe_call (ok_L_draws TX) (hr.mono (by decide)) (by rfl) TX.g_L_draws TX.F_L_draws.kp TX.B_L_draws .nil pass0 (pa_cons (pe_call (ok_L_cell TX) (hr.mono (by decide)) (by rfl) TX.g_L_cell TX.F_L_cell.kp TX.B_L_cell .nil pass0 (pa_cons (pv 0) (pa_cons (pe_op op_add (pv 1) pe_int) pa_nil))) (pa_cons (pe_op op_rep (pe_lst (pa_cons pe_int (pa_cons pe_int pa_nil))) (pv 3)) pa_nil))))
      (pss_cons (ps_set (i := 4) nd rfl (Or.inl rfl) (pe_op op_add (pv 4) (pe_op op_mul pe_int (pv 2))))
      (pss_cons (ps_set (i := 7) nd rfl (Or.inl rfl) (pe_call (ok_L_draws TX) (hr.mono (by decide)) (by rfl) TX.g_L_draws TX.F_L_draws.kp TX.B_L_draws .nil pass0 (pa_cons (pe_call (ok_L_cell TX) (hr.mono (by decide)) (by rfl) TX.g_L_cell TX.F_L_cell.kp TX.B_L_cell .nil pass0 (pa_cons (pv 0) (pa_cons (pe_op op_add (pv 1) pe_int) pa_nil))) (pa_cons (pe_op op_rep (pe_lst (pa_cons pe_int (pa_cons pe_int pa_nil))) (pv 4)) pa_nil))))
      (pss_cons (ps_set (i := 8) nd rfl (Or.inl rfl) (pe_lst (pa_cons (pe_lst pa_nil) pa_nil)))
      (pss_cons (ps_for PassesOwn.never (by rfl) (pi_range1 (by rfl) TX.b_range (pa_cons (pv 3) pa_nil)) (pg_name (i := 9) nd rfl (Or.inl rfl)) (pss_cons (ps_set (i := 10) nd rfl (Or.inl rfl) (pe_ix ix_list (pv 8) (pe_op op_mod (pe_ix ix_list (pv 6) (pe_op op_mul pe_int (pv 9)) (fun _ _ => rfl)) (pe_callB call_len_seq (by rfl) TX.b_len PySem.boot_len (pa_cons (pv 8) pa_nil))) (fun _ _ => rfl)))
      (pss_cons (ps_expr (pe_bm PySem.F.plainAttrs_list PySem.F.slot_list_insert PySem.F.type_list_insert mt_insert (pv 10) (pa_cons (pe_op op_mod (pe_ix ix_list (pv 6) (pe_op op_add (pe_op op_mul pe_int (pv 9)) pe_int) (fun _ _ => rfl)) (pe_op op_add (pe_callB call_len_seq (by rfl) TX.b_len PySem.boot_len (pa_cons (pv 10) pa_nil)) pe_int)) (pa_cons (pe_op op_mul pe_int (pv 9)) pa_nil))))
      (pss_one (ps_expr (pe_bm PySem.F.plainAttrs_list PySem.F.slot_list_append PySem.F.type_list_append mt_append (pv 8) (pa_cons (pe_lst (pa_cons (pe_op op_add (pe_op op_mul pe_int (pv 9)) pe_int) pa_nil)) pa_nil)))))))
      (pss_cons (ps_for PassesOwn.never (by rfl) (pi_range1 (by rfl) TX.b_range (pa_cons (pv 4) pa_nil)) (pg_name (i := 9) nd rfl (Or.inl rfl)) (pss_cons (ps_set (i := 11) nd rfl (Or.inl rfl) (pe_and (pe_cmpR op_eq (pv 2) pe_int (nomark _)) (pe_one (pe_cmpR op_eq (pv 9) (pe_op op_add pe_int (pe_op op_mod (pv 5) (pe_callB (call_max2 rfl) (by rfl) TX.b_max (by decide +kernel) (pa_cons pe_int (pa_cons (pe_op op_sub (pv 4) pe_int) pa_nil))))) (nomark _)))))
      (pss_one (ps_expr (pe_call (ok_L_tied TX) (hr.mono (by decide)) (by rfl) TX.g_L_tied TX.F_L_tied.kp TX.B_L_tied .nil pass0 (pa_cons (pv 8) (pa_cons (pe_op op_add (pv 3) (pv 9)) (pa_cons (pe_ix ix_list (pv 7) (pe_op op_mul pe_int (pv 9)) (fun _ _ => rfl)) (pa_cons (pe_ix ix_list (pv 7) (pe_op op_add (pe_op op_mul pe_int (pv 9)) pe_int) (fun _ _ => rfl)) (pa_cons (pv 11) pa_nil))))))))))
      (pss_one (ps_ret (pe_call (ok_L_renamed TX) (hr.mono (by decide)) (by rfl) TX.g_L_renamed TX.F_L_renamed.kp TX.B_L_renamed .nil pass0 (pa_cons (pv 8) (pa_cons (pe_op op_add (pv 3) (pv 4)) (pa_cons (pe_call (ok_L_cell TX) (hr.mono (by decide)) (by rfl) TX.g_L_cell TX.F_L_cell.kp TX.B_L_cell .nil pass0 (pa_cons (pv 0) (pa_cons (pe_op op_add (pv 1) pe_int) pa_nil))) pa_nil))))))))))))), ?_⟩
    have m2 : ∀ {σ : L2.St} {H : Hp} {te : TE} {x : Nat}, Va te σ H (vn x) → Va (tOp (rI CMul fun i j => .int (i * j)) (tC (.int 2)) te) σ H (vn (2 * x)) := fun h => vmuln (vcn 2) h (.inl (by decide))
    refine sq (s_asgx (ex_callc (ex_cons (ex_call (a2 vv vv) ⟨a, ns, 1, rfl, hS, by decide, fun z1 => ex_cons (ex_lst (vs := vns [6, 5, 420]) (a3 (vcn 6) (vcn 5) (vcn 420)) (by show 3 ≤ sizeLine; decide) fun l nl => ex_nil ⟨z1, l, _, rfl, upd_same, fun n hn => ?_, by decide, fun H1 p1 f1 s1 np1 hp1 hl1 hv1 => ?_⟩)⟩))))
    · simp only [List.mem_cons, List.not_mem_nil, or_false] at hn
      omega
    have sA := (same_upd (o := HO.lst (vns [6, 5, 420])) nl).trans s1
    obtain ⟨sh, mo, la, rfl⟩ := len3' hl1
    have hsh := hv1 0 sh 6 rfl rfl
    have hmo := hv1 1 mo 5 rfl rfl
    refine ⟨p1, _, rfl, SqL.of hp1, rfl, _, _, rfl, _, _, rfl, _, _, rfl, rfl, pn ?_⟩
    -- tree
    refine q_asg (ex_callc (ex_cons (ex_call (a2 vv (vaddn vv (vcn 1))) ⟨a, ns, 2, rfl, sA.seq hS, by decide, fun z2 => ex_cons (ex_opx (ex_lst (vs := vns [60, 60]) (a2 (vcn 60) (vcn 60)) (by show 2 ≤ sizeLine; decide) fun l2 n2 => ex vv (rep2_n upd_same (by omega) fun l3 n3 => ex_nil ⟨z2, l3, _, rfl, upd_same, fun n hn => ?_, by rw [List.length_replicate]; omega, fun H3 tk tree s3 ntk htk htl _ => ?_⟩)))⟩)))
    · rw [(List.mem_replicate.mp hn).2]; omega
    rw [List.length_replicate] at htl
    have sB := sA.trans (((same_upd (o := HO.lst (vns [60, 60])) n2).trans (same_upd (o := HO.lst (vns (List.replicate (2 * sh) 60))) n3)).trans s3)
    -- more
    refine q_set (v := vn (mo + 2 * holes)) (vaddn vv (m2 vv)) ?_
    have hmm : mo + 2 * holes ≤ 6 := by omega
    revert hmm
    generalize mo + 2 * holes = more
    intro hmm
    -- picks
    refine q_asg (ex_callc (ex_cons (ex_call (a2 vv (vaddn vv (vcn 2))) ⟨a, ns, 3, rfl, sB.seq hS, by decide, fun z3 => ex_cons (ex_opx (ex_lst (vs := vns [5040, 5040]) (a2 (vcn 5040) (vcn 5040)) (by show 2 ≤ sizeLine; decide) fun l4 n4 => ex vv (rep2_n upd_same (by omega) fun l5 n5 => ex_nil ⟨z3, l5, _, rfl, upd_same, fun n hn => ?_, by rw [List.length_replicate]; omega, fun H5 pk picks s5 npk hpk hpl _ => ?_⟩)))⟩)))
    · rw [(List.mem_replicate.mp hn).2]; omega
    rw [List.length_replicate] at hpl
    have s45 := ((same_upd (o := HO.lst (vns [5040, 5040])) n4).trans (same_upd (o := HO.lst (vns (List.replicate (2 * more) 5040))) n5)).trans s5
    have sC := sB.trans s45
    have htk5 := s45 _ _ htk
    -- rows = [[]]
    refine q_asg (ex_lstx (ex_cons (ex_lst a0 (Nat.zero_le _) fun r0 n0 => ex_nil ⟨by show 1 ≤ sizeLine; decide, fun ro nro => ?_⟩)))
    have s6 := same_upd (o := HO.lst []) n0
    have s7 := same_upd (o := HO.lst [V.ref r0]) nro
    have nr0 : H r0 = none := sC.free n0
    have nro0 : H ro = none := sC.free (s6.free nro)
    have nrr : r0 ≠ ro := ne_of_none upd_same nro
    have nrp : r0 ≠ pk := fun z => by rw [z] at n0; unfold LI at hpk; rw [hpk] at n0; cases n0
    have nrt : r0 ≠ tk := fun z => by rw [z, htk5] at n0; cases n0
    have npo : pk ≠ ro := ne_of_none (s6 _ _ hpk) nro
    have nto : tk ≠ ro := ne_of_none (s6 _ _ htk5) nro
    have hpk7 := s7 _ _ (s6 _ _ hpk)
    have htk7 := s7 _ _ (s6 _ _ htk5)
    have hX7 : LX (upd (upd H5 r0 (.lst [])) ro (.lst [V.ref r0])) [r0] [[]] := (LX.nil).snoc (s7 _ _ upd_same)
    have sD := (sC.trans s6).trans s7
    refine sq (s_forR1 (n := sh) (a1 vv) (by omega) (fun k σ H' => ∃ y9 y10 rs R, σ = [some (.ref a), some (vn 1), some (vn holes), some (vn sh), some (vn more), some (vn la), some (.ref tk), some (.ref pk), some (.ref ro), y9, y10, none] ∧ Same H H' ∧ LI H' tk tree ∧ LI H' pk picks ∧ H' ro = some (.lst (rs.map V.ref)) ∧ LX H' rs R ∧ rs.Nodup ∧ (∀ r ∈ rs, r ≠ tk ∧ r ≠ pk ∧ r ≠ ro ∧ H r = none) ∧ Dr R k ∧ R.length = k + 1)
      ⟨none, none, [r0], [[]], rfl, sD, htk7, hpk7, upd_same, hX7, by simp, fun r hr => by rw [List.mem_singleton.mp hr]; exact ⟨nrt, nrp, nrr, nr0⟩, ⟨List.nodup_nil, fun x => ⟨fun h => (by cases h), fun h => absurd h (Nat.not_lt_zero _)⟩⟩, rfl⟩ (fun k σ H' hk h => ?_) (fun σ H' h => ?_))
    · obtain ⟨y9, y10, rs, R, rfl, sm, htk', hpk', hro', hX, hnd, hn, hD, hRl⟩ := h
      have g1 : tree[2 * k]? = some (tree.getD (2 * k) 0) := get_getD (by omega)
      have g2 : tree[2 * k + 1]? = some (tree.getD (2 * k + 1) 0) := get_getD (by omega)
      have hlen : (rs.map V.ref).length = R.length := by rw [List.length_map, hX.1]
      have hi : tree.getD (2 * k) 0 % R.length < R.length := Nat.mod_lt _ (by omega)
      have hir : rs[tree.getD (2 * k) 0 % R.length]? = some (rs[tree.getD (2 * k) 0 % R.length]'(by rw [hX.1]; exact hi)) := List.getElem?_eq_getElem _
      revert hir
      generalize rs[tree.getD (2 * k) 0 % R.length]'(by rw [hX.1]; exact hi) = r
      intro hir
      have hrow := row_get hi
      have hlr := hX.2 _ r _ hir hrow
      have hrn := hn r (List.mem_of_getElem? hir)
      have hrl := row_len hD (List.mem_of_getElem? hrow)
      refine q_set (v := .ref r) (vixr vv (vmodn (vixn vv (m2 vv) g1 htk') (vlen vv hlen hro') (by omega)) hir hro') ?_
      have hj : tree.getD (2 * k + 1) 0 % ((row R (tree.getD (2 * k) 0 % R.length)).length + 1) < (row R (tree.getD (2 * k) 0 % R.length)).length + 1 := Nat.mod_lt _ (Nat.succ_pos _)
      refine sq (s_dropx (ex_bm vv hlr (ex_cv (vmodn (vixn vv (vaddn (m2 vv) (vcn 1)) g2 htk') (vaddn (vlen vv (vns_len _) hlr) (vcn 1)) (Nat.succ_pos _)) (ex_cv (m2 vv) (ex_nil ⟨r, vns (row R (tree.getD (2 * k) 0 % R.length)), ((tree.getD (2 * k + 1) 0 % ((row R (tree.getD (2 * k) 0 % R.length)).length + 1) : Nat) : Int), vn (2 * k), rfl, rfl, hlr, by rw [vns_len, sizeLine_eq]; omega, by omega, by omega, pn ?_⟩)))))
      rw [Int.toNat_natCast]
      revert hj
      generalize tree.getD (2 * k + 1) 0 % ((row R (tree.getD (2 * k) 0 % R.length)).length + 1) = j
      intro hj
      revert hrow hlr hrl hj hir hi
      generalize tree.getD (2 * k) 0 % R.length = i
      intro hi hir hrow hlr hrl hj
      have e1 : (vns (row R i)).take j ++ [vn (2 * k)] ++ (vns (row R i)).drop j = vns ((row R i).take j ++ [2 * k] ++ (row R i).drop j) := by
        show _ = List.map vn _
        rw [List.map_append, List.map_append, List.map_take, List.map_drop]; rfl
      rw [e1]
      have hro8 := (upd_ne (o := HO.lst (vns ((row R i).take j ++ [2 * k] ++ (row R i).drop j))) hrn.2.2.1.symm).trans hro'
      have sm8 := same_mut (o := HO.lst (vns ((row R i).take j ++ [2 * k] ++ (row R i).drop j))) sm hrn.2.2.2
      have hX8 := hX.mut (w := (row R i).take j ++ [2 * k] ++ (row R i).drop j) hnd hir
      have htk8 := (upd_ne (o := HO.lst (vns ((row R i).take j ++ [2 * k] ++ (row R i).drop j))) hrn.1.symm).trans htk'
      have hpk8 := (upd_ne (o := HO.lst (vns ((row R i).take j ++ [2 * k] ++ (row R i).drop j))) hrn.2.1.symm).trans hpk'
      revert hro8 sm8 hX8 htk8 hpk8
      generalize upd H' r (.lst (vns ((row R i).take j ++ [2 * k] ++ (row R i).drop j))) = H8
      intro hro8 sm8 hX8 htk8 hpk8
      refine s_appx vv hro8 (ex_lst (vs := vns [2 * k + 1]) (a1 (vaddn (m2 vv) (vcn 1))) (by show 1 ≤ sizeLine; decide) fun l nl => ?_)
      have s9 := same_upd (o := HO.lst (vns [2 * k + 1])) nl
      have nlo : l ≠ ro := fun z => by rw [z, hro8] at nl; cases nl
      have nlt : l ≠ tk := fun z => by rw [z, htk8] at nl; cases nl
      have nlp : l ≠ pk := fun z => by rw [z, hpk8] at nl; cases nl
      have nlm : l ∉ rs := fun z => by
        obtain ⟨x, hx⟩ := List.getElem?_of_mem z
        have := hX8.2 x l _ hx (row_get (by rw [← hX8.1]; exact (List.getElem?_eq_some_iff.mp hx).1))
        unfold LI at this
        rw [this] at nl; cases nl
      have hlen2 := hX.1
      refine app_n (s9 _ _ hro8) (by rw [List.length_map]; omega) (pn ⟨_, _, rs ++ [l], R.set i ((row R i).take j ++ [2 * k] ++ (row R i).drop j) ++ [[2 * k + 1]], rfl, same_mut (sm8.trans s9) nro0, (upd_ne nto).trans (s9 _ _ htk8), (upd_ne npo).trans (s9 _ _ hpk8), by rw [upd_same, ref_snoc], ((hX8.mono s9).off fun r hr => (hn r hr).2.2.1).snoc ((upd_ne nlo).trans upd_same), nd_snocA hnd nlm, snocP hn ⟨nlt, nlp, nlo, sm8.free nl⟩, grow_dr hD hrow perm_ins, by rw [List.length_append, List.length_set, hRl]; rfl⟩)
    · obtain ⟨y9, y10, rs, R, rfl, sm, htk', hpk', hro', hX, hnd, hn, hD, hRl⟩ := h
      have hn0 : ∀ r ∈ rs, H r = none := fun r hr => (hn r hr).2.2.2
      have npr : pk ∉ rs := fun z => (hn pk z).2.1 rfl
      have nor : ro ∉ rs := fun z => (hn ro z).2.2.1 rfl
      have hvm : ∀ {σ : L2.St} {H : Hp}, σ[4]? = some (some (vn more)) → Va (tCB (fun xs H Q => ∃ i j, xs = [V.int i, V.int j] ∧ Q (.int (if j > i then j else i)) H) (tCons (tC (.int 1)) (tCons (tOp (rI0 fun i j => .int (i - j)) (tVar 4) (tC (.int 1))) tNil))) σ H (vn (max 1 (more - 1))) := fun h => vto (vmax2 vc (vsub (vv h) vc)) (congrArg V.int (by rw [Nat.max_def]; split <;> split <;> omega))
      have hsr := hX.1
      refine pn (sq (s_forR1 (n := more) (a1 vv) (by omega) (fun k σ H' => ∃ y9 y11 R, σ = [some (.ref a), some (vn 1), some (vn holes), some (vn sh), some (vn more), some (vn la), some (.ref tk), some (.ref pk), some (.ref ro), y9, y10, y11] ∧ Same H H' ∧ LI H' pk picks ∧ H' ro = some (.lst (rs.map V.ref)) ∧ LX H' rs R ∧ Dr R (sh + k) ∧ R.length = sh + 1 ∧ (0 < k → (decide (holes = 1) && decide (k - 1 = 1 + la % max 1 (more - 1))) = false → ∃ x y, x < 2 * (sh + k) ∧ y < 2 * (sh + k) ∧ Unlike R x y))
        ⟨_, none, R, rfl, sm, hpk', hro', hX, hD, hRl, fun h => absurd h (Nat.not_lt_zero _)⟩ (fun k σ H' hk h => ?_) (fun σ H' h => ?_)))
      · obtain ⟨y9, y11, R, rfl, sm, hpk', hro', hX, hD, hRl, hU⟩ := h
        have g1 : picks[2 * k]? = some (picks.getD (2 * k) 0) := get_getD (by omega)
        have g2 : picks[2 * k + 1]? = some (picks.getD (2 * k + 1) 0) := get_getD (by omega)
        refine q_set (v := .bl (decide (holes = 1) && decide (k = 1 + la % max 1 (more - 1)))) (vand (veqP vv vc (by omega)) (veqP (n := ((1 + la % max 1 (more - 1) : Nat) : Int)) vv (vaddn (vcn 1) (vmodn vv (hvm rfl) (Nat.le_max_left 1 _))) (by omega))) ?_
        refine s_dropx (ex_call (ac vv (a4 (vaddn vv vv) (vixn vv (m2 vv) g1 hpk') (vixn vv (vaddn (m2 vv) (vcn 1)) g2 hpk') vv)) ⟨ro, rs, R, sh + k, _, _, _, rfl, hro', hX, hnd, hD, fun z => by rw [z] at hRl; simp at hRl, by omega, by omega, fun hT => ?_, fun H9 R' fr hX9 hD9 hl9 hu9 => pn ⟨_, _, R', rfl, fr.same sm hn0, fr _ _ npr hpk', fr _ _ nor hro', hX9, hD9, hl9.trans hRl, fun _ hF => ?_⟩⟩)
        · rw [Bool.and_eq_true, decide_eq_true_iff, decide_eq_true_iff] at hT
          refine hU (by omega) ?_
          rw [decide_eq_true hT.1, Bool.true_and]
          exact decide_eq_false (by omega)
        · rw [Nat.add_sub_cancel] at hF
          exact ⟨2 * (sh + k) + 1, 2 * (sh + k), by omega, by omega, hu9 hF⟩
      · obtain ⟨y9, y11, R, rfl, sm, hpk', hro', hX, hD, hRl, _⟩ := h
        refine pn (s_retx (ex_callc (ex_cv vv (ex_cv (vaddn vv vv) (ex_cons (ex_call (a2 vv (vaddn vv (vcn 3))) ⟨a, ns, 4, rfl, sm.seq hS, by decide, fun z4 => ex_nil ⟨ro, R, sh + more, z4, rfl, ⟨rs, hro', hX⟩, hD, by omega, by omega, fun H9 p rows' s9 np hp hDr hl => ?_⟩⟩))))))
        obtain ⟨rs', e1, e2, e3⟩ := hp
        exact q H9 p rows' _ (sm.trans s9) (sm.free np) ⟨rs', e1, e2, fun r hr => sm.free (e3 r hr)⟩ hDr (by omega) (by omega)

end RF
namespace RF
open PySem PySem.Spec PyProof.Rows L2
/-! ### promises and defs: the law's choice of a drawing -/
def spLSome (K : PySem.W.Frag) : Sp := fun vs H Q _ => ∃ (a : Addr) (ns : List Int) (ch : Nat), vs = [.ref a, vn ch] ∧ ch < 8 ∧ SqL K H a (ns.map V.int) ∧ ∀ H' p rows m, Same H H' → H p = none → LR H' p rows → Dr rows m → m ≤ 400 → rows.length ≤ 400 → Q (.ref p) H'
theorem ok_L_some {P : Program} {w : World} {K : PySem.W.Frag} {mg : Str → Option Value} {base : Heap} {fa : Nat → Addr} {fd : Nat → FuncData} (TX : Txt K mg fa fd) : FnOk P w K mg base CX0 5 (fa 50) (fd 50) ["_law_script", "_law_choice"] (spLSome K) := by
  refine TX.F_L_some.ok sc_L_some (fun vs H Q E h => ?_) (fun cdv A outer s H vs Q E hr h => ?_)
  · obtain ⟨a, ns, ch, rfl, hch, hS, q⟩ := h
    rfl
  · have nd := sc_L_some.nd
    have hu := hu_of hr
    obtain ⟨a, ns, ch, rfl, hch, hS, q⟩ := h
    refine ⟨_, (pss_cons (ps_if (pt_cmpR op_lt (pv 1) pe_int (nomark _)) (pss_one (ps_ret (pe_call (ok_L_drawing TX) (hr.mono (by decide)) (by rfl) TX.g_L_drawing TX.F_L_drawing.kp TX.B_L_drawing .nil pass0 (pa_cons (pv 0) (pa_cons pe_int (pa_cons pe_int pa_nil)))))) pss_nil)
      (pss_cons (ps_if (pt_cmpR op_lt (pv 1) pe_int (nomark _)) (pss_one (ps_ret (pe_call (ok_L_grown TX) (hr.mono (by decide)) (by rfl) TX.g_L_grown TX.F_L_grown.kp TX.B_L_grown .nil pass0 (pa_cons (pv 0) (pa_cons pe_int (pa_cons (pe_op op_sub (pe_op op_fdiv (pv 1) pe_int) pe_int) pa_nil)))))) pss_nil)
      (pss_cons (ps_set (i := 2) nd rfl (Or.inl rfl) (pe_call (ok_L_numbers TX) (hr.mono (by decide)) (by rfl) TX.g_L_numbers TX.F_L_numbers.kp TX.B_L_numbers .nil pass0 (pa_cons (pe_call (ok_L_cell TX) (hr.mono (by decide)) (by rfl) TX.g_L_cell TX.F_L_cell.kp TX.B_L_cell .nil pass0 (pa_cons (pv 0) (pa_cons pe_int pa_nil))) (pa_cons pe_int pa_nil))))
      (pss_cons (ps_set (i := 3) nd rfl (Or.inl rfl) (pe_call (ok_L_kind TX) (hr.mono (by decide)) (by rfl) TX.g_L_kind TX.F_L_kind.kp TX.B_L_kind .nil pass0 (pa_cons (pe_ix ix_list (pe_lst (pa_cons pe_str (pa_cons pe_str pa_nil))) (pe_op op_sub (pv 1) pe_int) (fun _ _ => rfl)) (pa_cons (pe_ix ix_tup (pv 2) pe_int (fun _ _ => rfl)) (pa_cons (pe_ix ix_tup (pv 2) pe_int (fun _ _ => rfl)) (pa_cons (pe_ix ix_tup (pv 2) pe_int (fun _ _ => rfl)) pa_nil))))))
      (pss_one (ps_ret (pe_call (ok_L_renamed TX) (hr.mono (by decide)) (by rfl) TX.g_L_renamed TX.F_L_renamed.kp TX.B_L_renamed .nil pass0 (pa_cons (pv 3) (pa_cons (pe_op op_mul (pe_op op_sub (pv 1) pe_int) (pe_callB call_len_seq (by rfl) TX.b_len PySem.boot_len (pa_cons (pv 3) pa_nil))) (pa_cons (pe_call (ok_L_cell TX) (hr.mono (by decide)) (by rfl) TX.g_L_cell TX.F_L_cell.kp TX.B_L_cell .nil pass0 (pa_cons (pv 0) (pa_cons pe_int pa_nil))) pa_nil)))))))))), ?_⟩
    refine q_when (q := ch < 2) (at_ (vltn vv (vcn 2))) (fun h => s_retx (ex_call (a3 vv (vcn 1) (vcn 8)) ⟨a, ns, rfl, hS, fun H' p rows m s np hp hD hm hl => q H' p rows m s np hp.lr hD (by omega) (by omega)⟩)) (fun h2 => ?_)
    refine q_when (q := ch < 6) (at_ (vltn vv (vcn 6))) (fun h => s_retx (ex_call (a3 vv (vcn 1) (vsubn (vdivn vv (vcn 2) (by decide)) (vcn 1) (by omega))) ⟨a, ns, ch / 2 - 1, rfl, by omega, hS, fun H' p rows m s np hp hD hm hl => q H' p rows m s np hp.lr hD (by omega) (by omega)⟩)) (fun h6 => ?_)
    refine q_asg (ex_callc (ex_cons (ex_call (a2 vv (vcn 1)) ⟨a, ns, 1, rfl, hS, by decide, fun z1 => ex_cv (vcn 40) (ex_nil ⟨z1, rfl, fun H1 t r c s s1 ht hr hc hrc hs => ?_⟩)⟩)))
    have hfour : ∃ four : Bool, (if four = true then ch = 6 else ch = 7) := ⟨decide (ch = 6), by
      by_cases e : ch = 6
      · rw [decide_eq_true e, if_pos rfl]; exact e
      · rw [decide_eq_false e, if_neg Bool.false_ne_true]; omega⟩
    obtain ⟨four, hf⟩ := hfour
    have hk : [kStr true, kStr false][ch - 6]? = some (kStr four) := by
      cases four with
      | true => rw [if_pos rfl] at hf; rw [hf]; rfl
      | false => rw [if_neg Bool.false_ne_true] at hf; rw [hf]; rfl
    have hkt : ch - 4 = kTies four := by
      cases four with
      | true => rw [if_pos rfl] at hf; rw [hf]; rfl
      | false => rw [if_neg Bool.false_ne_true] at hf; rw [hf]; rfl
    have hkt2 : kTies four ≤ 3 := by cases four <;> decide
    refine q_asg (ex_callc (ex_cons (ex_opx (ex_lst (vs := [kStr true, kStr false]) (a2 vc vc) (by show 2 ≤ sizeLine; decide) fun l nl => ?_))))
    have s2 := same_upd (o := HO.lst [kStr true, kStr false]) nl
    refine ex (vsubn vv (vcn 6) (by omega)) ⟨l, [kStr true, kStr false], ((ch - 6 : Nat) : Int), kStr four, rfl, rfl, SqL.of upd_same, atI_nat hk, ?_⟩
    have ht2 := s2 _ _ ht
    refine ex_cv (vixT vv vc (v := vn r) rfl ht2) (ex_cv (vixT vv vc (v := vn c) rfl ht2) (ex_cv (vixT vv vc (v := vn s) rfl ht2) (ex_nil ⟨four, r, c, s, rfl, hr, hs, hrc, fun H3 d rows s3 nd hd hD hl => ?_⟩)))
    have s13 := (s1.trans s2).trans s3
    obtain ⟨ds, hd1, hdx, _⟩ := hd
    have hlen : (ds.map V.ref).length = r * c := by rw [List.length_map, hdx.1, hl]
    have hm : (ch - 4) * (r * c) = kTies four * (r * c) := by rw [hkt]
    have hm2 : kTies four * (r * c) ≤ 3 * 40 := Nat.mul_le_mul hkt2 hrc
    refine s_retx (ex_callc (ex_cv vv (ex_cv (vto (vmuln (vsubn vv (vcn 4) (by omega)) (vlen vv hlen hd1) (.inl (by omega))) (congrArg vn hm)) (ex_cons (ex_call (a2 vv (vcn 2)) ⟨a, ns, 2, rfl, s13.seq hS, by decide, fun z2 => ex_nil ⟨d, rows, _, z2, rfl, ⟨ds, hd1, hdx⟩, hD, by omega, by omega, fun H4 p rows' s4 np hp hD' hl' => ?_⟩⟩)))))
    exact q H4 p rows' _ (s13.trans s4) (s13.free np) hp.lr hD' (by omega) (by omega)

/-! data of a drawing -/
def rowD (r : List Nat) : PyData := .list ((r.map Int.ofNat).map PyData.int)
def drD (R : List (List Nat)) : PyData := .list (R.map rowD)
theorem dp_ints {K : PySem.W.Frag} {H : Hp} : ∀ r : List Nat, DpAll K H (vns r) ((r.map Int.ofNat).map PyData.int)
  | [] => .nil
  | x :: r => .cons (.int _) (dp_ints r)
theorem dp_all {K : PySem.W.Frag} {H : Hp} : ∀ {rs : List Addr} {R : List (List Nat)}, LX H rs R → DpAll K H (rs.map V.ref) (R.map rowD)
  | [], [], _ => .nil
  | [], _ :: _, h => by have := h.1; simp at this
  | _ :: _, [], h => by have := h.1; simp at this
  | r :: rs, w :: R, h => .cons (.lst (SqL.of (h.2 0 r w rfl rfl)) (dp_ints w)) (dp_all ⟨by have := h.1; simpa using this, fun i q v e1 e2 => h.2 (i + 1) q v e1 e2⟩)
theorem dp_dr {K : PySem.W.Frag} {H : Hp} {a : Addr} {R : List (List Nat)} (h : LR H a R) : Dp K H (.ref a) (drD R) := let ⟨_, e, x⟩ := h; .lst (SqL.of e) (dp_all x)
theorem rows_lay : ∀ R : List (List Nat), PyData.canLayAll0 (R.map rowD) = true
  | [] => by simp [PyData.canLayAll0]
  | r :: R => by
    have h : (rowD r).canLay0 = true := by
      unfold rowD
      simp only [PyData.canLay0]
      exact PySem.W.canLayAll0_ints _
    rw [List.map_cons, PyData.canLayAll0, h, rows_lay R]; rfl
theorem rows_depth : ∀ R : List (List Nat), PyData.depthAll (R.map rowD) ≤ 2
  | [] => by simp [PyData.depthAll]
  | r :: R => by
    have h1 := rows_depth R
    have h2 := PySem.W.depthAll_ints (r.map Int.ofNat)
    simp only [List.map_cons, PyData.depthAll, PyData.depth, rowD]
    omega
theorem dr_lay (R : List (List Nat)) : (drD R).canLay0 = true := by
  unfold drD
  simp only [PyData.canLay0]
  exact rows_lay R
theorem dr_shaped (R : List (List Nat)) : SeqAt.shaped (drD R) = true := by
  have h1 := rows_depth R
  have h2 : (drD R).depth ≤ 64 := by
    unfold drD
    simp only [PyData.depth]
    omega
  unfold SeqAt.shaped
  rw [dr_lay R, decide_eq_true h2]; rfl
theorem vneD {K : PySem.W.Frag} {σ : L2.St} {H : Hp} {ta tb : TE} {a b : Addr} {R : List (List Nat)} (ha : Va ta σ H (.ref a)) (hb : Va tb σ H (.ref b)) (h1 : LR H a R) (h2 : LR H b R) : Va (tOp (rNeD K) ta tb) σ H (.bl false) := vop ha hb fun Q q =>
  ⟨drD R, drD R, dp_dr h1, dp_dr h2, dr_shaped R, dr_shaped R, by rw [PySem.SeqAt.eqv_refl _ (dr_lay R)]; exact q⟩
theorem veqD {K : PySem.W.Frag} {σ : L2.St} {H : Hp} {ta tb : TE} {a b : Addr} {R : List (List Nat)} (ha : Va ta σ H (.ref a)) (hb : Va tb σ H (.ref b)) (h1 : LR H a R) (h2 : LR H b R) : Va (tOp (rEqD K) ta tb) σ H (.bl true) := vop ha hb fun Q q =>
  ⟨drD R, drD R, dp_dr h1, dp_dr h2, dr_shaped R, dr_shaped R, by rw [PySem.SeqAt.eqv_refl _ (dr_lay R)]; exact q⟩
theorem pair_ok {a : Addr} {R : List (List Nat)} {m : Nat} {H : Hp} {Q : VK} {E : XK} (h : LR H a R) (hD : Dr R m) (h1 : R.length ≤ 400) (h2 : m ≤ 400) (q : ∀ H' v, Same H H' → PairOk H' R m v → Q v H') : spPair [.ref a] H Q E :=
  ⟨a, R, m, rfl, h, hD, by omega, by omega, fun H' s hn => q H' _ s (.inl ⟨rfl, hn⟩), fun H' t p1 p2 w v s ht hw hv _ _ _ r1 r2 hc hx => q H' _ s (.inr ⟨t, p1, p2, w, v, rfl, ht, hw, hv, r1, r2, hc, hx⟩)⟩
theorem pair_okF {a : Addr} {R : List (List Nat)} {m : Nat} {H : Hp} {Q : VK} {E : XK} (h : LR H a R) (hD : Dr R m) (h1 : R.length ≤ 400) (h2 : m ≤ 400) (q : ∀ H' v, Same H H' → PairOk H' R m v → (∀ t p1 p2, v = .ref t → H' t = some (.tup [.ref p1, .ref p2]) → H p1 = none ∧ H p2 = none ∧ p1 ≠ p2) → Q v H') : spPair [.ref a] H Q E :=
  ⟨a, R, m, rfl, h, hD, by omega, by omega, fun H' s hn => q H' _ s (.inl ⟨rfl, hn⟩) (fun _ _ _ z => by cases z), fun H' t p1 p2 w v s ht hw hv n12 n1 n2 r1 r2 hc hx => q H' _ s (.inr ⟨t, p1, p2, w, v, rfl, ht, hw, hv, r1, r2, hc, hx⟩) (fun t' q1 q2 z1 z2 => by
    cases z1
    rw [ht] at z2
    have z3 := HO.tup.inj (Option.some.inj z2)
    cases z3
    exact ⟨n1, n2, n12⟩)⟩
theorem ex_revl {K : PySem.W.Frag} {σ : L2.St} {H : Hp} {te : TE} {a : Addr} {w : List Nat} {Q : VK} (h : Va te σ H (.ref a)) (ha : LI H a w) (q : ∀ l, H l = none → Q (.ref l) (upd H l (.lst (vns w.reverse)))) : tRevL K te σ H Q :=
  h _ ⟨a, vns w, rfl, SqL.of ha, fun l nl => by
    have e : (vns w).reverse = vns w.reverse := List.map_reverse.symm
    rw [e]; exact q l nl⟩
theorem ok_paper {a : Addr} {R : List (List Nat)} {m : Nat} {v : V} {H : Hp} {Q : VK} {E : XK} (h : LR H a R) (hD : Dr R m) (h1 : R.length ≤ 400) (h2 : m ≤ 400) (hP : PairOk H R m v) (q : ∀ H', Same H H' → Q (.bl true) H') : spLPaper [.ref a, v] H Q E :=
  ⟨a, v, R, m, rfl, h, hD, hP, by omega, by omega, q⟩
theorem notcallx {sp : Sp} {E : XK} {ta : TA} {σ : L2.St} {H : Hp} {Q : Bool → Hp → Prop} (h : ta σ H fun vs H1 => sp (vs ++ []) H1 (fun x H2 => ∃ c, x = V.bl c ∧ Q (!c) H2) E) : tNot (tB (tCall sp [] E ta)) σ H Q := h
theorem ex_andx {σ : L2.St} {H : Hp} {ta tb : TE} {Q : VK} (h : ta σ H fun x H1 => ∃ c, x = .bl c ∧ if c = true then tb σ H1 Q else Q (.bl false) H1) : tAndV ta tb σ H Q := h
theorem q_ifg {σ : L2.St} {H : Hp} {t : TT} {ts us : TS} {D : Ends} {q : Prop} [Decidable q] (C : L2.St → Hp → Prop) (h : An t σ H (decide q)) (h1 : q → ∀ D' : Ends, (∀ σ' H', C σ' H' → D'.nx σ' H') → ts D' σ H) (h0 : ¬ q → C σ H) (k : ∀ σ' H', C σ' H' → us D σ' H') : tSeq (tIfS t ts tNext) us D σ H :=
  q_when h (fun e => h1 e _ k) (fun e => k σ H (h0 e))
/-- [list(row) for row in rows] -/
theorem ex_copies {K : PySem.W.Frag} {σ : L2.St} {H : Hp} {i : Nat} {tl : TE} {vs : List Nat} {Q : VK} {a : Addr} {R : List (List Nat)} (h : Va tl σ H (.ref a)) (hA : LR H a R) (hz : R.length ≤ 1000) (hw : ∀ x, wipe ((wipe σ vs).set i (some x)) vs = wipe σ vs) (hv : ∀ x, ((wipe σ vs).set i (some x))[i]? = some (some x))
    (q : ∀ H2 p, Same H H2 → H p = none → LR H2 p R → Q (.ref p) H2) : tLc (iList K tl) (gName i) tYes (tCB (fun xs H Q => ∃ p ys, xs = [V.ref p] ∧ (SqL K H p ys ∨ SqT K H p ys) ∧ ∀ l, H l = none → Q (.ref l) (upd H l (.lst ys))) (tCons (tVar i) tNil)) vs σ H Q := by
  obtain ⟨as, ha, hx⟩ := hA
  refine ex_lcO (ys := R) h ha hw (by rw [List.length_map, hx.1]) (by rw [List.length_map, hx.1]; omega) (fun j x y H' e1 e2 s Q' q' => ?_) q
  obtain ⟨r, hr, rfl⟩ := ref_get' e1
  exact ex_listof (vv (hv _)) (s _ _ (hx.2 j r y hr e2)) fun l nl => q' _ l (same_upd nl) nl upd_same
def spLaw (K : PySem.W.Frag) : Sp := fun vs H Q _ => ∃ (a : Addr) (ns : List Int), vs = [.ref a] ∧ SqL K H a (ns.map V.int) ∧ ∀ H', Q (.bl true) H'
theorem ok_law {P : Program} {w : World} {K : PySem.W.Frag} {mg : Str → Option Value} {base : Heap} {fa : Nat → Addr} {fd : Nat → FuncData} (TX : Txt K mg fa fd) : FnOk P w K mg base CX0 8 (fa 59) (fd 59) ["_law_script"] (spLaw K) := by
  refine TX.F_law.ok sc_law (fun vs H Q E h => ?_) (fun cdv A outer s H vs Q E hr h => ?_)
  · obtain ⟨a, ns, rfl, hS, q⟩ := h
    rfl
  · have nd := sc_law.nd
    have hu := hu_of hr
    obtain ⟨a, ns, rfl, hS, q⟩ := h
    refine ⟨_, (pss_cons (ps_asg (pe_call (ok_L_draws TX) (hr.mono (by decide)) (by rfl) TX.g_L_draws TX.F_L_draws.kp TX.B_L_draws .nil pass0 (pa_cons (pe_call (ok_L_cell TX) (hr.mono (by decide)) (by rfl) TX.g_L_cell TX.F_L_cell.kp TX.B_L_cell .nil pass0 (pa_cons (pv 0) (pa_cons pe_int pa_nil))) (pa_cons (pe_lst (pa_cons pe_int (pa_cons pe_int (pa_cons pe_int (pa_cons pe_int pa_nil))))) pa_nil))) (pg_unl (by rfl) (pgs_cons (pg_name (i := 1) nd rfl (Or.inl rfl)) (pgs_cons (pg_name (i := 2) nd rfl (Or.inl rfl)) (pgs_cons (pg_name (i := 3) nd rfl (Or.inl rfl)) (pgs_cons (pg_name (i := 4) nd rfl (Or.inl rfl)) pgs_nil))))))
      (pss_cons (ps_set (i := 5) nd rfl (Or.inl rfl) (pe_call (ok_L_some TX) (hr.mono (by decide)) (by rfl) TX.g_L_some TX.F_L_some.kp TX.B_L_some .nil pass0 (pa_cons (pv 0) (pa_cons (pv 1) pa_nil))))
      (pss_cons (ps_if (pt_cmpR op_eq (pv 2) pe_int (nomark _)) (pss_one (ps_set (i := 5) nd rfl (Or.inl rfl) (pe_call (ok_L_renamed TX) (hr.mono (by decide)) (by rfl) TX.g_L_renamed TX.F_L_renamed.kp TX.B_L_renamed .nil pass0 (pa_cons (pe_call (ok_L_crossed TX) (hr.mono (by decide)) (by rfl) TX.g_L_crossed TX.F_L_crossed.kp TX.B_L_crossed .nil pass0 (pa_cons (pe_op op_add pe_int (pv 3)) (pa_cons (pe_op op_add pe_int (pv 4)) pa_nil))) (pa_cons (pe_op op_add (pe_op op_add pe_int (pv 3)) (pv 4)) (pa_cons (pe_call (ok_L_cell TX) (hr.mono (by decide)) (by rfl) TX.g_L_cell TX.F_L_cell.kp TX.B_L_cell .nil pass0 (pa_cons (pv 0) (pa_cons pe_int pa_nil))) pa_nil)))))) pss_nil)
      (pss_cons (ps_setLc (i := 6) (own := [("_law_row", 10)]) (g := gName 10) (tt := tYes) (by rfl) nd rfl rfl (sw_true rfl rfl rfl (by decide +kernel)) (pi_list (pv 5)) (blkOk_by (own := [("_law_row", 10)]) (N := nm_law) (sc := (defScope s_law)) (by decide +kernel)) (fun _ _ _ _ _ => (pg_name (i := 10) nd rfl (Or.inl rfl))) (fun _ _ _ _ _ => pts_nil) (fun _ _ _ _ _ => (pe_callTy (call_list_ofK (K := K) rfl) (by rfl) TX.b_list (by decide +kernel) (pa_cons (pv 10) pa_nil))))
      (pss_cons (ps_set (i := 7) nd rfl (Or.inl rfl) (pe_call (ok_pair_of TX) (hr.mono (by decide)) (by rfl) TX.g_pair_of TX.F_pair_of.kp TX.B_pair_of .nil pass0 (pa_cons (pv 6) pa_nil)))
      (pss_cons (ps_if (PW.pt (pw_or (pt_cmpR (op_neD hr.units) (pv 6) (pv 5) (nomark _)) (pw_or1 (pt_not (pt_val (pe_call (ok_L_paper TX) (hr.mono (by decide)) (by rfl) TX.g_L_paper TX.F_L_paper.kp TX.B_L_paper .nil pass0 (pa_cons (pv 5) (pa_cons (pv 7) pa_nil)))))))) (pss_one (ps_ret pe_bl)) pss_nil)
      (pss_cons (ps_if (pt_cmpR op_notN (pv 7) pe_non (nomark _)) (pss_cons (ps_expr (pe_bm PySem.F.plainAttrs_list PySem.F.slot_list_append PySem.F.type_list_append mt_append (pe_ix ix_tup (pv 7) pe_int (fun _ _ => rfl)) (pa_cons pe_int pa_nil)))
      (pss_one (ps_expr (pe_bm0 PySem.F.plainAttrs_list PySem.F.slot_list_clear PySem.F.type_list_clear mt_clear (pe_ix ix_tup (pv 7) pe_int (fun _ _ => rfl)))))) pss_nil)
      (pss_cons (ps_set (i := 8) nd rfl (Or.inl rfl) (pe_call (ok_L_settled TX) (hr.mono (by decide)) (by rfl) TX.g_L_settled TX.F_L_settled.kp TX.B_L_settled .nil pass0 (pa_cons (pe_lc (own := [("_law_row", 10)]) (g := gName 10) (tt := tYes) (by rfl) nd (pi_list (pv 5)) (blkOk_by (own := [("_law_row", 10)]) (N := nm_law) (sc := (defScope s_law)) (by decide +kernel)) (fun _ _ _ _ _ => (pg_name (i := 10) nd rfl (Or.inl rfl))) (fun _ _ _ _ _ => pts_nil) (fun _ _ _ _ _ => (pe_revLK (K := K) rfl (pv 10)))) pa_nil)))
      (pss_cons (ps_for PassesOwn.never (by rfl) (pi_list (pe_lst (pa_cons (pe_lst (pa_cons (pe_lst (pa_cons pe_int (pa_cons pe_int pa_nil))) pa_nil)) (pa_cons (pe_lst (pa_cons (pe_lst (pa_cons pe_int (pa_cons pe_int (pa_cons pe_int (pa_cons pe_int pa_nil))))) pa_nil)) (pa_cons (pv 8) pa_nil))))) (pg_name (i := 9) nd rfl (Or.inl rfl)) (pss_one (ps_if (pt_not (pt_val (pe_call (ok_L_paper TX) (hr.mono (by decide)) (by rfl) TX.g_L_paper TX.F_L_paper.kp TX.B_L_paper .nil pass0 (pa_cons (pv 9) (pa_cons (pe_call (ok_pair_of TX) (hr.mono (by decide)) (by rfl) TX.g_pair_of TX.F_pair_of.kp TX.B_pair_of .nil pass0 (pa_cons (pe_lc (own := [("_law_row", 10)]) (g := gName 10) (tt := tYes) (by rfl) nd (pi_list (pv 9)) (blkOk_by (own := [("_law_row", 10)]) (N := nm_law) (sc := (defScope s_law)) (by decide +kernel)) (fun _ _ _ _ _ => (pg_name (i := 10) nd rfl (Or.inl rfl))) (fun _ _ _ _ _ => pts_nil) (fun _ _ _ _ _ => (pe_callTy (call_list_ofK (K := K) rfl) (by rfl) TX.b_list (by decide +kernel) (pa_cons (pv 10) pa_nil)))) pa_nil)) pa_nil))))) (pss_one (ps_ret pe_bl)) pss_nil)))
      (pss_one (ps_ret (pe_and (pe_call (ok_L_paper TX) (hr.mono (by decide)) (by rfl) TX.g_L_paper TX.F_L_paper.kp TX.B_L_paper .nil pass0 (pa_cons (pv 5) (pa_cons (pe_call (ok_pair_of TX) (hr.mono (by decide)) (by rfl) TX.g_pair_of TX.F_pair_of.kp TX.B_pair_of .nil pass0 (pa_cons (pv 6) pa_nil)) pa_nil))) (pe_one (pe_cmpR (op_eqD hr.units) (pv 6) (pv 5) (nomark _))))))))))))))), ?_⟩
    refine sq (s_asgx (ex_callc (ex_cons (ex_call (a2 vv (vcn 0)) ⟨a, ns, 0, rfl, hS, by decide, fun z1 => ex_cons (ex_lst (vs := vns [8, 16, 60, 60]) (a4 (vcn 8) (vcn 16) (vcn 60) (vcn 60)) (by show 4 ≤ sizeLine; decide) fun l nl => ex_nil ⟨z1, l, _, rfl, upd_same, fun n hn => ?_, by decide, fun H1 p1 f1 s1 np1 hp1 hl1 hv1 => ?_⟩)⟩))))
    · simp only [List.mem_cons, List.not_mem_nil, or_false] at hn
      omega
    have sA := (same_upd (o := HO.lst (vns [8, 16, 60, 60])) nl).trans s1
    obtain ⟨ch, la, one, two, rfl⟩ := len4' hl1
    have hch := hv1 0 ch 8 rfl rfl
    have hone := hv1 2 one 60 rfl rfl
    have htwo := hv1 3 two 60 rfl rfl
    refine ⟨p1, _, rfl, SqL.of hp1, rfl, _, _, rfl, _, _, rfl, _, _, rfl, _, _, rfl, rfl, pn ?_⟩
    refine q_call (a2 vv vv) ⟨a, ns, ch, rfl, hch, sA.seq hS, fun H2 d0 R0 m0 s2 nd0 hd0 hD0 hm0 hr0 => ?_⟩
    have sB := sA.trans s2
    refine q_ifg (q := la = 0) (fun σ' H' => ∃ d R m, σ' = [some (.ref a), some (vn ch), some (vn la), some (vn one), some (vn two), some (.ref d), none, none, none, none, none] ∧ LR H' d R ∧ Dr R m ∧ m ≤ 400 ∧ R.length ≤ 400) (at_ (veqP vv vc (by omega))) (fun _ D' hD' => ?_) (fun _ => ⟨d0, R0, m0, rfl, hd0, hD0, hm0, hr0⟩) (fun σ' H3 h => ?_)
    · refine s_asg (ex_callc (ex_cons (ex_call (a2 (vaddn (vcn 1) vv) (vaddn (vcn 1) vv)) ⟨1 + one, 1 + two, rfl, by omega, by omega, by omega, by omega, fun H3 c s3 nc hc => ?_⟩)))
      have hcd := crossR_dr (p := 1 + one) (t := 1 + two) (by omega) (by omega)
      have hcl : (crossR (1 + one) (1 + two)).length ≤ 400 := by
        unfold crossR
        rw [List.length_append, List.length_append, loopR_len, loopR_len]
        show 1 + _ + _ ≤ _
        omega
      refine ex_cv (vto (vaddn (vaddn (vcn 2) vv) vv) (congrArg vn (show 2 + one + two = 1 + one + (1 + two) by omega))) (ex_cons (ex_call (a2 vv (vcn 2)) ⟨a, ns, 2, rfl, (sB.trans s3).seq hS, by decide, fun z2 => ex_nil ⟨c, _, _, z2, rfl, hc, hcd, hcl, by omega, fun H4 d R s4 nd hd hD hl => hD' _ _ ⟨d, R, _, rfl, hd.lr, hD, by omega, by omega⟩⟩⟩))
    obtain ⟨d, R, m, rfl, hd, hD, hm, hRl⟩ := h
    -- handed
    refine q_asg (ex_copies vv hd (by omega) (fun _ => rfl) (fun _ => rfl) fun H4 hn s4 nhn hhn => ?_)
    have hd4 := hd.mono s4
    -- found
    refine q_asg (ex_call (a1 vv) (pair_okF hhn hD hRl hm fun H5 v s5 hP hfr => ?_))
    -- the rows are as they were, and the pair holds
    refine q_ifx (orx (at_ (vneD vv vv (hhn.mono s5) (hd4.mono s5))) (notcallx (ex_cv vv (ex_cv vv (ex_nil (ok_paper (hd4.mono s5) hD hRl hm hP fun H6 s6 => ⟨true, rfl, iteF (s_nx (pn ?_))⟩))))))
    have hP6 := hP.mono s6
    -- the pair is spoilt
    refine q_ifh (q := v ≠ .non) (fun H7 => Same H4 H7) (ato (at_ (vnotN vv)) (decide_not).symm) (fun hv D' hD' => ?_) (fun _ => s5.trans s6) (fun H7 s7 => ?_)
    · rcases hP with ⟨rfl, _⟩ | ⟨t, p1, p2, w, x, rfl, ht, hw, hx, hrd, _⟩
      · exact absurd rfl hv
      · obtain ⟨n1, n2, n12⟩ := hfr t p1 p2 rfl ht
        have ht6 := s6 _ _ ht
        have hw6 := s6 _ _ hw
        have hx6 := s6 _ _ hx
        have hwl := round_len hD hrd
        refine q_app (v := vn 0) (vixT vv vc (xs := [.ref p1, .ref p2]) (v := .ref p1) rfl ht6) (vcn 0) hw6 (by rw [vns_len]; omega) ?_
        have ntp : t ≠ p1 := fun z => by rw [z, hw6] at ht6; cases ht6
        refine vixT vv vc (xs := [.ref p1, .ref p2]) (v := .ref p2) rfl ((upd_ne ntp).trans ht6) _ ⟨.inl ⟨rfl, _, SqL.of ((upd_ne n12.symm).trans hx6)⟩, p2, _, rfl, rfl, (upd_ne n12.symm).trans hx6, hD' _ ?_⟩
        exact same_mut (same_mut (s5.trans s6) n1) n2
    have hd7 := hd4.mono s7
    have hh7 := hhn.mono s7
    -- about
    obtain ⟨ds, hda, hdx⟩ := id hd7
    refine q_asg (ex_callc (ex_cons (ex_lcO (ys := R.map List.reverse) vv hda (fun _ => rfl) (by rw [List.length_map, List.length_map, hdx.1]) (by rw [List.length_map, hdx.1]; omega) (fun j x y H' e1 e2 s Q' q' => ?_) fun H8 rv s8 nrv hrv => ?_)))
    · obtain ⟨r, hr, rfl⟩ := ref_get' e1
      rw [List.getElem?_map] at e2
      cases hw : R[j]? with
      | none => rw [hw] at e2; cases e2
      | some w =>
        rw [hw] at e2
        cases Option.some.inj e2
        exact ex_revl vv (s _ _ (hdx.2 j r w hr hw)) fun l nl => q' _ l (same_upd nl) nl upd_same
    have hDr : Dr (R.map List.reverse) m := hD.flatPerm (PermR.flat ⟨List.length_map _, fun i r r' e1 e2 => by
      rw [List.getElem?_map, e1] at e2
      cases Option.some.inj e2
      exact List.reverse_perm r⟩)
    refine ex_nil ⟨rv, _, rfl, hrv, by rw [List.length_map]; omega, fun r hr => by have := row_len hDr hr; omega, fun H9 ab Rab s9 nab hab hpr => ?_⟩
    have hDab := hDr.flatPerm hpr.flat
    have hlab : Rab.length = R.length := by rw [hpr.1, List.length_map]
    have s79 := s8.trans s9
    have hd9 := hd7.mono s79
    have hh9 := hh7.mono s79
    -- the three others
    refine sq (s_forx (ex_lstx (ex_cons (ex_lstx (ex_cons (ex_lst (vs := vns [0, 1]) (a2 (vcn 0) (vcn 1)) (by show 2 ≤ sizeLine; decide) fun i1 n1 => ex_nil ⟨by show 1 ≤ sizeLine; decide, fun o1 k1 => ex_cons (ex_lstx (ex_cons (ex_lst (vs := vns [0, 2, 1, 3]) (a4 (vcn 0) (vcn 2) (vcn 1) (vcn 3)) (by show 4 ≤ sizeLine; decide) fun i2 n2 => ex_nil ⟨by show 1 ≤ sizeLine; decide, fun o2 k2 => ex_cv vv (ex_nil ⟨by show 3 ≤ sizeLine; decide, fun l nl => ?_⟩)⟩)))⟩))))))
    have t1 := same_upd (o := HO.lst (vns [0, 1])) n1
    have t2 := same_upd (o := HO.lst [V.ref i1]) k1
    have t3 := same_upd (o := HO.lst (vns [0, 2, 1, 3])) n2
    have t4 := same_upd (o := HO.lst [V.ref i2]) k2
    have t5 := same_upd (o := HO.lst [V.ref o1, V.ref o2, V.ref ab]) nl
    have L1 : LR (upd (upd H9 i1 (.lst (vns [0, 1]))) o1 (.lst [V.ref i1])) o1 [[0, 1]] := ⟨[i1], upd_same, (LX.nil).snoc (t2 _ _ upd_same)⟩
    have L2' : LR (upd (upd (upd (upd H9 i1 (.lst (vns [0, 1]))) o1 (.lst [V.ref i1])) i2 (.lst (vns [0, 2, 1, 3]))) o2 (.lst [V.ref i2])) o2 [[0, 2, 1, 3]] := ⟨[i2], upd_same, (LX.nil).snoc (t4 _ _ upd_same)⟩
    have L1f := ((L1.mono t3).mono t4).mono t5
    have L2f := L2'.mono t5
    have t15 := (((t1.trans t2).trans t3).trans t4).trans t5
    have habf := hab.lr.mono t15
    have hlf := upd_same (H := upd (upd (upd (upd H9 i1 (.lst (vns [0, 1]))) o1 (.lst [V.ref i1])) i2 (.lst (vns [0, 2, 1, 3]))) o2 (.lst [V.ref i2])) (a := l) (o := HO.lst [V.ref o1, V.ref o2, V.ref ab])
    have hdf := hd9.mono t15
    have hhf := hh9.mono t15
    revert L1f L2f habf hlf hdf hhf
    generalize upd (upd (upd (upd (upd H9 i1 (.lst (vns [0, 1]))) o1 (.lst [V.ref i1])) i2 (.lst (vns [0, 2, 1, 3]))) o2 (.lst [V.ref i2])) l (.lst [V.ref o1, V.ref o2, V.ref ab]) = Hf
    intro L1f L2f habf hlf hdf hhf
    have D1 : Dr [[0, 1]] 1 := ⟨by decide, fun x => by simp; omega⟩
    have D2 : Dr [[0, 2, 1, 3]] 2 := ⟨by decide, fun x => by simp; omega⟩
    refine forL_n hlf (fun i σ H' => ∃ y9, σ = [some (.ref a), some (vn ch), some (vn la), some (vn one), some (vn two), some (.ref d), some (.ref hn), some v, some (.ref ab), y9, none] ∧ Same Hf H') ⟨none, rfl, Same.refl _⟩ (fun i σ H' _ h => ?_) (fun i x σ H' hi h => ?_) (fun σ H' h => ?_)
    · obtain ⟨_, _, sm⟩ := h
      exact sm _ _ hlf
    · obtain ⟨y9, rfl, sm⟩ := h
      obtain ⟨o, R', m', rfl, hL, hD', hz1, hz2⟩ : ∃ o R' m', x = .ref o ∧ LR Hf o R' ∧ Dr R' m' ∧ R'.length ≤ 400 ∧ m' ≤ 400 := by
        match i, hi with
        | 0, hi => exact ⟨o1, _, _, (Option.some.inj hi).symm, L1f, D1, by decide, by decide⟩
        | 1, hi => exact ⟨o2, _, _, (Option.some.inj hi).symm, L2f, D2, by decide, by decide⟩
        | 2, hi => exact ⟨ab, _, _, (Option.some.inj hi).symm, habf, hDab, by omega, hm⟩
        | k + 3, hi => simp at hi
      exact s_ifx (notcallx (ex_cv vv (ex_cons (ex_callc (ex_cons (ex_copies vv (hL.mono sm) (by omega) (fun _ => rfl) (fun _ => rfl) fun Ha p sa np hp => ex_nil (pair_okF hp hD' hz1 hz2 fun Hb w sb hPw _ => ex_nil (ok_paper ((hL.mono sm).mono (sa.trans sb)) hD' hz1 hz2 hPw fun Hc sc => ⟨true, rfl, iteF (pn ⟨_, rfl, ((sm.trans sa).trans sb).trans sc⟩)⟩))))))))
    · obtain ⟨y9, rfl, sm⟩ := h
      refine pn (s_retx (ex_andx (ex_callc (ex_cv vv (ex_cons (ex_call (a1 vv) (pair_okF (hhf.mono sm) hD hRl hm fun Ha w sa hPw _ => ex_nil (ok_paper ((hdf.mono sm).mono sa) hD hRl hm hPw fun Hb sb => ⟨true, rfl, iteT ?_⟩))))))))
      have sab := (sm.trans sa).trans sb
      exact ex (veqD vv vv (hhf.mono sab) (hdf.mono sab)) (q _)

end RF
namespace RF
open PySem PySem.Spec PyProof.Rows L2
/-! ### what the top has written -/
def FdOk (K : PySem.W.Frag) (x : Str) (st : Stmt) : Prop := ∃ (f : Addr) (oc : Value) (od an : Option Addr) (osl : Array (Option Value)) (kV doc pm cdv ct : Value), PySem.W.nsIn K mainGlobals x = some (some (.ref f)) ∧ K.lookup f = some ⟨oc, od, .func (PySem.W.fnOf x x (defArgs st) (defBody st) (defScope st) .none kV doc pm an cdv ct), osl⟩ ∧ PySem.W.codeIn K cdv x = true ∧ PySem.W.keepIn K (.ref f) = true
theorem fd_ok {K : PySem.W.Frag} {x : Str} {st : Stmt} {f : Addr} {oc : Value} {od an : Option Addr} {osl : Array (Option Value)} {kV doc pm cdv ct : Value} (a : PySem.W.nsIn K mainGlobals x = some (some (.ref f))) (l : K.lookup f = some ⟨oc, od, .func (PySem.W.fnOf x x (defArgs st) (defBody st) (defScope st) .none kV doc pm an cdv ct), osl⟩) (c : PySem.W.codeIn K cdv x = true) (k : PySem.W.keepIn K (.ref f) = true) : FdOk K x st :=
  ⟨f, oc, od, an, osl, kV, doc, pm, cdv, ct, a, l, c, k⟩
theorem fd_fun {K : PySem.W.Frag} {x : Str} {st : Stmt} (h : FdOk K x st) : ∃ f fd, PySem.W.nsIn K mainGlobals x = some (some (.ref f)) ∧ Fun K x x st f fd :=
  let ⟨f, _, _, _, _, _, _, _, _, _, a, l, c, k⟩ := h; ⟨f, _, a, fun_mk l c k⟩
theorem all_mk {l : PySem.W.OpenLaw} {w : World} {K : PySem.W.Frag} {h : Heap} {mg : Str → Option Value} {fa : Addr} (X : K.In h) (G : h.Ns mainGlobals mg) (hfa : mg "law" = some (.ref fa))
    (e_mate_of : FdOk K "mate_of" s_mate_of)
    (e_least_first : FdOk K "least_first" s_least_first)
    (e_begun_at : FdOk K "begun_at" s_begun_at)
    (e_count_ends : FdOk K "count_ends" s_count_ends)
    (e_seats_of : FdOk K "seats_of" s_seats_of)
    (e_behind_of : FdOk K "behind_of" s_behind_of)
    (e_is_walk : FdOk K "is_walk" s_is_walk)
    (e_is_round : FdOk K "is_round" s_is_round)
    (e_ask_round : FdOk K "ask_round" s_ask_round)
    (e_cut_along : FdOk K "cut_along" s_cut_along)
    (e_lands_of : FdOk K "lands_of" s_lands_of)
    (e_part_about : FdOk K "part_about" s_part_about)
    (e_parts_of : FdOk K "parts_of" s_parts_of)
    (e_holes_of : FdOk K "holes_of" s_holes_of)
    (e_tree_from : FdOk K "tree_from" s_tree_from)
    (e_way_up : FdOk K "way_up" s_way_up)
    (e_turned_about : FdOk K "turned_about" s_turned_about)
    (e_round_along : FdOk K "round_along" s_round_along)
    (e_land_numbers : FdOk K "land_numbers" s_land_numbers)
    (e_land_tree : FdOk K "land_tree" s_land_tree)
    (e_left_ties : FdOk K "left_ties" s_left_ties)
    (e_both_trees : FdOk K "both_trees" s_both_trees)
    (e_old_end : FdOk K "old_end" s_old_end)
    (e_shortest_back : FdOk K "shortest_back" s_shortest_back)
    (e_turn_over : FdOk K "turn_over" s_turn_over)
    (e_pair_of : FdOk K "pair_of" s_pair_of)
    (e_L_cell : FdOk K "_law_cell" s_L_cell)
    (e_L_draws : FdOk K "_law_draws" s_L_draws)
    (e_L_mate : FdOk K "_law_mate" s_L_mate)
    (e_L_settled : FdOk K "_law_settled" s_L_settled)
    (e_L_drawing : FdOk K "_law_drawing" s_L_drawing)
    (e_L_seats : FdOk K "_law_seats" s_L_seats)
    (e_L_behind : FdOk K "_law_behind" s_L_behind)
    (e_L_lands : FdOk K "_law_lands" s_L_lands)
    (e_L_tied : FdOk K "_law_tied" s_L_tied)
    (e_L_renamed : FdOk K "_law_renamed" s_L_renamed)
    (e_L_grown : FdOk K "_law_grown" s_L_grown)
    (e_L_kind : FdOk K "_law_kind" s_L_kind)
    (e_L_numbers : FdOk K "_law_numbers" s_L_numbers)
    (e_L_crossed : FdOk K "_law_crossed" s_L_crossed)
    (e_L_some : FdOk K "_law_some" s_L_some)
    (e_L_is_walk : FdOk K "_law_is_walk" s_L_is_walk)
    (e_L_is_turn : FdOk K "_law_is_turn" s_L_is_turn)
    (e_L_lefts : FdOk K "_law_lefts" s_L_lefts)
    (e_L_crossing : FdOk K "_law_crossing" s_L_crossing)
    (e_L_wholes : FdOk K "_law_wholes" s_L_wholes)
    (e_L_parts : FdOk K "_law_parts" s_L_parts)
    (e_L_holes : FdOk K "_law_holes" s_L_holes)
    (e_L_paper : FdOk K "_law_paper" s_L_paper)
    (e_law : FdOk K "law" s_law)
    (z_bool : PySem.W.nsIn K mainGlobals "bool" = some none)
    (z_enumerate : PySem.W.nsIn K mainGlobals "enumerate" = some none)
    (z_int : PySem.W.nsIn K mainGlobals "int" = some none)
    (z_isinstance : PySem.W.nsIn K mainGlobals "isinstance" = some none)
    (z_len : PySem.W.nsIn K mainGlobals "len" = some none)
    (z_list : PySem.W.nsIn K mainGlobals "list" = some none)
    (z_max : PySem.W.nsIn K mainGlobals "max" = some none)
    (z_min : PySem.W.nsIn K mainGlobals "min" = some none)
    (z_range : PySem.W.nsIn K mainGlobals "range" = some none)
    (z_reversed : PySem.W.nsIn K mainGlobals "reversed" = some none)
    (z_set : PySem.W.nsIn K mainGlobals "set" = some none)
    (z_sorted : PySem.W.nsIn K mainGlobals "sorted" = some none)
    (z_sum : PySem.W.nsIn K mainGlobals "sum" = some none)
    (z_tuple : PySem.W.nsIn K mainGlobals "tuple" = some none)
    (z_zip : PySem.W.nsIn K mainGlobals "zip" = some none)
    : ∃ fd : FuncData, (∀ (s : Shared) (u : Value), BindsTo s fd ⟨[u], []⟩ [("_law_script", u)]) ∧ ∀ base : Heap, K.In base → base.Ns mainGlobals mg → FnOk l.prog w K mg base CX0 8 fa fd ["_law_script"] (spLaw K) := by
  obtain ⟨f_mate_of, d_mate_of, a_mate_of, F_mate_of⟩ := fd_fun e_mate_of
  obtain ⟨f_least_first, d_least_first, a_least_first, F_least_first⟩ := fd_fun e_least_first
  obtain ⟨f_begun_at, d_begun_at, a_begun_at, F_begun_at⟩ := fd_fun e_begun_at
  obtain ⟨f_count_ends, d_count_ends, a_count_ends, F_count_ends⟩ := fd_fun e_count_ends
  obtain ⟨f_seats_of, d_seats_of, a_seats_of, F_seats_of⟩ := fd_fun e_seats_of
  obtain ⟨f_behind_of, d_behind_of, a_behind_of, F_behind_of⟩ := fd_fun e_behind_of
  obtain ⟨f_is_walk, d_is_walk, a_is_walk, F_is_walk⟩ := fd_fun e_is_walk
  obtain ⟨f_is_round, d_is_round, a_is_round, F_is_round⟩ := fd_fun e_is_round
  obtain ⟨f_ask_round, d_ask_round, a_ask_round, F_ask_round⟩ := fd_fun e_ask_round
  obtain ⟨f_cut_along, d_cut_along, a_cut_along, F_cut_along⟩ := fd_fun e_cut_along
  obtain ⟨f_lands_of, d_lands_of, a_lands_of, F_lands_of⟩ := fd_fun e_lands_of
  obtain ⟨f_part_about, d_part_about, a_part_about, F_part_about⟩ := fd_fun e_part_about
  obtain ⟨f_parts_of, d_parts_of, a_parts_of, F_parts_of⟩ := fd_fun e_parts_of
  obtain ⟨f_holes_of, d_holes_of, a_holes_of, F_holes_of⟩ := fd_fun e_holes_of
  obtain ⟨f_tree_from, d_tree_from, a_tree_from, F_tree_from⟩ := fd_fun e_tree_from
  obtain ⟨f_way_up, d_way_up, a_way_up, F_way_up⟩ := fd_fun e_way_up
  obtain ⟨f_turned_about, d_turned_about, a_turned_about, F_turned_about⟩ := fd_fun e_turned_about
  obtain ⟨f_round_along, d_round_along, a_round_along, F_round_along⟩ := fd_fun e_round_along
  obtain ⟨f_land_numbers, d_land_numbers, a_land_numbers, F_land_numbers⟩ := fd_fun e_land_numbers
  obtain ⟨f_land_tree, d_land_tree, a_land_tree, F_land_tree⟩ := fd_fun e_land_tree
  obtain ⟨f_left_ties, d_left_ties, a_left_ties, F_left_ties⟩ := fd_fun e_left_ties
  obtain ⟨f_both_trees, d_both_trees, a_both_trees, F_both_trees⟩ := fd_fun e_both_trees
  obtain ⟨f_old_end, d_old_end, a_old_end, F_old_end⟩ := fd_fun e_old_end
  obtain ⟨f_shortest_back, d_shortest_back, a_shortest_back, F_shortest_back⟩ := fd_fun e_shortest_back
  obtain ⟨f_turn_over, d_turn_over, a_turn_over, F_turn_over⟩ := fd_fun e_turn_over
  obtain ⟨f_pair_of, d_pair_of, a_pair_of, F_pair_of⟩ := fd_fun e_pair_of
  obtain ⟨f_L_cell, d_L_cell, a_L_cell, F_L_cell⟩ := fd_fun e_L_cell
  obtain ⟨f_L_draws, d_L_draws, a_L_draws, F_L_draws⟩ := fd_fun e_L_draws
  obtain ⟨f_L_mate, d_L_mate, a_L_mate, F_L_mate⟩ := fd_fun e_L_mate
  obtain ⟨f_L_settled, d_L_settled, a_L_settled, F_L_settled⟩ := fd_fun e_L_settled
  obtain ⟨f_L_drawing, d_L_drawing, a_L_drawing, F_L_drawing⟩ := fd_fun e_L_drawing
  obtain ⟨f_L_seats, d_L_seats, a_L_seats, F_L_seats⟩ := fd_fun e_L_seats
  obtain ⟨f_L_behind, d_L_behind, a_L_behind, F_L_behind⟩ := fd_fun e_L_behind
  obtain ⟨f_L_lands, d_L_lands, a_L_lands, F_L_lands⟩ := fd_fun e_L_lands
  obtain ⟨f_L_tied, d_L_tied, a_L_tied, F_L_tied⟩ := fd_fun e_L_tied
  obtain ⟨f_L_renamed, d_L_renamed, a_L_renamed, F_L_renamed⟩ := fd_fun e_L_renamed
  obtain ⟨f_L_grown, d_L_grown, a_L_grown, F_L_grown⟩ := fd_fun e_L_grown
  obtain ⟨f_L_kind, d_L_kind, a_L_kind, F_L_kind⟩ := fd_fun e_L_kind
  obtain ⟨f_L_numbers, d_L_numbers, a_L_numbers, F_L_numbers⟩ := fd_fun e_L_numbers
  obtain ⟨f_L_crossed, d_L_crossed, a_L_crossed, F_L_crossed⟩ := fd_fun e_L_crossed
  obtain ⟨f_L_some, d_L_some, a_L_some, F_L_some⟩ := fd_fun e_L_some
  obtain ⟨f_L_is_walk, d_L_is_walk, a_L_is_walk, F_L_is_walk⟩ := fd_fun e_L_is_walk
  obtain ⟨f_L_is_turn, d_L_is_turn, a_L_is_turn, F_L_is_turn⟩ := fd_fun e_L_is_turn
  obtain ⟨f_L_lefts, d_L_lefts, a_L_lefts, F_L_lefts⟩ := fd_fun e_L_lefts
  obtain ⟨f_L_crossing, d_L_crossing, a_L_crossing, F_L_crossing⟩ := fd_fun e_L_crossing
  obtain ⟨f_L_wholes, d_L_wholes, a_L_wholes, F_L_wholes⟩ := fd_fun e_L_wholes
  obtain ⟨f_L_parts, d_L_parts, a_L_parts, F_L_parts⟩ := fd_fun e_L_parts
  obtain ⟨f_L_holes, d_L_holes, a_L_holes, F_L_holes⟩ := fd_fun e_L_holes
  obtain ⟨f_L_paper, d_L_paper, a_L_paper, F_L_paper⟩ := fd_fun e_L_paper
  obtain ⟨f_law, oc, od, an, osl, kV, doc, pm, cdv, ct, a_law, l_law, c_law, k_law⟩ := e_law
  have e := hfa.symm.trans (PySem.W.mg_of X G a_law)
  cases e
  have F_law := fun_mk (st := s_law) l_law c_law k_law
  obtain ⟨d_law, hdl⟩ : ∃ d, d = PySem.W.fnOf "law" "law" (defArgs s_law) (defBody s_law) (defScope s_law) .none kV doc pm an cdv ct := ⟨_, rfl⟩
  rw [← hdl] at F_law
  have TX : Txt K mg (fun i => ([0, f_mate_of, f_least_first, f_begun_at, f_count_ends, f_seats_of, f_behind_of, 0, 0, 0, 0, f_is_walk, f_is_round, f_ask_round, 0, f_cut_along, 0, f_lands_of, f_part_about, f_parts_of, f_holes_of, 0, f_tree_from, f_way_up, f_turned_about, f_round_along, f_land_numbers, f_land_tree, f_left_ties, f_both_trees, 0, f_old_end, f_shortest_back, f_turn_over, f_pair_of, 0, f_L_cell, f_L_draws, f_L_mate, f_L_settled, f_L_drawing, f_L_seats, f_L_behind, f_L_lands, f_L_tied, f_L_renamed, f_L_grown, f_L_kind, f_L_numbers, f_L_crossed, f_L_some, f_L_is_walk, f_L_is_turn, f_L_lefts, f_L_crossing, f_L_wholes, f_L_parts, f_L_holes, f_L_paper, fa] : List Addr).getD i 0) (fun i => ([d_law, d_mate_of, d_least_first, d_begun_at, d_count_ends, d_seats_of, d_behind_of, d_law, d_law, d_law, d_law, d_is_walk, d_is_round, d_ask_round, d_law, d_cut_along, d_law, d_lands_of, d_part_about, d_parts_of, d_holes_of, d_law, d_tree_from, d_way_up, d_turned_about, d_round_along, d_land_numbers, d_land_tree, d_left_ties, d_both_trees, d_law, d_old_end, d_shortest_back, d_turn_over, d_pair_of, d_law, d_L_cell, d_L_draws, d_L_mate, d_L_settled, d_L_drawing, d_L_seats, d_L_behind, d_L_lands, d_L_tied, d_L_renamed, d_L_grown, d_L_kind, d_L_numbers, d_L_crossed, d_L_some, d_L_is_walk, d_L_is_turn, d_L_lefts, d_L_crossing, d_L_wholes, d_L_parts, d_L_holes, d_L_paper, d_law] : List FuncData).getD i d_law) := {
    b_bool := PySem.W.mg_none_of X G z_bool
    b_enumerate := PySem.W.mg_none_of X G z_enumerate
    b_int := PySem.W.mg_none_of X G z_int
    b_isinstance := PySem.W.mg_none_of X G z_isinstance
    b_len := PySem.W.mg_none_of X G z_len
    b_list := PySem.W.mg_none_of X G z_list
    b_max := PySem.W.mg_none_of X G z_max
    b_min := PySem.W.mg_none_of X G z_min
    b_range := PySem.W.mg_none_of X G z_range
    b_reversed := PySem.W.mg_none_of X G z_reversed
    b_set := PySem.W.mg_none_of X G z_set
    b_sorted := PySem.W.mg_none_of X G z_sorted
    b_sum := PySem.W.mg_none_of X G z_sum
    b_tuple := PySem.W.mg_none_of X G z_tuple
    b_zip := PySem.W.mg_none_of X G z_zip
    g_mate_of := PySem.W.mg_of X G a_mate_of
    F_mate_of := F_mate_of
    B_mate_of := F_mate_of.binds (ps := ["end"]) fun _ _ _ _ _ _ us hl => match us, hl with | [_], _ => rfl
    g_least_first := PySem.W.mg_of X G a_least_first
    F_least_first := F_least_first
    B_least_first := F_least_first.binds (ps := ["row"]) fun _ _ _ _ _ _ us hl => match us, hl with | [_], _ => rfl
    g_begun_at := PySem.W.mg_of X G a_begun_at
    F_begun_at := F_begun_at
    B_begun_at := F_begun_at.binds (ps := ["row", "end"]) fun _ _ _ _ _ _ us hl => match us, hl with | [_, _], _ => rfl
    g_count_ends := PySem.W.mg_of X G a_count_ends
    F_count_ends := F_count_ends
    B_count_ends := F_count_ends.binds (ps := ["drawing"]) fun _ _ _ _ _ _ us hl => match us, hl with | [_], _ => rfl
    g_seats_of := PySem.W.mg_of X G a_seats_of
    F_seats_of := F_seats_of
    B_seats_of := F_seats_of.binds (ps := ["drawing"]) fun _ _ _ _ _ _ us hl => match us, hl with | [_], _ => rfl
    g_behind_of := PySem.W.mg_of X G a_behind_of
    F_behind_of := F_behind_of
    B_behind_of := F_behind_of.binds (ps := ["drawing"]) fun _ _ _ _ _ _ us hl => match us, hl with | [_], _ => rfl
    g_is_walk := PySem.W.mg_of X G a_is_walk
    F_is_walk := F_is_walk
    B_is_walk := F_is_walk.binds (ps := ["drawing", "ends"]) fun _ _ _ _ _ _ us hl => match us, hl with | [_, _], _ => rfl
    g_is_round := PySem.W.mg_of X G a_is_round
    F_is_round := F_is_round
    B_is_round := F_is_round.binds (ps := ["drawing", "ends"]) fun _ _ _ _ _ _ us hl => match us, hl with | [_, _], _ => rfl
    g_ask_round := PySem.W.mg_of X G a_ask_round
    F_ask_round := F_ask_round
    B_ask_round := F_ask_round.binds (ps := ["drawing", "ends"]) fun _ _ _ _ _ _ us hl => match us, hl with | [_, _], _ => rfl
    g_cut_along := PySem.W.mg_of X G a_cut_along
    F_cut_along := F_cut_along
    B_cut_along := F_cut_along.binds (ps := ["drawing", "turn"]) fun _ _ _ _ _ _ us hl => match us, hl with | [_, _], _ => rfl
    g_lands_of := PySem.W.mg_of X G a_lands_of
    F_lands_of := F_lands_of
    B_lands_of := F_lands_of.binds (ps := ["drawing"]) fun _ _ _ _ _ _ us hl => match us, hl with | [_], _ => rfl
    g_part_about := PySem.W.mg_of X G a_part_about
    F_part_about := F_part_about
    B_part_about := F_part_about.binds (ps := ["drawing", "seats", "start"]) fun _ _ _ _ _ _ us hl => match us, hl with | [_, _, _], _ => rfl
    g_parts_of := PySem.W.mg_of X G a_parts_of
    F_parts_of := F_parts_of
    B_parts_of := F_parts_of.binds (ps := ["drawing"]) fun _ _ _ _ _ _ us hl => match us, hl with | [_], _ => rfl
    g_holes_of := PySem.W.mg_of X G a_holes_of
    F_holes_of := F_holes_of
    B_holes_of := F_holes_of.binds (ps := ["drawing"]) fun _ _ _ _ _ _ us hl => match us, hl with | [_], _ => rfl
    g_tree_from := PySem.W.mg_of X G a_tree_from
    F_tree_from := F_tree_from
    B_tree_from := F_tree_from.binds (ps := ["drawing", "root"]) fun _ _ _ _ _ _ us hl => match us, hl with | [_, _], _ => rfl
    g_way_up := PySem.W.mg_of X G a_way_up
    F_way_up := F_way_up
    B_way_up := F_way_up.binds (ps := ["seats", "nearer", "place"]) fun _ _ _ _ _ _ us hl => match us, hl with | [_, _, _], _ => rfl
    g_turned_about := PySem.W.mg_of X G a_turned_about
    F_turned_about := F_turned_about
    B_turned_about := F_turned_about.binds (ps := ["way"]) fun _ _ _ _ _ _ us hl => match us, hl with | [_], _ => rfl
    g_round_along := PySem.W.mg_of X G a_round_along
    F_round_along := F_round_along
    B_round_along := F_round_along.binds (ps := ["seats", "nearer", "end"]) fun _ _ _ _ _ _ us hl => match us, hl with | [_, _, _], _ => rfl
    g_land_numbers := PySem.W.mg_of X G a_land_numbers
    F_land_numbers := F_land_numbers
    B_land_numbers := F_land_numbers.binds (ps := ["lands"]) fun _ _ _ _ _ _ us hl => match us, hl with | [_], _ => rfl
    g_land_tree := PySem.W.mg_of X G a_land_tree
    F_land_tree := F_land_tree
    B_land_tree := F_land_tree.binds (ps := ["lands", "nearer", "first"]) fun _ _ _ _ _ _ us hl => match us, hl with | [_, _, _], _ => rfl
    g_left_ties := PySem.W.mg_of X G a_left_ties
    F_left_ties := F_left_ties
    B_left_ties := F_left_ties.binds (ps := ["drawing", "nearer", "towards"]) fun _ _ _ _ _ _ us hl => match us, hl with | [_, _, _], _ => rfl
    g_both_trees := PySem.W.mg_of X G a_both_trees
    F_both_trees := F_both_trees
    B_both_trees := F_both_trees.binds (ps := ["drawing", "root"]) fun _ _ _ _ _ _ us hl => match us, hl with | [_, _], _ => rfl
    g_old_end := PySem.W.mg_of X G a_old_end
    F_old_end := F_old_end
    B_old_end := F_old_end.binds (ps := ["turn", "ties", "end"]) fun _ _ _ _ _ _ us hl => match us, hl with | [_, _, _], _ => rfl
    g_shortest_back := PySem.W.mg_of X G a_shortest_back
    F_shortest_back := F_shortest_back
    B_shortest_back := F_shortest_back.binds (ps := ["cut", "seats", "places", "turn"]) fun _ _ _ _ _ _ us hl => match us, hl with | [_, _, _, _], _ => rfl
    g_turn_over := PySem.W.mg_of X G a_turn_over
    F_turn_over := F_turn_over
    B_turn_over := F_turn_over.binds (ps := ["drawing", "turn"]) fun _ _ _ _ _ _ us hl => match us, hl with | [_, _], _ => rfl
    g_pair_of := PySem.W.mg_of X G a_pair_of
    F_pair_of := F_pair_of
    B_pair_of := F_pair_of.binds (ps := ["drawing"]) fun _ _ _ _ _ _ us hl => match us, hl with | [_], _ => rfl
    g_L_cell := PySem.W.mg_of X G a_L_cell
    F_L_cell := F_L_cell
    B_L_cell := F_L_cell.binds (ps := ["_law_script", "_law_k"]) fun _ _ _ _ _ _ us hl => match us, hl with | [_, _], _ => rfl
    g_L_draws := PySem.W.mg_of X G a_L_draws
    F_L_draws := F_L_draws
    B_L_draws := F_L_draws.binds (ps := ["_law_cell_here", "_law_sizes"]) fun _ _ _ _ _ _ us hl => match us, hl with | [_, _], _ => rfl
    g_L_mate := PySem.W.mg_of X G a_L_mate
    F_L_mate := F_L_mate
    B_L_mate := F_L_mate.binds (ps := ["_law_end"]) fun _ _ _ _ _ _ us hl => match us, hl with | [_], _ => rfl
    g_L_settled := PySem.W.mg_of X G a_L_settled
    F_L_settled := F_L_settled
    B_L_settled := F_L_settled.binds (ps := ["_law_rows"]) fun _ _ _ _ _ _ us hl => match us, hl with | [_], _ => rfl
    g_L_drawing := PySem.W.mg_of X G a_L_drawing
    F_L_drawing := F_L_drawing
    B_L_drawing := F_L_drawing.binds (ps := ["_law_script", "_law_base", "_law_most"]) fun _ _ _ _ _ _ us hl => match us, hl with | [_, _, _], _ => rfl
    g_L_seats := PySem.W.mg_of X G a_L_seats
    F_L_seats := F_L_seats
    B_L_seats := F_L_seats.binds (ps := ["_law_drawing_here"]) fun _ _ _ _ _ _ us hl => match us, hl with | [_], _ => rfl
    g_L_behind := PySem.W.mg_of X G a_L_behind
    F_L_behind := F_L_behind
    B_L_behind := F_L_behind.binds (ps := ["_law_drawing_here"]) fun _ _ _ _ _ _ us hl => match us, hl with | [_], _ => rfl
    g_L_lands := PySem.W.mg_of X G a_L_lands
    F_L_lands := F_L_lands
    B_L_lands := F_L_lands.binds (ps := ["_law_drawing_here"]) fun _ _ _ _ _ _ us hl => match us, hl with | [_], _ => rfl
    g_L_tied := PySem.W.mg_of X G a_L_tied
    F_L_tied := F_L_tied
    B_L_tied := F_L_tied.binds (ps := ["_law_rows", "_law_tie", "_law_one", "_law_two", "_law_high"]) fun _ _ _ _ _ _ us hl => match us, hl with | [_, _, _, _, _], _ => rfl
    g_L_renamed := PySem.W.mg_of X G a_L_renamed
    F_L_renamed := F_L_renamed
    B_L_renamed := F_L_renamed.binds (ps := ["_law_rows", "_law_ties", "_law_cell_here"]) fun _ _ _ _ _ _ us hl => match us, hl with | [_, _, _], _ => rfl
    g_L_grown := PySem.W.mg_of X G a_L_grown
    F_L_grown := F_L_grown
    B_L_grown := F_L_grown.binds (ps := ["_law_script", "_law_base", "_law_holes_here"]) fun _ _ _ _ _ _ us hl => match us, hl with | [_, _, _], _ => rfl
    g_L_kind := PySem.W.mg_of X G a_L_kind
    F_L_kind := F_L_kind
    B_L_kind := F_L_kind.binds (ps := ["_law_sort", "_law_rows", "_law_columns", "_law_shift"]) fun _ _ _ _ _ _ us hl => match us, hl with | [_, _, _, _], _ => rfl
    g_L_numbers := PySem.W.mg_of X G a_L_numbers
    F_L_numbers := F_L_numbers
    B_L_numbers := F_L_numbers.binds (ps := ["_law_cell_here", "_law_most"]) fun _ _ _ _ _ _ us hl => match us, hl with | [_, _], _ => rfl
    g_L_crossed := PySem.W.mg_of X G a_L_crossed
    F_L_crossed := F_L_crossed
    B_L_crossed := F_L_crossed.binds (ps := ["_law_one", "_law_two"]) fun _ _ _ _ _ _ us hl => match us, hl with | [_, _], _ => rfl
    g_L_some := PySem.W.mg_of X G a_L_some
    F_L_some := F_L_some
    B_L_some := F_L_some.binds (ps := ["_law_script", "_law_choice"]) fun _ _ _ _ _ _ us hl => match us, hl with | [_, _], _ => rfl
    g_L_is_walk := PySem.W.mg_of X G a_L_is_walk
    F_L_is_walk := F_L_is_walk
    B_L_is_walk := F_L_is_walk.binds (ps := ["_law_drawing_here", "_law_ends"]) fun _ _ _ _ _ _ us hl => match us, hl with | [_, _], _ => rfl
    g_L_is_turn := PySem.W.mg_of X G a_L_is_turn
    F_L_is_turn := F_L_is_turn
    B_L_is_turn := F_L_is_turn.binds (ps := ["_law_drawing_here", "_law_ends"]) fun _ _ _ _ _ _ us hl => match us, hl with | [_, _], _ => rfl
    g_L_lefts := PySem.W.mg_of X G a_L_lefts
    F_L_lefts := F_L_lefts
    B_L_lefts := F_L_lefts.binds (ps := ["_law_drawing_here", "_law_walk"]) fun _ _ _ _ _ _ us hl => match us, hl with | [_, _], _ => rfl
    g_L_crossing := PySem.W.mg_of X G a_L_crossing
    F_L_crossing := F_L_crossing
    B_L_crossing := F_L_crossing.binds (ps := ["_law_drawing_here", "_law_walk", "_law_other"]) fun _ _ _ _ _ _ us hl => match us, hl with | [_, _, _], _ => rfl
    g_L_wholes := PySem.W.mg_of X G a_L_wholes
    F_L_wholes := F_L_wholes
    B_L_wholes := F_L_wholes.binds (ps := ["_law_found"]) fun _ _ _ _ _ _ us hl => match us, hl with | [_], _ => rfl
    g_L_parts := PySem.W.mg_of X G a_L_parts
    F_L_parts := F_L_parts
    B_L_parts := F_L_parts.binds (ps := ["_law_drawing_here"]) fun _ _ _ _ _ _ us hl => match us, hl with | [_], _ => rfl
    g_L_holes := PySem.W.mg_of X G a_L_holes
    F_L_holes := F_L_holes
    B_L_holes := F_L_holes.binds (ps := ["_law_drawing_here"]) fun _ _ _ _ _ _ us hl => match us, hl with | [_], _ => rfl
    g_L_paper := PySem.W.mg_of X G a_L_paper
    F_L_paper := F_L_paper
    B_L_paper := F_L_paper.binds (ps := ["_law_drawing_here", "_law_found"]) fun _ _ _ _ _ _ us hl => match us, hl with | [_, _], _ => rfl
    g_law := PySem.W.mg_of X G a_law
    F_law := F_law
    B_law := F_law.binds (ps := ["_law_script"]) fun _ _ _ _ _ _ us hl => match us, hl with | [_], _ => rfl
  }
  refine ⟨d_law, fun s u => ?_, fun base _ _ => ok_law TX⟩
  rw [hdl]
  exact .of_eq rfl
end RF
open PySem PySem.W PyProof.Rows in
set_option maxHeartbeats 0 in
set_option pp.maxSteps 400 in
set_option pp.deepTerms false in
theorem PySem.Challenge.cw_ringfloor_k57_whole_pairs_holds : PySem.Challenge.rw_ringfloor_k57_whole_pairs.Holds := by
  w_on; o_law; k_head; (case hw => w_witness2)
  k_fill
  refine L2.walk_of (l := PySem.Challenge.rw_ringfloor_k57_whole_pairs) (n := 63) (k := 8) (x := "_law_script") (CX := fun _ => L2.CX0) (sp := fun w => RF.spLaw _) rfl (by decide) rfl ⟨rfl, by decide, by decide⟩ (fun w h Y => PySem.W.kIn_of Y) ?F (fun _ _ a ns _ _ hS => ⟨a, ns, rfl, hS, fun _ => rfl⟩) (fun _ _ _ _ _ h => h)
  case F =>
    intro w mg fa h KX G hmg
    refine' RF.all_mk KX G hmg ?e_mate_of ?e_least_first ?e_begun_at ?e_count_ends ?e_seats_of ?e_behind_of ?e_is_walk ?e_is_round ?e_ask_round ?e_cut_along ?e_lands_of ?e_part_about ?e_parts_of ?e_holes_of ?e_tree_from ?e_way_up ?e_turned_about ?e_round_along ?e_land_numbers ?e_land_tree ?e_left_ties ?e_both_trees ?e_old_end ?e_shortest_back ?e_turn_over ?e_pair_of ?e_L_cell ?e_L_draws ?e_L_mate ?e_L_settled ?e_L_drawing ?e_L_seats ?e_L_behind ?e_L_lands ?e_L_tied ?e_L_renamed ?e_L_grown ?e_L_kind ?e_L_numbers ?e_L_crossed ?e_L_some ?e_L_is_walk ?e_L_is_turn ?e_L_lefts ?e_L_crossing ?e_L_wholes ?e_L_parts ?e_L_holes ?e_L_paper ?e_law ?z_bool ?z_enumerate ?z_int ?z_isinstance ?z_len ?z_list ?z_max ?z_min ?z_range ?z_reversed ?z_set ?z_sorted ?z_sum ?z_tuple ?z_zip
    (case e_mate_of => refine' RF.fd_ok ?a ?l ?c ?k; (case a => k_is); (case l => k_is); (case c => k_is); (case k => k_is))
    (case e_least_first => refine' RF.fd_ok ?a ?l ?c ?k; (case a => k_is); (case l => k_is); (case c => k_is); (case k => k_is))
    (case e_begun_at => refine' RF.fd_ok ?a ?l ?c ?k; (case a => k_is); (case l => k_is); (case c => k_is); (case k => k_is))
    (case e_count_ends => refine' RF.fd_ok ?a ?l ?c ?k; (case a => k_is); (case l => k_is); (case c => k_is); (case k => k_is))
    (case e_seats_of => refine' RF.fd_ok ?a ?l ?c ?k; (case a => k_is); (case l => k_is); (case c => k_is); (case k => k_is))
    (case e_behind_of => refine' RF.fd_ok ?a ?l ?c ?k; (case a => k_is); (case l => k_is); (case c => k_is); (case k => k_is))
    (case e_is_walk => refine' RF.fd_ok ?a ?l ?c ?k; (case a => k_is); (case l => k_is); (case c => k_is); (case k => k_is))
    (case e_is_round => refine' RF.fd_ok ?a ?l ?c ?k; (case a => k_is); (case l => k_is); (case c => k_is); (case k => k_is))
    (case e_ask_round => refine' RF.fd_ok ?a ?l ?c ?k; (case a => k_is); (case l => k_is); (case c => k_is); (case k => k_is))
    (case e_cut_along => refine' RF.fd_ok ?a ?l ?c ?k; (case a => k_is); (case l => k_is); (case c => k_is); (case k => k_is))
    (case e_lands_of => refine' RF.fd_ok ?a ?l ?c ?k; (case a => k_is); (case l => k_is); (case c => k_is); (case k => k_is))
    (case e_part_about => refine' RF.fd_ok ?a ?l ?c ?k; (case a => k_is); (case l => k_is); (case c => k_is); (case k => k_is))
    (case e_parts_of => refine' RF.fd_ok ?a ?l ?c ?k; (case a => k_is); (case l => k_is); (case c => k_is); (case k => k_is))
    (case e_holes_of => refine' RF.fd_ok ?a ?l ?c ?k; (case a => k_is); (case l => k_is); (case c => k_is); (case k => k_is))
    (case e_tree_from => refine' RF.fd_ok ?a ?l ?c ?k; (case a => k_is); (case l => k_is); (case c => k_is); (case k => k_is))
    (case e_way_up => refine' RF.fd_ok ?a ?l ?c ?k; (case a => k_is); (case l => k_is); (case c => k_is); (case k => k_is))
    (case e_turned_about => refine' RF.fd_ok ?a ?l ?c ?k; (case a => k_is); (case l => k_is); (case c => k_is); (case k => k_is))
    (case e_round_along => refine' RF.fd_ok ?a ?l ?c ?k; (case a => k_is); (case l => k_is); (case c => k_is); (case k => k_is))
    (case e_land_numbers => refine' RF.fd_ok ?a ?l ?c ?k; (case a => k_is); (case l => k_is); (case c => k_is); (case k => k_is))
    (case e_land_tree => refine' RF.fd_ok ?a ?l ?c ?k; (case a => k_is); (case l => k_is); (case c => k_is); (case k => k_is))
    (case e_left_ties => refine' RF.fd_ok ?a ?l ?c ?k; (case a => k_is); (case l => k_is); (case c => k_is); (case k => k_is))
    (case e_both_trees => refine' RF.fd_ok ?a ?l ?c ?k; (case a => k_is); (case l => k_is); (case c => k_is); (case k => k_is))
    (case e_old_end => refine' RF.fd_ok ?a ?l ?c ?k; (case a => k_is); (case l => k_is); (case c => k_is); (case k => k_is))
    (case e_shortest_back => refine' RF.fd_ok ?a ?l ?c ?k; (case a => k_is); (case l => k_is); (case c => k_is); (case k => k_is))
    (case e_turn_over => refine' RF.fd_ok ?a ?l ?c ?k; (case a => k_is); (case l => k_is); (case c => k_is); (case k => k_is))
    (case e_pair_of => refine' RF.fd_ok ?a ?l ?c ?k; (case a => k_is); (case l => k_is); (case c => k_is); (case k => k_is))
    (case e_L_cell => refine' RF.fd_ok ?a ?l ?c ?k; (case a => k_is); (case l => k_is); (case c => k_is); (case k => k_is))
    (case e_L_draws => refine' RF.fd_ok ?a ?l ?c ?k; (case a => k_is); (case l => k_is); (case c => k_is); (case k => k_is))
    (case e_L_mate => refine' RF.fd_ok ?a ?l ?c ?k; (case a => k_is); (case l => k_is); (case c => k_is); (case k => k_is))
    (case e_L_settled => refine' RF.fd_ok ?a ?l ?c ?k; (case a => k_is); (case l => k_is); (case c => k_is); (case k => k_is))
    (case e_L_drawing => refine' RF.fd_ok ?a ?l ?c ?k; (case a => k_is); (case l => k_is); (case c => k_is); (case k => k_is))
    (case e_L_seats => refine' RF.fd_ok ?a ?l ?c ?k; (case a => k_is); (case l => k_is); (case c => k_is); (case k => k_is))
    (case e_L_behind => refine' RF.fd_ok ?a ?l ?c ?k; (case a => k_is); (case l => k_is); (case c => k_is); (case k => k_is))
    (case e_L_lands => refine' RF.fd_ok ?a ?l ?c ?k; (case a => k_is); (case l => k_is); (case c => k_is); (case k => k_is))
    (case e_L_tied => refine' RF.fd_ok ?a ?l ?c ?k; (case a => k_is); (case l => k_is); (case c => k_is); (case k => k_is))
    (case e_L_renamed => refine' RF.fd_ok ?a ?l ?c ?k; (case a => k_is); (case l => k_is); (case c => k_is); (case k => k_is))
    (case e_L_grown => refine' RF.fd_ok ?a ?l ?c ?k; (case a => k_is); (case l => k_is); (case c => k_is); (case k => k_is))
    (case e_L_kind => refine' RF.fd_ok ?a ?l ?c ?k; (case a => k_is); (case l => k_is); (case c => k_is); (case k => k_is))
    (case e_L_numbers => refine' RF.fd_ok ?a ?l ?c ?k; (case a => k_is); (case l => k_is); (case c => k_is); (case k => k_is))
    (case e_L_crossed => refine' RF.fd_ok ?a ?l ?c ?k; (case a => k_is); (case l => k_is); (case c => k_is); (case k => k_is))
    (case e_L_some => refine' RF.fd_ok ?a ?l ?c ?k; (case a => k_is); (case l => k_is); (case c => k_is); (case k => k_is))
    (case e_L_is_walk => refine' RF.fd_ok ?a ?l ?c ?k; (case a => k_is); (case l => k_is); (case c => k_is); (case k => k_is))
    (case e_L_is_turn => refine' RF.fd_ok ?a ?l ?c ?k; (case a => k_is); (case l => k_is); (case c => k_is); (case k => k_is))
    (case e_L_lefts => refine' RF.fd_ok ?a ?l ?c ?k; (case a => k_is); (case l => k_is); (case c => k_is); (case k => k_is))
    (case e_L_crossing => refine' RF.fd_ok ?a ?l ?c ?k; (case a => k_is); (case l => k_is); (case c => k_is); (case k => k_is))
    (case e_L_wholes => refine' RF.fd_ok ?a ?l ?c ?k; (case a => k_is); (case l => k_is); (case c => k_is); (case k => k_is))
    (case e_L_parts => refine' RF.fd_ok ?a ?l ?c ?k; (case a => k_is); (case l => k_is); (case c => k_is); (case k => k_is))
    (case e_L_holes => refine' RF.fd_ok ?a ?l ?c ?k; (case a => k_is); (case l => k_is); (case c => k_is); (case k => k_is))
    (case e_L_paper => refine' RF.fd_ok ?a ?l ?c ?k; (case a => k_is); (case l => k_is); (case c => k_is); (case k => k_is))
    (case e_law => refine' RF.fd_ok ?a ?l ?c ?k; (case a => k_is); (case l => k_is); (case c => k_is); (case k => k_is))
    (case z_bool => k_is)
    (case z_enumerate => k_is)
    (case z_int => k_is)
    (case z_isinstance => k_is)
    (case z_len => k_is)
    (case z_list => k_is)
    (case z_max => k_is)
    (case z_min => k_is)
    (case z_range => k_is)
    (case z_reversed => k_is)
    (case z_set => k_is)
    (case z_sorted => k_is)
    (case z_sum => k_is)
    (case z_tuple => k_is)
    (case z_zip => k_is)
