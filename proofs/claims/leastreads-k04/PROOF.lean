import PyProof.Rows.All
import Wide.All
import OpenK.AllK
import Wide.FinOn
import KE.SortKeyHeap
import HandS.ForMost
import HandS.SortKw
import HandS.More
import HandS.TupSets
import HandS.Strs
import HandS.SetFor
import KE.DataAny
import HandS.SlotsOwn
import HandS.IsInst
import HandS.TupMul
import HandS.TupAny
import HandS.Deep
import HandS.Zip
import HandS.Defaults
import PySem.Challenge.RW_leastreads_k04_whole_spaces_of_sums
import HandS.Conv
import HandS.Style
import HandS.Ends
set_option Elab.async false
set_option linter.all false
set_option maxRecDepth 100000
set_option maxHeartbeats 4000000
namespace Lr
abbrev Row := List Int
def g (a : Row) (i : Nat) : Int := a.getD i 0
def addR (p : Int) (a b : Row) (f : Int) : Row := List.zipWith (fun x y => (x + f * y) % p) a b
def scaleR (p : Int) (a : Row) (f : Int) : Row := a.map fun x => x * f % p
def lead : Row → Nat
  | [] => 0
  | x :: r => if x = 0 then lead r + 1 else 0
def restOf (p : Int) (r : Row) (rows : List Row) : Row := rows.foldl (fun r o => addR p r o (-(g r (lead o)))) r
def zeroR (n : Nat) : Row := List.replicate n 0
structure Nrm (p : Int) (n : Nat) (a : Row) : Prop where
  len : a.length = n
  bd : ∀ x ∈ a, 0 ≤ x ∧ x < p

theorem g_of_get {a : Row} {i : Nat} {x : Int} (h : a[i]? = some x) : g a i = x := by
  unfold g
  rw [List.getD_eq_getElem?_getD, h]
  rfl
theorem get_of_g {a : Row} {i : Nat} (h : i < a.length) : a[i]? = some (g a i) := by
  unfold g
  rw [List.getD_eq_getElem?_getD, List.getElem?_eq_getElem h]
  rfl
theorem g_out {a : Row} {i : Nat} (h : a.length ≤ i) : g a i = 0 := by
  unfold g
  rw [List.getD_eq_getElem?_getD, List.getElem?_eq_none h]
  rfl
theorem g_bd {p : Int} {n : Nat} {a : Row} (h : Nrm p n a) (hp : 0 < p) (i : Nat) : 0 ≤ g a i ∧ g a i < p := by
  by_cases hi : i < a.length
  · exact h.bd _ (List.mem_of_getElem? (get_of_g hi))
  · rw [g_out (by omega)]
    omega
theorem row_ext {n : Nat} {a b : Row} (ha : a.length = n) (hb : b.length = n) (h : ∀ i, i < n → g a i = g b i) : a = b := by
  apply List.ext_getElem?
  intro i
  by_cases hi : i < n
  · rw [get_of_g (by omega), get_of_g (by omega), h i hi]
  · rw [List.getElem?_eq_none (by omega), List.getElem?_eq_none (by omega)]
theorem len_add {p : Int} {a b : Row} {f : Int} {n : Nat} (ha : a.length = n) (hb : b.length = n) : (addR p a b f).length = n := by
  unfold addR
  rw [List.length_zipWith, ha, hb]
  omega
theorem g_add {p : Int} {a b : Row} {f : Int} {n i : Nat} (ha : a.length = n) (hb : b.length = n) (hi : i < n) : g (addR p a b f) i = (g a i + f * g b i) % p := by
  apply g_of_get
  unfold addR
  rw [List.getElem?_zipWith, get_of_g (by omega : i < a.length), get_of_g (by omega : i < b.length)]
theorem len_scale {p : Int} {a : Row} {f : Int} : (scaleR p a f).length = a.length := by
  unfold scaleR
  rw [List.length_map]
theorem g_scale {p : Int} {a : Row} {f : Int} {i : Nat} (hi : i < a.length) : g (scaleR p a f) i = g a i * f % p := by
  apply g_of_get
  unfold scaleR
  rw [List.getElem?_map, get_of_g hi]
  rfl
theorem nrm_of {p : Int} {n : Nat} {a : Row} (hl : a.length = n) (h : ∀ i, i < n → 0 ≤ g a i ∧ g a i < p) : Nrm p n a := by
  refine ⟨hl, fun x hx => ?_⟩
  obtain ⟨i, hi, e⟩ := List.mem_iff_getElem.mp hx
  have q := get_of_g hi
  rw [List.getElem?_eq_getElem hi, e] at q
  have q' := Option.some.inj q
  rw [q']
  exact h i (by omega)
theorem emod_bd {p : Int} (hp : 0 < p) (x : Int) : 0 ≤ x % p ∧ x % p < p := ⟨Int.emod_nonneg _ (by omega), Int.emod_lt_of_pos _ hp⟩
theorem nrm_add {p : Int} (hp : 0 < p) {n : Nat} {a b : Row} {f : Int} (ha : a.length = n) (hb : b.length = n) : Nrm p n (addR p a b f) :=
  nrm_of (len_add ha hb) fun i hi => by
    rw [g_add ha hb hi]
    exact emod_bd hp _
theorem nrm_scale {p : Int} (hp : 0 < p) {n : Nat} {a : Row} {f : Int} (ha : a.length = n) : Nrm p n (scaleR p a f) :=
  nrm_of (by rw [len_scale, ha]) fun i hi => by
    rw [g_scale (by omega)]
    exact emod_bd hp _
theorem g_zero (n i : Nat) : g (zeroR n) i = 0 := by
  by_cases hi : i < n
  · apply g_of_get
    unfold zeroR
    rw [List.getElem?_replicate, if_pos hi]
  · exact g_out (by unfold zeroR; rw [List.length_replicate]; omega)
theorem len_zero (n : Nat) : (zeroR n).length = n := by unfold zeroR; rw [List.length_replicate]
theorem nrm_zero {p : Int} (hp : 0 < p) (n : Nat) : Nrm p n (zeroR n) := nrm_of (len_zero n) fun i _ => by rw [g_zero]; omega
/-! modulo -/
theorem cong {p A B : Int} (k : Int) (h : A = B + p * k) : A % p = B % p := by
  rw [h, Int.add_mul_emod_self_left]
theorem unmod (p x : Int) : x % p = x - p * (x / p) := by
  have := Int.mul_ediv_add_emod x p
  omega
theorem small {p x : Int} (h : 0 ≤ x ∧ x < p) : x % p = x := Int.emod_eq_of_lt h.1 h.2
theorem mod_l (p x y c : Int) : (x % p + c * y) % p = (x + c * y) % p := cong (-(x / p)) (by rw [unmod p x]; grind)
theorem mod_r (p x y c : Int) : (x + c * (y % p)) % p = (x + c * y) % p := cong (-(c * (y / p))) (by rw [unmod p y]; grind)
theorem mod_c (p x y c : Int) : (x + (c % p) * y) % p = (x + c * y) % p := cong (-((c / p) * y)) (by rw [unmod p c]; grind)
theorem mod_n (p x y c : Int) : (x + -(c % p) * y) % p = (x + -c * y) % p := cong ((c / p) * y) (by rw [unmod p c]; grind)
/-! rows -/
section
variable {p : Int} {n : Nat} (hp : 0 < p)
include hp
theorem add_zero_c {a b : Row} (ha : Nrm p n a) (hb : b.length = n) : addR p a b 0 = a :=
  row_ext (len_add ha.len hb) ha.len fun i hi => by
    rw [g_add ha.len hb hi, Int.zero_mul, Int.add_zero, small (g_bd ha hp i)]
theorem add_at_zero {a b : Row} {c : Int} (ha : Nrm p n a) (hb : b.length = n) (hc : c = 0) : addR p a b c = a := by
  rw [hc]
  exact add_zero_c hp ha hb
theorem zero_add_one {a : Row} (ha : Nrm p n a) : addR p (zeroR n) a 1 = a :=
  row_ext (len_add (len_zero n) ha.len) ha.len fun i hi => by
    rw [g_add (len_zero n) ha.len hi, g_zero, Int.one_mul, Int.zero_add, small (g_bd ha hp i)]
theorem zero_add_scale {a : Row} {c : Int} (ha : a.length = n) : addR p (zeroR n) a c = scaleR p a c :=
  row_ext (len_add (len_zero n) ha) (by rw [len_scale, ha]) fun i hi => by
    rw [g_add (len_zero n) ha hi, g_zero, g_scale (by omega), Int.zero_add, Int.mul_comm]
/-- u + c (v + d r) = (u + c v) + c d r -/
theorem add_assoc' {u v r : Row} (c d : Int) (hu : u.length = n) (hv : v.length = n) (hr : r.length = n) : addR p u (addR p v r d) c = addR p (addR p u v c) r (c * d) :=
  row_ext (len_add hu (len_add hv hr)) (len_add (len_add hu hv) hr) fun i hi => by
    rw [g_add hu (len_add hv hr) hi, g_add hv hr hi, g_add (len_add hu hv) hr hi, g_add hu hv hi, mod_r, mod_l]
    congr 1
    grind
theorem add_swap {u v r : Row} (c d : Int) (hu : u.length = n) (hv : v.length = n) (hr : r.length = n) : addR p (addR p u v c) r d = addR p (addR p u r d) v c :=
  row_ext (len_add (len_add hu hv) hr) (len_add (len_add hu hr) hv) fun i hi => by
    rw [g_add (len_add hu hv) hr hi, g_add hu hv hi, g_add (len_add hu hr) hv hi, g_add hu hr hi, mod_l, mod_l]
    congr 1
    grind
theorem add_same {u r : Row} (c d : Int) (hu : u.length = n) (hr : r.length = n) : addR p (addR p u r c) r d = addR p u r ((c + d) % p) :=
  row_ext (len_add (len_add hu hr) hr) (len_add hu hr) fun i hi => by
    rw [g_add (len_add hu hr) hr hi, g_add hu hr hi, g_add hu hr hi, mod_l, mod_c]
    congr 1
    grind
theorem add_back {u r : Row} (c : Int) (hu : Nrm p n u) (hr : r.length = n) : addR p (addR p u r c) r (-c) = u := by
  rw [add_same hp c (-c) hu.len hr]
  exact add_at_zero hp hu hr (by rw [show c + -c = 0 by omega]; rfl)
/-! the span -/
omit hp in
inductive Span (p : Int) (n : Nat) (R : Row → Prop) : Row → Prop where
  | zero : Span p n R (zeroR n)
  | step {v r : Row} (c : Int) : Span p n R v → R r → Span p n R (addR p v r c)
theorem Span.nrm {R : Row → Prop} (hR : ∀ r, R r → r.length = n) {v : Row} (h : Span p n R v) : Nrm p n v := by
  induction h with
  | zero => exact nrm_zero hp n
  | step c _ hr ih => exact nrm_add hp ih.len (hR _ hr)
theorem Span.add {R : Row → Prop} (hR : ∀ r, R r → r.length = n) {u v : Row} (c : Int) (hu : Span p n R u) (hv : Span p n R v) : Span p n R (addR p u v c) := by
  have nu := hu.nrm hp hR
  induction hv with
  | zero =>
    have e : addR p u (zeroR n) c = u := row_ext (len_add nu.len (len_zero n)) nu.len fun i hi => by
      rw [g_add nu.len (len_zero n) hi, g_zero, Int.mul_zero, Int.add_zero, small (g_bd nu hp i)]
    rw [e]
    exact hu
  | @step v r d hv hr ih =>
    rw [add_assoc' hp c d nu.len (hv.nrm hp hR).len (hR _ hr)]
    exact .step _ ih hr
theorem Span.mem {R : Row → Prop} {r : Row} (hr : R r) (nr : Nrm p n r) : Span p n R r := by
  have h : Span p n R (addR p (zeroR n) r 1) := .step 1 .zero hr
  rw [zero_add_one hp nr] at h
  exact h
theorem Span.scale {R : Row → Prop} (hR : ∀ r, R r → r.length = n) {v : Row} (c : Int) (hv : Span p n R v) : Span p n R (scaleR p v c) := by
  rw [← zero_add_scale hp (hv.nrm hp hR).len]
  exact Span.add hp hR c .zero hv
theorem Span.sub {R R' : Row → Prop} (hR' : ∀ r, R' r → r.length = n) (h : ∀ r, R r → Span p n R' r) {v : Row} (hv : Span p n R v) : Span p n R' v := by
  induction hv with
  | zero => exact .zero
  | step c _ hr ih => exact Span.add hp hR' c ih (h _ hr)
omit hp in
theorem Span.mono {R R' : Row → Prop} (h : ∀ r, R r → R' r) {v : Row} (hv : Span p n R v) : Span p n R' v := by
  induction hv with
  | zero => exact .zero
  | step c _ hr ih => exact .step c ih (h _ hr)
/-! restOf -/
omit hp in
theorem restOf_nil (r : Row) : restOf p r [] = r := rfl
omit hp in
theorem restOf_cons (r o : Row) (F : List Row) : restOf p r (o :: F) = restOf p (addR p r o (-(g r (lead o)))) F := rfl
theorem restOf_len : ∀ {F : List Row} {r : Row}, (∀ o ∈ F, o.length = n) → r.length = n → (restOf p r F).length = n
  | [], r, _, h => h
  | o :: F, r, hF, h => restOf_len (F := F) (fun x hx => hF x (List.mem_cons_of_mem _ hx)) (len_add h (hF o List.mem_cons_self))
theorem restOf_nrm : ∀ {F : List Row} {r : Row}, (∀ o ∈ F, o.length = n) → Nrm p n r → Nrm p n (restOf p r F)
  | [], r, _, h => h
  | o :: F, r, hF, h => restOf_nrm (F := F) (fun x hx => hF x (List.mem_cons_of_mem _ hx)) (nrm_add hp h.len (hF o List.mem_cons_self))
theorem restOf_in {R : Row → Prop} (hR : ∀ r, R r → r.length = n) : ∀ {F : List Row} {r : Row}, (∀ o ∈ F, Span p n R o) → Span p n R r → Span p n R (restOf p r F)
  | [], r, _, h => h
  | o :: F, r, hF, h => restOf_in hR (F := F) (fun x hx => hF x (List.mem_cons_of_mem _ hx)) (Span.add hp hR _ h (hF o List.mem_cons_self))
theorem restOf_out {R : Row → Prop} (hR : ∀ r, R r → r.length = n) : ∀ {F : List Row} {r : Row}, (∀ o ∈ F, Span p n R o) → Nrm p n r → Span p n R (restOf p r F) → Span p n R r
  | [], r, _, _, h => h
  | o :: F, r, hF, nr, h => by
    have ho := hF o List.mem_cons_self
    have lo := (ho.nrm hp hR).len
    have h1 : Span p n R (addR p r o (-(g r (lead o)))) := restOf_out hR (F := F) (fun x hx => hF x (List.mem_cons_of_mem _ hx)) (nrm_add hp nr.len lo) h
    have h2 := Span.add hp hR (-(-(g r (lead o)))) h1 ho
    rw [add_back hp _ nr lo] at h2
    exact h2
omit hp in
theorem lead_le : ∀ a : Row, lead a ≤ a.length
  | [] => Nat.le_refl _
  | x :: r => by
    unfold lead
    have := lead_le r
    split <;> simp <;> omega
omit hp in
theorem lead_lt_g : ∀ {a : Row} {i : Nat}, i < lead a → g a i = 0
  | [], i, h => by unfold lead at h; omega
  | x :: r, i, h => by
    unfold lead at h
    split at h
    · rename_i hx
      cases i with
      | zero => exact g_of_get (by rw [hx]; rfl)
      | succ i =>
        have := lead_lt_g (a := r) (i := i) (by omega)
        unfold g at this ⊢
        rw [List.getD_cons_succ]
        exact this
    · omega
omit hp in
theorem lead_ne : ∀ {a : Row}, lead a < a.length → g a (lead a) ≠ 0
  | [], h => by simp at h
  | x :: r, h => by
    unfold lead at h ⊢
    split
    · rename_i hx
      rw [if_pos hx] at h
      have := lead_ne (a := r) (by simp at h; omega)
      unfold g at this ⊢
      rw [List.getD_cons_succ]
      exact this
    · rename_i hx
      rw [g_of_get (x := x) rfl]
      exact hx
omit hp in
theorem lead_eq {a : Row} {k : Nat} (h : g a k ≠ 0) (hz : ∀ i, i < k → g a i = 0) : lead a = k := by
  have hk : k < a.length := Nat.lt_of_not_le fun z => h (g_out z)
  rcases Nat.lt_trichotomy (lead a) k with q | q | q
  · exact absurd (hz _ q) (lead_ne (by omega))
  · exact q
  · exact absurd (lead_lt_g q) h
omit hp in
theorem lead_zero {a : Row} (h : a.length ≤ lead a) : a = zeroR a.length := row_ext rfl (len_zero _) fun i hi => by rw [g_zero]; exact lead_lt_g (by omega)
omit hp in
theorem lead_zeroR (n : Nat) : lead (zeroR n) = n := by
  rcases Nat.lt_or_ge (lead (zeroR n)) (zeroR n).length with h | h
  · exact absurd (g_zero n _) (lead_ne h)
  · have := lead_le (zeroR n)
    rw [len_zero] at *
    omega
/-- rows that have 0 at k leave k -/
theorem restOf_at {k : Nat} (hk : k < n) : ∀ {F : List Row} {r : Row}, (∀ o ∈ F, o.length = n ∧ g o k = 0) → Nrm p n r → g (restOf p r F) k = g r k
  | [], r, _, _ => rfl
  | o :: F, r, hF, nr => by
    obtain ⟨lo, zo⟩ := hF o List.mem_cons_self
    rw [restOf_cons, restOf_at hk (F := F) (fun x hx => hF x (List.mem_cons_of_mem _ hx)) (nrm_add hp nr.len lo), g_add nr.len lo hk, zo, Int.mul_zero, Int.add_zero, small (g_bd nr hp k)]
theorem restOf_fix : ∀ {F : List Row} {r : Row}, (∀ o ∈ F, o.length = n ∧ g r (lead o) = 0) → Nrm p n r → restOf p r F = r
  | [], r, _, _ => rfl
  | o :: F, r, hF, nr => by
    obtain ⟨lo, zo⟩ := hF o List.mem_cons_self
    rw [restOf_cons, add_at_zero hp nr lo (by rw [zo]; rfl)]
    exact restOf_fix (F := F) (fun x hx => hF x (List.mem_cons_of_mem _ hx)) nr
theorem restOf_lin (c : Int) : ∀ {F : List Row} {u v : Row}, (∀ o ∈ F, o.length = n ∧ lead o < n) → u.length = n → v.length = n → restOf p (addR p u v c) F = addR p (restOf p u F) (restOf p v F) c
  | [], u, v, _, _, _ => rfl
  | o :: F, u, v, hF, lu, lv => by
    obtain ⟨lo, ko⟩ := hF o List.mem_cons_self
    rw [restOf_cons, restOf_cons, restOf_cons, ← restOf_lin c (F := F) (fun x hx => hF x (List.mem_cons_of_mem _ hx)) (len_add lu lo) (len_add lv lo)]
    congr 1
    refine row_ext (len_add (len_add lu lv) lo) (len_add (len_add lu lo) (len_add lv lo)) fun i hi => ?_
    rw [g_add (len_add lu lv) lo hi, g_add lu lv hi, g_add lu lv ko, g_add (len_add lu lo) (len_add lv lo) hi, g_add lu lo hi, g_add lv lo hi, mod_n, mod_l, mod_l, mod_r]
    congr 1
    grind
theorem restOf_zero : ∀ {F : List Row}, (∀ o ∈ F, o.length = n) → restOf p (zeroR n) F = zeroR n := fun {F} hF =>
  restOf_fix hp (fun o ho => ⟨hF o ho, g_zero _ _⟩) (nrm_zero hp n)
end
/-! reduced rows -/
def Apart (a b : Row) : Prop := g a (lead b) = 0 ∧ g b (lead a) = 0
structure Red (p : Int) (n : Nat) (F : List Row) : Prop where
  nrm : ∀ o ∈ F, Nrm p n o
  lt : ∀ o ∈ F, lead o < n
  one : ∀ o ∈ F, g o (lead o) = 1
  pw : F.Pairwise Apart
section
variable {p : Int} {n : Nat}
theorem Red.nil : Red p n [] := ⟨fun _ h => (nomatch h), fun _ h => (nomatch h), fun _ h => (nomatch h), List.Pairwise.nil⟩
theorem Red.tail {a : Row} {F : List Row} (h : Red p n (a :: F)) : Red p n F := ⟨fun o x => h.nrm o (List.mem_cons_of_mem _ x), fun o x => h.lt o (List.mem_cons_of_mem _ x), fun o x => h.one o (List.mem_cons_of_mem _ x), (List.pairwise_cons.mp h.pw).2⟩
theorem Red.perm {F G : List Row} (h : Red p n F) (q : G.Perm F) : Red p n G := ⟨fun o x => h.nrm o (q.mem_iff.mp x), fun o x => h.lt o (q.mem_iff.mp x), fun o x => h.one o (q.mem_iff.mp x), (q.pairwise_iff (fun {_ _} z => ⟨z.2, z.1⟩)).mpr h.pw⟩
theorem Red.len {F : List Row} (h : Red p n F) : ∀ o ∈ F, o.length = n := fun o x => (h.nrm o x).len
variable (hp : 0 < p)
include hp
theorem rest_zero_at : ∀ {F : List Row} {r : Row}, Red p n F → Nrm p n r → ∀ o ∈ F, g (restOf p r F) (lead o) = 0
  | [], _, _, _, _, h => nomatch h
  | a :: F, r, h, nr, o, ho => by
    have la := (h.nrm a List.mem_cons_self).len
    have n1 := nrm_add hp (f := -(g r (lead a))) nr.len la
    rw [restOf_cons]
    rcases List.mem_cons.mp ho with e | ho
    · subst e
      rw [restOf_at hp (h.lt _ List.mem_cons_self) (fun x hx => ⟨h.tail.len x hx, ((List.pairwise_cons.mp h.pw).1 x hx).2⟩) n1, g_add nr.len la (h.lt _ List.mem_cons_self), h.one _ List.mem_cons_self]
      rw [show g r (lead o) + -g r (lead o) * 1 = 0 by omega]
      rfl
    · exact rest_zero_at h.tail n1 o ho
theorem rest_mem : ∀ {F : List Row}, Red p n F → ∀ o ∈ F, restOf p o F = zeroR n
  | [], _, _, h => nomatch h
  | a :: F, h, o, ho => by
    have la := (h.nrm a List.mem_cons_self).len
    rw [restOf_cons]
    rcases List.mem_cons.mp ho with e | ho
    · subst e
      have e0 : addR p o o (-(g o (lead o))) = zeroR n := row_ext (len_add la la) (len_zero n) fun i hi => by
        rw [g_add la la hi, h.one _ List.mem_cons_self, g_zero, show g o i + -1 * g o i = 0 by omega]
        rfl
      rw [e0]
      exact restOf_zero hp h.tail.len
    · rw [add_at_zero hp (h.tail.nrm o ho) la (by rw [((List.pairwise_cons.mp h.pw).1 o ho).2]; rfl)]
      exact rest_mem h.tail o ho
theorem rest_span {F : List Row} (h : Red p n F) {v : Row} (hv : Span p n (· ∈ F) v) : restOf p v F = zeroR n := by
  induction hv with
  | zero => exact restOf_zero hp h.len
  | @step v r c hv hr ih =>
    rw [restOf_lin hp c (fun o ho => ⟨h.len o ho, h.lt o ho⟩) (hv.nrm hp h.len).len (h.len _ hr), ih, rest_mem hp h _ hr]
    exact row_ext (len_add (len_zero n) (len_zero n)) (len_zero n) fun i hi => by
      rw [g_add (len_zero n) (len_zero n) hi, g_zero, Int.mul_zero]
      rfl
/-- has_row -/
theorem has_iff {F : List Row} (h : Red p n F) {v : Row} (nv : Nrm p n v) : restOf p v F = zeroR n ↔ Span p n (· ∈ F) v := by
  refine ⟨fun e => ?_, rest_span hp h⟩
  exact restOf_out hp h.len (F := F) (fun o ho => Span.mem hp ho (h.nrm o ho)) nv (by rw [e]; exact .zero)
/-- one more row, scaled to 1 at its lead -/
theorem red_more {F : List Row} (h : Red p n F) {row : Row} (nrow : Nrm p n row) {f : Int} (hk : lead (restOf p row F) < n) (hf : f * g (restOf p row F) (lead (restOf p row F)) % p = 1) :
    Red p n (F.map (fun o => addR p o (scaleR p (restOf p row F) f) (-(g o (lead (restOf p row F))))) ++ [scaleR p (restOf p row F) f]) := by
  have nr := restOf_nrm hp h.len nrow
  have hz := rest_zero_at hp h nrow
  generalize restOf p row F = r at *
  have ns := nrm_scale hp (f := f) nr.len
  have gs : ∀ i, i < n → g (scaleR p r f) i = g r i * f % p := fun i hi => g_scale (by rw [nr.len]; exact hi)
  have one : g (scaleR p r f) (lead r) = 1 := by rw [gs _ hk, Int.mul_comm]; exact hf
  have low : ∀ i, i < lead r → g (scaleR p r f) i = 0 := fun i hi => by
    rw [gs i (by omega), lead_lt_g hi, Int.zero_mul]
    rfl
  have es : lead (scaleR p r f) = lead r := lead_eq (by rw [one]; decide) low
  have sz : ∀ o ∈ F, g (scaleR p r f) (lead o) = 0 := fun o ho => by
    rw [gs _ (h.lt o ho), hz o ho, Int.zero_mul]
    rfl
  have ne : ∀ o ∈ F, lead o ≠ lead r := fun o ho e => by
    have h1 := hz o ho
    rw [e] at h1
    exact lead_ne (by rw [nr.len]; exact hk) h1
  have gn : ∀ o ∈ F, ∀ i, i < n → g (addR p o (scaleR p r f) (-(g o (lead r)))) i = (g o i + -(g o (lead r)) * g (scaleR p r f) i) % p := fun o ho i hi => g_add (h.len o ho) ns.len hi
  have at0 : ∀ o ∈ F, g (addR p o (scaleR p r f) (-(g o (lead r)))) (lead r) = 0 := fun o ho => by
    rw [gn o ho _ hk, one, show g o (lead r) + -g o (lead r) * 1 = 0 by omega]
    rfl
  have atF : ∀ o ∈ F, ∀ q ∈ F, g (addR p o (scaleR p r f) (-(g o (lead r)))) (lead q) = g o (lead q) := fun o ho q hq => by
    rw [gn o ho _ (h.lt q hq), sz q hq, Int.mul_zero, Int.add_zero, small (g_bd (h.nrm o ho) hp _)]
  have el : ∀ o ∈ F, lead (addR p o (scaleR p r f) (-(g o (lead r)))) = lead o := fun o ho => by
    refine lead_eq (by rw [atF o ho o ho, h.one o ho]; decide) fun i hi => ?_
    have hin : i < n := by have := h.lt o ho; omega
    rw [gn o ho i hin, lead_lt_g hi]
    rcases Nat.lt_or_ge i (lead r) with q | q
    · rw [low i q, Int.mul_zero]
      rfl
    · have : lead r < lead o := by have := ne o ho; omega
      rw [lead_lt_g this]
      simp
  have in_ : ∀ x ∈ F.map (fun o => addR p o (scaleR p r f) (-(g o (lead r)))) ++ [scaleR p r f], (∃ o, o ∈ F ∧ x = addR p o (scaleR p r f) (-(g o (lead r)))) ∨ x = scaleR p r f := fun x hx => by
    rcases List.mem_append.mp hx with hx | hx
    · obtain ⟨o, ho, e⟩ := List.mem_map.mp hx
      exact .inl ⟨o, ho, e.symm⟩
    · exact .inr (List.mem_singleton.mp hx)
  refine ⟨fun x hx => ?_, fun x hx => ?_, fun x hx => ?_, ?_⟩
  · rcases in_ x hx with ⟨o, ho, e⟩ | e
    · rw [e]; exact nrm_add hp (h.len o ho) ns.len
    · rw [e]; exact ns
  · rcases in_ x hx with ⟨o, ho, e⟩ | e
    · rw [e, el o ho]; exact h.lt o ho
    · rw [e, es]; exact hk
  · rcases in_ x hx with ⟨o, ho, e⟩ | e
    · rw [e, el o ho, atF o ho o ho]; exact h.one o ho
    · rw [e, es]; exact one
  · refine List.pairwise_append.mpr ⟨?_, List.pairwise_singleton _ _, fun x hx y hy => ?_⟩
    · refine List.pairwise_map.mpr (List.Pairwise.imp_of_mem (fun {a b} ha hb q => ?_) h.pw)
      show Apart _ _
      refine ⟨?_, ?_⟩
      · rw [el b hb, atF a ha b hb]; exact q.1
      · rw [el a ha, atF b hb a ha]; exact q.2
    · obtain ⟨o, ho, e⟩ := List.mem_map.mp hx
      rw [List.mem_singleton.mp hy, ← e]
      refine ⟨?_, ?_⟩
      · rw [es]; exact at0 o ho
      · rw [el o ho]; exact sz o ho
/-- .. and its span -/
theorem red_span {F : List Row} (h : Red p n F) {row : Row} (nrow : Nrm p n row) {f : Int} (hk : lead (restOf p row F) < n) (hf : f * g (restOf p row F) (lead (restOf p row F)) % p = 1) {R : Row → Prop} (hR : ∀ r, R r → r.length = n)
    (hs : ∀ v, Span p n (· ∈ F) v ↔ Span p n R v) (v : Row) :
    Span p n (· ∈ F.map (fun o => addR p o (scaleR p (restOf p row F) f) (-(g o (lead (restOf p row F))))) ++ [scaleR p (restOf p row F) f]) v ↔ Span p n (fun r => R r ∨ r = row) v := by
  have h2 := red_more hp h nrow hk hf
  have nr := restOf_nrm hp h.len nrow
  have hR2 : ∀ r, (R r ∨ r = row) → r.length = n := fun r z => z.elim (hR r) fun e => by rw [e]; exact nrow.len
  have up : ∀ o ∈ F, Span p n (fun r => R r ∨ r = row) o := fun o ho => Span.mono (fun r z => .inl z) ((hs o).mp (Span.mem hp ho (h.nrm o ho)))
  have rr : Span p n (fun r => R r ∨ r = row) (restOf p row F) := restOf_in hp hR2 up (Span.mem hp (.inr rfl) nrow)
  have ss : Span p n (fun r => R r ∨ r = row) (scaleR p (restOf p row F) f) := Span.scale hp hR2 f rr
  constructor
  · refine Span.sub hp hR2 fun x hx => ?_
    rcases List.mem_append.mp hx with hx | hx
    · obtain ⟨o, ho, e⟩ := List.mem_map.mp hx
      rw [← e]
      exact Span.add hp hR2 _ (up o ho) ss
    · rw [List.mem_singleton.mp hx]
      exact ss
  · have s1 : Span p n (· ∈ F.map (fun o => addR p o (scaleR p (restOf p row F) f) (-(g o (lead (restOf p row F))))) ++ [scaleR p (restOf p row F) f]) (scaleR p (restOf p row F) f) := Span.mem hp (List.mem_append_right _ (List.mem_singleton.mpr rfl)) (nrm_scale hp nr.len)
    have sF : ∀ o ∈ F, Span p n (· ∈ F.map (fun o => addR p o (scaleR p (restOf p row F) f) (-(g o (lead (restOf p row F))))) ++ [scaleR p (restOf p row F) f]) o := fun o ho => by
      have h3 := Span.mem hp (R := (· ∈ F.map (fun o => addR p o (scaleR p (restOf p row F) f) (-(g o (lead (restOf p row F))))) ++ [scaleR p (restOf p row F) f])) (List.mem_append_left _ (List.mem_map.mpr ⟨o, ho, rfl⟩)) (nrm_add hp (h.len o ho) (nrm_scale hp nr.len).len)
      have h4 := Span.add hp h2.len (-(-(g o (lead (restOf p row F))))) h3 s1
      rw [add_back hp _ (h.nrm o ho) (nrm_scale hp nr.len).len] at h4
      exact h4
    have sR : ∀ r, R r → Nrm p n r → Span p n (· ∈ F.map (fun o => addR p o (scaleR p (restOf p row F) f) (-(g o (lead (restOf p row F))))) ++ [scaleR p (restOf p row F) f]) r := fun r hr nr' => Span.sub hp h2.len sF ((hs r).mpr (Span.mem hp hr nr'))
    intro hv
    have key : ∀ v, Span p n (fun r => R r ∨ r = row) v → Span p n (· ∈ F.map (fun o => addR p o (scaleR p (restOf p row F) f) (-(g o (lead (restOf p row F))))) ++ [scaleR p (restOf p row F) f]) v := by
      intro v hv
      induction hv with
      | zero => exact .zero
      | @step v r c hv hr ih =>
        rcases hr with hr | hr
        · have hs1 : Span p n R (scaleR p r c) := by
            rw [← zero_add_scale hp (hR r hr)]
            exact .step c .zero hr
          have hs2 := Span.sub hp h2.len sF ((hs _).mpr hs1)
          have e : addR p v r c = addR p v (scaleR p r c) 1 := by
            have lv := (hv.nrm hp hR2).len
            have lr := hR r hr
            refine row_ext (len_add lv lr) (len_add lv (by rw [len_scale, lr])) fun i hi => ?_
            rw [g_add lv lr hi, g_add lv (by rw [len_scale, lr]) hi, g_scale (by omega), mod_r]
            congr 1
            grind
          rw [e]
          exact Span.add hp h2.len 1 ih hs2
        · subst hr
          refine Span.add hp h2.len c ih ?_
          refine restOf_out hp h2.len sF nrow ?_
          have e : restOf p r F = scaleR p (scaleR p (restOf p r F) f) (g (restOf p r F) (lead (restOf p r F))) := by
            refine row_ext nr.len (by rw [len_scale, len_scale, nr.len]) fun i hi => ?_
            rw [g_scale (by rw [len_scale, nr.len]; exact hi), g_scale (by rw [nr.len]; exact hi)]
            have b := g_bd nr hp i
            rw [← small b]
            have hf' := unmod p (f * g (restOf p r F) (lead (restOf p r F)))
            rw [hf] at hf'
            rw [small b, unmod p (g (restOf p r F) i * f)]
            rw [← small b]
            refine (cong (((g (restOf p r F) i * f) / p) * g (restOf p r F) (lead (restOf p r F)) - g (restOf p r F) i * (f * g (restOf p r F) (lead (restOf p r F)) / p)) ?_)
            rw [small b]
            grind
          have hsc := Span.scale hp h2.len (g (restOf p r F) (lead (restOf p r F))) s1
          rw [← e] at hsc
          exact hsc
    exact key v hv
/-- nothing is left of the row -/
theorem red_none {F : List Row} (h : Red p n F) {row : Row} (nrow : Nrm p n row) (hk : ¬ lead (restOf p row F) < n) {R : Row → Prop} (hR : ∀ r, R r → r.length = n)
    (hs : ∀ v, Span p n (· ∈ F) v ↔ Span p n R v) (v : Row) : Span p n (· ∈ F) v ↔ Span p n (fun r => R r ∨ r = row) v := by
  have nr := restOf_nrm hp h.len nrow
  have e : restOf p row F = zeroR n := by
    have := lead_zero (a := restOf p row F) (by rw [nr.len]; omega)
    rw [nr.len] at this
    exact this
  have hin := (has_iff hp h nrow).mp e
  constructor
  · intro hv
    exact Span.mono (fun r z => .inl z) ((hs v).mp hv)
  · intro hv
    have hR2 : ∀ r, (R r ∨ r = row) → r.length = n := fun r z => z.elim (hR r) fun e => by rw [e]; exact nrow.len
    induction hv with
    | zero => exact .zero
    | @step v r c hv hr ih =>
      rcases hr with hr | hr
      · have h1 := (hs v).mp ih
        exact (hs _).mpr (.step c h1 hr)
      · subst hr
        exact Span.add hp h.len c ih hin
end
end Lr
namespace Lr
/-! lists in strict order -/
theorem sorted_unique {α : Type} (code : α → Int) : ∀ {L M : List α}, L.Pairwise (fun a b => code a < code b) → M.Pairwise (fun a b => code a < code b) → (∀ v, v ∈ L ↔ v ∈ M) → L = M
  | [], [], _, _, _ => rfl
  | [], b :: M, _, _, h => absurd ((h b).mpr List.mem_cons_self) (fun z => nomatch z)
  | a :: L, [], _, _, h => absurd ((h a).mp List.mem_cons_self) (fun z => nomatch z)
  | a :: L, b :: M, hL, hM, h => by
    obtain ⟨l1, l2⟩ := List.pairwise_cons.mp hL
    obtain ⟨m1, m2⟩ := List.pairwise_cons.mp hM
    have e : a = b := by
      rcases List.mem_cons.mp ((h a).mp List.mem_cons_self) with z | z
      · exact z
      · rcases List.mem_cons.mp ((h b).mpr List.mem_cons_self) with y | y
        · exact y.symm
        · have h1 := m1 a z
          have h2 := l1 b y
          omega
    subst e
    congr 1
    refine sorted_unique code l2 m2 fun v => ⟨fun hv => ?_, fun hv => ?_⟩
    · rcases List.mem_cons.mp ((h v).mp (List.mem_cons_of_mem _ hv)) with z | z
      · have := l1 v hv
        rw [z] at this
        omega
      · exact z
    · rcases List.mem_cons.mp ((h v).mpr (List.mem_cons_of_mem _ hv)) with z | z
      · have := m1 v hv
        rw [z] at this
        omega
      · exact z
theorem nodup_sub_len {α : Type} [DecidableEq α] : ∀ {l D : List α}, l.Nodup → (∀ x ∈ l, x ∈ D) → l.length ≤ D.length
  | [], _, _, _ => Nat.zero_le _
  | x :: l, D, hn, hs => by
    obtain ⟨h1, h2⟩ := List.nodup_cons.mp hn
    have hx := hs x List.mem_cons_self
    have ih := nodup_sub_len (l := l) (D := D.erase x) h2 fun y hy => by
      refine (List.mem_erase_of_ne fun e => ?_).mpr (hs y (List.mem_cons_of_mem _ hy))
      rw [e] at hy
      exact h1 hy
    rw [List.length_erase_of_mem hx] at ih
    have := List.length_pos_of_mem hx
    rw [List.length_cons]
    omega
theorem nodup_len_eq {α : Type} [DecidableEq α] {l D : List α} (h1 : l.Nodup) (h2 : D.Nodup) (h : ∀ x, x ∈ l ↔ x ∈ D) : l.length = D.length :=
  Nat.le_antisymm (nodup_sub_len h1 fun x hx => (h x).mp hx) (nodup_sub_len h2 fun x hx => (h x).mpr hx)
/-! reduced rows in order -/
structure SRed (p : Int) (n : Nat) (F : List Row) : Prop where
  red : Red p n F
  asc : F.Pairwise fun a b => lead a < lead b
theorem SRed.tail {p : Int} {n : Nat} {a : Row} {F : List Row} (h : SRed p n (a :: F)) : SRed p n F := ⟨h.red.tail, (List.pairwise_cons.mp h.asc).2⟩
theorem ne_lead {a b : Row} (h : Apart a b) (ha : g a (lead a) = 1) : lead a ≠ lead b := fun e => by
  have h1 := h.1
  rw [← e, ha] at h1
  exact absurd h1 (by decide)
/-- any order by leads is strict -/
theorem sred_of {p : Int} {n : Nat} {F : List Row} (h : Red p n F) (hs : F.Pairwise fun a b => lead a ≤ lead b) : SRed p n F := by
  refine ⟨h, ?_⟩
  have h2 := List.pairwise_and_iff.mpr ⟨hs, h.pw⟩
  exact List.Pairwise.imp_of_mem (fun {a b} ha hb q => by
    have := ne_lead q.2 (h.one a ha)
    have := q.1
    omega) h2
section
variable {p : Int} {n : Nat} (hp : 0 < p)
include hp
theorem span_low {a : Row} {A : List Row} (h : SRed p n (a :: A)) {v : Row} (hv : Span p n (· ∈ a :: A) v) : ∀ k, k < lead a → g v k = 0 := by
  intro k hk
  have hkn : k < n := Nat.lt_trans hk (h.red.lt a List.mem_cons_self)
  induction hv with
  | zero => exact g_zero n k
  | @step v r c hv hr ih =>
    have lr := h.red.len r hr
    rw [g_add (hv.nrm hp h.red.len).len lr hkn, ih]
    have z : g r k = 0 := by
      rcases List.mem_cons.mp hr with e | hr
      · rw [e]; exact lead_lt_g hk
      · exact lead_lt_g (Nat.lt_trans hk ((List.pairwise_cons.mp h.asc).1 r hr))
    rw [z, Int.mul_zero]
    rfl
theorem span_lead {a : Row} {A : List Row} (h : SRed p n (a :: A)) {v : Row} (hv : Span p n (· ∈ a :: A) v) : lead a ≤ lead v := by
  have nv := hv.nrm hp h.red.len
  rcases Nat.lt_or_ge (lead v) (lead a) with q | q
  · exact absurd (span_low hp h hv _ q) (lead_ne (by have := h.red.lt a List.mem_cons_self; rw [nv.len]; omega))
  · exact q
theorem span_tail {a : Row} {A : List Row} (h : Red p n (a :: A)) {v : Row} : Span p n (· ∈ A) v ↔ Span p n (· ∈ a :: A) v ∧ g v (lead a) = 0 := by
  have la := h.len a List.mem_cons_self
  have ka := h.lt a List.mem_cons_self
  constructor
  · intro hv
    refine ⟨Span.mono (fun r z => List.mem_cons_of_mem _ z) hv, ?_⟩
    induction hv with
    | zero => exact g_zero _ _
    | @step v r c hv hr ih =>
      rw [g_add (hv.nrm hp h.tail.len).len (h.tail.len r hr) ka, ih, ((List.pairwise_cons.mp h.pw).1 r hr).2, Int.mul_zero]
      rfl
  · rintro ⟨hv, z⟩
    have nv := hv.nrm hp h.len
    have e := rest_span hp h hv
    rw [restOf_cons, add_at_zero hp nv la (by rw [z]; rfl)] at e
    exact (has_iff hp h.tail nv).mp e
theorem sred_unique : ∀ {A B : List Row}, SRed p n A → SRed p n B → (∀ v, Span p n (· ∈ A) v ↔ Span p n (· ∈ B) v) → A = B
  | [], [], _, _, _ => rfl
  | [], b :: B, _, hB, h => by
    have hb := (h b).mpr (Span.mem hp List.mem_cons_self (hB.red.nrm b List.mem_cons_self))
    have e : restOf p b [] = zeroR n := rest_span hp Red.nil hb
    have e1 := hB.red.one b List.mem_cons_self
    rw [show b = zeroR n from e, g_zero] at e1
    exact absurd e1 (by decide)
  | a :: A, [], hA, _, h => by
    have ha := (h a).mp (Span.mem hp List.mem_cons_self (hA.red.nrm a List.mem_cons_self))
    have e : restOf p a [] = zeroR n := rest_span hp Red.nil ha
    have e1 := hA.red.one a List.mem_cons_self
    rw [show a = zeroR n from e, g_zero] at e1
    exact absurd e1 (by decide)
  | a :: A, b :: B, hA, hB, h => by
    have na := hA.red.nrm a List.mem_cons_self
    have nb := hB.red.nrm b List.mem_cons_self
    have sa := (h a).mp (Span.mem hp List.mem_cons_self na)
    have sb := (h b).mpr (Span.mem hp List.mem_cons_self nb)
    have el : lead a = lead b := Nat.le_antisymm (span_lead hp hA sb) (span_lead hp hB sa)
    have ht : ∀ v, Span p n (· ∈ A) v ↔ Span p n (· ∈ B) v := fun v => by
      rw [span_tail hp hA.red, span_tail hp hB.red, h v, el]
    have eAB := sred_unique hA.tail hB.tail ht
    subst eAB
    have ka := hA.red.lt a List.mem_cons_self
    have d1 : Span p n (· ∈ a :: A) (addR p a b (-1)) := Span.add hp hA.red.len _ (Span.mem hp List.mem_cons_self na) sb
    have dz : g (addR p a b (-1)) (lead a) = 0 := by
      rw [g_add na.len nb.len ka, hA.red.one a List.mem_cons_self, el, hB.red.one b List.mem_cons_self]
      rfl
    have d2 := (span_tail hp hA.red).mpr ⟨d1, dz⟩
    have d3 := rest_span hp hA.red.tail d2
    rw [restOf_fix hp (fun o ho => ⟨hA.red.tail.len o ho, ?_⟩) (nrm_add hp na.len nb.len)] at d3
    · congr 1
      refine row_ext na.len nb.len fun i hi => ?_
      have e0 : g (addR p a b (-1)) i = 0 := by rw [d3, g_zero]
      rw [g_add na.len nb.len hi] at e0
      have b1 := g_bd na hp i
      have b2 := g_bd nb hp i
      have u := unmod p (g a i + -1 * g b i)
      rw [e0] at u
      generalize (g a i + -1 * g b i) / p = q at u
      have hq : q = 0 := by
        rcases Int.lt_trichotomy q 0 with z | z | z
        · have : p * q ≤ p * (-1) := Int.mul_le_mul_of_nonneg_left (by omega) (by omega)
          omega
        · exact z
        · have : p * 1 ≤ p * q := Int.mul_le_mul_of_nonneg_left (by omega) (by omega)
          omega
      rw [hq] at u
      omega
    · have ko := hA.red.tail.lt o ho
      rw [g_add na.len nb.len ko, ((List.pairwise_cons.mp hA.red.pw).1 o ho).1, ((List.pairwise_cons.mp hB.red.pw).1 o ho).1]
      rfl
/-! the law's span -/
omit hp in
structure IsSpan (p : Int) (n : Nat) (code : Row → Int) (R : Row → Prop) (L : List Row) : Prop where
  mem : ∀ v, v ∈ L ↔ Span p n R v
  asc : L.Pairwise fun a b => code a < code b
omit hp in
theorem isSpan_unique {code : Row → Int} {R R' : Row → Prop} {L M : List Row} (h : IsSpan p n code R L) (h' : IsSpan p n code R' M) : L = M ↔ ∀ v, Span p n R v ↔ Span p n R' v := by
  constructor
  · intro e v
    rw [← h.mem v, ← h'.mem v, e]
  · intro e
    exact sorted_unique code h.asc h'.asc fun v => by rw [h.mem v, h'.mem v, e v]
omit hp in
theorem isSpan_start {code : Row → Int} {R : Row → Prop} (hR : ∀ r, ¬ R r) : IsSpan p n code R [zeroR n] := by
  refine ⟨fun v => ⟨fun h => ?_, fun h => ?_⟩, List.pairwise_singleton _ _⟩
  · rw [List.mem_singleton.mp h]
    exact .zero
  · cases h with
    | zero => exact List.mem_singleton.mpr rfl
    | step c _ hr => exact absurd hr (hR _)
theorem span_step {R : Row → Prop} (hR : ∀ r, R r → r.length = n) {row : Row} (lr : row.length = n) (v : Row) :
    Span p n (fun r => R r ∨ r = row) v ↔ ∃ u f, Span p n R u ∧ 0 ≤ f ∧ f < p ∧ v = addR p u row f := by
  constructor
  · intro h
    induction h with
    | zero => exact ⟨zeroR n, 0, .zero, by omega, hp, (add_zero_c hp (nrm_zero hp n) lr).symm⟩
    | @step v r c hv hr ih =>
      obtain ⟨u, f, hu, f0, f1, e⟩ := ih
      have lu := (hu.nrm hp hR).len
      rcases hr with hr | hr
      · exact ⟨addR p u r c, f, .step c hu hr, f0, f1, by rw [e, add_swap hp f c lu lr (hR r hr)]⟩
      · subst hr
        exact ⟨u, (f + c) % p, hu, (emod_bd hp _).1, (emod_bd hp _).2, by rw [e, add_same hp f c lu lr]⟩
  · rintro ⟨u, f, hu, _, _, e⟩
    rw [e]
    exact .step f (Span.mono (fun r z => .inl z) hu) (.inr rfl)
/-! how many -/
omit hp in
def genL (p : Int) (n : Nat) : List Row → List Row
  | [] => [zeroR n]
  | a :: F => (List.range p.toNat).flatMap fun (f : Nat) => (genL p n F).map fun u => addR p u a (f : Int)
theorem genL_mem : ∀ {F : List Row}, Red p n F → ∀ v, v ∈ genL p n F ↔ Span p n (· ∈ F) v
  | [], _, v => by
    show v ∈ [zeroR n] ↔ _
    exact (isSpan_start (code := fun _ => 0) (fun r z => nomatch z)).mem v
  | a :: F, h, v => by
    have h1 : Span p n (· ∈ a :: F) v ↔ Span p n (fun r => r ∈ F ∨ r = a) v :=
      ⟨Span.mono fun r z => (List.mem_cons.mp z).symm, Span.mono fun r z => List.mem_cons.mpr z.symm⟩
    rw [h1, span_step hp h.tail.len (h.len a List.mem_cons_self)]
    unfold genL
    rw [List.mem_flatMap]
    constructor
    · rintro ⟨f, hf, hv⟩
      obtain ⟨u, hu, e⟩ := List.mem_map.mp hv
      have := List.mem_range.mp hf
      exact ⟨u, f, (genL_mem h.tail u).mp hu, by omega, by omega, e.symm⟩
    · rintro ⟨u, f, hu, f0, f1, e⟩
      refine ⟨f.toNat, List.mem_range.mpr (by omega), List.mem_map.mpr ⟨u, (genL_mem h.tail u).mpr hu, ?_⟩⟩
      rw [e, show ((f.toNat : Nat) : Int) = f by omega]
omit hp in
theorem genL_len : ∀ F : List Row, (genL p n F).length = p.toNat ^ F.length
  | [] => rfl
  | a :: F => by
    unfold genL
    rw [List.length_flatMap]
    have e : (List.range p.toNat).map (fun (f : Nat) => ((genL p n F).map fun u => addR p u a (f : Int)).length) = List.replicate p.toNat (p.toNat ^ F.length) := by
      apply List.ext_getElem
      · simp
      · intro i h1 h2
        simp [genL_len F]
    rw [e, List.sum_replicate_nat, List.length_cons, Nat.pow_succ, Nat.mul_comm]
theorem genL_nodup : ∀ {F : List Row}, Red p n F → (genL p n F).Nodup
  | [], _ => by
    show [zeroR n].Nodup
    exact List.pairwise_singleton _ _
  | a :: F, h => by
    have la := h.len a List.mem_cons_self
    have ka := h.lt a List.mem_cons_self
    have ga : ∀ u, u ∈ genL p n F → ∀ f : Int, 0 ≤ f → f < p → g (addR p u a f) (lead a) = f := fun u hu f f0 f1 => by
      obtain ⟨hs, z⟩ := (span_tail hp h).mp ((genL_mem hp h.tail u).mp hu)
      rw [g_add (hs.nrm hp h.len).len la ka, z, h.one a List.mem_cons_self, Int.mul_one, Int.zero_add, small ⟨f0, f1⟩]
    unfold genL
    refine List.pairwise_flatMap.mpr ⟨fun f hf => ?_, ?_⟩
    · have hf' := List.mem_range.mp hf
      refine List.pairwise_map.mpr (List.Pairwise.imp_of_mem (fun {u v} hu hv ne e => ne ?_) (genL_nodup h.tail))
      have nu := ((genL_mem hp h.tail u).mp hu).nrm hp h.tail.len
      have nv := ((genL_mem hp h.tail v).mp hv).nrm hp h.tail.len
      rw [← add_back hp (f : Int) nu la, ← add_back hp (f : Int) nv la, e]
    · refine List.Pairwise.imp_of_mem (fun {f f'} hf hf' ne => ?_) List.nodup_range
      have b1 := List.mem_range.mp hf
      have b2 := List.mem_range.mp hf'
      intro x hx y hy exy
      obtain ⟨u, hu, e1⟩ := List.mem_map.mp hx
      obtain ⟨v, hv, e2⟩ := List.mem_map.mp hy
      rw [← exy] at e2
      have q1 := ga u hu (f : Int) (by omega) (by omega)
      have q2 := ga v hv (f' : Int) (by omega) (by omega)
      rw [e1] at q1
      rw [e2, q1] at q2
      exact ne (by omega)
theorem isSpan_len {code : Row → Int} {F L : List Row} (h : Red p n F) (hL : IsSpan p n code (· ∈ F) L) : (L.length : Int) = p ^ F.length := by
  have nd : L.Nodup := List.Pairwise.imp (fun {a b} q e => by rw [e] at q; omega) hL.asc
  have e := nodup_len_eq nd (genL_nodup hp h) fun v => by rw [hL.mem v, genL_mem hp h v]
  rw [e, genL_len, Int.natCast_pow, show ((p.toNat : Nat) : Int) = p by omega]
/-! all rows -/
omit hp in
def allV (p : Int) : Nat → List Row
  | 0 => [[]]
  | n + 1 => (List.range p.toNat).flatMap fun (x : Nat) => (allV p n).map fun r => (x : Int) :: r
omit hp in
theorem allV_len : ∀ n : Nat, (allV p n).length = p.toNat ^ n
  | 0 => rfl
  | n + 1 => by
    unfold allV
    rw [List.length_flatMap]
    have e : (List.range p.toNat).map (fun (x : Nat) => ((allV p n).map fun r => (x : Int) :: r).length) = List.replicate p.toNat (p.toNat ^ n) := by
      apply List.ext_getElem
      · simp
      · intro i h1 h2
        simp [allV_len n]
    rw [e, List.sum_replicate_nat, Nat.pow_succ, Nat.mul_comm]
omit hp in
theorem allV_mem : ∀ {n : Nat} {r : Row}, Nrm p n r → r ∈ allV p n
  | 0, r, h => by
    have : r = [] := List.eq_nil_of_length_eq_zero h.len
    rw [this]
    exact List.mem_singleton.mpr rfl
  | n + 1, [], h => by
    have := h.len
    simp at this
  | n + 1, x :: r, h => by
    have hx := h.bd x List.mem_cons_self
    unfold allV
    refine List.mem_flatMap.mpr ⟨x.toNat, List.mem_range.mpr (by omega), List.mem_map.mpr ⟨r, allV_mem ⟨by have := h.len; rw [List.length_cons] at this; omega, fun y hy => h.bd y (List.mem_cons_of_mem _ hy)⟩, ?_⟩⟩
    rw [show ((x.toNat : Nat) : Int) = x by omega]
omit hp in
theorem few_rows {L : List Row} (nd : L.Nodup) (h : ∀ r ∈ L, Nrm p n r) : L.length ≤ p.toNat ^ n := by
  rw [← allV_len]
  exact nodup_sub_len nd fun x hx => allV_mem (h x hx)
/-! columns -/
omit hp in
theorem sum_zero : ∀ {l : List Int}, (∀ x ∈ l, x = 0) → l.sum = 0
  | [], _ => rfl
  | x :: l, h => by
    rw [List.sum_cons, h x List.mem_cons_self, sum_zero fun y hy => h y (List.mem_cons_of_mem _ hy)]
    rfl
omit hp in
theorem sum_col : ∀ {F : List Row}, Red p n F → ∀ a ∈ F, (F.map fun o => g o (lead a)).sum = 1
  | [], _, _, h => nomatch h
  | b :: F, h, a, ha => by
    rw [List.map_cons, List.sum_cons]
    rcases List.mem_cons.mp ha with e | ha
    · subst e
      rw [h.one a List.mem_cons_self, sum_zero]
      · rfl
      · intro x hx
        obtain ⟨o, ho, e⟩ := List.mem_map.mp hx
        rw [← e]
        exact ((List.pairwise_cons.mp h.pw).1 o ho).2
    · rw [((List.pairwise_cons.mp h.pw).1 a ha).1, sum_col h.tail a ha]
      rfl
omit hp in
theorem zero_not_in {F : List Row} (h : Red p n F) : zeroR n ∉ F := fun z => by
  have := h.one _ z
  rw [g_zero] at this
  exact absurd this (by decide)
end
/-! the forms -/
def Prm (p : Int) : Prop := p = 2 ∨ p = 3 ∨ p = 5 ∨ p = 7
def forms : List (Int × Nat) := [(2, 1), (2, 2), (2, 3), (2, 4), (3, 1), (3, 2), (3, 3), (5, 2), (7, 2)]
structure Frm (p : Int) (n : Nat) : Prop where
  prm : Prm p
  one : 1 ≤ n
  four : n ≤ 4
  few : p.toNat ^ n ≤ 49
theorem Prm.pos {p : Int} (h : Prm p) : 0 < p := by
  unfold Prm at h
  omega
theorem frm_of {p : Int} {n : Nat} (h : (p, n) ∈ forms) : Frm p n := by
  have key : ∀ q : Int × Nat, q ∈ forms → Frm q.1 q.2 := by
    intro q hq
    simp only [forms, List.mem_cons, List.not_mem_nil, or_false] at hq
    rcases hq with e | e | e | e | e | e | e | e | e <;> subst e <;> exact ⟨by unfold Prm; decide, by decide, by decide, by decide⟩
  exact key (p, n) h
theorem inv_ex {p x : Int} (h : Prm p) (h0 : 0 < x) (h1 : x < p) : ∃ f, 0 < f ∧ f < p ∧ f * x % p = 1 := by
  rcases h with e | e | e | e <;> subst e
  · obtain rfl : x = 1 := by omega
    exact ⟨1, by decide, by decide, by decide⟩
  · rcases (show x = 1 ∨ x = 2 by omega) with e | e <;> subst e
    · exact ⟨1, by decide, by decide, by decide⟩
    · exact ⟨2, by decide, by decide, by decide⟩
  · rcases (show x = 1 ∨ x = 2 ∨ x = 3 ∨ x = 4 by omega) with e | e | e | e <;> subst e
    · exact ⟨1, by decide, by decide, by decide⟩
    · exact ⟨3, by decide, by decide, by decide⟩
    · exact ⟨2, by decide, by decide, by decide⟩
    · exact ⟨4, by decide, by decide, by decide⟩
  · rcases (show x = 1 ∨ x = 2 ∨ x = 3 ∨ x = 4 ∨ x = 5 ∨ x = 6 by omega) with e | e | e | e | e | e <;> subst e
    · exact ⟨1, by decide, by decide, by decide⟩
    · exact ⟨4, by decide, by decide, by decide⟩
    · exact ⟨5, by decide, by decide, by decide⟩
    · exact ⟨2, by decide, by decide, by decide⟩
    · exact ⟨3, by decide, by decide, by decide⟩
    · exact ⟨6, by decide, by decide, by decide⟩
end Lr
/-! sorted(xs, key=f), f a def of the text's own that only reads -/
namespace LrB
open PySem PySem.Spec L2
/-- what stands at the list while it is being sorted: the one object, empty -/
def Bare (a : Addr) (e : Nat) : HO := .ext fun h => h.get? a = some (PyProof.Rows.seqObj "list" #[] e)
theorem bare_ok {P : Program} {w : World} {H : Hp} {h : Heap} {a : Addr} {e : Nat} (q : h.get? a = some (PyProof.Rows.seqObj "list" #[] e)) : ObjOk P w H h a (Bare a e) :=
  ⟨q, ⟨_, q⟩, fun _ _ z k => k _ z⟩
theorem refs_vals : ∀ {ks : List (Addr × List Int)} {us : List Value}, Vals (ks.map fun p => V.ref p.1) us → us = ks.map fun p => Value.ref p.1
  | [], _, r => by cases r; rfl
  | p :: ks, _, r => by
    cases r with
    | cons r1 r2 =>
      obtain rfl := r1
      rw [refs_vals r2]
      rfl
section
variable {X : Cx} {pins : List (Addr × Obj)} {σ : L2.St} {H : Hp} {s : Shared} {n : Nat} {f : Addr} {sp : Sp}
/-- one key -/
theorem key_one {A : Around} {b : Addr} {k : Int} (F : FnR X.prog X.w X.K X.mg X.base CX0 n f sp) (hr : Room n A) (e0 : Env0 X.prog X.w X.K X.mg X.base A X.stack s H) (I : Inv X pins σ H s)
    (q : sp [.ref b] H (fun v H2 => v = .int k ∧ H2 = H) E0) : wpAny (model X.prog X.w) A (PySem.call (.ref f) [.ref b]) (fun v s' => (∃ t, v = .int k t) ∧ Inv X pins σ H s') (fun _ _ => False) s := by
  refine wpAny_call (codeAny_mono (F A X.stack s H [.ref b] [.ref b] _ E0 hr e0 (.cons rfl .nil) q) fun r s' hq => ?_)
  cases r with
  | error e => exact hq
  | ok fl =>
    cases fl with
    | ret u =>
      obtain ⟨v, H', I', rv, e1, e2⟩ := I.after hq
      subst e1 e2
      exact ⟨rv, I'⟩
    | next => exact False.elim hq
    | brk => exact False.elim hq
    | cont => exact False.elim hq
theorem Inv.env_at {A : Around} (I : Inv X pins σ H s) (h : A.frames = X.A.frames) : Env0 X.prog X.w X.K X.mg X.base A X.stack s H := by
  have e := I.env0
  exact ⟨by rw [h]; exact e.frames, e.mod, e.bs, e.bsz, e.funs, e.frf, e.hok, e.bare⟩
/-- behind the sort: the keys' list is forgotten, the list has its items -/
theorem inv_sorted {kS a : Addr} {ua uk : HO} {h' : Heap} {tk : Nat} {xs : List V} (I : Inv X pins σ (upd (upd H a ua) kS uk) s) (na : H a = none) (nk : H kS = none) (hka : kS ≠ a) (ta : ∀ ys, ua ≠ .tup ys) (fa : ∀ o u, ua ≠ .frz o u) (ba : ∀ ps, ua ≠ .tbl ps)
    (tb : ∀ ys, uk ≠ .tup ys) (fb : ∀ o u, uk ≠ .frz o u) (bb : ∀ ps, uk ≠ .tbl ps) (oa : ∀ y, ua ≠ .own y) (ob : ∀ y, uk ≠ .own y) (h0 : X.s_0.heap.objs.size ≤ kS)
    (kp : ∀ b o, b ≠ a → b ≠ kS → s.heap.get? b = some o → h'.get? b = some o) (new : ObjOk X.prog X.w (upd H a (.lst xs)) h' a (.lst xs)) :
    Inv X pins σ (upd H a (.lst xs)) { s with heap := h', toks := tk } := by
  have at_k : upd (upd H a ua) kS uk kS = some uk := upd_same
  have at_a : upd (upd H a ua) kS uk a = some ua := by rw [upd_ne (Ne.symm hka)]; exact upd_same
  have off : ∀ b, b ≠ a → b ≠ kS → upd (upd H a ua) kS uk b = H b := fun b h1 h2 => by rw [upd_ne h2, upd_ne h1]
  have free : ∀ b, upd (upd H a ua) kS uk b = none → b ≠ a ∧ b ≠ kS ∧ H b = none := fun b z => by
    have h1 : b ≠ a := fun e => by rw [e, at_a] at z; cases z
    have h2 : b ≠ kS := fun e => by rw [e, at_k] at z; cases z
    exact ⟨h1, h2, by rw [← off b h1 h2]; exact z⟩
  have old : ∀ b u, upd (upd H a ua) kS uk b = some u → u ≠ ua → u ≠ uk → upd H a (.lst xs) b = some u := fun b u z h1 h2 => by
    have e1 : b ≠ a := fun e => h1 (by rw [e, at_a] at z; exact (Option.some.inj z).symm)
    have e2 : b ≠ kS := fun e => h2 (by rw [e, at_k] at z; exact (Option.some.inj z).symm)
    rw [upd_ne e1, ← off b e1 e2]
    exact z
  refine I.step (g' := s.gens) (d' := s.drawn) (ch := [kS]) (fun b hb => ?_) (fun b o _ _ hb q z => ?_) (fun b o _ _ hb q z => ?_) (fun b o _ _ z => ?_) (fun b o hb q => ?_)
    (fun b ys z => old b _ z (fun e => ta ys e.symm) (fun e => tb ys e.symm)) (fun b o u z => old b _ z (fun e => fa o u e.symm) (fun e => fb o u e.symm))
    (fun b ps z => ⟨#[], by rw [old b _ z (fun e => ba ps e.symm) (fun e => bb ps e.symm)]; simp⟩) (fun m hm => ?_) (fun b u z => ?_) I.bare
  · rw [List.mem_singleton.mp hb]
    refine ⟨.inr h0, fun e => ?_, fun x c hc e => ?_, fun p hp e => ?_⟩
    · have := I.free
      rw [← e, at_k] at this
      cases this
    · have := I.freeC x c hc
      rw [e, at_k] at this
      cases this
    · have := (I.pin p hp).2.1
      rw [e, at_k] at this
      cases this
  · obtain ⟨h1, h2, _⟩ := free b z
    exact kp b o h1 h2 q
  · obtain ⟨h1, h2, _⟩ := free b z
    exact ⟨o.slots, kp b o h1 h2 q⟩
  · obtain ⟨h1, h2, h3⟩ := free b z
    rw [upd_ne h1]
    exact h3
  · by_cases h1 : b = a
    · rw [h1]
      exact ⟨_, new.2.choose_spec.choose_spec.2⟩
    · exact ⟨o, kp b o h1 (fun e => hb (List.mem_singleton.mpr e)) q⟩
  · obtain ⟨h1, h2, _⟩ := free _ I.free
    exact hm.at fun o q => kp _ o h1 h2 q
  · by_cases h1 : b = a
    · rw [h1] at z ⊢
      rw [upd_same] at z
      cases z
      exact new
    · have zH : H b = some u := (upd_ne h1).symm.trans z
      have h2 : b ≠ kS := fun e => by rw [e, nk] at zH; cases zH
      have zI : upd (upd H a ua) kS uk b = some u := by rw [off b h1 h2]; exact zH
      refine (I.hok b u zI).stay (fun c v hc q => ?_) (fun c q => ?_) fun c ys q => old c _ q (fun e => ta ys e.symm) (fun e => tb ys e.symm)
      · have hc' : c ≠ a ∧ c ≠ kS := by
          rcases hc with e | e
          · rw [e]; exact ⟨h1, h2⟩
          · refine ⟨fun z => ?_, fun z => ?_⟩
            · rw [z, at_a] at e
              exact oa b (Option.some.inj e)
            · rw [z, at_k] at e
              exact ob b (Option.some.inj e)
        exact kp c v hc'.1 hc'.2 q
      · exact old c _ q (fun e => oa b e.symm) (fun e => ob b e.symm)

/-- the loop that asks for the keys, the list's own object standing empty -/
theorem keys_loop {A : Around} {a kS : Addr} {e1 : Nat} {qs : List (Addr × List Int)} {k : Addr × List Int → Int} {P : PySem.Fin → Shared → Prop} {E : Value → Shared → Prop} (F : FnR X.prog X.w X.K X.mg X.base CX0 n f sp) (hr : Room n A) (hA : A.frames = X.A.frames)
    (na : H a = none) (nk : H kS = none) (hka : kS ≠ a) (h0 : X.s_0.heap.objs.size ≤ kS) (hL : qs.length ≤ 1000)
    (hf : ∀ q ∈ qs, ∀ H', Same H H' → sp [.ref q.1] H' (fun v H2 => v = .int (k q) ∧ H2 = H') E0)
    (I : Inv X pins σ (upd (upd H a (Bare a e1)) kS (.lst [])) s)
    (h : ∀ s', Inv X pins σ (upd H a (.lst ((qs.mergeSort fun x y => decide (k x ≤ k y)).map fun q => V.ref q.1))) s' → P (.done (.ret .none)) s') :
    wpAny (model X.prog X.w) A (PyProof.Rows.ksk_rest a (.ref f) false (qs.map fun q => Value.ref q.1).toArray e1 (.ref kS)) P E s := by
  have hline : ∀ m, m ≤ 1000 → m ≤ sizeLine := fun m hm => Nat.le_of_lt (small1000 hm)
  have sm : ∀ o, Same H (upd (upd H a (Bare a e1)) kS o) := fun o b u q => by
    rw [upd_ne (ne_of_none q nk), upd_ne (ne_of_none q na)]
    exact q
  unfold PyProof.Rows.ksk_rest
  refine wpAny_bind (wpAny_rule ?_)
  first
    | rw [List.forIn_toArray]
    | rw [← Array.forIn_toList]
  refine wpAny_bind (PyProof.Rows.ksk_fold (fun i s' => Inv X pins σ (upd (upd H a (Bare a e1)) kS (.lst ((qs.take i).map fun q => V.int (k q)))) s') (qs.map fun q => Value.ref q.1) 0 s I ?step ?done)
  case step =>
    intro j x s' hx I'
    rw [Nat.zero_add] at I' ⊢
    obtain ⟨q, hq, ex⟩ : ∃ q, qs[j]? = some q ∧ x = Value.ref q.1 := by
      rw [List.getElem?_map] at hx
      cases hq : qs[j]? with
      | none => rw [hq] at hx; cases hx
      | some q =>
        rw [hq] at hx
        exact ⟨q, rfl, (Option.some.inj hx).symm⟩
    subst ex
    have hj : j < qs.length := (List.getElem?_eq_some_iff.mp hq).1
    refine wpAny_bind (wpAny_attempt (wpAny_mono (key_one (k := k q) F hr (Inv.env_at I' hA) I' (hf q (List.mem_of_getElem? hq) _ (sm _))) (fun v s'' he => ?_) fun _ _ hF => hF.elim))
    obtain ⟨⟨t, rfl⟩, I2⟩ := he
    try dsimp only
    obtain ⟨hz, its, c, rv, hl, ho⟩ := I2.lstM upd_same
    have hlen : its.length = j := by
      rw [← hl, List.length_map, List.length_take]
      omega
    refine wpAny_bind (PyProof.Rows.listUpdate_at ho rfl ?_ (by rw [List.size_toArray, hlen]; exact hline _ (by omega)) (by rw [Array.size_push, List.size_toArray, hlen]; exact Nat.succ_le_succ (hline _ (by omega))))
    refine wpAny_pure ⟨rfl, ?_⟩
    have et : (qs.take (j + 1)).map (fun q => V.int (k q)) = (qs.take j).map (fun q => V.int (k q)) ++ [V.int (k q)] := by
      rw [List.take_add_one, hq, List.map_append]
      rfl
    have I3 := Inv.lset (l := kS) (its := its) (its' := its ++ [Value.int (k q) t]) (f := fun xs => xs.push (Value.int (k q) t)) (t' := s''.toks) (ys := (qs.take j).map (fun q => V.int (k q)) ++ [V.int (k q)]) I2 upd_same ho (by simp) (rv.append (.cons ⟨t, rfl⟩ .nil))
      (by rw [List.length_append, List.length_map, List.length_take]; exact hline _ (by simp; omega))
    rw [upd_upd] at I3
    rw [et]
    exact I3
  case done =>
    intro s' I'
    rw [Nat.zero_add, List.length_map, List.take_of_length_le (Nat.le_refl _)] at I'
    obtain ⟨hz, its, c, rv, hl, ho⟩ := I'.lstM upd_same
    have hlen : its.length = qs.length := by rw [← hl, List.length_map]
    have oa : s'.heap.get? a = some (PyProof.Rows.seqObj "list" #[] e1) := (I'.hok a (Bare a e1) (by rw [upd_ne (Ne.symm hka)]; exact upd_same)).1
    have hE : ∀ (us : List Value) (zs : List (Addr × List Int)), Vals (zs.map fun q => V.int (k q)) us → PySem.W.EachIs (fun v d => ∃ as, Reads s'.heap v d as) us (zs.map fun q => PyData.int (k q)) := by
      intro us zs
      induction zs generalizing us with
      | nil =>
        intro r
        cases r
        exact .nil
      | cons z zs ih =>
        intro r
        cases r with
        | cons r1 r2 =>
          obtain ⟨t, rfl⟩ := r1
          exact .cons ⟨[], .int _ t⟩ (ih _ r2)
    have hk := hE its qs rv
    refine wpAny_bind (PyProof.Rows.listItems_at ho rfl ?_)
    refine PySem.W.keyH_end (b := false) (vs := qs.map fun q => Value.ref q.1) (keys := its.toArray) (κ := PySem.W.dataKind s'.heap (qs.map fun q => PyData.int (k q))) (h₁ := PySem.W.hideAll s'.heap [kS]) (fun b o _ q => PySem.W.of_hideAll _ q) (PySem.W.hideAll_none _ (List.mem_singleton.mpr rfl))
      ho oa hka (PySem.W.SortsAt.data (s := s') (vs := its.toArray.toList) (by simpa using hk) (PySem.W.AllAlike.of (bs := qs) (enc := fun q => PyData.int (k q)) fun _ _ => by simp [PySem.W.alike])
        (PySem.W.Sortable.others (bs := qs) (enc := fun q => PyData.int (k q)) fun _ => ⟨(fun z => nomatch z), fun _ z => nomatch z⟩) fun d hd => ?_) (by rw [List.size_toArray, hlen, List.length_map]) (by rw [List.length_map]; exact hline _ hL) fun h' tk c kp hD => ?_
    · obtain ⟨q, _, e⟩ := List.mem_map.mp hd
      have := hr.units0
      rw [← e]
      simpa [PyData.depth] using this
    · have hko : PySem.W.KeyedOut false (qs.map fun q => PyData.int (k q)) (qs.map fun q => Value.ref q.1) (PySem.W.sortVals (PySem.W.dataKind s'.heap (qs.map fun q => PyData.int (k q))) false its.toArray.toList (qs.map fun q => Value.ref q.1)) :=
        ⟨s'.heap, its, PySem.W.AllAlike.of (bs := qs) (enc := fun q => PyData.int (k q)) fun _ _ => by simp [PySem.W.alike], by simp, hk⟩
      have hR : ∀ zs : List (Addr × List Int), PySem.W.EachIs (fun (v : Value) (q : Addr × List Int) => v = .ref q.1) (zs.map fun q => Value.ref q.1) zs := by
        intro zs
        induction zs with
        | nil => exact .nil
        | cons z zs ih => exact .cons rfl ih
      have ho2 := PySem.W.keyedOut_each (β := Addr × List Int) (fun q => PyData.int (k q)) hko (hR qs)
      rw [PySem.W.dataLe_int] at ho2
      have eqv : ∀ (us : List Value) (zs : List (Addr × List Int)), PySem.W.EachIs (fun (v : Value) (q : Addr × List Int) => v = .ref q.1) us zs → Vals (zs.map fun q => V.ref q.1) us := by
        intro us zs r
        induction r with
        | nil => exact .nil
        | cons e _ ih => exact .cons e ih
      have hv := eqv _ _ ho2
      have new : ObjOk X.prog X.w (upd H a (.lst ((qs.mergeSort fun x y => decide (k x ≤ k y)).map fun q => V.ref q.1))) h' a (.lst ((qs.mergeSort fun x y => decide (k x ≤ k y)).map fun q => V.ref q.1)) :=
        ⟨by rw [List.length_map, List.length_mergeSort]; exact hline _ hL, _, c, hv, hD⟩
      refine h _ (inv_sorted (tk := tk) I' na nk hka (fun _ z => nomatch z) (fun _ _ z => nomatch z) (fun _ z => nomatch z) (fun _ z => nomatch z) (fun _ _ z => nomatch z) (fun _ z => nomatch z) (fun _ z => nomatch z) (fun _ z => nomatch z) h0 (fun b o h1 h2 q => ?_) new)
      exact kp b o h1 (PySem.W.hideAll_get _ q (by simp [h2]))

/-- sorted(xs, key=f): f's promise gives each item's key and leaves all as it is -/
def rSortBy (K : PySem.W.Frag) (f : Addr) (sp : Sp) : List V → List V → Hp → VK → Prop := fun vs zs H Q => ∃ (a : Addr) (qs : List (Addr × List Int)) (k : Addr × List Int → Int),
  vs = [V.ref a] ∧ zs = [V.ref f] ∧ SqL K H a (qs.map fun q => V.ref q.1) ∧ qs.length ≤ 1000 ∧
  (∀ q ∈ qs, ∀ H', Same H H' → sp [.ref q.1] H' (fun v H2 => v = .int (k q) ∧ H2 = H') E0) ∧
  ∀ p, H p = none → Q (.ref p) (upd H p (.lst ((qs.mergeSort fun x y => decide (k x ≤ k y)).map fun q => V.ref q.1)))
theorem cr_sortBy (F : FnR X.prog X.w X.K X.mg X.base CX0 n f sp) (hr : Room (n + 2) X.A) : CallRK X (.builtin "sorted") [Str.ofString "key"] (rSortBy X.K f sp) := by
  intro pins s σ H vs zs us ws Q I r rz h
  obtain ⟨a, qs, k, rfl, rfl, hs, hL, hf, q⟩ := h
  obtain rfl := Vals.ref1 r
  obtain ⟨w1, rfl, e1⟩ := vals1 rz
  obtain rfl : w1 = Value.ref f := e1
  have hline : ∀ m, m ≤ 1000 → m ≤ sizeLine := fun m hm => Nat.le_of_lt (small1000 hm)
  obtain ⟨its, rv, hl, hz⟩ := I.list hs
  have ei : its = qs.map fun q => Value.ref q.1 := refs_vals rv
  subst ei
  have hr2 : Room n X.A.in1.in1 := (show Room (n + 1) X.A.in1 from Room.in1 hr).in1
  have hlen : (qs.map fun q => Value.ref q.1).length ≤ 1000 := by rw [List.length_map]; exact hL
  refine PySem.W.sorted_of_sort hl.isList (hline _ hlen) (PyProof.Rows.ksk_s1 _ _) (fun _ => PyProof.Rows.ksk_l1 _ _) fun E' => ?_
  rw [show Builtin.«list.sort» ⟨[.ref (s.heap.objs.size + 1)], [Str.ofString "key"].zip [Value.ref f]⟩ = PyProof.Rows.ksk_tree (s.heap.objs.size + 1) (.ref f) false from PyProof.Rows.ksk_t1 _ _]
  have hna : H (s.heap.objs.size + 1) = none := I.hok.fresh (Nat.le_succ _)
  have hoC := PySem.W.copyHeap_at s.heap (qs.map fun q => Value.ref q.1)
  have old : ∀ b o, s.heap.get? b = some o → (PySem.W.copyHeap s.heap (qs.map fun q => Value.ref q.1)).get? b = some o := fun b o e => PySem.W.copyHeap_old e
  generalize PySem.W.copyHeap s.heap (qs.map fun q => Value.ref q.1) = hC at hoC old
  generalize ha : s.heap.objs.size + 1 = a' at hna hoC ⊢
  have hlt : a' < hC.objs.size := Heap.lt_size hoC
  obtain ⟨e1, ho1⟩ : ∃ e1, (hC.update a' (Obj.mapSeq fun _ => (#[] : Array Value))).get? a' = some (PyProof.Rows.seqObj "list" #[] e1) := ⟨_, PyProof.Rows.get?_update_seq hoC fun _ => #[]⟩
  have haN : @Eq Nat (s.heap.objs.size + 1) a' := ha
  have n1 : ∀ b o, s.heap.get? b = some o → b ≠ a' := fun b o e z => by
    have q1 : @LT.lt Nat _ b s.heap.objs.size := Heap.lt_size e
    have q2 : @Eq Nat b a' := z
    omega
  have old1 : ∀ b o, s.heap.get? b = some o → (hC.update a' (Obj.mapSeq fun _ => (#[] : Array Value))).get? b = some o := fun b o e =>
    (Heap.get?_update_other _ _ (Ne.symm (n1 b o e))).trans (old b o e)
  have hsz1 : (hC.update a' (Obj.mapSeq fun _ => (#[] : Array Value))).objs.size = hC.objs.size := Heap.size_update ..
  unfold PyProof.Rows.ksk_tree
  refine wpAny_bind (PyProof.Rows.listItems_at hoC rfl ?_)
  refine wpAny_bind (PyProof.Rows.listUpdate_at hoC rfl ?_ (by rw [List.size_toArray]; exact hline _ hlen) (Nat.zero_le _))
  refine wpAny_bind (PyProof.Rows.seqEpoch_at ho1 rfl ?_)
  generalize hC.update a' (Obj.mapSeq fun _ => (#[] : Array Value)) = h1 at ho1 old1 hsz1
  refine wpAny_bind (wpAny_newTuple ?_ (by show (qs.map fun q => Value.ref q.1).length ≤ _; exact hline _ hlen))
  refine wpAny_bind (wpAny_newList ?_ (Nat.zero_le _))
  refine wpAny_holding ?_
  have hT : ∀ b o, h1.get? b = some o → (h1.push { cls := .type "tuple", data := .seq (qs.map fun q => Value.ref q.1).toArray.toList.toArray }).get? b = some o := fun b o e => Heap.get?_push_of_some _ e
  have hsT : (h1.push { cls := .type "tuple", data := .seq (qs.map fun q => Value.ref q.1).toArray.toList.toArray }).objs.size = h1.objs.size + 1 := Heap.size_push ..
  generalize h1.push { cls := .type "tuple", data := .seq (qs.map fun q => Value.ref q.1).toArray.toList.toArray } = h2 at hT hsT
  have I1 : Inv X pins σ (upd H a' (Bare a' e1)) { s with heap := h2, toks := s.toks } := I.laid (fun b u e => hT b u (old1 b u e)) (by omega) (bare_ok (hT _ _ ho1))
  have I2 := Inv.lnew (its := []) (ys := []) (t' := s.toks) I1 .nil (Nat.zero_le _)
  have hl2 : @LT.lt Nat _ a' h2.objs.size := by
    have q1 : @LT.lt Nat _ a' hC.objs.size := hlt
    omega
  have hl3 : @LE.le Nat _ s.heap.objs.size h2.objs.size := by omega
  have nk : H h2.objs.size = none := I.hok.fresh hl3
  refine keys_loop (k := k) (qs := qs) (H := H) (s := { s with heap := h2.push { cls := .type "list", data := .seq [].toArray }, toks := s.toks }) F hr2 rfl hna nk (Nat.ne_of_gt hl2) (Nat.le_trans I.sz hl3) hL hf I2 fun s' I' => ?_
  exact ⟨rfl, .ref a', _, I', rfl, q a' hna⟩
end
end LrB
/-! set(xs) of a list of any length, by what one more item makes of the set -/
namespace LrB
open PySem PySem.Spec L2
section
variable {P : Program} {w : World} {A : Around} {E : Value → Shared → Prop} {s : Shared}
/-- all of h0 stands in h -/
abbrev Old (h0 h : Heap) : Prop := ∀ b o, h0.get? b = some o → h.get? b = some o
/-- J i h: what the set at S is behind the first i of the items -/
structure Fills (P : Program) (w : World) (A : Around) (S : Addr) (vs : Array Value) (h0 : Heap) (J : Nat → Heap → Prop) : Prop where
  keep : ∀ i h h', J i h → Old h0 h' → (∀ o, h.get? S = some o → h'.get? S = some o) → J i h'
  put : ∀ i v (t : Shared) (Q : Bool → Shared → Prop) (E : Value → Shared → Prop), vs[i]? = some v → J i t.heap → Old h0 t.heap →
    (∀ r h' tk, Heap.SameBut S t.heap h' → J (i + 1) h' → Q r { t with heap := h', toks := tk }) → wpAny (model P w) A (setAdd S v) Q E t
/-- the loop of set.update over a list -/
theorem fill_loop {S I l : Addr} {items : Array Value} {h0 : Heap} {J : Nat → Heap → Prop} {R : Result → Shared → Prop} (Fl : Fills P w A.in1 S items h0 J) (hh : A.in1.handled = none) (hlI : l ≠ I) (hSI : S ≠ I) (hSl : S ≠ l)
    (nS : h0.get? S = none) (nI : h0.get? I = none) : ∀ (m i : Nat) (t : Shared), i + m = items.size → t.heap.IsListIter I l i ∧ t.heap.IsList l items → Old h0 t.heap → J i t.heap →
      (∀ h' tk, Old h0 h' → J items.size h' → R (.ok (.ret .none)) { t with heap := h', toks := tk }) → codeAny (model P w) A (.builtin "set.update.loop" ⟨[.ref S, .ref I], []⟩) R t := by
  have W := Walks.list (prog := P) (w := w) (A := A.in1) hh I l hlI items
  have grown : ∀ {h h' : Heap}, Old h0 h → (∀ b o, b ∉ [I] → h.get? b = some o → h'.get? b = some o) → Old h0 h' := fun k m b o e => m b o (fun z => by
    rw [List.mem_singleton.mp z, nI] at e
    cases e) (k b o e)
  have hSn : S ∉ [I] := fun z => hSI (List.mem_singleton.mp z)
  intro m
  induction m with
  | zero =>
    intro i t hi hst ho hJ fin
    obtain rfl : i = items.size := by omega
    refine codeAny_builtin PyProof.Rows.F.entry_set_update_loop ?_
    rw [Around.under_plainId PyProof.Rows.F.plain_set_update_loop _]
    show wpAny _ A.in1 (pyNext (.ref I) >>= _) _ _ t
    refine wpAny_bind (W.done t _ _ hst fun h' tk hm => ?_)
    show wpAny _ A.in1 (ret Value.none) _ _ _
    have ho' := grown ho hm
    exact wpAny_pure (fin h' tk ho' (Fl.keep _ _ _ hJ ho' fun o e => hm S o hSn e))
  | succ m ih =>
    intro i t hi hst ho hJ fin
    refine codeAny_builtin PyProof.Rows.F.entry_set_update_loop ?_
    rw [Around.under_plainId PyProof.Rows.F.plain_set_update_loop _]
    show wpAny _ A.in1 (pyNext (.ref I) >>= _) _ _ t
    refine wpAny_bind (W.item i t _ _ (by omega) hst fun v h' tk hv hst' hm => ?_)
    have ho' := grown ho hm
    show wpAny _ A.in1 (holding [v] (setAdd S v) >>= _) _ _ _
    refine wpAny_bind (wpAny_holding (Fl.put i v { t with heap := h', toks := tk } _ _ hv (Fl.keep _ _ _ hJ ho' fun o e => hm S o hSn e) ho' fun r h2 tk2 hsb hJ2 => ?_))
    refine wpAny_pure ⟨plainId_quiet PyProof.Rows.F.plain_set_update_loop _, ih (i + 1) { t with heap := h2, toks := tk2 } (by omega) (W.frame _ h' h2 hst' fun b hb o e => ?_) (fun b o e => ?_) hJ2 fin⟩
    · refine (hsb.2 b fun z => ?_).trans e
      rcases List.mem_cons.mp hb with q | q
      · exact hSI (z.symm.trans q)
      · exact hSl (z.symm.trans (List.mem_singleton.mp q))
    · refine (hsb.2 b fun z => ?_).trans (ho' b o e)
      rw [z, nS] at e
      cases e
/-- what set(..) begins with -/
def freshSet (w : World) : Obj := { cls := .type "set", dict := none, data := .set #[] 0 (.fresh 0 0 (!w.params.followText "set-order")) }
/-- set(xs) -/
theorem call_set_fill {l : Addr} {items : Array Value} {J : Nat → Heap → Prop} {Q : Value → Shared → Prop} (hh : A.handled = none) (hl : s.heap.IsList l items)
    (start : ∀ h', Old s.heap h' → h'.get? s.heap.objs.size = some (freshSet w) → J 0 h') (Fl : ∀ A' : Around, A'.units ≤ A.units + 64 → Fills P w A' s.heap.objs.size items s.heap J)
    (fin : ∀ h' tk, Old s.heap h' → J items.size h' → Q (.ref s.heap.objs.size) { s with heap := h', toks := tk }) : wpAny (model P w) A (PySem.call (.type "set") [.ref l]) Q E s := by
  obtain ⟨c, tl, hmro⟩ := PySem.F.called_set.mro
  have hmade := PySem.F.called_set.made
  have hsub := PySem.F.called_set.sub
  refine wpAny_call (codeAny_of_tree ?_)
  show wpAny _ _ (callAny (.type "set") _) _ _ _
  refine wpAny_pure ⟨Code.quiet_builtin _ (by decide +kernel), codeAny_builtin PySem.F.entry_type_call ?_⟩
  rw [Around.under_plain (weight_type_call_type "set" [.ref l] []) rfl]
  have h1 := PySem.F.called_set.notType
  have h2 := PySem.F.called_set.canCreate
  have hct := PySem.F.typeCall_set_1 (.ref l)
  repeat (any_goals (first | assumption | wp_step))
  refine codeAny_mono (code_set_led1 (.ref l) (E := E) (Q₁ := fun obj s₁ => obj = .ref s.heap.objs.size ∧ s₁ = { s with heap := s.heap.push (freshSet w) }) ⟨rfl, rfl⟩) fun r s₁ hr => ?_
  cases r with
  | error e => exact hr
  | ok fl =>
    cases fl with
    | next => exact hr.elim
    | brk => exact hr.elim
    | cont => exact hr.elim
    | ret obj =>
      obtain ⟨rfl, rfl⟩ := hr
      have hS : (s.heap.push (freshSet w)).get? s.heap.objs.size = some (freshSet w) := Heap.get?_push_size _ rfl
      have hT : Shared.TypeIs { s with heap := s.heap.push (freshSet w) } (.ref s.heap.objs.size) "set" := ⟨_, hS, rfl⟩
      have hli := PySem.F.called_set.init.lookup
      have hbi := PySem.F.called_set.init.bind (.ref s.heap.objs.size)
      repeat (any_goals (first | assumption | wp_step))
      refine codeAny_mono (codeAny_call_builtin (R := wants (fun r s₂ => r = .none ∧ ∃ h' tk, s₂ = { s with heap := h', toks := tk } ∧ Old s.heap h' ∧ J items.size h') E) PySem.F.called_set.init.plain PySem.F.entry_set_init (check_set_init_1 hT ?_)) fun r₂ s₂ hr₂ => ?_
      · obtain ⟨⟨ocls, odict, odata, oslots⟩, hol, hcl, nl, hdl⟩ := hl
        simp only at hcl hdl
        subst hcl hdl
        have hol' : (s.heap.push (freshSet w)).get? l = some { cls := .type "list", dict := odict, data := .seq items nl, slots := oslots } := Heap.get?_push_of_some _ hol
        have hsls := PySem.F.sub_list_set
        have hslf := PySem.F.sub_list_frozenset
        have hne : (Value.type "list" == Value.type "dict") = false := by decide
        have hl1 : (s.heap.push (freshSet w)).IsList l items := ⟨_, hol', rfl, nl, rfl⟩
        unfold Builtin.«set.__init__» noKeywords Builtin.Frozenset.updateFrom
        generalize hPI : pyIter = PI
        wp_walk
        subst hPI
        refine wpAny_pyIter_list hl1 ?_
        refine wpAny_bind (wpAny_runValue ?_)
        have hlS : @LT.lt Nat _ l s.heap.objs.size := Heap.lt_size hol
        have hsz : (s.heap.push (freshSet w)).objs.size = s.heap.objs.size + 1 := Heap.size_push ..
        have nn : ∀ b, s.heap.objs.size ≤ b → s.heap.get? b = none := fun b hb => Heap.get?_none_of_le hb
        have hIn : s.heap.objs.size ≤ (s.heap.push (freshSet w)).objs.size := by omega
        have hnl : l ≠ (s.heap.push (freshSet w)).objs.size := fun z => by
          have z' : @Eq Nat l (s.heap.push (freshSet w)).objs.size := z
          omega
        have hnS : s.heap.objs.size ≠ (s.heap.push (freshSet w)).objs.size := by omega
        have hold : Old s.heap ((s.heap.push (freshSet w)).push { cls := .type "list_iterator", data := .fields #[.ref l, .int 0 0] }) := fun b o e => Heap.get?_push_of_some _ (Heap.get?_push_of_some _ e)
        refine fill_loop (Fl _ ?hu) (by simp [hh]) hnl hnS (Nat.ne_of_gt hlS) (nn _ (Nat.le_refl _)) (nn _ hIn) items.size 0 _ (Nat.zero_add _) ⟨⟨_, Heap.get?_push_size _ rfl, rfl, rfl⟩, hl1.push _⟩ hold (start _ hold (Heap.get?_push_of_some _ hS)) fun h' tk ho hJ => ?_
        case hu =>
          show A.units + 1 + 1 + 1 ≤ A.units + 64
          omega
        show wpAny _ _ _ _ _ _
        refine wpAny_pure ?_
        show wpAny _ _ (ret Value.none) _ _ _
        exact wpAny_pure ⟨rfl, h', tk, rfl, ho, hJ⟩
      · cases r₂ with
        | error e => exact hr₂
        | ok fl₂ =>
          cases fl₂ with
          | ret r =>
            obtain ⟨rfl, h', tk, rfl, ho, hJ⟩ := hr₂
            repeat (any_goals (first | assumption | wp_step))
            exact fin h' tk ho hJ
          | next => exact hr₂.elim
          | brk => exact hr₂.elim
          | cont => exact hr₂.elim
end
end LrB
/-! set(xs): tuples of ints, few of which differ; ints -/
namespace LrB
open PySem PySem.Spec L2
section
variable {P : Program} {w : World}
theorem fills_tups {A : Around} {S : Addr} {items : Array Value} {h0 : Heap} {ks : List (Addr × List Int)} (hit : items.toList = ks.map fun p => Value.ref p.1) (hk : ∀ p ∈ ks, IsT P w h0 p.2 p.1) (hu : A.units < cLine)
    (few : ∀ L : List (Addr × List Int), (L.map (·.2)).Nodup → (∀ p ∈ L, p ∈ ks) → L.length ≤ 62) :
    Fills P w A S items h0 fun i h => ∃ L es ep t, SetTR P w h S L es ep t ∧ Got ks i L where
  keep := fun i h h' ⟨L, es, ep, t, R, g⟩ ho hS => ⟨L, es, ep, t, R.keep hS fun p hp => isT_keep (hk p (List.mem_of_mem_take (g.sub p hp))) ho, g⟩
  put := fun i v t Q E hv ⟨L, es, ep, tb, R, g⟩ ho fin => by
    obtain ⟨p, hp, rfl⟩ : ∃ p, ks[i]? = some p ∧ v = Value.ref p.1 := by
      have q : items.toList[i]? = some v := by rw [Array.getElem?_toList]; exact hv
      rw [hit, List.getElem?_map] at q
      cases hq : ks[i]? with
      | none => rw [hq] at q; cases q
      | some p =>
        rw [hq] at q
        exact ⟨p, rfl, (Option.some.inj q).symm⟩
    have hx : IsT P w t.heap p.2 p.1 := isT_keep (hk p (List.mem_of_getElem? hp)) ho
    have hfew := few L R.nd fun q hq => List.mem_of_mem_take (g.sub q hq)
    unfold setAdd
    refine wpAny_holding (wpAny_bind (wpAny_pyHash_tuple hu hx ?_))
    refine add_at (s := { t with toks := t.toks + (p.2.length + 1) }) R hx hu (by omega) fun b h' L' es' ep' t' hsb R2 c1 c2 => fin b h' _ hsb ⟨L', es', ep', t', R2, ?_⟩
    by_cases c : p.2 ∈ L.map (·.2)
    · rw [c1 c]
      exact g.same hp c
    · exact g.more hp (c2 c)
theorem fills_ints {A : Around} {S : Addr} {items : Array Value} {h0 : Heap} {ns : List Int} (hit : Vals (ns.map V.int) items.toList) (hl : ns.length ≤ 1000) :
    Fills P w A S items h0 fun i h => ∃ c, c ≤ i ∧ SetR w h S (fun j => decide (j ∈ ns.take i)) c where
  keep := fun i h h' ⟨c, hc, R⟩ _ hS => ⟨c, hc, R.at hS⟩
  put := fun i v t Q E hv ⟨c, hc, R⟩ ho fin => by
    have q : items.toList[i]? = some v := by rw [Array.getElem?_toList]; exact hv
    obtain ⟨z, hz⟩ : ∃ z, ns[i]? = some z := by
      have h1 : i < items.toList.length := (List.getElem?_eq_some_iff.mp q).1
      rw [← hit.length, List.length_map] at h1
      exact ⟨_, List.getElem?_eq_getElem h1⟩
    obtain ⟨u, hu, tk, e⟩ := hit.get (i := i) (x := V.int z) (by rw [List.getElem?_map, hz]; rfl)
    rw [q] at hu
    obtain rfl : v = Value.int z tk := (Option.some.inj hu).trans e
    have hi : i < ns.length := (List.getElem?_eq_some_iff.mp hz).1
    unfold setAdd
    refine wpAny_holding (wpAny_bind ((intKind P w).pyHash (k := z) (intKind_is _ _ _ _) ?_))
    refine setR_add_hashed (s := { t with toks := t.toks + 1 }) R (by unfold scanBound; omega) fun h' hsb R2 => fin _ h' _ hsb ⟨_, ?_, R2.congr fun j => ?_⟩
    · split <;> omega
    · rw [List.take_add_one, hz]
      simp [List.mem_append]
end
section
variable {X : Cx}
/-- set(xs), xs tuples of ints, at most 62 different ones -/
def rSetT (K : PySem.W.Frag) (P : Program) (w : World) : List V → Hp → VK → Prop := fun xs H Q => ∃ (l : Addr) (ks : List (Addr × List Int)), xs = [V.ref l] ∧ SqL K H l (ks.map fun p => V.ref p.1) ∧ (∀ p ∈ ks, SqT K H p.1 (p.2.map V.int)) ∧
  (∀ L : List (Addr × List Int), (L.map (·.2)).Nodup → (∀ p ∈ L, p ∈ ks) → L.length ≤ 62) ∧ ∀ a L, H a = none → (∀ p ∈ L, p ∈ ks) → (∀ p ∈ ks, p.2 ∈ L.map (·.2)) → Q (.ref a) (upd H a (SetTO P w a L))
theorem cr_setT (hc : X.calm = true) (hu : X.A.units + 64 < cLine) : CallR X (.type "set") (rSetT X.K X.prog X.w) := by
  intro pins s σ H xs us Q I r h
  obtain ⟨l, ks, rfl, hl, hk, few, q⟩ := h
  obtain rfl := Vals.ref1 r
  obtain ⟨its, rv, pl, hz⟩ := I.list hl
  have ei := refs_vals rv
  have hn : H s.heap.objs.size = none := I.hok.fresh (Nat.le_refl _)
  have hsz : its.toArray.size = ks.length := by rw [List.size_toArray, ei, List.length_map]
  refine call_set_fill (J := fun i h => ∃ L es ep t, SetTR X.prog X.w h s.heap.objs.size L es ep t ∧ Got ks i L) (I.ok.hd hc) pl.isList (fun h' _ hS => ⟨[], #[], 0, _, setTR_fresh hS, Got.zero ks⟩)
    (fun A' hA => fills_tups (by simpa using ei) (fun p hp => I.isT (hk p hp)) (Nat.lt_of_le_of_lt hA hu) few) fun h' tk ho ⟨L, es, ep, t, R, g⟩ => ?_
  rw [hsz] at g
  refine ⟨.ref s.heap.objs.size, upd H s.heap.objs.size (SetTO X.prog X.w s.heap.objs.size L), I.laid (t' := tk) ho (Nat.le_refl _) (setTO_new R.t0), rfl, q _ L hn (fun p hp => List.mem_of_mem_take (g.sub p hp)) fun p hp => g.all p (by rw [List.take_length]; exact hp)⟩
/-- set(xs), xs ints -/
def rSetI (K : PySem.W.Frag) (w : World) : List V → Hp → VK → Prop := fun xs H Q => ∃ (l : Addr) (ns : List Int), xs = [V.ref l] ∧ SqL K H l (ns.map V.int) ∧ ns.length ≤ 1000 ∧
  ∀ a c, H a = none → c ≤ ns.length → Q (.ref a) (upd H a (SetO w a (fun j => decide (j ∈ ns)) c))
theorem cr_setI (hc : X.calm = true) : CallR X (.type "set") (rSetI X.K X.w) := by
  intro pins s σ H xs us Q I r h
  obtain ⟨l, ns, rfl, hl, hlen, q⟩ := h
  obtain rfl := Vals.ref1 r
  obtain ⟨its, rv, pl, hz⟩ := I.list hl
  have hn : H s.heap.objs.size = none := I.hok.fresh (Nat.le_refl _)
  have hsz : its.toArray.size = ns.length := by rw [List.size_toArray, ← rv.length, List.length_map]
  refine call_set_fill (J := fun i h => ∃ c, c ≤ i ∧ SetR X.w h s.heap.objs.size (fun j => decide (j ∈ ns.take i)) c) (I.ok.hd hc) pl.isList (fun h' _ hS => ⟨0, Nat.le_refl _, setR_new_at hS⟩)
    (fun A' hA => fills_ints (by simpa using rv) hlen) fun h' tk ho ⟨c, hc', R⟩ => ?_
  rw [hsz] at hc'
  rw [hsz, List.take_length] at R
  exact ⟨.ref s.heap.objs.size, upd H s.heap.objs.size (SetO X.w s.heap.objs.size (fun j => decide (j ∈ ns)) c), I.laid (t' := tk) ho (Nat.le_refl _) (setO_new R), rfl, q _ c hn hc'⟩
end
end LrB
/-! own rules: any of ints, targets o.f, len, in, ==, != of slotted instances, (0,) * n, isinstance -/
namespace LrB
open PySem PySem.Spec L2 SlX
section
variable {prog : Program} {w : World} {A : Around} {E : Value → Shared → Prop} {s : Shared} {K : PySem.W.Frag} {x C f : Addr} {ox : Obj} {od : Option Obj} {b tb : Value}
open PySem.W in
/-- a != b by object's own __ne__ over the text's __eq__ -/
theorem ne_run {Q : Value → Shared → Prop} (hu : A.units + 1 < cLine) (X : K.In s.heap) (I : InstAt s.heap x ox C od) (hm : mroIn K C (.type "object") = some true) (ht : Looks (model prog w) s.heap (typeOf b) tb) (hn : notFirst K C tb = true)
    (hne : findIn K (.ref C) "__ne__" = some (some (.builtin "object.__ne__"))) (he : findIn K (.ref C) "__eq__" = some (some (.ref f))) (hf : isFn K (.ref f) = true)
    (h : wpAny (model prog w) A.in1 (PySem.call (.ref f) [.ref x, b]) (fun v s' => ∃ c, v = .bool c ∧ Q (.bool (!c)) s') E s) : wpAny (model prog w) A (richCompare .NotEq (.ref x) b) Q E s := by
  have inner : wpAny (model prog w) A (PySem.call (.builtin "object.__ne__") [.ref x, b]) (fun v s' => ∃ c, v = .bool (!c) ∧ Q (.bool (!c)) s') E s := by
    refine wpAny_call (codeAny_call_builtin F.cmp_object.ne.plain F.cmpEntry_ne (check_slot F.cmpKind_ne F.cmpSplit_ne (I.type.andThen (looks_subIn X (show subIn K (.ref C) (.type "object") = some true from hm))) (F.cmpArgs_ne _ _) ?_))
    unfold Builtin.«object.__ne__»
    refine wpAny_bind (wpAny_pure ?_)
    refine wpAny_bind (wpAny_cRoomFor (show A.in1.units < cLine from hu) ?_)
    refine wpAny_bind (ifBound_K X I he hf (wpAny_mono h (fun v s' hv => ?_) fun _ _ e => e))
    obtain ⟨c, rfl, hq⟩ := hv
    exact wpAny_bind (wpAny_truthy_bool (wpAny_pure ⟨c, rfl, hq⟩))
  have bound : wpAny (model prog w) A (callSpecialIfBound? (.ref x) "__ne__" [b]) (fun r s' => ∃ c, r = some (.bool (!c)) ∧ Q (.bool (!c)) s') E s := by
    simp only [callSpecialIfBound?, bindSpecialIfBound?]
    refine wpAny_holding (wpAny_bind (wpAny_bind (wpAny_bind (I.type.here ((looks_findIn X hne).here ?_)))))
    refine wpAny_bind (wpAny_askSetting (wpAny_ite ?_))
    have fin : wpAny (model prog w) A (PySem.call (.builtin "object.__ne__") ([.ref x] ++ [b]) >>= fun v => pure (some v)) (fun r s' => ∃ c, r = some (.bool (!c)) ∧ Q (.bool (!c)) s') E s :=
      wpAny_bind (wpAny_mono inner (fun v s' ⟨c, e, q⟩ => wpAny_pure ⟨c, by rw [e], q⟩) fun _ _ e => e)
    rw [F.cmp_object.ne.bind]
    split
    · exact wpAny_bind (wpAny_pure (wpAny_pure (by exact fin)))
    · exact wpAny_tryCatch (wpAny_bind (wpAny_pure (wpAny_pure (by exact fin))))
  have one : wpAny (model prog w) A (tryCompare (.ref x) "__ne__" b) (fun r s' => ∃ v, r = some v ∧ Q v s') E s := by
    unfold tryCompare
    refine wpAny_bind (wpAny_mono bound (fun r s' z => ?_) fun _ _ e => e)
    obtain ⟨c, rfl, hq⟩ := z
    exact wpAny_pure ⟨_, rfl, hq⟩
  unfold richCompare
  simp only [oneThing_ref]
  refine wpAny_holding (wpAny_bind (wpAny_cRoomFor (Nat.lt_of_succ_lt hu) ?_))
  refine wpAny_bind (I.type.here (wpAny_bind (ht.here ?_)))
  split
  · rename_i q
    have e : subIn K tb (.ref C) = some false := by
      rcases Bool.or_eq_true_iff.mp hn with e | e
      · rw [beq_iff_eq.mp e] at q
        simp at q
      · exact beq_iff_eq.mp e
    refine wpAny_bind ((looks_subIn X e).here ?_)
    simp only [Bool.false_eq_true, if_false]
    refine wpAny_bind (wpAny_mono one (fun r s' ⟨v, z, hq⟩ => ?_) fun _ _ e => e)
    rw [z]
    exact wpAny_pure hq
  · refine wpAny_bind (wpAny_pure ?_)
    simp only [Bool.false_eq_true, if_false]
    refine wpAny_bind (wpAny_mono one (fun r s' ⟨v, z, hq⟩ => ?_) fun _ _ e => e)
    rw [z]
    exact wpAny_pure hq
end
section
variable {X : Cx} {n : Nat} {C g : Addr} {sp : Sp}
theorem dp_ints {K : PySem.W.Frag} {H : Hp} : ∀ ns : List Int, DpAll K H (ns.map V.int) (ns.map PyData.int)
  | [] => .nil
  | n :: ns => .cons (.int n) (dp_ints ns)
/-- any(t), t a tuple of ints -/
def rAnyT (K : PySem.W.Frag) : List V → Hp → VK → Prop := fun vs H Q => ∃ (a : Addr) (ns : List Int), vs = [V.ref a] ∧ SqT K H a (ns.map V.int) ∧ Q (.bl (ns.any fun x => x != 0)) H
theorem plain_ints : ∀ ns : List Int, PyData.plainAll (ns.map PyData.int) = true
  | [] => by simp [PyData.plainAll]
  | n :: ns => by simp [PyData.plainAll, PyData.plain, plain_ints ns]
theorem cr_anyT (hc : X.calm = true) : CallR X (.builtin "any") (rAnyT X.K) := by
  intro pins s σ H vs us Q I r h
  obtain ⟨a, ns, rfl, hs, q⟩ := h
  obtain ⟨its, rv, e, hz⟩ := I.tuple hs
  obtain ⟨as, hr⟩ := Dp.readsAll I _ _ its (dp_ints ns) rv
  obtain rfl := Vals.ref1 r
  refine PySem.W.any_tuple_data (xs := ns.map PyData.int) (I.ok.hd hc) e (by simpa using hr) (plain_ints ns) (fun x hx => ?_) fun h' tk k => ⟨.bl _, H, I.kept (t' := tk) k, ?_, q⟩
  · obtain ⟨i, _, e⟩ := List.mem_map.mp hx
    rw [← e]
    trivial
  · show Value.bool _ = Value.bool _
    congr 1
    rw [List.any_map]
    rfl
/-- len(o), o with an own __len__ -/
def rLenSl (C : Addr) (sp : Sp) : List V → Hp → VK → Prop := fun xs H Q => ∃ a dx vs, xs = [V.ref a] ∧ Slt H a C dx vs ∧ sp [.ref a] H (fun z H' => ∃ i, z = .int i ∧ 0 ≤ i ∧ i < 2 ^ 63 ∧ Q z H') E0
theorem call_lenSl (hs : PySem.W.findIn X.K (.ref C) "__len__" = some (some (.ref g))) (hf : PySem.W.isFn X.K (.ref g) = true) (F : FnR X.prog X.w X.K X.mg X.base CX0 n g sp) (hr : Room (n + 1) X.A) : CallR X (.builtin "len") (rLenSl C sp) := by
  intro pins s σ H xs us Q I r h
  obtain ⟨a, dx, vs, rfl, hsl, q⟩ := h
  obtain rfl := Vals.ref1 r
  obtain ⟨sl, od, _, J, _⟩ := slt_inst I hsl
  obtain ⟨m, hF⟩ := I.fr
  refine PySem.W.len_K hF I.ok.mod.kin J hs hf (wpAny_mono (wpAny_call (run_at (us := [.ref a]) (ws := [.ref a]) F hr.in1 I.env0.in1 pass0 I (.cons rfl .nil) q)) (fun v s' z => ?_) fun _ _ y => y)
  obtain ⟨z', H', I', rz, i, ei, i0, i1, qz⟩ := z
  subst ei
  obtain ⟨t, e⟩ := (show ∃ t, v = Value.int i t from rz)
  cases e
  exact ⟨⟨i0, i1⟩, .int i, H', I'.tok _, ⟨_, rfl⟩, qz⟩
/-- x in o, o with an own __contains__ that answers a truth value -/
def rInSl (C : Addr) (sp : Sp) : R2 := fun x y H Q => ∃ b dx vs, y = .ref b ∧ Slt H b C dx vs ∧ sp [y, x] H (fun z H' => ∃ c, z = .bl c ∧ Q z H') E0
theorem op_inSl (hs : PySem.W.findIn X.K (.ref C) "__contains__" = some (some (.ref g))) (hf : PySem.W.isFn X.K (.ref g) = true) (F : FnR X.prog X.w X.K X.mg X.base CX0 n g sp) (hr : Room n X.A) : OpR X (compareOp .In) (rInSl C sp) := by
  intro pins s σ H x y v u Q I rx ry h
  obtain ⟨b, dx, vs, rfl, hsl, q⟩ := h
  cases (show u = Value.ref b from ry)
  obtain ⟨sl, od, _, J, _⟩ := slt_inst I hsl
  obtain ⟨m, hF⟩ := I.fr
  refine PySem.W.in_K hF I.ok.mod.kin J hs hf (wpAny_mono (wpAny_call (run_fnR (us := [.ref b, v]) (vs := [.ref b, x]) F hr pass0 I (.cons rfl (.cons rx .nil)) q)) (fun r s' z => ?_) fun _ _ y => y)
  obtain ⟨z', H', I', rz, c, ec, qz⟩ := z
  subst ec
  cases (show r = Value.bool c from rz)
  exact wpAny_truthy_bool ⟨.bl c, H', I', rfl, qz⟩
/-- x == y, x a slotted instance, y of a type that does not go first -/
def rEqSl (K : PySem.W.Frag) (C : Addr) (sp : Sp) : R2 := fun x y H Q => ∃ a dx vs, x = .ref a ∧ Slt H a C dx vs ∧ ((∃ b C' dy ws, y = .ref b ∧ Slt H b C' dy ws ∧ PySem.W.notFirst K C (.ref C') = true) ∨ (∃ t, TyX K H y t ∧ PySem.W.notFirst K C t = true)) ∧ sp [x, y] H Q E0
theorem looks_of {pins : List (Addr × Obj)} {σ : L2.St} {H : Hp} {s : Shared} {y : V} {u : Value} {C : Addr} (I : Inv X pins σ H s) (ry : RelV y u) (h : (∃ b C' dy ws, y = .ref b ∧ Slt H b C' dy ws ∧ PySem.W.notFirst X.K C (.ref C') = true) ∨ (∃ t, TyX X.K H y t ∧ PySem.W.notFirst X.K C t = true)) :
    ∃ tb, PySem.W.Looks (model X.prog X.w) s.heap (typeOf u) tb ∧ PySem.W.notFirst X.K C tb = true := by
  rcases h with ⟨b, C', dy, ws, rfl, hb, hn⟩ | ⟨t, ty, hn⟩
  · cases (show u = Value.ref b from ry)
    obtain ⟨sl, od, _, J, _⟩ := slt_inst I hb
    exact ⟨.ref C', J.type, hn⟩
  · obtain ⟨P, Z, p, _⟩ := kit_of I ry ty
    exact ⟨t, Z.ty _ _ I.kIn p, hn⟩
theorem op_eqSl (hs : PySem.W.findIn X.K (.ref C) "__eq__" = some (some (.ref g))) (hf : PySem.W.isFn X.K (.ref g) = true) (F : FnR X.prog X.w X.K X.mg X.base CX0 n g sp) (hr : Room n X.A) : OpR X (compareOp .Eq) (rEqSl X.K C sp) := by
  intro pins s σ H x y v u Q I rx ry h
  obtain ⟨a, dx, vs, rfl, ha, hy, q⟩ := h
  cases (show v = Value.ref a from rx)
  obtain ⟨sl, od, _, J, _⟩ := slt_inst I ha
  obtain ⟨m, hF⟩ := I.fr
  obtain ⟨tb, lk, hn⟩ := looks_of I ry hy
  show wpAny _ _ (richCompare .Eq _ _) _ _ _
  refine PySem.W.cmp_K (op := .Eq) (tb := tb) hr.units0 hF I.ok.mod.kin J lk hn hs hf ?_
  refine wpAny_mono (wpAny_call (run_fnR (us := [.ref a, u]) (vs := [.ref a, y]) F hr pass0 I (.cons rfl (.cons ry .nil)) q)) (fun r s' z => ?_) fun _ _ x => x
  obtain ⟨z', H', I', rz, qz⟩ := z
  exact cmpback rz ⟨z', H', I', rz, qz⟩
/-- x != y by the own __eq__ -/
def rNeSl (K : PySem.W.Frag) (C : Addr) (sp : Sp) : R2 := fun x y H Q => ∃ a dx vs, x = .ref a ∧ Slt H a C dx vs ∧ ((∃ b C' dy ws, y = .ref b ∧ Slt H b C' dy ws ∧ PySem.W.notFirst K C (.ref C') = true) ∨ (∃ t, TyX K H y t ∧ PySem.W.notFirst K C t = true)) ∧
  sp [x, y] H (fun z H' => ∃ c, z = .bl c ∧ Q (.bl (!c)) H') E0
theorem op_neSl (hs : PySem.W.findIn X.K (.ref C) "__eq__" = some (some (.ref g))) (hne : PySem.W.findIn X.K (.ref C) "__ne__" = some (some (.builtin "object.__ne__"))) (hm : PySem.W.mroIn X.K C (.type "object") = some true)
    (hf : PySem.W.isFn X.K (.ref g) = true) (F : FnR X.prog X.w X.K X.mg X.base CX0 n g sp) (hr : Room (n + 1) X.A) : OpR X (compareOp .NotEq) (rNeSl X.K C sp) := by
  intro pins s σ H x y v u Q I rx ry h
  obtain ⟨a, dx, vs, rfl, ha, hy, q⟩ := h
  cases (show v = Value.ref a from rx)
  obtain ⟨sl, od, _, J, _⟩ := slt_inst I ha
  obtain ⟨tb, lk, hn⟩ := looks_of I ry hy
  show wpAny _ _ (richCompare .NotEq _ _) _ _ _
  refine ne_run (hu_of hr) I.kIn J hm lk hn hne hs hf ?_
  refine wpAny_mono (wpAny_call (run_at (us := [.ref a, u]) (ws := [.ref a, y]) F hr.in1 I.env0.in1 pass0 I (.cons rfl (.cons ry .nil)) q)) (fun r s' z => ?_) fun _ _ x => x
  obtain ⟨z', H', I', rz, c, ec, qz⟩ := z
  subst ec
  exact ⟨c, rz, .bl (!c), H', I', rfl, qz⟩
/-- a target o.f of a slotted instance -/
def gSl (K : PySem.W.Frag) (ta : TE) (f : Str) : TG := fun y σ H Q => ta σ H fun x H2 => ∃ a C dx p vs i, x = .ref a ∧ Slt H2 a C dx vs ∧ SCls K C ∧ Slot1 K C f p i ∧ Q σ (slH H2 a C dx (SlX.putS i y vs))
theorem pg_sl {o : Expr} {f : Str} {pos : Pos} {ta : TE} (ha : PE X o ta) : PG X (.Attribute o f pos) (gSl X.K ta f) := by
  refine ⟨fun pins s σ H v u Q I r h => ?_⟩
  show wpAny _ _ (do let ov ← holding [u] (eval o X.env); standAt pos.atName; holding [u, ov] (setAttr ov f u); release [u, ov] []) _ _ _
  refine wpAny_bind (wpAny_holding (thn (ha.run pins s σ H _ I h) fun ov s2 ⟨x, H2, I2, rx, a, C, dx, p, vs, i, ex, hsl, c, t, q2⟩ => ?_))
  subst ex
  obtain rfl : ov = Value.ref a := rx
  refine wpAny_bind (wpAny_standAt ?_)
  refine wpAny_bind (wpAny_holding (setslot_ok I2 hsl c t r fun s3 I3 => ?_))
  exact wpAny_release ⟨σ, _, I3, q2⟩
end
end LrB
/-! (x,) * n for n from 1 on -/
namespace LrB
open PySem PySem.Spec L2
theorem tuple_once (l : Addr) (items : Array Value) (n : Nat) (dd : Option Addr) (sl : Array (Option Value)) (u : Tok) :
    Meets (Builtin.«tuple.__mul__» ⟨[.ref l, .int 1 u], []⟩) (fun _ R s => s.heap.get? l = some { cls := .type "tuple", dict := dd, data := .seq items n, slots := sl } ∧ R (.ok (.ret (Value.ref l))) s) :=
  .of_wp fun prog w A R s h => by
    obtain ⟨hp, g, d, tk, os⟩ := s
    obtain ⟨hl, h⟩ := h
    have f1 := AutoSeq1.idx_int
    wp_walk using PyProof.Rows.wpAny_loadPart' hl
    exact ⟨_, rfl, h⟩
theorem same_new {H : Hp} {p : Addr} {o : HO} (h : H p = none) : Same H (upd H p o) := fun b x e => by
  rw [upd_ne (ne_of_none e h)]
  exact e
theorem same_tup {K : PySem.W.Frag} {H H' : Hp} {a : Addr} {xs : List V} (e : Same H H') (h : SqT K H a xs) : SqT K H' a xs := by
  rcases h with (h | ⟨o, h⟩) | h
  · exact .inl (.inl (e _ _ h))
  · exact .inl (.inr ⟨o, e _ _ h⟩)
  · exact .inr h
/-- (0,) * k -/
def rZeros (K : PySem.W.Frag) : R2 := fun x y H Q => ∃ l k, x = .ref l ∧ y = .int k ∧ SqT K H l [.int 0] ∧ 1 ≤ k ∧ k ≤ 1000 ∧ ∀ p H', Same H H' → SqT K H' p ((List.replicate k.toNat (0 : Int)).map V.int) → Q (.ref p) H'
theorem op_zeros {X : Cx} : OpR X (binaryOp .Mult) (rZeros X.K) := by
  intro pins s σ H x y v u Q I rx ry h
  obtain ⟨l, k, rfl, rfl, hT, h1, h2, q⟩ := h
  by_cases hk : k = 1
  · subst hk
    obtain rfl : v = Value.ref l := rx
    obtain ⟨t, rfl⟩ := ry
    obtain ⟨its, r, ⟨⟨cls, dd, data, sl⟩, ho, hc, n, hd⟩, hs⟩ := I.tuple hT
    simp only at hc hd
    subst hc hd
    exact wpAny_binaryOp_repeat_ref (T := "tuple") (U := "int") (by decide) ⟨_, ho, rfl⟩ (fun s' => typeIs_int s' 1 t) noFill_tuple_mul PySem.F.fills_int_mul PySem.F.slot_int_rmul repeat_tuple PySem.F.slot_int_index.lookup
      (call_meets PySem.F.slot_int_rmul (typeIs_int s 1 t) PySem.F.entry_int_rmul (PySem.F.args_int_rmul_2 _ _) (int_rmul_tuple 1 t l its.toArray n dd sl)
        ⟨ho, rfl, ⟨_, ho, rfl⟩, call_meets PySem.F.slot_tuple_mul ⟨_, ho, rfl⟩ PySem.F.entry_tuple_mul (PySem.F.args_tuple_mul_2 _ _) (tuple_once l its.toArray n dd sl t) ⟨ho, .ref l, H, I, rfl, q l H (Same.refl H) hT⟩⟩)
  · refine op_repT pins s σ H _ _ v u Q I rx ry ⟨l, k, [.int 0], rfl, rfl, hT, by simp, by omega, h2, by simp, fun p hp => q p _ (same_new hp) (.inl (.inl ?_))⟩
    rw [upd_same, List.map_replicate, List.flatten_replicate_singleton]
end LrB
/-! the text by places; what stands behind the top -/
namespace LrT
open PySem PySem.Spec L2 SlX
def topS (i : Nat) : Stmt := PySem.Challenge.pw_leastreads_k04_whole_spaces_of_sums.main.body.getD i (.Pass ⟨0, 0, 0, 0⟩)
abbrev sInverse : Stmt := topS 8
abbrev sScaled : Stmt := topS 9
abbrev sAdded : Stmt := topS 10
abbrev sLead : Stmt := topS 11
abbrev sRestOf : Stmt := topS 12
abbrev sReduced : Stmt := topS 13
abbrev sHasRow : Stmt := topS 14
abbrev sPower : Stmt := topS 16
abbrev sIsBetween : Stmt := topS 20
abbrev sIsInteger : Stmt := topS 21
abbrev sIsPrime : Stmt := topS 22
abbrev sIsSize : Stmt := topS 23
abbrev sIsData : Stmt := topS 24
abbrev sIsSum : Stmt := topS 26
abbrev sLawSource : Stmt := topS 30
abbrev sLawDraw : Stmt := topS 31
abbrev sLawPick : Stmt := topS 32
abbrev sLawAllData : Stmt := topS 33
abbrev sLawFactors : Stmt := topS 35
abbrev sLawForm : Stmt := topS 36
abbrev sLawSums : Stmt := topS 37
abbrev sLawSpan : Stmt := topS 38
abbrev sLawMade : Stmt := topS 39
abbrev sLawNumber : Stmt := topS 40
abbrev sLawLeads : Stmt := topS 41
abbrev sLawReducedRight : Stmt := topS 42
abbrev sLaw : Stmt := topS 43
abbrev sSumInit : Stmt := inClass (topS 25) 1
abbrev sSumPrime : Stmt := inClass (topS 25) 3
abbrev sSumFactors : Stmt := inClass (topS 25) 4
abbrev sSumSize : Stmt := inClass (topS 25) 5
abbrev sSpaceInit : Stmt := inClass (topS 28) 1
abbrev sSpacePrime : Stmt := inClass (topS 28) 2
abbrev sSpaceSize : Stmt := inClass (topS 28) 3
abbrev sSpaceReducedSums : Stmt := inClass (topS 28) 4
abbrev sSpaceIsWhole : Stmt := inClass (topS 28) 5
abbrev sSpaceLen : Stmt := inClass (topS 28) 6
abbrev sSpaceContains : Stmt := inClass (topS 28) 8
abbrev sSpaceEq : Stmt := inClass (topS 28) 9
theorem scInverse : FnScope ["number", "prime", "found"] ["number", "prime"] (defScope sInverse) := ⟨rfl, rfl, rfl, by decide +kernel, rfl, by decide +kernel, by decide +kernel⟩
theorem scScaled : FnScope ["row", "factor", "prime", "number"] ["row", "factor", "prime"] (defScope sScaled) := ⟨rfl, rfl, rfl, by decide +kernel, rfl, by decide +kernel, by decide +kernel⟩
theorem scAdded : FnScope ["row", "other", "factor", "prime", "one", "two"] ["row", "other", "factor", "prime"] (defScope sAdded) := ⟨rfl, rfl, rfl, by decide +kernel, rfl, by decide +kernel, by decide +kernel⟩
theorem scLead : FnScope ["row", "place"] ["row"] (defScope sLead) := ⟨rfl, rfl, rfl, by decide +kernel, rfl, by decide +kernel, by decide +kernel⟩
theorem scRestOf : FnScope ["row", "rows", "prime", "other"] ["row", "rows", "prime"] (defScope sRestOf) := ⟨rfl, rfl, rfl, by decide +kernel, rfl, by decide +kernel, by decide +kernel⟩
theorem scReduced : FnScope ["rows", "prime", "found", "row", "place", "other"] ["rows", "prime"] (defScope sReduced) := ⟨rfl, rfl, rfl, by decide +kernel, rfl, by decide +kernel, by decide +kernel⟩
theorem scHasRow : FnScope ["rows", "row", "prime"] ["rows", "row", "prime"] (defScope sHasRow) := ⟨rfl, rfl, rfl, by decide +kernel, rfl, by decide +kernel, by decide +kernel⟩
theorem scPower : FnScope ["base", "exponent", "found", "index"] ["base", "exponent"] (defScope sPower) := ⟨rfl, rfl, rfl, by decide +kernel, rfl, by decide +kernel, by decide +kernel⟩
theorem scIsBetween : FnScope ["value", "low", "high"] ["value", "low", "high"] (defScope sIsBetween) := ⟨rfl, rfl, rfl, by decide +kernel, rfl, by decide +kernel, by decide +kernel⟩
theorem scIsInteger : FnScope ["value"] ["value"] (defScope sIsInteger) := ⟨rfl, rfl, rfl, by decide +kernel, rfl, by decide +kernel, by decide +kernel⟩
theorem scIsPrime : FnScope ["value"] ["value"] (defScope sIsPrime) := ⟨rfl, rfl, rfl, by decide +kernel, rfl, by decide +kernel, by decide +kernel⟩
theorem scIsSize : FnScope ["prime", "value"] ["prime", "value"] (defScope sIsSize) := ⟨rfl, rfl, rfl, by decide +kernel, rfl, by decide +kernel, by decide +kernel⟩
theorem scIsData : FnScope ["prime", "size", "value", "number"] ["prime", "size", "value"] (defScope sIsData) := ⟨rfl, rfl, rfl, by decide +kernel, rfl, by decide +kernel, by decide +kernel⟩
theorem scIsSum : FnScope ["value", "prime", "size"] ["value", "prime", "size"] (defScope sIsSum) := ⟨rfl, rfl, rfl, by decide +kernel, rfl, by decide +kernel, by decide +kernel⟩
theorem scLawSource : FnScope ["_law_script", "_law_turn", "_law_cell", "_law_number_here", "_law_seed"] ["_law_script", "_law_turn"] (defScope sLawSource) := ⟨rfl, rfl, rfl, by decide +kernel, rfl, by decide +kernel, by decide +kernel⟩
theorem scLawDraw : FnScope ["_law_source_here", "_law_amount", "_law_digit"] ["_law_source_here", "_law_amount"] (defScope sLawDraw) := ⟨rfl, rfl, rfl, by decide +kernel, rfl, by decide +kernel, by decide +kernel⟩
theorem scLawPick : FnScope ["_law_source_here", "_law_items"] ["_law_source_here", "_law_items"] (defScope sLawPick) := ⟨rfl, rfl, rfl, by decide +kernel, rfl, by decide +kernel, by decide +kernel⟩
theorem scLawAllData : FnScope ["_law_prime", "_law_size", "_law_found", "_law_place", "_law_longer", "_law_data", "_law_value_here"] ["_law_prime", "_law_size"] (defScope sLawAllData) := ⟨rfl, rfl, rfl, by decide +kernel, rfl, by decide +kernel, by decide +kernel⟩
theorem scLawFactors : FnScope ["_law_source_here", "_law_prime", "_law_size", "_law_place"] ["_law_source_here", "_law_prime", "_law_size"] (defScope sLawFactors) := ⟨rfl, rfl, rfl, by decide +kernel, rfl, by decide +kernel, by decide +kernel⟩
theorem scLawForm : FnScope ["_law_source_here"] ["_law_source_here"] (defScope sLawForm) := ⟨rfl, rfl, rfl, by decide +kernel, rfl, by decide +kernel, by decide +kernel⟩
theorem scLawSums : FnScope ["_law_source_here", "_law_prime", "_law_size", "_law_most", "_law_index"] ["_law_source_here", "_law_prime", "_law_size", "_law_most"] (defScope sLawSums) := ⟨rfl, rfl, rfl, by decide +kernel, rfl, by decide +kernel, by decide +kernel⟩
theorem scLawSpan : FnScope ["_law_rows", "_law_prime", "_law_size", "_law_found", "_law_row", "_law_longer", "_law_factor", "_law_old", "_law_one", "_law_two"] ["_law_rows", "_law_prime", "_law_size"] (defScope sLawSpan) := ⟨rfl, rfl, rfl, by decide +kernel, rfl, by decide +kernel, by decide +kernel⟩
theorem scLawMade : FnScope ["_law_prime", "_law_size", "_law_rows", "_law_row"] ["_law_prime", "_law_size", "_law_rows"] (defScope sLawMade) := ⟨rfl, rfl, rfl, by decide +kernel, rfl, by decide +kernel, by decide +kernel⟩
theorem scLawNumber : FnScope ["_law_prime", "_law_count", "_law_found", "_law_index"] ["_law_prime", "_law_count"] (defScope sLawNumber) := ⟨rfl, rfl, rfl, by decide +kernel, rfl, by decide +kernel, by decide +kernel⟩
theorem scLawLeads : FnScope ["_law_rows", "_law_row", "_law_number_here"] ["_law_rows"] (defScope sLawLeads) := ⟨rfl, rfl, rfl, by decide +kernel, rfl, by decide +kernel, by decide +kernel⟩
theorem scLawReducedRight : FnScope ["_law_space", "_law_span_here", "_law_prime", "_law_size", "_law_rows", "_law_leads_here", "_law_row", "_law_spot", "_law_item", "_law_other"] ["_law_space", "_law_span_here", "_law_prime", "_law_size"] (defScope sLawReducedRight) := ⟨rfl, rfl, rfl, by decide +kernel, rfl, by decide +kernel, by decide +kernel⟩
theorem scLaw : FnScope ["_law_script", "_law_turn", "_law_source_here", "_law_prime", "_law_size", "_law_rows", "_law_others", "_law_space", "_law_span_here", "_law_data", "_law_odd"] ["_law_script"] (defScope sLaw) := ⟨rfl, rfl, rfl, by decide +kernel, rfl, by decide +kernel, by decide +kernel⟩
theorem scSumInit : FnScope ["self", "prime", "factors"] ["self", "prime", "factors"] (defScope sSumInit) := ⟨rfl, rfl, rfl, by decide +kernel, rfl, by decide +kernel, by decide +kernel⟩
theorem scSumPrime : FnScope ["self"] ["self"] (defScope sSumPrime) := ⟨rfl, rfl, rfl, by decide +kernel, rfl, by decide +kernel, by decide +kernel⟩
theorem scSumFactors : FnScope ["self"] ["self"] (defScope sSumFactors) := ⟨rfl, rfl, rfl, by decide +kernel, rfl, by decide +kernel, by decide +kernel⟩
theorem scSumSize : FnScope ["self"] ["self"] (defScope sSumSize) := ⟨rfl, rfl, rfl, by decide +kernel, rfl, by decide +kernel, by decide +kernel⟩
theorem scSpaceInit : FnScope ["self", "prime", "size", "sums", "item", "row"] ["self", "prime", "size", "sums"] (defScope sSpaceInit) := ⟨rfl, rfl, rfl, by decide +kernel, rfl, by decide +kernel, by decide +kernel⟩
theorem scSpacePrime : FnScope ["self"] ["self"] (defScope sSpacePrime) := ⟨rfl, rfl, rfl, by decide +kernel, rfl, by decide +kernel, by decide +kernel⟩
theorem scSpaceSize : FnScope ["self"] ["self"] (defScope sSpaceSize) := ⟨rfl, rfl, rfl, by decide +kernel, rfl, by decide +kernel, by decide +kernel⟩
theorem scSpaceReducedSums : FnScope ["self"] ["self"] (defScope sSpaceReducedSums) := ⟨rfl, rfl, rfl, by decide +kernel, rfl, by decide +kernel, by decide +kernel⟩
theorem scSpaceIsWhole : FnScope ["self"] ["self"] (defScope sSpaceIsWhole) := ⟨rfl, rfl, rfl, by decide +kernel, rfl, by decide +kernel, by decide +kernel⟩
theorem scSpaceLen : FnScope ["self"] ["self"] (defScope sSpaceLen) := ⟨rfl, rfl, rfl, by decide +kernel, rfl, by decide +kernel, by decide +kernel⟩
theorem scSpaceContains : FnScope ["self", "item"] ["self", "item"] (defScope sSpaceContains) := ⟨rfl, rfl, rfl, by decide +kernel, rfl, by decide +kernel, by decide +kernel⟩
theorem scSpaceEq : FnScope ["self", "other"] ["self", "other"] (defScope sSpaceEq) := ⟨rfl, rfl, rfl, by decide +kernel, rfl, by decide +kernel, by decide +kernel⟩
/-- a def of the top -/
structure Glo (K : PySem.W.Frag) (mg : Str → Option Value) (x : Str) (st : Stmt) (ps : List Str) : Prop where
  ex : ∃ f fd, mg x = some (.ref f) ∧ Fun K x x st f fd ∧ Binds K fd ps []
/-- a method that is called by another's word -/
structure Mtd (K : PySem.W.Frag) (C : Addr) (x qual : Str) (st : Stmt) (ps : List Str) : Prop where
  ex : ∃ f fd, PySem.W.findIn K (.ref C) x = some (some (.ref f)) ∧ PySem.W.isFn K (.ref f) = true ∧ Fun K x qual st f fd ∧ Binds K fd ps []
/-- one with a default, all of whose parameters are given -/
structure MtdD (K : PySem.W.Frag) (C : Addr) (x qual : Str) (st : Stmt) (ps : List Str) : Prop where
  ex : ∃ f fd e, PySem.W.findIn K (.ref C) x = some (some (.ref f)) ∧ PySem.W.isFn K (.ref f) = true ∧ FunD K x qual (defArgs st) (defBody st) (defScope st) [.ref e] [] f fd ∧ Binds K fd ps []
/-- a property's getter -/
structure Prp (K : PySem.W.Frag) (C : Addr) (x qual : Str) (st : Stmt) (ps : List Str) : Prop where
  ex : ∃ p f fd, PySem.W.findIn K (.ref C) x = some (some (.ref p)) ∧ PySem.W.specialIn K (.ref p) "__get__" = some (some (.builtin "property.__get__")) ∧ PySem.W.takesIn K (.ref p) = some true ∧
    (∃ rest, PySem.W.recIn K p "property" = some (.ref f :: rest)) ∧ Fun K x qual st f fd ∧ Binds K fd ps []
/-- a class with slots -/
structure Kls (K : PySem.W.Frag) (mg : Str → Option Value) (x : Str) (C : Addr) : Prop where
  gl : mg x = some (.ref C)
  sc : SCls K C
  si : SIsi K C
  makes : PySem.W.makesIn K C = true
  kp : PySem.W.keepIn K (.ref C) = true
section
variable {K : PySem.W.Frag} {h : Heap} {mg : Str → Option Value} {x qual : Str} {st : Stmt} {ps : List Str} {f C p : Addr} {oc : Value} {od an : Option Addr} {osl : Array (Option Value)} {kV doc pm cdv ct : Value}
abbrev FnV (x qual : Str) (st : Stmt) (dV kV doc pm : Value) (an : Option Addr) (cdv ct : Value) : FuncData := PySem.W.fnOf x qual (defArgs st) (defBody st) (defScope st) dV kV doc pm an cdv ct
theorem glo_mk (X : K.In h) (G : h.Ns mainGlobals mg) (a : PySem.W.nsIn K mainGlobals x = some (some (.ref f))) (l : K.lookup f = some ⟨oc, od, .func (FnV x x st .none kV doc pm an cdv ct), osl⟩) (c : PySem.W.codeIn K cdv x = true) (k : PySem.W.keepIn K (.ref f) = true)
    (hb : ∀ (kV doc pm : Value) (an : Option Addr) (cdv ct : Value) (us : List Value), us.length = ps.length → bindArgs (FnV x x st .none kV doc pm an cdv ct) ⟨us, []⟩ = pure (ps.zip us)) : Glo K mg x st ps :=
  ⟨f, _, PySem.W.mg_of X G a, fun_mk l c k, (fun_mk l c k).binds hb⟩
theorem mtd_mk (a : PySem.W.findIn K (.ref C) x = some (some (.ref f))) (i : PySem.W.isFn K (.ref f) = true) (l : K.lookup f = some ⟨oc, od, .func (FnV x qual st .none kV doc pm an cdv ct), osl⟩) (c : PySem.W.codeIn K cdv qual = true) (k : PySem.W.keepIn K (.ref f) = true)
    (hb : ∀ (kV doc pm : Value) (an : Option Addr) (cdv ct : Value) (us : List Value), us.length = ps.length → bindArgs (FnV x qual st .none kV doc pm an cdv ct) ⟨us, []⟩ = pure (ps.zip us)) : Mtd K C x qual st ps :=
  ⟨f, _, a, i, fun_mk l c k, (fun_mk l c k).binds hb⟩
theorem prp_mk {rest : List Value} (a : PySem.W.findIn K (.ref C) x = some (some (.ref p))) (g : PySem.W.specialIn K (.ref p) "__get__" = some (some (.builtin "property.__get__"))) (t : PySem.W.takesIn K (.ref p) = some true) (r : PySem.W.recIn K p "property" = some (.ref f :: rest))
    (l : K.lookup f = some ⟨oc, od, .func (FnV x qual st .none kV doc pm an cdv ct), osl⟩) (c : PySem.W.codeIn K cdv qual = true) (k : PySem.W.keepIn K (.ref f) = true)
    (hb : ∀ (kV doc pm : Value) (an : Option Addr) (cdv ct : Value) (us : List Value), us.length = ps.length → bindArgs (FnV x qual st .none kV doc pm an cdv ct) ⟨us, []⟩ = pure (ps.zip us)) : Prp K C x qual st ps :=
  ⟨p, f, _, a, g, t, ⟨rest, r⟩, fun_mk l c k, (fun_mk l c k).binds hb⟩
theorem mtdD_mk {T e : Addr} {oT : Value} {dT : Option Addr} {nT : Nat} {sT : Array (Option Value)} (a : PySem.W.findIn K (.ref C) x = some (some (.ref f))) (i : PySem.W.isFn K (.ref f) = true) (l : K.lookup f = some ⟨oc, od, .func (FnV x qual st (.ref T) kV doc pm an cdv ct), osl⟩)
    (c : PySem.W.codeIn K cdv qual = true) (k : PySem.W.keepIn K (.ref f) = true) (d : K.lookup T = some ⟨oT, dT, .seq #[.ref e] nT, sT⟩)
    (hb : ∀ (T : Addr) (kV doc pm : Value) (an : Option Addr) (cdv ct : Value) (us : List Value), us.length = ps.length → ∃ k, bindArgs (FnV x qual st (.ref T) kV doc pm an cdv ct) ⟨us, []⟩ = seqItems? (.ref T) >>= k ∧ ∀ it : Value, k (some #[it]) = pure (ps.zip us)) : MtdD K C x qual st ps := by
  have F : FunD K x qual (defArgs st) (defBody st) (defScope st) [.ref e] [] f (FnV x qual st (.ref T) kV doc pm an cdv ct) :=
    ⟨⟨oc, od, .ref T, kV, doc, pm, an, cdv, ct, osl, rfl, l, c, .inr ⟨by simp, T, _, [.ref e], nT, rfl, d, rfl, .cons rfl .nil⟩, .inl rfl⟩, k⟩
  obtain ⟨ds, hd, b⟩ := F.binds1 (ps := ps) ps.length 1 (by simp) (by simp) fun T kV doc pm an cdv ct us its hu hi => by
    obtain ⟨k, e1, e2⟩ := hb T kV doc pm an cdv ct us hu
    match its, hi with
    | [it], _ => exact ⟨k, e1, by rw [e2 it]; simp⟩
  cases hd
  exact ⟨f, _, e, a, i, F, b⟩
end
theorem kit_no {K : PySem.W.Frag} {C : Addr} {T : String} (ic : PySem.W.isClsIn K C = true) (ty : PySem.W.typeIn K (.ref C) = some (.type "type")) (h : ∀ C : Addr, PySem.W.subIn K (.type T) (.ref C) = some false) : PySem.W.kitOne K (.type T) (.ref C) = some false := by
  unfold PySem.W.kitOne
  have e : ((Value.type T : Value) == .ref C) = false := rfl
  rw [e, if_neg Bool.false_ne_true]
  unfold PySem.W.kitCls
  have i : (PySem.W.clsIn K C).isSome = true := ic
  simp only [i, ty]
  rw [if_pos (by simp)]
  exact h C
theorem kit_yes {K : PySem.W.Frag} {C : Addr} : PySem.W.kitOne K (.ref C) (.ref C) = some true := by
  unfold PySem.W.kitOne
  rw [if_pos (by simp)]
theorem kit_list {K : PySem.W.Frag} (C : Addr) : PySem.W.subIn K (.type "list") (.ref C) = some false := by kernel_rfl
theorem kit_tuple {K : PySem.W.Frag} (C : Addr) : PySem.W.subIn K (.type "tuple") (.ref C) = some false := by kernel_rfl
theorem kit_int {K : PySem.W.Frag} (C : Addr) : PySem.W.subIn K (.type "int") (.ref C) = some false := by kernel_rfl
theorem kit_str {K : PySem.W.Frag} (C : Addr) : PySem.W.subIn K (.type "str") (.ref C) = some false := by kernel_rfl
theorem kit_NoneType {K : PySem.W.Frag} (C : Addr) : PySem.W.subIn K (.type "NoneType") (.ref C) = some false := by kernel_rfl

/-- what the walk takes from behind the top -/
structure Txt (K : PySem.W.Frag) (mg : Str → Option Value) (CS CP : Addr) : Prop where
  tInverse : Glo K mg "inverse" sInverse ["number", "prime"]
  tScaled : Glo K mg "scaled" sScaled ["row", "factor", "prime"]
  tAdded : Glo K mg "added" sAdded ["row", "other", "factor", "prime"]
  tLead : Glo K mg "lead" sLead ["row"]
  tRestOf : Glo K mg "rest_of" sRestOf ["row", "rows", "prime"]
  tReduced : Glo K mg "reduced" sReduced ["rows", "prime"]
  tHasRow : Glo K mg "has_row" sHasRow ["rows", "row", "prime"]
  tPower : Glo K mg "power" sPower ["base", "exponent"]
  tIsBetween : Glo K mg "is_between" sIsBetween ["value", "low", "high"]
  tIsInteger : Glo K mg "is_integer" sIsInteger ["value"]
  tIsPrime : Glo K mg "is_prime" sIsPrime ["value"]
  tIsSize : Glo K mg "is_size" sIsSize ["prime", "value"]
  tIsData : Glo K mg "is_data" sIsData ["prime", "size", "value"]
  tIsSum : Glo K mg "is_sum" sIsSum ["value", "prime", "size"]
  tLawSource : Glo K mg "_law_source" sLawSource ["_law_script", "_law_turn"]
  tLawDraw : Glo K mg "_law_draw" sLawDraw ["_law_source_here", "_law_amount"]
  tLawPick : Glo K mg "_law_pick" sLawPick ["_law_source_here", "_law_items"]
  tLawAllData : Glo K mg "_law_all_data" sLawAllData ["_law_prime", "_law_size"]
  tLawFactors : Glo K mg "_law_factors" sLawFactors ["_law_source_here", "_law_prime", "_law_size"]
  tLawForm : Glo K mg "_law_form" sLawForm ["_law_source_here"]
  tLawSums : Glo K mg "_law_sums" sLawSums ["_law_source_here", "_law_prime", "_law_size", "_law_most"]
  tLawSpan : Glo K mg "_law_span" sLawSpan ["_law_rows", "_law_prime", "_law_size"]
  tLawMade : Glo K mg "_law_made" sLawMade ["_law_prime", "_law_size", "_law_rows"]
  tLawNumber : Glo K mg "_law_number" sLawNumber ["_law_prime", "_law_count"]
  tLawLeads : Glo K mg "_law_leads" sLawLeads ["_law_rows"]
  tLawReducedRight : Glo K mg "_law_reduced_right" sLawReducedRight ["_law_space", "_law_span_here", "_law_prime", "_law_size"]
  tLaw : Glo K mg "law" sLaw ["_law_script"]
  kSum : Kls K mg "Sum" CS
  tSumInit : Mtd K CS "__init__" "Sum.__init__" sSumInit ["self", "prime", "factors"]
  tSumPrime : Prp K CS "prime" "Sum.prime" sSumPrime ["self"]
  tSumFactors : Prp K CS "factors" "Sum.factors" sSumFactors ["self"]
  tSumSize : Prp K CS "size" "Sum.size" sSumSize ["self"]
  lSumOwnPrime : ∃ p, Slot1 K CS "own_prime" p 0
  lSumRow : ∃ p, Slot1 K CS "row" p 1
  kSpace : Kls K mg "Space" CP
  tSpaceInit : MtdD K CP "__init__" "Space.__init__" sSpaceInit ["self", "prime", "size", "sums"]
  tSpacePrime : Prp K CP "prime" "Space.prime" sSpacePrime ["self"]
  tSpaceSize : Prp K CP "size" "Space.size" sSpaceSize ["self"]
  tSpaceReducedSums : Prp K CP "reduced_sums" "Space.reduced_sums" sSpaceReducedSums ["self"]
  tSpaceIsWhole : Prp K CP "is_whole" "Space.is_whole" sSpaceIsWhole ["self"]
  tSpaceLen : Mtd K CP "__len__" "Space.__len__" sSpaceLen ["self"]
  tSpaceContains : Mtd K CP "__contains__" "Space.__contains__" sSpaceContains ["self", "item"]
  tSpaceEq : Mtd K CP "__eq__" "Space.__eq__" sSpaceEq ["self", "other"]
  lSpaceOwnPrime : ∃ p, Slot1 K CP "own_prime" p 1
  lSpaceOwnSize : ∃ p, Slot1 K CP "own_size" p 2
  lSpaceRows : ∃ p, Slot1 K CP "rows" p 3
  lSpaceListed : ∃ p, Slot1 K CP "listed" p 0
  nePS : PySem.W.notFirst K CP (.type "list") = true
  neP : PySem.W.findIn K (.ref CP) "__ne__" = some (some (.builtin "object.__ne__"))
  noSList : PySem.W.kitOne K (.type "list") (.ref CS) = some false
  noSTuple : PySem.W.kitOne K (.type "tuple") (.ref CS) = some false
  noSInt : PySem.W.kitOne K (.type "int") (.ref CS) = some false
  noSStr : PySem.W.kitOne K (.type "str") (.ref CS) = some false
  noSNonetype : PySem.W.kitOne K (.type "NoneType") (.ref CS) = some false
  yesS : PySem.W.kitOne K (.ref CS) (.ref CS) = some true
  noPList : PySem.W.kitOne K (.type "list") (.ref CP) = some false
  noPTuple : PySem.W.kitOne K (.type "tuple") (.ref CP) = some false
  noPInt : PySem.W.kitOne K (.type "int") (.ref CP) = some false
  noPStr : PySem.W.kitOne K (.type "str") (.ref CP) = some false
  noPNonetype : PySem.W.kitOne K (.type "NoneType") (.ref CP) = some false
  yesP : PySem.W.kitOne K (.ref CP) (.ref CP) = some true
  cPrimes : ∃ t, mg "PRIMES" = some (.ref t) ∧ ∀ H, SqT K H t [.int 2, .int 3, .int 5, .int 7]
  cMost : ∃ t, mg "MOST_DATA" = some (.int 4096 t)
  zTuple : mg "tuple" = none
  zZip : mg "zip" = none
  zLen : mg "len" = none
  zSorted : mg "sorted" = none
  zAny : mg "any" = none
  zAll : mg "all" = none
  zRange : mg "range" = none
  zIsinstance : mg "isinstance" = none
  zList : mg "list" = none
  zInt : mg "int" = none
  zBool : mg "bool" = none
  zMax : mg "max" = none
  zMin : mg "min" = none
  zSum : mg "sum" = none
  zSet : mg "set" = none
end LrT
namespace LrT
open PySem PySem.Spec L2 SlX
theorem all_mk {K : PySem.W.Frag} {h : Heap} {mg : Str → Option Value} {CS CP f1 f2 f3 f4 f5 f6 f7 f8 f9 f10 f11 f12 f13 f14 f15 f16 f17 f18 f19 f20 f21 f22 f23 f24 f25 f26 f27 f28 f29 p29 f30 p30 f31 p31 qS0 qS1 f32 T32 e32 f33 p33 f34 p34 f35 p35 f36 p36 f37 f38 f39 qP1 qP2 qP3 qP0 tp : Addr} (X : K.In h) (G : h.Ns mainGlobals mg)
    {od1 an1 : Option Addr} {sl1 : Array (Option Value)} {oc1 kV1 dc1 pm1 cd1 ct1 : Value}
    {od2 an2 : Option Addr} {sl2 : Array (Option Value)} {oc2 kV2 dc2 pm2 cd2 ct2 : Value}
    {od3 an3 : Option Addr} {sl3 : Array (Option Value)} {oc3 kV3 dc3 pm3 cd3 ct3 : Value}
    {od4 an4 : Option Addr} {sl4 : Array (Option Value)} {oc4 kV4 dc4 pm4 cd4 ct4 : Value}
    {od5 an5 : Option Addr} {sl5 : Array (Option Value)} {oc5 kV5 dc5 pm5 cd5 ct5 : Value}
    {od6 an6 : Option Addr} {sl6 : Array (Option Value)} {oc6 kV6 dc6 pm6 cd6 ct6 : Value}
    {od7 an7 : Option Addr} {sl7 : Array (Option Value)} {oc7 kV7 dc7 pm7 cd7 ct7 : Value}
    {od8 an8 : Option Addr} {sl8 : Array (Option Value)} {oc8 kV8 dc8 pm8 cd8 ct8 : Value}
    {od9 an9 : Option Addr} {sl9 : Array (Option Value)} {oc9 kV9 dc9 pm9 cd9 ct9 : Value}
    {od10 an10 : Option Addr} {sl10 : Array (Option Value)} {oc10 kV10 dc10 pm10 cd10 ct10 : Value}
    {od11 an11 : Option Addr} {sl11 : Array (Option Value)} {oc11 kV11 dc11 pm11 cd11 ct11 : Value}
    {od12 an12 : Option Addr} {sl12 : Array (Option Value)} {oc12 kV12 dc12 pm12 cd12 ct12 : Value}
    {od13 an13 : Option Addr} {sl13 : Array (Option Value)} {oc13 kV13 dc13 pm13 cd13 ct13 : Value}
    {od14 an14 : Option Addr} {sl14 : Array (Option Value)} {oc14 kV14 dc14 pm14 cd14 ct14 : Value}
    {od15 an15 : Option Addr} {sl15 : Array (Option Value)} {oc15 kV15 dc15 pm15 cd15 ct15 : Value}
    {od16 an16 : Option Addr} {sl16 : Array (Option Value)} {oc16 kV16 dc16 pm16 cd16 ct16 : Value}
    {od17 an17 : Option Addr} {sl17 : Array (Option Value)} {oc17 kV17 dc17 pm17 cd17 ct17 : Value}
    {od18 an18 : Option Addr} {sl18 : Array (Option Value)} {oc18 kV18 dc18 pm18 cd18 ct18 : Value}
    {od19 an19 : Option Addr} {sl19 : Array (Option Value)} {oc19 kV19 dc19 pm19 cd19 ct19 : Value}
    {od20 an20 : Option Addr} {sl20 : Array (Option Value)} {oc20 kV20 dc20 pm20 cd20 ct20 : Value}
    {od21 an21 : Option Addr} {sl21 : Array (Option Value)} {oc21 kV21 dc21 pm21 cd21 ct21 : Value}
    {od22 an22 : Option Addr} {sl22 : Array (Option Value)} {oc22 kV22 dc22 pm22 cd22 ct22 : Value}
    {od23 an23 : Option Addr} {sl23 : Array (Option Value)} {oc23 kV23 dc23 pm23 cd23 ct23 : Value}
    {od24 an24 : Option Addr} {sl24 : Array (Option Value)} {oc24 kV24 dc24 pm24 cd24 ct24 : Value}
    {od25 an25 : Option Addr} {sl25 : Array (Option Value)} {oc25 kV25 dc25 pm25 cd25 ct25 : Value}
    {od26 an26 : Option Addr} {sl26 : Array (Option Value)} {oc26 kV26 dc26 pm26 cd26 ct26 : Value}
    {od27 an27 : Option Addr} {sl27 : Array (Option Value)} {oc27 kV27 dc27 pm27 cd27 ct27 : Value}
    {od28 an28 : Option Addr} {sl28 : Array (Option Value)} {oc28 kV28 dc28 pm28 cd28 ct28 : Value}
    {r29 : List Value}
    {od29 an29 : Option Addr} {sl29 : Array (Option Value)} {oc29 kV29 dc29 pm29 cd29 ct29 : Value}
    {r30 : List Value}
    {od30 an30 : Option Addr} {sl30 : Array (Option Value)} {oc30 kV30 dc30 pm30 cd30 ct30 : Value}
    {r31 : List Value}
    {od31 an31 : Option Addr} {sl31 : Array (Option Value)} {oc31 kV31 dc31 pm31 cd31 ct31 : Value}
    {oT32 : Value} {dT32 : Option Addr} {nT32 : Nat} {sT32 : Array (Option Value)}
    {od32 an32 : Option Addr} {sl32 : Array (Option Value)} {oc32 kV32 dc32 pm32 cd32 ct32 : Value}
    {r33 : List Value}
    {od33 an33 : Option Addr} {sl33 : Array (Option Value)} {oc33 kV33 dc33 pm33 cd33 ct33 : Value}
    {r34 : List Value}
    {od34 an34 : Option Addr} {sl34 : Array (Option Value)} {oc34 kV34 dc34 pm34 cd34 ct34 : Value}
    {r35 : List Value}
    {od35 an35 : Option Addr} {sl35 : Array (Option Value)} {oc35 kV35 dc35 pm35 cd35 ct35 : Value}
    {r36 : List Value}
    {od36 an36 : Option Addr} {sl36 : Array (Option Value)} {oc36 kV36 dc36 pm36 cd36 ct36 : Value}
    {od37 an37 : Option Addr} {sl37 : Array (Option Value)} {oc37 kV37 dc37 pm37 cd37 ct37 : Value}
    {od38 an38 : Option Addr} {sl38 : Array (Option Value)} {oc38 kV38 dc38 pm38 cd38 ct38 : Value}
    {od39 an39 : Option Addr} {sl39 : Array (Option Value)} {oc39 kV39 dc39 pm39 cd39 ct39 : Value}
    {oP : Value} {dP : Option Addr} {nP : Nat} {sP : Array (Option Value)} {i2 i3 i5 i7 im : Tok}
    (a1 : PySem.W.nsIn K mainGlobals "inverse" = some (some (.ref f1)))
    (l1 : K.lookup f1 = some ⟨oc1, od1, .func (PySem.W.fnOf "inverse" "inverse" (defArgs sInverse) (defBody sInverse) (defScope sInverse) .none kV1 dc1 pm1 an1 cd1 ct1), sl1⟩) (c1 : PySem.W.codeIn K cd1 "inverse" = true) (k1 : PySem.W.keepIn K (.ref f1) = true)
    (a2 : PySem.W.nsIn K mainGlobals "scaled" = some (some (.ref f2)))
    (l2 : K.lookup f2 = some ⟨oc2, od2, .func (PySem.W.fnOf "scaled" "scaled" (defArgs sScaled) (defBody sScaled) (defScope sScaled) .none kV2 dc2 pm2 an2 cd2 ct2), sl2⟩) (c2 : PySem.W.codeIn K cd2 "scaled" = true) (k2 : PySem.W.keepIn K (.ref f2) = true)
    (a3 : PySem.W.nsIn K mainGlobals "added" = some (some (.ref f3)))
    (l3 : K.lookup f3 = some ⟨oc3, od3, .func (PySem.W.fnOf "added" "added" (defArgs sAdded) (defBody sAdded) (defScope sAdded) .none kV3 dc3 pm3 an3 cd3 ct3), sl3⟩) (c3 : PySem.W.codeIn K cd3 "added" = true) (k3 : PySem.W.keepIn K (.ref f3) = true)
    (a4 : PySem.W.nsIn K mainGlobals "lead" = some (some (.ref f4)))
    (l4 : K.lookup f4 = some ⟨oc4, od4, .func (PySem.W.fnOf "lead" "lead" (defArgs sLead) (defBody sLead) (defScope sLead) .none kV4 dc4 pm4 an4 cd4 ct4), sl4⟩) (c4 : PySem.W.codeIn K cd4 "lead" = true) (k4 : PySem.W.keepIn K (.ref f4) = true)
    (a5 : PySem.W.nsIn K mainGlobals "rest_of" = some (some (.ref f5)))
    (l5 : K.lookup f5 = some ⟨oc5, od5, .func (PySem.W.fnOf "rest_of" "rest_of" (defArgs sRestOf) (defBody sRestOf) (defScope sRestOf) .none kV5 dc5 pm5 an5 cd5 ct5), sl5⟩) (c5 : PySem.W.codeIn K cd5 "rest_of" = true) (k5 : PySem.W.keepIn K (.ref f5) = true)
    (a6 : PySem.W.nsIn K mainGlobals "reduced" = some (some (.ref f6)))
    (l6 : K.lookup f6 = some ⟨oc6, od6, .func (PySem.W.fnOf "reduced" "reduced" (defArgs sReduced) (defBody sReduced) (defScope sReduced) .none kV6 dc6 pm6 an6 cd6 ct6), sl6⟩) (c6 : PySem.W.codeIn K cd6 "reduced" = true) (k6 : PySem.W.keepIn K (.ref f6) = true)
    (a7 : PySem.W.nsIn K mainGlobals "has_row" = some (some (.ref f7)))
    (l7 : K.lookup f7 = some ⟨oc7, od7, .func (PySem.W.fnOf "has_row" "has_row" (defArgs sHasRow) (defBody sHasRow) (defScope sHasRow) .none kV7 dc7 pm7 an7 cd7 ct7), sl7⟩) (c7 : PySem.W.codeIn K cd7 "has_row" = true) (k7 : PySem.W.keepIn K (.ref f7) = true)
    (a8 : PySem.W.nsIn K mainGlobals "power" = some (some (.ref f8)))
    (l8 : K.lookup f8 = some ⟨oc8, od8, .func (PySem.W.fnOf "power" "power" (defArgs sPower) (defBody sPower) (defScope sPower) .none kV8 dc8 pm8 an8 cd8 ct8), sl8⟩) (c8 : PySem.W.codeIn K cd8 "power" = true) (k8 : PySem.W.keepIn K (.ref f8) = true)
    (a9 : PySem.W.nsIn K mainGlobals "is_between" = some (some (.ref f9)))
    (l9 : K.lookup f9 = some ⟨oc9, od9, .func (PySem.W.fnOf "is_between" "is_between" (defArgs sIsBetween) (defBody sIsBetween) (defScope sIsBetween) .none kV9 dc9 pm9 an9 cd9 ct9), sl9⟩) (c9 : PySem.W.codeIn K cd9 "is_between" = true) (k9 : PySem.W.keepIn K (.ref f9) = true)
    (a10 : PySem.W.nsIn K mainGlobals "is_integer" = some (some (.ref f10)))
    (l10 : K.lookup f10 = some ⟨oc10, od10, .func (PySem.W.fnOf "is_integer" "is_integer" (defArgs sIsInteger) (defBody sIsInteger) (defScope sIsInteger) .none kV10 dc10 pm10 an10 cd10 ct10), sl10⟩) (c10 : PySem.W.codeIn K cd10 "is_integer" = true) (k10 : PySem.W.keepIn K (.ref f10) = true)
    (a11 : PySem.W.nsIn K mainGlobals "is_prime" = some (some (.ref f11)))
    (l11 : K.lookup f11 = some ⟨oc11, od11, .func (PySem.W.fnOf "is_prime" "is_prime" (defArgs sIsPrime) (defBody sIsPrime) (defScope sIsPrime) .none kV11 dc11 pm11 an11 cd11 ct11), sl11⟩) (c11 : PySem.W.codeIn K cd11 "is_prime" = true) (k11 : PySem.W.keepIn K (.ref f11) = true)
    (a12 : PySem.W.nsIn K mainGlobals "is_size" = some (some (.ref f12)))
    (l12 : K.lookup f12 = some ⟨oc12, od12, .func (PySem.W.fnOf "is_size" "is_size" (defArgs sIsSize) (defBody sIsSize) (defScope sIsSize) .none kV12 dc12 pm12 an12 cd12 ct12), sl12⟩) (c12 : PySem.W.codeIn K cd12 "is_size" = true) (k12 : PySem.W.keepIn K (.ref f12) = true)
    (a13 : PySem.W.nsIn K mainGlobals "is_data" = some (some (.ref f13)))
    (l13 : K.lookup f13 = some ⟨oc13, od13, .func (PySem.W.fnOf "is_data" "is_data" (defArgs sIsData) (defBody sIsData) (defScope sIsData) .none kV13 dc13 pm13 an13 cd13 ct13), sl13⟩) (c13 : PySem.W.codeIn K cd13 "is_data" = true) (k13 : PySem.W.keepIn K (.ref f13) = true)
    (a14 : PySem.W.nsIn K mainGlobals "is_sum" = some (some (.ref f14)))
    (l14 : K.lookup f14 = some ⟨oc14, od14, .func (PySem.W.fnOf "is_sum" "is_sum" (defArgs sIsSum) (defBody sIsSum) (defScope sIsSum) .none kV14 dc14 pm14 an14 cd14 ct14), sl14⟩) (c14 : PySem.W.codeIn K cd14 "is_sum" = true) (k14 : PySem.W.keepIn K (.ref f14) = true)
    (a15 : PySem.W.nsIn K mainGlobals "_law_source" = some (some (.ref f15)))
    (l15 : K.lookup f15 = some ⟨oc15, od15, .func (PySem.W.fnOf "_law_source" "_law_source" (defArgs sLawSource) (defBody sLawSource) (defScope sLawSource) .none kV15 dc15 pm15 an15 cd15 ct15), sl15⟩) (c15 : PySem.W.codeIn K cd15 "_law_source" = true) (k15 : PySem.W.keepIn K (.ref f15) = true)
    (a16 : PySem.W.nsIn K mainGlobals "_law_draw" = some (some (.ref f16)))
    (l16 : K.lookup f16 = some ⟨oc16, od16, .func (PySem.W.fnOf "_law_draw" "_law_draw" (defArgs sLawDraw) (defBody sLawDraw) (defScope sLawDraw) .none kV16 dc16 pm16 an16 cd16 ct16), sl16⟩) (c16 : PySem.W.codeIn K cd16 "_law_draw" = true) (k16 : PySem.W.keepIn K (.ref f16) = true)
    (a17 : PySem.W.nsIn K mainGlobals "_law_pick" = some (some (.ref f17)))
    (l17 : K.lookup f17 = some ⟨oc17, od17, .func (PySem.W.fnOf "_law_pick" "_law_pick" (defArgs sLawPick) (defBody sLawPick) (defScope sLawPick) .none kV17 dc17 pm17 an17 cd17 ct17), sl17⟩) (c17 : PySem.W.codeIn K cd17 "_law_pick" = true) (k17 : PySem.W.keepIn K (.ref f17) = true)
    (a18 : PySem.W.nsIn K mainGlobals "_law_all_data" = some (some (.ref f18)))
    (l18 : K.lookup f18 = some ⟨oc18, od18, .func (PySem.W.fnOf "_law_all_data" "_law_all_data" (defArgs sLawAllData) (defBody sLawAllData) (defScope sLawAllData) .none kV18 dc18 pm18 an18 cd18 ct18), sl18⟩) (c18 : PySem.W.codeIn K cd18 "_law_all_data" = true) (k18 : PySem.W.keepIn K (.ref f18) = true)
    (a19 : PySem.W.nsIn K mainGlobals "_law_factors" = some (some (.ref f19)))
    (l19 : K.lookup f19 = some ⟨oc19, od19, .func (PySem.W.fnOf "_law_factors" "_law_factors" (defArgs sLawFactors) (defBody sLawFactors) (defScope sLawFactors) .none kV19 dc19 pm19 an19 cd19 ct19), sl19⟩) (c19 : PySem.W.codeIn K cd19 "_law_factors" = true) (k19 : PySem.W.keepIn K (.ref f19) = true)
    (a20 : PySem.W.nsIn K mainGlobals "_law_form" = some (some (.ref f20)))
    (l20 : K.lookup f20 = some ⟨oc20, od20, .func (PySem.W.fnOf "_law_form" "_law_form" (defArgs sLawForm) (defBody sLawForm) (defScope sLawForm) .none kV20 dc20 pm20 an20 cd20 ct20), sl20⟩) (c20 : PySem.W.codeIn K cd20 "_law_form" = true) (k20 : PySem.W.keepIn K (.ref f20) = true)
    (a21 : PySem.W.nsIn K mainGlobals "_law_sums" = some (some (.ref f21)))
    (l21 : K.lookup f21 = some ⟨oc21, od21, .func (PySem.W.fnOf "_law_sums" "_law_sums" (defArgs sLawSums) (defBody sLawSums) (defScope sLawSums) .none kV21 dc21 pm21 an21 cd21 ct21), sl21⟩) (c21 : PySem.W.codeIn K cd21 "_law_sums" = true) (k21 : PySem.W.keepIn K (.ref f21) = true)
    (a22 : PySem.W.nsIn K mainGlobals "_law_span" = some (some (.ref f22)))
    (l22 : K.lookup f22 = some ⟨oc22, od22, .func (PySem.W.fnOf "_law_span" "_law_span" (defArgs sLawSpan) (defBody sLawSpan) (defScope sLawSpan) .none kV22 dc22 pm22 an22 cd22 ct22), sl22⟩) (c22 : PySem.W.codeIn K cd22 "_law_span" = true) (k22 : PySem.W.keepIn K (.ref f22) = true)
    (a23 : PySem.W.nsIn K mainGlobals "_law_made" = some (some (.ref f23)))
    (l23 : K.lookup f23 = some ⟨oc23, od23, .func (PySem.W.fnOf "_law_made" "_law_made" (defArgs sLawMade) (defBody sLawMade) (defScope sLawMade) .none kV23 dc23 pm23 an23 cd23 ct23), sl23⟩) (c23 : PySem.W.codeIn K cd23 "_law_made" = true) (k23 : PySem.W.keepIn K (.ref f23) = true)
    (a24 : PySem.W.nsIn K mainGlobals "_law_number" = some (some (.ref f24)))
    (l24 : K.lookup f24 = some ⟨oc24, od24, .func (PySem.W.fnOf "_law_number" "_law_number" (defArgs sLawNumber) (defBody sLawNumber) (defScope sLawNumber) .none kV24 dc24 pm24 an24 cd24 ct24), sl24⟩) (c24 : PySem.W.codeIn K cd24 "_law_number" = true) (k24 : PySem.W.keepIn K (.ref f24) = true)
    (a25 : PySem.W.nsIn K mainGlobals "_law_leads" = some (some (.ref f25)))
    (l25 : K.lookup f25 = some ⟨oc25, od25, .func (PySem.W.fnOf "_law_leads" "_law_leads" (defArgs sLawLeads) (defBody sLawLeads) (defScope sLawLeads) .none kV25 dc25 pm25 an25 cd25 ct25), sl25⟩) (c25 : PySem.W.codeIn K cd25 "_law_leads" = true) (k25 : PySem.W.keepIn K (.ref f25) = true)
    (a26 : PySem.W.nsIn K mainGlobals "_law_reduced_right" = some (some (.ref f26)))
    (l26 : K.lookup f26 = some ⟨oc26, od26, .func (PySem.W.fnOf "_law_reduced_right" "_law_reduced_right" (defArgs sLawReducedRight) (defBody sLawReducedRight) (defScope sLawReducedRight) .none kV26 dc26 pm26 an26 cd26 ct26), sl26⟩) (c26 : PySem.W.codeIn K cd26 "_law_reduced_right" = true) (k26 : PySem.W.keepIn K (.ref f26) = true)
    (a27 : PySem.W.nsIn K mainGlobals "law" = some (some (.ref f27)))
    (l27 : K.lookup f27 = some ⟨oc27, od27, .func (PySem.W.fnOf "law" "law" (defArgs sLaw) (defBody sLaw) (defScope sLaw) .none kV27 dc27 pm27 an27 cd27 ct27), sl27⟩) (c27 : PySem.W.codeIn K cd27 "law" = true) (k27 : PySem.W.keepIn K (.ref f27) = true)
    (gS : PySem.W.nsIn K mainGlobals "Sum" = some (some (.ref CS)))
    (pgS : PySem.W.plainGet K CS Str.empty = true)
    (icS : PySem.W.isClsIn K CS = true)
    (poS : PySem.W.plainOver K CS = true)
    (saS : PySem.W.findIn K (.ref CS) "__setattr__" = some (some (.builtin "object.__setattr__")))
    (caS : PySem.W.findIn K (.ref CS) "__class__" = some (some (.builtin "object.__class__")))
    (cnS : PySem.W.specialIn K (.builtin "object.__class__") "__get__" = some (some (.builtin "getset_descriptor.__get__")))
    (ctS : PySem.W.takesIn K (.builtin "object.__class__") = some true)
    (cmS : PySem.W.mroIn K CS (.type "object") = some true)
    (mkS : PySem.W.makesIn K CS = true)
    (kcS : PySem.W.keepIn K (.ref CS) = true)
    (a28 : PySem.W.findIn K (.ref CS) "__init__" = some (some (.ref f28))) (i28 : PySem.W.isFn K (.ref f28) = true)
    (l28 : K.lookup f28 = some ⟨oc28, od28, .func (PySem.W.fnOf "__init__" "Sum.__init__" (defArgs sSumInit) (defBody sSumInit) (defScope sSumInit) .none kV28 dc28 pm28 an28 cd28 ct28), sl28⟩) (c28 : PySem.W.codeIn K cd28 "Sum.__init__" = true) (k28 : PySem.W.keepIn K (.ref f28) = true)
    (a29 : PySem.W.findIn K (.ref CS) "prime" = some (some (.ref p29))) (s29 : PySem.W.specialIn K (.ref p29) "__get__" = some (some (.builtin "property.__get__"))) (t29 : PySem.W.takesIn K (.ref p29) = some true) (r29_ : PySem.W.recIn K p29 "property" = some (.ref f29 :: r29))
    (l29 : K.lookup f29 = some ⟨oc29, od29, .func (PySem.W.fnOf "prime" "Sum.prime" (defArgs sSumPrime) (defBody sSumPrime) (defScope sSumPrime) .none kV29 dc29 pm29 an29 cd29 ct29), sl29⟩) (c29 : PySem.W.codeIn K cd29 "Sum.prime" = true) (k29 : PySem.W.keepIn K (.ref f29) = true)
    (a30 : PySem.W.findIn K (.ref CS) "factors" = some (some (.ref p30))) (s30 : PySem.W.specialIn K (.ref p30) "__get__" = some (some (.builtin "property.__get__"))) (t30 : PySem.W.takesIn K (.ref p30) = some true) (r30_ : PySem.W.recIn K p30 "property" = some (.ref f30 :: r30))
    (l30 : K.lookup f30 = some ⟨oc30, od30, .func (PySem.W.fnOf "factors" "Sum.factors" (defArgs sSumFactors) (defBody sSumFactors) (defScope sSumFactors) .none kV30 dc30 pm30 an30 cd30 ct30), sl30⟩) (c30 : PySem.W.codeIn K cd30 "Sum.factors" = true) (k30 : PySem.W.keepIn K (.ref f30) = true)
    (a31 : PySem.W.findIn K (.ref CS) "size" = some (some (.ref p31))) (s31 : PySem.W.specialIn K (.ref p31) "__get__" = some (some (.builtin "property.__get__"))) (t31 : PySem.W.takesIn K (.ref p31) = some true) (r31_ : PySem.W.recIn K p31 "property" = some (.ref f31 :: r31))
    (l31 : K.lookup f31 = some ⟨oc31, od31, .func (PySem.W.fnOf "size" "Sum.size" (defArgs sSumSize) (defBody sSumSize) (defScope sSumSize) .none kV31 dc31 pm31 an31 cd31 ct31), sl31⟩) (c31 : PySem.W.codeIn K cd31 "Sum.size" = true) (k31 : PySem.W.keepIn K (.ref f31) = true)
    (AqS0 : PySem.W.findIn K (.ref CS) "own_prime" = some (some (.ref qS0))) (GqS0 : PySem.W.specialIn K (.ref qS0) "__get__" = some (some (.builtin "member_descriptor.__get__"))) (TqS0 : PySem.W.takesIn K (.ref qS0) = some true) (YqS0 : PySem.W.typeIn K (.ref qS0) = some (.type "member_descriptor")) (XqS0 : PySem.W.slotIn K qS0 CS = some 0)
    (AqS1 : PySem.W.findIn K (.ref CS) "row" = some (some (.ref qS1))) (GqS1 : PySem.W.specialIn K (.ref qS1) "__get__" = some (some (.builtin "member_descriptor.__get__"))) (TqS1 : PySem.W.takesIn K (.ref qS1) = some true) (YqS1 : PySem.W.typeIn K (.ref qS1) = some (.type "member_descriptor")) (XqS1 : PySem.W.slotIn K qS1 CS = some 1)
    (gP : PySem.W.nsIn K mainGlobals "Space" = some (some (.ref CP)))
    (pgP : PySem.W.plainGet K CP Str.empty = true)
    (icP : PySem.W.isClsIn K CP = true)
    (poP : PySem.W.plainOver K CP = true)
    (saP : PySem.W.findIn K (.ref CP) "__setattr__" = some (some (.builtin "object.__setattr__")))
    (caP : PySem.W.findIn K (.ref CP) "__class__" = some (some (.builtin "object.__class__")))
    (cnP : PySem.W.specialIn K (.builtin "object.__class__") "__get__" = some (some (.builtin "getset_descriptor.__get__")))
    (ctP : PySem.W.takesIn K (.builtin "object.__class__") = some true)
    (cmP : PySem.W.mroIn K CP (.type "object") = some true)
    (mkP : PySem.W.makesIn K CP = true)
    (kcP : PySem.W.keepIn K (.ref CP) = true)
    (a32 : PySem.W.findIn K (.ref CP) "__init__" = some (some (.ref f32))) (i32 : PySem.W.isFn K (.ref f32) = true)
    (l32 : K.lookup f32 = some ⟨oc32, od32, .func (PySem.W.fnOf "__init__" "Space.__init__" (defArgs sSpaceInit) (defBody sSpaceInit) (defScope sSpaceInit) (.ref T32) kV32 dc32 pm32 an32 cd32 ct32), sl32⟩) (c32 : PySem.W.codeIn K cd32 "Space.__init__" = true) (k32 : PySem.W.keepIn K (.ref f32) = true)
    (d32 : K.lookup T32 = some ⟨oT32, dT32, .seq #[.ref e32] nT32, sT32⟩)
    (a33 : PySem.W.findIn K (.ref CP) "prime" = some (some (.ref p33))) (s33 : PySem.W.specialIn K (.ref p33) "__get__" = some (some (.builtin "property.__get__"))) (t33 : PySem.W.takesIn K (.ref p33) = some true) (r33_ : PySem.W.recIn K p33 "property" = some (.ref f33 :: r33))
    (l33 : K.lookup f33 = some ⟨oc33, od33, .func (PySem.W.fnOf "prime" "Space.prime" (defArgs sSpacePrime) (defBody sSpacePrime) (defScope sSpacePrime) .none kV33 dc33 pm33 an33 cd33 ct33), sl33⟩) (c33 : PySem.W.codeIn K cd33 "Space.prime" = true) (k33 : PySem.W.keepIn K (.ref f33) = true)
    (a34 : PySem.W.findIn K (.ref CP) "size" = some (some (.ref p34))) (s34 : PySem.W.specialIn K (.ref p34) "__get__" = some (some (.builtin "property.__get__"))) (t34 : PySem.W.takesIn K (.ref p34) = some true) (r34_ : PySem.W.recIn K p34 "property" = some (.ref f34 :: r34))
    (l34 : K.lookup f34 = some ⟨oc34, od34, .func (PySem.W.fnOf "size" "Space.size" (defArgs sSpaceSize) (defBody sSpaceSize) (defScope sSpaceSize) .none kV34 dc34 pm34 an34 cd34 ct34), sl34⟩) (c34 : PySem.W.codeIn K cd34 "Space.size" = true) (k34 : PySem.W.keepIn K (.ref f34) = true)
    (a35 : PySem.W.findIn K (.ref CP) "reduced_sums" = some (some (.ref p35))) (s35 : PySem.W.specialIn K (.ref p35) "__get__" = some (some (.builtin "property.__get__"))) (t35 : PySem.W.takesIn K (.ref p35) = some true) (r35_ : PySem.W.recIn K p35 "property" = some (.ref f35 :: r35))
    (l35 : K.lookup f35 = some ⟨oc35, od35, .func (PySem.W.fnOf "reduced_sums" "Space.reduced_sums" (defArgs sSpaceReducedSums) (defBody sSpaceReducedSums) (defScope sSpaceReducedSums) .none kV35 dc35 pm35 an35 cd35 ct35), sl35⟩) (c35 : PySem.W.codeIn K cd35 "Space.reduced_sums" = true) (k35 : PySem.W.keepIn K (.ref f35) = true)
    (a36 : PySem.W.findIn K (.ref CP) "is_whole" = some (some (.ref p36))) (s36 : PySem.W.specialIn K (.ref p36) "__get__" = some (some (.builtin "property.__get__"))) (t36 : PySem.W.takesIn K (.ref p36) = some true) (r36_ : PySem.W.recIn K p36 "property" = some (.ref f36 :: r36))
    (l36 : K.lookup f36 = some ⟨oc36, od36, .func (PySem.W.fnOf "is_whole" "Space.is_whole" (defArgs sSpaceIsWhole) (defBody sSpaceIsWhole) (defScope sSpaceIsWhole) .none kV36 dc36 pm36 an36 cd36 ct36), sl36⟩) (c36 : PySem.W.codeIn K cd36 "Space.is_whole" = true) (k36 : PySem.W.keepIn K (.ref f36) = true)
    (a37 : PySem.W.findIn K (.ref CP) "__len__" = some (some (.ref f37))) (i37 : PySem.W.isFn K (.ref f37) = true)
    (l37 : K.lookup f37 = some ⟨oc37, od37, .func (PySem.W.fnOf "__len__" "Space.__len__" (defArgs sSpaceLen) (defBody sSpaceLen) (defScope sSpaceLen) .none kV37 dc37 pm37 an37 cd37 ct37), sl37⟩) (c37 : PySem.W.codeIn K cd37 "Space.__len__" = true) (k37 : PySem.W.keepIn K (.ref f37) = true)
    (a38 : PySem.W.findIn K (.ref CP) "__contains__" = some (some (.ref f38))) (i38 : PySem.W.isFn K (.ref f38) = true)
    (l38 : K.lookup f38 = some ⟨oc38, od38, .func (PySem.W.fnOf "__contains__" "Space.__contains__" (defArgs sSpaceContains) (defBody sSpaceContains) (defScope sSpaceContains) .none kV38 dc38 pm38 an38 cd38 ct38), sl38⟩) (c38 : PySem.W.codeIn K cd38 "Space.__contains__" = true) (k38 : PySem.W.keepIn K (.ref f38) = true)
    (a39 : PySem.W.findIn K (.ref CP) "__eq__" = some (some (.ref f39))) (i39 : PySem.W.isFn K (.ref f39) = true)
    (l39 : K.lookup f39 = some ⟨oc39, od39, .func (PySem.W.fnOf "__eq__" "Space.__eq__" (defArgs sSpaceEq) (defBody sSpaceEq) (defScope sSpaceEq) .none kV39 dc39 pm39 an39 cd39 ct39), sl39⟩) (c39 : PySem.W.codeIn K cd39 "Space.__eq__" = true) (k39 : PySem.W.keepIn K (.ref f39) = true)
    (AqP1 : PySem.W.findIn K (.ref CP) "own_prime" = some (some (.ref qP1))) (GqP1 : PySem.W.specialIn K (.ref qP1) "__get__" = some (some (.builtin "member_descriptor.__get__"))) (TqP1 : PySem.W.takesIn K (.ref qP1) = some true) (YqP1 : PySem.W.typeIn K (.ref qP1) = some (.type "member_descriptor")) (XqP1 : PySem.W.slotIn K qP1 CP = some 1)
    (AqP2 : PySem.W.findIn K (.ref CP) "own_size" = some (some (.ref qP2))) (GqP2 : PySem.W.specialIn K (.ref qP2) "__get__" = some (some (.builtin "member_descriptor.__get__"))) (TqP2 : PySem.W.takesIn K (.ref qP2) = some true) (YqP2 : PySem.W.typeIn K (.ref qP2) = some (.type "member_descriptor")) (XqP2 : PySem.W.slotIn K qP2 CP = some 2)
    (AqP3 : PySem.W.findIn K (.ref CP) "rows" = some (some (.ref qP3))) (GqP3 : PySem.W.specialIn K (.ref qP3) "__get__" = some (some (.builtin "member_descriptor.__get__"))) (TqP3 : PySem.W.takesIn K (.ref qP3) = some true) (YqP3 : PySem.W.typeIn K (.ref qP3) = some (.type "member_descriptor")) (XqP3 : PySem.W.slotIn K qP3 CP = some 3)
    (AqP0 : PySem.W.findIn K (.ref CP) "listed" = some (some (.ref qP0))) (GqP0 : PySem.W.specialIn K (.ref qP0) "__get__" = some (some (.builtin "member_descriptor.__get__"))) (TqP0 : PySem.W.takesIn K (.ref qP0) = some true) (YqP0 : PySem.W.typeIn K (.ref qP0) = some (.type "member_descriptor")) (XqP0 : PySem.W.slotIn K qP0 CP = some 0)
    (nePS : PySem.W.notFirst K CP (.type "list") = true) (neP : PySem.W.findIn K (.ref CP) "__ne__" = some (some (.builtin "object.__ne__")))
    (tyS : PySem.W.typeIn K (.ref CS) = some (.type "type"))
    (tyP : PySem.W.typeIn K (.ref CP) = some (.type "type"))
    (aP : PySem.W.nsIn K mainGlobals "PRIMES" = some (some (.ref tp))) (lP : K.lookup tp = some ⟨.type "tuple", dP, .seq #[.int 2 i2, .int 3 i3, .int 5 i5, .int 7 i7] nP, sP⟩) (aM : PySem.W.nsIn K mainGlobals "MOST_DATA" = some (some (.int 4096 im)))
    (zTuple : PySem.W.nsIn K mainGlobals "tuple" = some none)
    (zZip : PySem.W.nsIn K mainGlobals "zip" = some none)
    (zLen : PySem.W.nsIn K mainGlobals "len" = some none)
    (zSorted : PySem.W.nsIn K mainGlobals "sorted" = some none)
    (zAny : PySem.W.nsIn K mainGlobals "any" = some none)
    (zAll : PySem.W.nsIn K mainGlobals "all" = some none)
    (zRange : PySem.W.nsIn K mainGlobals "range" = some none)
    (zIsinstance : PySem.W.nsIn K mainGlobals "isinstance" = some none)
    (zList : PySem.W.nsIn K mainGlobals "list" = some none)
    (zInt : PySem.W.nsIn K mainGlobals "int" = some none)
    (zBool : PySem.W.nsIn K mainGlobals "bool" = some none)
    (zMax : PySem.W.nsIn K mainGlobals "max" = some none)
    (zMin : PySem.W.nsIn K mainGlobals "min" = some none)
    (zSum : PySem.W.nsIn K mainGlobals "sum" = some none)
    (zSet : PySem.W.nsIn K mainGlobals "set" = some none)
    : Txt K mg CS CP := by
  refine ⟨?_, ?_, ?_, ?_, ?_, ?_, ?_, ?_, ?_, ?_, ?_, ?_, ?_, ?_, ?_, ?_, ?_, ?_, ?_, ?_, ?_, ?_, ?_, ?_, ?_, ?_, ?_, ?_, ?_, ?_, ?_, ?_, ?_, ?_, ?_, ?_, ?_, ?_, ?_, ?_, ?_, ?_, ?_, ?_, ?_, ?_, ?_, ?_, ?_, ?_, ?_, ?_, ?_, ?_, ?_, ?_, ?_, ?_, ?_, ?_, ?_, ?_, ?_, ?_, ?_, ?_, ?_, ?_, ?_, ?_, ?_, ?_, ?_, ?_, ?_, ?_, ?_, ?_⟩
  · exact glo_mk X G a1 l1 c1 k1 fun _ _ _ _ _ _ us hl => match us, hl with | [_, _], _ => rfl
  · exact glo_mk X G a2 l2 c2 k2 fun _ _ _ _ _ _ us hl => match us, hl with | [_, _, _], _ => rfl
  · exact glo_mk X G a3 l3 c3 k3 fun _ _ _ _ _ _ us hl => match us, hl with | [_, _, _, _], _ => rfl
  · exact glo_mk X G a4 l4 c4 k4 fun _ _ _ _ _ _ us hl => match us, hl with | [_], _ => rfl
  · exact glo_mk X G a5 l5 c5 k5 fun _ _ _ _ _ _ us hl => match us, hl with | [_, _, _], _ => rfl
  · exact glo_mk X G a6 l6 c6 k6 fun _ _ _ _ _ _ us hl => match us, hl with | [_, _], _ => rfl
  · exact glo_mk X G a7 l7 c7 k7 fun _ _ _ _ _ _ us hl => match us, hl with | [_, _, _], _ => rfl
  · exact glo_mk X G a8 l8 c8 k8 fun _ _ _ _ _ _ us hl => match us, hl with | [_, _], _ => rfl
  · exact glo_mk X G a9 l9 c9 k9 fun _ _ _ _ _ _ us hl => match us, hl with | [_, _, _], _ => rfl
  · exact glo_mk X G a10 l10 c10 k10 fun _ _ _ _ _ _ us hl => match us, hl with | [_], _ => rfl
  · exact glo_mk X G a11 l11 c11 k11 fun _ _ _ _ _ _ us hl => match us, hl with | [_], _ => rfl
  · exact glo_mk X G a12 l12 c12 k12 fun _ _ _ _ _ _ us hl => match us, hl with | [_, _], _ => rfl
  · exact glo_mk X G a13 l13 c13 k13 fun _ _ _ _ _ _ us hl => match us, hl with | [_, _, _], _ => rfl
  · exact glo_mk X G a14 l14 c14 k14 fun _ _ _ _ _ _ us hl => match us, hl with | [_, _, _], _ => rfl
  · exact glo_mk X G a15 l15 c15 k15 fun _ _ _ _ _ _ us hl => match us, hl with | [_, _], _ => rfl
  · exact glo_mk X G a16 l16 c16 k16 fun _ _ _ _ _ _ us hl => match us, hl with | [_, _], _ => rfl
  · exact glo_mk X G a17 l17 c17 k17 fun _ _ _ _ _ _ us hl => match us, hl with | [_, _], _ => rfl
  · exact glo_mk X G a18 l18 c18 k18 fun _ _ _ _ _ _ us hl => match us, hl with | [_, _], _ => rfl
  · exact glo_mk X G a19 l19 c19 k19 fun _ _ _ _ _ _ us hl => match us, hl with | [_, _, _], _ => rfl
  · exact glo_mk X G a20 l20 c20 k20 fun _ _ _ _ _ _ us hl => match us, hl with | [_], _ => rfl
  · exact glo_mk X G a21 l21 c21 k21 fun _ _ _ _ _ _ us hl => match us, hl with | [_, _, _, _], _ => rfl
  · exact glo_mk X G a22 l22 c22 k22 fun _ _ _ _ _ _ us hl => match us, hl with | [_, _, _], _ => rfl
  · exact glo_mk X G a23 l23 c23 k23 fun _ _ _ _ _ _ us hl => match us, hl with | [_, _, _], _ => rfl
  · exact glo_mk X G a24 l24 c24 k24 fun _ _ _ _ _ _ us hl => match us, hl with | [_, _], _ => rfl
  · exact glo_mk X G a25 l25 c25 k25 fun _ _ _ _ _ _ us hl => match us, hl with | [_], _ => rfl
  · exact glo_mk X G a26 l26 c26 k26 fun _ _ _ _ _ _ us hl => match us, hl with | [_, _, _, _], _ => rfl
  · exact glo_mk X G a27 l27 c27 k27 fun _ _ _ _ _ _ us hl => match us, hl with | [_], _ => rfl
  · exact ⟨PySem.W.mg_of X G gS, ⟨pgS, icS, poS, saS⟩, ⟨caS, cnS, ctS, cmS⟩, mkS, kcS⟩
  · exact mtd_mk a28 i28 l28 c28 k28 fun _ _ _ _ _ _ us hl => match us, hl with | [_, _, _], _ => rfl
  · exact prp_mk a29 s29 t29 r29_ l29 c29 k29 fun _ _ _ _ _ _ us hl => match us, hl with | [_], _ => rfl
  · exact prp_mk a30 s30 t30 r30_ l30 c30 k30 fun _ _ _ _ _ _ us hl => match us, hl with | [_], _ => rfl
  · exact prp_mk a31 s31 t31 r31_ l31 c31 k31 fun _ _ _ _ _ _ us hl => match us, hl with | [_], _ => rfl
  · exact ⟨qS0, AqS0, GqS0, TqS0, YqS0, XqS0, by decide⟩
  · exact ⟨qS1, AqS1, GqS1, TqS1, YqS1, XqS1, by decide⟩
  · exact ⟨PySem.W.mg_of X G gP, ⟨pgP, icP, poP, saP⟩, ⟨caP, cnP, ctP, cmP⟩, mkP, kcP⟩
  · exact mtdD_mk a32 i32 l32 c32 k32 d32 fun _ _ _ _ _ _ _ us hl => match us, hl with | [_, _, _, _], _ => ⟨_, rfl, fun _ => rfl⟩
  · exact prp_mk a33 s33 t33 r33_ l33 c33 k33 fun _ _ _ _ _ _ us hl => match us, hl with | [_], _ => rfl
  · exact prp_mk a34 s34 t34 r34_ l34 c34 k34 fun _ _ _ _ _ _ us hl => match us, hl with | [_], _ => rfl
  · exact prp_mk a35 s35 t35 r35_ l35 c35 k35 fun _ _ _ _ _ _ us hl => match us, hl with | [_], _ => rfl
  · exact prp_mk a36 s36 t36 r36_ l36 c36 k36 fun _ _ _ _ _ _ us hl => match us, hl with | [_], _ => rfl
  · exact mtd_mk a37 i37 l37 c37 k37 fun _ _ _ _ _ _ us hl => match us, hl with | [_], _ => rfl
  · exact mtd_mk a38 i38 l38 c38 k38 fun _ _ _ _ _ _ us hl => match us, hl with | [_, _], _ => rfl
  · exact mtd_mk a39 i39 l39 c39 k39 fun _ _ _ _ _ _ us hl => match us, hl with | [_, _], _ => rfl
  · exact ⟨qP1, AqP1, GqP1, TqP1, YqP1, XqP1, by decide⟩
  · exact ⟨qP2, AqP2, GqP2, TqP2, YqP2, XqP2, by decide⟩
  · exact ⟨qP3, AqP3, GqP3, TqP3, YqP3, XqP3, by decide⟩
  · exact ⟨qP0, AqP0, GqP0, TqP0, YqP0, XqP0, by decide⟩
  · exact nePS
  · exact neP
  · exact kit_no icS tyS kit_list
  · exact kit_no icS tyS kit_tuple
  · exact kit_no icS tyS kit_int
  · exact kit_no icS tyS kit_str
  · exact kit_no icS tyS kit_NoneType
  · exact kit_yes
  · exact kit_no icP tyP kit_list
  · exact kit_no icP tyP kit_tuple
  · exact kit_no icP tyP kit_int
  · exact kit_no icP tyP kit_str
  · exact kit_no icP tyP kit_NoneType
  · exact kit_yes
  · exact ⟨tp, PySem.W.mg_of X G aP, fun H => .inr ⟨_, _, _, lP, rfl, rfl, by show 4 ≤ sizeLine; decide, .cons ⟨_, rfl⟩ (.cons ⟨_, rfl⟩ (.cons ⟨_, rfl⟩ (.cons ⟨_, rfl⟩ .nil)))⟩⟩
  · exact ⟨im, PySem.W.mg_of X G aM⟩
  · exact PySem.W.mg_none_of X G zTuple
  · exact PySem.W.mg_none_of X G zZip
  · exact PySem.W.mg_none_of X G zLen
  · exact PySem.W.mg_none_of X G zSorted
  · exact PySem.W.mg_none_of X G zAny
  · exact PySem.W.mg_none_of X G zAll
  · exact PySem.W.mg_none_of X G zRange
  · exact PySem.W.mg_none_of X G zIsinstance
  · exact PySem.W.mg_none_of X G zList
  · exact PySem.W.mg_none_of X G zInt
  · exact PySem.W.mg_none_of X G zBool
  · exact PySem.W.mg_none_of X G zMax
  · exact PySem.W.mg_none_of X G zMin
  · exact PySem.W.mg_none_of X G zSum
  · exact PySem.W.mg_none_of X G zSet
end LrT
/-! inverse, lead, power, scaled, added -/
namespace LrD
open PySem L2 SlX LrT LrB
open Lr (g addR scaleR restOf zeroR Nrm Prm Frm Red SRed Span IsSpan)
/-- a def of the text keeps its promise, and nothing leaves it -/
structure DefOk (P : Program) (w : World) (K : PySem.W.Frag) (mg : Str → Option Value) (base : Heap) (k : Nat) (x : Str) (ps : List Str) (sp : Sp) : Prop where
  ex : ∃ f fd, mg x = some (.ref f) ∧ PySem.W.keepIn K (.ref f) = true ∧ FnOk P w K mg base CX0 k f fd ps sp ∧ Binds K fd ps []
theorem get_int {r : List Int} {i : Nat} (h : i < r.length) : (r.map V.int)[i]? = some (.int (g r i)) := by
  rw [List.getElem?_map, Lr.get_of_g h]
  rfl
section
variable {P : Program} {w : World} {K : PySem.W.Frag} {mg : Str → Option Value} {base : Heap} {CS CP : Addr}
def spInverse : Sp := fun vs H Q _ => ∃ x p : Int, vs = [.int x, .int p] ∧ Prm p ∧ 0 < x ∧ x < p ∧ ∀ f : Int, 0 < f → f < p → f * x % p = 1 → Q (.int f) H
theorem ok_inverse (T : Txt K mg CS CP) : DefOk P w K mg base 1 "inverse" ["number", "prime"] spInverse := by
  obtain ⟨f, fd, gm, F, b⟩ := T.tInverse.ex
  refine ⟨f, fd, gm, F.kp, F.ok scInverse (fun vs H Q E h => ?_) (fun cdv A outer s H vs Q E hr h => ?_), b⟩
  · obtain ⟨x, p, rfl, _⟩ := h
    rfl
  · obtain ⟨x, p, rfl, hp, h0, h1, q⟩ := h
    refine ⟨_, pss_cons (ps_set (i := 2) scInverse.nd rfl (.inl rfl) pe_int)
      (pss_cons (ps_while PassesOwn.never (pt_cmpR op_ne (pe_op op_mod (pe_op op_mul (pv 2) (pv 0)) (pv 1)) pe_int (nomark _)) (pss_one (ps_aug (i := 2) scInverse.nd rfl (.inl rfl) pe_int ip_add)))
      (pss_one (ps_ret (pv 2)))), ?_⟩
    have hpos := hp.pos
    obtain ⟨e, e0, e1, ee⟩ := Lr.inv_ex hp h0 h1
    refine ⟨fun m σ H' => ∃ k : Int, σ = [some (.int x), some (.int p), some (.int k)] ∧ H' = H ∧ 0 < k ∧ k ≤ e ∧ m = (e - k).toNat, ⟨(e - 1).toNat, 1, rfl, rfl, by omega, by omega, rfl⟩, fun m σ H' hW => ?_⟩
    obtain ⟨k, rfl, rfl, k0, k1, rfl⟩ := hW
    have p7 : p ≤ 7 := by
      unfold Prm at hp
      omega
    refine ⟨_, rfl, _, rfl, _, _, rfl, rfl, .inl ⟨by omega, by omega⟩, _, rfl, _, _, rfl, rfl, hpos, rfl, _, rfl, ?_⟩
    by_cases hk : k * x % p = 1
    · rw [decide_eq_true (show V.int (k * x % p) = V.int 1 by rw [hk])]
      refine iteF ⟨_, rfl, q k k0 (by omega) hk⟩
    · rw [decide_eq_false (show ¬ V.int (k * x % p) = V.int 1 from fun z => hk (V.int.inj z))]
      refine iteT ⟨fun σ' H2 => ∃ j : Int, σ' = [some (.int x), some (.int p), some (.int j)] ∧ H2 = H' ∧ j = k + 1, fun σ' H' hN => ?_, ?_⟩
      · obtain ⟨j, e1', e2', rfl⟩ := hN
        have : k ≠ e := fun z => hk (by rw [z]; exact ee)
        exact ⟨(e - (k + 1)).toNat, by omega, k + 1, e1', e2', by omega, by omega, rfl⟩
      · exact ⟨_, rfl, _, _, rfl, rfl, k + 1, rfl, rfl, rfl⟩
def spLead (K : PySem.W.Frag) : Sp := fun vs H Q _ => ∃ (a : Addr) (r : List Int), vs = [.ref a] ∧ SqT K H a (r.map V.int) ∧ r.length ≤ 1000 ∧ Q (.int (Lr.lead r)) H
theorem ok_lead (T : Txt K mg CS CP) : DefOk P w K mg base 1 "lead" ["row"] (spLead K) := by
  obtain ⟨f, fd, gm, F, b⟩ := T.tLead.ex
  refine ⟨f, fd, gm, F.kp, F.ok scLead (fun vs H Q E h => ?_) (fun cdv A outer s H vs Q E hr h => ?_), b⟩
  · obtain ⟨a, r, rfl, _⟩ := h
    rfl
  · obtain ⟨a, r, rfl, hS, hl, q⟩ := h
    refine ⟨_, pss_cons (ps_set (i := 1) scLead.nd rfl (.inl rfl) pe_int)
      (pss_cons (ps_while PassesOwn.never (PW.pt (pw_and (pt_cmpR op_lt (pv 1) (pe_callB call_len_seq (by rfl) T.zLen PySem.boot_len (pa_cons (pv 0) pa_nil)) (nomark _))
          (pw_and1 (pt_cmpR op_eq (pe_ix ix_tup (pv 0) (pv 1) (fun _ _ => rfl)) pe_int (nomark _)))))
        (pss_one (ps_aug (i := 1) scLead.nd rfl (.inl rfl) pe_int ip_add)))
      (pss_one (ps_ret (pv 1)))), ?_⟩
    have hle := Lr.lead_le r
    refine ⟨fun m σ H' => ∃ k : Nat, σ = [some (.ref a), some (.int (k : Int))] ∧ H' = H ∧ k ≤ Lr.lead r ∧ m = Lr.lead r - k, ⟨Lr.lead r, 0, rfl, rfl, Nat.zero_le _, rfl⟩, fun m σ H' hW => ?_⟩
    obtain ⟨k, rfl, rfl, k1, rfl⟩ := hW
    refine ⟨_, rfl, .ref a, rfl, a, r.map V.int, rfl, .inr hS, _, _, rfl, rfl, _, rfl, ?_⟩
    rw [List.length_map]
    by_cases hk : k < r.length
    · refine ite2 (fun _ => ?_) (fun z => absurd (decide_eq_true (by omega)) z)
      refine ⟨.ref a, rfl, _, rfl, a, r.map V.int, (k : Int), .int (g r k), rfl, rfl, hS, atI_nat (get_int hk), rfl, _, rfl, ?_⟩
      by_cases hz : g r k = 0
      · rw [decide_eq_true (show V.int (g r k) = V.int 0 by rw [hz])]
        refine iteT ⟨fun σ' H2 => σ' = [some (.ref a), some (.int ((k + 1 : Nat) : Int))] ∧ H2 = H', fun σ' H' hN => ?_, ?_⟩
        · obtain ⟨e1, e2⟩ := hN
          have : k ≠ Lr.lead r := fun z => Lr.lead_ne (a := r) (by omega) (by rw [← z]; exact hz)
          exact ⟨Lr.lead r - (k + 1), by omega, k + 1, e1, e2, by omega, rfl⟩
        · exact ⟨_, rfl, _, _, rfl, rfl, rfl, rfl⟩
      · rw [decide_eq_false (show ¬ V.int (g r k) = V.int 0 from fun z => hz (V.int.inj z))]
        have e : k = Lr.lead r := by
          rcases Nat.lt_or_ge k (Lr.lead r) with z | z
          · exact absurd (Lr.lead_lt_g z) hz
          · omega
        refine iteF ⟨_, rfl, ?_⟩
        rw [e]
        exact q
    · refine ite2 (fun z => absurd (of_decide_eq_true z) (by omega)) (fun _ => ?_)
      have e : k = Lr.lead r := by omega
      refine ⟨_, rfl, ?_⟩
      rw [e]
      exact q
def spPower : Sp := fun vs H Q _ => ∃ (x : Int) (n : Nat), vs = [.int x, .int (n : Int)] ∧ 0 ≤ x ∧ x ≤ 100 ∧ n ≤ 6 ∧ Q (.int (x ^ n)) H
theorem pow_bound {x : Int} (h0 : 0 ≤ x) (h1 : x ≤ 100) : ∀ n : Nat, n ≤ 6 → 0 ≤ x ^ n ∧ x ^ n ≤ 100 ^ n
  | 0, _ => by
    rw [Int.pow_zero]
    decide
  | n + 1, h => by
    obtain ⟨a, b⟩ := pow_bound h0 h1 n (by omega)
    rw [Int.pow_succ, Int.pow_succ]
    exact ⟨Int.mul_nonneg a h0, Int.mul_le_mul b h1 h0 (Int.le_trans a b)⟩
theorem ok_power (T : Txt K mg CS CP) : DefOk P w K mg base 1 "power" ["base", "exponent"] spPower := by
  obtain ⟨f, fd, gm, F, b⟩ := T.tPower.ex
  refine ⟨f, fd, gm, F.kp, F.ok scPower (fun vs H Q E h => ?_) (fun cdv A outer s H vs Q E hr h => ?_), b⟩
  · obtain ⟨x, n, rfl, _⟩ := h
    rfl
  · obtain ⟨x, n, rfl, x0, x1, hn, q⟩ := h
    refine ⟨_, pss_cons (ps_set (i := 2) scPower.nd rfl (.inl rfl) pe_int)
      (pss_cons (ps_for PassesOwn.never rfl (pi_range1 (by rfl) T.zRange (pa_cons (pv 1) pa_nil)) (pg_name (i := 3) scPower.nd rfl (.inl rfl)) (pss_one (ps_set (i := 2) scPower.nd rfl (.inl rfl) (pe_op op_mul (pv 2) (pv 0)))))
      (pss_one (ps_ret (pv 2)))), ?_⟩
    refine ⟨_, rfl, _, rfl, by omega, by omega, for_range (n := n) (fun i σ H' => ∃ v, σ = [some (.int x), some (.int (n : Int)), some (.int (x ^ i)), v] ∧ H' = H) ⟨none, by rw [Int.pow_zero]; rfl, rfl⟩ ?_ ?_⟩
    · rintro i σ H' hi ⟨v, rfl, rfl⟩
      have bd := pow_bound x0 x1 i (by omega)
      have bd2 : (100 : Int) ^ i ≤ 1000000000000 := by
        rcases (show i = 0 ∨ i = 1 ∨ i = 2 ∨ i = 3 ∨ i = 4 ∨ i = 5 by omega) with e | e | e | e | e | e <;> subst e <;> decide
      refine ⟨_, rfl, _, rfl, _, _, rfl, rfl, .inr ⟨by omega, by omega⟩, some (.int (0 + (i : Int))), ?_, rfl⟩
      rw [Int.pow_succ]
      rfl
    · rintro σ H' ⟨v, rfl, rfl⟩
      exact ⟨_, rfl, q⟩
end
end LrD
/-! scaled, added -/
namespace LrD
open PySem L2 SlX LrT LrB
open Lr (g addR scaleR restOf zeroR Nrm Prm Frm Red SRed Span IsSpan)
section
variable {P : Program} {w : World} {K : PySem.W.Frag} {mg : Str → Option Value} {base : Heap} {CS CP : Addr}
def spScaled (K : PySem.W.Frag) : Sp := fun vs H Q _ => ∃ (a : Addr) (r : List Int) (f p : Int), vs = [.ref a, .int f, .int p] ∧ SqT K H a (r.map V.int) ∧ r.length ≤ 1000 ∧ 0 < p ∧ p ≤ 7 ∧ (∀ x ∈ r, 0 ≤ x ∧ x < p) ∧
  ∀ H' q, Same H H' → H' q = some (.tup ((scaleR p r f).map V.int)) → Q (.ref q) H'
theorem ok_scaled (T : Txt K mg CS CP) : DefOk P w K mg base 1 "scaled" ["row", "factor", "prime"] (spScaled K) := by
  obtain ⟨f, fd, gm, F, b⟩ := T.tScaled.ex
  refine ⟨f, fd, gm, F.kp, F.ok scScaled (fun vs H Q E h => ?_) (fun cdv A outer s H vs Q E hr h => ?_), b⟩
  · obtain ⟨a, r, f, p, rfl, _⟩ := h
    rfl
  · obtain ⟨a, r, f, p, rfl, hS, hl, hp, hp7, hbd, q⟩ := h
    refine ⟨_, pss_one (ps_ret (pe_tupleOf (by rfl) T.zTuple (pe_lc (own := [("number", 3)]) rfl scScaled.nd (pi_tup (pv 0)) (blkOk_by (N := ["row", "factor", "prime", "number"]) (sc := defScope sScaled) (by decide +kernel))
      (fun _ _ _ _ _ => pg_name (i := 3) scScaled.nd rfl (.inl rfl)) (fun _ _ _ _ _ => pts_nil) (fun _ _ _ _ _ => pe_op op_mod (pe_op op_mul (pv 3) (pv 1)) (pv 2))))), ?_⟩
    refine ⟨.ref a, rfl, a, rfl, ⟨_, hS⟩, fun D hD => lc_tup (K := K) (a := a) (xs := r.map V.int) (fun i H' => Same H H' ∧ H' D = some (.lst (((scaleR p r f).take i).map V.int))) ⟨same_new hD, upd_same⟩ (fun i H' _ h => same_tup h.1 hS) ?_ ?_⟩
    · rintro i x H' hx ⟨sm, hL⟩
      have hi : i < r.length := by
        have := (List.getElem?_eq_some_iff.mp hx).1
        rw [List.length_map] at this
        exact this
      obtain rfl : x = .int (g r i) := Option.some.inj (hx.symm.trans (get_int hi))
      have bd := hbd _ (List.mem_of_getElem? (Lr.get_of_g hi))
      refine ⟨rfl, ?_⟩
      show tOp (rI (fun _ j => 0 < j) fun i j => V.int (i % j)) (tOp (rI CMul fun i j => V.int (i * j)) (tVar 3) (tVar 1)) (tVar 2) _ _ _
      refine ⟨_, rfl, _, rfl, _, _, rfl, rfl, .inl ⟨by omega, by omega⟩, _, rfl, _, _, rfl, rfl, hp, _, hL, ?_, fun b o e => ?_, ?_⟩
      · rw [List.length_map, List.length_take]
        exact small1000 (by omega)
      · rw [upd_ne (ne_of_none e hD)]
        exact sm _ _ e
      · rw [upd_same, List.take_add_one]
        have e2 : (scaleR p r f)[i]? = some (g r i * f % p) := by
          rw [Lr.get_of_g (by rw [Lr.len_scale]; exact hi), Lr.g_scale hi]
        rw [e2, List.map_append]
        rfl
    · rintro H' ⟨sm, hL⟩
      rw [List.length_map, List.take_of_length_le (by rw [Lr.len_scale]; exact Nat.le_refl _)] at hL
      exact .inl ⟨D, _, rfl, SqL.of hL, fun q' hq' => q _ q' (sm.trans (same_new hq')) upd_same⟩
end
end LrD
/-! a comprehension over zip of two tuples; added -/
namespace LrD
open PySem L2 SlX LrT LrB
open Lr (g addR scaleR restOf zeroR Nrm Prm Frm Red SRed Span IsSpan)
/-- the reading of [e for x, y in zip(s, t)], s and t tuples of one length -/
theorem lc_zipT {K : PySem.W.Frag} {a b : Addr} {xs ys : List V} {gg : TG} {tt : TT} {te : TE} {vs : List Nat} {σ : L2.St} {H1 : Hp} {D : Addr} {Qd : Hp → Prop} (hl : xs.length = ys.length) (Pv : Nat → Hp → Prop)
    (h0 : Pv 0 (upd H1 D (.lst []))) (hq : ∀ i H, Pv i H → SqT K H a xs ∧ SqT K H b ys)
    (hs : ∀ (i : Nat) (x y : V) (T : Addr) (H : Hp), xs[i]? = some x → ys[i]? = some y → Pv i H → H T = none → gg (.ref T) (wipe σ vs) (upd H T (.tup [x, y])) fun σ2 H2 => wipe σ2 vs = wipe σ vs ∧ tt σ2 H2 fun c H3 =>
      if c = true then te σ2 H3 fun z H4 => ∃ acc, H4 D = some (.lst acc) ∧ acc.length < sizeLine ∧ Pv (i + 1) (upd H4 D (.lst (acc ++ [z]))) else Pv (i + 1) H3) (hd : ∀ H, Pv xs.length H → Qd H) :
    ∃ W : Nat → Nat → Hp → Prop, (∃ m, W 0 m (upd H1 D (.lst []))) ∧ ∀ i m H, W i m H →
      ((RZ.ItzT K a b).stop i H ∧ Qd H) ∨ ((RZ.ItzT K a b).go i H ∧ ∃ Nx : Hp → Prop, (∀ H', Nx H' → ∃ m', m' < m ∧ W (i + 1) m' H') ∧ ∀ v H', (RZ.ItzT K a b).yld i H v H' → gg v (wipe σ vs) H' fun σ2 H2 => wipe σ2 vs = wipe σ vs ∧ tt σ2 H2 fun c H3 =>
        if c = true then te σ2 H3 fun z H4 => ∃ acc, H4 D = some (.lst acc) ∧ acc.length < sizeLine ∧ Nx (upd H4 D (.lst (acc ++ [z]))) else Nx H3) := by
  refine ⟨fun i m H => i + m = xs.length ∧ Pv i H, ⟨xs.length, by omega, h0⟩, fun i m H hW => ?_⟩
  obtain ⟨em, p⟩ := hW
  obtain ⟨qx, qy⟩ := hq i H p
  cases m with
  | zero =>
    obtain rfl : i = xs.length := by omega
    exact .inl ⟨⟨xs, ys, qx, qy, .inl (Nat.le_refl _)⟩, hd H p⟩
  | succ m =>
    have h1 : i < xs.length := by omega
    have h2 : i < ys.length := by omega
    refine .inr ⟨⟨xs, ys, _, _, qx, qy, List.getElem?_eq_getElem h1, List.getElem?_eq_getElem h2⟩, Pv (i + 1), fun H' p' => ⟨m, by omega, by omega, p'⟩, fun v H' y => ?_⟩
    obtain ⟨T, x', y', rfl, hT, rfl, f1, f2⟩ := y
    exact hs i x' y' T H (f1 xs qx) (f2 ys qy) p hT
section
variable {P : Program} {w : World} {K : PySem.W.Frag} {mg : Str → Option Value} {base : Heap} {CS CP : Addr}
def spAdded (K : PySem.W.Frag) : Sp := fun vs H Q _ => ∃ (a b : Addr) (r t : List Int) (f p : Int), vs = [.ref a, .ref b, .int f, .int p] ∧ SqT K H a (r.map V.int) ∧ SqT K H b (t.map V.int) ∧ r.length = t.length ∧ r.length ≤ 1000 ∧ 0 < p ∧ -100 < f ∧ f < 100 ∧
  ∀ H' q, Same H H' → H' q = some (.tup ((addR p r t f).map V.int)) → Q (.ref q) H'
theorem get_add {p : Int} {r t : List Int} {f : Int} {i : Nat} (hl : r.length = t.length) (hi : i < r.length) : (addR p r t f)[i]? = some ((g r i + f * g t i) % p) := by
  rw [Lr.get_of_g (by rw [Lr.len_add (n := r.length) rfl hl.symm]; exact hi), Lr.g_add (n := r.length) rfl hl.symm hi]
theorem ok_added (T : Txt K mg CS CP) : DefOk P w K mg base 1 "added" ["row", "other", "factor", "prime"] (spAdded K) := by
  obtain ⟨f, fd, gm, F, b⟩ := T.tAdded.ex
  refine ⟨f, fd, gm, F.kp, F.ok scAdded (fun vs H Q E h => ?_) (fun cdv A outer s H vs Q E hr h => ?_), b⟩
  · obtain ⟨a, b, r, t, f, p, rfl, _⟩ := h
    rfl
  · obtain ⟨a, b, r, t, f, p, rfl, hS, hS2, hrt, hl, hp, f0, f1, q⟩ := h
    refine ⟨_, pss_one (ps_ret (pe_tupleOf (by rfl) T.zTuple (pe_lc (own := [("one", 4), ("two", 5)]) (g := gTup K 2 (gCons (gName 4) (gCons (gName 5) gNil))) rfl scAdded.nd (RZ.pi_zipA (by rfl) T.zZip (pa_cons (pv 0) (pa_cons (pv 1) pa_nil)))
      (blkOk_by (N := ["row", "other", "factor", "prime", "one", "two"]) (sc := defScope sAdded) (by decide +kernel))
      (fun _ _ _ _ _ => pg_tup rfl (pgs_cons (pg_name (i := 4) scAdded.nd rfl (.inl rfl)) (pgs_cons (pg_name (i := 5) scAdded.nd rfl (.inl rfl)) pgs_nil))) (fun _ _ _ _ _ => pts_nil)
      (fun _ _ _ _ _ => pe_op op_mod (pe_op op_add (pv 4) (pe_op op_mul (pv 2) (pv 5))) (pv 3))))), ?_⟩
    have hlen : (addR p r t f).length = r.length := Lr.len_add rfl hrt.symm
    refine ⟨.ref a, rfl, .ref b, rfl, a, b, r.map V.int, t.map V.int, rfl, .inr ⟨hS, hS2, fun D hD => lc_zipT (by rw [List.length_map, List.length_map]; exact hrt) (fun i H' => Same H H' ∧ H' D = some (.lst (((addR p r t f).take i).map V.int))) ⟨same_new hD, upd_same⟩
      (fun i H' h => ⟨same_tup h.1 hS, same_tup h.1 hS2⟩) ?_ ?_⟩⟩
    · rintro i x y T' H' hx hy ⟨sm, hL⟩ nT
      have hi : i < r.length := by
        have := (List.getElem?_eq_some_iff.mp hx).1
        rw [List.length_map] at this
        exact this
      obtain rfl : x = .int (g r i) := Option.some.inj (hx.symm.trans (get_int hi))
      obtain rfl : y = .int (g t i) := Option.some.inj (hy.symm.trans (get_int (by omega)))
      refine ⟨T', [.int (g r i), .int (g t i)], rfl, SqT.of upd_same, rfl, .int (g r i), [.int (g t i)], rfl, .int (g t i), [], rfl, rfl, rfl, ?_⟩
      show tOp (rI (fun _ j => 0 < j) fun i j => V.int (i % j)) (tOp (rI0 fun i j => V.int (i + j)) (tVar 4) (tOp (rI CMul fun i j => V.int (i * j)) (tVar 2) (tVar 5))) (tVar 3) _ _ _
      have nTD : D ≠ T' := ne_of_none hL nT
      refine ⟨_, rfl, _, rfl, _, rfl, _, _, rfl, rfl, .inl ⟨by omega, by omega⟩, _, _, rfl, rfl, _, rfl, _, _, rfl, rfl, hp, _, (upd_ne nTD).trans hL, ?_, fun b' o e => ?_, ?_⟩
      · rw [List.length_map, List.length_take]
        exact small1000 (by omega)
      · rw [upd_ne (ne_of_none e hD)]
        exact same_new nT _ _ (sm _ _ e)
      · rw [upd_same, List.take_add_one, get_add hrt hi, List.map_append]
        rfl
    · rintro H' ⟨sm, hL⟩
      rw [List.length_map, List.take_of_length_le (by rw [hlen]; exact Nat.le_refl _)] at hL
      exact .inl ⟨D, _, rfl, SqL.of hL, fun q' hq' => q _ q' (sm.trans (same_new hq')) upd_same⟩
end
end LrD
/-! rest_of, has_row -/
namespace LrD
open PySem L2 SlX LrT LrB
open Lr (g addR scaleR restOf zeroR Nrm Prm Frm Red SRed Span IsSpan)
/-- a list of tuples of ints -/
abbrev Qs : Type := List (Addr × List Int)
abbrev fs (qs : Qs) : List (List Int) := qs.map (·.2)
structure RowsAt (K : PySem.W.Frag) (H : Hp) (l : Addr) (qs : Qs) : Prop where
  ls : SqL K H l (qs.map fun q => V.ref q.1)
  ts : ∀ q ∈ qs, SqT K H q.1 (q.2.map V.int)
theorem RowsAt.same {K : PySem.W.Frag} {H H' : Hp} {l : Addr} {qs : Qs} (h : RowsAt K H l qs) (e : Same H H') : RowsAt K H' l qs := ⟨e.seq h.ls, fun q hq => same_tup e (h.ts q hq)⟩
theorem get_ref {qs : Qs} {i : Nat} {x : V} (h : (qs.map fun q => V.ref q.1)[i]? = some x) : ∃ q, qs[i]? = some q ∧ x = .ref q.1 ∧ q ∈ qs := by
  rw [List.getElem?_map] at h
  cases e : qs[i]? with
  | none => rw [e] at h; cases h
  | some q =>
    rw [e] at h
    exact ⟨q, rfl, (Option.some.inj h).symm, List.mem_of_getElem? e⟩
theorem fs_take {qs : Qs} {i : Nat} {q : Addr × List Int} (h : qs[i]? = some q) : fs (qs.take (i + 1)) = fs (qs.take i) ++ [q.2] := by
  show (qs.take (i + 1)).map (·.2) = (qs.take i).map (·.2) ++ [q.2]
  rw [List.take_add_one, h, List.map_append]
  rfl
theorem restOf_snoc (p : Int) (r o : List Int) (F : List (List Int)) : restOf p r (F ++ [o]) = addR p (restOf p r F) o (-(g (restOf p r F) (Lr.lead o))) := by
  show List.foldl _ _ _ = _
  rw [List.foldl_append]
  rfl
/-- rows of one form -/
structure Fine (p : Int) (n : Nat) (qs : Qs) : Prop where
  nrm : ∀ q ∈ qs, Nrm p n q.2
theorem Fine.len {p : Int} {n : Nat} {qs : Qs} (h : Fine p n qs) : ∀ o ∈ fs qs, o.length = n := fun o ho => by
  obtain ⟨q, hq, e⟩ := List.mem_map.mp ho
  rw [← e]
  exact (h.nrm q hq).len
theorem Fine.of_red {p : Int} {n : Nat} {qs : Qs} (h : Red p n (fs qs)) : Fine p n qs := ⟨fun q hq => h.nrm _ (List.mem_map.mpr ⟨q, hq, rfl⟩)⟩
theorem fs_take_sub {qs : Qs} {i : Nat} {o : List Int} (h : o ∈ fs (qs.take i)) : o ∈ fs qs := by
  obtain ⟨q, hq, e⟩ := List.mem_map.mp h
  exact List.mem_map.mpr ⟨q, List.mem_of_mem_take hq, e⟩
section
variable {P : Program} {w : World} {K : PySem.W.Frag} {mg : Str → Option Value} {base : Heap} {CS CP : Addr}
def spRest (K : PySem.W.Frag) : Sp := fun vs H Q _ => ∃ (a l : Addr) (r : List Int) (qs : Qs) (p : Int) (n : Nat), vs = [.ref a, .ref l, .int p] ∧ SqT K H a (r.map V.int) ∧ RowsAt K H l qs ∧ Prm p ∧ n ≤ 4 ∧ Nrm p n r ∧ Fine p n qs ∧ (∀ q ∈ qs, Lr.lead q.2 < n) ∧
  ∀ H' b, Same H H' → SqT K H' b ((restOf p r (fs qs)).map V.int) → Q (.ref b) H'
theorem ok_rest (T : Txt K mg CS CP) : DefOk P w K mg base 2 "rest_of" ["row", "rows", "prime"] (spRest K) := by
  obtain ⟨f, fd, gm, F, b⟩ := T.tRestOf.ex
  obtain ⟨fA, fdA, gA, kA, GA, bA⟩ := (ok_added (P := P) (w := w) (base := base) T).ex
  obtain ⟨fL, fdL, gL, kL, GL, bL⟩ := (ok_lead (P := P) (w := w) (base := base) T).ex
  refine ⟨f, fd, gm, F.kp, F.ok scRestOf (fun vs H Q E h => ?_) (fun cdv A outer s H vs Q E hr h => ?_), b⟩
  · obtain ⟨a, l, r, qs, p, n, rfl, _⟩ := h
    rfl
  · obtain ⟨a, l, r, qs, p, n, rfl, hS, hR, hp, hn, nr, fine, hlead, k⟩ := h
    refine ⟨_, pss_cons (ps_for PassesOwn.never rfl (pi_list (pv 1)) (pg_name (i := 3) scRestOf.nd rfl (.inl rfl))
        (pss_one (ps_set (i := 0) scRestOf.nd rfl (.inl rfl) (pe_call GA hr (by rfl) gA kA bA .nil pass0 (pa_cons (pv 0) (pa_cons (pv 3)
          (pa_cons (pe_un un_neg (pe_ix ix_tup (pv 0) (pe_call GL hr (by rfl) gL kL bL .nil pass0 (pa_cons (pv 3) pa_nil)) (fun _ _ => rfl))) (pa_cons (pv 2) pa_nil))))))))
      (pss_one (ps_ret (pv 0))), ?_⟩
    have hpos := hp.pos
    have hp7 : p ≤ 7 := by
      unfold Prm at hp
      omega
    refine ⟨_, rfl, l, rfl, ⟨_, hR.ls⟩, for_list (K := K) (a := l) (xs := qs.map fun q => V.ref q.1) (fun i σ H' => ∃ b v, σ = [some (.ref b), some (.ref l), some (.int p), v] ∧ Same H H' ∧ SqT K H' b ((restOf p r (fs (qs.take i))).map V.int))
      ⟨a, none, rfl, Same.refl H, hS⟩ (fun i σ H' _ ⟨_, _, _, sm, _⟩ => sm.seq hR.ls) ?_ ?_⟩
    · rintro i x σ H' hx ⟨b, v, rfl, sm, hB⟩
      obtain ⟨q, hq, rfl, hm⟩ := get_ref hx
      have lo := fine.nrm q hm
      have nR : Nrm p n (restOf p r (fs (qs.take i))) := Lr.restOf_nrm hpos (fun o ho => fine.len o (fs_take_sub ho)) nr
      have bd := Lr.g_bd nR hpos (Lr.lead q.2)
      have lk := hlead q hm
      have hT := same_tup sm (hR.ts q hm)
      refine ⟨_, rfl, _, rfl, _, rfl, _, rfl, q.1, q.2, rfl, hT, by rw [lo.len]; omega, ?_⟩
      refine ⟨b, _, (Lr.lead q.2 : Nat), .int (g (restOf p r (fs (qs.take i))) (Lr.lead q.2)), rfl, rfl, hB, atI_nat (get_int (by rw [nR.len]; exact lk)), _, rfl, _, rfl, ?_⟩
      refine ⟨b, q.1, _, q.2, _, p, rfl, hB, hT, by rw [nR.len, lo.len], by rw [nR.len]; omega, hpos, by omega, by omega, fun H2 c sm2 hc => ?_⟩
      refine ⟨c, _, rfl, sm.trans sm2, ?_⟩
      rw [fs_take hq, restOf_snoc]
      exact SqT.of hc
    · rintro σ H' ⟨b, v, rfl, sm, hB⟩
      rw [List.length_map, List.take_of_length_le (Nat.le_refl _)] at hB
      exact ⟨_, rfl, k H' b sm hB⟩
theorem any_zero (r : List Int) : (r.any fun x => x != 0) = false ↔ r = zeroR r.length := by
  induction r with
  | nil => exact ⟨fun _ => rfl, fun _ => rfl⟩
  | cons x r ih =>
    rw [List.any_cons]
    have e : zeroR (x :: r).length = 0 :: zeroR r.length := rfl
    rw [e]
    constructor
    · intro h
      obtain ⟨h1, h2⟩ := Bool.or_eq_false_iff.mp h
      have hx : x = 0 := by simpa using h1
      rw [hx, ← ih.mp h2]
    · intro h
      obtain ⟨h1, h2⟩ := List.cons.inj h
      rw [ih.mpr h2, h1]
      rfl
def spHas (K : PySem.W.Frag) : Sp := fun vs H Q _ => ∃ (l a : Addr) (r : List Int) (qs : Qs) (p : Int) (n : Nat), vs = [.ref l, .ref a, .int p] ∧ SqT K H a (r.map V.int) ∧ RowsAt K H l qs ∧ Prm p ∧ n ≤ 4 ∧ Nrm p n r ∧ Red p n (fs qs) ∧
  ∀ H' c, Same H H' → (c = true ↔ Span p n (· ∈ fs qs) r) → Q (.bl c) H'
theorem ok_has (T : Txt K mg CS CP) : DefOk P w K mg base 3 "has_row" ["rows", "row", "prime"] (spHas K) := by
  obtain ⟨f, fd, gm, F, b⟩ := T.tHasRow.ex
  obtain ⟨fR, fdR, gR, kR, GR, bR⟩ := (ok_rest (P := P) (w := w) (base := base) T).ex
  refine ⟨f, fd, gm, F.kp, F.ok scHasRow (fun vs H Q E h => ?_) (fun cdv A outer s H vs Q E hr h => ?_), b⟩
  · obtain ⟨l, a, r, qs, p, n, rfl, _⟩ := h
    rfl
  · obtain ⟨l, a, r, qs, p, n, rfl, hS, hR, hp, hn, nr, red, k⟩ := h
    refine ⟨_, pss_one (ps_ret (pe_not (pe_callB (cr_anyT rfl) (by rfl) T.zAny (by decide +kernel) (pa_cons (pe_call GR hr (by rfl) gR kR bR .nil pass0 (pa_cons (pv 1) (pa_cons (pv 0) (pa_cons (pv 2) pa_nil)))) pa_nil)))), ?_⟩
    refine ⟨_, rfl, _, rfl, _, rfl, a, l, r, qs, p, n, rfl, hS, hR, hp, hn, nr, Fine.of_red red, fun q hq => red.lt _ (List.mem_map.mpr ⟨q, hq, rfl⟩), fun H' b sm hB => ?_⟩
    refine ⟨b, _, rfl, hB, _, rfl, k H' _ sm ?_⟩
    have nR := Lr.restOf_nrm hp.pos red.len nr
    rw [← Lr.has_iff hp.pos red nr]
    have z := any_zero (restOf p r (fs qs))
    rw [nR.len] at z
    rw [← z]
    cases ((restOf p r (fs qs)).any fun x => x != 0) <;> simp
end
end LrD
/-! reduced -/
namespace LrD
open PySem L2 SlX LrT LrB
open Lr (g addR scaleR restOf zeroR Nrm Prm Frm Red SRed Span IsSpan)
theorem sort_red {p : Int} {n : Nat} {qs : Qs} (h : Red p n (fs qs)) : SRed p n (fs (qs.mergeSort fun x y => decide (((Lr.lead x.2 : Nat) : Int) ≤ ((Lr.lead y.2 : Nat) : Int)))) := by
  have pm := List.mergeSort_perm qs fun x y => decide (((Lr.lead x.2 : Nat) : Int) ≤ ((Lr.lead y.2 : Nat) : Int))
  have pw : (qs.mergeSort fun x y => decide (((Lr.lead x.2 : Nat) : Int) ≤ ((Lr.lead y.2 : Nat) : Int))).Pairwise (fun x y => decide (((Lr.lead x.2 : Nat) : Int) ≤ ((Lr.lead y.2 : Nat) : Int)) = true) := List.pairwise_mergeSort (fun a b c h1 h2 => by
    have := of_decide_eq_true h1
    have := of_decide_eq_true h2
    exact decide_eq_true (by omega)) (fun a b => by
    rcases Int.le_total ((Lr.lead a.2 : Nat) : Int) ((Lr.lead b.2 : Nat) : Int) with z | z
    · rw [decide_eq_true z]
      rfl
    · rw [decide_eq_true z]
      simp) qs
  refine Lr.sred_of (h.perm (pm.map (·.2))) (List.pairwise_map.mpr (pw.imp fun {a b} z => ?_))
  have := of_decide_eq_true z
  omega
theorem sort_mem {qs : Qs} {le : Addr × List Int → Addr × List Int → Bool} {v : List Int} : v ∈ fs (qs.mergeSort le) ↔ v ∈ fs qs := ((List.mergeSort_perm qs le).map (·.2)).mem_iff
theorem fs_snoc (qs : Qs) (q : Addr × List Int) : fs (qs ++ [q]) = fs qs ++ [q.2] := List.map_append
theorem yes_of {σ : L2.St} {H : Hp} {A B : Hp → Prop} (h : A H) : tYes σ H fun b H3 => if b = true then A H3 else B H3 := by
  show if true = true then A H else B H
  exact iteT h
/-- a tuple stands where a list is changed -/
theorem tup_upd {K : PySem.W.Frag} {H : Hp} {a D : Addr} {xs ys : List V} {o : HO} (h : SqT K H a xs) (hD : H D = some (.lst ys)) : SqT K (upd H D o) a xs := by
  rcases h with (h | ⟨ob, h⟩) | h
  · exact .inl (.inl (by rw [upd_ne (ne_of h hD fun z => nomatch z)]; exact h))
  · exact .inl (.inr ⟨ob, by rw [upd_ne (ne_of h hD fun z => nomatch z)]; exact h⟩)
  · exact .inr h
section
variable {P : Program} {w : World} {K : PySem.W.Frag} {mg : Str → Option Value} {base : Heap} {CS CP : Addr}
def spReduced (K : PySem.W.Frag) : Sp := fun vs H Q _ => ∃ (l : Addr) (qs : Qs) (p : Int) (n : Nat), vs = [.ref l, .int p] ∧ RowsAt K H l qs ∧ qs.length ≤ 100 ∧ Prm p ∧ n ≤ 4 ∧ Fine p n qs ∧
  ∀ H' b qs', Same H H' → RowsAt K H' b qs' → H' b = some (.lst (qs'.map fun q => V.ref q.1)) → SRed p n (fs qs') → (∀ v, Span p n (· ∈ fs qs') v ↔ Span p n (· ∈ fs qs) v) → qs'.length ≤ 100 → Q (.ref b) H'
/-- what holds between two turns: i rows are taken -/
structure Loop (K : PySem.W.Frag) (H : Hp) (p : Int) (n : Nat) (qs : Qs) (i : Nat) (H' : Hp) (c : Addr) (qf : Qs) : Prop where
  sm : Same H H'
  new : H c = none
  lst : H' c = some (.lst (qf.map fun q => V.ref q.1))
  ts : ∀ q ∈ qf, SqT K H' q.1 (q.2.map V.int)
  red : Red p n (fs qf)
  sp : ∀ v, Span p n (· ∈ fs qf) v ↔ Span p n (· ∈ fs (qs.take i)) v
  few : qf.length ≤ i
theorem span_take {p : Int} {n : Nat} {qs : Qs} {i : Nat} {q : Addr × List Int} (h : qs[i]? = some q) (v : List Int) : Span p n (· ∈ fs (qs.take (i + 1))) v ↔ Span p n (fun r => r ∈ fs (qs.take i) ∨ r = q.2) v := by
  rw [fs_take h]
  exact ⟨Lr.Span.mono fun r z => (List.mem_append.mp z).imp id fun z => List.mem_singleton.mp z, Lr.Span.mono fun r z => List.mem_append.mpr (z.imp id fun z => List.mem_singleton.mpr z)⟩
theorem ok_reduced (T : Txt K mg CS CP) : DefOk P w K mg base 4 "reduced" ["rows", "prime"] (spReduced K) := by
  obtain ⟨f, fd, gm, F, b⟩ := T.tReduced.ex
  obtain ⟨fR, fdR, gR, kR, GR, bR⟩ := (ok_rest (P := P) (w := w) (base := base) T).ex
  obtain ⟨fA, fdA, gA, kA, GA, bA⟩ := (ok_added (P := P) (w := w) (base := base) T).ex
  obtain ⟨fL, fdL, gL, kL, GL, bL⟩ := (ok_lead (P := P) (w := w) (base := base) T).ex
  obtain ⟨fS, fdS, gS, kS, GS, bS⟩ := (ok_scaled (P := P) (w := w) (base := base) T).ex
  obtain ⟨fI, fdI, gI, kI, GI, bI⟩ := (ok_inverse (P := P) (w := w) (base := base) T).ex
  have FL : FnR P w K mg base CX0 1 fL (spLead K) := (GL.raw bL .nil).imp fun vs H Q E h => by simpa using h
  refine ⟨f, fd, gm, F.kp, F.ok scReduced (fun vs H Q E h => ?_) (fun cdv A outer s H vs Q E hr h => ?_), b⟩
  · obtain ⟨l, qs, p, n, rfl, _⟩ := h
    rfl
  · obtain ⟨l, qs, p, n, rfl, hR, hq100, hp, hn, fine, k⟩ := h
    have hr1 : Room 1 _ := hr.mono (by decide)
    have hr2 : Room 2 _ := hr.mono (by decide)
    refine ⟨_, pss_cons (ps_set (i := 2) scReduced.nd rfl (.inl rfl) (pe_lst pa_nil))
      (pss_cons (ps_for PassesOwn.never rfl (pi_list (pv 0)) (pg_name (i := 3) scReduced.nd rfl (.inr rfl))
        (pss_cons (ps_set (i := 3) scReduced.nd rfl (.inr rfl) (pe_call GR hr2 (by rfl) gR kR bR .nil pass0 (pa_cons (pv 3) (pa_cons (pv 2) (pa_cons (pv 1) pa_nil)))))
        (pss_cons (ps_set (i := 4) scReduced.nd rfl (.inr rfl) (pe_call GL hr1 (by rfl) gL kL bL .nil pass0 (pa_cons (pv 3) pa_nil)))
        (pss_one (ps_if (pt_cmpR op_lt (pv 4) (pe_callB call_len_seq (by rfl) T.zLen PySem.boot_len (pa_cons (pv 3) pa_nil)) (nomark _))
          (pss_cons (ps_set (i := 3) scReduced.nd rfl (.inr rfl) (pe_call GS hr1 (by rfl) gS kS bS .nil pass0 (pa_cons (pv 3) (pa_cons (pe_call GI hr1 (by rfl) gI kI bI .nil pass0 (pa_cons (pe_ix ix_tup (pv 3) (pv 4) (fun _ _ => rfl)) (pa_cons (pv 1) pa_nil))) (pa_cons (pv 1) pa_nil)))))
          (pss_cons (ps_setLc (i := 2) (own := [("other", 5)]) (g := gName 5) rfl scReduced.nd rfl rfl (sw_true rfl rfl rfl (by decide +kernel)) (pi_list (pv 2)) (blkOk_by (N := ["rows", "prime", "found", "row", "place", "other"]) (sc := defScope sReduced) (by decide +kernel))
            (fun _ _ _ _ _ => pg_name (i := 5) scReduced.nd rfl (.inl rfl)) (fun _ _ _ _ _ => pts_nil)
            (fun _ _ _ _ _ => pe_call GA hr1 (by rfl) gA kA bA .nil pass0 (pa_cons (pv 5) (pa_cons (pv 3) (pa_cons (pe_un un_neg (pe_ix (r := rIxT K) ix_tup (pv 5) (pv 4) (fun _ _ => rfl))) (pa_cons (pv 1) pa_nil))))))
          (pss_one (ps_expr (pe_bm PySem.F.plainAttrs_list PySem.F.slot_list_append PySem.F.type_list_append mt_append (pv 2) (pa_cons (pv 3) pa_nil)))))) pss_nil)))))
      (pss_one (ps_ret (pe_callBK (cr_sortBy FL hr) (by rfl) T.zSorted (by decide +kernel) (pa_cons (pv 2) pa_nil) (pk_cons (pe_glob (v := .ref fL) (by rfl) gL rfl) pk_nil))))), ?_⟩
    have hpos := hp.pos
    have hp7 : p ≤ 7 := by
      unfold Prm at hp
      omega
    -- found = []; for row in rows
    refine ⟨Nat.zero_le _, fun c0 nc0 => ?_⟩
    refine ⟨.ref l, rfl, l, rfl, ⟨_, (same_new nc0).seq hR.ls⟩, for_list (K := K) (a := l) (xs := qs.map fun q => V.ref q.1) (fun i σ H' => ∃ c qf v3 v4, σ = [some (.ref l), some (.int p), some (.ref c), v3, v4, none] ∧ Loop K H p n qs i H' c qf)
      ⟨c0, [], none, none, rfl, same_new nc0, nc0, upd_same, (fun _ z => nomatch z), Red.nil, fun v => Iff.rfl, Nat.le_refl _⟩ (fun i σ H' _ ⟨_, _, _, _, _, L⟩ => L.sm.seq hR.ls) ?_ ?_⟩
    · rintro i x σ H' hx ⟨c, qf, v3, v4, rfl, L⟩
      obtain ⟨q, hq, rfl, hm⟩ := get_ref hx
      have nq := fine.nrm q hm
      have hin : ∀ o ∈ qf, o.2 ∈ fs qf := fun o ho => List.mem_map.mpr ⟨o, ho, rfl⟩
      -- row = rest_of(row, found, prime)
      refine ⟨_, rfl, _, rfl, _, rfl, q.1, c, q.2, qf, p, n, rfl, same_tup L.sm (hR.ts q hm), ⟨SqL.of L.lst, L.ts⟩, hp, hn, nq, Fine.of_red L.red, fun o ho => L.red.lt _ (hin o ho), fun H1 b1 sm1 hb1 => ?_⟩
      have n1 : Nrm p n (restOf p q.2 (fs qf)) := Lr.restOf_nrm hpos L.red.len nq
      have hRn : ∀ r, r ∈ fs (qs.take i) → r.length = n := fun r hr' => fine.len r (fs_take_sub hr')
      -- place = lead(row)
      refine ⟨_, rfl, b1, _, rfl, hb1, by rw [n1.len]; omega, ?_⟩
      -- if place < len(row)
      refine ⟨_, rfl, .ref b1, rfl, b1, _, rfl, .inr hb1, _, _, rfl, rfl, _, rfl, ?_⟩
      rw [List.length_map, n1.len]
      by_cases hk : Lr.lead (restOf p q.2 (fs qf)) < n
      · refine ite2 (fun _ => ?_) (fun z => absurd (decide_eq_true (by omega)) z)
        have gk := get_int (r := restOf p q.2 (fs qf)) (i := Lr.lead (restOf p q.2 (fs qf))) (by rw [n1.len]; exact hk)
        have bdk := Lr.g_bd n1 hpos (Lr.lead (restOf p q.2 (fs qf)))
        have nz := Lr.lead_ne (a := restOf p q.2 (fs qf)) (by rw [n1.len]; exact hk)
        -- row = scaled(row, inverse(row[place], prime), prime)
        refine ⟨_, rfl, _, rfl, _, rfl, b1, _, (Lr.lead (restOf p q.2 (fs qf)) : Nat), _, rfl, rfl, hb1, atI_nat gk, _, rfl, _, p, rfl, hp, by omega, bdk.2, fun f f0 f1 hf => ?_⟩
        refine ⟨_, rfl, b1, _, f, p, rfl, hb1, by rw [n1.len]; omega, hpos, hp7, n1.bd, fun H2 b2 sm2 hb2 => ?_⟩
        have n2 : Nrm p n (scaleR p (restOf p q.2 (fs qf)) f) := Lr.nrm_scale hpos n1.len
        have sm02 : Same H' H2 := sm1.trans sm2
        -- found = [.. for other in found]
        refine ⟨.ref c, rfl, c, rfl, ⟨_, SqL.of (sm02 _ _ L.lst)⟩, fun D nD => lc_list (K := K) (a := c) (xs := qf.map fun q => V.ref q.1)
          (fun j H3 => ∃ qn : Qs, Same H2 H3 ∧ H3 D = some (.lst (qn.map fun q => V.ref q.1)) ∧ (∀ q ∈ qn, SqT K H3 q.1 (q.2.map V.int)) ∧
            fs qn = (fs (qf.take j)).map fun o => addR p o (scaleR p (restOf p q.2 (fs qf)) f) (-(g o (Lr.lead (restOf p q.2 (fs qf))))))
          ⟨[], same_new nD, upd_same, (fun _ z => nomatch z), rfl⟩ (fun j H3 _ ⟨_, sm3, _⟩ => sm3.seq (SqL.of (sm02 _ _ L.lst))) ?_ ?_⟩
        · rintro j y H3 hy ⟨qn, sm3, hD, ht, hfs⟩
          obtain ⟨o, ho, rfl, hmo⟩ := get_ref hy
          have no := L.red.nrm _ (hin o hmo)
          have hto : SqT K H3 o.1 (o.2.map V.int) := same_tup (sm02.trans sm3) (L.ts o hmo)
          have gko := get_int (r := o.2) (i := Lr.lead (restOf p q.2 (fs qf))) (by rw [no.len]; exact hk)
          have bdo := Lr.g_bd no hpos (Lr.lead (restOf p q.2 (fs qf)))
          refine ⟨rfl, yes_of ?_⟩
          refine ⟨_, rfl, _, rfl, _, rfl, _, rfl, o.1, _, (Lr.lead (restOf p q.2 (fs qf)) : Nat), _, rfl, rfl, hto, atI_nat gko, _, rfl, _, rfl, o.1, b2, o.2, _, _, p, rfl, hto, same_tup sm3 (SqT.of hb2), by rw [no.len, n2.len], by rw [no.len]; omega, hpos, by omega, by omega, fun H4 d sm4 hd => ?_⟩
          have hD4 := sm4 _ _ hD
          refine ⟨_, hD4, ?_, qn ++ [(d, addR p o.2 (scaleR p (restOf p q.2 (fs qf)) f) (-(g o.2 (Lr.lead (restOf p q.2 (fs qf))))))], fun b' u e => ?_, ?_, fun z hz => ?_, ?_⟩
          · have hl := congrArg List.length hfs
            rw [List.length_map, List.length_map, List.length_map, List.length_take] at hl
            rw [List.length_map]
            have := L.few
            have := (List.getElem?_eq_some_iff.mp hq).1
            exact small1000 (by omega)
          · rw [upd_ne (ne_of_none e nD)]
            exact sm4 _ _ (sm3 _ _ e)
          · rw [upd_same, List.map_append]
            rfl
          · rcases List.mem_append.mp hz with hz | hz
            · exact tup_upd (same_tup sm4 (ht z hz)) hD4
            · rw [List.mem_singleton.mp hz]
              exact tup_upd (SqT.of hd) hD4
          · rw [fs_snoc, hfs, fs_take ho, List.map_append]
            rfl
        · rintro H3 ⟨qn, sm3, hD, ht, hfs⟩
          rw [List.length_map, List.take_of_length_le (Nat.le_refl _)] at hfs
          have hlq : qn.length = qf.length := by
            have hl := congrArg List.length hfs
            rw [List.length_map, List.length_map, List.length_map] at hl
            exact hl
          have hi : i < qs.length := (List.getElem?_eq_some_iff.mp hq).1
          have hfew := L.few
          -- found.append(row)
          refine ⟨.ref D, rfl, .inl ⟨rfl, _, SqL.of hD⟩, _, rfl, D, _, _, rfl, rfl, hD, by rw [List.length_map]; exact small1000 (by omega), ?_⟩
          have sm3' : Same H H3 := (L.sm.trans sm02).trans sm3
          have nHD : H D = none := (L.sm.trans sm02).free nD
          have efs : fs (qn ++ [(b2, scaleR p (restOf p q.2 (fs qf)) f)]) = (fs qf).map (fun o => addR p o (scaleR p (restOf p q.2 (fs qf)) f) (-(g o (Lr.lead (restOf p q.2 (fs qf)))))) ++ [scaleR p (restOf p q.2 (fs qf)) f] := by
            rw [fs_snoc, hfs]
          refine ⟨D, qn ++ [(b2, scaleR p (restOf p q.2 (fs qf)) f)], _, _, rfl, ⟨fun b' u e => ?_, nHD, ?_, fun z hz => ?_, ?_, fun v => ?_, ?_⟩⟩
          · rw [upd_ne (ne_of_none e nHD)]
            exact sm3' _ _ e
          · rw [upd_same, List.map_append]
            rfl
          · rcases List.mem_append.mp hz with hz | hz
            · exact tup_upd (ht z hz) hD
            · rw [List.mem_singleton.mp hz]
              exact tup_upd (same_tup sm3 (SqT.of hb2)) hD
          · rw [efs]
            exact Lr.red_more hpos L.red nq hk hf
          · rw [efs, span_take hq]
            exact Lr.red_span hpos L.red nq hk hf hRn L.sp v
          · rw [List.length_append]
            show qn.length + 1 ≤ i + 1
            omega
      · refine ite2 (fun z => absurd (of_decide_eq_true z) (by omega)) (fun _ => ?_)
        refine ⟨c, qf, _, _, rfl, ⟨L.sm.trans sm1, L.new, sm1 _ _ L.lst, fun z hz => same_tup sm1 (L.ts z hz), L.red, fun v => ?_, Nat.le_succ_of_le L.few⟩⟩
        rw [span_take hq]
        exact Lr.red_none hpos L.red nq hk hRn L.sp v
    · rintro σ H' ⟨c, qf, v3, v4, rfl, L⟩
      have hfew := L.few
      rw [List.length_map] at hfew
      have hsp := L.sp
      rw [List.length_map, List.take_of_length_le (Nat.le_refl _)] at hsp
      -- return sorted(found, key=lead)
      refine ⟨.ref c, rfl, c, qf, fun (q : Addr × List Int) => ((Lr.lead q.2 : Nat) : Int), rfl, rfl, SqL.of L.lst, by omega, fun q hq H2 sm => ⟨q.1, q.2, rfl, same_tup sm (L.ts q hq), ?_, rfl, rfl⟩, fun b nb => ?_⟩
      · rw [(L.red.nrm _ (List.mem_map.mpr ⟨q, hq, rfl⟩)).len]
        omega
      · refine k _ b (qf.mergeSort fun x y => decide (((Lr.lead x.2 : Nat) : Int) ≤ ((Lr.lead y.2 : Nat) : Int))) (L.sm.trans (same_new nb)) ⟨SqL.of upd_same, fun q hq => same_tup (same_new nb) (L.ts q ((List.mergeSort_perm qf _).mem_iff.mp hq))⟩ upd_same (sort_red L.red) (fun v => ?_) (by rw [List.length_mergeSort]; omega)
        rw [← hsp v]
        exact ⟨Lr.Span.mono fun r => sort_mem.mp, Lr.Span.mono fun r => sort_mem.mpr⟩
end
end LrD
/-! is_between, is_integer, is_prime, is_size, is_data -/
namespace LrD
open PySem L2 SlX LrT LrB
open Lr (g addR scaleR restOf zeroR Nrm Prm Frm Red SRed Span IsSpan)
theorem tyx_tup {K : PySem.W.Frag} {H : Hp} {a : Addr} {xs : List V} (h : SqT K H a xs) : TyX K H (.ref a) (.type "tuple") := by
  rcases h with (h | ⟨o, h⟩) | ⟨o, its, n, h1, h2, _⟩
  · exact .base (.tup h)
  · exact .fTuple h
  · exact .kTuple h1 h2
theorem pow_le {p : Int} {n : Nat} (h : Frm p n) : p ^ n ≤ 49 := by
  have h1 := h.few
  have hp := h.prm.pos
  have e : p = ((p.toNat : Nat) : Int) := by omega
  rw [e, ← Int.natCast_pow]
  omega
theorem all_true : ∀ n : Nat, (List.replicate n true).all id = true
  | 0 => rfl
  | n + 1 => by
    rw [List.replicate_succ, List.all_cons, all_true n]
    rfl
section
variable {P : Program} {w : World} {K : PySem.W.Frag} {mg : Str → Option Value} {base : Heap} {CS CP : Addr}
def spBetween : Sp := fun vs H Q _ => ∃ v lo hi : Int, vs = [.int v, .int lo, .int hi] ∧ lo ≤ v ∧ v ≤ hi ∧ Q (.bl true) H
theorem ok_between (T : Txt K mg CS CP) : DefOk P w K mg base 1 "is_between" ["value", "low", "high"] spBetween := by
  obtain ⟨f, fd, gm, F, b⟩ := T.tIsBetween.ex
  refine ⟨f, fd, gm, F.kp, F.ok scIsBetween (fun vs H Q E h => ?_) (fun cdv A outer s H vs Q E hr h => ?_), b⟩
  · obtain ⟨v, lo, hi, rfl, _⟩ := h
    rfl
  · obtain ⟨v, lo, hi, rfl, h1, h2, q⟩ := h
    refine ⟨_, pss_one (ps_ret (pe_and (pe_callB call_isi (by rfl) T.zIsinstance (by decide +kernel) (pa_cons (pv 0) (pa_cons (pe_bltn (v := .ty "int") (by rfl) T.zInt (by decide +kernel) rfl) pa_nil)))
      (pe_and (pe_not (pe_callB call_isi (by rfl) T.zIsinstance (by decide +kernel) (pa_cons (pv 0) (pa_cons (pe_bltn (v := .ty "bool") (by rfl) T.zBool (by decide +kernel) rfl) pa_nil))))
      (pe_one (pe_chain op_le op_le (pv 1) (pv 0) (pv 2)))))), ?_⟩
    refine ⟨_, rfl, _, _, _, _, true, rfl, .ty "int", .base (.int v), kit_ty (by decide +kernel), true, rfl, iteT ?_⟩
    refine ⟨_, rfl, _, _, _, _, false, rfl, .ty "bool", .base (.int v), kit_ty (by decide +kernel), false, rfl, true, rfl, iteT ?_⟩
    refine ⟨_, rfl, _, rfl, _, _, rfl, rfl, true, (by show V.bl (decide (lo ≤ v)) = V.bl true; rw [decide_eq_true h1]), iteT ?_⟩
    refine ⟨_, rfl, _, _, rfl, rfl, ?_⟩
    show Q (.bl (decide (v ≤ hi))) H
    rw [decide_eq_true h2]
    exact q
def spInteger : Sp := fun vs H Q _ => ∃ v : Int, vs = [.int v] ∧ Q (.bl true) H
theorem ok_integer (T : Txt K mg CS CP) : DefOk P w K mg base 1 "is_integer" ["value"] spInteger := by
  obtain ⟨f, fd, gm, F, b⟩ := T.tIsInteger.ex
  refine ⟨f, fd, gm, F.kp, F.ok scIsInteger (fun vs H Q E h => ?_) (fun cdv A outer s H vs Q E hr h => ?_), b⟩
  · obtain ⟨v, rfl, _⟩ := h
    rfl
  · obtain ⟨v, rfl, q⟩ := h
    refine ⟨_, pss_one (ps_ret (pe_and (pe_callB call_isi (by rfl) T.zIsinstance (by decide +kernel) (pa_cons (pv 0) (pa_cons (pe_bltn (v := .ty "int") (by rfl) T.zInt (by decide +kernel) rfl) pa_nil)))
      (pe_one (pe_not (pe_callB call_isi (by rfl) T.zIsinstance (by decide +kernel) (pa_cons (pv 0) (pa_cons (pe_bltn (v := .ty "bool") (by rfl) T.zBool (by decide +kernel) rfl) pa_nil))))))), ?_⟩
    refine ⟨_, rfl, _, _, _, _, true, rfl, .ty "int", .base (.int v), kit_ty (by decide +kernel), true, rfl, iteT ?_⟩
    exact ⟨_, rfl, _, _, _, _, false, rfl, .ty "bool", .base (.int v), kit_ty (by decide +kernel), false, rfl, q⟩
def spPrime : Sp := fun vs H Q _ => ∃ p : Int, vs = [.int p] ∧ Prm p ∧ Q (.bl true) H
theorem ok_prime (T : Txt K mg CS CP) : DefOk P w K mg base 2 "is_prime" ["value"] spPrime := by
  obtain ⟨f, fd, gm, F, b⟩ := T.tIsPrime.ex
  obtain ⟨fI, fdI, gI, kI, GI, bI⟩ := (ok_integer (P := P) (w := w) (base := base) T).ex
  obtain ⟨t, gt, ht⟩ := T.cPrimes
  refine ⟨f, fd, gm, F.kp, F.ok scIsPrime (fun vs H Q E h => ?_) (fun cdv A outer s H vs Q E hr h => ?_), b⟩
  · obtain ⟨v, rfl, _⟩ := h
    rfl
  · obtain ⟨p, rfl, hp, q⟩ := h
    refine ⟨_, pss_one (ps_ret (pe_and (pe_call GI hr (by rfl) gI kI bI .nil pass0 (pa_cons (pv 0) pa_nil)) (pe_one (pe_cmpR op_in_seq (pv 0) (pe_glob (v := .ref t) (by rfl) gt rfl) (by rfl))))), ?_⟩
    refine ⟨_, rfl, p, rfl, true, rfl, iteT ?_⟩
    refine ⟨_, rfl, t, _, rfl, .inr (ht H), rfl, rfl, ?_⟩
    have e : inV (.int p) [.int 2, .int 3, .int 5, .int 7] = true := by
      rcases hp with e | e | e | e <;> subst e <;> rfl
    show Q (.bl (if false = true then _ else inV (.int p) [.int 2, .int 3, .int 5, .int 7])) H
    rw [e]
    exact q
def spSize : Sp := fun vs H Q _ => ∃ (p : Int) (n : Nat), vs = [.int p, .int (n : Int)] ∧ Frm p n ∧ Q (.bl true) H
theorem ok_size (T : Txt K mg CS CP) : DefOk P w K mg base 3 "is_size" ["prime", "value"] spSize := by
  obtain ⟨f, fd, gm, F, b⟩ := T.tIsSize.ex
  obtain ⟨fP, fdP, gP, kP, GP, bP⟩ := (ok_prime (P := P) (w := w) (base := base) T).ex
  obtain ⟨fB, fdB, gB, kB, GB, bB⟩ := (ok_between (P := P) (w := w) (base := base) T).ex
  obtain ⟨fW, fdW, gW, kW, GW, bW⟩ := (ok_power (P := P) (w := w) (base := base) T).ex
  obtain ⟨tm, gM⟩ := T.cMost
  refine ⟨f, fd, gm, F.kp, F.ok scIsSize (fun vs H Q E h => ?_) (fun cdv A outer s H vs Q E hr h => ?_), b⟩
  · obtain ⟨v, n, rfl, _⟩ := h
    rfl
  · obtain ⟨p, n, rfl, fr, q⟩ := h
    have hr1 : Room 1 _ := hr.mono (by decide)
    refine ⟨_, pss_one (ps_ret (pe_and (pe_call GP hr (by rfl) gP kP bP .nil pass0 (pa_cons (pv 0) pa_nil))
      (pe_and (pe_call GB hr1 (by rfl) gB kB bB .nil pass0 (pa_cons (pv 1) (pa_cons pe_int (pa_cons pe_int pa_nil))))
      (pe_one (pe_cmpR op_le (pe_call GW hr1 (by rfl) gW kW bW .nil pass0 (pa_cons (pv 0) (pa_cons (pv 1) pa_nil))) (pe_glob (v := .int 4096) (by rfl) gM ⟨tm, rfl⟩) (nomark _)))))), ?_⟩
    have h1 := fr.one
    have h4 := fr.four
    have hp := fr.prm
    have hp7 : 0 ≤ p ∧ p ≤ 100 := by
      unfold Prm at hp
      omega
    refine ⟨_, rfl, p, rfl, hp, true, rfl, iteT ?_⟩
    refine ⟨_, rfl, (n : Int), 1, 6, rfl, by omega, by omega, true, rfl, iteT ?_⟩
    refine ⟨_, rfl, _, rfl, p, n, rfl, hp7.1, hp7.2, by omega, _, _, rfl, rfl, ?_⟩
    have := pow_le fr
    show Q (.bl (decide (p ^ n ≤ 4096))) H
    rw [decide_eq_true (show p ^ n ≤ 4096 by omega)]
    exact q
def spData (K : PySem.W.Frag) : Sp := fun vs H Q _ => ∃ (p : Int) (n : Nat) (a : Addr) (r : List Int), vs = [.int p, .int (n : Int), .ref a] ∧ Frm p n ∧ SqT K H a (r.map V.int) ∧ Nrm p n r ∧ ∀ H', Same H H' → Q (.bl true) H'
theorem ok_data (T : Txt K mg CS CP) : DefOk P w K mg base 4 "is_data" ["prime", "size", "value"] (spData K) := by
  obtain ⟨f, fd, gm, F, b⟩ := T.tIsData.ex
  obtain ⟨fP, fdP, gP, kP, GP, bP⟩ := (ok_size (P := P) (w := w) (base := base) T).ex
  obtain ⟨fB, fdB, gB, kB, GB, bB⟩ := (ok_between (P := P) (w := w) (base := base) T).ex
  refine ⟨f, fd, gm, F.kp, F.ok scIsData (fun vs H Q E h => ?_) (fun cdv A outer s H vs Q E hr h => ?_), b⟩
  · obtain ⟨v, n, a, r, rfl, _⟩ := h
    rfl
  · obtain ⟨p, n, a, r, rfl, fr, hS, nr, k⟩ := h
    have hr1 : Room 1 _ := hr.mono (by decide)
    refine ⟨_, pss_cons (ps_if (PW.pt (pw_or (pt_not (pt_val (pe_call GP hr (by rfl) gP kP bP .nil pass0 (pa_cons (pv 0) (pa_cons (pv 1) pa_nil)))))
        (pw_or (pt_not (pt_val (pe_callB call_isiT (by rfl) T.zIsinstance (by decide +kernel) (pa_cons (pv 2) (pa_cons (pe_tup (pa_cons (pe_bltn (v := .ty "list") (by rfl) T.zList (by decide +kernel) rfl) (pa_cons (pe_bltn (v := .ty "tuple") (by rfl) T.zTuple (by decide +kernel) rfl) pa_nil))) pa_nil)))))
        (pw_or1 (pt_cmpR op_ne (pe_callB call_len_seq (by rfl) T.zLen PySem.boot_len (pa_cons (pv 2) pa_nil)) (pv 1) (nomark _)))))) (pss_one (ps_ret pe_bl)) pss_nil)
      (pss_one (ps_ret (pe_callB (cr_all rfl) (by rfl) T.zAll (by decide +kernel) (pa_cons (pe_lc (own := [("number", 3)]) rfl scIsData.nd (pi_tup (pv 2)) (blkOk_by (N := ["prime", "size", "value", "number"]) (sc := defScope sIsData) (by decide +kernel))
        (fun _ _ _ _ _ => pg_name (i := 3) scIsData.nd rfl (.inl rfl)) (fun _ _ _ _ _ => pts_nil)
        (fun _ _ _ _ _ => pe_call GB hr1 (by rfl) gB kB bB .nil pass0 (pa_cons (pv 3) (pa_cons pe_int (pa_cons (pe_op op_sub (pv 0) pe_int) pa_nil))))) pa_nil)))), ?_⟩
    have h4 := fr.four
    refine ⟨_, rfl, _, rfl, p, n, rfl, fr, true, rfl, iteF ?_⟩
    refine ⟨_, rfl, (by show 2 ≤ sizeLine; decide), fun tp ntp => ?_⟩
    have s1 : Same H (upd H tp (.tup [.ty "list", .ty "tuple"])) := same_new ntp
    refine ⟨_, tp, _, _, _, true, rfl, upd_same, .cons (.ty "list") (.cons (.ty "tuple") .nil), tyx_tup (same_tup s1 hS), kitAny_cons (kit_ty (b := "list") (r := false) (by decide +kernel)) (fun _ => kitAny_cons (kit_ty (b := "tuple") (r := true) (by decide +kernel)) (fun z => nomatch z) fun _ => rfl) (fun z => nomatch z), true, rfl, iteF ?_⟩
    refine ⟨_, rfl, a, _, rfl, .inr (same_tup s1 hS), _, rfl, rfl, _, rfl, ?_⟩
    rw [List.length_map, nr.len]
    refine iteNS rfl ?_
    refine ⟨_, rfl, a, rfl, ⟨_, same_tup s1 hS⟩, fun D nD => lc_tup (K := K) (a := a) (xs := r.map V.int) (fun i H' => Same (upd H tp (.tup [.ty "list", .ty "tuple"])) H' ∧ H' D = some (.lst ((List.replicate i true).map V.bl))) ⟨same_new nD, upd_same⟩ (fun i H' _ h => same_tup (s1.trans h.1) hS) ?_ ?_⟩
    · rintro i x H' hx ⟨sm, hL⟩
      have hi : i < r.length := by
        have := (List.getElem?_eq_some_iff.mp hx).1
        rw [List.length_map] at this
        exact this
      obtain rfl : x = .int (g r i) := Option.some.inj (hx.symm.trans (get_int hi))
      have bd := nr.bd _ (List.mem_of_getElem? (Lr.get_of_g hi))
      have hl := nr.len
      refine ⟨rfl, yes_of ?_⟩
      refine ⟨_, rfl, _, rfl, _, _, rfl, rfl, g r i, 0, p - 1, rfl, bd.1, by omega, _, hL, ?_, fun b' u e => ?_, ?_⟩
      · rw [List.length_map, List.length_replicate]
        exact small1000 (by omega)
      · rw [upd_ne (ne_of_none e nD)]
        exact sm _ _ e
      · rw [upd_same, List.replicate_succ', List.map_append]
        rfl
    · rintro H' ⟨sm, hL⟩
      refine ⟨D, _, rfl, SqL.of hL, ?_⟩
      rw [all_true]
      exact k H' (s1.trans sm)
end
end LrD
/-! the class Sum, is_sum -/
namespace LrD
open PySem L2 SlX LrT LrB
open Lr (g addR scaleR restOf zeroR Nrm Prm Frm Red SRed Span IsSpan)
/-- a sum of p with the factors r, which lie at a -/
def SumAt (K : PySem.W.Frag) (CS : Addr) (H : Hp) (x : Addr) (p : Int) (a : Addr) (r : List Int) : Prop := ∃ dx, Slt H x CS dx [some (.int p), some (.ref a)] ∧ SqT K H a (r.map V.int)
theorem slt_same {H H' : Hp} {a C dx : Addr} {vs : List (Option V)} (h : Slt H a C dx vs) (e : Same H H') : Slt H' a C dx vs := by
  rcases h with ⟨h1, h2⟩ | ⟨h1, h2⟩
  · exact .inl ⟨e _ _ h1, h2⟩
  · exact .inr ⟨e _ _ h1, e _ _ h2⟩
theorem SumAt.same {K : PySem.W.Frag} {CS : Addr} {H H' : Hp} {x a : Addr} {p : Int} {r : List Int} (h : SumAt K CS H x p a r) (e : Same H H') : SumAt K CS H' x p a r := by
  obtain ⟨dx, h1, h2⟩ := h
  exact ⟨dx, slt_same h1 e, same_tup e h2⟩
theorem same_mk {H : Hp} {x dx C : Addr} (nx : H x = none) (nd : H dx = none) : Same H (upd (upd H dx (.own x)) x (.ins C dx [])) := fun b o e => by
  rw [upd_ne (ne_of_none e nx), upd_ne (ne_of_none e nd)]
  exact e
theorem same_slH {H H' : Hp} {x dx C : Addr} {vs : List (Option V)} (nx : H x = none) (nd : H dx = none) (e : Same H H') : Same H (slH H' x C dx vs) := fun b o h => by
  rw [slH_ne (ne_of_none h nx) (ne_of_none h nd)]
  exact e _ _ h
/-- behind the making of an instance at x, whose slots are stored -/
theorem tup_slH {K : PySem.W.Frag} {H : Hp} {x dx C a : Addr} {vs vs' : List (Option V)} {xs : List V} (hx : Slt H x C dx vs') (hd : ∃ u, H dx = some u ∧ (∀ ys, u ≠ .tup ys) ∧ ∀ o ys, u ≠ .frz o ys) (h : SqT K H a xs) : SqT K (slH H x C dx vs) a xs := by
  have Hx : ∃ u, H x = some u ∧ (∀ ys, u ≠ .tup ys) ∧ ∀ o ys, u ≠ .frz o ys := by
    rcases hx with ⟨h1, _⟩ | ⟨h1, _⟩
    · exact ⟨_, h1, fun _ z => (nomatch z), fun _ _ z => (nomatch z)⟩
    · exact ⟨_, h1, fun _ z => (by unfold SlO at z; cases z), fun _ _ z => (by unfold SlO at z; cases z)⟩
  obtain ⟨u, h1, h2, h3⟩ := Hx
  obtain ⟨v, g1, g2, g3⟩ := hd
  have go : ∀ o, H a = some o → o ≠ u → o ≠ v → slH H x C dx vs a = some o := fun o ho e1 e2 => by
    rw [slH_ne (ne_of ho h1 e1) (ne_of ho g1 e2)]
    exact ho
  rcases h with (h | ⟨ob, h⟩) | h
  · exact .inl (.inl (go _ h (fun z => h2 _ z.symm) (fun z => g2 _ z.symm)))
  · exact .inl (.inr ⟨ob, go _ h (fun z => h3 _ _ z.symm) (fun z => g3 _ _ z.symm)⟩)
  · exact .inr h
section
variable {P : Program} {w : World} {K : PySem.W.Frag} {mg : Str → Option Value} {base : Heap} {CS CP : Addr}
/-- a property's getter keeps its promise -/
structure PrpOk (P : Program) (w : World) (K : PySem.W.Frag) (mg : Str → Option Value) (base : Heap) (k : Nat) (C : Addr) (x : Str) (sp : Sp) : Prop where
  ex : ∃ p f, PySem.W.findIn K (.ref C) x = some (some (.ref p)) ∧ PySem.W.specialIn K (.ref p) "__get__" = some (some (.builtin "property.__get__")) ∧ PySem.W.takesIn K (.ref p) = some true ∧ (∃ rest, PySem.W.recIn K p "property" = some (.ref f :: rest)) ∧ FnR P w K mg base CX0 k f sp
/-- a method keeps its promise -/
structure MtdOk (P : Program) (w : World) (K : PySem.W.Frag) (mg : Str → Option Value) (base : Heap) (k : Nat) (C : Addr) (x : Str) (sp : Sp) : Prop where
  ex : ∃ f, PySem.W.findIn K (.ref C) x = some (some (.ref f)) ∧ PySem.W.isFn K (.ref f) = true ∧ FnR P w K mg base CX0 k f sp
/-- a class is made -/
structure MkOk (P : Program) (w : World) (K : PySem.W.Frag) (mg : Str → Option Value) (base : Heap) (k : Nat) (C : Addr) (ps : List Str) (sp : Sp) : Prop where
  ex : ∃ f fd, Mk K C f ∧ FnOk P w K mg base CX0 k f fd ps sp ∧ Binds K fd ps []
def spSumInit (K : PySem.W.Frag) (CS : Addr) : Sp := fun vs H Q _ => ∃ (x dx a : Addr) (p : Int) (n : Nat) (r : List Int), vs = [.ref x, .int p, .ref a] ∧ dx ≠ x ∧ H x = some (.ins CS dx []) ∧ H dx = some (.own x) ∧ Frm p n ∧ SqT K H a (r.map V.int) ∧ Nrm p n r ∧
  ∀ H', Same H H' → Q .non (slH H' x CS dx [some (.int p), some (.ref a)])
theorem ok_sumInit (T : Txt K mg CS CP) : MkOk P w K mg base 5 CS ["self", "prime", "factors"] (spSumInit K CS) := by
  obtain ⟨f, fd, gm, fn, F, b⟩ := T.tSumInit.ex
  obtain ⟨fP, fdP, gP, kP, GP, bP⟩ := (ok_prime (P := P) (w := w) (base := base) T).ex
  obtain ⟨fD, fdD, gD, kD, GD, bD⟩ := (ok_data (P := P) (w := w) (base := base) T).ex
  refine ⟨f, fd, ⟨T.kSum.makes, gm, fn, T.kSum.kp⟩, F.ok scSumInit (fun vs H Q E h => ?_) (fun cdv A outer s H vs Q E hr h => ?_), b⟩
  · obtain ⟨x, dx, a, p, n, r, rfl, _⟩ := h
    rfl
  · obtain ⟨x, dx, a, p, n, r, rfl, hne, hx, hd, fr, hS, nr, k⟩ := h
    have hr2 : Room 2 _ := hr.mono (by decide)
    obtain ⟨s0, L0⟩ := T.lSumOwnPrime
    obtain ⟨s1, L1⟩ := T.lSumRow
    refine ⟨_, pss_cons (ps_if (pt_not (pt_val (pe_call GP hr2 (by rfl) gP kP bP .nil pass0 (pa_cons (pv 1) pa_nil)))) (pss_one ps_never) pss_nil)
      (pss_cons (ps_if (PW.pt (pw_or (pt_not (pt_val (pe_callB call_isiT (by rfl) T.zIsinstance (by decide +kernel) (pa_cons (pv 2) (pa_cons (pe_tup (pa_cons (pe_bltn (v := .ty "list") (by rfl) T.zList (by decide +kernel) rfl) (pa_cons (pe_bltn (v := .ty "tuple") (by rfl) T.zTuple (by decide +kernel) rfl) pa_nil))) pa_nil)))))
        (pw_or1 (pt_not (pt_val (pe_call GD hr (by rfl) gD kD bD .nil pass0 (pa_cons (pv 1) (pa_cons (pe_callB call_len_seq (by rfl) T.zLen PySem.boot_len (pa_cons (pv 2) pa_nil)) (pa_cons (pv 2) pa_nil))))))))) (pss_one ps_never) pss_nil)
      (pss_cons (ps_sl (pv 0) (pv 1))
      (pss_one (ps_sl (pv 0) (pe_tupleOf (by rfl) T.zTuple (pv 2)))))), ?_⟩
    have hp := fr.prm
    refine ⟨_, rfl, p, rfl, hp, true, rfl, iteF ?_⟩
    refine ⟨_, rfl, (by show 2 ≤ sizeLine; decide), fun tp ntp => ?_⟩
    have s1 : Same H (upd H tp (.tup [.ty "list", .ty "tuple"])) := same_new ntp
    refine ⟨_, tp, _, _, _, true, rfl, upd_same, .cons (.ty "list") (.cons (.ty "tuple") .nil), tyx_tup (same_tup s1 hS), kitAny_cons (kit_ty (b := "list") (r := false) (by decide +kernel)) (fun _ => kitAny_cons (kit_ty (b := "tuple") (r := true) (by decide +kernel)) (fun z => nomatch z) fun _ => rfl) (fun z => nomatch z), true, rfl, iteF ?_⟩
    refine ⟨_, rfl, _, rfl, a, _, rfl, .inr (same_tup s1 hS), _, rfl, p, n, a, r, by rw [List.length_map, nr.len]; rfl, fr, same_tup s1 hS, nr, fun H' sm => ?_⟩
    have sm1 := s1.trans sm
    refine ⟨true, rfl, iteF ?_⟩
    have h1 : Slt H' x CS dx [] := .inl ⟨sm1 _ _ hx, rfl⟩
    have hd1 := sm1 _ _ hd
    have hT1 := same_tup sm1 hS
    refine ⟨_, rfl, _, rfl, x, CS, dx, _, _, _, rfl, h1, T.kSum.sc, L0, ?_⟩
    have h2 : Slt (slH H' x CS dx (putS 0 (.int p) [])) x CS dx (putS 0 (.int p) []) := slH_slt hne
    have hT2 : SqT K (slH H' x CS dx (putS 0 (.int p) [])) a (r.map V.int) := tup_slH h1 ⟨_, hd1, fun _ z => (nomatch z), fun _ _ z => (nomatch z)⟩ hT1
    refine ⟨_, rfl, .inr ⟨a, _, rfl, hT2, _, rfl, x, CS, dx, _, _, _, rfl, h2, T.kSum.sc, L1, ?_⟩⟩
    rw [slH_twice hne]
    exact k H' sm1
/-- behind Sum(p, r) -/
theorem sum_made {H : Hp} {x dx a : Addr} {p : Int} {n : Nat} {r : List Int} {Q : Hp → Prop} {E : XK} (nx : H x = none) (nd : H dx = none) (hne : dx ≠ x) (fr : Frm p n) (hS : SqT K H a (r.map V.int)) (nr : Nrm p n r) (k : ∀ H', Same H H' → SumAt K CS H' x p a r → Q H') :
    spSumInit K CS (.ref x :: ([.int p, .ref a] ++ [])) (upd (upd H dx (.own x)) x (.ins CS dx [])) (fun v H2 => v = .non ∧ Q H2) E := by
  have s1 := same_mk (C := CS) nx nd
  refine ⟨x, dx, a, p, n, r, rfl, hne, upd_same, by rw [upd_ne hne, upd_same], fr, same_tup s1 hS, nr, fun H' sm => ⟨rfl, ?_⟩⟩
  have s2 : Same H (slH H' x CS dx [some (.int p), some (.ref a)]) := same_slH nx nd (s1.trans sm)
  exact k _ s2 ⟨dx, slH_slt hne, same_tup s2 hS⟩
def spSumPrime (K : PySem.W.Frag) (CS : Addr) : Sp := fun vs H Q _ => ∃ (x a : Addr) (p : Int) (r : List Int), vs = [.ref x] ∧ SumAt K CS H x p a r ∧ Q (.int p) H
theorem ok_sumPrime (T : Txt K mg CS CP) : PrpOk P w K mg base 1 CS "prime" (spSumPrime K CS) := by
  obtain ⟨pp, f, fd, at_, get, tk, rc, F, b⟩ := T.tSumPrime.ex
  obtain ⟨s0, L0⟩ := T.lSumOwnPrime
  refine ⟨pp, f, at_, get, tk, rc, ((F.ok (P := P) (w := w) (mg := mg) (base := base) (k := 0) (sp := spSumPrime K CS) scSumPrime (fun vs H Q E h => ?_) (fun cdv A outer s H vs Q E hr h => ?_)).raw b .nil).imp fun vs H Q E h => by simpa using h⟩
  · obtain ⟨x, a, p, r, rfl, _⟩ := h
    rfl
  · obtain ⟨x, a, p, r, rfl, ⟨dx, h1, h2⟩, q⟩ := h
    refine ⟨_, pss_one (ps_ret (pe_sl (pv 0))), ?_⟩
    exact ⟨_, rfl, x, CS, dx, _, _, _, _, rfl, h1, T.kSum.sc, L0, rfl, q⟩
def spSumFactors (K : PySem.W.Frag) (CS : Addr) : Sp := fun vs H Q _ => ∃ (x a : Addr) (p : Int) (r : List Int), vs = [.ref x] ∧ SumAt K CS H x p a r ∧ Q (.ref a) H
theorem ok_sumFactors (T : Txt K mg CS CP) : PrpOk P w K mg base 1 CS "factors" (spSumFactors K CS) := by
  obtain ⟨pp, f, fd, at_, get, tk, rc, F, b⟩ := T.tSumFactors.ex
  obtain ⟨s0, L0⟩ := T.lSumRow
  refine ⟨pp, f, at_, get, tk, rc, ((F.ok (P := P) (w := w) (mg := mg) (base := base) (k := 0) (sp := spSumFactors K CS) scSumFactors (fun vs H Q E h => ?_) (fun cdv A outer s H vs Q E hr h => ?_)).raw b .nil).imp fun vs H Q E h => by simpa using h⟩
  · obtain ⟨x, a, p, r, rfl, _⟩ := h
    rfl
  · obtain ⟨x, a, p, r, rfl, ⟨dx, h1, h2⟩, q⟩ := h
    refine ⟨_, pss_one (ps_ret (pe_sl (pv 0))), ?_⟩
    exact ⟨_, rfl, x, CS, dx, _, _, _, _, rfl, h1, T.kSum.sc, L0, rfl, q⟩
def spSumSize (K : PySem.W.Frag) (CS : Addr) : Sp := fun vs H Q _ => ∃ (x a : Addr) (p : Int) (r : List Int), vs = [.ref x] ∧ SumAt K CS H x p a r ∧ Q (.int (r.length : Nat)) H
theorem ok_sumSize (T : Txt K mg CS CP) : PrpOk P w K mg base 1 CS "size" (spSumSize K CS) := by
  obtain ⟨pp, f, fd, at_, get, tk, rc, F, b⟩ := T.tSumSize.ex
  obtain ⟨s0, L0⟩ := T.lSumRow
  refine ⟨pp, f, at_, get, tk, rc, ((F.ok (P := P) (w := w) (mg := mg) (base := base) (k := 0) (sp := spSumSize K CS) scSumSize (fun vs H Q E h => ?_) (fun cdv A outer s H vs Q E hr h => ?_)).raw b .nil).imp fun vs H Q E h => by simpa using h⟩
  · obtain ⟨x, a, p, r, rfl, _⟩ := h
    rfl
  · obtain ⟨x, a, p, r, rfl, ⟨dx, h1, h2⟩, q⟩ := h
    refine ⟨_, pss_one (ps_ret (pe_callB call_len_seq (by rfl) T.zLen PySem.boot_len (pa_cons (pe_sl (pv 0)) pa_nil))), ?_⟩
    refine ⟨_, rfl, x, CS, dx, _, _, _, _, rfl, h1, T.kSum.sc, L0, rfl, a, _, rfl, .inr h2, ?_⟩
    rw [List.length_map]
    exact q
/-- isinstance(x, C), x of a known type or a slotted instance -/
theorem call_isiU {X : Cx} (u : Value) : CallR X (.builtin "isinstance") (fun xs H Q => rIsi X.K xs H Q ∨ rIsiSl X.K u xs H Q) := by
  intro pins s σ H xs us Q I r h
  rcases h with h | h
  · exact call_isi pins s σ H xs us Q I r h
  · exact call_isiSl u pins s σ H xs us Q I r h
def spIsSum (K : PySem.W.Frag) (CS : Addr) : Sp := fun vs H Q _ => ∃ (v : V) (q : Int) (m : Nat), vs = [v, .int q, .int (m : Int)] ∧
  ((∃ (x a : Addr) (p : Int) (r : List Int), v = .ref x ∧ SumAt K CS H x p a r ∧ Q (.bl (decide (p = q) && decide (r.length = m))) H) ∨ (∃ t, TyX K H v t ∧ PySem.W.kitOne K t (.ref CS) = some false ∧ Q (.bl false) H))
theorem ok_isSum (T : Txt K mg CS CP) : DefOk P w K mg base 3 "is_sum" ["value", "prime", "size"] (spIsSum K CS) := by
  obtain ⟨f, fd, gm, F, b⟩ := T.tIsSum.ex
  obtain ⟨p1, g1, a1, b1, c1, d1, G1⟩ := (ok_sumPrime (P := P) (w := w) (base := base) T).ex
  obtain ⟨p2, g2, a2, b2, c2, d2, G2⟩ := (ok_sumSize (P := P) (w := w) (base := base) T).ex
  refine ⟨f, fd, gm, F.kp, F.ok scIsSum (fun vs H Q E h => ?_) (fun cdv A outer s H vs Q E hr h => ?_), b⟩
  · obtain ⟨v, q, m, rfl, _⟩ := h
    rfl
  · obtain ⟨v, q, m, rfl, h⟩ := h
    refine ⟨_, pss_one (ps_ret (pe_and (pe_callB (call_isiU (.ref CS)) (by rfl) T.zIsinstance (by decide +kernel) (pa_cons (pv 0) (pa_cons (pe_glob (v := .ref CS) (by rfl) T.kSum.gl rfl) pa_nil)))
      (pe_and (pe_cmpR op_eq (pe_propSl (E := E0) (pv 0) T.kSum.sc a1 b1 c1 d1 G1 hr (fun _ _ _ _ h => h)) (pv 1) (nomark _))
      (pe_one (pe_cmpR op_eq (pe_propSl (E := E0) (pv 0) T.kSum.sc a2 b2 c2 d2 G2 hr (fun _ _ _ _ h => h)) (pv 2) (nomark _)))))), ?_⟩
    rcases h with ⟨x, a, p, r, rfl, hs, k⟩ | ⟨t, ht, hk, k⟩
    · have hs' := hs
      obtain ⟨dx, h1, h2⟩ := hs'
      refine ⟨_, rfl, .inr ⟨x, CS, dx, _, _, true, rfl, (rfl : RelV (.ref CS) (.ref CS)), fun _ z => z, h1, T.kSum.sc, T.kSum.si, T.yesS, true, rfl, iteT ?_⟩⟩
      refine ⟨_, rfl, x, dx, _, rfl, h1, x, a, p, r, rfl, hs, _, rfl, rfl, _, rfl, ?_⟩
      by_cases e : p = q
      · subst e
        rw [decide_eq_true (rfl : V.int p = V.int p)]
        refine iteT ⟨_, rfl, x, dx, _, rfl, h1, x, a, p, r, rfl, hs, _, rfl, rfl, ?_⟩
        rw [decide_eq_true (rfl : p = p), Bool.true_and] at k
        have e2 : decide (V.int (r.length : Nat) = V.int (m : Int)) = decide (r.length = m) := by
          by_cases z : r.length = m
          · subst z
            simp
          · rw [decide_eq_false z, decide_eq_false]
            intro y
            have := V.int.inj y
            omega
        show Q (.bl (decide (V.int (r.length : Nat) = V.int (m : Int)))) H
        rw [e2]
        exact k
      · rw [decide_eq_false (show ¬ V.int p = V.int q from fun z => e (V.int.inj z))]
        rw [decide_eq_false e, Bool.false_and] at k
        exact iteF k
    · exact ⟨_, rfl, .inl ⟨v, .ref CS, t, .ref CS, false, rfl, .own CS, ht, hk, false, rfl, iteF k⟩⟩
end
end LrD
/-! the class Space: its making -/
namespace LrD
open PySem L2 SlX LrT LrB
open Lr (g addR scaleR restOf zeroR Nrm Prm Frm Red SRed Span IsSpan)
/-- a list of sums: where each lies, where its factors lie, what they are -/
abbrev Ws : Type := List (Addr × Addr × List Int)
abbrev qsOf (ws : Ws) : Qs := ws.map (·.2)
structure SumsAt (K : PySem.W.Frag) (CS : Addr) (H : Hp) (d : Addr) (p : Int) (ws : Ws) : Prop where
  ls : H d = some (.lst (ws.map fun w => V.ref w.1))
  ts : ∀ w ∈ ws, SumAt K CS H w.1 p w.2.1 w.2.2
theorem SumsAt.same {K : PySem.W.Frag} {CS : Addr} {H H' : Hp} {d : Addr} {p : Int} {ws : Ws} (h : SumsAt K CS H d p ws) (e : Same H H') : SumsAt K CS H' d p ws := ⟨e _ _ h.ls, fun w hw => (h.ts w hw).same e⟩
/-- a space of p and n with the rows and sums ws -/
structure SpaceAt (K : PySem.W.Frag) (CS CP : Addr) (H : Hp) (z : Addr) (p : Int) (n : Nat) (ws : Ws) : Prop where
  ex : ∃ dz d l, Slt H z CP dz [some (.ref d), some (.int p), some (.int (n : Nat)), some (.ref l)] ∧ SumsAt K CS H d p ws ∧ RowsAt K H l (qsOf ws)
  frm : Frm p n
  red : SRed p n (fs (qsOf ws))
  few : ws.length ≤ 100
theorem SpaceAt.same {K : PySem.W.Frag} {CS CP : Addr} {H H' : Hp} {z : Addr} {p : Int} {n : Nat} {ws : Ws} (h : SpaceAt K CS CP H z p n ws) (e : Same H H') : SpaceAt K CS CP H' z p n ws := by
  obtain ⟨dz, d, l, h1, h2, h3⟩ := h.ex
  exact ⟨⟨dz, d, l, slt_same h1 e, h2.same e, h3.same e⟩, h.frm, h.red, h.few⟩
/-- the heap without two cells -/
def cut (H : Hp) (z dz : Addr) : Hp := fun b => if b = z ∨ b = dz then none else H b
theorem cut_same {H : Hp} {z dz : Addr} : Same (cut H z dz) H := fun b o h => by
  unfold cut at h
  split at h
  · cases h
  · exact h
theorem cut_get {H : Hp} {z dz b : Addr} {o : HO} (h : H b = some o) (h1 : b ≠ z) (h2 : b ≠ dz) : cut H z dz b = some o := by
  unfold cut
  rw [if_neg (fun w => w.elim h1 h2)]
  exact h
theorem cut_mono {H H' : Hp} {z dz : Addr} (e : Same H H') : Same (cut H z dz) (cut H' z dz) := fun b o h => by
  unfold cut at h ⊢
  split at h
  · cases h
  · rename_i w
    rw [if_neg w]
    exact e _ _ h
theorem cut_slH {H : Hp} {z dz C : Addr} {vs : List (Option V)} : Same (cut H z dz) (slH H z C dz vs) := fun b o h => by
  unfold cut at h
  split at h
  · cases h
  · rename_i w
    rw [slH_ne (fun y => w (.inl y)) (fun y => w (.inr y))]
    exact h
theorem cut_of_slH {H : Hp} {z dz C : Addr} {vs : List (Option V)} : Same (cut H z dz) (cut (slH H z C dz vs) z dz) := fun b o h => by
  have h2 := cut_slH (C := C) (vs := vs) b o h
  unfold cut at h
  split at h
  · cases h
  · rename_i w
    exact cut_get h2 (fun y => w (.inl y)) (fun y => w (.inr y))
/-- no row and no list stands there -/
def Odd (u : HO) : Prop := (∀ ys, u ≠ .tup ys) ∧ (∀ o ys, u ≠ .frz o ys) ∧ ∀ ys, u ≠ .lst ys
theorem slt_odd {H : Hp} {z C dz : Addr} {vs : List (Option V)} (h : Slt H z C dz vs) : ∃ u, H z = some u ∧ Odd u := by
  rcases h with ⟨h1, _⟩ | ⟨h1, _⟩
  · exact ⟨_, h1, fun _ w => (nomatch w), fun _ _ w => (nomatch w), fun _ w => (nomatch w)⟩
  · exact ⟨_, h1, fun _ w => (by unfold SlO at w; cases w), fun _ _ w => (by unfold SlO at w; cases w), fun _ w => (by unfold SlO at w; cases w)⟩
theorem cut_tup {K : PySem.W.Frag} {H : Hp} {z dz a : Addr} {xs : List V} (hz : ∃ u, H z = some u ∧ Odd u) (hd : ∃ u, H dz = some u ∧ Odd u) (h : SqT K H a xs) : SqT K (cut H z dz) a xs := by
  obtain ⟨u, h1, h2, h3, _⟩ := hz
  obtain ⟨v, g1, g2, g3, _⟩ := hd
  rcases h with (h | ⟨ob, h⟩) | h
  · exact .inl (.inl (cut_get h (ne_of h h1 (fun w => h2 _ w.symm)) (ne_of h g1 (fun w => g2 _ w.symm))))
  · exact .inl (.inr ⟨ob, cut_get h (ne_of h h1 (fun w => h3 _ _ w.symm)) (ne_of h g1 (fun w => g3 _ _ w.symm))⟩)
  · exact .inr h
theorem cut_lst {H : Hp} {z dz b : Addr} {xs : List V} (hz : ∃ u, H z = some u ∧ Odd u) (hd : ∃ u, H dz = some u ∧ Odd u) (h : H b = some (.lst xs)) : cut H z dz b = some (.lst xs) := by
  obtain ⟨u, h1, _, _, h2⟩ := hz
  obtain ⟨v, g1, _, _, g2⟩ := hd
  exact cut_get h (ne_of h h1 (fun w => h2 _ w.symm)) (ne_of h g1 (fun w => g2 _ w.symm))
theorem odd_own {y : Addr} : Odd (.own y) := ⟨fun _ w => (nomatch w), fun _ _ w => (nomatch w), fun _ w => (nomatch w)⟩
theorem odd_xd : Odd (.xd []) := ⟨fun _ w => (nomatch w), fun _ _ w => (nomatch w), fun _ w => (nomatch w)⟩
theorem slH_dz {H : Hp} {z dz C : Addr} {vs : List (Option V)} (h : dz ≠ z) : slH H z C dz vs dz = some (.xd []) := by
  unfold slH
  rw [upd_ne h, upd_same]
theorem qs_snoc (ws : Ws) (w : Addr × Addr × List Int) : qsOf (ws ++ [w]) = qsOf ws ++ [w.2] := List.map_append
theorem get_fst {ws : Ws} {i : Nat} {x : V} (h : (ws.map fun w => V.ref w.1)[i]? = some x) : ∃ w, ws[i]? = some w ∧ x = .ref w.1 ∧ w ∈ ws := by
  rw [List.getElem?_map] at h
  cases e : ws[i]? with
  | none => rw [e] at h; cases h
  | some w =>
    rw [e] at h
    exact ⟨w, rfl, (Option.some.inj h).symm, List.mem_of_getElem? e⟩
theorem take_snoc {α : Type} {xs : List α} {i : Nat} {x : α} (h : xs[i]? = some x) : xs.take (i + 1) = xs.take i ++ [x] := by
  rw [List.take_add_one, h]
  rfl
/-- a sum, apart from two cells -/
def SumFree (K : PySem.W.Frag) (CS : Addr) (H : Hp) (z dz x : Addr) (p : Int) (a : Addr) (r : List Int) : Prop := ∃ dx, Slt H x CS dx [some (.int p), some (.ref a)] ∧ SqT K H a (r.map V.int) ∧ x ≠ z ∧ x ≠ dz ∧ dx ≠ z ∧ dx ≠ dz
theorem SumFree.same {K : PySem.W.Frag} {CS : Addr} {H H' : Hp} {z dz x a : Addr} {p : Int} {r : List Int} (h : SumFree K CS H z dz x p a r) (e : Same H H') : SumFree K CS H' z dz x p a r := by
  obtain ⟨dx, h1, h2, h3⟩ := h
  exact ⟨dx, slt_same h1 e, same_tup e h2, h3⟩
theorem SumFree.upd {K : PySem.W.Frag} {CS : Addr} {H : Hp} {z dz x a D : Addr} {p : Int} {r : List Int} {ys : List V} {o : HO} (h : SumFree K CS H z dz x p a r) (hD : H D = some (.lst ys)) : SumFree K CS (upd H D o) z dz x p a r := by
  obtain ⟨dx, h1, h2, h3⟩ := h
  refine ⟨dx, ?_, tup_upd h2 hD, h3⟩
  rcases h1 with ⟨g1, g2⟩ | ⟨g1, g2⟩
  · cases g2
  · exact .inr ⟨by rw [upd_ne (ne_of g1 hD (fun w => by unfold SlO at w; cases w))]; exact g1, by rw [upd_ne (ne_of g2 hD (fun w => nomatch w))]; exact g2⟩
theorem SumFree.cut {K : PySem.W.Frag} {CS : Addr} {H : Hp} {z dz x a : Addr} {p : Int} {r : List Int} (h : SumFree K CS H z dz x p a r) (hz : ∃ u, H z = some u ∧ Odd u) (hd : ∃ u, H dz = some u ∧ Odd u) : SumAt K CS (cut H z dz) x p a r := by
  obtain ⟨dx, h1, h2, n1, n2, n3, n4⟩ := h
  refine ⟨dx, ?_, cut_tup hz hd h2⟩
  rcases h1 with ⟨g1, g2⟩ | ⟨g1, g2⟩
  · cases g2
  · exact .inr ⟨cut_get g1 n1 n2, cut_get g2 n3 n4⟩
theorem SumFree.at {K : PySem.W.Frag} {CS : Addr} {H : Hp} {z dz x a : Addr} {p : Int} {r : List Int} (h : SumFree K CS H z dz x p a r) : SumAt K CS H x p a r := by
  obtain ⟨dx, h1, h2, _⟩ := h
  exact ⟨dx, h1, h2⟩
/-- behind Sum(p, r), with its cells -/
theorem sum_made' {K : PySem.W.Frag} {CS : Addr} {H : Hp} {x dx a z dz : Addr} {p : Int} {n : Nat} {r : List Int} {Q : Hp → Prop} {E : XK} (nx : H x = none) (nd : H dx = none) (hne : dx ≠ x) (fr : Frm p n) (hS : SqT K H a (r.map V.int)) (nr : Nrm p n r)
    (hz : ∃ u, H z = some u ∧ Odd u) (hd : ∃ u, H dz = some u ∧ Odd u) (k : ∀ H', Same H H' → SumFree K CS H' z dz x p a r → Q H') :
    spSumInit K CS (.ref x :: ([.int p, .ref a] ++ [])) (upd (upd H dx (.own x)) x (.ins CS dx [])) (fun v H2 => v = .non ∧ Q H2) E := by
  have s1 := same_mk (C := CS) nx nd
  obtain ⟨u, hu, _⟩ := hz
  obtain ⟨v, hv, _⟩ := hd
  refine ⟨x, dx, a, p, n, r, rfl, hne, upd_same, by rw [upd_ne hne, upd_same], fr, same_tup s1 hS, nr, fun H' sm => ⟨rfl, ?_⟩⟩
  have s2 : Same H (slH H' x CS dx [some (.int p), some (.ref a)]) := same_slH nx nd (s1.trans sm)
  exact k _ s2 ⟨dx, slH_slt hne, same_tup s2 hS, fun w => (by rw [← w] at hu; rw [hu] at nx; cases nx), fun w => (by rw [← w] at hv; rw [hv] at nx; cases nx), fun w => (by rw [← w] at hu; rw [hu] at nd; cases nd), fun w => (by rw [← w] at hv; rw [hv] at nd; cases nd)⟩
theorem map_ref (ws : Ws) : (qsOf ws).map (fun q => V.ref q.1) = ws.map fun w => V.ref w.2.1 := by
  show (ws.map (·.2)).map _ = _
  rw [List.map_map]
  rfl
section
variable {P : Program} {w : World} {K : PySem.W.Frag} {mg : Str → Option Value} {base : Heap} {CS CP : Addr}
def spSpaceInit (K : PySem.W.Frag) (CS CP : Addr) : Sp := fun vs H Q _ => ∃ (z dz c : Addr) (p : Int) (n : Nat) (us : Ws) (H0 : Hp), vs = [.ref z, .int p, .int (n : Int), .ref c] ∧ dz ≠ z ∧ H z = some (.ins CP dz []) ∧ H dz = some (.own z) ∧ Frm p n ∧
  H0 z = none ∧ H0 dz = none ∧ Same H0 H ∧ SumsAt K CS H0 c p us ∧ us.length ≤ 100 ∧ (∀ w ∈ us, Nrm p n w.2.2) ∧
  ∀ H' ws, Same H0 H' → SpaceAt K CS CP H' z p n ws → (∀ v, Span p n (· ∈ fs (qsOf ws)) v ↔ Span p n (· ∈ fs (qsOf us)) v) → Q .non H'
theorem fund_ok {x qual : Str} {params : Arguments} {body : List Stmt} {scope : Scope} {dvs : List V} {kws : List (Str × V)} {f : Addr} {fd : FuncData} {N ps : List Str} {k : Nat} {sp : Sp} (F : FunD K x qual params body scope dvs kws f fd) (S : FnScope N ps scope)
    (len : ∀ vs H Q E, sp vs H Q E → vs.length = ps.length)
    (hbody : ∀ (cdv : Value) (A : Around) (outer : List Env) (s : Shared) (H : Hp) (vs : List V) (Q : VK) (E : XK), Room k (A.deeper (PyProof.Rows.envOfC qual scope s.heap.objs.size f cdv)) → sp vs H Q E →
      ∃ t, PSs (cxOf CX0 P w K mg base N qual scope f cdv A outer s H E).nox body t ∧ t { nx := fun _ H' => Q .non H', rt := Q } (start N vs) H) : FnOk P w K mg base CX0 (k + 1) f fd ps sp :=
  F.ok S len fun cdv A outer s H vs Q E hr h => by
    obtain ⟨t, h1, h2⟩ := hbody cdv A outer s H vs Q E hr h
    exact ⟨t, h1.nox, h2⟩
theorem ok_spaceInit (T : Txt K mg CS CP) : MkOk P w K mg base 7 CP ["self", "prime", "size", "sums"] (spSpaceInit K CS CP) := by
  obtain ⟨f, fd, e, gm, fn, F, b⟩ := T.tSpaceInit.ex
  obtain ⟨fP, fdP, gP, kP, GP, bP⟩ := (ok_prime (P := P) (w := w) (base := base) T).ex
  obtain ⟨fZ, fdZ, gZ, kZ, GZ, bZ⟩ := (ok_size (P := P) (w := w) (base := base) T).ex
  obtain ⟨fS, fdS, gS, kS, GS, bS⟩ := (ok_isSum (P := P) (w := w) (base := base) T).ex
  obtain ⟨fR, fdR, gR, kR, GR, bR⟩ := (ok_reduced (P := P) (w := w) (base := base) T).ex
  obtain ⟨fI, fdI, MI, GI, bI⟩ := (ok_sumInit (P := P) (w := w) (base := base) T).ex
  obtain ⟨p2, g2, a2, b2, c2, d2, G2⟩ := (ok_sumFactors (P := P) (w := w) (base := base) T).ex
  obtain ⟨s0, L0⟩ := T.lSpaceListed
  obtain ⟨s1, L1⟩ := T.lSpaceOwnPrime
  obtain ⟨s2, L2'⟩ := T.lSpaceOwnSize
  obtain ⟨s3, L3⟩ := T.lSpaceRows
  refine ⟨f, fd, ⟨T.kSpace.makes, gm, fn, T.kSpace.kp⟩, fund_ok F scSpaceInit (fun vs H Q E h => ?_) (fun cdv A outer s H vs Q E hr h => ?_), b⟩
  · obtain ⟨z, dz, c, p, n, us, H0, rfl, _⟩ := h
    rfl
  · obtain ⟨z, dz, c, p, n, us, H0, rfl, hne, hz, hd, fr, nz, nd, sm0, hU, hfew, hN, k⟩ := h
    have hr2 : Room 2 _ := hr.mono (by decide)
    have hr3 : Room 3 _ := hr.mono (by decide)
    have hr4 : Room 4 _ := hr.mono (by decide)
    refine ⟨_, pss_cons (ps_if (pt_not (pt_val (pe_call GP hr2 (by rfl) gP kP bP .nil pass0 (pa_cons (pv 1) pa_nil)))) (pss_one ps_never) pss_nil)
      (pss_cons (ps_if (pt_not (pt_val (pe_call GZ hr3 (by rfl) gZ kZ bZ .nil pass0 (pa_cons (pv 1) (pa_cons (pv 2) pa_nil))))) (pss_one ps_never) pss_nil)
      (pss_cons (ps_if (pt_not (pt_val (pe_callB call_isiT (by rfl) T.zIsinstance (by decide +kernel) (pa_cons (pv 3) (pa_cons (pe_tup (pa_cons (pe_bltn (v := .ty "list") (by rfl) T.zList (by decide +kernel) rfl) (pa_cons (pe_bltn (v := .ty "tuple") (by rfl) T.zTuple (by decide +kernel) rfl) pa_nil))) pa_nil))))) (pss_one ps_never) pss_nil)
      (pss_cons (ps_for PassesOwn.never rfl (pi_list (pv 3)) (pg_name (i := 4) scSpaceInit.nd rfl (.inl rfl))
        (pss_one (ps_if (pt_not (pt_val (pe_call GS hr3 (by rfl) gS kS bS .nil pass0 (pa_cons (pv 4) (pa_cons (pv 1) (pa_cons (pv 2) pa_nil)))))) (pss_one ps_never) pss_nil)))
      (pss_cons (ps_asg (pe_tup (pa_cons (pv 1) (pa_cons (pv 2) pa_nil))) (pg_tup rfl (pgs_cons (pg_sl (pv 0)) (pgs_cons (pg_sl (pv 0)) pgs_nil))))
      (pss_cons (ps_sl (pv 0) (pe_call GR hr4 (by rfl) gR kR bR .nil pass0 (pa_cons (pe_lc (own := [("item", 4)]) rfl scSpaceInit.nd (pi_list (pv 3)) (blkOk_by (N := ["self", "prime", "size", "sums", "item", "row"]) (sc := defScope sSpaceInit) (by decide +kernel))
          (fun _ _ _ _ _ => pg_name (i := 4) scSpaceInit.nd rfl (.inl rfl)) (fun _ _ _ _ _ => pts_nil) (fun _ _ _ _ _ => pe_propSl (E := E0) (pv 4) T.kSum.sc a2 b2 c2 d2 G2 hr2 (fun _ _ _ _ h => h))) (pa_cons (pv 1) pa_nil))))
      (pss_one (ps_sl (pv 0) (pe_lc (own := [("row", 5)]) rfl scSpaceInit.nd (pi_list (pe_sl (pv 0))) (blkOk_by (N := ["self", "prime", "size", "sums", "item", "row"]) (sc := defScope sSpaceInit) (by decide +kernel))
          (fun _ _ _ _ _ => pg_name (i := 5) scSpaceInit.nd rfl (.inl rfl)) (fun _ _ _ _ _ => pts_nil) (fun _ _ _ _ _ => pe_make MI GI hr (by rfl) T.kSum.gl bI .nil pass0 (pa_cons (pv 1) (pa_cons (pv 5) pa_nil))))))))))), ?_⟩
    have hp := fr.prm
    have hpos := hp.pos
    refine ⟨_, rfl, p, rfl, hp, true, rfl, iteF ?_⟩
    refine ⟨_, rfl, _, rfl, p, n, rfl, fr, true, rfl, iteF ?_⟩
    refine ⟨_, rfl, (by show 2 ≤ sizeLine; decide), fun tp ntp => ?_⟩
    have s1 : Same H (upd H tp (.tup [.ty "list", .ty "tuple"])) := same_new ntp
    refine ⟨_, tp, _, _, _, true, rfl, upd_same, .cons (.ty "list") (.cons (.ty "tuple") .nil), .base (.lst ((sm0.trans s1) _ _ hU.ls)), kitAny_cons (kit_ty (b := "list") (r := true) (by decide +kernel)) (fun z => nomatch z) fun _ => rfl, true, rfl, iteF ?_⟩
    generalize hH1 : upd H tp (.tup [.ty "list", .ty "tuple"]) = H1 at s1 ⊢
    have sm1 := sm0.trans s1
    have hz1 := s1 _ _ hz
    have hd1 := s1 _ _ hd
    have hU1 := hU.same sm1
    -- for item in sums
    refine ⟨_, rfl, c, rfl, ⟨_, SqL.of hU1.ls⟩, for_list (K := K) (a := c) (xs := us.map fun w => V.ref w.1) (fun i σ H' => ∃ v, σ = [some (.ref z), some (.int p), some (.int (n : Int)), some (.ref c), v, none] ∧ Same H1 H')
      ⟨none, rfl, Same.refl _⟩ (fun i σ H' _ ⟨_, _, sm⟩ => SqL.of (sm _ _ hU1.ls)) ?_ ?_⟩
    · rintro i x σ H' hx ⟨v, rfl, sm⟩
      obtain ⟨w, hw, rfl, hm⟩ := get_fst hx
      refine ⟨_, rfl, _, rfl, _, rfl, .ref w.1, p, n, rfl, .inl ⟨w.1, w.2.1, p, w.2.2, rfl, (hU1.ts w hm).same sm, ?_⟩⟩
      rw [decide_eq_true (rfl : p = p), decide_eq_true (hN w hm).len]
      exact ⟨true, rfl, iteF ⟨_, rfl, sm⟩⟩
    rintro σ H' ⟨v, rfl, sm⟩
    have sm2 := sm1.trans sm
    -- self.own_prime, self.own_size = (prime, size)
    refine ⟨_, rfl, _, rfl, (by show 2 ≤ sizeLine; decide), fun tq ntq => ⟨tq, _, rfl, .inl (.inl upd_same), rfl, ?_⟩⟩
    have s3 : Same H' (upd H' tq (.tup [.int p, .int (n : Int)])) := same_new ntq
    generalize hH3 : upd H' tq (.tup [.int p, .int (n : Int)]) = H3 at s3 ⊢
    have sm3 := sm2.trans s3
    have hz3 : Slt H3 z CP dz [] := .inl ⟨s3 _ _ (sm _ _ hz1), rfl⟩
    refine ⟨_, _, rfl, _, rfl, z, CP, dz, _, _, _, rfl, hz3, T.kSpace.sc, L1, ?_⟩
    refine ⟨_, _, rfl, _, rfl, z, CP, dz, _, _, _, rfl, slH_slt hne, T.kSpace.sc, L2', rfl, ?_⟩
    rw [slH_twice hne]
    have hz4 : Slt (slH H3 z CP dz (putS 2 (.int (n : Int)) (putS 1 (.int p) []))) z CP dz [none, some (.int p), some (.int (n : Int))] := slH_slt hne
    have hd4 : slH H3 z CP dz (putS 2 (.int (n : Int)) (putS 1 (.int p) [])) dz = some (.xd []) := slH_dz hne
    have sm4 : Same H0 (slH H3 z CP dz (putS 2 (.int (n : Int)) (putS 1 (.int p) []))) := same_slH nz nd sm3
    generalize slH H3 z CP dz (putS 2 (.int (n : Int)) (putS 1 (.int p) [])) = H4 at hz4 hd4 sm4 ⊢
    have hU4 := hU.same sm4
    -- [item.factors for item in sums]
    refine ⟨_, rfl, c, rfl, ⟨_, SqL.of hU4.ls⟩, fun D nD => lc_list (K := K) (a := c) (xs := us.map fun w => V.ref w.1) (fun i H' => Same H4 H' ∧ H' D = some (.lst ((us.take i).map fun w => V.ref w.2.1)))
      ⟨same_new nD, upd_same⟩ (fun i H' _ h => SqL.of (h.1 _ _ hU4.ls)) ?_ ?_⟩
    · rintro i x H' hx ⟨sm, hL⟩
      obtain ⟨w, hw, rfl, hm⟩ := get_fst hx
      have hs := (hU4.ts w hm).same sm
      have hs' := hs
      obtain ⟨dx, k1, k2⟩ := hs'
      refine ⟨rfl, yes_of ?_⟩
      refine ⟨_, rfl, w.1, dx, _, rfl, k1, w.1, w.2.1, p, w.2.2, rfl, hs, _, hL, ?_, fun b' u e => ?_, ?_⟩
      · rw [List.length_map, List.length_take]
        exact small1000 (by omega)
      · rw [upd_ne (ne_of_none e nD)]
        exact sm _ _ e
      · rw [upd_same, take_snoc hw, List.map_append]
        rfl
    rintro H5 ⟨s5, hL5⟩
    rw [List.length_map, List.take_of_length_le (Nat.le_refl _), ← map_ref] at hL5
    have sm5 := sm4.trans s5
    refine ⟨_, rfl, D, qsOf us, p, n, rfl, ⟨SqL.of hL5, fun q hq => ?_⟩, by rw [List.length_map]; exact hfew, hp, fr.four, ⟨fun q hq => ?_⟩, fun H6 l qs s6 hR6 hl6 hred hspan hfew6 => ?_⟩
    · obtain ⟨w, hw, rfl⟩ := List.mem_map.mp hq
      obtain ⟨dx, k1, k2⟩ := (hU.ts w hw).same sm5
      exact k2
    · obtain ⟨w, hw, rfl⟩ := List.mem_map.mp hq
      exact hN w hw
    -- self.rows = ..
    have s46 := s5.trans s6
    refine ⟨_, rfl, z, CP, dz, _, _, _, rfl, slt_same hz4 s46, T.kSpace.sc, L3, ?_⟩
    have hz6 : ∃ u, H6 z = some u ∧ Odd u := slt_odd (slt_same hz4 s46)
    have hd6 : ∃ u, H6 dz = some u ∧ Odd u := ⟨_, s46 _ _ hd4, odd_xd⟩
    have hz7 : Slt (slH H6 z CP dz (putS 3 (.ref l) [none, some (.int p), some (.int (n : Int))])) z CP dz [none, some (.int p), some (.int (n : Int)), some (.ref l)] := slH_slt hne
    have hd7 : slH H6 z CP dz (putS 3 (.ref l) [none, some (.int p), some (.int (n : Int))]) dz = some (.xd []) := slH_dz hne
    have sm7 : Same H0 (slH H6 z CP dz (putS 3 (.ref l) [none, some (.int p), some (.int (n : Int))])) := same_slH nz nd (sm4.trans s46)
    have hl7 : slH H6 z CP dz (putS 3 (.ref l) [none, some (.int p), some (.int (n : Int))]) l = some (.lst (qs.map fun q => V.ref q.1)) := cut_slH _ _ (cut_lst hz6 hd6 hl6)
    have ht7 : ∀ q ∈ qs, SqT K (slH H6 z CP dz (putS 3 (.ref l) [none, some (.int p), some (.int (n : Int))])) q.1 (q.2.map V.int) := fun q hq => same_tup cut_slH (cut_tup hz6 hd6 (hR6.ts q hq))
    generalize slH H6 z CP dz (putS 3 (.ref l) [none, some (.int p), some (.int (n : Int))]) = H7 at hz7 hd7 sm7 hl7 ht7 ⊢
    -- [Sum(prime, row) for row in self.rows]
    refine ⟨_, rfl, z, CP, dz, _, _, _, _, rfl, hz7, T.kSpace.sc, L3, rfl, l, rfl, ⟨_, SqL.of hl7⟩, fun D2 nD2 => lc_list (K := K) (a := l) (xs := qs.map fun q => V.ref q.1)
      (fun i H' => ∃ ws : Ws, Same H7 H' ∧ H' D2 = some (.lst (ws.map fun w => V.ref w.1)) ∧ (∀ w ∈ ws, SumFree K CS H' z dz w.1 p w.2.1 w.2.2) ∧ qsOf ws = qs.take i)
      ⟨[], same_new nD2, upd_same, (fun _ y => nomatch y), rfl⟩ (fun i H' _ ⟨_, sm, _⟩ => SqL.of (sm _ _ hl7)) ?_ ?_⟩
    · rintro i x H' hx ⟨ws, sm, hL, hs, hq⟩
      obtain ⟨q, hqi, rfl, hm⟩ := get_ref hx
      have nq := hred.red.nrm _ (List.mem_map.mpr ⟨q, hm, rfl⟩)
      refine ⟨rfl, yes_of ?_⟩
      refine ⟨_, rfl, _, rfl, fun x dx nx ndx hdx => sum_made' (z := z) (dz := dz) nx ndx hdx fr (same_tup sm (ht7 q hm)) nq (slt_odd (slt_same hz7 sm)) ⟨_, sm _ _ hd7, odd_xd⟩ fun H8 s8 hs8 => ?_⟩
      have hL8 := s8 _ _ hL
      have hlen : ws.length ≤ qs.length := by
        have e := congrArg List.length hq
        rw [List.length_map, List.length_take] at e
        omega
      refine ⟨_, hL8, ?_, ws ++ [(x, q)], fun b' u e => ?_, ?_, fun w hw => ?_, ?_⟩
      · rw [List.length_map]
        exact small1000 (by omega)
      · rw [upd_ne (ne_of_none e nD2)]
        exact s8 _ _ (sm _ _ e)
      · rw [upd_same, List.map_append]
        rfl
      · rcases List.mem_append.mp hw with hw | hw
        · exact ((hs w hw).same s8).upd hL8
        · rw [List.mem_singleton.mp hw]
          exact hs8.upd hL8
      · rw [qs_snoc, hq, take_snoc hqi]
    rintro H8 ⟨ws, s8, hL8, hs8, hq8⟩
    rw [List.length_map, List.take_of_length_le (Nat.le_refl _)] at hq8
    have hz8 := slt_same hz7 s8
    refine ⟨_, rfl, z, CP, dz, _, _, _, rfl, hz8, T.kSpace.sc, L0, ?_⟩
    have oz := slt_odd hz8
    have od : ∃ u, H8 dz = some u ∧ Odd u := ⟨_, s8 _ _ hd7, odd_xd⟩
    subst hq8
    refine k _ ws (same_slH nz nd (sm7.trans s8)) ⟨⟨dz, D2, l, slH_slt hne, ⟨cut_slH _ _ (cut_lst oz od hL8), fun w hw => ((hs8 w hw).cut oz od).same cut_slH⟩, ⟨SqL.of (cut_slH _ _ (cut_lst oz od (s8 _ _ hl7))), fun q hq => same_tup cut_slH (cut_tup oz od (same_tup s8 (ht7 q hq)))⟩⟩, fr, hred, by rw [List.length_map] at hfew6; exact hfew6⟩ hspan
end
end LrD
/-! rows as data: ==, in -/
namespace LrD
open PySem L2 SlX LrT LrB
open Lr (g addR scaleR restOf zeroR Nrm Prm Frm Red SRed Span IsSpan)
def rowD (r : List Int) : PyData := .tuple (r.map .int)
theorem eqv_ints : ∀ a b : List Int, PyData.eqvAll (a.map PyData.int) (b.map PyData.int) = decide (a = b)
  | [], [] => by simp [PyData.eqvAll]
  | [], _ :: _ => by simp [PyData.eqvAll]
  | _ :: _, [] => by simp [PyData.eqvAll]
  | x :: a, y :: b => by
    simp only [List.map_cons, PyData.eqvAll, PyData.eqv, eqv_ints a b]
    by_cases h1 : x = y
    · by_cases h2 : a = b
      · simp [h1, h2]
      · simp [h1, h2]
    · simp [h1]
theorem eqv_row (a b : List Int) : PyData.eqv (rowD a) (rowD b) = decide (a = b) := by
  simp only [rowD, PyData.eqv, eqv_ints]
theorem eqv_rows : ∀ a b : List (List Int), PyData.eqvAll (a.map rowD) (b.map rowD) = decide (a = b)
  | [], [] => by simp [PyData.eqvAll]
  | [], _ :: _ => by simp [PyData.eqvAll]
  | _ :: _, [] => by simp [PyData.eqvAll]
  | x :: a, y :: b => by
    simp only [List.map_cons, PyData.eqvAll, eqv_row, eqv_rows a b]
    by_cases h1 : x = y
    · by_cases h2 : a = b
      · simp [h1, h2]
      · simp [h1, h2]
    · simp [h1]
theorem eqv_listRows (a b : List (List Int)) : PyData.eqv (.list (a.map rowD)) (.list (b.map rowD)) = decide (a = b) := by
  simp only [PyData.eqv, eqv_rows]
theorem eqv_listInts (a b : List Int) : PyData.eqv (.list (a.map PyData.int)) (.list (b.map PyData.int)) = decide (a = b) := by
  simp only [PyData.eqv, eqv_ints]
theorem lay_ints : ∀ a : List Int, PyData.canLayAll0 (a.map PyData.int) = true ∧ PyData.depthAll (a.map PyData.int) ≤ 1
  | [] => by simp [PyData.canLayAll0, PyData.depthAll]
  | x :: a => by
    have h := lay_ints a
    simp only [List.map_cons, PyData.canLayAll0, PyData.canLay0, PyData.depthAll, PyData.depth, h.1, Bool.and_self, true_and]
    omega
theorem lay_row (r : List Int) : (rowD r).canLay0 = true ∧ (rowD r).depth ≤ 2 := by
  have h := lay_ints r
  simp only [rowD, PyData.canLay0, PyData.depth, h.1, true_and]
  omega
theorem lay_rows : ∀ a : List (List Int), PyData.canLayAll0 (a.map rowD) = true ∧ PyData.depthAll (a.map rowD) ≤ 2
  | [] => by simp [PyData.canLayAll0, PyData.depthAll]
  | x :: a => by
    have h := lay_rows a
    have h2 := lay_row x
    simp only [List.map_cons, PyData.canLayAll0, PyData.depthAll, h.1, h2.1, Bool.and_self, true_and]
    omega
theorem shp_row (r : List Int) : SeqAt.shaped (rowD r) = true := by
  have h := lay_row r
  unfold SeqAt.shaped
  rw [h.1, Bool.true_and]
  exact decide_eq_true (by omega)
theorem shp_rows (a : List (List Int)) : SeqAt.shaped (.list (a.map rowD)) = true := by
  have h := lay_rows a
  unfold SeqAt.shaped
  simp only [PyData.canLay0, PyData.depth, h.1, Bool.true_and]
  exact decide_eq_true (by omega)
theorem shp_ints (a : List Int) : SeqAt.shaped (.list (a.map PyData.int)) = true := by
  have h := lay_ints a
  unfold SeqAt.shaped
  simp only [PyData.canLay0, PyData.depth, h.1, Bool.true_and]
  exact decide_eq_true (by omega)
theorem any_row (r : List Int) (a : List (List Int)) : ((a.map rowD).any fun z => PyData.eqv z (rowD r)) = decide (r ∈ a) := by
  rw [List.any_map]
  rw [Bool.eq_iff_iff, List.any_eq_true, decide_eq_true_iff]
  constructor
  · rintro ⟨x, hx, e⟩
    have e2 : decide (x = r) = true := by
      rw [← eqv_row]
      exact e
    rw [← of_decide_eq_true e2]
    exact hx
  · intro h
    refine ⟨r, h, ?_⟩
    show PyData.eqv (rowD r) (rowD r) = true
    rw [eqv_row]
    simp
theorem dp_row {K : PySem.W.Frag} {H : Hp} {a : Addr} {r : List Int} (h : SqT K H a (r.map V.int)) : Dp K H (.ref a) (rowD r) := .tup h (dp_ints r)
theorem dp_qs {K : PySem.W.Frag} {H : Hp} : ∀ qs : Qs, (∀ q ∈ qs, SqT K H q.1 (q.2.map V.int)) → DpAll K H (qs.map fun q => V.ref q.1) ((fs qs).map rowD)
  | [], _ => .nil
  | q :: qs, h => .cons (dp_row (h q (List.mem_cons_self ..))) (dp_qs qs fun q hq => h q (List.mem_cons_of_mem _ hq))
theorem dp_rows {K : PySem.W.Frag} {H : Hp} {l : Addr} {qs : Qs} (h : RowsAt K H l qs) : Dp K H (.ref l) (.list ((fs qs).map rowD)) := .lst h.ls (dp_qs qs h.ts)
/-- rows == rows -/
theorem eq_rows {K : PySem.W.Frag} {H : Hp} {l m : Addr} {qs rs : Qs} {Q : VK} (h : RowsAt K H l qs) (h2 : RowsAt K H m rs) (k : Q (.bl (decide (fs qs = fs rs))) H) : rEqD K (.ref l) (.ref m) H Q :=
  ⟨_, _, dp_rows h, dp_rows h2, shp_rows _, shp_rows _, by rw [eqv_listRows]; exact k⟩
theorem ne_rows {K : PySem.W.Frag} {H : Hp} {l m : Addr} {qs rs : Qs} {Q : VK} (h : RowsAt K H l qs) (h2 : RowsAt K H m rs) (k : Q (.bl (!decide (fs qs = fs rs))) H) : rNeD K (.ref l) (.ref m) H Q :=
  ⟨_, _, dp_rows h, dp_rows h2, shp_rows _, shp_rows _, by rw [eqv_listRows]; exact k⟩
theorem in_rows {K : PySem.W.Frag} {H : Hp} {a m : Addr} {r : List Int} {rs : Qs} {Q : VK} (h : SqT K H a (r.map V.int)) (h2 : RowsAt K H m rs) (k : Q (.bl (decide (r ∈ fs rs))) H) : rInD K (.ref a) (.ref m) H Q :=
  ⟨_, _, dp_row h, dp_rows h2, shp_row _, shp_rows _, by rw [any_row]; exact k⟩
theorem eq_ints {K : PySem.W.Frag} {H : Hp} {l m : Addr} {a b : List Int} {Q : VK} (h : SqL K H l (a.map V.int)) (h2 : SqL K H m (b.map V.int)) (k : Q (.bl (decide (a = b))) H) : rEqD K (.ref l) (.ref m) H Q :=
  ⟨_, _, .lst h (dp_ints a), .lst h2 (dp_ints b), shp_ints _, shp_ints _, by rw [eqv_listInts]; exact k⟩
theorem ne_ints {K : PySem.W.Frag} {H : Hp} {l m : Addr} {a b : List Int} {Q : VK} (h : SqL K H l (a.map V.int)) (h2 : SqL K H m (b.map V.int)) (k : Q (.bl (!decide (a = b))) H) : rNeD K (.ref l) (.ref m) H Q :=
  ⟨_, _, .lst h (dp_ints a), .lst h2 (dp_ints b), shp_ints _, shp_ints _, by rw [eqv_listInts]; exact k⟩
end LrD
/-! the class Space: what is asked of one -/
namespace LrD
open PySem L2 SlX LrT LrB
open Lr (g addR scaleR restOf zeroR Nrm Prm Frm Red SRed Span IsSpan)
theorem dec_nat {a b : Nat} : decide (V.int (a : Int) = V.int (b : Int)) = decide (a = b) := by
  by_cases z : a = b
  · subst z
    simp
  · rw [decide_eq_false z, decide_eq_false]
    intro y
    have := V.int.inj y
    omega
theorem FnOk.pos {P : Program} {w : World} {K : PySem.W.Frag} {mg : Str → Option Value} {base : Heap} {k : Nat} {f : Addr} {fd : FuncData} {ps : List Str} {sp : Sp} (F : FnOk P w K mg base CX0 k f fd ps sp) (b : Binds K fd ps []) : FnR P w K mg base CX0 k f sp :=
  (F.raw b .nil).imp fun vs H Q E h => by simpa using h
section
variable {P : Program} {w : World} {K : PySem.W.Frag} {mg : Str → Option Value} {base : Heap} {CS CP : Addr}
def spSpacePrime (K : PySem.W.Frag) (CS CP : Addr) : Sp := fun vs H Q _ => ∃ (z : Addr) (p : Int) (n : Nat) (ws : Ws), vs = [.ref z] ∧ SpaceAt K CS CP H z p n ws ∧ Q (.int p) H
theorem ok_spacePrime (T : Txt K mg CS CP) : PrpOk P w K mg base 1 CP "prime" (spSpacePrime K CS CP) := by
  obtain ⟨pp, f, fd, at_, get, tk, rc, F, b⟩ := T.tSpacePrime.ex
  obtain ⟨s0, L0⟩ := T.lSpaceOwnPrime
  refine ⟨pp, f, at_, get, tk, rc, FnOk.pos (F.ok (P := P) (w := w) (mg := mg) (base := base) (k := 0) (sp := spSpacePrime K CS CP) scSpacePrime (fun vs H Q E h => ?_) (fun cdv A outer s H vs Q E hr h => ?_)) b⟩
  · obtain ⟨z, p, n, ws, rfl, _⟩ := h
    rfl
  · obtain ⟨z, p, n, ws, rfl, hz, q⟩ := h
    obtain ⟨dz, d, l, h1, h2, h3⟩ := hz.ex
    exact ⟨_, pss_one (ps_ret (pe_sl (pv 0))), _, rfl, z, CP, dz, _, _, _, _, rfl, h1, T.kSpace.sc, L0, rfl, q⟩
def spSpaceSize (K : PySem.W.Frag) (CS CP : Addr) : Sp := fun vs H Q _ => ∃ (z : Addr) (p : Int) (n : Nat) (ws : Ws), vs = [.ref z] ∧ SpaceAt K CS CP H z p n ws ∧ Q (.int (n : Nat)) H
theorem ok_spaceSize (T : Txt K mg CS CP) : PrpOk P w K mg base 1 CP "size" (spSpaceSize K CS CP) := by
  obtain ⟨pp, f, fd, at_, get, tk, rc, F, b⟩ := T.tSpaceSize.ex
  obtain ⟨s0, L0⟩ := T.lSpaceOwnSize
  refine ⟨pp, f, at_, get, tk, rc, FnOk.pos (F.ok (P := P) (w := w) (mg := mg) (base := base) (k := 0) (sp := spSpaceSize K CS CP) scSpaceSize (fun vs H Q E h => ?_) (fun cdv A outer s H vs Q E hr h => ?_)) b⟩
  · obtain ⟨z, p, n, ws, rfl, _⟩ := h
    rfl
  · obtain ⟨z, p, n, ws, rfl, hz, q⟩ := h
    obtain ⟨dz, d, l, h1, h2, h3⟩ := hz.ex
    exact ⟨_, pss_one (ps_ret (pe_sl (pv 0))), _, rfl, z, CP, dz, _, _, _, _, rfl, h1, T.kSpace.sc, L0, rfl, q⟩
def spReducedSums (K : PySem.W.Frag) (CS CP : Addr) : Sp := fun vs H Q _ => ∃ (z : Addr) (p : Int) (n : Nat) (ws : Ws), vs = [.ref z] ∧ SpaceAt K CS CP H z p n ws ∧ ∀ H' b, Same H H' → SqT K H' b (ws.map fun w => V.ref w.1) → Q (.ref b) H'
theorem ok_reducedSums (T : Txt K mg CS CP) : PrpOk P w K mg base 1 CP "reduced_sums" (spReducedSums K CS CP) := by
  obtain ⟨pp, f, fd, at_, get, tk, rc, F, b⟩ := T.tSpaceReducedSums.ex
  obtain ⟨s0, L0⟩ := T.lSpaceListed
  refine ⟨pp, f, at_, get, tk, rc, FnOk.pos (F.ok (P := P) (w := w) (mg := mg) (base := base) (k := 0) (sp := spReducedSums K CS CP) scSpaceReducedSums (fun vs H Q E h => ?_) (fun cdv A outer s H vs Q E hr h => ?_)) b⟩
  · obtain ⟨z, p, n, ws, rfl, _⟩ := h
    rfl
  · obtain ⟨z, p, n, ws, rfl, hz, q⟩ := h
    obtain ⟨dz, d, l, h1, h2, h3⟩ := hz.ex
    exact ⟨_, pss_one (ps_ret (pe_tupleOf (by rfl) T.zTuple (pe_sl (pv 0)))), _, rfl, z, CP, dz, _, _, _, _, rfl, h1, T.kSpace.sc, L0, rfl, .inl ⟨d, _, rfl, SqL.of h2.ls, fun b nb => q _ b (same_new nb) (.inl (.inl upd_same))⟩⟩
def spIsWhole (K : PySem.W.Frag) (CS CP : Addr) : Sp := fun vs H Q _ => ∃ (z : Addr) (p : Int) (n : Nat) (ws : Ws), vs = [.ref z] ∧ SpaceAt K CS CP H z p n ws ∧ Q (.bl (decide (ws.length = n))) H
theorem ok_isWhole (T : Txt K mg CS CP) : PrpOk P w K mg base 1 CP "is_whole" (spIsWhole K CS CP) := by
  obtain ⟨pp, f, fd, at_, get, tk, rc, F, b⟩ := T.tSpaceIsWhole.ex
  obtain ⟨s0, L0⟩ := T.lSpaceRows
  obtain ⟨s1, L1⟩ := T.lSpaceOwnSize
  refine ⟨pp, f, at_, get, tk, rc, FnOk.pos (F.ok (P := P) (w := w) (mg := mg) (base := base) (k := 0) (sp := spIsWhole K CS CP) scSpaceIsWhole (fun vs H Q E h => ?_) (fun cdv A outer s H vs Q E hr h => ?_)) b⟩
  · obtain ⟨z, p, n, ws, rfl, _⟩ := h
    rfl
  · obtain ⟨z, p, n, ws, rfl, hz, q⟩ := h
    obtain ⟨dz, d, l, h1, h2, h3⟩ := hz.ex
    refine ⟨_, pss_one (ps_ret (pe_cmpR op_eq (pe_callB call_len_seq (by rfl) T.zLen PySem.boot_len (pa_cons (pe_sl (pv 0)) pa_nil)) (pe_sl (pv 0)) (nomark _))), ?_⟩
    refine ⟨_, rfl, z, CP, dz, _, _, _, _, rfl, h1, T.kSpace.sc, L0, rfl, l, _, rfl, .inl h3.ls, _, rfl, z, CP, dz, _, _, _, _, rfl, h1, T.kSpace.sc, L1, rfl, rfl, ?_⟩
    rw [List.length_map, List.length_map, dec_nat]
    exact q
theorem ok_len (T : Txt K mg CS CP) : MtdOk P w K mg base 1 CP "__len__" (fun vs H Q _ => ∃ (z : Addr) (p : Int) (n : Nat) (ws : Ws), vs = [.ref z] ∧ SpaceAt K CS CP H z p n ws ∧ Q (.int (ws.length : Nat)) H) := by
  obtain ⟨f, fd, gm, fn, F, b⟩ := T.tSpaceLen.ex
  obtain ⟨s0, L0⟩ := T.lSpaceRows
  refine ⟨f, gm, fn, FnOk.pos (F.ok (P := P) (w := w) (mg := mg) (base := base) (k := 0) scSpaceLen (fun vs H Q E h => ?_) (fun cdv A outer s H vs Q E hr h => ?_)) b⟩
  · obtain ⟨z, p, n, ws, rfl, _⟩ := h
    rfl
  · obtain ⟨z, p, n, ws, rfl, hz, q⟩ := h
    obtain ⟨dz, d, l, h1, h2, h3⟩ := hz.ex
    refine ⟨_, pss_one (ps_ret (pe_callB call_len_seq (by rfl) T.zLen PySem.boot_len (pa_cons (pe_sl (pv 0)) pa_nil))), ?_⟩
    refine ⟨_, rfl, z, CP, dz, _, _, _, _, rfl, h1, T.kSpace.sc, L0, rfl, l, _, rfl, .inl h3.ls, ?_⟩
    rw [List.length_map, List.length_map]
    exact q
def spContains (K : PySem.W.Frag) (CS CP : Addr) : Sp := fun vs H Q _ => ∃ (z : Addr) (v : V) (p : Int) (n : Nat) (ws : Ws), vs = [.ref z, v] ∧ SpaceAt K CS CP H z p n ws ∧
  ((∃ (x a : Addr) (r : List Int), v = .ref x ∧ SumAt K CS H x p a r ∧ Nrm p n r ∧ ∀ H' c, Same H H' → (c = true ↔ Span p n (· ∈ fs (qsOf ws)) r) → Q (.bl c) H') ∨
   (∃ (x a : Addr) (p' : Int) (r : List Int), v = .ref x ∧ SumAt K CS H x p' a r ∧ p' ≠ p ∧ Q (.bl false) H) ∨ (∃ t, TyX K H v t ∧ PySem.W.kitOne K t (.ref CS) = some false ∧ Q (.bl false) H))
theorem ok_contains (T : Txt K mg CS CP) : MtdOk P w K mg base 4 CP "__contains__" (spContains K CS CP) := by
  obtain ⟨f, fd, gm, fn, F, b⟩ := T.tSpaceContains.ex
  obtain ⟨s0, L0⟩ := T.lSpaceRows
  obtain ⟨s1, L1⟩ := T.lSpaceOwnSize
  obtain ⟨s2, L2'⟩ := T.lSpaceOwnPrime
  obtain ⟨fS, fdS, gS, kS, GS, bS⟩ := (ok_isSum (P := P) (w := w) (base := base) T).ex
  obtain ⟨fH, fdH, gH, kH, GH, bH⟩ := (ok_has (P := P) (w := w) (base := base) T).ex
  obtain ⟨p2, g2, a2, b2, c2, d2, G2⟩ := (ok_sumFactors (P := P) (w := w) (base := base) T).ex
  refine ⟨f, gm, fn, FnOk.pos (F.ok (P := P) (w := w) (mg := mg) (base := base) (k := 3) (sp := spContains K CS CP) scSpaceContains (fun vs H Q E h => ?_) (fun cdv A outer s H vs Q E hr h => ?_)) b⟩
  · obtain ⟨z, v, p, n, ws, rfl, _⟩ := h
    rfl
  · obtain ⟨z, v, p, n, ws, rfl, hz, hc⟩ := h
    obtain ⟨dz, d, l, h1, h2, h3⟩ := hz.ex
    have hr2 : Room 2 _ := hr.mono (by decide)
    refine ⟨_, pss_one (ps_ret (pe_and (pe_call GS hr (by rfl) gS kS bS .nil pass0 (pa_cons (pv 1) (pa_cons (pe_sl (pv 0)) (pa_cons (pe_sl (pv 0)) pa_nil))))
      (pe_one (pe_call GH hr (by rfl) gH kH bH .nil pass0 (pa_cons (pe_sl (pv 0)) (pa_cons (pe_propSl (E := E0) (pv 1) T.kSum.sc a2 b2 c2 d2 G2 hr2 (fun _ _ _ _ h => h)) (pa_cons (pe_sl (pv 0)) pa_nil))))))), ?_⟩
    refine ⟨_, rfl, _, rfl, z, CP, dz, _, _, _, _, rfl, h1, T.kSpace.sc, L2', rfl, _, rfl, z, CP, dz, _, _, _, _, rfl, h1, T.kSpace.sc, L1, rfl, v, p, n, rfl, ?_⟩
    rcases hc with ⟨x, a, r, rfl, hs, nr, k⟩ | ⟨x, a, p', r, rfl, hs, np, k⟩ | ⟨t, ht, hk, k⟩
    · have hs' := hs
      obtain ⟨dx, k1, k2⟩ := hs'
      refine .inl ⟨x, a, p, r, rfl, hs, ?_⟩
      rw [decide_eq_true (rfl : p = p), decide_eq_true nr.len]
      refine ⟨true, rfl, iteT ?_⟩
      exact ⟨_, rfl, z, CP, dz, _, _, _, _, rfl, h1, T.kSpace.sc, L0, rfl, _, rfl, x, dx, _, rfl, k1, x, a, p, r, rfl, hs, _, rfl, z, CP, dz, _, _, _, _, rfl, h1, T.kSpace.sc, L2', rfl, l, a, r, qsOf ws, p, n, rfl, k2, h3, hz.frm.prm, hz.frm.four, nr, hz.red.red, k⟩
    · refine .inl ⟨x, a, p', r, rfl, hs, ?_⟩
      rw [decide_eq_false np]
      exact ⟨false, rfl, iteF k⟩
    · exact .inr ⟨t, ht, hk, false, rfl, iteF k⟩
def spEq (K : PySem.W.Frag) (CS CP : Addr) : Sp := fun vs H Q _ => ∃ (z : Addr) (v : V) (p : Int) (n : Nat) (ws : Ws), vs = [.ref z, v] ∧ SpaceAt K CS CP H z p n ws ∧
  ((∃ (y : Addr) (us : Ws), v = .ref y ∧ SpaceAt K CS CP H y p n us ∧ Q (.bl (decide (fs (qsOf ws) = fs (qsOf us)))) H) ∨ (∃ t, TyX K H v t ∧ PySem.W.kitOne K t (.ref CP) = some false ∧ Q (.bl false) H))
theorem ok_eq (T : Txt K mg CS CP) : MtdOk P w K mg base 1 CP "__eq__" (spEq K CS CP) := by
  obtain ⟨f, fd, gm, fn, F, b⟩ := T.tSpaceEq.ex
  obtain ⟨s0, L0⟩ := T.lSpaceRows
  obtain ⟨s1, L1⟩ := T.lSpaceOwnSize
  obtain ⟨s2, L2'⟩ := T.lSpaceOwnPrime
  refine ⟨f, gm, fn, FnOk.pos (F.ok (P := P) (w := w) (mg := mg) (base := base) (k := 0) (sp := spEq K CS CP) scSpaceEq (fun vs H Q E h => ?_) (fun cdv A outer s H vs Q E hr h => ?_)) b⟩
  · obtain ⟨z, v, p, n, ws, rfl, _⟩ := h
    rfl
  · obtain ⟨z, v, p, n, ws, rfl, hz, hc⟩ := h
    obtain ⟨dz, d, l, h1, h2, h3⟩ := hz.ex
    refine ⟨_, pss_one (ps_ret (pe_and (pe_callB (call_isiU (.ref CP)) (by rfl) T.zIsinstance (by decide +kernel) (pa_cons (pv 1) (pa_cons (pe_glob (v := .ref CP) (by rfl) T.kSpace.gl rfl) pa_nil)))
      (pe_and (pe_cmpR op_eq (pe_sl (pv 0)) (pe_sl (pv 1)) (nomark _)) (pe_and (pe_cmpR op_eq (pe_sl (pv 0)) (pe_sl (pv 1)) (nomark _)) (pe_one (pe_cmpR (op_eqD hr.units) (pe_sl (pv 0)) (pe_sl (pv 1)) (nomark _))))))), ?_⟩
    rcases hc with ⟨y, us, rfl, hy, k⟩ | ⟨t, ht, hk, k⟩
    · obtain ⟨dy, d', m, g1, g2, g3⟩ := hy.ex
      refine ⟨_, rfl, .inr ⟨y, CP, dy, _, _, true, rfl, (rfl : RelV (.ref CP) (.ref CP)), fun _ z => z, g1, T.kSpace.sc, T.kSpace.si, T.yesP, true, rfl, iteT ?_⟩⟩
      refine ⟨_, rfl, z, CP, dz, _, _, _, _, rfl, h1, T.kSpace.sc, L2', rfl, _, rfl, y, CP, dy, _, _, _, _, rfl, g1, T.kSpace.sc, L2', rfl, rfl, true, by rw [decide_eq_true (rfl : V.int p = V.int p)], iteT ?_⟩
      refine ⟨_, rfl, z, CP, dz, _, _, _, _, rfl, h1, T.kSpace.sc, L1, rfl, _, rfl, y, CP, dy, _, _, _, _, rfl, g1, T.kSpace.sc, L1, rfl, rfl, true, by rw [decide_eq_true (rfl : V.int (n : Nat) = V.int (n : Nat))], iteT ?_⟩
      exact ⟨_, rfl, z, CP, dz, _, _, _, _, rfl, h1, T.kSpace.sc, L0, rfl, _, rfl, y, CP, dy, _, _, _, _, rfl, g1, T.kSpace.sc, L0, rfl, eq_rows h3 g3 k⟩
    · exact ⟨_, rfl, .inl ⟨v, .ref CP, t, .ref CP, false, rfl, .own CP, ht, hk, false, rfl, iteF k⟩⟩
end
end LrD
/-! the law's source and draws -/
namespace LrD
open PySem L2 SlX LrT LrB
open Lr (g addR scaleR restOf zeroR Nrm Prm Frm Red SRed Span IsSpan)
/-- a source of draws at b -/
def SrcAt (H : Hp) (b : Addr) : Prop := ∃ N S : Int, H b = some (.lst [.int N, .int S]) ∧ 0 ≤ N ∧ 0 ≤ S ∧ S < 2147483647
/-- all but what lies at b stays -/
def SameX (b : Addr) (H H' : Hp) : Prop := ∀ c o, H c = some o → c ≠ b → H' c = some o
theorem SameX.refl (b : Addr) (H : Hp) : SameX b H H := fun _ _ h _ => h
theorem SameX.trans {b : Addr} {H H1 H2 : Hp} (a : SameX b H H1) (c : SameX b H1 H2) : SameX b H H2 := fun x o h n => c x o (a x o h n) n
theorem Same.sx {b : Addr} {H H' : Hp} (h : Same H H') : SameX b H H' := fun c o e _ => h c o e
theorem SameX.from {b : Addr} {H0 H H' : Hp} (s : Same H0 H) (nb : H0 b = none) (h : SameX b H H') : Same H0 H' := fun c o e => h c o (s c o e) (fun z => by rw [z, nb] at e; cases e)
theorem SrcAt.cell {H : Hp} {b : Addr} (h : SrcAt H b) : ∃ xs, H b = some (.lst xs) := by
  obtain ⟨N, S, e, _⟩ := h
  exact ⟨_, e⟩
theorem SrcAt.same {H H' : Hp} {b : Addr} (h : SrcAt H b) (e : Same H H') : SrcAt H' b := by
  obtain ⟨N, S, e1, r⟩ := h
  exact ⟨N, S, e _ _ e1, r⟩
theorem tup_sx {K : PySem.W.Frag} {H H' : Hp} {a b : Addr} {xs ys : List V} (h : SqT K H a xs) (hb : H b = some (.lst ys)) (e : SameX b H H') : SqT K H' a xs := by
  rcases h with (h | ⟨ob, h⟩) | h
  · exact .inl (.inl (e _ _ h (ne_of h hb fun z => nomatch z)))
  · exact .inl (.inr ⟨ob, e _ _ h (ne_of h hb fun z => nomatch z)⟩)
  · exact .inr h
theorem upd_sx {H : Hp} {b : Addr} {o : HO} : SameX b H (upd H b o) := fun c x h n => by
  rw [upd_ne n]
  exact h
/-- a new cell -/
theorem step {H : Hp} {o : HO} {Q : Addr → Hp → Prop} (k : ∀ t H1, H t = none → Same H H1 → H1 t = some o → Q t H1) : ∀ t, H t = none → Q t (upd H t o) := fun t n => k t _ n (same_new n) upd_same
theorem pow18 : (10 : Int) ^ (18 : Int).toNat = 1000000000000000000 := by decide
section
variable {P : Program} {w : World} {K : PySem.W.Frag} {mg : Str → Option Value} {base : Heap} {CS CP : Addr}
def spSource (K : PySem.W.Frag) : Sp := fun vs H Q _ => ∃ (a : Addr) (ns : List Int) (t : Nat), vs = [.ref a, .int (t : Int)] ∧ SqL K H a (ns.map V.int) ∧ ∀ b H', H b = none → Same H H' → SrcAt H' b → Q (.ref b) H'
theorem ok_source (T : Txt K mg CS CP) : DefOk P w K mg base 1 "_law_source" ["_law_script", "_law_turn"] (spSource K) := by
  obtain ⟨f, fd, gm, F, b⟩ := T.tLawSource.ex
  refine ⟨f, fd, gm, F.kp, F.ok scLawSource (fun vs H Q E h => ?_) (fun cdv A outer s H vs Q E hr h => ?_), b⟩
  · obtain ⟨a, ns, t, rfl, _⟩ := h
    rfl
  · obtain ⟨a, ns, t, rfl, hL, k⟩ := h
    refine ⟨_, pss_cons (ps_set (i := 2) scLawSource.nd rfl (.inl rfl) pe_int)
      (pss_cons (ps_if (pt_cmpR op_lt (pv 1) (pe_callB call_len_seq (by rfl) T.zLen PySem.boot_len (pa_cons (pv 0) pa_nil)) (nomark _)) (pss_one (ps_set (i := 2) scLawSource.nd rfl (.inl rfl) (pe_ix (r := rIxL K) ix_list (pv 0) (pv 1) (fun _ _ => rfl)))) pss_nil)
      (pss_cons (ps_set (i := 3) scLawSource.nd rfl (.inl rfl) (pe_callB (call_max2 rfl) (by rfl) T.zMax (by decide +kernel) (pa_cons (pv 2) (pa_cons (pe_op op_sub (pe_un un_neg pe_int) (pv 2)) pa_nil))))
      (pss_cons (ps_set (i := 4) scLawSource.nd rfl (.inl rfl) (pe_op op_mod (pe_callTy call_int1 (by rfl) T.zInt (by decide +kernel) (pa_cons (pe_op op_add (pe_op op_add (pe_op op_mul (pe_op op_mod (pe_callTy call_int1 (by rfl) T.zInt (by decide +kernel) (pa_cons (pv 3) pa_nil)) pe_int) pe_int) (pe_op op_mul pe_int (pv 1))) pe_int) pa_nil)) pe_int))
      (pss_cons (ps_if (pt_cmpR op_lt (pv 3) (pe_op op_pow pe_int pe_int) (nomark _)) (pss_one (ps_set (i := 3) scLawSource.nd rfl (.inl rfl) pe_int)) pss_nil)
      (pss_one (ps_ret (pe_lst (pa_cons (pv 3) (pa_cons (pv 4) pa_nil))))))))), ?_⟩
    have fin : ∀ (cell : Int), 0 ≤ (if -1 - cell > cell then -1 - cell else cell) := fun cell => by split <;> omega
    refine ⟨_, rfl, .ref a, rfl, a, _, rfl, .inl hL, _, _, rfl, rfl, _, rfl, ?_⟩
    rw [List.length_map]
    by_cases ht : t < ns.length
    · refine ite2 (fun _ => ?_) (fun z => absurd (decide_eq_true (by omega)) z)
      refine ⟨_, rfl, _, rfl, a, _, (t : Int), .int (g ns t), rfl, rfl, hL, atI_nat (get_int ht), ?_⟩
      refine ⟨_, rfl, _, rfl, _, rfl, _, _, rfl, rfl, _, _, rfl, ?_⟩
      refine ⟨_, rfl, .inl ⟨_, rfl, _, _, rfl, rfl, by omega, _, _, rfl, rfl, .inr ⟨by decide, by decide⟩, _, rfl, _, _, rfl, rfl, .inl ⟨by decide, by decide⟩, _, _, rfl, rfl, _, _, rfl, rfl, .inl ⟨_, rfl, _, _, rfl, rfl, by omega, ?_⟩⟩⟩
      refine ⟨_, rfl, _, _, rfl, rfl, ⟨by decide, by decide, by decide⟩, _, _, rfl, rfl, _, rfl, ?_⟩
      refine ite2 (fun _ => ?_) (fun _ => ?_)
      · exact ⟨_, rfl, _, rfl, (by show 2 ≤ sizeLine; decide), step fun b H1 nb s1 c1 => k b H1 nb s1 ⟨_, _, c1, Int.le_refl 0, Int.emod_nonneg _ (by decide), Int.emod_lt_of_pos _ (by decide)⟩⟩
      · exact ⟨_, rfl, _, rfl, (by show 2 ≤ sizeLine; decide), step fun b H1 nb s1 c1 => k b H1 nb s1 ⟨_, _, c1, fin _, Int.emod_nonneg _ (by decide), Int.emod_lt_of_pos _ (by decide)⟩⟩
    · refine ite2 (fun z => absurd (of_decide_eq_true z) (by omega)) (fun _ => ?_)
      refine ⟨_, rfl, _, rfl, _, rfl, _, _, rfl, rfl, _, _, rfl, ?_⟩
      refine ⟨_, rfl, .inl ⟨_, rfl, _, _, rfl, rfl, by omega, _, _, rfl, rfl, .inr ⟨by decide, by decide⟩, _, rfl, _, _, rfl, rfl, .inl ⟨by decide, by decide⟩, _, _, rfl, rfl, _, _, rfl, rfl, .inl ⟨_, rfl, _, _, rfl, rfl, by omega, ?_⟩⟩⟩
      refine ⟨_, rfl, _, _, rfl, rfl, ⟨by decide, by decide, by decide⟩, _, _, rfl, rfl, _, rfl, ?_⟩
      refine ite2 (fun _ => ?_) (fun _ => ?_)
      · exact ⟨_, rfl, _, rfl, (by show 2 ≤ sizeLine; decide), step fun b H1 nb s1 c1 => k b H1 nb s1 ⟨_, _, c1, Int.le_refl 0, Int.emod_nonneg _ (by decide), Int.emod_lt_of_pos _ (by decide)⟩⟩
      · exact ⟨_, rfl, _, rfl, (by show 2 ≤ sizeLine; decide), step fun b H1 nb s1 c1 => k b H1 nb s1 ⟨_, _, c1, fin _, Int.emod_nonneg _ (by decide), Int.emod_lt_of_pos _ (by decide)⟩⟩
def spDraw : Sp := fun vs H Q _ => ∃ (b : Addr) (m : Int), vs = [.ref b, .int m] ∧ SrcAt H b ∧ 0 < m ∧ m < 1073741824 ∧ ∀ H' d, SameX b H H' → SrcAt H' b → 0 ≤ d → d < m → Q (.int d) H'
theorem ok_draw (T : Txt K mg CS CP) : DefOk P w K mg base 1 "_law_draw" ["_law_source_here", "_law_amount"] spDraw := by
  obtain ⟨f, fd, gm, F, b⟩ := T.tLawDraw.ex
  refine ⟨f, fd, gm, F.kp, F.ok scLawDraw (fun vs H Q E h => ?_) (fun cdv A outer s H vs Q E hr h => ?_), b⟩
  · obtain ⟨b, m, rfl, _⟩ := h
    rfl
  · obtain ⟨b, m, rfl, ⟨N, S, hb, hN, hS, hS2⟩, m0, m1, k⟩ := h
    refine ⟨_, pss_cons (ps_if (pt_cmpR op_gt (pe_ix (r := rIxL K) ix_list (pv 0) pe_int (fun _ _ => rfl)) pe_int (nomark _))
        (pss_cons (ps_set (i := 2) scLawDraw.nd rfl (.inl rfl) (pe_op op_mod (pe_callTy call_int1 (by rfl) T.zInt (by decide +kernel) (pa_cons (pe_ix (r := rIxL K) ix_list (pv 0) pe_int (fun _ _ => rfl)) pa_nil)) (pv 1)))
        (pss_cons (ps_asg (pe_op op_fdiv (pe_ix (r := rIxL K) ix_list (pv 0) pe_int (fun _ _ => rfl)) (pv 1)) (pg_sub (pv 0) pe_int set_list))
        (pss_one (ps_ret (pv 2))))) pss_nil)
      (pss_cons (ps_asg (pe_op op_mod (pe_callTy call_int1 (by rfl) T.zInt (by decide +kernel) (pa_cons (pe_op op_add (pe_op op_mul (pe_ix (r := rIxL K) ix_list (pv 0) pe_int (fun _ _ => rfl)) pe_int) pe_int) pa_nil)) pe_int) (pg_sub (pv 0) pe_int set_list))
      (pss_one (ps_ret (pe_op op_mod (pe_callTy call_int1 (by rfl) T.zInt (by decide +kernel) (pa_cons (pe_op op_fdiv (pe_op op_mod (pe_callTy call_int1 (by rfl) T.zInt (by decide +kernel) (pa_cons (pe_op op_mul (pe_ix (r := rIxL K) ix_list (pv 0) pe_int (fun _ _ => rfl)) (pe_ix (r := rIxL K) ix_list (pv 0) pe_int (fun _ _ => rfl))) pa_nil)) pe_int) pe_int) pa_nil)) (pv 1))))), ?_⟩
    refine ⟨_, rfl, b, _, 0, _, rfl, rfl, SqL.of hb, rfl, _, _, rfl, rfl, _, rfl, ?_⟩
    refine ite2 (fun _ => ?_) (fun _ => ?_)
    · refine ⟨_, rfl, b, _, 0, _, rfl, rfl, SqL.of hb, rfl, .inl ⟨_, rfl, _, rfl, _, _, rfl, rfl, m0, ?_⟩⟩
      refine ⟨_, rfl, b, _, 0, _, rfl, rfl, SqL.of hb, rfl, _, rfl, _, _, rfl, rfl, ⟨m0, m1⟩, ?_⟩
      refine ⟨_, rfl, b, _, 0, 0, rfl, rfl, hb, rfl, ?_⟩
      exact ⟨_, rfl, k _ _ upd_sx ⟨N / m, S, upd_same, Int.ediv_nonneg hN (by omega), hS, hS2⟩ (Int.emod_nonneg _ (by omega)) (Int.emod_lt_of_pos _ m0)⟩
    · refine ⟨_, rfl, b, _, 1, _, rfl, rfl, SqL.of hb, rfl, _, _, rfl, rfl, .inl ⟨by omega, by omega⟩, _, _, rfl, rfl, .inl ⟨_, rfl, _, _, rfl, rfl, by omega, ?_⟩⟩
      refine ⟨_, rfl, b, _, 1, 1, rfl, rfl, hb, rfl, ?_⟩
      have s0 := Int.emod_nonneg (S * 48271 + 11) (show (2147483647 : Int) ≠ 0 by decide)
      have s1 := Int.emod_lt_of_pos (S * 48271 + 11) (show (0 : Int) < 2147483647 by decide)
      have hb2 : upd H b (.lst [.int N, .int ((S * 48271 + 11) % 2147483647)]) b = some (.lst [.int N, .int ((S * 48271 + 11) % 2147483647)]) := upd_same
      refine ⟨_, rfl, b, _, 1, _, rfl, rfl, SqL.of hb2, rfl, _, rfl, b, _, 1, _, rfl, rfl, SqL.of hb2, rfl, _, _, rfl, rfl, .inl ⟨by omega, by omega⟩, .inl ⟨_, rfl, _, _, rfl, rfl, by omega, _, _, rfl, rfl, ⟨by omega, by omega⟩, .inl ⟨_, rfl, _, rfl, _, _, rfl, rfl, m0, ?_⟩⟩⟩
      exact k _ _ upd_sx ⟨N, _, hb2, hN, s0, s1⟩ (Int.emod_nonneg _ (by omega)) (Int.emod_lt_of_pos _ m0)
def spPick (K : PySem.W.Frag) : Sp := fun vs H Q _ => ∃ (b l : Addr) (xs : List V), vs = [.ref b, .ref l] ∧ SrcAt H b ∧ H l = some (.lst xs) ∧ l ≠ b ∧ 0 < xs.length ∧ xs.length < 1000 ∧ ∀ H' x, SameX b H H' → SrcAt H' b → x ∈ xs → Q x H'
theorem ok_pick (T : Txt K mg CS CP) : DefOk P w K mg base 2 "_law_pick" ["_law_source_here", "_law_items"] (spPick K) := by
  obtain ⟨f, fd, gm, F, b⟩ := T.tLawPick.ex
  obtain ⟨fD, fdD, gD, kD, GD, bD⟩ := (ok_draw (P := P) (w := w) (base := base) T).ex
  refine ⟨f, fd, gm, F.kp, F.ok scLawPick (fun vs H Q E h => ?_) (fun cdv A outer s H vs Q E hr h => ?_), b⟩
  · obtain ⟨b, l, xs, rfl, _⟩ := h
    rfl
  · obtain ⟨b, l, xs, rfl, hb, hl, hne, h0, h1, k⟩ := h
    refine ⟨_, pss_one (ps_ret (pe_ix (r := rIxL K) ix_list (pv 1) (pe_call GD hr (by rfl) gD kD bD .nil pass0 (pa_cons (pv 0) (pa_cons (pe_callB call_len_seq (by rfl) T.zLen PySem.boot_len (pa_cons (pv 1) pa_nil)) pa_nil))) (fun _ _ => rfl))), ?_⟩
    refine ⟨_, rfl, _, rfl, .ref l, rfl, l, _, rfl, .inl (SqL.of hl), b, _, rfl, hb, by omega, by omega, fun H' d sx hb' d0 d1 => ?_⟩
    obtain ⟨j, rfl⟩ : ∃ j : Nat, d = (j : Int) := ⟨d.toNat, by omega⟩
    have hj : j < xs.length := by omega
    exact ⟨l, xs, (j : Int), xs[j], rfl, rfl, SqL.of (sx _ _ hl hne), atI_nat (List.getElem?_eq_getElem hj), k H' _ sx hb' (List.getElem_mem hj)⟩
end
end LrD
/-! the law's form, factors, sums -/
namespace LrD
open PySem L2 SlX LrT LrB
open Lr (g addR scaleR restOf zeroR Nrm Prm Frm Red SRed Span IsSpan)
theorem line2 : (2 : Nat) ≤ sizeLine := by decide
theorem line9 : (9 : Nat) ≤ sizeLine := by decide
section
variable {P : Program} {w : World} {K : PySem.W.Frag} {mg : Str → Option Value} {base : Heap} {CS CP : Addr}
abbrev peP {X : Cx} {a b : Int} {ka kb kt : Nat} {pa pb pt : Pos} : PE X (.Tuple [.Constant (.int a) ka pa, .Constant (.int b) kb pb] kt pt) (tTup (tCons (tC (.int a)) (tCons (tC (.int b)) tNil))) := pe_tup (pa_cons pe_int (pa_cons pe_int pa_nil))
def spForm (K : PySem.W.Frag) : Sp := fun vs H Q _ => ∃ b : Addr, vs = [.ref b] ∧ SrcAt H b ∧ ∀ H' t p n, SameX b H H' → SrcAt H' b → SqT K H' t [.int p, .int ((n : Nat) : Int)] → Frm p n → Q (.ref t) H'
theorem ok_form (T : Txt K mg CS CP) : DefOk P w K mg base 3 "_law_form" ["_law_source_here"] (spForm K) := by
  obtain ⟨f, fd, gm, F, b⟩ := T.tLawForm.ex
  obtain ⟨fD, fdD, gD, kD, GD, bD⟩ := (ok_pick (P := P) (w := w) (base := base) T).ex
  refine ⟨f, fd, gm, F.kp, F.ok scLawForm (fun vs H Q E h => ?_) (fun cdv A outer s H vs Q E hr h => ?_), b⟩
  · obtain ⟨b, rfl, _⟩ := h
    rfl
  · obtain ⟨b, rfl, hb, k⟩ := h
    refine ⟨_, pss_one (ps_ret (pe_call GD hr (by rfl) gD kD bD .nil pass0 (pa_cons (pv 0) (pa_cons (pe_lst
      (pa_cons peP (pa_cons peP (pa_cons peP (pa_cons peP (pa_cons peP (pa_cons peP (pa_cons peP (pa_cons peP (pa_cons peP pa_nil)))))))))) pa_nil)))), ?_⟩
    refine ⟨_, rfl, line2, step fun t1 H1 n1 s1 c1 => ⟨line2, step fun t2 H2 n2 s2 c2 => ⟨line2, step fun t3 H3 n3 s3 c3 => ⟨line2, step fun t4 H4 n4 s4 c4 => ⟨line2, step fun t5 H5 n5 s5 c5 =>
      ⟨line2, step fun t6 H6 n6 s6 c6 => ⟨line2, step fun t7 H7 n7 s7 c7 => ⟨line2, step fun t8 H8 n8 s8 c8 => ⟨line2, step fun t9 H9 n9 s9 c9 => ⟨line9, step fun l HL nL sL cL => ?_⟩⟩⟩⟩⟩⟩⟩⟩⟩⟩
    have m9 := sL
    have m8 := s9.trans m9
    have m7 := s8.trans m8
    have m6 := s7.trans m7
    have m5 := s6.trans m6
    have m4 := s5.trans m5
    have m3 := s4.trans m4
    have m2 := s3.trans m3
    have m1 := s2.trans m2
    have m0 := s1.trans m1
    have hbL := hb.same m0
    obtain ⟨ys, hc⟩ := hb.cell
    refine ⟨b, l, _, rfl, hbL, cL, fun z => ?_, Nat.zero_lt_succ _, (by show 9 < 1000; decide), fun H' x sx hb' hx => ?_⟩
    · have e := (s1.trans (s2.trans (s3.trans (s4.trans (s5.trans (s6.trans (s7.trans (s8.trans s9)))))))) _ _ hc
      rw [z, e] at nL
      cases nL
    · obtain ⟨zs, hcL⟩ := hbL.cell
      have fin : ∀ (t : Addr) (p : Int) (n : Nat), HL t = some (.tup [.int p, .int (n : Int)]) → (p, n) ∈ Lr.forms → Q (.ref t) H' := fun t p n ht hf =>
        k H' t p n (SameX.trans (Same.sx m0) sx) hb' (.inl (.inl (sx _ _ ht (ne_of ht hcL fun z => nomatch z)))) (Lr.frm_of hf)
      simp only [List.mem_cons, List.not_mem_nil, or_false] at hx
      rcases hx with e | e | e | e | e | e | e | e | e <;> subst e
      · exact fin t1 2 1 (m1 _ _ c1) (by decide)
      · exact fin t2 2 2 (m2 _ _ c2) (by decide)
      · exact fin t3 2 3 (m3 _ _ c3) (by decide)
      · exact fin t4 2 4 (m4 _ _ c4) (by decide)
      · exact fin t5 3 1 (m5 _ _ c5) (by decide)
      · exact fin t6 3 2 (m6 _ _ c6) (by decide)
      · exact fin t7 3 3 (m7 _ _ c7) (by decide)
      · exact fin t8 5 2 (m8 _ _ c8) (by decide)
      · exact fin t9 7 2 (m9 _ _ c9) (by decide)
def spFactors (K : PySem.W.Frag) : Sp := fun vs H Q _ => ∃ (b : Addr) (p : Int) (n : Nat), vs = [.ref b, .int p, .int (n : Int)] ∧ SrcAt H b ∧ Frm p n ∧ ∀ H' t r, SameX b H H' → SrcAt H' b → SqT K H' t (r.map V.int) → Nrm p n r → Q (.ref t) H'
theorem ok_factors (T : Txt K mg CS CP) : DefOk P w K mg base 2 "_law_factors" ["_law_source_here", "_law_prime", "_law_size"] (spFactors K) := by
  obtain ⟨f, fd, gm, F, b⟩ := T.tLawFactors.ex
  obtain ⟨fD, fdD, gD, kD, GD, bD⟩ := (ok_draw (P := P) (w := w) (base := base) T).ex
  refine ⟨f, fd, gm, F.kp, F.ok scLawFactors (fun vs H Q E h => ?_) (fun cdv A outer s H vs Q E hr h => ?_), b⟩
  · obtain ⟨b, p, n, rfl, _⟩ := h
    rfl
  · obtain ⟨b, p, n, rfl, hb, fr, k⟩ := h
    refine ⟨_, pss_one (ps_ret (pe_tupleOf (by rfl) T.zTuple (pe_lc (own := [("_law_place", 3)]) rfl scLawFactors.nd (pi_range1 (by rfl) T.zRange (pa_cons (pv 2) pa_nil)) (blkOk_by (N := ["_law_source_here", "_law_prime", "_law_size", "_law_place"]) (sc := defScope sLawFactors) (by decide +kernel))
        (fun _ _ _ _ _ => pg_name (i := 3) scLawFactors.nd rfl (.inl rfl)) (fun _ _ _ _ _ => pts_nil) (fun _ _ _ _ _ => pe_call GD hr (by rfl) gD kD bD .nil pass0 (pa_cons (pv 0) (pa_cons (pv 1) pa_nil)))))), ?_⟩
    have h1 := fr.one
    have h4 := fr.four
    have hp := fr.prm
    have hp7 : 0 < p ∧ p ≤ 7 := by
      unfold Prm at hp
      omega
    refine ⟨_, rfl, _, rfl, by omega, by omega, fun D nD => lc_range (n := n) (fun i H' => ∃ r : List Int, SameX b H H' ∧ SrcAt H' b ∧ H' D = some (.lst (r.map V.int)) ∧ Nrm p i r)
      ⟨[], Same.sx (same_new nD), hb.same (same_new nD), upd_same, rfl, fun _ z => nomatch z⟩ ?_ ?_⟩
    · rintro i H' hi ⟨r, sx, hb', hD, nr⟩
      obtain ⟨ys, hc⟩ := hb.cell
      have hne : D ≠ b := fun z => by rw [z, hc] at nD; cases nD
      refine ⟨rfl, yes_of ?_⟩
      refine ⟨_, rfl, _, rfl, b, p, rfl, hb', hp7.1, by omega, fun H2 d sx2 hb2 d0 d1 => ⟨_, sx2 _ _ hD hne, ?_, r ++ [d], fun c o e hcb => ?_, ?_, ?_, ?_, ?_⟩⟩
      · rw [List.length_map, nr.len]
        exact small1000 (by omega)
      · rw [upd_ne (ne_of_none e nD)]
        exact sx2 _ _ (sx _ _ e hcb) hcb
      · obtain ⟨N, S, e, rest⟩ := hb2
        exact ⟨N, S, by rw [upd_ne hne.symm]; exact e, rest⟩
      · rw [upd_same, List.map_append]
        rfl
      · rw [List.length_append, nr.len]
        rfl
      · intro x hx
        rcases List.mem_append.mp hx with hx | hx
        · exact nr.bd x hx
        · rw [List.mem_singleton.mp hx]
          exact ⟨d0, d1⟩
    · rintro H' ⟨r, sx, hb', hD, nr⟩
      exact .inl ⟨D, _, rfl, SqL.of hD, step fun t H2 nt s2 c2 => k H2 t r (sx.trans (Same.sx s2)) (hb'.same s2) (.inl (.inl c2)) nr⟩
def spSums (K : PySem.W.Frag) : Sp := fun vs H Q _ => ∃ (b : Addr) (p : Int) (n m : Nat), vs = [.ref b, .int p, .int (n : Int), .int (m : Int)] ∧ SrcAt H b ∧ Frm p n ∧ m ≤ 20 ∧ ∀ H' l qs, SameX b H H' → SrcAt H' b → H' l = some (.lst (qs.map fun q => V.ref q.1)) → RowsAt K H' l qs → l ≠ b → Fine p n qs → qs.length ≤ m → Q (.ref l) H'
theorem ok_sums (T : Txt K mg CS CP) : DefOk P w K mg base 3 "_law_sums" ["_law_source_here", "_law_prime", "_law_size", "_law_most"] (spSums K) := by
  obtain ⟨f, fd, gm, F, b⟩ := T.tLawSums.ex
  obtain ⟨fD, fdD, gD, kD, GD, bD⟩ := (ok_draw (P := P) (w := w) (base := base) T).ex
  obtain ⟨fF, fdF, gF, kF, GF, bF⟩ := (ok_factors (P := P) (w := w) (base := base) T).ex
  refine ⟨f, fd, gm, F.kp, F.ok scLawSums (fun vs H Q E h => ?_) (fun cdv A outer s H vs Q E hr h => ?_), b⟩
  · obtain ⟨b, p, n, m, rfl, _⟩ := h
    rfl
  · obtain ⟨b, p, n, m, rfl, hb, fr, hm, k⟩ := h
    have hr1 : Room 1 _ := hr.mono (by decide)
    refine ⟨_, pss_one (ps_ret (pe_lc (own := [("_law_index", 4)]) rfl scLawSums.nd (pi_range1 (by rfl) T.zRange (pa_cons (pe_call GD hr1 (by rfl) gD kD bD .nil pass0 (pa_cons (pv 0) (pa_cons (pe_op op_add (pv 3) pe_int) pa_nil))) pa_nil)) (blkOk_by (N := ["_law_source_here", "_law_prime", "_law_size", "_law_most", "_law_index"]) (sc := defScope sLawSums) (by decide +kernel))
        (fun _ _ _ _ _ => pg_name (i := 4) scLawSums.nd rfl (.inl rfl)) (fun _ _ _ _ _ => pts_nil) (fun _ _ _ _ _ => pe_call GF hr (by rfl) gF kF bF .nil pass0 (pa_cons (pv 0) (pa_cons (pv 1) (pa_cons (pv 2) pa_nil)))))), ?_⟩
    refine ⟨_, rfl, _, rfl, _, _, rfl, rfl, b, _, rfl, hb, by omega, by omega, fun H1 d sx1 hb1 d0 d1 => ?_⟩
    obtain ⟨j, rfl⟩ : ∃ j : Nat, d = (j : Int) := ⟨d.toNat, by omega⟩
    obtain ⟨ys, hc⟩ := hb1.cell
    refine ⟨(j : Int), rfl, by omega, by omega, fun D nD => lc_range (n := j) (fun i H' => ∃ qs : Qs, SameX b H1 H' ∧ SrcAt H' b ∧ H' D = some (.lst (qs.map fun q => V.ref q.1)) ∧ (∀ q ∈ qs, SqT K H' q.1 (q.2.map V.int)) ∧ Fine p n qs ∧ qs.length = i)
      ⟨[], Same.sx (same_new nD), hb1.same (same_new nD), upd_same, (fun _ z => nomatch z), ⟨fun _ z => nomatch z⟩, rfl⟩ ?_ ?_⟩
    · rintro i H' hi ⟨qs, sx, hb', hD, ht, fi, hl⟩
      have hne : D ≠ b := fun z => by rw [z, hc] at nD; cases nD
      refine ⟨rfl, yes_of ?_⟩
      refine ⟨_, rfl, _, rfl, _, rfl, b, p, n, rfl, hb', fr, fun H2 t r sx2 hb2 hT nr => ?_⟩
      have hD2 := sx2 _ _ hD hne
      obtain ⟨zs, hc2⟩ := hb'.cell
      refine ⟨_, hD2, ?_, qs ++ [(t, r)], fun c o e hcb => ?_, ?_, ?_, fun q hq => ?_, ⟨fun q hq => ?_⟩, ?_⟩
      · rw [List.length_map]
        exact small1000 (by omega)
      · rw [upd_ne (ne_of_none e nD)]
        exact sx2 _ _ (sx _ _ e hcb) hcb
      · obtain ⟨N, S, e, rest⟩ := hb2
        exact ⟨N, S, by rw [upd_ne hne.symm]; exact e, rest⟩
      · rw [upd_same, List.map_append]
        rfl
      · rcases List.mem_append.mp hq with hq | hq
        · exact tup_upd (tup_sx (ht q hq) hc2 sx2) hD2
        · rw [List.mem_singleton.mp hq]
          exact tup_upd hT hD2
      · rcases List.mem_append.mp hq with hq | hq
        · exact fi.nrm q hq
        · rw [List.mem_singleton.mp hq]
          exact nr
      · rw [List.length_append, hl]
        rfl
    · rintro H' ⟨qs, sx, hb', hD, ht, fi, hl⟩
      exact k H' D qs (sx1.trans sx) hb' hD ⟨SqL.of hD, ht⟩ (fun z => by rw [z, hc] at nD; cases nD) fi (by omega)
end
end LrD
/-! the law's span -/
namespace LrD
open PySem L2 SlX LrT LrB
open Lr (g addR scaleR restOf zeroR Nrm Prm Frm Red SRed Span IsSpan)
theorem code_inj {B : Int} : ∀ {r q : List Int}, r.length = q.length → TS.Bd B r → TS.Bd B q → TS.code B r = TS.code B q → r = q
  | [], [], _, _, _, _ => rfl
  | d :: r, e :: q, hl, hr, hq, h => by
    have hl' : r.length = q.length := by simpa using hl
    rcases Int.lt_trichotomy d e with z | z | z
    · have := TS.code_lt hl' hr.tail hq.tail z
      omega
    · subst z
      have h' : d * B ^ r.length + TS.code B r = d * B ^ q.length + TS.code B q := h
      rw [hl'] at h'
      rw [code_inj hl' hr.tail hq.tail (by omega)]
    · have := TS.code_lt hl'.symm hq.tail hr.tail z
      omega
theorem asc_of {p : Int} {n : Nat} {L : Qs} (hB : ∀ q ∈ L, Nrm p n q.2) (nd : (L.map (·.2)).Nodup) (h : L.Pairwise (fun q r => TS.code p q.2 ≤ TS.code p r.2)) : (fs L).Pairwise fun a b => TS.code p a < TS.code p b := by
  have nd2 : L.Pairwise (fun a b => a.2 ≠ b.2) := List.pairwise_map.mp nd
  refine List.pairwise_map.mpr ((List.Pairwise.and h nd2).imp_of_mem fun {a b} ha hb q => ?_)
  have ne : TS.code p a.2 ≠ TS.code p b.2 := fun z => q.2 (code_inj (by rw [(hB a ha).len, (hB b hb).len]) (hB a ha).bd (hB b hb).bd z)
  have := q.1
  omega
/-- the scope of the comprehension over the old rows -/
def oldScope : Scope := { kind := .function, names := [(Str.ofString ".0", .local), (Str.ofString "_law_old", .local), (Str.ofString "tuple", .globalImplicit), (Str.ofString "zip", .globalImplicit), (Str.ofString "_law_factor", .cell), (Str.ofString "_law_prime", .cell), (Str.ofString "_law_row", .cell)], isGenerator := false, isCoroutine := false }
def rInt1 : List V → Hp → VK → Prop := fun xs H Q => (∃ i, xs = [.int i] ∧ Q (.int i) H) ∨ ∃ k, xs = [.bl k] ∧ Q (.int (if k then 1 else 0)) H
def teIn (K : PySem.W.Frag) : TE := tThen (tLc (RZ.iZipA K (tCons (tVar 7) (tCons (tVar 4) tNil))) (gTup K 2 (gCons (gName 8) (gCons (gName 9) gNil))) tYes
  (tOp (rI (fun _ j => 0 < j) fun i j => .int (i % j)) (tCB rInt1 (tCons (tOp (rI0 fun i j => .int (i + j)) (tVar 8) (tOp (rI CMul fun i j => .int (i * j)) (tVar 6) (tVar 9))) tNil)) (tVar 1)) [8, 9]) (kTup K)
theorem stp {H : Hp} {t : Addr} {o : HO} (n : H t = none) : Same H (upd H t o) ∧ upd H t o t = some o := ⟨same_new n, upd_same⟩
theorem line1 : (1 : Nat) ≤ sizeLine := by decide
theorem span_nodup {p : Int} {n : Nat} {R : List Int → Prop} {L : List (List Int)} (h : IsSpan p n (TS.code p) R L) : L.Nodup := List.Pairwise.imp (fun {a b} q e => by rw [e] at q; omega) h.asc
theorem mem_fs {qs : Qs} {v : List Int} : v ∈ fs qs ↔ ∃ q ∈ qs, q.2 = v := List.mem_map
/-- the rows behind so many factors -/
def Upto (p : Int) (qf : Qs) (row : List Int) (j : Nat) (v : List Int) : Prop := ∃ u f, u ∈ fs qf ∧ 0 ≤ f ∧ f < (j : Int) ∧ v = addR p u row f
theorem upto_zero {p : Int} {qf : Qs} {row v : List Int} : ¬ Upto p qf row 0 v := fun ⟨_, f, _, h0, h1, _⟩ => by
  have : f < 0 := h1
  omega
theorem upto_succ {p : Int} {qf : Qs} {row v : List Int} {j : Nat} : Upto p qf row (j + 1) v ↔ Upto p qf row j v ∨ v ∈ (fs qf).map fun u => addR p u row (j : Int) := by
  constructor
  · rintro ⟨u, f, hu, h0, h1, e⟩
    by_cases z : f = (j : Int)
    · subst z
      exact .inr (List.mem_map.mpr ⟨u, hu, e.symm⟩)
    · exact .inl ⟨u, f, hu, h0, by omega, e⟩
  · rintro (⟨u, f, hu, h0, h1, e⟩ | h)
    · exact ⟨u, f, hu, h0, by omega, e⟩
    · obtain ⟨u, hu, e⟩ := List.mem_map.mp h
      exact ⟨u, j, hu, by omega, by omega, e.symm⟩
theorem few_of {p : Int} {n : Nat} (fr : Frm p n) {L : List (List Int)} (nd : L.Nodup) (h : ∀ r ∈ L, Nrm p n r) : L.length ≤ 49 := Nat.le_trans (Lr.few_rows nd h) fr.few
section
variable {P : Program} {w : World} {K : PySem.W.Frag} {mg : Str → Option Value} {base : Heap} {CS CP : Addr}
def spSpan (K : PySem.W.Frag) : Sp := fun vs H Q _ => ∃ (l : Addr) (p : Int) (n : Nat) (qs : Qs), vs = [.ref l, .int p, .int (n : Int)] ∧ RowsAt K H l qs ∧ qs.length ≤ 100 ∧ Frm p n ∧ Fine p n qs ∧
  ∀ H' b qf, Same H H' → RowsAt K H' b qf → H' b = some (.lst (qf.map fun q => V.ref q.1)) → IsSpan p n (TS.code p) (· ∈ fs qs) (fs qf) → Q (.ref b) H'
theorem ok_span (T : Txt K mg CS CP) : DefOk P w K mg base 1 "_law_span" ["_law_rows", "_law_prime", "_law_size"] (spSpan K) := by
  obtain ⟨f, fd, gm, F, b⟩ := T.tLawSpan.ex
  refine ⟨f, fd, gm, F.kp, F.ok scLawSpan (fun vs H Q E h => ?_) (fun cdv A outer s H vs Q E hr h => ?_), b⟩
  · obtain ⟨l, p, n, qs, rfl, _⟩ := h
    rfl
  · obtain ⟨l, p, n, qs, rfl, hR, hlen, fr, fine, k⟩ := h
    refine ⟨_, pss_cons (ps_set (i := 3) scLawSpan.nd rfl (.inl rfl) (pe_lst (pa_cons (pe_op op_zeros (pe_tup (pa_cons pe_int pa_nil)) (pv 2)) pa_nil)))
      (pss_cons (ps_for PassesOwn.never rfl (pi_list (pv 0)) (pg_name (i := 4) scLawSpan.nd rfl (.inr rfl))
        (pss_cons (ps_set (i := 5) scLawSpan.nd rfl (.inl rfl) (pe_lst pa_nil))
        (pss_cons (ps_for PassesOwn.never rfl (pi_range1 (by rfl) T.zRange (pa_cons (pv 1) pa_nil)) (pg_name (i := 6) scLawSpan.nd rfl (.inr rfl))
          (pss_one (ps_set (i := 5) scLawSpan.nd rfl (.inl rfl) (pe_op op_cat (pv 5) (pe_lc (own := [("_law_old", 7)]) (g := gName 7) rfl scLawSpan.nd (pi_list (pv 3)) (blkOk_by (N := ["_law_rows", "_law_prime", "_law_size", "_law_found", "_law_row", "_law_longer", "_law_factor", "_law_old", "_law_one", "_law_two"]) (sc := defScope sLawSpan) (by decide +kernel))
            (fun _ _ _ _ _ => pg_name (i := 7) scLawSpan.nd rfl (.inl rfl)) (fun _ _ _ _ _ => pts_nil)
            (fun _ _ _ _ _ => show PE _ _ (teIn K) from pe_tupleOf (by rfl) T.zTuple (pe_lc (own := [("_law_one", 8), ("_law_two", 9)]) (g := gTup K 2 (gCons (gName 8) (gCons (gName 9) gNil))) rfl scLawSpan.nd (RZ.pi_zipA (by rfl) T.zZip (pa_cons (pv 7) (pa_cons (pv 4) pa_nil)))
              (blkOk_by (N := ["_law_rows", "_law_prime", "_law_size", "_law_found", "_law_row", "_law_longer", "_law_factor", "_law_old", "_law_one", "_law_two"]) (sc := oldScope) (by decide +kernel))
              (fun _ _ _ _ _ => pg_tup rfl (pgs_cons (pg_name (i := 8) scLawSpan.nd rfl (.inl rfl)) (pgs_cons (pg_name (i := 9) scLawSpan.nd rfl (.inl rfl)) pgs_nil))) (fun _ _ _ _ _ => pts_nil)
              (fun _ _ _ _ _ => pe_op op_mod (pe_callTy call_int1 (by rfl) T.zInt (by decide +kernel) (pa_cons (pe_op op_add (pv 8) (pe_op op_mul (pv 6) (pv 9))) pa_nil)) (pv 1)))))))))
        (pss_one (ps_set (i := 3) scLawSpan.nd rfl (.inl rfl) (pe_callB (cr_sortedT rfl) (by rfl) T.zSorted (by decide +kernel) (pa_cons (pe_callTy (cr_setT rfl hr.units) (by rfl) T.zSet (by decide +kernel) (pa_cons (pv 5) pa_nil)) pa_nil)))))))
      (pss_one (ps_ret (pv 3)))), ?_⟩
    have hpos := fr.prm.pos
    have h1n := fr.one
    have h4n := fr.four
    have hp7 : p ≤ 7 := by
      have hp := fr.prm
      unfold Prm at hp
      omega
    -- found = [(0,) * size]
    refine ⟨line1, fun t1 n1 => ?_⟩
    obtain ⟨s1, c1⟩ := stp (o := .tup [.int 0]) n1
    generalize upd H t1 (.tup [.int 0]) = H1 at s1 c1 ⊢
    refine ⟨_, rfl, t1, (n : Int), rfl, rfl, SqT.of c1, by omega, by omega, fun z H2 s2 hz => ⟨line1, fun c0 n3 => ?_⟩⟩
    obtain ⟨s3, c3⟩ := stp (o := .lst [.ref z]) n3
    generalize upd H2 c0 (.lst [.ref z]) = H3 at s3 c3 ⊢
    have s03 : Same H H3 := (s1.trans s2).trans s3
    -- for row in rows
    refine ⟨_, rfl, l, rfl, ⟨_, s03.seq hR.ls⟩, for_list (K := K) (a := l) (xs := qs.map fun q => V.ref q.1) (fun i σ H' => ∃ c qf v4 v5 v6, σ = [some (.ref l), some (.int p), some (.int (n : Int)), some (.ref c), v4, v5, v6, none, none, none] ∧
        Same H H' ∧ H' c = some (.lst (qf.map fun q => V.ref q.1)) ∧ (∀ q ∈ qf, SqT K H' q.1 (q.2.map V.int)) ∧ IsSpan p n (TS.code p) (· ∈ fs (qs.take i)) (fs qf))
      ⟨c0, [(z, zeroR n)], none, none, none, rfl, s03, c3, fun q hq => ?_, Lr.isSpan_start (fun r y => nomatch y)⟩ (fun i σ H' _ ⟨_, _, _, _, _, _, sm, _⟩ => sm.seq hR.ls) ?_ ?_⟩
    · rw [List.mem_singleton.mp hq]
      exact same_tup s3 hz
    · rintro i x σ H4 hx ⟨c, qf, v4, v5, v6, rfl, sm, hc, hts, isp⟩
      obtain ⟨q, hq, rfl, hm⟩ := get_ref hx
      have nq := fine.nrm q hm
      have hRn : ∀ r, r ∈ fs (qs.take i) → r.length = n := fun r hr' => fine.len r (fs_take_sub hr')
      have hun : ∀ u, u ∈ fs qf → Nrm p n u := fun u hu => Lr.Span.nrm hpos hRn ((isp.mem u).mp hu)
      have lqf : qf.length ≤ 49 := by
        have := few_of fr (span_nodup isp) hun
        rw [List.length_map] at this
        exact this
      -- longer = []
      refine ⟨Nat.zero_le _, step fun D0 H5 n5 s5 c5 => ?_⟩
      -- for factor in range(prime)
      refine ⟨_, rfl, p, rfl, by omega, by omega, for_range (n := p.toNat) (fun j σ H' => ∃ D ql v6, σ = [some (.ref l), some (.int p), some (.int (n : Int)), some (.ref c), some (.ref q.1), some (.ref D), v6, none, none, none] ∧
          Same H5 H' ∧ H' D = some (.lst (ql.map fun q => V.ref q.1)) ∧ (∀ q ∈ ql, SqT K H' q.1 (q.2.map V.int)) ∧ (∀ v, v ∈ fs ql ↔ Upto p qf q.2 j v) ∧ ql.length = j * qf.length)
        ⟨D0, [], v6, rfl, Same.refl _, c5, (fun _ y => nomatch y), fun v => ⟨fun y => (nomatch y), fun y => (upto_zero y).elim⟩, by rw [Nat.zero_mul]; rfl⟩ ?_ ?_⟩
      · rintro j σ H6 hj ⟨D, ql, v6', rfl, sm6, hD, htl, hup, hll⟩
        have hc6 := sm6 _ _ (s5 _ _ hc)
        have ht6 : ∀ q ∈ qf, SqT K H6 q.1 (q.2.map V.int) := fun q hq => same_tup (s5.trans sm6) (hts q hq)
        have hq6 : SqT K H6 q.1 (q.2.map V.int) := same_tup ((sm.trans s5).trans sm6) (hR.ts q hm)
        obtain ⟨f, hf⟩ : ∃ f : Int, f = 0 + (j : Int) := ⟨_, rfl⟩
        rw [← hf]
        have f0 : 0 ≤ f := by omega
        have f7 : f < 7 := by omega
        -- [.. for old in found]
        refine ⟨_, rfl, _, rfl, c, rfl, ⟨_, SqL.of hc6⟩, fun E nE => lc_list (K := K) (a := c) (xs := qf.map fun q => V.ref q.1)
          (fun k H' => ∃ qn : Qs, Same H6 H' ∧ H' E = some (.lst (qn.map fun q => V.ref q.1)) ∧ (∀ q ∈ qn, SqT K H' q.1 (q.2.map V.int)) ∧ fs qn = (fs (qf.take k)).map fun u => addR p u q.2 f)
          ⟨[], same_new nE, upd_same, (fun _ y => nomatch y), rfl⟩ (fun k H' _ ⟨_, sm', _⟩ => SqL.of (sm' _ _ hc6)) ?_ ?_⟩
        · rintro k y H7 hy ⟨qn, sm7, hE, htn, hfn⟩
          obtain ⟨u, hu, rfl, hmu⟩ := get_ref hy
          have nu := hun u.2 (List.mem_map.mpr ⟨u, hmu, rfl⟩)
          have hlu : u.2.length = q.2.length := by rw [nu.len, nq.len]
          have hlen' : (addR p u.2 q.2 f).length = u.2.length := Lr.len_add rfl hlu.symm
          have hS : SqT K H7 u.1 (u.2.map V.int) := same_tup sm7 (ht6 u hmu)
          have hS2 : SqT K H7 q.1 (q.2.map V.int) := same_tup sm7 hq6
          refine ⟨rfl, yes_of ?_⟩
          refine ⟨_, rfl, _, rfl, u.1, q.1, u.2.map V.int, q.2.map V.int, rfl, .inr ⟨hS, hS2, fun Z nZ => lc_zipT (by rw [List.length_map, List.length_map]; exact hlu) (fun m H' => Same H7 H' ∧ H' Z = some (.lst (((addR p u.2 q.2 f).take m).map V.int))) ⟨same_new nZ, upd_same⟩
            (fun m H' h => ⟨same_tup h.1 hS, same_tup h.1 hS2⟩) ?_ ?_⟩⟩
          · rintro m a b T' H8 ha hb ⟨sm8, hZ⟩ nT
            have hi : m < u.2.length := by
              have := (List.getElem?_eq_some_iff.mp ha).1
              rw [List.length_map] at this
              exact this
            obtain rfl : a = .int (g u.2 m) := Option.some.inj (ha.symm.trans (get_int hi))
            obtain rfl : b = .int (g q.2 m) := Option.some.inj (hb.symm.trans (get_int (by omega)))
            refine ⟨T', [.int (g u.2 m), .int (g q.2 m)], rfl, SqT.of upd_same, rfl, .int (g u.2 m), [.int (g q.2 m)], rfl, .int (g q.2 m), [], rfl, rfl, rfl, yes_of ?_⟩
            have nTZ : Z ≠ T' := ne_of_none hZ nT
            refine ⟨_, rfl, _, rfl, _, rfl, _, _, rfl, rfl, .inl ⟨by omega, by omega⟩, _, _, rfl, rfl, .inl ⟨_, rfl, _, rfl, _, _, rfl, rfl, hpos, _, (upd_ne nTZ).trans hZ, ?_, fun b' o e => ?_, ?_⟩⟩
            · rw [List.length_map, List.length_take]
              exact small1000 (by rw [hlen', nu.len]; omega)
            · rw [upd_ne (ne_of_none e nZ)]
              exact same_new nT _ _ (sm8 _ _ e)
            · rw [upd_same, List.take_add_one, get_add hlu hi, List.map_append]
              rfl
          · rintro H8 ⟨sm8, hZ⟩
            rw [List.length_map, List.take_of_length_le (by rw [hlen']; exact Nat.le_refl _)] at hZ
            refine .inl ⟨Z, _, rfl, SqL.of hZ, fun t nt => ?_⟩
            obtain ⟨s9, c9⟩ := stp (o := .tup ((addR p u.2 q.2 f).map V.int)) nt
            generalize upd H8 t (.tup ((addR p u.2 q.2 f).map V.int)) = H9 at s9 c9 ⊢
            have s79 := sm8.trans s9
            have hE9 := s79 _ _ hE
            have hqn : qn.length ≤ qf.length := by
              have e := congrArg List.length hfn
              rw [List.length_map, List.length_map, List.length_map, List.length_take] at e
              omega
            refine ⟨_, hE9, ?_, qn ++ [(t, addR p u.2 q.2 f)], fun b' o e => ?_, ?_, fun q' hq' => ?_, ?_⟩
            · rw [List.length_map]
              exact small1000 (by omega)
            · rw [upd_ne (ne_of_none e nE)]
              exact s79 _ _ (sm7 _ _ e)
            · rw [upd_same, List.map_append]
              rfl
            · rcases List.mem_append.mp hq' with hq' | hq'
              · exact tup_upd (same_tup s79 (htn q' hq')) hE9
              · rw [List.mem_singleton.mp hq']
                exact tup_upd (SqT.of c9) hE9
            · rw [fs_snoc, hfn, fs_take hu, List.map_append]
              rfl
        · rintro H7 ⟨qn, sm7, hE, htn, hfn⟩
          rw [List.length_map, List.take_of_length_le (Nat.le_refl _)] at hfn
          have hln : qn.length = qf.length := by
            have e := congrArg List.length hfn
            rw [List.length_map, List.length_map, List.length_map] at e
            exact e
          have hmul : j * qf.length ≤ 7 * 49 := Nat.mul_le_mul (by omega) lqf
          refine ⟨D, E, _, _, rfl, rfl, sm7 _ _ hD, hE, ?_, step fun G H8 n8 s8 c8 => ?_⟩
          · rw [List.length_map, List.length_map]
            exact Nat.le_of_lt (small1000 (by omega))
          · refine ⟨G, ql ++ qn, _, rfl, (sm6.trans sm7).trans s8, by rw [List.map_append]; exact c8, fun q' hq' => ?_, fun v => ?_, ?_⟩
            · rcases List.mem_append.mp hq' with hq' | hq'
              · exact same_tup (sm7.trans s8) (htl q' hq')
              · exact same_tup s8 (htn q' hq')
            · have e : fs (ql ++ qn) = fs ql ++ fs qn := List.map_append
              rw [e, List.mem_append, hup, hfn, upto_succ, hf, Int.zero_add]
            · rw [List.length_append, hll, hln, Nat.succ_mul]
      · rintro σ H6 ⟨D, ql, v6', rfl, sm6, hD, htl, hup, hll⟩
        have hmul : p.toNat * qf.length ≤ 7 * 49 := Nat.mul_le_mul (by omega) lqf
        have hnl : ∀ q' ∈ ql, Nrm p n q'.2 := fun q' hq' => by
          obtain ⟨u, f, hu, _, _, e⟩ := (hup q'.2).mp (List.mem_map.mpr ⟨q', hq', rfl⟩)
          rw [e]
          exact Lr.nrm_add hpos (hun u hu).len nq.len
        -- found = sorted(set(longer))
        refine ⟨_, rfl, D, ql, rfl, SqL.of hD, htl, fun L nd hL => ?_, fun a L na h1 h2 => ?_⟩
        · have := few_of fr nd (fun r hr' => by
            obtain ⟨q', hq', e⟩ := List.mem_map.mp hr'
            rw [← e]
            exact hnl q' (hL q' hq'))
          rw [List.length_map] at this
          omega
        · have sa : Same H6 (upd H6 a (SetTO P w a L)) := same_new na
          refine ⟨a, L, n, p, rfl, upd_same, fun q' hq' => same_tup sa (htl q' (h1 q' hq')), h1n, fun q' hq' => ⟨(hnl q' (h1 q' hq')).len, (hnl q' (h1 q' hq')).bd⟩, fun L' c' pm nd lt pw nc => ?_⟩
          have sc : Same H6 (upd (upd H6 a (SetTO P w a L)) c' (.lst (L'.map fun q => V.ref q.1))) := sa.trans (same_new nc)
          have hL' : ∀ q' ∈ L', q' ∈ ql := fun q' hq' => h1 q' (pm.mem_iff.mp hq')
          refine ⟨c', L', _, _, _, rfl, (sm.trans s5).trans (sm6.trans sc), upd_same, fun q' hq' => same_tup sc (htl q' (hL' q' hq')), ⟨fun v => ?_, asc_of (fun q' hq' => hnl q' (hL' q' hq')) nd pw⟩⟩
          rw [span_take hq, Lr.span_step hpos hRn nq.len]
          have e1 : v ∈ fs L' ↔ v ∈ fs ql := by
            constructor
            · intro hv
              obtain ⟨q', hq', e⟩ := List.mem_map.mp hv
              exact List.mem_map.mpr ⟨q', hL' q' hq', e⟩
            · intro hv
              obtain ⟨q', hq', e⟩ := List.mem_map.mp hv
              obtain ⟨q2, hq2, e2⟩ := List.mem_map.mp (h2 q' hq')
              exact List.mem_map.mpr ⟨q2, pm.mem_iff.mpr hq2, e2.trans e⟩
          rw [e1, hup]
          constructor
          · rintro ⟨u, f, hu, g0, g1, e⟩
            exact ⟨u, f, (isp.mem u).mp hu, g0, by omega, e⟩
          · rintro ⟨u, f, hu, g0, g1, e⟩
            exact ⟨u, f, (isp.mem u).mpr hu, g0, by omega, e⟩
    · rintro σ H4 ⟨c, qf, v4, v5, v6, rfl, sm, hc, hts, isp⟩
      rw [List.length_map, List.take_of_length_le (Nat.le_refl _)] at isp
      exact ⟨_, rfl, k H4 c qf sm ⟨SqL.of hc, hts⟩ hc isp⟩
end
end LrD
/-! all data, a made space, a number, the leads -/
namespace LrD
open PySem L2 SlX LrT LrB
open Lr (g addR scaleR restOf zeroR Nrm Prm Frm Red SRed Span IsSpan)
theorem SumAt.upd {K : PySem.W.Frag} {CS : Addr} {H : Hp} {x a D : Addr} {p : Int} {r : List Int} {ys : List V} {o : HO} (h : SumAt K CS H x p a r) (hD : H D = some (.lst ys)) : SumAt K CS (upd H D o) x p a r := by
  obtain ⟨dx, h1, h2⟩ := h
  refine ⟨dx, ?_, tup_upd h2 hD⟩
  rcases h1 with ⟨g1, g2⟩ | ⟨g1, g2⟩
  · cases g2
  · exact .inr ⟨by rw [upd_ne (ne_of g1 hD (fun w => by unfold SlO at w; cases w))]; exact g1, by rw [upd_ne (ne_of g2 hD (fun w => nomatch w))]; exact g2⟩
section
variable {P : Program} {w : World} {K : PySem.W.Frag} {mg : Str → Option Value} {base : Heap} {CS CP : Addr}
def spAllData (K : PySem.W.Frag) : Sp := fun vs H Q _ => ∃ (p : Int) (n : Nat), vs = [.int p, .int (n : Int)] ∧ Frm p n ∧ ∀ H' b qf, Same H H' → RowsAt K H' b qf → H' b = some (.lst (qf.map fun q => V.ref q.1)) → Fine p n qf → qf.length ≤ 49 → Q (.ref b) H'
theorem ok_allData (T : Txt K mg CS CP) : DefOk P w K mg base 1 "_law_all_data" ["_law_prime", "_law_size"] (spAllData K) := by
  obtain ⟨f, fd, gm, F, b⟩ := T.tLawAllData.ex
  refine ⟨f, fd, gm, F.kp, F.ok scLawAllData (fun vs H Q E h => ?_) (fun cdv A outer s H vs Q E hr h => ?_), b⟩
  · obtain ⟨p, n, rfl, _⟩ := h
    rfl
  · obtain ⟨p, n, rfl, fr, k⟩ := h
    refine ⟨_, pss_cons (ps_set (i := 2) scLawAllData.nd rfl (.inl rfl) (pe_lst (pa_cons (pe_tup pa_nil) pa_nil)))
      (pss_cons (ps_for PassesOwn.never rfl (pi_range1 (by rfl) T.zRange (pa_cons (pv 1) pa_nil)) (pg_name (i := 3) scLawAllData.nd rfl (.inl rfl))
        (pss_cons (ps_set (i := 4) scLawAllData.nd rfl (.inl rfl) (pe_lst pa_nil))
        (pss_cons (ps_for PassesOwn.never rfl (pi_list (pv 2)) (pg_name (i := 5) scLawAllData.nd rfl (.inr rfl))
          (pss_one (ps_set (i := 4) scLawAllData.nd rfl (.inl rfl) (pe_op op_cat (pv 4) (pe_lc (own := [("_law_value_here", 6)]) (g := gName 6) rfl scLawAllData.nd (pi_range1 (by rfl) T.zRange (pa_cons (pv 0) pa_nil)) (blkOk_by (N := ["_law_prime", "_law_size", "_law_found", "_law_place", "_law_longer", "_law_data", "_law_value_here"]) (sc := defScope sLawAllData) (by decide +kernel))
            (fun _ _ _ _ _ => pg_name (i := 6) scLawAllData.nd rfl (.inl rfl)) (fun _ _ _ _ _ => pts_nil)
            (fun _ _ _ _ _ => pe_op (r := rCatA K) op_catA (pv 5) (pe_tup (pa_cons (pv 6) pa_nil))))))))
        (pss_one (ps_set (i := 2) scLawAllData.nd rfl (.inl rfl) (pv 4))))))
      (pss_one (ps_ret (pv 2)))), ?_⟩
    have hpos := fr.prm.pos
    have h4n := fr.four
    have hp7 : p ≤ 7 := by
      have hp := fr.prm
      unfold Prm at hp
      omega
    have hpow : ∀ i, i ≤ n → p.toNat ^ i ≤ 49 := fun i hi => Nat.le_trans (Nat.pow_le_pow_right (by omega) hi) fr.few
    refine ⟨Nat.zero_le _, fun t0 nt => ?_⟩
    obtain ⟨s1, c1⟩ := stp (o := .tup []) nt
    generalize upd H t0 (.tup []) = H1 at s1 c1 ⊢
    refine ⟨line1, fun c0 nc => ?_⟩
    obtain ⟨s2, c2⟩ := stp (o := .lst [.ref t0]) nc
    generalize upd H1 c0 (.lst [.ref t0]) = H2 at s2 c2 ⊢
    -- for place in range(size)
    refine ⟨_, rfl, (n : Int), rfl, by omega, by omega, for_range (n := n) (fun i σ H' => ∃ c qf v3 v4 v5, σ = [some (.int p), some (.int (n : Int)), some (.ref c), v3, v4, v5, none] ∧ Same H H' ∧ H' c = some (.lst (qf.map fun q => V.ref q.1)) ∧
        (∀ q ∈ qf, SqT K H' q.1 (q.2.map V.int)) ∧ Fine p i qf ∧ qf.length = p.toNat ^ i)
      ⟨c0, [(t0, [])], none, none, none, rfl, s1.trans s2, c2, fun q hq => ?_, ⟨fun q hq => ?_⟩, rfl⟩ ?_ ?_⟩
    · rw [List.mem_singleton.mp hq]
      exact same_tup s2 (SqT.of c1)
    · rw [List.mem_singleton.mp hq]
      exact ⟨rfl, fun _ y => nomatch y⟩
    · rintro i σ H3 hi ⟨c, qf, v3, v4, v5, rfl, sm, hc, hts, fine, hl⟩
      have lqf : qf.length ≤ 49 := by
        rw [hl]
        exact hpow i (by omega)
      -- longer = []
      refine ⟨Nat.zero_le _, fun D0 nD => ?_⟩
      obtain ⟨s4, c4⟩ := stp (o := .lst []) nD
      generalize upd H3 D0 (.lst []) = H4 at s4 c4 ⊢
      -- for data in found
      refine ⟨_, rfl, c, rfl, ⟨_, SqL.of (s4 _ _ hc)⟩, for_list (K := K) (a := c) (xs := qf.map fun q => V.ref q.1) (fun j σ H' => ∃ D ql v5, σ = [some (.int p), some (.int (n : Int)), some (.ref c), some (.int (0 + (i : Int))), some (.ref D), v5, none] ∧ Same H4 H' ∧
          H' D = some (.lst (ql.map fun q => V.ref q.1)) ∧ (∀ q ∈ ql, SqT K H' q.1 (q.2.map V.int)) ∧ Fine p (i + 1) ql ∧ ql.length = j * p.toNat)
        ⟨D0, [], v5, rfl, Same.refl _, c4, (fun _ y => nomatch y), ⟨fun _ y => nomatch y⟩, by rw [Nat.zero_mul]; rfl⟩ (fun j σ H' _ ⟨_, _, _, _, sm', _⟩ => SqL.of (sm' _ _ (s4 _ _ hc))) ?_ ?_⟩
      · rintro j x σ H5 hx ⟨D, ql, v5', rfl, sm5, hD, htl, fil, hll⟩
        obtain ⟨u, hu, rfl, hmu⟩ := get_ref hx
        have hj : j < qf.length := (List.getElem?_eq_some_iff.mp hu).1
        have nu := fine.nrm u hmu
        have hS : SqT K H5 u.1 (u.2.map V.int) := same_tup (s4.trans sm5) (hts u hmu)
        refine ⟨_, rfl, _, rfl, p, rfl, by omega, by omega, fun E nE => lc_range (n := p.toNat) (fun k H' => ∃ qn : Qs, Same H5 H' ∧ H' E = some (.lst (qn.map fun q => V.ref q.1)) ∧ (∀ q ∈ qn, SqT K H' q.1 (q.2.map V.int)) ∧ Fine p (i + 1) qn ∧ qn.length = k)
          ⟨[], same_new nE, upd_same, (fun _ y => nomatch y), ⟨fun _ y => nomatch y⟩, rfl⟩ ?_ ?_⟩
        · rintro k' H6 hk ⟨qn, sm6, hE, htn, fin, hln⟩
          obtain ⟨v, hv⟩ : ∃ v : Int, v = 0 + (k' : Int) := ⟨_, rfl⟩
          rw [← hv]
          refine ⟨rfl, yes_of ?_⟩
          refine ⟨_, rfl, _, rfl, line1, fun t1 n1 => ?_⟩
          obtain ⟨s7, c7⟩ := stp (o := .tup [.int v]) n1
          generalize upd H6 t1 (.tup [.int v]) = H7 at s7 c7 ⊢
          have done : ∀ t H8, Same H7 H8 → SqT K H8 t ((u.2 ++ [v]).map V.int) → ∃ acc, H8 E = some (.lst acc) ∧ acc.length < sizeLine ∧ ∃ qn : Qs, Same H5 (upd H8 E (.lst (acc ++ [.ref t]))) ∧ upd H8 E (.lst (acc ++ [.ref t])) E = some (.lst (qn.map fun q => V.ref q.1)) ∧
              (∀ q ∈ qn, SqT K (upd H8 E (.lst (acc ++ [.ref t]))) q.1 (q.2.map V.int)) ∧ Fine p (i + 1) qn ∧ qn.length = k' + 1 := fun t H8 s8 ht => by
            have s68 := s7.trans s8
            have hE8 := s68 _ _ hE
            refine ⟨_, hE8, ?_, qn ++ [(t, u.2 ++ [v])], fun b' o e => ?_, ?_, fun q' hq' => ?_, ⟨fun q' hq' => ?_⟩, ?_⟩
            · rw [List.length_map]
              exact small1000 (by omega)
            · rw [upd_ne (ne_of_none e nE)]
              exact s68 _ _ (sm6 _ _ e)
            · rw [upd_same, List.map_append]
              rfl
            · rcases List.mem_append.mp hq' with hq' | hq'
              · exact tup_upd (same_tup s68 (htn q' hq')) hE8
              · rw [List.mem_singleton.mp hq']
                exact tup_upd ht hE8
            · rcases List.mem_append.mp hq' with hq' | hq'
              · exact fin.nrm q' hq'
              · rw [List.mem_singleton.mp hq']
                refine ⟨?_, fun y hy => ?_⟩
                · show (u.2 ++ [v]).length = i + 1
                  rw [List.length_append, nu.len]
                  rfl
                · rcases List.mem_append.mp hy with hy | hy
                  · exact nu.bd y hy
                  · rw [List.mem_singleton.mp hy]
                    omega
            · rw [List.length_append, hln]
              rfl
          refine ⟨u.1, t1, u.2.map V.int, [.int v], rfl, rfl, same_tup (sm6.trans s7) hS, SqT.of c7, ?_, fun e => ?_, fun _ e => (nomatch e), fun e _ t nt => ?_⟩
          · rw [List.length_map, nu.len]
            exact Nat.le_of_lt (small1000 (by show i + 1 ≤ 1000; omega))
          · have e2 : u.2 = [] := List.map_eq_nil_iff.mp e
            refine done t1 H7 (Same.refl _) ?_
            rw [e2]
            exact SqT.of c7
          · refine done t _ (same_new nt) (SqT.of ?_)
            rw [upd_same, List.map_append]
            rfl
        · rintro H6 ⟨qn, sm6, hE, htn, fin, hln⟩
          have hmul : j * p.toNat ≤ 49 * 7 := Nat.mul_le_mul (by omega) (by omega)
          refine ⟨D, E, _, _, rfl, rfl, sm6 _ _ hD, hE, ?_, fun G nG => ?_⟩
          · rw [List.length_map, List.length_map]
            exact Nat.le_of_lt (small1000 (by omega))
          · have s8 := same_new (o := .lst ((ql.map fun q => V.ref q.1) ++ qn.map fun q => V.ref q.1)) nG
            refine ⟨G, ql ++ qn, _, rfl, (sm5.trans sm6).trans s8, by rw [upd_same, List.map_append], fun q' hq' => ?_, ⟨fun q' hq' => ?_⟩, ?_⟩
            · rcases List.mem_append.mp hq' with hq' | hq'
              · exact same_tup (sm6.trans s8) (htl q' hq')
              · exact same_tup s8 (htn q' hq')
            · rcases List.mem_append.mp hq' with hq' | hq'
              · exact fil.nrm q' hq'
              · exact fin.nrm q' hq'
            · rw [List.length_append, hll, hln, Nat.succ_mul]
      · rintro σ H5 ⟨D, ql, v5', rfl, sm5, hD, htl, fil, hll⟩
        rw [List.length_map, hl] at hll
        exact ⟨_, rfl, D, ql, _, _, _, rfl, (sm.trans s4).trans sm5, hD, htl, fil, by rw [hll, Nat.pow_succ]⟩
    · rintro σ H3 ⟨c, qf, v3, v4, v5, rfl, sm, hc, hts, fine, hl⟩
      exact ⟨_, rfl, k H3 c qf sm ⟨SqL.of hc, hts⟩ hc fine (by rw [hl]; exact hpow n (Nat.le_refl _))⟩
def spMade (K : PySem.W.Frag) (CS CP : Addr) : Sp := fun vs H Q _ => ∃ (l : Addr) (p : Int) (n : Nat) (qs : Qs), vs = [.int p, .int (n : Int), .ref l] ∧ RowsAt K H l qs ∧ qs.length ≤ 100 ∧ Frm p n ∧ Fine p n qs ∧
  ∀ H' z ws, Same H H' → SpaceAt K CS CP H' z p n ws → (∀ v, Span p n (· ∈ fs (qsOf ws)) v ↔ Span p n (· ∈ fs qs) v) → Q (.ref z) H'
theorem ok_made (T : Txt K mg CS CP) : DefOk P w K mg base 9 "_law_made" ["_law_prime", "_law_size", "_law_rows"] (spMade K CS CP) := by
  obtain ⟨f, fd, gm, F, b⟩ := T.tLawMade.ex
  obtain ⟨fI, fdI, MI, GI, bI⟩ := (ok_sumInit (P := P) (w := w) (base := base) T).ex
  obtain ⟨fS, fdS, MS, GS, bS⟩ := (ok_spaceInit (P := P) (w := w) (base := base) T).ex
  refine ⟨f, fd, gm, F.kp, F.ok scLawMade (fun vs H Q E h => ?_) (fun cdv A outer s H vs Q E hr h => ?_), b⟩
  · obtain ⟨l, p, n, qs, rfl, _⟩ := h
    rfl
  · obtain ⟨l, p, n, qs, rfl, hR, hlen, fr, fine, k⟩ := h
    have hr6 : Room 6 _ := hr.mono (by decide)
    refine ⟨_, pss_one (ps_ret (pe_make MS GS hr (by rfl) T.kSpace.gl bS .nil pass0 (pa_cons (pv 0) (pa_cons (pv 1) (pa_cons (pe_lc (own := [("_law_row", 3)]) rfl scLawMade.nd (pi_list (pv 2)) (blkOk_by (N := ["_law_prime", "_law_size", "_law_rows", "_law_row"]) (sc := defScope sLawMade) (by decide +kernel))
          (fun _ _ _ _ _ => pg_name (i := 3) scLawMade.nd rfl (.inl rfl)) (fun _ _ _ _ _ => pts_nil) (fun _ _ _ _ _ => pe_make MI GI hr6 (by rfl) T.kSum.gl bI .nil pass0 (pa_cons (pv 0) (pa_cons (pv 3) pa_nil)))) pa_nil))))), ?_⟩
    refine ⟨_, rfl, _, rfl, _, rfl, l, rfl, ⟨_, hR.ls⟩, fun D nD => lc_list (K := K) (a := l) (xs := qs.map fun q => V.ref q.1)
      (fun i H' => ∃ us : Ws, Same H H' ∧ H' D = some (.lst (us.map fun w => V.ref w.1)) ∧ (∀ w ∈ us, SumAt K CS H' w.1 p w.2.1 w.2.2) ∧ qsOf us = qs.take i)
      ⟨[], same_new nD, upd_same, (fun _ y => nomatch y), rfl⟩ (fun i H' _ ⟨_, sm, _⟩ => sm.seq hR.ls) ?_ ?_⟩
    · rintro i x H1 hx ⟨us, sm, hD, hs, hu⟩
      obtain ⟨q, hq, rfl, hm⟩ := get_ref hx
      refine ⟨rfl, yes_of ?_⟩
      refine ⟨_, rfl, _, rfl, fun x dx nx ndx hdx => sum_made nx ndx hdx fr (same_tup sm (hR.ts q hm)) (fine.nrm q hm) fun H2 s2 hs2 => ?_⟩
      have hD2 := s2 _ _ hD
      have hl2 : us.length ≤ qs.length := by
        have e := congrArg List.length hu
        rw [List.length_map, List.length_take] at e
        omega
      refine ⟨_, hD2, ?_, us ++ [(x, q)], fun b' o e => ?_, ?_, fun w hw => ?_, ?_⟩
      · rw [List.length_map]
        exact small1000 (by omega)
      · rw [upd_ne (ne_of_none e nD)]
        exact s2 _ _ (sm _ _ e)
      · rw [upd_same, List.map_append]
        rfl
      · rcases List.mem_append.mp hw with hw | hw
        · exact ((hs w hw).same s2).upd hD2
        · rw [List.mem_singleton.mp hw]
          exact hs2.upd hD2
      · rw [qs_snoc, hu, take_snoc hq]
    · rintro H1 ⟨us, sm, hD, hs, hu⟩
      rw [List.length_map, List.take_of_length_le (Nat.le_refl _)] at hu
      have hl2 : us.length = qs.length := by
        have e := congrArg List.length hu
        rw [List.length_map] at e
        exact e
      intro z dz nz nd hne
      refine ⟨z, dz, D, p, n, us, H1, rfl, hne, upd_same, by rw [upd_ne hne, upd_same], fr, nz, nd, same_mk nz nd, ⟨hD, hs⟩, by omega, fun w hw => ?_, fun H' ws s' hz hsp => ⟨rfl, k H' z ws (sm.trans s') hz ?_⟩⟩
      · exact fine.nrm w.2 (by rw [← hu]; exact List.mem_map.mpr ⟨w, hw, rfl⟩)
      · intro v
        rw [hsp v, hu]
def spNumber : Sp := fun vs H Q _ => ∃ (p : Int) (m : Nat), vs = [.int p, .int (m : Int)] ∧ Prm p ∧ m ≤ 6 ∧ Q (.int (p ^ m)) H
theorem ok_number (T : Txt K mg CS CP) : DefOk P w K mg base 1 "_law_number" ["_law_prime", "_law_count"] spNumber := by
  obtain ⟨f, fd, gm, F, b⟩ := T.tLawNumber.ex
  refine ⟨f, fd, gm, F.kp, F.ok scLawNumber (fun vs H Q E h => ?_) (fun cdv A outer s H vs Q E hr h => ?_), b⟩
  · obtain ⟨x, n, rfl, _⟩ := h
    rfl
  · obtain ⟨x, n, rfl, hp, hn, q⟩ := h
    refine ⟨_, pss_cons (ps_set (i := 2) scLawNumber.nd rfl (.inl rfl) pe_int)
      (pss_cons (ps_for PassesOwn.never rfl (pi_range1 (by rfl) T.zRange (pa_cons (pv 1) pa_nil)) (pg_name (i := 3) scLawNumber.nd rfl (.inl rfl)) (pss_one (ps_set (i := 2) scLawNumber.nd rfl (.inl rfl) (pe_op op_mul (pv 2) (pv 0)))))
      (pss_one (ps_ret (pv 2)))), ?_⟩
    have x1 : 0 ≤ x ∧ x ≤ 7 := by
      unfold Prm at hp
      omega
    refine ⟨_, rfl, _, rfl, by omega, by omega, for_range (n := n) (fun i σ H' => ∃ v, σ = [some (.int x), some (.int (n : Int)), some (.int (x ^ i)), v] ∧ H' = H) ⟨none, by rw [Int.pow_zero]; rfl, rfl⟩ ?_ ?_⟩
    · rintro i σ H' hi ⟨v, rfl, rfl⟩
      refine ⟨_, rfl, _, rfl, _, _, rfl, rfl, .inr ⟨by omega, by omega⟩, some (.int (0 + (i : Int))), ?_, rfl⟩
      rw [Int.pow_succ]
      rfl
    · rintro σ H' ⟨v, rfl, rfl⟩
      exact ⟨_, rfl, q⟩
end
end LrD
/-! the leads -/
namespace LrD
open PySem L2 SlX LrT LrB
open Lr (g addR scaleR restOf zeroR Nrm Prm Frm Red SRed Span IsSpan)
/-- the scope of the comprehension over the rows -/
def rowScope : Scope := { kind := .function, names := [(Str.ofString ".0", .local), (Str.ofString "_law_row", .local)], isGenerator := false, isCoroutine := false }
def teLead (K : PySem.W.Frag) : TE := tBM K "list" (rIndex K) (tLc (iTup K (tVar 1)) (gName 2) tYes (tOp rNe (tVar 2) (tC (.int 0))) [2]) (tCons (tC (.bl true)) tNil)
def nzV (x : Int) : V := .bl (!decide (V.int x = V.int 0))
theorem nz_yes {x : Int} (h : x ≠ 0) : nzV x = .bl true := by
  unfold nzV
  rw [decide_eq_false fun z => h (V.int.inj z)]
  rfl
theorem nz_no {x : Int} (h : x = 0) : nzV x = .bl false := by
  unfold nzV
  rw [h, decide_eq_true rfl]
  rfl
theorem nz_flat (r : List Int) : (r.map nzV).all flatV = true := by
  rw [List.all_eq_true]
  intro x hx
  obtain ⟨y, _, e⟩ := List.mem_map.mp hx
  rw [← e]
  rfl
theorem get_nz {r : List Int} {i : Nat} (h : i < r.length) : (r.map nzV)[i]? = some (nzV (g r i)) := by
  rw [List.getElem?_map, Lr.get_of_g h]
  rfl
section
variable {P : Program} {w : World} {K : PySem.W.Frag} {mg : Str → Option Value} {base : Heap} {CS CP : Addr}
def spLeads (K : PySem.W.Frag) : Sp := fun vs H Q _ => ∃ (l : Addr) (qs : Qs), vs = [.ref l] ∧ RowsAt K H l qs ∧ qs.length ≤ 100 ∧ (∀ q ∈ qs, q.2.length ≤ 100 ∧ Lr.lead q.2 < q.2.length) ∧
  ∀ H' b, Same H H' → H' b = some (.lst ((qs.map fun q => ((Lr.lead q.2 : Nat) : Int)).map V.int)) → Q (.ref b) H'
theorem ok_leads (T : Txt K mg CS CP) : DefOk P w K mg base 1 "_law_leads" ["_law_rows"] (spLeads K) := by
  obtain ⟨f, fd, gm, F, b⟩ := T.tLawLeads.ex
  refine ⟨f, fd, gm, F.kp, F.ok scLawLeads (fun vs H Q E h => ?_) (fun cdv A outer s H vs Q E hr h => ?_), b⟩
  · obtain ⟨l, qs, rfl, _⟩ := h
    rfl
  · obtain ⟨l, qs, rfl, hR, hlen, hq, k⟩ := h
    refine ⟨_, pss_one (ps_ret (pe_lc (own := [("_law_row", 1)]) (g := gName 1) rfl scLawLeads.nd (pi_list (pv 0)) (blkOk_by (N := ["_law_rows", "_law_row", "_law_number_here"]) (sc := defScope sLawLeads) (by decide +kernel))
        (fun _ _ _ _ _ => pg_name (i := 1) scLawLeads.nd rfl (.inl rfl)) (fun _ _ _ _ _ => pts_nil)
        (fun _ _ _ _ _ => show PE _ _ (teLead K) from pe_bm PySem.F.plainAttrs_list PySem.F.slot_list_index PySem.F.type_list_index mt_index
          (pe_lc (own := [("_law_number_here", 2)]) (g := gName 2) rfl scLawLeads.nd (pi_tup (pv 1)) (blkOk_by (N := ["_law_rows", "_law_row", "_law_number_here"]) (sc := rowScope) (by decide +kernel))
            (fun _ _ _ _ _ => pg_name (i := 2) scLawLeads.nd rfl (.inl rfl)) (fun _ _ _ _ _ => pts_nil) (fun _ _ _ _ _ => pe_cmpR op_ne (pv 2) pe_int (nomark _))) (pa_cons pe_bl pa_nil)))), ?_⟩
    refine ⟨_, rfl, l, rfl, ⟨_, hR.ls⟩, fun D nD => lc_list (K := K) (a := l) (xs := qs.map fun q => V.ref q.1) (fun i H' => Same H H' ∧ H' D = some (.lst (((qs.take i).map fun q => ((Lr.lead q.2 : Nat) : Int)).map V.int)))
      ⟨same_new nD, upd_same⟩ (fun i H' _ h => h.1.seq hR.ls) ?_ ?_⟩
    · rintro i x H1 hx ⟨sm, hD⟩
      obtain ⟨q, hqi, rfl, hm⟩ := get_ref hx
      have hi : i < qs.length := (List.getElem?_eq_some_iff.mp hqi).1
      obtain ⟨hl, hlt⟩ := hq q hm
      have hT := same_tup sm (hR.ts q hm)
      refine ⟨rfl, yes_of ?_⟩
      refine ⟨_, rfl, q.1, rfl, ⟨_, hT⟩, fun E nE => lc_tup (K := K) (a := q.1) (xs := q.2.map V.int) (fun m H' => Same H1 H' ∧ H' E = some (.lst ((q.2.take m).map nzV))) ⟨same_new nE, upd_same⟩ (fun m H' _ h => same_tup h.1 hT) ?_ ?_⟩
      · rintro m y H2 hy ⟨sm2, hE⟩
        have hmi : m < q.2.length := by
          have := (List.getElem?_eq_some_iff.mp hy).1
          rw [List.length_map] at this
          exact this
        obtain rfl : y = .int (g q.2 m) := Option.some.inj (hy.symm.trans (get_int hmi))
        refine ⟨rfl, yes_of ⟨_, rfl, rfl, _, hE, ?_, fun b' o e => ?_, ?_⟩⟩
        · rw [List.length_map, List.length_take]
          exact small1000 (by omega)
        · rw [upd_ne (ne_of_none e nE)]
          exact sm2 _ _ e
        · rw [upd_same, take_snoc (Lr.get_of_g hmi), List.map_append]
          rfl
      · rintro H2 ⟨sm2, hE⟩
        rw [List.length_map, List.take_of_length_le (Nat.le_refl _)] at hE
        refine ⟨.inl ⟨rfl, _, SqL.of hE⟩, E, _, .bl true, Lr.lead q.2, nzV (g q.2 (Lr.lead q.2)), rfl, rfl, SqL.of hE, rfl, nz_flat _, get_nz hlt, by rw [nz_yes (Lr.lead_ne hlt)]; rfl, fun m z' hm' hz' => ?_, _, sm2 _ _ hD, ?_, fun b' o e => ?_, ?_⟩
        · obtain rfl : z' = nzV (g q.2 m) := Option.some.inj (hz'.symm.trans (get_nz (by omega)))
          rw [nz_no (Lr.lead_lt_g hm')]
          rfl
        · rw [List.length_map, List.length_map, List.length_take]
          exact small1000 (by omega)
        · rw [upd_ne (ne_of_none e nD)]
          exact sm2 _ _ (sm _ _ e)
        · rw [upd_same, take_snoc hqi, List.map_append, List.map_append]
          rfl
    · rintro H1 ⟨sm, hD⟩
      rw [List.length_map, List.take_of_length_le (Nat.le_refl _)] at hD
      exact k H1 D sm hD
end
end LrD
/-! the rows are reduced right -/
namespace LrD
open PySem L2 SlX LrT LrB
open Lr (g addR scaleR restOf zeroR Nrm Prm Frm Red SRed Span IsSpan)
theorem u65 {A : Around} {k : Nat} (r : Room k A) : A.units + 65 < cLine := by
  have := r.un
  omega
theorem sred_few {p : Int} {n : Nat} {F : List (List Int)} (h : SRed p n F) : F.length ≤ n := by
  have nd : (F.map Lr.lead).Nodup := List.pairwise_map.mpr (h.asc.imp fun {a b} q => by omega)
  have := Lr.nodup_sub_len (D := List.range n) nd fun x hx => by
    obtain ⟨r, hr, e⟩ := List.mem_map.mp hx
    rw [← e]
    exact List.mem_range.mpr (h.red.lt r hr)
  rw [List.length_map, List.length_range] at this
  exact this
/-- the leads as the law lists them -/
def leadsOf (qs : Qs) : List Int := qs.map fun q => ((Lr.lead q.2 : Nat) : Int)
theorem leads_asc {p : Int} {n : Nat} {qs : Qs} (h : SRed p n (fs qs)) : (leadsOf qs).Pairwise (· < ·) := by
  have a := List.pairwise_map.mp h.asc
  exact List.pairwise_map.mpr (a.imp fun {x y} q => by omega)
section
variable {P : Program} {w : World} {K : PySem.W.Frag} {mg : Str → Option Value} {base : Heap} {CS CP : Addr}
def spRR (K : PySem.W.Frag) (CS CP : Addr) : Sp := fun vs H Q _ => ∃ (z m : Addr) (p : Int) (n : Nat) (ws : Ws) (rs : Qs), vs = [.ref z, .ref m, .int p, .int (n : Int)] ∧ SpaceAt K CS CP H z p n ws ∧ RowsAt K H m rs ∧ IsSpan p n (TS.code p) (· ∈ fs (qsOf ws)) (fs rs) ∧
  ∀ H', Same H H' → Q (.bl true) H'
theorem ok_rr (T : Txt K mg CS CP) : DefOk P w K mg base 3 "_law_reduced_right" ["_law_space", "_law_span_here", "_law_prime", "_law_size"] (spRR K CS CP) := by
  obtain ⟨f, fd, gm, F, b⟩ := T.tLawReducedRight.ex
  obtain ⟨p1, g1, a1, b1, c1, d1, G1⟩ := (ok_reducedSums (P := P) (w := w) (base := base) T).ex
  obtain ⟨p2, g2, a2, b2, c2, d2, G2⟩ := (ok_sumFactors (P := P) (w := w) (base := base) T).ex
  obtain ⟨p3, g3, a3, b3, c3, d3, G3⟩ := (ok_isWhole (P := P) (w := w) (base := base) T).ex
  obtain ⟨fl, ml, nl, Gl'⟩ := (ok_len (P := P) (w := w) (base := base) T).ex
  obtain ⟨fN, fdN, gN, kN, GN, bN⟩ := (ok_number (P := P) (w := w) (base := base) T).ex
  obtain ⟨fL, fdL, gL, kL, GL, bL⟩ := (ok_leads (P := P) (w := w) (base := base) T).ex
  obtain ⟨fS, fdS, gS, kS, GS, bS⟩ := (ok_span (P := P) (w := w) (base := base) T).ex
  refine ⟨f, fd, gm, F.kp, F.ok scLawReducedRight (fun vs H Q E h => ?_) (fun cdv A outer s H vs Q E hr h => ?_), b⟩
  · obtain ⟨z, m, p, n, ws, rs, rfl, _⟩ := h
    rfl
  · obtain ⟨z, m, p, n, ws, rs, rfl, hz, hM, isp, k⟩ := h
    have hr1 : Room 1 _ := hr.mono (by decide)
    refine ⟨_, pss_cons (ps_setLc (i := 4) (own := [("_law_item", 8)]) (g := gName 8) rfl scLawReducedRight.nd rfl rfl (sw_true rfl rfl rfl (by decide +kernel)) (pi_tup (pe_propSl (E := E0) (pv 0) T.kSpace.sc a1 b1 c1 d1 G1 hr (fun _ _ _ _ h => h))) (blkOk_by (N := ["_law_space", "_law_span_here", "_law_prime", "_law_size", "_law_rows", "_law_leads_here", "_law_row", "_law_spot", "_law_item", "_law_other"]) (sc := defScope sLawReducedRight) (by decide +kernel))
          (fun _ _ _ _ _ => pg_name (i := 8) scLawReducedRight.nd rfl (.inl rfl)) (fun _ _ _ _ _ => pts_nil) (fun _ _ _ _ _ => pe_propSl (E := E0) (pv 8) T.kSum.sc a2 b2 c2 d2 G2 hr (fun _ _ _ _ h => h)))
      (pss_cons (ps_if (PW.pt (pw_or (pt_cmpR op_ne (pe_callB call_len_seq (by rfl) T.zLen PySem.boot_len (pa_cons (pv 4) pa_nil)) (pe_callB (call_lenSl ml nl Gl' hr) (by rfl) T.zLen PySem.boot_len (pa_cons (pv 0) pa_nil)) (nomark _))
          (pw_or (pt_cmpR op_ne (pe_call GN hr1 (by rfl) gN kN bN .nil pass0 (pa_cons (pv 2) (pa_cons (pe_callB call_len_seq (by rfl) T.zLen PySem.boot_len (pa_cons (pv 4) pa_nil)) pa_nil))) (pe_callB call_len_seq (by rfl) T.zLen PySem.boot_len (pa_cons (pv 1) pa_nil)) (nomark _))
          (pw_or1 (pt_cmpR (op_inD (u65 hr)) (pe_op op_zeros (pe_tup (pa_cons pe_int pa_nil)) (pv 3)) (pv 4) (by rfl)))))) (pss_one (ps_ret pe_bl)) pss_nil)
      (pss_cons (ps_set (i := 5) scLawReducedRight.nd rfl (.inl rfl) (pe_call GL hr1 (by rfl) gL kL bL .nil pass0 (pa_cons (pv 4) pa_nil)))
      (pss_cons (ps_if (PW.pt (pw_or (pt_cmpR (op_neD hr.units) (pv 5) (pe_callB (cr_sortedSet rfl) (by rfl) T.zSorted (by decide +kernel) (pa_cons (pe_callTy (cr_setI rfl) (by rfl) T.zSet (by decide +kernel) (pa_cons (pv 5) pa_nil)) pa_nil)) (nomark _))
          (pw_or1 (pt_cmpR (op_neD hr.units) (pe_call GS hr1 (by rfl) gS kS bS .nil pass0 (pa_cons (pv 4) (pa_cons (pv 2) (pa_cons (pv 3) pa_nil)))) (pv 1) (nomark _))))) (pss_one (ps_ret pe_bl)) pss_nil)
      (pss_cons (ps_for PassesOwn.never rfl (RZ.pi_zipA (by rfl) T.zZip (pa_cons (pv 4) (pa_cons (pv 5) pa_nil))) (pg_tup rfl (pgs_cons (pg_name (i := 6) scLawReducedRight.nd rfl (.inl rfl)) (pgs_cons (pg_name (i := 7) scLawReducedRight.nd rfl (.inr rfl)) pgs_nil)))
        (pss_one (ps_if (PW.pt (pw_or (pt_cmpR op_ne (pe_ix ix_tup (pv 6) (pv 7) (fun _ _ => rfl)) pe_int (nomark _))
          (pw_or1 (pt_cmpR op_ne (pe_callB (cr_sum rfl) (by rfl) T.zSum (by decide +kernel) (pa_cons (pe_lc (own := [("_law_other", 9)]) rfl scLawReducedRight.nd (pi_list (pv 4)) (blkOk_by (N := ["_law_space", "_law_span_here", "_law_prime", "_law_size", "_law_rows", "_law_leads_here", "_law_row", "_law_spot", "_law_item", "_law_other"]) (sc := defScope sLawReducedRight) (by decide +kernel))
            (fun _ _ _ _ _ => pg_name (i := 9) scLawReducedRight.nd rfl (.inl rfl)) (fun _ _ _ _ _ => pts_nil) (fun _ _ _ _ _ => pe_ix (r := rIxT K) ix_tup (pv 9) (pv 7) (fun _ _ => rfl))) pa_nil)) pe_int (nomark _))))) (pss_one (ps_ret pe_bl)) pss_nil)))
      (pss_one (ps_ret (pe_cmpR op_eq (pe_propSl (E := E0) (pv 0) T.kSpace.sc a3 b3 c3 d3 G3 hr (fun _ _ _ _ h => h)) (pe_cmpR op_eq (pe_callB call_len_seq (by rfl) T.zLen PySem.boot_len (pa_cons (pv 4) pa_nil)) (pv 3) (nomark _)) (nomark _)))))))), ?_⟩
    have fr := hz.frm
    have hpos := fr.prm.pos
    have h1n := fr.one
    have h4n := fr.four
    have hlw : (fs (qsOf ws)).length = ws.length := by rw [List.length_map, List.length_map]
    have hfew : ws.length ≤ n := by
      rw [← hlw]
      exact sred_few hz.red
    have hfine : Fine p n (qsOf ws) := Fine.of_red hz.red.red
    obtain ⟨dz, d, l, h1, h2, h3⟩ := hz.ex
    -- rows = [item.factors for item in space.reduced_sums]
    refine ⟨_, rfl, z, dz, _, rfl, h1, z, p, n, ws, rfl, hz, fun H1 b1 s1 hb => ⟨b1, rfl, ⟨_, hb⟩, fun D nD => lc_tup (K := K) (a := b1) (xs := ws.map fun w => V.ref w.1)
      (fun i H' => Same H1 H' ∧ H' D = some (.lst ((ws.take i).map fun w => V.ref w.2.1))) ⟨same_new nD, upd_same⟩ (fun i H' _ h => same_tup h.1 hb) ?_ ?_⟩⟩
    · rintro i x H2 hx ⟨sm, hL⟩
      obtain ⟨w, hw, rfl, hm⟩ := get_fst hx
      have hi : i < ws.length := (List.getElem?_eq_some_iff.mp hw).1
      have hs := ((h2.ts w hm).same s1).same sm
      have hs' := hs
      obtain ⟨dx, k1, k2⟩ := hs'
      refine ⟨rfl, yes_of ?_⟩
      refine ⟨_, rfl, w.1, dx, _, rfl, k1, w.1, w.2.1, p, w.2.2, rfl, hs, _, hL, ?_, fun b' u e => ?_, ?_⟩
      · rw [List.length_map, List.length_take]
        exact small1000 (by omega)
      · rw [upd_ne (ne_of_none e nD)]
        exact sm _ _ e
      · rw [upd_same, take_snoc hw, List.map_append]
        rfl
    rintro H2 ⟨s2, hL⟩
    rw [List.length_map, List.take_of_length_le (Nat.le_refl _), ← map_ref] at hL
    have s02 := s1.trans s2
    have hz2 := hz.same s02
    have hR2 : RowsAt K H2 D (qsOf ws) := ⟨SqL.of hL, (h3.same s02).ts⟩
    -- the first question
    refine ⟨_, rfl, D, _, rfl, .inl hR2.ls, _, rfl, z, dz, _, rfl, slt_same h1 s02, z, p, n, ws, rfl, hz2, _, rfl, by omega, by omega, rfl, _, rfl, iteNS (by rw [List.length_map, List.length_map]) ?_⟩
    refine ⟨_, rfl, _, rfl, D, _, rfl, .inl hR2.ls, p, ws.length, by rw [List.length_map, List.length_map]; rfl, fr.prm, by omega, _, rfl, m, _, rfl, .inl (hM.same s02).ls, rfl, _, rfl, iteNS ?_ ?_⟩
    · have e := Lr.isSpan_len hpos hz.red.red isp
      rw [hlw, List.length_map] at e
      rw [List.length_map, e]
    refine ⟨line1, fun t nt => ?_⟩
    obtain ⟨s3, c3⟩ := stp (o := .tup [.int 0]) nt
    generalize upd H2 t (.tup [.int 0]) = H3 at s3 c3 ⊢
    refine ⟨_, rfl, t, (n : Int), rfl, rfl, SqT.of c3, by omega, by omega, fun q0 H4 s4 hq0 => ⟨_, rfl, in_rows hq0 ((hR2.same s3).same s4) ⟨_, rfl, ?_⟩⟩⟩
    refine ite2 (fun e => absurd (of_decide_eq_true e) (Lr.zero_not_in hz.red.red)) (fun _ => ?_)
    have s04 := s02.trans (s3.trans s4)
    have hR4 := (hR2.same s3).same s4
    have hlead : ∀ q ∈ qsOf ws, q.2.length ≤ 100 ∧ Lr.lead q.2 < q.2.length := fun q hq => by
      have h1 := (hfine.nrm q hq).len
      have h2 := hz.red.red.lt q.2 (List.mem_map.mpr ⟨q, hq, rfl⟩)
      omega
    have hlq : (qsOf ws).length = ws.length := List.length_map ..
    -- leads
    refine ⟨_, rfl, D, qsOf ws, rfl, hR4, by omega, hlead, fun H5 L5 s5 hL5 => ?_⟩
    have hll : (leadsOf (qsOf ws)).length = ws.length := by
      rw [← hlq]
      exact List.length_map ..
    -- the second question
    refine ⟨_, rfl, _, rfl, L5, leadsOf (qsOf ws), rfl, SqL.of hL5, by omega, fun a c na hc => ⟨a, _, c, rfl, upd_same, by omega, fun ns q5 pw hmem hlen nq5 => ?_⟩⟩
    have s56 : Same H5 (upd (upd H5 a (SetO w a (fun j => decide (j ∈ leadsOf (qsOf ws))) c)) q5 (.lst (ns.map V.int))) := (same_new na).trans (same_new nq5)
    have hq5 : upd (upd H5 a (SetO w a (fun j => decide (j ∈ leadsOf (qsOf ws))) c)) q5 (.lst (ns.map V.int)) q5 = some (.lst (ns.map V.int)) := upd_same
    have hL6 := s56 _ _ hL5
    refine ne_ints (SqL.of hL6) (SqL.of hq5) ⟨_, rfl, iteNS ?_ ?_⟩
    · exact Lr.sorted_unique id (leads_asc hz.red) pw fun v => by
        rw [hmem v, decide_eq_true_iff]
        exact Iff.rfl
    have s06 := (s04.trans s5).trans s56
    have hR6 := (hR4.same s5).same s56
    refine ⟨_, rfl, _, rfl, _, rfl, D, p, n, qsOf ws, rfl, hR6, by omega, fr, hfine, fun H7 b7 qf s7 hR7 _ isp7 => ⟨_, rfl, ne_rows hR7 (hM.same (s06.trans s7)) ⟨_, rfl, iteNS ?_ ?_⟩⟩⟩
    · exact (Lr.isSpan_unique isp7 isp).mpr fun v => Iff.rfl
    have s07 := s06.trans s7
    have hR7' := hR6.same s7
    have hL7 := s7 _ _ hL6
    -- for row, spot in zip(rows, leads)
    refine ⟨_, rfl, _, rfl, D, L5, (qsOf ws).map (fun (q : Addr × List Int) => V.ref q.1), (leadsOf (qsOf ws)).map V.int, rfl, .inl ⟨hR7'.ls, SqL.of hL7, RZ.for_zipL (K := K) (by simp only [List.length_map])
      (fun i σ H' => ∃ v6 v7, σ = [some (.ref z), some (.ref m), some (.int p), some (.int (n : Int)), some (.ref D), some (.ref L5), v6, v7, none, none] ∧ Same H7 H') ⟨none, none, rfl, Same.refl _⟩ (fun i σ H' ⟨_, _, _, sm⟩ => ⟨sm.seq hR7'.ls, SqL.of (sm _ _ hL7)⟩) ?_ ?_⟩⟩
    · rintro i x y T' σ H8 hx hy ⟨v6, v7, rfl, sm8⟩ nT
      obtain ⟨q, hq, rfl, hm⟩ := get_ref hx
      have ey : y = .int ((Lr.lead q.2 : Nat) : Int) := by
        have hy' : ((leadsOf (qsOf ws)).map V.int)[i]? = some y := hy
        unfold leadsOf at hy'
        rw [List.getElem?_map, List.getElem?_map, hq] at hy'
        exact (Option.some.inj hy').symm
      subst ey
      have s9 := same_new (o := .tup [.ref q.1, .int ((Lr.lead q.2 : Nat) : Int)]) nT
      refine ⟨T', [.ref q.1, .int ((Lr.lead q.2 : Nat) : Int)], rfl, SqT.of upd_same, rfl, .ref q.1, [.int ((Lr.lead q.2 : Nat) : Int)], rfl, .int ((Lr.lead q.2 : Nat) : Int), [], rfl, rfl, ?_⟩
      generalize upd H8 T' (.tup [.ref q.1, .int ((Lr.lead q.2 : Nat) : Int)]) = H9 at s9 ⊢
      have s79 := sm8.trans s9
      have hR9 := hR7'.same s79
      have hmem : q.2 ∈ fs (qsOf ws) := List.mem_map.mpr ⟨q, hm, rfl⟩
      refine ⟨_, rfl, _, rfl, q.1, _, (Lr.lead q.2 : Nat), .int (g q.2 (Lr.lead q.2)), rfl, rfl, hR9.ts q hm, atI_nat (get_int (hlead q hm).2), rfl, _, rfl, iteNS (by rw [hz.red.red.one _ hmem]) ?_⟩
      refine ⟨_, rfl, D, rfl, ⟨_, hR9.ls⟩, fun G nG => lc_list (K := K) (a := D) (xs := (qsOf ws).map fun q => V.ref q.1) (fun j H' => Same H9 H' ∧ H' G = some (.lst (((fs ((qsOf ws).take j)).map fun o => g o (Lr.lead q.2)).map V.int)))
        ⟨same_new nG, upd_same⟩ (fun j H' _ h => h.1.seq hR9.ls) ?_ ?_⟩
      · rintro j x H10 hx2 ⟨sm10, hG⟩
        obtain ⟨u, hu, rfl, hmu⟩ := get_ref hx2
        have hj : j < (qsOf ws).length := (List.getElem?_eq_some_iff.mp hu).1
        have lu := (hfine.nrm u hmu).len
        have lq := hz.red.red.lt q.2 hmem
        refine ⟨rfl, yes_of ⟨_, rfl, _, rfl, u.1, _, (Lr.lead q.2 : Nat), .int (g u.2 (Lr.lead q.2)), rfl, rfl, same_tup sm10 (hR9.ts u hmu), atI_nat (get_int (by rw [lu]; exact lq)), _, hG, ?_, fun b' o e => ?_, ?_⟩⟩
        · rw [List.length_map, List.length_map, List.length_map, List.length_take]
          exact small1000 (by omega)
        · rw [upd_ne (ne_of_none e nG)]
          exact sm10 _ _ e
        · rw [upd_same, fs_take hu, List.map_append, List.map_append]
          rfl
      · rintro H10 ⟨sm10, hG⟩
        rw [List.length_map, List.take_of_length_le (Nat.le_refl _)] at hG
        refine ⟨G, _, rfl, SqL.of hG, rfl, _, rfl, iteNS (by rw [Lr.sum_col hz.red.red _ hmem]) ?_⟩
        exact ⟨_, _, rfl, s79.trans sm10⟩
    · rintro σ H8 ⟨v6, v7, rfl, sm8⟩
      have s08 := s07.trans sm8
      refine ⟨_, rfl, z, dz, _, rfl, slt_same h1 s08, z, p, n, ws, rfl, hz.same s08, _, rfl, D, _, rfl, .inl (hR7'.same sm8).ls, _, rfl, rfl, rfl, ?_⟩
      rw [List.length_map, List.length_map, dec_nat, decide_eq_true (rfl : V.bl (decide (ws.length = n)) = V.bl (decide (ws.length = n)))]
      exact k H8 s08
end
end LrD
/-! the law -/
namespace LrD
open PySem L2 SlX LrT LrB
open Lr (g addR scaleR restOf zeroR Nrm Prm Frm Red SRed Span IsSpan)
theorem nf_self {K : PySem.W.Frag} {C : Addr} : PySem.W.notFirst K C (.ref C) = true := by
  unfold PySem.W.notFirst
  simp
theorem line6 : (6 : Nat) ≤ sizeLine := by decide
theorem turns_bd {x : Int} (h0 : 0 ≤ x) (h1 : x ≤ 63) : -(2 ^ 62) ≤ (if (if 12 < x then 12 else x) > 1 then (if 12 < x then 12 else x) else 1) ∧ (if (if 12 < x then 12 else x) > 1 then (if 12 < x then 12 else x) else 1) < 2 ^ 62 := by
  repeat' split
  all_goals omega
theorem cut_one (xs : List V) : cutV xs none (some 1) = xs.take 1 := by
  show (xs.drop 0).take (min 1 xs.length - 0) = xs.take 1
  cases xs with
  | nil => rfl
  | cons x r =>
    have e : min 1 (x :: r).length = 1 := by
      rw [List.length_cons]
      omega
    rw [e]
    rfl
theorem mem_rev {qs : Qs} {v : List Int} : v ∈ fs (qs.reverse ++ qs.take 1) ↔ v ∈ fs qs := by
  constructor
  · intro h
    obtain ⟨q, hq, e⟩ := List.mem_map.mp h
    refine List.mem_map.mpr ⟨q, ?_, e⟩
    rcases List.mem_append.mp hq with z | z
    · exact List.mem_reverse.mp z
    · exact List.mem_of_mem_take z
  · intro h
    obtain ⟨q, hq, e⟩ := List.mem_map.mp h
    exact List.mem_map.mpr ⟨q, List.mem_append.mpr (.inl (List.mem_reverse.mpr hq)), e⟩
theorem odd_if {σ : L2.St} {H : Hp} {Q : VK} {p : Int} (e : σ[3]? = some (some (.int p))) (k : ∀ p' : Int, (p' = 2 ∨ p' = 3) → p' ≠ p → Q (.int p') H) : tIf (tTest (tOp rEq (tVar 3) (tC (.int 3)))) (tC (.int 2)) (tC (.int 3)) σ H Q := by
  refine ⟨_, e, rfl, _, rfl, ?_⟩
  by_cases h : p = 3
  · subst h
    rw [decide_eq_true (rfl : V.int 3 = V.int 3)]
    exact iteT (k 2 (.inl rfl) (by decide))
  · rw [decide_eq_false (show ¬ V.int p = V.int 3 from fun z => h (V.int.inj z))]
    exact iteF (k 3 (.inr rfl) (fun z => h z.symm))
theorem frm_one {p : Int} (h : p = 2 ∨ p = 3) : Frm p 1 := by
  rcases h with e | e <;> subst e
  · exact Lr.frm_of (by decide)
  · exact Lr.frm_of (by decide)
theorem spaces_eq {p : Int} {n : Nat} {A B : List (List Int)} (hp : 0 < p) (hA : SRed p n A) (hB : SRed p n B) : A = B ↔ ∀ v, Span p n (· ∈ A) v ↔ Span p n (· ∈ B) v :=
  ⟨fun e v => by rw [e], fun h => Lr.sred_unique hp hA hB h⟩
theorem nrm_zeros {p : Int} (h : 0 < p) (n : Nat) : Nrm p n (List.replicate n (0 : Int)) := Lr.nrm_zero h n
section
variable {P : Program} {w : World} {K : PySem.W.Frag} {mg : Str → Option Value} {base : Heap} {CS CP : Addr}
def spLaw (K : PySem.W.Frag) : Sp := fun vs H Q _ => ∃ (a : Addr) (ns : List Int), vs = [.ref a] ∧ SqL K H a (ns.map V.int) ∧ ns.length ≤ 63 ∧ ∀ H', Q (.bl true) H'
theorem ok_law (T : Txt K mg CS CP) {f : Addr} {fd : FuncData} (F : Fun K "law" "law" sLaw f fd) : FnOk P w K mg base CX0 10 f fd ["_law_script"] (spLaw K) := by
  obtain ⟨fO, fdO, gO, kO, GO, bO⟩ := (ok_source (P := P) (w := w) (base := base) T).ex
  obtain ⟨fF, fdF, gF, kF, GF, bF⟩ := (ok_form (P := P) (w := w) (base := base) T).ex
  obtain ⟨fU, fdU, gU, kU, GU, bU⟩ := (ok_sums (P := P) (w := w) (base := base) T).ex
  obtain ⟨fM, fdM, gM, kM, GM, bM⟩ := (ok_made (P := P) (w := w) (base := base) T).ex
  obtain ⟨fS, fdS, gS, kS, GS, bS⟩ := (ok_span (P := P) (w := w) (base := base) T).ex
  obtain ⟨fA, fdA, gA, kA, GA, bA⟩ := (ok_allData (P := P) (w := w) (base := base) T).ex
  obtain ⟨fR, fdR, gR, kR, GR, bR⟩ := (ok_rr (P := P) (w := w) (base := base) T).ex
  obtain ⟨fI, fdI, MI, GI, bI⟩ := (ok_sumInit (P := P) (w := w) (base := base) T).ex
  obtain ⟨p1, g1, a1, b1, c1, d1, G1⟩ := (ok_spacePrime (P := P) (w := w) (base := base) T).ex
  obtain ⟨p2, g2, a2, b2, c2, d2, G2⟩ := (ok_spaceSize (P := P) (w := w) (base := base) T).ex
  obtain ⟨fC, mC, nC, GC⟩ := (ok_contains (P := P) (w := w) (base := base) T).ex
  obtain ⟨fE, mE, nE, GE⟩ := (ok_eq (P := P) (w := w) (base := base) T).ex
  refine F.ok scLaw (fun vs H Q E h => ?_) (fun cdv A outer s H vs Q E hr h => ?_)
  · obtain ⟨a, ns, rfl, _⟩ := h
    rfl
  · obtain ⟨a, ns, rfl, hL, hlen, k⟩ := h
    have hr1 : Room 1 _ := hr.mono (by decide)
    have hr2 : Room 2 _ := hr.mono (by decide)
    have hr3 : Room 3 _ := hr.mono (by decide)
    have hr4 : Room 4 _ := hr.mono (by decide)
    have hr6 : Room 6 _ := hr.mono (by decide)
    refine ⟨_, pss_cons (ps_for PassesOwn.never rfl (pi_range1 (by rfl) T.zRange (pa_cons (pe_callB (call_max2 rfl) (by rfl) T.zMax (by decide +kernel) (pa_cons pe_int (pa_cons (pe_callB (call_min2 rfl) (by rfl) T.zMin (by decide +kernel) (pa_cons (pe_callB call_len_seq (by rfl) T.zLen PySem.boot_len (pa_cons (pv 0) pa_nil)) (pa_cons pe_int pa_nil))) pa_nil))) pa_nil)) (pg_name (i := 1) scLaw.nd rfl (.inl rfl))
        (pss_cons (ps_set (i := 2) scLaw.nd rfl (.inl rfl) (pe_call GO hr1 (by rfl) gO kO bO .nil pass0 (pa_cons (pv 0) (pa_cons (pv 1) pa_nil))))
        (pss_cons (ps_asg (pe_call GF hr3 (by rfl) gF kF bF .nil pass0 (pa_cons (pv 2) pa_nil)) (pg_tup rfl (pgs_cons (pg_name (i := 3) scLaw.nd rfl (.inl rfl)) (pgs_cons (pg_name (i := 4) scLaw.nd rfl (.inl rfl)) pgs_nil))))
        (pss_cons (ps_par (i := 5) (j := 6) rfl scLaw.nd rfl rfl (by decide) rfl rfl (pa_cons (pe_call GU hr3 (by rfl) gU kU bU .nil pass0 (pa_cons (pv 2) (pa_cons (pv 3) (pa_cons (pv 4) (pa_cons pe_int pa_nil))))) (pa_cons (pe_call GU hr3 (by rfl) gU kU bU .nil pass0 (pa_cons (pv 2) (pa_cons (pv 3) (pa_cons (pv 4) (pa_cons pe_int pa_nil))))) pa_nil)) (by rfl))
        (pss_cons (ps_par (i := 7) (j := 8) rfl scLaw.nd rfl rfl (by decide) rfl rfl (pa_cons (pe_call GM hr (by rfl) gM kM bM .nil pass0 (pa_cons (pv 3) (pa_cons (pv 4) (pa_cons (pv 5) pa_nil)))) (pa_cons (pe_call GS hr1 (by rfl) gS kS bS .nil pass0 (pa_cons (pv 5) (pa_cons (pv 3) (pa_cons (pv 4) pa_nil)))) pa_nil)) (by rfl))
        (pss_cons (ps_for PassesOwn.never rfl (pi_list (pe_call GA hr1 (by rfl) gA kA bA .nil pass0 (pa_cons (pv 3) (pa_cons (pv 4) pa_nil)))) (pg_name (i := 9) scLaw.nd rfl (.inl rfl))
          (pss_one (ps_if (pt_cmpR op_ne (pe_cmpR (op_inSl mC nC GC hr4) (pe_make MI GI hr6 (by rfl) T.kSum.gl bI .nil pass0 (pa_cons (pv 3) (pa_cons (pv 9) pa_nil))) (pv 7) (by rfl)) (pe_cmpR (op_inD (u65 hr)) (pv 9) (pv 8) (by rfl)) (nomark _)) (pss_one (ps_ret pe_bl)) pss_nil)))
        (pss_cons (ps_if (PW.pt (pw_or (pt_not (pt_val (pe_call GR hr3 (by rfl) gR kR bR .nil pass0 (pa_cons (pv 7) (pa_cons (pv 8) (pa_cons (pv 3) (pa_cons (pv 4) pa_nil)))))))
            (pw_or1 (pt_cmpR (op_neD hr.units) (pe_lst (pa_cons (pe_propSl (E := E0) (pv 7) T.kSpace.sc a1 b1 c1 d1 G1 hr2 (fun _ _ _ _ h => h)) (pa_cons (pe_propSl (E := E0) (pv 7) T.kSpace.sc a2 b2 c2 d2 G2 hr2 (fun _ _ _ _ h => h)) pa_nil))) (pe_lst (pa_cons (pv 3) (pa_cons (pv 4) pa_nil))) (nomark _))))) (pss_one (ps_ret pe_bl)) pss_nil)
        (pss_cons (ps_if (pt_cmpR op_ne (pe_cmpR (op_eqSl mE nE GE hr1) (pv 7) (pe_call GM hr (by rfl) gM kM bM .nil pass0 (pa_cons (pv 3) (pa_cons (pv 4) (pa_cons (pv 6) pa_nil)))) (nomark _)) (pe_cmpR (op_eqD hr.units) (pe_call GS hr1 (by rfl) gS kS bS .nil pass0 (pa_cons (pv 6) (pa_cons (pv 3) (pa_cons (pv 4) pa_nil)))) (pv 8) (nomark _)) (nomark _)) (pss_one (ps_ret pe_bl)) pss_nil)
        (pss_cons (ps_if (PW.pt (pw_or (pt_cmpR (op_neSl mE T.neP T.kSpace.si.cm nE GE hr2) (pv 7) (pe_call GM hr (by rfl) gM kM bM .nil pass0 (pa_cons (pv 3) (pa_cons (pv 4) (pa_cons (pe_op op_cat (pe_revL (pv 5)) (pe_slice sl_list (pv 5) po_none (po_some pe_int))) pa_nil)))) (nomark _))
            (pw_or1 (pt_cmpR (op_eqSl mE nE GE hr1) (pv 7) (pv 8) (nomark _))))) (pss_one (ps_ret pe_bl)) pss_nil)
        (pss_one (ps_for PassesOwn.never rfl (pi_list (pe_lst (pa_cons pe_non (pa_cons pe_int (pa_cons pe_str (pa_cons (pe_op op_zeros (pe_tup (pa_cons pe_int pa_nil)) (pv 4)) (pa_cons (pe_lst (pa_cons (pe_make MI GI hr6 (by rfl) T.kSum.gl bI .nil pass0 (pa_cons (pv 3) (pa_cons (pe_op op_zeros (pe_tup (pa_cons pe_int pa_nil)) (pv 4)) pa_nil))) pa_nil))
            (pa_cons (pe_make MI GI hr6 (by rfl) T.kSum.gl bI .nil pass0 (pa_cons (pe_ifExp (pt_cmpR op_eq (pv 3) pe_int (nomark _)) pe_int pe_int) (pa_cons (pe_tup (pa_cons pe_int pa_nil)) pa_nil))) pa_nil)))))))) (pg_name (i := 10) scLaw.nd rfl (.inl rfl))
          (pss_one (ps_if (pt_cmpR (op_inSl mC nC GC hr4) (pv 10) (pv 7) (by rfl)) (pss_one (ps_ret pe_bl)) pss_nil)))))))))))))
      (pss_one (ps_ret pe_bl)), ?_⟩
    -- for turn in range(..)
    have bd := turns_bd (x := ((ns.map V.int).length : Int)) (by omega) (by rw [List.length_map]; omega)
    refine ⟨_, rfl, a, _, rfl, .inl hL, _, _, rfl, _, _, rfl, _, rfl, bd.1, bd.2, for_range (fun i σ H' => ∃ v1 v2 v3 v4 v5 v6 v7 v8 v9 v10, σ = [some (.ref a), v1, v2, v3, v4, v5, v6, v7, v8, v9, v10] ∧ Same H H') ⟨none, none, none, none, none, none, none, none, none, none, rfl, Same.refl _⟩ ?_ ?_⟩
    · rintro i σ H0 hi ⟨v1, v2, v3, v4, v5, v6, v7, v8, v9, v10, rfl, sm0⟩
      -- source, form
      refine ⟨_, rfl, _, rfl, a, ns, i, by rw [Int.zero_add]; rfl, sm0.seq hL, fun b H1 nb s1 hb1 => ?_⟩
      refine ⟨_, rfl, b, rfl, hb1, fun H2 t p n sx2 hb2 ht fr => ⟨t, [.int p, .int (n : Int)], rfl, ht, rfl, .int p, [.int (n : Int)], rfl, .int (n : Int), [], rfl, rfl, ?_⟩⟩
      have hpos := fr.prm.pos
      have h1n := fr.one
      have h4n := fr.four
      -- rows, others
      refine ⟨_, rfl, _, rfl, _, rfl, b, p, n, 5, rfl, hb2, fr, by decide, fun H3 l qs sx3 hb3 hl3 hR3 hlb fi3 len3 => ⟨_, rfl, _, rfl, _, rfl, b, p, n, 3, rfl, hb3, fr, by decide, fun H4 l' qs' sx4 hb4 hl4 hR4 hlb' fi4 len4 => ⟨_, _, rfl, ?_⟩⟩⟩
      have sm4 : Same H H4 := SameX.from (sm0.trans s1) (sm0.free nb) ((sx2.trans sx3).trans sx4)
      obtain ⟨ys, hc3⟩ := hb3.cell
      have hl4' : H4 l = some (.lst (qs.map fun q => V.ref q.1)) := sx4 _ _ hl3 hlb
      have hRl : RowsAt K H4 l qs := ⟨SqL.of hl4', fun q hq => tup_sx (hR3.ts q hq) hc3 sx4⟩
      -- space, span
      refine ⟨_, rfl, _, rfl, _, rfl, l, p, n, qs, rfl, hRl, by omega, fr, fi3, fun H5 z ws s5 hz5 hsp => ⟨_, rfl, _, rfl, _, rfl, l, p, n, qs, rfl, hRl.same s5, by omega, fr, fi3, fun H6 m rs s6 hM6 hm6 isp => ⟨_, _, rfl, ?_⟩⟩⟩
      have isp' : IsSpan p n (TS.code p) (· ∈ fs (qsOf ws)) (fs rs) := ⟨fun v => (isp.mem v).trans (hsp v).symm, isp.asc⟩
      have hz6 := hz5.same s6
      have s46 := s5.trans s6
      obtain ⟨dz, dl, lr, hs6, _, _⟩ := hz6.ex
      -- all data
      refine ⟨_, rfl, _, rfl, p, n, rfl, fr, fun H7 e qd s7 hR7 he7 fi7 _ => ⟨e, rfl, ⟨_, hR7.ls⟩, for_list (K := K) (a := e) (xs := qd.map fun q => V.ref q.1)
        (fun j σ H' => ∃ v9, σ = [some (.ref a), some (.int (0 + (i : Int))), some (.ref b), some (.int p), some (.int (n : Int)), some (.ref l), some (.ref l'), some (.ref z), some (.ref m), v9, v10] ∧ Same H7 H') ⟨v9, rfl, Same.refl _⟩ (fun j σ H' _ ⟨_, _, sm⟩ => sm.seq hR7.ls) ?_ ?_⟩⟩
      · rintro j x σ H8 hx ⟨v9', rfl, sm8⟩
        obtain ⟨q, hq, rfl, hm⟩ := get_ref hx
        have s68 := s7.trans sm8
        have hT := same_tup sm8 (hR7.ts q hm)
        have nq := fi7.nrm q hm
        refine ⟨_, rfl, _, rfl, fun x dx nx ndx hdx => sum_made nx ndx hdx fr hT nq fun H9 s9 hs9 => ?_⟩
        have s69 := s68.trans s9
        refine ⟨_, rfl, z, dz, _, rfl, slt_same hs6 s69, z, .ref x, p, n, ws, rfl, hz6.same s69, .inl ⟨x, q.1, q.2, rfl, hs9, nq, fun H10 c s10 hc => ⟨c, rfl, _, rfl, _, rfl, in_rows (same_tup (s9.trans s10) hT) (hM6.same (s69.trans s10)) ⟨rfl, _, rfl, iteNS ?_ ?_⟩⟩⟩⟩
        · congr 1
          rw [Bool.eq_iff_iff, hc, decide_eq_true_iff, isp'.mem]
        · exact ⟨_, rfl, sm8.trans (s9.trans s10)⟩
      rintro σ H8 ⟨v9', rfl, sm8⟩
      have s68 := s7.trans sm8
      -- reduced right, prime and size
      refine ⟨_, rfl, _, rfl, _, rfl, _, rfl, z, m, p, n, ws, rs, rfl, hz6.same s68, hM6.same s68, isp', fun H9 s9 => ⟨true, rfl, iteF ?_⟩⟩
      have s69 := s68.trans s9
      have hz9 := hz6.same s69
      have hs9 := slt_same hs6 s69
      refine ⟨_, rfl, z, dz, _, rfl, hs9, z, p, n, ws, rfl, hz9, _, rfl, z, dz, _, rfl, hs9, z, p, n, ws, rfl, hz9, line2, fun e1 n1 => ?_⟩
      obtain ⟨sA, cA⟩ := stp (o := .lst [.int p, .int (n : Int)]) n1
      generalize upd H9 e1 (.lst [.int p, .int (n : Int)]) = HA at sA cA ⊢
      refine ⟨_, rfl, _, rfl, line2, fun e2 n2 => ?_⟩
      obtain ⟨sB, cB⟩ := stp (o := .lst [.int p, .int (n : Int)]) n2
      generalize upd HA e2 (.lst [.int p, .int (n : Int)]) = HB at sB cB ⊢
      refine ne_ints (a := [p, (n : Int)]) (b := [p, (n : Int)]) (SqL.of (sB _ _ cA)) (SqL.of cB) ⟨_, rfl, iteNS rfl ?_⟩
      have s6B := (s69.trans sA).trans sB
      have hRo : RowsAt K HB l' qs' := hR4.same (s46.trans s6B)
      -- the others
      refine ⟨_, rfl, _, rfl, _, rfl, _, rfl, l', p, n, qs', rfl, hRo, by omega, fr, fi4, fun HC z2 ws2 sC hz2 hsp2 => ?_⟩
      obtain ⟨dz2, dl2, lr2, hsz2, _, _⟩ := hz2.ex
      have s6C := s6B.trans sC
      refine ⟨z, dz, _, rfl, slt_same hs6 s6C, .inl ⟨z2, CP, dz2, _, rfl, hsz2, nf_self⟩, z, .ref z2, p, n, ws, rfl, hz6.same s6C, .inl ⟨z2, ws2, rfl, hz2, ?_⟩⟩
      refine ⟨_, rfl, _, rfl, _, rfl, l', p, n, qs', rfl, hRo.same sC, by omega, fr, fi4, fun HD m2 rs2 sD hMD _ isp2 => ⟨_, rfl, eq_rows hMD (hM6.same (s6C.trans sD)) ⟨rfl, _, rfl, iteNS ?_ ?_⟩⟩⟩
      · congr 1
        rw [Bool.eq_iff_iff, decide_eq_true_iff, decide_eq_true_iff, spaces_eq hpos hz6.red hz2.red, Lr.isSpan_unique isp2 isp]
        exact ⟨fun h v => by rw [← hsp2 v, ← hsp v]; exact (h v).symm, fun h v => by rw [hsp2 v, hsp v]; exact (h v).symm⟩
      have s6D := s6C.trans sD
      have hlD : HD l = some (.lst (qs.map fun q => V.ref q.1)) := (s46.trans s6D) _ _ hl4'
      -- turned round, and one more
      refine ⟨_, rfl, _, rfl, _, rfl, _, rfl, l, _, rfl, SqL.of hlD, fun c1 nc1 => ?_⟩
      obtain ⟨sE, cE⟩ := stp (o := .lst (qs.map fun q => V.ref q.1).reverse) nc1
      generalize upd HD c1 (.lst (qs.map fun q => V.ref q.1).reverse) = HE at sE cE ⊢
      refine ⟨_, rfl, 1, rfl, l, _, rfl, SqL.of (sE _ _ hlD), fun c2 nc2 => ?_⟩
      rw [cut_one]
      obtain ⟨sF, cF⟩ := stp (o := .lst ((qs.map fun q => V.ref q.1).take 1)) nc2
      generalize upd HE c2 (.lst ((qs.map fun q => V.ref q.1).take 1)) = HF at sF cF ⊢
      refine ⟨c1, c2, _, _, rfl, rfl, sF _ _ cE, cF, ?_, fun c3 nc3 => ?_⟩
      · rw [List.length_reverse, List.length_take, List.length_map]
        exact Nat.le_of_lt (small1000 (by omega))
      have eG : (qs.map fun q => V.ref q.1).reverse ++ (qs.map fun q => V.ref q.1).take 1 = (qs.reverse ++ qs.take 1).map fun q => V.ref q.1 := by
        rw [List.map_append, List.map_reverse, List.map_take]
      rw [eG]
      obtain ⟨sG, cG⟩ := stp (o := .lst ((qs.reverse ++ qs.take 1).map fun q => V.ref q.1)) nc3
      generalize upd HF c3 (.lst ((qs.reverse ++ qs.take 1).map fun q => V.ref q.1)) = HG at sG cG ⊢
      have sDG := (sE.trans sF).trans sG
      have s6G := s6D.trans sDG
      have hin : ∀ q ∈ qs.reverse ++ qs.take 1, q ∈ qs := fun q hq => by
        rcases List.mem_append.mp hq with y | y
        · exact List.mem_reverse.mp y
        · exact List.mem_of_mem_take y
      have hRG : RowsAt K HG c3 (qs.reverse ++ qs.take 1) := ⟨SqL.of cG, fun q hq => same_tup (s46.trans s6G) (hRl.ts q (hin q hq))⟩
      refine ⟨c3, p, n, qs.reverse ++ qs.take 1, rfl, hRG, ?_, fr, ⟨fun q hq => fi3.nrm q (hin q hq)⟩, fun HI z3 ws3 sI hz3 hsp3 => ?_⟩
      · rw [List.length_append, List.length_reverse, List.length_take]
        omega
      obtain ⟨dz3, dl3, lr3, hsz3, _, _⟩ := hz3.ex
      have s6I := s6G.trans sI
      have hzI := hz6.same s6I
      have hsI := slt_same hs6 s6I
      have e3 : fs (qsOf ws) = fs (qsOf ws3) := (spaces_eq hpos hz6.red hz3.red).mpr fun v => by
        rw [hsp v, hsp3 v]
        exact ⟨Lr.Span.mono fun r => mem_rev.mpr, Lr.Span.mono fun r => mem_rev.mp⟩
      refine ⟨z, dz, _, rfl, hsI, .inl ⟨z3, CP, dz3, _, rfl, hsz3, nf_self⟩, z, .ref z3, p, n, ws, rfl, hzI, .inl ⟨z3, ws3, rfl, hz3, ?_⟩⟩
      rw [decide_eq_true e3]
      refine ⟨true, rfl, false, rfl, iteF ?_⟩
      have hmI : TyX K HI (.ref m) (.type "list") := .base (.lst (s6I _ _ hm6))
      refine ⟨_, rfl, _, rfl, z, dz, _, rfl, hsI, .inr ⟨.type "list", hmI, T.nePS⟩, z, .ref m, p, n, ws, rfl, hzI, .inr ⟨.type "list", hmI, T.noPList, false, rfl, iteF ?_⟩⟩
      -- the odd ones
      refine ⟨line1, fun t1 n1' => ?_⟩
      obtain ⟨sJ, cJ⟩ := stp (o := .tup [.int 0]) n1'
      generalize upd HI t1 (.tup [.int 0]) = HJ at sJ cJ ⊢
      refine ⟨_, rfl, t1, (n : Int), rfl, rfl, SqT.of cJ, by omega, by omega, fun o1 HK sK ho1 => ?_⟩
      refine ⟨_, rfl, line1, fun t2 n2' => ?_⟩
      obtain ⟨sL, cL⟩ := stp (o := .tup [.int 0]) n2'
      generalize upd HK t2 (.tup [.int 0]) = HL at sL cL ⊢
      refine ⟨_, rfl, t2, (n : Int), rfl, rfl, SqT.of cL, by omega, by omega, fun o2 HM sM ho2 => ?_⟩
      intro x1 dx1 nx1 nd1 hdx1
      refine sum_made nx1 nd1 hdx1 fr ho2 (nrm_zeros hpos _) fun HN sN hs1 => ?_
      refine ⟨line1, fun l1 nl1 => ?_⟩
      obtain ⟨sO, cO⟩ := stp (o := .lst [.ref x1]) nl1
      generalize upd HN l1 (.lst [.ref x1]) = HO' at sO cO ⊢
      refine odd_if rfl fun p' h23 hne => ?_
      refine ⟨line1, fun t3 n3' => ?_⟩
      obtain ⟨sP, cP⟩ := stp (o := .tup [.int 0]) n3'
      generalize upd HO' t3 (.tup [.int 0]) = HP at sP cP ⊢
      intro x2 dx2 nx2 nd2 hdx2
      have fr' := frm_one h23
      refine sum_made (r := [0]) nx2 nd2 hdx2 fr' (SqT.of cP) (nrm_zeros fr'.prm.pos 1) fun HQ sQ hs2 => ?_
      refine ⟨line6, fun lo nlo => ?_⟩
      obtain ⟨sR, cR⟩ := stp (o := .lst [.non, .int 5, .str "a", .ref o1, .ref l1, .ref x2]) nlo
      generalize upd HQ lo (.lst [.non, .int 5, .str "a", .ref o1, .ref l1, .ref x2]) = HR at sR cR ⊢
      have sIK := sJ.trans sK
      have sKO := ((sL.trans sM).trans sN).trans sO
      have sOR := (sP.trans sQ).trans sR
      have sIR := (sIK.trans sKO).trans sOR
      have s6R := s6I.trans sIR
      refine ⟨lo, rfl, ⟨_, SqL.of cR⟩, for_list (K := K) (a := lo) (xs := [.non, .int 5, .str "a", .ref o1, .ref l1, .ref x2])
        (fun j σ H' => ∃ v10, σ = [some (.ref a), some (.int (0 + (i : Int))), some (.ref b), some (.int p), some (.int (n : Int)), some (.ref l), some (.ref l'), some (.ref z), some (.ref m), v9', v10] ∧ Same HR H') ⟨v10, rfl, Same.refl _⟩ (fun j σ H' _ ⟨_, _, sm⟩ => SqL.of (sm _ _ cR)) ?_ ?_⟩
      · rintro j x σ HS hx ⟨v10', rfl, smS⟩
        have s6S := s6R.trans smS
        refine ⟨_, rfl, _, rfl, z, dz, _, rfl, slt_same hs6 s6S, z, x, p, n, ws, rfl, hz6.same s6S, ?_⟩
        have hmx := List.mem_of_getElem? hx
        simp only [List.mem_cons, List.not_mem_nil, or_false] at hmx
        rcases hmx with y | y | y | y | y | y <;> subst y
        · exact .inr (.inr ⟨.type "NoneType", .base .non, T.noSNonetype, false, rfl, false, rfl, iteF ⟨_, rfl, smS⟩⟩)
        · exact .inr (.inr ⟨.type "int", .base (.int 5), T.noSInt, false, rfl, false, rfl, iteF ⟨_, rfl, smS⟩⟩)
        · exact .inr (.inr ⟨.type "str", .base (.str "a"), T.noSStr, false, rfl, false, rfl, iteF ⟨_, rfl, smS⟩⟩)
        · exact .inr (.inr ⟨.type "tuple", tyx_tup (same_tup ((sKO.trans sOR).trans smS) ho1), T.noSTuple, false, rfl, false, rfl, iteF ⟨_, rfl, smS⟩⟩)
        · exact .inr (.inr ⟨.type "list", .base (.lst ((sOR.trans smS) _ _ cO)), T.noSList, false, rfl, false, rfl, iteF ⟨_, rfl, smS⟩⟩)
        · exact .inr (.inl ⟨x2, t3, p', [0], rfl, hs2.same (sR.trans smS), hne, false, rfl, false, rfl, iteF ⟨_, rfl, smS⟩⟩)
      · rintro σ HS ⟨v10', rfl, smS⟩
        exact ⟨_, _, _, _, _, _, _, _, _, _, rfl, sm4.trans (s46.trans (s6R.trans smS))⟩
    · rintro σ H' ⟨v1, v2, v3, v4, v5, v6, v7, v8, v9, v10, rfl, _⟩
      exact k H'
end
theorem law_fd {K : PySem.W.Frag} {mg : Str → Option Value} {CS CP fa : Addr} (T : Txt K mg CS CP) (hmg : mg "law" = some (.ref fa)) : ∃ fd : FuncData, (∀ (s : Shared) (u : Value), BindsTo s fd ⟨[u], []⟩ [("_law_script", u)]) ∧
    ∀ (P : Program) (w : World) (base : Heap), FnOk P w K mg base CX0 10 fa fd ["_law_script"] (spLaw K) := by
  obtain ⟨f, fd, gm, F, b⟩ := T.tLaw.ex
  obtain rfl : f = fa := by
    rw [hmg] at gm
    cases gm
    rfl
  refine ⟨fd, fun s u => ?_, fun P w base => ok_law T F⟩
  obtain ⟨oc, od, kV, doc, pm, an, cdv, ct, osl, rfl, lk, hcd⟩ := F.ex
  exact .of_eq (by rfl)
theorem law_end {K : PySem.W.Frag} {mg : Str → Option Value} {CS CP fa : Addr} (P : Program) (w : World) (T : Txt K mg CS CP) (hmg : mg "law" = some (.ref fa)) : ∃ fd : FuncData, (∀ (s : Shared) (u : Value), BindsTo s fd ⟨[u], []⟩ [("_law_script", u)]) ∧
    ∀ base : Heap, K.In base → base.Ns mainGlobals mg → FnOk P w K mg base CX0 10 fa fd ["_law_script"] (spLaw K) := by
  obtain ⟨fd, h1, h2⟩ := law_fd T hmg
  exact ⟨fd, h1, fun base _ _ => h2 P w base⟩
end LrD
open PySem PySem.W PyProof.Rows
set_option maxRecDepth 100000 in
set_option maxHeartbeats 0 in
theorem PySem.Challenge.cw_leastreads_k04_whole_spaces_of_sums_holds : PySem.Challenge.rw_leastreads_k04_whole_spaces_of_sums.Holds := by
  w_on; o_law; k_head; (case hw => w_witness2)
  k_fill
  refine L2.walk_of (l := PySem.Challenge.rw_leastreads_k04_whole_spaces_of_sums) (n := 63) (k := 10) (x := "_law_script") (CX := fun _ => L2.CX0) (sp := fun w => LrD.spLaw _) rfl (by decide) rfl ⟨rfl, by decide, by decide⟩ (fun w h Y => PySem.W.kIn_of Y) ?F (fun _ _ a ns hl _ hS => ⟨a, ns, rfl, hS, hl, fun _ => rfl⟩) (fun _ _ _ _ _ h => h)
  case F =>
    intro w mg fa h KX G hmg
    refine' LrD.law_end _ _ ?T hmg
    case T =>
      refine' LrT.all_mk KX G ?a1 ?l1 ?c1 ?k1 ?a2 ?l2 ?c2 ?k2 ?a3 ?l3 ?c3 ?k3 ?a4 ?l4 ?c4 ?k4 ?a5 ?l5 ?c5 ?k5 ?a6 ?l6 ?c6 ?k6 ?a7 ?l7 ?c7 ?k7 ?a8 ?l8 ?c8 ?k8 ?a9 ?l9 ?c9 ?k9 ?a10 ?l10 ?c10 ?k10 ?a11 ?l11 ?c11 ?k11 ?a12 ?l12 ?c12 ?k12 ?a13 ?l13 ?c13 ?k13 ?a14 ?l14 ?c14 ?k14 ?a15 ?l15 ?c15 ?k15 ?a16 ?l16 ?c16 ?k16 ?a17 ?l17 ?c17 ?k17 ?a18 ?l18 ?c18 ?k18 ?a19 ?l19 ?c19 ?k19 ?a20 ?l20 ?c20 ?k20 ?a21 ?l21 ?c21 ?k21 ?a22 ?l22 ?c22 ?k22 ?a23 ?l23 ?c23 ?k23 ?a24 ?l24 ?c24 ?k24 ?a25 ?l25 ?c25 ?k25 ?a26 ?l26 ?c26 ?k26 ?a27 ?l27 ?c27 ?k27 ?gS ?pgS ?icS ?poS ?saS ?caS ?cnS ?ctS ?cmS ?mkS ?kcS ?a28 ?i28 ?l28 ?c28 ?k28 ?a29 ?s29 ?t29 ?r29_ ?l29 ?c29 ?k29 ?a30 ?s30 ?t30 ?r30_ ?l30 ?c30 ?k30 ?a31 ?s31 ?t31 ?r31_ ?l31 ?c31 ?k31 ?AqS0 ?GqS0 ?TqS0 ?YqS0 ?XqS0 ?AqS1 ?GqS1 ?TqS1 ?YqS1 ?XqS1 ?gP ?pgP ?icP ?poP ?saP ?caP ?cnP ?ctP ?cmP ?mkP ?kcP ?a32 ?i32 ?l32 ?c32 ?k32 ?d32 ?a33 ?s33 ?t33 ?r33_ ?l33 ?c33 ?k33 ?a34 ?s34 ?t34 ?r34_ ?l34 ?c34 ?k34 ?a35 ?s35 ?t35 ?r35_ ?l35 ?c35 ?k35 ?a36 ?s36 ?t36 ?r36_ ?l36 ?c36 ?k36 ?a37 ?i37 ?l37 ?c37 ?k37 ?a38 ?i38 ?l38 ?c38 ?k38 ?a39 ?i39 ?l39 ?c39 ?k39 ?AqP1 ?GqP1 ?TqP1 ?YqP1 ?XqP1 ?AqP2 ?GqP2 ?TqP2 ?YqP2 ?XqP2 ?AqP3 ?GqP3 ?TqP3 ?YqP3 ?XqP3 ?AqP0 ?GqP0 ?TqP0 ?YqP0 ?XqP0 ?nePS ?neP ?tyS ?tyP ?aP ?lP ?aM ?zTuple ?zZip ?zLen ?zSorted ?zAny ?zAll ?zRange ?zIsinstance ?zList ?zInt ?zBool ?zMax ?zMin ?zSum ?zSet
      (case a1 => k_is); (case l1 => k_is); (case c1 => k_is); (case k1 => k_is); (case a2 => k_is); (case l2 => k_is); (case c2 => k_is); (case k2 => k_is)
      (case a3 => k_is); (case l3 => k_is); (case c3 => k_is); (case k3 => k_is); (case a4 => k_is); (case l4 => k_is); (case c4 => k_is); (case k4 => k_is)
      (case a5 => k_is); (case l5 => k_is); (case c5 => k_is); (case k5 => k_is); (case a6 => k_is); (case l6 => k_is); (case c6 => k_is); (case k6 => k_is)
      (case a7 => k_is); (case l7 => k_is); (case c7 => k_is); (case k7 => k_is); (case a8 => k_is); (case l8 => k_is); (case c8 => k_is); (case k8 => k_is)
      (case a9 => k_is); (case l9 => k_is); (case c9 => k_is); (case k9 => k_is); (case a10 => k_is); (case l10 => k_is); (case c10 => k_is); (case k10 => k_is)
      (case a11 => k_is); (case l11 => k_is); (case c11 => k_is); (case k11 => k_is); (case a12 => k_is); (case l12 => k_is); (case c12 => k_is); (case k12 => k_is)
      (case a13 => k_is); (case l13 => k_is); (case c13 => k_is); (case k13 => k_is); (case a14 => k_is); (case l14 => k_is); (case c14 => k_is); (case k14 => k_is)
      (case a15 => k_is); (case l15 => k_is); (case c15 => k_is); (case k15 => k_is); (case a16 => k_is); (case l16 => k_is); (case c16 => k_is); (case k16 => k_is)
      (case a17 => k_is); (case l17 => k_is); (case c17 => k_is); (case k17 => k_is); (case a18 => k_is); (case l18 => k_is); (case c18 => k_is); (case k18 => k_is)
      (case a19 => k_is); (case l19 => k_is); (case c19 => k_is); (case k19 => k_is); (case a20 => k_is); (case l20 => k_is); (case c20 => k_is); (case k20 => k_is)
      (case a21 => k_is); (case l21 => k_is); (case c21 => k_is); (case k21 => k_is); (case a22 => k_is); (case l22 => k_is); (case c22 => k_is); (case k22 => k_is)
      (case a23 => k_is); (case l23 => k_is); (case c23 => k_is); (case k23 => k_is); (case a24 => k_is); (case l24 => k_is); (case c24 => k_is); (case k24 => k_is)
      (case a25 => k_is); (case l25 => k_is); (case c25 => k_is); (case k25 => k_is); (case a26 => k_is); (case l26 => k_is); (case c26 => k_is); (case k26 => k_is)
      (case a27 => k_is); (case l27 => k_is); (case c27 => k_is); (case k27 => k_is); (case gS => k_is); (case pgS => k_is); (case icS => k_is); (case poS => k_is)
      (case saS => k_is); (case caS => k_is); (case cnS => k_is); (case ctS => k_is); (case cmS => k_is); (case mkS => k_is); (case kcS => k_is); (case a28 => k_is)
      (case i28 => k_is); (case l28 => k_is); (case c28 => k_is); (case k28 => k_is); (case a29 => k_is); (case s29 => k_is); (case t29 => k_is); (case r29_ => k_is)
      (case l29 => k_is); (case c29 => k_is); (case k29 => k_is); (case a30 => k_is); (case s30 => k_is); (case t30 => k_is); (case r30_ => k_is); (case l30 => k_is)
      (case c30 => k_is); (case k30 => k_is); (case a31 => k_is); (case s31 => k_is); (case t31 => k_is); (case r31_ => k_is); (case l31 => k_is); (case c31 => k_is)
      (case k31 => k_is); (case AqS0 => k_is); (case GqS0 => k_is); (case TqS0 => k_is); (case YqS0 => k_is); (case XqS0 => k_is); (case AqS1 => k_is); (case GqS1 => k_is)
      (case TqS1 => k_is); (case YqS1 => k_is); (case XqS1 => k_is); (case gP => k_is); (case pgP => k_is); (case icP => k_is); (case poP => k_is); (case saP => k_is)
      (case caP => k_is); (case cnP => k_is); (case ctP => k_is); (case cmP => k_is); (case mkP => k_is); (case kcP => k_is); (case a32 => k_is); (case i32 => k_is)
      (case l32 => k_is); (case c32 => k_is); (case k32 => k_is); (case d32 => k_is); (case a33 => k_is); (case s33 => k_is); (case t33 => k_is); (case r33_ => k_is)
      (case l33 => k_is); (case c33 => k_is); (case k33 => k_is); (case a34 => k_is); (case s34 => k_is); (case t34 => k_is); (case r34_ => k_is); (case l34 => k_is)
      (case c34 => k_is); (case k34 => k_is); (case a35 => k_is); (case s35 => k_is); (case t35 => k_is); (case r35_ => k_is); (case l35 => k_is); (case c35 => k_is)
      (case k35 => k_is); (case a36 => k_is); (case s36 => k_is); (case t36 => k_is); (case r36_ => k_is); (case l36 => k_is); (case c36 => k_is); (case k36 => k_is)
      (case a37 => k_is); (case i37 => k_is); (case l37 => k_is); (case c37 => k_is); (case k37 => k_is); (case a38 => k_is); (case i38 => k_is); (case l38 => k_is)
      (case c38 => k_is); (case k38 => k_is); (case a39 => k_is); (case i39 => k_is); (case l39 => k_is); (case c39 => k_is); (case k39 => k_is); (case AqP1 => k_is)
      (case GqP1 => k_is); (case TqP1 => k_is); (case YqP1 => k_is); (case XqP1 => k_is); (case AqP2 => k_is); (case GqP2 => k_is); (case TqP2 => k_is); (case YqP2 => k_is)
      (case XqP2 => k_is); (case AqP3 => k_is); (case GqP3 => k_is); (case TqP3 => k_is); (case YqP3 => k_is); (case XqP3 => k_is); (case AqP0 => k_is); (case GqP0 => k_is)
      (case TqP0 => k_is); (case YqP0 => k_is); (case XqP0 => k_is); (case nePS => k_is); (case neP => k_is); (case tyS => k_is); (case tyP => k_is); (case aP => k_is)
      (case lP => k_is); (case aM => k_is); (case zTuple => k_is); (case zZip => k_is); (case zLen => k_is); (case zSorted => k_is); (case zAny => k_is); (case zAll => k_is)
      (case zRange => k_is); (case zIsinstance => k_is); (case zList => k_is); (case zInt => k_is); (case zBool => k_is); (case zMax => k_is); (case zMin => k_is); (case zSum => k_is)
      (case zSet => k_is)
      exact Value.none
