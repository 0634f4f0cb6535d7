import PyProof.Rows.All
import Wide.All
import OpenK.AllK
import Wide.FinOn
import PySem.Challenge.RW_no0224_01
open PySem PySem.W PyProof.Rows PySem.Calls
set_option Elab.async false
set_option maxRecDepth 100000
namespace Mine
set_option maxHeartbeats 8000000 in
open_top hd for PySem.Challenge.rw_no0224_01
end Mine
namespace Mine
section PartL0

def strip (m e : Int) : Int × Int := if m = 0 then (0, 0) else if m.fmod 10 = 0 then strip (m.fdiv 10) (e + 1) else (m, e)
termination_by m.natAbs
decreasing_by
  have h := PyProof.Rows.fdiv_fmod_facts m 10
  omega

abbrev tupO (m e : Int) (t u : Tok) : Obj := { cls := .type "tuple", data := .seq #[.int m t, .int e u] }

abbrev RetP (h₀ : Heap) (L : Addr) (m : Str → Option Value) (news : List (Addr × Obj)) (s : Shared) (Q : Value → Shared → Prop) (p : Int × Int) : Prop :=
  (p = (0, 0) → ∀ (h' : Heap) (tk' : Nat), Fr h₀ L h' m → News h₀ L h' news → Q (.ref 15) { s with heap := h', toks := tk' }) ∧
  (∀ (a t u : Nat) (h' : Heap) (tk' : Nat), Fr h₀ L h' m → News h₀ L h' ((a, tupO p.1 p.2 t u) :: news) → (∀ p ∈ news, p.1 < a) → Q (.ref a) { s with heap := h', toks := tk' })

def CallC (w : World) (f : Addr) (k u : Nat) (args : List Value) (news : List (Addr × Obj)) (Ret : Heap → Addr → (Str → Option Value) → List (Addr × Obj) → Shared → (Value → Shared → Prop) → Prop) : Prop :=
  ∀ (mean : ExcName → Option Value) (mg mb : Str → Option Value) (dp un : Nat) (gd : Option (List Code)) (cn : Str) (cs : Scope) (a : Addr) (ccd : Value) (cl : List (Str × Addr)) (outer : List Env) (A₀ : Around) (base h₀ : Heap) (L : Addr) (m : Str → Option Value) (s : Shared) (Q E : Value → Shared → Prop),
    Below A₀ base outer h₀ → Fr h₀ L s.heap m → (hd.heap_39 w.params).In h₀ → News h₀ L s.heap news → Top hd.view_39 (looseW hd.view_39 []) mean mg mb h₀ → cs.kind = .function → dp + k < recursionLimit → un + u < cLine → Ret h₀ L m news s Q →
      wpAny (model PySem.Challenge.rw_no0224_01.row.prog w) (ktrTop dp un gd cn cs L a ccd cl outer) (call (.ref f) args) Q E s

theorem strip_step {m e : Int} (h : m ≠ 0) (h' : m.fmod 10 = 0) : strip (m.fdiv 10) (e + 1) = strip m e := by
  conv => rhs; rw [strip]
  rw [if_neg h, if_pos h']
theorem strip_stop {m e : Int} (h : m ≠ 0) (h' : m.fmod 10 ≠ 0) : strip m e = (m, e) := by rw [strip, if_neg h, if_neg h']
theorem strip_zero {m e : Int} (h : m = 0) : strip m e = (0, 0) := by rw [strip, if_pos h]
theorem strip_turn {m m0 e e0 : Int} (h1 : m ≠ 0) (h2 : m.natAbs ≤ m0.natAbs) (h3 : strip m e = strip m0 e0) (hm : m.fmod 10 = 0) :
    m.fdiv 10 ≠ 0 ∧ (m.fdiv 10).natAbs ≤ m0.natAbs ∧ strip (m.fdiv 10) (e + 1) = strip m0 e0 := by
  have h := PyProof.Rows.fdiv_fmod_facts m 10
  refine ⟨by omega, by omega, (strip_step h1 hm).trans h3⟩
theorem strip_end {m m0 e e0 : Int} (h3 : strip m e = strip m0 e0) (h : m ≠ 0) (h' : m.fmod 10 ≠ 0) : strip m0 e0 = (m, e) := h3.symm.trans (strip_stop h h')
theorem strip_less {m : Int} (h1 : m ≠ 0) (hm : m.fmod 10 = 0) : (m.fdiv 10).natAbs < m.natAbs := by
  have h := PyProof.Rows.fdiv_fmod_facts m 10
  omega

theorem retP_new {h₀ : Heap} {L : Addr} {f : Str → Option Value} {n : List (Addr × Obj)} {s : Shared} {Q : Value → Shared → Prop} {p : Int × Int} (hret : RetP h₀ L f n s Q p) {m e : Int} {a t u : Nat} {h' : Heap} {tk' : Nat} (hp : p = (m, e))
    (F : Fr h₀ L h' f) (N : News h₀ L h' ((a, tupO m e t u) :: n)) (l : ∀ p ∈ n, p.1 < a) : Q (.ref a) { s with heap := h', toks := tk' } := by
  subst hp
  exact hret.2 a t u h' tk' F N l

set_option maxHeartbeats 8000000 in
theorem strip_call (w : World) (m e : Int) (tm te : Tok) (news) : CallC w 22 1 8 [.int m tm, .int e te] news (fun h₀ L f n s Q => RetP h₀ L f n s Q (strip m e)) := by
  unfold CallC
  k_fill
  intro mean mg mb dp un gd cn cs a ccd cl outer A₀ base h₀ L fm s Q E B F X N T hk hd hu hret
  refine wpAny_call ?_
  k_dflt cell_enter
  k_with_none
  k_with "state" => exact strip_turn (by assumption) (by assumption) (by assumption) (by assumption)
  k_with "measure" => exact strip_less (by assumption) (by assumption)
  k_with "exec While Compare cons nil" => k_while_given ["m!", "e!"] (fun m0 e0 script m e => m ≠ 0 ∧ m.natAbs ≤ m0.natAbs ∧ strip m e = strip m0 e0) (fun m0 e0 script m e => m.natAbs) "m" "e"
  k_steps
  · exact hret.1 (strip_zero (by assumption)) _ _ (by assumption) (by assumption)
  · exact retP_new hret (strip_end (by assumption) (by assumption) (by assumption)) (by assumption) (by assumption) (by assumption)

end PartL0
end Mine
namespace Mine
section PartL7

abbrev RetI (h₀ : Heap) (L : Addr) (m : Str → Option Value) (news : List (Addr × Obj)) (s : Shared) (Q : Value → Shared → Prop) (P : Int → Prop) : Prop :=
  ∀ (v : Int) (t : Tok) (h' : Heap) (tk' : Nat), P v → Fr h₀ L h' m → News h₀ L h' news → Q (.int v t) { s with heap := h', toks := tk' }
theorem retI_of {h₀ h' : Heap} {L : Addr} {m : Str → Option Value} {news : List (Addr × Obj)} {s : Shared} {Q : Value → Shared → Prop} {P : Int → Prop} {v : Int} {t : Tok} {tk' : Nat} (hret : RetI h₀ L m news s Q P) (hp : P v) (F : Fr h₀ L h' m) (N : News h₀ L h' news) : Q (.int v t) { s with heap := h', toks := tk' } := hret v t h' tk' hp F N
abbrev InR (k v : Int) : Prop := 0 ≤ v ∧ v < k
theorem inR_mod {x k : Int} (h : 0 < k) : InR k (x.fmod k) := by
  have := PyProof.Rows.fdiv_fmod_facts x k
  exact ⟨Int.fmod_nonneg_of_pos x h, Int.fmod_lt_of_pos x h⟩
theorem inR_zero {k : Int} (h : 0 < k) : InR k 0 := ⟨Int.le_refl 0, h⟩

set_option maxHeartbeats 3000000 in
theorem pick_callH (w : World) (al : Addr) (ws : List Value) (ns : List Int) (i k : Int) (ti tm : Tok) (hI : IntsAre ws ns) (hn : ns.length ≤ 14) (hi0 : 0 ≤ i) (hi1 : i < 100) (hk0 : 0 < k) (hk1 : k < 4611686018427387904) (rest) : CallC w 50 1 8 [.ref al, .int i ti, .int k tm] ((al, W.listOf ws.toArray 0) :: rest) (fun h₀ L f n s Q => RetI h₀ L f n s Q (InR k)) := by
  unfold CallC
  k_fill
  intro mean mg mb dp un gd cn cs a ccd cl outer A₀ base h₀ L fm s Q E B F X N T hk hd hu hret
  refine wpAny_call ?_
  k_dflt cell_enter
  k_with_none
  k_steps
  all_goals first
    | exact retI_of hret (inR_mod hk0) (by with_reducible assumption) (by with_reducible assumption)
    | exact retI_of hret (inR_zero hk0) (by with_reducible assumption) (by with_reducible assumption)

end PartL7
end Mine
namespace Mine
section PartP0

abbrev C (x : Str) : List Int := KStt.codes x

theorem codes_inj {x y : Str} (h : C x = C y) : x = y := by rw [← KStt.txt_codes x, ← KStt.txt_codes y, show KStt.codes x = KStt.codes y from h]
theorem codes_len (x : Str) : (C x).length = x.length := KStt.codes_length x
theorem codes_mk (l : List Nat) : C ⟨l.toArray⟩ = l.map fun (c : Nat) => (c : Int) := rfl
theorem codes_one (n : Nat) : C ⟨#[n]⟩ = [(n : Int)] := rfl
theorem codes_append (x y : Str) : C (x ++ y) = C x ++ C y := by
  show (x ++ y).cps.toList.map _ = _
  rw [Str.cps_append, Array.toList_append, List.map_append]
  rfl
theorem codes_nonneg {x : Str} {c : Int} (h : c ∈ C x) : 0 ≤ c := by
  obtain ⟨n, _, rfl⟩ := List.mem_map.mp h
  omega
theorem codes_eq_iff (x y : Str) : (x == y) = decide (C x = C y) := by
  by_cases h : x = y
  · subst h; simp
  · have h' : ¬ C x = C y := fun e => h (codes_inj e)
    rw [decide_eq_false h']
    exact beq_eq_false_iff_ne.mpr h

theorem filterMap_range' (l : List Nat) : ∀ (n i : Nat), (List.range' i n).filterMap (l[·]?) = (l.drop i).take n
  | 0, i => by simp
  | n + 1, i => by
    rw [List.range'_succ, List.filterMap_cons, filterMap_range' l n (i + 1)]
    by_cases h : i < l.length
    · rw [List.getElem?_eq_getElem h, List.drop_eq_getElem_cons h, List.take_succ_cons]
    · rw [List.getElem?_eq_none (by omega), List.drop_eq_nil_of_le (by omega), List.drop_eq_nil_of_le (by omega)]
      simp

theorem sliceRange_one {a b : Int} (h0 : 0 ≤ a) : sliceRange a b 1 = List.range' a.toNat (b - a).toNat := by
  unfold sliceRange
  have h1 : (1 : Int) > 0 := by decide
  simp only [h1, if_true, Int.ediv_one, Int.one_mul]
  have e : (if a < b then b - a + 1 - 1 else 0 : Int).toNat = (b - a).toNat := by split <;> omega
  rw [e]
  apply List.ext_getElem
  · simp
  · intro i h2 h3
    simp
    omega

theorem slice_list (x : Str) (l u : Option Int) {a b : Int} (ha : 0 ≤ a) (hal : a ≤ x.length) (hbl : b ≤ x.length) (h : Builtin.Str.strSliceIndices l u 1 x.length = sliceRange a b 1) :
    C (Txt.slice x l u) = ((C x).drop a.toNat).take (b - a).toNat := by
  unfold Txt.slice
  rw [h, sliceRange_one ha]
  have hx : x.length = x.cps.toList.length := by simp [Str.length]
  split
  · rename_i hc
    simp only [beq_self_eq_true, Bool.true_and, List.length_range', beq_iff_eq] at hc
    have hl := codes_len x
    by_cases hz : a = 0
    · subst hz
      have e : (b - 0).toNat = (C x).length := by rw [hl]; exact hc
      rw [e]
      simp
    · have e : (C x).length = 0 := by rw [hl]; omega
      have e' : C x = [] := List.eq_nil_of_length_eq_zero e
      rw [e']
      simp
  · show C ⟨_⟩ = _
    rw [codes_mk]
    have e := filterMap_range' x.cps.toList (b - a).toNat a.toNat
    simp only [Array.getElem?_toList] at e
    rw [e, List.map_take, List.map_drop]
    rfl

theorem slice_from (x : Str) {i : Int} (h0 : 0 ≤ i) : C (Txt.slice x (some i) none) = (C x).drop i.toNat := by
  have hl := codes_len x
  have h := slice_list x (some i) none (a := min i x.length) (b := x.length) (by omega) (by omega) (by omega) (by
    unfold Builtin.Str.strSliceIndices
    have h1 : (1 : Int) > 0 := by decide
    have h2 : ¬ i < 0 := by omega
    simp only [h1, h2, if_true, if_false]
    congr 1
    omega)
  rw [h]
  by_cases hi : i ≤ x.length
  · rw [List.take_of_length_le (by rw [List.length_drop]; omega)]
    congr 1
    omega
  · rw [List.drop_eq_nil_of_le (by omega), List.drop_eq_nil_of_le (by omega)]
    simp
theorem slice_ss (x : Str) {i j : Int} (h0 : 0 ≤ i) (h1 : i ≤ j) : C (Txt.slice x (some i) (some j)) = ((C x).drop i.toNat).take (j - i).toNat := by
  have hl := codes_len x
  have h := slice_list x (some i) (some j) (a := min i x.length) (b := min j x.length) (by omega) (by omega) (by omega) (by
    unfold Builtin.Str.strSliceIndices
    have h1 : (1 : Int) > 0 := by decide
    have h2 : ¬ i < 0 := by omega
    have h3 : ¬ j < 0 := by omega
    simp only [h1, h2, h3, if_true, if_false]
    congr 1 <;> omega)
  rw [h]
  by_cases hi : i ≤ x.length
  · have e : (min i x.length).toNat = i.toNat := by omega
    rw [e]
    by_cases hj : j ≤ x.length
    · congr 1
      omega
    · rw [List.take_of_length_le (by rw [List.length_drop]; omega), List.take_of_length_le (by rw [List.length_drop]; omega)]
  · rw [List.drop_eq_nil_of_le (by omega), List.drop_eq_nil_of_le (by omega)]
    simp
theorem slice_to (x : Str) {j : Int} (h1 : 0 ≤ j) : C (Txt.slice x none (some j)) = (C x).take j.toNat := by
  have hl := codes_len x
  have h := slice_list x none (some j) (a := 0) (b := min j x.length) (by omega) (by omega) (by omega) (by
    unfold Builtin.Str.strSliceIndices
    have h1 : (1 : Int) > 0 := by decide
    have h3 : ¬ j < 0 := by omega
    simp only [h1, h3, if_true, if_false]
    congr 1 <;> omega)
  rw [h]
  simp only [Int.toNat_zero, List.drop_zero]
  by_cases hj : j ≤ x.length
  · congr 1
    omega
  · rw [List.take_of_length_le (by omega), List.take_of_length_le (by omega)]
theorem slice_to_neg (x : Str) {j : Int} (h1 : j < 0) (h2 : 0 ≤ j + x.length) : C (Txt.slice x none (some j)) = (C x).take (j + x.length).toNat := by
  have hl := codes_len x
  have h := slice_list x none (some j) (a := 0) (b := j + x.length) (by omega) (by omega) (by omega) (by
    unfold Builtin.Str.strSliceIndices
    have h3 : (1 : Int) > 0 := by decide
    simp only [h1, h3, if_true]
    congr 1 <;> omega)
  rw [h]
  simp only [Int.toNat_zero, List.drop_zero]
  congr 1
  omega
theorem slice_from_neg (x : Str) {i : Int} (h1 : i < 0) (h2 : 0 ≤ i + x.length) : C (Txt.slice x (some i) none) = (C x).drop (i + x.length).toNat := by
  have hl := codes_len x
  have h := slice_list x (some i) none (a := i + x.length) (b := x.length) (by omega) (by omega) (by omega) (by
    unfold Builtin.Str.strSliceIndices
    have h3 : (1 : Int) > 0 := by decide
    simp only [h1, h3, if_true]
    congr 1 <;> omega)
  rw [h, List.take_of_length_le (by rw [List.length_drop]; omega)]

theorem item_code (x : Str) {i : Int} (h0 : 0 ≤ i) (h1 : i < x.length) : ∃ n : Nat, Txt.item x i = ⟨#[n]⟩ ∧ (C x)[i.toNat]? = some (n : Int) := by
  have h : i.toNat < x.cps.size := by have : x.length = x.cps.size := rfl; omega
  have hn : x.cps[i.toNat]? = some x.cps[i.toNat] := Array.getElem?_eq_getElem h
  exact ⟨_, item_meets h0 hn, KStt.code_at hn⟩

def isDig (c : Int) : Bool := decide (48 ≤ c) && decide (c ≤ 57)

theorem fig_codes : (Str.ofString "0123456789") = ⟨#[48, 49, 50, 51, 52, 53, 54, 55, 56, 57]⟩ := by decide +kernel
theorem find_fig (n : Nat) : Txt.find (Str.ofString "0123456789") ⟨#[n]⟩ = if isDig n = true then (n : Int) - 48 else -1 := by
  rw [fig_codes]
  have hw := find_whole ⟨#[48, 49, 50, 51, 52, 53, 54, 55, 56, 57]⟩ ⟨#[n]⟩
  have at_iff : ∀ i : Nat, StrLaws.At ⟨#[48, 49, 50, 51, 52, 53, 54, 55, 56, 57]⟩ ⟨#[n]⟩ 10 i ↔ i < 10 ∧ n = 48 + i := by
    intro i
    refine (StrLaws.subAt_one ⟨#[48, 49, 50, 51, 52, 53, 54, 55, 56, 57]⟩ n i).trans ?_
    constructor
    · intro h2
      have h : i < 10 := by
        have h2' : ([48, 49, 50, 51, 52, 53, 54, 55, 56, 57] : List Nat)[i]? = some n := h2
        exact (List.getElem?_eq_some_iff.mp h2').1
      refine ⟨h, ?_⟩
      have key : ∀ j : Fin 10, ([48, 49, 50, 51, 52, 53, 54, 55, 56, 57] : List Nat)[j.val]? = some (48 + j.val) := by decide
      have k := key ⟨i, h⟩
      have h2' : ([48, 49, 50, 51, 52, 53, 54, 55, 56, 57] : List Nat)[i]? = some n := h2
      rw [k] at h2'
      exact (Option.some.inj h2').symm
    · rintro ⟨h1, h2⟩
      have key : ∀ j : Fin 10, ([48, 49, 50, 51, 52, 53, 54, 55, 56, 57] : List Nat)[j.val]? = some (48 + j.val) := by decide
      have k := key ⟨i, h1⟩
      rw [h2]
      exact k
  rcases hw with ⟨h1, h2⟩ | ⟨i, h1, h2, _⟩
  · rw [h1]
    split
    · rename_i h
      simp only [isDig, Bool.and_eq_true, decide_eq_true_eq] at h
      exact absurd ((at_iff (n - 48)).mpr ⟨by omega, by omega⟩) (h2 (n - 48))
    · rfl
  · have h3 := (at_iff i).mp h2
    rw [h1, if_pos]
    · omega
    · simp only [isDig, Bool.and_eq_true, decide_eq_true_eq]
      omega

end PartP0
end Mine
namespace Mine
section PartP1

def numF (l : List Int) : Int := l.foldl (fun a c => 10 * a + (c - 48)) 0
def expDigits (l : List Int) : Option Int := if l ≠ [] ∧ l.all isDig = true then some (numF l) else none
def readExp (l : List Int) (i : Nat) : Option Int :=
  if l[i]? = some 69 ∨ l[i]? = some 68 then
    (if l[i + 1]? = some 45 then (expDigits (l.drop (i + 2))).map (fun v => -v)
     else if l[i + 1]? = some 43 then expDigits (l.drop (i + 2))
     else expDigits (l.drop (i + 1)))
  else none

theorem numF_nil : numF [] = 0 := rfl
theorem numF_snoc (l : List Int) (c : Int) : numF (l ++ [c]) = 10 * numF l + (c - 48) := by simp [numF]
theorem numF_nonneg : ∀ {l : List Int}, l.all isDig = true → 0 ≤ numF l := by
  have key : ∀ (l : List Int) (a : Int), 0 ≤ a → l.all isDig = true → 0 ≤ l.foldl (fun a c => 10 * a + (c - 48)) a := by
    intro l
    induction l with
    | nil => intro a h _; exact h
    | cons c r ih =>
      intro a h hd
      simp only [List.all_cons, Bool.and_eq_true] at hd
      rw [List.foldl_cons]
      refine ih _ ?_ hd.2
      have := hd.1
      simp only [isDig, Bool.and_eq_true, decide_eq_true_eq] at this
      omega
  intro l h
  exact key l 0 (by omega) h

theorem item_is (x : Str) {i : Int} (h0 : 0 ≤ i) (h1 : i < x.length) (n : Nat) : (Txt.item x i == ⟨#[n]⟩) = decide ((C x)[i.toNat]? = some (n : Int)) := by
  obtain ⟨k, hk, hc⟩ := item_code x h0 h1
  rw [codes_eq_iff, hk, hc]
  simp only [codes_one, List.cons.injEq, and_true, Option.some.injEq]
theorem slice_is (x : Str) {i : Int} (h0 : 0 ≤ i) (n : Nat) : (Txt.slice x (some i) (some (i + 1)) == ⟨#[n]⟩) = decide ((C x)[i.toNat]? = some (n : Int)) := by
  rw [codes_eq_iff, slice_ss x h0 (by omega), codes_one, show (i + 1 - i).toNat = 1 by omega]
  congr 1
  by_cases h : i.toNat < (C x).length
  · rw [List.getElem?_eq_getElem h, List.drop_eq_getElem_cons h]
    simp only [List.take_succ_cons, List.take_zero, List.cons.injEq, and_true, Option.some.injEq]
  · rw [List.getElem?_eq_none (by omega), List.drop_eq_nil_of_le (by omega)]
    simp
theorem sE : Str.ofString "E" = ⟨#[69]⟩ := by decide +kernel
theorem sD : Str.ofString "D" = ⟨#[68]⟩ := by decide +kernel
theorem sMinus : Str.ofString "-" = ⟨#[45]⟩ := by decide +kernel
theorem sPlus : Str.ofString "+" = ⟨#[43]⟩ := by decide +kernel
theorem sDot : Str.ofString "." = ⟨#[46]⟩ := by decide +kernel
theorem sNil : Str.ofString "" = ⟨#[]⟩ := by decide +kernel

section
variable {x : Str} {i j : Int}
theorem rx_other (h0 : 0 ≤ i) (h1 : i < x.length) (hE : (Txt.item x i != Str.ofString "E") = true) (hD : (Txt.item x i != Str.ofString "D") = true) : readExp (C x) i.toNat = none := by
  rw [sE, bne, item_is x h0 h1] at hE
  rw [sD, bne, item_is x h0 h1] at hD
  simp only [Bool.not_eq_true', decide_eq_false_iff_not] at hE hD
  unfold readExp
  rw [if_neg]
  rintro (h | h)
  · exact hE h
  · exact hD h
theorem rx_isE (h0 : 0 ≤ i) (h1 : i < x.length) (hE : (Txt.item x i != Str.ofString "E") = false) : (C x)[i.toNat]? = some 69 ∨ (C x)[i.toNat]? = some 68 := by
  rw [sE, bne, item_is x h0 h1] at hE
  simp only [Bool.not_eq_false', decide_eq_true_eq] at hE
  exact .inl hE
theorem rx_isD (h0 : 0 ≤ i) (h1 : i < x.length) (hE : (Txt.item x i != Str.ofString "D") = false) : (C x)[i.toNat]? = some 69 ∨ (C x)[i.toNat]? = some 68 := by
  rw [sD, bne, item_is x h0 h1] at hE
  simp only [Bool.not_eq_false', decide_eq_true_eq] at hE
  exact .inr hE
theorem rx_minus {r : Option Int} (h0 : 0 ≤ i) (h : (C x)[i.toNat]? = some 69 ∨ (C x)[i.toNat]? = some 68) (hm : (Txt.slice x (some (i + 1)) (some (i + 1 + 1)) == Str.ofString "-") = true)
    (hr : expDigits ((C x).drop (i + 1 + 1).toNat) = r) : readExp (C x) i.toNat = r.map fun v => -v := by
  rw [sMinus, slice_is x (by omega)] at hm
  have e1 : (i + 1).toNat = i.toNat + 1 := by omega
  have e2 : (i + 1 + 1).toNat = i.toNat + 2 := by omega
  rw [e1] at hm
  rw [e2] at hr
  unfold readExp
  rw [if_pos h, if_pos (by simpa using hm), hr]
theorem rx_minus_none (h0 : 0 ≤ i) (h : (C x)[i.toNat]? = some 69 ∨ (C x)[i.toNat]? = some 68) (hm : (Txt.slice x (some (i + 1)) (some (i + 1 + 1)) == Str.ofString "-") = true)
    (hr : expDigits ((C x).drop (i + 1 + 1).toNat) = none) : readExp (C x) i.toNat = none := rx_minus h0 h hm hr
theorem rx_minus_some {v : Int} (h0 : 0 ≤ i) (h : (C x)[i.toNat]? = some 69 ∨ (C x)[i.toNat]? = some 68) (hm : (Txt.slice x (some (i + 1)) (some (i + 1 + 1)) == Str.ofString "-") = true)
    (hr : expDigits ((C x).drop (i + 1 + 1).toNat) = some v) : readExp (C x) i.toNat = some (-v) := rx_minus h0 h hm hr
theorem rx_plus {r : Option Int} (h0 : 0 ≤ i) (h : (C x)[i.toNat]? = some 69 ∨ (C x)[i.toNat]? = some 68) (hm : (Txt.slice x (some (i + 1)) (some (i + 1 + 1)) == Str.ofString "-") = false) (hp : (Txt.slice x (some (i + 1)) (some (i + 1 + 1)) == Str.ofString "+") = true)
    (hr : expDigits ((C x).drop (i + 1 + 1).toNat) = r) : readExp (C x) i.toNat = r := by
  rw [sMinus, slice_is x (by omega)] at hm
  rw [sPlus, slice_is x (by omega)] at hp
  have e1 : (i + 1).toNat = i.toNat + 1 := by omega
  have e2 : (i + 1 + 1).toNat = i.toNat + 2 := by omega
  rw [e1] at hm hp
  rw [e2] at hr
  unfold readExp
  rw [if_pos h, if_neg (by simpa using hm), if_pos (by simpa using hp), hr]
theorem rx_plain {r : Option Int} (h0 : 0 ≤ i) (h : (C x)[i.toNat]? = some 69 ∨ (C x)[i.toNat]? = some 68) (hm : (Txt.slice x (some (i + 1)) (some (i + 1 + 1)) == Str.ofString "-") = false) (hp : (Txt.slice x (some (i + 1)) (some (i + 1 + 1)) == Str.ofString "+") = false)
    (hr : expDigits ((C x).drop (i + 1).toNat) = r) : readExp (C x) i.toNat = r := by
  rw [sMinus, slice_is x (by omega)] at hm
  rw [sPlus, slice_is x (by omega)] at hp
  have e1 : (i + 1).toNat = i.toNat + 1 := by omega
  rw [e1] at hm hp hr
  unfold readExp
  rw [if_pos h, if_neg (by simpa using hm), if_neg (by simpa using hp), hr]
theorem xd_nil (h : j = x.length) : expDigits ((C x).drop j.toNat) = none := by
  have hl := codes_len x
  rw [List.drop_eq_nil_of_le (by omega)]
  rfl
theorem xd_bad {pre post : List Int} {n : Nat} (h0 : 0 ≤ j) (h : C (Txt.slice x (some j) none) = pre ++ (n : Int) :: post) (hb : Txt.find (Str.ofString "0123456789") ⟨#[n]⟩ < 0) : expDigits ((C x).drop j.toNat) = none := by
  rw [← slice_from x h0, h]
  unfold expDigits
  rw [if_neg]
  rintro ⟨_, ha⟩
  rw [find_fig] at hb
  simp only [List.all_append, List.all_cons, Bool.and_eq_true] at ha
  rw [if_pos ha.2.1] at hb
  have := ha.2.1
  simp only [isDig, Bool.and_eq_true, decide_eq_true_eq] at this
  omega
theorem xd_ok {v : Int} (h0 : 0 ≤ j) (h1 : j < x.length) (hv : v = numF (C (Txt.slice x (some j) none))) (ha : (C (Txt.slice x (some j) none)).all isDig = true) : expDigits ((C x).drop j.toNat) = some v := by
  have hl := codes_len x
  rw [slice_from x h0] at hv ha
  unfold expDigits
  rw [if_pos ⟨fun e => by have := List.drop_eq_nil_iff.mp e; omega, ha⟩, hv]
theorem slice_lt (h0 : 0 ≤ i) {n : Nat} (hm : (Txt.slice x (some i) (some (i + 1)) == ⟨#[n]⟩) = true) : i < x.length := by
  rw [slice_is x h0] at hm
  have hl := codes_len x
  obtain ⟨h, _⟩ := List.getElem?_eq_some_iff.mp (of_decide_eq_true hm)
  omega
theorem lt_minus (h0 : 0 ≤ i) (hm : (Txt.slice x (some (i + 1)) (some (i + 1 + 1)) == Str.ofString "-") = true) (hne : i + 1 + 1 ≠ x.length) : i + 1 + 1 < x.length := by
  rw [sMinus] at hm
  have := slice_lt (by omega) hm
  omega
theorem lt_plus (h0 : 0 ≤ i) (hm : (Txt.slice x (some (i + 1)) (some (i + 1 + 1)) == Str.ofString "+") = true) (hne : i + 1 + 1 ≠ x.length) : i + 1 + 1 < x.length := by
  rw [sPlus] at hm
  have := slice_lt (by omega) hm
  omega
theorem lt_plain (h1 : i < x.length) (hne : i + 1 ≠ x.length) : i + 1 < x.length := by omega
theorem nn1 (h0 : 0 ≤ i) : 0 ≤ i + 1 := by omega
theorem nn2 (h0 : 0 ≤ i) : 0 ≤ i + 1 + 1 := by omega
end

theorem xd_start : (0 : Int) ≤ 0 ∧ (0 : Int) = numF [] ∧ ([] : List Int).all isDig = true := ⟨by decide, rfl, rfl⟩
theorem xd_turn {pre : List Int} {n : Nat} {v : Int} (h1 : v = numF pre) (h0 : 0 ≤ v) (h2 : pre.all isDig = true) (hf : ¬ Txt.find (Str.ofString "0123456789") ⟨#[n]⟩ < 0) :
    0 ≤ 10 * v + Txt.find (Str.ofString "0123456789") ⟨#[n]⟩ ∧ 10 * v + Txt.find (Str.ofString "0123456789") ⟨#[n]⟩ = numF (pre ++ [(n : Int)]) ∧ (pre ++ [(n : Int)]).all isDig = true := by
  rw [find_fig] at hf ⊢
  by_cases hd : isDig n = true
  · rw [if_pos hd] at hf ⊢
    refine ⟨by omega, by rw [numF_snoc, h1], by simp [h2, hd]⟩
  · rw [if_neg hd] at hf
    exact absurd (by decide) hf

end PartP1
end Mine
namespace Mine
section PartP2

def scan : List Int → Int → Int → Int → List Int × Int × Int × Int
  | [], m, c, p => ([], m, c, p)
  | x :: r, m, c, p =>
    if isDig x = true then scan r (10 * m + (x - 48)) (c + 1) (if 0 ≤ p then p + 1 else p)
    else if x = 46 ∧ p < 0 then scan r m c 0
    else (x :: r, m, c, p)

def signed (l : List Int) : Nat := if l[0]? = some 45 ∨ l[0]? = some 43 then 1 else 0

def parseE (rest : List Int) : Option Int := if rest = [] then some 0 else readExp rest 0
def parseS (neg : Bool) (r : List Int × Int × Int × Int) : Option (Int × Int) :=
  if r.2.2.1 = 0 then none
  else match parseE r.1 with
    | none => none
    | some e => if r.1 = [] ∧ r.2.2.2 < 0 then none else some (strip (if neg then -r.2.1 else r.2.1) (e - max r.2.2.2 0))
def parse (l : List Int) : Option (Int × Int) := parseS (decide (l[0]? = some 45)) (scan (l.drop (signed l)) 0 0 (-1))

theorem readExp_drop (l : List Int) (i : Nat) : readExp (l.drop i) 0 = readExp l i := by
  unfold readExp
  simp only [List.getElem?_drop, List.drop_drop, Nat.add_zero, Nat.zero_add]

theorem scan_dig {x : Int} {r : List Int} {m c p : Int} (h : isDig x = true) (hp : 0 ≤ p) : scan (x :: r) m c p = scan r (10 * m + (x - 48)) (c + 1) (p + 1) := by
  rw [scan, if_pos h, if_pos hp]
theorem scan_dig' {x : Int} {r : List Int} {m c p : Int} (h : isDig x = true) (hp : p < 0) : scan (x :: r) m c p = scan r (10 * m + (x - 48)) (c + 1) p := by
  rw [scan, if_pos h, if_neg (by omega)]
theorem scan_dot {r : List Int} {m c p : Int} (hp : p < 0) : scan (46 :: r) m c p = scan r m c 0 := by
  rw [scan, if_neg (by decide), if_pos ⟨rfl, hp⟩]
theorem scan_stop {x : Int} {r : List Int} {m c p : Int} (h : ¬ isDig x = true) (hp : ¬ (x = 46 ∧ p < 0)) : scan (x :: r) m c p = (x :: r, m, c, p) := by
  rw [scan, if_neg h, if_neg hp]

section
variable {x : Str} {i : Int}
theorem at_cons (h0 : 0 ≤ i) (h1 : i < x.length) : ∃ n : Nat, Txt.item x i = ⟨#[n]⟩ ∧ (C x).drop i.toNat = (n : Int) :: (C x).drop (i + 1).toNat := by
  obtain ⟨n, hn, hc⟩ := item_code x h0 h1
  refine ⟨n, hn, ?_⟩
  obtain ⟨hl, he⟩ := List.getElem?_eq_some_iff.mp hc
  rw [List.drop_eq_getElem_cons hl, he, show i.toNat + 1 = (i + 1).toNat by omega]

theorem find_ge (n : Nat) : (Txt.find (Str.ofString "0123456789") ⟨#[n]⟩ ≥ 0) ↔ isDig (n : Int) = true := by
  rw [find_fig]
  split
  · rename_i h
    refine ⟨fun _ => h, fun _ => ?_⟩
    simp only [isDig, Bool.and_eq_true, decide_eq_true_eq] at h
    omega
  · rename_i h
    exact ⟨fun h' => absurd h' (by decide), fun h' => absurd h' h⟩

theorem one_eq (n k : Nat) : ((⟨#[n]⟩ : Str) == ⟨#[k]⟩) = true ↔ (n : Int) = (k : Int) := by
  rw [codes_eq_iff, decide_eq_true_eq, codes_one, codes_one]
  simp

/-- one turn over a figure -/
theorem turn_dig {a0 : Nat} {m c p : Int} (h0 : 0 ≤ i) (h1 : i < x.length) (hs : scan ((C x).drop i.toNat) m c p = scan ((C x).drop a0) 0 0 (-1))
    (hd : Txt.find (Str.ofString "0123456789") (Txt.item x i) ≥ 0) (hp : p ≥ 0) :
    scan ((C x).drop (i + 1).toNat) (10 * m + Txt.find (Str.ofString "0123456789") (Txt.item x i)) (c + 1) (p + 1) = scan ((C x).drop a0) 0 0 (-1) := by
  obtain ⟨n, hn, hc⟩ := at_cons h0 h1
  rw [hn] at hd ⊢
  have hd' := (find_ge n).mp hd
  rw [← hs, hc, scan_dig hd' hp, find_fig, if_pos hd']
theorem turn_dig' {a0 : Nat} {m c p : Int} (h0 : 0 ≤ i) (h1 : i < x.length) (hs : scan ((C x).drop i.toNat) m c p = scan ((C x).drop a0) 0 0 (-1))
    (hd : Txt.find (Str.ofString "0123456789") (Txt.item x i) ≥ 0) (hp : p < 0) :
    scan ((C x).drop (i + 1).toNat) (10 * m + Txt.find (Str.ofString "0123456789") (Txt.item x i)) (c + 1) p = scan ((C x).drop a0) 0 0 (-1) := by
  obtain ⟨n, hn, hc⟩ := at_cons h0 h1
  rw [hn] at hd ⊢
  have hd' := (find_ge n).mp hd
  rw [← hs, hc, scan_dig' hd' hp, find_fig, if_pos hd']
theorem turn_dot {a0 : Nat} {m c p : Int} (h0 : 0 ≤ i) (h1 : i < x.length) (hs : scan ((C x).drop i.toNat) m c p = scan ((C x).drop a0) 0 0 (-1))
    (hd : (Txt.item x i == Str.ofString ".") = true) (hp : p < 0) :
    scan ((C x).drop (i + 1).toNat) m c 0 = scan ((C x).drop a0) 0 0 (-1) := by
  obtain ⟨n, hn, hc⟩ := at_cons h0 h1
  rw [hn, sDot, one_eq] at hd
  rw [← hs, hc, hd, show (((46 : Nat) : Int)) = 46 from rfl, scan_dot hp]
theorem not_both (hp : (Txt.item x i == Str.ofString ".") = true) (hd : 0 ≤ Txt.find (Str.ofString "0123456789") (Txt.item x i)) (h0 : 0 ≤ i) (h1 : i < x.length) : False := by
  obtain ⟨n, hn, hc⟩ := at_cons h0 h1
  rw [hn] at hd hp
  rw [sDot, one_eq] at hp
  have hd' := (find_ge n).mp hd
  rw [hp] at hd'
  exact absurd hd' (by decide)
theorem stop_end {a0 : Nat} {m c p : Int} (h1 : ¬ i < x.length) (hs : scan ((C x).drop i.toNat) m c p = scan ((C x).drop a0) 0 0 (-1)) :
    scan ((C x).drop a0) 0 0 (-1) = ([], m, c, p) := by
  have hl := codes_len x
  rw [← hs, List.drop_eq_nil_of_le (by omega), scan]
theorem stop_other {a0 : Nat} {m c p : Int} (h0 : 0 ≤ i) (h1 : i < x.length) (hs : scan ((C x).drop i.toNat) m c p = scan ((C x).drop a0) 0 0 (-1))
    (hd : ¬ Txt.find (Str.ofString "0123456789") (Txt.item x i) ≥ 0) (hp : ¬ ((Txt.item x i == Str.ofString ".") = true ∧ p < 0)) :
    scan ((C x).drop a0) 0 0 (-1) = ((C x).drop i.toNat, m, c, p) := by
  obtain ⟨n, hn, hc⟩ := at_cons h0 h1
  rw [hn] at hd hp
  rw [sDot, one_eq] at hp
  rw [find_ge] at hd
  rw [← hs, hc, scan_stop hd hp]end

section
variable {x : Str} {i i' m c p : Int} {a0 : Int} {n : Nat}
/-- the word of the loop -/
abbrev PW (x : Str) (a0 i m c p : Int) : Prop := 0 ≤ i ∧ i ≤ (x.length : Int) ∧ -1 ≤ p ∧ 0 ≤ m ∧ 0 ≤ c ∧ c ≤ i ∧ scan ((C x).drop i.toNat) m c p = scan ((C x).drop a0.toNat) 0 0 (-1)
theorem pw_dot (h0 : 0 ≤ i) (h1 : i < x.length) (hm : 0 ≤ m) (hc : 0 ≤ c) (hci : c ≤ i) (hs : scan ((C x).drop i.toNat) m c p = scan ((C x).drop a0.toNat) 0 0 (-1))
    (hd : (Txt.item x i == Str.ofString ".") = true) (hp : p < 0) : PW x a0 (i + 1) m c 0 := ⟨by omega, by omega, by omega, hm, hc, by omega, turn_dot h0 h1 hs hd hp⟩
theorem find_nonneg (h0 : 0 ≤ i) (h1 : i < x.length) : -1 ≤ Txt.find (Str.ofString "0123456789") (Txt.item x i) := by
  obtain ⟨n, hn, hc⟩ := at_cons h0 h1
  rw [hn, find_fig]
  split
  · rename_i h
    simp only [isDig, Bool.and_eq_true, decide_eq_true_eq] at h
    omega
  · omega
theorem pw_dig (h0 : 0 ≤ i) (h1 : i < x.length) (hm : 0 ≤ m) (hc : 0 ≤ c) (hci : c ≤ i) (hs : scan ((C x).drop i.toNat) m c p = scan ((C x).drop a0.toNat) 0 0 (-1))
    (hd : 0 ≤ Txt.find (Str.ofString "0123456789") (Txt.item x i)) (hp : 0 ≤ p) : PW x a0 (i + 1) (10 * m + Txt.find (Str.ofString "0123456789") (Txt.item x i)) (c + 1) (p + 1) :=
  ⟨by omega, by omega, by omega, by omega, by omega, by omega, turn_dig h0 h1 hs hd hp⟩
theorem pw_dig' (h0 : 0 ≤ i) (h1 : i < x.length) (hq : -1 ≤ p) (hm : 0 ≤ m) (hc : 0 ≤ c) (hci : c ≤ i) (hs : scan ((C x).drop i.toNat) m c p = scan ((C x).drop a0.toNat) 0 0 (-1))
    (hd : 0 ≤ Txt.find (Str.ofString "0123456789") (Txt.item x i)) (hp : ¬ 0 ≤ p) : PW x a0 (i + 1) (10 * m + Txt.find (Str.ofString "0123456789") (Txt.item x i)) (c + 1) p :=
  ⟨by omega, by omega, by omega, by omega, by omega, by omega, turn_dig' h0 h1 hs hd (by omega)⟩
theorem pw_start (h : a0 ≤ (x.length : Int)) (h0 : 0 ≤ a0) : PW x a0 a0 0 0 (-1) := ⟨h0, h, by omega, by omega, by omega, h0, rfl⟩
theorem one_le (hm : (Txt.slice x none (some 1) == ⟨#[n]⟩) = true) : 1 ≤ (x.length : Int) := by
  have hl := codes_len x
  rw [codes_eq_iff, decide_eq_true_eq, slice_to x (by omega), codes_one] at hm
  have := congrArg List.length hm
  simp only [List.length_take, List.length_cons, List.length_nil] at this
  omega
theorem pw_minus (hm : (Txt.slice x none (some 1) == Str.ofString "-") = true) : PW x 1 1 0 0 (-1) := by
  rw [sMinus] at hm
  exact pw_start (one_le hm) (by decide)
theorem pw_plus (hm : (Txt.slice x none (some 1) == Str.ofString "+") = true) : PW x 1 1 0 0 (-1) := by
  rw [sPlus] at hm
  exact pw_start (one_le hm) (by decide)
theorem pw_none : PW x 0 0 0 0 (-1) := pw_start (by omega) (by decide)
end

end PartP2
end Mine
namespace Mine
section PartP3

def St (x : Str) (a0 i m c p : Int) : Prop := scan ((C x).drop a0.toNat) 0 0 (-1) = ((C x).drop i.toNat, m, c, p)
def Sg (x : Str) (a0 : Int) : Prop := a0.toNat = signed (C x)
section
variable {x : Str} {a0 i m c p v : Int} {b : Bool}
theorem st1 (hs : scan ((C x).drop i.toNat) m c p = scan ((C x).drop a0.toNat) 0 0 (-1)) (h1 : ¬ i < x.length) : St x a0 i m c p := by
  have hl := codes_len x
  unfold St
  rw [stop_end h1 hs, List.drop_eq_nil_of_le (by omega)]
theorem st2 (hs : scan ((C x).drop i.toNat) m c p = scan ((C x).drop a0.toNat) 0 0 (-1)) (hd : ¬ 0 ≤ Txt.find (Str.ofString "0123456789") (Txt.item x i)) (hp : ¬ p < 0) (h0 : 0 ≤ i) (h1 : i < x.length) : St x a0 i m c p :=
  stop_other h0 h1 hs hd fun h => hp h.2
theorem st3 (hs : scan ((C x).drop i.toNat) m c p = scan ((C x).drop a0.toNat) 0 0 (-1)) (hd : ¬ 0 ≤ Txt.find (Str.ofString "0123456789") (Txt.item x i)) (hp : (Txt.item x i == Str.ofString ".") = false) (h0 : 0 ≤ i) (h1 : i < x.length) : St x a0 i m c p :=
  stop_other h0 h1 hs hd fun h => by rw [hp] at h; exact absurd h.1 (by decide)
theorem first_is (n : Nat) : (Txt.slice x none (some 1) == ⟨#[n]⟩) = decide ((C x)[0]? = some (n : Int)) := by
  rw [codes_eq_iff, slice_to x (by omega), codes_one]
  congr 1
  rcases C x with _ | ⟨y, r⟩ <;> simp
theorem sg_minus (h : (Txt.slice x none (some 1) == Str.ofString "-") = true) : Sg x 1 := by
  rw [sMinus, first_is, decide_eq_true_eq] at h
  unfold Sg signed
  rw [if_pos (.inl h)]
  rfl
theorem sg_plus (h : (Txt.slice x none (some 1) == Str.ofString "+") = true) : Sg x 1 := by
  rw [sPlus, first_is, decide_eq_true_eq] at h
  unfold Sg signed
  rw [if_pos (.inr h)]
  rfl
theorem sg_none (h : (Txt.slice x none (some 1) == Str.ofString "-") = false) (h' : (Txt.slice x none (some 1) == Str.ofString "+") = false) : Sg x 0 := by
  rw [sMinus, first_is, decide_eq_false_iff_not] at h
  rw [sPlus, first_is, decide_eq_false_iff_not] at h'
  unfold Sg signed
  rw [if_neg]
  · rfl
  · rintro (e | e)
    · exact h e
    · exact h' e
theorem pe_is (hst : St x a0 i m c p) (hsg : Sg x a0) : parse (C x) = parseS (decide ((C x)[0]? = some 45)) ((C x).drop i.toNat, m, c, p) := by
  unfold parse
  rw [← hsg, hst]
theorem drop_ne (h0 : 0 ≤ i) (h1 : i < x.length) : (C x).drop i.toNat ≠ [] := by
  have hl := codes_len x
  intro e
  have := List.drop_eq_nil_iff.mp e
  omega
theorem pe_c (hst : St x a0 i m c p) (hsg : Sg x a0) (hc : c = 0) : parse (C x) = none := by
  rw [pe_is hst hsg, parseS, if_pos hc]
theorem pe_e (hst : St x a0 i m c p) (hsg : Sg x a0) (h0 : 0 ≤ i) (h1 : i < x.length) (he : readExp (C x) i.toNat = none) : parse (C x) = none := by
  rw [pe_is hst hsg, parseS]
  split
  · rfl
  · simp only [parseE]
    rw [if_neg (drop_ne h0 h1), readExp_drop, he]
theorem pe_p (hst : St x a0 i m c p) (hsg : Sg x a0) (h1 : i = x.length) (hp : p < 0) : parse (C x) = none := by
  have hl := codes_len x
  have hd : (C x).drop i.toNat = [] := List.drop_eq_nil_of_le (by omega)
  rw [pe_is hst hsg, parseS]
  split
  · rfl
  · simp [parseE, hd, hp]
theorem maxif (p : Int) : (if 0 > p then 0 else p) = max p 0 := by
  split <;> omega
theorem item0 (h0 : 0 ≤ i) (hci : c ≤ i) (hil : i ≤ (x.length : Int)) (hcc : 0 ≤ c) (hc : c ≠ 0) (hb : (Txt.item x 0 == Str.ofString "-") = b) : decide ((C x)[0]? = some 45) = b := by
  rw [sMinus, item_is x (by omega) (by omega)] at hb
  exact hb
theorem pe_x (hst : St x a0 i m c p) (hsg : Sg x a0) (h0 : 0 ≤ i) (h1 : i < x.length) (hci : c ≤ i) (hcc : 0 ≤ c) (hc : c ≠ 0) (he : readExp (C x) i.toNat = some v) (hb : (Txt.item x 0 == Str.ofString "-") = b) :
    parse (C x) = some (strip (if b then -m else m) (v - if 0 > p then 0 else p)) := by
  rw [pe_is hst hsg, parseS, if_neg hc, item0 h0 hci (by omega) hcc hc hb]
  simp only [parseE]
  rw [if_neg (drop_ne h0 h1), readExp_drop, he, maxif]
  simp [drop_ne h0 h1]
theorem pe_y (hst : St x a0 i m c p) (hsg : Sg x a0) (h0 : 0 ≤ i) (h1 : i = x.length) (hci : c ≤ i) (hcc : 0 ≤ c) (hc : c ≠ 0) (hp : ¬ p < 0) (hb : (Txt.item x 0 == Str.ofString "-") = b) :
    parse (C x) = some (strip (if b then -m else m) (0 - if 0 > p then 0 else p)) := by
  have hl := codes_len x
  have hd : (C x).drop i.toNat = [] := List.drop_eq_nil_of_le (by omega)
  rw [pe_is hst hsg, parseS, if_neg hc, item0 h0 hci (by omega) hcc hc hb]
  rw [maxif]
  simp [parseE, hd, hp]
end
end PartP3
end Mine
namespace Mine
section PartP4

def Asc (x : Str) : Prop := ∀ c ∈ C x, c < 128
theorem asc_nat {x : Str} (h : Asc x) : ∀ n ∈ x.cps.toList, n < 128 := fun n hn => by
  have := h (n : Int) (List.mem_map.mpr ⟨n, hn, rfl⟩)
  omega
theorem asc_of_nat {x : Str} (h : ∀ n ∈ x.cps.toList, n < 128) : Asc x := fun c hc => by
  obtain ⟨n, hn, rfl⟩ := List.mem_map.mp hc
  have := h n hn
  omega
theorem asc_ok {x : Str} (h : Asc x) : PyData.strOk x = true := by
  unfold PyData.strOk
  rw [Array.all_eq_true_iff_forall_mem]
  intro n hn
  have := asc_nat h n (Array.mem_toList_iff.mpr hn)
  simp only [decide_eq_true_eq]
  omega

theorem texts_canLay : ∀ {xs : List Str}, (∀ x ∈ xs, PyData.strOk x = true) → PyData.canLayAll0 (xs.map PyData.str) = true
  | [], _ => rfl
  | a :: r, h => by simp [PyData.canLayAll0, PyData.canLay0, texts_canLay (xs := r) fun x hx => h x (.tail _ hx), h a (.head _)]
theorem texts_depth : ∀ xs : List Str, PyData.depthAll (xs.map PyData.str) = 0
  | [] => rfl
  | _ :: r => by simp [PyData.depthAll, PyData.depth, texts_depth r]
theorem texts_shaped {xs : List Str} (h : ∀ x ∈ xs, PyData.strOk x = true) : SeqAt.shaped (.list (xs.map PyData.str)) = true := by
  simp [SeqAt.shaped, PyData.canLay0, PyData.depth, texts_canLay h, texts_depth]
section
variable {prog : Program} {w : World} {A : Around} {E : Value → Shared → Prop} {s : Shared} {a b : Addr} {vs : List Value} {xs : List Str} {Q : Value → Shared → Prop} {n : Nat}
theorem same_nil (xs : List Str) : PySem.Spec.same (.list (xs.map PyData.str)) (.list []) = decide (xs = []) := by
  cases xs <;> simp [PySem.Spec.same, PySem.Spec.sameAll]
theorem eq_texts_nil (ha : s.heap.IsList a vs.toArray) (hb : s.heap.IsList b #[]) (hc : CarriedAll vs (xs.map PyData.str)) (hx : ∀ x ∈ xs, PyData.strOk x = true) (hu : A.units + 64 < cLine) (h : Q (.bool (decide (xs = []))) s) :
    wpAny (model prog w) A (compareOp .Eq (.ref a) (.ref b)) Q E s :=
  eq_dataH_same (reads_newData ha hc) (reads_newData (ys := []) (ds := []) hb .nil) (texts_shaped hx) (by rfl) hu (by cases xs <;> rfl) (by rw [same_nil]; exact h)
end

def figs (l : List Int) : Bool := decide (l ≠ []) && l.all isDig

theorem dig_in (n : Nat) : (!(Builtin.Str.occurrences (Str.ofString "0123456789") ⟨#[n]⟩ 0 (Str.ofString "0123456789").length 1).isEmpty) = isDig n := by
  rw [StrLaws.found_one, fig_codes]
  rw [Bool.eq_iff_iff, decide_eq_true_eq]
  simp only [isDig, Bool.and_eq_true, decide_eq_true_eq, List.mem_cons, List.not_mem_nil, or_false]
  omega

theorem figs_filter (x : Str) : decide (((signs x).filter fun a => !!(Builtin.Str.occurrences (Str.ofString "0123456789") a 0 (Str.ofString "0123456789").length 1).isEmpty) = []) = (C x).all isDig := by
  rw [Bool.eq_iff_iff, decide_eq_true_eq, List.filter_eq_nil_iff, List.all_eq_true]
  constructor
  · intro h c hc
    obtain ⟨n, hn, rfl⟩ := List.mem_map.mp hc
    have := h ⟨#[n]⟩ (List.mem_map.mpr ⟨n, hn, rfl⟩)
    rw [dig_in] at this
    simpa using this
  · intro h a ha
    obtain ⟨n, hn, rfl⟩ := List.mem_map.mp ha
    have := h (n : Int) (List.mem_map.mpr ⟨n, hn, rfl⟩)
    rw [dig_in, this]
    decide
theorem signs_ok {x : Str} (h : Asc x) {p : Str → Bool} : ∀ a ∈ (signs x).filter p, PyData.strOk a = true := by
  intro a ha
  obtain ⟨n, hn, rfl⟩ := List.mem_map.mp (List.mem_filter.mp ha).1
  have := asc_nat h n hn
  simp only [PyData.strOk]
  simp
  omega
theorem figs_empty {x : Str} (h : (x != Str.ofString "") = false) : (x != Str.ofString "") = figs (C x) := by
  rw [h]
  rw [sNil, bne, codes_eq_iff] at h
  simp only [Bool.not_eq_false', decide_eq_true_eq] at h
  rw [h]
  rfl
theorem figs_full {x : Str} (h : (x != Str.ofString "") = true) : decide (((signs x).filter fun a => !!(Builtin.Str.occurrences (Str.ofString "0123456789") a 0 (Str.ofString "0123456789").length 1).isEmpty) = []) = figs (C x) := by
  rw [figs_filter]
  rw [sNil, bne, codes_eq_iff] at h
  simp only [Bool.not_eq_true', decide_eq_false_iff_not] at h
  unfold figs
  have h' : C x ≠ [] := h
  rw [decide_eq_true h', Bool.true_and]

end PartP4
end Mine
namespace Mine
section PartL1

theorem strip_endz {m m0 e e0 : Int} (h3 : strip m e = strip m0 e0) (h : m = 0) : strip m0 e0 = (0, 0) := h3.symm.trans (strip_zero h)

abbrev RetT (h₀ : Heap) (L : Addr) (m : Str → Option Value) (news : List (Addr × Obj)) (s : Shared) (Q : Value → Shared → Prop) (p : Int × Int) : Prop :=
  ∀ (a t u : Nat) (h' : Heap) (tk' : Nat), Fr h₀ L h' m → News h₀ L h' ((a, tupO p.1 p.2 t u) :: news) → (∀ p ∈ news, p.1 < a) → Q (.ref a) { s with heap := h', toks := tk' }
theorem retT_new {h₀ : Heap} {L : Addr} {f : Str → Option Value} {n : List (Addr × Obj)} {s : Shared} {Q : Value → Shared → Prop} {p : Int × Int} (hret : RetT h₀ L f n s Q p) {m e : Int} {a t u : Nat} {h' : Heap} {tk' : Nat} (hp : p = (m, e))
    (F : Fr h₀ L h' f) (N : News h₀ L h' ((a, tupO m e t u) :: n)) (l : ∀ p ∈ n, p.1 < a) : Q (.ref a) { s with heap := h', toks := tk' } := by
  subst hp
  exact hret a t u h' tk' F N l

set_option maxHeartbeats 8000000 in
theorem lpair_call (w : World) (m e : Int) (tm te : Tok) (news) : CallC w 62 1 8 [.int m tm, .int e te] news (fun h₀ L f n s Q => RetT h₀ L f n s Q (strip m e)) := by
  unfold CallC
  k_fill
  intro mean mg mb dp un gd cn cs a ccd cl outer A₀ base h₀ L fm s Q E B F X N T hk hd hu hret
  refine wpAny_call ?_
  k_dflt cell_enter
  k_with_none
  k_with "state" => exact (strip_turn (by assumption) (by assumption) (by assumption) (by assumption)).2
  k_with "measure" => exact strip_less (by assumption) (by assumption)
  k_with "exec While BoolOp cons nil" => k_while_given ["m!", "e!"] (fun m0 e0 script m e => m.natAbs ≤ m0.natAbs ∧ strip m e = strip m0 e0) (fun m0 e0 script m e => m.natAbs) "m" "e"
  k_steps
  all_goals first
    | contradiction
    | exact retT_new hret (strip_end (by assumption) (by assumption) (by assumption)) (by assumption) (by assumption) (by assumption)
    | exact retT_new hret (strip_endz (by assumption) (by assumption)) (by assumption) (by assumption) (by assumption)

end PartL1
end Mine
namespace Mine
section PartL4

theorem news_tail {h₀ h : Heap} {L : Addr} {a : Addr × Obj} {b : List (Addr × Obj)} (N : News h₀ L h (a :: b)) : News h₀ L h b := fun p hp => N p (.tail _ hp)

abbrev RetB (h₀ : Heap) (L : Addr) (m : Str → Option Value) (news : List (Addr × Obj)) (s : Shared) (Q : Value → Shared → Prop) (p : Bool) : Prop :=
  ∀ (h' : Heap) (tk' : Nat), Fr h₀ L h' m → News h₀ L h' news → Q (.bool p) { s with heap := h', toks := tk' }
theorem retB_of {h₀ : Heap} {L : Addr} {m : Str → Option Value} {news : List (Addr × Obj)} {s : Shared} {Q : Value → Shared → Prop} {p b : Bool} (hret : RetB h₀ L m news s Q p) (e : b = p) {h' : Heap} {tk' : Nat} (F : Fr h₀ L h' m) (N : News h₀ L h' news) : Q (.bool b) { s with heap := h', toks := tk' } := by
  subst e
  exact hret h' tk' F N

local macro_rules | `(tactic| walk_at "compareOp Eq ref ref") => `(tactic| (k_here; (with_reducible show wpAny _ _ (compareOp CmpOp.Eq (Value.ref _) (Value.ref _)) _ _ _); (with_unfolding_all refine' eq_texts_nil ?k1 ?k2 ?k3 ?k4 ?k5 ?_; (case k1 => is_list); (case k2 => is_list); (case k3 => assumption); (case k4 => exact signs_ok (by assumption)); (case k5 => units_room); k_whole)))

set_option maxHeartbeats 3000000 in
theorem figs_call (w : World) (x : Str) (tx : Tok) (hx : x.length ≤ 100) (ha : Asc x) (news) : CallC w 55 1 128 [.str x tx] news (fun h₀ L f n s Q => RetB h₀ L f n s Q (figs (C x))) := by
  unfold CallC
  k_fill
  intro mean mg mb dp un gd cn cs a ccd cl outer A₀ base h₀ L fm s Q E B F X N T hk hd hu hret
  refine wpAny_call ?_
  k_dflt cell_enter
  k_with_none
  k_steps
  all_goals first
    | exact retB_of hret (figs_empty (by assumption)) (by assumption) (by assumption)
    | exact retB_of hret (figs_full (by assumption)) (by assumption) (news_tail (news_tail (by assumption)))

end PartL4
end Mine
namespace Mine
section PartP5

theorem news_left' {h₀ h : Heap} {L : Addr} {a b : List (Addr × Obj)} (N : News h₀ L h (a ++ b)) : News h₀ L h b := fun p hp => N p (List.mem_append_right _ hp)
section
variable {M : Model} {A : Around} {E : Value → Shared → Prop} {s : Shared} {h₀ : Heap} {L : Addr} {m : Str → Option Value} {news : List (Addr × Obj)}
def CutInt (s : Shared) (h₀ : Heap) (L : Addr) (m : Str → Option Value) (news : List (Addr × Obj)) (P : Int → Prop) (v : Value) (s' : Shared) : Prop :=
  ∃ (a : Int) (t : Nat) (h' : Heap) (tk' : Nat), v = .int a t ∧ P a ∧ s' = { s with heap := h', toks := tk' } ∧ Fr h₀ L h' m ∧ News h₀ L h' news
def CutStr (s : Shared) (h₀ : Heap) (L : Addr) (m : Str → Option Value) (news : List (Addr × Obj)) (P : Str → Prop) (v : Value) (s' : Shared) : Prop :=
  ∃ (a : Str) (t : Nat) (h' : Heap) (tk' : Nat), v = .str a t ∧ P a ∧ s' = { s with heap := h', toks := tk' } ∧ Fr h₀ L h' m ∧ News h₀ L h' news
theorem cutInt_of {P : Int → Prop} {a : Int} {t : Nat} {h' : Heap} {tk' : Nat} (hp : P a) (F : Fr h₀ L h' m) (N : News h₀ L h' news) : CutInt s h₀ L m news P (.int a t) { s with heap := h', toks := tk' } := ⟨a, t, h', tk', rfl, hp, rfl, F, N⟩
theorem cutStr_of {P : Str → Prop} {a : Str} {t : Nat} {h' : Heap} {tk' : Nat} (hp : P a) (F : Fr h₀ L h' m) (N : News h₀ L h' news) : CutStr s h₀ L m news P (.str a t) { s with heap := h', toks := tk' } := ⟨a, t, h', tk', rfl, hp, rfl, F, N⟩
theorem cutI {t : Sem Value} {Q : Value → Shared → Prop} (_ : Fr h₀ L s.heap m) (_ : News h₀ L s.heap news) (P : Int → Prop) (h1 : wpAny M A t (CutInt s h₀ L m news P) E s)
    (h2 : ∀ (a : Int) (u : Nat) (h' : Heap) (tk' : Nat), P a → Fr h₀ L h' m → News h₀ L h' news → Q (.int a u) { s with heap := h', toks := tk' }) : wpAny M A t Q E s :=
  wpAny_mono h1 (fun _ _ ⟨a, u, h', tk', e, hp, e', F, N⟩ => by subst e; subst e'; exact h2 a u h' tk' hp F N) fun _ _ => id
theorem cutS {t : Sem Value} {Q : Value → Shared → Prop} (_ : Fr h₀ L s.heap m) (_ : News h₀ L s.heap news) (P : Str → Prop) (h1 : wpAny M A t (CutStr s h₀ L m news P) E s)
    (h2 : ∀ (a : Str) (u : Nat) (h' : Heap) (tk' : Nat), P a → Fr h₀ L h' m → News h₀ L h' news → Q (.str a u) { s with heap := h', toks := tk' }) : wpAny M A t Q E s :=
  wpAny_mono h1 (fun _ _ ⟨a, u, h', tk', e, hp, e', F, N⟩ => by subst e; subst e'; exact h2 a u h' tk' hp F N) fun _ _ => id
theorem frCongr {h : Heap} {m m' : Str → Option Value} (F : Fr h₀ L h m) (e : m = m') : Fr h₀ L h m' := e ▸ F

def sgnOf (l : List Int) : Int := if l[0]? = some 45 then -1 else 1
def NumSt (x : Str) (sg : Int) (r : Str) : Prop := sg = sgnOf (C x) ∧ C r = (C x).drop (signed (C x))

def SignMap (sg : Int) (t1 : Nat) (r : Str) (t2 : Nat) (m0 : Str → Option Value) : Str → Option Value :=
  fun y => if y = Str.ofString "row" then some (.str r t2) else if y = Str.ofString "sign" then some (.int sg t1) else m0 y

def CutSgn (x : Str) (s : Shared) (h₀ : Heap) (L : Addr) (m0 : Str → Option Value) (news : List (Addr × Obj)) (fl : Flow) (s' : Shared) : Prop :=
  ∃ (sg : Int) (t1 : Nat) (r : Str) (t2 : Nat) (h' : Heap) (tk' : Nat), fl = .next ∧ NumSt x sg r ∧ s' = { s with heap := h', toks := tk' + 1 } ∧ Fr h₀ L h' (SignMap sg t1 r t2 m0) ∧ News h₀ L h' news
theorem cutSgn (x : Str) {m0 : Str → Option Value} {one : Int} {t0 : Nat} {t : Sem Flow} {Q : Flow → Shared → Prop} (_ : Fr h₀ L s.heap (fun y => if y = Str.ofString "sign" then some (.int one t0) else m0 y)) (_ : News h₀ L s.heap news)
    (h1 : wpAny M A t (CutSgn x s h₀ L m0 news) E s)
    (h2 : ∀ (sg : Int) (t1 : Nat) (r : Str) (t2 : Nat) (h' : Heap) (tk' : Nat), NumSt x sg r →
      Fr h₀ L h' (fun y => if y = Str.ofString "row" then some (.str r t2) else if y = Str.ofString "sign" then some (.int sg t1) else m0 y) → News h₀ L h' news → Q .next { s with heap := h', toks := tk' + 1 }) : wpAny M A t Q E s :=
  wpAny_mono h1 (fun _ _ ⟨sg, t1, r, t2, h', tk', e, hp, e', F, N⟩ => by subst e; subst e'; exact h2 sg t1 r t2 h' tk' hp F N) fun _ _ => id
theorem cutSgn_of {x : Str} {m m0 : Str → Option Value} {sg : Int} {t1 : Nat} {r : Str} {t2 : Nat} {h' : Heap} {tk' : Nat} {news' : List (Addr × Obj)} (hp : NumSt x sg r) (F : Fr h₀ L h' m) (e : m = SignMap sg t1 r t2 m0) (N : News h₀ L h' (news' ++ news)) : CutSgn x s h₀ L m0 news .next { s with heap := h', toks := tk' + 1 } :=
  ⟨sg, t1, r, t2, h', tk', rfl, hp, rfl, e ▸ F, news_left' N⟩
theorem sign_none {x : Str} {tx t1 : Nat} {sg : Int} (m0 : Str → Option Value) (m : Str → Option Value) (h : m0 (Str.ofString "row") = some (.str x tx)) (hm : m = fun y => if y = Str.ofString "sign" then some (.int sg t1) else m0 y := by rfl) : m = SignMap sg t1 x tx m0 := by
  subst hm
  funext y
  by_cases h1 : y = Str.ofString "row"
  · have h2 : ¬ Str.ofString "row" = Str.ofString "sign" := by decide +kernel
    simp [SignMap, h1, h2, h]
  · simp [SignMap, h1]
theorem cutSgn_is {x : Str} {m0 : Str → Option Value} {o : Option Value} {sg : Int} {t1 : Nat} {r : Str} {t2 : Nat} {h' : Heap} {tk' : Nat} {p : Addr × Obj} (hp : NumSt x sg r) (F : Fr h₀ L h' (fun y => if y = Str.ofString "row" then some (.str r t2) else if y = Str.ofString "sign" then some (.int sg t1) else if y = Str.ofString "sign" then o else m0 y)) (N : News h₀ L h' (p :: news)) :
    CutSgn x s h₀ L m0 news .next { s with heap := h', toks := tk' + 1 } := ⟨sg, t1, r, t2, h', tk', rfl, hp, rfl, frCongr F (by funext y; by_cases h2 : y = Str.ofString "sign" <;> simp [SignMap, h2]), fun q hq => N q (.tail _ hq)⟩
theorem cutSgn_no {x : Str} {m0 : Str → Option Value} {t1 : Nat} {t2 : Nat} {h' : Heap} {tk' : Nat} {p : Addr × Obj} (hp : NumSt x 1 x) (h : m0 (Str.ofString "row") = some (.str x t2)) (F : Fr h₀ L h' (fun y => if y = Str.ofString "sign" then some (.int 1 t1) else m0 y)) (N : News h₀ L h' (p :: news)) :
    CutSgn x s h₀ L m0 news .next { s with heap := h', toks := tk' + 1 } := ⟨1, t1, x, t2, h', tk', rfl, hp, rfl, frCongr F (sign_none m0 _ h), fun q hq => N q (.tail _ hq)⟩
def TokMark (_ : Nat) : Prop := True
theorem genToks {α : Type} {T : Sem α} {Q : α → Shared → Prop} {h g d o} {n : Nat} (k : ∀ tk : Nat, TokMark tk → wpAny M A T Q E ⟨h, g, d, tk + 1, o⟩) : wpAny M A T Q E ⟨h, g, d, n + 1, o⟩ := k n trivial
theorem genStop {α : Type} {T : Sem α} {Q : α → Shared → Prop} {h g d o} {n : Nat} (_ : TokMark n) (k : wpAny M A T Q E ⟨h, g, d, n + 1, o⟩) : wpAny M A T Q E ⟨h, g, d, n + 1, o⟩ := k
end

section
variable {x : Str}
theorem any_iff (x : Str) : ([Str.ofString "+", Str.ofString "-"].any fun y => y == Txt.slice x none (some 1)) = decide ((C x)[0]? = some 45 ∨ (C x)[0]? = some 43) := by
  have e1 : (Str.ofString "+" == Txt.slice x none (some 1)) = decide ((C x)[0]? = some 43) := by rw [BEq.comm, sPlus, first_is]; rfl
  have e2 : (Str.ofString "-" == Txt.slice x none (some 1)) = decide ((C x)[0]? = some 45) := by rw [BEq.comm, sMinus, first_is]; rfl
  simp only [List.any_cons, List.any_nil, Bool.or_false, e1, e2]
  rw [Bool.eq_iff_iff]
  simp only [Bool.or_eq_true, decide_eq_true_eq]
  exact Or.comm
theorem ns_tail (ha : ([Str.ofString "+", Str.ofString "-"].any fun y => y == Txt.slice x none (some 1)) = true) : C (Txt.slice x (some 1) none) = (C x).drop (signed (C x)) := by
  rw [any_iff, decide_eq_true_eq] at ha
  rw [slice_from x (by omega), signed, if_pos ha]
  rfl
theorem ns_plus (ha : ([Str.ofString "+", Str.ofString "-"].any fun y => y == Txt.slice x none (some 1)) = true) (hx : 1 ≤ x.length) (hp : (Txt.item x 0 == Str.ofString "+") = true) : NumSt x 1 (Txt.slice x (some 1) none) := by
  refine ⟨?_, ns_tail ha⟩
  rw [sPlus, item_is x (by omega) (by omega), decide_eq_true_eq] at hp
  have hp' : (C x)[0]? = some 43 := hp
  rw [sgnOf, hp', if_neg (by decide)]
theorem ns_minus (ha : ([Str.ofString "+", Str.ofString "-"].any fun y => y == Txt.slice x none (some 1)) = true) (hx : 1 ≤ x.length) (hp : (Txt.item x 0 == Str.ofString "+") = false) : NumSt x (-1) (Txt.slice x (some 1) none) := by
  refine ⟨?_, ns_tail ha⟩
  rw [any_iff, decide_eq_true_eq] at ha
  rw [sPlus, item_is x (by omega) (by omega), decide_eq_false_iff_not] at hp
  have hp' : ¬ (C x)[0]? = some 43 := hp
  rw [sgnOf, if_pos (ha.resolve_right hp')]
theorem ns_none (ha : ([Str.ofString "+", Str.ofString "-"].any fun y => y == Txt.slice x none (some 1)) = false) : NumSt x 1 x := by
  rw [any_iff, decide_eq_false_iff_not] at ha
  refine ⟨?_, ?_⟩
  · rw [sgnOf, if_neg fun h => ha (.inl h)]
  · rw [signed, if_neg ha]
    rfl
theorem NumSt.drop {sg : Int} {r : Str} (h : NumSt x sg r) : C r = (C x).drop (signed (C x)) := h.2
theorem NumSt.sgn {sg : Int} {r : Str} (h : NumSt x sg r) : sg = sgnOf (C x) := h.1
theorem ns_empty (hx : (x != Str.ofString "") = false) : NumSt x 1 x := by
  rw [sNil, bne, codes_eq_iff] at hx
  simp only [Bool.not_eq_false', decide_eq_true_eq] at hx
  have hx' : C x = [] := hx
  refine ⟨?_, ?_⟩
  · rw [hx']; rfl
  · rw [hx']; rfl
end

end PartP5
end Mine
namespace Mine
section PartP3b
section
variable {x : Str} {a0 i m c p v : Int} {b : Bool}
theorem pe_xt (hst : St x a0 i m c p) (hsg : Sg x a0) (h0 : 0 ≤ i) (h1 : i < x.length) (hci : c ≤ i) (hcc : 0 ≤ c) (hc : c ≠ 0) (he : readExp (C x) i.toNat = some v) (hb : (Txt.item x 0 == Str.ofString "-") = true) :
    parse (C x) = some (strip (-m) (v - if 0 > p then 0 else p)) := pe_x hst hsg h0 h1 hci hcc hc he hb
theorem pe_xf (hst : St x a0 i m c p) (hsg : Sg x a0) (h0 : 0 ≤ i) (h1 : i < x.length) (hci : c ≤ i) (hcc : 0 ≤ c) (hc : c ≠ 0) (he : readExp (C x) i.toNat = some v) (hb : (Txt.item x 0 == Str.ofString "-") = false) :
    parse (C x) = some (strip m (v - if 0 > p then 0 else p)) := pe_x hst hsg h0 h1 hci hcc hc he hb
theorem pe_yt (hst : St x a0 i m c p) (hsg : Sg x a0) (h0 : 0 ≤ i) (h1 : i = x.length) (hci : c ≤ i) (hcc : 0 ≤ c) (hc : c ≠ 0) (hp : ¬ p < 0) (hb : (Txt.item x 0 == Str.ofString "-") = true) :
    parse (C x) = some (strip (-m) (0 - if 0 > p then 0 else p)) := pe_y hst hsg h0 h1 hci hcc hc hp hb
theorem pe_yf (hst : St x a0 i m c p) (hsg : Sg x a0) (h0 : 0 ≤ i) (h1 : i = x.length) (hci : c ≤ i) (hcc : 0 ≤ c) (hc : c ≠ 0) (hp : ¬ p < 0) (hb : (Txt.item x 0 == Str.ofString "-") = false) :
    parse (C x) = some (strip m (0 - if 0 > p then 0 else p)) := pe_y hst hsg h0 h1 hci hcc hc hp hb
structure SgA (x : Str) (a : Int) : Prop where
  sg : Sg x a
  nn : 0 ≤ a
  le : a ≤ (x.length : Int)
theorem sgA_minus (h : (Txt.slice x none (some 1) == Str.ofString "-") = true) : SgA x 1 := ⟨sg_minus h, by decide, one_le (n := 45) (by rw [sMinus] at h; exact h)⟩
theorem sgA_plus (h : (Txt.slice x none (some 1) == Str.ofString "+") = true) : SgA x 1 := ⟨sg_plus h, by decide, one_le (n := 43) (by rw [sPlus] at h; exact h)⟩
theorem sgA_none (h : (Txt.slice x none (some 1) == Str.ofString "-") = false) (h' : (Txt.slice x none (some 1) == Str.ofString "+") = false) : SgA x 0 := ⟨sg_none h h', by decide, by omega⟩
end
end PartP3b
end Mine
namespace Mine
section PartP6

def splitC (c : Int) : List Int → List (List Int)
  | [] => [[]]
  | x :: r => if x = c then [] :: splitC c r else match splitC c r with
    | [] => [[x]]
    | p :: ps => (x :: p) :: ps
def joinC (c : Int) : List (List Int) → List Int
  | [] => []
  | [p] => p
  | p :: q :: r => p ++ c :: joinC c (q :: r)

theorem splitC_ne (c : Int) : ∀ l, splitC c l ≠ []
  | [] => by simp [splitC]
  | x :: r => by
    rw [splitC]
    split
    · simp
    · split <;> simp
theorem splitC_free {c : Int} : ∀ {l : List Int}, c ∉ l → splitC c l = [l]
  | [], _ => rfl
  | x :: r, h => by
    rw [splitC, if_neg (fun e : x = c => h (by rw [e]; exact .head _)), splitC_free (fun e => h (.tail _ e))]
theorem splitC_cat {c : Int} : ∀ {p l : List Int}, c ∉ p → splitC c (p ++ c :: l) = p :: splitC c l
  | [], l, _ => by simp [splitC]
  | x :: r, l, h => by
    rw [List.cons_append, splitC, if_neg (fun e : x = c => h (by rw [e]; exact .head _)), splitC_cat (fun e => h (.tail _ e))]
theorem split_join (c : Int) : ∀ ps : List (List Int), ps ≠ [] → (∀ p ∈ ps, c ∉ p) → splitC c (joinC c ps) = ps
  | [], h, _ => absurd rfl h
  | [p], _, h => splitC_free (h p (.head _))
  | p :: q :: r, _, h => by
    rw [joinC, splitC_cat (h p (.head _)), split_join c (q :: r) (by simp) fun y hy => h y (.tail _ hy)]
theorem join_map (c e : Int) : ∀ l : List Int, joinC e (splitC c l) = l.map fun v => if v = c then e else v
  | [] => rfl
  | x :: r => by
    have ih := join_map c e r
    have hne := splitC_ne c r
    rw [splitC, List.map_cons]
    split
    · rename_i h
      cases hs : splitC c r with
      | nil => exact absurd hs hne
      | cons p ps =>
        rw [hs] at ih
        rw [joinC, ih]
        rfl
    · rename_i h
      cases hs : splitC c r with
      | nil => exact absurd hs hne
      | cons p ps =>
        rw [hs] at ih
        cases ps with
        | nil => 
          simp only [joinC] at ih ⊢
          rw [ih]
        | cons q t =>
          simp only [joinC] at ih ⊢
          rw [← ih, List.cons_append]
theorem codes_join (n : Nat) : ∀ ps : List Str, C (Str.join ⟨#[n]⟩ ps) = joinC n (ps.map C)
  | [] => rfl
  | [p] => rfl
  | p :: q :: r => by
    show C (p ++ ⟨#[n]⟩ ++ Str.join ⟨#[n]⟩ (q :: r)) = _
    rw [codes_append, codes_append, codes_one, codes_join n (q :: r)]
    simp [joinC]
theorem split_ne (x y : Str) : Txt.split x y ≠ [] := by
  unfold Txt.split
  split
  · simp
  · split
    · simp
    · unfold Builtin.Str.partsBetween
      intro h
      have := congrArg List.length h
      simp at this
theorem codes_split (x : Str) (n : Nat) : (Txt.split x ⟨#[n]⟩).map C = splitC n (C x) := by
  have hj := StrLaws.join_split x ⟨#[n]⟩
  have hf := StrLaws.split_free x n
  conv => rhs; rw [← hj, codes_join]
  rw [split_join]
  · intro e
    exact split_ne x ⟨#[n]⟩ (List.map_eq_nil_iff.mp e)
  · intro p hp
    obtain ⟨q, hq, rfl⟩ := List.mem_map.mp hp
    intro hm
    obtain ⟨k, hk, e⟩ := List.mem_map.mp hm
    have e' : k = n := by omega
    exact hf q hq (e' ▸ hk)
theorem codes_replace (x : Str) (c e : Nat) : C (Txt.replace x ⟨#[c]⟩ ⟨#[e]⟩) = (C x).map fun v => if v = (c : Int) then (e : Int) else v := by
  rw [StrLaws.replace_one, codes_join, codes_split, join_map]
theorem codes_joinE : ∀ ps : List Str, C (Str.join ⟨#[]⟩ ps) = (ps.map C).flatten
  | [] => rfl
  | [p] => by simp [Str.join]
  | p :: q :: r => by
    show C (p ++ ⟨#[]⟩ ++ Str.join ⟨#[]⟩ (q :: r)) = _
    rw [codes_append, codes_append, codes_joinE (q :: r)]
    simp [show C ⟨#[]⟩ = [] from rfl]

def d2e (v : Int) : Int := if v = 68 then 69 else v
def sizeOfExp (b : List Int) : Option Int :=
  if figs (b.drop (signed b)) = true then some (if b[0]? = some 45 then -numF (b.drop (signed b)) else numF (b.drop (signed b))) else none
def numH (sg : Int) (a : List Int) (e : Int) : Option (Int × Int) :=
  match splitC 46 a with
  | [p] => if figs p = true then some (strip (sg * numF p) e) else none
  | [p, q] => if figs (p ++ q) = true then some (strip (sg * numF (p ++ q)) (e - q.length)) else none
  | _ => none
def numB (sg : Int) (l : List Int) : Option (Int × Int) :=
  match splitC 69 (l.map d2e) with
  | [a] => if 46 ∈ l then numH sg a 0 else none
  | [a, b] => match sizeOfExp b with
    | none => none
    | some e => numH sg a e
  | _ => none
def number (l : List Int) : Option (Int × Int) := numB (sgnOf l) (l.drop (signed l))

end PartP6
end Mine
namespace Mine
section PartP7

theorem splitC_mem (c : Int) : ∀ {l : List Int} {p}, p ∈ splitC c l → p.length ≤ l.length ∧ ∀ v ∈ p, v ∈ l
  | [], p, h => by
    simp only [splitC, List.mem_singleton] at h
    subst h
    simp
  | x :: r, p, h => by
    rw [splitC] at h
    split at h
    · rcases List.mem_cons.mp h with h | h
      · subst h; simp
      · have := splitC_mem c h
        exact ⟨by simp only [List.length_cons]; omega, fun v hv => .tail _ (this.2 v hv)⟩
    · cases hs : splitC c r with
      | nil => exact absurd hs (splitC_ne c r)
      | cons q qs =>
        rw [hs] at h
        rcases List.mem_cons.mp h with h | h
        · subst h
          have := splitC_mem c (p := q) (by rw [hs]; exact .head _)
          refine ⟨by simp only [List.length_cons]; omega, fun v hv => ?_⟩
          rcases List.mem_cons.mp hv with e | hv
          · rw [e]; exact .head _
          · exact .tail _ (this.2 v hv)
        · have := splitC_mem c (p := p) (by rw [hs]; exact .tail _ h)
          exact ⟨by simp only [List.length_cons]; omega, fun v hv => .tail _ (this.2 v hv)⟩

theorem splitC_len (c : Int) : ∀ l : List Int, (splitC c l).length ≤ l.length + 1
  | [] => by simp [splitC]
  | x :: r => by
    have ih := splitC_len c r
    rw [splitC]
    split
    · simp only [List.length_cons]; omega
    · split <;> rename_i h <;> simp only [h, List.length_cons, List.length_nil] at ih ⊢ <;> omega
/-- an ASCII text of at most 100 signs -/
def Fit (x : Str) : Prop := x.length ≤ 100 ∧ Asc x
theorem fit_of_codes {x : Str} {l : List Int} (hl : l.length ≤ 100) (h : ∀ c ∈ l, c < 128) (hc : (C x).length ≤ l.length) (hm : ∀ v ∈ C x, v ∈ l) : Fit x := by
  have := codes_len x
  exact ⟨by omega, fun c hc => h c (hm c hc)⟩
theorem fit_codes {x : Str} (h : Fit x) : (C x).length ≤ 100 := by rw [codes_len]; exact h.1
theorem fit_drop {x r : Str} {n : Nat} (h : Fit x) (e : C r = (C x).drop n) : Fit r :=
  fit_of_codes (fit_codes h) h.2 (by rw [e, List.length_drop]; omega) fun v hv => List.mem_of_mem_drop (e ▸ hv)
theorem Fit.len {x : Str} (h : Fit x) : x.length ≤ 100 := h.1
theorem Fit.asc {x : Str} (h : Fit x) : Asc x := h.2
theorem ns_fit {x r : Str} {sg : Int} (h : NumSt x sg r) (hx : Fit x) : Fit r := fit_drop hx h.drop
theorem d2e_lt {v : Int} (h : v < 128) : d2e v < 128 := by unfold d2e; split <;> omega
theorem rep_codes (r : Str) : C (Txt.replace r (Str.ofString "D") (Str.ofString "E")) = (C r).map d2e := by
  rw [sD, sE, codes_replace]
  rfl
theorem rep_size {r : Str} (h : Fit r) : (Txt.replace r (Str.ofString "D") (Str.ofString "E")).length + 2 ≤ sizeLine := by
  have e := congrArg List.length (rep_codes r)
  rw [codes_len, List.length_map, codes_len] at e
  have := h.1
  rw [sizeLine_eq]
  omega
theorem fit_size {r : Str} (h : Fit r) : r.length + 2 ≤ sizeLine := by
  have := h.1
  rw [sizeLine_eq]
  omega

theorem three {α : Type} {l : List α} (h : l ≠ []) : (∃ a, l = [a]) ∨ (∃ a b, l = [a, b]) ∨ 3 ≤ l.length := by
  rcases l with _ | ⟨a, _ | ⟨b, _ | ⟨c, r⟩⟩⟩
  · exact absurd rfl h
  · exact .inl ⟨a, rfl⟩
  · exact .inr (.inl ⟨a, b, rfl⟩)
  · exact .inr (.inr (by simp))
theorem body_cases {r : Str} (hr : Fit r) {l : List (Str × Tok)} (e : l.map (·.1) = Txt.split (Txt.replace r (Str.ofString "D") (Str.ofString "E")) (Str.ofString "E")) :
    (∃ a t, l = [(a, t)] ∧ splitC 69 ((C r).map d2e) = [C a] ∧ Fit a) ∨ (∃ a t b u, l = [(a, t), (b, u)] ∧ splitC 69 ((C r).map d2e) = [C a, C b] ∧ Fit a ∧ Fit b) ∨ (3 ≤ l.length ∧ l.length ≤ 101 ∧ 3 ≤ (splitC 69 ((C r).map d2e)).length) := by
  have es : splitC 69 ((C r).map d2e) = l.map fun p => C p.1 := by
    rw [← rep_codes, show (69 : Int) = ((69 : Nat) : Int) from rfl, ← codes_split, ← sE, ← e, List.map_map]
    rfl
  have hne : l ≠ [] := by
    intro h
    rw [h] at e
    exact split_ne _ _ e.symm
  have hfit : ∀ p ∈ l, Fit p.1 := by
    intro p hp
    have hm : C p.1 ∈ splitC 69 ((C r).map d2e) := by rw [es]; exact List.mem_map.mpr ⟨p, hp, rfl⟩
    have := splitC_mem 69 hm
    refine fit_of_codes (l := (C r).map d2e) (by rw [List.length_map]; exact fit_codes hr) ?_ this.1 this.2
    intro c hc
    obtain ⟨v, hv, rfl⟩ := List.mem_map.mp hc
    exact d2e_lt (hr.2 v hv)
  have hlen : l.length ≤ 101 := by
    have h1 := splitC_len 69 ((C r).map d2e)
    rw [es, List.length_map, List.length_map] at h1
    have := fit_codes hr
    omega
  rcases three hne with ⟨⟨a, t⟩, rfl⟩ | ⟨⟨a, t⟩, ⟨b, u⟩, rfl⟩ | h
  · exact .inl ⟨a, t, rfl, es, hfit _ (.head _)⟩
  · exact .inr (.inl ⟨a, t, b, u, rfl, es, hfit _ (.head _), hfit _ (.tail _ (.head _))⟩)
  · exact .inr (.inr ⟨h, hlen, by rw [es, List.length_map]; exact h⟩)
theorem halves_cases {r : Str} (hr : Fit r) {l : List (Str × Tok)} (e : l.map (·.1) = Txt.split r (Str.ofString ".")) :
    (∃ a t, l = [(a, t)] ∧ splitC 46 (C r) = [C a] ∧ Fit a) ∨ (∃ a t b u, l = [(a, t), (b, u)] ∧ splitC 46 (C r) = [C a, C b] ∧ Fit a ∧ Fit b) ∨ (3 ≤ l.length ∧ l.length ≤ 101 ∧ 3 ≤ (splitC 46 (C r)).length) := by
  have es : splitC 46 (C r) = l.map fun p => C p.1 := by
    rw [show (46 : Int) = ((46 : Nat) : Int) from rfl, ← codes_split, ← sDot, ← e, List.map_map]
    rfl
  have hne : l ≠ [] := by
    intro h
    rw [h] at e
    exact split_ne _ _ e.symm
  have hfit : ∀ p ∈ l, Fit p.1 := by
    intro p hp
    have hm : C p.1 ∈ splitC 46 (C r) := by rw [es]; exact List.mem_map.mpr ⟨p, hp, rfl⟩
    have := splitC_mem 46 hm
    exact fit_of_codes (l := C r) (fit_codes hr) hr.2 this.1 this.2
  have hlen : l.length ≤ 101 := by
    have h1 := splitC_len 46 (C r)
    rw [es, List.length_map] at h1
    have := fit_codes hr
    omega
  rcases three hne with ⟨⟨a, t⟩, rfl⟩ | ⟨⟨a, t⟩, ⟨b, u⟩, rfl⟩ | h
  · exact .inl ⟨a, t, rfl, es, hfit _ (.head _)⟩
  · exact .inr (.inl ⟨a, t, b, u, rfl, es, hfit _ (.head _), hfit _ (.tail _ (.head _))⟩)
  · exact .inr (.inr ⟨h, hlen, by rw [es, List.length_map]; exact h⟩)

theorem digs_nat {l : List Nat} (h : (l.map fun (c : Nat) => (c : Int)).all isDig = true) : NumText.AllDigits l := by
  intro n hn
  have := List.all_eq_true.mp h (n : Int) (List.mem_map.mpr ⟨n, hn, rfl⟩)
  simp only [isDig, Bool.and_eq_true, decide_eq_true_eq] at this
  omega
theorem numF_nat : ∀ {l : List Nat}, NumText.AllDigits l → numF (l.map fun (c : Nat) => (c : Int)) = ((NumText.digitsVal l : Nat) : Int) := by
  have key : ∀ (l : List Nat) (a : Nat), NumText.AllDigits l → (l.map fun (c : Nat) => (c : Int)).foldl (fun a c => 10 * a + (c - 48)) (a : Int) = ((l.foldl (fun acc c => acc * 10 + (c - 48)) a : Nat) : Int) := by
    intro l
    induction l with
    | nil => intro a _; rfl
    | cons c r ih =>
      intro a h
      rw [List.map_cons, List.foldl_cons, List.foldl_cons, ← ih _ h.tail]
      congr 1
      have := h.head
      omega
  intro l h
  exact key l 0 h
theorem int_figs {x : Str} (hf : figs (C x) = true) (hx : Fit x) : PySem.intText? x = some (numF (C x)) := by
  simp only [figs, Bool.and_eq_true, decide_eq_true_eq] at hf
  have hd : NumText.AllDigits x.cps.toList := digs_nat hf.2
  rw [PySem.intText_digits hd (fun e => hf.1 (by show x.cps.toList.map _ = []; rw [e]; rfl)) (by have := hx.1; omega)]
  exact congrArg some (numF_nat hd).symm
theorem figs_len {x b : Str} {n : Nat} (hf : figs (C x) = true) (e : C x = (C b).drop n) : 1 ≤ b.length := by
  simp only [figs, Bool.and_eq_true, decide_eq_true_eq] at hf
  have h1 := hf.1
  rw [e] at h1
  have := codes_len b
  rcases Nat.eq_zero_or_pos b.length with h | h
  · exact absurd (List.drop_eq_nil_of_le (by omega)) h1
  · exact h

end PartP7
end Mine
namespace Mine
section PartP8

theorem join_splitC (c : Int) (l : List Int) : joinC c (splitC c l) = l := by
  rw [join_map]
  have : (fun v : Int => if v = c then c else v) = id := by
    funext v
    by_cases h : v = c <;> simp [h]
  rw [this, List.map_id]
section
variable {x r pa pb qa qb sz : Str} {sg e : Int}
theorem txt_join (s : Str) (l : List Str) : Txt.join s l = Str.join s l := StrLaws.glued_eq_join s l
theorem join1 (q : Str) : Txt.join (Str.ofString "") [q] = q := by rw [txt_join]; rfl
theorem join2 (p q : Str) : C (Txt.join (Str.ofString "") [p, q]) = C p ++ C q := by
  rw [txt_join, sNil, codes_joinE]
  simp
theorem fit_join1 (hq : Fit qa) : Fit (Txt.join (Str.ofString "") [qa]) := by rw [join1]; exact hq
theorem fit_join2 (hs : splitC 46 (C pa) = [C qa, C qb]) (hp : Fit pa) (ha : Fit qa) (hb : Fit qb) : Fit (Txt.join (Str.ofString "") [qa, qb]) := by
  have h := join_splitC 46 (C pa)
  rw [hs, joinC, joinC] at h
  have hl := congrArg List.length h
  rw [List.length_append, List.length_cons] at hl
  have := fit_codes hp
  refine fit_of_codes (l := C qa ++ C qb) (by rw [List.length_append]; omega) ?_ (by rw [join2]; exact Nat.le_refl _) (by rw [join2]; exact fun v hv => hv)
  intro c hc
  rcases List.mem_append.mp hc with hc | hc
  · exact ha.asc c hc
  · exact hb.asc c hc
theorem int_one (hf : figs (C (Txt.join (Str.ofString "") [qa])) = true) (hq : Fit qa) : PySem.intText? (qa ++ Str.ofString "") = some (numF (C qa)) := by
  rw [join1] at hf
  rw [sNil]
  have e : (qa ++ ⟨#[]⟩ : Str) = qa := Str.append_empty qa
  rw [e]
  exact int_figs hf hq
theorem int_two (hf : figs (C (Txt.join (Str.ofString "") [qa, qb])) = true) (hp : Fit pa) (hs : splitC 46 (C pa) = [C qa, C qb]) (ha : Fit qa) (hb : Fit qb) : PySem.intText? (qa ++ qb) = some (numF (C qa ++ C qb)) := by
  have e : Txt.join (Str.ofString "") [qa, qb] = qa ++ qb := codes_inj (by rw [join2, codes_append])
  have hj := fit_join2 hs hp ha hb
  rw [e] at hf hj
  rw [int_figs hf hj, codes_append]
theorem len_640 (h : Fit x) : x.length ≤ 640 := Nat.le_trans h.len (by decide)
theorem len_one (h : Fit qa) : (qa ++ Str.ofString "").length ≤ 640 := by
  have := h.len
  rw [Str.length_append, sNil]
  show qa.length + 0 ≤ 640
  omega
theorem len_two (h : Fit qa) (h' : Fit qb) : (qa ++ qb).length ≤ 640 := by
  have := h.len
  have := h'.len
  rw [Str.length_append]
  omega
theorem sg_bits (h : NumSt x sg r) : Builtin.Int.intBits sg ≤ 64 := by
  rw [h.sgn, sgnOf]
  split <;> decide

theorem num_is (h : NumSt x sg r) : number (C x) = numB sg (C r) := by
  rw [number, h.sgn, h.drop]
theorem dot_is (r : Str) : (!(Builtin.Str.occurrences r (Str.ofString ".") 0 r.length 1).isEmpty) = decide ((46 : Int) ∈ C r) := by
  rw [sDot, StrLaws.found_one, Bool.eq_iff_iff, decide_eq_true_eq, decide_eq_true_eq]
  constructor
  · intro h
    exact List.mem_map.mpr ⟨46, h, rfl⟩
  · intro h
    obtain ⟨n, hn, e⟩ := List.mem_map.mp h
    have : n = 46 := by omega
    exact this ▸ hn
theorem ne_nodot (h : NumSt x sg r) (hsp : splitC 69 ((C r).map d2e) = [C pa]) (hd : (Builtin.Str.occurrences r (Str.ofString ".") 0 r.length 1).isEmpty = true) : number (C x) = none := by
  have h1 := dot_is r
  rw [hd] at h1
  have h2 : ¬ (46 : Int) ∈ C r := by
    intro hm
    rw [decide_eq_true hm] at h1
    exact absurd h1 (by decide)
  rw [num_is h, numB, hsp]
  simp [h2]
theorem ne_dot (h : NumSt x sg r) (hsp : splitC 69 ((C r).map d2e) = [C pa]) (hd : (Builtin.Str.occurrences r (Str.ofString ".") 0 r.length 1).isEmpty = false) : number (C x) = numH sg (C pa) 0 := by
  have h1 := dot_is r
  rw [hd] at h1
  have h2 : (46 : Int) ∈ C r := of_decide_eq_true h1.symm
  rw [num_is h, numB, hsp]
  simp [h2]
theorem ne_three (h : NumSt x sg r) (hsp : 3 ≤ (splitC 69 ((C r).map d2e)).length) : number (C x) = none := by
  rw [num_is h, numB]
  split
  · rename_i a e; rw [e] at hsp; simp at hsp
  · rename_i a b e; rw [e] at hsp; simp at hsp
  · rfl
theorem ne_size (h : NumSt x sg r) (hsp : splitC 69 ((C r).map d2e) = [C pa, C pb]) (hsz : C sz = (C pb).drop (signed (C pb))) (hf : figs (C sz) = false) : number (C x) = none := by
  rw [hsz] at hf
  rw [num_is h, numB, hsp]
  simp [sizeOfExp, hf]
theorem ne_exp (h : NumSt x sg r) (hsp : splitC 69 ((C r).map d2e) = [C pa, C pb]) (he : sizeOfExp (C pb) = some e) : number (C x) = numH sg (C pa) e := by
  rw [num_is h, numB, hsp]
  simp [he]
theorem size_neg (hsz : C sz = (C pb).drop (signed (C pb))) (hf : figs (C sz) = true) (hl : 1 ≤ pb.length) (hi : (Txt.item pb 0 == Str.ofString "-") = true) : sizeOfExp (C pb) = some (-numF (C sz)) := by
  rw [sMinus, item_is pb (by omega) (by omega), decide_eq_true_eq] at hi
  have hi' : (C pb)[0]? = some 45 := hi
  rw [sizeOfExp, ← hsz, if_pos hf, if_pos hi']
theorem size_pos (hsz : C sz = (C pb).drop (signed (C pb))) (hf : figs (C sz) = true) (hl : 1 ≤ pb.length) (hi : (Txt.item pb 0 == Str.ofString "-") = false) : sizeOfExp (C pb) = some (numF (C sz)) := by
  rw [sMinus, item_is pb (by omega) (by omega), decide_eq_false_iff_not] at hi
  have hi' : ¬ (C pb)[0]? = some 45 := hi
  rw [sizeOfExp, ← hsz, if_pos hf, if_neg hi']
theorem nh_three (hq : 3 ≤ (splitC 46 (C pa)).length) : numH sg (C pa) e = none := by
  rw [numH]
  split
  · rename_i a e; rw [e] at hq; simp at hq
  · rename_i a b e; rw [e] at hq; simp at hq
  · rfl
theorem nh_one_no (hq : splitC 46 (C pa) = [C qa]) (hf : figs (C (Txt.join (Str.ofString "") [qa])) = false) : numH sg (C pa) e = none := by
  rw [join1] at hf
  rw [numH, hq]
  simp [hf]
theorem nh_two_no (hq : splitC 46 (C pa) = [C qa, C qb]) (hf : figs (C (Txt.join (Str.ofString "") [qa, qb])) = false) : numH sg (C pa) e = none := by
  rw [join2] at hf
  rw [numH, hq]
  simp [hf]
theorem nh_one (hq : splitC 46 (C pa) = [C qa]) (hf : figs (C (Txt.join (Str.ofString "") [qa])) = true) : numH sg (C pa) e = some (strip (sg * numF (C qa)) (e - ((0 : Nat) : Int))) := by
  rw [join1] at hf
  rw [numH, hq]
  simp [hf]
theorem nh_two (hq : splitC 46 (C pa) = [C qa, C qb]) (hf : figs (C (Txt.join (Str.ofString "") [qa, qb])) = true) : numH sg (C pa) e = some (strip (sg * numF (C qa ++ C qb)) (e - (qb.length : Int))) := by
  rw [join2] at hf
  rw [numH, hq]
  simp [hf, codes_len]
end

def SizeP (pb : Str) (sz : Str) : Prop := C sz = (C pb).drop (signed (C pb))
theorem sizeP_fit {pb sz : Str} (h : SizeP pb sz) (hp : Fit pb) : Fit sz := fit_drop hp h
theorem sizeP_len {pb sz : Str} (h : SizeP pb sz) (hf : figs (C sz) = true) : 1 ≤ pb.length := figs_len hf h
def ExpP (pb : Str) (e : Int) : Prop := sizeOfExp (C pb) = some e
theorem rep_len {r : Str} (h : Fit r) : (Txt.replace r (Str.ofString "D") (Str.ofString "E")).length ≤ 100 := by
  have e := congrArg List.length (rep_codes r)
  rw [codes_len, List.length_map, codes_len] at e
  have := h.len
  omega
theorem less_sub {a b : List (Addr × Obj)} {x : Addr} (h : ∀ p ∈ a, p.1 < x) (hs : ∀ p ∈ b, p ∈ a) : ∀ p ∈ b, p.1 < x := fun p hp => h p (hs p hp)
theorem size_strs (l : List (Str × Tok)) : (((l.map fun p => Value.str p.1 p.2).toArray.size : Nat) : Int) = ((l.length : Nat) : Int) := by simp
theorem news_sub {h₀ h : Heap} {L : Addr} {a b : List (Addr × Obj)} (N : News h₀ L h a) (hs : ∀ p ∈ b, p ∈ a) : News h₀ L h b := fun p hp => N p (hs p hp)

end PartP8
end Mine
namespace Mine
section PartP9

theorem numT_nat (n : Nat) : C (Str.ofString (toString ((n : Nat) : Int))) = ((Nat.toDigits 10 n).map Char.toNat).map fun (c : Nat) => (c : Int) := by
  show (Str.ofString _).cps.toList.map _ = _
  rw [KIN.signs_num]
theorem numT_digs (n : Nat) : NumText.AllDigits ((Nat.toDigits 10 n).map Char.toNat) := by
  intro c hc
  obtain ⟨ch, hch, e⟩ := List.mem_map.mp hc
  have r := digit_range (Nat.isDigit_of_mem_toDigits (by decide) (by decide) hch)
  rw [← e]
  exact r
theorem digs_all {l : List Nat} (h : NumText.AllDigits l) : (l.map fun (c : Nat) => (c : Int)).all isDig = true := by
  rw [List.all_eq_true]
  intro v hv
  obtain ⟨n, hn, rfl⟩ := List.mem_map.mp hv
  have := h n hn
  simp only [isDig, Bool.and_eq_true, decide_eq_true_eq]
  omega
structure NumTx (k : Int) (r : Str) : Prop where
  digs : (C r).all isDig = true
  val : numF (C r) = k
  pos : 1 ≤ r.length
theorem numTx {k : Int} (h : 0 ≤ k) : NumTx k (Str.ofString (toString k)) := by
  obtain ⟨n, rfl⟩ := Int.eq_ofNat_of_zero_le h
  refine ⟨?_, ?_, ?_⟩
  · rw [numT_nat]; exact digs_all (numT_digs n)
  · rw [numT_nat, numF_nat (numT_digs n), KIN.val_back]
  · rw [← codes_len, numT_nat, List.length_map, List.length_map]
    exact toDigits_len_ge 10 n
theorem numTx_len {k : Int} {j : Nat} (h : 0 ≤ k) (hj : 1 ≤ j) (hk : k < ((10 ^ j : Nat) : Int)) : (Str.ofString (toString k)).length ≤ j := by
  obtain ⟨n, rfl⟩ := Int.eq_ofNat_of_zero_le h
  rw [← codes_len, numT_nat, List.length_map, List.length_map]
  refine digits10_le hj ?_
  exact Int.ofNat_lt.mp hk
theorem abs_nn (m : Int) : 0 ≤ (if m < 0 then -m else m) := by split <;> omega
theorem abs_lt {m : Int} (h : m.natAbs < 1000000000000000) : (if m < 0 then -m else m) < ((10 ^ 15 : Nat) : Int) := by
  have e : ((10 ^ 15 : Nat) : Int) = 1000000000000000 := by decide
  rw [e]
  split <;> omega
theorem abs_len1 (m : Int) : 1 ≤ (Str.ofString (toString (if m < 0 then -m else m))).length := (numTx (abs_nn m)).pos
theorem abs_len2 {m : Int} (h : m.natAbs < 1000000000000000) : (Str.ofString (toString (if m < 0 then -m else m))).length ≤ 15 := numTx_len (abs_nn m) (by decide) (abs_lt h)

end PartP9
end Mine
namespace Mine
section PartP10

def numG (m : Int) (l : List Int) : Int := l.foldl (fun a c => 10 * a + (c - 48)) m
theorem numG_zero (l : List Int) : numG 0 l = numF l := rfl
theorem numG_cons (m c : Int) (l : List Int) : numG m (c :: l) = numG (10 * m + (c - 48)) l := rfl
theorem numF_append (a b : List Int) : numF (a ++ b) = numG (numF a) b := by unfold numF numG; rw [List.foldl_append]
theorem scan_digs0 : ∀ {a : List Int} {r : List Int} {m c : Int}, a.all isDig = true → scan (a ++ r) m c (-1) = scan r (numG m a) (c + a.length) (-1)
  | [], r, m, c, _ => by simp [numG]
  | x :: a, r, m, c, h => by
    rw [List.all_cons, Bool.and_eq_true] at h
    rw [List.cons_append, scan_dig' h.1 (by decide), scan_digs0 h.2, numG_cons, List.length_cons]
    congr 1
    omega
theorem scan_digs1 : ∀ {a : List Int} {r : List Int} {m c p : Int}, a.all isDig = true → 0 ≤ p → scan (a ++ r) m c p = scan r (numG m a) (c + a.length) (p + a.length)
  | [], r, m, c, p, _, _ => by simp [numG]
  | x :: a, r, m, c, p, h, hp => by
    rw [List.all_cons, Bool.and_eq_true] at h
    rw [List.cons_append, scan_dig h.1 hp, scan_digs1 h.2 (by omega), numG_cons, List.length_cons]
    congr 1 <;> omega

def Stop1 (ex : List Int) : Prop := ∀ y t, ex = y :: t → ¬ isDig y = true
def Stop0 (ex : List Int) : Prop := ∀ y t, ex = y :: t → ¬ isDig y = true ∧ y ≠ 46
theorem scan_stop1 {ex : List Int} {m c p : Int} (h : Stop1 ex) (hp : 0 ≤ p) : scan ex m c p = (ex, m, c, p) := by
  cases ex with
  | nil => rw [scan]
  | cons y t => exact scan_stop (h y t rfl) (by omega)
theorem scan_stop0 {ex : List Int} {m c p : Int} (h : Stop0 ex) : scan ex m c p = (ex, m, c, p) := by
  cases ex with
  | nil => rw [scan]
  | cons y t => exact scan_stop (h y t rfl).1 (fun e => (h y t rfl).2 e.1)
theorem scan_point {a b ex : List Int} (ha : a.all isDig = true) (hb : b.all isDig = true) (h : Stop1 ex) :
    scan (a ++ 46 :: (b ++ ex)) 0 0 (-1) = (ex, numF (a ++ b), ((a.length + b.length : Nat) : Int), (b.length : Int)) := by
  rw [scan_digs0 ha, scan_dot (by decide), scan_digs1 hb (by decide), scan_stop1 h (by omega), numG_zero, ← numF_append]
  congr 3 <;> omega
theorem scan_plain {a ex : List Int} (ha : a.all isDig = true) (h : Stop0 ex) :
    scan (a ++ ex) 0 0 (-1) = (ex, numF a, (a.length : Int), -1) := by
  rw [scan_digs0 ha, scan_stop0 h, numG_zero]
  congr 3
  omega

theorem dig_ne {v : Int} (h : isDig v = true) : v ≠ 45 ∧ v ≠ 43 ∧ v ≠ 46 ∧ v ≠ 68 ∧ v ≠ 69 ∧ v < 128 := by
  simp only [isDig, Bool.and_eq_true, decide_eq_true_eq] at h
  omega
theorem all_ne {l : List Int} (h : l.all isDig = true) : ∀ v ∈ l, v ≠ 45 ∧ v ≠ 43 ∧ v ≠ 46 ∧ v ≠ 68 ∧ v ≠ 69 ∧ v < 128 := fun v hv => dig_ne (List.all_eq_true.mp h v hv)
def sgl (neg : Bool) : List Int := if neg then [45] else []
theorem sgl_signed {neg : Bool} {a r : List Int} (ha : a.all isDig = true) : signed (sgl neg ++ (a ++ 46 :: r)) = (sgl neg).length ∧ decide ((sgl neg ++ (a ++ 46 :: r))[0]? = some 45) = neg := by
  cases neg with
  | true => simp [sgl, signed]
  | false =>
    cases a with
    | nil => simp [sgl, signed]
    | cons x a =>
      rw [List.all_cons, Bool.and_eq_true] at ha
      have := dig_ne ha.1
      simp [sgl, signed, this]
theorem parse_point {neg : Bool} {a b ex : List Int} {ev : Int} (ha : a.all isDig = true) (hb : b.all isDig = true) (h : Stop1 ex) (hne : a.length + b.length ≠ 0) (he : parseE ex = some ev) :
    parse (sgl neg ++ (a ++ 46 :: (b ++ ex))) = some (strip (if neg = true then -numF (a ++ b) else numF (a ++ b)) (ev - b.length)) := by
  unfold parse
  have hs := sgl_signed (neg := neg) (r := b ++ ex) ha
  rw [hs.1, hs.2, List.drop_left, scan_point ha hb h, parseS]
  simp only
  rw [if_neg (by omega), he]
  simp only
  rw [if_neg (by omega)]
  congr 2
  omega

theorem numF_zeros (l : List Int) : ∀ n : Nat, numF (l ++ List.replicate n 48) = numF l * 10 ^ n
  | 0 => by simp
  | n + 1 => by
    rw [List.replicate_succ', ← List.append_assoc, numF_snoc, numF_zeros l n, Int.pow_succ, ← Int.mul_assoc, Int.mul_comm 10]
    simp only [Int.sub_self, Int.add_zero]
    rw [Int.mul_assoc, Int.mul_comm 10]
theorem numF_lead (l : List Int) : ∀ n : Nat, numF (List.replicate n 48 ++ l) = numF l
  | 0 => by simp
  | n + 1 => by
    rw [List.replicate_succ, List.cons_append]
    show numG 0 (48 :: _) = _
    rw [numG_cons]
    exact numF_lead l n
theorem reps_dig (n : Nat) : (List.replicate n (48 : Int)).all isDig = true := by
  rw [List.all_eq_true]
  intro v hv
  rw [List.eq_of_mem_replicate hv]
  decide
theorem strip_ten : ∀ (n : Nat) (m e : Int), strip (m * 10 ^ n) e = strip m (e + n)
  | 0, m, e => by simp
  | n + 1, m, e => by
    by_cases h : m = 0
    · subst h
      rw [Int.zero_mul, strip_zero rfl, strip_zero rfl]
    · have h1 : m * 10 ^ (n + 1) ≠ 0 := Int.mul_ne_zero h (by exact Int.pow_ne_zero (by decide))
      have e1 : m * 10 ^ (n + 1) = (m * 10 ^ n) * 10 := by rw [Int.pow_succ, Int.mul_assoc]
      have h2 : (m * 10 ^ (n + 1)).fmod 10 = 0 := by rw [e1, Int.mul_fmod_left]
      have h3 : (m * 10 ^ (n + 1)).fdiv 10 = m * 10 ^ n := by rw [e1, Int.mul_fdiv_cancel _ (by decide)]
      rw [← strip_step h1 h2, h3, strip_ten n m (e + 1)]
      congr 1
      omega

end PartP10
end Mine
namespace Mine
section PartP11

theorem numT_neg (n : Nat) : C (Str.ofString (toString (Int.negSucc n))) = 45 :: C (Str.ofString (toString (((n + 1 : Nat)) : Int))) := by
  show (Str.ofString _).cps.toList.map _ = 45 :: (Str.ofString _).cps.toList.map _
  rw [signs_ofString, signs_ofString]
  show List.map _ (List.map _ ("-" ++ Nat.repr (n + 1)).toList) = 45 :: List.map _ (List.map _ (Nat.repr (n + 1)).toList)
  rw [String.toList_append]
  rfl
theorem numT_neg' {k : Int} (h : k < 0) : C (Str.ofString (toString k)) = 45 :: C (Str.ofString (toString (-k))) := by
  obtain ⟨n, rfl⟩ : ∃ n : Nat, k = Int.negSucc n := ⟨(-k - 1).toNat, by omega⟩
  rw [numT_neg]
  rfl
theorem expDigits_of {l : List Int} (h : l.all isDig = true) (hp : 1 ≤ l.length) : expDigits l = some (numF l) := by
  unfold expDigits
  rw [if_pos ⟨fun e => by rw [e] at hp; simp at hp, h⟩]
theorem exp_reads (k c : Int) (hc : c = 69 ∨ c = 68) : readExp (c :: C (Str.ofString (toString k))) 0 = some k := by
  unfold readExp
  have h1 : (c :: C (Str.ofString (toString k)))[0]? = some 69 ∨ (c :: C (Str.ofString (toString k)))[0]? = some 68 := by simpa using hc
  rw [if_pos h1]
  by_cases h : k < 0
  · rw [numT_neg' h]
    have t := numTx (k := -k) (by omega)
    have hl := codes_len (Str.ofString (toString (-k)))
    have e1 : (c :: 45 :: C (Str.ofString (toString (-k))))[0 + 1]? = some 45 := rfl
    rw [if_pos e1]
    show (expDigits (C (Str.ofString (toString (-k))))).map _ = _
    rw [expDigits_of t.digs (by rw [hl]; exact t.pos), t.val]
    simp
  · have t := numTx (k := k) (by omega)
    have hl := codes_len (Str.ofString (toString k))
    have hp := t.pos
    have hd := t.digs
    have hv := t.val
    generalize C (Str.ofString (toString k)) = l at *
    have e0 : (c :: l)[0 + 1]? = l[0]? := rfl
    have n1 : ∀ v, l[0]? = some v → isDig v = true := fun v e => List.all_eq_true.mp hd v (List.mem_of_getElem? e)
    rw [e0, if_neg (fun e => absurd (n1 _ e) (by decide)), if_neg (fun e => absurd (n1 _ e) (by decide))]
    show expDigits l = _
    rw [expDigits_of hd (by omega), hv]
theorem exp_signs (k : Int) (v : Int) (h : v ∈ C (Str.ofString (toString k))) : v ≠ 68 ∧ v < 128 := by
  by_cases hk : k < 0
  · rw [numT_neg' hk] at h
    rcases List.mem_cons.mp h with e | e
    · omega
    · have := all_ne (numTx (k := -k) (by omega)).digs v e
      omega
  · have := all_ne (numTx (k := k) (by omega)).digs v h
    omega
theorem exp_len {k : Int} (h1 : -1000 < k) (h2 : k < 1000) : (Str.ofString (toString k)).length ≤ 4 := by
  by_cases hk : k < 0
  · have e := congrArg List.length (numT_neg' hk)
    rw [codes_len, List.length_cons, codes_len] at e
    have := numTx_len (k := -k) (j := 3) (by omega) (by omega) (by rw [show ((10 ^ 3 : Nat) : Int) = 1000 by decide]; omega)
    omega
  · have := numTx_len (k := k) (j := 3) (by omega) (by omega) (by rw [show ((10 ^ 3 : Nat) : Int) = 1000 by decide]; omega)
    omega

def SgP (m : Int) (s : Str) : Prop := (m < 0 ∧ s = Str.ofString "-") ∨ (0 ≤ m ∧ s = Str.ofString "")
theorem sgP_len {m : Int} {s : Str} (h : SgP m s) : s.length ≤ 1 := by
  rcases h with ⟨_, rfl⟩ | ⟨_, rfl⟩
  · rw [sMinus]; decide
  · rw [sNil]; decide
theorem sgP_neg {m : Int} (h : m < 0) : SgP m (Str.ofString "-") := .inl ⟨h, rfl⟩
theorem sgP_pos {m : Int} (h : ¬ m < 0) : SgP m (Str.ofString "") := .inr ⟨by omega, rfl⟩
theorem sgP_codes {m : Int} {s : Str} (h : SgP m s) : C s = sgl (decide (m < 0)) := by
  rcases h with ⟨h, rfl⟩ | ⟨h, rfl⟩
  · rw [sMinus, decide_eq_true h]; rfl
  · rw [sNil, decide_eq_false (by omega)]; rfl

/-- what real_text gives: a text that is read back to m and e -/
structure Back (m e : Int) (d : Bool) (y : Str) : Prop where
  fit : Fit y
  back : parse (C y) = some (strip m e)
  dee : decide ((68 : Int) ∈ C y) = d

theorem back_of {m e ev : Int} {neg : Bool} {a b ex : List Int} {y : Str} {d : Bool} (hneg : neg = decide (m < 0)) (hy : C y = sgl neg ++ (a ++ 46 :: (b ++ ex)))
    (ha : a.all isDig = true) (hb : b.all isDig = true) (h : Stop1 ex) (hne : a.length + b.length ≠ 0) (he : parseE ex = some ev)
    (hl : a.length + b.length + ex.length ≤ 90) (hx : ∀ v ∈ ex, v < 128) (hd : decide ((68 : Int) ∈ ex) = d)
    (hm : strip (if neg = true then -numF (a ++ b) else numF (a ++ b)) (ev - b.length) = strip m e) : Back m e d y := by
  have hyl := codes_len y
  have hlen := congrArg List.length hy
  have hsl : (sgl neg).length ≤ 1 := by cases neg <;> simp [sgl]
  have hsg : ∀ v ∈ sgl neg, v = 45 := by cases neg <;> simp [sgl]
  rw [List.length_append, List.length_append, List.length_cons, List.length_append, hyl] at hlen
  have mem : ∀ v, v ∈ C y ↔ v ∈ sgl neg ∨ v ∈ a ∨ v = 46 ∨ v ∈ b ∨ v ∈ ex := by
    intro v
    rw [hy]
    simp [List.mem_append, List.mem_cons]
  refine ⟨⟨by omega, fun v hv => ?_⟩, ?_, ?_⟩
  · rcases (mem v).mp hv with h | h | h | h | h
    · have := hsg v h; omega
    · have := all_ne ha v h; omega
    · omega
    · have := all_ne hb v h; omega
    · exact hx v h
  · rw [hy, parse_point ha hb h hne he, hm]
  · rw [← hd]
    congr 1
    refine propext ⟨fun hv => ?_, fun hv => (mem 68).mpr (.inr (.inr (.inr (.inr hv))))⟩
    rcases (mem 68).mp hv with h | h | h | h | h
    · have := hsg _ h; omega
    · have := all_ne ha _ h; omega
    · omega
    · have := all_ne hb _ h; omega
    · exact h
theorem stop1_nil : Stop1 [] := fun y t e => by cases e
theorem stop1_exp {c : Int} {l : List Int} (h : c = 69 ∨ c = 68) : Stop1 (c :: l) := fun y t e => by
  injection e with e1 e2
  subst e1
  rcases h with rfl | rfl <;> decide
theorem parseE_exp (k c : Int) (hc : c = 69 ∨ c = 68) : parseE (c :: C (Str.ofString (toString k))) = some k := by
  unfold parseE
  rw [if_neg (by simp), exp_reads k c hc]
theorem sign_back (m : Int) : (if decide (m < 0) = true then -(if m < 0 then -m else m) else (if m < 0 then -m else m)) = m := by
  by_cases h : m < 0
  · rw [if_pos (decide_eq_true h), if_pos h]; omega
  · rw [if_neg (by rw [decide_eq_false h]; decide), if_neg h]

section
variable {m e : Int} {sg r : Str}
/-- the digits of |m| -/
abbrev DigOf (m : Int) (r : Str) : Prop := NumTx (if m < 0 then -m else m) r ∧ r.length ≤ 15
theorem digOf {m : Int} (h : m.natAbs < 1000000000000000) : DigOf m (Str.ofString (toString (if m < 0 then -m else m))) := ⟨numTx (abs_nn m), abs_len2 h⟩
theorem zero_codes (e : Int) : C (Txt.mul (Str.ofString "0") e) = List.replicate e.toNat 48 := by
  have h : Str.ofString "0" = ⟨#[48]⟩ := by decide +kernel
  rw [h]
  show (Txt.mul ⟨#[48]⟩ e).cps.toList.map _ = _
  rw [mul_one_list, List.map_replicate]
  rfl
/-- m with noughts and a point -/
theorem back_int (hsg : SgP m sg) (hr : DigOf m r) (h0 : 0 ≤ e) (h1 : e ≤ 7 - r.length) : Back m e false (sg ++ r ++ Txt.mul (Str.ofString "0") e ++ Str.ofString ".") := by
  have hl := codes_len r
  have hp := hr.1.pos
  have h2 := hr.2
  refine back_of (a := C r ++ List.replicate e.toNat 48) (b := []) (ex := []) (ev := 0) rfl ?_ ?_ rfl stop1_nil ?_ rfl ?_ (by simp) (by simp) ?_
  · rw [sDot, codes_append, codes_append, codes_append, zero_codes, codes_one, sgP_codes hsg]
    simp
  · rw [List.all_append, hr.1.digs, reps_dig]; rfl
  · rw [List.length_append, List.length_nil]; omega
  · rw [List.length_append, List.length_replicate, List.length_nil]; omega
  · rw [List.append_nil, numF_zeros, hr.1.val, List.length_nil]
    have h4 := strip_ten e.toNat m 0
    rw [show 0 + (e.toNat : Int) = e by omega] at h4
    rw [show (0 : Int) - ((0 : Nat) : Int) = 0 by omega, ← h4]
    congr 1
    by_cases h : m < 0
    · rw [if_pos (decide_eq_true h), if_pos h, ← Int.neg_mul, Int.neg_neg]
    · rw [if_neg (by rw [decide_eq_false h]; decide), if_neg h]
/-- a point within the figures -/
theorem back_mid (hsg : SgP m sg) (hr : DigOf m r) (h0 : e < 0) (h1 : -(r.length : Int) < e) : Back m e false (sg ++ Txt.slice r none (some e) ++ Str.ofString "." ++ Txt.slice r (some e) none) := by
  have hl := codes_len r
  have hp := hr.1.pos
  have h2 := hr.2
  refine back_of (a := (C r).take (e + r.length).toNat) (b := (C r).drop (e + r.length).toNat) (ex := []) (ev := 0) rfl ?_ ?_ ?_ stop1_nil ?_ rfl ?_ (by simp) (by simp) ?_
  · rw [sDot, codes_append, codes_append, codes_append, codes_one, sgP_codes hsg, slice_to_neg r h0 (by omega), slice_from_neg r h0 (by omega)]
    simp
  · rw [List.all_eq_true]; exact fun v hv => List.all_eq_true.mp hr.1.digs v (List.mem_of_mem_take hv)
  · rw [List.all_eq_true]; exact fun v hv => List.all_eq_true.mp hr.1.digs v (List.mem_of_mem_drop hv)
  · rw [List.length_take, List.length_drop]; omega
  · rw [List.length_take, List.length_drop]; simp only [List.length_nil]; omega
  · rw [List.take_append_drop, hr.1.val, List.length_drop, sign_back]
    congr 1
    omega
/-- a point ahead of the figures -/
theorem back_low (hsg : SgP m sg) (hr : DigOf m r) (h0 : e < 0) (h1 : -7 ≤ e) (h3 : ¬ -(r.length : Int) < e) : Back m e false (sg ++ Str.ofString "." ++ Txt.mul (Str.ofString "0") (-e - r.length) ++ r) := by
  have hl := codes_len r
  have hp := hr.1.pos
  have h2 := hr.2
  refine back_of (a := []) (b := List.replicate (-e - r.length).toNat 48 ++ C r) (ex := []) (ev := 0) rfl ?_ rfl ?_ stop1_nil ?_ rfl ?_ (by simp) (by simp) ?_
  · rw [sDot, codes_append, codes_append, codes_append, codes_one, sgP_codes hsg, zero_codes]
    simp
  · rw [List.all_append, hr.1.digs, reps_dig]; rfl
  · rw [List.length_append, List.length_replicate, List.length_nil]; omega
  · rw [List.length_append, List.length_replicate, List.length_nil]; omega
  · rw [List.nil_append, numF_lead, hr.1.val, sign_back]
    congr 1
    simp
    omega
/-- with an exponent -/
theorem back_exp {lt : Str} {c : Nat} {d : Bool} (hlt : lt = ⟨#[c]⟩) (hc : (c : Int) = 69 ∨ (c : Int) = 68) (hd : decide ((68 : Int) = c) = d) (hsg : SgP m sg) (hr : DigOf m r) (h0 : -40 ≤ e) (h1 : e ≤ 60) :
    Back m e d (sg ++ Txt.item r 0 ++ Str.ofString "." ++ Txt.slice r (some 1) none ++ lt ++ Str.ofString (toString (e + (r.length : Int) - 1))) := by
  have hl := codes_len r
  have hp := hr.1.pos
  have h2 := hr.2
  subst hlt
  have hi : C (Txt.item r 0) = (C r).take 1 := by
    obtain ⟨n, hn, hc⟩ := item_code r (i := 0) (by omega) (by omega)
    rw [hn, codes_one]
    cases hcr : C r with
    | nil => rw [hcr] at hl; simp at hl; omega
    | cons v t => rw [hcr] at hc; simp at hc; rw [hc]; rfl
  have hk := exp_len (k := e + (r.length : Int) - 1) (by omega) (by omega)
  have hkl := codes_len (Str.ofString (toString (e + (r.length : Int) - 1)))
  refine back_of (a := (C r).take 1) (b := (C r).drop 1) (ex := (c : Int) :: C (Str.ofString (toString (e + (r.length : Int) - 1)))) (ev := e + (r.length : Int) - 1) rfl ?_ ?_ ?_ (stop1_exp hc) ?_ (parseE_exp _ _ hc) ?_ ?_ ?_ ?_
  · rw [sDot, codes_append, codes_append, codes_append, codes_append, codes_append, codes_one, codes_one, sgP_codes hsg, hi, slice_from r (by omega)]
    simp
  · rw [List.all_eq_true]; exact fun v hv => List.all_eq_true.mp hr.1.digs v (List.mem_of_mem_take hv)
  · rw [List.all_eq_true]; exact fun v hv => List.all_eq_true.mp hr.1.digs v (List.mem_of_mem_drop hv)
  · rw [List.length_take, List.length_drop]; omega
  · rw [List.length_take, List.length_drop, List.length_cons]; omega
  · intro v hv
    rcases List.mem_cons.mp hv with h | h
    · omega
    · exact (exp_signs _ v h).2
  · rw [← hd]
    congr 1
    refine propext ⟨fun hv => ?_, fun hv => by rw [← hv]; exact .head _⟩
    rcases List.mem_cons.mp hv with h | h
    · exact h
    · exact absurd rfl (exp_signs _ _ h).1
  · rw [List.take_append_drop, hr.1.val, List.length_drop, sign_back]
    congr 1
    omega
end

end PartP11
end Mine
namespace Mine
section PartP12

theorem pick_call (w : World) (al : Addr) (ws : List Value) (ns : List Int) (i k : Int) (ti tm : Tok) (hI : IntsAre ws ns) (hn : ns.length ≤ 14) (hi0 : 0 ≤ i) (hi1 : i < 100) (hk0 : 0 < k) (hk1 : k < 4611686018427387904) {news} (hm : (al, W.listOf ws.toArray 0) ∈ news) : CallC w 50 1 8 [.ref al, .int i ti, .int k tm] news (fun h₀ L f n s Q => RetI h₀ L f n s Q (InR k)) := by
  intro mean mg mb dp un gd cn cs a ccd cl outer A₀ base h₀ L fm s Q E B F X N T hk hd hu hret
  refine pick_callH w al ws ns i k ti tm hI hn hi0 hi1 hk0 hk1 news mean mg mb dp un gd cn cs a ccd cl outer A₀ base h₀ L fm s Q E B F X ?_ T hk hd hu ?_
  · intro p hp
    rcases List.mem_cons.mp hp with e | hp
    · rw [e]; exact N _ hm
    · exact N p hp
  · exact fun v t h' tk' hp F' N' => hret v t h' tk' hp F' (fun p hp => N' p (.tail _ hp))

def RowMap (r : Str) (t : Tok) (ov : Option Value) (m0 : Str → Option Value) : Str → Option Value :=
  fun y => if y = Str.ofString "row" then some (.str r t) else if y = Str.ofString "v" then ov else m0 y
section
variable {M : Model} {A : Around} {E : Value → Shared → Prop} {s : Shared} {h₀ : Heap} {L : Addr} {m : Str → Option Value} {news : List (Addr × Obj)}
def CutRow (s : Shared) (h₀ : Heap) (L : Addr) (m0 : Str → Option Value) (news : List (Addr × Obj)) (fl : Flow) (s' : Shared) : Prop :=
  ∃ (r : Str) (t : Tok) (ov : Option Value) (h' : Heap) (tk' : Nat), fl = .next ∧ Fit r ∧ s' = { s with heap := h', toks := tk' } ∧ Fr h₀ L h' (RowMap r t ov m0) ∧ News h₀ L h' news
theorem cutRow {m0 : Str → Option Value} {x0 : Str} {t0 : Tok} {t : Sem Flow} {Q : Flow → Shared → Prop} (_ : Fr h₀ L s.heap (fun y => if y = Str.ofString "row" then some (.str x0 t0) else m0 y)) (_ : News h₀ L s.heap news)
    (h1 : wpAny M A t (CutRow s h₀ L m0 news) E s)
    (h2 : ∀ (r : Str) (t : Tok) (ov : Option Value) (h' : Heap) (tk' : Nat), Fit r →
      Fr h₀ L h' (fun y => if y = Str.ofString "row" then some (.str r t) else if y = Str.ofString "v" then ov else m0 y) → News h₀ L h' news → Q .next { s with heap := h', toks := tk' }) : wpAny M A t Q E s :=
  wpAny_mono h1 (fun _ _ ⟨r, t, ov, h', tk', e, hp, e', F, N⟩ => by subst e; subst e'; exact h2 r t ov h' tk' hp F N) fun _ _ => id
end
end PartP12
end Mine
namespace Mine
section PartP13

/-- an ASCII text of at most n signs -/
structure FitN (n : Nat) (x : Str) : Prop where
  len : x.length ≤ n
  asc : ∀ c ∈ C x, c < 128
theorem FitN.mono {n k : Nat} {x : Str} (h : FitN n x) (hk : n ≤ k) : FitN k x := ⟨Nat.le_trans h.len hk, h.asc⟩
theorem FitN.append {n k : Nat} {x y : Str} (h : FitN n x) (h' : FitN k y) : FitN (n + k) (x ++ y) := by
  refine ⟨by rw [Str.length_append]; have := h.len; have := h'.len; omega, fun c hc => ?_⟩
  rw [codes_append] at hc
  rcases List.mem_append.mp hc with hc | hc
  · exact h.asc c hc
  · exact h'.asc c hc
theorem FitN.cut {n : Nat} {x : Str} {j : Int} (h : FitN n x) (hj : 0 ≤ j) : FitN n (Txt.slice x none (some j)) := by
  have e := slice_to x hj
  have hl := codes_len x
  have hl' := codes_len (Txt.slice x none (some j))
  refine ⟨by rw [← hl', e, List.length_take]; have := h.len; omega, fun c hc => ?_⟩
  rw [e] at hc
  exact h.asc c (List.mem_of_mem_take hc)
theorem FitN.fit {n : Nat} {x : Str} (h : FitN n x) (hn : n ≤ 100) : Fit x := ⟨Nat.le_trans h.len hn, h.asc⟩
theorem fitN_num {v : Int} {k : Int} (h : InR k v) (hk : k ≤ 1000000000000) : FitN 12 (Str.ofString (toString v)) := by
  obtain ⟨h0, h1⟩ := h
  refine ⟨numTx_len h0 (by decide) ?_, fun c hc => ?_⟩
  · have e : ((10 ^ 12 : Nat) : Int) = 1000000000000 := by decide
    rw [e]; omega
  · exact (all_ne (numTx h0).digs c hc).2.2.2.2.2
theorem fitN_dot : FitN 1 (Str.ofString ".") := by
  rw [sDot]
  exact ⟨by decide, by decide⟩
theorem fitN_nil (n : Nat) : FitN n (Str.ofString "") := by
  rw [sNil]
  exact ⟨Nat.zero_le _, by intro c hc; cases hc⟩
theorem fitN_lit (n : Nat) (l : List Nat) (hl : l.length ≤ n) (h : ∀ c ∈ l, c < 128) : FitN n ⟨l.toArray⟩ := by
  refine ⟨by simpa [Str.length] using hl, fun c hc => ?_⟩
  rw [codes_mk] at hc
  obtain ⟨k, hk, rfl⟩ := List.mem_map.mp hc
  have := h k hk
  omega
theorem fitN_minus : FitN 2 (Str.ofString "-") := by rw [sMinus]; exact fitN_lit 2 [45] (by decide) (by decide)
theorem fitN_plus : FitN 2 (Str.ofString "+") := by rw [sPlus]; exact fitN_lit 2 [43] (by decide) (by decide)
theorem fitN_E : FitN 2 (Str.ofString "E") := by rw [sE]; exact fitN_lit 2 [69] (by decide) (by decide)
theorem fitN_Dm : FitN 2 (Str.ofString "D-") := by
  rw [show Str.ofString "D-" = ⟨#[68, 45]⟩ by decide +kernel]; exact fitN_lit 2 [68, 45] (by decide) (by decide)
theorem fitN_Ep : FitN 2 (Str.ofString "E+") := by
  rw [show Str.ofString "E+" = ⟨#[69, 43]⟩ by decide +kernel]; exact fitN_lit 2 [69, 43] (by decide) (by decide)

/-- the word of the loop that grows the row -/
abbrev GW (n : Nat) (row : Str) : Prop := row.length ≤ n ∧ ∀ c ∈ C row, c < 128
theorem gw_start : GW ([] : List Int).length (Str.ofString "") := ⟨(fitN_nil 0).len, (fitN_nil 0).asc⟩
theorem signs_item (v : Int) : FitN 1 (Txt.item (Str.ofString "0123456789..EED+-+- X") (v.fmod 21)) := by
  have e : Str.ofString "0123456789..EED+-+- X" = ⟨#[48, 49, 50, 51, 52, 53, 54, 55, 56, 57, 46, 46, 69, 69, 68, 43, 45, 43, 45, 32, 88]⟩ := by decide +kernel
  rw [e]
  have h0 := Int.fmod_nonneg_of_pos v (show (0 : Int) < 21 by decide)
  have h1 := Int.fmod_lt_of_pos v (show (0 : Int) < 21 by decide)
  obtain ⟨n, hn, hc⟩ := item_code ⟨#[48, 49, 50, 51, 52, 53, 54, 55, 56, 57, 46, 46, 69, 69, 68, 43, 45, 43, 45, 32, 88]⟩ h0 h1
  rw [hn]
  refine ⟨Nat.le_refl 1, fun c hc' => ?_⟩
  rw [codes_one, List.mem_singleton] at hc'
  subst hc'
  have hm := List.mem_of_getElem? hc
  have all : ∀ c ∈ C ⟨#[48, 49, 50, 51, 52, 53, 54, 55, 56, 57, 46, 46, 69, 69, 68, 43, 45, 43, 45, 32, 88]⟩, c < 128 := by decide
  exact all _ hm
theorem gw_turn {n : Nat} {row : Str} {v : Int} (h1 : row.length ≤ n) (h2 : ∀ c ∈ C row, c < 128) : GW (n + 1) (row ++ Txt.item (Str.ofString "0123456789..EED+-+- X") (v.fmod 21)) := by
  have h := FitN.append ⟨h1, h2⟩ (signs_item v)
  exact ⟨h.len, h.asc⟩
theorem gw_turn' {pre : List Int} {row : Str} {v : Int} (h1 : row.length ≤ pre.length) (h2 : ∀ c ∈ C row, c < 128) : GW (pre ++ [v]).length (row ++ Txt.item (Str.ofString "0123456789..EED+-+- X") (v.fmod 21)) := by
  rw [List.length_append]
  exact gw_turn h1 h2

section
variable {s : Shared} {h₀ : Heap} {L : Addr} {m : Str → Option Value} {news : List (Addr × Obj)}
theorem cutRow_of {m0 : Str → Option Value} {o : Option Value} {r : Str} {t : Tok} {h' : Heap} {tk' : Nat} {news' : List (Addr × Obj)} (hp : Fit r)
    (F : Fr h₀ L h' m) (e : m = RowMap r t o m0) (N : News h₀ L h' news') (hs : ∀ p ∈ news, p ∈ news') : CutRow s h₀ L m0 news .next { s with heap := h', toks := tk' } :=
  ⟨r, t, o, h', tk', rfl, hp, rfl, e ▸ F, fun p hp => N p (hs p hp)⟩
end
end PartP13
end Mine
namespace Mine
section PartP14

def NoE (a : List Int) : Prop := ∀ v ∈ a, v ≠ 68 ∧ v ≠ 69
theorem cut_at (c : Int) : ∀ l : List Int, c ∉ l ∨ ∃ p q, l = p ++ c :: q ∧ c ∉ p
  | [] => .inl (by simp)
  | x :: r => by
    by_cases h : x = c
    · exact .inr ⟨[], r, by rw [h]; rfl, by simp⟩
    · rcases cut_at c r with h' | ⟨p, q, e, h'⟩
      · exact .inl (by simp only [List.mem_cons, not_or]; exact ⟨fun e => h e.symm, h'⟩)
      · exact .inr ⟨x :: p, q, by rw [e]; rfl, by simp only [List.mem_cons, not_or]; exact ⟨fun e => h e.symm, h'⟩⟩
theorem cut_e : ∀ l : List Int, NoE l ∨ ∃ a c b, l = a ++ c :: b ∧ NoE a ∧ (c = 69 ∨ c = 68)
  | [] => .inl (by intro v h; cases h)
  | x :: r => by
    by_cases h : x = 69 ∨ x = 68
    · exact .inr ⟨[], x, r, rfl, (by intro v h; cases h), h⟩
    · have hx : x ≠ 68 ∧ x ≠ 69 := ⟨fun e => h (.inr e), fun e => h (.inl e)⟩
      rcases cut_e r with h' | ⟨a, c, b, e, h', hc⟩
      · exact .inl fun v hv => by
          rcases List.mem_cons.mp hv with e | hv
          · rw [e]; exact hx
          · exact h' v hv
      · exact .inr ⟨x :: a, c, b, by rw [e]; rfl, fun v hv => by
          rcases List.mem_cons.mp hv with e | hv
          · rw [e]; exact hx
          · exact h' v hv, hc⟩

def BadR (r : List Int × Int × Int × Int) : Prop := ∃ y t, r.1 = y :: t ∧ y ≠ 68 ∧ y ≠ 69
theorem bad_none {neg : Bool} {r : List Int × Int × Int × Int} (h : BadR r) : parseS neg r = none := by
  obtain ⟨y, t, e, h1, h2⟩ := h
  unfold parseS
  split
  · rfl
  · rw [e]
    have : parseE (y :: t) = none := by
      unfold parseE
      rw [if_neg (by simp)]
      unfold readExp
      rw [if_neg]
      simp only [List.getElem?_cons_zero, Option.some.injEq, not_or]
      exact ⟨h2, h1⟩
    rw [this]
theorem scan_bad1 {r : List Int} : ∀ {a : List Int} {m c p : Int}, 0 ≤ p → NoE a → ¬ a.all isDig = true → BadR (scan (a ++ r) m c p)
  | [], _, _, _, _, _, h => absurd rfl h
  | x :: a, m, c, p, hp, hn, h => by
    by_cases hx : isDig x = true
    · rw [List.cons_append, scan_dig hx hp]
      exact scan_bad1 (by omega) (fun v hv => hn v (.tail _ hv)) (fun e => h (by rw [List.all_cons, hx, e]; rfl))
    · rw [List.cons_append, scan_stop hx (by omega)]
      exact ⟨x, _, rfl, hn x (.head _)⟩
theorem scan_bad0 {r : List Int} : ∀ {a : List Int} {m c : Int}, 46 ∉ a → NoE a → ¬ a.all isDig = true → BadR (scan (a ++ r) m c (-1))
  | [], _, _, _, _, h => absurd rfl h
  | x :: a, m, c, hp, hn, h => by
    simp only [List.mem_cons, not_or] at hp
    by_cases hx : isDig x = true
    · rw [List.cons_append, scan_dig' hx (by decide)]
      exact scan_bad0 hp.2 (fun v hv => hn v (.tail _ hv)) (fun e => h (by rw [List.all_cons, hx, e]; rfl))
    · rw [List.cons_append, scan_stop hx (fun e => hp.1 e.1.symm)]
      exact ⟨x, _, rfl, hn x (.head _)⟩

section
variable {sg e : Int} {a b p q : List Int} {c : Int}
theorem nh_free (h : 46 ∉ a) : numH sg a e = if figs a = true then some (strip (sg * numF a) e) else none := by
  rw [numH, splitC_free h]
theorem figs_no {l : List Int} (h : ¬ l.all isDig = true) : figs l = false := by
  unfold figs
  rw [Bool.eq_false_iff.mpr h, Bool.and_false]
theorem nh_cat (h : 46 ∉ p) : numH sg (p ++ 46 :: q) e = if figs (p ++ q) = true then some (strip (sg * numF (p ++ q)) (e - q.length)) else none := by
  rw [numH, splitC_cat h]
  rcases cut_at 46 q with h' | ⟨p', q', rfl, h'⟩
  · rw [splitC_free h']
  · rw [splitC_cat h']
    have hf : figs (p ++ (p' ++ 46 :: q')) = false := by
      refine figs_no ?_
      simp only [List.all_append, List.all_cons, Bool.and_eq_true]
      intro hh
      exact absurd hh.2.2.1 (by decide)
    rw [hf, if_neg (by decide)]
    cases hs : splitC 46 q' with
    | nil => exact absurd hs (splitC_ne _ _)
    | cons x y => rfl
theorem map_noE (h : NoE a) : a.map d2e = a := by
  refine (List.map_congr_left fun v hv => ?_).trans (List.map_id a)
  unfold d2e
  rw [if_neg (h v hv).1]; rfl
theorem noE_69 (h : NoE a) : (69 : Int) ∉ a := fun hm => (h 69 hm).2 rfl
theorem nb_free (h : NoE a) : numB sg a = if 46 ∈ a then numH sg a 0 else none := by
  rw [numB, map_noE h, splitC_free (noE_69 h)]
theorem size_noE (h : ¬ NoE b) : sizeOfExp b = none := by
  unfold sizeOfExp
  rw [if_neg]
  intro hf
  refine h fun v hv => ?_
  simp only [figs, Bool.and_eq_true, decide_eq_true_eq] at hf
  have key : v ∈ b.drop (signed b) ∨ v = 45 ∨ v = 43 := by
    unfold signed
    split
    · rename_i hs
      cases b with
      | nil => cases hv
      | cons x t =>
        rcases List.mem_cons.mp hv with e | hv
        · subst e
          simp only [List.getElem?_cons_zero, Option.some.injEq] at hs
          exact .inr hs
        · exact .inl hv
    · exact .inl hv
  rcases key with k | k | k
  · have := dig_ne (List.all_eq_true.mp hf.2 v k)
    omega
  · omega
  · omega
theorem nb_cat (h : NoE a) (hc : c = 69 ∨ c = 68) : numB sg (a ++ c :: b) = match sizeOfExp b with | none => none | some e => numH sg a e := by
  have hd : d2e c = 69 := by rcases hc with rfl | rfl <;> decide
  rw [numB, List.map_append, List.map_cons, hd, map_noE h, splitC_cat (noE_69 h)]
  by_cases hb : NoE b
  · rw [map_noE hb, splitC_free (noE_69 hb)]
    all_goals rfl
  · rw [size_noE hb]
    rcases cut_e b with hb' | ⟨a', c', b', rfl, ha', hc'⟩
    · exact absurd hb' hb
    · have hd' : d2e c' = 69 := by rcases hc' with rfl | rfl <;> decide
      rw [List.map_append, List.map_cons, hd', map_noE ha', splitC_cat (noE_69 ha')]
      cases hs : splitC 69 (b'.map d2e) with
      | nil => exact absurd hs (splitC_ne _ _)
      | cons x y => rfl

theorem exp_figs (l : List Int) : expDigits l = if figs l = true then some (numF l) else none := by
  unfold expDigits figs
  simp only [Bool.and_eq_true, decide_eq_true_eq]
theorem read_size (hc : c = 69 ∨ c = 68) : parseE (c :: b) = sizeOfExp b := by
  unfold parseE readExp
  rw [if_neg (by simp)]
  have h1 : (c :: b)[0]? = some 69 ∨ (c :: b)[0]? = some 68 := by simpa using hc
  rw [if_pos h1]
  show (if b[0]? = some 45 then Option.map (fun v => -v) (expDigits (b.drop 1)) else if b[0]? = some 43 then expDigits (b.drop 1) else expDigits b) = _
  by_cases h45 : b[0]? = some 45
  · have hg : signed b = 1 := if_pos (.inl h45)
    rw [if_pos h45, sizeOfExp, hg, exp_figs, if_pos h45]
    split <;> rfl
  · rw [if_neg h45]
    by_cases h43 : b[0]? = some 43
    · have hg : signed b = 1 := if_pos (.inr h43)
      rw [if_pos h43, sizeOfExp, hg, exp_figs, if_neg h45]
    · have hg : signed b = 0 := if_neg (fun h => h.elim h45 h43)
      rw [if_neg h43, sizeOfExp, hg, exp_figs, if_neg h45]
      rfl
end

theorem figs_pos {l : List Int} (h : l.all isDig = true) : figs l = decide (l.length ≠ 0) := by
  unfold figs
  rw [h, Bool.and_true]
  congr 1
  cases l <;> simp

/-- the reading of a number whose figures end where the exponent starts -/
theorem body_same {neg : Bool} {sg : Int} {a r : List Int} (hs : ∀ x : Int, sg * x = if neg = true then -x else x) (ha : NoE a) (hr : Stop0 r) :
    parseS neg (scan (a ++ r) 0 0 (-1)) = match parseE r with
      | none => none
      | some e => if r = [] ∧ 46 ∉ a then none else numH sg a e := by
  have hr1 : Stop1 r := fun y t e => (hr y t e).1
  rcases cut_at 46 a with h | ⟨p, q, rfl, h⟩
  · by_cases hd : a.all isDig = true
    · rw [scan_plain hd hr, parseS]
      simp only
      by_cases hz : a.length = 0
      · have hf : figs a = false := by rw [figs_pos hd, hz]; rfl
        rw [if_pos (by omega)]
        split
        · rfl
        · rw [nh_free h, hf]
          simp
      · have hf : figs a = true := by rw [figs_pos hd]; exact decide_eq_true hz
        rw [if_neg (by omega)]
        cases hp : parseE r with
        | none => rfl
        | some e =>
          simp only
          rw [nh_free h, if_pos hf, hs, show max (-1) (0 : Int) = 0 by decide, Int.sub_zero]
          simp [h]
    · rw [bad_none (scan_bad0 h ha hd)]
      split
      · rfl
      · rw [nh_free h, figs_no hd]
        simp
  · have hp : NoE p := fun v hv => ha v (List.mem_append_left _ hv)
    have hq : NoE q := fun v hv => ha v (List.mem_append_right _ (.tail _ hv))
    have e : (p ++ 46 :: q) ++ r = p ++ 46 :: (q ++ r) := by simp
    rw [e]
    by_cases hd : p.all isDig = true
    · by_cases hd' : q.all isDig = true
      · have hpq : (p ++ q).all isDig = true := by rw [List.all_append, hd, hd']; rfl
        rw [scan_point hd hd' hr1, parseS]
        simp only
        by_cases hz : p.length + q.length = 0
        · have hf : figs (p ++ q) = false := by rw [figs_pos hpq, List.length_append, hz]; rfl
          rw [if_pos (by omega)]
          split
          · rfl
          · rw [nh_cat h, hf]
            simp
        · have hf : figs (p ++ q) = true := by rw [figs_pos hpq, List.length_append]; exact decide_eq_true hz
          rw [if_neg (by omega)]
          cases hp : parseE r with
          | none => rfl
          | some e =>
            simp only
            have h1 : ¬ (r = [] ∧ ((q.length : Nat) : Int) < 0) := fun h => by omega
            have h2 : ¬ (r = [] ∧ (46 : Int) ∉ p ++ 46 :: q) := fun h => h.2 (by simp)
            rw [nh_cat h, if_pos hf, hs, if_neg h1, if_neg h2, show max ((q.length : Nat) : Int) (0 : Int) = (q.length : Int) by omega]
      · rw [scan_digs0 hd, scan_dot (by decide), bad_none (scan_bad1 (by decide) hq hd')]
        have hf : figs (p ++ q) = false := figs_no (by rw [List.all_append, hd, Bool.true_and]; exact hd')
        split
        · rfl
        · rw [nh_cat h, hf]
          simp
    · rw [bad_none (scan_bad0 h hp hd)]
      have hf : figs (p ++ q) = false := figs_no (by rw [List.all_append]; intro hh; exact hd (Bool.and_eq_true _ _ ▸ hh).1)
      split
      · rfl
      · rw [nh_cat h, hf]
        simp

theorem parse_number (l : List Int) : parse l = number l := by
  unfold parse number
  have hs : ∀ x : Int, sgnOf l * x = if decide (l[0]? = some 45) = true then -x else x := by
    intro x
    unfold sgnOf
    by_cases h : l[0]? = some 45
    · rw [if_pos h, if_pos (decide_eq_true h), Int.neg_mul, Int.one_mul]
    · rw [if_neg h, if_neg (by rw [decide_eq_false h]; decide), Int.one_mul]
  generalize l.drop (signed l) = t
  rcases cut_e t with h | ⟨a, c, b, rfl, h, hc⟩
  · have := body_same (r := []) hs h (fun y t e => by cases e)
    rw [List.append_nil] at this
    rw [this, nb_free h]
    show (if ([] : List Int) = [] ∧ 46 ∉ t then none else numH (sgnOf l) t 0) = _
    by_cases hm : 46 ∈ t
    · rw [if_pos hm, if_neg (fun e => e.2 hm)]
    · rw [if_neg hm, if_pos ⟨rfl, hm⟩]
  · rw [body_same (r := c :: b) hs h (fun y t e => by
      injection e with e1 e2
      subst e1
      rcases hc with rfl | rfl <;> decide), nb_cat h hc, read_size hc]
    split
    · rfl
    · rw [if_neg (by simp)]

end PartP14
end Mine
namespace Mine
section PartL2

theorem news_left {h₀ h : Heap} {L : Addr} {a b : List (Addr × Obj)} (N : News h₀ L h (a ++ b)) : News h₀ L h a := fun p hp => N p (List.mem_append_left _ hp)

abbrev RetO (h₀ : Heap) (L : Addr) (m : Str → Option Value) (news : List (Addr × Obj)) (s : Shared) (Q : Value → Shared → Prop) (p : Option Int) : Prop :=
  (p = none → ∀ (h' : Heap) (tk' : Nat), Fr h₀ L h' m → News h₀ L h' news → Q .none { s with heap := h', toks := tk' }) ∧
  (∀ v, p = some v → ∀ (t : Nat) (h' : Heap) (tk' : Nat), Fr h₀ L h' m → News h₀ L h' news → Q (.int v t) { s with heap := h', toks := tk' })

local macro_rules | `(tactic| walk_at "exec For") => `(tactic| (k_here; (rename Fr _ _ _ _ => lF'); (with_unfolding_all refine' For_invVF lF' ?k1 ?k2 ?_; (case k1 => exact rfl); (case k2 => exact rfl); k_whole)))
local macro_rules | `(tactic| walk_at "pyIter str") => `(tactic| k_extra "pyIter str")

set_option maxHeartbeats 3000000 in
theorem rexp_call (w : World) (x : Str) (i : Int) (tx ti : Tok) (hx : x.length ≤ 100) (h0 : 0 ≤ i) (h1 : i < (x.length : Int)) (news) : CallC w 36 1 8 [.str x tx, .int i ti] news (fun h₀ L f n s Q => RetO h₀ L f n s Q (readExp (KStt.codes x) i.toNat)) := by
  unfold CallC
  k_fill
  intro mean mg mb dp un gd cn cs a ccd cl outer A₀ base h₀ L fm s Q E B F X N T hk hd hu hret
  refine wpAny_call ?_
  k_dflt cell_enter
  k_with_none
  k_with "state" => first | exact xd_start | exact xd_turn (by with_reducible assumption) (by with_reducible assumption) (by with_reducible assumption) (by with_reducible assumption)
  k_with "pyIter str" => k_state (fun pre found => 0 ≤ found ∧ found = numF pre ∧ pre.all isDig = true) "found"
  k_steps
  · exact hret.1 (rx_other h0 h1 (by with_reducible assumption) (by with_reducible assumption)) _ _ (by with_reducible assumption) (by with_reducible assumption)
  all_goals (have hED : (C x)[i.toNat]? = some 69 ∨ (C x)[i.toNat]? = some 68 := by first | exact rx_isE h0 h1 (by with_reducible assumption) | exact rx_isD h0 h1 (by with_reducible assumption))
  all_goals first
    | exact hret.1 (rx_minus_none h0 hED (by with_reducible assumption) (xd_nil (by with_reducible assumption))) _ _ (by with_reducible assumption) (by with_reducible assumption)
    | exact hret.1 (rx_minus_none h0 hED (by with_reducible assumption) (xd_bad (nn2 h0) (by with_reducible assumption) (by with_reducible assumption))) _ _ (by with_reducible assumption) (news_left (by with_reducible assumption))
    | exact hret.2 _ (rx_minus_some h0 hED (by with_reducible assumption) (xd_ok (nn2 h0) (lt_minus h0 (by with_reducible assumption) (by with_reducible assumption)) (by with_reducible assumption) (by with_reducible assumption))) _ _ _ (by with_reducible assumption) (by with_reducible assumption)
    | exact hret.1 (rx_plus h0 hED (by with_reducible assumption) (by with_reducible assumption) (xd_nil (by with_reducible assumption))) _ _ (by with_reducible assumption) (by with_reducible assumption)
    | exact hret.1 (rx_plus h0 hED (by with_reducible assumption) (by with_reducible assumption) (xd_bad (nn2 h0) (by with_reducible assumption) (by with_reducible assumption))) _ _ (by with_reducible assumption) (news_left (by with_reducible assumption))
    | exact hret.2 _ (rx_plus h0 hED (by with_reducible assumption) (by with_reducible assumption) (xd_ok (nn2 h0) (lt_plus h0 (by with_reducible assumption) (by with_reducible assumption)) (by with_reducible assumption) (by with_reducible assumption))) _ _ _ (by with_reducible assumption) (by with_reducible assumption)
    | exact hret.1 (rx_plain h0 hED (by with_reducible assumption) (by with_reducible assumption) (xd_nil (by with_reducible assumption))) _ _ (by with_reducible assumption) (by with_reducible assumption)
    | exact hret.1 (rx_plain h0 hED (by with_reducible assumption) (by with_reducible assumption) (xd_bad (nn1 h0) (by with_reducible assumption) (by with_reducible assumption))) _ _ (by with_reducible assumption) (news_left (by with_reducible assumption))
    | exact hret.2 _ (rx_plain h0 hED (by with_reducible assumption) (by with_reducible assumption) (xd_ok (nn1 h0) (lt_plain h1 (by with_reducible assumption)) (by with_reducible assumption) (by with_reducible assumption))) _ _ _ (by with_reducible assumption) (by with_reducible assumption)

end PartL2
end Mine
namespace Mine
section PartL6

abbrev RetS (h₀ : Heap) (L : Addr) (m : Str → Option Value) (news : List (Addr × Obj)) (s : Shared) (Q : Value → Shared → Prop) (P : Str → Prop) : Prop :=
  ∀ (y : Str) (t : Tok) (h' : Heap) (tk' : Nat), P y → Fr h₀ L h' m → News h₀ L h' news → Q (.str y t) { s with heap := h', toks := tk' }

local macro_rules | `(tactic| walk_at "eval IfExp") => `(tactic| k_extra "eval IfExp")

set_option maxHeartbeats 3000000 in
theorem real_callE (w : World) (m e : Int) (tm te tl : Tok) (ax : Addr) (hm : m.natAbs < 1000000000000000) (he1 : -40 ≤ e) (he2 : e ≤ 60) (rest) : CallC w 29 1 128 [.ref ax, .str (Str.ofString "E") tl] ((ax, tupO m e tm te) :: rest) (fun h₀ L f n s Q => RetS h₀ L f n s Q (Back m e false)) := by
  unfold CallC
  k_fill
  intro mean mg mb dp un gd cn cs a ccd cl outer A₀ base h₀ L fm s Q E B F X N T hk hd hu hret
  refine wpAny_call ?_
  k_dflt cell_enter
  have hl1 := abs_len1 m
  have hl2 := abs_len2 hm
  k_with_none
  k_with "eval IfExp" => (
    (fail_if_success (with_reducible show wpAny _ _ _ (CutStr _ _ _ _ _ _) _ _))
    (rename Fr _ _ _ _ => lF)
    (rename News _ _ _ _ => lN)
    (k_dflt (refine cutS lF lN (SgP m) ?_ ?_))
    (rotate_left)
    (intro sg tsg h9 tk9 hSg F9 N9)
    (have hsgl := sgP_len hSg)
    (rotate_left))
  k_steps
  all_goals (try with_reducible exact cutStr_of (P := SgP m) (sgP_neg (by with_reducible assumption)) (by with_reducible assumption) (by with_reducible assumption))
  all_goals (try with_reducible exact cutStr_of (P := SgP m) (sgP_pos (by with_reducible assumption)) (by with_reducible assumption) (by with_reducible assumption))
  all_goals (with_reducible refine hret _ _ _ _ ?_ (by with_reducible assumption) (by with_reducible assumption))
  all_goals first
    | (have q := back_int (m := m) (e := e) hSg (digOf hm) (by with_reducible assumption) (by with_reducible assumption); with_reducible exact q)
    | (have q := back_mid (m := m) (e := e) hSg (digOf hm) (by omega) (by omega); with_reducible exact q)
    | (have q := back_low (m := m) (e := e) hSg (digOf hm) (by omega) (by omega) (by omega); with_reducible exact q)
    | (have q := back_exp (c := 69) (d := false) (m := m) (e := e) sE (Or.inl (by with_unfolding_all rfl)) (by with_unfolding_all decide) hSg (digOf hm) (by omega) (by omega); with_reducible exact q)
    | (exfalso; omega)

set_option maxHeartbeats 3000000 in
theorem real_callD (w : World) (m e : Int) (tm te tl : Tok) (ax : Addr) (hm : m.natAbs < 1000000000000000) (he1 : -40 ≤ e) (he2 : e ≤ 60) (rest) : CallC w 29 1 128 [.ref ax, .str (Str.ofString "D") tl] ((ax, tupO m e tm te) :: rest) (fun h₀ L f n s Q => RetS h₀ L f n s Q (Back m e true)) := by
  unfold CallC
  k_fill
  intro mean mg mb dp un gd cn cs a ccd cl outer A₀ base h₀ L fm s Q E B F X N T hk hd hu hret
  refine wpAny_call ?_
  k_dflt cell_enter
  have hl1 := abs_len1 m
  have hl2 := abs_len2 hm
  k_with_none
  k_with "eval IfExp" => (
    (fail_if_success (with_reducible show wpAny _ _ _ (CutStr _ _ _ _ _ _) _ _))
    (rename Fr _ _ _ _ => lF)
    (rename News _ _ _ _ => lN)
    (k_dflt (refine cutS lF lN (SgP m) ?_ ?_))
    (rotate_left)
    (intro sg tsg h9 tk9 hSg F9 N9)
    (have hsgl := sgP_len hSg)
    (rotate_left))
  k_steps
  all_goals (try with_reducible exact cutStr_of (P := SgP m) (sgP_neg (by with_reducible assumption)) (by with_reducible assumption) (by with_reducible assumption))
  all_goals (try with_reducible exact cutStr_of (P := SgP m) (sgP_pos (by with_reducible assumption)) (by with_reducible assumption) (by with_reducible assumption))
  all_goals (with_reducible refine hret _ _ _ _ ?_ (by with_reducible assumption) (by with_reducible assumption))
  all_goals first
    | (have q := back_int (m := m) (e := e) hSg (digOf hm) (by with_reducible assumption) (by with_reducible assumption); with_reducible exact q)
    | (have q := back_mid (m := m) (e := e) hSg (digOf hm) (by omega) (by omega); with_reducible exact q)
    | (have q := back_low (m := m) (e := e) hSg (digOf hm) (by omega) (by omega) (by omega); with_reducible exact q)
    | (have q := back_exp (c := 68) (d := true) (m := m) (e := e) sD (Or.inr (by with_unfolding_all rfl)) (by with_unfolding_all decide) hSg (digOf hm) (by omega) (by omega); with_reducible exact q)
    | (exfalso; omega)

end PartL6
end Mine
namespace Mine
section PartL3

abbrev RetN (h₀ : Heap) (L : Addr) (m : Str → Option Value) (news : List (Addr × Obj)) (s : Shared) (Q : Value → Shared → Prop) (p : Option (Int × Int)) : Prop :=
  (p = none → ∀ (h' : Heap) (tk' : Nat), Fr h₀ L h' m → News h₀ L h' news → Q .none { s with heap := h', toks := tk' }) ∧
  (∀ r, p = some r → RetP h₀ L m news s Q r)

local macro_rules | `(tactic| walk_at "call ref") => `(tactic| (
   k_here
   (with_unfolding_all refine' strip_call _ _ _ _ _ _ _ _ _ _ _ _ _ _ _ _ _ _ _ _ _ _ _ _ _ _ ?k1 ?k2 ?k3 ?k4 ?k5 ?k6 ?k7 ?k8 ?_)
   (case k1 => k_asm)
   (case k2 => k_asm)
   (case k3 => k_asm)
   (case k4 => k_asm)
   (case k5 => k_asm)
   (case k6 => first | exact rfl | assumption)
   (case k7 => ktr_room)
   (case k8 => ktr_units)
   refine ⟨fun hz h9 tk9 F9 N9 => ?_, fun a9 t9 u9 h9 tk9 F9 N9 l9 => ?_⟩
   (all_goals (try dsimp only))
   (all_goals (try k_fold))))
local macro_rules | `(tactic| walk_at "call ref") => `(tactic| (
   k_here
   (with_unfolding_all refine' rexp_call _ _ _ _ _ ?p1 ?p2 ?p3 _ _ _ _ _ _ _ _ _ _ _ _ _ _ _ _ _ _ _ _ _ ?k1 ?k2 ?k3 ?k4 ?k5 ?k6 ?k7 ?k8 ?_)
   (case p1 => first | assumption | omega)
   (case p2 => first | assumption | omega)
   (case p3 => first | assumption | omega)
   (case k1 => k_asm)
   (case k2 => k_asm)
   (case k3 => k_asm)
   (case k4 => k_asm)
   (case k5 => k_asm)
   (case k6 => first | exact rfl | assumption)
   (case k7 => ktr_room)
   (case k8 => ktr_units)
   refine ⟨fun hz h9 tk9 F9 N9 => ?_, fun v9 hz t9 h9 tk9 F9 N9 => ?_⟩
   (all_goals (try dsimp only))
   (all_goals (try k_fold))))
local macro_rules | `(tactic| walk_at "call ref") => `(tactic| (k_here; exfalso; omega))

local macro_rules | `(tactic| walk_at "eval IfExp") => `(tactic| k_extra "eval IfExp")
set_option maxHeartbeats 3000000 in
theorem parse_call (w : World) (x : Str) (tx : Tok) (hx : x.length ≤ 100) (news) : CallC w 43 2 16 [.str x tx] news (fun h₀ L f n s Q => RetN h₀ L f n s Q (parse (C x))) := by
  unfold CallC
  k_fill
  intro mean mg mb dp un gd cn cs a ccd cl outer A₀ base h₀ L fm s Q E B F X N T hk hd hu hret
  refine wpAny_call ?_
  k_dflt cell_enter
  k_with_none
  k_with "eval IfExp" => (
    (with_reducible show wpAny _ _ (eval (PySem.Expr.IfExp _ _ _ ⟨39, _, _, _⟩) _) _ _ _)
    (fail_if_success (with_reducible show wpAny _ _ _ (CutInt _ _ _ _ _ _) _ _))
    (rename Fr _ _ _ _ => lF)
    (rename News _ _ _ _ => lN)
    (k_dflt (refine cutI lF lN (SgA x) ?_ ?_))
    (rotate_left)
    (intro a0 ta0 h9 tk9 hSgA F9 N9)
    (have hSg := hSgA.sg)
    (have hA0 := hSgA.nn)
    (have hA1 := hSgA.le)
    (rotate_left))
  k_with "state" => first
    | exact pw_start (by with_reducible assumption) (by with_reducible assumption)
    | exact pw_dig (by with_reducible assumption) (by with_reducible assumption) (by with_reducible assumption) (by with_reducible assumption) (by with_reducible assumption) (by with_reducible assumption) (by with_reducible assumption) (by with_reducible assumption)
    | exact pw_dig' (by with_reducible assumption) (by with_reducible assumption) (by with_reducible assumption) (by with_reducible assumption) (by with_reducible assumption) (by with_reducible assumption) (by with_reducible assumption) (by with_reducible assumption) (by with_reducible assumption)
    | exact pw_dot (by with_reducible assumption) (by with_reducible assumption) (by with_reducible assumption) (by with_reducible assumption) (by with_reducible assumption) (by with_reducible assumption) (by with_reducible assumption) (by with_reducible assumption)
    | exact (not_both (by with_reducible assumption) (by with_reducible assumption) (by with_reducible assumption) (by with_reducible assumption)).elim
  k_with "measure" => (omega)
  k_with "exec While BoolOp cons nil" => k_while_given ["at!"] (fun a0 script at' m count places => 0 ≤ at' ∧ at' ≤ (x.length : Int) ∧ -1 ≤ places ∧ 0 ≤ m ∧ 0 ≤ count ∧ count ≤ at' ∧ scan ((C x).drop at'.toNat) m count places = scan ((C x).drop a0.toNat) 0 0 (-1)) (fun a0 script at' m count places => ((x.length : Int) - at').toNat) "at" "m" "count" "places"
  k_steps
  all_goals (try first
    | have hSt := st1 (x := x) (by with_reducible assumption) (by with_reducible assumption)
    | have hSt := st2 (x := x) (by with_reducible assumption) (by with_reducible assumption) (by with_reducible assumption) (by with_reducible assumption) (by with_reducible assumption)
    | have hSt := st3 (x := x) (by with_reducible assumption) (by with_reducible assumption) (by with_reducible assumption) (by with_reducible assumption) (by with_reducible assumption))
  all_goals first
    | exact cutInt_of (P := SgA x) (sgA_minus (by with_reducible assumption)) (by with_reducible assumption) (by with_reducible assumption)
    | exact cutInt_of (P := SgA x) (sgA_plus (by with_reducible assumption)) (by with_reducible assumption) (by with_reducible assumption)
    | exact cutInt_of (P := SgA x) (sgA_none (by with_reducible assumption) (by with_reducible assumption)) (by with_reducible assumption) (by with_reducible assumption)
    | exact hret.1 (pe_c hSt hSg (by with_reducible assumption)) _ _ (by with_reducible assumption) (by with_reducible assumption)
    | exact hret.1 (pe_e hSt hSg (by with_reducible assumption) (by with_reducible assumption) (by with_reducible assumption)) _ _ (by with_reducible assumption) (by with_reducible assumption)
    | exact hret.1 (pe_p hSt hSg (by with_reducible assumption) (by with_reducible assumption)) _ _ (by with_reducible assumption) (by with_reducible assumption)
    | exact (hret.2 _ (pe_xt hSt hSg (by with_reducible assumption) (by with_reducible assumption) (by with_reducible assumption) (by with_reducible assumption) (by with_reducible assumption) (by with_reducible assumption) (by with_reducible assumption))).1 (by with_reducible assumption) _ _ (by with_reducible assumption) (by with_reducible assumption)
    | exact (hret.2 _ (pe_xt hSt hSg (by with_reducible assumption) (by with_reducible assumption) (by with_reducible assumption) (by with_reducible assumption) (by with_reducible assumption) (by with_reducible assumption) (by with_reducible assumption))).2 _ _ _ _ _ (by with_reducible assumption) (by with_reducible assumption) (by with_reducible assumption)
    | exact (hret.2 _ (pe_xf hSt hSg (by with_reducible assumption) (by with_reducible assumption) (by with_reducible assumption) (by with_reducible assumption) (by with_reducible assumption) (by with_reducible assumption) (by with_reducible assumption))).1 (by with_reducible assumption) _ _ (by with_reducible assumption) (by with_reducible assumption)
    | exact (hret.2 _ (pe_xf hSt hSg (by with_reducible assumption) (by with_reducible assumption) (by with_reducible assumption) (by with_reducible assumption) (by with_reducible assumption) (by with_reducible assumption) (by with_reducible assumption))).2 _ _ _ _ _ (by with_reducible assumption) (by with_reducible assumption) (by with_reducible assumption)
    | exact (hret.2 _ (pe_yt hSt hSg (by with_reducible assumption) (by with_reducible assumption) (by with_reducible assumption) (by with_reducible assumption) (by with_reducible assumption) (by with_reducible assumption) (by with_reducible assumption))).1 (by with_reducible assumption) _ _ (by with_reducible assumption) (by with_reducible assumption)
    | exact (hret.2 _ (pe_yt hSt hSg (by with_reducible assumption) (by with_reducible assumption) (by with_reducible assumption) (by with_reducible assumption) (by with_reducible assumption) (by with_reducible assumption) (by with_reducible assumption))).2 _ _ _ _ _ (by with_reducible assumption) (by with_reducible assumption) (by with_reducible assumption)
    | exact (hret.2 _ (pe_yf hSt hSg (by with_reducible assumption) (by with_reducible assumption) (by with_reducible assumption) (by with_reducible assumption) (by with_reducible assumption) (by with_reducible assumption) (by with_reducible assumption))).1 (by with_reducible assumption) _ _ (by with_reducible assumption) (by with_reducible assumption)
    | exact (hret.2 _ (pe_yf hSt hSg (by with_reducible assumption) (by with_reducible assumption) (by with_reducible assumption) (by with_reducible assumption) (by with_reducible assumption) (by with_reducible assumption) (by with_reducible assumption))).2 _ _ _ _ _ (by with_reducible assumption) (by with_reducible assumption) (by with_reducible assumption)
    | (exfalso; omega)

end PartL3
end Mine
namespace Mine
section PartL5
local macro_rules | `(tactic| walk_at "exec If") => `(tactic| k_extra "exec If")
local macro_rules | `(tactic| walk_at "eval IfExp") => `(tactic| k_extra "eval IfExp")
local macro_rules | `(tactic| walk_at "call builtin:str.split") => `(tactic| k_extra "call builtin:str.split")
local macro_rules | `(tactic| walk_at "call builtin:len") => `(tactic| k_extra "call builtin:len")
local macro_rules | `(tactic| walk_at "call type:int") => `(tactic| k_extra "call type:int")
local macro_rules | `(tactic| walk_at "binaryOp Mult int int") => `(tactic| (k_here; (k_dflt (refine PyProof.Rows.mul_int ?_ (IntMulOk.of_left (sg_bits (by with_reducible assumption)))))))
local macro_rules | `(tactic| walk_at "execs nil") => `(tactic| (k_here; refine wpAny_execs_nil ?_))
local macro_rules | `(tactic| walk_at "execs cons") => `(tactic| (k_here; (fail_if_success (fail_if_success k_gentoks)); (fail_if_success (k_dflt (refine' genStop ?_ ?_); with_reducible assumption)); k_dflt (refine' genToks ?_); intro tk hTk))
local macro_rules | `(tactic| walk_at "call ref") => `(tactic| (
   k_here
   (with_reducible show wpAny _ _ (call (Value.ref 55) _) _ _ _)
   (with_unfolding_all refine' figs_call _ _ _ ?p1 ?p2 _ _ _ _ _ _ _ _ _ _ _ _ _ _ _ _ _ _ _ _ _ ?k1 ?k2 ?k3 ?k4 ?k5 ?k6 ?k7 ?k8 ?_)
   (case p1 => first | with_reducible assumption | exact (fit_join2 (by with_reducible assumption) (by with_reducible assumption) (by with_reducible assumption) (by with_reducible assumption)).len | exact (fit_join1 (by with_reducible assumption)).len)
   (case p2 => first | exact Fit.asc (by with_reducible assumption) | exact (fit_join2 (by with_reducible assumption) (by with_reducible assumption) (by with_reducible assumption) (by with_reducible assumption)).asc | exact (fit_join1 (by with_reducible assumption)).asc)
   (case k1 => k_asm)
   (case k2 => k_asm)
   (case k3 => k_asm)
   (case k4 => k_asm)
   (case k5 => k_asm)
   (case k6 => first | exact rfl | assumption)
   (case k7 => ktr_room)
   (case k8 => ktr_units)
   intro h9 tk9 F9 N9
   (all_goals (try dsimp only))
   (all_goals (try k_fold))))
local macro_rules | `(tactic| walk_at "call ref") => `(tactic| (
   k_here
   (with_reducible show wpAny _ _ (call (Value.ref 62) _) _ _ _)
   (with_unfolding_all refine' lpair_call _ _ _ _ _ _ _ _ _ _ _ _ _ _ _ _ _ _ _ _ _ _ _ _ _ _ ?k1 ?k2 ?k3 ?k4 ?k5 ?k6 ?k7 ?k8 ?_)
   (case k1 => k_asm)
   (case k2 => k_asm)
   (case k3 => k_asm)
   (case k4 => k_asm)
   (case k5 => k_asm)
   (case k6 => first | exact rfl | assumption)
   (case k7 => ktr_room)
   (case k8 => ktr_units)
   intro a9 t9 u9 h9 tk9 F9 N9 l9
   (all_goals (try dsimp only))
   (all_goals (try k_fold))))

local macro_rules | `(tactic| walk_at "subscriptTail Name Constant ref int") => `(tactic| (
   k_here
   (with_reducible show wpAny _ _ (subscriptTail _ _ (Value.ref _) (Value.int _ _)) _ _ _)
   k_dflt (
     (with_unfolding_all refine' item_litK ?k1 ?k2 ?k3 ?k4 ?_ ?k6)
     (case k1 => is_list)
     (case k2 => decide)
     (case k3 => decide)
     (case k4 => rfl)
     (case k6 => with_unfolding_all rfl)
     k_whole)))
set_option maxHeartbeats 6000000 in
theorem num_call (w : World) (x : Str) (tx : Tok) (hx : Fit x) (news) : CallC w 69 2 256 [.str x tx] news (fun h₀ L f n s Q => RetN h₀ L f n s Q (number (C x))) := by
  unfold CallC
  k_fill
  intro mean mg mb dp un gd cn cs a ccd cl outer A₀ base h₀ L fm s Q E B F X N T hk hd hu hret
  have hxl : x.length ≤ 100 := hx.len
  refine wpAny_call ?_
  k_dflt cell_enter
  k_with_none
  k_with "exec If" => (
    (with_reducible show wpAny _ _ (exec (PySem.Stmt.If _ _ _ ⟨69, _, _, _⟩) _) _ _ _)
    (fail_if_success (with_reducible show wpAny _ _ _ (CutSgn _ _ _ _ _ _) _ _))
    (rename Fr _ _ _ _ => lF)
    (rename News _ _ _ _ => lN)
    (k_dflt (refine cutSgn x lF lN ?_ ?_))
    (rotate_left)
    (intro sg t1 r t2 h9 tk9 hNum F9 N9)
    (have hrF : Fit r := ns_fit hNum hx)
    (have hrl : r.length ≤ 100 := hrF.len)
    (have hrr := rep_len hrF)
    (rotate_left))
  k_with "eval IfExp" => (
    (with_reducible show wpAny _ _ (eval (PySem.Expr.IfExp _ _ _ ⟨77, _, _, _⟩) _) _ _ _)
    (fail_if_success (with_reducible show wpAny _ _ _ (CutStr _ _ _ _ _ _) _ _))
    (rename Fr _ _ _ _ => lF)
    (rename News _ _ _ _ => lN)
    (k_dflt (refine cutS lF lN (SizeP pb) ?_ ?_))
    (rotate_left)
    (intro sz tz h9 tk9 hSz F9 N9)
    (have hszF : Fit sz := sizeP_fit hSz hpb)
    (have hszl : sz.length ≤ 100 := hszF.len)
    (rotate_left))
  k_with "eval IfExp" => (
    (with_reducible show wpAny _ _ (eval (PySem.Expr.IfExp _ _ _ ⟨80, _, _, _⟩) _) _ _ _)
    (fail_if_success (with_reducible show wpAny _ _ _ (CutInt _ _ _ _ _ _) _ _))
    (rename Fr _ _ _ _ => lF)
    (rename News _ _ _ _ => lN)
    (have hpb1 : 1 ≤ pb.length := sizeP_len hSz (by with_reducible assumption))
    (k_dflt (refine cutI lF lN (ExpP pb) ?_ ?_))
    (rotate_left)
    (intro ev te h9 tk9 hEv F9 N9)
    (rotate_left))
  k_with "call type:int" => (
    (with_reducible show wpAny _ _ (call (Value.type "int") [Value.str _ _]) _ _ _)
    k_dflt (first
    | refine KIN.call_text (int_figs (by with_reducible assumption) hszF) (len_640 hszF) ?_
    | refine KIN.call_text (int_two (by with_reducible assumption) hpa hsq hqa hqb) (len_two hqa hqb) ?_
    | refine KIN.call_text (int_one (by with_reducible assumption) hqa) (len_one hqa) ?_))
  k_with "call builtin:str.split" => (
    (with_reducible show wpAny _ _ (call (Value.builtin "str.split") _) _ _ _)
    (k_dflt (refine KSpl.split1 (by k_asm) (by k_asm) (by decide) ?_ ?kS))
    (case kS => first | exact rep_size (by with_reducible assumption) | exact fit_size (by with_reducible assumption))
    (intro D' l' h' k' e' a' F' N' l1)
    first
    | (rcases body_cases (by with_reducible assumption) e' with ⟨pa, pt, el, hsp, hpa⟩ | ⟨pa, pt, pb, pu, el, hsp, hpa, hpb⟩ | ⟨h3, h3', hsp⟩)
    | (rcases halves_cases (by with_reducible assumption) e' with ⟨qa, qt, el, hsq, hqa⟩ | ⟨qa, qt, qb, qu, el, hsq, hqa, hqb⟩ | ⟨h3, h3', hsq⟩)
    (all_goals (try subst el))
    (all_goals (try (have hpal := hpa.len)))
    (all_goals (try (have hpbl := hpb.len)))
    (all_goals (try (have hqal := hqa.len)))
    (all_goals (try (have hqbl := hqb.len)))
    (all_goals (simp only [strValues, List.map_cons, List.map_nil] at N'))
    (all_goals (clear a' e')))
  k_with "call builtin:len" => (
    (with_reducible show wpAny _ _ (call (Value.builtin "len") [Value.ref _]) _ _ _)
    (k_dflt (refine kun_lenL (News.isList (by k_asm) (by k_mem)) (size_strs l') (by omega) ?_)))
  k_steps
  all_goals first
    | exact cutSgn_is (ns_plus (by with_reducible assumption) (by with_reducible assumption) (by with_reducible assumption)) (by with_reducible assumption) (by with_reducible assumption)
    | exact cutSgn_is (ns_minus (by with_reducible assumption) (by with_reducible assumption) (by with_reducible assumption)) (by with_reducible assumption) (by with_reducible assumption)
    | exact cutSgn_no (t2 := tx) (ns_empty (by with_reducible assumption)) rfl (by with_reducible assumption) (by with_reducible assumption)
    | exact cutSgn_no (t2 := tx) (ns_none (by with_reducible assumption)) rfl (by with_reducible assumption) (by with_reducible assumption)
    | exact cutStr_of (P := SizeP pb) (ns_tail (by with_reducible assumption)) (by with_reducible assumption) (news_sub (by with_reducible assumption) (by intro p hp; exact .tail _ hp))
    | exact cutStr_of (P := SizeP pb) (ns_empty (by with_reducible assumption)).drop (by with_reducible assumption) (news_sub (by with_reducible assumption) (by intro p hp; exact .tail _ hp))
    | exact cutStr_of (P := SizeP pb) (ns_none (by with_reducible assumption)).drop (by with_reducible assumption) (news_sub (by with_reducible assumption) (by intro p hp; exact .tail _ hp))
    | exact cutInt_of (P := ExpP pb) (size_neg hSz (by with_reducible assumption) hpb1 (by with_reducible assumption)) (by with_reducible assumption) (by with_reducible assumption)
    | exact cutInt_of (P := ExpP pb) (size_pos hSz (by with_reducible assumption) hpb1 (by with_reducible assumption)) (by with_reducible assumption) (by with_reducible assumption)
    | exact hret.1 (ne_nodot hNum hsp (by with_reducible assumption)) _ _ (by with_reducible assumption) (news_sub (by with_reducible assumption) (by intro p hp; repeat (first | exact hp | apply List.Mem.tail)))
    | exact hret.1 (ne_three hNum hsp) _ _ (by with_reducible assumption) (news_sub (by with_reducible assumption) (by intro p hp; repeat (first | exact hp | apply List.Mem.tail)))
    | exact hret.1 (ne_size hNum hsp hSz (by with_reducible assumption)) _ _ (by with_reducible assumption) (news_sub (by with_reducible assumption) (by intro p hp; repeat (first | exact hp | apply List.Mem.tail)))
    | exact hret.1 ((ne_exp hNum hsp hEv).trans (nh_three hsq)) _ _ (by with_reducible assumption) (news_sub (by with_reducible assumption) (by intro p hp; repeat (first | exact hp | apply List.Mem.tail)))
    | exact hret.1 ((ne_exp hNum hsp hEv).trans (nh_one_no hsq (by with_reducible assumption))) _ _ (by with_reducible assumption) (news_sub (by with_reducible assumption) (by intro p hp; repeat (first | exact hp | apply List.Mem.tail)))
    | exact hret.1 ((ne_exp hNum hsp hEv).trans (nh_two_no hsq (by with_reducible assumption))) _ _ (by with_reducible assumption) (news_sub (by with_reducible assumption) (by intro p hp; repeat (first | exact hp | apply List.Mem.tail)))
    | exact (hret.2 _ ((ne_exp hNum hsp hEv).trans (nh_one hsq (by with_reducible assumption)))).2 _ _ _ _ _ (by with_reducible assumption) (news_sub (by with_reducible assumption) (by intro p hp; cases hp with | head => exact .head _ | tail _ hp => exact .tail _ (.tail _ (.tail _ hp)))) (less_sub (by with_reducible assumption) (by intro p hp; repeat (first | exact hp | apply List.Mem.tail)))
    | exact (hret.2 _ ((ne_exp hNum hsp hEv).trans (nh_two hsq (by with_reducible assumption)))).2 _ _ _ _ _ (by with_reducible assumption) (news_sub (by with_reducible assumption) (by intro p hp; cases hp with | head => exact .head _ | tail _ hp => exact .tail _ (.tail _ (.tail _ hp)))) (less_sub (by with_reducible assumption) (by intro p hp; repeat (first | exact hp | apply List.Mem.tail)))
    | exact hret.1 ((ne_dot hNum hsp (by with_reducible assumption)).trans (nh_three hsq)) _ _ (by with_reducible assumption) (news_sub (by with_reducible assumption) (by intro p hp; repeat (first | exact hp | apply List.Mem.tail)))
    | exact hret.1 ((ne_dot hNum hsp (by with_reducible assumption)).trans (nh_one_no hsq (by with_reducible assumption))) _ _ (by with_reducible assumption) (news_sub (by with_reducible assumption) (by intro p hp; repeat (first | exact hp | apply List.Mem.tail)))
    | exact hret.1 ((ne_dot hNum hsp (by with_reducible assumption)).trans (nh_two_no hsq (by with_reducible assumption))) _ _ (by with_reducible assumption) (news_sub (by with_reducible assumption) (by intro p hp; repeat (first | exact hp | apply List.Mem.tail)))
    | exact (hret.2 _ ((ne_dot hNum hsp (by with_reducible assumption)).trans (nh_one hsq (by with_reducible assumption)))).2 _ _ _ _ _ (by with_reducible assumption) (news_sub (by with_reducible assumption) (by intro p hp; cases hp with | head => exact .head _ | tail _ hp => exact .tail _ (.tail _ (.tail _ hp)))) (less_sub (by with_reducible assumption) (by intro p hp; repeat (first | exact hp | apply List.Mem.tail)))
    | exact (hret.2 _ ((ne_dot hNum hsp (by with_reducible assumption)).trans (nh_two hsq (by with_reducible assumption)))).2 _ _ _ _ _ (by with_reducible assumption) (news_sub (by with_reducible assumption) (by intro p hp; cases hp with | head => exact .head _ | tail _ hp => exact .tail _ (.tail _ (.tail _ hp)))) (less_sub (by with_reducible assumption) (by intro p hp; repeat (first | exact hp | apply List.Mem.tail)))

end PartL5
end Mine
namespace Mine
section PartP15

theorem strip_spec : ∀ (k : Nat) (m e : Int), m.natAbs ≤ k → (m = 0 ∧ strip m e = (0, 0)) ∨ (m ≠ 0 ∧ ∃ n : Nat, m = (strip m e).1 * 10 ^ n ∧ (strip m e).2 = e + n ∧ (strip m e).1.fmod 10 ≠ 0 ∧ (strip m e).1 ≠ 0)
  | 0, m, e, h => .inl ⟨by omega, strip_zero (by omega)⟩
  | k + 1, m, e, h => by
    by_cases h0 : m = 0
    · exact .inl ⟨h0, strip_zero h0⟩
    · refine .inr ⟨h0, ?_⟩
      by_cases h1 : m.fmod 10 = 0
      · have hf := PyProof.Rows.fdiv_fmod_facts m 10
        have hs := strip_step (e := e) h0 h1
        rcases strip_spec k (m.fdiv 10) (e + 1) (by omega) with ⟨h2, _⟩ | ⟨_, n, h3, h4, h5, h6⟩
        · omega
        · rw [hs] at h3 h4 h5 h6
          refine ⟨n + 1, ?_, by omega, h5, h6⟩
          rw [Int.pow_succ, ← Int.mul_assoc, ← h3]
          omega
      · have hs := strip_stop (e := e) h0 h1
        refine ⟨0, ?_, ?_, ?_, ?_⟩
        · rw [hs]; simp
        · rw [hs]; simp
        · rw [hs]; exact h1
        · rw [hs]; exact h0

structure XP (m e : Int) : Prop where
  small : m.natAbs < 1000000000000000
  lo : -40 ≤ e
  hi : e ≤ 60
  fix : strip m e = (m, e)
theorem xp_of {m e : Int} (hm : m.natAbs < 1000000000000000) (h1 : -40 ≤ e) (h2 : e ≤ 40) : XP (strip m e).1 (strip m e).2 := by
  rcases strip_spec m.natAbs m e (Nat.le_refl _) with ⟨_, h⟩ | ⟨h0, n, h3, h4, h5, h6⟩
  · rw [h]
    exact ⟨by decide, by decide, by decide, strip_zero rfl⟩
  · have hn : m.natAbs = (strip m e).1.natAbs * 10 ^ n := by
      conv => lhs; rw [h3]
      rw [Int.natAbs_mul, Int.natAbs_pow]
      rfl
    have hp : 1 ≤ (strip m e).1.natAbs := by omega
    have hpow : 0 < 10 ^ n := Nat.pow_pos (by decide)
    have h7 : 10 ^ n ≤ m.natAbs := by
      rw [hn]
      exact Nat.le_mul_of_pos_left _ hp
    have h8 : (strip m e).1.natAbs ≤ m.natAbs := by
      conv => rhs; rw [hn]
      exact Nat.le_mul_of_pos_right _ hpow
    have h9 : n < 15 := by
      have : 10 ^ n < 10 ^ 15 := by
        have e15 : 10 ^ 15 = 1000000000000000 := by decide
        rw [e15]
        omega
      exact (Nat.pow_lt_pow_iff_right (by decide)).mp this
    exact ⟨by omega, by omega, by omega, strip_stop h6 h5⟩

theorem x_small {v k : Int} (h0 : 0 ≤ k) (h1 : k < 15) : ((1 - 2 * v.fmod 2) * (v.fdiv 2).fmod (10 ^ (1 + k).toNat)).natAbs < 1000000000000000 := by
  have hf := PyProof.Rows.fdiv_fmod_facts v 2
  have hm0 := Int.fmod_nonneg_of_pos v (show (0 : Int) < 2 by decide)
  have hm1 := Int.fmod_lt_of_pos v (show (0 : Int) < 2 by decide)
  have hpos : (0 : Int) < 10 ^ (1 + k).toNat := Int.pow_pos (by decide)
  have hq0 := Int.fmod_nonneg_of_pos (v.fdiv 2) hpos
  have hq1 := Int.fmod_lt_of_pos (v.fdiv 2) hpos
  have hp : (10 : Int) ^ (1 + k).toNat ≤ 1000000000000000 := by
    have h : (10 : Nat) ^ (1 + k).toNat ≤ 10 ^ 15 := Nat.pow_le_pow_right (by decide) (by omega)
    have e15 : (10 : Nat) ^ 15 = 1000000000000000 := by decide
    rw [e15] at h
    have e : (10 : Int) ^ (1 + k).toNat = ((10 ^ (1 + k).toNat : Nat) : Int) := by rw [Int.natCast_pow]; rfl
    rw [e]
    omega
  generalize (v.fdiv 2).fmod (10 ^ (1 + k).toNat) = q at *
  rw [Int.natAbs_mul]
  have : (1 - 2 * v.fmod 2).natAbs = 1 := by omega
  rw [this]
  omega

end PartP15
end Mine
namespace Mine
section PartP16

theorem callC_mono {w : World} {f : Addr} {k u : Nat} {args : List Value} {news : List (Addr × Obj)} {Ret Ret' : Heap → Addr → (Str → Option Value) → List (Addr × Obj) → Shared → (Value → Shared → Prop) → Prop}
    (h : CallC w f k u args news Ret) (hr : ∀ h₀ L m s Q, Ret' h₀ L m news s Q → Ret h₀ L m news s Q) : CallC w f k u args news Ret' := by
  intro mean mg mb dp un gd cn cs a ccd cl outer A₀ base h₀ L m s Q E B F X N T hk hd hu hret
  exact h mean mg mb dp un gd cn cs a ccd cl outer A₀ base h₀ L m s Q E B F X N T hk hd hu (hr _ _ _ _ _ hret)

abbrev RetNone (h₀ : Heap) (L : Addr) (m : Str → Option Value) (news : List (Addr × Obj)) (s : Shared) (Q : Value → Shared → Prop) : Prop :=
  ∀ (h' : Heap) (tk' : Nat), Fr h₀ L h' m → News h₀ L h' news → Q .none { s with heap := h', toks := tk' }

theorem no_of_some {α : Type} {a : Option α} {p : α} {P : Prop} (h : a = some p) : a = none → P := fun e => by
  rw [h] at e
  cases e
theorem no_of_none {α : Type} {a : Option α} {P : α → Prop} (h : a = none) : ∀ r, a = some r → P r := fun r e => by
  rw [h] at e
  cases e
theorem is_of_some {α : Type} {a : Option α} {p : α} {P : α → Prop} (h : a = some p) (hp : P p) : ∀ r, a = some r → P r := fun r e => by
  rw [h] at e
  cases e
  exact hp
theorem num_none (w : World) (x : Str) (tx : Tok) (hx : Fit x) (hz : parse (C x) = none) (news) : CallC w 69 2 256 [.str x tx] news RetNone :=
  callC_mono (num_call w x tx hx news) fun _ _ _ _ _ h => ⟨fun _ => h, no_of_none ((parse_number _).symm.trans hz)⟩
theorem num_some (w : World) (x : Str) (tx : Tok) (p : Int × Int) (hx : Fit x) (hz : parse (C x) = some p) (news) : CallC w 69 2 256 [.str x tx] news (fun h₀ L f n s Q => RetP h₀ L f n s Q p) :=
  callC_mono (num_call w x tx hx news) fun _ _ _ _ _ h => ⟨no_of_some ((parse_number _).symm.trans hz), is_of_some ((parse_number _).symm.trans hz) h⟩
theorem parse_some (w : World) (x : Str) (tx : Tok) (p : Int × Int) (hx : x.length ≤ 100) (hz : parse (C x) = some p) (news) : CallC w 43 2 16 [.str x tx] news (fun h₀ L f n s Q => RetP h₀ L f n s Q p) :=
  callC_mono (parse_call w x tx hx news) fun _ _ _ _ _ h => ⟨no_of_some hz, is_of_some hz h⟩

section
variable {M : Model} {A : Around} {E : Value → Shared → Prop} {s : Shared} {h₀ : Heap} {L : Addr} {m : Str → Option Value} {news : List (Addr × Obj)}
def CutNext (s : Shared) (h₀ : Heap) (L : Addr) (m : Str → Option Value) (news : List (Addr × Obj)) (fl : Flow) (s' : Shared) : Prop :=
  ∃ (h' : Heap) (tk' : Nat), fl = .next ∧ s' = { s with heap := h', toks := tk' } ∧ Fr h₀ L h' m ∧ News h₀ L h' news
theorem cutN {t : Sem Flow} {Q : Flow → Shared → Prop} (_ : Fr h₀ L s.heap m) (_ : News h₀ L s.heap news) (h1 : wpAny M A t (CutNext s h₀ L m news) E s)
    (h2 : ∀ (h' : Heap) (tk' : Nat), Fr h₀ L h' m → News h₀ L h' news → Q .next { s with heap := h', toks := tk' }) : wpAny M A t Q E s :=
  wpAny_mono h1 (fun _ _ ⟨h', tk', e, e', F, N⟩ => by subst e; subst e'; exact h2 h' tk' F N) fun _ _ => id
theorem cutN_of {h' : Heap} {tk' : Nat} {news' : List (Addr × Obj)} (F : Fr h₀ L h' m) (N : News h₀ L h' news') (hs : ∀ p ∈ news, p ∈ news') : CutNext s h₀ L m news .next { s with heap := h', toks := tk' } :=
  ⟨h', tk', rfl, rfl, F, news_sub N hs⟩
def CutTrue (s : Shared) (h₀ : Heap) (L : Addr) (m : Str → Option Value) (news : List (Addr × Obj)) (v : Value) (s' : Shared) : Prop :=
  ∃ (h' : Heap) (tk' : Nat), v = .bool true ∧ s' = { s with heap := h', toks := tk' } ∧ Fr h₀ L h' m ∧ News h₀ L h' news
theorem cutT {t : Sem Value} {Q : Value → Shared → Prop} (_ : Fr h₀ L s.heap m) (_ : News h₀ L s.heap news) (h1 : wpAny M A t (CutTrue s h₀ L m news) E s)
    (h2 : ∀ (h' : Heap) (tk' : Nat), Fr h₀ L h' m → News h₀ L h' news → Q (.bool true) { s with heap := h', toks := tk' }) : wpAny M A t Q E s :=
  wpAny_mono h1 (fun _ _ ⟨h', tk', e, e', F, N⟩ => by subst e; subst e'; exact h2 h' tk' F N) fun _ _ => id
theorem cutT_of {b : Bool} {h' : Heap} {tk' : Nat} {news' : List (Addr × Obj)} (hb : b = true) (F : Fr h₀ L h' m) (N : News h₀ L h' news') (hs : ∀ p ∈ news, p ∈ news') : CutTrue s h₀ L m news (.bool b) { s with heap := h', toks := tk' } :=
  ⟨h', tk', by rw [hb], rfl, F, news_sub N hs⟩

theorem cutRow_1 {m0 : Str → Option Value} {o1 o2 o3 : Option Value} {r : Str} {t : Tok} {h' : Heap} {tk' : Nat} (hp : Fit r)
    (F : Fr h₀ L h' (fun y => if y = Str.ofString "row" then some (.str r t) else if y = Str.ofString "row" then o1 else if y = Str.ofString "row" then o2 else if y = Str.ofString "row" then o3 else m0 y)) (N : News h₀ L h' news) : CutRow s h₀ L m0 news .next { s with heap := h', toks := tk' } :=
  ⟨r, t, m0 (Str.ofString "v"), h', tk', rfl, hp, rfl, frCongr F (by
    funext y
    by_cases h1 : y = Str.ofString "row"
    · simp only [RowMap, if_pos h1]
    · simp only [RowMap, if_neg h1]
      by_cases h2 : y = Str.ofString "v"
      · rw [if_pos h2, h2]
      · rw [if_neg h2]), N⟩
theorem cutRow_2 {m0 : Str → Option Value} {kU : Str → Option Value} {o : Option Value} {r : Str} {t : Tok} {h' : Heap} {tk' : Nat} {p : Addr × Obj} {n : Nat} (h1 : r.length ≤ n) (h2 : ∀ c ∈ C r, c < 128) (hn : n ≤ 100)
    (F : Fr h₀ L h' (fun y => if y = Str.ofString "v" then kU y else if y = Str.ofString "row" then some (.str r t) else if ([] : List Str).contains y = true then kU y else if y = Str.ofString "row" then o else m0 y)) (N : News h₀ L h' (p :: news)) : CutRow s h₀ L m0 news .next { s with heap := h', toks := tk' } :=
  ⟨r, t, kU (Str.ofString "v"), h', tk', rfl, ⟨Nat.le_trans h1 hn, h2⟩, rfl, frCongr F (by
    funext y
    have e0 : ([] : List Str).contains y = false := rfl
    have e1 : ¬ Str.ofString "v" = Str.ofString "row" := by decide +kernel
    simp only [RowMap, e0]
    by_cases h2 : y = Str.ofString "v"
    · subst h2
      rw [if_pos rfl, if_neg e1, if_pos rfl]
    · rw [if_neg h2]
      by_cases h1 : y = Str.ofString "row"
      · rw [if_pos h1, if_pos h1]
      · rw [if_neg h1, if_neg h1, if_neg h2, if_neg (by decide), if_neg h1]), news_tail N⟩
theorem dee_is (r : Str) : (!(Builtin.Str.occurrences r (Str.ofString "D") 0 r.length 1).isEmpty) = decide ((68 : Int) ∈ C r) := by
  rw [sD, StrLaws.found_one, Bool.eq_iff_iff, decide_eq_true_eq, decide_eq_true_eq]
  constructor
  · intro h
    exact List.mem_map.mpr ⟨68, h, rfl⟩
  · intro h
    obtain ⟨n, hn, e⟩ := List.mem_map.mp h
    have : n = 68 := by omega
    exact this ▸ hn
theorem dee_in {m e : Int} {r : Str} (h : Back m e true r) : (!(Builtin.Str.occurrences r (Str.ofString "D") 0 r.length 1).isEmpty) = true := by rw [dee_is, h.dee]
theorem dee_no {m e : Int} {r : Str} (h : Back m e false r) : (!(Builtin.Str.occurrences r (Str.ofString "D") 0 r.length 1).isEmpty) = false := by rw [dee_is, h.dee]
end
end PartP16
end Mine
namespace Mine
section PartP17
def PairAt (h : Heap) (a : Addr) (m e : Int) : Prop := ∃ t u : Tok, h.get? a = some (tupO m e t u)
theorem pair_new {h₀ h : Heap} {L a : Addr} {news : List (Addr × Obj)} {m e : Int} {t u : Tok} (N : News h₀ L h news) (hm : (a, tupO m e t u) ∈ news) : PairAt h a m e := ⟨t, u, N.get hm⟩
theorem pair_nought {p : Params} {h₀ h : Heap} {L : Addr} {m : Str → Option Value} (X : (hd.heap_39 p).In h₀) (F : Fr h₀ L h m) : PairAt h 15 0 0 :=
  ⟨189, 190, Fr.keep F _ _ (X 15 _ (by with_unfolding_all rfl))⟩
theorem pair_reads {h : Heap} {a : Addr} {m e : Int} (hp : PairAt h a m e) : Reads h (.ref a) (.tuple [.int m, .int e]) [] := by
  obtain ⟨t, u, hg⟩ := hp
  exact reads_tuple_at hg rfl rfl (ReadsAll.cons (Reads.int _ _) (ReadsAll.cons (Reads.int _ _) ReadsAll.nil))
theorem pair_shaped (m e : Int) : SeqAt.shaped (.tuple [.int m, .int e]) = true := by
  simp [SeqAt.shaped, PyData.canLay0, PyData.canLayAll0, PyData.depth, PyData.depthAll]
theorem pair_eqv (m e : Int) : PyData.eqv (.tuple [.int m, .int e]) (.tuple [.int m, .int e]) = true := by
  simp [PyData.eqv, PyData.eqvAll]
theorem dee_nn {m e : Int} {r : Str} (h : Back m e false r) : (!(!(Builtin.Str.occurrences r (Str.ofString "D") 0 r.length 1).isEmpty)) = true := by rw [dee_no h]; rfl
theorem parse_back (w : World) (y : Str) (ty : Tok) (m e : Int) (d : Bool) (hB : Back m e d y) (hX : XP m e) (news) : CallC w 43 2 16 [.str y ty] news (fun h₀ L f n s Q => RetP h₀ L f n s Q (m, e)) :=
  parse_some w y ty (m, e) hB.fit.len (hB.back.trans (congrArg some hX.fix)) news
section
variable {prog : Program} {w : World} {A : Around} {E : Value → Shared → Prop} {s : Shared} {a b : Addr} {m e : Int} {Q : Value → Shared → Prop}
theorem eq_pairs (ha : PairAt s.heap a m e) (hb : PairAt s.heap b m e) (hu : A.units + 64 < cLine) (h : Q (.bool true) s) : wpAny (model prog w) A (compareOp .Eq (.ref a) (.ref b)) Q E s :=
  eq_dataH (pair_reads ha) (pair_reads hb) (pair_shaped m e) (pair_shaped m e) hu (by rw [pair_eqv]; exact h)
theorem ne_pairs (ha : PairAt s.heap a m e) (hb : PairAt s.heap b m e) (hu : A.units + 64 < cLine) (h : Q (.bool false) s) : wpAny (model prog w) A (compareOp .NotEq (.ref a) (.ref b)) Q E s :=
  ne_dataH (pair_reads ha) (pair_reads hb) (pair_shaped m e) (pair_shaped m e) hu (by rw [pair_eqv]; exact h)
end
end PartP17
end Mine
namespace Mine
section PartL8
abbrev RetX (h₀ : Heap) (L : Addr) (m : Str → Option Value) (news : List (Addr × Obj)) (s : Shared) (Q : Value → Shared → Prop) : Prop :=
  ∀ (mx ex : Int) (a t u : Nat) (h' : Heap) (tk' : Nat), XP mx ex → Fr h₀ L h' m → News h₀ L h' ((a, tupO mx ex t u) :: news) → (∀ p ∈ news, p.1 < a) → Q (.ref a) { s with heap := h', toks := tk' }
theorem xpair_call (w : World) (m e : Int) (tm te : Tok) (hm : m.natAbs < 1000000000000000) (h1 : -40 ≤ e) (h2 : e ≤ 40) (news) : CallC w 62 1 8 [.int m tm, .int e te] news RetX :=
  callC_mono (lpair_call w m e tm te news) fun _ _ _ _ _ h => fun a t u h' tk' F N l => h _ _ a t u h' tk' (xp_of hm h1 h2) F N l
local macro_rules | `(tactic| walk_at "exec If") => `(tactic| k_extra "exec If")
local macro_rules | `(tactic| walk_at "eval Subscript") => `(tactic| k_extra "eval Subscript")
local macro_rules | `(tactic| walk_at "eval Compare") => `(tactic| k_extra "eval Compare")
local macro_rules | `(tactic| walk_at "compareOp Eq ref ref") => `(tactic| (
   k_here
   (with_reducible show wpAny _ _ (compareOp CmpOp.Eq (Value.ref _) (Value.ref _)) _ _ _)
   k_dflt (
     (with_unfolding_all refine' eq_pairs ?k1 ?k2 ?k3 ?_)
     (case k1 => first | exact pair_new (by k_asm) (by k_mem) | exact pair_nought (by k_asm) (by k_asm))
     (case k2 => first | exact pair_new (by k_asm) (by k_mem) | exact pair_nought (by k_asm) (by k_asm))
     (case k3 => units_room))))
local macro_rules | `(tactic| walk_at "compareOp NotEq ref ref") => `(tactic| (
   k_here
   (with_reducible show wpAny _ _ (compareOp CmpOp.NotEq (Value.ref _) (Value.ref _)) _ _ _)
   k_dflt (
     (with_unfolding_all refine' ne_pairs ?k1 ?k2 ?k3 ?_)
     (case k1 => first | exact pair_new (by k_asm) (by k_mem) | exact pair_nought (by k_asm) (by k_asm))
     (case k2 => first | exact pair_new (by k_asm) (by k_mem) | exact pair_nought (by k_asm) (by k_asm))
     (case k3 => units_room))))
local macro_rules | `(tactic| walk_at "call ref") => `(tactic| (
   k_here
   (with_reducible show wpAny _ _ (call (Value.ref 43) _) _ _ _)
   (with_unfolding_all refine' parse_call _ _ _ ?p1 _ _ _ _ _ _ _ _ _ _ _ _ _ _ _ _ _ _ _ _ _ ?k1 ?k2 ?k3 ?k4 ?k5 ?k6 ?k7 ?k8 ?_)
   (case p1 => with_reducible assumption)
   (case k1 => k_asm)
   (case k2 => k_asm)
   (case k3 => k_asm)
   (case k4 => k_asm)
   (case k5 => k_asm)
   (case k6 => first | exact rfl | assumption)
   (case k7 => ktr_room)
   (case k8 => ktr_units)
   refine ⟨fun hz h9 tk9 F9 N9 => ?_, fun p9 hz => ?_⟩
   rotate_left
   obtain ⟨m9, e9⟩ := p9
   refine ⟨fun hp h9 tk9 F9 N9 => ?_, fun a9 t9 u9 h9 tk9 F9 N9 l9 => ?_⟩
   (injection hp with hp1 hp2)
   (subst hp1)
   (subst hp2)
   rotate_left
   rotate_left
   (all_goals (try dsimp only))
   (all_goals (try k_fold))))
local macro_rules | `(tactic| walk_at "call ref") => `(tactic| (
   k_here
   (with_reducible show wpAny _ _ (call (Value.ref 43) [Value.str _ _]) _ _ _)
   (with_unfolding_all refine' parse_back _ _ _ _ _ _ ?p1 ?p2 _ _ _ _ _ _ _ _ _ _ _ _ _ _ _ _ _ _ _ _ _ ?k1 ?k2 ?k3 ?k4 ?k5 ?k6 ?k7 ?k8 ?_)
   (case p1 => with_reducible assumption)
   (case p2 => with_reducible assumption)
   (case k1 => k_asm)
   (case k2 => k_asm)
   (case k3 => k_asm)
   (case k4 => k_asm)
   (case k5 => k_asm)
   (case k6 => first | exact rfl | assumption)
   (case k7 => ktr_room)
   (case k8 => ktr_units)
   refine ⟨fun hp h9 tk9 F9 N9 => ?_, fun a9 t9 u9 h9 tk9 F9 N9 l9 => ?_⟩
   (injection hp with hp1 hp2)
   (subst hp1)
   (subst hp2)
   (all_goals (try dsimp only))
   (all_goals (try k_fold))))
local macro_rules | `(tactic| walk_at "call ref") => `(tactic| (
   k_here
   (with_reducible show wpAny _ _ (call (Value.ref 69) _) _ _ _)
   (with_unfolding_all refine' num_some _ _ _ _ ?p1 ?p2 _ _ _ _ _ _ _ _ _ _ _ _ _ _ _ _ _ _ _ _ _ ?k1 ?k2 ?k3 ?k4 ?k5 ?k6 ?k7 ?k8 ?_)
   (case p1 => with_reducible assumption)
   (case p2 => with_reducible assumption)
   (case k1 => k_asm)
   (case k2 => k_asm)
   (case k3 => k_asm)
   (case k4 => k_asm)
   (case k5 => k_asm)
   (case k6 => first | exact rfl | assumption)
   (case k7 => ktr_room)
   (case k8 => ktr_units)
   refine ⟨fun hp h9 tk9 F9 N9 => ?_, fun a9 t9 u9 h9 tk9 F9 N9 l9 => ?_⟩
   (injection hp with hp1 hp2)
   (try subst hp1)
   (try subst hp2)
   (all_goals (try dsimp only))
   (all_goals (try k_fold))))
local macro_rules | `(tactic| walk_at "call ref") => `(tactic| (
   k_here
   (with_reducible show wpAny _ _ (call (Value.ref 69) _) _ _ _)
   (with_unfolding_all refine' num_none _ _ _ ?p1 ?p2 _ _ _ _ _ _ _ _ _ _ _ _ _ _ _ _ _ _ _ _ _ ?k1 ?k2 ?k3 ?k4 ?k5 ?k6 ?k7 ?k8 ?_)
   (case p1 => with_reducible assumption)
   (case p2 => with_reducible assumption)
   (case k1 => k_asm)
   (case k2 => k_asm)
   (case k3 => k_asm)
   (case k4 => k_asm)
   (case k5 => k_asm)
   (case k6 => first | exact rfl | assumption)
   (case k7 => ktr_room)
   (case k8 => ktr_units)
   intro h9 tk9 F9 N9
   (all_goals (try dsimp only))
   (all_goals (try k_fold))))
local macro_rules | `(tactic| walk_at "call ref") => `(tactic| (
   k_here
   (with_reducible show wpAny _ _ (call (Value.ref 62) _) _ _ _)
   (with_unfolding_all refine' xpair_call _ _ _ _ _ ?p1 ?p2 ?p3 _ _ _ _ _ _ _ _ _ _ _ _ _ _ _ _ _ _ _ _ _ ?k1 ?k2 ?k3 ?k4 ?k5 ?k6 ?k7 ?k8 ?_)
   (case p1 => exact x_small (by with_reducible assumption) (by with_reducible assumption))
   (case p2 => omega)
   (case p3 => omega)
   (case k1 => k_asm)
   (case k2 => k_asm)
   (case k3 => k_asm)
   (case k4 => k_asm)
   (case k5 => k_asm)
   (case k6 => first | exact rfl | assumption)
   (case k7 => ktr_room)
   (case k8 => ktr_units)
   intro mx ex a9 t9 u9 h9 tk9 hX F9 N9 l9
   (all_goals (try dsimp only))
   (all_goals (try k_fold))))
local macro_rules | `(tactic| walk_at "call ref") => `(tactic| (
   k_here
   (with_reducible show wpAny _ _ (call (Value.ref 29) [_, Value.str (Str.ofString "E") _]) _ _ _)
   (with_unfolding_all refine' real_callE _ _ _ _ _ _ _ ?p1 ?p2 ?p3 _ _ _ _ _ _ _ _ _ _ _ _ _ _ _ _ _ _ _ _ _ ?k1 ?k2 ?k3 ?k4 ?k5 ?k6 ?k7 ?k8 ?_)
   (case k1 => k_asm)
   (case k2 => k_asm)
   (case k3 => k_asm)
   (case k4 => k_asm)
   (case k5 => k_asm)
   (case k6 => first | exact rfl | assumption)
   (case k7 => ktr_room)
   (case k8 => ktr_units)
   (case p1 => exact hX.small)
   (case p2 => exact hX.lo)
   (case p3 => exact hX.hi)
   intro yE tyE h9 tk9 hYE F9 N9
   (have hYEl := hYE.fit.len)
   (all_goals (try dsimp only))
   (all_goals (try k_fold))))
local macro_rules | `(tactic| walk_at "call ref") => `(tactic| (
   k_here
   (with_reducible show wpAny _ _ (call (Value.ref 29) [_, Value.str (Str.ofString "D") _]) _ _ _)
   (with_unfolding_all refine' real_callD _ _ _ _ _ _ _ ?p1 ?p2 ?p3 _ _ _ _ _ _ _ _ _ _ _ _ _ _ _ _ _ _ _ _ _ ?k1 ?k2 ?k3 ?k4 ?k5 ?k6 ?k7 ?k8 ?_)
   (case k1 => k_asm)
   (case k2 => k_asm)
   (case k3 => k_asm)
   (case k4 => k_asm)
   (case k5 => k_asm)
   (case k6 => first | exact rfl | assumption)
   (case k7 => ktr_room)
   (case k8 => ktr_units)
   (case p1 => exact hX.small)
   (case p2 => exact hX.lo)
   (case p3 => exact hX.hi)
   intro yD tyD h9 tk9 hYD F9 N9
   (have hYDl := hYD.fit.len)
   (all_goals (try dsimp only))
   (all_goals (try k_fold))))
local macro_rules | `(tactic| walk_at "call ref") => `(tactic| (
   k_here
   (with_reducible show wpAny _ _ (call (Value.ref 50) _) _ _ _)
   (with_unfolding_all refine' pick_call _ _ _ _ _ _ _ _ ?p1 ?p2 ?p3 ?p4 ?p5 ?p6 ?p7 _ _ _ _ _ _ _ _ _ _ _ _ _ _ _ _ _ _ _ _ ?k1 ?k2 ?k3 ?k4 ?k5 ?k6 ?k7 ?k8 ?_)
   (case k1 => k_asm)
   (case k2 => k_asm)
   (case k3 => k_asm)
   (case k4 => k_asm)
   (case k5 => k_asm)
   (case k6 => first | exact rfl | assumption)
   (case k7 => ktr_room)
   (case k8 => ktr_units)
   (case p1 => with_reducible assumption)
   (case p7 => k_dflt (first | exact List.Mem.head _ | exact List.Mem.tail _ (List.Mem.head _) | exact List.Mem.tail _ (List.Mem.tail _ (List.Mem.head _))))
   (case p2 => omega)
   (case p3 => decide +kernel)
   (case p4 => decide +kernel)
   (case p5 => decide +kernel)
   (case p6 => decide +kernel)
   intro v9 t9 h9 tk9 hv9 F9 N9
   (obtain ⟨hv90, hv91⟩ := hv9)
   (try simp only [Int.reduceToNat, Int.reducePow] at hv91)
   (all_goals (try dsimp only))
   (all_goals (try k_fold))))
set_option maxHeartbeats 4000000 in
theorem law_holds : PySem.Challenge.rw_no0224_01.Holds := hd (by
  k_go0
  all_goals try k_fold
  k_with_none
  k_with "exec If" => (
    (with_reducible show wpAny _ _ (exec (PySem.Stmt.If _ _ _ ⟨96, _, _, _⟩) _) _ _ _)
    (fail_if_success (with_reducible show wpAny _ _ _ (CutNext _ _ _ _ _) _ _))
    (rename Fr _ _ _ _ => lF)
    (rename News _ _ _ _ => lN)
    (k_dflt (refine cutN lF lN ?_ ?_))
    (rotate_left)
    (intro h9 tk9 F9 N9)
    (rotate_left))
  k_with "exec If" => (
    (with_reducible show wpAny _ _ (exec (PySem.Stmt.If _ _ _ ⟨89, _, _, _⟩) _) _ _ _)
    (fail_if_success (with_reducible show wpAny _ _ _ (CutRow _ _ _ _ _) _ _))
    (rename Fr _ _ _ _ => lF)
    (rename News _ _ _ _ => lN)
    (k_dflt (refine cutRow lF lN ?_ ?_))
    (rotate_left)
    (intro rw trw ovw h9 tk9 hRw F9 N9)
    (have hrwl : rw.length ≤ 100 := hRw.len)
    (rotate_left))
  k_with "eval Compare" => (
    (with_reducible show wpAny _ _ (eval (PySem.Expr.Compare _ _ _ ⟨102, _, _, _⟩) _) _ _ _)
    (fail_if_success (with_reducible show wpAny _ _ _ (CutTrue _ _ _ _ _) _ _))
    (rename Fr _ _ _ _ => lF)
    (rename News _ _ _ _ => lN)
    (k_dflt (refine cutT lF lN ?_ ?_))
    (rotate_left)
    (intro h9 tk9 F9 N9)
    (rotate_left))
  k_with "eval Subscript" => (
    (with_reducible show wpAny _ _ (eval (PySem.Expr.Subscript (PySem.Expr.List ..) _ _) _) _ _ _)
    (fail_if_success (with_reducible show wpAny _ _ _ (CutStr _ _ _ _ _ _) _ _))
    (rename Fr _ _ _ _ => lF)
    (rename News _ _ _ _ => lN)
    (k_dflt (refine cutS lF lN (FitN 2) ?_ ?_))
    (rotate_left)
    (intro sm tsm h9 tk9 hSm F9 N9)
    (have hsml : sm.length ≤ 2 := hSm.len)
    (rotate_left))
  k_with "state" => first | exact gw_start | exact gw_turn' (by with_reducible assumption) (by with_reducible assumption)
  k_with "pyIter ref" => k_state (fun pre row => row.length ≤ pre.length ∧ ∀ c ∈ C row, c < 128) "row"
  k_steps
  all_goals first
    | exact cutStr_of (P := FitN 2) (by first | exact fitN_nil 2 | exact fitN_minus | exact fitN_plus | exact fitN_E | exact fitN_Dm | exact fitN_Ep) (by with_reducible assumption) (news_sub (by with_reducible assumption) (by intro p hp; exact .tail _ hp))
    | (refine cutRow_1 ?_ (by with_reducible assumption) (by with_reducible assumption)
       exact FitN.fit (FitN.append (FitN.append (FitN.append (FitN.append (n := 2) (by with_reducible assumption) (fitN_num (k := 1000000000000) ⟨by with_reducible assumption, by with_reducible assumption⟩ (by decide))) fitN_dot) (FitN.cut (fitN_num (k := 1000000000) ⟨by with_reducible assumption, by with_reducible assumption⟩ (by decide)) (by with_reducible assumption))) (FitN.append (n := 2) (by with_reducible assumption) (FitN.cut (fitN_num (k := 90) ⟨by with_reducible assumption, by with_reducible assumption⟩ (by decide)) (by with_reducible assumption)))) (by decide))
    | (with_reducible show CutRow _ _ _ _ _ _ _
       exact cutRow_2 (by with_reducible assumption) (by with_reducible assumption) (by omega) (by assumption) (by assumption))
    | exact cutN_of (by with_reducible assumption) (by with_reducible assumption) (by intro p hp; repeat (first | exact hp | apply List.Mem.tail))
    | exact cutT_of rfl (by with_reducible assumption) (by with_reducible assumption) (by intro p hp; repeat (first | exact hp | apply List.Mem.tail))
    | exact cutT_of (dee_in (by with_reducible assumption)) (by with_reducible assumption) (by with_reducible assumption) (by intro p hp; repeat (first | exact hp | apply List.Mem.tail))
    | exact cutT_of (dee_nn (by with_reducible assumption)) (by with_reducible assumption) (by with_reducible assumption) (by intro p hp; repeat (first | exact hp | apply List.Mem.tail))
)
end PartL8
end Mine

set_option maxRecDepth 100000 in
set_option maxHeartbeats 4000000 in
theorem PySem.Challenge.cw_no0224_01_holds : PySem.Challenge.rw_no0224_01.Holds := by
  exact Mine.law_holds
