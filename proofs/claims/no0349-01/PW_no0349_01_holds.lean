import PyProof.Rows.All
import Wide.All
import OpenK.AllK
import Wide.FinOn
import PySem.Challenge.RW_no0349_01
set_option Elab.async false
set_option linter.all false

section
open PySem PySem.W PyProof.Rows
set_option maxRecDepth 100000
set_option maxHeartbeats 8000000
namespace Mine
open_top hd for PySem.Challenge.rw_no0349_01
end Mine
end

section
open PySem PySem.W PyProof.Rows PySem.Spec PySem.Calls
set_option maxRecDepth 100000
set_option maxHeartbeats 8000000
namespace Mine
/-- a call of a pure def: it ends, and hands back a value of the form R t; nothing that stood is turned -/
def Does (w : World) (mean : ExcName → Option Value) (mg mb : Str → Option Value) (kd ku : Nat) (f : Addr) (vs : List Value) (R : Tok → Value) : Prop :=
  ∀ (dp un : Nat) (gd : Option (List Code)) (cn : Str) (cs : Scope) (a : Addr) (ccd : Value) (cl : List (Str × Addr)) (outer : List Env) (A₀ : Around) (base h₀ : Heap) (L : Addr) (m : Str → Option Value) (news : List (Addr × Obj)) (s : Shared)
    (Q E : Value → Shared → Prop),
    Below A₀ base outer h₀ → Fr h₀ L s.heap m → (hd.heap_39 w.params).In h₀ → News h₀ L s.heap news → Top hd.view_39 (looseW hd.view_39 [Str.ofString "_law_words"]) mean mg mb h₀ → cs.kind = .function →
    dp + kd < recursionLimit → un + ku < cLine →
    CbRet h₀ L m news s Q R →
    wpAny (model PySem.Challenge.rw_no0349_01.row.prog w) (ktrTop dp un gd cn cs L a ccd cl outer) (call (.ref f) vs) Q E s
end Mine
end

section
open PySem PySem.W PyProof.Rows PySem.Spec PySem.Calls
set_option maxRecDepth 100000
namespace Mine

theorem meas_lt {a c b : Int} (h : a < b) (hc : a < c) : (b - c).toNat < (b - a).toNat := by omega
theorem meas_lt2 {a b : Int} (h : a < b) : (b - 1 - a).toNat < (b - a).toNat := by omega
theorem nn_succ {k : Int} (h : 0 ≤ k) : 0 ≤ k + 1 := Int.le_trans h (Int.le_add_one (Int.le_refl k))
theorem toNat_succ {k : Int} (h : 0 ≤ k) : (k + 1).toNat = k.toNat + 1 := by omega
/-- a text's signs -/
def cl (x : Str) : List Nat := x.cps.toList
/-- the text of a list of signs -/
def mk (l : List Nat) : Str := ⟨l.toArray⟩
theorem cl_mk (l : List Nat) : cl (mk l) = l := by simp [cl, mk]
theorem mk_cl (x : Str) : mk (cl x) = x := by simp [cl, mk]
theorem cl_length (x : Str) : (cl x).length = x.length := by simp [cl, Str.length]
theorem cl_inj {x y : Str} (h : cl x = cl y) : x = y := by rw [← mk_cl x, ← mk_cl y, h]
theorem eq_mk {x : Str} {l : List Nat} (h : cl x = l) : x = mk l := by rw [← h, mk_cl]
theorem beq_cl (x y : Str) : (x == y) = (cl x == cl y) := by
  rw [Bool.eq_iff_iff, beq_iff_eq, beq_iff_eq]
  exact ⟨fun h => by rw [h], cl_inj⟩
theorem cl_append (x y : Str) : cl (x ++ y) = cl x ++ cl y := by simp [cl, Str.cps_append]
theorem mk_length (l : List Nat) : (mk l).length = l.length := by simp [mk, Str.length]

/-- where a slice's bound falls -/
def clip (n : Nat) : Option Int → Int → Int
  | none, d => d
  | some i, _ => max 0 (min (if i < 0 then i + n else i) n)

theorem range_one (a b : Int) (ha : 0 ≤ a) : sliceRange a b 1 = (List.range (b - a).toNat).map (fun k => a.toNat + k) := by
  unfold sliceRange
  have e : (if (1 : Int) > 0 then (if a < b then (b - a + 1 - 1) / 1 else 0) else (if a > b then (a - b - 1 - 1) / (-1) else 0)).toNat = (b - a).toNat := by
    rw [if_pos (by decide)]
    split
    · rw [Int.ediv_one]; congr 1; omega
    · omega
  dsimp only
  rw [e]
  apply List.map_congr_left
  intro k _
  omega

theorem slice_cl (x : Str) (lo hi : Option Int) : cl (Txt.slice x lo hi) = ((cl x).take (clip x.length hi x.length).toNat).drop (clip x.length lo 0).toNat := by
  have hx : (cl x).length = x.length := cl_length x
  have hlo : 0 ≤ clip x.length lo 0 ∧ clip x.length lo 0 ≤ x.length := by
    cases lo with
    | none => simp [clip]
    | some i => simp only [clip]; omega
  have hhi : 0 ≤ clip x.length hi x.length ∧ clip x.length hi x.length ≤ x.length := by
    cases hi with
    | none => simp [clip]
    | some i => simp only [clip]; omega
  have e : Builtin.Str.strSliceIndices lo hi 1 x.length = sliceRange (clip x.length lo 0) (clip x.length hi x.length) 1 := by
    unfold Builtin.Str.strSliceIndices
    cases lo <;> cases hi <;> simp [clip]
  rw [range_one _ _ hlo.1] at e
  generalize clip x.length lo 0 = a at *
  generalize clip x.length hi x.length = b at *
  unfold Txt.slice
  rw [e]
  split
  · rename_i h
    have h' : ((b - a).toNat) = x.length := by simpa using h
    have ha : a = 0 := by omega
    have hb : b = x.length := by omega
    subst ha; subst hb
    rw [Int.toNat_natCast, List.take_of_length_le (by omega)]
    simp
  · show cl ⟨_⟩ = _
    simp only [cl]
    have hp := StrLaws.picks x.cps.toList (b - a).toNat a.toNat
    by_cases hab : a ≤ b
    · have := hp (by have : x.cps.toList.length = x.length := cl_length x; omega)
      have e2 : (fun k : Nat => x.cps[k]?) = fun k : Nat => x.cps.toList[k]? := by funext k; simp
      rw [e2, this, List.drop_take]
      congr 1
      omega
    · have : (b - a).toNat = 0 := by omega
      rw [this]
      simp only [List.range_zero, List.map_nil, List.filterMap_nil]
      symm
      apply List.drop_eq_nil_of_le
      rw [List.length_take]
      omega

theorem clip_nn {n : Nat} {i d : Int} (h : 0 ≤ i) : (clip n (some i) d).toNat = min i.toNat n := by
  obtain ⟨j, rfl⟩ := Int.eq_ofNat_of_zero_le h
  simp only [clip]
  rw [if_neg (Int.not_lt.mpr h), Int.toNat_natCast]
  rcases Nat.le_total j n with hj | hj
  · rw [Int.min_eq_left (Int.ofNat_le.mpr hj), Int.max_eq_right h, Nat.min_eq_left hj, Int.toNat_natCast]
  · rw [Int.min_eq_right (Int.ofNat_le.mpr hj), Int.max_eq_right (Int.natCast_nonneg _), Nat.min_eq_right hj, Int.toNat_natCast]
theorem clip_neg {n k : Nat} {d : Int} (h : 0 < k) : (clip n (some (-(k : Int))) d).toNat = n - k := by
  simp only [clip]
  rw [if_pos (by omega)]
  clear d
  rw [Int.add_comm, ← Int.sub_eq_add_neg]
  rcases Nat.le_total k n with hj | hj
  · rw [← Int.ofNat_sub hj, Int.min_eq_left (Int.ofNat_le.mpr (Nat.sub_le n k)), Int.max_eq_right (Int.natCast_nonneg _), Int.toNat_natCast]
  · have h0 : (n : Int) - (k : Int) ≤ 0 := Int.sub_nonpos_of_le (Int.ofNat_le.mpr hj)
    rw [Int.min_eq_left (Int.le_trans h0 (Int.natCast_nonneg _)), Int.max_eq_left h0, Nat.sub_eq_zero_of_le hj]
    rfl
theorem drop_min {l : List Nat} {i n : Nat} (h : l.length ≤ n) : l.drop (min i n) = l.drop i := by
  rcases Nat.le_total i n with hj | hj
  · rw [Nat.min_eq_left hj]
  · rw [Nat.min_eq_right hj, List.drop_eq_nil_of_le h, List.drop_eq_nil_of_le (Nat.le_trans h hj)]
theorem take_min {l : List Nat} {j n : Nat} (h : l.length ≤ n) : l.take (min j n) = l.take j := by
  rcases Nat.le_total j n with hj | hj
  · rw [Nat.min_eq_left hj]
  · rw [Nat.min_eq_right hj, List.take_of_length_le h, List.take_of_length_le (Nat.le_trans h hj)]
theorem take_len {l : List Nat} {j n : Nat} (h : l.length ≤ n) : (l.take j).length ≤ n := Nat.le_trans (List.length_take_le' j l) h
theorem slice_nn {x : Str} {i j : Int} (hi : 0 ≤ i) (hj : 0 ≤ j) : cl (Txt.slice x (some i) (some j)) = ((cl x).take j.toNat).drop i.toNat := by
  have hx := Nat.le_of_eq (cl_length x)
  rw [slice_cl, clip_nn hi, clip_nn hj, take_min hx, drop_min (take_len hx)]
theorem slice_n_ {x : Str} {i : Int} (hi : 0 ≤ i) : cl (Txt.slice x (some i) none) = (cl x).drop i.toNat := by
  have hx := Nat.le_of_eq (cl_length x)
  rw [slice_cl, clip_nn hi]
  show ((cl x).take ((x.length : Int)).toNat).drop _ = _
  rw [Int.toNat_natCast, List.take_of_length_le hx, drop_min hx]
theorem slice_n {x : Str} {j : Int} (hj : 0 ≤ j) : cl (Txt.slice x none (some j)) = (cl x).take j.toNat := by
  have hx := Nat.le_of_eq (cl_length x)
  rw [slice_cl, clip_nn hj, take_min hx]
  rfl
/-- the last k signs -/
theorem slice_last {x : Str} {k : Nat} (hk : 0 < k) : cl (Txt.slice x (some (-(k : Int))) none) = (cl x).drop ((cl x).length - k) := by
  have hx := Nat.le_of_eq (cl_length x)
  rw [slice_cl, clip_neg hk, cl_length]
  show ((cl x).take ((x.length : Int)).toNat).drop _ = _
  rw [Int.toNat_natCast, List.take_of_length_le hx]
theorem slice_front {x : Str} {k : Nat} (hk : 0 < k) : cl (Txt.slice x none (some (-(k : Int)))) = (cl x).take ((cl x).length - k) := by
  rw [slice_cl, clip_neg hk, cl_length]
  rfl
theorem slice_mid {x : Str} {i : Int} {k : Nat} (hi : 0 ≤ i) (hk : 0 < k) : cl (Txt.slice x (some i) (some (-(k : Int)))) = ((cl x).take ((cl x).length - k)).drop i.toNat := by
  have hx := Nat.le_of_eq (cl_length x)
  rw [slice_cl, clip_neg hk, clip_nn hi, drop_min (take_len hx), cl_length]

def joinL (sep : List Nat) : List (List Nat) → List Nat
  | [] => []
  | [x] => x
  | x :: y :: r => x ++ sep ++ joinL sep (y :: r)
theorem joinL_cons (sep x : List Nat) {ys : List (List Nat)} (h : ys ≠ []) : joinL sep (x :: ys) = x ++ sep ++ joinL sep ys := by
  cases ys with
  | nil => exact absurd rfl h
  | cons y r => rfl
theorem cl_join (sep : Str) : ∀ ys : List Str, cl (Txt.join sep ys) = joinL (cl sep) (ys.map cl) := by
  have e : ∀ ys : List Str, Txt.join sep ys = Str.join sep ys := fun ys => StrLaws.glued_eq_join sep ys
  intro ys
  rw [e]
  induction ys with
  | nil => rfl
  | cons x r ih =>
    cases r with
    | nil => rfl
    | cons y r =>
      show cl (x ++ sep ++ Str.join sep (y :: r)) = _
      rw [cl_append, cl_append, ih]
      rfl
theorem joinL_nil : ∀ ys : List (List Nat), joinL [] ys = ys.flatten
  | [] => rfl
  | [x] => by simp [joinL]
  | x :: y :: r => by rw [joinL, joinL_nil (y :: r)]; simp
theorem empty_is : Str.ofString "" = mk [] := by decide +kernel
theorem sp_is : Str.ofString " " = mk [32] := by decide +kernel
/-- signs, each turned by g, glued -/
theorem join_signs (f : Nat → Nat) (l : List Nat) : Txt.join (Str.ofString "") (l.map fun c => mk [f c]) = mk (l.map f) := by
  apply cl_inj
  rw [cl_join, empty_is, cl_mk, cl_mk, joinL_nil, List.map_map]
  induction l with
  | nil => rfl
  | cons c r ih =>
    rw [List.map_cons, List.flatten_cons, ih]
    simp [cl_mk]
theorem sum_ones {α : Type} (f : α → Str) (hf : ∀ a, (f a).length = 1) : ∀ l : List α, ((l.map f).map (·.length)).sum = l.length
  | [] => rfl
  | a :: r => by rw [List.map_cons, List.map_cons, List.sum_cons, sum_ones f hf r, hf a, List.length_cons]; omega
end Mine
end

section
open PySem
namespace Mine

def lowN (c : Nat) : Nat := if 65 ≤ c ∧ c ≤ 90 then c + 32 else c
def low (l : List Nat) : List Nat := l.map lowN
theorem low_length (l : List Nat) : (low l).length = l.length := by simp [low]
theorem low_take (l : List Nat) (n : Nat) : low (l.take n) = (low l).take n := by simp [low, List.map_take]
theorem low_drop (l : List Nat) (n : Nat) : low (l.drop n) = (low l).drop n := by simp [low, List.map_drop]
theorem low_append (a b : List Nat) : low (a ++ b) = low a ++ low b := by simp [low]

def dropBl (l : List Nat) : List Nat := l.dropWhile (· == 32)
theorem dropBl_suffix (l : List Nat) : dropBl l <:+ l := List.dropWhile_suffix _
theorem dropBl_len (l : List Nat) : (dropBl l).length ≤ l.length := (dropBl_suffix l).length_le
theorem dropBl_nil : dropBl [] = [] := rfl
theorem dropBl_sp (l : List Nat) : dropBl (32 :: l) = dropBl l := by simp [dropBl]
theorem dropBl_ne {c : Nat} (l : List Nat) (h : c ≠ 32) : dropBl (c :: l) = c :: l := by simp [dropBl, h]
theorem dropBl_idem (l : List Nat) : dropBl (dropBl l) = dropBl l := by
  induction l with
  | nil => rfl
  | cons c r ih =>
    by_cases h : c = 32
    · subst h; rw [dropBl_sp, ih]
    · rw [dropBl_ne r h, dropBl_ne r h]

/-- behind a bracket that opens: what stands behind the next bracket, where that one shuts -/
def toBr : List Nat → Option (List Nat)
  | [] => none
  | c :: r => if c = 93 then some r else if c = 91 then none else toBr r
theorem toBr_len : ∀ {l r : List Nat}, toBr l = some r → r.length < l.length
  | [], r, h => by simp [toBr] at h
  | c :: l, r, h => by
    unfold toBr at h
    split at h
    · cases h; simp
    · split at h
      · cases h
      · have := toBr_len h; simp only [List.length_cons]; omega
theorem toBr_suffix : ∀ {l r : List Nat}, toBr l = some r → r <:+ l
  | [], r, h => by simp [toBr] at h
  | c :: l, r, h => by
    unfold toBr at h
    split at h
    · cases h; exact List.suffix_cons _ _
    · split at h
      · cases h
      · exact (toBr_suffix h).trans (List.suffix_cons _ _)
def blob : List Nat → Option (List Nat)
  | [] => none
  | c :: r => if c = 91 then (toBr r).map dropBl else none
theorem blob_suffix {l r : List Nat} (h : blob l = some r) : r <:+ l := by
  cases l with
  | nil => simp [blob] at h
  | cons c l =>
    have h : (if c = 91 then (toBr l).map dropBl else none) = some r := h
    split at h
    · obtain ⟨r', hr, rfl⟩ := Option.map_eq_some_iff.mp h
      exact (dropBl_suffix r').trans ((toBr_suffix hr).trans (List.suffix_cons _ _))
    · cases h
theorem blob_len {l r : List Nat} (h : blob l = some r) : r.length < l.length := by
  cases l with
  | nil => simp [blob] at h
  | cons c l =>
    have h : (if c = 91 then (toBr l).map dropBl else none) = some r := h
    split at h
    · obtain ⟨r', hr, rfl⟩ := Option.map_eq_some_iff.mp h
      have := toBr_len hr
      have := dropBl_len r'
      simp only [List.length_cons]
      omega
    · cases h
def skipBlob (l : List Nat) : List Nat := (blob l).getD l
theorem skipBlob_suffix (l : List Nat) : skipBlob l <:+ l := by
  unfold skipBlob
  cases h : blob l with
  | none => exact List.suffix_refl _
  | some r => exact blob_suffix h
theorem skipBlob_len (l : List Nat) : (skipBlob l).length ≤ l.length := (skipBlob_suffix l).length_le

def blobs (l : List Nat) : List Nat := match h : blob l with
  | some r => blobs r
  | none => l
termination_by l.length
decreasing_by exact blob_len h
theorem blobs_some {l r : List Nat} (h : blob l = some r) : blobs l = blobs r := by
  rw [blobs]
  split
  · rename_i r' h'; rw [h] at h'; cases h'; rfl
  · rename_i h'; rw [h] at h'; cases h'
theorem blobs_none {l : List Nat} (h : blob l = none) : blobs l = l := by
  rw [blobs]
  split
  · rename_i r' h'; rw [h] at h'; cases h'
  · rfl
theorem blobs_suffix (l : List Nat) : blobs l <:+ l := by
  cases h : blob l with
  | none => rw [blobs_none h]; exact List.suffix_refl _
  | some r => rw [blobs_some h]; have := blob_len h; exact (blobs_suffix r).trans (blob_suffix h)
termination_by l.length

def afterWord (r : List Nat) : Option (List Nat) := match skipBlob (dropBl r) with
  | [] => none
  | c :: q => if c = 58 then some q else none
def tryW (w m : List Nat) : Option (List Nat) := if (low m).take w.length = w then afterWord (m.drop w.length) else none
def wRe : List Nat := [114, 101]
def wFwd : List Nat := [102, 119, 100]
def wFw : List Nat := [102, 119]
def leader (l : List Nat) : Option (List Nat) := match tryW wRe (blobs l) with
  | some r => some r
  | none => match tryW wFwd (blobs l) with
    | some r => some r
    | none => tryW wFw (blobs l)
theorem afterWord_suffix {r q : List Nat} (h : afterWord r = some q) : q <:+ r ∧ q.length < r.length := by
  unfold afterWord at h
  have hs := (skipBlob_suffix (dropBl r)).trans (dropBl_suffix r)
  split at h
  · cases h
  · rename_i c q' e
    split at h
    · cases h
      rw [e] at hs
      exact ⟨(List.suffix_cons _ _).trans hs, by have := hs.length_le; simp only [List.length_cons] at this; omega⟩
    · cases h
theorem tryW_suffix {w m q : List Nat} (h : tryW w m = some q) : q <:+ m ∧ q.length < m.length := by
  unfold tryW at h
  split at h
  · have := afterWord_suffix h
    refine ⟨this.1.trans (List.drop_suffix _ _), ?_⟩
    have := this.2
    rw [List.length_drop] at this
    omega
  · cases h
theorem leader_suffix {l q : List Nat} (h : leader l = some q) : q <:+ l ∧ q.length < l.length := by
  have hb := blobs_suffix l
  have hl := hb.length_le
  have key : ∀ {w}, tryW w (blobs l) = some q → q <:+ l ∧ q.length < l.length := fun e => ⟨(tryW_suffix e).1.trans hb, by have := (tryW_suffix e).2; omega⟩
  unfold leader at h
  split at h
  · rename_i e; cases h; exact key e
  · split at h
    · rename_i e; cases h; exact key e
    · exact key h

def stripR (l : List Nat) : List Nat := (dropBl l.reverse).reverse
theorem stripR_prefix (l : List Nat) : stripR l <+: l := by
  have := dropBl_suffix l.reverse
  unfold stripR
  rw [← List.reverse_suffix]
  simpa using this
theorem stripR_len (l : List Nat) : (stripR l).length ≤ l.length := (stripR_prefix l).length_le
def wTr : List Nat := [40, 102, 119, 100, 41]
def trail (m : List Nat) : Bool := low (m.drop (m.length - 5)) == wTr
theorem trail_len {m : List Nat} (h : trail m = true) : 5 ≤ m.length := by
  unfold trail at h
  have := congrArg List.length (eq_of_beq h)
  rw [low_length, List.length_drop] at this
  simp only [wTr, List.length_cons, List.length_nil] at this
  omega
def cutT (m : List Nat) : List Nat := m.take (m.length - 5)
theorem cutT_len {m : List Nat} (h : trail m = true) : (cutT m).length < m.length := by
  have := trail_len h
  unfold cutT
  rw [List.length_take]
  omega
def TT (l : List Nat) : List Nat × Bool := if h : trail (stripR l) = true then ((TT (cutT (stripR l))).1, true) else (stripR l, false)
termination_by l.length
decreasing_by
  have := cutT_len h
  have := stripR_len l
  omega
def LL (l : List Nat) : List Nat × Bool := match h : leader (dropBl l) with
  | some r => ((LL r).1, true)
  | none => match h2 : blob (dropBl l) with
    | some r => if r = [] then (dropBl l, false) else LL r
    | none => (dropBl l, false)
termination_by l.length
decreasing_by
  · have := (leader_suffix h).2
    have := dropBl_len l
    omega
  · have := blob_len h2
    have := dropBl_len l
    omega
def wFo : List Nat := [91, 102, 119, 100, 58]
def fwdQ (m : List Nat) : Bool := low (m.take 5) == wFo && m.drop (m.length - 1) == [93]
def unfwd (m : List Nat) : List Nat := (m.take (m.length - 1)).drop 5
theorem fwdQ_len {m : List Nat} (h : fwdQ m = true) : 6 ≤ m.length := by
  unfold fwdQ at h
  obtain ⟨h1, h2⟩ := Bool.and_eq_true_iff.mp h
  have e1 := eq_of_beq h1
  have e2 := eq_of_beq h2
  have l1 := congrArg List.length e1
  rw [low_length, List.length_take] at l1
  simp only [wFo, List.length_cons, List.length_nil] at l1
  by_cases h6 : 6 ≤ m.length
  · exact h6
  · exfalso
    have h5 : m.length = 5 := by omega
    match m, h5 with
    | [a, b, c, d, e], _ =>
      simp [low, wFo] at e1 e2
      rw [e2] at e1
      simp [lowN] at e1
theorem unfwd_len {m : List Nat} (h : fwdQ m = true) : (unfwd m).length < m.length := by
  have := fwdQ_len h
  unfold unfwd
  rw [List.length_drop, List.length_take]
  omega
theorem TT_len (l : List Nat) : (TT l).1.length ≤ l.length := by
  rw [TT]
  split
  · rename_i h
    have := cutT_len h
    have := stripR_len l
    have := TT_len (cutT (stripR l))
    show (TT (cutT (stripR l))).1.length ≤ l.length
    omega
  · exact stripR_len l
termination_by l.length
theorem LL_len (l : List Nat) : (LL l).1.length ≤ l.length := by
  rw [LL]
  have := dropBl_len l
  split
  · rename_i r h
    have := (leader_suffix h).2
    have := LL_len r
    show (LL r).1.length ≤ l.length
    omega
  · split
    · rename_i r h2
      have := blob_len h2
      split
      · exact dropBl_len l
      · have := LL_len r
        omega
    · exact dropBl_len l
termination_by l.length
def SS (l : List Nat) : List Nat × Bool := if h : fwdQ (LL (TT l).1).1 = true then ((SS (unfwd (LL (TT l).1).1)).1, true) else ((LL (TT l).1).1, (TT l).2 || (LL (TT l).1).2)
termination_by l.length
decreasing_by
  have := unfwd_len h
  have := LL_len (TT l).1
  have := TT_len l
  omega
def strip (l : List Nat) : List Nat := dropBl (stripR l)
theorem strip_len (l : List Nat) : (strip l).length ≤ l.length := Nat.le_trans (dropBl_len _) (stripR_len l)
def DD (l : List Nat) : List Nat × Bool :=
  if h : trail (strip l) = true then ((DD (cutT (strip l))).1, true)
  else match h1 : leader (strip l) with
    | some r => ((DD r).1, true)
    | none => match h2 : (blob (strip l)).filter (· ≠ []) with
      | some r => DD r
      | none => if h3 : fwdQ (strip l) = true then ((DD (unfwd (strip l))).1, true) else (strip l, false)
termination_by l.length
decreasing_by
  all_goals have := strip_len l
  · have := cutT_len h
    omega
  · have := (leader_suffix h1).2
    omega
  · have := blob_len (Option.filter_eq_some_iff.mp h2).1
    omega
  · have := unfwd_len h3
    omega
end Mine
end

section
open PySem PySem.W PyProof.Rows PySem.Spec PySem.Calls
set_option maxRecDepth 100000
set_option maxHeartbeats 8000000
namespace Mine
/-- the end of a while's turn, under a name that no line takes -/
def WEnd {σ : Type} (h₀ : Heap) (L : Addr) (s : Shared) (Led : σ → List (Addr × Obj)) (ps : σ → List (Str × Value)) (stored : List Str) (m₀ : Str → Option Value) (P : σ → Prop) (μ : σ → Nat) (c : σ) (s₂ : Shared) : Prop :=
  KswEnd h₀ L s Led ps (fun _ => True) stored m₀ P μ c s₂
def WPost {σ : Type} (h₀ : Heap) (L : Addr) (s : Shared) (Led : σ → List (Addr × Obj)) (ps : σ → List (Str × Value)) (stored : List Str) (m₀ : Str → Option Value) (P : σ → Prop) (μ : σ → Nat) (Q : Flow → Shared → Prop) (c : σ) (f : Flow) (s₂ : Shared) : Prop :=
  match f with
  | .ret v => Q (.ret v) s₂
  | .brk => Q .next s₂
  | _ => WEnd h₀ L s Led ps stored m₀ P μ c s₂
theorem w_end {σ : Type} {h₀ : Heap} {L : Addr} {s : Shared} {Led : σ → List (Addr × Obj)} {ps : σ → List (Str × Value)} {stored : List Str} {m₀ m' : Str → Option Value} {P : σ → Prop} {μ : σ → Nat} {c : σ} {h' : Heap} {tk : Nat} {news' : List (Addr × Obj)} (c' : σ)
    (F : Fr h₀ L h' m') (N : News h₀ L h' news') (hn : ∀ p ∈ Led c', p ∈ news') (hk : ∀ p ∈ ps c', m' p.1 = some p.2) (hr : ∀ z, (∀ p ∈ ps c', z ≠ p.1) → stored.contains z = false → m' z = m₀ z) (hp : P c') (hm : μ c' < μ c) :
    WEnd h₀ L s Led ps stored m₀ P μ c { s with heap := h', toks := tk } := ksw_end c' F N hn True.intro hk hr hp hm
theorem w_while {prog : Program} {w : World} {A : Around} {E : Value → Shared → Prop} {Q : Flow → Shared → Prop} {s : Shared} {env : Env} {h₀ : Heap} {L : Addr} {σ : Type} {test : PySem.Expr} {body : List Stmt} {pos : Pos} {m₀ : Str → Option Value}
    (Led : σ → List (Addr × Obj)) (ps : σ → List (Str × Value)) (stored : List Str) (P : σ → Prop) (μ : σ → Nat) (c₀ : σ)
    (F : Fr h₀ L s.heap m₀) (N : News h₀ L s.heap (Led c₀)) (hk : ∀ p ∈ ps c₀, m₀ p.1 = some p.2) (hp : P c₀)
    (turn : ∀ (c : σ) (u : Str → Option Value) h tk, P c → Fr h₀ L h (kstB (fun z => if stored.contains z then u z else m₀ z) (ps c)) → News h₀ L h (Led c) →
      wpAny (model prog w) A (isTrue test env (eval test env)) (fun b s₂ =>
        if b = true then wpAny (model prog w) A (execs body env) (WPost h₀ L s Led ps stored m₀ P μ Q c) E s₂ else Q .next s₂) E { s with heap := h, toks := tk })
    (hE : PassesOwn (model prog w) A env E) :
    wpAny (model prog w) A (exec (.While test body [] pos) env) Q E s := by
  refine ksw_while Led ps (fun _ => True) stored P μ c₀ F N True.intro hk hp (fun c u h tk _ hp' F' N' => ?_) hE
  refine wpAny_mono (turn c u h tk hp' F' N') (fun b s₂ p => ?_) fun _ _ x => x
  cases b with
  | false => simpa using p
  | true =>
    simp only [if_true] at p ⊢
    refine wpAny_mono p (fun f s₃ q => ?_) fun _ _ x => x
    cases f with
    | ret v => exact q
    | brk => exact q
    | next => exact q
    | cont => exact q
/-- a while's way out -/
def WOut {σ : Type} (h₀ : Heap) (L : Addr) (s : Shared) (Led : σ → List (Addr × Obj)) (ps : σ → List (Str × Value)) (stored : List Str) (m₀ : Str → Option Value) (R : σ → Prop) (c : σ) (u : Str → Option Value) (s₂ : Shared) : Prop :=
  ∃ (h' : Heap) (tk : Nat), s₂ = { s with heap := h', toks := tk } ∧ Fr h₀ L h' (kstB (fun z => if stored.contains z then u z else m₀ z) (ps c)) ∧ News h₀ L h' (Led c) ∧ R c
theorem w_out {σ : Type} {h₀ : Heap} {L : Addr} {s : Shared} {Led : σ → List (Addr × Obj)} {ps : σ → List (Str × Value)} {stored : List Str} {m₀ : Str → Option Value} {R : σ → Prop} {c : σ} {u : Str → Option Value} {h' : Heap} {tk : Nat}
    (F : Fr h₀ L h' (kstB (fun z => if stored.contains z then u z else m₀ z) (ps c))) (N : News h₀ L h' (Led c)) (hR : R c) : WOut h₀ L s Led ps stored m₀ R c u { s with heap := h', toks := tk } := ⟨h', tk, rfl, F, N, hR⟩
theorem w_whileJ {prog : Program} {w : World} {A : Around} {E : Value → Shared → Prop} {Q : Flow → Shared → Prop} {s : Shared} {env : Env} {h₀ : Heap} {L : Addr} {σ : Type} {test : PySem.Expr} {body : List Stmt} {pos : Pos} {m₀ : Str → Option Value}
    (Led : σ → List (Addr × Obj)) (ps : σ → List (Str × Value)) (stored : List Str) (P R : σ → Prop) (μ : σ → Nat) (c₀ : σ)
    (F : Fr h₀ L s.heap m₀) (N : News h₀ L s.heap (Led c₀)) (hk : ∀ p ∈ ps c₀, m₀ p.1 = some p.2) (hp : P c₀)
    (turn : ∀ (c : σ) (u : Str → Option Value) h tk, P c → Fr h₀ L h (kstB (fun z => if stored.contains z then u z else m₀ z) (ps c)) → News h₀ L h (Led c) →
      wpAny (model prog w) A (isTrue test env (eval test env)) (fun b s₂ =>
        if b = true then wpAny (model prog w) A (execs body env) (WPost h₀ L s Led ps stored m₀ P μ Q c) E s₂ else WOut h₀ L s Led ps stored m₀ R c u s₂) E { s with heap := h, toks := tk })
    (rest : ∀ (c : σ) (u : Str → Option Value) h tk, R c → Fr h₀ L h (kstB (fun z => if stored.contains z then u z else m₀ z) (ps c)) → News h₀ L h (Led c) → Q .next { s with heap := h, toks := tk })
    (hE : PassesOwn (model prog w) A env E) :
    wpAny (model prog w) A (exec (.While test body [] pos) env) Q E s := by
  refine w_while Led ps stored P μ c₀ F N hk hp (fun c u h tk hp' F' N' => ?_) hE
  refine wpAny_mono (turn c u h tk hp' F' N') (fun b s₂ p => ?_) fun _ _ x => x
  cases b with
  | true => simpa using p
  | false =>
    simp only [Bool.false_eq_true, if_false] at p ⊢
    obtain ⟨h', tk', rfl, F3, N3, hR⟩ := p
    exact rest c u h' tk' hR F3 N3
end Mine
end

section
open PySem PySem.W PyProof.Rows PySem.Spec PySem.Calls
set_option maxRecDepth 100000
set_option maxHeartbeats 8000000
namespace Mine
section
variable {prog : Program} {w : World} {A : Around} {E : Value → Shared → Prop} {s : Shared} {h₀ : Heap} {L : Addr} {m : Str → Option Value} {env : Env}

/-- a comprehension over a text's signs, its element a tree that may call: the block -/
theorem block_S {elt iter : PySem.Expr} {x : Str} {px : Pos} {scope : Scope} {cl : List (Str × Addr)} {pos : Pos} {s₂ : Shared} {I : Addr} {tx : Str} {t : Tok} {ty : String} {news : List (Addr × Obj)}
    {g : Nat → Str} {RR : Value → Addr → Result → Shared → Prop}
    (W : Walks prog w A I [I] [I] tx.cps.size (SignAt tx) (fun i h => h.IsStrIter I ty tx t i)) (hsz : tx.cps.size ≤ sizeLine)
    (hcell : ∀ y ∈ scope.names, y.2 ≠ .cell) (hkind : scope.kind = .function) (hx : scope.names.lookup x = some .local) (hst : s₂.heap.IsStrIter I ty tx t 0) (hI : I < s₂.heap.objs.size)
    (F : Fr h₀ L s₂.heap m) (N : News h₀ L s₂.heap news) (hIL : L ≠ I) (hI₀ : h₀.get? I = none) (off : ∀ p ∈ news, p.1 ≠ I)
    (turn : ∀ c u I oI C oC D ys m₂ hp tk (E' : Value → Shared → Prop), c ∈ tx.cps.toList → LCg.NsObj oC m₂ → m₂ x = some (.str ⟨#[c]⟩ u) → Fr h₀ L hp m → News h₀ L hp ((I, oI) :: (C, oC) :: (D, LCg.lst ys) :: news) → LCg.Off3 I C D news → ((@Ne Nat I C) ∧ (@Ne Nat I D) ∧ (@Ne Nat C D)) →
      wpAny (model prog w) A (eval elt (compEnvC scope cl C env)) (LCg.CompEnd h₀ L m { s₂ with heap := hp, toks := tk } I oI C oC D (LCg.lst ys) (fun _ => True) (fun y news' => (∃ u', y = .str (g c) u') ∧ news' = news)) E' { s₂ with heap := hp, toks := tk })
    (hRR : ∀ D C h tk m' ys, Fr h₀ L h m → News h₀ L h ((D, LCg.lst ys) :: news) → LCg.Off1 D news → h.Ns C m' → h₀.get? C = none → h₀.get? D = none → C ≠ L → D ≠ L → C ≠ D → (∀ p ∈ news, p.1 ≠ C) → StrsAre ys (tx.cps.toList.map g) → RR (.ref D) C (.ok .next) { s₂ with heap := h, toks := tk }) :
    wpAny (model prog w) A (newList []) (fun acc s₃ => wpAny (model prog w) A (newFunctionEnv scope env.globals cl [] env.qual none .none (some env)) (fun cenv s₄ =>
      codeAny (model prog w) A (.compStart (.ListComp elt [⟨.Name x px, iter, [], 0⟩] scope pos) 0 (.ref I) acc { cenv with scope := relabel scope env }) (RR acc cenv.locals) s₄) E s₃) E s₂ := by
  have key : ∀ k i ys, i + k = tx.cps.size → StrsAre ys ((tx.cps.toList.take i).map g) →
      LCg.CompRest prog w A h₀ L m env elt x scope cl s₂ (fun _ => True) (SignAt tx) (fun ys news' => StrsAre ys (tx.cps.toList.map g) ∧ news' = news) k i ys news := by
    intro k
    induction k with
    | zero =>
      intro i ys hi hys
      refine LCg.CompRest.zero ⟨?_, rfl⟩
      have : i = tx.cps.toList.length := by simp at hi ⊢; omega
      rw [this, List.take_length] at hys
      exact hys
    | succ k ih =>
      intro i ys hi hys
      refine LCg.CompRest.succ ?_
      intro v I' oI' C' oC' D' m' h' tk' E' hv' hC' hx' F' N' off' ne'
      obtain ⟨c, u, hc, rfl⟩ := hv'
      have hcl : tx.cps.toList[i]? = some c := by simpa using hc
      refine wpAny_mono (turn c u I' oI' C' oC' D' ys m' h' tk' E' (List.mem_of_getElem? hcl) hC' hx' F' N' off' ne') (fun y s₃ h₃ => ?_) fun _ _ e => e
      obtain ⟨h4, tk4, news4, rfl, F4, N4, off4, _, ⟨u', rfl⟩, rfl⟩ := h₃
      refine ⟨h4, tk4, _, rfl, F4, N4, off4, True.intro, ih (i + 1) _ (by omega) ?_⟩
      have e : tx.cps.toList.take (i + 1) = tx.cps.toList.take i ++ [c] := by
        rw [List.take_add_one, hcl]; rfl
      rw [e, List.map_append]
      have app : ∀ {a b : List Value} {p q : List Str}, StrsAre a p → StrsAre b q → StrsAre (a ++ b) (p ++ q) := by
        intro a b p q h1 h2
        induction h1 with
        | nil => exact h2
        | cons y t _ ih => exact .cons y t ih
      exact app hys (.cons _ _ .nil)
  refine LCg.block_U (S := fun _ => True) (Fin := fun ys news' => StrsAre ys (tx.cps.toList.map g) ∧ news' = news) W hsz (fun i h st => by obtain ⟨o, e, _⟩ := st; exact ⟨o, e⟩) ?_ hcell hkind hx hst (fun b hb => by rw [List.mem_singleton.mp hb]; exact hI) F N hIL hI₀ off True.intro (key _ 0 [] (by omega) .nil) ?_
  · intro i h h' o nw st e e' _ _ _
    obtain ⟨o', q, r⟩ := st
    rw [e] at q; cases q
    exact ⟨o, e', r⟩
  · intro D C h tk m' ys news' F' N' o1 hn hC₀ hD₀ hCL hDL hCD offC fin
    obtain ⟨hy, rfl⟩ := fin
    exact hRR D C h tk m' ys F' N' o1 hn hC₀ hD₀ hCL hDL hCD offC hy

theorem ListComp_S {elt iter : PySem.Expr} {x : Str} {px : Pos} {scope : Scope} {cl : List (Str × Addr)} {pos : Pos} {Q : Value → Shared → Prop} {news : List (Addr × Obj)} (tx : Str) (t : Tok) (g : Nat → Str)
    (hh : A.handled = none) (F : Fr h₀ L s.heap m) (N : News h₀ L s.heap news)
    (hclos : closureFor scope env = pure cl) (hcell : ∀ y ∈ scope.names, y.2 ≠ .cell) (hkind : scope.kind = .function)
    (hnames : ∀ y ∈ scope.names, y.2 = .local → scope.names.lookup y.1 = some .local) (hx : scope.names.lookup x = some .local)
    (hit : wpAny (model prog w) A (eval iter env) (fun xv s₁ => xv = .str tx t ∧ s₁ = s) E s) (hsz : tx.cps.size ≤ sizeLine)
    (turn : ∀ c u I oI C oC D ys m₂ hp tk (E' : Value → Shared → Prop), c ∈ tx.cps.toList → LCg.NsObj oC m₂ → m₂ x = some (.str ⟨#[c]⟩ u) → Fr h₀ L hp m → News h₀ L hp ((I, oI) :: (C, oC) :: (D, LCg.lst ys) :: news) → LCg.Off3 I C D news → ((@Ne Nat I C) ∧ (@Ne Nat I D) ∧ (@Ne Nat C D)) →
      wpAny (model prog w) A (eval elt (compEnvC scope cl C env)) (LCg.CompEnd h₀ L m { s with heap := hp, toks := tk } I oI C oC D (LCg.lst ys) (fun _ => True) (fun y news' => (∃ u', y = .str (g c) u') ∧ news' = news)) E' { s with heap := hp, toks := tk })
    (fin : ∀ D ys h tk, Fr h₀ L h m → News h₀ L h ((D, LCg.lst ys) :: news) → LCg.Off1 D news → StrsAre ys (tx.cps.toList.map g) → Q (.ref D) { s with heap := h, toks := tk })
    (hs : ∀ x, foldedSetIterable iter env x = pure x := by intro _; rfl) :
    wpAny (model prog w) A (eval (.ListComp elt [⟨.Name x px, iter, [], 0⟩] scope pos) env) Q E s := by
  rw [eval_ListComp]
  refine wpAny_comprehension_free (use := none) rfl hs hclos hkind hnames (wpAny_mono hit (fun xv s₁ h₁ => ?_) fun _ _ e => e)
  obtain ⟨rfl, rfl⟩ := h₁
  have leave : ∀ (o : Obj) D C h tk m' ys, Fr h₀ L h m → News h₀ L h ((D, LCg.lst ys) :: news) → LCg.Off1 D news → h.Ns C m' → h₀.get? C = none → h₀.get? D = none → C ≠ L → D ≠ L → C ≠ D → (∀ p ∈ news, p.1 ≠ C) → StrsAre ys (tx.cps.toList.map g) →
      ∃ m', h.Ns C m' ∧ ∀ h'', Heap.SameBut C h h'' → Q (.ref D) { s₁ with heap := h'', toks := tk } := by
    intro o D C h tk m' ys F' N' o1 hn hC₀ hD₀ hCL hDL hCD offC hy
    refine ⟨m', hn, fun h'' hs'' => fin D ys h'' tk (F'.change hs'' hCL hC₀) (fun p hp => ?_) o1 hy⟩
    refine ⟨hs''.extBut _ _ ?_ (N' p hp).1, (N' p hp).2⟩
    rcases List.mem_cons.mp hp with rfl | hp
    · exact Ne.symm hCD
    · exact offC p hp
  have lt : ∀ (o : Obj), s₁.heap.objs.size < (s₁.heap.push o).objs.size := fun o => by rw [Heap.size_push]; exact Nat.lt_succ_self _
  cases ha : tx.cps.all (· < 128)
  · refine wpAny_pyIter_wide ha ?_
    refine block_S (Walks.strWide hh _ tx t) hsz hcell hkind hx ⟨_, Heap.get?_push_size _ rfl, rfl, rfl⟩ (lt _) (F.keeps fun _ _ e => Heap.get?_push_of_some _ e) (N.grown fun _ _ e => Heap.get?_push_of_some _ e) (Nat.ne_of_lt F.ns.lt) (next_is_new F) (fun p hp => Nat.ne_of_lt (Heap.lt_size (N p hp).1)) turn ?_
    intro D C h tk m' ys F' N' o1 hn hC₀ hD₀ hCL hDL hCD offC hy
    exact leave (instObj 0 0) D C h tk m' ys F' N' o1 hn hC₀ hD₀ hCL hDL hCD offC hy
  · refine wpAny_pyIter_ascii ha ?_
    refine block_S (Walks.strAscii hh _ tx t) hsz hcell hkind hx ⟨_, Heap.get?_push_size _ rfl, rfl, rfl⟩ (lt _) (F.keeps fun _ _ e => Heap.get?_push_of_some _ e) (N.grown fun _ _ e => Heap.get?_push_of_some _ e) (Nat.ne_of_lt F.ns.lt) (next_is_new F) (fun p hp => Nat.ne_of_lt (Heap.lt_size (N p hp).1)) turn ?_
    intro D C h tk m' ys F' N' o1 hn hC₀ hD₀ hCL hDL hCD offC hy
    exact leave (instObj 0 0) D C h tk m' ys F' N' o1 hn hC₀ hD₀ hCL hDL hCD offC hy
end
end Mine
end

section
open PySem PySem.W PyProof.Rows PySem.Spec PySem.Calls
set_option maxRecDepth 100000
set_option maxHeartbeats 8000000
namespace Mine
/-- the pot's two lists, as the ledger writes them: k is the most that was drawn -/
def PotIs (C : Addr) (k : Nat) (po co : Obj) : Prop := ∃ (vs : List Value) (ns : List Int) (st pl : Int) (t1 t2 : Tok) (n1 n2 : Nat),
  po = listOf #[.ref C, .int st t1, .int pl t2] n1 ∧ co = listOf vs.toArray n2 ∧ IntsAre vs ns ∧ (∀ v ∈ ns, 0 ≤ v) ∧ ns.length ≤ 40 ∧ 0 ≤ st ∧ st < 2147483647 ∧ 0 ≤ pl ∧ pl ≤ k
def DoesD (w : World) (mean : ExcName → Option Value) (mg mb : Str → Option Value) (kd ku : Nat) (P C : Addr) (limit : Int) (tl : Tok) : Prop :=
  ∀ (dp un : Nat) (gd : Option (List Code)) (cn : Str) (cs : Scope) (a : Addr) (ccd : Value) (cl : List (Str × Addr)) (outer : List Env) (A₀ : Around) (base h₀ : Heap) (L : Addr) (m : Str → Option Value) (rest : List (Addr × Obj)) (s : Shared)
    (Q E : Value → Shared → Prop) (k : Nat) (po co : Obj),
    Below A₀ base outer h₀ → Fr h₀ L s.heap m → (hd.heap_39 w.params).In h₀ → News h₀ L s.heap ((P, po) :: (C, co) :: rest) → Top hd.view_39 (looseW hd.view_39 [Str.ofString "_law_words"]) mean mg mb h₀ → cs.kind = .function →
    dp + kd < recursionLimit → un + ku < cLine → PotIs C k po co → k ≤ 1000 → C ≠ P → (∀ p ∈ rest, p.1 ≠ P) → (∀ p ∈ rest, p.1 ≠ C) →
    (∀ v t h' tk' po' co', 0 ≤ v → v < limit → Fr h₀ L h' m → PotIs C (k + 1) po' co' → News h₀ L h' ((P, po') :: (C, co') :: rest) → Q (.int v t) { s with heap := h', toks := tk' }) →
    wpAny (model PySem.Challenge.rw_no0349_01.row.prog w) (ktrTop dp un gd cn cs L a ccd cl outer) (call (.ref 86) [.ref P, .int limit tl]) Q E s
theorem upd_pot {P C : Addr} {po po' co : Obj} {rest : List (Addr × Obj)} (h : C ≠ P) (o : ∀ p ∈ rest, p.1 ≠ P) : Upd P po po' ((P, po) :: (C, co) :: rest) ((P, po') :: (C, co) :: rest) :=
  Upd.head (fun p hp => by
    rcases List.mem_cons.mp hp with rfl | hp
    · exact h
    · exact o p hp)
theorem upd_cell {P C : Addr} {po co co' : Obj} {rest : List (Addr × Obj)} (h : C ≠ P) (o : ∀ p ∈ rest, p.1 ≠ C) : Upd C co co' ((P, po) :: (C, co) :: rest) ((P, po) :: (C, co') :: rest) :=
  Upd.tail (Ne.symm h) (Upd.head o)
theorem law_draw_does (w : World) (mean : ExcName → Option Value) (mg mb : Str → Option Value) (P C : Addr) (limit : Int) (tl : Tok) (h0 : 0 < limit) (h1 : limit ≤ 100) :
   DoesD w mean mg mb 2 32 P C limit tl := by
  unfold DoesD
  k_fill
  intro dp un gd cn cs a ccd clo outer A₀ base h₀ L m rest s Q E k po co B F X N T hk hd hu hp hk1 hCP oP oC ret
  obtain ⟨vs, ns, st, pl, t1, t2, n1, n2, rfl, rfl, hi, hv, hlen, hs0, hs1, hp0, hp1⟩ := hp
  refine wpAny_call ?_
  k_dflt cell_enter
  (repeat' (first | ((((with_reducible show wpAny _ _ (truthy (Value.ref _)) _ _ _); k_dflt ((refine truthy_ints_fit (by is_list) (by with_reducible assumption) (by omega) ?_); k_whole)))) | ((((with_reducible show wpAny _ _ (setItem (Value.ref _) (Value.int _ _) (Value.int _ _)) _ _ _); k_dflt ((refine ksa_set (by k_asm) (by k_asm) (upd_cell (by assumption) (by assumption)) (by with_reducible assumption) (by first | omega | ksa_idx) (by first | omega | ksa_idx) (by first | omega | ksa_idx) ?_); k_whole); intro h' F' N' hi' hl' hs'))) | ((((with_reducible show wpAny _ _ (setItem (Value.ref _) (Value.int _ _) (Value.int _ _)) _ _ _); k_dflt ((refine ki_set (by k_asm) (by k_asm) (by decide) (by decide) (by exact rfl) (upd_pot (by assumption) (by assumption)) ?_); k_whole); intro h' F' N'))) | (k_unfold; (try dsimp only)) | walk1 | (dsimp only; walk1)))
  · (rename Fr h₀ L _ _ => F9)
    (rename News h₀ L _ _ => N9)
    (rename IntsAre (List.set _ _ _) _ => hI9)
    refine ret _ _ _ _ _ _ (Int.fmod_nonneg_of_pos _ h0) (Int.fmod_lt_of_pos _ h0) F9 ⟨_, _, _, _, _, _, _, _, rfl, rfl, hI9, ?_, ?_, hs0, hs1, by omega, by omega⟩ N9
    · intro v h
      rcases List.mem_or_eq_of_mem_set h with h | rfl
      · exact hv v h
      · exact Int.fdiv_nonneg (by omega) (by omega)
    · rw [List.length_set]; exact hlen
  all_goals
    (rename Fr h₀ L _ _ => F9)
    (rename News h₀ L _ _ => N9)
    exact ret _ _ _ _ _ _ (Int.fmod_nonneg_of_pos _ h0) (Int.fmod_lt_of_pos _ h0) F9 ⟨_, _, _, _, _, _, _, _, rfl, rfl, hi, hv, hlen, Int.fmod_nonneg_of_pos _ (by decide), Int.fmod_lt_of_pos _ (by decide), by omega, by omega⟩ N9
end Mine
end

section
open PySem PySem.W PyProof.Rows PySem.Spec PySem.Calls PySem.Builtin PySem.Builtin.Str
set_option maxRecDepth 100000
namespace Mine
def wsN (c : Nat) : Nat := if c = 9 ∨ c = 13 ∨ c = 10 then 32 else c
def NN (text : Str) : Str := Txt.join (Str.ofString " ") (List.filter (fun a => a != Str.ofString "") (Txt.split (mk (List.map wsN text.cps.toList)) (Str.ofString " ")))

/-- the pieces between blanks -/
def splitSp : List Nat → List (List Nat)
  | [] => [[]]
  | c :: r => if c = 32 then [] :: splitSp r else match splitSp r with
    | [] => [[c]]
    | h :: t => (c :: h) :: t
theorem splitSp_ne : ∀ l, splitSp l ≠ []
  | [] => by simp [splitSp]
  | c :: r => by
    unfold splitSp
    split
    · simp
    · split <;> simp
theorem splitSp_free : ∀ {p : List Nat}, 32 ∉ p → splitSp p = [p]
  | [], _ => rfl
  | c :: r, h => by
    have hc : c ≠ 32 := fun e => h (by rw [e]; exact List.mem_cons_self)
    unfold splitSp
    rw [if_neg hc, splitSp_free (fun e => h (List.mem_cons_of_mem _ e))]
theorem splitSp_at : ∀ {p : List Nat} (q : List Nat), 32 ∉ p → splitSp (p ++ 32 :: q) = p :: splitSp q
  | [], q, _ => by rw [List.nil_append, splitSp, if_pos rfl]
  | c :: r, q, h => by
    have hc : c ≠ 32 := fun e => h (by rw [e]; exact List.mem_cons_self)
    rw [List.cons_append, splitSp, if_neg hc, splitSp_at q (fun e => h (List.mem_cons_of_mem _ e))]
theorem splitSp_join : ∀ {ps : List (List Nat)}, ps ≠ [] → (∀ p ∈ ps, 32 ∉ p) → splitSp (joinL [32] ps) = ps
  | [], h, _ => absurd rfl h
  | [x], _, hf => splitSp_free (hf x List.mem_cons_self)
  | x :: y :: r, _, hf => by
    rw [joinL, List.append_assoc, List.singleton_append, splitSp_at _ (hf x List.mem_cons_self), splitSp_join (by simp) (fun p hp => hf p (List.mem_cons_of_mem _ hp))]
theorem split_ne (x y : Str) : Txt.split x y ≠ [] := by
  unfold Txt.split
  split
  · simp
  · split
    · simp
    · rw [StrLaws.partsBetween_eq]
      obtain ⟨p, r, h⟩ := StrLaws.partsFrom_ne x y.length 0 (occurrences x y 0 x.length (x.length + 1))
      rw [h]; simp
theorem split_is (l : List Nat) : (Txt.split (mk l) (Str.ofString " ")).map cl = splitSp l := by
  have hj := StrLaws.join_split (mk l) (Str.ofString " ")
  have hc := congrArg cl hj
  have e : Str.join (Str.ofString " ") (Txt.split (mk l) (Str.ofString " ")) = Txt.join (Str.ofString " ") (Txt.split (mk l) (Str.ofString " ")) := (StrLaws.glued_eq_join _ _).symm
  rw [e, cl_join, cl_mk, sp_is, cl_mk, ← sp_is] at hc
  have hs := splitSp_join (ps := (Txt.split (mk l) (Str.ofString " ")).map cl) (by simpa using split_ne _ _) (fun p hp => by
    obtain ⟨q, hq, rfl⟩ := List.mem_map.mp hp
    rw [sp_is] at hq
    exact StrLaws.split_free (mk l) 32 q hq)
  rw [hc] at hs
  exact hs.symm
def headBl : List Nat → Bool
  | [] => true
  | c :: _ => c == 32
/-- a blank in front of a blank, or of the end, goes -/
def sqC (c : Nat) (s : List Nat) : List Nat := if c = 32 ∧ headBl s = true then s else c :: s
def sq (l : List Nat) : List Nat := l.foldr sqC []
theorem sq_cons (c : Nat) (l : List Nat) : sq (c :: l) = sqC c (sq l) := rfl
def nonE (ws : List (List Nat)) : List (List Nat) := ws.filter (· ≠ [])
theorem nonE_nil {t : List (List Nat)} : nonE ([] :: t) = nonE t := rfl
theorem nonE_cons {c : Nat} {h : List Nat} {t : List (List Nat)} : nonE ((c :: h) :: t) = (c :: h) :: nonE t := by
  unfold nonE
  rw [List.filter_cons_of_pos (by simp)]
def tailJ (ws : List (List Nat)) : List Nat := if ws = [] then [] else 32 :: joinL [32] ws
theorem joinL_tail (x : List Nat) (ws : List (List Nat)) : joinL [32] (x :: ws) = x ++ tailJ ws := by
  unfold tailJ
  cases ws with
  | nil => simp [joinL]
  | cons y r => simp [joinL]
theorem splitSp_nosp : ∀ {l : List Nat} {h : List Nat} {t : List (List Nat)}, splitSp l = h :: t → 32 ∉ h
  | [], h, t, e => by simp [splitSp] at e; obtain ⟨rfl, _⟩ := e; simp
  | c :: r, h, t, e => by
    unfold splitSp at e
    split at e
    · cases e; simp
    · rename_i hc
      split at e
      · cases e; intro hm; exact hc (List.mem_singleton.mp hm).symm
      · rename_i h' t' e'
        cases e
        intro hm
        rcases List.mem_cons.mp hm with rfl | hm
        · exact hc rfl
        · exact splitSp_nosp e' hm
theorem sq_split : ∀ {l : List Nat} {h : List Nat} {t : List (List Nat)}, splitSp l = h :: t → sq l = h ++ tailJ (nonE t)
  | [], h, t, e => by simp [splitSp] at e; obtain ⟨rfl, rfl⟩ := e; rfl
  | c :: r, h, t, e => by
    rw [sq_cons]
    unfold splitSp at e
    split at e
    · rename_i hc
      subst hc
      cases e
      cases hs : splitSp r with
      | nil => exact absurd hs (splitSp_ne r)
      | cons h' t' =>
        have ih := sq_split hs
        rw [ih]
        cases h' with
        | nil =>
          rw [nonE_nil]
          unfold sqC
          have : headBl ([] ++ tailJ (nonE t')) = true := by
            unfold tailJ
            split <;> rfl
          rw [if_pos ⟨rfl, this⟩]
        | cons a b =>
          have ha : a ≠ 32 := fun q => splitSp_nosp hs (by rw [q]; exact List.mem_cons_self)
          rw [nonE_cons]
          unfold sqC
          rw [if_neg (by simp [headBl, ha])]
          rw [show tailJ ((a :: b) :: nonE t') = 32 :: joinL [32] ((a :: b) :: nonE t') from by unfold tailJ; rw [if_neg (by simp)], joinL_tail]
          rfl
    · rename_i hc
      have key : ∀ s, sqC c s = c :: s := fun s => by unfold sqC; rw [if_neg (fun q => hc q.1)]
      rw [key]
      split at e
      · rename_i e'
        exact absurd e' (splitSp_ne r)
      · rename_i h' t' e'
        cases e
        rw [sq_split e']
        rfl
theorem dropBl_head {c : Nat} {s : List Nat} (h : c ≠ 32) : dropBl (c :: s) = c :: s := dropBl_ne s h
theorem join_sq (l : List Nat) : joinL [32] (nonE (splitSp l)) = dropBl (sq l) := by
  cases hs : splitSp l with
  | nil => exact absurd hs (splitSp_ne l)
  | cons h t =>
    rw [sq_split hs]
    cases h with
    | cons a b =>
      have ha : a ≠ 32 := fun q => splitSp_nosp hs (by rw [q]; exact List.mem_cons_self)
      rw [nonE_cons, joinL_tail, List.cons_append, dropBl_head ha]
    | nil =>
      rw [nonE_nil, List.nil_append]
      cases ht : nonE t with
      | nil => rfl
      | cons w ws =>
        have hw : w ∈ nonE t := by rw [ht]; exact List.mem_cons_self
        have hwne : w ≠ [] := by simpa using (List.mem_filter.mp hw).2
        have hfree : ∀ {l : List Nat} {p : List Nat}, p ∈ splitSp l → 32 ∉ p := by
          intro l
          induction l with
          | nil => intro p hp; simp [splitSp] at hp; subst hp; simp
          | cons c r ih =>
            intro p hp
            unfold splitSp at hp
            split at hp
            · rcases List.mem_cons.mp hp with rfl | hp
              · simp
              · exact ih hp
            · rename_i hc
              split at hp
              · rename_i e; exact absurd e (splitSp_ne r)
              · rename_i h' t' e
                rcases List.mem_cons.mp hp with rfl | hp
                · intro hm
                  rcases List.mem_cons.mp hm with rfl | hm
                  · exact hc rfl
                  · exact ih (by rw [e]; exact List.mem_cons_self) hm
                · exact ih (by rw [e]; exact List.mem_cons_of_mem _ hp)
        have hw32 : 32 ∉ w := hfree (l := l) (by rw [hs]; exact List.mem_cons_of_mem _ (List.mem_filter.mp hw).1)
        unfold tailJ
        rw [if_neg (by simp), dropBl_sp, joinL_tail]
        cases w with
        | nil => exact absurd rfl hwne
        | cons a b =>
          have ha : a ≠ 32 := fun q => hw32 (by rw [q]; exact List.mem_cons_self)
          rw [List.cons_append, dropBl_head ha]
/-- what one_blanks leaves, on lists -/
def nrm (l : List Nat) : List Nat := dropBl (sq (l.map wsN))
theorem cl_NN (text : Str) : cl (NN text) = nrm (cl text) := by
  unfold NN nrm
  rw [cl_join, ← join_sq, ← split_is, sp_is, cl_mk, ← sp_is]
  congr 1
  show _ = nonE (List.map cl (Txt.split (mk (List.map wsN (cl text))) (Str.ofString " ")))
  unfold nonE
  rw [List.filter_map]
  congr 1
  apply List.filter_congr
  intro a _
  rw [bne, beq_cl, empty_is, cl_mk]
  show (!(cl a == [])) = decide (cl a ≠ [])
  cases cl a <;> simp
theorem sqC_mem {c d : Nat} {s : List Nat} (h : d ∈ sqC c s) : d = c ∨ d ∈ s := by
  unfold sqC at h
  split at h
  · exact .inr h
  · simpa using h
theorem sqC_len (c : Nat) (s : List Nat) : (sqC c s).length ≤ s.length + 1 := by
  unfold sqC
  split <;> simp
theorem sq_mem : ∀ {l : List Nat} {d : Nat}, d ∈ sq l → d ∈ l
  | [], _, h => by simp [sq] at h
  | c :: r, d, h => by
    rw [sq_cons] at h
    rcases sqC_mem h with rfl | h
    · exact List.mem_cons_self
    · exact List.mem_cons_of_mem _ (sq_mem h)
theorem sq_len : ∀ (l : List Nat), (sq l).length ≤ l.length
  | [] => Nat.le_refl _
  | c :: r => by
    have := sqC_len c (sq r)
    have := sq_len r
    rw [sq_cons, List.length_cons]
    omega
theorem nrm_len (l : List Nat) : (nrm l).length ≤ l.length := by
  have h1 := dropBl_len (sq (l.map wsN))
  have h2 := sq_len (l.map wsN)
  rw [List.length_map] at h2
  exact Nat.le_trans h1 h2
theorem nrm_mem {l : List Nat} {d : Nat} (h : d ∈ nrm l) : ∃ c ∈ l, d = wsN c := by
  have := sq_mem ((dropBl_suffix _).subset h)
  obtain ⟨c, hc, rfl⟩ := List.mem_map.mp this
  exact ⟨c, hc, rfl⟩
end Mine
end

section
open PySem PySem.W PyProof.Rows PySem.Spec PySem.Calls
set_option maxRecDepth 100000
set_option maxHeartbeats 8000000
namespace Mine
theorem ws_is : Str.ofString "\t\x0d\n" = (⟨#[9, 13, 10]⟩ : Str) := by decide +kernel
theorem ws_found (c : Nat) : (!(Builtin.Str.occurrences (Str.ofString "\t\x0d\n") (⟨#[c]⟩ : Str) 0 (Str.ofString "\t\x0d\n").length 1).isEmpty) = decide (c = 9 ∨ c = 13 ∨ c = 10) := by
  rw [ws_is, StrLaws.found_one]
  simp
theorem split_bound {x : Str} (hx : x.length ≤ 4096) (p : Str → Bool) : (((Txt.split x (Str.ofString " ")).filter p).map (·.length)).sum + ((Txt.split x (Str.ofString " ")).filter p).length * 64 ≤ 16777216 := by
  have h := split_weight x (Str.ofString " ") (by decide)
  have key : ∀ l : List Str, ((l.filter p).map (·.length)).sum + (l.filter p).length ≤ (l.map (·.length)).sum + l.length := by
    intro l
    induction l with
    | nil => simp
    | cons a r ih =>
      by_cases hp : p a = true
      · rw [List.filter_cons_of_pos hp]; simp only [List.map_cons, List.sum_cons, List.length_cons]; omega
      · rw [List.filter_cons_of_neg hp]; simp only [List.map_cons, List.sum_cons, List.length_cons]; omega
  have := key (Txt.split x (Str.ofString " "))
  omega
theorem one_blanks_does (w : World) (mean : ExcName → Option Value) (mg mb : Str → Option Value) (text : Str) (t0 : Tok) (hl : text.length ≤ 4096) :
   Does w mean mg mb 2 32 32 [.str text t0] (fun t => .str (NN text) t) := by
  unfold Does
  k_fill
  intro dp un gd cn cs a ccd clo outer A₀ base h₀ L m news s Q E B F X N T hk hd hu ret
  refine wpAny_call ?_
  k_dflt cell_enter
  (repeat (first | ((fail_if_success (with_reducible show wpAny _ _ (eval (PySem.Expr.ListComp _ _ _ _) _) _ _ _)); ((first | (k_unfold; (try dsimp only)) | walk1 | (dsimp only; walk1))))))
  (rename Fr _ _ _ _ => F1)
  (rename News _ _ _ _ => N1)
  with_unfolding_all
    refine ListComp_S text t0 (fun c => mk [wsN c]) (by rfl) F1 N1 (by rfl) (by decide) (by rfl) (by decide) (by rfl) ?hit ?hsz ?turn ?fin
  case hit => k_dflt (refine ld F1 (by rfl) ⟨rfl, rfl⟩)
  case hsz => show text.length ≤ sizeLine; rw [sizeLine_eq]; omega
  case turn =>
    intro c u I oI C oC D ys m₂ hp tk E' hc hC hx F2 N2 off ne
    clear F1 N1
    k_steps
    · (rename (_ = true) => hw)
      have e := ws_found c
      rw [hw] at e
      have e2 : wsN c = c := by unfold wsN; rw [if_neg (by simpa using e)]
      (rename Fr _ _ _ _ => F9)
      (rename News _ _ _ _ => N9)
      exact LCg.CompEnd.intro F9 N9 news (fun p hp => hp) off True.intro ⟨⟨_, by rw [e2]; rfl⟩, rfl⟩
    · (rename (_ = false) => hw)
      have e := ws_found c
      rw [hw] at e
      have e2 : wsN c = 32 := by unfold wsN; rw [if_pos (by simpa using e)]
      (rename Fr _ _ _ _ => F9)
      (rename News _ _ _ _ => N9)
      exact LCg.CompEnd.intro F9 N9 news (fun p hp => hp) off True.intro ⟨⟨_, by rw [e2, sp_is]⟩, rfl⟩
  case fin =>
    intro D ys hp tk F2 N2 off hy
    clear F1 N1
    k_steps
    have hlen : text.cps.toList.length = text.length := cl_length text
    refine join_listC (News.isList N2 (List.mem_cons_self)) hy (by decide) ?_ (fun t' k => ?_)
    · rw [sum_ones _ (fun c => mk_length _), List.length_map]; omega
    · rw [join_signs]
      have hpl : (mk (List.map wsN text.cps.toList)).length ≤ 4096 := by rw [mk_length, List.length_map]; omega
      unfold NN at ret
      generalize mk (List.map wsN text.cps.toList) = plain at hpl ret ⊢
      (repeat (first | ((fail_if_success (with_reducible show wpAny _ _ (call (Value.builtin "str.join") _) _ _ _)); ((first | (k_unfold; (try dsimp only)) | walk1 | (dsimp only; walk1))))))
      (rename List.map _ _ = Txt.split _ _ => hsp)
      (rename CarriedAll _ _ => hca)
      (rename News _ _ _ _ => N9)
      rw [hsp] at hca
      refine join_listC (by assumption) (StrsAre.of_carried hca) (by decide) (split_bound hpl _) (fun t' k => ?_)
      k_steps
      (rename News _ _ _ _ => N9)
      exact cb_retS ret (by rfl) (by assumption) (cb_drop N9 (by intro p hp; simp only [List.mem_cons, hp, or_true]))
end Mine
end

section
open PySem PySem.W PyProof.Rows PySem.Spec PySem.Calls PySem.Builtin PySem.Builtin.Str
set_option maxRecDepth 100000
namespace Mine
theorem goes_is : (Str.ofString " ").cps.contains = (fun c => c == 32) := by
  rw [sp_is]
  funext c
  simp only [mk, List.contains_toArray, List.contains_cons, List.contains_nil, Bool.or_false]
theorem cl_sub (x : Str) (i j : Nat) : cl (strSub x i j) = ((cl x).drop i).take (j - i) := StrLaws.strSub_toList x i j
theorem stripR_take (l : List Nat) : stripR l = l.take (l.length - (l.reverse.takeWhile (· == 32)).length) := by
  have h : l.reverse = l.reverse.takeWhile (· == 32) ++ l.reverse.dropWhile (· == 32) := (List.takeWhile_append_dropWhile).symm
  have h2 : l = (l.reverse.dropWhile (· == 32)).reverse ++ (l.reverse.takeWhile (· == 32)).reverse := by
    have := congrArg List.reverse h
    rwa [List.reverse_reverse, List.reverse_append] at this
  have hlen := congrArg List.length h2
  rw [List.length_append, List.length_reverse, List.length_reverse] at hlen
  unfold stripR dropBl
  generalize hd : (l.reverse.dropWhile (· == 32)).reverse = d at h2 hlen ⊢
  have hd' : (l.reverse.dropWhile (· == 32)).length = d.length := by rw [← hd, List.length_reverse]
  rw [hd'] at hlen
  rw [show l.length - (l.reverse.takeWhile (· == 32)).length = d.length by omega]
  conv => rhs; rw [h2]
  rw [List.take_left]
theorem dropBl_drop (l : List Nat) : dropBl l = l.drop (l.takeWhile (· == 32)).length := by
  induction l with
  | nil => rfl
  | cons c r ih =>
    by_cases h : c = 32
    · subst h; rw [dropBl_sp, ih, List.takeWhile_cons_of_pos rfl]; rfl
    · rw [dropBl_ne r h, List.takeWhile_cons_of_neg (by simpa using h)]; rfl
theorem cl_rstrip (x : Str) : cl (Txt.rstripChars x (Str.ofString " ")) = stripR (cl x) := by
  unfold Txt.rstripChars
  rw [goes_is, PyProof.Rows.stripBy_eq, cl_sub, stripR_take]
  have hl := cl_length x
  simp only [stripLo, stripHi, Bool.false_eq_true, if_false, if_true, List.drop_zero, Nat.sub_zero]
  rw [hl]
  rfl
theorem cl_lstrip (x : Str) : cl (Txt.lstripChars x (Str.ofString " ")) = dropBl (cl x) := by
  unfold Txt.lstripChars
  rw [goes_is, PyProof.Rows.stripBy_eq, cl_sub, dropBl_drop]
  have hl := cl_length x
  simp only [stripLo, stripHi, Bool.false_eq_true, if_false, if_true]
  apply List.take_of_length_le
  rw [List.length_drop, hl]
  exact Nat.le_refl _
end Mine
end

section
open PySem PySem.W PyProof.Rows PySem.Spec PySem.Calls
set_option maxRecDepth 100000
set_option maxHeartbeats 8000000
namespace Mine
theorem lower_code_does (w : World) (mean : ExcName → Option Value) (mg mb : Str → Option Value) (c : Nat) (t0 : Tok) :
   Does w mean mg mb 1 8 21 [.int c t0] (fun t => .int (lowN c) t) := by
  unfold Does
  k_fill
  intro dp un gd cn cs a ccd cl outer A₀ base h₀ L m news s Q E B F X N T hk hd hu ret
  refine wpAny_call ?_
  k_dflt cell_enter
  k_steps
  all_goals exact cb_retI ret (by unfold lowN; split <;> omega) (by assumption) (by assumption)

theorem lower_text_does (w : World) (mean : ExcName → Option Value) (mg mb : Str → Option Value) (text : Str) (t0 : Tok) (hl : text.length ≤ 4096) (hv : ∀ c ∈ cl text, c < 1114112) :
   Does w mean mg mb 2 32 26 [.str text t0] (fun t => .str (mk (low (cl text))) t) := by
  unfold Does
  k_fill
  intro dp un gd cn cs a ccd clo outer A₀ base h₀ L m news s Q E B F X N T hk hd hu ret
  refine wpAny_call ?_
  k_dflt cell_enter
  (repeat (first | ((fail_if_success (with_reducible show wpAny _ _ (eval (PySem.Expr.ListComp _ _ _ _) _) _ _ _)); ((first | (k_unfold; (try dsimp only)) | walk1 | (dsimp only; walk1))))))
  (rename Fr _ _ _ _ => F1)
  (rename News _ _ _ _ => N1)
  with_unfolding_all
    refine ListComp_S text t0 (fun c => mk [lowN c]) (by rfl) F1 N1 (by rfl) (by decide) (by rfl) (by decide) (by rfl) ?hit ?hsz ?turn ?fin
  case hit => k_dflt (refine ld F1 (by rfl) ⟨rfl, rfl⟩)
  case hsz => show text.length ≤ sizeLine; rw [sizeLine_eq]; omega
  case turn =>
    intro c u I oI C oC D ys m₂ hp tk E' hc hC hx F2 N2 off ne
    clear F1 N1
    have hc' := hv c hc
    have hlow : lowN c < 1114112 := by unfold lowN; split <;> omega
    (repeat' (first | (((k_here; (with_reducible show wpAny _ _ (call (Value.ref 21) [Value.int _ _]) _ _ _); (k_dflt (refine lower_code_does _ _ _ _ _ _ _ _ _ _ _ _ _ _ _ _ _ _ _ _ _ _ _ _ (by k_asm) (by k_asm) (by k_asm) (by k_asm) (by k_asm) (by first | exact rfl | assumption) (by ktr_room) (by ktr_units) ?_)); intro t9 h9 tk9 F9 N9; (try dsimp only); (try k_fold)))) | (k_unfold; (try dsimp only)) | walk1 | (dsimp only; walk1)))
    (rename Fr _ _ _ _ => F9)
    (rename News _ _ _ _ => N9)
    exact LCg.CompEnd.intro F9 N9 news (fun p hp => hp) off True.intro ⟨⟨_, rfl⟩, rfl⟩
  case fin =>
    intro D ys hp tk F2 N2 off hy
    clear F1 N1
    (repeat' (first | (((k_here; (with_reducible show wpAny _ _ (call (Value.ref 21) [Value.int _ _]) _ _ _); (k_dflt (refine lower_code_does _ _ _ _ _ _ _ _ _ _ _ _ _ _ _ _ _ _ _ _ _ _ _ _ (by k_asm) (by k_asm) (by k_asm) (by k_asm) (by k_asm) (by first | exact rfl | assumption) (by ktr_room) (by ktr_units) ?_)); intro t9 h9 tk9 F9 N9; (try dsimp only); (try k_fold)))) | (k_unfold; (try dsimp only)) | walk1 | (dsimp only; walk1)))
    have hlen : text.cps.toList.length = text.length := cl_length text
    refine join_listC (News.isList N2 (List.mem_cons_self)) hy (by decide) ?_ (fun t' k => ?_)
    · rw [sum_ones _ (fun c => mk_length _), List.length_map]; omega
    · rw [join_signs]
      (repeat' (first | (((k_here; (with_reducible show wpAny _ _ (call (Value.ref 21) [Value.int _ _]) _ _ _); (k_dflt (refine lower_code_does _ _ _ _ _ _ _ _ _ _ _ _ _ _ _ _ _ _ _ _ _ _ _ _ (by k_asm) (by k_asm) (by k_asm) (by k_asm) (by k_asm) (by first | exact rfl | assumption) (by ktr_room) (by ktr_units) ?_)); intro t9 h9 tk9 F9 N9; (try dsimp only); (try k_fold)))) | (k_unfold; (try dsimp only)) | walk1 | (dsimp only; walk1)))
      exact cb_retS ret rfl (by assumption) (fun p hp => by (rename News _ _ _ _ => N9); exact N9 p (List.mem_cons_of_mem _ hp))
end Mine
end

section
open PySem PySem.W PyProof.Rows PySem.Spec PySem.Calls PySem.Builtin PySem.Builtin.Str
set_option maxRecDepth 100000
namespace Mine
/-- where a search's end falls -/
def toIndex (len : Nat) (j : Int) : Nat := min (max 0 (if j < 0 then j + len else j)).toNat len
def find4 (x y : Str) (i j : Int) : Int := match occurrences x y (fromIndex x.length i) (toIndex x.length j) 1 with | k :: _ => (k : Int) | [] => -1
theorem gives_find4 (x y : Str) (i j : Int) (t u v w : Tok) : Gives («str.find» ⟨[.str x t, .str y u, .int i v, .int j w], []⟩) (.int (find4 x y i j)) := by
  show Gives (match occurrences x y (fromIndex x.length i) (toIndex x.length j) 1 with | k :: _ => retInt k | [] => (do rule "str.find.not-found"; retInt (-1))) _
  unfold find4
  cases occurrences x y (fromIndex x.length i) (toIndex x.length j) 1 with
  | nil => exact .rule (.of_eq rfl)
  | cons k _ => exact .of_eq rfl
theorem call_find4 {prog : Program} {w : World} {A : Around} {E : Value → Shared → Prop} {s : Shared} {x y : Str} {t u v z : Tok} {i j : Int} {Q : Value → Shared → Prop}
    (hq : Q (.int (find4 x y i j) s.toks) { s with toks := s.toks + 1 }) : wpAny (model prog w) A (call (.builtin "str.find") [.str x t, .str y u, .int i v, .int j z]) Q E s :=
  call_gives F.slot_str_find (typeIs_str _ _ _) F.entry_str_find (F.args_str_find_4 _ _ _ _) (gives_find4 x y i j t u v z) hq

theorem occ_between (x y : Str) (lo hi : Nat) :
    (occurrences x y lo hi 1 = [] ∧ ∀ i, lo ≤ i → ¬ StrLaws.At x y hi i) ∨
    ∃ i r, occurrences x y lo hi 1 = i :: r ∧ lo ≤ i ∧ StrLaws.At x y hi i := by
  rw [StrLaws.occ_eq]
  rcases StrLaws.occ_first x y hi 1 (Nat.le_refl 1) (List.range' lo (hi + 1 - lo)) lo (fun i hi => by have := List.mem_range'_1.mp hi; omega) with ⟨h0, hn⟩ | ⟨pre, a, post, e, h0, ha, hn⟩
  · refine .inl ⟨by rw [h0], fun i hlo hi' => ?_⟩
    exact hn i (by have := hi'.1; rw [List.mem_range'_1]; omega) hi'
  · have hs := StrLaws.range'_split_from e
    refine .inr ⟨a, ((forIn (List.range' lo (hi + 1 - lo)) ((#[] : Array Nat), lo) (StrLaws.occBody x y hi 1)).run.fst.toList).tail, ?_, hs.1, ha⟩
    generalize (forIn (List.range' lo (hi + 1 - lo)) ((#[] : Array Nat), lo) (StrLaws.occBody x y hi 1)).run.fst = arr at h0
    have h1 : arr.toList[0]? = some a := by simpa using h0
    cases hL : arr.toList with
    | nil => rw [hL] at h1; cases h1
    | cons b t => rw [hL] at h1; simp at h1; rw [h1]; rfl
theorem at_one {x : Str} {c hi i : Nat} : StrLaws.At x ⟨#[c]⟩ hi i ↔ i + 1 ≤ hi ∧ (cl x)[i]? = some c := by
  unfold StrLaws.At
  rw [StrLaws.subAt_eq]
  show (i + 1 ≤ hi ∧ ((x.cps.toList.drop i).take 1 == [c]) = true) ↔ _
  rw [StrLaws.take1_drop]
  rfl
theorem find4_spec (x : Str) (c : Nat) {i j : Int} (hi : 0 ≤ i) (hj : 0 ≤ j) (hj2 : j ≤ x.length) :
    (0 ≤ find4 x ⟨#[c]⟩ i j ∧ ∃ k : Nat, i ≤ k ∧ k < j ∧ (cl x)[k]? = some c) ∨ (¬ 0 ≤ find4 x ⟨#[c]⟩ i j ∧ ∀ k : Nat, i ≤ k → k < j → ¬ (cl x)[k]? = some c) := by
  have e1 : fromIndex x.length i = i.toNat := by unfold fromIndex; rw [if_neg (by omega)]; omega
  have e2 : toIndex x.length j = j.toNat := by unfold toIndex; rw [if_neg (by omega)]; omega
  unfold find4
  rw [e1, e2]
  rcases occ_between x ⟨#[c]⟩ i.toNat j.toNat with ⟨h0, hn⟩ | ⟨k, r, h0, hlo, ha⟩
  · rw [h0]
    refine .inr ⟨by decide, fun k h1 h2 h3 => hn k (by omega) (at_one.mpr ⟨by omega, h3⟩)⟩
  · rw [h0]
    have := at_one.mp ha
    exact .inl ⟨Int.natCast_nonneg k, k, by omega, by omega, this.2⟩
theorem find3_at (x : Str) (c : Nat) {i : Int} (hi : 0 ≤ i) :
    (Txt.find3 x ⟨#[c]⟩ i = -1 ∧ ∀ k : Nat, i ≤ k → ¬ (cl x)[k]? = some c) ∨
    ∃ k : Nat, Txt.find3 x ⟨#[c]⟩ i = (k : Int) ∧ i ≤ k ∧ k < x.length ∧ (cl x)[k]? = some c ∧ ∀ v : Nat, i ≤ v → v < k → ¬ (cl x)[v]? = some c := by
  have e1 : fromIndex x.length i = i.toNat := by unfold fromIndex; rw [if_neg (by omega)]; omega
  have get : ∀ {v : Nat}, (cl x)[v]? = some c → v < x.length ∧ x.cps.getD v 0 = c := fun {v} h =>
    ⟨by obtain ⟨h1, _⟩ := List.getElem?_eq_some_iff.mp h; rwa [cl_length] at h1, StrLaws.getD_of_getElem? h⟩
  rcases StrLaws.find3_spec x c i with ⟨h, hn⟩ | ⟨k, h, hlo, hlt, hk, hn⟩
  · rw [e1] at hn
    exact .inl ⟨h, fun k h1 h2 => hn k (by omega) (get h2).1 (get h2).2⟩
  · rw [e1] at hn hlo
    exact .inr ⟨k, h, by omega, hlt, StrLaws.getElem?_of_getD hlt hk, fun v h1 h2 h3 => hn v (by omega) h2 (get h3).2⟩

/-- the next bracket, by places -/
theorem toBr_no : ∀ {l : List Nat}, (∀ k : Nat, ¬ l[k]? = some 93) → toBr l = none
  | [], _ => rfl
  | c :: r, h => by
    have hc : c ≠ 93 := fun e => h 0 (by simp [e])
    unfold toBr
    rw [if_neg hc]
    split
    · rfl
    · exact toBr_no fun k hk => h (k + 1) (by simpa using hk)
theorem toBr_open : ∀ {l : List Nat} {j : Nat}, l[j]? = some 91 → (∀ k : Nat, k < j → ¬ l[k]? = some 93) → toBr l = none
  | [], _, _, _ => rfl
  | c :: r, 0, h, _ => by
    have hc : c = 91 := by simpa using h
    subst hc
    rfl
  | c :: r, j + 1, h, hn => by
    have hc : c ≠ 93 := fun e => hn 0 (by omega) (by simp [e])
    unfold toBr
    rw [if_neg hc]
    split
    · rfl
    · exact toBr_open (j := j) (by simpa using h) fun k hk h3 => hn (k + 1) (by omega) (by simpa using h3)
theorem toBr_shut : ∀ {l : List Nat} {j : Nat}, l[j]? = some 93 → (∀ k : Nat, k < j → ¬ l[k]? = some 93 ∧ ¬ l[k]? = some 91) → toBr l = some (l.drop (j + 1))
  | [], _, h, _ => by simp at h
  | c :: r, 0, h, _ => by
    have hc : c = 93 := by simpa using h
    subst hc
    rfl
  | c :: r, j + 1, h, hn => by
    have hc : c ≠ 93 := fun e => (hn 0 (by omega)).1 (by simp [e])
    have hc2 : c ≠ 91 := fun e => (hn 0 (by omega)).2 (by simp [e])
    unfold toBr
    rw [if_neg hc, if_neg hc2, List.drop_succ_cons]
    exact toBr_shut (j := j) (by simpa using h) fun k hk => by simpa using hn (k + 1) (by omega)

/-- where a blob at k ends: k itself where there is none -/
def pastBlob (l : List Nat) (k : Int) : Int := match blob (l.drop k.toNat) with
  | some r => (l.length : Int) - (r.length : Int)
  | none => k
theorem blob_head {l : List Nat} (h : ¬ l.take 1 = [91]) : blob l = none := by
  cases l with
  | nil => rfl
  | cons c r =>
    show (if c = 91 then (toBr r).map dropBl else none) = none
    rw [if_neg (fun e => h (by rw [e]; rfl))]
theorem blob_open {l : List Nat} (h : l.take 1 = [91]) : blob l = (toBr (l.drop 1)).map dropBl := by
  cases l with
  | nil => simp at h
  | cons c r =>
    have hc : c = 91 := by simpa using h
    subst hc
    rfl
theorem pastBlob_head {l : List Nat} {k : Int} (h : ¬ (l.drop k.toNat).take 1 = [91]) : pastBlob l k = k := by
  unfold pastBlob
  rw [blob_head h]
theorem drop_get {l : List Nat} {a i : Nat} : (l.drop a)[i]? = l[a + i]? := List.getElem?_drop
theorem blob_at {l : List Nat} {k : Int} (h0 : 0 ≤ k) (h : (l.drop k.toNat).take 1 = [91]) : blob (l.drop k.toNat) = (toBr (l.drop (k.toNat + 1))).map dropBl := by
  rw [blob_open h, List.drop_drop]
theorem pastBlob_no {l : List Nat} {k : Int} (h0 : 0 ≤ k) (h : (l.drop k.toNat).take 1 = [91]) (hn : ∀ v : Nat, k ≤ v → ¬ l[v]? = some 93) : pastBlob l k = k := by
  unfold pastBlob
  rw [blob_at h0 h, toBr_no (fun v => by rw [drop_get]; exact hn _ (by omega))]
  rfl
theorem pastBlob_open {l : List Nat} {k e : Int} (h0 : 0 ≤ k) (h : (l.drop k.toNat).take 1 = [91]) (hn : ∀ v : Nat, k ≤ v → v < e → ¬ l[v]? = some 93) (ho : ∃ v : Nat, k + 1 ≤ v ∧ v < e ∧ l[v]? = some 91) : pastBlob l k = k := by
  obtain ⟨v, h1, h2, h3⟩ := ho
  unfold pastBlob
  rw [blob_at h0 h, toBr_open (j := v - (k.toNat + 1)) (by rw [drop_get]; rw [show k.toNat + 1 + (v - (k.toNat + 1)) = v by omega]; exact h3) (fun q hq => by rw [drop_get]; exact hn _ (by omega) (by omega))]
  rfl
theorem pastBlob_shut {l : List Nat} {k e : Int} (h0 : 0 ≤ k) (h : (l.drop k.toNat).take 1 = [91]) (he : k ≤ e) (hl : e < l.length) (hx : l[e.toNat]? = some 93) (hn : ∀ v : Nat, k ≤ v → v < e → ¬ l[v]? = some 93)
    (ho : ∀ v : Nat, k + 1 ≤ v → v < e → ¬ l[v]? = some 91) : pastBlob l k = (l.length : Int) - ((dropBl (l.drop (e + 1).toNat)).length : Int) := by
  have hk : l[k.toNat]? = some 91 := by
    have : (l.drop k.toNat)[0]? = some 91 := by
      cases hd : l.drop k.toNat with
      | nil => rw [hd] at h; simp at h
      | cons c r => rw [hd] at h; have : c = 91 := by simpa using h
                    subst this; rfl
    rw [drop_get] at this
    simpa using this
  have hne : k ≠ e := fun q => by rw [q, hx] at hk; cases hk
  clear hk
  obtain ⟨a, rfl⟩ := Int.eq_ofNat_of_zero_le h0
  obtain ⟨b, rfl⟩ := Int.eq_ofNat_of_zero_le (Int.le_trans h0 he)
  have hab : a + 1 ≤ b := Nat.lt_of_le_of_ne (Int.ofNat_le.mp he) (fun q => hne (by rw [q]))
  rw [Int.toNat_natCast] at hx
  unfold pastBlob
  rw [blob_at h0 h, Int.toNat_natCast, toBr_shut (j := b - (a + 1)) (by rw [drop_get, Nat.add_sub_cancel' hab]; exact hx)
    (fun q hq => by
      have hq2 : a + 1 + q < b := Nat.add_lt_of_lt_sub' hq
      have hq1 : a + 1 ≤ a + 1 + q := Nat.le_add_right _ _
      rw [drop_get]
      exact ⟨hn _ (Int.ofNat_le.mpr (Nat.le_trans (Nat.le_succ a) hq1)) (Int.ofNat_lt.mpr hq2), ho _ (Int.ofNat_le.mpr hq1) (Int.ofNat_lt.mpr hq2)⟩)]
  show (l.length : Int) - ((dropBl _).length : Int) = _
  rw [List.drop_drop, ← Nat.add_assoc, Nat.add_sub_cancel' hab]
  rfl
theorem pastBlob_ge {l : List Nat} {k : Int} (h0 : 0 ≤ k) (h1 : k ≤ l.length) : k ≤ pastBlob l k ∧ pastBlob l k ≤ l.length := by
  unfold pastBlob
  cases h : blob (l.drop k.toNat) with
  | none => exact ⟨Int.le_refl _, h1⟩
  | some r =>
    have := blob_len h
    rw [List.length_drop] at this
    dsimp only
    omega
end Mine
end

section
open PySem PySem.W PyProof.Rows PySem.Spec PySem.Calls
set_option maxRecDepth 100000
set_option maxHeartbeats 8000000
namespace Mine
def pastBl (l : List Nat) (k : Int) : Int := (l.length : Int) - ((dropBl (l.drop k.toNat)).length : Int)
theorem take_drop_one {l : List Nat} {k : Int} (h0 : 0 ≤ k) : (l.take (k + 1).toNat).drop k.toNat = (l.drop k.toNat).take 1 := by
  have e : (k + 1).toNat = k.toNat + 1 := by omega
  rw [e, List.drop_take]
  congr 1
  omega
theorem pastBl_step {l : List Nat} {k : Int} (h0 : 0 ≤ k) (h : (l.drop k.toNat).take 1 = [32]) : pastBl l (k + 1) = pastBl l k ∧ k + 1 ≤ l.length := by
  have e : (k + 1).toNat = k.toNat + 1 := by omega
  cases hd : l.drop k.toNat with
  | nil => rw [hd] at h; simp at h
  | cons c r =>
    rw [hd] at h
    have hc : c = 32 := by simpa using h
    subst hc
    have hr : l.drop (k.toNat + 1) = r := by rw [← List.drop_drop, hd]; rfl
    have hlen : (l.drop k.toNat).length = r.length + 1 := by rw [hd]; rfl
    rw [List.length_drop] at hlen
    refine ⟨?_, by omega⟩
    unfold pastBl
    rw [e, hr, hd, dropBl_sp]
theorem pastBl_stop {l : List Nat} {k : Int} (h0 : 0 ≤ k) (h1 : k ≤ l.length) (h : ¬ (l.drop k.toNat).take 1 = [32]) : k = pastBl l k := by
  have hlen : (l.drop k.toNat).length = l.length - k.toNat := List.length_drop
  unfold pastBl
  cases hd : l.drop k.toNat with
  | nil => rw [hd] at hlen; rw [dropBl_nil]; simp only [List.length_nil] at hlen ⊢; omega
  | cons c r =>
    rw [hd] at h hlen
    have hc : c ≠ 32 := fun e => h (by rw [e]; rfl)
    rw [dropBl_ne r hc]
    omega
theorem past_blanks_does (w : World) (mean : ExcName → Option Value) (mg mb : Str → Option Value) (text : Str) (t0 : Tok) (at0 : Int) (t1 : Tok) (hat : 0 ≤ at0) (hat2 : at0 ≤ text.length) (hl : text.length ≤ 4096) :
   Does w mean mg mb 2 32 39 [.str text t0, .int at0 t1] (fun t => .int (pastBl (cl text) at0) t) := by
  unfold Does
  k_fill
  k_with_none
  (k_with "WPost" => (dsimp only [WPost]))
  intro dp un gd cn cs a ccd clo outer A₀ base h₀ L m news s Q E B F X N T hk hd hu ret
  refine wpAny_call ?_
  k_dflt cell_enter
  (rename Fr _ _ _ _ => F1)
  (rename News _ _ _ _ => N1)
  refine wpAny_execs_cons ?_
  with_unfolding_all
    refine' w_while (σ := Int × Tok) (fun _ => news) (fun c => [(Str.ofString "at", .int c.1 c.2)]) []
      (fun c => 0 ≤ c.1 ∧ c.1 ≤ text.length ∧ pastBl (cl text) c.1 = pastBl (cl text) at0) (fun c => (text.length - c.1).toNat) (at0, t1) F1 N1 ?k2 ?k3 ?k4 ?k5
  case k2 => kst_all
  case k3 => exact ⟨hat, hat2, rfl⟩
  case k5 => passes_own
  clear F1 N1
  rintro ⟨k, tk⟩ u h1 tk1 ⟨p1, p2, p3⟩ F1 N1
  dsimp only at p1 p2 p3
  have hlen := cl_length text
  (repeat' (first | (k_unfold; (try dsimp only)) | walk1 | (dsimp only; walk1)))
  · (rename (_ == _) = true => hc)
    dsimp only at hc
    rw [beq_cl, slice_nn p1 (by omega), take_drop_one p1, sp_is, cl_mk, beq_iff_eq] at hc
    obtain ⟨q1, q2⟩ := pastBl_step p1 hc
    (rename Fr _ _ _ _ => F9)
    (rename News _ _ _ _ => N9)
    exact w_end (k + 1, _) F9 N9 (fun _ h => h) (by kst_all) (by ((intro z h2 h3; (simp only [List.forall_mem_cons, List.not_mem_nil, false_implies, implies_true, and_true, ne_eq] at h2); (simp only [List.contains_cons, List.contains_nil, Bool.or_false, Bool.or_eq_false_iff, beq_eq_false_iff_ne, ne_eq] at h3); (simp [kstB, h2, h3]; done)))) ⟨nn_succ p1, Int.le_trans q2 (Int.le_of_eq (by rw [hlen])), by dsimp only; rw [q1, p3]⟩ (meas_lt (by omega) (Int.lt_add_one_of_le (Int.le_refl _)))
  · (rename (_ == _) = false => hc)
    dsimp only at hc
    rw [beq_cl, slice_nn p1 (by omega), take_drop_one p1, sp_is, cl_mk, beq_eq_false_iff_ne] at hc
    have q := pastBl_stop p1 (by omega) hc
    exact cb_retI ret (q.trans p3) (by assumption) (by assumption)
end Mine
end

section
open PySem PySem.W PyProof.Rows PySem.Spec PySem.Calls
set_option maxRecDepth 100000
set_option maxHeartbeats 8000000
namespace Mine
theorem ob_is : Str.ofString "[" = (⟨#[91]⟩ : Str) := by decide +kernel
theorem cb_is : Str.ofString "]" = (⟨#[93]⟩ : Str) := by decide +kernel
theorem cl_one (c : Nat) : cl (⟨#[c]⟩ : Str) = [c] := rfl
theorem find3_le (x y : Str) (i : Int) : Txt.find3 x y i ≤ x.length := (fact_find3 x y i).2
theorem past_blob_does (w : World) (mean : ExcName → Option Value) (mg mb : Str → Option Value) (text : Str) (t0 : Tok) (at0 : Int) (t1 : Tok) (hat : 0 ≤ at0) (hl : text.length ≤ 4096) :
   Does w mean mg mb 3 48 46 [.str text t0, .int at0 t1] (fun t => .int (pastBlob (cl text) at0) t) := by
  unfold Does
  k_fill
  intro dp un gd cn cs a ccd clo outer A₀ base h₀ L m news s Q E B F X N T hk hd hu ret
  refine wpAny_call ?_
  k_dflt cell_enter
  have hlen := cl_length text
  have hfind := find3_at text 93 hat
  have hend : Txt.find3 text (⟨#[93]⟩ : Str) at0 < text.length := by rcases hfind with h | ⟨k, h, _⟩ <;> omega
  rw [← cb_is] at hend
  have hsl : cl (Txt.slice text (some at0) (some (at0 + 1))) = ((cl text).drop at0.toNat).take 1 := by rw [slice_nn hat (by omega), take_drop_one hat]
  have yes : (Txt.slice text (some at0) (some (at0 + 1)) != Str.ofString "[") = true → ¬ ((cl text).drop at0.toNat).take 1 = [91] := by
    intro h e
    rw [ob_is, bne, beq_cl, hsl, cl_one, e] at h
    exact absurd h (by decide)
  have no : (Txt.slice text (some at0) (some (at0 + 1)) != Str.ofString "[") = false → ((cl text).drop at0.toNat).take 1 = [91] := by
    intro h
    rw [ob_is, bne, beq_cl, hsl, cl_one] at h
    simpa using h
  (repeat' (first | ((((with_reducible show wpAny _ _ (call (Value.builtin "str.find") _) _ _ _); (refine call_find4 ?_)))) | (((k_here; (with_reducible show wpAny _ _ (call (Value.ref 39) [Value.str _ _, Value.int _ _]) _ _ _); (k_dflt (refine past_blanks_does _ _ _ _ _ _ _ _ (by omega) (by omega) (by omega) _ _ _ _ _ _ _ _ _ _ _ _ _ _ _ _ _ _ (by k_asm) (by k_asm) (by k_asm) (by k_asm) (by k_asm) (by first | exact rfl | assumption) (by ktr_room) (by ktr_units) ?_)); intro t9 h9 tk9 F9 N9; (try dsimp only); (try k_fold)))) | (k_unfold; (try dsimp only)) | walk1 | (dsimp only; walk1)))
  · exact cb_retI ret (pastBlob_head (yes (by assumption))).symm (by assumption) (by assumption)
  · refine cb_retI ret ?_ (by assumption) (by assumption)
    (rename Txt.find3 _ _ _ < 0 => hlt)
    rw [cb_is] at hlt
    rcases hfind with ⟨_, hn⟩ | ⟨k, h, _⟩
    · exact (pastBlob_no hat (no (by assumption)) hn).symm
    · omega
  · refine cb_retI ret ?_ (by assumption) (by assumption)
    (rename ¬ Txt.find3 _ _ _ < 0 => hlt)
    (rename 0 ≤ find4 _ _ _ _ => h4)
    rw [cb_is] at hlt h4
    rw [ob_is] at h4
    rcases hfind with ⟨h, _⟩ | ⟨k, h, hk1, hk2, hk3, hn⟩
    · omega
    · rw [h] at h4
      rcases find4_spec text 91 (show 0 ≤ at0 + 1 by omega) (show (0 : Int) ≤ k by omega) (by omega) with ⟨_, v, v1, v2, v3⟩ | ⟨h5, _⟩
      · exact (pastBlob_open (e := k) hat (no (by assumption)) (fun v a b => hn v a (by omega)) ⟨v, v1, v2, v3⟩).symm
      · exact absurd h4 h5
  · refine cb_retI ret ?_ (by assumption) (by assumption)
    (rename ¬ Txt.find3 _ _ _ < 0 => hlt)
    (rename ¬ 0 ≤ find4 _ _ _ _ => h4)
    rw [cb_is] at hlt h4
    rw [ob_is] at h4
    rw [cb_is]
    rcases hfind with ⟨h, _⟩ | ⟨k, h, hk1, hk2, hk3, hn⟩
    · omega
    · rw [h] at h4
      rw [h]
      rcases find4_spec text 91 (show 0 ≤ at0 + 1 by omega) (show (0 : Int) ≤ k by omega) (by omega) with ⟨h5, _⟩ | ⟨_, h5⟩
      · exact absurd h5 h4
      · exact (pastBlob_shut (e := k) hat (no (by assumption)) hk1 (by omega) (by rw [Int.toNat_natCast]; exact hk3) (fun v a b => hn v a (by omega)) (fun v a b => h5 v a (by omega))).symm
end Mine
end

section
open PySem PySem.W PyProof.Rows PySem.Spec PySem.Calls
set_option maxRecDepth 100000
set_option maxHeartbeats 8000000
namespace Mine
section
variable {prog : Program} {w : World} {A : Around} {E : Value → Shared → Prop} {Q : Flow → Shared → Prop} {s : Shared} {env : Env} {h₀ : Heap}
/-- the end of a for's turn -/
def FEnd {σ : Type} (h₀ : Heap) (L : Addr) (s : Shared) (news own : List (Addr × Obj)) (ps : σ → List (Str × Value)) (stored : List Str) (m₀ : Str → Option Value) (P : σ → Prop) (s₂ : Shared) : Prop :=
  ∃ (c' : σ) (h' : Heap) (tk : Nat) (m' : Str → Option Value), s₂ = { s with heap := h', toks := tk } ∧ Fr h₀ L h' m' ∧ News h₀ L h' (own ++ news) ∧ (∀ p ∈ ps c', m' p.1 = some p.2) ∧ (∀ z, (∀ p ∈ ps c', z ≠ p.1) → stored.contains z = false → m' z = m₀ z) ∧ P c'
def FPost {σ : Type} (h₀ : Heap) (L : Addr) (s : Shared) (news own : List (Addr × Obj)) (ps : σ → List (Str × Value)) (stored : List Str) (m₀ : Str → Option Value) (P : σ → Prop) (Q : Flow → Shared → Prop) (f : Flow) (s₂ : Shared) : Prop :=
  match f with
  | .ret v => Q (.ret v) s₂
  | .brk => Q .next s₂
  | _ => FEnd h₀ L s news own ps stored m₀ P s₂
theorem f_end {σ : Type} {h₀ : Heap} {L : Addr} {s : Shared} {news own : List (Addr × Obj)} {ps : σ → List (Str × Value)} {stored : List Str} {m₀ m' : Str → Option Value} {P : σ → Prop} {h' : Heap} {tk : Nat} (c' : σ)
    (F : Fr h₀ L h' m') (N : News h₀ L h' (own ++ news)) (hk : ∀ p ∈ ps c', m' p.1 = some p.2) (hr : ∀ z, (∀ p ∈ ps c', z ≠ p.1) → stored.contains z = false → m' z = m₀ z) (hp : P c') :
    FEnd h₀ L s news own ps stored m₀ P { s with heap := h', toks := tk } := ⟨c', h', tk, m', rfl, F, N, hk, hr, hp⟩

theorem unr_inv {σ : Type} {x : Str} {px : Pos} {body : List Stmt} (hx : env.kindOf x = some .local) (hp : (env.scope.kind == .class || (env.scope.kind == .module && env.locals != env.globals)) = false)
    {n : Nat} {news : List (Addr × Obj)} {fp : List Addr} (ps : σ → List (Str × Value)) (stored : List Str) {m₀ : Str → Option Value} (P : Nat → σ → Prop) (Pv : Nat → Value → Prop)
    (turn : ∀ (i : Nat) (v : Value) (c : σ) (u : Str → Option Value) (h : Heap) (tk : Nat) (own : List (Addr × Obj)), i < n → Pv i v → P i c → Fr h₀ env.locals h (fun y => if y = x then some v else kstB (fun z => if stored.contains z then u z else m₀ z) (ps c) y) → News h₀ env.locals h (own ++ news) →
      wpAny (model prog w) A (execs body env) (FPost h₀ env.locals s news own ps stored m₀ (P (i + 1)) Q) E { s with heap := h, toks := tk })
    (done : ∀ (c : σ) (u : Str → Option Value) (h : Heap) (tk : Nat), P n c → Fr h₀ env.locals h (kstB (fun z => if stored.contains z then u z else m₀ z) (ps c)) → News h₀ env.locals h news → Q .next { s with heap := h, toks := tk }) :
    ∀ (k i : Nat) (c : σ) (m₁ : Str → Option Value), i + k = n → P i c → (∀ p ∈ ps c, m₁ p.1 = some p.2) → (∀ z, (∀ p ∈ ps c, z ≠ p.1) → stored.contains z = false → m₁ z = m₀ z) →
      Unr prog w A E h₀ env (.Name x px) body Q Pv fp s k i m₁ news := by
  intro k
  induction k with
  | zero =>
    intro i c m₁ hi hP h1 h2
    refine Unr.zero fun h' tk F N => ?_
    have e : i = n := by omega
    subst e
    exact done c m₁ h' tk hP (ksw_fr h1 h2 F) N
  | succ k ih =>
    intro i c m₁ hi hP h1 h2
    refine Unr.succ fun v h tk own hv hown F N => ?_
    refine wpAny_assign_Name (wpAny_storeName_local hx F.ns (fun h3 hn3 hs3 => ?_) hp)
    have F3 := F.set hn3 hs3
    have N3 : News h₀ env.locals h3 (own ++ news) := N.set hs3
    have F4 : Fr h₀ env.locals h3 (fun y => if y = x then some v else kstB (fun z => if stored.contains z then m₁ z else m₀ z) (ps c) y) := by
      have em : (fun y => if y = x then some v else kstB (fun z => if stored.contains z then m₁ z else m₀ z) (ps c) y) = fun y => if y = x then some v else m₁ y := by
        funext y
        by_cases hy : y = x
        · rw [if_pos hy, if_pos hy]
        · rw [if_neg hy, if_neg hy]
          refine kstB_eq h1 fun hn => ?_
          show (if stored.contains y = true then m₁ y else m₀ y) = m₁ y
          cases h3 : stored.contains y with
          | true => simp
          | false => simp only [Bool.false_eq_true, if_false]; exact (h2 y hn h3).symm
      rw [em]
      exact F3
    refine wpAny_mono (turn i v c m₁ h3 _ own (by omega) hv hP F4 N3) (fun f s₂ q => ?_) fun _ _ e => e
    have fin : FEnd h₀ env.locals s news own ps stored m₀ (P (i + 1)) s₂ → LoopStep2 h₀ env.locals own news (Unr prog w A E h₀ env (.Name x px) body Q Pv fp s k (i + 1)) { s with heap := h, toks := tk } .next s₂ := by
      rintro ⟨c', h', tk', m', rfl, F', N', hk', hr', hp'⟩
      exact ⟨rfl, h', tk', m', news, rfl, F', N', rfl, ih (i + 1) c' m' (by omega) hp' hk' hr'⟩
    cases f with
    | ret v => exact LoopStep3.ret q
    | brk => exact LoopStep3.brk q
    | next => exact LoopStep3.next (fin q)
    | cont => exact LoopStep3.cont (fin q)
/-- a loop over a tuple -/
theorem w_iterTup {σ : Type} {x : Str} {px : Pos} {body : List Stmt} {t : Addr} {items : Array Value} {news : List (Addr × Obj)} {m₀ : Str → Option Value} (ps : σ → List (Str × Value)) (stored : List Str) (P : Nat → σ → Prop) (c₀ : σ)
    (hh : A.handled = none) (ht : IsTup s.heap t items) (F : Fr h₀ env.locals s.heap m₀) (N : News h₀ env.locals s.heap news) (htL : t ≠ env.locals)
    (hx : env.kindOf x = some .local) (hp : (env.scope.kind == .class || (env.scope.kind == .module && env.locals != env.globals)) = false)
    (hk : ∀ p ∈ ps c₀, m₀ p.1 = some p.2) (hP : P 0 c₀)
    (turn : ∀ (i : Nat) (v : Value) (c : σ) (u : Str → Option Value) (h : Heap) (tk : Nat) (own : List (Addr × Obj)), i < items.size → items[i]? = some v → P i c → Fr h₀ env.locals h (fun y => if y = x then some v else kstB (fun z => if stored.contains z then u z else m₀ z) (ps c) y) → News h₀ env.locals h (own ++ news) →
      wpAny (model prog w) A (execs body env) (FPost h₀ env.locals s news own ps stored m₀ (P (i + 1)) Q) E { s with heap := h, toks := tk })
    (done : ∀ (c : σ) (u : Str → Option Value) (h : Heap) (tk : Nat), P items.size c → Fr h₀ env.locals h (kstB (fun z => if stored.contains z then u z else m₀ z) (ps c)) → News h₀ env.locals h news → Q .next { s with heap := h, toks := tk }) :
    wpAny (model prog w) A (pyIter (.ref t)) (fun it s₂ => UnrAt prog w A h₀ env (.Name x px) body Q E it s₂) E s := by
  refine Iter_tuple_unr hh ht F N htL ?_
  refine unr_inv (s := { s with heap := s.heap.push { cls := .type "tuple_iterator", data := .fields #[.ref t, .int 0 0] } }) hx hp (n := items.size) ps stored P _ (fun i v c u h tk own hi hv hPc F' N' => ?_) (fun c u h tk hPc F' N' => done c u h tk hPc F' N') items.size 0 c₀ m₀ (by omega) hP hk (fun _ _ _ => rfl)
  exact turn i v c u h tk own hi hv hPc F' N'
end
end Mine
end

section
open PySem PySem.W PyProof.Rows PySem.Spec PySem.Calls
set_option maxRecDepth 100000
set_option maxHeartbeats 8000000
namespace Mine
theorem top_tup {K : Frag} {h₀ h : Heap} {L t : Addr} {m : Str → Option Value} {items : Array Value} {n : Nat} {d : Option Addr} {sl : Array (Option Value)} (F : Fr h₀ L h m) (X₀ : K.In h₀)
    (ho : K.lookup t = some { cls := .type "tuple", dict := d, data := .seq items n, slots := sl }) : IsTup h t items := ⟨_, (X₀.keeps F.keep) _ _ ho, rfl, _, rfl⟩
theorem suffix_drop {l r : List Nat} (h : r <:+ l) : l.drop (l.length - r.length) = r := by
  obtain ⟨t, rfl⟩ := h
  rw [List.length_append, Nat.add_sub_cancel, List.drop_left]
theorem pastBl_ge {l : List Nat} {k : Int} (h0 : 0 ≤ k) (h1 : k ≤ l.length) : k ≤ pastBl l k ∧ pastBl l k ≤ l.length := by
  unfold pastBl
  have := dropBl_len (l.drop k.toNat)
  rw [List.length_drop] at this
  omega
theorem drop_pastBl {l : List Nat} (k : Int) : l.drop (pastBl l k).toNat = dropBl (l.drop k.toNat) := by
  have h := suffix_drop ((dropBl_suffix (l.drop k.toNat)).trans (List.drop_suffix _ _))
  unfold pastBl
  rw [show ((l.length : Int) - ((dropBl (l.drop k.toNat)).length : Int)).toNat = l.length - (dropBl (l.drop k.toNat)).length by omega]
  exact h
theorem drop_pastBlob {l : List Nat} (k : Int) : l.drop (pastBlob l k).toNat = skipBlob (l.drop k.toNat) := by
  unfold pastBlob skipBlob
  cases h : blob (l.drop k.toNat) with
  | none => rfl
  | some r =>
    have h := suffix_drop ((blob_suffix h).trans (List.drop_suffix _ _))
    dsimp only
    rw [show ((l.length : Int) - (r.length : Int)).toNat = l.length - r.length by omega]
    exact h
theorem blobs_step {l : List Nat} {k : Int} (_h0 : 0 ≤ k) (h : k < pastBlob l k) : blobs (l.drop (pastBlob l k).toNat) = blobs (l.drop k.toNat) := by
  rw [drop_pastBlob]
  unfold pastBlob at h
  unfold skipBlob
  cases hb : blob (l.drop k.toNat) with
  | none => rfl
  | some r => exact (blobs_some hb).symm
theorem blobs_stop {l : List Nat} {k : Int} (h0 : 0 ≤ k) (h1 : k ≤ l.length) (h : ¬ k < pastBlob l k) : blobs (l.drop k.toNat) = l.drop k.toNat := by
  unfold pastBlob at h
  cases hb : blob (l.drop k.toNat) with
  | none => exact blobs_none hb
  | some r =>
    rw [hb] at h
    have := blob_len hb
    rw [List.length_drop] at this
    dsimp only at h
    omega
def leaderPos (l : List Nat) : Int := match leader l with
  | some r => (l.length : Int) - (r.length : Int)
  | none => 0
theorem word_yes {l : List Nat} {k n : Int} {w : List Nat} (h0 : 0 ≤ k) (hn : n = w.length) (hw : ((low l).take (k + n).toNat).drop k.toNat = w)
    (hc : (l.drop (pastBlob l (pastBl l (k + n))).toNat).take 1 = [58]) : tryW w (l.drop k.toNat) = some (l.drop ((pastBlob l (pastBl l (k + n))).toNat + 1)) := by
  subst hn
  have e : (k + (w.length : Int)).toNat = k.toNat + w.length := by omega
  unfold tryW
  rw [e, List.drop_take, ← low_drop, Nat.add_sub_cancel_left] at hw
  rw [if_pos hw]
  unfold afterWord
  rw [drop_pastBlob, drop_pastBl, e] at hc
  rw [List.drop_drop]
  have e2 : l.drop ((pastBlob l (pastBl l (k + w.length))).toNat + 1) = (skipBlob (dropBl (l.drop (k.toNat + w.length)))).drop 1 := by
    rw [← List.drop_drop, drop_pastBlob, drop_pastBl, e]
  rw [e2]
  cases hs : skipBlob (dropBl (l.drop (k.toNat + w.length))) with
  | nil => rw [hs] at hc; simp at hc
  | cons c q =>
    rw [hs] at hc
    have : c = 58 := by simpa using hc
    subst this
    rfl
theorem word_no1 {l : List Nat} {k n : Int} {w : List Nat} (h0 : 0 ≤ k) (hn : n = w.length) (hw : ¬ ((low l).take (k + n).toNat).drop k.toNat = w) : tryW w (l.drop k.toNat) = none := by
  subst hn
  have e : (k + (w.length : Int)).toNat = k.toNat + w.length := by omega
  unfold tryW
  rw [if_neg]
  intro h
  apply hw
  rw [e, List.drop_take, ← low_drop, Nat.add_sub_cancel_left]
  exact h
theorem word_no2 {l : List Nat} {k n : Int} {w : List Nat} (h0 : 0 ≤ k) (hn : n = w.length) 
    (hc : ¬ (l.drop (pastBlob l (pastBl l (k + n))).toNat).take 1 = [58]) : tryW w (l.drop k.toNat) = none := by
  subst hn
  have e : (k + (w.length : Int)).toNat = k.toNat + w.length := by omega
  unfold tryW
  split
  · unfold afterWord
    rw [drop_pastBlob, drop_pastBl, e] at hc
    rw [List.drop_drop]
    cases hs : skipBlob (dropBl (l.drop (k.toNat + w.length))) with
    | nil => rfl
    | cons c q =>
      rw [hs] at hc
      have : c ≠ 58 := fun e => hc (by rw [e]; rfl)
      show (if c = 58 then some q else none) = none
      rw [if_neg this]
  · rfl
theorem pastBl_nonneg (l : List Nat) (k : Int) : 0 ≤ pastBl l k := by
  unfold pastBl
  have := dropBl_len (l.drop k.toNat)
  rw [List.length_drop] at this
  omega
theorem pastBlob_nonneg (l : List Nat) {k : Int} (h : 0 ≤ k) : 0 ≤ pastBlob l k := by
  unfold pastBlob
  cases hb : blob (l.drop k.toNat) with
  | none => exact h
  | some r =>
    have := blob_len hb
    rw [List.length_drop] at this
    dsimp only
    omega
theorem cl_small (text : Str) {k : Int} {n : Nat} (h0 : 0 ≤ k) : cl (Txt.slice (mk (low (cl text))) (some k) (some (k + n))) = ((low (cl text)).take (k + n).toNat).drop k.toNat := by
  rw [slice_nn h0 (by omega), cl_mk]
theorem slice_room {text w : Str} {k : Int} {n : Nat} (h : (Txt.slice (mk (low (cl text))) (some k) (some (k + n)) == w) = true) (h0 : 0 ≤ k) (hn : 0 < n ∧ n = w.length) : k + (n : Int) ≤ text.length := by
  rw [beq_cl, cl_small text h0, beq_iff_eq] at h
  have e := congrArg List.length h
  rw [List.length_drop, List.length_take, low_length, cl_length, cl_length] at e
  omega
theorem colon_is : Str.ofString ":" = mk [58] := by decide +kernel
theorem sign_at {x : Str} {b : Int} (h0 : 0 ≤ b) (c : Nat) : (Txt.slice x (some b) (some (b + 1)) == mk [c]) = decide (((cl x).drop b.toNat).take 1 = [c]) := by
  rw [beq_cl, slice_nn h0 (by omega), take_drop_one h0, cl_mk, Bool.eq_iff_iff, beq_iff_eq, decide_eq_true_eq]
theorem sign_room {l : List Nat} {b : Nat} {c : Nat} (h : (l.drop b).take 1 = [c]) : b < l.length := by
  have e := congrArg List.length h
  rw [List.length_take, List.length_drop] at e
  simp only [List.length_cons, List.length_nil] at e
  omega
theorem word_val (text : Str) {k : Int} {n : Nat} {w : Str} (wl : List Nat) (h0 : 0 ≤ k) (hn : n = wl.length) (hw : w = mk wl) :
    (tryW wl ((cl text).drop k.toNat)).map (fun r => ((cl text).length : Int) - (r.length : Int)) =
      bif (Txt.slice (mk (low (cl text))) (some k) (some (k + n)) == w) && (Txt.slice text (some (pastBlob (cl text) (pastBl (cl text) (k + n)))) (some (pastBlob (cl text) (pastBl (cl text) (k + n)) + 1)) == Str.ofString ":")
      then some (pastBlob (cl text) (pastBl (cl text) (k + n)) + 1) else none := by
  subst hw
  have hb0 := pastBlob_nonneg (cl text) (pastBl_nonneg (cl text) (k + n))
  rw [colon_is, sign_at hb0, beq_cl, cl_small text h0, cl_mk]
  by_cases hw : ((low (cl text)).take (k + n).toNat).drop k.toNat = wl
  · by_cases hc : ((cl text).drop (pastBlob (cl text) (pastBl (cl text) (k + n))).toNat).take 1 = [58]
    · have hr := sign_room hc
      have h1 := word_yes (l := cl text) (n := (n : Int)) h0 (by omega) hw hc
      rw [h1]
      simp only [hw, hc, beq_self_eq_true, decide_true, Bool.and_self, cond_true, Option.map_some, List.length_drop]
      congr 1
      omega
    · have h1 := word_no2 (l := cl text) (n := (n : Int)) (w := wl) h0 (by omega) hc
      rw [h1]
      simp only [hc, decide_false, Bool.and_false, cond_false, Option.map_none]
  · have h1 := word_no1 (l := cl text) (n := (n : Int)) (w := wl) h0 (by omega) hw
    rw [h1, beq_eq_false_iff_ne.mpr hw]
    simp only [Bool.false_and, cond_false, Option.map_none]
theorem leader_val (l : List Nat) {m : List Nat} (hm : blobs l = m) {a b c : Option Int} (ha : (tryW wRe m).map (fun r => (l.length : Int) - (r.length : Int)) = a)
    (hb : (tryW wFwd m).map (fun r => (l.length : Int) - (r.length : Int)) = b) (hc : (tryW wFw m).map (fun r => (l.length : Int) - (r.length : Int)) = c) :
    leaderPos l = ((a.or b).or c).getD 0 := by
  subst ha hb hc hm
  unfold leaderPos leader
  cases tryW wRe (blobs l) <;> cases tryW wFwd (blobs l) <;> cases tryW wFw (blobs l) <;> rfl
theorem leader_at {l M : List Nat} {i : Nat} {wl r : List Nat} (hb : blobs l = M) (hc : (i = 0 ∧ wl = wRe) ∨ (i = 1 ∧ wl = wFwd) ∨ (i = 2 ∧ wl = wFw))
    (hP : (1 ≤ i → tryW wRe M = none) ∧ (2 ≤ i → tryW wFwd M = none) ∧ (3 ≤ i → tryW wFw M = none)) (hr : tryW wl M = some r) : leaderPos l = (l.length : Int) - (r.length : Int) := by
  unfold leaderPos leader
  rw [hb]
  rcases hc with ⟨rfl, rfl⟩ | ⟨rfl, rfl⟩ | ⟨rfl, rfl⟩
  · rw [hr]
  · rw [hP.1 (by decide), hr]
  · rw [hP.1 (by decide), hP.2.1 (by decide), hr]
theorem leader_next {M : List Nat} {i : Nat} {wl : List Nat} (hc : (i = 0 ∧ wl = wRe) ∨ (i = 1 ∧ wl = wFwd) ∨ (i = 2 ∧ wl = wFw))
    (hP : (1 ≤ i → tryW wRe M = none) ∧ (2 ≤ i → tryW wFwd M = none) ∧ (3 ≤ i → tryW wFw M = none)) (hr : tryW wl M = none) : (1 ≤ i + 1 → tryW wRe M = none) ∧ (2 ≤ i + 1 → tryW wFwd M = none) ∧ (3 ≤ i + 1 → tryW wFw M = none) := by
  rcases hc with ⟨rfl, rfl⟩ | ⟨rfl, rfl⟩ | ⟨rfl, rfl⟩
  · exact ⟨fun _ => hr, fun h => absurd h (by decide), fun h => absurd h (by decide)⟩
  · exact ⟨fun _ => hP.1 (by decide), fun _ => hr, fun h => absurd h (by decide)⟩
  · exact ⟨fun _ => hP.1 (by decide), fun _ => hP.2.1 (by decide), fun _ => hr⟩
theorem past_leader_does (w : World) (mean : ExcName → Option Value) (mg mb : Str → Option Value) (text : Str) (t0 : Tok) (hl : text.length ≤ 4096) (hv : ∀ c ∈ cl text, c < 1114112) :
   Does w mean mg mb 4 64 53 [.str text t0] (fun t => .int (leaderPos (cl text)) t) := by
  unfold Does
  k_fill
  k_with_none
  (k_with "WPost" => (dsimp only [WPost]))
  (k_with "w_call" => (k_here; (with_reducible show wpAny _ _ (call (Value.ref 39) [Value.str _ _, Value.int _ _]) _ _ _); (k_dflt (refine past_blanks_does _ _ _ _ _ _ _ _ (by omega) (by first | omega | (first | (exact pastBl_nonneg _ _) | (exact slice_room (by assumption) (by omega) (by first | decide +kernel | exact ⟨by assumption, rfl⟩)))) (by omega) _ _ _ _ _ _ _ _ _ _ _ _ _ _ _ _ _ _ (by k_asm) (by k_asm) (by k_asm) (by k_asm) (by k_asm) (by first | exact rfl | assumption) (by ktr_room) (by ktr_units) ?_)); intro t9 h9 tk9 F9 N9; (try dsimp only); (try k_fold)))
  (k_with "w_call" => (k_here; (with_reducible show wpAny _ _ (call (Value.ref 46) [Value.str _ _, Value.int _ _]) _ _ _); (k_dflt (refine past_blob_does _ _ _ _ _ _ _ _ (by first | omega | (first | (exact pastBl_nonneg _ _) | (exact slice_room (by assumption) (by omega) (by first | decide +kernel | exact ⟨by assumption, rfl⟩)))) (by omega) _ _ _ _ _ _ _ _ _ _ _ _ _ _ _ _ _ _ (by k_asm) (by k_asm) (by k_asm) (by k_asm) (by k_asm) (by first | exact rfl | assumption) (by ktr_room) (by ktr_units) ?_)); intro t9 h9 tk9 F9 N9; (try dsimp only); (try k_fold)))
  (k_with "w_call" => (k_here; (with_reducible show wpAny _ _ (call (Value.ref 26) [Value.str _ _]) _ _ _); (k_dflt (refine lower_text_does _ _ _ _ _ _ (by omega) (by first | assumption | (first | (exact pastBl_nonneg _ _) | (exact slice_room (by assumption) (by omega) (by first | decide +kernel | exact ⟨by assumption, rfl⟩)))) _ _ _ _ _ _ _ _ _ _ _ _ _ _ _ _ _ _ (by k_asm) (by k_asm) (by k_asm) (by k_asm) (by k_asm) (by first | exact rfl | assumption) (by ktr_room) (by ktr_units) ?_)); intro t9 h9 tk9 F9 N9; (try dsimp only); (try k_fold)))
  (k_with "FPost" => (dsimp only [FPost]))
  intro dp un gd cn cs a ccd clo outer A₀ base h₀ L m news s Q E B F X N T hk hd hu ret
  refine wpAny_call ?_
  k_dflt cell_enter
  rename_i g' L' h' FG' F' N' B' X' T'
  have hlen := cl_length text
  (repeat (first | ((fail_if_success (with_reducible show wpAny _ _ (exec (Stmt.While _ _ _ _) _) _ _ _)); ((first | (k_unfold; (try dsimp only)) | (first | ((with_reducible show wpAny _ _ (call (Value.ref _) _) _ _ _); k_extra "w_call") | ((fail_if_success (with_reducible show wpAny _ _ (call (Value.ref _) _) _ _ _)); walk1)) | (dsimp only; (first | ((with_reducible show wpAny _ _ (call (Value.ref _) _) _ _ _); k_extra "w_call") | ((fail_if_success (with_reducible show wpAny _ _ (call (Value.ref _) _) _ _ _)); walk1))))))))
  (rename Fr _ _ _ _ => F1)
  (rename News _ _ _ _ => N1)
  with_unfolding_all
    refine' w_while (σ := Int × Tok) (fun _ => news) (fun c => [(Str.ofString "at", .int c.1 c.2)]) []
      (fun c => 0 ≤ c.1 ∧ c.1 ≤ text.length ∧ blobs ((cl text).drop c.1.toNat) = blobs (cl text)) (fun c => (text.length - c.1).toNat) (0, _) F1 N1 ?k2 ?k3 ?k4 ?k5
  case k2 => kst_all
  case k3 => exact ⟨Int.le_refl 0, Int.natCast_nonneg _, rfl⟩
  case k5 => passes_own
  clear F1 N1
  rintro ⟨k, tk⟩ u h1 tk1 ⟨p1, p2, p3⟩ F1 N1
  dsimp only at p1 p2 p3
  have hge := pastBlob_ge p1 (show k ≤ (cl text).length by omega)
  (repeat' (first | (k_unfold; (try dsimp only)) | ((fail_if_success ((first | (with_reducible show wpAny _ _ (exec (Stmt.For _ _ _ _ _) _) _ _ _) | (with_reducible show wpAny _ _ (pyIter _) _ _ _)))); (first | ((with_reducible show wpAny _ _ (call (Value.ref _) _) _ _ _); k_extra "w_call") | ((fail_if_success (with_reducible show wpAny _ _ (call (Value.ref _) _) _ _ _)); walk1))) | ((fail_if_success ((first | (with_reducible show wpAny _ _ (exec (Stmt.For _ _ _ _ _) _) _ _ _) | (with_reducible show wpAny _ _ (pyIter _) _ _ _)))); dsimp only; (first | ((with_reducible show wpAny _ _ (call (Value.ref _) _) _ _ _); k_extra "w_call") | ((fail_if_success (with_reducible show wpAny _ _ (call (Value.ref _) _) _ _ _)); walk1)))))
  · (rename _ < pastBlob _ _ => hlt)
    (rename Fr _ _ _ _ => F9)
    (rename News _ _ _ _ => N9)
    exact w_end (pastBlob (cl text) k, _) F9 N9 (fun _ h => h) (by kst_all) (by ((intro z h2 h3; (simp only [List.forall_mem_cons, List.not_mem_nil, false_implies, implies_true, and_true, ne_eq] at h2); (simp only [List.contains_cons, List.contains_nil, Bool.or_false, Bool.or_eq_false_iff, beq_eq_false_iff_ne, ne_eq] at h3); (simp [kstB, h2, h3]; done)))) ⟨Int.le_trans p1 hge.1, by dsimp only; omega, by dsimp only; rw [blobs_step p1 hlt, p3]⟩ (meas_lt (by omega) hlt)
  · (rename ¬ _ < pastBlob _ _ => hlt)
    have hb := blobs_stop p1 (show k ≤ (cl text).length by omega) hlt
    rw [p3] at hb
    have hsm : (mk (low (cl text))).length ≤ 4096 := by rw [mk_length, low_length]; omega
    refine For_unr g' ?_ (by intro _; rfl) (by passes_own)
    (repeat' (first | (k_unfold; (try dsimp only)) | ((fail_if_success ((first | (with_reducible show wpAny _ _ (exec (Stmt.For _ _ _ _ _) _) _ _ _) | (with_reducible show wpAny _ _ (pyIter _) _ _ _)))); (first | ((with_reducible show wpAny _ _ (call (Value.ref _) _) _ _ _); k_extra "w_call") | ((fail_if_success (with_reducible show wpAny _ _ (call (Value.ref _) _) _ _ _)); walk1))) | ((fail_if_success ((first | (with_reducible show wpAny _ _ (exec (Stmt.For _ _ _ _ _) _) _ _ _) | (with_reducible show wpAny _ _ (pyIter _) _ _ _)))); dsimp only; (first | ((with_reducible show wpAny _ _ (call (Value.ref _) _) _ _ _); k_extra "w_call") | ((fail_if_success (with_reducible show wpAny _ _ (call (Value.ref _) _) _ _ _)); walk1)))))
    (rename Fr g' _ _ _ => F2)
    (rename News g' _ _ _ => N2)
    have hT := top_tup (t := 27) F2 X' (by k_dflt k_is)
    with_unfolding_all
      refine' w_iterTup (σ := Unit) (fun _ => []) [Str.ofString "word", Str.ofString "behind"] (fun i _ => (1 ≤ i → tryW wRe ((cl text).drop k.toNat) = none) ∧ (2 ≤ i → tryW wFwd ((cl text).drop k.toNat) = none) ∧ (3 ≤ i → tryW wFw ((cl text).drop k.toNat) = none)) () rfl hT F2 N2 (Fr.tup_ne F2 hT) rfl rfl ?q1 ?q2 ?q3 ?q4
    case q1 => kst_all
    case q2 => exact ⟨fun h => absurd h (by decide), fun h => absurd h (by decide), fun h => absurd h (by decide)⟩
    case q3 =>
      intro i v c u3 h3 tk3 own hi hv' hP F3 N3
      obtain ⟨wd, tw, wl, rfl, hw, hpos, hcase⟩ : ∃ (wd : Str) (tw : Tok) (wl : List Nat), v = .str wd tw ∧ wd = mk wl ∧ 0 < wd.length ∧ ((i = 0 ∧ wl = wRe) ∨ (i = 1 ∧ wl = wFwd) ∨ (i = 2 ∧ wl = wFw)) := by
        match i, hv' with
        | 0, hv' => exact ⟨_, _, wRe, (Option.some.inj hv').symm, by decide +kernel, by decide +kernel, .inl ⟨rfl, rfl⟩⟩
        | 1, hv' => exact ⟨_, _, wFwd, (Option.some.inj hv').symm, by decide +kernel, by decide +kernel, .inr (.inl ⟨rfl, rfl⟩)⟩
        | 2, hv' => exact ⟨_, _, wFw, (Option.some.inj hv').symm, by decide +kernel, by decide +kernel, .inr (.inr ⟨rfl, rfl⟩)⟩
      have v1 := word_val text (n := wd.length) (w := wd) wl p1 (by rw [hw, mk_length]) hw
      have hsl : wd.length ≤ 4096 := by
        rcases hcase with ⟨_, rfl⟩ | ⟨_, rfl⟩ | ⟨_, rfl⟩ <;> rw [hw, mk_length] <;> decide
      clear hi hv' F2 N2
      (repeat' (first | (k_unfold; (try dsimp only)) | ((fail_if_success ((first | (with_reducible show wpAny _ _ (exec (Stmt.For _ _ _ _ _) _) _ _ _) | (with_reducible show wpAny _ _ (pyIter _) _ _ _)))); (first | ((with_reducible show wpAny _ _ (call (Value.ref _) _) _ _ _); k_extra "w_call") | ((fail_if_success (with_reducible show wpAny _ _ (call (Value.ref _) _) _ _ _)); walk1))) | ((fail_if_success ((first | (with_reducible show wpAny _ _ (exec (Stmt.For _ _ _ _ _) _) _ _ _) | (with_reducible show wpAny _ _ (pyIter _) _ _ _)))); dsimp only; (first | ((with_reducible show wpAny _ _ (call (Value.ref _) _) _ _ _); k_extra "w_call") | ((fail_if_success (with_reducible show wpAny _ _ (call (Value.ref _) _) _ _ _)); walk1)))))
      · refine cb_retI ret ?_ (by assumption) (cb_drop (by assumption) (fun p hp => List.mem_append_right _ hp))
        (rename (Txt.slice text _ _ == _) = true => q2)
        (rename (Txt.slice (mk (low (cl text))) _ _ == _) = true => q1)
        rw [q1, q2] at v1
        obtain ⟨r, hr, e⟩ := Option.map_eq_some_iff.mp v1
        rw [← e]
        exact (leader_at hb hcase hP hr).symm
      · (rename (Txt.slice text _ _ == _) = false => q2)
        rw [q2, Bool.and_false] at v1
        (rename Fr g' _ _ _ => F9)
        (rename News g' _ _ _ => N9)
        exact f_end () F9 N9 (by kst_all) (by ((intro z h2 h3; (simp only [List.forall_mem_cons, List.not_mem_nil, false_implies, implies_true, and_true, ne_eq] at h2); (simp only [List.contains_cons, List.contains_nil, Bool.or_false, Bool.or_eq_false_iff, beq_eq_false_iff_ne, ne_eq] at h3); (simp [kstB, h2, h3]; done)))) (leader_next hcase hP (Option.map_eq_none_iff.mp v1))
      · (rename (Txt.slice (mk (low (cl text))) _ _ == _) = false => q1)
        rw [q1, Bool.false_and] at v1
        (rename Fr g' _ _ _ => F9)
        (rename News g' _ _ _ => N9)
        exact f_end () F9 N9 (by kst_all) (by ((intro z h2 h3; (simp only [List.forall_mem_cons, List.not_mem_nil, false_implies, implies_true, and_true, ne_eq] at h2); (simp only [List.contains_cons, List.contains_nil, Bool.or_false, Bool.or_eq_false_iff, beq_eq_false_iff_ne, ne_eq] at h3); (simp [kstB, h2, h3]; done)))) (leader_next hcase hP (Option.map_eq_none_iff.mp v1))
    case q4 =>
      intro c u3 h3 tk3 hP F3 N3
      have e1 := hP.1 (Nat.le_of_ble_eq_true rfl)
      have e2 := hP.2.1 (Nat.le_of_ble_eq_true rfl)
      have e3 := hP.2.2 (Nat.le_of_ble_eq_true rfl)
      (repeat' (first | (k_unfold; (try dsimp only)) | ((fail_if_success ((first | (with_reducible show wpAny _ _ (exec (Stmt.For _ _ _ _ _) _) _ _ _) | (with_reducible show wpAny _ _ (pyIter _) _ _ _)))); (first | ((with_reducible show wpAny _ _ (call (Value.ref _) _) _ _ _); k_extra "w_call") | ((fail_if_success (with_reducible show wpAny _ _ (call (Value.ref _) _) _ _ _)); walk1))) | ((fail_if_success ((first | (with_reducible show wpAny _ _ (exec (Stmt.For _ _ _ _ _) _) _ _ _) | (with_reducible show wpAny _ _ (pyIter _) _ _ _)))); dsimp only; (first | ((with_reducible show wpAny _ _ (call (Value.ref _) _) _ _ _); k_extra "w_call") | ((fail_if_success (with_reducible show wpAny _ _ (call (Value.ref _) _) _ _ _)); walk1)))))
      refine cb_retI ret ?_ (by assumption) (by assumption)
      unfold leaderPos leader
      rw [hb, e1, e2, e3]
end Mine
end

section
namespace Mine
theorem TT_stop {l : List Nat} (h : trail (stripR l) = false) : TT l = (stripR l, false) := by
  rw [TT, dif_neg (by rw [h]; exact Bool.false_ne_true)]
theorem TT_go {l : List Nat} (h : trail (stripR l) = true) : TT l = ((TT (cutT (stripR l))).1, true) := by
  rw [TT, dif_pos h]
theorem LL_lead {l r : List Nat} (h : leader (dropBl l) = some r) : LL l = ((LL r).1, true) := by
  rw [LL]
  split
  · rename_i r' e; rw [h] at e; cases e; rfl
  · rename_i e; rw [h] at e; cases e
theorem LL_blob {l r : List Nat} (h : leader (dropBl l) = none) (hb : blob (dropBl l) = some r) (hr : r ≠ []) : LL l = LL r := by
  rw [LL]
  split
  · rename_i r' e; rw [h] at e; cases e
  · split
    · rename_i r' e; rw [hb] at e; cases e; rw [if_neg hr]
    · rename_i e; rw [hb] at e; cases e
theorem LL_stop1 {l : List Nat} (h : leader (dropBl l) = none) (hb : blob (dropBl l) = none) : LL l = (dropBl l, false) := by
  rw [LL]
  split
  · rename_i r' e; rw [h] at e; cases e
  · split
    · rename_i r' e; rw [hb] at e; cases e
    · rfl
theorem LL_stop2 {l : List Nat} (h : leader (dropBl l) = none) (hb : blob (dropBl l) = some []) : LL l = (dropBl l, false) := by
  rw [LL]
  split
  · rename_i r' e; rw [h] at e; cases e
  · split
    · rename_i r' e; rw [hb] at e; cases e; rw [if_pos rfl]
    · rfl
theorem TT_sub : ∀ (l : List Nat), (TT l).1 <+: l := by
  intro l
  rw [TT]
  split
  · rename_i h
    have := cutT_len h
    have := stripR_len l
    exact (TT_sub (cutT (stripR l))).trans ((List.take_prefix _ _).trans (stripR_prefix l))
  · exact stripR_prefix l
termination_by l => l.length
theorem LL_sub : ∀ (l : List Nat), (LL l).1 <:+ l := by
  intro l
  have := dropBl_len l
  cases hl : leader (dropBl l) with
  | some r =>
    have := (leader_suffix hl).2
    rw [LL_lead hl]
    exact (LL_sub r).trans ((leader_suffix hl).1.trans (dropBl_suffix l))
  | none =>
    cases hb : blob (dropBl l) with
    | none => rw [LL_stop1 hl hb]; exact dropBl_suffix l
    | some r =>
      have := blob_len hb
      by_cases hr : r = []
      · subst hr; rw [LL_stop2 hl hb]; exact dropBl_suffix l
      · rw [LL_blob hl hb hr]
        exact (LL_sub r).trans ((blob_suffix hb).trans (dropBl_suffix l))
termination_by l => l.length
theorem SS_stop {l : List Nat} (h : fwdQ (LL (TT l).1).1 = false) : SS l = ((LL (TT l).1).1, (TT l).2 || (LL (TT l).1).2) := by
  rw [SS, dif_neg (by rw [h]; exact Bool.false_ne_true)]
theorem SS_go {l : List Nat} (h : fwdQ (LL (TT l).1).1 = true) : SS l = ((SS (unfwd (LL (TT l).1).1)).1, true) := by
  rw [SS, dif_pos h]
end Mine
end

section
open PySem PySem.W PyProof.Rows PySem.Spec PySem.Calls
set_option maxRecDepth 100000
set_option maxHeartbeats 8000000
namespace Mine
/-- a text that the model's chr takes, and short -/
def Ok (x : Str) : Prop := x.length ≤ 4096 ∧ ∀ c ∈ cl x, c < 1114112
theorem Ok.of_sub {x y : Str} (h : Ok x) (hs : ∀ c ∈ cl y, c ∈ cl x) (hl : y.length ≤ x.length) : Ok y := ⟨Nat.le_trans hl h.1, fun c hc => h.2 c (hs c hc)⟩
theorem Ok.slice {x : Str} (h : Ok x) (a b : Option Int) : Ok (Txt.slice x a b) :=
  h.of_sub (fun c hc => by rw [slice_cl] at hc; exact List.mem_of_mem_take (List.mem_of_mem_drop hc)) (Txt.slice_le x a b)
theorem Ok.rstrip {x : Str} (h : Ok x) : Ok (Txt.rstripChars x (Str.ofString " ")) :=
  h.of_sub (fun c hc => by rw [cl_rstrip] at hc; exact (stripR_prefix _).subset hc) (len_rstripChars _ _)
theorem Ok.lstrip {x : Str} (h : Ok x) : Ok (Txt.lstripChars x (Str.ofString " ")) :=
  h.of_sub (fun c hc => by rw [cl_lstrip] at hc; exact (dropBl_suffix _).subset hc) (len_lstripChars _ _)
theorem lower_text_ok (w : World) (mean : ExcName → Option Value) (mg mb : Str → Option Value) (text : Str) (t0 : Tok) (ho : Ok text) :
   Does w mean mg mb 2 32 26 [.str text t0] (fun t => .str (mk (low (cl text))) t) := lower_text_does w mean mg mb text t0 ho.1 ho.2
theorem past_leader_ok (w : World) (mean : ExcName → Option Value) (mg mb : Str → Option Value) (text : Str) (t0 : Tok) (ho : Ok text) :
   Does w mean mg mb 4 64 53 [.str text t0] (fun t => .int (leaderPos (cl text)) t) := past_leader_does w mean mg mb text t0 ho.1 ho.2

theorem tr_is : Str.ofString "(fwd)" = mk wTr := by decide +kernel
theorem trail_test (y : Str) : (mk (low (cl (Txt.slice y (some (-((5 : Nat) : Int))) none))) != Str.ofString "(fwd)") = !trail (cl y) := by
  rw [tr_is, bne, beq_cl, cl_mk, cl_mk, slice_last (by omega)]
  rfl
abbrev tupSB (x : Str) (t : Tok) (b : Bool) (c : Nat) : Obj := { cls := .type "tuple", data := .seq #[.str x t, .bool b] c }
/-- a call that hands back a new tuple of a text and a bool -/
def DoesT (w : World) (mean : ExcName → Option Value) (mg mb : Str → Option Value) (kd ku : Nat) (f : Addr) (vs : List Value) (x : Str) (b : Bool) : Prop :=
  ∀ (dp un : Nat) (gd : Option (List Code)) (cn : Str) (cs : Scope) (a : Addr) (ccd : Value) (cl : List (Str × Addr)) (outer : List Env) (A₀ : Around) (base h₀ : Heap) (L : Addr) (m : Str → Option Value) (news : List (Addr × Obj)) (s : Shared)
    (Q E : Value → Shared → Prop),
    Below A₀ base outer h₀ → Fr h₀ L s.heap m → (hd.heap_39 w.params).In h₀ → News h₀ L s.heap news → Top hd.view_39 (looseW hd.view_39 [Str.ofString "_law_words"]) mean mg mb h₀ → cs.kind = .function →
    dp + kd < recursionLimit → un + ku < cLine →
    (∀ D t c h' tk', Fr h₀ L h' m → News h₀ L h' ((D, tupSB x t b c) :: news) → (∀ p ∈ news, p.1 < D) → Q (.ref D) { s with heap := h', toks := tk' }) →
    wpAny (model PySem.Challenge.rw_no0349_01.row.prog w) (ktrTop dp un gd cn cs L a ccd cl outer) (call (.ref f) vs) Q E s
theorem without_trailers_does (w : World) (mean : ExcName → Option Value) (mg mb : Str → Option Value) (text : Str) (t0 : Tok) (ho : Ok text) :
   DoesT w mean mg mb 4 64 60 [.str text t0] (mk (TT (cl text)).1) (TT (cl text)).2 := by
  unfold DoesT
  k_fill
  k_with_none
  (k_with "WPost" => (dsimp only [WPost]))
  (k_with "w_call" => (k_here; (with_reducible show wpAny _ _ (call (Value.ref 26) [Value.str _ _]) _ _ _); (k_dflt (refine lower_text_ok _ _ _ _ _ _ (by (repeat (first | assumption | apply Ok.slice | apply Ok.rstrip | apply Ok.lstrip))) _ _ _ _ _ _ _ _ _ _ _ _ _ _ _ _ _ _ (by k_asm) (by k_asm) (by k_asm) (by k_asm) (by k_asm) (by first | exact rfl | assumption) (by ktr_room) (by ktr_units) ?_)); intro t9 h9 tk9 F9 N9; (try dsimp only); (try k_fold)))
  intro dp un gd cn cs a ccd clo outer A₀ base h₀ L m news s Q E B F X N T hk hd hu ret
  refine wpAny_call ?_
  k_dflt cell_enter
  (repeat (first | ((fail_if_success (with_reducible show wpAny _ _ (exec (Stmt.While _ _ _ _) _) _ _ _)); ((first | (k_unfold; (try dsimp only)) | (first | ((with_reducible show wpAny _ _ (call (Value.ref _) _) _ _ _); k_extra "w_call") | ((fail_if_success (with_reducible show wpAny _ _ (call (Value.ref _) _) _ _ _)); walk1)) | (dsimp only; (first | ((with_reducible show wpAny _ _ (call (Value.ref _) _) _ _ _); k_extra "w_call") | ((fail_if_success (with_reducible show wpAny _ _ (call (Value.ref _) _) _ _ _)); walk1))))))))
  (rename Fr _ _ _ _ => F1)
  (rename News _ _ _ _ => N1)
  with_unfolding_all
    refine' w_while (σ := (Str × Tok) × Bool) (fun _ => news) (fun c => [(Str.ofString "text", .str c.1.1 c.1.2), (Str.ofString "is_cut", .bool c.2)]) []
      (fun c => Ok c.1.1 ∧ (TT (cl c.1.1)).1 = (TT (cl text)).1 ∧ (c.2 || (TT (cl c.1.1)).2) = (TT (cl text)).2) (fun c => c.1.1.length) ((text, t0), false) F1 N1 ?k2 ?k3 ?k4 ?k5
  case k2 => kst_all
  case k3 => exact ⟨ho, rfl, rfl⟩
  case k5 => passes_own
  clear F1 N1
  rintro ⟨⟨x, tx⟩, b⟩ u h1 tk1 ⟨p1, p2, p3⟩ F1 N1
  dsimp only at p1 p2 p3
  have hx := p1.1
  (repeat' (first | (k_unfold; (try dsimp only)) | (first | ((with_reducible show wpAny _ _ (call (Value.ref _) _) _ _ _); k_extra "w_call") | ((fail_if_success (with_reducible show wpAny _ _ (call (Value.ref _) _) _ _ _)); walk1)) | (dsimp only; (first | ((with_reducible show wpAny _ _ (call (Value.ref _) _) _ _ _); k_extra "w_call") | ((fail_if_success (with_reducible show wpAny _ _ (call (Value.ref _) _) _ _ _)); walk1)))))
  · (rename (_ != _) = true => hc)
    rw [trail_test, cl_rstrip, Bool.not_eq_true'] at hc
    have e := TT_stop hc
    rw [e] at p2 p3
    dsimp only at p2 p3
    rw [Bool.or_false] at p3
    have e1 : Txt.rstripChars x (Str.ofString " ") = mk (TT (cl text)).1 := eq_mk (by rw [cl_rstrip, p2])
    rw [← e1, ← p3] at ret
    exact ret _ _ _ _ _ (by assumption) (by assumption) (by assumption)
  · (rename (_ != _) = false => hc)
    rw [trail_test, cl_rstrip, Bool.not_eq_false'] at hc
    have e := TT_go hc
    rw [e] at p2 p3
    dsimp only at p2 p3
    rw [Bool.or_true] at p3
    have e1 : cl (Txt.slice (Txt.rstripChars x (Str.ofString " ")) none (some (-((5 : Nat) : Int)))) = cutT (stripR (cl x)) := by
      rw [slice_front (by omega), cl_rstrip]; rfl
    have e2 := cutT_len hc
    have e3 := stripR_len (cl x)
    (rename Fr _ _ _ _ => F9)
    (rename News _ _ _ _ => N9)
    refine w_end ((Txt.slice (Txt.rstripChars x (Str.ofString " ")) none (some (-((5 : Nat) : Int))), _), true) F9 N9 (fun _ h => h) (by kst_all) (by ((intro z h2 h3; (simp only [List.forall_mem_cons, List.not_mem_nil, false_implies, implies_true, and_true, ne_eq] at h2); (simp only [List.contains_cons, List.contains_nil, Bool.or_false, Bool.or_eq_false_iff, beq_eq_false_iff_ne, ne_eq] at h3); (simp [kstB, h2, h3]; done)))) ⟨p1.rstrip.slice _ _, by dsimp only; rw [e1, p2], by dsimp only; rw [Bool.true_or, p3]⟩ ?_
    dsimp only
    rw [← cl_length, ← cl_length, e1]
    omega
end Mine
end

section
open PySem PySem.W PyProof.Rows PySem.Spec PySem.Calls
set_option maxRecDepth 100000
set_option maxHeartbeats 8000000
namespace Mine
theorem leaderPos_yes {l : List Nat} (h : 0 < leaderPos l) : ∃ r, leader l = some r ∧ l.drop (leaderPos l).toNat = r := by
  unfold leaderPos at h ⊢
  cases e : leader l with
  | none => rw [e] at h; exact absurd h (Int.lt_irrefl 0)
  | some r =>
    refine ⟨r, rfl, ?_⟩
    dsimp only
    rw [show ((l.length : Int) - (r.length : Int)).toNat = l.length - r.length by omega]
    exact suffix_drop (leader_suffix e).1
theorem leaderPos_no {l : List Nat} (h : ¬ 0 < leaderPos l) : leader l = none := by
  unfold leaderPos at h
  cases e : leader l with
  | none => rfl
  | some r =>
    have := (leader_suffix e).2
    rw [e] at h
    dsimp only at h
    omega
theorem blob0_stop {l : List Nat} (hl : leader (dropBl l) = none) (h : pastBlob (dropBl l) 0 = 0 ∨ pastBlob (dropBl l) 0 = (dropBl l).length) : LL l = (dropBl l, false) := by
  unfold pastBlob at h
  rw [show (0 : Int).toNat = 0 from rfl, List.drop_zero] at h
  cases hb : blob (dropBl l) with
  | none => exact LL_stop1 hl hb
  | some r =>
    rw [hb] at h
    have := blob_len hb
    dsimp only at h
    have hr : r = [] := List.eq_nil_of_length_eq_zero (by omega)
    subst hr
    exact LL_stop2 hl hb
theorem blob0_go {l : List Nat} (hl : leader (dropBl l) = none) (h0 : ¬ pastBlob (dropBl l) 0 = 0) (h : ¬ pastBlob (dropBl l) 0 = (dropBl l).length) :
    ∃ r, LL l = LL r ∧ (dropBl l).drop (pastBlob (dropBl l) 0).toNat = r ∧ r.length < (dropBl l).length := by
  have hd := drop_pastBlob (l := dropBl l) 0
  rw [show (0 : Int).toNat = 0 from rfl, List.drop_zero] at hd
  unfold pastBlob at h h0
  rw [show (0 : Int).toNat = 0 from rfl, List.drop_zero] at h h0
  cases hb : blob (dropBl l) with
  | none => rw [hb] at h0; exact absurd rfl h0
  | some r =>
    rw [hb] at h
    dsimp only at h
    have hr : r ≠ [] := fun e => h (by rw [e]; simp)
    unfold skipBlob at hd
    rw [hb] at hd
    exact ⟨r, LL_blob hl hb hr, hd, blob_len hb⟩
theorem leaderPos_nonneg (l : List Nat) : 0 ≤ leaderPos l := by
  unfold leaderPos
  cases e : leader l with
  | none => exact Int.le_refl 0
  | some r => have := (leader_suffix e).2; dsimp only; omega
theorem without_leaders_does (w : World) (mean : ExcName → Option Value) (mg mb : Str → Option Value) (text : Str) (t0 : Tok) (ho : Ok text) :
   DoesT w mean mg mb 6 96 67 [.str text t0] (mk (LL (cl text)).1) (LL (cl text)).2 := by
  unfold DoesT
  k_fill
  k_with_none
  (k_with "WPost" => (dsimp only [WPost]))
  (k_with "w_call" => (k_here; (with_reducible show wpAny _ _ (call (Value.ref 46) [Value.str _ _, Value.int _ _]) _ _ _); (k_dflt (refine past_blob_does _ _ _ _ _ _ _ _ (by omega) (by omega) _ _ _ _ _ _ _ _ _ _ _ _ _ _ _ _ _ _ (by k_asm) (by k_asm) (by k_asm) (by k_asm) (by k_asm) (by first | exact rfl | assumption) (by ktr_room) (by ktr_units) ?_)); intro t9 h9 tk9 F9 N9; (try dsimp only); (try k_fold)))
  (k_with "w_call" => (k_here; (with_reducible show wpAny _ _ (call (Value.ref 53) [Value.str _ _]) _ _ _); (k_dflt (refine past_leader_ok _ _ _ _ _ _ (by (repeat (first | assumption | apply Ok.slice | apply Ok.rstrip | apply Ok.lstrip))) _ _ _ _ _ _ _ _ _ _ _ _ _ _ _ _ _ _ (by k_asm) (by k_asm) (by k_asm) (by k_asm) (by k_asm) (by first | exact rfl | assumption) (by ktr_room) (by ktr_units) ?_)); intro t9 h9 tk9 F9 N9; (try dsimp only); (try k_fold)))
  intro dp un gd cn cs a ccd clo outer A₀ base h₀ L m news s Q E B F X N T hk hd hu ret
  refine wpAny_call ?_
  k_dflt cell_enter
  (repeat (first | ((fail_if_success (with_reducible show wpAny _ _ (exec (Stmt.While _ _ _ _) _) _ _ _)); ((first | (k_unfold; (try dsimp only)) | (first | ((with_reducible show wpAny _ _ (call (Value.ref _) _) _ _ _); k_extra "w_call") | ((fail_if_success (with_reducible show wpAny _ _ (call (Value.ref _) _) _ _ _)); walk1)) | (dsimp only; (first | ((with_reducible show wpAny _ _ (call (Value.ref _) _) _ _ _); k_extra "w_call") | ((fail_if_success (with_reducible show wpAny _ _ (call (Value.ref _) _) _ _ _)); walk1))))))))
  (rename Fr _ _ _ _ => F1)
  (rename News _ _ _ _ => N1)
  with_unfolding_all
    refine' w_while (σ := (Str × Tok) × Bool) (fun _ => news) (fun c => [(Str.ofString "text", .str c.1.1 c.1.2), (Str.ofString "is_cut", .bool c.2)]) [Str.ofString "behind"]
      (fun c => Ok c.1.1 ∧ (LL (cl c.1.1)).1 = (LL (cl text)).1 ∧ (c.2 || (LL (cl c.1.1)).2) = (LL (cl text)).2) (fun c => c.1.1.length) ((text, t0), false) F1 N1 ?k2 ?k3 ?k4 ?k5
  case k2 => kst_all
  case k3 => exact ⟨ho, rfl, rfl⟩
  case k5 => passes_own
  clear F1 N1
  rintro ⟨⟨x, tx⟩, b⟩ u h1 tk1 ⟨p1, p2, p3⟩ F1 N1
  dsimp only at p1 p2 p3
  have hx := p1.1
  have hy : cl (Txt.lstripChars x (Str.ofString " ")) = dropBl (cl x) := cl_lstrip x
  have hyl : (dropBl (cl x)).length = (Txt.lstripChars x (Str.ofString " ")).length := by rw [← hy, cl_length]
  have hle := dropBl_len (cl x)
  have hxl := cl_length x
  (repeat' (first | (k_unfold; (try dsimp only)) | (first | ((with_reducible show wpAny _ _ (call (Value.ref _) _) _ _ _); k_extra "w_call") | ((fail_if_success (with_reducible show wpAny _ _ (call (Value.ref _) _) _ _ _)); walk1)) | (dsimp only; (first | ((with_reducible show wpAny _ _ (call (Value.ref _) _) _ _ _); k_extra "w_call") | ((fail_if_success (with_reducible show wpAny _ _ (call (Value.ref _) _) _ _ _)); walk1)))))
  · (rename 0 < leaderPos _ => hc)
    rw [hy] at hc
    obtain ⟨r, e1, e2⟩ := leaderPos_yes hc
    have e := LL_lead e1
    rw [e] at p2 p3
    dsimp only at p2 p3
    rw [Bool.or_true] at p3
    have e3 : cl (Txt.slice (Txt.lstripChars x (Str.ofString " ")) (some (leaderPos (cl (Txt.lstripChars x (Str.ofString " "))))) none) = r := by
      rw [hy, slice_n_ (leaderPos_nonneg _), hy, e2]
    have e4 := (leader_suffix e1).2
    (rename Fr _ _ _ _ => F9)
    (rename News _ _ _ _ => N9)
    refine w_end ((Txt.slice (Txt.lstripChars x (Str.ofString " ")) (some (leaderPos (cl (Txt.lstripChars x (Str.ofString " "))))) none, _), true) F9 N9 (fun _ h => h) (by kst_all) (by ((intro z h2 h3; (simp only [List.forall_mem_cons, List.not_mem_nil, false_implies, implies_true, and_true, ne_eq] at h2); (simp only [List.contains_cons, List.contains_nil, Bool.or_false, Bool.or_eq_false_iff, beq_eq_false_iff_ne, ne_eq] at h3); (simp [kstB, h2, h3]; done)))) ⟨p1.lstrip.slice _ _, by dsimp only; rw [e3, p2], by dsimp only; rw [Bool.true_or, p3]⟩ ?_
    dsimp only
    rw [← cl_length, ← cl_length, e3]
    omega
  · (rename ¬ 0 < leaderPos _ => hc)
    (rename pastBlob _ 0 = 0 => hb)
    rw [hy] at hc hb
    have e := blob0_stop (leaderPos_no hc) (.inl hb)
    rw [e] at p2 p3
    dsimp only at p2 p3
    rw [Bool.or_false] at p3
    have e1 : Txt.lstripChars x (Str.ofString " ") = mk (LL (cl text)).1 := eq_mk (by rw [hy, p2])
    rw [← e1, ← p3] at ret
    exact ret _ _ _ _ _ (by assumption) (by assumption) (by assumption)
  · (rename ¬ 0 < leaderPos _ => hc)
    (rename pastBlob _ 0 = _ => hb)
    rw [hy] at hc hb
    have e := blob0_stop (leaderPos_no hc) (.inr (by rw [hb, hyl]))
    rw [e] at p2 p3
    dsimp only at p2 p3
    rw [Bool.or_false] at p3
    have e1 : Txt.lstripChars x (Str.ofString " ") = mk (LL (cl text)).1 := eq_mk (by rw [hy, p2])
    rw [← e1, ← p3] at ret
    exact ret _ _ _ _ _ (by assumption) (by assumption) (by assumption)
  · (rename ¬ 0 < leaderPos _ => hc)
    (rename pastBlob _ 0 ≠ 0 => hb0)
    (rename pastBlob _ 0 ≠ ((Str.length _ : Nat) : Int) => hb)
    rw [hy] at hc hb0 hb
    obtain ⟨r, e, e2, e4⟩ := blob0_go (leaderPos_no hc) hb0 (by rw [hyl]; exact hb)
    rw [e] at p2 p3
    have e3 : cl (Txt.slice (Txt.lstripChars x (Str.ofString " ")) (some (pastBlob (cl (Txt.lstripChars x (Str.ofString " "))) 0)) none) = r := by
      rw [hy, slice_n_ (pastBlob_nonneg _ (Int.le_refl 0)), hy, e2]
    (rename Fr _ _ _ _ => F9)
    (rename News _ _ _ _ => N9)
    refine w_end ((Txt.slice (Txt.lstripChars x (Str.ofString " ")) (some (pastBlob (cl (Txt.lstripChars x (Str.ofString " "))) 0)) none, _), b) F9 N9 (fun _ h => h) (by kst_all) (by ((intro z h2 h3; (simp only [List.forall_mem_cons, List.not_mem_nil, false_implies, implies_true, and_true, ne_eq] at h2); (simp only [List.contains_cons, List.contains_nil, Bool.or_false, Bool.or_eq_false_iff, beq_eq_false_iff_ne, ne_eq] at h3); (simp [kstB, h2, h3]; done)))) ⟨p1.lstrip.slice _ _, by dsimp only; rw [e3, p2], by dsimp only; rw [e3, p3]⟩ ?_
    dsimp only
    rw [← cl_length, ← cl_length, e3]
    omega
end Mine
end

section
open PySem PySem.W PyProof.Rows PySem.Spec PySem.Calls
set_option maxRecDepth 100000
set_option maxHeartbeats 8000000
namespace Mine
/-- the ways of an if's test, joined -/
def IOut (h₀ : Heap) (L : Addr) (s : Shared) (news : List (Addr × Obj)) (m : Str → Option Value) (R : Bool → Prop) (b : Bool) (s₂ : Shared) : Prop :=
  ∃ (h' : Heap) (tk : Nat), s₂ = { s with heap := h', toks := tk } ∧ Fr h₀ L h' m ∧ News h₀ L h' news ∧ R b
theorem i_out {h₀ : Heap} {L : Addr} {s : Shared} {news nn : List (Addr × Obj)} {m : Str → Option Value} {R : Bool → Prop} {b : Bool} {h' : Heap} {tk : Nat} (F : Fr h₀ L h' m) (N : News h₀ L h' nn) (hR : R b) (hs : ∀ p ∈ news, p ∈ nn := by (intro p hp; repeat (first | exact hp | apply List.mem_cons_of_mem))) : IOut h₀ L s news m R b { s with heap := h', toks := tk } :=
  ⟨h', tk, rfl, F, fun p hp => N p (hs p hp), hR⟩
theorem w_ifJ {prog : Program} {w : World} {A : Around} {E : Value → Shared → Prop} {Q : Flow → Shared → Prop} {s : Shared} {env : Env} {h₀ : Heap} {L : Addr} {test : PySem.Expr} {body orelse : List Stmt} {pos : Pos} {m : Str → Option Value} {news : List (Addr × Obj)}
    (R : Bool → Prop) (_ : Fr h₀ L s.heap m) (_ : News h₀ L s.heap news)
    (ht : wpAny (model prog w) A (isTrue test env (eval test env)) (IOut h₀ L s news m R) E s)
    (hT : ∀ h tk, R true → Fr h₀ L h m → News h₀ L h news → wpAny (model prog w) A (execs body env) Q E { s with heap := h, toks := tk })
    (hF : ∀ h tk, R false → Fr h₀ L h m → News h₀ L h news → wpAny (model prog w) A (execs orelse env) Q E { s with heap := h, toks := tk }) :
    wpAny (model prog w) A (exec (.If test body orelse pos) env) Q E s := by
  refine wpAny_If (wpAny_mono ht (fun b s₂ p => ?_) fun _ _ x => x)
  obtain ⟨h', tk', rfl, F', N', hR⟩ := p
  cases b with
  | true => simpa using hT h' tk' hR F' N'
  | false => simpa using hF h' tk' hR F' N'
/-- the ways of an expression that yields a bool, joined -/
def VOut (h₀ : Heap) (L : Addr) (s : Shared) (news : List (Addr × Obj)) (m : Str → Option Value) (val : Bool) (v : Value) (s₂ : Shared) : Prop :=
  v = .bool val ∧ ∃ (h' : Heap) (tk : Nat), s₂ = { s with heap := h', toks := tk } ∧ Fr h₀ L h' m ∧ News h₀ L h' news
theorem v_out {h₀ : Heap} {L : Addr} {s : Shared} {news : List (Addr × Obj)} {m : Str → Option Value} {val b : Bool} {h' : Heap} {tk : Nat} (F : Fr h₀ L h' m) (N : News h₀ L h' news) (hv : b = val) : VOut h₀ L s news m val (.bool b) { s with heap := h', toks := tk } :=
  ⟨by rw [hv], h', tk, rfl, F, N⟩
theorem w_evalJ {prog : Program} {w : World} {A : Around} {E : Value → Shared → Prop} {Q : Value → Shared → Prop} {s : Shared} {env : Env} {h₀ : Heap} {L : Addr} {e : PySem.Expr} {m : Str → Option Value} {news : List (Addr × Obj)}
    (val : Bool) (_ : Fr h₀ L s.heap m) (_ : News h₀ L s.heap news) (he : wpAny (model prog w) A (eval e env) (VOut h₀ L s news m val) E s)
    (h : ∀ h' tk, Fr h₀ L h' m → News h₀ L h' news → Q (.bool val) { s with heap := h', toks := tk }) : wpAny (model prog w) A (eval e env) Q E s := by
  refine wpAny_mono he (fun v s₂ p => ?_) fun _ _ x => x
  obtain ⟨rfl, h', tk', rfl, F', N'⟩ := p
  exact h h' tk' F' N'
end Mine
end

section
open PySem PySem.W PyProof.Rows PySem.Spec PySem.Calls
set_option maxRecDepth 100000
set_option maxHeartbeats 8000000
namespace Mine
theorem Ok_NN {text : Str} (h : Ok text) : Ok (NN text) := by
  refine ⟨?_, fun c hc => ?_⟩
  · have := nrm_len (cl text)
    rw [← cl_length, cl_NN]
    rw [cl_length] at this
    exact Nat.le_trans this h.1
  · rw [cl_NN] at hc
    obtain ⟨d, hd, rfl⟩ := nrm_mem hc
    have := h.2 d hd
    unfold wsN
    split <;> omega
theorem Ok.mk_sub {x : Str} (h : Ok x) {l : List Nat} (hs : l.Sublist (cl x)) : Ok (mk l) :=
  h.of_sub (fun c hc => by rw [cl_mk] at hc; exact hs.subset hc) (by rw [mk_length, ← cl_length]; exact hs.length_le)
theorem Ok.TT {x : Str} (h : Ok x) : Ok (mk (TT (cl x)).1) := h.mk_sub (TT_sub _).sublist
theorem Ok.LL {x : Str} (h : Ok x) : Ok (mk (LL (cl x)).1) := h.mk_sub (LL_sub _).sublist
theorem fo_is : Str.ofString "[fwd:" = mk wFo := by decide +kernel
theorem fwd_test1 (z : Str) : (mk (low (cl (Txt.slice z none (some ((5 : Nat) : Int))))) != Str.ofString "[fwd:") = !(low ((cl z).take 5) == wFo) := by
  rw [fo_is, bne, beq_cl, cl_mk, cl_mk, slice_n (by omega)]
  rfl
theorem fwd_test2 (z : Str) : (Txt.slice z (some (-1)) none != Str.ofString "]") = !((cl z).drop ((cl z).length - 1) == [93]) := by
  have e : Str.ofString "]" = mk [93] := by decide +kernel
  rw [e, bne, beq_cl, cl_mk, show (-1 : Int) = -((1 : Nat) : Int) from rfl, slice_last (by omega)]
theorem allLt_mem {d : Addr} {l : List (Addr × Obj)} (h : AllLt d l) : ∀ p ∈ l, p.1 < d := by
  induction l with
  | nil => intro p hp; exact absurd hp (List.not_mem_nil)
  | cons a r ih =>
    intro p hp
    rcases List.mem_cons.mp hp with e | hp
    · rw [e]; exact h.1
    · exact ih h.2 p hp
theorem news_keep1 {h₀ h : Heap} {L : Addr} {a x y : Addr × Obj} {news : List (Addr × Obj)} (N : News h₀ L h (a :: x :: y :: news)) : News h₀ L h (a :: news) := fun p hp => N p (by
  rcases List.mem_cons.mp hp with rfl | hp
  · exact List.mem_cons_self
  · exact List.mem_cons_of_mem _ (List.mem_cons_of_mem _ (List.mem_cons_of_mem _ hp)))
theorem one_blanks_ok (w : World) (mean : ExcName → Option Value) (mg mb : Str → Option Value) (text : Str) (t0 : Tok) (ho : Ok text) :
   Does w mean mg mb 2 32 32 [.str text t0] (fun t => .str (NN text) t) := one_blanks_does w mean mg mb text t0 ho.1
theorem base_subject_does (w : World) (mean : ExcName → Option Value) (mg mb : Str → Option Value) (text : Str) (t0 : Tok) (ho : Ok text) :
   DoesT w mean mg mb 8 128 74 [.str text t0] (mk (SS (cl (NN text))).1) (SS (cl (NN text))).2 := by
  unfold DoesT
  k_fill
  k_with_none
  (k_with "WPost" => (dsimp only [WPost]))
  (k_with "w_call" => (k_here; (with_reducible show wpAny _ _ (call (Value.ref 26) [Value.str _ _]) _ _ _); (k_dflt (refine lower_text_ok _ _ _ _ _ _ (by (repeat (first | assumption | apply Ok.slice | apply Ok.rstrip | apply Ok.lstrip | apply Ok.TT | apply Ok.LL))) _ _ _ _ _ _ _ _ _ _ _ _ _ _ _ _ _ _ (by k_asm) (by k_asm) (by k_asm) (by k_asm) (by k_asm) (by first | exact rfl | assumption) (by ktr_room) (by ktr_units) ?_)); intro t9 h9 tk9 F9 N9; (try dsimp only); (try k_fold)))
  (k_with "w_call" => (k_here; (with_reducible show wpAny _ _ (call (Value.ref 32) [Value.str _ _]) _ _ _); (k_dflt (refine one_blanks_ok _ _ _ _ _ _ (by (repeat (first | assumption | apply Ok.slice | apply Ok.rstrip | apply Ok.lstrip | apply Ok.TT | apply Ok.LL))) _ _ _ _ _ _ _ _ _ _ _ _ _ _ _ _ _ _ (by k_asm) (by k_asm) (by k_asm) (by k_asm) (by k_asm) (by first | exact rfl | assumption) (by ktr_room) (by ktr_units) ?_)); intro t9 h9 tk9 F9 N9; (try dsimp only); (try k_fold)))
  (k_with "w_call" => (k_here; (with_reducible show wpAny _ _ (call (Value.ref 60) [Value.str _ _]) _ _ _); (k_dflt (refine without_trailers_does _ _ _ _ _ _ (by (repeat (first | assumption | apply Ok.slice | apply Ok.rstrip | apply Ok.lstrip | apply Ok.TT | apply Ok.LL))) _ _ _ _ _ _ _ _ _ _ _ _ _ _ _ _ _ _ (by k_asm) (by k_asm) (by k_asm) (by k_asm) (by k_asm) (by first | exact rfl | assumption) (by ktr_room) (by ktr_units) ?_)); intro D9 t9 c9 h9 tk9 F9 N9 l9; (try dsimp only); (try k_fold)))
  (k_with "w_call" => (k_here; (with_reducible show wpAny _ _ (call (Value.ref 67) [Value.str _ _]) _ _ _); (k_dflt (refine without_leaders_does _ _ _ _ _ _ (by (repeat (first | assumption | apply Ok.slice | apply Ok.rstrip | apply Ok.lstrip | apply Ok.TT | apply Ok.LL))) _ _ _ _ _ _ _ _ _ _ _ _ _ _ _ _ _ _ (by k_asm) (by k_asm) (by k_asm) (by k_asm) (by k_asm) (by first | exact rfl | assumption) (by ktr_room) (by ktr_units) ?_)); intro D9 t9 c9 h9 tk9 F9 N9 l9; (try dsimp only); (try k_fold)))
  intro dp un gd cn cs a ccd clo outer A₀ base h₀ L m news s Q E B F X N T hk hd hu ret
  refine wpAny_call ?_
  k_dflt cell_enter
  (repeat (first | ((fail_if_success (with_reducible show wpAny _ _ (exec (Stmt.While _ _ _ _) _) _ _ _)); ((first | (k_unfold; (try dsimp only)) | (first | ((with_reducible show wpAny _ _ (call (Value.ref _) _) _ _ _); k_extra "w_call") | ((fail_if_success (with_reducible show wpAny _ _ (call (Value.ref _) _) _ _ _)); walk1)) | (dsimp only; (first | ((with_reducible show wpAny _ _ (call (Value.ref _) _) _ _ _); k_extra "w_call") | ((fail_if_success (with_reducible show wpAny _ _ (call (Value.ref _) _) _ _ _)); walk1))))))))
  (rename Fr _ _ _ _ => F1)
  (rename News _ _ _ _ => N1)
  with_unfolding_all
    refine' w_while (σ := (Str × Tok) × Bool) (fun _ => news) (fun c => [(Str.ofString "rest", .str c.1.1 c.1.2), (Str.ofString "is_reply", .bool c.2)]) [Str.ofString "is_cut", Str.ofString "is_led"]
      (fun c => Ok c.1.1 ∧ (SS (cl c.1.1)).1 = (SS (cl (NN text))).1 ∧ (c.2 || (SS (cl c.1.1)).2) = (SS (cl (NN text))).2) (fun c => c.1.1.length) ((NN text, _), false) F1 N1 ?k2 ?k3 ?k4 ?k5
  case k2 => kst_all
  case k3 => exact ⟨Ok_NN ho, rfl, rfl⟩
  case k5 => passes_own
  clear F1 N1
  rintro ⟨⟨x, tx⟩, b⟩ u h1 tk1 ⟨p1, p2, p3⟩ F1 N1
  dsimp only at p1 p2 p3
  have hx := p1.1
  have hz : (mk (LL (cl (mk (TT (cl x)).1))).1).length ≤ 4096 := (p1.TT).LL.1
  have hcz : cl (mk (LL (cl (mk (TT (cl x)).1))).1) = (LL (TT (cl x)).1).1 := by rw [cl_mk, cl_mk]
  have hz2 : (mk (LL (cl (mk (TT (cl x)).1))).1).length ≤ x.length := by
    rw [mk_length, cl_mk, ← cl_length]
    exact Nat.le_trans (LL_len _) (TT_len _)
  have hL2 : (LL (cl (mk (TT (cl x)).1))).2 = (LL (TT (cl x)).1).2 := by rw [cl_mk]
  have hZ : Ok (mk (LL (cl (mk (TT (cl x)).1))).1) := p1.TT.LL
  have stop : fwdQ (LL (TT (cl x)).1).1 = false → ∀ v : Bool, v = (b || ((TT (cl x)).2 || (LL (cl (mk (TT (cl x)).1))).2)) → mk (LL (cl (mk (TT (cl x)).1))).1 = mk (SS (cl (NN text))).1 ∧ v = (SS (cl (NN text))).2 := by
    intro h v hv
    have e := SS_stop h
    rw [e] at p2 p3
    dsimp only at p2 p3
    rw [hv, hL2, ← p3, ← p2]
    exact ⟨eq_mk hcz, rfl⟩
  have t1 := fwd_test1 (mk (LL (cl (mk (TT (cl x)).1))).1)
  have t2 := fwd_test2 (mk (LL (cl (mk (TT (cl x)).1))).1)
  rw [hcz] at t1 t2
  have stop1 : (mk (low (cl (Txt.slice (mk (LL (cl (mk (TT (cl x)).1))).1) none (some ((5 : Nat) : Int))))) != Str.ofString "[fwd:") = true → fwdQ (LL (TT (cl x)).1).1 = false := by
    intro h
    rw [t1, Bool.not_eq_true'] at h
    unfold fwdQ
    rw [h, Bool.false_and]
  have stop2 : (Txt.slice (mk (LL (cl (mk (TT (cl x)).1))).1) (some (-1)) none != Str.ofString "]") = true → fwdQ (LL (TT (cl x)).1).1 = false := by
    intro h
    rw [t2, Bool.not_eq_true'] at h
    unfold fwdQ
    rw [h, Bool.and_false]
  have go : (mk (low (cl (Txt.slice (mk (LL (cl (mk (TT (cl x)).1))).1) none (some ((5 : Nat) : Int))))) != Str.ofString "[fwd:") = false →
      (Txt.slice (mk (LL (cl (mk (TT (cl x)).1))).1) (some (-1)) none != Str.ofString "]") = false →
      (SS (cl (Txt.slice (mk (LL (cl (mk (TT (cl x)).1))).1) (some ((5 : Nat) : Int)) (some (-1))))).1 = (SS (cl (NN text))).1 ∧ true = (SS (cl (NN text))).2 ∧ (Txt.slice (mk (LL (cl (mk (TT (cl x)).1))).1) (some ((5 : Nat) : Int)) (some (-1))).length < x.length := by
    intro h1 h2
    rw [t1, Bool.not_eq_false'] at h1
    rw [t2, Bool.not_eq_false'] at h2
    have hq : fwdQ (LL (TT (cl x)).1).1 = true := by unfold fwdQ; rw [h1, h2]; rfl
    have e := SS_go hq
    rw [e] at p2 p3
    dsimp only at p2 p3
    rw [Bool.or_true] at p3
    have e3 : cl (Txt.slice (mk (LL (cl (mk (TT (cl x)).1))).1) (some ((5 : Nat) : Int)) (some (-1))) = unfwd (LL (TT (cl x)).1).1 := by
      rw [show (-1 : Int) = -((1 : Nat) : Int) from rfl, slice_mid (by omega) (by omega), hcz]; rfl
    have e4 := unfwd_len hq
    have e5 := Nat.le_trans (LL_len _) (TT_len (cl x))
    have hxl := cl_length x
    refine ⟨by rw [e3, p2], p3, ?_⟩
    rw [← cl_length, e3]
    omega
  clear t1 t2
  (repeat' (first | (k_unfold; (try dsimp only)) | ((fail_if_success (with_reducible show wpAny _ _ (eval (PySem.Expr.BoolOp _ _ _) _) _ _ _)); (first | ((with_reducible show wpAny _ _ (call (Value.ref _) _) _ _ _); k_extra "w_call") | ((fail_if_success (with_reducible show wpAny _ _ (call (Value.ref _) _) _ _ _)); walk1))) | ((fail_if_success (with_reducible show wpAny _ _ (eval (PySem.Expr.BoolOp _ _ _) _) _ _ _)); dsimp only; (first | ((with_reducible show wpAny _ _ (call (Value.ref _) _) _ _ _); k_extra "w_call") | ((fail_if_success (with_reducible show wpAny _ _ (call (Value.ref _) _) _ _ _)); walk1)))))
  (rename Fr _ _ _ _ => F5)
  (rename News _ _ _ _ => N5)
  refine w_evalJ (b || ((TT (cl x)).2 || (LL (cl (mk (TT (cl x)).1))).2)) F5 N5 ?c1 ?c2
  case c1 =>
    (repeat' (first | (k_unfold; (try dsimp only)) | (first | ((with_reducible show wpAny _ _ (call (Value.ref _) _) _ _ _); k_extra "w_call") | ((fail_if_success (with_reducible show wpAny _ _ (call (Value.ref _) _) _ _ _)); walk1)) | (dsimp only; (first | ((with_reducible show wpAny _ _ (call (Value.ref _) _) _ _ _); k_extra "w_call") | ((fail_if_success (with_reducible show wpAny _ _ (call (Value.ref _) _) _ _ _)); walk1)))))
    · exact v_out (by assumption) (by assumption) (by rw [show b = true by with_reducible assumption]; rfl)
    · exact v_out (by assumption) (by assumption) (by rw [show b = false by with_reducible assumption, show (TT (cl x)).2 = true by with_reducible assumption]; rfl)
    · exact v_out (by assumption) (by assumption) (by rw [show b = false by with_reducible assumption, show (TT (cl x)).2 = false by with_reducible assumption]; rfl)
  intro h5 tk5 F6 N6
  clear F5 N5
  (repeat' (first | (k_unfold; (try dsimp only)) | (first | ((with_reducible show wpAny _ _ (call (Value.ref _) _) _ _ _); k_extra "w_call") | ((fail_if_success (with_reducible show wpAny _ _ (call (Value.ref _) _) _ _ _)); walk1)) | (dsimp only; (first | ((with_reducible show wpAny _ _ (call (Value.ref _) _) _ _ _); k_extra "w_call") | ((fail_if_success (with_reducible show wpAny _ _ (call (Value.ref _) _) _ _ _)); walk1)))))
  · obtain ⟨e1, e2⟩ := stop (stop1 (by assumption)) _ rfl
    rw [← e1, ← e2] at ret
    (rename News _ _ _ _ => N9)
    (rename _ ∧ _ ∧ AllLt _ _ => l9)
    exact ret _ _ _ _ _ (by assumption) (news_keep1 N9) (allLt_mem l9.2.2)
  · obtain ⟨e1, e2⟩ := stop (stop2 (by assumption)) _ rfl
    rw [← e1, ← e2] at ret
    (rename News _ _ _ _ => N9)
    (rename _ ∧ _ ∧ AllLt _ _ => l9)
    exact ret _ _ _ _ _ (by assumption) (news_keep1 N9) (allLt_mem l9.2.2)
  · obtain ⟨e1, e2, e3⟩ := go (by assumption) (by assumption)
    (rename Fr _ _ _ _ => F9)
    (rename News _ _ _ _ => N9)
    exact w_end ((Txt.slice (mk (LL (cl (mk (TT (cl x)).1))).1) (some ((5 : Nat) : Int)) (some (-1)), _), true) F9 N9 (fun p hp => List.mem_cons_of_mem _ (List.mem_cons_of_mem _ hp)) (by kst_all) (by ((intro z h2 h3; (simp only [List.forall_mem_cons, List.not_mem_nil, false_implies, implies_true, and_true, ne_eq] at h2); (simp only [List.contains_cons, List.contains_nil, Bool.or_false, Bool.or_eq_false_iff, beq_eq_false_iff_ne, ne_eq] at h3); (simp [kstB, h2, h3]; done)))) ⟨hZ.slice _ _, e1, e2⟩ e3
end Mine
end

section
open PySem PySem.W PyProof.Rows PySem.Spec PySem.Calls
set_option maxRecDepth 100000
set_option maxHeartbeats 8000000
namespace Mine
section
variable {prog : Program} {w : World} {A : Around} {s : Shared} {h₀ : Heap} {L : Addr} {m : Str → Option Value} {env : Env}
/-- a comprehension's turns by an invariant over the list that is built and the ledger -/
theorem rest_J {elt : PySem.Expr} {x : Str} {scope : Scope} {cl : List (Str × Addr)} {S : List (Addr × Obj) → Prop} {P : Nat → Value → Prop} {Fin : List Value → List (Addr × Obj) → Prop}
    (J : Nat → List Value → List (Addr × Obj) → Prop) (n : Nat)
    (turn : ∀ i ys news v I oI C oC D m₂ h tk (E' : Value → Shared → Prop), i < n → J i ys news → P i v → LCg.NsObj oC m₂ → m₂ x = some v → Fr h₀ L h m → News h₀ L h ((I, oI) :: (C, oC) :: (D, LCg.lst ys) :: news) → LCg.Off3 I C D news → ((@Ne Nat I C) ∧ (@Ne Nat I D) ∧ (@Ne Nat C D)) →
      wpAny (model prog w) A (eval elt (compEnvC scope cl C env)) (LCg.CompEnd h₀ L m { s with heap := h, toks := tk } I oI C oC D (LCg.lst ys) S (fun y news' => J (i + 1) (ys ++ [y]) news')) E' { s with heap := h, toks := tk })
    (fin : ∀ ys news, J n ys news → Fin ys news) :
    ∀ k i ys news, i + k = n → J i ys news → LCg.CompRest prog w A h₀ L m env elt x scope cl s S P Fin k i ys news := by
  intro k
  induction k with
  | zero =>
    intro i ys news hi hJ
    have : i = n := by omega
    subst this
    exact LCg.CompRest.zero (fin _ _ hJ)
  | succ k ih =>
    intro i ys news hi hJ
    refine LCg.CompRest.succ ?_
    intro v I oI C oC D m₂ h tk E' hv hC hx F N off ne
    refine wpAny_mono (turn i ys news v I oI C oC D m₂ h tk E' (by omega) hJ hv hC hx F N off ne) (fun y s₃ h₃ => ?_) fun _ _ e => e
    obtain ⟨h4, tk4, news4, rfl, F4, N4, off4, hS4, hJ4⟩ := h₃
    exact ⟨h4, tk4, _, rfl, F4, N4, off4, hS4, ih (i + 1) _ _ (by omega) hJ4⟩
theorem ints_snoc {ys : List Value} {ns : List Int} (h : IntsAre ys ns) (n : Int) (t : Tok) : IntsAre (ys ++ [.int n t]) (ns ++ [n]) := by
  induction h with
  | nil => exact .cons _ _ .nil
  | cons y t' _ ih => exact .cons y t' ih
theorem strs_snoc {ys : List Value} {ns : List Str} (h : StrsAre ys ns) (n : Str) (t : Tok) : StrsAre (ys ++ [.str n t]) (ns ++ [n]) := by
  induction h with
  | nil => exact .cons _ _ .nil
  | cons y t' _ ih => exact .cons y t' ih
end
end Mine
end

section
open PySem PySem.W PyProof.Rows PySem.Spec PySem.Calls
set_option maxRecDepth 100000
set_option maxHeartbeats 8000000
namespace Mine
section
variable {prog : Program} {w : World} {A : Around} {E : Value → Shared → Prop} {Q : Flow → Shared → Prop} {s : Shared} {env : Env} {h₀ : Heap}
/-- a loop over a list -/
theorem w_iterList {σ : Type} {x : Str} {px : Pos} {body : List Stmt} {t : Addr} {items : Array Value} {news : List (Addr × Obj)} {m₀ : Str → Option Value} (ps : σ → List (Str × Value)) (stored : List Str) (P : Nat → σ → Prop) (c₀ : σ)
    (hh : A.handled = none) (ht : s.heap.IsList t items) (F : Fr h₀ env.locals s.heap m₀) (N : News h₀ env.locals s.heap news) (htL : t ≠ env.locals)
    (hx : env.kindOf x = some .local) (hp : (env.scope.kind == .class || (env.scope.kind == .module && env.locals != env.globals)) = false)
    (hk : ∀ p ∈ ps c₀, m₀ p.1 = some p.2) (hP : P 0 c₀)
    (turn : ∀ (i : Nat) (v : Value) (c : σ) (u : Str → Option Value) (h : Heap) (tk : Nat) (own : List (Addr × Obj)), i < items.size → items[i]? = some v → P i c → Fr h₀ env.locals h (fun y => if y = x then some v else kstB (fun z => if stored.contains z then u z else m₀ z) (ps c) y) → News h₀ env.locals h (own ++ news) →
      wpAny (model prog w) A (execs body env) (FPost h₀ env.locals s news own ps stored m₀ (P (i + 1)) Q) E { s with heap := h, toks := tk })
    (done : ∀ (c : σ) (u : Str → Option Value) (h : Heap) (tk : Nat), P items.size c → Fr h₀ env.locals h (kstB (fun z => if stored.contains z then u z else m₀ z) (ps c)) → News h₀ env.locals h news → Q .next { s with heap := h, toks := tk }) :
    wpAny (model prog w) A (pyIter (.ref t)) (fun it s₂ => UnrAt prog w A h₀ env (.Name x px) body Q E it s₂) E s := by
  refine Iter_list_unr hh ht F N htL ?_
  refine unr_inv (s := { s with heap := s.heap.push { cls := .type "list_iterator", data := .fields #[.ref t, .int 0 0] } }) hx hp (n := items.size) ps stored P _ (fun i v c u h tk own hi hv hPc F' N' => ?_) (fun c u h tk hPc F' N' => done c u h tk hPc F' N') items.size 0 c₀ m₀ (by omega) hP hk (fun _ _ _ => rfl)
  exact turn i v c u h tk own hi hv hPc F' N'
end
end Mine
end

section
open PySem PySem.W PyProof.Rows PySem.Spec PySem.Calls
set_option maxRecDepth 100000
set_option maxHeartbeats 8000000
namespace Mine
def DoesP (w : World) (mean : ExcName → Option Value) (mg mb : Str → Option Value) (kd ku : Nat) (S : Addr) (vs : List Value) (ns : List Int) : Prop :=
  ∀ (dp un : Nat) (gd : Option (List Code)) (cn : Str) (cs : Scope) (a : Addr) (ccd : Value) (cl : List (Str × Addr)) (outer : List Env) (A₀ : Around) (base h₀ : Heap) (L : Addr) (m : Str → Option Value) (news : List (Addr × Obj)) (s : Shared)
    (Q E : Value → Shared → Prop),
    Below A₀ base outer h₀ → Fr h₀ L s.heap m → (hd.heap_39 w.params).In h₀ → News h₀ L s.heap news → Top hd.view_39 (looseW hd.view_39 [Str.ofString "_law_words"]) mean mg mb h₀ → cs.kind = .function →
    dp + kd < recursionLimit → un + ku < cLine → h₀.IsList S vs.toArray → IntsAre vs ns → ns.length ≤ 63 →
    (∀ P C h' tk' po co, Fr h₀ L h' m → PotIs C 0 po co → News h₀ L h' ((P, po) :: (C, co) :: news) → C ≠ P → (∀ p ∈ news, p.1 ≠ P) → (∀ p ∈ news, p.1 ≠ C) → Q (.ref P) { s with heap := h', toks := tk' }) →
    wpAny (model PySem.Challenge.rw_no0349_01.row.prog w) (ktrTop dp un gd cn cs L a ccd cl outer) (call (.ref 79) [.ref S]) Q E s
theorem off1_mem {D : Addr} : ∀ {l : List (Addr × Obj)}, LCg.Off1 D l → ∀ p ∈ l, p.1 ≠ D
  | [], _, _, h => nomatch h
  | _ :: _, x, p, h => by
    rcases List.mem_cons.mp h with rfl | h
    · exact x.1
    · exact off1_mem x.2 p h
theorem law_pot_does (w : World) (mean : ExcName → Option Value) (mg mb : Str → Option Value) (S : Addr) (vs : List Value) (ns : List Int) :
   DoesP w mean mg mb 2 64 S vs ns := by
  unfold DoesP
  k_fill
  k_with_none
  (k_with "FPost" => (dsimp only [FPost]))
  intro dp un gd cn cs a ccd clo outer A₀ base h₀ L m news s Q E B F X N T hk hd hu hS hI hlen ret
  refine wpAny_call ?_
  k_dflt cell_enter
  rename_i g' L' h' FG' F' N' B' X' T'
  have hS' := FG'.lst hS
  (repeat (first | ((fail_if_success ((first | (with_reducible show wpAny _ _ (exec (Stmt.Assign _ (PySem.Expr.ListComp _ _ _ _) _) _) _ _ _) | (with_reducible show LCg.CompSrc _ _ _ _ _ _ _ _ _ _ _ _ _ _) | (with_reducible show wpAny _ _ (eval (PySem.Expr.ListComp _ _ _ _) _) _ _ _) | (with_reducible show wpAny _ _ (exec (Stmt.For _ _ _ _ _) _) _ _ _) | (with_reducible show wpAny _ _ (pyIter _) _ _ _)))); ((first | (k_unfold; (try dsimp only)) | walk1 | (dsimp only; walk1))))))
  (rename Fr _ _ _ _ => F1)
  with_unfolding_all
    refine LCg.Assign_ListComp_U F1 (by rfl) (by rfl) (by rfl) (by decide) (by rfl) (by decide) (by rfl) (by rfl) (by rfl) ?src
  (repeat (first | ((fail_if_success ((first | (with_reducible show wpAny _ _ (exec (Stmt.Assign _ (PySem.Expr.ListComp _ _ _ _) _) _) _ _ _) | (with_reducible show LCg.CompSrc _ _ _ _ _ _ _ _ _ _ _ _ _ _) | (with_reducible show wpAny _ _ (eval (PySem.Expr.ListComp _ _ _ _) _) _ _ _) | (with_reducible show wpAny _ _ (exec (Stmt.For _ _ _ _ _) _) _ _ _) | (with_reducible show wpAny _ _ (pyIter _) _ _ _)))); ((first | (k_unfold; (try dsimp only)) | walk1 | (dsimp only; walk1))))))
  (rename Fr g' _ _ _ => F2)
  (rename News g' _ _ _ => N2)
  (rename IntsAre _ (List.take 40 ns) => hI2)
  have hl40 : (List.take 40 ns).length ≤ 40 := by rw [List.length_take]; omega
  generalize List.take 40 ns = zs at hI2 hl40
  refine LCg.CompSrc.ledger (by rfl) F2 N2 (List.mem_cons_self) ?hsz ?rest
  case hsz => have := hI2.length; rw [List.size_toArray, sizeLine_eq]; omega
  case rest =>
    intro gg
    have hlen2 := hI2.length
    refine rest_J (fun i ys nw => nw = _ ∧ IntsAre ys (zs.take i)) zs.length ?turn ?fin _ 0 [] _ (by simp [hlen2]) ⟨rfl, .nil⟩
    case turn =>
      rintro i ys nw v I oI C oC D m₂ hp tk E' hi ⟨rfl, hy⟩ hv hC hx F3 N3 off ne
      obtain ⟨t, hx2⟩ := hI2.get i zs[i] (by simp [hi])
      rw [List.getElem?_toArray, hx2] at hv
      cases hv
      clear F2 N2
      (repeat (first | ((fail_if_success ((first | (with_reducible show wpAny _ _ (exec (Stmt.Assign _ (PySem.Expr.ListComp _ _ _ _) _) _) _ _ _) | (with_reducible show LCg.CompSrc _ _ _ _ _ _ _ _ _ _ _ _ _ _) | (with_reducible show wpAny _ _ (eval (PySem.Expr.ListComp _ _ _ _) _) _ _ _) | (with_reducible show wpAny _ _ (exec (Stmt.For _ _ _ _ _) _) _ _ _) | (with_reducible show wpAny _ _ (pyIter _) _ _ _)))); ((first | (k_unfold; (try dsimp only)) | walk1 | (dsimp only; walk1))))))
      (rename Fr g' _ _ _ => F9)
      (rename News g' _ _ _ => N9)
      refine LCg.CompEnd.intro F9 N9 _ (fun p hp => hp) off (.inr ⟨_, List.mem_cons_self, rfl, _, rfl⟩) ⟨rfl, ?_⟩
      rw [List.take_add_one, List.getElem?_eq_getElem hi]
      exact ints_snoc hy _ _
    case fin =>
      rintro ys nw ⟨rfl, hy⟩
      rw [List.take_length] at hy
      unfold LCg.FinA
      intro D hp tk F3 N3 off
      clear F2 N2
      (repeat (first | ((fail_if_success ((first | (with_reducible show wpAny _ _ (exec (Stmt.Assign _ (PySem.Expr.ListComp _ _ _ _) _) _) _ _ _) | (with_reducible show LCg.CompSrc _ _ _ _ _ _ _ _ _ _ _ _ _ _) | (with_reducible show wpAny _ _ (eval (PySem.Expr.ListComp _ _ _ _) _) _ _ _) | (with_reducible show wpAny _ _ (exec (Stmt.For _ _ _ _ _) _) _ _ _) | (with_reducible show wpAny _ _ (pyIter _) _ _ _)))); ((first | (k_unfold; (try dsimp only)) | walk1 | (dsimp only; walk1))))))
      refine For_unr g' ?_ (by intro _; rfl) (by passes_own)
      (repeat (first | ((fail_if_success ((first | (with_reducible show wpAny _ _ (exec (Stmt.Assign _ (PySem.Expr.ListComp _ _ _ _) _) _) _ _ _) | (with_reducible show LCg.CompSrc _ _ _ _ _ _ _ _ _ _ _ _ _ _) | (with_reducible show wpAny _ _ (eval (PySem.Expr.ListComp _ _ _ _) _) _ _ _) | (with_reducible show wpAny _ _ (exec (Stmt.For _ _ _ _ _) _) _ _ _) | (with_reducible show wpAny _ _ (pyIter _) _ _ _)))); ((first | (k_unfold; (try dsimp only)) | walk1 | (dsimp only; walk1))))))
      (rename Fr g' _ _ _ => F4)
      (rename News g' _ _ _ => N4)
      have ht := News.isList N4 (List.mem_cons_self)
      have htl := News.ne_locals N4 (List.mem_cons_self)
      with_unfolding_all
        refine' w_iterList (σ := Int × Tok) (fun c => [(Str.ofString "state", .int c.1 c.2)]) [Str.ofString "cell"] (fun i c => 0 ≤ c.1 ∧ c.1 < 2147483647) (1, _) rfl ht F4 N4 htl rfl rfl ?q1 ?q2 ?q3 ?q4
      case q1 => kst_all
      case q2 => exact ⟨by dsimp only; omega, by dsimp only; omega⟩
      case q3 =>
        rintro i v ⟨st, ts⟩ u hp3 tk3 own hi hv ⟨s1, s2⟩ F5 N5
        dsimp only at s1 s2
        clear F4 N4
        have hl5 := hy.length
        rw [List.size_toArray] at hi
        obtain ⟨t, hx2⟩ := hy.get i zs[i] (by simp)
        rw [List.getElem?_toArray, hx2] at hv
        cases hv
        (repeat (first | ((fail_if_success ((first | (with_reducible show wpAny _ _ (exec (Stmt.Assign _ (PySem.Expr.ListComp _ _ _ _) _) _) _ _ _) | (with_reducible show LCg.CompSrc _ _ _ _ _ _ _ _ _ _ _ _ _ _) | (with_reducible show wpAny _ _ (eval (PySem.Expr.ListComp _ _ _ _) _) _ _ _) | (with_reducible show wpAny _ _ (exec (Stmt.For _ _ _ _ _) _) _ _ _) | (with_reducible show wpAny _ _ (pyIter _) _ _ _)))); ((first | (k_unfold; (try dsimp only)) | walk1 | (dsimp only; walk1))))))
        (rename Fr g' _ _ _ => F9)
        (rename News g' _ _ _ => N9)
        exact f_end (_, _) F9 N9 (by kst_all) (by ((intro z h2 h3; (simp only [List.forall_mem_cons, List.not_mem_nil, false_implies, implies_true, and_true, ne_eq] at h2); (simp only [List.contains_cons, List.contains_nil, Bool.or_false, Bool.or_eq_false_iff, beq_eq_false_iff_ne, ne_eq] at h3); (simp [kstB, h2, h3]; done)))) ⟨Int.fmod_nonneg_of_pos _ (by decide), Int.fmod_lt_of_pos _ (by decide)⟩
      case q4 =>
        rintro ⟨st, ts⟩ u hp3 tk3 ⟨s1, s2⟩ F5 N5
        dsimp only at s1 s2
        clear F4 N4
        (repeat (first | ((fail_if_success ((first | (with_reducible show wpAny _ _ (exec (Stmt.Assign _ (PySem.Expr.ListComp _ _ _ _) _) _) _ _ _) | (with_reducible show LCg.CompSrc _ _ _ _ _ _ _ _ _ _ _ _ _ _) | (with_reducible show wpAny _ _ (eval (PySem.Expr.ListComp _ _ _ _) _) _ _ _) | (with_reducible show wpAny _ _ (exec (Stmt.For _ _ _ _ _) _) _ _ _) | (with_reducible show wpAny _ _ (pyIter _) _ _ _)))); ((first | (k_unfold; (try dsimp only)) | walk1 | (dsimp only; walk1))))))
        (rename Fr g' _ _ _ => F6)
        (rename News g' _ _ _ => N6)
        with_unfolding_all
          refine LCg.ListComp_U F6 (by rfl) (by decide) (by rfl) (by decide) (by rfl) ?src2
        (repeat (first | ((fail_if_success ((first | (with_reducible show wpAny _ _ (exec (Stmt.Assign _ (PySem.Expr.ListComp _ _ _ _) _) _) _ _ _) | (with_reducible show LCg.CompSrc _ _ _ _ _ _ _ _ _ _ _ _ _ _) | (with_reducible show wpAny _ _ (eval (PySem.Expr.ListComp _ _ _ _) _) _ _ _) | (with_reducible show wpAny _ _ (exec (Stmt.For _ _ _ _ _) _) _ _ _) | (with_reducible show wpAny _ _ (pyIter _) _ _ _)))); ((first | (k_unfold; (try dsimp only)) | walk1 | (dsimp only; walk1))))))
        refine LCg.CompSrc.ledger (by rfl) F6 N6 (List.mem_cons_self) ?hsz2 ?rest2
        case hsz2 => have := hy.length; rw [List.size_toArray, sizeLine_eq]; omega
        case rest2 =>
          intro gg2
          have hlen3 := hy.length
          refine rest_J (fun i ys nw => nw = _ ∧ ∃ ms, IntsAre ys ms ∧ ms.length = i ∧ ∀ v ∈ ms, 0 ≤ v) zs.length ?turn2 ?fin2 _ 0 [] _ (by simp [hlen3]) ⟨rfl, [], .nil, rfl, fun _ h => absurd h List.not_mem_nil⟩
          case turn2 =>
            rintro i ys2 nw v I oI C oC D2 m₂ hp4 tk4 E' hi ⟨rfl, ms, hms, hmsl, hms0⟩ hv hC hx F7 N7 off7 ne7
            obtain ⟨t, hx2⟩ := hy.get i zs[i] (by simp [hi])
            rw [List.getElem?_toArray, hx2] at hv
            cases hv
            clear F6 N6
            (repeat (first | ((fail_if_success ((first | (with_reducible show wpAny _ _ (exec (Stmt.Assign _ (PySem.Expr.ListComp _ _ _ _) _) _) _ _ _) | (with_reducible show LCg.CompSrc _ _ _ _ _ _ _ _ _ _ _ _ _ _) | (with_reducible show wpAny _ _ (eval (PySem.Expr.ListComp _ _ _ _) _) _ _ _) | (with_reducible show wpAny _ _ (exec (Stmt.For _ _ _ _ _) _) _ _ _) | (with_reducible show wpAny _ _ (pyIter _) _ _ _)))); ((first | (k_unfold; (try dsimp only)) | walk1 | (dsimp only; walk1))))))
            (rename Fr g' _ _ _ => F9)
            (rename News g' _ _ _ => N9)
            refine LCg.CompEnd.intro F9 N9 _ (fun p hp => hp) off7 (.inr ⟨_, List.mem_cons_self, rfl, _, rfl⟩) ⟨rfl, ms ++ [_], ints_snoc hms _ _, by rw [List.length_append, hmsl]; rfl, ?_⟩
            intro v hv
            rcases List.mem_append.mp hv with hv | hv
            · exact hms0 v hv
            · rw [List.mem_singleton.mp hv]
              exact Int.fmod_nonneg_of_pos _ (Int.pow_pos (by decide))
          case fin2 =>
            rintro ys2 nw ⟨rfl, ms, hms, hmsl, hms0⟩
            unfold LCg.FinE
            intro D2 hp4 tk4 F7 N7 off7
            clear F6 N6
            have offN := off1_mem off7
            (repeat (first | ((fail_if_success ((first | (with_reducible show wpAny _ _ (exec (Stmt.Assign _ (PySem.Expr.ListComp _ _ _ _) _) _) _ _ _) | (with_reducible show LCg.CompSrc _ _ _ _ _ _ _ _ _ _ _ _ _ _) | (with_reducible show wpAny _ _ (eval (PySem.Expr.ListComp _ _ _ _) _) _ _ _) | (with_reducible show wpAny _ _ (exec (Stmt.For _ _ _ _ _) _) _ _ _) | (with_reducible show wpAny _ _ (pyIter _) _ _ _)))); ((first | (k_unfold; (try dsimp only)) | walk1 | (dsimp only; walk1))))))
            (rename Fr h₀ L _ _ => F9)
            (rename News h₀ L _ _ => N9)
            (rename _ ∧ _ ∧ _ ∧ AllLt _ _ => l9)
            refine ret _ D2 _ _ _ _ F9 ⟨ys2, ms, st, 0, ts, tk4, 0, ys2.length, rfl, rfl, hms, hms0, by omega, s1, s2, Int.le_refl _, Int.le_refl _⟩ (kst_newsOf N9 ?_) (Nat.ne_of_lt l9.1) (fun p hp => Nat.ne_of_lt (allLt_mem l9.2.2.2 p hp)) (fun p hp => offN p (List.mem_cons_of_mem _ (List.mem_cons_of_mem _ hp)))
            intro p hp
            simp only [List.mem_cons] at hp ⊢
            rcases hp with rfl | rfl | hp
            · exact .inl rfl
            · exact .inr (.inl rfl)
            · simp only [hp, or_true]
end Mine
end

section
open PySem PySem.W PyProof.Rows PySem.Spec PySem.Calls
set_option maxRecDepth 100000
set_option maxHeartbeats 8000000
namespace Mine
section
variable {prog : Program} {w : World} {A : Around} {E : Value → Shared → Prop} {Q : Flow → Shared → Prop} {s : Shared} {env : Env} {h₀ : Heap} {x : Str} {body : List Stmt}
/-- the end of a turn that may turn the ledger's objects too -/
def GEnd {σ : Type} (h₀ : Heap) (L : Addr) (s : Shared) (Led : σ → List (Addr × Obj)) (own : List (Addr × Obj)) (x : Str) (ps : σ → List (Str × Value)) (stored : List Str) (m₀ : Str → Option Value) (P : σ → Prop) (s₂ : Shared) : Prop :=
  ∃ (c' : σ) (h' : Heap) (tk : Nat) (m' : Str → Option Value), s₂ = { s with heap := h', toks := tk } ∧ Fr h₀ L h' m' ∧ News h₀ L h' (Led c' ++ own) ∧ (∀ p ∈ ps c', m' p.1 = some p.2) ∧ (∀ z, z ≠ x → (∀ p ∈ ps c', z ≠ p.1) → stored.contains z = false → m' z = m₀ z) ∧ P c'
def GPost {σ : Type} (h₀ : Heap) (L : Addr) (s : Shared) (Led : σ → List (Addr × Obj)) (own : List (Addr × Obj)) (x : Str) (ps : σ → List (Str × Value)) (stored : List Str) (m₀ : Str → Option Value) (P : σ → Prop) (Q : Flow → Shared → Prop) (f : Flow) (s₂ : Shared) : Prop :=
  match f with
  | .ret v => Q (.ret v) s₂
  | .brk => Q .next s₂
  | _ => GEnd h₀ L s Led own x ps stored m₀ P s₂
theorem g_end {σ : Type} {h₀ : Heap} {L : Addr} {s : Shared} {Led : σ → List (Addr × Obj)} {own : List (Addr × Obj)} {x : Str} {ps : σ → List (Str × Value)} {stored : List Str} {m₀ m' : Str → Option Value} {P : σ → Prop} {h' : Heap} {tk : Nat} (c' : σ)
    (F : Fr h₀ L h' m') (N : News h₀ L h' (Led c' ++ own)) (hk : ∀ p ∈ ps c', m' p.1 = some p.2) (hr : ∀ z, z ≠ x → (∀ p ∈ ps c', z ≠ p.1) → stored.contains z = false → m' z = m₀ z) (hp : P c') :
    GEnd h₀ L s Led own x ps stored m₀ P { s with heap := h', toks := tk } := ⟨c', h', tk, m', rfl, F, N, hk, hr, hp⟩
/-- a loop over a range from 0 -/
theorem w_range {σ : Type} {r : Addr} {b : Int} {t₀ u₀ v₀ : Tok} {m₀ : Str → Option Value} (Led : σ → List (Addr × Obj)) (ps : σ → List (Str × Value)) (stored : List Str) (P : Nat → σ → Prop) (c₀ : σ)
    (hh : A.handled = none) (hr : IsRange s.heap r 0 b 1 t₀ u₀ v₀) (hb0 : 0 ≤ b) (hb1 : b < 1000) (F : Fr h₀ env.locals s.heap m₀) (N : News h₀ env.locals s.heap (Led c₀)) (hadr : ∀ c : σ, (Led c).map (·.1) = (Led c₀).map (·.1)) (hk : ∀ p ∈ ps c₀, m₀ p.1 = some p.2) (hp : P 0 c₀)
    (turn : ∀ (i : Nat) (c : σ) (k : Int) t (u : Str → Option Value) h tk own, i < b.toNat → (∀ p ∈ own, ∀ a ∈ (Led c₀).map (·.1), p.1 ≠ a) → P i c →
      Fr h₀ env.locals h (fun y => if y = x then some (.int k t) else kstB (fun z => if stored.contains z then u z else m₀ z) (ps c) y) → News h₀ env.locals h (Led c ++ own) →
      wpAny (model prog w) A (execs body env) (GPost h₀ env.locals { s with heap := h, toks := tk } Led own x ps stored m₀ (P (i + 1)) Q) E { s with heap := h, toks := tk })
    (done : ∀ (c : σ) (u : Str → Option Value) h tk, P b.toNat c → Fr h₀ env.locals h (fun y => if y = x then u y else kstB (fun z => if stored.contains z then u z else m₀ z) (ps c) y) → News h₀ env.locals h (Led c) → Q .next { s with heap := h, toks := tk }) :
    wpAny (model prog w) A (pyIter (.ref r)) (fun it s₂ => LoopAtV prog w A h₀ env x body Q E it s₂) E s := by
  refine kst_range (n := b.toNat) Led ps (fun _ => True) stored (fun pre c => P pre.length c) c₀ hh hr (small_one (by omega) (by omega) (by omega) (by omega)) (by rw [rangeSize_nat]; congr 1; omega) F N True.intro hk hp ?_ ?_
  · intro c pre k t u h tk own e hlt hoff _ hP F' N'
    refine wpAny_mono (turn pre.length c k t u h tk own hlt (fun p hp a ha => hoff p hp a ha) hP F' N') (fun f s₂ q => ?_) fun _ _ e => e
    have fin : GEnd h₀ env.locals { s with heap := h, toks := tk } Led own x ps stored m₀ (P (pre.length + 1)) s₂ →
        InvEndN h₀ env.locals (KstS Led ps (fun _ => True) x stored m₀ (fun pre c => P pre.length c) (pre ++ [k])) own ((Led c₀).map (·.1)) { s with heap := h, toks := tk } s₂ := by
      rintro ⟨c', h', tk', m', rfl, F3, N3, hk', hr', hp'⟩
      exact kst_end c' F3 N3 (fun p hp => List.mem_append_left _ hp) (fun p hp => List.mem_append_right _ hp) (hadr c') True.intro hk' hr' (by rw [List.length_append]; exact hp')
    cases f with
    | ret v => exact q
    | brk => exact q
    | next => exact fin q
    | cont => exact fin q
  · intro c u h tk _ hP F' N'
    rw [rangeKs_length] at hP
    exact done c u h tk hP F' N'
end
end Mine
end

section
namespace Mine
theorem dropBl_app {a t : List Nat} (h : dropBl t = t) (_ht : t ≠ []) : dropBl (a ++ t) = dropBl a ++ t := by
  induction a with
  | nil => exact h
  | cons c r ih =>
    by_cases hc : c = 32
    · subst hc; rw [List.cons_append, dropBl_sp, dropBl_sp, ih]
    · rw [List.cons_append, dropBl_ne _ hc, dropBl_ne _ hc]; rfl
theorem stripR_app {a t : List Nat} (h : dropBl t.reverse = t.reverse) (ht : t ≠ []) : stripR (t ++ a) = t ++ stripR a := by
  unfold stripR
  rw [List.reverse_append, dropBl_app h (by simpa using ht)]
  simp
theorem dropBl_fix {l : List Nat} : dropBl l = l ↔ l.head? ≠ some 32 := by
  cases l with
  | nil => simp [dropBl_nil]
  | cons c r =>
    by_cases hc : c = 32
    · subst hc
      rw [dropBl_sp]
      have := dropBl_len r
      constructor
      · intro h; rw [h] at this; simp only [List.length_cons] at this; omega
      · intro h; exact absurd rfl h
    · rw [dropBl_ne _ hc]; simp [hc]
theorem stripR_fix {l : List Nat} : stripR l = l ↔ l.getLast? ≠ some 32 := by
  unfold stripR
  have e : (dropBl l.reverse).reverse = l ↔ dropBl l.reverse = l.reverse := by
    constructor
    · intro h; have := congrArg List.reverse h; rwa [List.reverse_reverse] at this
    · intro h; have := congrArg List.reverse h; rwa [List.reverse_reverse] at this
  rw [e, dropBl_fix, List.head?_reverse]
theorem stripR_suffix {l r : List Nat} (h : stripR l = l) (hs : r <:+ l) : stripR r = r := by
  rw [stripR_fix] at *
  obtain ⟨a, rfl⟩ := hs
  intro e
  apply h
  cases r with
  | nil => cases e
  | cons c q => rw [List.getLast?_append, e]; rfl
theorem stripR_idem (l : List Nat) : stripR (stripR l) = stripR l := by
  unfold stripR
  rw [List.reverse_reverse, dropBl_idem]
theorem dropBl_snoc (m : List Nat) (c : Nat) : dropBl (m ++ [c]) = if dropBl m = [] then dropBl [c] else dropBl m ++ [c] := by
  induction m with
  | nil => rfl
  | cons d r ih =>
    by_cases hd : d = 32
    · subst hd; rw [List.cons_append, dropBl_sp, dropBl_sp, ih]
    · rw [List.cons_append, dropBl_ne _ hd, dropBl_ne _ hd, if_neg (by simp)]; rfl
theorem stripR_cons (c : Nat) (r : List Nat) : stripR (c :: r) = if stripR r = [] then stripR [c] else c :: stripR r := by
  unfold stripR
  rw [List.reverse_cons, dropBl_snoc]
  by_cases h : dropBl r.reverse = []
  · rw [if_pos h, if_pos (by rw [h]; rfl)]; rfl
  · rw [if_neg h, if_neg (by simpa using h)]; simp
theorem strip_comm (l : List Nat) : stripR (dropBl l) = dropBl (stripR l) := by
  induction l with
  | nil => rfl
  | cons c r ih =>
    by_cases hc : c = 32
    · subst hc
      rw [dropBl_sp, ih, stripR_cons]
      split
      · rename_i h; rw [h]; rfl
      · rw [dropBl_sp]
    · rw [dropBl_ne _ hc, stripR_cons]
      split
      · have e : stripR [c] = [c] := by
          show (dropBl [c]).reverse = [c]
          rw [dropBl_ne _ hc]; rfl
        rw [e, dropBl_ne _ hc]
      · rw [dropBl_ne _ hc]
theorem strip_dropBl (l : List Nat) : strip (dropBl l) = strip l := by
  unfold strip
  rw [strip_comm, dropBl_idem]
theorem strip_stripR (l : List Nat) : strip (stripR l) = strip l := by
  unfold strip
  rw [stripR_idem]
theorem strip_idem (l : List Nat) : strip (strip l) = strip l := by
  show strip (dropBl (stripR l)) = _
  rw [strip_dropBl, strip_stripR]
theorem stripR_strip (l : List Nat) : stripR (strip l) = strip l := by
  show stripR (dropBl (stripR l)) = _
  rw [strip_comm, stripR_idem]; rfl
theorem dropBl_strip (l : List Nat) : dropBl (strip l) = strip l := dropBl_idem _

theorem trail_iff {m : List Nat} : trail m = true ↔ ∃ a t, m = a ++ t ∧ low t = wTr := by
  unfold trail
  rw [beq_iff_eq]
  constructor
  · intro h; exact ⟨_, _, (List.take_append_drop (m.length - 5) m).symm, h⟩
  · rintro ⟨a, t, rfl, h⟩
    have hl := congrArg List.length h
    rw [low_length] at hl
    simp only [wTr, List.length_cons, List.length_nil] at hl
    rw [List.length_append, hl, Nat.zero_add, Nat.add_sub_cancel, List.drop_left, h]
theorem trail_no {l r : List Nat} (h : trail l = false) (hs : r <:+ l) : trail r = false := by
  cases hr : trail r with
  | false => rfl
  | true =>
    obtain ⟨a, t, rfl, ht⟩ := trail_iff.mp hr
    obtain ⟨b, rfl⟩ := hs
    rw [trail_iff.mpr ⟨b ++ a, t, by simp, ht⟩] at h
    cases h
theorem wTr_head {t : List Nat} (h : low t = wTr) : t ≠ [] ∧ dropBl t = t := by
  cases t with
  | nil => simp [low, wTr] at h
  | cons c r =>
    refine ⟨by simp, dropBl_ne _ ?_⟩
    intro e; subst e
    simp [low, wTr, lowN] at h
theorem trail_strip (l : List Nat) : trail (strip l) = trail (stripR l) := by
  cases h : trail (stripR l) with
  | false => exact trail_no h (dropBl_suffix _)
  | true =>
    obtain ⟨a, t, e, ht⟩ := trail_iff.mp h
    rw [trail_iff]
    refine ⟨dropBl a, t, ?_, ht⟩
    unfold strip
    rw [e, dropBl_app (wTr_head ht).2 (wTr_head ht).1]
theorem cutT_app {a t : List Nat} (h : low t = wTr) : cutT (a ++ t) = a := by
  have hl := congrArg List.length h
  rw [low_length] at hl
  simp only [wTr, List.length_cons, List.length_nil] at hl
  unfold cutT
  rw [List.length_append, hl, Nat.zero_add, Nat.add_sub_cancel, List.take_left]
theorem cutT_strip {l : List Nat} (h : trail (stripR l) = true) : dropBl (cutT (stripR l)) = cutT (strip l) := by
  obtain ⟨a, t, e, ht⟩ := trail_iff.mp h
  unfold strip
  rw [e, dropBl_app (wTr_head ht).2 (wTr_head ht).1, cutT_app ht, cutT_app ht]

theorem DD_trail {l : List Nat} (h : trail (strip l) = true) : DD l = ((DD (cutT (strip l))).1, true) := by
  rw [DD, dif_pos h]
theorem DD_lead {l r : List Nat} (h : trail (strip l) = false) (h1 : leader (strip l) = some r) : DD l = ((DD r).1, true) := by
  rw [DD, dif_neg (by rw [h]; exact Bool.false_ne_true)]
  split
  · rename_i r' e; rw [h1] at e; cases e; rfl
  · rename_i e; rw [h1] at e; cases e
theorem DD_blob {l r : List Nat} (h : trail (strip l) = false) (h1 : leader (strip l) = none) (h2 : blob (strip l) = some r) (hr : r ≠ []) : DD l = DD r := by
  have hf : (blob (strip l)).filter (· ≠ []) = some r := by rw [h2, Option.filter_some, if_pos (by simpa using hr)]
  rw [DD, dif_neg (by rw [h]; exact Bool.false_ne_true)]
  split
  · rename_i r' e; rw [h1] at e; cases e
  · split
    · rename_i r' e; rw [hf] at e; cases e; rfl
    · rename_i e; rw [hf] at e; cases e
theorem DD_fwd {l : List Nat} (h : trail (strip l) = false) (h1 : leader (strip l) = none) (h2 : (blob (strip l)).filter (· ≠ []) = none) (h3 : fwdQ (strip l) = true) : DD l = ((DD (unfwd (strip l))).1, true) := by
  rw [DD, dif_neg (by rw [h]; exact Bool.false_ne_true)]
  split
  · rename_i r' e; rw [h1] at e; cases e
  · split
    · rename_i r' e; rw [h2] at e; cases e
    · rw [dif_pos h3]
theorem DD_stop {l : List Nat} (h : trail (strip l) = false) (h1 : leader (strip l) = none) (h2 : (blob (strip l)).filter (· ≠ []) = none) (h3 : fwdQ (strip l) = false) : DD l = (strip l, false) := by
  rw [DD, dif_neg (by rw [h]; exact Bool.false_ne_true)]
  split
  · rename_i r' e; rw [h1] at e; cases e
  · split
    · rename_i r' e; rw [h2] at e; cases e
    · rw [dif_neg (by rw [h3]; exact Bool.false_ne_true)]
/-- the ways of a turn -/
inductive Way (s : List Nat) : Prop where
  | trail (h : trail s = true)
  | lead (r : List Nat) (h : trail s = false) (h1 : leader s = some r)
  | blob (r : List Nat) (h : trail s = false) (h1 : leader s = none) (h2 : blob s = some r) (hr : r ≠ [])
  | fwd (h : trail s = false) (h1 : leader s = none) (h2 : (blob s).filter (· ≠ []) = none) (h3 : fwdQ s = true)
  | stop (h : trail s = false) (h1 : leader s = none) (h2 : (blob s).filter (· ≠ []) = none) (h3 : fwdQ s = false)
theorem way (s : List Nat) : Way s := by
  cases h : Mine.trail s with
  | true => exact .trail h
  | false =>
    cases h1 : leader s with
    | some r => exact .lead r h h1
    | none =>
      cases h2 : (Mine.blob s).filter (· ≠ []) with
      | some r =>
        have := Option.filter_eq_some_iff.mp h2
        exact .blob r h h1 this.1 (by simpa using this.2)
      | none =>
        cases h3 : fwdQ s with
        | true => exact .fwd h h1 h2 h3
        | false => exact .stop h h1 h2 h3
theorem DD_dropBl (l : List Nat) : DD (dropBl l) = DD l := by
  have e := strip_dropBl l
  cases way (strip l) with
  | trail h => rw [DD_trail h, DD_trail (l := dropBl l) (by rw [e]; exact h), e]
  | lead r h h1 => rw [DD_lead h h1, DD_lead (l := dropBl l) (by rw [e]; exact h) (by rw [e]; exact h1)]
  | blob r h h1 h2 hr => rw [DD_blob h h1 h2 hr, DD_blob (l := dropBl l) (by rw [e]; exact h) (by rw [e]; exact h1) (by rw [e]; exact h2) hr]
  | fwd h h1 h2 h3 => rw [DD_fwd h h1 h2 h3, DD_fwd (l := dropBl l) (by rw [e]; exact h) (by rw [e]; exact h1) (by rw [e]; exact h2) (by rw [e]; exact h3), e]
  | stop h h1 h2 h3 => rw [DD_stop h h1 h2 h3, DD_stop (l := dropBl l) (by rw [e]; exact h) (by rw [e]; exact h1) (by rw [e]; exact h2) (by rw [e]; exact h3), e]

/-- SS by what its two strips leave -/
theorem SS_of {l k : List Nat} (h1 : (LL (TT l).1).1 = (LL (TT k).1).1) (b : Bool) (h2 : ((TT l).2 || (LL (TT l).1).2) = (b || ((TT k).2 || (LL (TT k).1).2))) : SS l = ((SS k).1, b || (SS k).2) := by
  cases hq : fwdQ (LL (TT k).1).1 with
  | true => rw [SS_go (l := l) (by rw [h1]; exact hq), SS_go hq, h1, Bool.or_true]
  | false => rw [SS_stop (l := l) (by rw [h1]; exact hq), SS_stop hq, h1, h2]
theorem TT_fix {l : List Nat} (h : stripR l = l) (ht : trail l = false) : TT l = (l, false) := by
  have := TT_stop (l := l) (by rw [h]; exact ht)
  rw [this, h]
theorem LL_dropBl (l : List Nat) : LL (dropBl l) = LL l := by
  have e := dropBl_idem l
  cases hl : leader (dropBl l) with
  | some r => rw [LL_lead hl, LL_lead (l := dropBl l) (by rw [e]; exact hl)]
  | none =>
    cases hb : blob (dropBl l) with
    | none => rw [LL_stop1 hl hb, LL_stop1 (l := dropBl l) (by rw [e]; exact hl) (by rw [e]; exact hb), e]
    | some r =>
      by_cases hr : r = []
      · subst hr; rw [LL_stop2 hl hb, LL_stop2 (l := dropBl l) (by rw [e]; exact hl) (by rw [e]; exact hb), e]
      · rw [LL_blob hl hb hr, LL_blob (l := dropBl l) (by rw [e]; exact hl) (by rw [e]; exact hb) hr]
theorem TT_dropBl (l : List Nat) : TT (dropBl l) = (dropBl (TT l).1, (TT l).2) := by
  have e := trail_strip l
  have es : stripR (dropBl l) = strip l := strip_comm l
  cases h : trail (stripR l) with
  | false =>
    rw [h] at e
    rw [TT_stop h, TT_stop (l := dropBl l) (by rw [es]; exact e), es]; rfl
  | true =>
    rw [h] at e
    have := cutT_len h
    have := stripR_len l
    rw [TT_go h, TT_go (l := dropBl l) (by rw [es]; exact e), es, ← cutT_strip h, TT_dropBl (cutT (stripR l))]
termination_by l.length
theorem SS_dropBl (l : List Nat) : SS (dropBl l) = SS l := by
  have e := TT_dropBl l
  have h := SS_of (l := dropBl l) (k := l) (by rw [e]; dsimp only; rw [LL_dropBl]) false (by rw [e]; dsimp only; rw [LL_dropBl]; rfl)
  rw [h]; simp
theorem SS_is_DD (l : List Nat) : SS l = DD l := by
  have hs := strip_len l
  have ht := trail_strip l
  have stopT : trail (strip l) = false → TT l = (stripR l, false) := fun h => TT_stop (by rw [← ht]; exact h)
  have sub : ∀ {r}, trail (strip l) = false → r <:+ strip l → TT r = (r, false) := fun h hr => TT_fix (stripR_suffix (stripR_strip l) hr) (trail_no h hr)
  cases way (strip l) with
  | trail h =>
    have hlt := cutT_len h
    rw [DD_trail h, ← SS_is_DD (cutT (strip l))]
    rw [ht] at h
    have e := TT_go h
    have k := SS_of (l := l) (k := cutT (stripR l)) (by rw [e]) true (by rw [e]; rfl)
    rw [k, Bool.true_or, ← cutT_strip h, SS_dropBl]
  | lead r h h1 =>
    have hr := leader_suffix h1
    rw [DD_lead h h1, ← SS_is_DD r]
    have e := stopT h
    have e1 : LL (stripR l) = ((LL r).1, true) := LL_lead h1
    have k := SS_of (l := l) (k := r) (by rw [e, sub h hr.1]; dsimp only; rw [e1]) true (by rw [e]; dsimp only; rw [e1]; rfl)
    rw [k, Bool.true_or]
  | blob r h h1 h2 hne =>
    have hr := blob_suffix h2
    have hlt := blob_len h2
    rw [DD_blob h h1 h2 hne, ← SS_is_DD r]
    have e := stopT h
    have e1 : LL (stripR l) = LL r := LL_blob h1 h2 hne
    have k := SS_of (l := l) (k := r) (by rw [e, sub h hr]; dsimp only; rw [e1]) false (by rw [e, sub h hr]; dsimp only; rw [e1]; rfl)
    rw [k]; simp
  | fwd h h1 h2 h3 =>
    have hlt := unfwd_len h3
    have e := stopT h
    have e1 : LL (stripR l) = (strip l, false) := by
      cases hb : blob (strip l) with
      | none => exact LL_stop1 h1 hb
      | some r =>
        rw [hb, Option.filter_some] at h2
        have : r = [] := by
          by_cases hr : r = []
          · exact hr
          · rw [if_pos (by simpa using hr)] at h2; cases h2
        subst this
        exact LL_stop2 h1 hb
    rw [DD_fwd h h1 h2 h3, ← SS_is_DD (unfwd (strip l)), SS_go (by rw [e]; dsimp only; rw [e1]; exact h3), e]
    dsimp only
    rw [e1]
  | stop h h1 h2 h3 =>
    have e := stopT h
    have e1 : LL (stripR l) = (strip l, false) := by
      cases hb : blob (strip l) with
      | none => exact LL_stop1 h1 hb
      | some r =>
        rw [hb, Option.filter_some] at h2
        have : r = [] := by
          by_cases hr : r = []
          · exact hr
          · rw [if_pos (by simpa using hr)] at h2; cases h2
        subst this
        exact LL_stop2 h1 hb
    rw [DD_stop h h1 h2 h3, SS_stop (by rw [e]; dsimp only; rw [e1]; exact h3), e]
    dsimp only
    rw [e1]; rfl
termination_by l.length
decreasing_by
  all_goals omega
/-- what DD leaves is cut no more -/
theorem DD_done (l : List Nat) : strip (DD l).1 = (DD l).1 ∧ DD (DD l).1 = ((DD l).1, false) := by
  have hs := strip_len l
  cases way (strip l) with
  | trail h => have := cutT_len h; rw [DD_trail h]; exact DD_done (cutT (strip l))
  | lead r h h1 => have := (leader_suffix h1).2; rw [DD_lead h h1]; exact DD_done r
  | blob r h h1 h2 hr => have := blob_len h2; rw [DD_blob h h1 h2 hr]; exact DD_done r
  | fwd h h1 h2 h3 => have := unfwd_len h3; rw [DD_fwd h h1 h2 h3]; exact DD_done (unfwd (strip l))
  | stop h h1 h2 h3 =>
    have e := strip_idem l
    rw [DD_stop h h1 h2 h3]
    dsimp only
    refine ⟨e, ?_⟩
    rw [DD_stop (l := strip l) (by rw [e]; exact h) (by rw [e]; exact h1) (by rw [e]; exact h2) (by rw [e]; exact h3), e]
termination_by l.length
/-- what DD leaves is a piece of what it was given -/
theorem DD_infix (l : List Nat) : (DD l).1 <:+: l := by
  have hs := strip_len l
  have hst : strip l <:+: l := ((dropBl_suffix _).isInfix).trans (stripR_prefix l).isInfix
  cases way (strip l) with
  | trail h => have := cutT_len h; rw [DD_trail h]; exact (DD_infix (cutT (strip l))).trans ((List.take_prefix _ _).isInfix.trans hst)
  | lead r h h1 => have := (leader_suffix h1).2; rw [DD_lead h h1]; exact (DD_infix r).trans ((leader_suffix h1).1.isInfix.trans hst)
  | blob r h h1 h2 hr => have := blob_len h2; rw [DD_blob h h1 h2 hr]; exact (DD_infix r).trans ((blob_suffix h2).isInfix.trans hst)
  | fwd h h1 h2 h3 =>
    have := unfwd_len h3
    rw [DD_fwd h h1 h2 h3]
    exact (DD_infix (unfwd (strip l))).trans (((List.drop_suffix _ _).isInfix.trans (List.take_prefix _ _).isInfix).trans hst)
  | stop h h1 h2 h3 => rw [DD_stop h h1 h2 h3]; exact hst
termination_by l.length
end Mine
end

section
namespace Mine
/-- two blanks side by side -/
def Dbl (m : List Nat) : Prop := [32, 32] <:+: m
theorem sq_nodbl : ∀ l : List Nat, ¬ Dbl (sq l)
  | [] => by intro h; have := List.IsInfix.length_le h; simp [sq] at this
  | c :: r => by
    intro h
    rw [sq_cons] at h
    unfold sqC at h
    split at h
    · exact sq_nodbl r h
    · rename_i hn
      rcases List.infix_cons_iff.mp h with h | h
      · apply hn
        obtain ⟨t, ht⟩ := h
        have : c = 32 ∧ 32 :: t = sq r := by simpa [eq_comm] using ht
        exact ⟨this.1, by rw [← this.2]; rfl⟩
      · exact sq_nodbl r h
theorem sq_fix : ∀ {m : List Nat}, ¬ Dbl m → m.getLast? ≠ some 32 → sq m = m
  | [], _, _ => rfl
  | [c], _, hl => by
    have hc : c ≠ 32 := by simpa using hl
    show sqC c [] = [c]
    unfold sqC
    rw [if_neg (fun h => hc h.1)]
  | c :: d :: r, hd, hl => by
    have e := sq_fix (m := d :: r) (fun h => hd (h.trans (List.suffix_cons _ _).isInfix)) (by rwa [List.getLast?_cons_cons] at hl)
    rw [sq_cons, e]
    unfold sqC
    rw [if_neg]
    rintro ⟨rfl, h⟩
    have : d = 32 := by simpa [headBl] using h
    subst this
    exact hd ⟨[], r, rfl⟩
theorem wsN_idem (c : Nat) : wsN (wsN c) = wsN c := by
  unfold wsN
  by_cases h : c = 9 ∨ c = 13 ∨ c = 10
  · rw [if_pos h]; rfl
  · rw [if_neg h, if_neg h]
theorem nrm_fix {l f : List Nat} (h : f <:+: nrm l) (hs : strip f = f) : nrm f = f := by
  have hw : f.map wsN = f := by
    have : ∀ c ∈ f, wsN c = id c := by
      intro c hc
      obtain ⟨d, _, rfl⟩ := nrm_mem (h.subset hc)
      exact wsN_idem d
    rw [List.map_congr_left this, List.map_id]
  have hd : ¬ Dbl f := fun q => sq_nodbl _ (q.trans (h.trans (dropBl_suffix _).isInfix))
  have hr : stripR f = f := by rw [← hs]; exact stripR_strip f
  have hl : dropBl f = f := by rw [← hs]; exact dropBl_strip f
  unfold nrm
  rw [hw, sq_fix hd (stripR_fix.mp hr), hl]
/-- the base of a base -/
theorem base_base (l : List Nat) : SS (nrm (SS (nrm l)).1) = ((SS (nrm l)).1, false) := by
  have h := DD_done (nrm l)
  have hi := DD_infix (nrm l)
  rw [SS_is_DD (nrm l), nrm_fix hi h.1, SS_is_DD, h.2]

theorem LL_nil : LL [] = ([], false) := LL_stop1 (by rw [dropBl_nil]; rw [leader, blobs_none rfl]; rfl) rfl
theorem SS_blank {s : List Nat} (h : dropBl (TT s).1 = []) : (SS s).1 = [] := by
  have e : LL (TT s).1 = ([], false) := by rw [← LL_dropBl, h, LL_nil]
  rw [SS_stop (by rw [e]; rfl), e]
theorem TT_pre (p : List Nat) {c : Nat} (hc : c ≠ 32) (ht : lowN c ∉ wTr) (s : List Nat) : TT (p ++ c :: s) = (p ++ c :: (TT s).1, (TT s).2) := by
  have es : stripR (p ++ c :: s) = p ++ c :: stripR s := by
    have := stripR_app (a := s) (t := p ++ [c]) (by rw [List.reverse_append]; exact dropBl_ne _ hc) (by simp)
    simpa using this
  cases h : trail (stripR s) with
  | true =>
    obtain ⟨a, t, e, h5⟩ := trail_iff.mp h
    have h2 : trail (stripR (p ++ c :: s)) = true := by rw [es, e]; exact trail_iff.mpr ⟨p ++ c :: a, t, by simp, h5⟩
    have hlt := cutT_len h
    have := stripR_len s
    have e2 : cutT (stripR (p ++ c :: s)) = p ++ c :: cutT (stripR s) := by
      rw [es, e, cutT_app h5]
      have : p ++ c :: (a ++ t) = (p ++ c :: a) ++ t := by simp
      rw [this, cutT_app h5]
    rw [TT_go h2, TT_go h, e2, TT_pre p hc ht (cutT (stripR s))]
  | false =>
    have h2 : trail (stripR (p ++ c :: s)) = false := by
      rw [es]
      cases hq : trail (p ++ c :: stripR s) with
      | false => rfl
      | true =>
        obtain ⟨a, t, e, h5⟩ := trail_iff.mp hq
        rcases List.append_eq_append_iff.mp e with ⟨b, h1, h3⟩ | ⟨b, h1, h3⟩
        · -- a = p ++ b, c :: z = b ++ t
          cases b with
          | nil =>
            rw [List.nil_append] at h3
            rw [← h3] at h5
            exact absurd (by rw [← h5]; exact List.mem_cons_self) ht
          | cons d b =>
            rw [List.cons_append, List.cons.injEq] at h3
            rw [h3.2, trail_iff.mpr ⟨b, t, rfl, h5⟩] at h
            cases h
        · -- p = a ++ b, t = b ++ c :: z
          rw [h3, low_append] at h5
          exact absurd (by rw [← h5]; exact List.mem_append_right _ List.mem_cons_self) ht
    rw [TT_stop h2, TT_stop h, es]
termination_by s.length
/-- a leader laid ahead -/
theorem SS_lead (p : List Nat) {c : Nat} (hc : c ≠ 32) (ht : lowN c ∉ wTr) (hd : ∀ z, dropBl (p ++ c :: z) = p ++ c :: z) (hl : ∀ z, leader (p ++ c :: z) = some z) (s : List Nat) : SS (p ++ c :: s) = ((SS s).1, true) := by
  have e := TT_pre p hc ht s
  have e1 : LL (p ++ c :: (TT s).1) = ((LL (TT s).1).1, true) := LL_lead (by rw [hd, hl])
  have k := SS_of (l := p ++ c :: s) (k := s) (by rw [e]; dsimp only; rw [e1]) true (by rw [e]; dsimp only; rw [e1]; simp)
  rw [k, Bool.true_or]
theorem SS_blob (p : List Nat) {c : Nat} (hc : c ≠ 32) (ht : lowN c ∉ wTr) (hd : ∀ z, dropBl (p ++ c :: z) = p ++ c :: z) (hl : ∀ z, blob (p ++ c :: z) = some (dropBl z)) (s : List Nat) (hs : (SS s).1 ≠ []) : SS (p ++ c :: s) = SS s := by
  have e := TT_pre p hc ht s
  have e1 : LL (p ++ c :: (TT s).1) = LL (TT s).1 := by
    have e2 : leader (p ++ c :: (TT s).1) = leader (dropBl (TT s).1) := by
      unfold leader
      rw [blobs_some (hl _)]
    rw [← LL_dropBl (TT s).1]
    cases h : leader (dropBl (TT s).1) with
    | some r => rw [LL_lead (r := r) (by rw [hd, e2, h]), LL_lead (l := dropBl (TT s).1) (r := r) (by rw [dropBl_idem, h])]
    | none => exact LL_blob (by rw [hd, e2, h]) (by rw [hd, hl]) (fun q => hs (SS_blank q))
  have k := SS_of (l := p ++ c :: s) (k := s) (by rw [e]; dsimp only; rw [e1]) false (by rw [e]; dsimp only; rw [e1]; rfl)
  rw [k]; simp
theorem SS_tail {s t : List Nat} (h : trail (stripR t) = true) (hc : cutT (stripR t) = s) : SS t = ((SS s).1, true) := by
  have e := TT_go h
  rw [hc] at e
  have k := SS_of (l := t) (k := s) (by rw [e]) true (by rw [e]; rfl)
  rw [k, Bool.true_or]
theorem TT_sp (s : List Nat) : TT (s ++ [32]) = TT s := by
  have e : stripR (s ++ [32]) = stripR s := by
    unfold stripR
    rw [List.reverse_append]
    show (dropBl (32 :: s.reverse)).reverse = _
    rw [dropBl_sp]
  cases h : trail (stripR s) with
  | true => rw [TT_go h, TT_go (l := s ++ [32]) (by rw [e]; exact h), e]
  | false => rw [TT_stop h, TT_stop (l := s ++ [32]) (by rw [e]; exact h), e]
theorem SS_sp (s : List Nat) : SS (s ++ [32]) = SS s := by
  have e := TT_sp s
  have k := SS_of (l := s ++ [32]) (k := s) (by rw [e]) false (by rw [e]; rfl)
  rw [k]; simp
theorem SS_sp2 (s : List Nat) : SS (32 :: s) = SS s := by rw [← SS_dropBl (32 :: s), dropBl_sp, SS_dropBl]

/-- blanks, made one, with those ahead kept -/
def sqx (l : List Nat) : List Nat := sq (l.map wsN)
theorem SS_nrm (l : List Nat) : SS (nrm l) = SS (sqx l) := SS_dropBl _
theorem sqC_sp (s : List Nat) : sqC 32 s = s ∨ sqC 32 s = 32 :: s := by
  unfold sqC
  split
  · exact .inl rfl
  · exact .inr rfl
theorem sqC_no {c : Nat} (h : c ≠ 32) (s : List Nat) : sqC c s = c :: s := by
  unfold sqC
  rw [if_neg (fun q => h q.1)]
theorem sq_app_bl {t : List Nat} (ht : headBl t = true) : ∀ m : List Nat, m.foldr sqC t = sq m ++ t
  | [] => rfl
  | c :: r => by
    rw [List.foldr_cons, sq_app_bl ht r, sq_cons]
    have : headBl (sq r ++ t) = headBl (sq r) := by
      cases sq r with
      | nil => exact ht
      | cons a b => rfl
    unfold sqC
    rw [this]
    split <;> rfl
theorem sq_app {t : List Nat} : ∀ m : List Nat, m.foldr sqC t = sq m ++ t ∨ m.foldr sqC t = sq m ++ 32 :: t
  | [] => .inl rfl
  | c :: r => by
    by_cases ht : headBl t = true
    · exact .inl (sq_app_bl ht _)
    rw [List.foldr_cons, sq_cons]
    rcases sq_app (t := t) r with h | h
    · rw [h]
      cases hs : sq r with
      | nil =>
        by_cases hc : c = 32
        · subst hc
          right
          show sqC 32 t = sqC 32 [] ++ 32 :: t
          unfold sqC
          rw [if_neg (fun q => ht q.2), if_pos ⟨rfl, rfl⟩]; rfl
        · left
          rw [sqC_no hc, sqC_no hc]; rfl
      | cons a b =>
        left
        unfold sqC
        show (if c = 32 ∧ (a == 32) = true then _ else _) = (if c = 32 ∧ (a == 32) = true then _ else _) ++ t
        split <;> rfl
    · right
      rw [h]
      have : headBl (sq r ++ 32 :: t) = headBl (sq r) := by
        cases sq r <;> rfl
      unfold sqC
      rw [this]
      split <;> rfl
theorem sqx_app (l q : List Nat) : sqx (l ++ q) = (l.map wsN).foldr sqC (sqx q) := by
  unfold sqx sq
  rw [List.map_append, List.foldr_append]

theorem toBr_app {s t : List Nat} (h : toBr s = none) : toBr (s ++ t) = none ∨ toBr (s ++ t) = toBr t := by
  induction s with
  | nil => exact .inr rfl
  | cons c r ih =>
    unfold toBr at h
    split at h
    · cases h
    · rename_i h1
      split at h
      · rename_i h2
        left
        show toBr (c :: (r ++ t)) = none
        unfold toBr
        rw [if_neg h1, if_pos h2]
      · rename_i h2
        have e : toBr (c :: r ++ t) = toBr (r ++ t) := by
          show (if c = 93 then some (r ++ t) else if c = 91 then none else toBr (r ++ t)) = _
          rw [if_neg h1, if_neg h2]
        rw [e]
        exact ih h
/-- what holds of a text that was wrapped -/
structure Inv (base l : List Nat) (r : Bool) : Prop where
  ss : SS (sqx l) = (base, r)
  ne : base ≠ []
  br : toBr (sqx l) = none
end Mine
end

section
namespace Mine
theorem ss_sp_or {s t : List Nat} (h : t = s ∨ t = 32 :: s) : SS t = SS s ∧ (toBr t = toBr s) := by
  rcases h with rfl | rfl
  · exact ⟨rfl, rfl⟩
  · exact ⟨SS_sp2 s, rfl⟩
section
variable {base l : List Nat} {r : Bool}
/-- a leader laid ahead: pre its signs as typed, p and c what is left of them, a blank or none behind -/
theorem Inv.lead (h : Inv base l r) {pre : List Nat} (p : List Nat) {c : Nat} (hsq : ∀ s, (pre.map wsN).foldr sqC s = p ++ c :: s ∨ (pre.map wsN).foldr sqC s = p ++ c :: 32 :: s)
    (hc : c ≠ 32) (ht : lowN c ∉ wTr) (hd : ∀ z, dropBl (p ++ c :: z) = p ++ c :: z) (hl : ∀ z, leader (p ++ c :: z) = some z) (hb : ∀ z, toBr z = none → toBr (p ++ c :: z) = none) : Inv base (pre ++ l) true := by
  obtain ⟨s, hs, hq⟩ : ∃ s, sqx (pre ++ l) = p ++ c :: s ∧ (s = sqx l ∨ s = 32 :: sqx l) := by
    rw [sqx_app]
    rcases hsq (sqx l) with q | q
    · exact ⟨_, q, .inl rfl⟩
    · exact ⟨_, q, .inr rfl⟩
  have k := ss_sp_or hq
  refine ⟨?_, h.ne, ?_⟩
  · rw [hs, SS_lead p hc ht hd hl, k.1, h.ss]
  · rw [hs]; exact hb _ (k.2.trans h.br)
theorem Inv.blob (h : Inv base l r) {pre : List Nat} (p : List Nat) {c : Nat} (hsq : ∀ s, (pre.map wsN).foldr sqC s = p ++ c :: s ∨ (pre.map wsN).foldr sqC s = p ++ c :: 32 :: s)
    (hc : c ≠ 32) (ht : lowN c ∉ wTr) (hd : ∀ z, dropBl (p ++ c :: z) = p ++ c :: z) (hl : ∀ z, Mine.blob (p ++ c :: z) = some (dropBl z)) (hb : ∀ z, toBr z = none → toBr (p ++ c :: z) = none) : Inv base (pre ++ l) r := by
  obtain ⟨s, hs, hq⟩ : ∃ s, sqx (pre ++ l) = p ++ c :: s ∧ (s = sqx l ∨ s = 32 :: sqx l) := by
    rw [sqx_app]
    rcases hsq (sqx l) with q | q
    · exact ⟨_, q, .inl rfl⟩
    · exact ⟨_, q, .inr rfl⟩
  have k := ss_sp_or hq
  refine ⟨?_, h.ne, ?_⟩
  · rw [hs, SS_blob p hc ht hd hl _ (by rw [k.1, h.ss]; exact h.ne), k.1, h.ss]
  · rw [hs]; exact hb _ (k.2.trans h.br)
/-- a trailer laid behind -/
theorem Inv.tail (h : Inv base l r) {q t : List Nat} (hq : sqx q = t ∨ sqx q = 32 :: t) (ht : low t = wTr) : Inv base (l ++ q) true := by
  obtain ⟨s, hs, hss⟩ : ∃ s, sqx (l ++ q) = s ++ t ∧ (s = sqx l ∨ s = sqx l ++ [32]) := by
    rw [sqx_app]
    rcases hq with hq | hq
    · rw [hq]
      rcases sq_app (t := t) (l.map wsN) with e | e
      · exact ⟨_, e, .inl rfl⟩
      · exact ⟨sqx l ++ [32], by rw [e]; simp [sqx], .inr rfl⟩
    · rw [hq, sq_app_bl (t := 32 :: t) rfl]
      exact ⟨sqx l ++ [32], by simp [sqx], .inr rfl⟩
  have hne := (wTr_head ht).1
  have hlast : t.getLast? ≠ some 32 := by
    intro e
    have h1 : (low t).getLast? = some (lowN 32) := by
      unfold low
      rw [List.getLast?_map, e]; rfl
    rw [ht] at h1
    exact absurd h1 (by decide)
  have es : stripR (s ++ t) = s ++ t := by
    rw [stripR_fix, List.getLast?_append]
    cases hg : t.getLast? with
    | none => exact absurd (List.getLast?_eq_none_iff.mp hg) hne
    | some c => rw [hg] at hlast; simpa using hlast
  have e1 : SS (s ++ t) = ((SS s).1, true) := SS_tail (by rw [es]; exact trail_iff.mpr ⟨s, t, rfl, ht⟩) (by rw [es, cutT_app ht])
  have e2 : SS s = (base, r) := by
    rcases hss with rfl | rfl
    · exact h.ss
    · rw [SS_sp]; exact h.ss
  have nobr : ∀ {t : List Nat}, (∀ c ∈ t, lowN c ∈ wTr) → toBr t = none := by
    intro t
    induction t with
    | nil => intro _; rfl
    | cons c q ih =>
      intro hm
      have hc := hm c List.mem_cons_self
      have h1 : c ≠ 93 := by intro e; subst e; exact absurd hc (by decide)
      have h2 : c ≠ 91 := by intro e; subst e; exact absurd hc (by decide)
      show (if c = 93 then some q else if c = 91 then none else toBr q) = none
      rw [if_neg h1, if_neg h2]
      exact ih (fun d hd => hm d (List.mem_cons_of_mem _ hd))
  have bt : toBr t = none := nobr (fun c hc => by rw [← ht]; exact List.mem_map_of_mem hc)
  have bs : toBr s = none := by
    rcases hss with rfl | rfl
    · exact h.br
    · rcases toBr_app (t := [32]) h.br with e | e
      · exact e
      · rw [e]; rfl
  refine ⟨by rw [hs, e1, e2], h.ne, ?_⟩
  rw [hs]
  rcases toBr_app (t := t) bs with e | e
  · exact e
  · rw [e, bt]
/-- blanks around -/
theorem Inv.pad (h : Inv base l r) : Inv base (32 :: (l ++ [32])) r := by
  have e1 : sqx (l ++ [32]) = sqx l := by
    rw [sqx_app]
    show (l.map wsN).foldr sqC (sqC 32 []) = _
    rfl
  have e2 : sqx (32 :: (l ++ [32])) = sqC 32 (sqx l) := by
    rw [← e1]; rfl
  have k := ss_sp_or (sqC_sp (sqx l))
  exact ⟨by rw [e2, k.1, h.ss], h.ne, by rw [e2, k.2, h.br]⟩
/-- a forward laid around -/
theorem Inv.fwd (h : Inv base l r) : Inv base ([91, 102, 119, 100, 58, 32] ++ l ++ [93]) true := by
  obtain ⟨s, hs, hss⟩ : ∃ s, sqx (l ++ [93]) = s ++ [93] ∧ (s = sqx l ∨ s = sqx l ++ [32]) := by
    rw [sqx_app]
    have e : sqx [93] = [93] := by decide
    rw [e]
    rcases sq_app (t := [93]) (l.map wsN) with e | e
    · exact ⟨_, e, .inl rfl⟩
    · exact ⟨sqx l ++ [32], by rw [e]; simp [sqx], .inr rfl⟩
  have s1 : SS s = (base, r) := by
    rcases hss with rfl | rfl
    · exact h.ss
    · rw [SS_sp]; exact h.ss
  have b1 : toBr s = none := by
    rcases hss with rfl | rfl
    · exact h.br
    · rcases toBr_app (t := [32]) h.br with e | e
      · exact e
      · rw [e]; rfl
  obtain ⟨u, hu, huu⟩ : ∃ u, sqx ([91, 102, 119, 100, 58, 32] ++ l ++ [93]) = [91, 102, 119, 100, 58] ++ u ++ [93] ∧ (u = s ∨ u = 32 :: s) := by
    rw [List.append_assoc, sqx_app, hs]
    show ∃ u, sqC 91 (sqC 102 (sqC 119 (sqC 100 (sqC 58 (sqC 32 (s ++ [93])))))) = _ ∧ _
    rw [sqC_no (c := 91) (by decide), sqC_no (c := 102) (by decide), sqC_no (c := 119) (by decide), sqC_no (c := 100) (by decide), sqC_no (c := 58) (by decide)]
    rcases sqC_sp (s ++ [93]) with e | e
    · exact ⟨s, by rw [e]; rfl, .inl rfl⟩
    · exact ⟨32 :: s, by rw [e]; rfl, .inr rfl⟩
  have k := ss_sp_or huu
  have s2 : SS u = (base, r) := by rw [k.1, s1]
  have b2 : toBr u = none := by rw [k.2, b1]
  rw [show ([91, 102, 119, 100, 58] ++ u ++ [93] : List Nat) = 91 :: 102 :: 119 :: 100 :: 58 :: (u ++ [93]) from rfl] at hu
  have hstr : stripR (91 :: 102 :: 119 :: 100 :: 58 :: (u ++ [93])) = 91 :: 102 :: 119 :: 100 :: 58 :: (u ++ [93]) := by
    rw [stripR_fix, show (91 :: 102 :: 119 :: 100 :: 58 :: (u ++ [93]) : List Nat) = (91 :: 102 :: 119 :: 100 :: 58 :: u) ++ [93] from rfl, List.getLast?_append]
    simp
  have htr : trail (91 :: 102 :: 119 :: 100 :: 58 :: (u ++ [93])) = false := by
    cases hq : trail (91 :: 102 :: 119 :: 100 :: 58 :: (u ++ [93])) with
    | false => rfl
    | true =>
      obtain ⟨a, t, e, ht⟩ := trail_iff.mp hq
      have h1 : (low t).getLast? = (low (91 :: 102 :: 119 :: 100 :: 58 :: (u ++ [93]))).getLast? := by
        rw [e, low_append, List.getLast?_append]
        cases hg : (low t).getLast? with
        | none =>
          rw [ht] at hg; exact absurd hg (by decide)
        | some c => rfl
      rw [ht, show (91 :: 102 :: 119 :: 100 :: 58 :: (u ++ [93]) : List Nat) = (91 :: 102 :: 119 :: 100 :: 58 :: u) ++ [93] from rfl, low_append, List.getLast?_append] at h1
      have h1 : wTr.getLast? = some 93 := h1
      exact absurd h1 (by decide)
  have eT := TT_fix hstr htr
  have hd : dropBl (91 :: 102 :: 119 :: 100 :: 58 :: (u ++ [93])) = 91 :: 102 :: 119 :: 100 :: 58 :: (u ++ [93]) := dropBl_ne _ (by decide)
  have hblob : Mine.blob (91 :: 102 :: 119 :: 100 :: 58 :: (u ++ [93])) = (toBr (u ++ [93])).map dropBl := rfl
  have hb : Mine.blob (91 :: 102 :: 119 :: 100 :: 58 :: (u ++ [93])) = none ∨ Mine.blob (91 :: 102 :: 119 :: 100 :: 58 :: (u ++ [93])) = some [] := by
    rw [hblob]
    rcases toBr_app (t := [93]) b2 with e | e
    · rw [e]; exact .inl rfl
    · rw [e]; exact .inr rfl
  have hl : leader (91 :: 102 :: 119 :: 100 :: 58 :: (u ++ [93])) = none := by
    rcases hb with e | e
    · rw [leader, blobs_none e]
      have : ∀ w : List Nat, w.take 1 ≠ [91] → w ≠ [] → tryW w (91 :: 102 :: 119 :: 100 :: 58 :: (u ++ [93])) = none := by
        intro w hw hne
        unfold tryW
        rw [if_neg]
        intro q
        cases w with
        | nil => exact hne rfl
        | cons c w =>
          apply hw
          have : (low (91 :: 102 :: 119 :: 100 :: 58 :: (u ++ [93]))).take (w.length + 1) = 91 :: (low (102 :: 119 :: 100 :: 58 :: (u ++ [93]))).take w.length := rfl
          rw [List.length_cons, this] at q
          rw [← q]; rfl
      rw [this wRe (by decide) (by decide), this wFwd (by decide) (by decide), this wFw (by decide) (by decide)]
    · rw [leader, blobs_some e, blobs_none rfl]; rfl
  have eL : LL (91 :: 102 :: 119 :: 100 :: 58 :: (u ++ [93])) = (91 :: 102 :: 119 :: 100 :: 58 :: (u ++ [93]), false) := by
    rcases hb with e | e
    · rw [LL_stop1 (by rw [hd]; exact hl) (by rw [hd]; exact e), hd]
    · rw [LL_stop2 (by rw [hd]; exact hl) (by rw [hd]; exact e), hd]
  have hf : fwdQ (91 :: 102 :: 119 :: 100 :: 58 :: (u ++ [93])) = true := by
    unfold fwdQ
    have : (91 :: 102 :: 119 :: 100 :: 58 :: (u ++ [93]) : List Nat).drop ((91 :: 102 :: 119 :: 100 :: 58 :: (u ++ [93]) : List Nat).length - 1) = [93] := by
      rw [show (91 :: 102 :: 119 :: 100 :: 58 :: (u ++ [93]) : List Nat) = (91 :: 102 :: 119 :: 100 :: 58 :: u) ++ [93] from rfl]
      rw [List.length_append]
      exact List.drop_left
    rw [this]
    rfl
  have hunf : unfwd (91 :: 102 :: 119 :: 100 :: 58 :: (u ++ [93])) = u := by
    unfold unfwd
    rw [show (91 :: 102 :: 119 :: 100 :: 58 :: (u ++ [93]) : List Nat) = (91 :: 102 :: 119 :: 100 :: 58 :: u) ++ [93] from rfl, List.length_append]
    show (List.take (List.length _) _).drop 5 = u
    rw [List.take_left]
    rfl
  refine ⟨?_, h.ne, ?_⟩
  · rw [hu, SS_go (by rw [eT]; dsimp only; rw [eL]; exact hf), eT]
    dsimp only
    rw [eL]
    dsimp only
    rw [hunf, s2]
  · rw [hu]; rfl
end
/-- a base that none of the rules cuts -/
theorem base_ok {b : List Nat} (hs : strip b = b) (h : trail b = false) (h1 : blob b = none) (h2 : tryW wRe b = none) (h3 : tryW wFwd b = none) (h4 : tryW wFw b = none) (h5 : fwdQ b = false) : SS b = (b, false) := by
  have hl : leader b = none := by rw [leader, blobs_none h1, h2, h3, h4]
  rw [SS_is_DD, DD_stop (by rw [hs]; exact h) (by rw [hs]; exact hl) (by rw [hs, h1]; rfl) (by rw [hs]; exact h5), hs]
def bases : List (List Nat) := [[111, 110, 101], [97, 32, 91, 98, 93, 32, 99], [114, 101, 103, 97, 114, 100, 115], [50, 58, 32, 51], [120, 32, 40, 102, 119, 100, 41, 32, 121], [102, 119, 100], [233]]
theorem bases_ok : ∀ b ∈ bases, Inv b b false := by
  have key : ∀ b ∈ bases, (sqx b = b ∧ b ≠ [] ∧ toBr b = none) ∧ strip b = b ∧ trail b = false ∧ blob b = none ∧ tryW wRe b = none ∧ tryW wFwd b = none ∧ tryW wFw b = none ∧ fwdQ b = false := by
    decide +kernel
  intro b hb
  obtain ⟨⟨e, n, t⟩, h1, h2, h3, h4, h5, h6, h7⟩ := key b hb
  exact ⟨by rw [e]; exact base_ok h1 h2 h3 h4 h5 h6 h7, n, by rw [e]; exact t⟩
section
variable {base l : List Nat} {r : Bool}
theorem Inv.re (h : Inv base l r) : Inv base ([82, 101, 58, 32] ++ l) true := by
  refine h.lead (p := [82, 101]) (c := 58) (fun s => ?_) (by decide) (by decide) (fun z => dropBl_ne _ (by decide)) (fun z => ?_) (fun z hz => hz)
  · show sqC 82 (sqC 101 (sqC 58 (sqC 32 s))) = _ ∨ sqC 82 (sqC 101 (sqC 58 (sqC 32 s))) = _
    rw [sqC_no (c := 82) (by decide), sqC_no (c := 101) (by decide), sqC_no (c := 58) (by decide)]
    rcases sqC_sp s with e | e <;> rw [e]
    · exact .inl rfl
    · exact .inr rfl
  · rw [leader, blobs_none rfl]; rfl
theorem Inv.fw (h : Inv base l r) : Inv base ([102, 119, 58] ++ l) true := by
  refine h.lead (p := [102, 119]) (c := 58) (fun s => ?_) (by decide) (by decide) (fun z => dropBl_ne _ (by decide)) (fun z => ?_) (fun z hz => hz)
  · left
    show sqC 102 (sqC 119 (sqC 58 s)) = _
    rw [sqC_no (c := 102) (by decide), sqC_no (c := 119) (by decide), sqC_no (c := 58) (by decide)]
    rfl
  · rw [leader, blobs_none rfl]; rfl
theorem Inv.fwdl (h : Inv base l r) : Inv base ([70, 87, 68, 32, 58, 32] ++ l) true := by
  refine h.lead (p := [70, 87, 68, 32]) (c := 58) (fun s => ?_) (by decide) (by decide) (fun z => dropBl_ne _ (by decide)) (fun z => ?_) (fun z hz => hz)
  · show sqC 70 (sqC 87 (sqC 68 (sqC 32 (sqC 58 (sqC 32 s))))) = _ ∨ sqC 70 (sqC 87 (sqC 68 (sqC 32 (sqC 58 (sqC 32 s))))) = _
    rw [sqC_no (c := 58) (by decide)]
    rcases sqC_sp s with e | e <;> rw [e]
    · exact .inl rfl
    · exact .inr rfl
  · rw [leader, blobs_none rfl]; rfl
theorem Inv.re4 (h : Inv base l r) : Inv base ([114, 101, 91, 52, 93, 58, 32] ++ l) true := by
  refine h.lead (p := [114, 101, 91, 52, 93]) (c := 58) (fun s => ?_) (by decide) (by decide) (fun z => dropBl_ne _ (by decide)) (fun z => ?_) (fun z hz => rfl)
  · show sqC 114 (sqC 101 (sqC 91 (sqC 52 (sqC 93 (sqC 58 (sqC 32 s)))))) = _ ∨ sqC 114 (sqC 101 (sqC 91 (sqC 52 (sqC 93 (sqC 58 (sqC 32 s)))))) = _
    rw [sqC_no (c := 114) (by decide), sqC_no (c := 101) (by decide), sqC_no (c := 91) (by decide), sqC_no (c := 52) (by decide), sqC_no (c := 93) (by decide), sqC_no (c := 58) (by decide)]
    rcases sqC_sp s with e | e <;> rw [e]
    · exact .inl rfl
    · exact .inr rfl
  · rw [leader, blobs_none rfl]; rfl
theorem Inv.list7 (h : Inv base l r) : Inv base ([91, 108, 105, 115, 116, 32, 55, 93, 32, 32] ++ l) r := by
  refine h.blob (p := [91, 108, 105, 115, 116, 32, 55]) (c := 93) (fun s => ?_) (by decide) (by decide) (fun z => dropBl_ne _ (by decide)) (fun z => rfl) (fun z hz => rfl)
  · show sqC 91 (sqC 108 (sqC 105 (sqC 115 (sqC 116 (sqC 32 (sqC 55 (sqC 93 (sqC 32 (sqC 32 s))))))))) = _ ∨ sqC 91 (sqC 108 (sqC 105 (sqC 115 (sqC 116 (sqC 32 (sqC 55 (sqC 93 (sqC 32 (sqC 32 s))))))))) = _
    have : sqC 32 (sqC 32 s) = s ∨ sqC 32 (sqC 32 s) = 32 :: s := by
      rcases sqC_sp s with e | e <;> rw [e]
      · exact sqC_sp s
      · right
        unfold sqC
        rw [if_pos ⟨rfl, rfl⟩]
    rcases this with e | e <;> rw [e]
    · exact .inl rfl
    · exact .inr rfl
theorem Inv.tr1 (h : Inv base l r) : Inv base (l ++ [32, 40, 102, 119, 100, 41]) true := h.tail (t := [40, 102, 119, 100, 41]) (.inr (by decide)) (by decide)
theorem Inv.tr2 (h : Inv base l r) : Inv base (l ++ [40, 70, 119, 100, 41, 9]) true := h.tail (t := [40, 70, 119, 100, 41]) (.inl (by decide)) (by decide)
/-- the answer -/
theorem Inv.answer (h : Inv base l r) : SS (nrm l) = (base, r) := by rw [SS_nrm, h.ss]
end
end Mine
end

section
open PySem PySem.W PyProof.Rows PySem.Spec PySem.Calls
set_option maxRecDepth 100000
set_option maxHeartbeats 8000000
namespace Mine
/-- a draw, the pot anywhere in the ledger -/
theorem draw_at (w : World) (mean : ExcName → Option Value) (mg mb : Str → Option Value) (P C : Addr) (limit : Int) (tl : Tok) (h0 : 0 < limit) (h1 : limit ≤ 100) (pre : List (Addr × Obj))
    (dp un : Nat) (gd : Option (List Code)) (cn : Str) (cs : Scope) (a : Addr) (ccd : Value) (cl : List (Str × Addr)) (outer : List Env) (A₀ : Around) (base h₀ : Heap) (L : Addr) (m : Str → Option Value) (rest : List (Addr × Obj)) (s : Shared)
    (Q E : Value → Shared → Prop) (k : Nat) (po co : Obj)
    (B : Below A₀ base outer h₀) (F : Fr h₀ L s.heap m) (X : (hd.heap_39 w.params).In h₀) (N : News h₀ L s.heap (pre ++ (P, po) :: (C, co) :: rest)) (T : Top hd.view_39 (looseW hd.view_39 [Str.ofString "_law_words"]) mean mg mb h₀) (hk : cs.kind = .function)
    (hd : dp + 2 < recursionLimit) (hu : un + 32 < cLine) (hp : PotIs C k po co) (hk1 : k ≤ 1000) (hCP : C ≠ P) (oPre : ∀ p ∈ pre, p.1 ≠ P ∧ p.1 ≠ C) (oP : ∀ p ∈ rest, p.1 ≠ P) (oC : ∀ p ∈ rest, p.1 ≠ C)
    (ret : ∀ v t h' tk' po' co', 0 ≤ v → v < limit → Fr h₀ L h' m → PotIs C (k + 1) po' co' → News h₀ L h' (pre ++ (P, po') :: (C, co') :: rest) → Q (.int v t) { s with heap := h', toks := tk' }) :
    wpAny (model PySem.Challenge.rw_no0349_01.row.prog w) (ktrTop dp un gd cn cs L a ccd cl outer) (call (.ref 86) [.ref P, .int limit tl]) Q E s := by
  refine law_draw_does w mean mg mb P C limit tl h0 h1 dp un gd cn cs a ccd cl outer A₀ base h₀ L m (pre ++ rest) s Q E k po co B F X (kst_newsOf N ?_) T hk hd hu hp hk1 hCP ?_ ?_ ?_
  · intro p hp
    simp only [List.mem_cons, List.mem_append] at hp ⊢
    rcases hp with rfl | rfl | h | h
    · exact .inr (.inl rfl)
    · exact .inr (.inr (.inl rfl))
    · exact .inl h
    · exact .inr (.inr (.inr h))
  · intro p hp
    rcases List.mem_append.mp hp with h | h
    · exact (oPre p h).1
    · exact oP p h
  · intro p hp
    rcases List.mem_append.mp hp with h | h
    · exact (oPre p h).2
    · exact oC p h
  · intro v t h' tk' po' co' a1 a2 F' p' N'
    refine ret v t h' tk' po' co' a1 a2 F' p' (kst_newsOf N' ?_)
    intro p hp
    simp only [List.mem_cons, List.mem_append] at hp ⊢
    rcases hp with h | rfl | rfl | h
    · exact .inr (.inr (.inl h))
    · exact .inl rfl
    · exact .inr (.inl rfl)
    · exact .inr (.inr (.inr h))
theorem pre_one {P C l : Addr} {o : Obj} (h1 : P < l) (h2 : C < l) : ∀ p ∈ [((l, o) : Addr × Obj)], p.1 ≠ P ∧ p.1 ≠ C := by
  intro p hp
  rw [List.mem_singleton.mp hp]
  exact ⟨Ne.symm (Nat.ne_of_lt h1), Ne.symm (Nat.ne_of_lt h2)⟩
theorem lt_four {v : Int} (h0 : 0 ≤ v) (h1 : v < 4) : v = 0 ∨ v = 1 ∨ v = 2 ∨ v = 3 := by omega
theorem lt_two {v : Int} (h0 : 0 ≤ v) (h1 : v < 2) : v = 0 ∨ v = 1 := by omega
theorem PotIs.up {C : Addr} {j k : Nat} {po co : Obj} (h : PotIs C j po co) (hj : j ≤ k) : PotIs C k po co := by
  obtain ⟨vs, ns, st, pl, t1, t2, n1, n2, e1, e2, h1, h2, h3, h4, h5, h6, h7⟩ := h
  exact ⟨vs, ns, st, pl, t1, t2, n1, n2, e1, e2, h1, h2, h3, h4, h5, h6, by omega⟩
theorem turn_ok {bs : List Nat} {x x' : Str} {r r' : Bool} {i j k : Nat} {C : Addr} {po co : Obj} (a z : List Nat) (hr : r = r') (e : cl x' = a ++ cl x ++ z) (h : Inv bs (a ++ cl x ++ z) r')
    (y3 : ∀ c ∈ cl x, c < 1114112) (y4 : x.length ≤ 100 + 20 * i) (haz : ∀ c ∈ a ++ z, c < 1114112) (hl : (a ++ z).length ≤ 20) (hp : PotIs C j po co) (hj : j ≤ k + 1 + 3 * (i + 1)) :
    Inv bs (cl x') r ∧ PotIs C (k + 1 + 3 * (i + 1)) po co ∧ (∀ c ∈ cl x', c < 1114112) ∧ x'.length ≤ 100 + 20 * (i + 1) := by
  subst hr
  refine ⟨e ▸ h, hp.up hj, ?_, ?_⟩
  · intro c hc
    rw [e] at hc
    simp only [List.mem_append] at hc haz
    rcases hc with (hc | hc) | hc
    · exact haz c (.inl hc)
    · exact y3 c hc
    · exact haz c (.inr hc)
  · have := cl_length x'
    have := cl_length x
    have e2 := congrArg List.length e
    simp only [List.length_append] at e2 hl
    omega
theorem s_re : cl (Str.ofString "Re: ") = [82, 101, 58, 32] := by decide +kernel
theorem s_fw : cl (Str.ofString "fw:") = [102, 119, 58] := by decide +kernel
theorem s_fwd : cl (Str.ofString "FWD : ") = [70, 87, 68, 32, 58, 32] := by decide +kernel
theorem s_re4 : cl (Str.ofString "re[4]: ") = [114, 101, 91, 52, 93, 58, 32] := by decide +kernel
theorem s_tr1 : cl (Str.ofString " (fwd)") = [32, 40, 102, 119, 100, 41] := by decide +kernel
theorem s_tr2 : cl (Str.ofString "(Fwd)\t") = [40, 70, 119, 100, 41, 9] := by decide +kernel
theorem s_fo : cl (Str.ofString "[fwd: ") = [91, 102, 119, 100, 58, 32] := by decide +kernel
theorem s_cb : cl (Str.ofString "]") = [93] := by decide +kernel
theorem s_list : cl (Str.ofString "[list 7]  ") = [91, 108, 105, 115, 116, 32, 55, 93, 32, 32] := by decide +kernel
theorem s_sp : cl (Str.ofString " ") = [32] := by decide +kernel
section
variable {prog : Program} {w : World} {A : Around} {E : Value → Shared → Prop} {s : Shared}
/-- an item of a list of texts, at a place in bounds: all that is known of each -/
theorem pick_text {value slice : PySem.Expr} {l : Addr} {vs : List Value} {k : Int} {u : Tok} {Q : Value → Shared → Prop} (G : Str → Prop) (hl : s.heap.IsList l vs.toArray) (hv : ∀ v ∈ vs, ∃ x t, v = .str x t ∧ G x)
    (h0 : 0 ≤ k) (h1 : k < vs.length) (hf : k < 2 ^ 63) (h : ∀ x t, G x → Q (.str x t) s)
    (hs : subscripted slice false (.ref l) (.int k u) = operate [.ref l, .int k u] (getItem (.ref l) (.int k u)) := by with_unfolding_all rfl) :
    wpAny (model prog w) A (subscriptTail value slice (.ref l) (.int k u)) Q E s := by
  have hlt : k.toNat < vs.length := by omega
  obtain ⟨x, t, e, g⟩ := hv vs[k.toNat] (List.getElem_mem hlt)
  refine tail_any hl.typeIs slot_list_getitem.lookup (wpAny_getItem_list hl h0 hf (x := .str x t) ?_ (h x t g)) hs
  rw [← e]
  simp [hlt]
end
/-- a leader of the menu, a trailer of the menu -/
def IsLead (x : Str) : Prop := (∀ bs l r, Inv bs l r → Inv bs (cl x ++ l) true) ∧ (∀ c ∈ cl x, c < 1114112) ∧ x.length ≤ 20
def IsTail (x : Str) : Prop := (∀ bs l r, Inv bs l r → Inv bs (l ++ cl x) true) ∧ (∀ c ∈ cl x, c < 1114112) ∧ x.length ≤ 20
theorem lead_re : IsLead (Str.ofString "Re: ") := ⟨fun _ _ _ h => by rw [s_re]; exact h.re, by rw [s_re]; decide, by rw [← cl_length, s_re]; decide⟩
theorem lead_fw : IsLead (Str.ofString "fw:") := ⟨fun _ _ _ h => by rw [s_fw]; exact h.fw, by rw [s_fw]; decide, by rw [← cl_length, s_fw]; decide⟩
theorem lead_fwd : IsLead (Str.ofString "FWD : ") := ⟨fun _ _ _ h => by rw [s_fwd]; exact h.fwdl, by rw [s_fwd]; decide, by rw [← cl_length, s_fwd]; decide⟩
theorem lead_re4 : IsLead (Str.ofString "re[4]: ") := ⟨fun _ _ _ h => by rw [s_re4]; exact h.re4, by rw [s_re4]; decide, by rw [← cl_length, s_re4]; decide⟩
theorem tail_tr1 : IsTail (Str.ofString " (fwd)") := ⟨fun _ _ _ h => by rw [s_tr1]; exact h.tr1, by rw [s_tr1]; decide, by rw [← cl_length, s_tr1]; decide⟩
theorem tail_tr2 : IsTail (Str.ofString "(Fwd)\t") := ⟨fun _ _ _ h => by rw [s_tr2]; exact h.tr2, by rw [s_tr2]; decide, by rw [← cl_length, s_tr2]; decide⟩
theorem leads4 (t1 t2 t3 t4 : Tok) : ∀ v ∈ [Value.str (Str.ofString "Re: ") t1, .str (Str.ofString "fw:") t2, .str (Str.ofString "FWD : ") t3, .str (Str.ofString "re[4]: ") t4], ∃ x t, v = .str x t ∧ IsLead x := by
  intro v hv
  simp only [List.mem_cons, List.not_mem_nil, or_false] at hv
  rcases hv with rfl | rfl | rfl | rfl
  · exact ⟨_, _, rfl, lead_re⟩
  · exact ⟨_, _, rfl, lead_fw⟩
  · exact ⟨_, _, rfl, lead_fwd⟩
  · exact ⟨_, _, rfl, lead_re4⟩
theorem tails2 (t1 t2 : Tok) : ∀ v ∈ [Value.str (Str.ofString " (fwd)") t1, .str (Str.ofString "(Fwd)\t") t2], ∃ x t, v = .str x t ∧ IsTail x := by
  intro v hv
  simp only [List.mem_cons, List.not_mem_nil, or_false] at hv
  rcases hv with rfl | rfl
  · exact ⟨_, _, rfl, tail_tr1⟩
  · exact ⟨_, _, rfl, tail_tr2⟩
/-- the wrapping: what it hands back obeys the invariant; the pot has served -/
def DoesW (w : World) (mean : ExcName → Option Value) (mg mb : Str → Option Value) (kd ku : Nat) (P C : Addr) (base : Str) (tb : Tok) : Prop :=
  ∀ (dp un : Nat) (gd : Option (List Code)) (cn : Str) (cs : Scope) (a : Addr) (ccd : Value) (clo : List (Str × Addr)) (outer : List Env) (A₀ : Around) (bs h₀ : Heap) (L : Addr) (m : Str → Option Value) (rest : List (Addr × Obj)) (s : Shared)
    (Q E : Value → Shared → Prop) (k : Nat) (po co : Obj),
    Below A₀ bs outer h₀ → Fr h₀ L s.heap m → (hd.heap_39 w.params).In h₀ → News h₀ L s.heap ((P, po) :: (C, co) :: rest) → Top hd.view_39 (looseW hd.view_39 [Str.ofString "_law_words"]) mean mg mb h₀ → cs.kind = .function →
    dp + kd < recursionLimit → un + ku < cLine → PotIs C k po co → k ≤ 900 → C ≠ P → (∀ p ∈ rest, p.1 ≠ P) → (∀ p ∈ rest, p.1 ≠ C) →
    (∀ D x t b c h' tk', Inv (cl base) (cl x) b → Ok x → Fr h₀ L h' m → News h₀ L h' ((D, tupSB x t b c) :: rest) → (∀ p ∈ rest, p.1 < D) → Q (.ref D) { s with heap := h', toks := tk' }) →
    wpAny (model PySem.Challenge.rw_no0349_01.row.prog w) (ktrTop dp un gd cn cs L a ccd clo outer) (call (.ref 118) [.ref P, .str base tb]) Q E s
theorem law_wrapped_does (w : World) (mean : ExcName → Option Value) (mg mb : Str → Option Value) (P C : Addr) (base : Str) (tb : Tok) (hI : Inv (cl base) (cl base) false) (hb : ∀ c ∈ cl base, c < 1114112) (hbl : base.length ≤ 100) :
   DoesW w mean mg mb 4 64 P C base tb := by
  unfold DoesW
  k_fill
  k_with_none
  (k_with "w_call" => (k_here; (with_reducible show wpAny _ _ (call (Value.ref 86) [Value.ref _, Value.int _ _]) _ _ _); (k_dflt (refine draw_at _ _ _ _ _ _ _ _ (by decide) (by decide) [] _ _ _ _ _ _ _ _ _ _ _ _ _ _ _ _ _ _ _ _ _ (by k_asm) (by k_asm) (by k_asm) (by k_asm) (by k_asm) (by first | exact rfl | assumption) (by ktr_room) (by ktr_units) (by assumption) (by omega) (by assumption) (by exact fun _ h => absurd h List.not_mem_nil) (by assumption) (by assumption) ?_)); intro v9 t9 h9 tk9 po9 co9 a9 b9 F9 p9 N9; (try dsimp only [List.nil_append] at N9); (try dsimp only); (try k_fold)))
  (k_with "w_call" => (k_here; (with_reducible show wpAny _ _ (call (Value.ref 86) [Value.ref _, Value.int _ _]) _ _ _); (k_dflt (refine draw_at _ _ _ _ _ _ _ _ (by decide) (by decide) [_] _ _ _ _ _ _ _ _ _ _ _ _ _ _ _ _ _ _ _ _ _ (by k_asm) (by k_asm) (by k_asm) (by k_asm) (by k_asm) (by first | exact rfl | assumption) (by ktr_room) (by ktr_units) (by assumption) (by omega) (by assumption) (by (rename _ < _ ∧ _ < _ ∧ AllLt _ _ => l9); exact pre_one l9.1 l9.2.1) (by assumption) (by assumption) ?_)); intro v9 t9 h9 tk9 po9 co9 a9 b9 F9 p9 N9; (try dsimp only [List.cons_append, List.nil_append] at N9); (try dsimp only); (try k_fold)))
  (k_with "GPost" => (dsimp only [GPost]))
  intro dp un gd cn cs a ccd clo outer A₀ bs h₀ L m rest s Q E k po co B F X N T hk hd hu hp hk1 hCP oP oC ret
  refine wpAny_call ?_
  k_dflt cell_enter
  rename_i g' L' h' FG' F' N' B' X' T'
  (repeat' (first | ((fail_if_success ((first | (with_reducible show wpAny _ _ (exec (Stmt.For _ _ _ _ _) _) _ _ _) | (with_reducible show wpAny _ _ (pyIter _) _ _ _)))); ((first | ((((with_reducible show wpAny _ _ (subscriptTail _ _ (Value.ref _) (Value.int _ _)) _ _ _); k_dflt (first | (refine pick_text IsLead (by is_list) (leads4 _ _ _ _) (by with_reducible assumption) (by assumption) (Int.lt_of_le_of_lt (Int.le_of_lt (by with_reducible assumption)) (by decide)) ?_) | (refine pick_text IsTail (by is_list) (tails2 _ _) (by with_reducible assumption) (by assumption) (Int.lt_of_le_of_lt (Int.le_of_lt (by with_reducible assumption)) (by decide)) ?_)); intro x9 t9 g9; have g8 := g9.2.2; (try dsimp only); (try k_fold)))) | (k_unfold; (try dsimp only)) | (first | ((with_reducible show wpAny _ _ (call (Value.ref _) _) _ _ _); k_extra "w_call") | ((fail_if_success (with_reducible show wpAny _ _ (call (Value.ref _) _) _ _ _)); walk1)) | (dsimp only; (first | ((with_reducible show wpAny _ _ (call (Value.ref _) _) _ _ _); k_extra "w_call") | ((fail_if_success (with_reducible show wpAny _ _ (call (Value.ref _) _) _ _ _)); walk1))))))))
  refine For_invV g' (by rfl) (by rfl) ?_ (by intro _; rfl) (by passes_own)
  (repeat' (first | ((fail_if_success ((first | (with_reducible show wpAny _ _ (exec (Stmt.For _ _ _ _ _) _) _ _ _) | (with_reducible show wpAny _ _ (pyIter _) _ _ _)))); ((first | ((((with_reducible show wpAny _ _ (subscriptTail _ _ (Value.ref _) (Value.int _ _)) _ _ _); k_dflt (first | (refine pick_text IsLead (by is_list) (leads4 _ _ _ _) (by with_reducible assumption) (by assumption) (Int.lt_of_le_of_lt (Int.le_of_lt (by with_reducible assumption)) (by decide)) ?_) | (refine pick_text IsTail (by is_list) (tails2 _ _) (by with_reducible assumption) (by assumption) (Int.lt_of_le_of_lt (Int.le_of_lt (by with_reducible assumption)) (by decide)) ?_)); intro x9 t9 g9; have g8 := g9.2.2; (try dsimp only); (try k_fold)))) | (k_unfold; (try dsimp only)) | (first | ((with_reducible show wpAny _ _ (call (Value.ref _) _) _ _ _); k_extra "w_call") | ((fail_if_success (with_reducible show wpAny _ _ (call (Value.ref _) _) _ _ _)); walk1)) | (dsimp only; (first | ((with_reducible show wpAny _ _ (call (Value.ref _) _) _ _ _); k_extra "w_call") | ((fail_if_success (with_reducible show wpAny _ _ (call (Value.ref _) _) _ _ _)); walk1))))))))
  (rename Fr g' _ _ _ => F1)
  (rename News g' _ _ _ => N1)
  (rename IsRange _ _ _ _ _ _ _ _ => R1)
  (rename PotIs _ _ _ _ => p1)
  (rename 0 ≤ _ => hn0)
  (rename _ < (5 : Int) => hn1)
  with_unfolding_all
    refine' w_range (σ := ((Str × Tok) × Bool) × (Obj × Obj)) (fun c => (P, c.2.1) :: (C, c.2.2) :: rest) (fun c => [(Str.ofString "text", .str c.1.1.1 c.1.1.2), (Str.ofString "is_reply", .bool c.1.2)]) [Str.ofString "way"]
      (fun i c => Inv (cl base) (cl c.1.1.1) c.1.2 ∧ PotIs C (k + 1 + 3 * i) c.2.1 c.2.2 ∧ (∀ a ∈ cl c.1.1.1, a < 1114112) ∧ c.1.1.1.length ≤ 100 + 20 * i) (((base, tb), false), (_, _)) rfl R1 hn0 (by omega) F1 N1 (fun _ => rfl) ?q1 ?q2 ?q3 ?q4
  case q1 => kst_all
  case q2 => exact ⟨hI, p1, hb, by dsimp only; omega⟩
  case q3 =>
    clear F1 N1 R1 p1
    rintro i ⟨⟨⟨x, tx⟩, b⟩, ⟨po2, co2⟩⟩ j tj u hp2 tk2 own hi hoff ⟨y1, y2, y3, y4⟩ F1 N1
    dsimp only at y1 y2 y3 y4
    dsimp only [List.cons_append] at N1
    have oP2 : ∀ p ∈ rest ++ own, p.1 ≠ P := by
      intro p hp
      rcases List.mem_append.mp hp with h | h
      · exact oP p h
      · exact hoff p h P (List.mem_cons_self)
    have oC2 : ∀ p ∈ rest ++ own, p.1 ≠ C := by
      intro p hp
      rcases List.mem_append.mp hp with h | h
      · exact oC p h
      · exact hoff p h C (List.mem_cons_of_mem _ List.mem_cons_self)
    (repeat' (first | ((fail_if_success ((first | (with_reducible show wpAny _ _ (exec (Stmt.For _ _ _ _ _) _) _ _ _) | (with_reducible show wpAny _ _ (pyIter _) _ _ _)))); (fail_if_success (with_reducible show wpAny _ _ (eval (PySem.Expr.BoolOp _ _ _) _) _ _ _)); ((first | ((((with_reducible show wpAny _ _ (subscriptTail _ _ (Value.ref _) (Value.int _ _)) _ _ _); k_dflt (first | (refine pick_text IsLead (by is_list) (leads4 _ _ _ _) (by with_reducible assumption) (by assumption) (Int.lt_of_le_of_lt (Int.le_of_lt (by with_reducible assumption)) (by decide)) ?_) | (refine pick_text IsTail (by is_list) (tails2 _ _) (by with_reducible assumption) (by assumption) (Int.lt_of_le_of_lt (Int.le_of_lt (by with_reducible assumption)) (by decide)) ?_)); intro x9 t9 g9; have g8 := g9.2.2; (try dsimp only); (try k_fold)))) | (k_unfold; (try dsimp only)) | (first | ((with_reducible show wpAny _ _ (call (Value.ref _) _) _ _ _); k_extra "w_call") | ((fail_if_success (with_reducible show wpAny _ _ (call (Value.ref _) _) _ _ _)); walk1)) | (dsimp only; (first | ((with_reducible show wpAny _ _ (call (Value.ref _) _) _ _ _); k_extra "w_call") | ((fail_if_success (with_reducible show wpAny _ _ (call (Value.ref _) _) _ _ _)); walk1))))))))
    · (rename Fr g' _ _ _ => F5)
      (rename News g' _ _ _ => N5)
      (rename IsLead _ => g9)
      refine w_evalJ true F5 N5 ?_ ?_
      · (repeat' (first | ((fail_if_success ((first | (with_reducible show wpAny _ _ (exec (Stmt.For _ _ _ _ _) _) _ _ _) | (with_reducible show wpAny _ _ (pyIter _) _ _ _)))); ((first | ((((with_reducible show wpAny _ _ (subscriptTail _ _ (Value.ref _) (Value.int _ _)) _ _ _); k_dflt (first | (refine pick_text IsLead (by is_list) (leads4 _ _ _ _) (by with_reducible assumption) (by assumption) (Int.lt_of_le_of_lt (Int.le_of_lt (by with_reducible assumption)) (by decide)) ?_) | (refine pick_text IsTail (by is_list) (tails2 _ _) (by with_reducible assumption) (by assumption) (Int.lt_of_le_of_lt (Int.le_of_lt (by with_reducible assumption)) (by decide)) ?_)); intro x9 t9 g9; have g8 := g9.2.2; (try dsimp only); (try k_fold)))) | (k_unfold; (try dsimp only)) | (first | ((with_reducible show wpAny _ _ (call (Value.ref _) _) _ _ _); k_extra "w_call") | ((fail_if_success (with_reducible show wpAny _ _ (call (Value.ref _) _) _ _ _)); walk1)) | (dsimp only; (first | ((with_reducible show wpAny _ _ (call (Value.ref _) _) _ _ _); k_extra "w_call") | ((fail_if_success (with_reducible show wpAny _ _ (call (Value.ref _) _) _ _ _)); walk1))))))))
        all_goals exact v_out (by assumption) (by assumption) (by (first | assumption | exact decide_eq_true (by omega) | exact decide_eq_false (by omega) | exact rfl | exact Eq.trans (decide_eq_false (by omega)) (Eq.symm (by assumption))))
      intro h5 tk5 F6 N6
      clear F5 N5
      (repeat' (first | ((fail_if_success ((first | (with_reducible show wpAny _ _ (exec (Stmt.For _ _ _ _ _) _) _ _ _) | (with_reducible show wpAny _ _ (pyIter _) _ _ _)))); ((first | ((((with_reducible show wpAny _ _ (subscriptTail _ _ (Value.ref _) (Value.int _ _)) _ _ _); k_dflt (first | (refine pick_text IsLead (by is_list) (leads4 _ _ _ _) (by with_reducible assumption) (by assumption) (Int.lt_of_le_of_lt (Int.le_of_lt (by with_reducible assumption)) (by decide)) ?_) | (refine pick_text IsTail (by is_list) (tails2 _ _) (by with_reducible assumption) (by assumption) (Int.lt_of_le_of_lt (Int.le_of_lt (by with_reducible assumption)) (by decide)) ?_)); intro x9 t9 g9; have g8 := g9.2.2; (try dsimp only); (try k_fold)))) | (k_unfold; (try dsimp only)) | (first | ((with_reducible show wpAny _ _ (call (Value.ref _) _) _ _ _); k_extra "w_call") | ((fail_if_success (with_reducible show wpAny _ _ (call (Value.ref _) _) _ _ _)); walk1)) | (dsimp only; (first | ((with_reducible show wpAny _ _ (call (Value.ref _) _) _ _ _); k_extra "w_call") | ((fail_if_success (with_reducible show wpAny _ _ (call (Value.ref _) _) _ _ _)); walk1))))))))
      (rename Fr g' _ _ _ => F9)
      (rename News g' _ _ _ => N9)
      refine g_end (((_, _), _), (_, _)) F9 (kst_newsOf N9 (fun p hp => List.mem_cons_of_mem _ hp)) (by kst_all) (by ((intro z h1 h2 h3; (simp only [List.forall_mem_cons, List.not_mem_nil, false_implies, implies_true, and_true, ne_eq] at h2); (simp only [List.contains_cons, List.contains_nil, Bool.or_false, Bool.or_eq_false_iff, beq_eq_false_iff_ne, ne_eq] at h3); (simp [kstB, h1, h2, h3]; done)))) ?_
      dsimp only
      exact turn_ok _ [] (r' := true) rfl (by rw [cl_append, List.append_nil]) (by rw [List.append_nil]; exact g9.1 _ _ _ y1) y3 y4 (by rw [List.append_nil]; exact g9.2.1) (by rw [List.append_nil, cl_length]; exact g9.2.2) (by assumption) (by omega)
    · (rename Fr g' _ _ _ => F5)
      (rename News g' _ _ _ => N5)
      (rename IsTail _ => g9)
      refine w_evalJ true F5 N5 ?_ ?_
      · (repeat' (first | ((fail_if_success ((first | (with_reducible show wpAny _ _ (exec (Stmt.For _ _ _ _ _) _) _ _ _) | (with_reducible show wpAny _ _ (pyIter _) _ _ _)))); ((first | ((((with_reducible show wpAny _ _ (subscriptTail _ _ (Value.ref _) (Value.int _ _)) _ _ _); k_dflt (first | (refine pick_text IsLead (by is_list) (leads4 _ _ _ _) (by with_reducible assumption) (by assumption) (Int.lt_of_le_of_lt (Int.le_of_lt (by with_reducible assumption)) (by decide)) ?_) | (refine pick_text IsTail (by is_list) (tails2 _ _) (by with_reducible assumption) (by assumption) (Int.lt_of_le_of_lt (Int.le_of_lt (by with_reducible assumption)) (by decide)) ?_)); intro x9 t9 g9; have g8 := g9.2.2; (try dsimp only); (try k_fold)))) | (k_unfold; (try dsimp only)) | (first | ((with_reducible show wpAny _ _ (call (Value.ref _) _) _ _ _); k_extra "w_call") | ((fail_if_success (with_reducible show wpAny _ _ (call (Value.ref _) _) _ _ _)); walk1)) | (dsimp only; (first | ((with_reducible show wpAny _ _ (call (Value.ref _) _) _ _ _); k_extra "w_call") | ((fail_if_success (with_reducible show wpAny _ _ (call (Value.ref _) _) _ _ _)); walk1))))))))
        all_goals exact v_out (by assumption) (by assumption) (by (first | assumption | exact decide_eq_true (by omega) | exact decide_eq_false (by omega) | exact rfl | exact Eq.trans (decide_eq_false (by omega)) (Eq.symm (by assumption))))
      intro h5 tk5 F6 N6
      clear F5 N5
      (repeat' (first | ((fail_if_success ((first | (with_reducible show wpAny _ _ (exec (Stmt.For _ _ _ _ _) _) _ _ _) | (with_reducible show wpAny _ _ (pyIter _) _ _ _)))); ((first | ((((with_reducible show wpAny _ _ (subscriptTail _ _ (Value.ref _) (Value.int _ _)) _ _ _); k_dflt (first | (refine pick_text IsLead (by is_list) (leads4 _ _ _ _) (by with_reducible assumption) (by assumption) (Int.lt_of_le_of_lt (Int.le_of_lt (by with_reducible assumption)) (by decide)) ?_) | (refine pick_text IsTail (by is_list) (tails2 _ _) (by with_reducible assumption) (by assumption) (Int.lt_of_le_of_lt (Int.le_of_lt (by with_reducible assumption)) (by decide)) ?_)); intro x9 t9 g9; have g8 := g9.2.2; (try dsimp only); (try k_fold)))) | (k_unfold; (try dsimp only)) | (first | ((with_reducible show wpAny _ _ (call (Value.ref _) _) _ _ _); k_extra "w_call") | ((fail_if_success (with_reducible show wpAny _ _ (call (Value.ref _) _) _ _ _)); walk1)) | (dsimp only; (first | ((with_reducible show wpAny _ _ (call (Value.ref _) _) _ _ _); k_extra "w_call") | ((fail_if_success (with_reducible show wpAny _ _ (call (Value.ref _) _) _ _ _)); walk1))))))))
      (rename Fr g' _ _ _ => F9)
      (rename News g' _ _ _ => N9)
      refine g_end (((_, _), _), (_, _)) F9 (kst_newsOf N9 (fun p hp => List.mem_cons_of_mem _ hp)) (by kst_all) (by ((intro z h1 h2 h3; (simp only [List.forall_mem_cons, List.not_mem_nil, false_implies, implies_true, and_true, ne_eq] at h2); (simp only [List.contains_cons, List.contains_nil, Bool.or_false, Bool.or_eq_false_iff, beq_eq_false_iff_ne, ne_eq] at h3); (simp [kstB, h1, h2, h3]; done)))) ?_
      dsimp only
      exact turn_ok [] _ (r' := true) rfl (by rw [cl_append, List.nil_append]) (by rw [List.nil_append]; exact g9.1 _ _ _ y1) y3 y4 (by rw [List.nil_append]; exact g9.2.1) (by rw [List.nil_append, cl_length]; exact g9.2.2) (by assumption) (by omega)
    · (rename Fr g' _ _ _ => F5)
      (rename News g' _ _ _ => N5)
      refine w_evalJ true F5 N5 ?_ ?_
      · (repeat' (first | ((fail_if_success ((first | (with_reducible show wpAny _ _ (exec (Stmt.For _ _ _ _ _) _) _ _ _) | (with_reducible show wpAny _ _ (pyIter _) _ _ _)))); ((first | ((((with_reducible show wpAny _ _ (subscriptTail _ _ (Value.ref _) (Value.int _ _)) _ _ _); k_dflt (first | (refine pick_text IsLead (by is_list) (leads4 _ _ _ _) (by with_reducible assumption) (by assumption) (Int.lt_of_le_of_lt (Int.le_of_lt (by with_reducible assumption)) (by decide)) ?_) | (refine pick_text IsTail (by is_list) (tails2 _ _) (by with_reducible assumption) (by assumption) (Int.lt_of_le_of_lt (Int.le_of_lt (by with_reducible assumption)) (by decide)) ?_)); intro x9 t9 g9; have g8 := g9.2.2; (try dsimp only); (try k_fold)))) | (k_unfold; (try dsimp only)) | (first | ((with_reducible show wpAny _ _ (call (Value.ref _) _) _ _ _); k_extra "w_call") | ((fail_if_success (with_reducible show wpAny _ _ (call (Value.ref _) _) _ _ _)); walk1)) | (dsimp only; (first | ((with_reducible show wpAny _ _ (call (Value.ref _) _) _ _ _); k_extra "w_call") | ((fail_if_success (with_reducible show wpAny _ _ (call (Value.ref _) _) _ _ _)); walk1))))))))
        all_goals exact v_out (by assumption) (by assumption) (by (first | assumption | exact decide_eq_true (by omega) | exact decide_eq_false (by omega) | exact rfl | exact Eq.trans (decide_eq_false (by omega)) (Eq.symm (by assumption))))
      intro h5 tk5 F6 N6
      clear F5 N5
      (repeat' (first | ((fail_if_success ((first | (with_reducible show wpAny _ _ (exec (Stmt.For _ _ _ _ _) _) _ _ _) | (with_reducible show wpAny _ _ (pyIter _) _ _ _)))); ((first | ((((with_reducible show wpAny _ _ (subscriptTail _ _ (Value.ref _) (Value.int _ _)) _ _ _); k_dflt (first | (refine pick_text IsLead (by is_list) (leads4 _ _ _ _) (by with_reducible assumption) (by assumption) (Int.lt_of_le_of_lt (Int.le_of_lt (by with_reducible assumption)) (by decide)) ?_) | (refine pick_text IsTail (by is_list) (tails2 _ _) (by with_reducible assumption) (by assumption) (Int.lt_of_le_of_lt (Int.le_of_lt (by with_reducible assumption)) (by decide)) ?_)); intro x9 t9 g9; have g8 := g9.2.2; (try dsimp only); (try k_fold)))) | (k_unfold; (try dsimp only)) | (first | ((with_reducible show wpAny _ _ (call (Value.ref _) _) _ _ _); k_extra "w_call") | ((fail_if_success (with_reducible show wpAny _ _ (call (Value.ref _) _) _ _ _)); walk1)) | (dsimp only; (first | ((with_reducible show wpAny _ _ (call (Value.ref _) _) _ _ _); k_extra "w_call") | ((fail_if_success (with_reducible show wpAny _ _ (call (Value.ref _) _) _ _ _)); walk1))))))))
      (rename Fr g' _ _ _ => F9)
      (rename News g' _ _ _ => N9)
      refine g_end (((_, _), _), (_, _)) F9 N9 (by kst_all) (by ((intro z h1 h2 h3; (simp only [List.forall_mem_cons, List.not_mem_nil, false_implies, implies_true, and_true, ne_eq] at h2); (simp only [List.contains_cons, List.contains_nil, Bool.or_false, Bool.or_eq_false_iff, beq_eq_false_iff_ne, ne_eq] at h3); (simp [kstB, h1, h2, h3]; done)))) ?_
      dsimp only
      exact turn_ok [91, 102, 119, 100, 58, 32] [93] (r' := true) rfl (by rw [cl_append, cl_append, s_fo, s_cb]) y1.fwd y3 y4 (by decide) (by decide) (by assumption) (by omega)
    · (rename Fr g' _ _ _ => F5)
      (rename News g' _ _ _ => N5)
      refine w_evalJ b F5 N5 ?_ ?_
      · (repeat' (first | ((fail_if_success ((first | (with_reducible show wpAny _ _ (exec (Stmt.For _ _ _ _ _) _) _ _ _) | (with_reducible show wpAny _ _ (pyIter _) _ _ _)))); ((first | ((((with_reducible show wpAny _ _ (subscriptTail _ _ (Value.ref _) (Value.int _ _)) _ _ _); k_dflt (first | (refine pick_text IsLead (by is_list) (leads4 _ _ _ _) (by with_reducible assumption) (by assumption) (Int.lt_of_le_of_lt (Int.le_of_lt (by with_reducible assumption)) (by decide)) ?_) | (refine pick_text IsTail (by is_list) (tails2 _ _) (by with_reducible assumption) (by assumption) (Int.lt_of_le_of_lt (Int.le_of_lt (by with_reducible assumption)) (by decide)) ?_)); intro x9 t9 g9; have g8 := g9.2.2; (try dsimp only); (try k_fold)))) | (k_unfold; (try dsimp only)) | (first | ((with_reducible show wpAny _ _ (call (Value.ref _) _) _ _ _); k_extra "w_call") | ((fail_if_success (with_reducible show wpAny _ _ (call (Value.ref _) _) _ _ _)); walk1)) | (dsimp only; (first | ((with_reducible show wpAny _ _ (call (Value.ref _) _) _ _ _); k_extra "w_call") | ((fail_if_success (with_reducible show wpAny _ _ (call (Value.ref _) _) _ _ _)); walk1))))))))
        all_goals exact v_out (by assumption) (by assumption) (by (first | assumption | exact decide_eq_true (by omega) | exact decide_eq_false (by omega) | exact rfl | exact Eq.trans (decide_eq_false (by omega)) (Eq.symm (by assumption))))
      intro h5 tk5 F6 N6
      clear F5 N5
      (repeat' (first | ((fail_if_success ((first | (with_reducible show wpAny _ _ (exec (Stmt.For _ _ _ _ _) _) _ _ _) | (with_reducible show wpAny _ _ (pyIter _) _ _ _)))); ((first | ((((with_reducible show wpAny _ _ (subscriptTail _ _ (Value.ref _) (Value.int _ _)) _ _ _); k_dflt (first | (refine pick_text IsLead (by is_list) (leads4 _ _ _ _) (by with_reducible assumption) (by assumption) (Int.lt_of_le_of_lt (Int.le_of_lt (by with_reducible assumption)) (by decide)) ?_) | (refine pick_text IsTail (by is_list) (tails2 _ _) (by with_reducible assumption) (by assumption) (Int.lt_of_le_of_lt (Int.le_of_lt (by with_reducible assumption)) (by decide)) ?_)); intro x9 t9 g9; have g8 := g9.2.2; (try dsimp only); (try k_fold)))) | (k_unfold; (try dsimp only)) | (first | ((with_reducible show wpAny _ _ (call (Value.ref _) _) _ _ _); k_extra "w_call") | ((fail_if_success (with_reducible show wpAny _ _ (call (Value.ref _) _) _ _ _)); walk1)) | (dsimp only; (first | ((with_reducible show wpAny _ _ (call (Value.ref _) _) _ _ _); k_extra "w_call") | ((fail_if_success (with_reducible show wpAny _ _ (call (Value.ref _) _) _ _ _)); walk1))))))))
      (rename Fr g' _ _ _ => F9)
      (rename News g' _ _ _ => N9)
      refine g_end (((_, _), _), (_, _)) F9 N9 (by kst_all) (by ((intro z h1 h2 h3; (simp only [List.forall_mem_cons, List.not_mem_nil, false_implies, implies_true, and_true, ne_eq] at h2); (simp only [List.contains_cons, List.contains_nil, Bool.or_false, Bool.or_eq_false_iff, beq_eq_false_iff_ne, ne_eq] at h3); (simp [kstB, h1, h2, h3]; done)))) ?_
      dsimp only
      exact turn_ok [91, 108, 105, 115, 116, 32, 55, 93, 32, 32] [] (r' := b) rfl (by rw [cl_append, s_list, List.append_nil]) (by rw [List.append_nil]; exact y1.list7) y3 y4 (by decide) (by decide) (by assumption) (by omega)
    · (rename Fr g' _ _ _ => F5)
      (rename News g' _ _ _ => N5)
      refine w_evalJ b F5 N5 ?_ ?_
      · (repeat' (first | ((fail_if_success ((first | (with_reducible show wpAny _ _ (exec (Stmt.For _ _ _ _ _) _) _ _ _) | (with_reducible show wpAny _ _ (pyIter _) _ _ _)))); ((first | ((((with_reducible show wpAny _ _ (subscriptTail _ _ (Value.ref _) (Value.int _ _)) _ _ _); k_dflt (first | (refine pick_text IsLead (by is_list) (leads4 _ _ _ _) (by with_reducible assumption) (by assumption) (Int.lt_of_le_of_lt (Int.le_of_lt (by with_reducible assumption)) (by decide)) ?_) | (refine pick_text IsTail (by is_list) (tails2 _ _) (by with_reducible assumption) (by assumption) (Int.lt_of_le_of_lt (Int.le_of_lt (by with_reducible assumption)) (by decide)) ?_)); intro x9 t9 g9; have g8 := g9.2.2; (try dsimp only); (try k_fold)))) | (k_unfold; (try dsimp only)) | (first | ((with_reducible show wpAny _ _ (call (Value.ref _) _) _ _ _); k_extra "w_call") | ((fail_if_success (with_reducible show wpAny _ _ (call (Value.ref _) _) _ _ _)); walk1)) | (dsimp only; (first | ((with_reducible show wpAny _ _ (call (Value.ref _) _) _ _ _); k_extra "w_call") | ((fail_if_success (with_reducible show wpAny _ _ (call (Value.ref _) _) _ _ _)); walk1))))))))
        all_goals exact v_out (by assumption) (by assumption) (by (first | assumption | exact decide_eq_true (by omega) | exact decide_eq_false (by omega) | exact rfl | exact Eq.trans (decide_eq_false (by omega)) (Eq.symm (by assumption))))
      intro h5 tk5 F6 N6
      clear F5 N5
      (repeat' (first | ((fail_if_success ((first | (with_reducible show wpAny _ _ (exec (Stmt.For _ _ _ _ _) _) _ _ _) | (with_reducible show wpAny _ _ (pyIter _) _ _ _)))); ((first | ((((with_reducible show wpAny _ _ (subscriptTail _ _ (Value.ref _) (Value.int _ _)) _ _ _); k_dflt (first | (refine pick_text IsLead (by is_list) (leads4 _ _ _ _) (by with_reducible assumption) (by assumption) (Int.lt_of_le_of_lt (Int.le_of_lt (by with_reducible assumption)) (by decide)) ?_) | (refine pick_text IsTail (by is_list) (tails2 _ _) (by with_reducible assumption) (by assumption) (Int.lt_of_le_of_lt (Int.le_of_lt (by with_reducible assumption)) (by decide)) ?_)); intro x9 t9 g9; have g8 := g9.2.2; (try dsimp only); (try k_fold)))) | (k_unfold; (try dsimp only)) | (first | ((with_reducible show wpAny _ _ (call (Value.ref _) _) _ _ _); k_extra "w_call") | ((fail_if_success (with_reducible show wpAny _ _ (call (Value.ref _) _) _ _ _)); walk1)) | (dsimp only; (first | ((with_reducible show wpAny _ _ (call (Value.ref _) _) _ _ _); k_extra "w_call") | ((fail_if_success (with_reducible show wpAny _ _ (call (Value.ref _) _) _ _ _)); walk1))))))))
      (rename Fr g' _ _ _ => F9)
      (rename News g' _ _ _ => N9)
      refine g_end (((_, _), _), (_, _)) F9 N9 (by kst_all) (by ((intro z h1 h2 h3; (simp only [List.forall_mem_cons, List.not_mem_nil, false_implies, implies_true, and_true, ne_eq] at h2); (simp only [List.contains_cons, List.contains_nil, Bool.or_false, Bool.or_eq_false_iff, beq_eq_false_iff_ne, ne_eq] at h3); (simp [kstB, h1, h2, h3]; done)))) ?_
      dsimp only
      exact turn_ok [32] [32] (r' := b) rfl (by rw [cl_append, cl_append, s_sp]) y1.pad y3 y4 (by decide) (by decide) (by assumption) (by omega)
  case q4 =>
    clear F1 N1 R1 p1
    rintro ⟨⟨⟨x, tx⟩, b⟩, ⟨po2, co2⟩⟩ u hp2 tk2 ⟨y1, y2, y3, y4⟩ F1 N1
    dsimp only at y1 y2 y3 y4
    (repeat' (first | ((fail_if_success ((first | (with_reducible show wpAny _ _ (exec (Stmt.For _ _ _ _ _) _) _ _ _) | (with_reducible show wpAny _ _ (pyIter _) _ _ _)))); ((first | ((((with_reducible show wpAny _ _ (subscriptTail _ _ (Value.ref _) (Value.int _ _)) _ _ _); k_dflt (first | (refine pick_text IsLead (by is_list) (leads4 _ _ _ _) (by with_reducible assumption) (by assumption) (Int.lt_of_le_of_lt (Int.le_of_lt (by with_reducible assumption)) (by decide)) ?_) | (refine pick_text IsTail (by is_list) (tails2 _ _) (by with_reducible assumption) (by assumption) (Int.lt_of_le_of_lt (Int.le_of_lt (by with_reducible assumption)) (by decide)) ?_)); intro x9 t9 g9; have g8 := g9.2.2; (try dsimp only); (try k_fold)))) | (k_unfold; (try dsimp only)) | (first | ((with_reducible show wpAny _ _ (call (Value.ref _) _) _ _ _); k_extra "w_call") | ((fail_if_success (with_reducible show wpAny _ _ (call (Value.ref _) _) _ _ _)); walk1)) | (dsimp only; (first | ((with_reducible show wpAny _ _ (call (Value.ref _) _) _ _ _); k_extra "w_call") | ((fail_if_success (with_reducible show wpAny _ _ (call (Value.ref _) _) _ _ _)); walk1))))))))
    (rename Fr h₀ L _ _ => F9)
    (rename News h₀ L _ _ => N9)
    (rename _ < _ ∧ _ < _ ∧ AllLt _ _ => l9)
    exact ret _ x tx b _ _ _ y1 ⟨by omega, y3⟩ F9 (news_keep1 N9) (allLt_mem l9.2.2)
end Mine
end

section
open PySem PySem.W PyProof.Rows PySem.Spec PySem.Calls
set_option maxRecDepth 100000
set_option maxHeartbeats 8000000
namespace Mine
theorem one_lt (a b : Nat) : ([a] : List Nat) < [b] ↔ a < b := by
  have h := StrLaws.lt_cons_cons a b [] []
  rw [StrLaws.lt_nil_nil, Bool.and_false, Bool.or_false] at h
  have := decide_eq_decide.mp h
  exact this
theorem lt_A (c : Nat) : (⟨#[c]⟩ : Str).cps.toList < (Str.ofString "A").cps.toList ↔ c < 65 := by
  have e : (Str.ofString "A").cps.toList = [65] := by decide +kernel
  rw [e]
  exact one_lt c 65
theorem lt_Z (c : Nat) : (Str.ofString "Z").cps.toList < (⟨#[c]⟩ : Str).cps.toList ↔ 90 < c := by
  have e : (Str.ofString "Z").cps.toList = [90] := by decide +kernel
  rw [e]
  exact one_lt 90 c
theorem law_small_does (w : World) (mean : ExcName → Option Value) (mg mb : Str → Option Value) (text : Str) (t0 : Tok) (hl : text.length ≤ 4096) :
   Does w mean mg mb 2 32 92 [.str text t0] (fun t => .str (mk (low (cl text))) t) := by
  unfold Does
  k_fill
  intro dp un gd cn cs a ccd clo outer A₀ base h₀ L m news s Q E B F X N T hk hd hu ret
  refine wpAny_call ?_
  k_dflt cell_enter
  (repeat (first | ((fail_if_success (with_reducible show wpAny _ _ (eval (PySem.Expr.ListComp _ _ _ _) _) _ _ _)); ((first | (k_unfold; (try dsimp only)) | walk1 | (dsimp only; walk1))))))
  (rename Fr _ _ _ _ => F1)
  (rename News _ _ _ _ => N1)
  with_unfolding_all
    refine ListComp_S text t0 (fun c => mk [lowN c]) (by rfl) F1 N1 (by rfl) (by decide) (by rfl) (by decide) (by rfl) ?hit ?hsz ?turn ?fin
  case hit => k_dflt (refine ld F1 (by rfl) ⟨rfl, rfl⟩)
  case hsz => show text.length ≤ sizeLine; rw [sizeLine_eq]; omega
  case turn =>
    intro c u I oI C oC D ys m₂ hp tk E' hc hC hx F2 N2 off ne
    clear F1 N1
    (repeat' (first | (k_unfold; (try dsimp only)) | walk1 | (dsimp only; walk1)))
    · (rename _ < _ => h1)
      have h1 := (lt_A c).mp h1
      (rename Fr _ _ _ _ => F9)
      (rename News _ _ _ _ => N9)
      have e2 : lowN c = c := by unfold lowN; rw [if_neg (by omega)]
      exact LCg.CompEnd.intro F9 N9 news (fun p hp => hp) off True.intro ⟨⟨_, by rw [e2]; rfl⟩, rfl⟩
    · (rename _ < _ => h1)
      have h1 := (lt_Z c).mp h1
      (rename Fr _ _ _ _ => F9)
      (rename News _ _ _ _ => N9)
      have e2 : lowN c = c := by unfold lowN; rw [if_neg (by omega)]
      exact LCg.CompEnd.intro F9 N9 news (fun p hp => hp) off True.intro ⟨⟨_, by rw [e2]; rfl⟩, rfl⟩
    · (rename ¬ _ < (⟨#[c]⟩ : Str).cps.toList => h2)
      (rename ¬ (⟨#[c]⟩ : Str).cps.toList < _ => h1)
      have h1 := (not_congr (lt_A c)).mp h1
      have h2 := (not_congr (lt_Z c)).mp h2
      have e2 : lowN c = c + 32 := by unfold lowN; rw [if_pos (by omega)]
      (repeat' (first | (k_unfold; (try dsimp only)) | walk1 | (dsimp only; walk1)))
      (rename Fr _ _ _ _ => F9)
      (rename News _ _ _ _ => N9)
      exact LCg.CompEnd.intro F9 N9 news (fun p hp => hp) off True.intro ⟨⟨_, by rw [e2]; rfl⟩, rfl⟩
  case fin =>
    intro D ys hp tk F2 N2 off hy
    clear F1 N1
    k_steps
    have hlen : text.cps.toList.length = text.length := cl_length text
    refine join_listC (News.isList N2 (List.mem_cons_self)) hy (by decide) ?_ (fun t' k => ?_)
    · rw [sum_ones _ (fun c => mk_length _), List.length_map]; omega
    · rw [join_signs]
      k_steps
      exact cb_retS ret rfl (by assumption) (fun p hp => by (rename News _ _ _ _ => N9); exact N9 p (List.mem_cons_of_mem _ hp))
end Mine
end

section
open PySem PySem.W PyProof.Rows PySem.Spec PySem.Calls
set_option maxRecDepth 100000
set_option maxHeartbeats 8000000
namespace Mine
/-- the text as far as en -/
def win (x : Str) (en : Int) : List Nat := (cl x).take en.toNat
theorem item_is {x : Str} {k : Int} (h0 : 0 ≤ k) (h1 : k < x.length) : ∃ c, (cl x)[k.toNat]? = some c ∧ Txt.item x k = mk [c] := by
  obtain ⟨c, hc⟩ := StrLaws.some_at h0 h1
  refine ⟨c, by simpa [cl] using hc, ?_⟩
  have h := StrLaws.at_nonneg (x := x) h0 hc
  unfold Txt.item Txt.charAt
  rw [h]
  rfl
theorem drop_cons {l : List Nat} {k : Nat} {c : Nat} (h : l[k]? = some c) : l.drop k = c :: l.drop (k + 1) := by
  obtain ⟨hk, e⟩ := List.getElem?_eq_some_iff.mp h
  rw [List.drop_eq_getElem_cons hk, e]
theorem item_win {x : Str} {k en : Int} (h0 : 0 ≤ k) (h1 : k < en) (h2 : en ≤ x.length) : ∃ c, Txt.item x k = mk [c] ∧ ((cl x).take en.toNat).drop k.toNat = c :: ((cl x).take en.toNat).drop (k + 1).toNat := by
  obtain ⟨c, hc, e⟩ := item_is h0 (by omega : k < x.length)
  refine ⟨c, e, ?_⟩
  have : ((cl x).take en.toNat)[k.toNat]? = some c := by rw [List.getElem?_take_of_lt (by omega), hc]
  rw [drop_cons this, toNat_succ h0]
theorem br_found (c : Nat) : (Builtin.Str.occurrences (Str.ofString "[]") (mk [c]) 0 (Str.ofString "[]").length 1).isEmpty = !decide (c = 91 ∨ c = 93) := by
  have e : Str.ofString "[]" = (⟨#[91, 93]⟩ : Str) := by decide +kernel
  have h := StrLaws.found_one (⟨#[91, 93]⟩ : Str) c
  rw [e]
  show (Builtin.Str.occurrences _ (⟨#[c]⟩ : Str) 0 _ 1).isEmpty = _
  rw [← Bool.not_not (List.isEmpty _), h]
  simp
theorem one_eq (c d : Nat) : (mk [c] == mk [d]) = decide (c = d) := by
  rw [beq_cl, cl_mk, cl_mk]
  by_cases h : c = d
  · subst h; simp
  · simp [h]
theorem ob_mk : Str.ofString "[" = mk [91] := by decide +kernel
theorem pb_head {l : List Nat} {k : Int} {c : Nat} {r : List Nat} (h : l.drop k.toNat = c :: r) (hc : c ≠ 91) : pastBlob l k = k := pastBlob_head (by rw [h]; simpa using hc)
theorem pb_none {l : List Nat} {k : Int} {r : List Nat} (h : l.drop k.toNat = 91 :: r) (ht : toBr r = none) : pastBlob l k = k := by
  unfold pastBlob
  rw [h]
  show (match (toBr r).map dropBl with | some r => (l.length : Int) - (r.length : Int) | none => k) = k
  rw [ht]; rfl
theorem pb_some {l : List Nat} {k : Int} {r q : List Nat} (h : l.drop k.toNat = 91 :: r) (ht : toBr r = some q) : pastBlob l k = (l.length : Int) - ((dropBl q).length : Int) := by
  unfold pastBlob
  rw [h]
  show (match (toBr r).map dropBl with | some r => (l.length : Int) - (r.length : Int) | none => k) = _
  rw [ht]; rfl
theorem law_blob_does (w : World) (mean : ExcName → Option Value) (mg mb : Str → Option Value) (text : Str) (t0 : Tok) (at0 : Int) (t1 : Tok) (en : Int) (t2 : Tok) (hat : 0 ≤ at0) (hen : 0 ≤ en) (hen2 : en ≤ text.length) (hl : text.length ≤ 4096) :
   Does w mean mg mb 2 32 99 [.str text t0, .int at0 t1, .int en t2] (fun t => .int (pastBlob (win text en) at0) t) := by
  unfold win
  unfold Does
  k_fill
  k_with_none
  (k_with "WPost" => (dsimp only [WPost]))
  intro dp un gd cn cs a ccd clo outer A₀ base h₀ L m news s Q E B F X N T hk hd hu ret
  refine wpAny_call ?_
  k_dflt cell_enter
  have hlen := cl_length text
  have hW : ((cl text).take en.toNat).length = en.toNat := by rw [List.length_take]; omega
  have hdrop : ∀ k : Int, en ≤ k → ((cl text).take en.toNat).drop k.toNat = [] := fun k hk => List.drop_eq_nil_of_le (by rw [hW]; omega)
  generalize hWW : (cl text).take en.toNat = W at hW ret hdrop
  have item := fun (k : Int) (h0 : 0 ≤ k) (h1 : k < en) => item_win (x := text) h0 h1 hen2
  rw [hWW] at item
  (repeat' (first | (k_unfold; (try dsimp only)) | ((fail_if_success (with_reducible show wpAny _ _ (exec (Stmt.While _ _ _ _) _) _ _ _)); walk1) | ((fail_if_success (with_reducible show wpAny _ _ (exec (Stmt.While _ _ _ _) _) _ _ _)); dsimp only; walk1)))
  · (rename en ≤ at0 => hge)
    exact cb_retI ret (by symm; apply pastBlob_head; rw [hdrop at0 hge]; simp) (by assumption) (by assumption)
  · (rename ¬ en ≤ at0 => hlt)
    obtain ⟨c, e1, e2⟩ := item at0 hat (by omega)
    (rename (Txt.item _ _ != _) = true => hop)
    rw [e1, ob_mk, bne, one_eq] at hop
    exact cb_retI ret (pb_head e2 (by simpa using hop)).symm (by assumption) (by assumption)
  (rename ¬ en ≤ at0 => hlt)
  (rename (Txt.item _ _ != _) = false => hop)
  obtain ⟨c0, e1, e2⟩ := item at0 hat (by omega)
  rw [e1, ob_mk, bne, one_eq] at hop
  have hc0 : c0 = 91 := by simpa using hop
  subst hc0
  clear hop e1
  (rename Fr _ _ _ _ => F1)
  (rename News _ _ _ _ => N1)
  with_unfolding_all
    refine' w_while (σ := Int × Tok) (fun _ => news) (fun c => [(Str.ofString "spot", .int c.1 c.2)]) []
      (fun c => at0 + 1 ≤ c.1 ∧ c.1 ≤ en ∧ toBr (W.drop c.1.toNat) = toBr (W.drop (at0 + 1).toNat)) (fun c => (en - c.1).toNat) (at0 + 1, _) F1 N1 ?k2 ?k3 ?k4 ?k5
  case k2 => kst_all
  case k3 => exact ⟨Int.le_refl _, by dsimp only; omega, rfl⟩
  case k5 => passes_own
  clear F1 N1
  rintro ⟨k, tk⟩ u h1 tk1 ⟨p1, p2, p3⟩ F1 N1
  dsimp only at p1 p2 p3
  (repeat' (first | (k_unfold; (try dsimp only)) | ((fail_if_success (with_reducible show wpAny _ _ (exec (Stmt.While _ _ _ _) _) _ _ _)); walk1) | ((fail_if_success (with_reducible show wpAny _ _ (exec (Stmt.While _ _ _ _) _) _ _ _)); dsimp only; walk1)))
  · have hk : k < en := by assumption
    obtain ⟨c, i1, i2⟩ := item k (by omega) hk
    (rename List.isEmpty _ = true => hb)
    dsimp only at hb
    rw [i1, br_found] at hb
    have hc : ¬ (c = 91 ∨ c = 93) := by simpa using hb
    (rename Fr _ _ _ _ => F9)
    (rename News _ _ _ _ => N9)
    refine w_end (k + 1, _) F9 N9 (fun _ h => h) (by kst_all) (by ((intro z h2 h3; (simp only [List.forall_mem_cons, List.not_mem_nil, false_implies, implies_true, and_true, ne_eq] at h2); (simp only [List.contains_cons, List.contains_nil, Bool.or_false, Bool.or_eq_false_iff, beq_eq_false_iff_ne, ne_eq] at h3); (simp [kstB, h2, h3]; done)))) ⟨by dsimp only; omega, Int.add_one_le_of_lt hk, ?_⟩ (meas_lt hk (Int.lt_add_one_of_le (Int.le_refl _)))
    dsimp only
    rw [← p3, i2]
    show _ = (if c = 93 then some _ else if c = 91 then none else toBr _)
    rw [if_neg (fun q => hc (.inr q)), if_neg (fun q => hc (.inl q))]
  · have hk : k < en := by assumption
    have hk2 : k = en := by assumption
    omega
  · have hk : k < en := by assumption
    obtain ⟨c, i1, i2⟩ := item k (by omega) hk
    (rename (_ == _) = true => hq)
    dsimp only at hq
    rw [i1, ob_mk, one_eq] at hq
    have hc : c = 91 := by simpa using hq
    rw [i2, hc] at p3
    exact cb_retI ret (pb_none e2 p3.symm).symm (by assumption) (by assumption)
  · have hk : k < en := by assumption
    obtain ⟨c, i1, i2⟩ := item k (by omega) hk
    (rename (_ == _) = false => hq)
    (rename List.isEmpty _ = false => hb)
    dsimp only at hq hb
    rw [i1, ob_mk, one_eq] at hq
    rw [i1, br_found] at hb
    have hc1 : c ≠ 91 := by simpa using hq
    have hc2 : c = 93 := by
      have : decide (c = 91 ∨ c = 93) = true := by simpa only [Bool.not_eq_false'] using hb
      exact (of_decide_eq_true this).resolve_left hc1
    rw [i2, hc2] at p3
    have e3 := pb_some e2 p3.symm
    have e4 : pastBlob W at0 = pastBl W (k + 1) := e3
    rw [e4] at ret
    (rename Fr _ _ _ _ => F1)
    (rename News _ _ _ _ => N1)
    with_unfolding_all
      refine' w_while (σ := Int × Tok) (fun _ => news) (fun c => [(Str.ofString "spot", .int c.1 c.2)]) []
        (fun c => 0 ≤ c.1 ∧ c.1 ≤ en ∧ pastBl W c.1 = pastBl W (k + 1)) (fun c => (en - c.1).toNat) (k + 1, _) F1 N1 ?q2 ?q3 ?q4 ?q5
    case q2 => kst_all
    case q3 => exact ⟨by dsimp only; omega, by dsimp only; omega, rfl⟩
    case q5 => passes_own
    clear F1 N1
    rintro ⟨j, tj⟩ u2 h2 tk2 ⟨r1, r2, r3⟩ F1 N1
    dsimp only at r1 r2 r3
    (repeat' (first | (k_unfold; (try dsimp only)) | ((fail_if_success (with_reducible show wpAny _ _ (exec (Stmt.While _ _ _ _) _) _ _ _)); walk1) | ((fail_if_success (with_reducible show wpAny _ _ (exec (Stmt.While _ _ _ _) _) _ _ _)); dsimp only; walk1)))
    · have hj : j < en := by assumption
      obtain ⟨d, i3, i4⟩ := item j r1 hj
      (rename (_ == _) = true => hs)
      dsimp only at hs
      rw [i3, sp_is, one_eq] at hs
      have hd : d = 32 := by simpa using hs
      have e5 := (pastBl_step (l := W) r1 (by rw [i4, hd]; rfl)).1
      (rename Fr _ _ _ _ => F9)
      (rename News _ _ _ _ => N9)
      exact w_end (j + 1, _) F9 N9 (fun _ h => h) (by kst_all) (by ((intro z h2 h3; (simp only [List.forall_mem_cons, List.not_mem_nil, false_implies, implies_true, and_true, ne_eq] at h2); (simp only [List.contains_cons, List.contains_nil, Bool.or_false, Bool.or_eq_false_iff, beq_eq_false_iff_ne, ne_eq] at h3); (simp [kstB, h2, h3]; done)))) ⟨nn_succ r1, Int.add_one_le_of_lt hj, by dsimp only; rw [e5, r3]⟩ (meas_lt hj (Int.lt_add_one_of_le (Int.le_refl _)))
    · have hj : j < en := by assumption
      obtain ⟨d, i3, i4⟩ := item j r1 hj
      (rename (_ == _) = false => hs)
      dsimp only at hs
      rw [i3, sp_is, one_eq] at hs
      have hd : d ≠ 32 := by simpa using hs
      exact cb_retI ret ((pastBl_stop (l := W) r1 (by omega) (by rw [i4]; simpa using hd)).trans r3) (by assumption) (by assumption)
    · have hj : ¬ j < en := by assumption
      exact cb_retI ret ((pastBl_stop (l := W) r1 (by omega) (by rw [hdrop j (by omega)]; simp)).trans r3) (by assumption) (by assumption)
  · have hk : ¬ k < en := by assumption
    rw [hdrop k (by omega)] at p3
    exact cb_retI ret (pb_none e2 p3.symm).symm (by assumption) (by assumption)
  · have hk : ¬ k < en := by assumption
    have hk2 : k ≠ en := by assumption
    omega
end Mine
end

section
namespace Mine
def tryN (n : Nat) (m : List Nat) : Option (List Nat) := if n ≤ m.length ∧ (low (m.take n) = wRe ∨ low (m.take n) = wFw ∨ low (m.take n) = wFwd) then afterWord (m.drop n) else none
def afterC : List Nat → Option (List Nat)
  | [] => none
  | c :: q => if c = 58 then some q else none
theorem afterWord_is (r : List Nat) : afterWord r = afterC (skipBlob (dropBl r)) := by
  unfold afterWord afterC
  cases skipBlob (dropBl r) <;> rfl
theorem tryN_yes {l : List Nat} {k : Int} {n : Nat} (h0 : 0 ≤ k) (h : n ≤ (l.drop k.toNat).length ∧ (low ((l.drop k.toNat).take n) = wRe ∨ low ((l.drop k.toNat).take n) = wFw ∨ low ((l.drop k.toNat).take n) = wFwd)) :
    tryN n (l.drop k.toNat) = afterC (l.drop (pastBlob l (pastBl l (k + n))).toNat) := by
  unfold tryN
  rw [if_pos h, afterWord_is, drop_pastBlob, drop_pastBl, List.drop_drop, show (k + (n : Int)).toNat = k.toNat + n by omega]
theorem tryN_no {m : List Nat} {n : Nat} (h : ¬ (n ≤ m.length ∧ (low (m.take n) = wRe ∨ low (m.take n) = wFw ∨ low (m.take n) = wFwd))) : tryN n m = none := by
  unfold tryN
  rw [if_neg h]
theorem take_low {m : List Nat} {n : Nat} {w : List Nat} (hn : n = w.length) : (low m).take n = w ↔ (n ≤ m.length ∧ low (m.take n) = w) := by
  subst hn
  rw [low_take]
  constructor
  · intro h
    refine ⟨?_, h⟩
    have := congrArg List.length h
    rw [List.length_take, low_length] at this
    omega
  · exact fun h => h.2
theorem d_no {r : List Nat} {c : Nat} (hc : lowN c = 100) : afterWord (c :: r) = none := by
  have h1 : c ≠ 32 := by intro e; subst e; simp [lowN] at hc
  have h2 : c ≠ 91 := by intro e; subst e; simp [lowN] at hc
  have h3 : c ≠ 58 := by intro e; subst e; simp [lowN] at hc
  unfold afterWord
  have e : skipBlob (dropBl (c :: r)) = c :: r := by
    rw [dropBl_ne r h1]
    unfold skipBlob
    have : blob (c :: r) = none := by
      show (if c = 91 then (toBr r).map dropBl else none) = none
      rw [if_neg h2]
    rw [this]; rfl
  rw [e]
  show (if c = 58 then some r else none) = none
  rw [if_neg h3]
theorem leader_tryN (l : List Nat) : leader l = (tryN 3 (blobs l)).or (tryN 2 (blobs l)) := by
  unfold leader
  generalize blobs l = m
  match m with
  | [] => rfl
  | [a] =>
    have e1 : ∀ w : List Nat, 2 ≤ w.length → tryW w [a] = none := by
      intro w hw
      unfold tryW
      rw [if_neg]
      intro h
      have := congrArg List.length h
      rw [List.length_take, low_length] at this
      simp only [List.length_cons, List.length_nil] at this
      omega
    rw [e1 wRe (by decide), e1 wFwd (by decide), e1 wFw (by decide), tryN_no (by simp), tryN_no (by simp)]
    rfl
  | a :: b :: r =>
    have t2 : (low (a :: b :: r)).take 2 = [lowN a, lowN b] := rfl
    have hre : tryW wRe (a :: b :: r) = if lowN a = 114 ∧ lowN b = 101 then afterWord r else none := by
      unfold tryW
      show (if (low (a :: b :: r)).take 2 = wRe then afterWord r else none) = _
      rw [t2]
      simp [wRe]
    have hfw : tryW wFw (a :: b :: r) = if lowN a = 102 ∧ lowN b = 119 then afterWord r else none := by
      unfold tryW
      show (if (low (a :: b :: r)).take 2 = wFw then afterWord r else none) = _
      rw [t2]
      simp [wFw]
    have h2 : tryN 2 (a :: b :: r) = if (lowN a = 114 ∧ lowN b = 101) ∨ (lowN a = 102 ∧ lowN b = 119) then afterWord r else none := by
      unfold tryN
      have e : low ((a :: b :: r).take 2) = [lowN a, lowN b] := rfl
      rw [e]
      have hl : 2 ≤ (a :: b :: r).length := by simp
      simp [wRe, wFw, wFwd, hl]
    have h3 : tryN 3 (a :: b :: r) = tryW wFwd (a :: b :: r) := by
      unfold tryN tryW
      show (if _ then afterWord ((a :: b :: r).drop 3) else none) = (if (low (a :: b :: r)).take 3 = wFwd then afterWord ((a :: b :: r).drop 3) else none)
      have : (3 ≤ (a :: b :: r).length ∧ (low ((a :: b :: r).take 3) = wRe ∨ low ((a :: b :: r).take 3) = wFw ∨ low ((a :: b :: r).take 3) = wFwd)) ↔ (low (a :: b :: r)).take 3 = wFwd := by
        rw [take_low (n := 3) (w := wFwd) rfl]
        constructor
        · rintro ⟨hl, h | h | h⟩
          · have := congrArg List.length h
            rw [low_length, List.length_take] at this
            simp only [wRe, List.length_cons, List.length_nil] at this hl
            omega
          · have := congrArg List.length h
            rw [low_length, List.length_take] at this
            simp only [wFw, List.length_cons, List.length_nil] at this hl
            omega
          · exact ⟨hl, h⟩
        · rintro ⟨hl, h⟩
          exact ⟨hl, .inr (.inr h)⟩
      simp only [this]
    have hfwd : tryW wFwd (a :: b :: r) ≠ none → lowN a = 102 ∧ lowN b = 119 := by
      intro h
      unfold tryW at h
      split at h
      · rename_i e
        match r, e with
        | [], e => exact absurd e (by simp [low, wFwd])
        | d :: r, e => simp [low, wFwd] at e; exact ⟨e.1, e.2.1⟩
      · exact absurd rfl h
    have hfwd2 : (lowN a = 102 ∧ lowN b = 119) → (∃ c q, r = c :: q ∧ lowN c = 100) → afterWord r = none := by
      rintro _ ⟨c, q, rfl, hc⟩
      exact d_no hc
    have hfwd3 : tryW wFwd (a :: b :: r) ≠ none → ∃ c q, r = c :: q ∧ lowN c = 100 := by
      intro h
      unfold tryW at h
      split at h
      · rename_i e
        match r, e with
        | [], e => exact absurd e (by simp [low, wFwd])
        | d :: r, e => simp [low, wFwd] at e; exact ⟨d, r, rfl, e.2.2⟩
      · exact absurd rfl h
    rw [h3, h2, hre, hfw]
    by_cases hr : lowN a = 114 ∧ lowN b = 101
    · have hnf : ¬ (lowN a = 102 ∧ lowN b = 119) := fun q => by rw [hr.1] at q; exact absurd q.1 (by decide)
      have hn : tryW wFwd (a :: b :: r) = none := by
        cases hq : tryW wFwd (a :: b :: r) with
        | none => rfl
        | some x => exact absurd (hfwd (by rw [hq]; simp)) hnf
      rw [hn, if_pos hr, if_neg hnf, if_pos (.inl hr)]
      cases afterWord r <;> rfl
    · rw [if_neg hr]
      have e : ((lowN a = 114 ∧ lowN b = 101) ∨ (lowN a = 102 ∧ lowN b = 119)) ↔ (lowN a = 102 ∧ lowN b = 119) := by simp [hr]
      simp only [e]
      cases tryW wFwd (a :: b :: r) <;> rfl
end Mine
end

section
open PySem PySem.W PyProof.Rows PySem.Spec PySem.Calls
namespace Mine
def wn (x : Str) (b e : Int) : List Nat := (win x e).drop b.toNat
theorem wn_len {x : Str} {b e : Int} (h0 : 0 ≤ b) (h1 : b ≤ e) (h2 : e ≤ x.length) : ((wn x b e).length : Int) = e - b := by
  obtain ⟨b, rfl⟩ := Int.eq_ofNat_of_zero_le h0
  obtain ⟨c, rfl⟩ := Int.eq_ofNat_of_zero_le (Int.le_trans h0 h1)
  unfold wn win
  rw [List.length_drop, List.length_take, cl_length, Int.toNat_natCast, Int.toNat_natCast, Nat.min_eq_left (Int.ofNat_le.mp h2), Int.ofNat_sub (Int.ofNat_le.mp h1)]
theorem wn_slice {x : Str} {b e : Int} (h0 : 0 ≤ b) (h1 : 0 ≤ e) : cl (Txt.slice x (some b) (some e)) = wn x b e := slice_nn h0 h1
theorem wn_front {x : Str} {b e' e : Int} (h0 : 0 ≤ b) (h1 : b ≤ e') (h2 : e' ≤ e) : wn x b e' = (wn x b e).take (e' - b).toNat := by
  obtain ⟨b, rfl⟩ := Int.eq_ofNat_of_zero_le h0
  obtain ⟨c, rfl⟩ := Int.eq_ofNat_of_zero_le (Int.le_trans h0 h1)
  obtain ⟨d, rfl⟩ := Int.eq_ofNat_of_zero_le (Int.le_trans (Int.le_trans h0 h1) h2)
  unfold wn win
  rw [Int.toNat_sub, Int.toNat_natCast, Int.toNat_natCast, Int.toNat_natCast, List.drop_take, List.drop_take, List.take_take, Nat.min_eq_left (Nat.sub_le_sub_right (Int.ofNat_le.mp h2) b)]
theorem wn_back {x : Str} {b b' e : Int} (h0 : 0 ≤ b) (h1 : b ≤ b') : wn x b' e = (wn x b e).drop (b' - b).toNat := by
  obtain ⟨b, rfl⟩ := Int.eq_ofNat_of_zero_le h0
  obtain ⟨c, rfl⟩ := Int.eq_ofNat_of_zero_le (Int.le_trans h0 h1)
  unfold wn
  rw [List.drop_drop, Int.toNat_sub, Int.toNat_natCast, Int.toNat_natCast, Nat.add_sub_cancel' (Int.ofNat_le.mp h1)]
theorem wn_empty {x : Str} {b e : Int} (h : e ≤ b) (h0 : 0 ≤ b) : wn x b e = [] := by
  unfold wn win
  apply List.drop_eq_nil_of_le
  rw [List.length_take]
  omega
theorem wn_cons {x : Str} {b e : Int} (h0 : 0 ≤ b) (h1 : b < e) (h2 : e ≤ x.length) : ∃ c, Txt.item x b = mk [c] ∧ wn x b e = c :: wn x (b + 1) e := item_win h0 h1 h2
theorem wn_snoc {x : Str} {b e : Int} (h0 : 0 ≤ b) (h1 : b < e) (h2 : e ≤ x.length) : ∃ c, Txt.item x (e - 1) = mk [c] ∧ wn x b e = wn x b (e - 1) ++ [c] := by
  obtain ⟨c, hc, e1⟩ := item_is (x := x) (k := e - 1) (by omega) (by omega)
  refine ⟨c, e1, ?_⟩
  unfold wn win
  have : (cl x).take e.toNat = (cl x).take (e - 1).toNat ++ [c] := by
    have := List.take_add_one (l := cl x) (i := (e - 1).toNat)
    rw [hc] at this
    rw [show e.toNat = (e - 1).toNat + 1 by omega, this]; rfl
  have hl := cl_length x
  rw [this, List.drop_append_of_le_length]
  rw [List.length_take]
  omega
theorem stripR_sp (l : List Nat) : stripR (l ++ [32]) = stripR l := by
  unfold stripR
  rw [List.reverse_append]
  show (dropBl (32 :: l.reverse)).reverse = _
  rw [dropBl_sp]
theorem stripR_ne (l : List Nat) {c : Nat} (h : c ≠ 32) : stripR (l ++ [c]) = l ++ [c] := by
  unfold stripR
  rw [List.reverse_append]
  show (dropBl (c :: l.reverse)).reverse = _
  rw [dropBl_ne _ h]
  simp
theorem stripR_nil : stripR [] = [] := rfl
end Mine
end

section
open PySem PySem.W PyProof.Rows PySem.Spec PySem.Calls
set_option maxRecDepth 100000
set_option maxHeartbeats 8000000
namespace Mine
def winLeader (l : List Nat) (k : Int) : Int := match leader (l.drop k.toNat) with
  | some r => (l.length : Int) - (r.length : Int)
  | none => k
theorem law_small_ok (w : World) (mean : ExcName → Option Value) (mg mb : Str → Option Value) (text : Str) (t0 : Tok) (ho : Ok text) :
   Does w mean mg mb 2 32 92 [.str text t0] (fun t => .str (mk (low (cl text))) t) := law_small_does w mean mg mb text t0 ho.1
theorem re_is : Str.ofString "re" = mk wRe := by decide +kernel
theorem fw_is : Str.ofString "fw" = mk wFw := by decide +kernel
theorem fwd_is : Str.ofString "fwd" = mk wFwd := by decide +kernel
theorem law_leader_does (w : World) (mean : ExcName → Option Value) (mg mb : Str → Option Value) (text : Str) (t0 : Tok) (at0 : Int) (t1 : Tok) (en : Int) (t2 : Tok) (hat : 0 ≤ at0) (hat2 : at0 ≤ en) (hen2 : en ≤ text.length) (ho : Ok text) :
   Does w mean mg mb 4 64 106 [.str text t0, .int at0 t1, .int en t2] (fun t => .int (winLeader (win text en) at0) t) := by
  unfold Does
  k_fill
  k_with_none
  (k_with "WPost" => (dsimp only [WPost]))
  (k_with "FPost" => (dsimp only [FPost]))
  (k_with "w_call" => (k_here; (with_reducible show wpAny _ _ (call (Value.ref 92) [Value.str _ _]) _ _ _); (k_dflt (refine law_small_ok _ _ _ _ _ _ (by (repeat (first | assumption | apply Ok.slice | apply Ok.rstrip | apply Ok.lstrip))) _ _ _ _ _ _ _ _ _ _ _ _ _ _ _ _ _ _ (by k_asm) (by k_asm) (by k_asm) (by k_asm) (by k_asm) (by first | exact rfl | assumption) (by ktr_room) (by ktr_units) ?_)); intro t9 h9 tk9 F9 N9; (try dsimp only); (try k_fold)))
  (k_with "w_call" => (k_here; (with_reducible show wpAny _ _ (call (Value.ref 99) [Value.str _ _, Value.int _ _, Value.int _ _]) _ _ _); (k_dflt (refine law_blob_does _ _ _ _ _ _ _ _ _ _ (by omega) (by omega) (by omega) (by omega) _ _ _ _ _ _ _ _ _ _ _ _ _ _ _ _ _ _ (by k_asm) (by k_asm) (by k_asm) (by k_asm) (by k_asm) (by first | exact rfl | assumption) (by ktr_room) (by ktr_units) ?_)); intro t9 h9 tk9 F9 N9; (try dsimp only); (try k_fold)))
  intro dp un gd cn cs a ccd clo outer A₀ base h₀ L m news s Q E B F X N T hk hd hu ret
  refine wpAny_call ?_
  k_dflt cell_enter
  rename_i g' L' h' FG' F' N' B' X' T'
  have hlen := cl_length text
  have hl := ho.1
  have hW : (win text en).length = en.toNat := by
    clear hat hat2
    unfold win; rw [List.length_take]; omega
  have item : ∀ k : Int, 0 ≤ k → k < en → ∃ c, Txt.item text k = mk [c] ∧ (win text en).drop k.toNat = c :: (win text en).drop (k + 1).toNat := fun (k : Int) (h0 : 0 ≤ k) (h1 : k < en) => item_win (x := text) h0 h1 hen2
  have hdrop : ∀ k : Int, en ≤ k → (win text en).drop k.toNat = [] := fun k hk => List.drop_eq_nil_of_le (by rw [hW]; omega)
  (repeat' (first | (k_unfold; (try dsimp only)) | ((fail_if_success ((first | (with_reducible show wpAny _ _ (exec (Stmt.While _ _ _ _) _) _ _ _) | (with_reducible show wpAny _ _ (exec (Stmt.For _ _ _ _ _) _) _ _ _) | (with_reducible show wpAny _ _ (pyIter _) _ _ _)))); (first | ((with_reducible show wpAny _ _ (call (Value.ref _) _) _ _ _); k_extra "w_call") | ((fail_if_success (with_reducible show wpAny _ _ (call (Value.ref _) _) _ _ _)); walk1))) | ((fail_if_success ((first | (with_reducible show wpAny _ _ (exec (Stmt.While _ _ _ _) _) _ _ _) | (with_reducible show wpAny _ _ (exec (Stmt.For _ _ _ _ _) _) _ _ _) | (with_reducible show wpAny _ _ (pyIter _) _ _ _)))); dsimp only; (first | ((with_reducible show wpAny _ _ (call (Value.ref _) _) _ _ _); k_extra "w_call") | ((fail_if_success (with_reducible show wpAny _ _ (call (Value.ref _) _) _ _ _)); walk1)))))
  (rename Fr _ _ _ _ => F1)
  (rename News _ _ _ _ => N1)
  with_unfolding_all
    refine' w_while (σ := Int × Tok) (fun _ => news) (fun c => [(Str.ofString "spot", .int c.1 c.2)]) []
      (fun c => 0 ≤ c.1 ∧ c.1 ≤ en ∧ blobs ((win text en).drop c.1.toNat) = blobs ((win text en).drop at0.toNat)) (fun c => (en - c.1).toNat) (at0, _) F1 N1 ?k2 ?k3 ?k4 ?k5
  case k2 => kst_all
  case k3 => exact ⟨hat, hat2, rfl⟩
  case k5 => passes_own
  clear F1 N1
  rintro ⟨k, tk⟩ u h1 tk1 ⟨p1, p2, p3⟩ F1 N1
  dsimp only at p1 p2 p3
  have hge := pastBlob_ge (l := win text en) p1 (by omega)
  (repeat' (first | (k_unfold; (try dsimp only)) | ((fail_if_success ((first | (with_reducible show wpAny _ _ (exec (Stmt.While _ _ _ _) _) _ _ _) | (with_reducible show wpAny _ _ (exec (Stmt.For _ _ _ _ _) _) _ _ _) | (with_reducible show wpAny _ _ (pyIter _) _ _ _)))); (first | ((with_reducible show wpAny _ _ (call (Value.ref _) _) _ _ _); k_extra "w_call") | ((fail_if_success (with_reducible show wpAny _ _ (call (Value.ref _) _) _ _ _)); walk1))) | ((fail_if_success ((first | (with_reducible show wpAny _ _ (exec (Stmt.While _ _ _ _) _) _ _ _) | (with_reducible show wpAny _ _ (exec (Stmt.For _ _ _ _ _) _) _ _ _) | (with_reducible show wpAny _ _ (pyIter _) _ _ _)))); dsimp only; (first | ((with_reducible show wpAny _ _ (call (Value.ref _) _) _ _ _); k_extra "w_call") | ((fail_if_success (with_reducible show wpAny _ _ (call (Value.ref _) _) _ _ _)); walk1)))))
  · (rename _ < pastBlob _ _ => hlt)
    (rename Fr _ _ _ _ => F9)
    (rename News _ _ _ _ => N9)
    exact w_end (pastBlob (win text en) k, _) F9 N9 (fun _ h => h) (by kst_all) (by ((intro z h2 h3; (simp only [List.forall_mem_cons, List.not_mem_nil, false_implies, implies_true, and_true, ne_eq] at h2); (simp only [List.contains_cons, List.contains_nil, Bool.or_false, Bool.or_eq_false_iff, beq_eq_false_iff_ne, ne_eq] at h3); (simp [kstB, h2, h3]; done)))) ⟨Int.le_trans p1 hge.1, by dsimp only; omega, by dsimp only; rw [blobs_step p1 hlt, p3]⟩ (meas_lt (by omega) hlt)
  (rename ¬ _ < pastBlob _ _ => hlt)
  have hb := blobs_stop p1 (show k ≤ (win text en).length by omega) hlt
  rw [p3] at hb
  refine For_unr g' ?_ (by intro _; rfl) (by passes_own)
  (repeat' (first | (k_unfold; (try dsimp only)) | ((fail_if_success ((first | (with_reducible show wpAny _ _ (exec (Stmt.While _ _ _ _) _) _ _ _) | (with_reducible show wpAny _ _ (exec (Stmt.For _ _ _ _ _) _) _ _ _) | (with_reducible show wpAny _ _ (pyIter _) _ _ _)))); (first | ((with_reducible show wpAny _ _ (call (Value.ref _) _) _ _ _); k_extra "w_call") | ((fail_if_success (with_reducible show wpAny _ _ (call (Value.ref _) _) _ _ _)); walk1))) | ((fail_if_success ((first | (with_reducible show wpAny _ _ (exec (Stmt.While _ _ _ _) _) _ _ _) | (with_reducible show wpAny _ _ (exec (Stmt.For _ _ _ _ _) _) _ _ _) | (with_reducible show wpAny _ _ (pyIter _) _ _ _)))); dsimp only; (first | ((with_reducible show wpAny _ _ (call (Value.ref _) _) _ _ _); k_extra "w_call") | ((fail_if_success (with_reducible show wpAny _ _ (call (Value.ref _) _) _ _ _)); walk1)))))
  (rename Fr _ _ _ _ => F2)
  (rename News _ _ _ _ => N2)
  have ht := News.isTup N2 (List.mem_cons_self)
  have htl := News.ne_locals N2 (List.mem_cons_self)
  generalize hM : (win text en).drop k.toNat = M at hb
  have hMl : (M.length : Int) = en - k := by
    clear hge hlt
    rw [← hM, List.length_drop]; omega
  have hlead : winLeader (win text en) at0 = (((tryN 3 M).or (tryN 2 M)).map (fun r => ((win text en).length : Int) - (r.length : Int))).getD at0 := by
    unfold winLeader
    rw [leader_tryN, hb]
    cases (tryN 3 M).or (tryN 2 M) <;> rfl
  have hsl : ∀ n : Nat, k + n ≤ en → cl (Txt.slice text (some k) (some (k + n))) = M.take n := by
    intro n hn
    have h := wn_front (x := text) (e' := k + n) p1 (Int.le_add_of_nonneg_right (Int.natCast_nonneg n)) hn
    rw [show k + (n : Int) - k = n by rw [Int.add_comm, Int.add_sub_cancel], Int.toNat_natCast] at h
    rw [slice_nn p1 (Int.add_nonneg p1 (Int.natCast_nonneg n)), ← hM]
    exact h
  have hany : ∀ n : Nat, k + n ≤ en → (([Str.ofString "re", Str.ofString "fw", Str.ofString "fwd"].any fun x => x == mk (low (cl (Txt.slice text (some k) (some (k + n)))))) = true ↔ (low (M.take n) = wRe ∨ low (M.take n) = wFw ∨ low (M.take n) = wFwd)) := by
    intro n hn
    rw [hsl n hn, re_is, fw_is, fwd_is]
    simp only [List.any_cons, List.any_nil, Bool.or_false, Bool.or_eq_true, beq_cl, cl_mk, beq_iff_eq]
    constructor
    · rintro (h | h | h)
      · exact .inl h.symm
      · exact .inr (.inl h.symm)
      · exact .inr (.inr h.symm)
    · rintro (h | h | h)
      · exact .inl h.symm
      · exact .inr (.inl h.symm)
      · exact .inr (.inr h.symm)
  with_unfolding_all
    refine' w_iterTup (σ := Unit) (fun _ => []) [Str.ofString "length", Str.ofString "behind"] (fun i _ => (1 ≤ i → tryN 3 M = none) ∧ (2 ≤ i → tryN 2 M = none)) () rfl ht F2 N2 htl rfl rfl ?q1 ?q2 ?q3 ?q4
  case q1 => kst_all
  case q2 => exact ⟨fun h => absurd h (by decide), fun h => absurd h (by decide)⟩
  case q3 =>
    intro i v c u h tk own hi hv hP F3 N3
    obtain ⟨n, tn, rfl, hn⟩ : ∃ (n : Nat) (tn : Tok), v = .int (n : Int) tn ∧ ((i = 0 ∧ n = 3) ∨ (i = 1 ∧ n = 2)) := by
      match i, hv with
      | 0, hv => exact ⟨3, _, (Option.some.inj hv).symm, .inl ⟨rfl, rfl⟩⟩
      | 1, hv => exact ⟨2, _, (Option.some.inj hv).symm, .inr ⟨rfl, rfl⟩⟩
    have next : tryN n M = none → (1 ≤ i + 1 → tryN 3 M = none) ∧ (2 ≤ i + 1 → tryN 2 M = none) := by
      intro hno
      rcases hn with ⟨rfl, rfl⟩ | ⟨rfl, rfl⟩
      · exact ⟨fun _ => hno, fun h => absurd h (by decide)⟩
      · exact ⟨fun _ => hP.1 (by decide), fun _ => hno⟩
    have found : ∀ r, tryN n M = some r → winLeader (win text en) at0 = ((win text en).length : Int) - (r.length : Int) := by
      intro r hr
      rw [hlead]
      rcases hn with ⟨rfl, rfl⟩ | ⟨rfl, rfl⟩
      · rw [hr]; rfl
      · rw [hP.1 (by decide), hr]; rfl
    clear hv hlead
    (repeat' (first | (k_unfold; (try dsimp only)) | ((fail_if_success ((first | (with_reducible show wpAny _ _ (exec (Stmt.While _ _ _ _) _) _ _ _) | (with_reducible show wpAny _ _ (exec (Stmt.For _ _ _ _ _) _) _ _ _) | (with_reducible show wpAny _ _ (pyIter _) _ _ _)))); (first | ((with_reducible show wpAny _ _ (call (Value.ref _) _) _ _ _); k_extra "w_call") | ((fail_if_success (with_reducible show wpAny _ _ (call (Value.ref _) _) _ _ _)); walk1))) | ((fail_if_success ((first | (with_reducible show wpAny _ _ (exec (Stmt.While _ _ _ _) _) _ _ _) | (with_reducible show wpAny _ _ (exec (Stmt.For _ _ _ _ _) _) _ _ _) | (with_reducible show wpAny _ _ (pyIter _) _ _ _)))); dsimp only; (first | ((with_reducible show wpAny _ _ (call (Value.ref _) _) _ _ _); k_extra "w_call") | ((fail_if_success (with_reducible show wpAny _ _ (call (Value.ref _) _) _ _ _)); walk1)))))
    · have hin := (hany n (by assumption)).mp (by assumption)
      have hkn : k + n ≤ en := by assumption
      have hy := tryN_yes (l := win text en) (n := n) p1 (by rw [hM]; exact ⟨by omega, hin⟩)
      rw [hM] at hy
      (rename Fr _ _ _ _ => F4)
      (rename News _ _ _ _ => N4)
      with_unfolding_all
        refine' w_while (σ := Int × Tok) (fun _ => _) (fun c => [(Str.ofString "behind", .int c.1 c.2)]) []
          (fun c => 0 ≤ c.1 ∧ c.1 ≤ en ∧ pastBl (win text en) c.1 = pastBl (win text en) (k + n)) (fun c => (en - c.1).toNat) (k + n, _) F4 N4 ?r2 ?r3 ?r4 ?r5
      case r2 => kst_all
      case r3 => exact ⟨by dsimp only; omega, by dsimp only; omega, rfl⟩
      case r5 => passes_own
      clear F4 N4
      rintro ⟨j, tj⟩ u2 h2 tk2 ⟨r1, r2, r3⟩ F4 N4
      dsimp only at r1 r2 r3
      have hgj := pastBlob_ge (l := win text en) r1 (by omega)
      have hs1 : (Txt.item text j == Str.ofString " ") = false → j < en → j = pastBl (win text en) (k + n) := by
        intro h hj
        obtain ⟨d, i3, i4⟩ := item j r1 hj
        rw [i3, sp_is, one_eq] at h
        have hd : d ≠ 32 := by simpa using h
        exact (pastBl_stop (l := win text en) r1 (by omega) (by rw [i4]; simpa using hd)).trans r3
      have hs2 : ¬ j < en → j = pastBl (win text en) (k + n) := fun hj => (pastBl_stop (l := win text en) r1 (by omega) (by rw [hdrop j (by omega)]; simp)).trans r3
      have hat : ∀ c : Nat, pastBlob (win text en) j < en → Txt.item text (pastBlob (win text en) j) = mk [c] → (win text en).drop (pastBlob (win text en) j).toNat = c :: (win text en).drop (pastBlob (win text en) j + 1).toNat := by
        intro c h e
        obtain ⟨d, i3, i4⟩ := item (pastBlob (win text en) j) (by omega) h
        have : cl (mk [c]) = cl (mk [d]) := by rw [← e, ← i3]
        rw [cl_mk, cl_mk] at this
        cases this
        exact i4
      have yes : j = pastBl (win text en) (k + n) → pastBlob (win text en) j < en → (Txt.item text (pastBlob (win text en) j) == Str.ofString ":") = true → pastBlob (win text en) j + 1 = winLeader (win text en) at0 := by
        intro e h hc
        rw [colon_is, beq_iff_eq] at hc
        have h1 := hat 58 h hc
        rw [← e, h1] at hy
        rw [found _ hy, List.length_drop]
        clear hge hMl
        omega
      have no1 : j = pastBl (win text en) (k + n) → pastBlob (win text en) j < en → (Txt.item text (pastBlob (win text en) j) == Str.ofString ":") = false → tryN n M = none := by
        intro e h hc
        obtain ⟨d, i3, i4⟩ := item (pastBlob (win text en) j) (by omega) h
        rw [i3, colon_is, one_eq] at hc
        have hd : d ≠ 58 := by simpa using hc
        rw [hy, ← e, i4]
        show (if d = 58 then _ else none) = none
        rw [if_neg hd]
      have no2 : j = pastBl (win text en) (k + n) → ¬ pastBlob (win text en) j < en → tryN n M = none := by
        intro e h
        rw [hy, ← e, hdrop _ (by omega)]
        rfl
      (repeat' (first | (k_unfold; (try dsimp only)) | ((fail_if_success ((first | (with_reducible show wpAny _ _ (exec (Stmt.While _ _ _ _) _) _ _ _) | (with_reducible show wpAny _ _ (exec (Stmt.For _ _ _ _ _) _) _ _ _) | (with_reducible show wpAny _ _ (pyIter _) _ _ _)))); (first | ((with_reducible show wpAny _ _ (call (Value.ref _) _) _ _ _); k_extra "w_call") | ((fail_if_success (with_reducible show wpAny _ _ (call (Value.ref _) _) _ _ _)); walk1))) | ((fail_if_success ((first | (with_reducible show wpAny _ _ (exec (Stmt.While _ _ _ _) _) _ _ _) | (with_reducible show wpAny _ _ (exec (Stmt.For _ _ _ _ _) _) _ _ _) | (with_reducible show wpAny _ _ (pyIter _) _ _ _)))); dsimp only; (first | ((with_reducible show wpAny _ _ (call (Value.ref _) _) _ _ _); k_extra "w_call") | ((fail_if_success (with_reducible show wpAny _ _ (call (Value.ref _) _) _ _ _)); walk1)))))
      · have hj : j < en := by assumption
        obtain ⟨d, i3, i4⟩ := item j r1 hj
        (rename (_ == _) = true => hs)
        dsimp only at hs
        rw [i3, sp_is, one_eq] at hs
        have hd : d = 32 := by simpa using hs
        have e5 := (pastBl_step (l := win text en) r1 (by rw [i4, hd]; rfl)).1
        (rename Fr _ _ _ _ => F9)
        (rename News _ _ _ _ => N9)
        exact w_end (j + 1, _) F9 N9 (fun _ h => h) (by kst_all) (by ((intro z h2 h3; (simp only [List.forall_mem_cons, List.not_mem_nil, false_implies, implies_true, and_true, ne_eq] at h2); (simp only [List.contains_cons, List.contains_nil, Bool.or_false, Bool.or_eq_false_iff, beq_eq_false_iff_ne, ne_eq] at h3); (simp [kstB, h2, h3]; done)))) ⟨nn_succ r1, Int.add_one_le_of_lt hj, by dsimp only; rw [e5, r3]⟩ (meas_lt hj (Int.lt_add_one_of_le (Int.le_refl _)))
      · exact cb_retI ret (yes (hs1 (by assumption) (by assumption)) (by assumption) (by assumption)) (by assumption) (cb_drop (by assumption) (by intro p hp; simp only [List.mem_cons, List.mem_append, hp, or_true]))
      · (rename Fr _ _ _ _ => F9)
        (rename News _ _ _ _ => N9)
        exact f_end () F9 (cb_drop N9 (fun p hp => List.mem_cons_of_mem _ hp)) (by kst_all) (by ((intro z h2 h3; (simp only [List.forall_mem_cons, List.not_mem_nil, false_implies, implies_true, and_true, ne_eq] at h2); (simp only [List.contains_cons, List.contains_nil, Bool.or_false, Bool.or_eq_false_iff, beq_eq_false_iff_ne, ne_eq] at h3); (simp [kstB, h2, h3]; done)))) (next (no1 (hs1 (by assumption) (by assumption)) (by assumption) (by assumption)))
      · (rename Fr _ _ _ _ => F9)
        (rename News _ _ _ _ => N9)
        exact f_end () F9 (cb_drop N9 (fun p hp => List.mem_cons_of_mem _ hp)) (by kst_all) (by ((intro z h2 h3; (simp only [List.forall_mem_cons, List.not_mem_nil, false_implies, implies_true, and_true, ne_eq] at h2); (simp only [List.contains_cons, List.contains_nil, Bool.or_false, Bool.or_eq_false_iff, beq_eq_false_iff_ne, ne_eq] at h3); (simp [kstB, h2, h3]; done)))) (next (no2 (hs1 (by assumption) (by assumption)) (by assumption)))
      · (rename Fr _ _ _ _ => F9)
        (rename News _ _ _ _ => N9)
        have hj : ¬ j < en := by assumption
        exact f_end () F9 (cb_drop N9 (fun p hp => List.mem_cons_of_mem _ hp)) (by kst_all) (by ((intro z h2 h3; (simp only [List.forall_mem_cons, List.not_mem_nil, false_implies, implies_true, and_true, ne_eq] at h2); (simp only [List.contains_cons, List.contains_nil, Bool.or_false, Bool.or_eq_false_iff, beq_eq_false_iff_ne, ne_eq] at h3); (simp [kstB, h2, h3]; done)))) (next (no2 (hs2 hj) (by omega)))
    · have hin := (not_congr (hany n (by assumption))).mp (by rw [show List.any _ _ = false by assumption]; exact Bool.false_ne_true)
      (rename Fr _ _ _ _ => F9)
      (rename News _ _ _ _ => N9)
      exact f_end () F9 (cb_drop N9 (fun p hp => List.mem_cons_of_mem _ hp)) (by kst_all) (by ((intro z h2 h3; (simp only [List.forall_mem_cons, List.not_mem_nil, false_implies, implies_true, and_true, ne_eq] at h2); (simp only [List.contains_cons, List.contains_nil, Bool.or_false, Bool.or_eq_false_iff, beq_eq_false_iff_ne, ne_eq] at h3); (simp [kstB, h2, h3]; done)))) (next (tryN_no (fun q => hin q.2)))
    · have hkn : ¬ k + n ≤ en := by assumption
      (rename Fr _ _ _ _ => F9)
      (rename News _ _ _ _ => N9)
      exact f_end () F9 N9 (by kst_all) (by ((intro z h2 h3; (simp only [List.forall_mem_cons, List.not_mem_nil, false_implies, implies_true, and_true, ne_eq] at h2); (simp only [List.contains_cons, List.contains_nil, Bool.or_false, Bool.or_eq_false_iff, beq_eq_false_iff_ne, ne_eq] at h3); (simp [kstB, h2, h3]; done)))) (next (tryN_no (fun q => by omega)))
  case q4 =>
    intro c u h tk hP F3 N3
    have e1 := hP.1 (Nat.le_of_ble_eq_true rfl)
    have e2 := hP.2 (Nat.le_of_ble_eq_true rfl)
    rw [e1, e2] at hlead
    (repeat' (first | (k_unfold; (try dsimp only)) | ((fail_if_success ((first | (with_reducible show wpAny _ _ (exec (Stmt.While _ _ _ _) _) _ _ _) | (with_reducible show wpAny _ _ (exec (Stmt.For _ _ _ _ _) _) _ _ _) | (with_reducible show wpAny _ _ (pyIter _) _ _ _)))); (first | ((with_reducible show wpAny _ _ (call (Value.ref _) _) _ _ _); k_extra "w_call") | ((fail_if_success (with_reducible show wpAny _ _ (call (Value.ref _) _) _ _ _)); walk1))) | ((fail_if_success ((first | (with_reducible show wpAny _ _ (exec (Stmt.While _ _ _ _) _) _ _ _) | (with_reducible show wpAny _ _ (exec (Stmt.For _ _ _ _ _) _) _ _ _) | (with_reducible show wpAny _ _ (pyIter _) _ _ _)))); dsimp only; (first | ((with_reducible show wpAny _ _ (call (Value.ref _) _) _ _ _); k_extra "w_call") | ((fail_if_success (with_reducible show wpAny _ _ (call (Value.ref _) _) _ _ _)); walk1)))))
    exact cb_retI ret hlead.symm (by assumption) (cb_drop (by assumption) (by intro p hp; simp only [List.mem_cons, hp, or_true]))
end Mine
end

section
open PySem PySem.W PyProof.Rows PySem.Spec PySem.Calls
set_option maxRecDepth 100000
namespace Mine
theorem DD_strip (l : List Nat) : DD (strip l) = DD l := by
  have e := strip_idem l
  cases way (strip l) with
  | trail h => rw [DD_trail h, DD_trail (l := strip l) (by rw [e]; exact h), e]
  | lead r h h1 => rw [DD_lead h h1, DD_lead (l := strip l) (by rw [e]; exact h) (by rw [e]; exact h1)]
  | blob r h h1 h2 hr => rw [DD_blob h h1 h2 hr, DD_blob (l := strip l) (by rw [e]; exact h) (by rw [e]; exact h1) (by rw [e]; exact h2) hr]
  | fwd h h1 h2 h3 => rw [DD_fwd h h1 h2 h3, DD_fwd (l := strip l) (by rw [e]; exact h) (by rw [e]; exact h1) (by rw [e]; exact h2) (by rw [e]; exact h3), e]
  | stop h h1 h2 h3 => rw [DD_stop h h1 h2 h3, DD_stop (l := strip l) (by rw [e]; exact h) (by rw [e]; exact h1) (by rw [e]; exact h2) (by rw [e]; exact h3), e]
section
variable {x : Str} {b e b1 e1 : Int} {f : Bool}
theorem due_trail (h0 : 0 ≤ b1) (h1 : b1 ≤ e1) (h2 : e1 ≤ x.length) : (mk (low (cl (Txt.slice x (some (if e1 - 5 > b1 then e1 - 5 else b1)) (some e1)))) == Str.ofString "(fwd)") = trail (wn x b1 e1) := by
  have hl := wn_len h0 h1 h2
  rw [tr_is, beq_cl, cl_mk, cl_mk]
  unfold trail
  have key : cl (Txt.slice x (some (if e1 - 5 > b1 then e1 - 5 else b1)) (some e1)) = (wn x b1 e1).drop ((wn x b1 e1).length - 5) := by
    split
    · rw [wn_slice (by omega) (by omega), wn_back (b := b1) h0 (by omega)]
      congr 1
      omega
    · rw [wn_slice h0 (by omega), show (wn x b1 e1).length - 5 = 0 by omega, List.drop_zero]
  rw [key]
theorem win_len (h0 : 0 ≤ e1) (h2 : e1 ≤ x.length) : ((win x e1).length : Int) = e1 := by
  have := cl_length x
  unfold win
  rw [List.length_take]
  omega
theorem wn_suffix (h0 : 0 ≤ e1) (h2 : e1 ≤ x.length) {r : List Nat} (h : r <:+ wn x b1 e1) : wn x (e1 - (r.length : Int)) e1 = r := by
  have hl := win_len (x := x) h0 h2
  have hs : r <:+ win x e1 := h.trans (List.drop_suffix _ _)
  have := suffix_drop hs
  unfold wn
  rw [show (e1 - (r.length : Int)).toNat = (win x e1).length - r.length by omega]
  exact this
theorem due_lead (h0 : 0 ≤ b1) (h1 : b1 ≤ e1) (h2 : e1 ≤ x.length) : (∃ r, leader (wn x b1 e1) = some r ∧ winLeader (win x e1) b1 = e1 - (r.length : Int)) ∨ (leader (wn x b1 e1) = none ∧ winLeader (win x e1) b1 = b1) := by
  have hl := win_len (x := x) (e1 := e1) (by omega) h2
  unfold winLeader
  show (∃ r, leader ((win x e1).drop b1.toNat) = some r ∧ _) ∨ (leader ((win x e1).drop b1.toNat) = none ∧ _)
  cases leader ((win x e1).drop b1.toNat) with
  | none => exact .inr ⟨rfl, rfl⟩
  | some r => exact .inl ⟨r, rfl, by dsimp only; omega⟩
theorem due_blob (h0 : 0 ≤ b1) (h1 : b1 ≤ e1) (h2 : e1 ≤ x.length) : (∃ r, blob (wn x b1 e1) = some r ∧ pastBlob (win x e1) b1 = e1 - (r.length : Int)) ∨ (blob (wn x b1 e1) = none ∧ pastBlob (win x e1) b1 = b1) := by
  have hl := win_len (x := x) (e1 := e1) (by omega) h2
  unfold pastBlob
  show (∃ r, blob ((win x e1).drop b1.toNat) = some r ∧ _) ∨ (blob ((win x e1).drop b1.toNat) = none ∧ _)
  cases blob ((win x e1).drop b1.toNat) with
  | none => exact .inr ⟨rfl, rfl⟩
  | some r => exact .inl ⟨r, rfl, by dsimp only; omega⟩
theorem due_fwd (h0 : 0 ≤ b1) (h1 : b1 + 6 ≤ e1) (h2 : e1 ≤ x.length) : fwdQ (wn x b1 e1) = ((mk (low (cl (Txt.slice x (some b1) (some (b1 + 5))))) == Str.ofString "[fwd:") && (Txt.item x (e1 - 1) == Str.ofString "]")) := by
  have hl := wn_len (x := x) h0 (show b1 ≤ e1 by omega) h2
  obtain ⟨c, i1, i2⟩ := wn_snoc (x := x) h0 (show b1 < e1 by omega) h2
  have e2 : Str.ofString "]" = mk [93] := by decide +kernel
  rw [fo_is, beq_cl, cl_mk, cl_mk, i1, e2, beq_cl, cl_mk, cl_mk, wn_slice h0 (by omega)]
  have hw : wn x b1 (b1 + 5) = (wn x b1 e1).take 5 := by
    rw [wn_front (e := e1) (e' := b1 + 5) h0 (by omega) (by omega), show (b1 + 5 - b1).toNat = 5 by omega]
  rw [hw]
  unfold fwdQ
  have : (wn x b1 e1).drop ((wn x b1 e1).length - 1) = [c] := by
    rw [i2, List.length_append]
    exact List.drop_left
  rw [this]
/-- what holds between the turns of _law_due -/
def DueI (x : Str) (b e : Int) (f : Bool) : Prop := 0 ≤ b ∧ b ≤ e ∧ e ≤ x.length ∧ (DD (wn x b e)).1 = (DD (cl x)).1 ∧ (f || (DD (wn x b e)).2) = (DD (cl x)).2
theorem DueI.start : DueI x 0 x.length false := by
  have e : wn x 0 x.length = cl x := by
    have := cl_length x
    unfold wn win
    rw [show (0 : Int).toNat = 0 from rfl, List.drop_zero, Int.toNat_natCast, List.take_of_length_le (by omega)]
  exact ⟨Int.le_refl _, Int.natCast_nonneg _, Int.le_refl _, by rw [e], by rw [e, Bool.false_or]⟩
/-- the turn's window, its ends blank no more -/
structure Cut (x : Str) (b e b1 e1 : Int) : Prop where
  cb : b ≤ b1
  cm : b1 ≤ e1
  ce : e1 ≤ e
  cs : wn x b1 e1 = strip (wn x b e)
theorem DueI.trail (I : DueI x b e f) (C : Cut x b e b1 e1) (h : (mk (low (cl (Txt.slice x (some (if e1 - 5 > b1 then e1 - 5 else b1)) (some e1)))) == Str.ofString "(fwd)") = true) :
    DueI x b1 (e1 - 5) true ∧ (e1 - 5 - b1).toNat < (e - b).toNat := by
  obtain ⟨p1, p2, p3, p4, p5⟩ := I
  have := C.cb; have := C.cm; have := C.ce
  rw [due_trail (by omega) (by omega) (by omega)] at h
  have hl := wn_len (x := x) (b := b1) (e := e1) (by omega) (by omega) (by omega)
  have h5 := trail_len h
  have hw : wn x b1 (e1 - 5) = cutT (strip (wn x b e)) := by
    rw [wn_front (e := e1) (by omega) (by omega) (by omega), ← C.cs]
    unfold cutT
    congr 1
    omega
  rw [C.cs] at h
  rw [DD_trail h] at p4 p5
  refine ⟨⟨by omega, by omega, by omega, by rw [hw]; exact p4, ?_⟩, by omega⟩
  dsimp only at p5
  rw [Bool.or_true] at p5
  rw [← p5, Bool.true_or]
theorem DueI.no_trail (I : DueI x b e f) (C : Cut x b e b1 e1) (h : (mk (low (cl (Txt.slice x (some (if e1 - 5 > b1 then e1 - 5 else b1)) (some e1)))) == Str.ofString "(fwd)") = false) : Mine.trail (strip (wn x b e)) = false := by
  obtain ⟨p1, p2, p3, p4, p5⟩ := I
  have := C.cb; have := C.cm; have := C.ce
  rw [due_trail (by omega) (by omega) (by omega), C.cs] at h
  exact h
theorem DueI.lead (I : DueI x b e f) (C : Cut x b e b1 e1) (ht : Mine.trail (strip (wn x b e)) = false) (h : b1 < winLeader (win x e1) b1) :
    DueI x (winLeader (win x e1) b1) e1 true ∧ (e1 - winLeader (win x e1) b1).toNat < (e - b).toNat := by
  obtain ⟨p1, p2, p3, p4, p5⟩ := I
  have := C.cb; have := C.cm; have := C.ce
  rcases due_lead (x := x) (b1 := b1) (e1 := e1) (by omega) (by omega) (by omega) with ⟨r, h1, h2⟩ | ⟨h1, h2⟩
  · have hs := wn_suffix (x := x) (b1 := b1) (e1 := e1) (by omega) (by omega) (leader_suffix h1).1
    rw [h2] at h ⊢
    rw [C.cs] at h1
    rw [DD_lead ht h1] at p4 p5
    refine ⟨⟨by omega, by omega, by omega, by rw [hs]; exact p4, ?_⟩, by omega⟩
    dsimp only at p5
    rw [Bool.or_true] at p5
    rw [← p5, Bool.true_or]
  · omega
theorem DueI.no_lead (I : DueI x b e f) (C : Cut x b e b1 e1) (h : ¬ b1 < winLeader (win x e1) b1) : leader (strip (wn x b e)) = none := by
  obtain ⟨p1, p2, p3, p4, p5⟩ := I
  have := C.cb; have := C.cm; have := C.ce
  rcases due_lead (x := x) (b1 := b1) (e1 := e1) (by omega) (by omega) (by omega) with ⟨r, h1, h2⟩ | ⟨h1, h2⟩
  · have hs := (leader_suffix h1).2
    have hl := wn_len (x := x) (b := b1) (e := e1) (by omega) (by omega) (by omega)
    omega
  · rw [← C.cs]; exact h1
theorem DueI.blob (I : DueI x b e f) (C : Cut x b e b1 e1) (ht : Mine.trail (strip (wn x b e)) = false) (hl : leader (strip (wn x b e)) = none) (h : b1 < pastBlob (win x e1) b1) (h' : pastBlob (win x e1) b1 < e1) :
    DueI x (pastBlob (win x e1) b1) e1 f ∧ (e1 - pastBlob (win x e1) b1).toNat < (e - b).toNat := by
  obtain ⟨p1, p2, p3, p4, p5⟩ := I
  have := C.cb; have := C.cm; have := C.ce
  rcases due_blob (x := x) (b1 := b1) (e1 := e1) (by omega) (by omega) (by omega) with ⟨r, h1, h2⟩ | ⟨h1, h2⟩
  · have hs := wn_suffix (x := x) (b1 := b1) (e1 := e1) (by omega) (by omega) (blob_suffix h1)
    rw [h2] at h h' ⊢
    rw [C.cs] at h1
    have hr : r ≠ [] := fun q => by rw [q] at h'; simp at h'
    rw [DD_blob ht hl h1 hr] at p4 p5
    exact ⟨⟨by omega, by omega, by omega, by rw [hs]; exact p4, by rw [hs]; exact p5⟩, by omega⟩
  · omega
theorem DueI.no_blob (I : DueI x b e f) (C : Cut x b e b1 e1) (h : ¬ b1 < pastBlob (win x e1) b1 ∨ ¬ pastBlob (win x e1) b1 < e1) : (Mine.blob (strip (wn x b e))).filter (· ≠ []) = none := by
  obtain ⟨p1, p2, p3, p4, p5⟩ := I
  have := C.cb; have := C.cm; have := C.ce
  rw [← C.cs]
  rcases due_blob (x := x) (b1 := b1) (e1 := e1) (by omega) (by omega) (by omega) with ⟨r, h1, h2⟩ | ⟨h1, h2⟩
  · have hs := blob_len h1
    have hl := wn_len (x := x) (b := b1) (e := e1) (by omega) (by omega) (by omega)
    have hr : r = [] := List.eq_nil_of_length_eq_zero (by omega)
    rw [h1, hr]; rfl
  · rw [h1]; rfl
theorem DueI.fwd (I : DueI x b e f) (C : Cut x b e b1 e1) (ht : Mine.trail (strip (wn x b e)) = false) (hl : leader (strip (wn x b e)) = none) (hb : (Mine.blob (strip (wn x b e))).filter (· ≠ []) = none)
    (h6 : b1 + 6 ≤ e1) (h1 : (mk (low (cl (Txt.slice x (some b1) (some (b1 + 5))))) == Str.ofString "[fwd:") = true) (h2 : (Txt.item x (e1 - 1) == Str.ofString "]") = true) :
    DueI x (b1 + 5) (e1 - 1) true ∧ (e1 - 1 - (b1 + 5)).toNat < (e - b).toNat := by
  obtain ⟨p1, p2, p3, p4, p5⟩ := I
  have := C.cb; have := C.cm; have := C.ce
  have hf := due_fwd (x := x) (b1 := b1) (e1 := e1) (by omega) h6 (by omega)
  rw [h1, h2, Bool.and_self] at hf
  have hw : wn x (b1 + 5) (e1 - 1) = unfwd (strip (wn x b e)) := by
    have hln := wn_len (x := x) (b := b1) (e := e1) (by omega) (by omega) (by omega)
    rw [wn_back (b := b1) (by omega) (by omega), wn_front (e := e1) (by omega) (by omega) (by omega), ← C.cs]
    unfold unfwd
    congr 1
    · omega
    · congr 1
      omega
  rw [C.cs] at hf
  rw [DD_fwd ht hl hb hf] at p4 p5
  refine ⟨⟨by omega, by omega, by omega, by rw [hw]; exact p4, ?_⟩, by omega⟩
  dsimp only at p5
  rw [Bool.or_true] at p5
  rw [← p5, Bool.true_or]
theorem DueI.no_fwd (I : DueI x b e f) (C : Cut x b e b1 e1) (h : ¬ b1 + 6 ≤ e1 ∨ (b1 + 6 ≤ e1 ∧ ((mk (low (cl (Txt.slice x (some b1) (some (b1 + 5))))) == Str.ofString "[fwd:") = false ∨ (Txt.item x (e1 - 1) == Str.ofString "]") = false))) : fwdQ (strip (wn x b e)) = false := by
  obtain ⟨p1, p2, p3, p4, p5⟩ := I
  have := C.cb; have := C.cm; have := C.ce
  rw [← C.cs]
  rcases h with h | ⟨h6, h⟩
  · cases hq : fwdQ (wn x b1 e1) with
    | false => rfl
    | true =>
      have := fwdQ_len hq
      have hln := wn_len (x := x) (b := b1) (e := e1) (by omega) (by omega) (by omega)
      omega
  · rw [due_fwd (x := x) (b1 := b1) (e1 := e1) (by omega) h6 (by omega)]
    rcases h with h | h
    · rw [h, Bool.false_and]
    · rw [h, Bool.and_false]
theorem DueI.same (I : DueI x b e f) (C : Cut x b e b1 e1) (h : (b == b1 && e == e1) = false) : DueI x b1 e1 f ∧ (e1 - b1).toNat < (e - b).toNat := by
  obtain ⟨p1, p2, p3, p4, p5⟩ := I
  have := C.cb; have := C.cm; have := C.ce
  have hne : ¬ (b = b1 ∧ e = e1) := by
    rintro ⟨rfl, rfl⟩
    simp at h
  have hd : DD (wn x b1 e1) = DD (wn x b e) := by rw [C.cs, DD_strip]
  exact ⟨⟨by omega, by omega, by omega, by rw [hd]; exact p4, by rw [hd]; exact p5⟩, by omega⟩
theorem DueI.stop (I : DueI x b e f) (C : Cut x b e b1 e1) (ht : Mine.trail (strip (wn x b e)) = false) (hl : leader (strip (wn x b e)) = none) (hb : (Mine.blob (strip (wn x b e))).filter (· ≠ []) = none) (hf : fwdQ (strip (wn x b e)) = false) :
    Txt.slice x (some b1) (some e1) = mk (DD (cl x)).1 ∧ f = (DD (cl x)).2 := by
  obtain ⟨p1, p2, p3, p4, p5⟩ := I
  have := C.cb; have := C.cm; have := C.ce
  rw [DD_stop ht hl hb hf] at p4 p5
  dsimp only at p4 p5
  rw [Bool.or_false] at p5
  exact ⟨eq_mk (by rw [wn_slice (by omega) (by omega), C.cs, p4]), p5⟩
end
end Mine
end

section
open PySem PySem.W PyProof.Rows PySem.Spec PySem.Calls
set_option maxRecDepth 100000
set_option maxHeartbeats 8000000
namespace Mine
theorem and_R {A P : Prop} [Decidable P] (hA : A) : (fun v : Bool => if v = true then A ∧ P else ¬ A ∨ ¬ P) (decide P) := by
  by_cases h : P
  · rw [decide_eq_true h]; exact ⟨hA, h⟩
  · rw [decide_eq_false h]; exact .inr h
theorem news_lt {h₀ hh : Heap} {L : Addr} {nn news : List (Addr × Obj)} (N : News h₀ L hh nn) (hs : ∀ p ∈ news, p ∈ nn) : ∀ p ∈ news, p.1 < hh.objs.size := fun p hp => Heap.lt_size (N p (hs p hp)).1
theorem law_due_does (w : World) (mean : ExcName → Option Value) (mg mb : Str → Option Value) (text : Str) (t0 : Tok) (ho : Ok text) :
   DoesT w mean mg mb 8 128 111 [.str text t0] (mk (DD (cl (NN text))).1) (DD (cl (NN text))).2 := by
  unfold DoesT
  k_fill
  k_with_none
  (k_with "WPost" => (dsimp only [WPost]))
  (k_with "w_call" => (k_here; (with_reducible show wpAny _ _ (call (Value.ref 92) [Value.str _ _]) _ _ _); (k_dflt (refine law_small_ok _ _ _ _ _ _ (by (repeat (first | assumption | apply Ok.slice | apply Ok.rstrip | apply Ok.lstrip))) _ _ _ _ _ _ _ _ _ _ _ _ _ _ _ _ _ _ (by k_asm) (by k_asm) (by k_asm) (by k_asm) (by k_asm) (by first | exact rfl | assumption) (by ktr_room) (by ktr_units) ?_)); intro t9 h9 tk9 F9 N9; (try dsimp only); (try k_fold)))
  (k_with "w_call" => (k_here; (with_reducible show wpAny _ _ (call (Value.ref 99) [Value.str _ _, Value.int _ _, Value.int _ _]) _ _ _); (k_dflt (refine law_blob_does _ _ _ _ _ _ _ _ _ _ (by omega) (by omega) (by omega) (by omega) _ _ _ _ _ _ _ _ _ _ _ _ _ _ _ _ _ _ (by k_asm) (by k_asm) (by k_asm) (by k_asm) (by k_asm) (by first | exact rfl | assumption) (by ktr_room) (by ktr_units) ?_)); intro t9 h9 tk9 F9 N9; (try dsimp only); (try k_fold)))
  (k_with "w_call" => (k_here; (with_reducible show wpAny _ _ (call (Value.ref 106) [Value.str _ _, Value.int _ _, Value.int _ _]) _ _ _); (k_dflt (refine law_leader_does _ _ _ _ _ _ _ _ _ _ (by omega) (by omega) (by omega) (by (repeat (first | assumption | apply Ok.slice | apply Ok.rstrip | apply Ok.lstrip))) _ _ _ _ _ _ _ _ _ _ _ _ _ _ _ _ _ _ (by k_asm) (by k_asm) (by k_asm) (by k_asm) (by k_asm) (by first | exact rfl | assumption) (by ktr_room) (by ktr_units) ?_)); intro t9 h9 tk9 F9 N9; (try dsimp only); (try k_fold)))
  intro dp un gd cn cs a ccd clo outer A₀ base h₀ L m news s Q E B F X N T hk hd hu ret
  refine wpAny_call ?_
  k_dflt cell_enter
  rename_i g' L' h' FG' F' N' B' X' T'
  (repeat (first | ((fail_if_success (with_reducible show wpAny _ _ (eval (PySem.Expr.ListComp _ _ _ _) _) _ _ _)); ((first | (k_unfold; (try dsimp only)) | (first | ((with_reducible show wpAny _ _ (call (Value.ref _) _) _ _ _); k_extra "w_call") | ((fail_if_success (with_reducible show wpAny _ _ (call (Value.ref _) _) _ _ _)); walk1)) | (dsimp only; (first | ((with_reducible show wpAny _ _ (call (Value.ref _) _) _ _ _); k_extra "w_call") | ((fail_if_success (with_reducible show wpAny _ _ (call (Value.ref _) _) _ _ _)); walk1))))))))
  (first | ((with_reducible show wpAny _ _ (call (Value.ref _) _) _ _ _); k_extra "w_call") | ((fail_if_success (with_reducible show wpAny _ _ (call (Value.ref _) _) _ _ _)); walk1))
  (repeat (first | ((fail_if_success (with_reducible show wpAny _ _ (eval (PySem.Expr.ListComp _ _ _ _) _) _ _ _)); ((first | (k_unfold; (try dsimp only)) | (first | ((with_reducible show wpAny _ _ (call (Value.ref _) _) _ _ _); k_extra "w_call") | ((fail_if_success (with_reducible show wpAny _ _ (call (Value.ref _) _) _ _ _)); walk1)) | (dsimp only; (first | ((with_reducible show wpAny _ _ (call (Value.ref _) _) _ _ _); k_extra "w_call") | ((fail_if_success (with_reducible show wpAny _ _ (call (Value.ref _) _) _ _ _)); walk1))))))))
  (rename Fr _ _ _ _ => F1)
  (rename News _ _ _ _ => N1)
  have hl := ho.1
  with_unfolding_all
    refine ListComp_S text t0 (fun c => mk [wsN c]) (by rfl) F1 N1 (by rfl) (by decide) (by rfl) (by decide) (by rfl) ?hit ?hsz ?turn ?fin
  case hit => k_dflt (refine ld F1 (by rfl) ⟨rfl, rfl⟩)
  case hsz => show text.length ≤ sizeLine; rw [sizeLine_eq]; omega
  case turn =>
    intro c u I oI C oC D ys m₂ hp tk E' hc hC hx F2 N2 off ne
    clear F1 N1
    (repeat' (first | (k_unfold; (try dsimp only)) | ((fail_if_success ((first | (with_reducible show wpAny _ _ (exec (Stmt.While _ _ _ _) _) _ _ _) | (with_reducible show wpAny _ _ (exec (Stmt.For _ _ _ _ _) _) _ _ _) | (with_reducible show wpAny _ _ (pyIter _) _ _ _)))); (first | ((with_reducible show wpAny _ _ (call (Value.ref _) _) _ _ _); k_extra "w_call") | ((fail_if_success (with_reducible show wpAny _ _ (call (Value.ref _) _) _ _ _)); walk1))) | ((fail_if_success ((first | (with_reducible show wpAny _ _ (exec (Stmt.While _ _ _ _) _) _ _ _) | (with_reducible show wpAny _ _ (exec (Stmt.For _ _ _ _ _) _) _ _ _) | (with_reducible show wpAny _ _ (pyIter _) _ _ _)))); dsimp only; (first | ((with_reducible show wpAny _ _ (call (Value.ref _) _) _ _ _); k_extra "w_call") | ((fail_if_success (with_reducible show wpAny _ _ (call (Value.ref _) _) _ _ _)); walk1)))))
    · (rename (_ = true) => hw)
      have e := ws_found c
      rw [hw] at e
      have e2 : wsN c = c := by unfold wsN; rw [if_neg (by simpa using e)]
      (rename Fr _ _ _ _ => F9)
      (rename News _ _ _ _ => N9)
      exact LCg.CompEnd.intro F9 N9 news (fun p hp => hp) off True.intro ⟨⟨_, by rw [e2]; rfl⟩, rfl⟩
    · (rename (_ = false) => hw)
      have e := ws_found c
      rw [hw] at e
      have e2 : wsN c = 32 := by unfold wsN; rw [if_pos (by simpa using e)]
      (rename Fr _ _ _ _ => F9)
      (rename News _ _ _ _ => N9)
      exact LCg.CompEnd.intro F9 N9 news (fun p hp => hp) off True.intro ⟨⟨_, by rw [e2, sp_is]⟩, rfl⟩
  intro D ys hp tk F2 N2 off hy
  clear F1 N1
  (repeat (first | ((fail_if_success (with_reducible show wpAny _ _ (call (Value.builtin "str.join") _) _ _ _)); ((first | (k_unfold; (try dsimp only)) | (first | ((with_reducible show wpAny _ _ (call (Value.ref _) _) _ _ _); k_extra "w_call") | ((fail_if_success (with_reducible show wpAny _ _ (call (Value.ref _) _) _ _ _)); walk1)) | (dsimp only; (first | ((with_reducible show wpAny _ _ (call (Value.ref _) _) _ _ _); k_extra "w_call") | ((fail_if_success (with_reducible show wpAny _ _ (call (Value.ref _) _) _ _ _)); walk1))))))))
  have hlen : text.cps.toList.length = text.length := cl_length text
  refine join_listC (News.isList N2 (List.mem_cons_self)) hy (by decide) ?_ (fun t' k => ?_)
  · rw [sum_ones _ (fun c => mk_length _), List.length_map]; omega
  rw [join_signs]
  have hpl : (mk (List.map wsN text.cps.toList)).length ≤ 4096 := by rw [mk_length, List.length_map]; omega
  obtain ⟨plain, hplain⟩ : ∃ plain, mk (List.map wsN text.cps.toList) = plain := ⟨_, rfl⟩
  rw [hplain] at hpl ⊢
  (repeat (first | ((fail_if_success (with_reducible show wpAny _ _ (call (Value.builtin "str.join") _) _ _ _)); ((first | (k_unfold; (try dsimp only)) | (first | ((with_reducible show wpAny _ _ (call (Value.ref _) _) _ _ _); k_extra "w_call") | ((fail_if_success (with_reducible show wpAny _ _ (call (Value.ref _) _) _ _ _)); walk1)) | (dsimp only; (first | ((with_reducible show wpAny _ _ (call (Value.ref _) _) _ _ _); k_extra "w_call") | ((fail_if_success (with_reducible show wpAny _ _ (call (Value.ref _) _) _ _ _)); walk1))))))))
  (rename List.map _ _ = Txt.split _ _ => hsp)
  (rename CarriedAll _ _ => hca)
  rw [hsp] at hca
  refine join_listC (by assumption) (StrsAre.of_carried hca) (by decide) (split_bound hpl _) (fun t' k => ?_)
  have hNN : Txt.join (Str.ofString " ") (List.filter (fun a => ((a.length : Int)) != 0) (Txt.split plain (Str.ofString " "))) = NN text := by
    unfold NN
    rw [hplain]
    congr 1
    apply List.filter_congr
    intro a _
    rw [bne, bne, beq_cl, empty_is, cl_mk, Bool.eq_iff_iff, ← cl_length]
    simp
  rw [hNN]
  have hox := Ok_NN ho
  clear hca hsp hNN
  generalize NN text = x at hox ret ⊢
  have hx := hox.1
  have hxl := cl_length x
  clear hpl hplain
  (repeat' (first | (k_unfold; (try dsimp only)) | ((fail_if_success ((first | (with_reducible show wpAny _ _ (exec (Stmt.While _ _ _ _) _) _ _ _) | (with_reducible show wpAny _ _ (exec (Stmt.For _ _ _ _ _) _) _ _ _) | (with_reducible show wpAny _ _ (pyIter _) _ _ _)))); (first | ((with_reducible show wpAny _ _ (call (Value.ref _) _) _ _ _); k_extra "w_call") | ((fail_if_success (with_reducible show wpAny _ _ (call (Value.ref _) _) _ _ _)); walk1))) | ((fail_if_success ((first | (with_reducible show wpAny _ _ (exec (Stmt.While _ _ _ _) _) _ _ _) | (with_reducible show wpAny _ _ (exec (Stmt.For _ _ _ _ _) _) _ _ _) | (with_reducible show wpAny _ _ (pyIter _) _ _ _)))); dsimp only; (first | ((with_reducible show wpAny _ _ (call (Value.ref _) _) _ _ _); k_extra "w_call") | ((fail_if_success (with_reducible show wpAny _ _ (call (Value.ref _) _) _ _ _)); walk1)))))
  (rename Fr _ _ _ _ => F3)
  (rename News _ _ _ _ => N3)
  have N4 := cb_drop (news := news) N3 (by intro p hp; simp only [List.mem_cons, hp, or_true])
  clear N3
  with_unfolding_all
    refine' w_while (σ := ((Int × Tok) × (Int × Tok)) × Bool) (fun _ => news) (fun c => [(Str.ofString "begin", .int c.1.1.1 c.1.1.2), (Str.ofString "end", .int c.1.2.1 c.1.2.2), (Str.ofString "is_reply", .bool c.2)]) [Str.ofString "held"]
      (fun c => DueI x c.1.1.1 c.1.2.1 c.2) (fun c => (c.1.2.1 - c.1.1.1).toNat) (((0, _), ((x.length : Int), _)), false) F3 N4 ?k2 ?k3 ?k4 ?k5
  case k2 => kst_all
  case k3 => exact DueI.start
  case k5 => passes_own
  clear F3 N4
  rintro ⟨⟨⟨b, tb⟩, ⟨e, te⟩⟩, f⟩ u h1 tk1 I F3 N3
  dsimp only at I
  have p1 := I.1
  have p2 := I.2.1
  have p3 := I.2.2.1
  (repeat' (first | (k_unfold; (try dsimp only)) | ((fail_if_success ((first | (with_reducible show wpAny _ _ (exec (Stmt.While _ _ _ _) _) _ _ _) | (with_reducible show wpAny _ _ (exec (Stmt.For _ _ _ _ _) _) _ _ _) | (with_reducible show wpAny _ _ (pyIter _) _ _ _)))); (first | ((with_reducible show wpAny _ _ (call (Value.ref _) _) _ _ _); k_extra "w_call") | ((fail_if_success (with_reducible show wpAny _ _ (call (Value.ref _) _) _ _ _)); walk1))) | ((fail_if_success ((first | (with_reducible show wpAny _ _ (exec (Stmt.While _ _ _ _) _) _ _ _) | (with_reducible show wpAny _ _ (exec (Stmt.For _ _ _ _ _) _) _ _ _) | (with_reducible show wpAny _ _ (pyIter _) _ _ _)))); dsimp only; (first | ((with_reducible show wpAny _ _ (call (Value.ref _) _) _ _ _); k_extra "w_call") | ((fail_if_success (with_reducible show wpAny _ _ (call (Value.ref _) _) _ _ _)); walk1)))))
  (rename Fr _ _ _ _ => F5)
  (rename News _ _ _ _ => N5)
  with_unfolding_all
    refine' w_whileJ (σ := Int × Tok) (fun _ => _) (fun c => [(Str.ofString "end", .int c.1 c.2)]) []
      (fun c => b ≤ c.1 ∧ c.1 ≤ e ∧ stripR (wn x b c.1) = stripR (wn x b e)) (fun c => b ≤ c.1 ∧ c.1 ≤ e ∧ wn x b c.1 = stripR (wn x b e)) (fun c => (c.1 - b).toNat) (e, _) F5 N5 ?a2 ?a3 ?a4 ?a6 ?a5
  case a2 => kst_all
  case a3 => exact ⟨p2, Int.le_refl _, rfl⟩
  case a5 => passes_own
  case a4 =>
    clear F5 N5
    rintro ⟨e1, te1⟩ u1 h2 tk2 ⟨q1, q2, q3⟩ F3 N3
    dsimp only at q1 q2 q3
    (repeat' (first | (k_unfold; (try dsimp only)) | ((fail_if_success ((first | (with_reducible show wpAny _ _ (exec (Stmt.While _ _ _ _) _) _ _ _) | (with_reducible show wpAny _ _ (exec (Stmt.For _ _ _ _ _) _) _ _ _) | (with_reducible show wpAny _ _ (pyIter _) _ _ _)))); (first | ((with_reducible show wpAny _ _ (call (Value.ref _) _) _ _ _); k_extra "w_call") | ((fail_if_success (with_reducible show wpAny _ _ (call (Value.ref _) _) _ _ _)); walk1))) | ((fail_if_success ((first | (with_reducible show wpAny _ _ (exec (Stmt.While _ _ _ _) _) _ _ _) | (with_reducible show wpAny _ _ (exec (Stmt.For _ _ _ _ _) _) _ _ _) | (with_reducible show wpAny _ _ (pyIter _) _ _ _)))); dsimp only; (first | ((with_reducible show wpAny _ _ (call (Value.ref _) _) _ _ _); k_extra "w_call") | ((fail_if_success (with_reducible show wpAny _ _ (call (Value.ref _) _) _ _ _)); walk1)))))
    · have hlt : b < e1 := by assumption
      obtain ⟨c, i1, i2⟩ := wn_snoc (x := x) p1 hlt (by omega)
      (rename (_ == _) = true => hs)
      dsimp only at hs
      rw [i1, sp_is, one_eq] at hs
      have hc : c = 32 := by simpa using hs
      rw [hc] at i2
      (rename Fr _ _ _ _ => F9)
      (rename News _ _ _ _ => N9)
      exact w_end (e1 - 1, _) F9 N9 (fun _ h => h) (by kst_all) (by ((intro z h2 h3; (simp only [List.forall_mem_cons, List.not_mem_nil, false_implies, implies_true, and_true, ne_eq] at h2); (simp only [List.contains_cons, List.contains_nil, Bool.or_false, Bool.or_eq_false_iff, beq_eq_false_iff_ne, ne_eq] at h3); (simp [kstB, h2, h3]; done)))) ⟨Int.le_sub_one_of_lt hlt, Int.le_trans (Int.sub_le_self e1 (by decide)) q2, by dsimp only; rw [← q3, i2, stripR_sp]⟩ (meas_lt2 hlt)
    · have hlt : b < e1 := by assumption
      obtain ⟨c, i1, i2⟩ := wn_snoc (x := x) p1 hlt (by omega)
      (rename (_ == _) = false => hs)
      dsimp only at hs
      rw [i1, sp_is, one_eq] at hs
      have hc : c ≠ 32 := by simpa using hs
      exact w_out (by assumption) (by assumption) ⟨q1, q2, by dsimp only; rw [← q3, i2, stripR_ne _ hc]⟩
    · have hlt : ¬ b < e1 := by assumption
      exact w_out (by assumption) (by assumption) ⟨q1, q2, by dsimp only; rw [← q3, wn_empty (by omega) p1]; rfl⟩
  clear F5 N5
  rintro ⟨e1, te1⟩ u1 h2 tk2 ⟨q1, q2, q3⟩ F5 N5
  dsimp only at q1 q2 q3
  (repeat' (first | (k_unfold; (try dsimp only)) | ((fail_if_success ((first | (with_reducible show wpAny _ _ (exec (Stmt.While _ _ _ _) _) _ _ _) | (with_reducible show wpAny _ _ (exec (Stmt.For _ _ _ _ _) _) _ _ _) | (with_reducible show wpAny _ _ (pyIter _) _ _ _)))); (first | ((with_reducible show wpAny _ _ (call (Value.ref _) _) _ _ _); k_extra "w_call") | ((fail_if_success (with_reducible show wpAny _ _ (call (Value.ref _) _) _ _ _)); walk1))) | ((fail_if_success ((first | (with_reducible show wpAny _ _ (exec (Stmt.While _ _ _ _) _) _ _ _) | (with_reducible show wpAny _ _ (exec (Stmt.For _ _ _ _ _) _) _ _ _) | (with_reducible show wpAny _ _ (pyIter _) _ _ _)))); dsimp only; (first | ((with_reducible show wpAny _ _ (call (Value.ref _) _) _ _ _); k_extra "w_call") | ((fail_if_success (with_reducible show wpAny _ _ (call (Value.ref _) _) _ _ _)); walk1)))))
  (rename Fr _ _ _ _ => F6)
  (rename News _ _ _ _ => N6)
  with_unfolding_all
    refine' w_whileJ (σ := Int × Tok) (fun _ => _) (fun c => [(Str.ofString "begin", .int c.1 c.2)]) []
      (fun c => b ≤ c.1 ∧ c.1 ≤ e1 ∧ dropBl (wn x c.1 e1) = strip (wn x b e)) (fun c => b ≤ c.1 ∧ c.1 ≤ e1 ∧ wn x c.1 e1 = strip (wn x b e)) (fun c => (e1 - c.1).toNat) (b, _) F6 N6 ?b2 ?b3 ?b4 ?b6 ?b5
  case b2 => kst_all
  case b3 => exact ⟨Int.le_refl _, q1, by dsimp only; rw [q3]; rfl⟩
  case b5 => passes_own
  case b4 =>
    clear F6 N6
    rintro ⟨b1, tb1⟩ u2 h3 tk3 ⟨r1, r2, r3⟩ F6 N6
    dsimp only at r1 r2 r3
    (repeat' (first | (k_unfold; (try dsimp only)) | ((fail_if_success ((first | (with_reducible show wpAny _ _ (exec (Stmt.While _ _ _ _) _) _ _ _) | (with_reducible show wpAny _ _ (exec (Stmt.For _ _ _ _ _) _) _ _ _) | (with_reducible show wpAny _ _ (pyIter _) _ _ _)))); (first | ((with_reducible show wpAny _ _ (call (Value.ref _) _) _ _ _); k_extra "w_call") | ((fail_if_success (with_reducible show wpAny _ _ (call (Value.ref _) _) _ _ _)); walk1))) | ((fail_if_success ((first | (with_reducible show wpAny _ _ (exec (Stmt.While _ _ _ _) _) _ _ _) | (with_reducible show wpAny _ _ (exec (Stmt.For _ _ _ _ _) _) _ _ _) | (with_reducible show wpAny _ _ (pyIter _) _ _ _)))); dsimp only; (first | ((with_reducible show wpAny _ _ (call (Value.ref _) _) _ _ _); k_extra "w_call") | ((fail_if_success (with_reducible show wpAny _ _ (call (Value.ref _) _) _ _ _)); walk1)))))
    · have hlt : b1 < e1 := by assumption
      obtain ⟨c, i1, i2⟩ := wn_cons (x := x) (show 0 ≤ b1 by omega) hlt (by omega)
      (rename (_ == _) = true => hs)
      dsimp only at hs
      rw [i1, sp_is, one_eq] at hs
      have hc : c = 32 := by simpa using hs
      rw [hc] at i2
      (rename Fr _ _ _ _ => F9)
      (rename News _ _ _ _ => N9)
      exact w_end (b1 + 1, _) F9 N9 (fun _ h => h) (by kst_all) (by ((intro z h2 h3; (simp only [List.forall_mem_cons, List.not_mem_nil, false_implies, implies_true, and_true, ne_eq] at h2); (simp only [List.contains_cons, List.contains_nil, Bool.or_false, Bool.or_eq_false_iff, beq_eq_false_iff_ne, ne_eq] at h3); (simp [kstB, h2, h3]; done)))) ⟨Int.le_trans r1 (Int.le_add_one (Int.le_refl b1)), Int.add_one_le_of_lt hlt, by dsimp only; rw [← r3, i2, dropBl_sp]⟩ (meas_lt hlt (Int.lt_add_one_of_le (Int.le_refl _)))
    · have hlt : b1 < e1 := by assumption
      obtain ⟨c, i1, i2⟩ := wn_cons (x := x) (show 0 ≤ b1 by omega) hlt (by omega)
      (rename (_ == _) = false => hs)
      dsimp only at hs
      rw [i1, sp_is, one_eq] at hs
      have hc : c ≠ 32 := by simpa using hs
      exact w_out (by assumption) (by assumption) ⟨r1, r2, by dsimp only; rw [← r3, i2, dropBl_ne _ hc]⟩
    · have hlt : ¬ b1 < e1 := by assumption
      exact w_out (by assumption) (by assumption) ⟨r1, r2, by dsimp only; rw [← r3, wn_empty (by omega) (by omega)]; rfl⟩
  clear F6 N6
  rintro ⟨b1, tb1⟩ u2 h3 tk3 ⟨r1, r2, r3⟩ F6 N6
  dsimp only at r1 r2 r3
  have C : Cut x b e b1 e1 := ⟨r1, r2, q2, r3⟩
  clear r3 q3
  (repeat' (first | (k_unfold; (try dsimp only)) | ((fail_if_success ((first | (with_reducible show wpAny _ _ (exec (Stmt.If _ _ _ _) _) _ _ _) | (with_reducible show wpAny _ _ (exec (Stmt.While _ _ _ _) _) _ _ _)))); (first | ((with_reducible show wpAny _ _ (call (Value.ref _) _) _ _ _); k_extra "w_call") | ((fail_if_success (with_reducible show wpAny _ _ (call (Value.ref _) _) _ _ _)); walk1))) | ((fail_if_success ((first | (with_reducible show wpAny _ _ (exec (Stmt.If _ _ _ _) _) _ _ _) | (with_reducible show wpAny _ _ (exec (Stmt.While _ _ _ _) _) _ _ _)))); dsimp only; (first | ((with_reducible show wpAny _ _ (call (Value.ref _) _) _ _ _); k_extra "w_call") | ((fail_if_success (with_reducible show wpAny _ _ (call (Value.ref _) _) _ _ _)); walk1)))))
  (first | (k_unfold; (try dsimp only)) | (first | ((with_reducible show wpAny _ _ (call (Value.ref _) _) _ _ _); k_extra "w_call") | ((fail_if_success (with_reducible show wpAny _ _ (call (Value.ref _) _) _ _ _)); walk1)) | (dsimp only; (first | ((with_reducible show wpAny _ _ (call (Value.ref _) _) _ _ _); k_extra "w_call") | ((fail_if_success (with_reducible show wpAny _ _ (call (Value.ref _) _) _ _ _)); walk1))))
  (repeat' (first | (k_unfold; (try dsimp only)) | ((fail_if_success ((first | (with_reducible show wpAny _ _ (exec (Stmt.If _ _ _ _) _) _ _ _) | (with_reducible show wpAny _ _ (exec (Stmt.While _ _ _ _) _) _ _ _)))); (first | ((with_reducible show wpAny _ _ (call (Value.ref _) _) _ _ _); k_extra "w_call") | ((fail_if_success (with_reducible show wpAny _ _ (call (Value.ref _) _) _ _ _)); walk1))) | ((fail_if_success ((first | (with_reducible show wpAny _ _ (exec (Stmt.If _ _ _ _) _) _ _ _) | (with_reducible show wpAny _ _ (exec (Stmt.While _ _ _ _) _) _ _ _)))); dsimp only; (first | ((with_reducible show wpAny _ _ (call (Value.ref _) _) _ _ _); k_extra "w_call") | ((fail_if_success (with_reducible show wpAny _ _ (call (Value.ref _) _) _ _ _)); walk1)))))
  · obtain ⟨i1, i2⟩ := I.trail C (by assumption)
    (rename Fr _ _ _ _ => F9)
    (rename News _ _ _ _ => N9)
    exact w_end (((b1, _), (e1 - 5, _)), true) F9 N9 (fun p hp => List.mem_cons_of_mem _ hp) (by kst_all) (by ((intro z h2 h3; (simp only [List.forall_mem_cons, List.not_mem_nil, false_implies, implies_true, and_true, ne_eq] at h2); (simp only [List.contains_cons, List.contains_nil, Bool.or_false, Bool.or_eq_false_iff, beq_eq_false_iff_ne, ne_eq] at h3); (simp [kstB, h2, h3]; done)))) i1 i2
  have nT := I.no_trail C (by assumption)
  (first | (k_unfold; (try dsimp only)) | (first | ((with_reducible show wpAny _ _ (call (Value.ref _) _) _ _ _); k_extra "w_call") | ((fail_if_success (with_reducible show wpAny _ _ (call (Value.ref _) _) _ _ _)); walk1)) | (dsimp only; (first | ((with_reducible show wpAny _ _ (call (Value.ref _) _) _ _ _); k_extra "w_call") | ((fail_if_success (with_reducible show wpAny _ _ (call (Value.ref _) _) _ _ _)); walk1))))
  (repeat' (first | (k_unfold; (try dsimp only)) | ((fail_if_success ((first | (with_reducible show wpAny _ _ (exec (Stmt.If _ _ _ _) _) _ _ _) | (with_reducible show wpAny _ _ (exec (Stmt.While _ _ _ _) _) _ _ _)))); (first | ((with_reducible show wpAny _ _ (call (Value.ref _) _) _ _ _); k_extra "w_call") | ((fail_if_success (with_reducible show wpAny _ _ (call (Value.ref _) _) _ _ _)); walk1))) | ((fail_if_success ((first | (with_reducible show wpAny _ _ (exec (Stmt.If _ _ _ _) _) _ _ _) | (with_reducible show wpAny _ _ (exec (Stmt.While _ _ _ _) _) _ _ _)))); dsimp only; (first | ((with_reducible show wpAny _ _ (call (Value.ref _) _) _ _ _); k_extra "w_call") | ((fail_if_success (with_reducible show wpAny _ _ (call (Value.ref _) _) _ _ _)); walk1)))))
  · obtain ⟨i1, i2⟩ := I.lead C nT (by assumption)
    (rename Fr _ _ _ _ => F9)
    (rename News _ _ _ _ => N9)
    exact w_end (((winLeader (win x e1) b1, _), (e1, _)), true) F9 N9 (fun p hp => List.mem_cons_of_mem _ hp) (by kst_all) (by ((intro z h2 h3; (simp only [List.forall_mem_cons, List.not_mem_nil, false_implies, implies_true, and_true, ne_eq] at h2); (simp only [List.contains_cons, List.contains_nil, Bool.or_false, Bool.or_eq_false_iff, beq_eq_false_iff_ne, ne_eq] at h3); (simp [kstB, h2, h3]; done)))) i1 i2
  have nL := I.no_lead C (by assumption)
  (rename Fr _ _ _ _ => F8)
  (rename News _ _ _ _ => N8)
  refine w_ifJ (fun v => if v = true then b1 < pastBlob (win x e1) b1 ∧ pastBlob (win x e1) b1 < e1 else ¬ b1 < pastBlob (win x e1) b1 ∨ ¬ pastBlob (win x e1) b1 < e1) F8 N8 ?c1 ?c2 ?c3
  case c1 =>
    (repeat' (first | (k_unfold; (try dsimp only)) | ((fail_if_success ((first | (with_reducible show wpAny _ _ (exec (Stmt.If _ _ _ _) _) _ _ _) | (with_reducible show wpAny _ _ (exec (Stmt.While _ _ _ _) _) _ _ _)))); (first | ((with_reducible show wpAny _ _ (call (Value.ref _) _) _ _ _); k_extra "w_call") | ((fail_if_success (with_reducible show wpAny _ _ (call (Value.ref _) _) _ _ _)); walk1))) | ((fail_if_success ((first | (with_reducible show wpAny _ _ (exec (Stmt.If _ _ _ _) _) _ _ _) | (with_reducible show wpAny _ _ (exec (Stmt.While _ _ _ _) _) _ _ _)))); dsimp only; (first | ((with_reducible show wpAny _ _ (call (Value.ref _) _) _ _ _); k_extra "w_call") | ((fail_if_success (with_reducible show wpAny _ _ (call (Value.ref _) _) _ _ _)); walk1)))))
    all_goals (rename Fr _ _ _ _ => F9)
    all_goals (rename News _ _ _ _ => N9)
    all_goals first | exact i_out F9 N9 (and_R (by assumption)) | exact i_out F9 N9 (show _ ∨ _ from .inl (by assumption))
  case c2 =>
    intro h5 tk5 hR F5 N5
    clear F8 N8
    have hR : _ ∧ _ := hR
    obtain ⟨i1, i2⟩ := I.blob C nT nL hR.1 hR.2
    (repeat' (first | (k_unfold; (try dsimp only)) | ((fail_if_success ((first | (with_reducible show wpAny _ _ (exec (Stmt.If _ _ _ _) _) _ _ _) | (with_reducible show wpAny _ _ (exec (Stmt.While _ _ _ _) _) _ _ _)))); (first | ((with_reducible show wpAny _ _ (call (Value.ref _) _) _ _ _); k_extra "w_call") | ((fail_if_success (with_reducible show wpAny _ _ (call (Value.ref _) _) _ _ _)); walk1))) | ((fail_if_success ((first | (with_reducible show wpAny _ _ (exec (Stmt.If _ _ _ _) _) _ _ _) | (with_reducible show wpAny _ _ (exec (Stmt.While _ _ _ _) _) _ _ _)))); dsimp only; (first | ((with_reducible show wpAny _ _ (call (Value.ref _) _) _ _ _); k_extra "w_call") | ((fail_if_success (with_reducible show wpAny _ _ (call (Value.ref _) _) _ _ _)); walk1)))))
    (rename Fr _ _ _ _ => F9)
    (rename News _ _ _ _ => N9)
    exact w_end (((pastBlob (win x e1) b1, _), (e1, _)), f) F9 N9 (fun p hp => List.mem_cons_of_mem _ hp) (by kst_all) (by ((intro z h2 h3; (simp only [List.forall_mem_cons, List.not_mem_nil, false_implies, implies_true, and_true, ne_eq] at h2); (simp only [List.contains_cons, List.contains_nil, Bool.or_false, Bool.or_eq_false_iff, beq_eq_false_iff_ne, ne_eq] at h3); (simp [kstB, h2, h3]; done)))) i1 i2
  intro h5 tk5 hR F5 N5
  clear F8 N8
  have nB := I.no_blob C hR
  clear hR
  (repeat' (first | (k_unfold; (try dsimp only)) | ((fail_if_success ((first | (with_reducible show wpAny _ _ (exec (Stmt.If _ _ _ _) _) _ _ _) | (with_reducible show wpAny _ _ (exec (Stmt.While _ _ _ _) _) _ _ _)))); (first | ((with_reducible show wpAny _ _ (call (Value.ref _) _) _ _ _); k_extra "w_call") | ((fail_if_success (with_reducible show wpAny _ _ (call (Value.ref _) _) _ _ _)); walk1))) | ((fail_if_success ((first | (with_reducible show wpAny _ _ (exec (Stmt.If _ _ _ _) _) _ _ _) | (with_reducible show wpAny _ _ (exec (Stmt.While _ _ _ _) _) _ _ _)))); dsimp only; (first | ((with_reducible show wpAny _ _ (call (Value.ref _) _) _ _ _); k_extra "w_call") | ((fail_if_success (with_reducible show wpAny _ _ (call (Value.ref _) _) _ _ _)); walk1)))))
  (rename Fr _ _ _ _ => F8)
  (rename News _ _ _ _ => N8)
  refine w_ifJ (fun v => if v = true then b1 + 6 ≤ e1 ∧ (mk (low (cl (Txt.slice x (some b1) (some (b1 + 5))))) == Str.ofString "[fwd:") = true ∧ (Txt.item x (e1 - 1) == Str.ofString "]") = true
      else ¬ b1 + 6 ≤ e1 ∨ (b1 + 6 ≤ e1 ∧ ((mk (low (cl (Txt.slice x (some b1) (some (b1 + 5))))) == Str.ofString "[fwd:") = false ∨ (Txt.item x (e1 - 1) == Str.ofString "]") = false))) F8 N8 ?d1 ?d2 ?d3
  case d1 =>
    (repeat' (first | (k_unfold; (try dsimp only)) | ((fail_if_success ((first | (with_reducible show wpAny _ _ (exec (Stmt.If _ _ _ _) _) _ _ _) | (with_reducible show wpAny _ _ (exec (Stmt.While _ _ _ _) _) _ _ _)))); (first | ((with_reducible show wpAny _ _ (call (Value.ref _) _) _ _ _); k_extra "w_call") | ((fail_if_success (with_reducible show wpAny _ _ (call (Value.ref _) _) _ _ _)); walk1))) | ((fail_if_success ((first | (with_reducible show wpAny _ _ (exec (Stmt.If _ _ _ _) _) _ _ _) | (with_reducible show wpAny _ _ (exec (Stmt.While _ _ _ _) _) _ _ _)))); dsimp only; (first | ((with_reducible show wpAny _ _ (call (Value.ref _) _) _ _ _); k_extra "w_call") | ((fail_if_success (with_reducible show wpAny _ _ (call (Value.ref _) _) _ _ _)); walk1)))))
    all_goals (rename Fr _ _ _ _ => F9)
    all_goals (rename News _ _ _ _ => N9)
    · exact i_out F9 N9 (show _ ∧ _ ∧ _ from ⟨by assumption, by assumption, by assumption⟩)
    · exact i_out F9 N9 (show _ ∨ _ from .inr ⟨by assumption, .inr (by assumption)⟩)
    · exact i_out F9 N9 (show _ ∨ _ from .inr ⟨by assumption, .inl (by assumption)⟩)
    · exact i_out F9 N9 (show _ ∨ _ from .inl (by assumption))
  case d2 =>
    intro h6 tk6 hR F6 N6
    clear F8 N8
    have hR : _ ∧ _ ∧ _ := hR
    obtain ⟨i1, i2⟩ := I.fwd C nT nL nB hR.1 hR.2.1 hR.2.2
    (repeat' (first | (k_unfold; (try dsimp only)) | ((fail_if_success ((first | (with_reducible show wpAny _ _ (exec (Stmt.If _ _ _ _) _) _ _ _) | (with_reducible show wpAny _ _ (exec (Stmt.While _ _ _ _) _) _ _ _)))); (first | ((with_reducible show wpAny _ _ (call (Value.ref _) _) _ _ _); k_extra "w_call") | ((fail_if_success (with_reducible show wpAny _ _ (call (Value.ref _) _) _ _ _)); walk1))) | ((fail_if_success ((first | (with_reducible show wpAny _ _ (exec (Stmt.If _ _ _ _) _) _ _ _) | (with_reducible show wpAny _ _ (exec (Stmt.While _ _ _ _) _) _ _ _)))); dsimp only; (first | ((with_reducible show wpAny _ _ (call (Value.ref _) _) _ _ _); k_extra "w_call") | ((fail_if_success (with_reducible show wpAny _ _ (call (Value.ref _) _) _ _ _)); walk1)))))
    (rename Fr _ _ _ _ => F9)
    (rename News _ _ _ _ => N9)
    exact w_end (((b1 + 5, _), (e1 - 1, _)), true) F9 N9 (fun p hp => List.mem_cons_of_mem _ hp) (by kst_all) (by ((intro z h2 h3; (simp only [List.forall_mem_cons, List.not_mem_nil, false_implies, implies_true, and_true, ne_eq] at h2); (simp only [List.contains_cons, List.contains_nil, Bool.or_false, Bool.or_eq_false_iff, beq_eq_false_iff_ne, ne_eq] at h3); (simp [kstB, h2, h3]; done)))) i1 i2
  intro h6 tk6 hR F6 N6
  clear F8 N8
  have nF := I.no_fwd C hR
  clear hR
  (repeat' (first | (k_unfold; (try dsimp only)) | ((fail_if_success ((first | (with_reducible show wpAny _ _ (exec (Stmt.While _ _ _ _) _) _ _ _) | (with_reducible show wpAny _ _ (exec (Stmt.For _ _ _ _ _) _) _ _ _) | (with_reducible show wpAny _ _ (pyIter _) _ _ _)))); (first | ((with_reducible show wpAny _ _ (call (Value.ref _) _) _ _ _); k_extra "w_call") | ((fail_if_success (with_reducible show wpAny _ _ (call (Value.ref _) _) _ _ _)); walk1))) | ((fail_if_success ((first | (with_reducible show wpAny _ _ (exec (Stmt.While _ _ _ _) _) _ _ _) | (with_reducible show wpAny _ _ (exec (Stmt.For _ _ _ _ _) _) _ _ _) | (with_reducible show wpAny _ _ (pyIter _) _ _ _)))); dsimp only; (first | ((with_reducible show wpAny _ _ (call (Value.ref _) _) _ _ _); k_extra "w_call") | ((fail_if_success (with_reducible show wpAny _ _ (call (Value.ref _) _) _ _ _)); walk1)))))
  · obtain ⟨i1, i2⟩ := I.stop C nT nL nB nF
    rw [← i1, ← i2] at ret
    (rename News _ _ _ _ => N9)
    exact ret _ _ _ _ _ (by assumption) (cb_drop N9 (by intro p hp; rcases List.mem_cons.mp hp with e | hp; exact e ▸ List.mem_cons_self; simp only [List.mem_cons, hp, or_true])) (news_lt (by assumption) (by intro p hp; simp only [List.mem_cons, hp, or_true]))
  · have hsame : (b == b1 && e == e1) = false := by assumption
    obtain ⟨i1, i2⟩ := I.same C hsame
    (rename Fr _ _ _ _ => F9)
    (rename News _ _ _ _ => N9)
    exact w_end (((b1, _), (e1, _)), f) F9 N9 (fun p hp => List.mem_cons_of_mem _ (List.mem_cons_of_mem _ hp)) (by kst_all) (by ((intro z h2 h3; (simp only [List.forall_mem_cons, List.not_mem_nil, false_implies, implies_true, and_true, ne_eq] at h2); (simp only [List.contains_cons, List.contains_nil, Bool.or_false, Bool.or_eq_false_iff, beq_eq_false_iff_ne, ne_eq] at h3); (simp [kstB, h2, h3]; done)))) i1 i2
end Mine
end

section
open PySem PySem.W PyProof.Rows PySem.Spec PySem.Calls
set_option maxRecDepth 100000
set_option maxHeartbeats 8000000
namespace Mine
/-- a draw, the pot anywhere in the ledger; what else lies there said entry by entry -/
theorem draw_in (w : World) (mean : ExcName → Option Value) (mg mb : Str → Option Value) (P C : Addr) (limit : Int) (tl : Tok) (h0 : 0 < limit) (h1 : limit ≤ 100) (pre : List (Addr × Obj))
    (dp un : Nat) (gd : Option (List Code)) (cn : Str) (cs : Scope) (a : Addr) (ccd : Value) (cl : List (Str × Addr)) (outer : List Env) (A₀ : Around) (base h₀ : Heap) (L : Addr) (m : Str → Option Value) (rest : List (Addr × Obj)) (s : Shared)
    (Q E : Value → Shared → Prop) (k : Nat) (po co : Obj)
    (B : Below A₀ base outer h₀) (F : Fr h₀ L s.heap m) (X : (hd.heap_39 w.params).In h₀) (N : News h₀ L s.heap (pre ++ (P, po) :: (C, co) :: rest)) (T : Top hd.view_39 (looseW hd.view_39 [Str.ofString "_law_words"]) mean mg mb h₀) (hk : cs.kind = .function)
    (hd : dp + 2 < recursionLimit) (hu : un + 32 < cLine) (hp : PotIs C k po co) (hk1 : k ≤ 1000) (hCP : C ≠ P) (eP : ∀ p ∈ pre, p.1 ≠ P) (eC : ∀ p ∈ pre, p.1 ≠ C) (oP : ∀ p ∈ rest, p.1 ≠ P) (oC : ∀ p ∈ rest, p.1 ≠ C)
    (ret : ∀ v t h' tk' po' co', 0 ≤ v → v < limit → Fr h₀ L h' m → PotIs C (k + 1) po' co' → News h₀ L h' (pre ++ (P, po') :: (C, co') :: rest) → Q (.int v t) { s with heap := h', toks := tk' }) :
    wpAny (model PySem.Challenge.rw_no0349_01.row.prog w) (ktrTop dp un gd cn cs L a ccd cl outer) (call (.ref 86) [.ref P, .int limit tl]) Q E s :=
  draw_at w mean mg mb P C limit tl h0 h1 pre dp un gd cn cs a ccd cl outer A₀ base h₀ L m rest s Q E k po co B F X N T hk hd hu hp hk1 hCP (fun p hp => ⟨eP p hp, eC p hp⟩) oP oC ret
/-- base_subject, its answer named -/
theorem base_subject_of (w : World) (mean : ExcName → Option Value) (mg mb : Str → Option Value) (text : Str) (t0 : Tok) (b : Str) (r : Bool) (ho : Ok text) (h : SS (nrm (cl text)) = (cl b, r)) :
   DoesT w mean mg mb 8 128 74 [.str text t0] b r := by
  have e := base_subject_does w mean mg mb text t0 ho
  rw [cl_NN, h, mk_cl] at e
  exact e
theorem law_due_of (w : World) (mean : ExcName → Option Value) (mg mb : Str → Option Value) (text : Str) (t0 : Tok) (b : Str) (r : Bool) (ho : Ok text) (h : SS (nrm (cl text)) = (cl b, r)) :
   DoesT w mean mg mb 8 128 111 [.str text t0] b r := by
  have e := law_due_does w mean mg mb text t0 ho
  rw [cl_NN, ← SS_is_DD, h, mk_cl] at e
  exact e
theorem Ok.base {text : Str} (h : Ok text) : Ok (mk (SS (nrm (cl text))).1) := by
  rw [SS_is_DD, ← cl_NN]
  exact (Ok_NN h).mk_sub (DD_infix _).sublist
theorem base_found {text : Str} (h : Ok text) : ∃ (found : Str) (r : Bool), SS (nrm (cl text)) = (cl found, r) ∧ SS (nrm (cl found)) = (cl found, false) ∧ Ok found := by
  refine ⟨mk (SS (nrm (cl text))).1, (SS (nrm (cl text))).2, by rw [cl_mk], ?_, h.base⟩
  rw [cl_mk]
  exact base_base (cl text)
section
variable {prog : Program} {w : World} {A : Around} {E : Value → Shared → Prop} {s : Shared} {h₀ : Heap} {L : Addr} {news : List (Addr × Obj)} {Q : Value → Shared → Prop}
theorem tup_reads {h : Heap} {D : Addr} {x : Str} {t : Tok} {b : Bool} {c : Nat} (ho : h.get? D = some (tupSB x t b c)) : ∃ as, Reads h (.ref D) (.tuple [.str x, .bool b]) as :=
  ⟨_, reads_tuple_at ho rfl rfl (ReadsAll.cons (Reads.str _ _) (ReadsAll.cons (Reads.bool _) ReadsAll.nil))⟩
theorem tup_eqv (x : Str) (b : Bool) : PyData.eqv (.tuple [.str x, .bool b]) (.tuple [.str x, .bool b]) = true := by simp [PyData.eqv, PyData.eqvAll]
theorem tup_shaped {x : Str} (hx : Ok x) (b : Bool) : SeqAt.shaped (.tuple [.str x, .bool b]) = true := by
  have : PyData.strOk x = true := by
    unfold PyData.strOk
    rw [Array.all_eq_true']
    intro c hc
    exact decide_eq_true (hx.2 c (by simpa [cl] using hc))
  simp [SeqAt.shaped, PyData.canLay0, PyData.canLayAll0, PyData.depth, PyData.depthAll, this]
theorem tup_ne {D D' : Addr} {x : Str} {t t' : Tok} {b : Bool} {c c' : Nat} (N : News h₀ L s.heap news) (m1 : (D, tupSB x t b c) ∈ news) (m2 : (D', tupSB x t' b c') ∈ news) (hx : Ok x) (hu : A.units + 64 < cLine) (h : Q (.bool false) s) :
    wpAny (model prog w) A (compareOp .NotEq (.ref D) (.ref D')) Q E s := by
  obtain ⟨_, r1⟩ := tup_reads (N _ m1).1
  obtain ⟨_, r2⟩ := tup_reads (N _ m2).1
  refine ne_dataH r1 r2 (tup_shaped hx b) (tup_shaped hx b) hu ?_
  rw [tup_eqv]
  exact h
theorem tup_eq {D D' : Addr} {x : Str} {t t' : Tok} {b : Bool} {c c' : Nat} (N : News h₀ L s.heap news) (m1 : (D, tupSB x t b c) ∈ news) (m2 : (D', tupSB x t' b c') ∈ news) (hx : Ok x) (hu : A.units + 64 < cLine) (h : Q (.bool true) s) :
    wpAny (model prog w) A (compareOp .Eq (.ref D) (.ref D')) Q E s := by
  obtain ⟨_, r1⟩ := tup_reads (N _ m1).1
  obtain ⟨_, r2⟩ := tup_reads (N _ m2).1
  refine eq_dataH r1 r2 (tup_shaped hx b) (tup_shaped hx b) hu ?_
  rw [tup_eqv]
  exact h
end
/-- a piece of a text that is built -/
def Piece (x : Str) : Prop := x.length ≤ 20 ∧ ∀ c ∈ cl x, c < 1114112
theorem Piece.join {xs : List Str} (h : ∀ x ∈ xs, Piece x) (hl : xs.length ≤ 100) : Ok (Txt.join (Str.ofString "") xs) := by
  have e : cl (Txt.join (Str.ofString "") xs) = (xs.map cl).flatten := by rw [cl_join, empty_is, cl_mk, joinL_nil]
  refine ⟨?_, ?_⟩
  · rw [← cl_length, e]
    have : ∀ ys : List Str, (∀ x ∈ ys, Piece x) → ((ys.map cl).flatten).length ≤ 20 * ys.length := by
      intro ys
      induction ys with
      | nil => intro _; simp
      | cons y r ih =>
        intro h
        have h1 := (h y List.mem_cons_self).1
        have h2 := ih (fun x hx => h x (List.mem_cons_of_mem _ hx))
        rw [← cl_length] at h1
        rw [List.map_cons, List.flatten_cons, List.length_append, List.length_cons]
        omega
    have := this xs h
    omega
  · intro c hc
    rw [e] at hc
    obtain ⟨l, hl, hc⟩ := List.mem_flatten.mp hc
    obtain ⟨x, hx, rfl⟩ := List.mem_map.mp hl
    exact (h x hx).2 c hc
theorem join_len {xs : List Str} (h : ∀ x ∈ xs, Piece x) (hl : xs.length ≤ 100) : ((xs.map (·.length)).sum) ≤ 2000 := by
  have : ∀ ys : List Str, (∀ x ∈ ys, Piece x) → ((ys.map (·.length)).sum) ≤ 20 * ys.length := by
    intro ys
    induction ys with
    | nil => intro _; simp
    | cons y r ih =>
      intro h
      have h1 := (h y List.mem_cons_self).1
      have h2 := ih (fun x hx => h x (List.mem_cons_of_mem _ hx))
      rw [List.map_cons, List.sum_cons, List.length_cons]
      omega
  have := this xs h
  omega
/-- a base of the menu -/
def IsBase (x : Str) : Prop := cl x ∈ bases
theorem bases7 (t1 t2 t3 t4 t5 t6 t7 : Tok) : ∀ v ∈ [Value.str (Str.ofString "one") t1, .str (Str.ofString "a [b] c") t2, .str (Str.ofString "regards") t3, .str (Str.ofString "2: 3") t4, .str (Str.ofString "x (fwd) y") t5, .str (Str.ofString "fwd") t6, .str (Str.ofString "é") t7], ∃ x t, v = .str x t ∧ IsBase x := by
  have k1 : IsBase (Str.ofString "one") := by show cl _ ∈ bases; decide +kernel
  have k2 : IsBase (Str.ofString "a [b] c") := by show cl _ ∈ bases; decide +kernel
  have k3 : IsBase (Str.ofString "regards") := by show cl _ ∈ bases; decide +kernel
  have k4 : IsBase (Str.ofString "2: 3") := by show cl _ ∈ bases; decide +kernel
  have k5 : IsBase (Str.ofString "x (fwd) y") := by show cl _ ∈ bases; decide +kernel
  have k6 : IsBase (Str.ofString "fwd") := by show cl _ ∈ bases; decide +kernel
  have k7 : IsBase (Str.ofString "é") := by show cl _ ∈ bases; decide +kernel
  intro v hv
  simp only [List.mem_cons, List.not_mem_nil, or_false] at hv
  rcases hv with rfl | rfl | rfl | rfl | rfl | rfl | rfl
  · exact ⟨_, _, rfl, k1⟩
  · exact ⟨_, _, rfl, k2⟩
  · exact ⟨_, _, rfl, k3⟩
  · exact ⟨_, _, rfl, k4⟩
  · exact ⟨_, _, rfl, k5⟩
  · exact ⟨_, _, rfl, k6⟩
  · exact ⟨_, _, rfl, k7⟩
theorem IsBase.inv {x : Str} (h : IsBase x) : Inv (cl x) (cl x) false := bases_ok _ h
theorem IsBase.small {x : Str} (h : IsBase x) : (∀ c ∈ cl x, c < 1114112) ∧ x.length ≤ 100 := by
  have key : ∀ b ∈ bases, (∀ c ∈ b, c < 1114112) ∧ b.length ≤ 100 := by decide +kernel
  have := key _ h
  rw [cl_length] at this
  exact this
theorem IsBase.ok {x : Str} (h : IsBase x) : Ok x := ⟨Nat.le_trans h.small.2 (by decide), h.small.1⟩
/-- the wrapping, with what base_subject says of it -/
theorem law_wrapped_of (w : World) (mean : ExcName → Option Value) (mg mb : Str → Option Value) (P C : Addr) (base : Str) (tb : Tok) (hI : IsBase base) (pre : List (Addr × Obj))
    (dp un : Nat) (gd : Option (List Code)) (cn : Str) (cs : Scope) (a : Addr) (ccd : Value) (clo : List (Str × Addr)) (outer : List Env) (A₀ : Around) (bs h₀ : Heap) (L : Addr) (m : Str → Option Value) (rest : List (Addr × Obj)) (s : Shared)
    (Q E : Value → Shared → Prop) (k : Nat) (po co : Obj)
    (B : Below A₀ bs outer h₀) (F : Fr h₀ L s.heap m) (X : (hd.heap_39 w.params).In h₀) (N : News h₀ L s.heap (pre ++ (P, po) :: (C, co) :: rest)) (T : Top hd.view_39 (looseW hd.view_39 [Str.ofString "_law_words"]) mean mg mb h₀) (hk : cs.kind = .function)
    (hd : dp + 4 < recursionLimit) (hu : un + 64 < cLine) (hp : PotIs C k po co) (hk1 : k ≤ 900) (hCP : C ≠ P) (eP : ∀ p ∈ pre, p.1 ≠ P) (eC : ∀ p ∈ pre, p.1 ≠ C) (oP : ∀ p ∈ rest, p.1 ≠ P) (oC : ∀ p ∈ rest, p.1 ≠ C)
    (ret : ∀ D x t b c h' tk', SS (nrm (cl x)) = (cl base, b) → Ok x → Fr h₀ L h' m → News h₀ L h' ((D, tupSB x t b c) :: (pre ++ rest)) → (∀ p ∈ pre ++ rest, p.1 < D) → Q (.ref D) { s with heap := h', toks := tk' }) :
    wpAny (model PySem.Challenge.rw_no0349_01.row.prog w) (ktrTop dp un gd cn cs L a ccd clo outer) (call (.ref 118) [.ref P, .str base tb]) Q E s := by
  refine law_wrapped_does w mean mg mb P C base tb hI.inv hI.small.1 hI.small.2 dp un gd cn cs a ccd clo outer A₀ bs h₀ L m (pre ++ rest) s Q E k po co B F X (kst_newsOf N ?_) T hk hd hu hp hk1 hCP ?_ ?_ ?_
  · intro p hp
    simp only [List.mem_cons, List.mem_append] at hp ⊢
    rcases hp with rfl | rfl | h | h
    · exact .inr (.inl rfl)
    · exact .inr (.inr (.inl rfl))
    · exact .inl h
    · exact .inr (.inr (.inr h))
  · intro p hp
    rcases List.mem_append.mp hp with h | h
    · exact eP p h
    · exact oP p h
  · intro p hp
    rcases List.mem_append.mp hp with h | h
    · exact eC p h
    · exact oC p h
  · intro D x t b c h' tk' hi ho F' N' lt
    exact ret D x t b c h' tk' hi.answer ho F' N' lt
end Mine
end

section
open PySem PySem.W PyProof.Rows PySem.Spec PySem.Calls
set_option maxRecDepth 100000
set_option maxHeartbeats 8000000
namespace Mine
/-- the part of the ledger that is to be kept -/
def Keep (_ : List (Addr × Obj)) : Prop := True
theorem keep_of {h₀ h : Heap} {L : Addr} {a : Addr × Obj} {keep : List (Addr × Obj)} (_ : News h₀ L h (a :: keep)) : Keep keep := trivial
theorem drop_pre {h₀ h1 : Heap} {L : Addr} {keep nn : List (Addr × Obj)} (_ : Keep keep) (N : News h₀ L h1 nn) (hs : ∀ p ∈ keep, p ∈ nn) : News h₀ L h1 keep := fun p hp => N p (hs p hp)
theorem getD_all {l : List Str} {i : Nat} {d : Str} {G : Str → Prop} (h : ∀ x ∈ l, G x) (hd : G d) : G (l.getD i d) := by
  rw [List.getD_eq_getElem?_getD]
  cases e : l[i]? with
  | none => exact hd
  | some x => exact h x (List.mem_of_getElem? e)
theorem fin : PySem.Challenge.rw_no0349_01.Holds := hd (by
  k_go0
  k_with_none
  (k_with "w_call" => (k_here; (with_reducible show wpAny _ _ (call (Value.ref 79) [Value.ref _]) _ _ _); k_dflt ((refine law_pot_does _ _ _ _ _ _ _ _ _ _ _ _ _ _ _ _ _ _ _ _ _ _ _ _ _ (by k_asm) (by k_asm) (by k_asm) (by k_asm) (by k_asm) (by first | exact rfl | assumption) (by ktr_room) (by ktr_units) (by assumption) (by assumption) (by omega) ?_); intro P9 C9 h9 tk9 po9 co9 F9 p9 N9 c9 o9 q9; (have e1 := neN c9); (have e2 := neN (o9 _ List.mem_cons_self)); (have e3 := neN (q9 _ List.mem_cons_self)); (dsimp only at e2 e3); clear o9 q9; (try dsimp only); (try k_fold))))
  (k_with "w_call" => (k_here; (with_reducible show wpAny _ _ (call (Value.ref 86) [Value.ref _, Value.int _ _]) _ _ _); k_dflt ((refine draw_in _ _ _ _ _ _ _ _ (by decide) (by decide) [_] _ _ _ _ _ _ _ _ _ _ _ _ _ _ _ _ _ _ _ _ _ (by k_asm) (by k_asm) (by k_asm) (by k_asm) (by k_asm) (by first | exact rfl | assumption) (by ktr_room) (by ktr_units) (by assumption) (by first | assumption | omega) (by ((refine neN ?_; first | with_reducible assumption | (with_reducible exact Ne.symm (by assumption)) | (dsimp only; first | with_reducible assumption | (with_reducible exact Ne.symm (by assumption)) | omega)))) (by (((repeat (refine List.forall_mem_cons.mpr ⟨by ((refine neN ?_; first | with_reducible assumption | (with_reducible exact Ne.symm (by assumption)) | (dsimp only; first | with_reducible assumption | (with_reducible exact Ne.symm (by assumption)) | omega))), ?_⟩)); exact List.forall_mem_nil _))) (by (((repeat (refine List.forall_mem_cons.mpr ⟨by ((refine neN ?_; first | with_reducible assumption | (with_reducible exact Ne.symm (by assumption)) | (dsimp only; first | with_reducible assumption | (with_reducible exact Ne.symm (by assumption)) | omega))), ?_⟩)); exact List.forall_mem_nil _))) (by (((repeat (refine List.forall_mem_cons.mpr ⟨by ((refine neN ?_; first | with_reducible assumption | (with_reducible exact Ne.symm (by assumption)) | (dsimp only; first | with_reducible assumption | (with_reducible exact Ne.symm (by assumption)) | omega))), ?_⟩)); exact List.forall_mem_nil _))) (by (((repeat (refine List.forall_mem_cons.mpr ⟨by ((refine neN ?_; first | with_reducible assumption | (with_reducible exact Ne.symm (by assumption)) | (dsimp only; first | with_reducible assumption | (with_reducible exact Ne.symm (by assumption)) | omega))), ?_⟩)); exact List.forall_mem_nil _))) ?_); intro v9 t9 h9 tk9 po9 co9 a9 b9 F9 p9 N9; (try dsimp only [List.cons_append, List.nil_append] at N9); (try dsimp only); (try k_fold))))
  (k_with "w_call" => (k_here; (with_reducible show wpAny _ _ (call (Value.ref 86) [Value.ref _, Value.int _ _]) _ _ _); k_dflt ((refine draw_in _ _ _ _ _ _ _ _ (by decide) (by decide) [_, _, _] _ _ _ _ _ _ _ _ _ _ _ _ _ _ _ _ _ _ _ _ _ (by k_asm) (by k_asm) (by k_asm) (by k_asm) (by k_asm) (by first | exact rfl | assumption) (by ktr_room) (by ktr_units) (by assumption) (by first | assumption | omega) (by ((refine neN ?_; first | with_reducible assumption | (with_reducible exact Ne.symm (by assumption)) | (dsimp only; first | with_reducible assumption | (with_reducible exact Ne.symm (by assumption)) | omega)))) (by (((repeat (refine List.forall_mem_cons.mpr ⟨by ((refine neN ?_; first | with_reducible assumption | (with_reducible exact Ne.symm (by assumption)) | (dsimp only; first | with_reducible assumption | (with_reducible exact Ne.symm (by assumption)) | omega))), ?_⟩)); exact List.forall_mem_nil _))) (by (((repeat (refine List.forall_mem_cons.mpr ⟨by ((refine neN ?_; first | with_reducible assumption | (with_reducible exact Ne.symm (by assumption)) | (dsimp only; first | with_reducible assumption | (with_reducible exact Ne.symm (by assumption)) | omega))), ?_⟩)); exact List.forall_mem_nil _))) (by (((repeat (refine List.forall_mem_cons.mpr ⟨by ((refine neN ?_; first | with_reducible assumption | (with_reducible exact Ne.symm (by assumption)) | (dsimp only; first | with_reducible assumption | (with_reducible exact Ne.symm (by assumption)) | omega))), ?_⟩)); exact List.forall_mem_nil _))) (by (((repeat (refine List.forall_mem_cons.mpr ⟨by ((refine neN ?_; first | with_reducible assumption | (with_reducible exact Ne.symm (by assumption)) | (dsimp only; first | with_reducible assumption | (with_reducible exact Ne.symm (by assumption)) | omega))), ?_⟩)); exact List.forall_mem_nil _))) ?_); intro v9 t9 h9 tk9 po9 co9 a9 b9 F9 p9 N9; (try dsimp only [List.cons_append, List.nil_append] at N9); (try dsimp only); (try k_fold))))
  (k_with "w_call" => (k_here; (with_reducible show wpAny _ _ (call (Value.ref 86) [Value.ref _, Value.int _ _]) _ _ _); k_dflt ((refine draw_in _ _ _ _ _ _ _ _ (by decide) (by decide) [] _ _ _ _ _ _ _ _ _ _ _ _ _ _ _ _ _ _ _ _ _ (by k_asm) (by k_asm) (by k_asm) (by k_asm) (by k_asm) (by first | exact rfl | assumption) (by ktr_room) (by ktr_units) (by assumption) (by first | assumption | omega) (by ((refine neN ?_; first | with_reducible assumption | (with_reducible exact Ne.symm (by assumption)) | (dsimp only; first | with_reducible assumption | (with_reducible exact Ne.symm (by assumption)) | omega)))) (by (((repeat (refine List.forall_mem_cons.mpr ⟨by ((refine neN ?_; first | with_reducible assumption | (with_reducible exact Ne.symm (by assumption)) | (dsimp only; first | with_reducible assumption | (with_reducible exact Ne.symm (by assumption)) | omega))), ?_⟩)); exact List.forall_mem_nil _))) (by (((repeat (refine List.forall_mem_cons.mpr ⟨by ((refine neN ?_; first | with_reducible assumption | (with_reducible exact Ne.symm (by assumption)) | (dsimp only; first | with_reducible assumption | (with_reducible exact Ne.symm (by assumption)) | omega))), ?_⟩)); exact List.forall_mem_nil _))) (by (((repeat (refine List.forall_mem_cons.mpr ⟨by ((refine neN ?_; first | with_reducible assumption | (with_reducible exact Ne.symm (by assumption)) | (dsimp only; first | with_reducible assumption | (with_reducible exact Ne.symm (by assumption)) | omega))), ?_⟩)); exact List.forall_mem_nil _))) (by (((repeat (refine List.forall_mem_cons.mpr ⟨by ((refine neN ?_; first | with_reducible assumption | (with_reducible exact Ne.symm (by assumption)) | (dsimp only; first | with_reducible assumption | (with_reducible exact Ne.symm (by assumption)) | omega))), ?_⟩)); exact List.forall_mem_nil _))) ?_); intro v9 t9 h9 tk9 po9 co9 a9 b9 F9 p9 N9; (try dsimp only [List.cons_append, List.nil_append] at N9); (try dsimp only); (try k_fold))))
  (k_with "w_call" => (k_here; (with_reducible show wpAny _ _ (call (Value.ref 118) [Value.ref _, Value.str _ _]) _ _ _); k_dflt ((refine law_wrapped_of _ _ _ _ _ _ _ _ (by assumption) [_] _ _ _ _ _ _ _ _ _ _ _ _ _ _ _ _ _ _ _ _ _ (by k_asm) (by k_asm) (by k_asm) (by k_asm) (by k_asm) (by first | exact rfl | assumption) (by ktr_room) (by ktr_units) (by assumption) (by first | assumption | omega) (by ((refine neN ?_; first | with_reducible assumption | (with_reducible exact Ne.symm (by assumption)) | (dsimp only; first | with_reducible assumption | (with_reducible exact Ne.symm (by assumption)) | omega)))) (by (((repeat (refine List.forall_mem_cons.mpr ⟨by ((refine neN ?_; first | with_reducible assumption | (with_reducible exact Ne.symm (by assumption)) | (dsimp only; first | with_reducible assumption | (with_reducible exact Ne.symm (by assumption)) | omega))), ?_⟩)); exact List.forall_mem_nil _))) (by (((repeat (refine List.forall_mem_cons.mpr ⟨by ((refine neN ?_; first | with_reducible assumption | (with_reducible exact Ne.symm (by assumption)) | (dsimp only; first | with_reducible assumption | (with_reducible exact Ne.symm (by assumption)) | omega))), ?_⟩)); exact List.forall_mem_nil _))) (by (((repeat (refine List.forall_mem_cons.mpr ⟨by ((refine neN ?_; first | with_reducible assumption | (with_reducible exact Ne.symm (by assumption)) | (dsimp only; first | with_reducible assumption | (with_reducible exact Ne.symm (by assumption)) | omega))), ?_⟩)); exact List.forall_mem_nil _))) (by (((repeat (refine List.forall_mem_cons.mpr ⟨by ((refine neN ?_; first | with_reducible assumption | (with_reducible exact Ne.symm (by assumption)) | (dsimp only; first | with_reducible assumption | (with_reducible exact Ne.symm (by assumption)) | omega))), ?_⟩)); exact List.forall_mem_nil _))) ?_); intro D9 x9 t9 b9 c9 h9 tk9 s9 o9 F9 N9 l9; (try dsimp only [List.cons_append, List.nil_append] at N9 l9); (try k_lt l9); (try dsimp only); (try k_fold))))
  (k_with "w_call" => (k_here; (with_reducible show wpAny _ _ (call (Value.ref 74) [Value.str _ _]) _ _ _); k_dflt ((refine base_subject_of _ _ _ _ _ _ _ _ (by (first | assumption | exact IsBase.ok (by assumption))) (by assumption) _ _ _ _ _ _ _ _ _ _ _ _ _ _ _ _ _ _ (by k_asm) (by k_asm) (by k_asm) (by k_asm) (by k_asm) (by first | exact rfl | assumption) (by ktr_room) (by ktr_units) ?_); intro D9 t9 c9 h9 tk9 F9 N9 l9; (try k_lt l9); (try dsimp only); (try k_fold))))
  (k_with "w_call" => (k_here; (with_reducible show wpAny _ _ (call (Value.ref 111) [Value.str _ _]) _ _ _); k_dflt ((refine law_due_of _ _ _ _ _ _ _ _ (by (first | assumption | exact IsBase.ok (by assumption))) (by assumption) _ _ _ _ _ _ _ _ _ _ _ _ _ _ _ _ _ _ (by k_asm) (by k_asm) (by k_asm) (by k_asm) (by k_asm) (by first | exact rfl | assumption) (by ktr_room) (by ktr_units) ?_); intro D9 t9 c9 h9 tk9 F9 N9 l9; (try k_lt l9); (try dsimp only); (try k_fold))))
  (all_goals try k_fold)
  (repeat' (first | ((with_reducible show wpAny _ _ (call (Value.ref _) _) _ _ _); (k_extra "w_call")) | ((fail_if_success ((first | (with_reducible show LCg.CompEnd _ _ _ _ _ _ _ _ _ _ _ _ _ _) | (with_reducible show wpAny _ _ (exec (Stmt.Assign _ (PySem.Expr.ListComp _ _ _ _) _) _) _ _ _) | (with_reducible show LCg.CompSrc _ _ _ _ _ _ _ _ _ _ _ _ _ _) | (with_reducible show wpAny _ _ (eval (PySem.Expr.ListComp _ _ _ _) _) _ _ _) | (with_reducible show wpAny _ _ (exec (Stmt.For _ _ _ _ _) _) _ _ _) | (with_reducible show wpAny _ _ (pyIter _) _ _ _) | (with_reducible show wpAny _ _ (call (Value.builtin "str.join") _) _ _ _)))); (fail_if_success (with_reducible show wpAny _ _ (call (Value.ref _) _) _ _ _)); ((first | ((((with_reducible show wpAny _ _ (compareOp CmpOp.NotEq (Value.ref _) (Value.ref _)) _ _ _); k_dflt (refine tup_ne (by k_asm) (by k_mem) (by k_mem) (by (first | assumption | exact IsBase.ok (by assumption))) (by ke_room) ?_); (try dsimp only); (try k_fold)))) | ((((with_reducible show wpAny _ _ (compareOp CmpOp.Eq (Value.ref _) (Value.ref _)) _ _ _); k_dflt (refine tup_eq (by k_asm) (by k_mem) (by k_mem) (by (first | assumption | exact IsBase.ok (by assumption))) (by ke_room) ?_); (try dsimp only); (try k_fold)))) | ((((with_reducible show wpAny _ _ (subscriptTail _ _ (Value.ref _) (Value.int _ _)) _ _ _); k_dflt (refine pick_text IsBase (by is_list) (bases7 _ _ _ _ _ _ _) (by with_reducible assumption) (by assumption) (Int.lt_of_le_of_lt (Int.le_of_lt (by with_reducible assumption)) (by decide)) ?_); intro x9 t9 g9; (try dsimp only); (try k_fold)))) | (k_unfold; (try dsimp only)) | walk1 | (dsimp only; walk1))))))
  (rename Fr _ _ _ _ => F1)
  with_unfolding_all
    refine LCg.ListComp_U F1 (by rfl) (by decide) (by rfl) (by decide) (by rfl) ?src

  (repeat' (first | ((with_reducible show wpAny _ _ (call (Value.ref _) _) _ _ _); (k_extra "w_call")) | ((fail_if_success ((first | (with_reducible show LCg.CompEnd _ _ _ _ _ _ _ _ _ _ _ _ _ _) | (with_reducible show wpAny _ _ (exec (Stmt.Assign _ (PySem.Expr.ListComp _ _ _ _) _) _) _ _ _) | (with_reducible show LCg.CompSrc _ _ _ _ _ _ _ _ _ _ _ _ _ _) | (with_reducible show wpAny _ _ (eval (PySem.Expr.ListComp _ _ _ _) _) _ _ _) | (with_reducible show wpAny _ _ (exec (Stmt.For _ _ _ _ _) _) _ _ _) | (with_reducible show wpAny _ _ (pyIter _) _ _ _) | (with_reducible show wpAny _ _ (call (Value.builtin "str.join") _) _ _ _)))); (fail_if_success (with_reducible show wpAny _ _ (call (Value.ref _) _) _ _ _)); ((first | ((((with_reducible show wpAny _ _ (compareOp CmpOp.NotEq (Value.ref _) (Value.ref _)) _ _ _); k_dflt (refine tup_ne (by k_asm) (by k_mem) (by k_mem) (by (first | assumption | exact IsBase.ok (by assumption))) (by ke_room) ?_); (try dsimp only); (try k_fold)))) | ((((with_reducible show wpAny _ _ (compareOp CmpOp.Eq (Value.ref _) (Value.ref _)) _ _ _); k_dflt (refine tup_eq (by k_asm) (by k_mem) (by k_mem) (by (first | assumption | exact IsBase.ok (by assumption))) (by ke_room) ?_); (try dsimp only); (try k_fold)))) | ((((with_reducible show wpAny _ _ (subscriptTail _ _ (Value.ref _) (Value.int _ _)) _ _ _); k_dflt (refine pick_text IsBase (by is_list) (bases7 _ _ _ _ _ _ _) (by with_reducible assumption) (by assumption) (Int.lt_of_le_of_lt (Int.le_of_lt (by with_reducible assumption)) (by decide)) ?_); intro x9 t9 g9; (try dsimp only); (try k_fold)))) | (k_unfold; (try dsimp only)) | walk1 | (dsimp only; walk1))))))
  (rename Fr _ _ _ _ => F2)
  (rename News _ _ _ _ => N2)
  (rename IsRange _ _ _ _ _ _ _ _ => R2)
  (rename PotIs _ _ _ _ => p2)
  (rename (0 : Int) ≤ _ => b20)
  (rename _ < (9 : Int) => b21)
  (rename _ = Data.cell (some _) => d2)
  have hr0 := small_one (show -(2 ^ 62) ≤ (0 : Int) by decide) (by decide) (Int.le_trans (by decide) b20) (Int.lt_trans b21 (by decide))
  refine LCg.CompSrc.range (by rfl) F2 N2 R2 hr0 (rangeSize_nat _ _) (by rw [sizeLine_eq]; omega) ?rest
  intro gg
  refine rest_J (fun i ys nw => ∃ po co xs, nw = [(_, po), (_, co), (_, _)] ∧ PotIs _ (1 + i) po co ∧ StrsAre ys xs ∧ xs.length = i ∧ ∀ x ∈ xs, Piece x) _ ?turn ?fin _ 0 [] _ (Nat.zero_add _) ⟨_, _, [], rfl, p2, .nil, rfl, fun _ h => absurd h List.not_mem_nil⟩
  case turn =>
    rintro i ys nw v I oI C oC D m₂ hp tk E' hi ⟨po, co, xs, rfl, p3, hys, hxl, hxs⟩ hv hC hx F3 N3 off ne
    have hk9 : 1 + i ≤ 1000 := by
      clear ne off
      omega
    have hk8 : 1 + i + 1 ≤ 1 + (i + 1) := Nat.le_refl _
    obtain ⟨⟨u1, u2, u3⟩, ⟨u4, u5, u6⟩, ⟨u7, u8, u9⟩, _⟩ := id off
    clear ne
    dsimp only at u1 u2 u3 u4 u5 u6 u7 u8 u9
    (repeat' (first | ((with_reducible show wpAny _ _ (call (Value.ref _) _) _ _ _); (k_extra "w_call")) | ((fail_if_success ((first | (with_reducible show LCg.CompEnd _ _ _ _ _ _ _ _ _ _ _ _ _ _) | (with_reducible show wpAny _ _ (exec (Stmt.Assign _ (PySem.Expr.ListComp _ _ _ _) _) _) _ _ _) | (with_reducible show LCg.CompSrc _ _ _ _ _ _ _ _ _ _ _ _ _ _) | (with_reducible show wpAny _ _ (eval (PySem.Expr.ListComp _ _ _ _) _) _ _ _) | (with_reducible show wpAny _ _ (exec (Stmt.For _ _ _ _ _) _) _ _ _) | (with_reducible show wpAny _ _ (pyIter _) _ _ _) | (with_reducible show wpAny _ _ (call (Value.builtin "str.join") _) _ _ _)))); (fail_if_success (with_reducible show wpAny _ _ (call (Value.ref _) _) _ _ _)); ((first | ((((with_reducible show wpAny _ _ (compareOp CmpOp.NotEq (Value.ref _) (Value.ref _)) _ _ _); k_dflt (refine tup_ne (by k_asm) (by k_mem) (by k_mem) (by (first | assumption | exact IsBase.ok (by assumption))) (by ke_room) ?_); (try dsimp only); (try k_fold)))) | ((((with_reducible show wpAny _ _ (compareOp CmpOp.Eq (Value.ref _) (Value.ref _)) _ _ _); k_dflt (refine tup_eq (by k_asm) (by k_mem) (by k_mem) (by (first | assumption | exact IsBase.ok (by assumption))) (by ke_room) ?_); (try dsimp only); (try k_fold)))) | ((((with_reducible show wpAny _ _ (subscriptTail _ _ (Value.ref _) (Value.int _ _)) _ _ _); k_dflt (refine pick_text IsBase (by is_list) (bases7 _ _ _ _ _ _ _) (by with_reducible assumption) (by assumption) (Int.lt_of_le_of_lt (Int.le_of_lt (by with_reducible assumption)) (by decide)) ?_); intro x9 t9 g9; (try dsimp only); (try k_fold)))) | (k_unfold; (try dsimp only)) | walk1 | (dsimp only; walk1))))))
    (rename Fr _ _ _ _ => F9)
    (rename News _ _ _ _ => N9)
    (rename PotIs _ _ _ _ => p9)
    refine LCg.CompEnd.intro F9 N9 _ (fun p hp => hp) ⟨⟨u1, u2, u3⟩, ⟨u4, u5, u6⟩, ⟨u7, u8, u9⟩, trivial⟩ True.intro ⟨_, _, xs ++ [_], rfl, p9.up hk8, strs_snoc hys _ _, by rw [List.length_append, hxl]; rfl, ?_⟩
    intro x hx
    rcases List.mem_append.mp hx with hx | hx
    · exact hxs x hx
    · rw [List.mem_singleton.mp hx]
      exact getD_all (by show ∀ x ∈ _, (x.length ≤ 20 ∧ ∀ c ∈ cl x, c < 1114112); decide +kernel) (by show (Str.empty.length ≤ 20 ∧ ∀ c ∈ cl Str.empty, c < 1114112); decide +kernel)
  case fin =>
    rintro ys nw ⟨po, co, xs, rfl, p3, hys, hxl, hxs⟩
    unfold LCg.FinE
    intro D hp tk F3 N3 off
    obtain ⟨u1, u2, u3, _⟩ := id off
    dsimp only at u1 u2 u3
    have K3 := keep_of N3
    (repeat' (first | ((with_reducible show wpAny _ _ (call (Value.ref _) _) _ _ _); (k_extra "w_call")) | ((fail_if_success ((first | (with_reducible show LCg.CompEnd _ _ _ _ _ _ _ _ _ _ _ _ _ _) | (with_reducible show wpAny _ _ (exec (Stmt.Assign _ (PySem.Expr.ListComp _ _ _ _) _) _) _ _ _) | (with_reducible show LCg.CompSrc _ _ _ _ _ _ _ _ _ _ _ _ _ _) | (with_reducible show wpAny _ _ (eval (PySem.Expr.ListComp _ _ _ _) _) _ _ _) | (with_reducible show wpAny _ _ (exec (Stmt.For _ _ _ _ _) _) _ _ _) | (with_reducible show wpAny _ _ (pyIter _) _ _ _) | (with_reducible show wpAny _ _ (call (Value.builtin "str.join") _) _ _ _)))); (fail_if_success (with_reducible show wpAny _ _ (call (Value.ref _) _) _ _ _)); ((first | ((((with_reducible show wpAny _ _ (compareOp CmpOp.NotEq (Value.ref _) (Value.ref _)) _ _ _); k_dflt (refine tup_ne (by k_asm) (by k_mem) (by k_mem) (by (first | assumption | exact IsBase.ok (by assumption))) (by ke_room) ?_); (try dsimp only); (try k_fold)))) | ((((with_reducible show wpAny _ _ (compareOp CmpOp.Eq (Value.ref _) (Value.ref _)) _ _ _); k_dflt (refine tup_eq (by k_asm) (by k_mem) (by k_mem) (by (first | assumption | exact IsBase.ok (by assumption))) (by ke_room) ?_); (try dsimp only); (try k_fold)))) | ((((with_reducible show wpAny _ _ (subscriptTail _ _ (Value.ref _) (Value.int _ _)) _ _ _); k_dflt (refine pick_text IsBase (by is_list) (bases7 _ _ _ _ _ _ _) (by with_reducible assumption) (by assumption) (Int.lt_of_le_of_lt (Int.le_of_lt (by with_reducible assumption)) (by decide)) ?_); intro x9 t9 g9; (try dsimp only); (try k_fold)))) | (k_unfold; (try dsimp only)) | walk1 | (dsimp only; walk1))))))
    refine join_listC (News.isList N3 (List.mem_cons_self)) hys (by decide) ?_ (fun t' k => ?_)
    · have h1 : xs.length ≤ 100 := by clear u1 u2 u3; omega
      have h2 := join_len hxs h1
      clear u1 u2 u3
      omega
    have ho := Piece.join hxs (by clear u1 u2 u3; omega)
    generalize Txt.join (Str.ofString "") xs = text at ho ⊢
    clear hys hxl hxs
    obtain ⟨found, r0, hbase, hfound, hob⟩ := base_found ho
    (repeat' (first | ((with_reducible show wpAny _ _ (call (Value.ref _) _) _ _ _); (k_extra "w_call")) | ((fail_if_success (with_reducible show wpAny _ _ (eval (PySem.Expr.List _ _) _) _ _ _)); (fail_if_success (with_reducible show wpAny _ _ (call (Value.ref _) _) _ _ _)); ((first | ((((with_reducible show wpAny _ _ (compareOp CmpOp.NotEq (Value.ref _) (Value.ref _)) _ _ _); k_dflt (refine tup_ne (by k_asm) (by k_mem) (by k_mem) (by (first | assumption | exact IsBase.ok (by assumption))) (by ke_room) ?_); (try dsimp only); (try k_fold)))) | ((((with_reducible show wpAny _ _ (compareOp CmpOp.Eq (Value.ref _) (Value.ref _)) _ _ _); k_dflt (refine tup_eq (by k_asm) (by k_mem) (by k_mem) (by (first | assumption | exact IsBase.ok (by assumption))) (by ke_room) ?_); (try dsimp only); (try k_fold)))) | ((((with_reducible show wpAny _ _ (subscriptTail _ _ (Value.ref _) (Value.int _ _)) _ _ _); k_dflt (refine pick_text IsBase (by is_list) (bases7 _ _ _ _ _ _ _) (by with_reducible assumption) (by assumption) (Int.lt_of_le_of_lt (Int.le_of_lt (by with_reducible assumption)) (by decide)) ?_); intro x9 t9 g9; (try dsimp only); (try k_fold)))) | (k_unfold; (try dsimp only)) | walk1 | (dsimp only; walk1))))))
    (rename Fr _ _ _ _ => F5)
    (rename News _ _ _ _ => N5)
    have N6 := drop_pre K3 N5 (by intro p hp; repeat (first | exact hp | apply List.mem_cons_of_mem))
    repeat ((rename _ < _ ∧ _ => zz); clear zz)
    clear N5
    (repeat' (first | ((with_reducible show wpAny _ _ (call (Value.ref _) _) _ _ _); (k_extra "w_call")) | ((fail_if_success ((first | (with_reducible show LCg.CompEnd _ _ _ _ _ _ _ _ _ _ _ _ _ _) | (with_reducible show wpAny _ _ (exec (Stmt.Assign _ (PySem.Expr.ListComp _ _ _ _) _) _) _ _ _) | (with_reducible show LCg.CompSrc _ _ _ _ _ _ _ _ _ _ _ _ _ _) | (with_reducible show wpAny _ _ (eval (PySem.Expr.ListComp _ _ _ _) _) _ _ _) | (with_reducible show wpAny _ _ (exec (Stmt.For _ _ _ _ _) _) _ _ _) | (with_reducible show wpAny _ _ (pyIter _) _ _ _) | (with_reducible show wpAny _ _ (call (Value.builtin "str.join") _) _ _ _)))); (fail_if_success (with_reducible show wpAny _ _ (call (Value.ref _) _) _ _ _)); ((first | ((((with_reducible show wpAny _ _ (compareOp CmpOp.NotEq (Value.ref _) (Value.ref _)) _ _ _); k_dflt (refine tup_ne (by k_asm) (by k_mem) (by k_mem) (by (first | assumption | exact IsBase.ok (by assumption))) (by ke_room) ?_); (try dsimp only); (try k_fold)))) | ((((with_reducible show wpAny _ _ (compareOp CmpOp.Eq (Value.ref _) (Value.ref _)) _ _ _); k_dflt (refine tup_eq (by k_asm) (by k_mem) (by k_mem) (by (first | assumption | exact IsBase.ok (by assumption))) (by ke_room) ?_); (try dsimp only); (try k_fold)))) | ((((with_reducible show wpAny _ _ (subscriptTail _ _ (Value.ref _) (Value.int _ _)) _ _ _); k_dflt (refine pick_text IsBase (by is_list) (bases7 _ _ _ _ _ _ _) (by with_reducible assumption) (by assumption) (Int.lt_of_le_of_lt (Int.le_of_lt (by with_reducible assumption)) (by decide)) ?_); intro x9 t9 g9; (try dsimp only); (try k_fold)))) | (k_unfold; (try dsimp only)) | walk1 | (dsimp only; walk1))))))
    k_steps)
end Mine
end

open PySem PySem.W PyProof.Rows
set_option maxRecDepth 100000 in
set_option maxHeartbeats 8000000 in
theorem PySem.Challenge.cw_no0349_01_holds : PySem.Challenge.rw_no0349_01.Holds := by
  exact Mine.fin
