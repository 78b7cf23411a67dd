import PyProof.Rows.All
import Wide.All
import OpenK.AllK
import Wide.FinOn
import PySem.Challenge.RW_xm0209_01
open PySem PySem.W PyProof.Rows PySem.Calls PySem.Spec
set_option Elab.async false
set_option linter.unusedVariables false
set_option maxRecDepth 100000
set_option compiler.extract_closed false
set_option maxHeartbeats 8000000
namespace Mine
theorem once (n : Nat) (_ : OpenRow.Holds { OpenLaw.row PySem.Challenge.rw_xm0209_01 with writes := true, records := [("x", [])] }) : n + 0 = n := rfl
/-- leaves the constants frag.heap_1 (the written part of the heap) and frag.view_1 behind: the discharger's run of the head ends early, by the row's `writes` -/
theorem frag : (5 : Nat) + 0 = 5 := by
  simp (disch := km_head) only [once, Nat.add_zero]
theorem lt_tr {a b c : Nat} (h2 : b < c) (h1 : a < b) : a < c := Nat.lt_trans h1 h2
theorem ne_up {a b : Nat} (h : a < b) : b ≠ a := Nat.ne_of_gt h
theorem skip {q r g : Prop} (k : r → g) : q ∧ r → g := fun h => k h.2
theorem tlE {d : Addr} {l : List (Addr × Obj)} (h : AllLt d l) : ∀ p ∈ l, p.1 < d := ktn_ltOf h
theorem tlF {r : Prop} {d : Addr} {l : List (Addr × Obj)} (h : r → AllLt d l) : r → ∀ p ∈ l, p.1 < d := fun k => ktn_ltOf (h k)
theorem tl0 {d : Addr} {l : List (Addr × Obj)} (h : AllLt d l) : ∀ p ∈ l, p.1 < d := ktn_ltOf h
theorem room1 {A : Around} {e : Env} {k n : Nat} (h : A.depth + n < recursionLimit) (hk : (k + 1).ble n = true) : (A.deeper e).depth + k < recursionLimit := by
  have := Nat.le_of_ble_eq_true hk
  rw [depth_deeper]; omega
theorem room0 {A : Around} {k n : Nat} (h : A.depth + n < recursionLimit) (hk : k.ble n = true) : A.depth + k < recursionLimit := by
  have := Nat.le_of_ble_eq_true hk
  omega
theorem unit1 {A : Around} {e : Env} {k n : Nat} (h : A.units + n < cLine) (hk : (k + 3).ble n = true) : (A.deeper e).units + k < cLine := by
  have := Nat.le_of_ble_eq_true hk
  rw [units_deeper]; omega
theorem unit0 {A : Around} {k n : Nat} (h : A.units + n < cLine) (hk : k.ble n = true) : A.units + k < cLine := by
  have := Nat.le_of_ble_eq_true hk
  omega
theorem via {a x d : Nat} {r : Prop} (h : x < d ∧ r) (k : x < d ∧ r → a < d) : a < d := k h
theorem viaA {x d : Nat} {r : Prop} {l : List (Addr × Obj)} (h : x < d ∧ r) (k : x < d ∧ r → ∀ p ∈ l, p.1 < d) : ∀ p ∈ l, p.1 < d := k h
theorem upX {a b c : Nat} (h : a < b) : a < b + c := Nat.lt_of_lt_of_le h (Nat.le_add_right _ _)
theorem us1 {b : Nat} : b < b + 1 := by omega

local macro_rules | `(tactic| walk_at "my pk") => `(tactic| first | (with_reducible exact And.left) | (with_reducible exact tlE) | (with_reducible refine tlF ?_; with_unfolding_all exact id) | (with_reducible refine skip ?_; walk_at "my pk") | (with_reducible exact id))
local macro_rules | `(tactic| walk_at "my lt") => `(tactic| first | assumption | exact tl0 (by assumption) | (with_reducible refine viaA (by assumption) ?_; walk_at "my pk"))
local macro_rules | `(tactic| walk_at "my lt0") => `(tactic| first | assumption | (refine via (by assumption) ?_; walk_at "my pk"))
local macro_rules | `(tactic| walk_at "my us") => `(tactic| first | exact us1 | (refine upX ?_; walk_at "my us"))
local macro_rules | `(tactic| walk_at "my lt1") => `(tactic| with_reducible (refine upX ?_; first | walk_at "my lt0" | walk_at "my lt1"))
local macro_rules | `(tactic| k_ne) => `(tactic| (refine neN ?_; (try dsimp only); with_reducible first | assumption | (apply Nat.ne_of_lt; walk_at "my us") | (apply ne_up; walk_at "my us") | exact Ne.symm (by assumption) | exact Nat.ne_of_lt (by walk_at "my lt0") | exact ne_up (by walk_at "my lt0") | exact ne_up (lt_tr (by assumption) (by walk_at "my lt0")) | exact Nat.ne_of_lt (lt_tr (by assumption) (by walk_at "my lt0")) | exact Nat.ne_of_lt (by walk_at "my lt1") | exact ne_up (by walk_at "my lt1") | exact ne_up (lt_tr (by assumption) (by walk_at "my lt1")) | fail "no chain"))
local macro_rules | `(tactic| ktr_room) => `(tactic| first | exact room0 (by with_reducible assumption) rfl | exact room1 (by with_reducible assumption) rfl)
local macro_rules | `(tactic| ktr_units) => `(tactic| first | exact unit0 (by with_reducible assumption) rfl | exact unit1 (by with_reducible assumption) rfl)
local macro_rules | `(tactic| k_all) => `(tactic| first | assumption | exact fun p hp => Nat.ne_of_lt ((by walk_at "my lt" : ∀ p ∈ _, Prod.fst p < _) p hp))
local macro_rules | `(tactic| k_mem) => `(tactic| first | exact List.Mem.head _ | assumption | (refine' List.Mem.tail _ ?_; k_mem))
local macro_rules | `(tactic| walk_at "my use") => `(tactic| ((case kB => k_asm); (case kF => k_asm); (case kX => k_asm); (case kN => k_asm); (case kT => k_asm); (case kA => first | exact Around.frames_deeper (Below.stack (by assumption)) | exact rfl); (case kf => exact rfl); (case kk => exact rfl); (case kh => first | assumption | exact rfl); (case kd => ktr_room); (case ku => ktr_units)))
local macro_rules | `(tactic| k_lt $h:ident) => `(tactic| (replace $h := allLt_of $h; dsimp only [AllLt] at $h:ident))

section
theorem off_Base : True := by
  w_top off
  trivial
abbrev PR : Program := PySem.Challenge.rw_xm0209_01.row.prog
theorem getD0 (a b : Int) : [a, b].getD (Int.toNat 0) 0 = a := rfl
theorem getD1 (a b : Int) : [a, b].getD (Int.toNat 1) 0 = b := rfl
theorem fmodA (a : Int) : a.fmod 2147483647 = a % 2147483647 := Int.fmod_eq_emod_of_nonneg a (by decide)
theorem fmodB (a : Int) : a.fmod 2147483629 = a % 2147483629 := Int.fmod_eq_emod_of_nonneg a (by decide)
theorem item_eq {x : Str} {k : Nat} (hk : k < x.cps.size) : Txt.item x (k : Int) = ⟨#[x.cps[k]]⟩ := by
  have z : Txt.charAt x (k : Int) = some x.cps[k] := by
    have hn : ¬ (k : Int) < 0 := by omega
    have h0 : (0 : Int) ≤ k := by omega
    have hk2 : (k : Int) < (x.cps.size : Int) := by omega
    unfold Txt.charAt seqIndex? Str.length
    simp only [hn, if_false, h0, hk2, decide_true, Bool.and_self, if_true, Option.bind_some, Int.toNat_natCast]
    exact Array.getElem?_eq_getElem hk
  unfold Txt.item
  rw [z]; rfl
theorem bind_again (m : Str → Option Value) (x : Str) (v v' : Option Value) : (fun y => if y = x then v' else if y = x then v else m y) = fun y => if y = x then v' else m y := by
  funext y; by_cases h : y = x <;> simp [h]
abbrev tup (vs : List Value) : Obj := { cls := .type "tuple", data := .seq vs.toArray }

end
section
theorem off_Strs : True := by
  w_top off
  trivial
/-- a text by the list of its signs -/
abbrev S (l : List Nat) : Str := ⟨l.toArray⟩
theorem S_eq (x : Str) : S x.cps.toList = x := by cases x; rfl
theorem S_len (l : List Nat) : (S l).length = l.length := by simp [Str.length]
theorem S_app (a b : List Nat) : S a ++ S b = S (a ++ b) := by
  apply Str.ext'; rw [Str.cps_append]; simp
theorem S_inj {a b : List Nat} : S a = S b ↔ a = b := by
  constructor
  · intro h; have := congrArg (fun x : Str => x.cps.toList) h; simpa using this
  · rintro rfl; rfl
theorem S_beq (a b : List Nat) : (S a == S b) = decide (a = b) := by
  rw [Bool.eq_iff_iff, beq_iff_eq, S_inj, decide_eq_true_eq]
theorem S_bne (a b : List Nat) : (S a != S b) = !decide (a = b) := by
  unfold bne; rw [S_beq]
theorem slice_nat (l : List Nat) (i j : Nat) : Txt.slice (S l) (some (i : Int)) (some (j : Int)) = S ((l.drop i).take (j - i)) := by
  have hn : (S l).length = l.length := S_len l
  have e : Builtin.Str.strSliceIndices (some (i : Int)) (some (j : Int)) 1 (S l).length = Builtin.Str.strSliceIndices (some ((min i l.length : Nat) : Int)) (some ((min j l.length : Nat) : Int)) 1 (S l).length := by
    rw [hn]
    unfold Builtin.Str.strSliceIndices
    have a1 : ¬ (i : Int) < 0 := by omega
    have a2 : ¬ (j : Int) < 0 := by omega
    have a3 : ¬ ((min i l.length : Nat) : Int) < 0 := by omega
    have a4 : ¬ ((min j l.length : Nat) : Int) < 0 := by omega
    simp only [a1, a2, a3, a4, if_false, show ((1 : Int) > 0) = True by simp, if_true]
    congr 1 <;> omega
  have e2 : Txt.slice (S l) (some (i : Int)) (some (j : Int)) = StrLaws.sliceText (S l) (some ((min i l.length : Nat) : Int)) (some ((min j l.length : Nat) : Int)) := by
    unfold Txt.slice StrLaws.sliceText
    rw [e]
  rw [e2]
  by_cases hle : min i l.length ≤ min j l.length
  · rw [StrLaws.sliceText_nat _ hle (by rw [hn]; omega)]
    show S (((l.drop (min i l.length)).take (min j l.length - min i l.length))) = _
    rw [S_inj]
    by_cases hi : i ≤ l.length
    · rw [Nat.min_eq_left hi]
      by_cases hj : j ≤ l.length
      · rw [Nat.min_eq_left hj]
      · rw [Nat.min_eq_right (by omega), List.take_of_length_le (by simp), List.take_of_length_le (by simp; omega)]
    · rw [List.drop_eq_nil_of_le (show l.length ≤ min i l.length by omega), List.drop_eq_nil_of_le (show l.length ≤ i by omega)]
      simp
  · have hr : Builtin.Str.strSliceIndices (some ((min i l.length : Nat) : Int)) (some ((min j l.length : Nat) : Int)) 1 (S l).length = [] := by
      rw [hn]
      unfold Builtin.Str.strSliceIndices sliceRange
      have a3 : ¬ ((min i l.length : Nat) : Int) < 0 := by omega
      have a4 : ¬ ((min j l.length : Nat) : Int) < 0 := by omega
      simp only [a3, a4, if_false, show ((1 : Int) > 0) = True by simp, if_true]
      rw [if_neg (by omega)]
      rfl
    unfold StrLaws.sliceText
    rw [hr, hn]
    have hji : j - i = 0 := by omega
    rw [hji]
    have hl : 0 < l.length := by omega
    have hf : (0 == l.length) = false := by
      rw [beq_eq_false_iff_ne]; omega
    simp only [List.length_nil, hf, Bool.and_false, Bool.false_eq_true, if_false, List.filterMap_nil, List.take_zero]
theorem slice_to (l : List Nat) (j : Nat) : Txt.slice (S l) none (some (j : Int)) = S (l.take j) := by
  have e : Txt.slice (S l) none (some (j : Int)) = Txt.slice (S l) (some ((0 : Nat) : Int)) (some (j : Int)) := by
    unfold Txt.slice; rw [StrLaws.sliceIdx_none_lo]; rfl
  rw [e, slice_nat]; simp
theorem slice_from (l : List Nat) (i : Nat) : Txt.slice (S l) (some (i : Int)) none = S (l.drop i) := by
  have e : Txt.slice (S l) (some (i : Int)) none = Txt.slice (S l) (some (i : Int)) (some ((l.length : Nat) : Int)) := by
    unfold Txt.slice; rw [StrLaws.sliceIdx_none_hi, S_len]
  rw [e, slice_nat, List.take_of_length_le (by simp)]
theorem S_item {l : List Nat} {k : Nat} (hk : k < l.length) : Txt.item (S l) (k : Int) = S [l[k]] := by
  rw [item_eq (x := S l) (by simpa using hk)]
  simp
theorem S_last {l : List Nat} (h : l ≠ []) : Txt.item (S l) (-1) = S [l.getLast h] := by
  have hp : 0 < l.length := List.length_pos_iff.mpr h
  unfold Txt.item Txt.charAt
  rw [S_len, StrLaws.seqIndex_neg (by omega) (by omega)]
  have e : ((-1 : Int) + l.length).toNat = l.length - 1 := by omega
  rw [e]
  simp only [Option.bind_some, List.getElem?_toArray]
  rw [List.getElem?_eq_getElem (by omega), List.getLast_eq_getElem]
  rfl
theorem in_one (l : List Nat) (c : Nat) : (!(Builtin.Str.occurrences (S l) (S [c]) 0 (S l).length 1).isEmpty) = decide (c ∈ l) := StrLaws.found_one (S l) c
theorem signIn_eq (l : List Nat) (c : Nat) : (!(Builtin.Str.occurrences (S l) ⟨#[c]⟩ 0 (S l).length 1).isEmpty) = decide (c ∈ l) := StrLaws.found_one (S l) c
/-- two low lines side by side -/
noncomputable def twoLow : List Nat → Bool
  | 95 :: 95 :: _ => true
  | _ :: r => twoLow r
  | [] => false
theorem twoLow_iff (l : List Nat) : twoLow l = true ↔ ∃ i, (l.drop i).take 2 = [95, 95] := by
  induction l with
  | nil => simp [twoLow]
  | cons c r ih =>
    constructor
    · intro h
      unfold twoLow at h
      split at h
      · rename_i he; exact ⟨0, by rw [List.drop_zero, he]; rfl⟩
      · rename_i he
        injection he with e1 e2
        subst e2
        obtain ⟨i, hi⟩ := ih.mp h
        exact ⟨i + 1, by rw [List.drop_succ_cons]; exact hi⟩
      · cases h
    · rintro ⟨i, hi⟩
      cases i with
      | zero =>
        rw [List.drop_zero] at hi
        cases r with
        | nil => cases hi
        | cons d r =>
          injection hi with e1 e2
          injection e2 with e3 e4
          subst e1 e3
          rfl
      | succ i =>
        rw [List.drop_succ_cons] at hi
        have := ih.mpr ⟨i, hi⟩
        unfold twoLow
        split
        · rfl
        · rename_i he; injection he with e1 e2; subst e2; exact this
        · rename_i he; cases he
theorem in_two (l : List Nat) : (!(Builtin.Str.occurrences (S l) (S [95, 95]) 0 (S l).length 1).isEmpty) = twoLow l := by
  rw [Bool.eq_iff_iff, StrLaws.found_iff, twoLow_iff]
  constructor
  · rintro ⟨i, _, h⟩
    rw [StrLaws.subAt_eq] at h
    have h2 : (S [95, 95]).length = 2 := rfl
    rw [h2] at h
    exact ⟨i, by simpa using h⟩
  · rintro ⟨i, h⟩
    refine ⟨i, ?_, ?_⟩
    · have := congrArg List.length h
      rw [List.length_take, List.length_drop] at this
      simp only [List.length_cons, List.length_nil] at this
      rw [S_len, S_len]
      simp only [List.length_cons, List.length_nil]
      omega
    · rw [StrLaws.subAt_eq]
      have h2 : (S [95, 95]).length = 2 := rfl
      rw [h2]
      simpa using h
theorem filter_join (c : Nat) : ∀ ps : List Str, (∀ p ∈ ps, c ∉ p.cps.toList) → (Str.join ⟨#[c]⟩ ps).cps.toList.filter (· != c) = (Str.join Str.empty ps).cps.toList
  | [], _ => rfl
  | [p], h => by
    show p.cps.toList.filter (· != c) = p.cps.toList
    refine List.filter_eq_self.mpr fun a ha => ?_
    have hne : a ≠ c := fun e => h p (.head _) (e ▸ ha)
    simpa using hne
  | p :: q :: r, h => by
    have ih := filter_join c (q :: r) fun y hy => h y (.tail _ hy)
    show ((p ++ ⟨#[c]⟩ ++ Str.join ⟨#[c]⟩ (q :: r)).cps.toList).filter (· != c) = (p ++ Str.empty ++ Str.join Str.empty (q :: r)).cps.toList
    rw [Str.cps_append, Str.cps_append, Str.cps_append, Str.cps_append, Array.toList_append, Array.toList_append, Array.toList_append, Array.toList_append, List.filter_append, List.filter_append, ih]
    have e1 : p.cps.toList.filter (· != c) = p.cps.toList := by
      refine List.filter_eq_self.mpr fun a ha => ?_
      have hne : a ≠ c := fun e => h p (.head _) (e ▸ ha)
      simpa using hne
    have e2 : ([c] : List Nat).filter (· != c) = [] := by simp
    rw [e1, e2]
    rfl
theorem replace_low (l : List Nat) : Txt.replace (S l) (S [95]) (S []) = S (l.filter (· != 95)) := by
  have h := filter_join 95 (Txt.split (S l) ⟨#[95]⟩) (StrLaws.split_free (S l) 95)
  rw [StrLaws.join_split] at h
  rw [show Txt.replace (S l) (S [95]) (S []) = Str.join Str.empty (Txt.split (S l) ⟨#[95]⟩) from StrLaws.replace_one (S l) Str.empty 95]
  rw [← S_eq (Str.join Str.empty _), ← h]
def smallOf (c : Nat) : Nat := if 65 ≤ c ∧ c ≤ 90 then c + 32 else c
theorem lowerOf_ascii : ∀ c < 128, (c == 0x3A3) = false ∧ Unicode.lowerOf c = [smallOf c] := by decide +kernel
theorem lower_S {l : List Nat} (h : ∀ c ∈ l, c < 128) : Txt.lower (S l) = S (l.map smallOf) := by
  unfold Txt.lower placed
  have e : ((S l).cps.mapIdx fun i _ => (Unicode.lowerAt (S l).cps i).toArray) = (l.map fun c => #[smallOf c]).toArray := by
    apply Array.ext
    · simp
    · intro i h1 h2
      have hi : i < l.length := by simpa using h1
      have hc := lowerOf_ascii (l[i]) (h _ (List.getElem_mem hi))
      simp only [Array.getElem_mapIdx, List.getElem_toArray, List.getElem_map]
      unfold Unicode.lowerAt
      simp only [List.getElem?_toArray, List.getElem?_eq_getElem hi, hc.1, hc.2, Bool.false_and, Bool.false_eq_true, if_false]
  rw [e]
  apply Str.ext'
  show (l.map fun c => #[smallOf c]).toArray.flatten = (l.map smallOf).toArray
  apply Array.toList_inj.mp
  rw [Array.toList_flatten]
  simp only [List.map_map, Function.comp_def]
  clear e h
  induction l with
  | nil => rfl
  | cons c r ih => simpa using ih

end
section
theorem off_SlStr : True := by
  w_top off
  trivial
section
variable {prog : Program} {w : World} {A : Around} {E : Value → Shared → Prop} {s : Shared} {value slice : PySem.Expr} {l : List Nat} {t : Tok} {h₀ : Heap} {L : Addr} {m : Str → Option Value} {Q : Value → Shared → Prop} {news : List (Addr × Obj)}
theorem S_fits (hl : l.length ≤ 10000) : (S l).length ≤ sizeLine := by rw [S_len]; exact Nat.le_trans hl (by decide)
theorem slS_ns {j : Nat} {vj : Int} {uj : Tok} (hF : Fr h₀ L s.heap m) (hN : News h₀ L s.heap news) (hl : l.length ≤ 10000) (ej : vj = (j : Int))
    (h : ∀ h' t' k, Fr h₀ L h' m → News h₀ L h' news → Q (.str (S (l.take j)) t') { s with heap := h', toks := k })
    (hs : subscripted slice false (.str (S l) t) (.ref s.heap.objs.size) = operate [.ref s.heap.objs.size, .str (S l) t] (getItem (.str (S l) t) (.ref s.heap.objs.size)) := by with_unfolding_all rfl)
    (ht : ∀ r, letTemporaryGo value (.str (S l) t) r = pure () := by intro _; with_unfolding_all rfl) :
    wpAny (model prog w) A (subscriptTail value slice (.str (S l) t) (.ref s.heap.objs.size)) Q E { s with heap := s.heap.push { cls := .type "slice", data := .fields #[.none, .int vj uj, .none] } } := by
  subst ej
  refine slice_strN_ns hF hN (fun h' t' k f n => ?_) hs ht (S_fits hl)
  rw [slice_to]
  exact h h' t' k f n
theorem slS_sn {i : Nat} {vi : Int} {ui : Tok} (hF : Fr h₀ L s.heap m) (hN : News h₀ L s.heap news) (hl : l.length ≤ 10000) (ei : vi = (i : Int))
    (h : ∀ h' t' k, Fr h₀ L h' m → News h₀ L h' news → Q (.str (S (l.drop i)) t') { s with heap := h', toks := k })
    (hs : subscripted slice false (.str (S l) t) (.ref s.heap.objs.size) = operate [.ref s.heap.objs.size, .str (S l) t] (getItem (.str (S l) t) (.ref s.heap.objs.size)) := by with_unfolding_all rfl)
    (ht : ∀ r, letTemporaryGo value (.str (S l) t) r = pure () := by intro _; with_unfolding_all rfl) :
    wpAny (model prog w) A (subscriptTail value slice (.str (S l) t) (.ref s.heap.objs.size)) Q E { s with heap := s.heap.push { cls := .type "slice", data := .fields #[.int vi ui, .none, .none] } } := by
  subst ei
  refine slice_strN_sn hF hN (fun h' t' k f n => ?_) hs ht (S_fits hl)
  rw [slice_from]
  exact h h' t' k f n
theorem slS_ss {i j : Nat} {vi vj : Int} {ui uj : Tok} (hF : Fr h₀ L s.heap m) (hN : News h₀ L s.heap news) (hl : l.length ≤ 10000) (ei : vi = (i : Int)) (ej : vj = (j : Int))
    (h : ∀ h' t' k, Fr h₀ L h' m → News h₀ L h' news → Q (.str (S ((l.drop i).take (j - i))) t') { s with heap := h', toks := k })
    (hs : subscripted slice false (.str (S l) t) (.ref s.heap.objs.size) = operate [.ref s.heap.objs.size, .str (S l) t] (getItem (.str (S l) t) (.ref s.heap.objs.size)) := by with_unfolding_all rfl)
    (ht : ∀ r, letTemporaryGo value (.str (S l) t) r = pure () := by intro _; with_unfolding_all rfl) :
    wpAny (model prog w) A (subscriptTail value slice (.str (S l) t) (.ref s.heap.objs.size)) Q E { s with heap := s.heap.push { cls := .type "slice", data := .fields #[.int vi ui, .int vj uj, .none] } } := by
  subst ei ej
  refine slice_strN_ss hF hN (fun h' t' k f n => ?_) hs ht (S_fits hl)
  rw [slice_nat]
  exact h h' t' k f n
end
theorem lower_rule {prog : Program} {w : World} {A : Around} {E : Value → Shared → Prop} {s : Shared} {l : List Nat} {t : Tok} {Q : Value → Shared → Prop} (h : ∀ c ∈ l, c < 128) (hl : l.length ≤ 10000)
    (hq : ∀ t' k, Q (.str (S (l.map smallOf)) t') { s with toks := k }) : wpAny (model prog w) A (call (.builtin "str.lower") [.str (S l) t]) Q E s := by
  refine KXw.lower (lower_S h) ?_ hq
  rw [lower_S h]
  unfold Builtin.Str.tooLong
  rw [S_len, List.length_map]
  exact decide_eq_false (Nat.not_lt.mpr (Nat.le_trans hl (by decide)))
section
variable {prog : Program} {w : World} {A : Around} {E : Value → Shared → Prop} {s : Shared} {value slice : PySem.Expr} {l : List Nat} {t u : Tok} {Q : Value → Shared → Prop}
theorem len_S (hl : l.length ≤ 10000) (h : ∀ t' k, Q (.int (l.length : Nat) t') { s with toks := k }) : wpAny (model prog w) A (call (.builtin "len") [.str (S l) t]) Q E s := by
  refine SBL.len (by rw [S_len]; omega) ?_
  rw [S_len]
  exact h _ _
theorem item_S {i : Nat} {vi : Int} (hl : l.length ≤ 10000) (ei : vi = (i : Int)) (hi : i < l.length)
    (h : ∀ t' k, Q (.str (S [l.getD i 0]) t') { s with toks := k })
    (hs : subscripted slice false (.str (S l) t) (.int vi u) = operate [.str (S l) t, .int vi u] (getItem (.str (S l) t) (.int vi u)) := by with_unfolding_all rfl)
    (ht : ∀ r, letTemporaryGo value (.str (S l) t) r = pure () := by intro _; with_unfolding_all rfl) :
    wpAny (model prog w) A (subscriptTail value slice (.str (S l) t) (.int vi u)) Q E s := by
  subst ei
  refine item_str (fitsSsize_of (N := 9223372036854775808) (by omega) (by omega) (Int.le_refl _)) (by rw [S_len]; omega) (by rw [S_len]; omega) (fun _ => ?_) hs ht
  rw [S_item hi]
  have e : l[i] = l.getD i 0 := by simp [hi]
  rw [e]
  exact h _ _
theorem item_S_last (hl : l.length ≤ 10000) (hi : l ≠ [])
    (h : ∀ t' k, Q (.str (S [l.getLast hi]) t') { s with toks := k })
    (hs : subscripted slice false (.str (S l) t) (.int (-1) u) = operate [.str (S l) t, .int (-1) u] (getItem (.str (S l) t) (.int (-1) u)) := by with_unfolding_all rfl)
    (ht : ∀ r, letTemporaryGo value (.str (S l) t) r = pure () := by intro _; with_unfolding_all rfl) :
    wpAny (model prog w) A (subscriptTail value slice (.str (S l) t) (.int (-1) u)) Q E s := by
  have hp : 0 < l.length := List.length_pos_iff.mpr hi
  refine item_str (by decide) (by rw [S_len]; omega) (by rw [S_len]; omega) (fun _ => ?_) hs ht
  rw [S_last hi]
  exact h _ _
end

end
local macro_rules | `(tactic| walk_at "subscriptTail Name Slice str ref") => `(tactic| (k_here; (with_reducible show wpAny _ _ (subscriptTail _ (Expr.Slice none (some _) none _) (Value.str (S _) _) _) _ _ _); k_dflt (refine' slS_ns (s := ⟨_, _, _, _, _⟩) ?kF ?kN ?kl ?ke ?_; (case kF => k_asm); (case kN => k_asm); (case ke => exact rfl); (case kl => first | omega | (simp only [List.length_take, List.length_drop] at *; omega)); k_whole); intro _ _ _ _ _))
local macro_rules | `(tactic| walk_at "subscriptTail Name Slice str ref") => `(tactic| (k_here; (with_reducible show wpAny _ _ (subscriptTail _ (Expr.Slice (some _) none none _) (Value.str (S _) _) _) _ _ _); k_dflt (refine' slS_sn (s := ⟨_, _, _, _, _⟩) ?kF ?kN ?kl ?ke ?_; (case kF => k_asm); (case kN => k_asm); (case ke => exact rfl); (case kl => first | omega | (simp only [List.length_take, List.length_drop] at *; omega)); k_whole); intro _ _ _ _ _))
local macro_rules | `(tactic| walk_at "subscriptTail Name Slice str ref") => `(tactic| (k_here; (with_reducible show wpAny _ _ (subscriptTail _ (Expr.Slice (some _) (some _) none _) (Value.str (S _) _) _) _ _ _); k_dflt (refine' slS_ss (s := ⟨_, _, _, _, _⟩) ?kF ?kN ?kl ?ke ?kf ?_; (case kF => k_asm); (case kN => k_asm); (case ke => exact rfl); (case kf => exact rfl); (case kl => first | omega | (simp only [List.length_take, List.length_drop] at *; omega)); k_whole); intro _ _ _ _ _))
local macro_rules | `(tactic| walk_at "call builtin:str.lower cons nil") => `(tactic| (k_here; k_dflt (refine' lower_rule ?kh ?kl ?_; (case kh => first | assumption | exact fun c hc => (by assumption : ∀ c ∈ _, c < 128) c (List.mem_of_mem_take hc)); (case kl => first | omega | (simp only [List.length_take, List.length_drop] at *; omega)); k_whole); intro _ _))
local macro_rules | `(tactic| walk_at "call builtin:len") => `(tactic| (k_here; (with_reducible show wpAny _ _ (call (Value.builtin "len") [Value.str (S _) _]) _ _ _); k_dflt (refine' len_S ?kl ?_; (case kl => first | omega | (simp only [List.length_take, List.length_drop] at *; omega)); k_whole); intro _ _))
local macro_rules | `(tactic| walk_at "subscriptTail Name Constant str int") => `(tactic| (k_here; (with_reducible show wpAny _ _ (subscriptTail _ _ (Value.str (S _) _) _) _ _ _); k_dflt (refine' item_S ?kl ?ke ?ki ?_; (case ke => exact rfl); (case kl => first | omega | (simp only [List.length_take, List.length_drop] at *; omega)); (case ki => first | omega | (show (0 : Nat) < _; omega) | (show (1 : Nat) < _; omega) | (exact List.length_pos_iff.mpr (by assumption))); k_whole); intro _ _))

local macro_rules | `(tactic| walk_at "assign Tuple") => `(tactic| (k_here; (with_reducible show wpAny _ _ (assign (Expr.Tuple _ _ _) _ (Value.ref _)) _ _ _); k_dflt (refine' unpackN_ ?F ?N ?T ?k1 ?k2 ?k3 ?_; (case F => k_asm); (case N => k_asm); (case T => first | assumption | (refine News.isTup (by k_asm) (by k_mem))); (case k1 => assumption); (case k2 => exact rfl); (case k3 => exact rfl)); intro h' F' N'; (try k_sweep)))

section
theorem off_Take : True := by
  w_top off
  trivial
/-- the object of the draws: its two cells -/
abbrev srcO (x y : Int) (tx ty : Tok) (n : Nat) : Obj := listOf #[.int x tx, .int y ty] n
structure SrcOk (x y : Int) : Prop where
  x0 : 0 ≤ x
  xb : x.natAbs.log2 < 2 ^ 22
  y0 : 0 ≤ y
  y1 : y < 2147483647
theorem srcOk_div {x y top : Int} (h : SrcOk x y) (ht : 0 < top) : SrcOk (x.fdiv top) y := by
  obtain ⟨a, b, c, d⟩ := h
  rw [Int.fdiv_eq_ediv_of_nonneg _ (Int.le_of_lt ht)]
  refine ⟨Int.ediv_nonneg a (Int.le_of_lt ht), ?_, c, d⟩
  have e : (x / top).natAbs ≤ x.natAbs := by
    have h1 := Int.ediv_le_self top a
    have h2 := Int.ediv_nonneg a (Int.le_of_lt ht)
    omega
  by_cases hz : (x / top).natAbs = 0
  · rw [hz]; decide
  · exact Nat.lt_of_le_of_lt ((Nat.le_log2 (by omega)).mpr (Nat.le_trans (Nat.log2_self_le hz) e)) b
theorem srcOk_mod {x y : Int} (h : SrcOk x y) (z : Int) : SrcOk x (z.fmod 2147483647) := by
  obtain ⟨a, b, c, d⟩ := h
  rw [fmodA]
  exact ⟨a, b, by omega, by omega⟩
section
local macro_rules | `(tactic| mul_fits) => `(tactic| (simp only [getD0, getD1, fmodA, fmodB]; exact IntMulOk.of_left (intBits_le_64 (by omega) (by omega))))
local macro_rules | `(tactic| k_all) => `(tactic| assumption)
theorem take_ok {w : World} {p : Program} {loose : List Str} {mean : ExcName → Option Value} {mg mb : Str → Option Value} {A A₀ : Around} {env : Env} {outer : List Env} {base h₀ : Heap} {L : Addr} {m : Str → Option Value} {s : Shared} {Q E : Value → Shared → Prop} {rest : List (Addr × Obj)} {src : Addr} {x y : Int} {tx ty : Tok} {n : Nat} {top : Int} {tt : Tok}
   (B : Below A₀ base outer h₀) (F : Fr h₀ L s.heap m) (X : (Mine.frag.heap_1 w.params).In h₀) (N : News h₀ L s.heap ((src, srcO x y tx ty n) :: rest)) (T : Top p loose mean mg mb h₀) (hA : A.frames = some (env :: outer)) (hf : env.frame = some L) (hke : env.scope.kind = .function) (hh : A.handled = none) (hd : A.depth + 1 < recursionLimit) (hu : A.units + 8 < cLine) (hr : ∀ p ∈ rest, p.1 ≠ src)
   (ho : SrcOk x y) (ht1 : 0 < top) (ht2 : top ≤ 1000)
   (hret : ∀ r x' y' tr tx' ty' n' h' tk', 0 ≤ r → r < top → SrcOk x' y' → Fr h₀ L h' m → News h₀ L h' ((src, srcO x' y' tx' ty' n') :: rest) → Q (.int r tr) {s with heap := h', toks := tk'}) :
   wpAny (model PR w) A (call (.ref 120) [.ref src, .int top tt]) Q E s := by
  obtain ⟨hx, hxb, hy1, hy2⟩ := ho
  refine wpAny_call ?_
  k_dflt (refine' code_def ?k1 ?k2 ?k3 ?k4 ?k5 hA hf hke ?k6 ?k7 ?k8 ?k9 ?kB ?_ ?c2 ?c3 ?c4 ?c5; (case k1 => k_asm); (case k2 => k_asm); (case k3 => k_asm); (case k4 => k_asm); (case k5 => k_asm); (case k6 => k_is); (case k7 => k_is); (case k8 => ktr_room); (case k9 => exact BindsTo.of_eq rfl); (case c5 => decide); (case kB => exact locs rfl); (case c2 => exact rfl); (case c3 => exact rfl); (case c4 => exact rfl); k_whole; intro g' L' h' FG' F' N' B' X' T'; (try dsimp only); (try k_fold))
  k_steps
  · exact hret _ _ _ _ _ _ _ _ _ (Int.fmod_nonneg_of_pos _ ht1) (Int.fmod_lt_of_pos _ ht1) (srcOk_div ⟨hx, hxb, hy1, hy2⟩ ht1) (by assumption) (by assumption)
  · exact hret _ _ _ _ _ _ _ _ _ (Int.fmod_nonneg_of_pos _ ht1) (Int.fmod_lt_of_pos _ ht1) (srcOk_mod ⟨hx, hxb, hy1, hy2⟩ _) (by assumption) (by assumption)
end
theorem upd_back {d : Addr} {o o' : Obj} {l : List (Addr × Obj)} {h₀ h : Heap} {L : Addr} {pre post : List (Addr × Obj)} (hl : l = pre ++ (d, o) :: post) (h1 : ∀ p ∈ pre, p.1 ≠ d) (h2 : ∀ p ∈ post, p.1 ≠ d)
    (N : News h₀ L h ((d, o') :: (pre ++ post))) : ∀ l', Upd d o o' l l' → News h₀ L h l' := by
  intro l' U
  obtain ⟨pr, po, e1, rfl, u1, u2⟩ := U.split
  intro q hq
  have hq' : q = (d, o') ∨ (q ∈ l ∧ q.1 ≠ d) := by
    rcases List.mem_append.mp hq with h | h
    · exact .inr ⟨e1 ▸ List.mem_append_left _ h, u1 q h⟩
    · rcases List.mem_cons.mp h with h | h
      · exact .inl h
      · exact .inr ⟨e1 ▸ List.mem_append_right _ (.tail _ h), u2 q h⟩
  rcases hq' with rfl | ⟨h, hne⟩
  · exact N _ (.head _)
  · subst hl
    refine N _ (.tail _ (List.mem_append.mpr ?_))
    rcases List.mem_append.mp h with h | h
    · exact .inl h
    · rcases List.mem_cons.mp h with h | h
      · exact absurd (congrArg Prod.fst h) hne
      · exact .inr h
theorem news_front {d : Addr} {o : Obj} {h₀ h : Heap} {L : Addr} {pre post : List (Addr × Obj)} (N : News h₀ L h (pre ++ (d, o) :: post)) : News h₀ L h ((d, o) :: (pre ++ post)) := by
  intro q hq
  refine N q ?_
  rcases List.mem_cons.mp hq with rfl | hq
  · exact List.mem_append_right _ (.head _)
  · rcases List.mem_append.mp hq with hq | hq
    · exact List.mem_append_left _ hq
    · exact List.mem_append_right _ (.tail _ hq)
/-- a draw, at a written ledger -/
theorem take_use {w : World} {p : Program} {loose : List Str} {mean : ExcName → Option Value} {mg mb : Str → Option Value} {A A₀ : Around} {env : Env} {outer : List Env} {base h₀ : Heap} {L : Addr} {m : Str → Option Value} {s : Shared} {Q E : Value → Shared → Prop} {news : List (Addr × Obj)} {src : Addr} {x y : Int} {tx ty : Tok} {n : Nat} {top : Int} {tt : Tok}
   (B : Below A₀ base outer h₀) (F : Fr h₀ L s.heap m) (X : (Mine.frag.heap_1 w.params).In h₀) (N : News h₀ L s.heap news) (T : Top p loose mean mg mb h₀) (hA : A.frames = some (env :: outer)) (hf : env.frame = some L) (hke : env.scope.kind = .function) (hh : A.handled = none) (hd : A.depth + 1 < recursionLimit) (hu : A.units + 8 < cLine) (U : Upd src (srcO x y tx ty n) (srcO x y tx ty n) news news)
   (ho : SrcOk x y) (ht1 : 0 < top) (ht2 : top ≤ 1000)
   (hret : ∀ r x' y' tr tx' ty' n' h' tk', 0 ≤ r → r < top → SrcOk x' y' → Fr h₀ L h' m → (∀ l', Upd src (srcO x y tx ty n) (srcO x' y' tx' ty' n') news l' → News h₀ L h' l') → Q (.int r tr) {s with heap := h', toks := tk'}) :
   wpAny (model PR w) A (call (.ref 120) [.ref src, .int top tt]) Q E s := by
  obtain ⟨pre, post, e, -, h1, h2⟩ := U.split
  have N1 := N
  rw [e] at N1
  refine take_ok B F X (news_front N1) T hA hf hke hh hd hu (fun p hp => (List.mem_append.mp hp).elim (h1 p) (h2 p)) ho ht1 ht2 ?_
  intro r x' y' tr tx' ty' n' h' tk' hr1 hr2 ho' F' N'
  exact hret r x' y' tr tx' ty' n' h' tk' hr1 hr2 ho' F' (upd_back e h1 h2 N')

end
local macro_rules | `(tactic| walk_at "call ref") => `(tactic| (k_here; (with_reducible show wpAny _ _ (PySem.call (Value.ref 120) _) _ _ _); k_dflt (refine' take_use ?kB ?kF ?kX ?kN ?kT ?kA ?kf ?kk ?kh ?kd ?ku ?e1 ?e2 ?e3 ?e4 ?_; walk_at "my use"; (case e1 => k_upd); (case e2 => assumption); (case e3 => first | decide | omega | (simp only [List.length_cons, List.length_nil, List.size_toArray]; omega)); (case e4 => first | decide | omega | (simp only [List.length_cons, List.length_nil, List.size_toArray]; omega)); k_whole); intro r' x' y' tr' tx' ty' n' h' tk' hr1 hr2 ho' F' NU; (have N' := NU _ (by k_upd)); clear NU; (try k_sweep)))

section
theorem off_One : True := by
  w_top off
  trivial
theorem item_any {prog : Program} {w : World} {A : Around} {E : Value → Shared → Prop} {s : Shared} {value slice : PySem.Expr} {l : Addr} {vs : List Value} {k : Int} {u : Tok} {Q : Value → Shared → Prop}
    (hl : s.heap.IsList l vs.toArray) (h0 : 0 ≤ k) (hk : k < vs.length) (hb : vs.length ≤ 1000) (h : ∀ v, v ∈ vs → Q v s)
    (hs : subscripted slice false (.ref l) (.int k u) = operate [.ref l, .int k u] (getItem (.ref l) (.int k u)) := by with_unfolding_all rfl) :
    wpAny (model prog w) A (subscriptTail value slice (.ref l) (.int k u)) Q E s := by
  have hj : k.toNat < vs.length := by omega
  exact tail_any hl.typeIs slot_list_getitem.lookup (wpAny_getItem_list hl h0 (by omega) (x := vs[k.toNat]) (by simp [hj]) (h _ (List.getElem_mem hj))) hs
theorem item_str_any {prog : Program} {w : World} {A : Around} {E : Value → Shared → Prop} {s : Shared} {value slice : PySem.Expr} {x : Str} {t : Tok} {k : Int} {u : Tok} {Q : Value → Shared → Prop}
    (h0 : 0 ≤ k) (hk : k < x.length) (hb : x.length ≤ 1000) (h : ∀ c t' tk', c ∈ x.cps → Q (.str ⟨#[c]⟩ t') { s with toks := tk' })
    (hs : subscripted slice false (.str x t) (.int k u) = operate [.str x t, .int k u] (getItem (.str x t) (.int k u)) := by with_unfolding_all rfl)
    (ht : ∀ r, letTemporaryGo value (.str x t) r = pure () := by intro _; with_unfolding_all rfl) :
    wpAny (model prog w) A (subscriptTail value slice (.str x t) (.int k u)) Q E s := by
  have hj : k.toNat < x.cps.size := by unfold Str.length at hk; omega
  refine item_str (fitsSsize_of (N := 9223372036854775808) (by omega) (by omega) (Int.le_refl _)) (by omega) hk (fun _ => ?_) hs ht
  have e : Txt.item x k = ⟨#[x.cps[k.toNat]]⟩ := by
    have e1 : k = ((k.toNat : Nat) : Int) := by omega
    have e2 := item_eq (x := x) hj
    rw [← e1] at e2
    exact e2
  rw [e]
  exact h _ _ _ (Array.getElem_mem hj)
theorem one_list {w : World} {p : Program} {loose : List Str} {mean : ExcName → Option Value} {mg mb : Str → Option Value} {A A₀ : Around} {env : Env} {outer : List Env} {base h₀ : Heap} {L : Addr} {m : Str → Option Value} {s : Shared} {Q E : Value → Shared → Prop} {rest : List (Addr × Obj)} {src l : Addr} {x y : Int} {tx ty : Tok} {n c : Nat} {vs : List Value}
   (B : Below A₀ base outer h₀) (F : Fr h₀ L s.heap m) (X : (Mine.frag.heap_1 w.params).In h₀) (N : News h₀ L s.heap ((src, srcO x y tx ty n) :: rest)) (T : Top p loose mean mg mb h₀) (hA : A.frames = some (env :: outer)) (hf : env.frame = some L) (hke : env.scope.kind = .function) (hh : A.handled = none) (hd : A.depth + 2 < recursionLimit) (hu : A.units + 16 < cLine) (hr : ∀ p ∈ rest, p.1 ≠ src)
   (ho : SrcOk x y) (hl : (l, listOf vs.toArray c) ∈ rest) (hv0 : 0 < vs.length) (hv1 : vs.length ≤ 1000)
   (hret : ∀ v x' y' tx' ty' n' h' tk', v ∈ vs → SrcOk x' y' → Fr h₀ L h' m → News h₀ L h' ((src, srcO x' y' tx' ty' n') :: rest) → Q v {s with heap := h', toks := tk'}) :
   wpAny (model PR w) A (call (.ref 127) [.ref src, .ref l]) Q E s := by
  refine wpAny_call ?_
  k_dflt (refine' code_def (binds := [("source", .ref src), ("things", .ref l)]) ?k1 ?k2 ?k3 ?k4 ?k5 hA hf hke ?k6 ?k7 ?k8 ?k9 ?kB ?_ ?c2 ?c3 ?c4 ?c5; (case k1 => k_asm); (case k2 => k_asm); (case k3 => k_asm); (case k4 => k_asm); (case k5 => k_asm); (case k6 => k_is); (case k7 => k_is); (case k8 => ktr_room); (case k9 => exact BindsTo.of_eq rfl); (case c5 => decide); (case kB => exact locs rfl); (case c2 => exact rfl); (case c3 => exact rfl); (case c4 => exact rfl); k_whole; intro g' L' h' FG' F' N' B' X' T'; (try dsimp only); (try k_fold))
  k_steps
  refine len_list (News.isList (by k_asm) (by k_mem)) (by (simp only [List.size_toArray]); omega) ?_
  k_steps
  k_dflt (refine item_any (News.isList (by k_asm) (by k_mem)) (by assumption) (by (try simp only [List.size_toArray] at *); omega) (by omega) ?_)
  intro v hv
  k_steps
  exact hret _ _ _ _ _ _ _ _ (by assumption) (by assumption) (by assumption) (by assumption)
theorem one_str {w : World} {p : Program} {loose : List Str} {mean : ExcName → Option Value} {mg mb : Str → Option Value} {A A₀ : Around} {env : Env} {outer : List Env} {base h₀ : Heap} {L : Addr} {m : Str → Option Value} {s : Shared} {Q E : Value → Shared → Prop} {rest : List (Addr × Obj)} {src : Addr} {x y : Int} {tx ty tt : Tok} {n : Nat} {xs : Str}
   (B : Below A₀ base outer h₀) (F : Fr h₀ L s.heap m) (X : (Mine.frag.heap_1 w.params).In h₀) (N : News h₀ L s.heap ((src, srcO x y tx ty n) :: rest)) (T : Top p loose mean mg mb h₀) (hA : A.frames = some (env :: outer)) (hf : env.frame = some L) (hke : env.scope.kind = .function) (hh : A.handled = none) (hd : A.depth + 2 < recursionLimit) (hu : A.units + 16 < cLine) (hr : ∀ p ∈ rest, p.1 ≠ src)
   (ho : SrcOk x y) (hv0 : 0 < xs.length) (hv1 : xs.length ≤ 1000)
   (hret : ∀ c t' x' y' tx' ty' n' h' tk', c ∈ xs.cps → SrcOk x' y' → Fr h₀ L h' m → News h₀ L h' ((src, srcO x' y' tx' ty' n') :: rest) → Q (.str ⟨#[c]⟩ t') {s with heap := h', toks := tk'}) :
   wpAny (model PR w) A (call (.ref 127) [.ref src, .str xs tt]) Q E s := by
  refine wpAny_call ?_
  k_dflt (refine' code_def (binds := [("source", .ref src), ("things", .str xs tt)]) ?k1 ?k2 ?k3 ?k4 ?k5 hA hf hke ?k6 ?k7 ?k8 ?k9 ?kB ?_ ?c2 ?c3 ?c4 ?c5; (case k1 => k_asm); (case k2 => k_asm); (case k3 => k_asm); (case k4 => k_asm); (case k5 => k_asm); (case k6 => k_is); (case k7 => k_is); (case k8 => ktr_room); (case k9 => exact BindsTo.of_eq rfl); (case c5 => decide); (case kB => exact locs rfl); (case c2 => exact rfl); (case c3 => exact rfl); (case c4 => exact rfl); k_whole; intro g' L' h' FG' F' N' B' X' T'; (try dsimp only); (try k_fold))
  k_steps
  k_dflt (refine item_str_any (by assumption) (by omega) (by omega) ?_)
  intro c1 t1 tk1 hv1
  k_steps
  exact hret _ _ _ _ _ _ _ _ _ (by assumption) (by assumption) (by assumption) (by assumption)

end
section
theorem off_OneUse : True := by
  w_top off
  trivial
theorem one_use {w : World} {p : Program} {loose : List Str} {mean : ExcName → Option Value} {mg mb : Str → Option Value} {A A₀ : Around} {env : Env} {outer : List Env} {base h₀ : Heap} {L : Addr} {m : Str → Option Value} {s : Shared} {Q E : Value → Shared → Prop} {news : List (Addr × Obj)} {src l : Addr} {x y : Int} {tx ty : Tok} {n c : Nat} {vs : List Value}
   (B : Below A₀ base outer h₀) (F : Fr h₀ L s.heap m) (X : (Mine.frag.heap_1 w.params).In h₀) (N : News h₀ L s.heap news) (T : Top p loose mean mg mb h₀) (hA : A.frames = some (env :: outer)) (hf : env.frame = some L) (hke : env.scope.kind = .function) (hh : A.handled = none) (hd : A.depth + 2 < recursionLimit) (hu : A.units + 16 < cLine) (U : Upd src (srcO x y tx ty n) (srcO x y tx ty n) news news)
   (ho : SrcOk x y) (hl : (l, listOf vs.toArray c) ∈ news) (hne : l ≠ src) (hv0 : 0 < vs.length) (hv1 : vs.length ≤ 1000)
   (hret : ∀ v x' y' tx' ty' n' h' tk', v ∈ vs → SrcOk x' y' → Fr h₀ L h' m → (∀ l', Upd src (srcO x y tx ty n) (srcO x' y' tx' ty' n') news l' → News h₀ L h' l') → Q v {s with heap := h', toks := tk'}) :
   wpAny (model PR w) A (call (.ref 127) [.ref src, .ref l]) Q E s := by
  obtain ⟨pre, post, e, -, h1, h2⟩ := U.split
  have N1 := N
  rw [e] at N1
  have hl' : (l, listOf vs.toArray c) ∈ pre ++ post := by
    rw [e] at hl
    rcases List.mem_append.mp hl with h | h
    · exact List.mem_append_left _ h
    · rcases List.mem_cons.mp h with h | h
      · exact absurd (congrArg Prod.fst h) hne
      · exact List.mem_append_right _ h
  refine one_list B F X (news_front N1) T hA hf hke hh hd hu (fun p hp => (List.mem_append.mp hp).elim (h1 p) (h2 p)) ho hl' hv0 hv1 ?_
  intro v x' y' tx' ty' n' h' tk' hv ho' F' N'
  exact hret v x' y' tx' ty' n' h' tk' hv ho' F' (upd_back e h1 h2 N')
theorem one_use_str {w : World} {p : Program} {loose : List Str} {mean : ExcName → Option Value} {mg mb : Str → Option Value} {A A₀ : Around} {env : Env} {outer : List Env} {base h₀ : Heap} {L : Addr} {m : Str → Option Value} {s : Shared} {Q E : Value → Shared → Prop} {news : List (Addr × Obj)} {src : Addr} {x y : Int} {tx ty tt : Tok} {n : Nat} {xs : Str}
   (B : Below A₀ base outer h₀) (F : Fr h₀ L s.heap m) (X : (Mine.frag.heap_1 w.params).In h₀) (N : News h₀ L s.heap news) (T : Top p loose mean mg mb h₀) (hA : A.frames = some (env :: outer)) (hf : env.frame = some L) (hke : env.scope.kind = .function) (hh : A.handled = none) (hd : A.depth + 2 < recursionLimit) (hu : A.units + 16 < cLine) (U : Upd src (srcO x y tx ty n) (srcO x y tx ty n) news news)
   (ho : SrcOk x y) (hv0 : 0 < xs.length) (hv1 : xs.length ≤ 1000)
   (hret : ∀ c t' x' y' tx' ty' n' h' tk', c ∈ xs.cps → SrcOk x' y' → Fr h₀ L h' m → (∀ l', Upd src (srcO x y tx ty n) (srcO x' y' tx' ty' n') news l' → News h₀ L h' l') → Q (.str ⟨#[c]⟩ t') {s with heap := h', toks := tk'}) :
   wpAny (model PR w) A (call (.ref 127) [.ref src, .str xs tt]) Q E s := by
  obtain ⟨pre, post, e, -, h1, h2⟩ := U.split
  have N1 := N
  rw [e] at N1
  refine one_str B F X (news_front N1) T hA hf hke hh hd hu (fun p hp => (List.mem_append.mp hp).elim (h1 p) (h2 p)) ho hv0 hv1 ?_
  intro c t' x' y' tx' ty' n' h' tk' hv ho' F' N'
  exact hret c t' x' y' tx' ty' n' h' tk' hv ho' F' (upd_back e h1 h2 N')

end
local macro_rules | `(tactic| walk_at "call ref") => `(tactic| (k_here; (with_reducible show wpAny _ _ (PySem.call (Value.ref 127) _) _ _ _); k_dflt (refine' one_use ?kB ?kF ?kX ?kN ?kT ?kA ?kf ?kk ?kh ?kd ?ku ?e1 ?e2 ?e3 ?e4 ?e5 ?e6 ?_; walk_at "my use"; (case e1 => k_upd); (case e2 => assumption); (case e3 => k_mem); (case e4 => k_ne); (case e5 => exact Nat.succ_pos _); (case e6 => exact Nat.le_of_ble_eq_true rfl); k_whole); intro v' x' y' tx' ty' n' h' tk' hv' ho' F' NU; (have N' := NU _ (by k_upd)); clear NU; (try k_sweep)))
local macro_rules | `(tactic| walk_at "call ref") => `(tactic| (k_here; (with_reducible show wpAny _ _ (PySem.call (Value.ref 127) _) _ _ _); k_dflt (refine' one_use_str ?kB ?kF ?kX ?kN ?kT ?kA ?kf ?kk ?kh ?kd ?ku ?e1 ?e2 ?e5 ?e6 ?_; walk_at "my use"; (case e1 => k_upd); (case e2 => assumption); (case e5 => (first | decide | assumption | exact Nat.succ_pos _)); (case e6 => (first | decide | assumption | exact Nat.le_of_ble_eq_true rfl)); k_whole); intro c' t' x' y' tx' ty' n' h' tk' hv' ho' F' NU; (have N' := NU _ (by k_upd)); clear NU; (try k_sweep)))

section
theorem off_Behind : True := by
  w_top off
  trivial
/-- is the sign c one of sg -/
def signIn (sg : Str) (c : Nat) : Bool := !(Builtin.Str.occurrences sg ⟨#[c]⟩ 0 sg.length 1).isEmpty
def runB (x sg : Str) (a : Nat) : Nat := a + ((x.cps.toList.drop a).takeWhile (signIn sg)).length
theorem runB_end {x sg : Str} {b : Nat} (h : x.length ≤ b) : runB x sg b = b := by
  unfold runB
  rw [List.drop_eq_nil_of_le (by simpa [Str.length] using h)]
  rfl
theorem runB_cons {x sg : Str} {b : Nat} (h : b < x.cps.size) : x.cps.toList.drop b = x.cps[b] :: x.cps.toList.drop (b + 1) := by
  rw [List.drop_eq_getElem_cons (by simpa using h)]
  simp
theorem runB_stop {x sg : Str} {b : Nat} (h : b < x.cps.size) (hs : signIn sg x.cps[b] = false) : runB x sg b = b := by
  unfold runB
  rw [runB_cons (sg := sg) h, List.takeWhile_cons_of_neg (by rw [hs]; decide)]
  rfl
theorem runB_go {x sg : Str} {b : Nat} (h : b < x.cps.size) (hs : signIn sg x.cps[b] = true) : runB x sg b = runB x sg (b + 1) := by
  unfold runB
  rw [runB_cons (sg := sg) h, List.takeWhile_cons_of_pos hs, List.length_cons]
  omega
theorem behind_ok {w : World} {p : Program} {loose : List Str} {mean : ExcName → Option Value} {mg mb : Str → Option Value} {A A₀ : Around} {env : Env} {outer : List Env} {base h₀ : Heap} {L : Addr} {m : Str → Option Value} {s : Shared} {Q E : Value → Shared → Prop} {news : List (Addr × Obj)} {x sg : Str} {a : Nat} {tx ta ts : Tok}
   (B : Below A₀ base outer h₀) (F : Fr h₀ L s.heap m) (X : (Mine.frag.heap_1 w.params).In h₀) (N : News h₀ L s.heap news) (T : Top p loose mean mg mb h₀) (hA : A.frames = some (env :: outer)) (hf : env.frame = some L) (hke : env.scope.kind = .function) (hh : A.handled = none) (hd : A.depth + 2 < recursionLimit) (hu : A.units + 16 < cLine) (ha : a ≤ x.length) (hx : x.length ≤ 1000)
   (hret : ∀ t' h' tk', Fr h₀ L h' m → News h₀ L h' news → Q (.int (runB x sg a) t') {s with heap := h', toks := tk'}) :
   wpAny (model PR w) A (call (.ref 64) [.str x tx, .int a ta, .str sg ts]) Q E s := by
  refine wpAny_call ?_
  k_dflt (refine' code_def (binds := [("text", .str x tx), ("at", .int a ta), ("signs", .str sg ts)]) ?k1 ?k2 ?k3 ?k4 ?k5 hA hf hke ?k6 ?k7 ?k8 ?k9 ?kB ?_ ?c2 ?c3 ?c4 ?c5; (case k1 => k_asm); (case k2 => k_asm); (case k3 => k_asm); (case k4 => k_asm); (case k5 => k_asm); (case k6 => k_is); (case k7 => k_is); (case k8 => ktr_room); (case k9 => exact BindsTo.of_eq rfl); (case c5 => decide); (case kB => exact locs rfl); (case c2 => exact rfl); (case c3 => exact rfl); (case c4 => exact rfl); k_whole; intro g' L' h' FG' F' N' B' X' T'; (try dsimp only); (try k_fold))
  refine wpAny_execs_cons ?_
  refine While_inv2 (fun n mm nw => nw = news ∧ ∃ (b : Nat) (t : Tok), a ≤ b ∧ b ≤ x.length ∧ n = x.length - b ∧ runB x sg a = runB x sg b ∧ mm = fun (y : Str) => if y = ("at" : Str) then some (.int b t) else List.lookup y [("signs", Value.str sg ts), ("text", .str x tx)]) (n₀ := x.length - a) F' N' ?_ ?_
  · refine ⟨rfl, a, ta, Nat.le_refl _, ha, rfl, rfl, ?_⟩
    funext y
    by_cases h : y = ("at" : Str)
    · subst h; rfl
    · show List.lookup y [("signs", Value.str sg ts), ("at", .int a ta), ("text", .str x tx)] = _
      simp only [List.lookup_cons, beq_false_of_ne h, h, if_false]
  · rintro n m₁ news₁ h₁ tk₁ F₁ N₁ ⟨rfl, b, t, hab, hbx, hn, hrun, rfl⟩
    have hbe : ∀ hlt : b < x.cps.size, Txt.item x (b : Int) = ⟨#[x.cps[b]]⟩ := fun hlt => item_eq hlt
    k_steps
    · rename (_ < _) => hlt
      rename (List.isEmpty _ = true) => hemp
      have hlt2 : b < x.length := by omega
      have hlt' : b < x.cps.size := hlt2
      rw [hbe hlt'] at hemp
      have e := hrun.trans (runB_stop hlt' (by unfold signIn; rw [hemp]; rfl))
      rw [e] at hret
      exact hret _ _ _ (by assumption) (by assumption)
    · rename (_ < _) => hlt
      rename (List.isEmpty _ = false) => hemp
      rename (Fr _ _ _ _) => F9
      have hlt2 : b < x.length := by omega
      have hlt' : b < x.cps.size := hlt2
      rw [hbe hlt'] at hemp
      have e := hrun.trans (runB_go hlt' (by unfold signIn; rw [hemp]; rfl))
      rw [bind_again] at F9
      exact ⟨_, _, _, _, x.length - (b + 1), rfl, F9, by assumption, by omega, rfl, b + 1, _, by omega, by omega, rfl, e, by rfl⟩
    · rename (¬ _ < _) => hlt
      have e := hrun.trans (runB_end (x := x) (sg := sg) (b := b) (by omega))
      rw [e] at hret
      exact hret _ _ _ (by assumption) (by assumption)

end
section
local macro_rules | `(tactic| walk_at "pad 0") => `(tactic| fail)
theorem off_Worth : True := by
  w_top off
  trivial
/-- the worth of a sign as a figure, 99 of none -/
def worth (c : Nat) : Int := if 48 ≤ c ∧ c ≤ 57 then (c : Int) - 48 else if 97 ≤ c ∧ c ≤ 102 then (c : Int) - 87 else if 65 ≤ c ∧ c ≤ 70 then (c : Int) - 55 else 99
def placeOf (c : Nat) : Int := if worth c = 99 then -1 else worth c
theorem lower_one : ∀ c < 128, Txt.lower ⟨#[c]⟩ = ⟨#[smallOf c]⟩ := by decide +kernel
theorem find_one : ∀ c < 128, (Txt.find (Str.ofString "0123456789abcdef") ⟨#[smallOf c]⟩ : Int) = placeOf c := by decide +kernel
theorem lower_fits : ∀ c < 128, Builtin.Str.tooLong (Txt.lower ⟨#[c]⟩).length = false := by decide +kernel
theorem worth_of_place : ∀ c < 128, (placeOf c ≥ 0 → placeOf c = worth c) ∧ (¬ placeOf c ≥ 0 → worth c = 99) := by decide +kernel
theorem worth_ok {w : World} {p : Program} {loose : List Str} {mean : ExcName → Option Value} {mg mb : Str → Option Value} {A A₀ : Around} {env : Env} {outer : List Env} {base h₀ : Heap} {L : Addr} {m : Str → Option Value} {s : Shared} {Q E : Value → Shared → Prop} {news : List (Addr × Obj)} {c : Nat} {tx : Tok}
   (B : Below A₀ base outer h₀) (F : Fr h₀ L s.heap m) (X : (Mine.frag.heap_1 w.params).In h₀) (N : News h₀ L s.heap news) (T : Top p loose mean mg mb h₀) (hA : A.frames = some (env :: outer)) (hf : env.frame = some L) (hke : env.scope.kind = .function) (hh : A.handled = none) (hd : A.depth + 2 < recursionLimit) (hu : A.units + 16 < cLine) (hc : c < 128)
   (hret : ∀ t' h' tk', Fr h₀ L h' m → News h₀ L h' news → Q (.int (worth c) t') {s with heap := h', toks := tk'}) :
   wpAny (model PR w) A (call (.ref 71) [.str ⟨#[c]⟩ tx]) Q E s := by
  refine wpAny_call ?_
  k_dflt (refine' code_def (binds := [("sign", .str ⟨#[c]⟩ tx)]) ?k1 ?k2 ?k3 ?k4 ?k5 hA hf hke ?k6 ?k7 ?k8 ?k9 ?kB ?_ ?c2 ?c3 ?c4 ?c5; (case k1 => k_asm); (case k2 => k_asm); (case k3 => k_asm); (case k4 => k_asm); (case k5 => k_asm); (case k6 => k_is); (case k7 => k_is); (case k8 => ktr_room); (case k9 => exact BindsTo.of_eq rfl); (case c5 => decide); (case kB => exact locs rfl); (case c2 => exact rfl); (case c3 => exact rfl); (case c4 => exact rfl); k_whole; intro g' L' h' FG' F' N' B' X' T'; (try dsimp only); (try k_fold))
  have hwp := worth_of_place c hc
  iterate 11 walk1
  refine KXw.lower (lower_one c hc) (lower_fits c hc) ?_
  intro t1 k1
  iterate 1 walk1
  refine KXw.find (find_one c hc) ?_
  intro t2 k2
  k_steps
  · rename (placeOf c ≥ 0) => h1
    rw [hwp.1 h1]
    exact hret _ _ _ (by assumption) (by assumption)
  · rename (¬ placeOf c ≥ 0) => h1
    rw [hwp.2 h1] at hret
    exact hret _ _ _ (by assumption) (by assumption)

end
local macro_rules | `(tactic| walk_at "call ref") => `(tactic| (k_here; (with_reducible show wpAny _ _ (PySem.call (Value.ref 71) _) _ _ _); k_dflt (refine' worth_ok ?kB ?kF ?kX ?kN ?kT ?kA ?kf ?kk ?kh ?kd ?ku ?hc ?_; walk_at "my use"; (case hc => assumption); k_whole); intro _ _ _ _ _))

section
local macro_rules | `(tactic| walk_at "pad 0") => `(tactic| fail)
theorem off_Parts : True := by
  w_top off
  trivial
def under : List Nat → List Nat
  | 95 :: r => r
  | l => l
theorem under_yes {l : List Nat} {n : Nat} (h : (l.drop n).take 1 = [95]) : under (l.drop n) = l.drop (n + 1) := by
  cases e : l.drop n with
  | nil => rw [e] at h; cases h
  | cons c r =>
    rw [e] at h
    injection h with h1 h2
    subst h1
    have e2 : l.drop (n + 1) = (l.drop n).drop 1 := by rw [List.drop_drop]
    rw [e2, e]; rfl
theorem under_no {l : List Nat} {n : Nat} (h : (l.drop n).take 1 ≠ [95]) : under (l.drop n) = l.drop n := by
  cases e : l.drop n with
  | nil => rfl
  | cons c r =>
    unfold under
    split
    · rename_i h1
      injection h1 with h1 h2
      subst h1
      rw [e] at h
      exact absurd rfl h
    · rfl
/-- base and figures of a number's word -/
def partsOf (l : List Nat) : Int × List Nat :=
  if (l.take 2).map smallOf = [48, 120] then (16, under (l.drop 2))
  else if (l.take 2).map smallOf = [48, 111] then (8, under (l.drop 2))
  else if (l.take 2).map smallOf = [48, 98] then (2, under (l.drop 2))
  else if 1 < l.length ∧ l.head? = some 48 then (8, under (l.drop 1))
  else (10, l)
theorem base_cases {x : List Nat} {v : Value} (h : PyProof.V.Flat v ((Spec.lookup (PyData.str (S x)) [(PyData.str ⟨#[48, 120]⟩, PyData.int 16), (PyData.str ⟨#[48, 111]⟩, PyData.int 8), (PyData.str ⟨#[48, 98]⟩, PyData.int 2)]).getD PyData.none)) :
    (x = [48, 120] ∧ ∃ t, v = .int 16 t) ∨ (x ≠ [48, 120] ∧ x = [48, 111] ∧ ∃ t, v = .int 8 t) ∨ (x ≠ [48, 120] ∧ x ≠ [48, 111] ∧ x = [48, 98] ∧ ∃ t, v = .int 2 t) ∨ (x ≠ [48, 120] ∧ x ≠ [48, 111] ∧ x ≠ [48, 98] ∧ v = .none) := by
  have a1 : Spec.same (.str ⟨#[48, 120]⟩) (.str (S x)) = decide (x = [48, 120]) := by
    show (S [48, 120] == S x) = _; rw [S_beq]; simp only [eq_comm]
  have a2 : Spec.same (.str ⟨#[48, 111]⟩) (.str (S x)) = decide (x = [48, 111]) := by
    show (S [48, 111] == S x) = _; rw [S_beq]; simp only [eq_comm]
  have a3 : Spec.same (.str ⟨#[48, 98]⟩) (.str (S x)) = decide (x = [48, 98]) := by
    show (S [48, 98] == S x) = _; rw [S_beq]; simp only [eq_comm]
  simp only [Spec.lookup, a1, a2, a3, decide_eq_true_eq] at h
  by_cases h1 : x = [48, 120]
  · rw [if_pos h1] at h; exact .inl ⟨h1, h.int_inv⟩
  · rw [if_neg h1] at h
    by_cases h2 : x = [48, 111]
    · rw [if_pos h2] at h; exact .inr (.inl ⟨h1, h2, h.int_inv⟩)
    · rw [if_neg h2] at h
      by_cases h3 : x = [48, 98]
      · rw [if_pos h3] at h; exact .inr (.inr (.inl ⟨h1, h2, h3, h.int_inv⟩))
      · rw [if_neg h3] at h; exact .inr (.inr (.inr ⟨h1, h2, h3, h.none_inv⟩))
theorem lowQ (l : List Nat) : (S l == Str.ofString "_") = decide (l = [95]) := by
  rw [show Str.ofString "_" = S [95] by decide +kernel, S_beq]
theorem zeroQ (l : List Nat) : (S l == Str.ofString "0") = decide (l = [48]) := by
  rw [show Str.ofString "0" = S [48] by decide +kernel, S_beq]
theorem pre_y {l : List Nat} (h : (S (List.take (3 - 2) (List.drop 2 l)) == Str.ofString "_") = true) : under (l.drop 2) = l.drop 3 := by
  rw [lowQ, decide_eq_true_eq] at h; exact under_yes h
theorem pre_n {l : List Nat} (h : (S (List.take (3 - 2) (List.drop 2 l)) == Str.ofString "_") = false) : under (l.drop 2) = l.drop 2 := by
  rw [lowQ, decide_eq_false_iff_not] at h; exact under_no h
section
variable {l : List Nat}
theorem p16y (hb : (l.take 2).map smallOf = [48, 120]) (h : (S (List.take (3 - 2) (List.drop 2 l)) == Str.ofString "_") = true) : partsOf l = (16, l.drop 3) := by
  unfold partsOf; rw [if_pos hb, pre_y h]
theorem p16n (hb : (l.take 2).map smallOf = [48, 120]) (h : (S (List.take (3 - 2) (List.drop 2 l)) == Str.ofString "_") = false) : partsOf l = (16, l.drop 2) := by
  unfold partsOf; rw [if_pos hb, pre_n h]
theorem p8y (h1 : (l.take 2).map smallOf ≠ [48, 120]) (hb : (l.take 2).map smallOf = [48, 111]) (h : (S (List.take (3 - 2) (List.drop 2 l)) == Str.ofString "_") = true) : partsOf l = (8, l.drop 3) := by
  unfold partsOf; rw [if_neg h1, if_pos hb, pre_y h]
theorem p8n (h1 : (l.take 2).map smallOf ≠ [48, 120]) (hb : (l.take 2).map smallOf = [48, 111]) (h : (S (List.take (3 - 2) (List.drop 2 l)) == Str.ofString "_") = false) : partsOf l = (8, l.drop 2) := by
  unfold partsOf; rw [if_neg h1, if_pos hb, pre_n h]
theorem p2y (h1 : (l.take 2).map smallOf ≠ [48, 120]) (h2 : (l.take 2).map smallOf ≠ [48, 111]) (hb : (l.take 2).map smallOf = [48, 98]) (h : (S (List.take (3 - 2) (List.drop 2 l)) == Str.ofString "_") = true) : partsOf l = (2, l.drop 3) := by
  unfold partsOf; rw [if_neg h1, if_neg h2, if_pos hb, pre_y h]
theorem p2n (h1 : (l.take 2).map smallOf ≠ [48, 120]) (h2 : (l.take 2).map smallOf ≠ [48, 111]) (hb : (l.take 2).map smallOf = [48, 98]) (h : (S (List.take (3 - 2) (List.drop 2 l)) == Str.ofString "_") = false) : partsOf l = (2, l.drop 2) := by
  unfold partsOf; rw [if_neg h1, if_neg h2, if_pos hb, pre_n h]
theorem head_0 (hl : 1 < l.length) (h : (S [l.getD 0 0] == Str.ofString "0") = true) : l.head? = some 48 := by
  rw [zeroQ, decide_eq_true_eq] at h
  cases l with
  | nil => cases hl
  | cons c r => injection h with h; exact congrArg some h
theorem head_1 (hl : 1 < l.length) (h : (S [l.getD 0 0] == Str.ofString "0") = false) : l.head? ≠ some 48 := by
  rw [zeroQ, decide_eq_false_iff_not] at h
  cases l with
  | nil => cases hl
  | cons c r => intro e; injection e with e; exact h (by rw [e]; rfl)
theorem take_1 (hl : 1 < l.length) : (l.drop 1).take 1 = [l.getD 1 0] := by
  match l, hl with
  | _ :: _ :: _, _ => rfl
theorem p0y (h1 : (l.take 2).map smallOf ≠ [48, 120]) (h2 : (l.take 2).map smallOf ≠ [48, 111]) (h3 : (l.take 2).map smallOf ≠ [48, 98]) (hl : ((l.length : Nat) : Int) > 1) (h : (S [l.getD 0 0] == Str.ofString "0") = true)
    (h' : (S [l.getD 1 0] == Str.ofString "_") = true) : partsOf l = (8, l.drop 2) := by
  have hl' : 1 < l.length := by omega
  unfold partsOf; rw [if_neg h1, if_neg h2, if_neg h3, if_pos ⟨hl', head_0 hl' h⟩]
  rw [lowQ, decide_eq_true_eq] at h'
  rw [under_yes (by rw [take_1 hl']; exact h')]
theorem p0n (h1 : (l.take 2).map smallOf ≠ [48, 120]) (h2 : (l.take 2).map smallOf ≠ [48, 111]) (h3 : (l.take 2).map smallOf ≠ [48, 98]) (hl : ((l.length : Nat) : Int) > 1) (h : (S [l.getD 0 0] == Str.ofString "0") = true)
    (h' : (S [l.getD 1 0] == Str.ofString "_") = false) : partsOf l = (8, l.drop 1) := by
  have hl' : 1 < l.length := by omega
  unfold partsOf; rw [if_neg h1, if_neg h2, if_neg h3, if_pos ⟨hl', head_0 hl' h⟩]
  rw [lowQ, decide_eq_false_iff_not] at h'
  rw [under_no (by rw [take_1 hl']; exact h')]
theorem p10a (h1 : (l.take 2).map smallOf ≠ [48, 120]) (h2 : (l.take 2).map smallOf ≠ [48, 111]) (h3 : (l.take 2).map smallOf ≠ [48, 98]) (hl : ((l.length : Nat) : Int) > 1) (h : (S [l.getD 0 0] == Str.ofString "0") = false) : partsOf l = (10, l) := by
  have hl' : 1 < l.length := by omega
  unfold partsOf; rw [if_neg h1, if_neg h2, if_neg h3, if_neg fun z => head_1 hl' h z.2]
theorem p10b (h1 : (l.take 2).map smallOf ≠ [48, 120]) (h2 : (l.take 2).map smallOf ≠ [48, 111]) (h3 : (l.take 2).map smallOf ≠ [48, 98]) (hl : ¬ ((l.length : Nat) : Int) > 1) : partsOf l = (10, l) := by
  unfold partsOf; rw [if_neg h1, if_neg h2, if_neg h3, if_neg fun z => hl (by omega)]
end
theorem parts_ok {w : World} {p : Program} {loose : List Str} {mean : ExcName → Option Value} {mg mb : Str → Option Value} {A A₀ : Around} {env : Env} {outer : List Env} {base h₀ : Heap} {L : Addr} {m : Str → Option Value} {s : Shared} {Q E : Value → Shared → Prop} {news : List (Addr × Obj)} {l : List Nat} {tx : Tok}
   (B : Below A₀ base outer h₀) (F : Fr h₀ L s.heap m) (X : (Mine.frag.heap_1 w.params).In h₀) (N : News h₀ L s.heap news) (T : Top p loose mean mg mb h₀) (hA : A.frames = some (env :: outer)) (hf : env.frame = some L) (hke : env.scope.kind = .function) (hh : A.handled = none) (hd : A.depth + 2 < recursionLimit) (hu : A.units + 16 < cLine) (hl : l.length ≤ 1000) (hasc : ∀ c ∈ l, c < 128)
   (hret : ∀ a t1 t2 h' tk', Fr h₀ L h' m → News h₀ L h' ((a, tup [.int (partsOf l).1 t1, .str (S (partsOf l).2) t2]) :: news) → (∀ p ∈ news, p.1 < a) → Q (.ref a) {s with heap := h', toks := tk'}) :
   wpAny (model PR w) A (call (.ref 78) [.str (S l) tx]) Q E s := by
  refine wpAny_call ?_
  k_dflt (refine' code_def (binds := [("word", .str (S l) tx)]) ?k1 ?k2 ?k3 ?k4 ?k5 hA hf hke ?k6 ?k7 ?k8 ?k9 ?kB ?_ ?c2 ?c3 ?c4 ?c5; (case k1 => k_asm); (case k2 => k_asm); (case k3 => k_asm); (case k4 => k_asm); (case k5 => k_asm); (case k6 => k_is); (case k7 => k_is); (case k8 => ktr_room); (case k9 => exact BindsTo.of_eq rfl); (case c5 => decide); (case kB => exact locs rfl); (case c2 => exact rfl); (case c3 => exact rfl); (case c4 => exact rfl); k_whole; intro g' L' h' FG' F' N' B' X' T'; (try dsimp only); (try k_fold))
  iterate 22 walk1
  rcases base_cases (by assumption) with ⟨hb, t, rfl⟩ | ⟨hb1, hb, t, rfl⟩ | ⟨hb1, hb2, hb, t, rfl⟩ | ⟨hb1, hb2, hb3, rfl⟩
  all_goals k_steps
  · rw [p16y hb (by assumption)] at hret; exact hret _ _ _ _ _ (by assumption) (by assumption) (by assumption)
  · rw [p16n hb (by assumption)] at hret; exact hret _ _ _ _ _ (by assumption) (by assumption) (by assumption)
  · rw [p8y hb1 hb (by assumption)] at hret; exact hret _ _ _ _ _ (by assumption) (by assumption) (by assumption)
  · rw [p8n hb1 hb (by assumption)] at hret; exact hret _ _ _ _ _ (by assumption) (by assumption) (by assumption)
  · rw [p2y hb1 hb2 hb (by assumption)] at hret; exact hret _ _ _ _ _ (by assumption) (by assumption) (by assumption)
  · rw [p2n hb1 hb2 hb (by assumption)] at hret; exact hret _ _ _ _ _ (by assumption) (by assumption) (by assumption)
  · rw [p0y hb1 hb2 hb3 (by omega) (by assumption) (by assumption)] at hret; exact hret _ _ _ _ _ (by assumption) (by assumption) (by assumption)
  · rw [p0n hb1 hb2 hb3 (by omega) (by assumption) (by assumption)] at hret; exact hret _ _ _ _ _ (by assumption) (by assumption) (by assumption)
  · rw [p10a hb1 hb2 hb3 (by omega) (by assumption)] at hret; exact hret _ _ _ _ _ (by assumption) (by assumption) (by assumption)
  · rw [p10b hb1 hb2 hb3 (by omega)] at hret; exact hret _ _ _ _ _ (by assumption) (by assumption) (by assumption)

end
section
theorem off_Fault : True := by
  w_top off
  trivial
open PySem.W in
section
variable {w : World} {h : Heap}
theorem wf_isType (X : (Mine.frag.heap_1 w.params).In h) : Looks (model PR w) h (isType (.ref 45)) true := Looks.of_peek X (by kernel_rfl)
theorem wf_sub (X : (Mine.frag.heap_1 w.params).In h) : Looks (model PR w) h (isSubtype (.ref 45) (.type "Exception")) true := Looks.of_peek X (by kernel_rfl)
theorem wf_subB (X : (Mine.frag.heap_1 w.params).In h) : Looks (model PR w) h (isSubtype (.ref 45) (.type "BaseException")) true := Looks.of_peek X (by kernel_rfl)
theorem wf_subA (X : (Mine.frag.heap_1 w.params).In h) : Looks (model PR w) h (isSubtype (.ref 45) (.type "AttributeError")) false := Looks.of_peek X (by kernel_rfl)
theorem wf_subN (X : (Mine.frag.heap_1 w.params).In h) : Looks (model PR w) h (isSubtype (.ref 45) (.type "NameError")) false := Looks.of_peek X (by kernel_rfl)
theorem wf_subW (X : (Mine.frag.heap_1 w.params).In h) : Looks (model PR w) h (isSubtype (.ref 45) (.ref 45)) true := Looks.of_peek X (by kernel_rfl)
theorem wf_here (X : (Mine.frag.heap_1 w.params).In h) : Looks (model PR w) h (Bind.madeHere "BaseException.__new__" (.ref 45)) () := Looks.of_peek X (by kernel_rfl)
theorem wf_madeBy (X : (Mine.frag.heap_1 w.params).In h) : Looks (model PR w) h (Bind.madeBy (.ref 45)) (some "Exception.__new__") := Looks.of_peek X (by kernel_rfl)
theorem wf_call (X : (Mine.frag.heap_1 w.params).In h) : Looks (model PR w) h (specialOf (.ref 45) "__call__") (some (.builtin "type.__call__")) := Looks.of_peek X (by kernel_rfl)
theorem wf_typ (X : (Mine.frag.heap_1 w.params).In h) : Looks (model PR w) h (isInstance (.ref 45) (.type "type")) true := Looks.of_peek X (by kernel_rfl)
theorem wf_mro (X : (Mine.frag.heap_1 w.params).In h) : Looks (model PR w) h (mroOf (.ref 45)) [.ref 45, .ref 32, .type "Exception", .type "BaseException", .type "object"] := Looks.of_peek X (by kernel_rfl)
theorem wf_init (X : (Mine.frag.heap_1 w.params).In h) : Looks (model PR w) h (typeLookup (.ref 45) "__init__") (some (.ref 29)) := Looks.of_peek X (by kernel_rfl)
theorem wf_check (X : (Mine.frag.heap_1 w.params).In h) (a b : Value) : Looks (model PR w) h (checkBuiltinCall "Exception.__new__" ⟨[.ref 45, a, b], []⟩) () := Looks.of_peek X (by kernel_rfl)
end
/-- a fault as it is born -/
abbrev wfBorn (t : Addr) : Obj := { cls := .ref 45, data := .fields #[.ref t, .none, .none, .none, .bool false, .none] }
abbrev tupO (vs : List Value) : Obj := { cls := .type "tuple", data := .seq vs.toArray }
section
variable {w : World} {A : Around} {R : Result → Shared → Prop} {h : Heap} {g : Array GenState} {d : Drawn} {t : Nat} {os : OsState} {a b : Value}
theorem wf_new (X : (Mine.frag.heap_1 w.params).In h)
    (hq : R (.ok (.ret (.ref (h.objs.size + 1)))) ⟨(h.push (tupO [a, b])).push (wfBorn h.objs.size), g, d, t, os⟩) :
    codeAny (model PR w) A (.builtin "Exception.__new__" ⟨[.ref 45, a, b], []⟩) R ⟨h, g, d, t, os⟩ := by
  have F := PySem.F.excBase_Exception
  have hends := F.ends
  refine codeAny_builtinAt F.entry ?_
  unfold Builtin.«BaseException.__new__»
  refine PySem.wpAt_bind ?_
  show PySem.wpAt _ _ _ (stack >>= _) _ _ _
  refine PySem.wpAt_bind (PySem.wpAt_stack fun p below => PySem.wpAt_of_wpAny ?_)
  wp_walk
  refine PySem.wpAt_of_wpAny ?_
  rw [F.owner]
  have L1 := wf_isType X
  have L2 := wf_sub X
  have L3 := wf_here X
  have L4 := wf_subA X
  have L5 := wf_subN X
  have hC : h.get? 45 = some _ := X 45 _ (by k_is)
  have hC2 := Heap.get?_push_of_some (wfBorn h.objs.size) (Heap.get?_push_of_some (tupO [a, b]) hC)
  repeat lk
  show R _ _
  rw [Heap.size_push]
  exact hq
theorem wf_make {x : Str} {tx ti : Tok} {i : Int} (X : (Mine.frag.heap_1 w.params).In h)
    (hq : codeAny (model PR w) (A.under (.builtin "type.__call__" ⟨[.ref 45, .str x tx, .int i ti], []⟩)) (.call (.ref 29) ⟨[.ref (h.objs.size + 1), .str x tx, .int i ti], []⟩) (InitBack (h.objs.size + 1) R)
      ⟨(h.push (tupO [.str x tx, .int i ti])).push (wfBorn h.objs.size), g, d, t, os⟩) :
    codeAny (model PR w) A (.call (.ref 45) ⟨[.str x tx, .int i ti], []⟩) R ⟨h, g, d, t, os⟩ := by
  have hC : h.get? 45 = some _ := X 45 _ (by k_is)
  have L1 := wf_call X
  have L2 := wf_typ X
  have L3 := wf_mro X
  have L4 := wf_madeBy X
  refine codeAny_of_tree ?_
  show wpAny _ _ (callAny (.ref 45) _) _ _ _
  refine nd_load hC ?_
  show wpAny _ _ (callAny.viaDunder (.ref 45) _) _ _ _
  unfold callAny.viaDunder
  refine wpAny_bind (L1.at ?_)
  dsimp only
  rw [tc_bind]
  refine wpAny_bind (wpAny_pure (wpAny_bind (wpAny_pure ?_)))
  refine wpAny_pure (a := Fin.again (.call (.builtin "type.__call__") ⟨[.ref 45, .str x tx, .int i ti], []⟩)) (And.intro rfl ?_)
  refine codeAny_call_builtin_at (Code.quiet_builtin _ (by decide +kernel)) entry_typeCall (check_slot tc_kind tc_split L2 (tc_args _ _ _) ?_)
  unfold Builtin.«type.__call__»
  repeat (first | with_reducible refine wpAny_call ?_ | lk)
  refine codeAny_call_builtin_code (Code.quiet_builtin _ PySem.F.excBase_Exception.quiet) ((wf_check X _ _).here ?_)
  refine wf_new X ?_
  have k : ∀ c o, h.get? c = some o → ((h.push (tupO [.str x tx, .int i ti])).push (wfBorn h.objs.size)).get? c = some o := fun c o e => Heap.get?_push_of_some _ (Heap.get?_push_of_some _ e)
  have hx : ((h.push (tupO [.str x tx, .int i ti])).push (wfBorn h.objs.size)).get? (h.objs.size + 1) = some (wfBorn h.objs.size) := by heap_get
  have t1 : Looks (model PR w) ((h.push (tupO [.str x tx, .int i ti])).push (wfBorn h.objs.size)) (typeOf (.ref (h.objs.size + 1))) (.ref 45) := (Looks.ld hx).andThen .now
  have s1 := (wf_subW X).keeps k
  have i1 := (wf_init X).keeps k
  have b1 := bind_fn (M := model PR w) (X.keeps k) (f := 29) (.ref (h.objs.size + 1)) (by k_is)
  show wpAny _ _ _ _ _ _
  unfold isInstance callSpecial? specialOf
  repeat (first | with_reducible refine wpAny_call ?_ | lk)
  refine codeAny_mono hq fun r s' z => ?_
  rcases r with e | (v | _ | _ | _) <;> first | exact z | exact z.elim | skip
  obtain ⟨rfl, z⟩ := z
  exact wpAny_pure (wpAny_pure z)
end

end
section
theorem off_FaultInit : True := by
  w_top off
  trivial
/-- a fault, its dict and the tuple of its arguments -/
abbrev wfO (od : Option Addr) (t : Addr) : Obj := { cls := .ref 45, dict := od, data := .fields #[.ref t, .none, .none, .none, .bool false, .none] }
theorem ei_typ : typeOf (.type "Exception") = pure (.type "type") := by kernel_rfl
theorem looks_some {α : Type} {K : Frag} {M : Model} {h : Heap} {t : Sem α} (X : K.In h) (e : (peek K ⟨M.prog, M.w.params⟩ t).isSome = true) : ∃ r, Looks M h t r := by
  obtain ⟨r, hr⟩ := Option.isSome_iff_exists.mp e
  exact ⟨r, Looks.of_peek X hr⟩
theorem wf_name {w : World} {h : Heap} (X : (Mine.frag.heap_1 w.params).In h) : ∃ r, Looks (model PR w) h (typeNameWhole (.ref 45)) r := looks_some X (by kernel_rfl)
theorem ei_check {w : World} {A : Around} {E : Value → Shared → Prop} {s : Shared} {e : Addr} {v : Value} {Q : Unit → Shared → Prop} (X : (Mine.frag.heap_1 w.params).In s.heap) (L0 : Looks (model PR w) s.heap (typeOf (.ref e)) (.ref 45)) (q : Q () s) :
    wpAny (model PR w) A (checkBuiltinCall "Exception.__init__" ⟨[.ref e, v], []⟩) Q E s := by
  have F := PySem.F.excBase_Exception
  have hshort := F.noStar
  obtain ⟨r, L1⟩ := wf_name X
  have hi : Looks (model PR w) s.heap (isInstance (.ref e) (.type "Exception")) true := L0.andThen (wf_sub X)
  simp only [checkBuiltinCall, F.initKind, F.initSplit, F.initRow]
  refine wpAny_bind (hi.here ?_)
  simp only [Bool.not_true, Bool.false_eq_true, if_false]
  unfold Bind.checkArgs
  obtain ⟨hp, g, d, tk, os⟩ := s
  dsimp only at L0 L1 hi
  repeat lk
  exact q
section
variable {w : World} {A : Around} {E : Value → Shared → Prop} {s : Shared} {h₀ : Heap} {L e : Addr} {m : Str → Option Value} {rest : List (Addr × Obj)}
theorem base_init {t0 : Addr} {v : Value} {Q : Value → Shared → Prop} (F : Fr h₀ L s.heap m) (X₀ : (Mine.frag.heap_1 w.params).In h₀) (N : News h₀ L s.heap ((e, wfO none t0) :: rest)) (hr : ∀ p ∈ rest, p.1 ≠ e)
    (h : ∀ t1 h', Fr h₀ L h' m → News h₀ L h' ((e, wfO none t1) :: rest) → Q .none { s with heap := h' }) :
    wpAny (model PR w) A (call (.builtin "Exception.__init__") [.ref e, v]) Q E s := by
  obtain ⟨hp, g, d, tk, os⟩ := s
  dsimp only at F N
  have FX := PySem.F.excBase_Exception
  have X := X₀.keeps F.keep
  have he := (N _ (.head _)).1
  dsimp only at he
  have L0 : Looks (model PR w) hp (typeOf (.ref e)) (.ref 45) := (Looks.ld he).andThen .now
  have L1 : Looks (model PR w) hp (isInstance (.ref e) (.type "Exception")) true := L0.andThen (wf_sub X)
  refine wpAny_call (codeAny_call_builtin FX.init.plain FX.initEntry (ei_check X L0 ?_))
  unfold Builtin.«BaseException.__init__» Builtin.BaseException.bexcPut
  have F2 := F.push (tupO [v])
  have N2 := N.push F (tupO [v])
  have he2 := (N2 _ (.tail _ (.head _))).1
  dsimp only at he2
  have ne : hp.objs.size ≠ e := Nat.ne_of_gt (Heap.lt_size he)
  obtain ⟨U1, U2⟩ := news_upd (pre := [(hp.objs.size, tupO [v])]) (f := Obj.mapFields (·.setIfInBounds 0 (.ref hp.objs.size))) F2 N2 (fun p hp' => by rw [List.mem_singleton.mp hp']; exact ne) hr (o' := wfO none hp.objs.size) rfl rfl
  dsimp only
  rw [if_neg (by decide)]
  refine wpAny_bind (wpAny_newObj_type ?_)
  refine wpAny_bind (wpAny_bind (wpAny_field he2 rfl (x := .ref t0) rfl (wpAny_bind (wpAny_setField he2 rfl (by simp) ?_))))
  refine wpAny_letGo (wpAny_pure ?_)
  exact h _ _ U1 fun p hp' => U2 p (.tail _ hp')
end
section
variable {w : World} {A : Around} {E : Value → Shared → Prop} {s : Shared} {h₀ : Heap} {L e d : Addr} {m : Str → Option Value} {rest : List (Addr × Obj)}
theorem store_in {name : Str} {tk : Tok} {v : Value} {es : List DictEntry} {n : Nat} {Q : Fin → Shared → Prop} (F : Fr h₀ L s.heap m) (N : News h₀ L s.heap ((d, dictOf es n) :: rest)) (hr : ∀ p ∈ rest, p.1 ≠ d)
    (hl : es.all (fun x => !x.refKey) = true) (hz : (putL name (PyData.keyHash w.params name) (.str name s.toks) v es).length ≤ 1000)
    (h : ∀ h', Fr h₀ L h' m → News h₀ L h' ((d, dictOf (putL name (PyData.keyHash w.params name) (.str name s.toks) v es) (putN name es n)) :: rest) → Q (.done (.ret .none)) { s with heap := h', toks := s.toks + 1 }) :
    wpAny (model PR w) A (Builtin.ObjectAttr.storeInDict d (.str name tk) name v) Q E s := by
  have D := (N _ (.head _)).1
  obtain ⟨U1, U2⟩ := news_upd (pre := []) (f := Obj.putName name (PyData.keyHash w.params name) (.str name s.toks) v) F N (fun p hp => nomatch hp) hr (putName_dict _ _ _ _ _ _) rfl
  have D' := (U2 _ (.head _)).1
  unfold Builtin.ObjectAttr.storeInDict Builtin.ObjectAttr.newKeyGuard
  refine wpAny_bind (wpAny_pure (wpAny_bind ?_))
  unfold nsSet
  refine wpAny_bind (wpAny_bind (wpAny_askSetting (wpAny_pure (wpAny_bind (wpAny_mkText (wpAny_bind (wpAny_loadPart D ?_)))))))
  dsimp only
  have c : aRefKeyMayBeTheName name es.toArray = false := by
    rw [aRefKeyMayBeTheName_at]
    have : es.toArray.any (·.refKey) = false := by
      rw [List.any_toArray, List.any_eq_false]
      intro x hx
      have := List.all_eq_true.mp hl x hx
      simpa using this
    rw [this, Bool.and_false]
  rw [c]
  refine wpAny_updatePart D ?_
  refine wpAny_bind (wpAny_lookBehind D' (pastItsLine_dict (by rw [List.size_toArray, sizeLine_eq]; omega)) ?_)
  exact wpAny_pure (h _ U1 U2)
theorem putL_len (name : Str) (hsh : Int) (key v : Value) : ∀ es : List DictEntry, (putL name hsh key v es).length ≤ es.length + 1
  | [] => by simp [putL]
  | e :: r => by
    unfold putL
    split
    · simp
    · have := putL_len name hsh key v r
      simp only [List.length_cons]
      omega
theorem wf_refuse : refuseLoop (.ref e) "__setattr__" [.ref 45, .ref 32, .type "Exception", .type "BaseException", .type "object"] = pure () := by
  rw [refuseLoop_ref, refuseLoop_ref]; exact PySem.F.store_Exception.passes _
theorem wf_object {h : Heap} (X : (Mine.frag.heap_1 w.params).In h) : Looks (model PR w) h (isSubtype (.ref 45) (.type "object")) true := Looks.of_peek X (by kernel_rfl)
theorem wf_data {h : Heap} (X : (Mine.frag.heap_1 w.params).In h) : Looks (model PR w) h (do return (← classData 45).hasDict) true := Looks.of_peek X (by kernel_rfl)
theorem wf_noMsg {h : Heap} (X : (Mine.frag.heap_1 w.params).In h) : Looks (model PR w) h (typeLookup (.ref 45) "message") none := Looks.of_peek X (by kernel_rfl)
theorem wf_noSpot {h : Heap} (X : (Mine.frag.heap_1 w.params).In h) : Looks (model PR w) h (typeLookup (.ref 45) "spot") none := Looks.of_peek X (by kernel_rfl)
theorem wf_osa {name : Str} {tk : Tok} {v : Value} {R : Result → Shared → Prop} (X : (Mine.frag.heap_1 w.params).In s.heap) (L0 : Looks (model PR w) s.heap (typeOf (.ref e)) (.ref 45)) (LN : Looks (model PR w) s.heap (typeLookup (.ref 45) name) none)
    (h : wpAny (model PR w) A.in1 (Builtin.ObjectAttr.storeInOwnDict (.ref e) (.ref 45) (.str name tk) name v false)
      (fun fin s' => match fin with | .done f => R (.ok f) s' | .again c' => c'.quiet = true ∧ codeAny (model PR w) A c' R s') (fun e s' => R (.error e) s') s) :
    codeAny (model PR w) A (.call (.builtin "object.__setattr__") ⟨[.ref e, .str name tk, v], []⟩) R s := by
  have SF := PySem.F.store_object
  have sub : Looks (model PR w) s.heap (isInstance (.ref e) (.type "object")) true := L0.andThen (wf_object X)
  have hm := wf_mro X
  refine codeAny_call_builtin SF.slot.plain SF.entry (@check_slot (model PR w) _ _ s "object.__setattr__" "object" "__setattr__" (.ref e) [.str name tk, v] [] _ SF.kind SF.split sub (SF.args (.ref e) (.str name tk) v) ?_)
  have L3 : Looks (model PR w) s.heap (Builtin.ObjectAttr.storeTaker? none) none := .now
  rw [osa_eq, refuse_eq]
  refine wpAny_bind (wpAny_bind (L0.here (wpAny_bind (hm.here ?_))))
  rw [wf_refuse]
  refine wpAny_pure (wpAny_bind (L0.here (wpAny_bind (LN.here (wpAny_bind (L3.here ?_))))))
  exact h
theorem wf_set1 {t0 : Addr} {v : Value} {Q : Unit → Shared → Prop} (F : Fr h₀ L s.heap m) (X₀ : (Mine.frag.heap_1 w.params).In h₀) (N : News h₀ L s.heap ((e, wfO none t0) :: rest)) (hr : ∀ p ∈ rest, p.1 ≠ e)
    (h : ∀ d t h' tk', Fr h₀ L h' m → News h₀ L h' ((e, wfO (some d) t0) :: (d, dictOf [⟨PyData.keyHash w.params "message", .str "message" t, v⟩] 1) :: rest) → d ≠ e → (∀ p ∈ rest, p.1 ≠ d) → Q () { s with heap := h', toks := tk' }) :
    wpAny (model PR w) A (setAttr (.ref e) "message" v) Q E s := by
  obtain ⟨hp, g, dr, tk, os⟩ := s
  dsimp only at F N
  have X := X₀.keeps F.keep
  have he := (N _ (.head _)).1
  dsimp only at he
  have L0 : Looks (model PR w) hp (typeOf (.ref e)) (.ref 45) := (Looks.ld he).andThen .now
  have I : InstAt hp e (wfO none t0) 45 none := ⟨he, rfl, rfl, trivial⟩
  refine set_plain X I (by k_is) (wf_osa (s := ⟨hp, g, dr, tk + 1, os⟩) X L0 (wf_noMsg X) ?_)
  have hC : hp.get? 45 = some _ := X 45 _ (by k_is)
  have F2 := F.push emptyDict
  have N2 := N.push F emptyDict
  have he2 := (N2 _ (.tail _ (.head _))).1
  dsimp only at he2
  have ne : hp.objs.size ≠ e := Nat.ne_of_gt (Heap.lt_size he)
  obtain ⟨U1, U2⟩ := news_upd (pre := [(hp.objs.size, emptyDict)]) (f := fun o => { o with dict := some hp.objs.size }) F2 N2 (fun p hp' => by rw [List.mem_singleton.mp hp']; exact ne) hr (o' := wfO (some hp.objs.size) t0) rfl rfl
  unfold Builtin.ObjectAttr.storeInOwnDict Builtin.ObjectAttr.ownDictForStores instanceDict
  repeat lk
  refine wpAny_update he2 ?_
  refine wpAny_pure ?_
  dsimp only
  have ne2 : ∀ p ∈ ((e, wfO (some hp.objs.size) t0) :: rest), p.1 ≠ hp.objs.size := fun p hp' => by
    rcases List.mem_cons.mp hp' with rfl | hp'
    · exact fun z => ne z.symm
    · exact Nat.ne_of_lt (Heap.lt_size (N _ (.tail _ hp')).1)
  refine store_in (s := ⟨(hp.push emptyDict).update e _, g, dr, tk + 1, os⟩) (name := "message") (rest := (e, wfO (some hp.objs.size) t0) :: rest) (es := []) (n := 0) U1 U2 ne2 rfl (by simp [putL]) (fun h' F' N' => ?_)
  show Q () _
  refine h hp.objs.size (tk + 1) h' _ F' (fun p hp' => N' p ?_) ne (fun p hp' => (ne2 p (.tail _ hp')))
  rcases List.mem_cons.mp hp' with rfl | hp'
  · exact .tail _ (.head _)
  · rcases List.mem_cons.mp hp' with rfl | hp'
    · exact .head _
    · exact .tail _ (.tail _ hp')
theorem wf_set2 {t0 : Addr} {v vm : Value} {tm : Tok} {Q : Unit → Shared → Prop} (F : Fr h₀ L s.heap m) (X₀ : (Mine.frag.heap_1 w.params).In h₀) (N : News h₀ L s.heap ((e, wfO (some d) t0) :: (d, dictOf [⟨PyData.keyHash w.params "message", .str "message" tm, vm⟩] 1) :: rest))
    (hr : ∀ p ∈ rest, p.1 ≠ e) (hde : d ≠ e) (hrd : ∀ p ∈ rest, p.1 ≠ d)
    (h : ∀ t h' tk', Fr h₀ L h' m → News h₀ L h' ((e, wfO (some d) t0) :: (d, dictOf [⟨PyData.keyHash w.params "message", .str "message" tm, vm⟩, ⟨PyData.keyHash w.params "spot", .str "spot" t, v⟩] 2) :: rest) → Q () { s with heap := h', toks := tk' }) :
    wpAny (model PR w) A (setAttr (.ref e) "spot" v) Q E s := by
  obtain ⟨hp, g, dr, tk, os⟩ := s
  dsimp only at F N
  have X := X₀.keeps F.keep
  have he := (N _ (.head _)).1
  have hdd := (N _ (.tail _ (.head _))).1
  dsimp only at he hdd
  have L0 : Looks (model PR w) hp (typeOf (.ref e)) (.ref 45) := (Looks.ld he).andThen .now
  have I : InstAt hp e (wfO (some d) t0) 45 (some (dictOf [⟨PyData.keyHash w.params "message", .str "message" tm, vm⟩] 1)) := ⟨he, rfl, rfl, hdd⟩
  refine set_plain X I (by k_is) (wf_osa (s := ⟨hp, g, dr, tk + 1, os⟩) X L0 (wf_noSpot X) ?_)
  have hC : hp.get? 45 = some _ := X 45 _ (by k_is)
  unfold Builtin.ObjectAttr.storeInOwnDict Builtin.ObjectAttr.ownDictForStores instanceDict
  iterate 20 lk
  refine wpAny_pure ?_
  dsimp only
  have ne2 : ∀ p ∈ ((e, wfO (some d) t0) :: rest), p.1 ≠ d := fun p hp' => by
    rcases List.mem_cons.mp hp' with rfl | hp'
    · exact fun z => hde z.symm
    · exact hrd p hp'
  have N3 : News h₀ L hp ((d, dictOf [⟨PyData.keyHash w.params "message", .str "message" tm, vm⟩] 1) :: (e, wfO (some d) t0) :: rest) := fun p hp' => by
    rcases List.mem_cons.mp hp' with rfl | hp'
    · exact N _ (.tail _ (.head _))
    · rcases List.mem_cons.mp hp' with rfl | hp'
      · exact N _ (.head _)
      · exact N _ (.tail _ (.tail _ hp'))
  refine store_in (s := ⟨hp, g, dr, tk + 1, os⟩) (name := "spot") F N3 ne2 rfl (Nat.le_trans (putL_len _ _ _ _ _) (by simp)) (fun h' F' N' => ?_)
  show Q () _
  refine h (tk + 1) h' _ F' (fun p hp' => N' p ?_)
  rcases List.mem_cons.mp hp' with rfl | hp'
  · exact .tail _ (.head _)
  · rcases List.mem_cons.mp hp' with rfl | hp'
    · exact .head _
    · exact .tail _ (.tail _ hp')
end

end
section
theorem off_FaultCall : True := by
  w_top off
  trivial
abbrev wfDict (w : World) (vm vs : Value) (t1 t2 : Tok) : Obj := dictOf [⟨PyData.keyHash w.params "message", .str "message" t1, vm⟩, ⟨PyData.keyHash w.params "spot", .str "spot" t2, vs⟩] 2
theorem wf_ok {w : World} {p : Program} {loose : List Str} {mean : ExcName → Option Value} {mg mb : Str → Option Value} {A A₀ : Around} {env : Env} {outer : List Env} {base h₀ : Heap} {L : Addr} {m : Str → Option Value} {s : Shared} {Q E : Value → Shared → Prop} {news : List (Addr × Obj)} {x : Str} {tx ti : Tok} {i : Int}
   (B : Below A₀ base outer h₀) (F : Fr h₀ L s.heap m) (X : (Mine.frag.heap_1 w.params).In h₀) (N : News h₀ L s.heap news) (T : Top p loose mean mg mb h₀) (hA : A.frames = some (env :: outer)) (hf : env.frame = some L) (hke : env.scope.kind = .function) (hh : A.handled = none) (hd : A.depth + 4 < recursionLimit) (hu : A.units + 40 < cLine)
   (hret : ∀ e d t0 t1 t2 h' tk', Fr h₀ L h' m → News h₀ L h' ((e, wfO (some d) t0) :: (d, wfDict w (.str x tx) (.int i ti) t1 t2) :: news) → d ≠ e → (∀ p ∈ news, p.1 ≠ e) → (∀ p ∈ news, p.1 ≠ d) → Q (.ref e) {s with heap := h', toks := tk'}) :
   wpAny (model PR w) A (call (.ref 45) [.str x tx, .int i ti]) Q E s := by
  obtain ⟨hh', g, d, t, os⟩ := s
  dsimp only at F N hret
  have N2 := (N.push F (tupO [.str x tx, .int i ti])).push (F.push _) (wfBorn hh'.objs.size)
  rw [Heap.size_push] at N2
  have F2 := (F.push (tupO [.str x tx, .int i ti])).push (wfBorn hh'.objs.size)
  have hrE : ∀ p ∈ news, p.1 ≠ hh'.objs.size + 1 := fun p hp => Nat.ne_of_lt (Nat.lt_succ_of_lt (Heap.lt_size (N p hp).1))
  refine wpAny_call (wf_make (X.keeps F.keep) ?_)
  generalize (hh'.push (tupO [.str x tx, .int i ti])).push (wfBorn hh'.objs.size) = h2 at *
  generalize hh'.objs.size = sz at *
  have N3 : News h₀ L h2 ((sz + 1, wfO none sz) :: news) := fun p hp => by
    rcases List.mem_cons.mp hp with rfl | hp
    · exact N2 _ (.head _)
    · exact N2 _ (.tail _ (.tail _ hp))
  clear N2 N F
  generalize sz + 1 = e at *
  k_dflt (refine' code_def (binds := [("self", .ref e), ("message", .str x tx), ("spot", .int i ti)]) ?k1 ?k2 ?k3 ?k4 ?k5 hA hf hke ?k6 ?k7 ?k8 ?k9 ?kB ?_ ?c2 ?c3 ?c4 ?c5; (case k1 => k_asm); (case k2 => k_asm); (case k3 => k_asm); (case k4 => k_asm); (case k5 => k_asm); (case k6 => k_is); (case k7 => k_is); (case k8 => ktr_room); (case k9 => first | exact BindsTo.of_eq rfl | exact binds_K (by k_in) rfl (by k_is) rfl rfl rfl); (case c5 => decide); (case kB => exact locs rfl); (case c2 => exact rfl); (case c3 => exact rfl); (case c4 => exact rfl); k_whole; intro g' L' h' FG' F' N' B' X' T'; (try dsimp only); (try k_fold))
  iterate 5 walk1
  refine method_type F' X' ei_typ (by decide +kernel) (by k_dflt k_is) (by k_handed) ?_
  iterate 6 walk1
  refine base_init F' X' N' hrE ?_
  intro t1 h1 F1 N1
  clear F' N'
  iterate 5 walk1
  refine wf_set1 F1 X' N1 hrE ?_
  intro d1 td h3 tk3 F3 N3 hde hrd
  clear F1 N1
  iterate 4 walk1
  refine wf_set2 F3 X' N3 hrE hde hrd ?_
  intro ts h4 tk4 F4 N4
  clear F3 N3
  k_steps
  exact hret _ _ _ _ _ _ _ (by assumption) (by assumption) hde hrE hrd

end
local macro_rules | `(tactic| walk_at "call ref") => `(tactic| (k_here; (with_reducible show wpAny _ _ (PySem.call (Value.ref 45) _) _ _ _); k_dflt (refine' wf_ok ?kB ?kF ?kX ?kN ?kT ?kA ?kf ?kk ?kh ?kd ?ku  ?_; walk_at "my use"; k_whole); intro e' d' t0' t1' t2' h' tk' F' N' hde' hre' hrd'))

section
theorem off_Flight : True := by
  w_top off
  trivial
/-- a fault in flight: its dict, the head of its traceback -/
abbrev wfT (d t0 : Addr) (hd : Value) : Obj := { cls := .ref 45, dict := some d, data := .fields #[.ref t0, hd, .none, .none, .bool false, .none] }
def TbAt (h : Heap) (e T : Addr) (fl : Value) : Prop := T ≠ e ∧ ∃ oT ts, h.get? T = some oT ∧ oT.data = .fields ts ∧ ts[3]? = some fl
/-- all but the fault, its traceback's head and the frames' slots stays -/
def Moved (hd : Value) (e : Addr) (frs : List Addr) (h h' : Heap) : Prop :=
  (∀ b o, h.get? b = some o → b ≠ e → Value.ref b ≠ hd → b ∉ frs → h'.get? b = some o) ∧ (∀ b o, h.get? b = some o → b ≠ e → Value.ref b ≠ hd → ∃ sl, h'.get? b = some { o with slots := sl })
section
variable {M : Model} {A : Around} {E : Value → Shared → Prop} {s : Shared} {env : Env} {outer : List Env} {L e d t0 : Addr} {hd : Value}
theorem wfT_set (d t0 : Addr) (hd v : Value) : Obj.mapFields (·.setIfInBounds 1 v) (wfT d t0 hd) = wfT d t0 v := rfl
theorem note_core {Q : Unit → Shared → Prop} (hfr : A.frames = some (env :: outer)) (hl : s.heap.FunFrames {} (env :: outer)) (hf : env.frame = some L) (he : s.heap.get? e = some (wfT d t0 hd))
    (hh : hd = .none ∨ ∃ T, hd = .ref T ∧ TbAt s.heap e T .none)
    (h : ∀ h' T', Moved hd e ((env :: outer).filterMap (·.frame)) s.heap h' → h'.get? e = some (wfT d t0 (.ref T')) → s.heap.get? T' = none → TbAt h' e T' (rawInt L) → Q () { s with heap := h' }) :
    wpAny M A (noteFrame (.ref e) env) Q E s := by
  have hene : ∀ {hp : Heap}, hp.FunFrames {} (env :: outer) → ∀ hd', hp.get? e = some (wfT d t0 hd') → e ∉ (env :: outer).filterMap (·.frame) := fun hl hd' he hm => by
    obtain ⟨_, o, ho, hnf⟩ := hl.mem hm
    rw [he] at ho; injection ho with ho; subst ho; exact hnf _ rfl
  have tail : ∀ (s₁ : Shared) (hadNext : Bool), s₁.heap.FunFrames {} (env :: outer) → s₁.heap.get? e = some (wfT d t0 hd) →
      (∀ h' T', Moved hd e ((env :: outer).filterMap (·.frame)) s₁.heap h' → h'.get? e = some (wfT d t0 (.ref T')) → s₁.heap.get? T' = none → TbAt h' e T' (rawInt L) → Q () { s₁ with heap := h' }) →
      wpAny M A (do setField (.ref e) 1 (← EntryCells.newEntry hd (← frameOf env) .none (rawInt L) .none (← entryPlaceOf L hadNext))) Q E s₁ := by
    intro s₁ hadNext hl₁ he₁ k
    refine wpAny_bind (wpAny_frameOf_fun hfr hl₁ hf fun h₁ hs₁ => ?_)
    refine wpAny_bind (wpAny_entryPlaceOf fun pl hpl => ?_)
    unfold EntryCells.newEntry newFields
    refine wpAny_bind (wpAny_newObj_type ?_ (hpl.sizeOk5 _ _ _ _ _))
    have e1 : h₁.get? e = some (wfT d t0 hd) := (hs₁.2.1 e (hene hl₁ hd he₁)).trans he₁
    have e2 := Heap.get?_push_of_some (h := h₁) { cls := .type "traceback", dict := none, data := .fields ([hd, .ref L, .none, rawInt L, .none] ++ (if pl.isEmpty then List.replicate 6 Value.none else pl)).toArray } e1
    refine wpAny_setField e2 rfl (by simp) (k _ h₁.objs.size ?_ ?_ ?_ ?_)
    · have nT : ∀ b o, s₁.heap.get? b = some o → b ≠ h₁.objs.size := fun b o hb => Nat.ne_of_lt (hs₁.1 ▸ Heap.lt_size hb)
      refine ⟨fun b o hb hbe _ hbf => ?_, fun b o hb hbe _ => ?_⟩
      · exact (Heap.get?_update_other _ _ (Ne.symm hbe)).trans (Heap.get?_push_of_some _ ((hs₁.2.1 b hbf).trans hb))
      · obtain ⟨sl, hsl⟩ := hs₁.2.2 b o hb
        exact ⟨sl, (Heap.get?_update_other _ _ (Ne.symm hbe)).trans (Heap.get?_push_of_some _ hsl)⟩
    · exact Heap.get?_update_self _ e2 rfl
    · exact Heap.get?_none_of_le (Nat.le_of_eq hs₁.1.symm)
    · have hTe : h₁.objs.size ≠ e := Nat.ne_of_gt (Heap.lt_size e1)
      refine ⟨hTe, _, _, (Heap.get?_update_other _ _ (Ne.symm hTe)).trans (Heap.get?_push_size h₁ rfl), rfl, ?_⟩
      rcases hpl with rfl | ⟨_, _, _, _, _, _, _, rfl⟩ <;> simp
  unfold noteFrame
  simp only [hf]
  refine wpAny_bind (wpAny_field he rfl (x := hd) rfl ?_)
  rcases hh with rfl | ⟨T, rfl, hTe, oT, ts, hT, hdT, h3⟩
  · rw [if_neg (by decide)]
    exact tail s _ hl he h
  · rw [if_pos (show (Value.ref T != Value.none) = true from by simp)]
    refine wpAny_bind (wpAny_field hT hdT h3 ?_)
    rw [if_neg (show ¬ ((Value.none == rawInt L) = true) from by simp [rawInt])]
    refine wpAny_bind (wpAny_setField hT hdT (Array.getElem?_eq_some_iff.mp h3).1 ?_)
    have other : ∀ b, b ≠ T → (s.heap.update T (Obj.mapFields (·.setIfInBounds 3 Value.none))).get? b = s.heap.get? b := fun b hb => Heap.get?_update_other _ _ (Ne.symm hb)
    have noRecord : ∀ b o, s.heap.get? b = some o → (∀ vs, o.data ≠ .fields vs) → b ≠ T := fun b o hb hnf q => by
      rw [q, hT] at hb; injection hb with hb; subst hb; exact hnf ts hdT
    refine tail { s with heap := s.heap.update T (Obj.mapFields (·.setIfInBounds 3 Value.none)) } _ (hl.of_keeps fun b o hb hnf => ⟨o, (other b (noRecord b o hb hnf)).trans hb, rfl⟩) ((other e (Ne.symm hTe)).trans he) fun h' T' hm h1 h2 h3' => ?_
    refine h h' T' ⟨fun b o hb hbe hbT hbf => hm.1 b o ((other b fun q => hbT (by rw [q])).trans hb) hbe hbT hbf, fun b o hb hbe hbT => hm.2 b o ((other b fun q => hbT (by rw [q])).trans hb) hbe hbT⟩ h1 ?_ h3'
    cases hq : s.heap.get? T' with
    | none => rfl
    | some o =>
      by_cases hTT : T' = T
      · subst hTT
        have := Heap.get?_update_self (Obj.mapFields (·.setIfInBounds 3 Value.none)) hT (Obj.isFreed_of_fields (Obj.data_mapFields hdT _))
        rw [this] at h2; cases h2
      · have := (other T' hTT).trans hq
        rw [this] at h2; cases h2
theorem flight_core {T : Addr} {fl : Value} {Q : Unit → Shared → Prop} (he : s.heap.get? e = some (wfT d t0 (.ref T))) (ht : TbAt s.heap e T fl)
    (h : ∀ h', (∀ b o, s.heap.get? b = some o → b ≠ T → h'.get? b = some o) → TbAt h' e T .none → Q () { s with heap := h' }) : wpAny M A (setFlight (.ref e) none) Q E s := by
  obtain ⟨hTe, oT, ts, hT, hdT, h3⟩ := ht
  unfold setFlight
  refine wpAny_bind (wpAny_field he rfl (x := .ref T) rfl ?_)
  rw [if_pos (show (Value.ref T != Value.none) = true from by simp)]
  have hsz3 : 3 < ts.size := (Array.getElem?_eq_some_iff.mp h3).1
  refine wpAny_setField hT hdT hsz3 (h _ (fun b o hb hbT => (Heap.get?_update_other _ _ (Ne.symm hbT)).trans hb) ?_)
  exact ⟨hTe, _, _, Heap.get?_update_self _ hT (Obj.isFreed_of_fields (Obj.data_mapFields hdT _)), Obj.data_mapFields hdT _, by simp [hsz3]⟩
theorem leave_core {Q : Unit → Shared → Prop} (hfr : A.frames = some (env :: outer)) (hl : s.heap.FunFrames {} (env :: outer)) (hf : env.frame = some L) (he : s.heap.get? e = some (wfT d t0 hd))
    (hh : hd = .none ∨ ∃ T, hd = .ref T ∧ TbAt s.heap e T .none)
    (h : ∀ h' T', Moved hd e ((env :: outer).filterMap (·.frame)) s.heap h' → h'.get? e = some (wfT d t0 (.ref T')) → s.heap.get? T' = none → TbAt h' e T' .none → Q () { s with heap := h' }) :
    wpAny M A (leaving env (.ref e)) Q E s := by
  unfold leaving
  refine wpAny_bind (note_core hfr hl hf he hh fun h₁ T' hm h1 h2 h3 => ?_)
  refine flight_core (s := { s with heap := h₁ }) h1 h3 fun h' k h4 => ?_
  have nT : ∀ b o, s.heap.get? b = some o → b ≠ T' := fun b o hb q => by rw [q, h2] at hb; cases hb
  refine h h' T' ⟨fun b o hb hbe hbT hbf => k b o (hm.1 b o hb hbe hbT hbf) (nT b o hb), fun b o hb hbe hbT => ?_⟩ (k e _ h1 (Ne.symm h3.1)) h2 h4
  obtain ⟨sl, hsl⟩ := hm.2 b o hb hbe hbT
  exact ⟨sl, k b _ hsl (nT b o hb)⟩
end

end
section
theorem off_Leave : True := by
  w_top off
  trivial
theorem ff_nil {h base : Heap} : ∀ {l : List Env}, h.FunFrames base l → h.FunFrames {} l
  | [], _ => trivial
  | _ :: _, ⟨a, ⟨L, o, b, _, c, d⟩, r⟩ => ⟨a, ⟨L, o, b, Heap.get?_none_of_le (Nat.zero_le _), c, d⟩, ff_nil r⟩
/-- a heap that differs from another in the frames' slots alone, and by what is new -/
structure Rest (G : Heap) (l : List Env) (h : Heap) : Prop where
  keep : ∀ b o, G.get? b = some o → b ∉ l.filterMap (·.frame) → h.get? b = some o
  up : ∀ b o, G.get? b = some o → ∃ sl, h.get? b = some { o with slots := sl }
/-- a WordFault in flight, with its spot, as its reader's caller sees it -/
def WR (w : World) (G : Heap) (l : List Env) (spot : Int) (news : List (Addr × Obj)) (e : Addr) (h : Heap) : Prop :=
  (∃ d t0 T x tx ti t1 t2, h.get? e = some (wfT d t0 (.ref T)) ∧ h.get? d = some (wfDict w (.str x tx) (.int spot ti) t1 t2) ∧ TbAt h e T .none ∧ G.get? e = none ∧ G.get? d = none ∧ G.get? T = none ∧
    ∀ p ∈ news, h.get? p.1 = some p.2 ∧ p.1 ≠ e ∧ p.1 ≠ T) ∧ Rest G l h
theorem WR.sub {w : World} {G h : Heap} {l : List Env} {spot : Int} {news news' : List (Addr × Obj)} {e : Addr} (R : WR w G l spot news' e h) (hs : ∀ p ∈ news, p ∈ news') : WR w G l spot news e h := by
  obtain ⟨⟨d, t0, T, x, tx, ti, t1, t2, a1, a2, a3, a4, a5, a6, a7⟩, r⟩ := R
  exact ⟨⟨d, t0, T, x, tx, ti, t1, t2, a1, a2, a3, a4, a5, a6, fun p hp => a7 p (hs p hp)⟩, r⟩
theorem mem_frames {env : Env} {l : List Env} {b : Addr} : b ∈ (env :: l).filterMap (·.frame) ↔ env.frame = some b ∨ b ∈ l.filterMap (·.frame) := by
  simp only [List.mem_filterMap, List.mem_cons]
  constructor
  · rintro ⟨x, rfl | hx, hb⟩
    · exact .inl hb
    · exact .inr ⟨x, hx, hb⟩
  · rintro (h | ⟨x, hx, hb⟩)
    · exact ⟨env, .inl rfl, h⟩
    · exact ⟨x, .inr hx, hb⟩
theorem fr_none {g h : Heap} {L : Addr} {m : Str → Option Value} (F : Fr g L h m) : g.get? L = none := Heap.get?_none_of_le F.above
section
variable {M : Model} {w : World} {A₀ : Around} {base g G : Heap} {outer : List Env} {L f : Addr} {m : Str → Option Value} {qual : Str} {scope : Scope} {cd : Value} {s' : Shared} {e : Addr} {Q : Unit → Shared → Prop} {E : Value → Shared → Prop}
theorem leaveW1 {spot : Int} {d t0 : Addr} {x : Str} {tx ti t1 t2 : Tok} {news : List (Addr × Obj)} (B : Below A₀ base outer g) (F : Fr g L s'.heap m)
    (N : News g L s'.heap ((e, wfT d t0 .none) :: (d, wfDict w (.str x tx) (.int spot ti) t1 t2) :: news)) (hr : ∀ p ∈ news, p.1 ≠ e) (hk : scope.kind = .function)
    (hQ : ∀ h', WR w g outer spot news e h' → Q () { s' with heap := h' }) :
    wpAny M (A₀.deeper (envOf qual scope L f cd)) (leaving (envOf qual scope L f cd) (.ref e)) Q E s' := by
  have K' := B.push (name := qual) (a := f) (cd := cd) F hk
  obtain ⟨he, heL, heg⟩ := N _ (.head _)
  obtain ⟨hd, hdL, hdg⟩ := N _ (.tail _ (.head _))
  have hde : d ≠ e := fun q => by
    have he' := he
    dsimp only at he hd
    rw [q, he] at hd
    injection hd with hd
    have := congrArg Obj.data hd
    cases this
  refine leave_core (hd := .none) K'.stack (ff_nil K'.frames) rfl he (.inl rfl) fun h' T' mv h1 h2 h3 => hQ h' ⟨⟨d, t0, T', x, tx, ti, t1, t2, h1, ?_, h3, heg, hdg, ?_, fun p hp => ?_⟩, ⟨fun b o hb hn => ?_, fun b o hb => ?_⟩⟩
  · refine mv.1 d _ hd hde (by simp) fun hm => ?_
    rcases mem_frames.mp hm with q | q
    · exact hdL (Option.some.inj q).symm
    · obtain ⟨_, o, ho, _⟩ := B.frames.mem q
      rw [hdg] at ho; cases ho
  · cases q : g.get? T' with
    | none => rfl
    | some o => have := F.keep _ _ q; rw [h2] at this; cases this
  · obtain ⟨p1, p2, p3⟩ := N p (.tail _ (.tail _ hp))
    refine ⟨mv.1 _ _ p1 (hr p hp) (by simp) fun hm => ?_, hr p hp, fun q => by rw [q, h2] at p1; cases p1⟩
    rcases mem_frames.mp hm with q | q
    · exact p2 (Option.some.inj q).symm
    · obtain ⟨_, o, ho, _⟩ := B.frames.mem q
      rw [p3] at ho; cases ho
  · have hbe : b ≠ e := fun q => by rw [q, heg] at hb; cases hb
    refine mv.1 b o (F.keep b o hb) hbe (by simp) fun hm => ?_
    rcases mem_frames.mp hm with q | q
    · have q' : b = L := (Option.some.inj q).symm
      rw [q', fr_none F] at hb; cases hb
    · exact hn q
  · have hbe : b ≠ e := fun q => by rw [q, heg] at hb; cases hb
    exact mv.2 b o (F.keep b o hb) hbe (by simp)
theorem leaveW2 {spot : Int} {news news' : List (Addr × Obj)} {h₁ : Heap} (B : Below A₀ base outer g) (F : Fr g L G m) (R : WR w G (envOf qual scope L f cd :: outer) spot news' e s'.heap) (N : News g L h₁ news) (hsub : ∀ p ∈ news, p ∈ news') (hk : scope.kind = .function)
    (hQ : ∀ h', WR w g outer spot news e h' → Q () { s' with heap := h' }) :
    wpAny M (A₀.deeper (envOf qual scope L f cd)) (leaving (envOf qual scope L f cd) (.ref e)) Q E s' := by
  have K' := B.push (name := qual) (a := f) (cd := cd) F hk
  obtain ⟨⟨d, t0, T, x, tx, ti, t1, t2, he, hd, htb, heg, hdg, hTg, hnw⟩, R1, R2⟩ := R
  have no : ∀ {b}, G.get? b = none → g.get? b = none := fun {b} hb => by
    cases q : g.get? b with
    | none => rfl
    | some o => have := F.keep _ _ q; rw [hb] at this; cases this
  have hde : d ≠ e := fun q => by
    rw [q, he] at hd
    injection hd with hd
    have := congrArg Obj.data hd
    cases this
  have hdT : d ≠ T := fun q => by
    obtain ⟨_, oT, ts, hT, hdT, _⟩ := htb
    rw [q, hT] at hd
    injection hd with hd
    rw [hd] at hdT
    cases hdT
  have ff : s'.heap.FunFrames {} (envOf qual scope L f cd :: outer) := (ff_nil K'.frames).of_keeps fun b o hb _ => by
    obtain ⟨sl, hs⟩ := R2 b o hb
    exact ⟨_, hs, rfl⟩
  refine leave_core (hd := .ref T) K'.stack ff rfl he (.inr ⟨T, rfl, htb⟩) fun h' T' mv h1 h2 h3 => hQ h' ⟨⟨d, t0, T', x, tx, ti, t1, t2, h1, ?_, h3, no heg, no hdg, ?_, fun p hp => ?_⟩, ⟨fun b o hb hn => ?_, fun b o hb => ?_⟩⟩
  · refine mv.1 d _ hd hde (fun q => hdT (Value.ref.inj q)) fun hm => ?_
    obtain ⟨_, o, ho, _⟩ := K'.frames.mem hm
    rw [hdg] at ho; cases ho
  · cases q : g.get? T' with
    | none => rfl
    | some o =>
      obtain ⟨sl, hs⟩ := R2 _ _ (F.keep _ _ q)
      rw [h2] at hs; cases hs
  · obtain ⟨p1, p2, p3⟩ := hnw p (hsub p hp)
    obtain ⟨_, q2, q3⟩ := N p hp
    refine ⟨mv.1 _ _ p1 p2 (fun q => p3 (Value.ref.inj q)) fun hm => ?_, p2, fun q => by rw [q, h2] at p1; cases p1⟩
    rcases mem_frames.mp hm with q | q
    · exact q2 (Option.some.inj q).symm
    · obtain ⟨_, o, ho, _⟩ := B.frames.mem q
      rw [q3] at ho; cases ho
  · have hG := F.keep b o hb
    have hbn : b ∉ (envOf qual scope L f cd :: outer).filterMap (·.frame) := fun hm => by
      rcases mem_frames.mp hm with q | q
      · have q' : b = L := (Option.some.inj q).symm
        rw [q', fr_none F] at hb; cases hb
      · exact hn q
    exact mv.1 b o (R1 b o hG hbn) (fun q => by rw [q, heg] at hG; cases hG) (fun q => by rw [Value.ref.inj q, hTg] at hG; cases hG) hbn
  · have hG := F.keep b o hb
    obtain ⟨sl, hs⟩ := R2 b o hG
    obtain ⟨sl', hs'⟩ := mv.2 b _ hs (fun q => by rw [q, heg] at hG; cases hG) (fun q => by rw [Value.ref.inj q, hTg] at hG; cases hG)
    exact ⟨sl', hs'⟩
end
theorem raisedW1 {M : Model} {w : World} {A₀ : Around} {base g h : Heap} {outer : List Env} {L f : Addr} {m : Str → Option Value} {qual : Str} {scope : Scope} {cd : Value} {s : Shared} {tk : Nat} {e : Addr} {E : Value → Shared → Prop} {spot : Int} {d t0 : Addr} {x : Str} {tx ti t1 t2 : Tok} {news : List (Addr × Obj)}
    (B : Below A₀ base outer g) (F : Fr g L h m) (N : News g L h ((e, wfO (some d) t0) :: (d, wfDict w (.str x tx) (.int spot ti) t1 t2) :: news)) (hr : ∀ p ∈ news, p.1 ≠ e)
    (hQ : ∀ h', WR w g outer spot news e h' → E (.ref e) { s with heap := h', toks := tk }) (hk : scope.kind = .function := by rfl) :
    wpAny M (A₀.deeper (envOf qual scope L f cd)) (leaving (envOf qual scope L f cd) (.ref e)) (fun _ s'' => E (.ref e) s'') (fun e' s'' => E e' s'') { s with heap := h, toks := tk } :=
  leaveW1 B F N hr hk hQ
theorem raisedW2 {M : Model} {w : World} {A₀ : Around} {base g G h h₁ : Heap} {outer : List Env} {L f : Addr} {m : Str → Option Value} {qual : Str} {scope : Scope} {cd : Value} {s : Shared} {tk : Nat} {e : Addr} {E : Value → Shared → Prop} {spot : Int} {news news' : List (Addr × Obj)}
    (B : Below A₀ base outer g) (F : Fr g L G m) (R : WR w G (envOf qual scope L f cd :: outer) spot news' e h) (N : News g L h₁ news) (hsub : ∀ p ∈ news, p ∈ news')
    (hQ : ∀ h', WR w g outer spot news e h' → E (.ref e) { s with heap := h', toks := tk }) (hk : scope.kind = .function := by rfl) :
    wpAny M (A₀.deeper (envOf qual scope L f cd)) (leaving (envOf qual scope L f cd) (.ref e)) (fun _ s'' => E (.ref e) s'') (fun e' s'' => E e' s'') { s with heap := h, toks := tk } :=
  leaveW2 (s' := { s with heap := h, toks := tk }) B F R N hsub hk hQ
/-- behind a flight: a base that fits -/
theorem ground {A₀ : Around} {base g G h : Heap} {outer : List Env} {env : Env} {L : Addr} {m : Str → Option Value} (K : Below A₀ base outer g) (F : Fr g L G m) (hf : env.frame = some L) (R : Rest G (env :: outer) h) :
    ∃ g', KtsTurn (outer.filterMap (·.frame)) g g' ∧ Fr g' L h m ∧ Below A₀ base outer g' := by
  obtain ⟨T, S⟩ := kts_turn_at (h := h) (fs := outer.filterMap (·.frame)) (g := g)
    (fun b hb => by
      obtain ⟨_, o, ho, _⟩ := K.frames.mem hb
      exact ⟨o, ho⟩)
    (fun b o e nm => R.keep b o (F.keep b o e) fun hm => by
      rcases mem_frames.mp hm with z | z
      · rw [hf] at z
        have z' : b = L := (Option.some.inj z).symm
        rw [z', fr_none F] at e; cases e
      · exact nm z)
    (fun b o e hm => R.up b o (F.keep b o e))
  obtain ⟨oL, es, ep, hL, r⟩ := F.ns
  obtain ⟨sl, hsl⟩ := R.up L oL hL
  refine ⟨_, T, ⟨⟨_, es, ep, hsl, r⟩, S, by rw [T.size]; exact F.above⟩, ⟨K.stack, fun b o e => T.other b o (K.stays b o e) (fun hm => by
    rw [(K.frames.mem hm).1] at e; cases e), K.frames.of_keeps fun b o e _ => ?_⟩⟩
  obtain ⟨sl, hs⟩ := T.up e
  exact ⟨_, hs, rfl⟩
theorem ground_news {g g' h h₁ : Heap} {fs : List Addr} {L : Addr} {news : List (Addr × Obj)} (N : News g L h₁ news) (hk : ∀ p ∈ news, h.get? p.1 = some p.2) (T : KtsTurn fs g g') : News g' L h news := fun p hp =>
  ⟨hk p hp, (N p hp).2.1, T.none_ _ (N p hp).2.2⟩
/-- what a turn of the base and what is kept above it make of a caller's heap -/
theorem rest_of_turn {g g' h : Heap} {l : List Env} {L : Addr} {m : Str → Option Value} (T : KtsTurn (l.filterMap (·.frame)) g g') (F : Fr g' L h m) : Rest g l h :=
  ⟨fun b o hb hn => F.keep _ _ (T.other b o hb hn), fun b o hb => by
    obtain ⟨sl, hs⟩ := T.up hb
    exact ⟨sl, F.keep _ _ hs⟩⟩

end
section
theorem off_Raise : True := by
  w_top off
  trivial
theorem raise_made {w : World} {A : Around} {E : Value → Shared → Prop} {s : Shared} {env : Env} {x : Sem Value} {Q : Flow → Shared → Prop} (hh : A.handled = none)
    (h : wpAny (model PR w) A x (fun v s₁ => ∃ e d t, v = .ref e ∧ (Mine.frag.heap_1 w.params).In s₁.heap ∧ s₁.heap.get? e = some (wfT d t .none) ∧ E (.ref e) s₁) E s) :
    wpAny (model PR w) A (raiseStmt env (some x) none) Q E s := by
  unfold raiseStmt
  refine wpAny_bind (wpAny_mono h (fun v s₁ h₁ => ?_) fun _ _ x => x)
  obtain ⟨e, d, t, rfl, X, he, hE⟩ := h₁
  have hC : s₁.heap.get? 45 = some _ := X 45 _ (by k_is)
  have hS := wf_subB X
  obtain ⟨hp, g, dr, tk, os⟩ := s₁
  repeat (first | with_reducible refine wpAny_loadPart_at he ?_ | with_reducible refine wpAny_loadPart_at hC ?_ | (with_reducible show wpAny _ _ (isSubtype (.ref 45) _) _ _ _; refine hS.here ?_) | wp_step)
  exact wpAny_raiseNew_none hh hE
theorem raise_wf {w : World} {A : Around} {E : Value → Shared → Prop} {s : Shared} {env : Env} {x : PySem.Expr} {pos : Pos} {Q : Flow → Shared → Prop} (hh : A.handled = none)
    (h : wpAny (model PR w) A (eval x env) (fun v s₁ => ∃ e d t, v = .ref e ∧ (Mine.frag.heap_1 w.params).In s₁.heap ∧ s₁.heap.get? e = some (wfT d t .none) ∧ E (.ref e) s₁) E s) :
    wpAny (model PR w) A (exec (.Raise (some x) none pos) env) Q E s := by
  rw [arm_exec_Raise]
  refine wpAny_bind (wpAny_standAt (raise_made hh ?_))
  exact wpAny_bind (wpAny_mono h (fun v s₁ h₁ => wpAny_bind (wpAny_standAt (wpAny_pure h₁))) fun _ _ x => x)

end
section
theorem off_LoopText : True := by
  w_top off
  trivial
section
variable {prog : Program} {w : World} {A : Around} {E : Value → Shared → Prop} {s : Shared} {env : Env} {h₀ : Heap} {x : Str} {body : List Stmt} {Q : Flow → Shared → Prop}
/-- a loop over a text's signs that leaves the ledger -/
theorem loop_text {xs : List Nat} {tx : Tok} {m₀ : Str → Option Value} {news : List (Addr × Obj)} (J : Nat → (Str → Option Value) → Prop) (hh : A.handled = none) (F : Fr h₀ env.locals s.heap m₀) (N : News h₀ env.locals s.heap news) (hj : J 0 m₀)
    (turn : ∀ i (hi : i < xs.length) t m₁ h tk own, OwnOff own (news.map (·.1)) → J i m₁ → Fr h₀ env.locals h (fun y => if y = x then some (.str (S [xs[i]]) t) else m₁ y) → News h₀ env.locals h (news ++ own) →
      wpAny (model prog w) A (execs body env) (InvPostN h₀ env.locals (fun m nx => nx = news ∧ J (i + 1) m) own (news.map (·.1)) { s with heap := h, toks := tk } Q) E { s with heap := h, toks := tk })
    (done : ∀ m₁ h tk, J xs.length m₁ → Fr h₀ env.locals h m₁ → News h₀ env.locals h news → Q .next { s with heap := h, toks := tk }) :
    wpAny (model prog w) A (pyIter (.str (S xs) tx)) (fun it s₂ => LoopAtV prog w A h₀ env x body Q E it s₂) E s := by
  refine wpAny_pyIter_str fun o St hW hst => ?_
  have W := hW A hh
  refine loop_invN (fun i m nx => nx = news ∧ J i m) W ?_ ?_ ?_ ?_ hst (F.push _) (fun p hp => ⟨Heap.get?_push_of_some _ (N p hp).1, (N p hp).2⟩) ⟨rfl, hj⟩ ?_ ?_
  · intro hm
    exact absurd F.ns.lt ((List.mem_singleton.mp hm) ▸ Nat.lt_irrefl _)
  · intro b' hb
    rw [List.mem_singleton.mp hb]
    exact next_is_new F
  · intro p hp hI
    exact absurd (Heap.lt_size (N p hp).1) ((List.mem_singleton.mp hI) ▸ Nat.lt_irrefl _)
  · intro p hp hI
    exact absurd (Heap.lt_size (N p hp).1) ((List.mem_singleton.mp hI) ▸ Nat.lt_irrefl _)
  · rintro i v m₁ nx h tk own hi ⟨n, u, hn, rfl⟩ _ hoff ⟨rfl, hJ⟩ F₁ N₁
    have hi' : i < xs.length := by simpa using hi
    have e : n = xs[i] := by
      have : (S xs).cps[i]? = some xs[i] := by simp [hi']
      rw [this] at hn; exact (Option.some.inj hn).symm
    subst e
    exact turn i hi' u m₁ h tk own hoff hJ F₁ N₁
  · rintro m₁ nx h tk ⟨rfl, hJ⟩ F₁ N₁
    have e : (S xs).cps.size = xs.length := by simp
    rw [e] at hJ
    exact done m₁ h tk hJ F₁ N₁
/-- ... and folds an int -/
theorem acc_again {m₀ : Str → Option Value} {acc x : Str} {v v' : Int} {t t' : Tok} {u u' : Option Value} :
    (fun y => if y = acc then some (.int v' t') else if y = x then u' else if y = acc then some (.int v t) else if y = x then u else m₀ y) = fun y => if y = acc then some (.int v' t') else if y = x then u' else m₀ y := by
  funext y
  by_cases h1 : y = acc
  · simp only [h1, if_true]
  · by_cases h2 : y = x
    · simp only [h1, h2, if_true, if_false]
    · simp only [h1, h2, if_false]
theorem loop_acc {xs : List Nat} {tx t0 : Tok} {m₀ : Str → Option Value} {news : List (Addr × Obj)} {acc : Str} {v0 : Int} (P : Nat → Int → Prop) (hh : A.handled = none) (F : Fr h₀ env.locals s.heap m₀) (N : News h₀ env.locals s.heap news) (hm : m₀ acc = some (.int v0 t0)) (h0 : P 0 v0)
    (turn : ∀ i (hi : i < xs.length) t v tv u h tk own, OwnOff own (news.map (·.1)) → P i v → Fr h₀ env.locals h (fun y => if y = x then some (.str (S [xs[i]]) t) else if y = acc then some (.int v tv) else if y = x then u else m₀ y) → News h₀ env.locals h (news ++ own) →
      wpAny (model prog w) A (execs body env) (InvPostN h₀ env.locals (fun mm nx => nx = news ∧ ∃ v' t' u', P (i + 1) v' ∧ mm = fun y => if y = acc then some (.int v' t') else if y = x then u' else m₀ y) own (news.map (·.1)) { s with heap := h, toks := tk } Q) E { s with heap := h, toks := tk })
    (done : ∀ v t u h tk, P xs.length v → Fr h₀ env.locals h (fun y => if y = acc then some (.int v t) else if y = x then u else m₀ y) → News h₀ env.locals h news → Q .next { s with heap := h, toks := tk }) :
    wpAny (model prog w) A (pyIter (.str (S xs) tx)) (fun it s₂ => LoopAtV prog w A h₀ env x body Q E it s₂) E s := by
  refine loop_text (fun i mm => ∃ v t u, P i v ∧ mm = fun y => if y = acc then some (.int v t) else if y = x then u else m₀ y) hh F N ⟨v0, t0, m₀ x, h0, ?_⟩ ?_ ?_
  · funext y
    by_cases h1 : y = acc
    · rw [if_pos h1, h1, hm]
    · rw [if_neg h1]
      by_cases h2 : y = x
      · rw [if_pos h2, h2]
      · rw [if_neg h2]
  · rintro i hi t m₁ h tk own hoff ⟨v, tv, u, hP, rfl⟩ F₁ N₁
    exact turn i hi t v tv u h tk own hoff hP F₁ N₁
  · rintro m₁ h tk ⟨v, t, u, hP, rfl⟩ F₁ N₁
    exact done v t u h tk hP F₁ N₁
end

end
section
theorem off_Cut : True := by
  w_top off
  trivial
/-- a walk of a part whose answer is one, cut off from what follows -/
theorem cut_bool {M : Model} {A : Around} {E : Value → Shared → Prop} {g h : Heap} {L : Addr} {m : Str → Option Value} {news : List (Addr × Obj)} {s : Shared} {tk : Nat} {t : Sem Bool} {Q : Bool → Shared → Prop} (c0 : Bool) (F : Fr g L h m) (N : News g L h news)
    (h1 : wpAny M A t (fun c s' => ∃ h' tk', s' = { s with heap := h', toks := tk' } ∧ Fr g L h' m ∧ News g L h' news ∧ c = c0) E { s with heap := h, toks := tk })
    (h2 : ∀ h' tk', Fr g L h' m → News g L h' news → Q c0 { s with heap := h', toks := tk' }) : wpAny M A t Q E { s with heap := h, toks := tk } :=
  wpAny_mono h1 (fun c s' ⟨h', tk', e, F', N', q⟩ => by subst e; subst q; exact h2 h' tk' F' N') fun _ _ e => e

end
section
theorem off_Enter : True := by
  w_top off
  trivial
section
variable {prog : Program} {w : World} {A A₀ : Around} {s : Shared} {K : Frag} {L : Addr} {h₀ base : Heap} {m mg mb : Str → Option Value} {news : List (Addr × Obj)} {p : Program} {loose : List Str} {mean : ExcName → Option Value}
/-- a call whose callee's base may turn: no word of the caller's frame at its end -/
theorem code_defU {env : Env} {outer : List Env} {R : Result → Shared → Prop} {name qual : Str} {params : Arguments} {body : List Stmt} {scope : Scope} {dV kV doc pm cdv ct oc : Value} {an od : Option Addr} {osl : Array (Option Value)} {f : Addr} {args : Args} {binds : List (Str × Value)}
    (B : Below A₀ base outer h₀) (F : Fr h₀ L s.heap m) (X₀ : K.In h₀) (N : News h₀ L s.heap news) (T : Top p loose mean mg mb h₀) (hA : A.frames = some (env :: outer)) (hf : env.frame = some L) (hke : env.scope.kind = .function)
    (ho : K.lookup f = some ⟨oc, od, .func (fnOf name qual params body scope dV kV doc pm an cdv ct), osl⟩) (hcd : codeIn K cdv qual = true) (hroom : A.depth < recursionLimit)
    (hbind : BindsTo s (fnOf name qual params body scope dV kV doc pm an cdv ct) args binds) (hloc : ∀ y ∈ binds, scope.names.lookup y.1 = some .local)
    (h : ∀ g L' h₁, Fr h₀ L g m → Fr g L' h₁ (fun y => binds.reverse.lookup y) → News g L' h₁ news → Below A base (env :: outer) g → K.In g → Top p loose mean mg mb g →
      wpAny (model prog w) (A.deeper (envOf qual scope L' f cdv)) (execs body (envOf qual scope L' f cdv))
        (fun fl s' => R (.ok (.ret (match fl with | .ret v => v | _ => .none))) s')
        (fun e s' => wpAny (model prog w) (A.deeper (envOf qual scope L' f cdv)) (leaving (envOf qual scope L' f cdv) e) (fun _ s'' => R (.error e) s'') (fun e' s'' => R (.error e') s'') s')
        { s with heap := h₁, toks := s.toks + binds.length })
    (hco : scope.isCoroutine = false) (hgen : scope.isGenerator = false) (hk : scope.kind = .function)
    (hcell : ∀ x ∈ scope.names, x.2 ≠ .cell) : codeAny (model prog w) A (.call (.ref f) args) R s := by
  obtain ⟨FG, BG, st, lv⟩ := groundX (R := R) B F N hA hf hke
  refine codeAny_call_def (fd := fnX name qual params body scope [] dV kV doc pm an cdv ct) (body := body) (binds := binds) hroom ((X₀.keeps F.keep) _ _ ho) rfl (T.nolimit.keeps F.keep) (codeRec_of (X₀.keeps F.keep) hcd) rfl hbind hcell hloc (fun h₁ hns hk₁ => ?_) hco hgen hk
  exact h _ s.heap.objs.size h₁ FG ⟨hns, fun b o e => hk₁ b o (of_hideAll _ e), Nat.le_of_eq (hideAll_size _ _)⟩
    (fun p hp => ⟨hk₁ _ _ (N p hp).1, Nat.ne_of_lt (Heap.lt_size (N p hp).1), hideAll_none _ (List.mem_map_of_mem hp)⟩) BG (X₀.keeps st) (T.keeps st)
theorem code_defCU {env : Env} {outer : List Env} {R : Result → Shared → Prop} {name qual : Str} {params : Arguments} {body : List Stmt} {scope : Scope} {dV kV doc pm cdv ct oc : Value} {an od : Option Addr} {osl : Array (Option Value)} {f : Addr} {args : Args} {binds : List (Str × Value)}
    (B : Below A₀ base outer h₀) (F : Fr h₀ L s.heap m) (X₀ : K.In h₀) (N : News h₀ L s.heap news) (T : Top p loose mean mg mb h₀) (hA : A.frames = some (env :: outer)) (hf : env.frame = some L) (hke : env.scope.kind = .function)
    (ho : K.lookup f = some ⟨oc, od, .func (fnOf name qual params body scope dV kV doc pm an cdv ct), osl⟩) (hcd : codeIn K cdv qual = true) (hroom : A.depth < recursionLimit)
    (hbind : BindsTo s (fnOf name qual params body scope dV kV doc pm an cdv ct) args binds) (hkind : (binds.all fun y => scope.names.lookup y.1 == some .local || scope.names.lookup y.1 == some .cell) = true)
    (hnd : ((cellsFrom 0 scope.names []).map (·.1)).Nodup)
    (h : ∀ g L' h₁ tk cells, Fr h₀ L g m → Fr g L' h₁ (bindL (envOfC qual scope L' f cdv).kindOf binds fun _ => none) → News g L' h₁ (cells ++ news) →
      CellsAre (bindC (envOfC qual scope L' f cdv).kindOf binds fun _ => none) (cellsFrom (L' + 1) scope.names []) cells → Below A base (env :: outer) g → K.In g → Top p loose mean mg mb g → (∀ p ∈ news, p.1 < L') →
      wpAny (model prog w) (A.deeper (envOfC qual scope L' f cdv)) (execs body (envOfC qual scope L' f cdv))
        (fun fl s' => R (.ok (.ret (match fl with | .ret v => v | _ => .none))) s')
        (fun e s' => wpAny (model prog w) (A.deeper (envOfC qual scope L' f cdv)) (leaving (envOfC qual scope L' f cdv) e) (fun _ s'' => R (.error e) s'') (fun e' s'' => R (.error e') s'') s')
        { s with heap := h₁, toks := tk })
    (hco : scope.isCoroutine = false) (hgen : scope.isGenerator = false) (hk : scope.kind = .function) : codeAny (model prog w) A (.call (.ref f) args) R s := by
  obtain ⟨FG, BG, st, lv⟩ := groundX (R := R) B F N hA hf hke
  refine codeAny_call_function hroom ((X₀.keeps F.keep) _ _ ho) rfl hco hgen rfl (codeRec_of (X₀.keeps F.keep) hcd) (hbind _ _ _ _ ?_)
  refine wpAny_newFunctionEnv_cells hk (kindsX hkind _) fun env' he s' x => ?_
  subst he
  refine ⟨(T.nolimit.keeps F.keep).keeps x.toInCall.keep, codeAny_func ?_⟩
  obtain ⟨h₁, tk, rfl, _⟩ := x.done
  have hk₁ := x.toInCall.keep
  obtain ⟨cells, NC, Y⟩ := Cl.news (h₀ := s.heap) (Nat.le_refl _) fun n c hm => ⟨x.cell n c (lookup_of_mem_nodup (cellsFrom_names scope.names 0 (s.heap.objs.size + 1) [] [] rfl ▸ hnd) hm), x.above n c hm⟩
  refine h _ s.heap.objs.size h₁ tk cells FG ⟨x.toInCall.ns, fun b o e => hk₁ b o (of_hideAll _ e), Nat.le_of_eq (hideAll_size _ _)⟩ (fun p hp => ?_) Y BG (X₀.keeps st) (T.keeps st) (fun p hp => Heap.lt_size (N p hp).1)
  rcases List.mem_append.mp hp with hp | hp
  · refine ⟨(NC p hp).1, (NC p hp).2.1, ?_⟩
    cases q : (hideAll s.heap (news.map (·.1))).get? p.1 with
    | none => rfl
    | some o => have := of_hideAll _ q; rw [(NC p hp).2.2] at this; cases this
  · exact ⟨hk₁ _ _ (N p hp).1, Nat.ne_of_lt (Heap.lt_size (N p hp).1), hideAll_none _ (List.mem_map_of_mem hp)⟩
end

end
section
theorem off_Figs : True := by
  w_top off
  trivial
/-- what figures of a base tell, if each is one -/
noncomputable def figsFrom (base : Int) : List Nat → Int → Option Int
  | [], v => some v
  | c :: r, v => if worth c ≥ base then none else figsFrom base r (v * base + worth c)
theorem figs_step (b : Int) (c : Nat) (r : List Nat) (v : Int) : figsFrom b (c :: r) v = if worth c ≥ b then none else figsFrom b r (v * b + worth c) := rfl
noncomputable def figRead (l : List Nat) (a n : Nat) (base : Int) : Option Int :=
  match figsFrom base ((l.drop a).take n) 0 with
  | none => none
  | some v => if (((l.drop a).take n).length : Int) < n then none else some v
theorem figs_ok {w : World} {p : Program} {loose : List Str} {mean : ExcName → Option Value} {mg mb : Str → Option Value} {A A₀ : Around} {env : Env} {outer : List Env} {base h₀ : Heap} {L : Addr} {m : Str → Option Value} {s : Shared} {Q E : Value → Shared → Prop} {news : List (Addr × Obj)} {l : List Nat} {a n : Nat} {bs spot : Int} {tx ta tn tb ts : Tok}
   (B : Below A₀ base outer h₀) (F : Fr h₀ L s.heap m) (X : (Mine.frag.heap_1 w.params).In h₀) (N : News h₀ L s.heap news) (T : Top p loose mean mg mb h₀) (hA : A.frames = some (env :: outer)) (hf : env.frame = some L) (hke : env.scope.kind = .function) (hh : A.handled = none) (hd : A.depth + 5 < recursionLimit) (hu : A.units + 60 < cLine) (hl : l.length ≤ 1000) (hasc : ∀ c ∈ l, c < 128) (hn : n ≤ 1000) (ha : a ≤ 1000) (hb : 0 ≤ bs) (hb2 : bs ≤ 16)
   (hret : ∀ v t' h' tk', figRead l a n bs = some v → Fr h₀ L h' m → News h₀ L h' news → Q (.int v t') {s with heap := h', toks := tk'})
   (hbad : ∀ e g h' tk', figRead l a n bs = none → Fr h₀ L g m → WR w g (env :: outer) spot news e h' → E (.ref e) {s with heap := h', toks := tk'}) :
   wpAny (model PR w) A (call (.ref 92) [.str (S l) tx, .int a ta, .int n tn, .int bs tb, .int spot ts]) Q E s := by
  refine wpAny_call ?_
  k_dflt (refine' code_def (binds := [("text", .str (S l) tx), ("at", .int a ta), ("many", .int n tn), ("base", .int bs tb), ("spot", .int spot ts)]) ?k1 ?k2 ?k3 ?k4 ?k5 hA hf hke ?k6 ?k7 ?k8 ?k9 ?kB ?_ ?c2 ?c3 ?c4 ?c5; (case k1 => k_asm); (case k2 => k_asm); (case k3 => k_asm); (case k4 => k_asm); (case k5 => k_asm); (case k6 => k_is); (case k7 => k_is); (case k8 => ktr_room); (case k9 => exact BindsTo.of_eq rfl); (case c5 => decide); (case kB => exact locs rfl); (case c2 => exact rfl); (case c3 => exact rfl); (case c4 => exact rfl); k_whole; intro g' L' h' FG' F' N' B' X' T'; (try dsimp only); (try k_fold))
  k_steps
  rename (Fr _ _ _ _) => F9
  rename (News _ _ _ _) => N9
  rw [show a + n - a = n by omega] at F9
  have hlen : ((l.drop a).take n).length ≤ 1000 := by rw [List.length_take, List.length_drop]; omega
  have hasc2 : ∀ c ∈ (l.drop a).take n, c < 128 := fun c hc => hasc c (List.mem_of_mem_drop (List.mem_of_mem_take hc))
  have hfig : figRead l a n bs = match figsFrom bs ((l.drop a).take n) 0 with
    | none => none
    | some v => if (((l.drop a).take n).length : Int) < n then none else some v := rfl
  generalize (l.drop a).take n = figs at *
  refine For_invVF F9 rfl rfl ?_
  iterate 1 walk1
  refine loop_acc (acc := "value") (fun i v => figsFrom bs figs 0 = figsFrom bs (figs.drop i) v) (by k_dflt assumption) F9 N9 (if_pos rfl) rfl ?_ ?_
  · intro i hi t v tv u h1 tk1 own hoff hP F1 N1
    clear F9 N9
    have hc := hasc2 _ (List.getElem_mem hi)
    generalize hce : figs[i] = c at *
    have hdr : figs.drop i = c :: figs.drop (i + 1) := by rw [List.drop_eq_getElem_cons hi, hce]
    rw [hdr] at hP
    k_steps
    · rename (worth c ≥ bs) => hw
      refine raise_wf (by k_dflt assumption) ?_
      k_steps
      · rename (News _ _ _ _) => N9
        exact (N9 _ (.head _)).1
      rename (Fr _ _ _ _) => F9
      rename (News _ _ _ _) => N9
      refine raisedW1 B' F9 N9 (by assumption) fun h' R => ?_
      · refine hbad _ _ _ _ ?_ FG' (R.sub fun p hp => List.mem_append_left _ hp)
        rw [hfig, hP, figs_step, if_pos hw]
    · rename (¬ worth c ≥ bs) => hw
      rw [figs_step, if_neg hw] at hP
      rename (Fr _ _ _ _) => F9
      rename (News _ _ _ _) => N9
      rw [acc_again] at F9
      exact ⟨_, _, _, news ++ own, news, rfl, F9, N9, fun p hp => List.mem_append_left _ hp, fun p hp => List.mem_append_right _ hp, rfl, rfl, _, _, _, hP, rfl⟩
  · intro v t u h1 tk1 hP F1 N1
    clear F9 N9
    rw [List.drop_length] at hP
    rw [hP] at hfig
    dsimp only [figsFrom] at hfig
    k_steps
    · rename (_ < _) => hw
      rw [if_pos hw] at hfig
      refine raise_wf (by k_dflt assumption) ?_
      k_steps
      · rename (News _ _ _ _) => N9
        exact (N9 _ (.head _)).1
      rename (Fr _ _ _ _) => F9
      rename (News _ _ _ _) => N9
      refine raisedW1 B' F9 N9 (by assumption) fun h' R => ?_
      · exact hbad _ _ _ _ hfig FG' R
    · rename (¬ _ < _) => hw
      rw [if_neg hw] at hfig
      exact hret _ _ _ _ hfig (by assumption) (by assumption)
/-- ... at written ints -/
theorem figs_use {w : World} {p : Program} {loose : List Str} {mean : ExcName → Option Value} {mg mb : Str → Option Value} {A A₀ : Around} {env : Env} {outer : List Env} {base h₀ : Heap} {L : Addr} {m : Str → Option Value} {s : Shared} {Q E : Value → Shared → Prop} {news : List (Addr × Obj)} {l : List Nat} {a n : Nat} {ia im bs spot : Int} {tx ta tn tb ts : Tok}
   (B : Below A₀ base outer h₀) (F : Fr h₀ L s.heap m) (X : (Mine.frag.heap_1 w.params).In h₀) (N : News h₀ L s.heap news) (T : Top p loose mean mg mb h₀) (hA : A.frames = some (env :: outer)) (hf : env.frame = some L) (hke : env.scope.kind = .function) (hh : A.handled = none) (hd : A.depth + 5 < recursionLimit) (hu : A.units + 60 < cLine) (ea : ia = (a : Int)) (en : im = (n : Int)) (hl : l.length ≤ 1000) (hasc : ∀ c ∈ l, c < 128) (hn : n ≤ 1000) (ha : a ≤ 1000) (hb : 0 ≤ bs) (hb2 : bs ≤ 16)
   (hret : ∀ v t' h' tk', figRead l a n bs = some v → Fr h₀ L h' m → News h₀ L h' news → Q (.int v t') {s with heap := h', toks := tk'})
   (hbad : ∀ e g h' tk', figRead l a n bs = none → Fr h₀ L g m → WR w g (env :: outer) spot news e h' → E (.ref e) {s with heap := h', toks := tk'}) :
   wpAny (model PR w) A (call (.ref 92) [.str (S l) tx, .int ia ta, .int im tn, .int bs tb, .int spot ts]) Q E s := by
  subst ea en
  exact figs_ok B F X N T hA hf hke hh hd hu hl hasc hn ha hb hb2 hret hbad

end
section
local macro_rules | `(tactic| walk_at "pad 0") => `(tactic| fail)
theorem off_Num : True := by
  w_top off
  trivial
abbrev nameSigns : Str := Str.ofString "abcdefghijklmnopqrstuvwxyzABCDEFGHIJKLMNOPQRSTUVWXYZ_0123456789"
noncomputable def badFigs (fs : List Nat) : Bool := decide (fs = []) || decide (fs.head? = some 95) || decide (fs.getLast? = some 95) || twoLow fs
def pointed (l : List Nat) (e : Nat) : Bool :=
  (S ((l.drop e).take 1) == Str.ofString ".") && !(Builtin.Str.occurrences (Str.ofString "0123456789") (S ((l.drop (e + 1)).take 1)) 0 (Str.ofString "0123456789").length 1).isEmpty && decide (e + 1 < l.length)
/-- what read_number tells: its word, its worth, the place behind -/
noncomputable def readNum (l : List Nat) (b : Nat) : Option (List Nat × Int × Nat) :=
  let e := runB (S l) nameSigns b
  let w := (l.drop b).take (e - b)
  let fs := (partsOf w).2
  if badFigs fs = true then none
  else if 100 < fs.length then none
  else match figsFrom (partsOf w).1 (fs.filter (· != 95)) 0 with
    | none => none
    | some v => if pointed l e = true then none else some (w, v, e)
theorem runB_ge (x sg : Str) (a : Nat) : a ≤ runB x sg a := Nat.le_add_right _ _
theorem runB_le {x : Str} (sg : Str) {a : Nat} (h : a ≤ x.length) : runB x sg a ≤ x.length := by
  unfold runB
  have h1 := (List.takeWhile_sublist (signIn sg) (l := x.cps.toList.drop a)).length_le
  rw [List.length_drop] at h1
  unfold Str.length at *
  simp only [Array.length_toList] at h1
  omega
theorem under_sub (l : List Nat) : (under l).length ≤ l.length ∧ ∀ c ∈ under l, c ∈ l := by
  unfold under
  split
  · exact ⟨Nat.le_succ _, fun c hc => .tail _ hc⟩
  · exact ⟨Nat.le_refl _, fun c hc => hc⟩
theorem parts_both (l : List Nat) : (partsOf l).2.length ≤ l.length ∧ ∀ c ∈ (partsOf l).2, c ∈ l := by
  have u := fun n => under_sub (l.drop n)
  have d : ∀ n, (under (l.drop n)).length ≤ l.length ∧ ∀ c ∈ under (l.drop n), c ∈ l := fun n => ⟨Nat.le_trans (u n).1 (by rw [List.length_drop]; omega), fun c hc => List.mem_of_mem_drop ((u n).2 c hc)⟩
  unfold partsOf
  repeat' split
  all_goals first | exact d _ | exact ⟨Nat.le_refl _, fun c hc => hc⟩
theorem parts_base (l : List Nat) : 0 ≤ (partsOf l).1 ∧ (partsOf l).1 ≤ 16 := by
  unfold partsOf
  repeat' split
  all_goals (dsimp only; omega)
theorem parts_len (l : List Nat) : (partsOf l).2.length ≤ l.length := (parts_both l).1
theorem parts_sub {l : List Nat} (h : ∀ c ∈ l, c < 128) : ∀ c ∈ (partsOf l).2, c < 128 := fun c hc => h c ((parts_both l).2 c hc)
local macro_rules | `(tactic| walk_at "call ref") => `(tactic| (k_here; (with_reducible show wpAny _ _ (PySem.call (Value.ref 64) _) _ _ _); k_dflt (refine' behind_ok ?kB ?kF ?kX ?kN ?kT ?kA ?kf ?kk ?kh ?kd ?ku ?ha ?hx ?_; walk_at "my use"; (case ha => assumption); (case hx => (first | assumption | (rw [S_len]; omega))); k_whole); intro _ _ _ _ _))
local macro_rules | `(tactic| walk_at "call ref") => `(tactic| (k_here; (with_reducible show wpAny _ _ (PySem.call (Value.ref 78) _) _ _ _); k_dflt (refine' parts_ok ?kB ?kF ?kX ?kN ?kT ?kA ?kf ?kk ?kh ?kd ?ku ?hl ?hasc ?_; walk_at "my use"; (case hl => assumption); (case hasc => assumption); k_whole); intro _ _ _ _ _ _ _ _))
theorem news_drop3 {h₀ h : Heap} {L : Addr} {a b c : Addr × Obj} {r : List (Addr × Obj)} (N : News h₀ L h (a :: b :: c :: r)) : News h₀ L h (a :: b :: r) := fun p hp => N p (by
  rcases List.mem_cons.mp hp with q | hp
  · exact q ▸ .head _
  · rcases List.mem_cons.mp hp with q | hp
    · exact q ▸ .tail _ (.head _)
    · exact .tail _ (.tail _ (.tail _ hp)))
theorem emptyQ (l : List Nat) : (S l == Str.ofString "") = decide (l = []) := by
  rw [show Str.ofString "" = S [] by decide +kernel, S_beq]
theorem item0Q {l : List Nat} (h : l ≠ []) : (Txt.item (S l) 0 == Str.ofString "_") = decide (l.head? = some 95) := by
  cases l with
  | nil => exact absurd rfl h
  | cons c r =>
    rw [show (0 : Int) = ((0 : Nat) : Int) from rfl, S_item (Nat.succ_pos _), lowQ]
    simp
theorem lastQ {l : List Nat} (h : l ≠ []) : (Txt.item (S l) (-1) == Str.ofString "_") = decide (l.getLast? = some 95) := by
  rw [S_last h, lowQ, List.getLast?_eq_some_getLast h]
  simp
theorem twoQ (l : List Nat) : (Builtin.Str.occurrences (S l) (Str.ofString "__") 0 (S l).length 1).isEmpty = !twoLow l := by
  rw [← in_two, show Str.ofString "__" = S [95, 95] by decide +kernel, Bool.not_not]
section
variable {fs : List Nat}
theorem ne_of_Q (h : (S fs == Str.ofString "") = false) : fs ≠ [] := by
  rw [emptyQ] at h; exact of_decide_eq_false h
theorem bad_t1 (h : (S fs == Str.ofString "") = true) : true = badFigs fs := by
  rw [emptyQ] at h; unfold badFigs; rw [h]; rfl
theorem bad_t2 (h0 : (S fs == Str.ofString "") = false) (h : (Txt.item (S fs) 0 == Str.ofString "_") = true) : true = badFigs fs := by
  rw [item0Q (ne_of_Q h0)] at h; unfold badFigs; rw [h]; simp
theorem bad_t3 (h0 : (S fs == Str.ofString "") = false) (h : (Txt.item (S fs) (-1) == Str.ofString "_") = true) : true = badFigs fs := by
  rw [lastQ (ne_of_Q h0)] at h; unfold badFigs; rw [h]; simp
theorem bad_t4 (h : (Builtin.Str.occurrences (S fs) (Str.ofString "__") 0 (S fs).length 1).isEmpty = false) : true = badFigs fs := by
  rw [twoQ, Bool.not_eq_false'] at h; unfold badFigs; rw [h]; simp
theorem bad_f (h0 : (S fs == Str.ofString "") = false) (h1 : (Txt.item (S fs) 0 == Str.ofString "_") = false) (h2 : (Txt.item (S fs) (-1) == Str.ofString "_") = false)
    (h3 : (Builtin.Str.occurrences (S fs) (Str.ofString "__") 0 (S fs).length 1).isEmpty = true) : false = badFigs fs := by
  rw [item0Q (ne_of_Q h0)] at h1
  rw [lastQ (ne_of_Q h0)] at h2
  rw [emptyQ] at h0
  rw [twoQ, Bool.not_eq_true'] at h3
  unfold badFigs; rw [h0, h1, h2, h3]; rfl
end
section
variable {l : List Nat} {e : Nat}
theorem pt_f1 (h : (S (List.take (e + 1 - e) (List.drop e l)) == Str.ofString ".") = false) : pointed l e = false := by
  rw [show e + 1 - e = 1 by omega] at h
  unfold pointed; rw [h]; rfl
theorem pt_f2 (h : (Builtin.Str.occurrences (Str.ofString "0123456789") (S (List.take (e + 2 - (e + 1)) (List.drop (e + 1) l))) 0 (Str.ofString "0123456789").length 1).isEmpty = true) : pointed l e = false := by
  rw [show e + 2 - (e + 1) = 1 by omega] at h
  unfold pointed; rw [h]; simp
theorem pt_f3 (h : ¬ (e : Int) + 1 < (l.length : Int)) : pointed l e = false := by
  unfold pointed
  rw [decide_eq_false (show ¬ e + 1 < l.length by omega), Bool.and_false]
theorem pt_t (h1 : (S (List.take (e + 1 - e) (List.drop e l)) == Str.ofString ".") = true) (h2 : (Builtin.Str.occurrences (Str.ofString "0123456789") (S (List.take (e + 2 - (e + 1)) (List.drop (e + 1) l))) 0 (Str.ofString "0123456789").length 1).isEmpty = false)
    (h3 : (e : Int) + 1 < (l.length : Int)) : pointed l e = true := by
  rw [show e + 1 - e = 1 by omega] at h1
  rw [show e + 2 - (e + 1) = 1 by omega] at h2
  unfold pointed
  rw [h1, h2, decide_eq_true (show e + 1 < l.length by omega)]; rfl
end
theorem figs_replace {prog : Program} {w : World} {A : Around} {E : Value → Shared → Prop} {s : Shared} {l : List Nat} {t t1 t2 : Tok} {Q : Value → Shared → Prop} (hu : t1 ≠ 0) (hv : t2 ≠ 0) (huv : t1 ≠ t2) (hl : l.length ≤ 1000)
    (hq : ∀ t' k, Q (.str (S (l.filter (· != 95))) t') { s with toks := k }) : wpAny (model prog w) A (call (.builtin "str.replace") [.str (S l) t, .str (Str.ofString "_") t1, .str (Str.ofString "") t2]) Q E s := by
  rw [show Str.ofString "_" = S [95] by decide +kernel, show Str.ofString "" = S [] by decide +kernel]
  refine SC.replaceW hu hv huv (by decide +kernel) (by rw [S_len]; omega) (by decide +kernel) ?_
  rw [replace_low]
  exact hq
theorem num_ok {w : World} {p : Program} {loose : List Str} {mean : ExcName → Option Value} {mg mb : Str → Option Value} {A A₀ : Around} {env : Env} {outer : List Env} {base h₀ : Heap} {L : Addr} {m : Str → Option Value} {s : Shared} {Q E : Value → Shared → Prop} {news : List (Addr × Obj)} {l : List Nat} {b : Nat} {tx tb : Tok}
   (B : Below A₀ base outer h₀) (F : Fr h₀ L s.heap m) (X : (Mine.frag.heap_1 w.params).In h₀) (N : News h₀ L s.heap news) (T : Top p loose mean mg mb h₀) (hA : A.frames = some (env :: outer)) (hf : env.frame = some L) (hke : env.scope.kind = .function) (hh : A.handled = none) (hd : A.depth + 6 < recursionLimit) (hu : A.units + 80 < cLine) (hl : l.length ≤ 1000) (hasc : ∀ c ∈ l, c < 128) (hb : b ≤ l.length)
   (hret : ∀ wd v e o q t0 t1 t2 t3 t4 h' tk', readNum l b = some (wd, v, e) → Fr h₀ L h' m → News h₀ L h' ((o, tup [.ref q, .int e t0]) :: (q, tup [.str (Str.ofString "int") t1, .str (S wd) t2, .int b t3, .int v t4]) :: news) → (∀ p ∈ news, p.1 < q) → (∀ p ∈ news, p.1 < o) → Q (.ref o) {s with heap := h', toks := tk'})
   (hbad : ∀ e g h' tk', readNum l b = none → Fr h₀ L g m → WR w g (env :: outer) b news e h' → E (.ref e) {s with heap := h', toks := tk'}) :
   wpAny (model PR w) A (call (.ref 85) [.str (S l) tx, .int b tb]) Q E s := by
  refine wpAny_call ?_
  k_dflt (refine' code_def (binds := [("text", .str (S l) tx), ("begin", .int b tb)]) ?k1 ?k2 ?k3 ?k4 ?k5 hA hf hke ?k6 ?k7 ?k8 ?k9 ?kB ?_ ?c2 ?c3 ?c4 ?c5; (case k1 => k_asm); (case k2 => k_asm); (case k3 => k_asm); (case k4 => k_asm); (case k5 => k_asm); (case k6 => k_is); (case k7 => k_is); (case k8 => ktr_room); (case k9 => exact BindsTo.of_eq rfl); (case c5 => decide); (case kB => exact locs rfl); (case c2 => exact rfl); (case c3 => exact rfl); (case c4 => exact rfl); k_whole; intro g' L' h' FG' F' N' B' X' T'; (try dsimp only); (try k_fold))
  have hlS : (S l).length ≤ 1000 := by rw [S_len]; exact hl
  have hbS : b ≤ (S l).length := by rw [S_len]; exact hb
  have hw1 : ((l.drop b).take (runB (S l) nameSigns b - b)).length ≤ 1000 := by rw [List.length_take, List.length_drop]; omega
  have hw2 : ∀ c ∈ (l.drop b).take (runB (S l) nameSigns b - b), c < 128 := fun c hc => hasc c (List.mem_of_mem_drop (List.mem_of_mem_take hc))
  have hnum : readNum l b = (if badFigs (partsOf ((l.drop b).take (runB (S l) nameSigns b - b))).2 = true then none
    else if 100 < (partsOf ((l.drop b).take (runB (S l) nameSigns b - b))).2.length then none
    else match figsFrom (partsOf ((l.drop b).take (runB (S l) nameSigns b - b))).1 ((partsOf ((l.drop b).take (runB (S l) nameSigns b - b))).2.filter (· != 95)) 0 with
      | none => none
      | some v => if pointed l (runB (S l) nameSigns b) = true then none else some ((l.drop b).take (runB (S l) nameSigns b - b), v, runB (S l) nameSigns b)) := rfl
  have hbe := runB_ge (S l) nameSigns b
  have hel := runB_le (x := S l) nameSigns hbS
  have hfl := parts_len ((l.drop b).take (runB (S l) nameSigns b - b))
  have hfa := parts_sub hw2
  have hpb := parts_base ((l.drop b).take (runB (S l) nameSigns b - b))
  iterate 45 walk1
  generalize runB (S l) nameSigns b = e at *
  generalize hwd : (l.drop b).take (e - b) = wd at *
  generalize partsOf wd = ps at *
  obtain ⟨bs, fs⟩ := ps
  dsimp only at *
  obtain ⟨hbs1, hbs2⟩ := hpb
  have hfl2 : fs.length ≤ 1000 := by omega
  rename (Fr _ _ _ _) => F9
  rename (News _ _ _ _) => N9
  refine cut_bool (badFigs fs) F9 N9 ?_ ?_
  · clear hnum hret hbad
    k_steps
    all_goals first | assumption | exact bad_t1 (by assumption) | exact bad_t2 (by assumption) (by assumption) | exact bad_t3 (by assumption) (by assumption) | exact bad_f (by assumption) (by assumption) (by assumption) (by assumption) | exact bad_t4 (by assumption)
  intro h9 tk9 F1 N1
  clear F9 N9
  generalize badFigs fs = bf at *
  cases bf
  rotate_left
  · rw [if_pos rfl] at hnum
    iterate 2 walk1
    refine raise_wf (by k_dflt assumption) ?_
    k_steps
    · rename (News _ _ _ _) => N9
      exact (N9 _ (.head _)).1
    rename (Fr _ _ _ _) => F9
    rename (News _ _ _ _) => N9
    refine raisedW1 B' F9 N9 (by assumption) fun h' R => ?_
    exact hbad _ _ _ _ hnum FG' (R.sub fun p hp => .tail _ hp)
  · rw [if_neg (by decide)] at hnum
    k_steps
    · rename ((fs.length : Int) > 100) => hw
      rw [if_pos (by omega)] at hnum
      refine raise_wf (by k_dflt assumption) ?_
      k_steps
      · rename (News _ _ _ _) => N9
        exact (N9 _ (.head _)).1
      rename (Fr _ _ _ _) => F9
      rename (News _ _ _ _) => N9
      refine raisedW1 B' F9 N9 (by assumption) fun h' R => ?_
      exact hbad _ _ _ _ hnum FG' (R.sub fun p hp => .tail _ hp)
    rename (¬ (fs.length : Int) > 100) => hw
    rw [if_neg (by omega)] at hnum
    refine figs_replace (Nat.succ_ne_zero _) (Nat.succ_ne_zero _) (Ne.symm (Nat.succ_ne_self _)) hfl2 ?_
    intro t7 k7
    have hxa : ∀ c ∈ fs.filter (· != 95), c < 128 := fun c hc => hfa c (List.mem_filter.mp hc).1
    generalize fs.filter (· != 95) = xs at *
    rename (Fr _ _ _ _) => F9
    rename (News _ _ _ _) => N9
    refine loop_acc (acc := "value") (fun i v => figsFrom bs xs 0 = figsFrom bs (xs.drop i) v) (by k_dflt assumption) F9 N9 (if_pos rfl) rfl ?_ ?_
    · intro i hi t v tv u h1 tk1 own hoff hP F1 N1
      clear F9 N9
      have hc := hxa _ (List.getElem_mem hi)
      generalize hce : xs[i] = c at *
      have hdr : xs.drop i = c :: xs.drop (i + 1) := by rw [List.drop_eq_getElem_cons hi, hce]
      rw [hdr] at hP
      k_steps
      · rename (worth c ≥ bs) => hw
        rw [hP, figs_step, if_pos hw] at hnum
        refine raise_wf (by k_dflt assumption) ?_
        k_steps
        · rename (News _ _ _ _) => N9
          exact (N9 _ (.head _)).1
        rename (Fr _ _ _ _) => F9
        rename (News _ _ _ _) => N9
        refine raisedW1 B' F9 N9 (by assumption) fun h' R => ?_
        exact hbad _ _ _ _ hnum FG' (R.sub fun p hp => List.mem_append_left _ (.tail _ hp))
      · rename (¬ worth c ≥ bs) => hw
        rw [figs_step, if_neg hw] at hP
        rename (Fr _ _ _ _) => F9
        rename (News _ _ _ _) => N9
        rw [acc_again] at F9
        exact ⟨_, _, _, _, _, rfl, F9, N9, fun p hp => List.mem_append_left _ hp, fun p hp => List.mem_append_right _ hp, rfl, rfl, _, _, _, hP, rfl⟩
    · intro v t u h1 tk1 hP F1 N1
      clear F9 N9
      rw [List.drop_length] at hP
      rw [hP] at hnum
      dsimp only [figsFrom] at hnum
      k_steps
      · rw [pt_f2 (by assumption), if_neg (by decide), ← hwd] at hnum
        exact hret _ _ _ _ _ _ _ _ _ _ _ _ hnum (by assumption) (news_drop3 (by assumption)) (by walk_at "my lt") (by walk_at "my lt")
      · rw [pt_t (by assumption) (by assumption) (by assumption), if_pos rfl] at hnum
        refine raise_wf (by k_dflt assumption) ?_
        k_steps
        · rename (News _ _ _ _) => N9
          exact (N9 _ (.head _)).1
        rename (Fr _ _ _ _) => F9
        rename (News _ _ _ _) => N9
        refine raisedW1 B' F9 N9 (by assumption) fun h' R => ?_
        exact hbad _ _ _ _ hnum FG' (R.sub fun p hp => .tail _ hp)
      · rw [pt_f3 (by assumption), if_neg (by decide), ← hwd] at hnum
        exact hret _ _ _ _ _ _ _ _ _ _ _ _ hnum (by assumption) (news_drop3 (by assumption)) (by walk_at "my lt") (by walk_at "my lt")
      · rw [pt_f1 (by assumption), if_neg (by decide), ← hwd] at hnum
        exact hret _ _ _ _ _ _ _ _ _ _ _ _ hnum (by assumption) (news_drop3 (by assumption)) (by walk_at "my lt") (by walk_at "my lt")

end
section
theorem off_Rune : True := by
  w_top off
  trivial
def rightRune (i : Int) : Bool := decide (0 ≤ i) && decide (i ≤ 1114111) && !(decide (55296 ≤ i) && decide (i ≤ 57343))
theorem rune_ok {w : World} {p : Program} {loose : List Str} {mean : ExcName → Option Value} {mg mb : Str → Option Value} {A A₀ : Around} {env : Env} {outer : List Env} {base h₀ : Heap} {L : Addr} {m : Str → Option Value} {s : Shared} {Q E : Value → Shared → Prop} {news : List (Addr × Obj)} {i : Int} {ti : Tok}
   (B : Below A₀ base outer h₀) (F : Fr h₀ L s.heap m) (X : (Mine.frag.heap_1 w.params).In h₀) (N : News h₀ L s.heap news) (T : Top p loose mean mg mb h₀) (hA : A.frames = some (env :: outer)) (hf : env.frame = some L) (hke : env.scope.kind = .function) (hh : A.handled = none) (hd : A.depth + 2 < recursionLimit) (hu : A.units + 16 < cLine)
   (hret : ∀ h' tk', Fr h₀ L h' m → News h₀ L h' news → Q (.bool (rightRune i)) {s with heap := h', toks := tk'}) :
   wpAny (model PR w) A (call (.ref 54) [.int i ti]) Q E s := by
  refine wpAny_call ?_
  k_dflt (refine' code_def (binds := [("rune", .int i ti)]) ?k1 ?k2 ?k3 ?k4 ?k5 hA hf hke ?k6 ?k7 ?k8 ?k9 ?kB ?_ ?c2 ?c3 ?c4 ?c5; (case k1 => k_asm); (case k2 => k_asm); (case k3 => k_asm); (case k4 => k_asm); (case k5 => k_asm); (case k6 => k_is); (case k7 => k_is); (case k8 => ktr_room); (case k9 => exact BindsTo.of_eq rfl); (case c5 => decide); (case kB => exact locs rfl); (case c2 => exact rfl); (case c3 => exact rfl); (case c4 => exact rfl); k_whole; intro g' L' h' FG' F' N' B' X' T'; (try dsimp only); (try k_fold))
  k_steps
  · have e : rightRune i = !decide (i ≤ 57343) := by unfold rightRune; simp [*]
    rw [e] at hret; exact hret _ _ (by assumption) (by assumption)
  · have e : rightRune i = !decide (55296 ≤ i) := by unfold rightRune; simp [*]
    rw [e] at hret; exact hret _ _ (by assumption) (by assumption)
  · have e : rightRune i = decide (i ≤ 1114111) := by unfold rightRune; simp [*]
    rw [e] at hret; exact hret _ _ (by assumption) (by assumption)
  · have e : rightRune i = decide (0 ≤ i) := by unfold rightRune; simp [*]
    rw [e] at hret; exact hret _ _ (by assumption) (by assumption)

end
section
local macro_rules | `(tactic| walk_at "pad 0") => `(tactic| fail)
theorem off_Esc : True := by
  w_top off
  trivial
def shortB (x : List Nat) : Bool := decide (S x = ⟨#[97]⟩) || (decide (S x = ⟨#[98]⟩) || (decide (S x = ⟨#[102]⟩) || (decide (S x = ⟨#[110]⟩) || (decide (S x = ⟨#[114]⟩) || (decide (S x = ⟨#[116]⟩) || (decide (S x = ⟨#[118]⟩) || (decide (S x = ⟨#[92]⟩) || false)))))))
def longB (x : List Nat) : Bool := decide (S x = ⟨#[120]⟩) || (decide (S x = ⟨#[117]⟩) || (decide (S x = ⟨#[85]⟩) || false))
def shortV : List Nat → Int
  | [97] => 7
  | [98] => 8
  | [102] => 12
  | [110] => 10
  | [114] => 13
  | [116] => 9
  | [118] => 11
  | [92] => 92
  | _ => 0
def longN : List Nat → Nat
  | [120] => 2
  | [117] => 4
  | [85] => 8
  | _ => 0
noncomputable def escOf (l : List Nat) (a q : Nat) (x : List Nat) : Option (Int × Bool × Int) :=
  if shortB x = true then some (shortV x, false, a + 2)
  else if (S x == S [q]) = true then some (q, false, a + 2)
  else if longB x = true then (match figRead l (a + 2) (longN x) 16 with
    | none => none
    | some v => if (S x != Str.ofString "x") = true ∧ rightRune v = false then none else some (v, S x == Str.ofString "x", a + 2 + longN x))
  else match figRead l (a + 1) 3 8 with
    | none => none
    | some v => if v > 255 then none else some (v, true, a + 4)
/-- what read_escape tells: value, octet by itself, the place behind -/
noncomputable def readEsc (l : List Nat) (a q : Nat) : Option (Int × Bool × Int) := escOf l a q ((l.drop (a + 1)).take 1)
theorem sx {x : List Nat} {c : Nat} (h : S x = ⟨#[c]⟩) : x = [c] := S_inj.mp h
local macro_rules | `(tactic| walk_at "call ref") => `(tactic| (k_here; (with_reducible show wpAny _ _ (PySem.call (Value.ref 54) _) _ _ _); k_dflt (refine' rune_ok ?kB ?kF ?kX ?kN ?kT ?kA ?kf ?kk ?kh ?kd ?ku  ?_; walk_at "my use"; k_whole); intro _ _ _ _))
theorem esc_ok {w : World} {p : Program} {loose : List Str} {mean : ExcName → Option Value} {mg mb : Str → Option Value} {A A₀ : Around} {env : Env} {outer : List Env} {base h₀ : Heap} {L : Addr} {m : Str → Option Value} {s : Shared} {Q E : Value → Shared → Prop} {news : List (Addr × Obj)} {l : List Nat} {a q : Nat} {tx ta tq : Tok}
   (B : Below A₀ base outer h₀) (F : Fr h₀ L s.heap m) (X : (Mine.frag.heap_1 w.params).In h₀) (N : News h₀ L s.heap news) (T : Top p loose mean mg mb h₀) (hA : A.frames = some (env :: outer)) (hf : env.frame = some L) (hke : env.scope.kind = .function) (hh : A.handled = none) (hd : A.depth + 7 < recursionLimit) (hu : A.units + 100 < cLine) (hl : l.length ≤ 990) (hasc : ∀ c ∈ l, c < 128) (ha : a ≤ l.length)
   (hret : ∀ v b e o t1 t2 h' tk', readEsc l a q = some (v, b, e) → Fr h₀ L h' m → News h₀ L h' ((o, tup [.int v t1, .bool b, .int e t2]) :: news) → (∀ p ∈ news, p.1 < o) → Q (.ref o) {s with heap := h', toks := tk'})
   (hbad : ∀ e g h' tk', readEsc l a q = none → Fr h₀ L g m → WR w g (env :: outer) a news e h' → E (.ref e) {s with heap := h', toks := tk'}) :
   wpAny (model PR w) A (call (.ref 99) [.str (S l) tx, .int a ta, .str (S [q]) tq]) Q E s := by
  refine wpAny_call ?_
  k_dflt (refine' code_def (binds := [("text", .str (S l) tx), ("at", .int a ta), ("quote", .str (S [q]) tq)]) ?k1 ?k2 ?k3 ?k4 ?k5 hA hf hke ?k6 ?k7 ?k8 ?k9 ?kB ?_ ?c2 ?c3 ?c4 ?c5; (case k1 => k_asm); (case k2 => k_asm); (case k3 => k_asm); (case k4 => k_asm); (case k5 => k_asm); (case k6 => k_is); (case k7 => k_is); (case k8 => ktr_room); (case k9 => exact BindsTo.of_eq rfl); (case c5 => decide); (case kB => exact locs rfl); (case c2 => exact rfl); (case c3 => exact rfl); (case c4 => exact rfl); k_whole; intro g' L' h' FG' F' N' B' X' T'; (try dsimp only); (try k_fold))
  have hesc : readEsc l a q = escOf l a q ((l.drop (a + 1)).take (a + 2 - (a + 1))) := by rw [show a + 2 - (a + 1) = 1 by omega]; rfl
  have hl : l.length ≤ 1000 := by omega
  have e120 : longN [120] = 2 := rfl
  k_steps
  · have hx := sx (by assumption : S ((l.drop (a + 1)).take (a + 2 - (a + 1))) = ⟨#[97]⟩)
    rw [hx] at hesc
    exact hret _ _ _ _ _ _ _ _ (hesc.trans (if_pos rfl)) (by assumption) (by assumption) (by walk_at "my lt")
  · have hx := sx (by assumption : S ((l.drop (a + 1)).take (a + 2 - (a + 1))) = ⟨#[98]⟩)
    rw [hx] at hesc
    exact hret _ _ _ _ _ _ _ _ (hesc.trans (if_pos rfl)) (by assumption) (by assumption) (by walk_at "my lt")
  · have hx := sx (by assumption : S ((l.drop (a + 1)).take (a + 2 - (a + 1))) = ⟨#[102]⟩)
    rw [hx] at hesc
    exact hret _ _ _ _ _ _ _ _ (hesc.trans (if_pos rfl)) (by assumption) (by assumption) (by walk_at "my lt")
  · have hx := sx (by assumption : S ((l.drop (a + 1)).take (a + 2 - (a + 1))) = ⟨#[110]⟩)
    rw [hx] at hesc
    exact hret _ _ _ _ _ _ _ _ (hesc.trans (if_pos rfl)) (by assumption) (by assumption) (by walk_at "my lt")
  · have hx := sx (by assumption : S ((l.drop (a + 1)).take (a + 2 - (a + 1))) = ⟨#[114]⟩)
    rw [hx] at hesc
    exact hret _ _ _ _ _ _ _ _ (hesc.trans (if_pos rfl)) (by assumption) (by assumption) (by walk_at "my lt")
  · have hx := sx (by assumption : S ((l.drop (a + 1)).take (a + 2 - (a + 1))) = ⟨#[116]⟩)
    rw [hx] at hesc
    exact hret _ _ _ _ _ _ _ _ (hesc.trans (if_pos rfl)) (by assumption) (by assumption) (by walk_at "my lt")
  · have hx := sx (by assumption : S ((l.drop (a + 1)).take (a + 2 - (a + 1))) = ⟨#[118]⟩)
    rw [hx] at hesc
    exact hret _ _ _ _ _ _ _ _ (hesc.trans (if_pos rfl)) (by assumption) (by assumption) (by walk_at "my lt")
  · have hx := sx (by assumption : S ((l.drop (a + 1)).take (a + 2 - (a + 1))) = ⟨#[92]⟩)
    rw [hx] at hesc
    exact hret _ _ _ _ _ _ _ _ (hesc.trans (if_pos rfl)) (by assumption) (by assumption) (by walk_at "my lt")
  · rename (_ = false) => hs
    rename (_ = true) => hq
    generalize (l.drop (a + 1)).take (a + 2 - (a + 1)) = x at *
    have hs' : ¬ shortB x = true := fun z => Bool.noConfusion (hs.symm.trans z)
    exact hret _ _ _ _ _ _ _ _ (hesc.trans ((if_neg hs').trans (if_pos hq))) (by assumption) (by assumption) (by walk_at "my lt")
  · have hx := sx (by assumption : S ((l.drop (a + 1)).take (a + 2 - (a + 1))) = ⟨#[120]⟩)
    have hq := (by assumption : (S ((l.drop (a + 1)).take (a + 2 - (a + 1))) == S [q]) = false)
    generalize (l.drop (a + 1)).take (a + 2 - (a + 1)) = x at *
    subst hx
    have hesc := hesc.trans ((if_neg (show ¬ shortB [120] = true by decide +kernel)).trans ((if_neg (fun z => Bool.noConfusion (hq.symm.trans z))).trans (if_pos (show longB [120] = true by decide +kernel))))
    (k_dflt (refine' figs_use (a := (a + 2)) (n := (2)) ?kB ?kF ?kX ?kN ?kT ?kA ?kf ?kk ?kh ?kd ?ku ?ea ?en ?k1 ?k2 ?hn ?ha ?hb ?hb2 ?_ ?_; (case kB => k_asm); (case kF => k_asm); (case kX => k_asm); (case kN => k_asm); (case kT => k_asm); (case kA => exact Around.frames_deeper (Below.stack (by assumption))); (case kf => exact rfl); (case kk => exact rfl); (case kh => assumption); (case kd => ktr_room); (case ku => ktr_units); (case ea => exact rfl); (case en => exact rfl); (case k1 => assumption); (case k2 => assumption); (case hn => decide); (case ha => omega); (case hb => decide); (case hb2 => decide)))
    rotate_left
    · intro e g9 h9 tk9 hn FG9 R9
      rw [show longN [120] = 2 from rfl, hn] at hesc
      exact raisedW2 B' FG9 R9 (by assumption) (fun p hp => hp) fun h' R => hbad _ _ _ _ hesc FG' R
    intro v t9 h9 tk9 hn F9 N9
    rw [show longN [120] = 2 from rfl, hn] at hesc
    dsimp only at hesc
    k_steps
    rw [if_neg (fun z => Bool.noConfusion (z.1.symm.trans (show (S [120] != Str.ofString "x") = false by decide +kernel)))] at hesc
    exact hret _ _ _ _ _ _ _ _ (hesc : readEsc l a q = some (v, S [120] == Str.ofString "x", (a : Int) + 2 + 2)) (by assumption) (by assumption) (by walk_at "my lt")
  · have hx := sx (by assumption : S ((l.drop (a + 1)).take (a + 2 - (a + 1))) = ⟨#[117]⟩)
    have hq := (by assumption : (S ((l.drop (a + 1)).take (a + 2 - (a + 1))) == S [q]) = false)
    generalize (l.drop (a + 1)).take (a + 2 - (a + 1)) = x at *
    subst hx
    have hesc := hesc.trans ((if_neg (show ¬ shortB [117] = true by decide +kernel)).trans ((if_neg (fun z => Bool.noConfusion (hq.symm.trans z))).trans (if_pos (show longB [117] = true by decide +kernel))))
    (k_dflt (refine' figs_use (a := (a + 2)) (n := (4)) ?kB ?kF ?kX ?kN ?kT ?kA ?kf ?kk ?kh ?kd ?ku ?ea ?en ?k1 ?k2 ?hn ?ha ?hb ?hb2 ?_ ?_; (case kB => k_asm); (case kF => k_asm); (case kX => k_asm); (case kN => k_asm); (case kT => k_asm); (case kA => exact Around.frames_deeper (Below.stack (by assumption))); (case kf => exact rfl); (case kk => exact rfl); (case kh => assumption); (case kd => ktr_room); (case ku => ktr_units); (case ea => exact rfl); (case en => exact rfl); (case k1 => assumption); (case k2 => assumption); (case hn => decide); (case ha => omega); (case hb => decide); (case hb2 => decide)))
    rotate_left
    · intro e g9 h9 tk9 hn FG9 R9
      rw [show longN [117] = 4 from rfl, hn] at hesc
      exact raisedW2 B' FG9 R9 (by assumption) (fun p hp => hp) fun h' R => hbad _ _ _ _ hesc FG' R
    intro v t9 h9 tk9 hn F9 N9
    rw [show longN [117] = 4 from rfl, hn] at hesc
    dsimp only at hesc
    k_steps
    · rename (rightRune v = true) => hw
      rw [if_neg (fun z => Bool.noConfusion (hw.symm.trans z.2))] at hesc
      exact hret _ _ _ _ _ _ _ _ (hesc : readEsc l a q = some (v, S [117] == Str.ofString "x", (a : Int) + 2 + 4)) (by assumption) (by assumption) (by walk_at "my lt")
    · rename (rightRune v = false) => hw
      rw [if_pos ⟨by decide +kernel, hw⟩] at hesc
      refine raise_wf (by k_dflt assumption) ?_
      k_steps
      · rename (News _ _ _ _) => N9
        exact (N9 _ (.head _)).1
      rename (Fr _ _ _ _) => F9
      rename (News _ _ _ _) => N9
      refine raisedW1 B' F9 N9 (by assumption) fun h' R => ?_
      exact hbad _ _ _ _ hesc FG' R
  · have hx := sx (by assumption : S ((l.drop (a + 1)).take (a + 2 - (a + 1))) = ⟨#[85]⟩)
    have hq := (by assumption : (S ((l.drop (a + 1)).take (a + 2 - (a + 1))) == S [q]) = false)
    generalize (l.drop (a + 1)).take (a + 2 - (a + 1)) = x at *
    subst hx
    have hesc := hesc.trans ((if_neg (show ¬ shortB [85] = true by decide +kernel)).trans ((if_neg (fun z => Bool.noConfusion (hq.symm.trans z))).trans (if_pos (show longB [85] = true by decide +kernel))))
    (k_dflt (refine' figs_use (a := (a + 2)) (n := (8)) ?kB ?kF ?kX ?kN ?kT ?kA ?kf ?kk ?kh ?kd ?ku ?ea ?en ?k1 ?k2 ?hn ?ha ?hb ?hb2 ?_ ?_; (case kB => k_asm); (case kF => k_asm); (case kX => k_asm); (case kN => k_asm); (case kT => k_asm); (case kA => exact Around.frames_deeper (Below.stack (by assumption))); (case kf => exact rfl); (case kk => exact rfl); (case kh => assumption); (case kd => ktr_room); (case ku => ktr_units); (case ea => exact rfl); (case en => exact rfl); (case k1 => assumption); (case k2 => assumption); (case hn => decide); (case ha => omega); (case hb => decide); (case hb2 => decide)))
    rotate_left
    · intro e g9 h9 tk9 hn FG9 R9
      rw [show longN [85] = 8 from rfl, hn] at hesc
      exact raisedW2 B' FG9 R9 (by assumption) (fun p hp => hp) fun h' R => hbad _ _ _ _ hesc FG' R
    intro v t9 h9 tk9 hn F9 N9
    rw [show longN [85] = 8 from rfl, hn] at hesc
    dsimp only at hesc
    k_steps
    · rename (rightRune v = true) => hw
      rw [if_neg (fun z => Bool.noConfusion (hw.symm.trans z.2))] at hesc
      exact hret _ _ _ _ _ _ _ _ (hesc : readEsc l a q = some (v, S [85] == Str.ofString "x", (a : Int) + 2 + 8)) (by assumption) (by assumption) (by walk_at "my lt")
    · rename (rightRune v = false) => hw
      rw [if_pos ⟨by decide +kernel, hw⟩] at hesc
      refine raise_wf (by k_dflt assumption) ?_
      k_steps
      · rename (News _ _ _ _) => N9
        exact (N9 _ (.head _)).1
      rename (Fr _ _ _ _) => F9
      rename (News _ _ _ _) => N9
      refine raisedW1 B' F9 N9 (by assumption) fun h' R => ?_
      exact hbad _ _ _ _ hesc FG' R
  · have hs := (by assumption : shortB ((l.drop (a + 1)).take (a + 2 - (a + 1))) = false)
    have hq := (by assumption : (S ((l.drop (a + 1)).take (a + 2 - (a + 1))) == S [q]) = false)
    have hlo := (by assumption : longB ((l.drop (a + 1)).take (a + 2 - (a + 1))) = false)
    generalize (l.drop (a + 1)).take (a + 2 - (a + 1)) = x at *
    have hesc := hesc.trans ((if_neg (fun z => Bool.noConfusion (hs.symm.trans z))).trans ((if_neg (fun z => Bool.noConfusion (hq.symm.trans z))).trans (if_neg (fun z => Bool.noConfusion (hlo.symm.trans z)))))
    (k_dflt (refine' figs_use (a := (a + 1)) (n := (3)) ?kB ?kF ?kX ?kN ?kT ?kA ?kf ?kk ?kh ?kd ?ku ?ea ?en ?k1 ?k2 ?hn ?ha ?hb ?hb2 ?_ ?_; (case kB => k_asm); (case kF => k_asm); (case kX => k_asm); (case kN => k_asm); (case kT => k_asm); (case kA => exact Around.frames_deeper (Below.stack (by assumption))); (case kf => exact rfl); (case kk => exact rfl); (case kh => assumption); (case kd => ktr_room); (case ku => ktr_units); (case ea => exact rfl); (case en => exact rfl); (case k1 => assumption); (case k2 => assumption); (case hn => decide); (case ha => omega); (case hb => decide); (case hb2 => decide)))
    rotate_left
    · intro e g9 h9 tk9 hn FG9 R9
      rw [hn] at hesc
      exact raisedW2 B' FG9 R9 (by assumption) (fun p hp => hp) fun h' R => hbad _ _ _ _ hesc FG' R
    intro v t9 h9 tk9 hn F9 N9
    rw [hn] at hesc
    dsimp only at hesc
    k_steps
    · rename (255 < v) => hw
      rw [if_pos hw] at hesc
      refine raise_wf (by k_dflt assumption) ?_
      k_steps
      · rename (News _ _ _ _) => N9
        exact (N9 _ (.head _)).1
      rename (Fr _ _ _ _) => F9
      rename (News _ _ _ _) => N9
      refine raisedW1 B' F9 N9 (by assumption) fun h' R => ?_
      exact hbad _ _ _ _ hesc FG' R
    · rename (¬ 255 < v) => hw
      rw [if_neg hw] at hesc
      exact hret _ _ _ _ _ _ _ _ hesc (by assumption) (by assumption) (by walk_at "my lt")

end
section
local macro_rules | `(tactic| walk_at "pad 0") => `(tactic| fail)
local macro_rules | `(tactic| walk_at "pad 1") => `(tactic| fail)
local macro_rules | `(tactic| walk_at "pad 2") => `(tactic| fail)
theorem off_Plain : True := by
  w_top off
  trivial
local macro_rules | `(tactic| walk_at "call ref") => `(tactic| (k_here; (with_reducible show wpAny _ _ (PySem.call (Value.ref 54) _) _ _ _); k_dflt (refine' rune_ok ?kB ?kF ?kX ?kN ?kT ?kA ?kf ?kk ?kh ?kd ?ku  ?_; walk_at "my use"; k_whole); intro _ _ _ _))
theorem plain_ok {w : World} {p : Program} {loose : List Str} {mean : ExcName → Option Value} {mg mb : Str → Option Value} {A A₀ : Around} {env : Env} {outer : List Env} {base h₀ : Heap} {L : Addr} {m : Str → Option Value} {s : Shared} {Q E : Value → Shared → Prop} {news : List (Addr × Obj)} {l : List Nat} {a : Nat} {tx ta : Tok}
   (B : Below A₀ base outer h₀) (F : Fr h₀ L s.heap m) (X : (Mine.frag.heap_1 w.params).In h₀) (N : News h₀ L s.heap news) (T : Top p loose mean mg mb h₀) (hA : A.frames = some (env :: outer)) (hf : env.frame = some L) (hke : env.scope.kind = .function) (hh : A.handled = none) (hd : A.depth + 4 < recursionLimit) (hu : A.units + 40 < cLine) (hl : l.length ≤ 1000) (ha : a < l.length) (hr : rightRune ((l[a] : Nat) : Int) = true)
   (hret : ∀ t h' tk', Fr h₀ L h' m → News h₀ L h' news → Q (.int ((l[a] : Nat) : Int) t) {s with heap := h', toks := tk'}) :
   wpAny (model PR w) A (call (.ref 106) [.str (S l) tx, .int a ta]) Q E s := by
  refine wpAny_call ?_
  k_dflt (refine' code_def (binds := [("text", .str (S l) tx), ("at", .int a ta)]) ?k1 ?k2 ?k3 ?k4 ?k5 hA hf hke ?k6 ?k7 ?k8 ?k9 ?kB ?_ ?c2 ?c3 ?c4 ?c5; (case k1 => k_asm); (case k2 => k_asm); (case k3 => k_asm); (case k4 => k_asm); (case k5 => k_asm); (case k6 => k_is); (case k7 => k_is); (case k8 => ktr_room); (case k9 => exact BindsTo.of_eq rfl); (case c5 => decide); (case kB => exact locs rfl); (case c2 => exact rfl); (case c3 => exact rfl); (case c4 => exact rfl); k_whole; intro g' L' h' FG' F' N' B' X' T'; (try dsimp only); (try k_fold))
  have e1 : l.getD a 0 = l[a] := by simp [ha]
  iterate 9 walk1
  refine item_S (i := a) (by omega) rfl ha ?_
  intro t1 k1
  rw [e1]
  generalize l[a] = c at *
  k_steps
  exact hret _ _ _ (by assumption) (by assumption)

end
section
theorem off_Look : True := by
  w_top off
  trivial
section
variable {M : Model} {w : World} {A : Around} {G : Heap} {l : List Env} {env : Env} {L : Addr} {s' : Shared} {e : Addr} {Q : Unit → Shared → Prop} {E : Value → Shared → Prop} {spot : Int} {news : List (Addr × Obj)}
/-- a fault that came back into a frame is noted there -/
theorem noteW {base : Heap} (hfr : A.frames = some (env :: l)) (K : G.FunFrames base (env :: l)) (hf : env.frame = some L) (R : WR w G (env :: l) spot news e s'.heap) (hn : ∀ p ∈ news, p.1 ∉ (env :: l).filterMap (·.frame))
    (hQ : ∀ h', WR w G (env :: l) spot news e h' → Q () { s' with heap := h' }) :
    wpAny M A (noteFrame (.ref e) env) (fun _ s₂ => wpAny M A (setFlight (.ref e) none) Q E s₂) E s' := by
  obtain ⟨⟨d, t0, T, x, tx, ti, t1, t2, he, hd, htb, heg, hdg, hTg, hnw⟩, R1, R2⟩ := R
  have hde : d ≠ e := fun q => by
    rw [q, he] at hd
    injection hd with hd
    have := congrArg Obj.data hd
    cases this
  have hdT : d ≠ T := fun q => by
    obtain ⟨_, oT, ts, hT, hdT, _⟩ := htb
    rw [q, hT] at hd
    injection hd with hd
    rw [hd] at hdT
    cases hdT
  have ff : s'.heap.FunFrames {} (env :: l) := (ff_nil K).of_keeps fun b o hb _ => by
    obtain ⟨sl, hs⟩ := R2 b o hb
    exact ⟨_, hs, rfl⟩
  refine note_core hfr ff hf he (.inr ⟨T, rfl, htb⟩) fun h₁ T' mv h1 h2 h3 => ?_
  refine flight_core (s := { s' with heap := h₁ }) h1 h3 fun h' k h4 => hQ h' ?_
  have nT : ∀ b o, s'.heap.get? b = some o → b ≠ T' := fun b o hb q => by rw [q, h2] at hb; cases hb
  have nG : ∀ {b}, G.get? b = none → b ∉ (env :: l).filterMap (·.frame) := fun {b} hb hm => by
    obtain ⟨_, o, ho, _⟩ := K.mem hm
    rw [hb] at ho; cases ho
  have kk : ∀ b o, s'.heap.get? b = some o → b ≠ e → b ≠ T → b ∉ (env :: l).filterMap (·.frame) → h'.get? b = some o := fun b o hb n1 n2 n3 =>
    k b o (mv.1 b o hb n1 (fun q => n2 (Value.ref.inj q)) n3) (nT b o hb)
  refine ⟨⟨d, t0, T', x, tx, ti, t1, t2, k e _ h1 (Ne.symm h3.1), kk d _ hd hde hdT (nG hdg), h4, heg, hdg, ?_, fun p hp => ?_⟩, ⟨fun b o hb hn => ?_, fun b o hb => ?_⟩⟩
  · cases q : G.get? T' with
    | none => rfl
    | some o =>
      obtain ⟨sl, hs⟩ := R2 _ _ q
      rw [h2] at hs; cases hs
  · obtain ⟨p1, p2, p3⟩ := hnw p hp
    exact ⟨kk _ _ p1 p2 p3 (hn p hp), p2, nT _ _ p1⟩
  · exact kk b o (R1 b o hb hn) (fun q => by rw [q, heg] at hb; cases hb) (fun q => by rw [q, hTg] at hb; cases hb) hn
  · obtain ⟨sl, hs⟩ := R2 b o hb
    obtain ⟨sl', hs'⟩ := mv.2 b _ hs (fun q => by rw [q, heg] at hb; cases hb) (fun q => by rw [Value.ref.inj q, hTg] at hb; cases hb)
    exact ⟨sl', k b _ hs' (nT b _ hs)⟩
theorem flightW (R : WR w G l spot news e s'.heap)
    (hQ : ∀ h', WR w G l spot news e h' → Q () { s' with heap := h' }) : wpAny M A (setFlight (.ref e) none) Q E s' := by
  obtain ⟨⟨d, t0, T, x, tx, ti, t1, t2, he, hd, htb, heg, hdg, hTg, hnw⟩, R1, R2⟩ := R
  have hdT : d ≠ T := fun q => by
    obtain ⟨_, oT, ts, hT, hdT, _⟩ := htb
    rw [q, hT] at hd
    injection hd with hd
    rw [hd] at hdT
    cases hdT
  have heT : e ≠ T := Ne.symm htb.1
  refine flight_core he htb fun h' k h4 => hQ h' ⟨⟨d, t0, T, x, tx, ti, t1, t2, k _ _ he heT, k _ _ hd hdT, h4, heg, hdg, hTg, fun p hp => ?_⟩, ⟨fun b o hb hn => ?_, fun b o hb => ?_⟩⟩
  · obtain ⟨p1, p2, p3⟩ := hnw p hp
    exact ⟨k _ _ p1 p3, p2, p3⟩
  · exact k _ _ (R1 b o hb hn) (fun q => by rw [q, hTg] at hb; cases hb)
  · obtain ⟨sl, hs⟩ := R2 b o hb
    exact ⟨sl, k _ _ hs (fun q => by rw [q, hTg] at hb; cases hb)⟩
end

end
section
theorem off_Spot : True := by
  w_top off
  trivial
theorem wf_ga {w : World} {h : Heap} (X : (Mine.frag.heap_1 w.params).In h) : Looks (model PR w) h (typeLookup (.ref 45) "__getattribute__") (some (.builtin "BaseException.__getattribute__")) := Looks.of_peek X (by kernel_rfl)
theorem wf_gh {w : World} {h : Heap} (X : (Mine.frag.heap_1 w.params).In h) : Looks (model PR w) h (typeLookup (.ref 45) "__getattr__") none := Looks.of_peek X (by kernel_rfl)
theorem ga_kind : builtinKind "BaseException.__getattribute__" = some .slot := by decide +kernel
theorem ga_split : splitId "BaseException.__getattribute__" = some ("BaseException", "__getattribute__") := by decide +kernel
theorem ga_ops : withoutEnding? "BaseException.__getattribute__" "#opaque" = none ∧ withoutEnding? "BaseException.__getattribute__" "#data" = none := by decide +kernel
theorem ga_bind (self : Value) : bindSpecial (.builtin "BaseException.__getattribute__") self = pure (.builtin "BaseException.__getattribute__", [self]) := by
  simp only [bindSpecial, typeOf, builtinType, ga_ops.1, ga_ops.2, ga_kind]; rfl
theorem ga_plain : plainId "BaseException.__getattribute__" = true := by decide +kernel
theorem ga_two : (Value.builtin "BaseException.__getattribute__" == Value.builtin "object.__getattribute__") = false := by decide +kernel
section
variable {w : World} {A : Around} {E : Value → Shared → Prop} {h : Heap} {g : Array GenState} {dr : Drawn} {tk : Tok} {os : OsState} {e d t0 : Addr} {hd vm : Value} {t1 t2 ti : Tok} {spot : Int}
theorem spot_find (X : (Mine.frag.heap_1 w.params).In h) (he : h.get? e = some (wfT d t0 hd)) (hdd : h.get? d = some (wfDict w vm (.int spot ti) t1 t2)) : Looks (model PR w) h (Builtin.ObjectAttr.find (.ref e) (.ref 45) "spot") (.value (.int spot ti)) :=
  looks_find X (⟨he, rfl, rfl, hdd⟩ : InstAt h e (wfT d t0 hd) 45 (some (wfDict w vm (.int spot ti) t1 t2))) (by kernel_rfl)
theorem spot_code {R : Result → Shared → Prop} {tn : Tok} (X : (Mine.frag.heap_1 w.params).In h) (he : h.get? e = some (wfT d t0 hd)) (hdd : h.get? d = some (wfDict w vm (.int spot ti) t1 t2)) (hq : R (.ok (.ret (.int spot ti))) ⟨h, g, dr, tk, os⟩) :
    codeAny (model PR w) A (.call (.builtin "BaseException.__getattribute__") ⟨[.ref e, .str "spot" tn], []⟩) R ⟨h, g, dr, tk, os⟩ := by
  have L0 : Looks (model PR w) h (typeOf (.ref e)) (.ref 45) := (Looks.ld he).andThen .now
  have L1 : Looks (model PR w) h (isInstance (.ref e) (.type "BaseException")) true := L0.andThen (wf_subB X)
  refine codeAny_call_builtin ga_plain F.entry_bexc_ga (@check_slot (model PR w) _ _ ⟨h, g, dr, tk, os⟩ "BaseException.__getattribute__" "BaseException" "__getattribute__" (.ref e) [.str "spot" tn] [] _ ga_kind ga_split L1 (F.args_bexc_ga _ _) ?_)
  have LF := spot_find X he hdd
  unfold Builtin.«object.__getattribute__»
  repeat (first | with_reducible refine wpAny_call ?_ | lk)
  exact hq
theorem spot_get {expr : Bool} {Q : Value → Shared → Prop} (X : (Mine.frag.heap_1 w.params).In h) (he : h.get? e = some (wfT d t0 hd)) (hdd : h.get? d = some (wfDict w vm (.int spot ti) t1 t2)) (hq : Q (.int spot ti) ⟨h, g, dr, tk + 1, os⟩) :
    wpAny (model PR w) A (getAttr (.ref e) "spot" expr) Q E ⟨h, g, dr, tk, os⟩ := by
  have L0 : Looks (model PR w) h (typeOf (.ref e)) (.ref 45) := (Looks.ld he).andThen .now
  have L1 := wf_ga X
  have L2 := wf_gh X
  have hx0 : (expr && onTheHeap (Value.builtin "BaseException.__getattribute__")) = false := by cases expr <;> rfl
  unfold getAttr getAttrBy
  refine wpAny_bind (wpAny_mkText (wpAny_holding (wpAny_bind (L0.at (wpAny_bind (L1.at ?_))))))
  dsimp only
  rw [ga_two, Bool.and_false, if_neg (by decide)]
  unfold getAttrByItsOwn hookBefore callGetattribute boundAndCalled
  rw [hx0, ga_bind]
  refine wpAny_bind (L2.at ?_)
  refine wpAny_bind (wpAny_attempt (wpAny_holding ?_))
  rw [if_neg (by decide)]
  refine wpAny_bind (wpAny_pure ?_)
  refine wpAny_call (spot_code X he hdd ?_)
  exact wpAny_pure hq
end

end
section
theorem off_Told : True := by
  w_top off
  trivial
theorem wf_exm {w : World} {h : Heap} {e d t0 : Addr} {hd : Value} (X : (Mine.frag.heap_1 w.params).In h) (he : h.get? e = some (wfT d t0 hd)) : Looks (model PR w) h (excMatches (.ref e) (.ref 45)) true :=
  exm_one X ((Looks.ld he).andThen .now) (by kernel_rfl)
/-- back in the caller's frame, its base turned -/
theorem back_to {A₀ : Around} {base h₀ g g2 h : Heap} {outer : List Env} {env : Env} {L L' : Addr} {m m' : Str → Option Value} {news : List (Addr × Obj)} (B : Below A₀ base outer h₀) (FG : Fr h₀ L g m) (hf : env.frame = some L)
    (T : KtsTurn ((env :: outer).filterMap (·.frame)) g g2) (F : Fr g2 L' h m') (N : News g2 L' h news) :
    ∃ h₁, KtsTurn (outer.filterMap (·.frame)) h₀ h₁ ∧ Fr h₁ L h m ∧ Below A₀ base outer h₁ ∧ News h₁ L h news := by
  obtain ⟨h₁, T₁, F₁, B₁⟩ := ground B FG hf (rest_of_turn T F)
  refine ⟨h₁, T₁, F₁, B₁, fun p hp => ?_⟩
  obtain ⟨n1, n2, n3⟩ := N p hp
  have ng : g.get? p.1 = none := by
    cases q : g.get? p.1 with
    | none => rfl
    | some o => obtain ⟨sl, hs⟩ := T.up q; rw [n3] at hs; cases hs
  refine ⟨n1, fun q => ?_, T₁.none_ _ ?_⟩
  · obtain ⟨oL, _, _, hL, _⟩ := FG.ns
    rw [q, hL] at ng; cases ng
  · cases q : h₀.get? p.1 with
    | none => rfl
    | some o => have := FG.keep _ _ q; rw [ng] at this; cases this
theorem news_cut2 {h₀ h : Heap} {L : Addr} {a b c : Addr × Obj} {r : List (Addr × Obj)} (N : News h₀ L h (a :: b :: c :: r)) : News h₀ L h (a :: r) := fun p hp => N p (by
  rcases List.mem_cons.mp hp with q | hp
  · exact q ▸ .head _
  · exact .tail _ (.tail _ (.tail _ hp)))
theorem told_ok {w : World} {p : Program} {loose : List Str} {mean : ExcName → Option Value} {mg mb : Str → Option Value} {A A₀ : Around} {env : Env} {outer : List Env} {base h₀ : Heap} {L : Addr} {m : Str → Option Value} {s : Shared} {Q E : Value → Shared → Prop} {news : List (Addr × Obj)} {c : Addr} {oc : Value} {od : Option Addr} {fd : FuncData} {sl : Array (Option Value)} {spot : Int} {Ok : Value → List (Addr × Obj) → Prop} {Bad : Prop}
   (B : Below A₀ base outer h₀) (F : Fr h₀ L s.heap m) (X : (Mine.frag.heap_1 w.params).In h₀) (N : News h₀ L s.heap news) (T : Top p loose mean mg mb h₀) (hA : A.frames = some (env :: outer)) (hf : env.frame = some L) (hke : env.scope.kind = .function) (hh : A.handled = none) (hd : A.depth + 12 < recursionLimit) (hu : A.units + 200 < cLine) (XB : (Mine.frag.heap_1 w.params).In base) (TB : Top p loose mean mg mb base) (hc : (c, (⟨oc, od, .func fd, sl⟩ : Obj)) ∈ news)
   (hdeed : ∀ {A' A₁ : Around} {env' : Env} {outer' : List Env} {h₁ : Heap} {L' : Addr} {m' : Str → Option Value} {s' : Shared} {Q' E' : Value → Shared → Prop}, Below A₁ base outer' h₁ → Fr h₁ L' s'.heap m' → (Mine.frag.heap_1 w.params).In h₁ → News h₁ L' s'.heap news → Top p loose mean mg mb h₁ →
     A'.frames = some (env' :: outer') → env'.frame = some L' → env'.scope.kind = .function → A'.handled = none → A'.depth + 11 < recursionLimit → A'.units + 180 < cLine →
     (∀ v ext h' tk', Ok v ext → (∀ q ∈ ext, ∀ p ∈ news, p.1 < q.1) → Fr h₁ L' h' m' → News h₁ L' h' (ext ++ news) → Q' v {s' with heap := h', toks := tk'}) →
     (∀ e g h' tk', Bad → Fr h₁ L' g m' → WR w g (env' :: outer') spot news e h' → E' (.ref e) {s' with heap := h', toks := tk'}) →
     wpAny (model PR w) A' (call (.ref c) []) Q' E' s')
   (hok : ∀ v ext h₁ h' tk', Ok v ext → (∀ q ∈ ext, ∀ p ∈ news, p.1 < q.1) → KtsTurn (outer.filterMap (·.frame)) h₀ h₁ → Below A₀ base outer h₁ → Fr h₁ L h' m → News h₁ L h' (ext ++ news) → Q v {s with heap := h', toks := tk'})
   (hcatch : ∀ o t1 t2 h₁ h' tk', Bad → KtsTurn (outer.filterMap (·.frame)) h₀ h₁ → Below A₀ base outer h₁ → Fr h₁ L h' m → News h₁ L h' ((o, tup [.str "fault" t1, .int spot t2]) :: news) → (∀ p ∈ news, p.1 < o) → Q (.ref o) {s with heap := h', toks := tk'}) :
   wpAny (model PR w) A (call (.ref 134) [.ref c]) Q E s := by
  refine wpAny_call ?_
  k_dflt (refine' code_defU (binds := [("deed", .ref c)]) ?k1 ?k2 ?k3 ?k4 ?k5 hA hf hke ?k6 ?k7 ?k8 ?k9 ?kB ?_ ?c2 ?c3 ?c4 ?c5; (case k1 => k_asm); (case k2 => k_asm); (case k3 => k_asm); (case k4 => k_asm); (case k5 => k_asm); (case k6 => k_is); (case k7 => k_is); (case k8 => ktr_room); (case k9 => exact BindsTo.of_eq rfl); (case c5 => decide); (case kB => exact locs rfl); (case c2 => exact rfl); (case c3 => exact rfl); (case c4 => exact rfl); k_whole; intro g' L' h' FG' F' N' B' X' T'; (try dsimp only); (try k_fold))
  have hN₀ : ∀ p ∈ news, h₀.get? p.1 = none ∧ p.1 ≠ L := fun p hp => ⟨(N p hp).2.2, (N p hp).2.1⟩
  iterate 2 walk1
  iterate 5 walk1
  refine callWith_F0 (s := ⟨_, _, _, _, _⟩) (FnAt.of N' hc) ?_
  refine hdeed (s' := ⟨_, _, _, _, _⟩) B' F' X' N' T' (Around.frames_deeper (Below.stack B')) rfl rfl hh (by ktr_room) (by ktr_units) ?_ ?_
  · intro v ext h9 tk9 hv hx F9 N9
    obtain ⟨h₁, T₁, F₁, B₁, N₁⟩ := back_to B FG' hf .refl F9 N9
    exact hok v ext h₁ h9 tk9 hv hx T₁ B₁ F₁ N₁
  · intro e g9 h9 tk9 hb FG9 R9
    refine noteW (Around.frames_deeper (Below.stack B')) (Below.frames (Below.push B' FG9 (by exact rfl))) rfl R9 ?_ ?_
    · intro p hp hm
      obtain ⟨n1, n2, n3⟩ := N' p hp
      rcases mem_frames.mp hm with q | q
      · exact n2 (Option.some.inj q).symm
      · obtain ⟨_, o, ho, _⟩ := B'.frames.mem q
        rw [n3] at ho; cases ho
    intro h8 R8
    dsimp only
    obtain ⟨g2, T2, F2, B2⟩ := ground B' FG9 rfl R8.2
    have X2 := XB.keeps B2.stays
    have P2 := TB.keeps B2.stays
    have he8 := R8
    obtain ⟨⟨d8, t08, T8, x8, tx8, ti8, t18, t28, he8, hd8, _⟩, _⟩ := he8
    refine wpAny_handleBy_cons (codeAny_handlers_test (name_K (v := .ref 45) F2 X2 (topRead_of P2) (by k_dflt k_is) ?_)) (by intro q; cases q)
    refine (wf_exm (X2.keeps F2.keep) he8).here ?_
    dsimp only
    refine codeAny_handlers_suite_as (flightW (s' := ⟨_, _, _, _, _⟩) R8 ?_)
    intro h7 R7
    dsimp only
    obtain ⟨g3, T3, F3, B3⟩ := ground B' FG9 rfl R7.2
    have X3 := XB.keeps B3.stays
    have P3 := TB.keeps B3.stays
    obtain ⟨⟨d7, t07, T7, x7, tx7, ti7, t17, t27, he7, hd7, htb7, heg, hdg, hTg, hnw⟩, R71⟩ := R7
    have fresh : ∀ {b}, g9.get? b = none → g3.get? b = none ∧ b ≠ L' := fun {b} hb' => by
      refine ⟨T3.none_ _ ?_, fun q => ?_⟩
      · cases q : g'.get? b with
        | none => rfl
        | some o => have := FG9.keep _ _ q; rw [hb'] at this; cases this
      · obtain ⟨oL, _, _, hL, _⟩ := FG9.ns
        rw [q] at hb'; rw [hL] at hb'; cases hb'
    have N3 : News g3 L' h7 ((e, wfT d7 t07 (.ref T7)) :: (d7, wfDict w (.str x7 tx7) (.int spot ti7) t17 t27) :: news) := fun p hp => by
      rcases List.mem_cons.mp hp with rfl | hp
      · exact ⟨he7, (fresh heg).2, (fresh heg).1⟩
      · rcases List.mem_cons.mp hp with rfl | hp
        · exact ⟨hd7, (fresh hdg).2, (fresh hdg).1⟩
        · exact ⟨(hnw p hp).1, (N' p hp).2.1, T3.none_ _ (N' p hp).2.2⟩
    clear he7 hd7 htb7 heg hdg hTg hnw R71 R8 R9 F2 B2 X2 P2 T2 FG9 he8 hd8 fresh
    refine stN (s := ⟨_, _, _, _, _⟩) F3 N3 (fun h6 F6 N6 => ?_) (by exact rfl) (by exact rfl)
    clear F3 N3 F' N'
    iterate 9 walk1
    refine spot_get (X3.keeps F6.keep) (N6 _ (.head _)).1 (N6 _ (.tail _ (.head _))).1 ?_
    iterate 3 walk1
    rename (Fr _ _ _ _) => F5
    rename (News _ _ _ _) => N5
    obtain ⟨h₁, T₁, F₁, B₁, N₁⟩ := back_to B FG' hf T3 F5 N5
    refine hcatch _ _ _ h₁ _ _ hb T₁ B₁ F₁ (news_cut2 N₁) (by walk_at "my lt")

end
section
theorem off_LeaveX : True := by
  w_top off
  trivial
section
variable {M : Model} {w : World} {A₀ : Around} {base g G : Heap} {outer : List Env} {L : Addr} {m : Str → Option Value} {ev : Env} {s' : Shared} {e : Addr} {Q : Unit → Shared → Prop} {E : Value → Shared → Prop}
theorem leaveWX {spot : Int} {news news' : List (Addr × Obj)} {h₁ : Heap} (B : Below A₀ base outer g) (F : Fr g L G m) (R : WR w G (ev :: outer) spot news' e s'.heap) (N : News g L h₁ news) (hsub : ∀ p ∈ news, p ∈ news') (hev : ev.frame = some L) (hk : ev.scope.kind = .function)
    (hQ : ∀ h', WR w g outer spot news e h' → Q () { s' with heap := h' }) :
    wpAny M (A₀.deeper (ev)) (leaving (ev) (.ref e)) Q E s' := by
  have hbL : base.get? L = none := by
    cases q : base.get? L with
    | none => rfl
    | some o => have := B.stays _ _ q; rw [fr_none F] at this; cases this
  have K' : G.FunFrames base (ev :: outer) := Heap.FunFrames.cons (by rw [hk]; decide) hev F.ns hbL (B.frames.of_keeps fun b o e _ => ⟨o, F.keep b o e, rfl⟩)
  obtain ⟨⟨d, t0, T, x, tx, ti, t1, t2, he, hd, htb, heg, hdg, hTg, hnw⟩, R1, R2⟩ := R
  have no : ∀ {b}, G.get? b = none → g.get? b = none := fun {b} hb => by
    cases q : g.get? b with
    | none => rfl
    | some o => have := F.keep _ _ q; rw [hb] at this; cases this
  have hde : d ≠ e := fun q => by
    rw [q, he] at hd
    injection hd with hd
    have := congrArg Obj.data hd
    cases this
  have hdT : d ≠ T := fun q => by
    obtain ⟨_, oT, ts, hT, hdT, _⟩ := htb
    rw [q, hT] at hd
    injection hd with hd
    rw [hd] at hdT
    cases hdT
  have ff : s'.heap.FunFrames {} (ev :: outer) := (ff_nil K').of_keeps fun b o hb _ => by
    obtain ⟨sl, hs⟩ := R2 b o hb
    exact ⟨_, hs, rfl⟩
  refine leave_core (hd := .ref T) (Around.frames_deeper B.stack) ff hev he (.inr ⟨T, rfl, htb⟩) fun h' T' mv h1 h2 h3 => hQ h' ⟨⟨d, t0, T', x, tx, ti, t1, t2, h1, ?_, h3, no heg, no hdg, ?_, fun p hp => ?_⟩, ⟨fun b o hb hn => ?_, fun b o hb => ?_⟩⟩
  · refine mv.1 d _ hd hde (fun q => hdT (Value.ref.inj q)) fun hm => ?_
    obtain ⟨_, o, ho, _⟩ := K'.mem hm
    rw [hdg] at ho; cases ho
  · cases q : g.get? T' with
    | none => rfl
    | some o =>
      obtain ⟨sl, hs⟩ := R2 _ _ (F.keep _ _ q)
      rw [h2] at hs; cases hs
  · obtain ⟨p1, p2, p3⟩ := hnw p (hsub p hp)
    obtain ⟨_, q2, q3⟩ := N p hp
    refine ⟨mv.1 _ _ p1 p2 (fun q => p3 (Value.ref.inj q)) fun hm => ?_, p2, fun q => by rw [q, h2] at p1; cases p1⟩
    rcases mem_frames.mp hm with q | q
    · exact q2 (Option.some.inj (hev.symm.trans q)).symm
    · obtain ⟨_, o, ho, _⟩ := B.frames.mem q
      rw [q3] at ho; cases ho
  · have hG := F.keep b o hb
    have hbn : b ∉ (ev :: outer).filterMap (·.frame) := fun hm => by
      rcases mem_frames.mp hm with q | q
      · have q' : b = L := (Option.some.inj (hev.symm.trans q)).symm
        rw [q', fr_none F] at hb; cases hb
      · exact hn q
    exact mv.1 b o (R1 b o hG hbn) (fun q => by rw [q, heg] at hG; cases hG) (fun q => by rw [Value.ref.inj q, hTg] at hG; cases hG) hbn
  · have hG := F.keep b o hb
    obtain ⟨sl, hs⟩ := R2 b o hG
    obtain ⟨sl', hs'⟩ := mv.2 b _ hs (fun q => by rw [q, heg] at hG; cases hG) (fun q => by rw [Value.ref.inj q, hTg] at hG; cases hG)
    exact ⟨sl', hs'⟩
end
/-- a fault leaves any function's frame, a lambda's too -/
theorem raisedWX {M : Model} {w : World} {A₀ : Around} {base g G h h₁ : Heap} {outer : List Env} {L : Addr} {m : Str → Option Value} {ev : Env} {s : Shared} {tk : Nat} {e : Addr} {E : Value → Shared → Prop} {spot : Int} {news news' : List (Addr × Obj)}
    (B : Below A₀ base outer g) (F : Fr g L G m) (R : WR w G (ev :: outer) spot news' e h) (N : News g L h₁ news) (hsub : ∀ p ∈ news, p ∈ news')
    (hQ : ∀ h', WR w g outer spot news e h' → E (.ref e) { s with heap := h', toks := tk }) (hev : ev.frame = some L := by rfl) (hk : ev.scope.kind = .function := by rfl) :
    wpAny M (A₀.deeper ev) (leaving ev (.ref e)) (fun _ s'' => E (.ref e) s'') (fun e' s'' => E e' s'') { s with heap := h, toks := tk } :=
  leaveWX (s' := { s with heap := h, toks := tk }) B F R N hsub hev hk hQ

end
section
local macro_rules | `(tactic| walk_at "pad 0") => `(tactic| fail)
theorem off_Sign : True := by
  w_top off
  trivial
def loS (w : Nat) : Nat := if w < 10 then 48 + w else 87 + w
def upS (w : Nat) : Nat := if w < 10 then 48 + w else 55 + w
theorem sign_eq : ∀ v < 16, Txt.item (Str.ofString "0123456789abcdef") ((v : Nat) : Int) ++ Txt.item (Str.ofString "0123456789ABCDEF") ((v : Nat) : Int) = S [loS v, upS v] := by decide +kernel
theorem sign_ok {w : World} {p : Program} {loose : List Str} {mean : ExcName → Option Value} {mg mb : Str → Option Value} {A A₀ : Around} {env : Env} {outer : List Env} {base h₀ : Heap} {L : Addr} {m : Str → Option Value} {s : Shared} {Q E : Value → Shared → Prop} {news : List (Addr × Obj)} {v : Nat} {tv : Tok}
   (B : Below A₀ base outer h₀) (F : Fr h₀ L s.heap m) (X : (Mine.frag.heap_1 w.params).In h₀) (N : News h₀ L s.heap news) (T : Top p loose mean mg mb h₀) (hA : A.frames = some (env :: outer)) (hf : env.frame = some L) (hke : env.scope.kind = .function) (hh : A.handled = none) (hd : A.depth + 2 < recursionLimit) (hu : A.units + 16 < cLine) (hv : v < 16)
   (hret : ∀ t h' tk', Fr h₀ L h' m → News h₀ L h' news → Q (.str (S [loS v, upS v]) t) {s with heap := h', toks := tk'}) :
   wpAny (model PR w) A (call (.ref 141) [.int v tv]) Q E s := by
  refine wpAny_call ?_
  k_dflt (refine' code_def (binds := [("worth", .int v tv)]) ?k1 ?k2 ?k3 ?k4 ?k5 hA hf hke ?k6 ?k7 ?k8 ?k9 ?kB ?_ ?c2 ?c3 ?c4 ?c5; (case k1 => k_asm); (case k2 => k_asm); (case k3 => k_asm); (case k4 => k_asm); (case k5 => k_asm); (case k6 => k_is); (case k7 => k_is); (case k8 => ktr_room); (case k9 => exact BindsTo.of_eq rfl); (case c5 => decide); (case kB => exact locs rfl); (case c2 => exact rfl); (case c3 => exact rfl); (case c4 => exact rfl); k_whole; intro g' L' h' FG' F' N' B' X' T'; (try dsimp only); (try k_fold))
  k_steps
  rw [sign_eq v hv]
  exact hret _ _ _ (by assumption) (by assumption)

end
section
local macro_rules | `(tactic| walk_at "pad 0") => `(tactic| fail)
local macro_rules | `(tactic| walk_at "pad 1") => `(tactic| fail)
theorem off_Pool : True := by
  w_top off
  trivial
theorem pool_src (i : Int) (hb : i.natAbs.log2 < 2 ^ 22) (z : Int) : SrcOk (if -1 - i > i then -1 - i else i) (z.fmod 2147483647) := by
  rw [fmodA]
  have e : (if -1 - i > i then -1 - i else i).natAbs ≤ i.natAbs := by split <;> omega
  refine ⟨by split <;> omega, ?_, by omega, by omega⟩
  by_cases hz : (if -1 - i > i then -1 - i else i).natAbs = 0
  · rw [hz]; decide
  · exact Nat.lt_of_le_of_lt ((Nat.le_log2 (by omega)).mpr (Nat.le_trans (Nat.log2_self_le hz) e)) hb
theorem pool_zero (z : Int) : SrcOk 0 (z.fmod 2147483647) := by
  rw [fmodA]
  exact ⟨by decide, by decide, by omega, by omega⟩
theorem getD_bits {ws : List Int} (hb : ∀ i ∈ ws, i.natAbs.log2 < 2 ^ 22) {k : Nat} : (ws.getD k 0).natAbs.log2 < 2 ^ 22 := by
  by_cases h : k < ws.length
  · rw [List.getD_eq_getElem?_getD, List.getElem?_eq_getElem h]; exact hb _ (List.getElem_mem h)
  · rw [List.getD_eq_getElem?_getD, List.getElem?_eq_none (by omega)]; decide
theorem weight_mem : ∀ {ws : List Int} {i : Int}, i ∈ ws → PyData.weight (.int i) ≤ PyData.weightAll (ws.map .int)
  | w :: r, i, h => by
    show _ ≤ PyData.weight (.int w) + 1 + PyData.weightAll (r.map .int)
    rcases List.mem_cons.mp h with rfl | h
    · omega
    · have := weight_mem h; omega
theorem lay_bits {ws : List Int} (h : PyData.layable0 (.list (ws.map .int)) = true) : ∀ i ∈ ws, i.natAbs.log2 < 2 ^ 22 := fun i hi => by
  unfold PyData.layable0 at h
  have h1 := of_decide_eq_true (Bool.and_eq_true_iff.mp h).2
  have h2 := weight_mem hi
  have h3 : PyData.weight (.list (ws.map .int)) = PyData.weightAll (ws.map .int) := rfl
  have h4 : PyData.weight (.int i) = if i == 0 then 0 else i.natAbs.log2 + 1 := rfl
  by_cases hz : i = 0
  · subst hz; decide
  · rw [h4, if_neg (by simpa using hz)] at h2
    omega
local macro_rules | `(tactic| walk_at "call builtin:max") => `(tactic| (k_here; k_dflt (refine' max_two_N ?hh ?F ?N ?_; (case hh => assumption); (case F => k_asm); (case N => k_asm); k_whole); intro _ _ _ _))
theorem pool_ok {w : World} {p : Program} {loose : List Str} {mean : ExcName → Option Value} {mg mb : Str → Option Value} {A A₀ : Around} {env : Env} {outer : List Env} {base h₀ : Heap} {L : Addr} {m : Str → Option Value} {s : Shared} {Q E : Value → Shared → Prop} {news : List (Addr × Obj)} {c : Addr} {vs : List Value} {ws : List Int}
   (B : Below A₀ base outer h₀) (F : Fr h₀ L s.heap m) (X : (Mine.frag.heap_1 w.params).In h₀) (N : News h₀ L s.heap news) (T : Top p loose mean mg mb h₀) (hA : A.frames = some (env :: outer)) (hf : env.frame = some L) (hke : env.scope.kind = .function) (hh : A.handled = none) (hd : A.depth + 2 < recursionLimit) (hu : A.units + 16 < cLine) (hL : h₀.IsList c vs.toArray) (hI : IntsAre vs ws) (hb : ∀ i ∈ ws, i.natAbs.log2 < 2 ^ 22) (hlen : ¬ (63 : Int) < (ws.length : Int))
   (hret : ∀ a x y tx ty n h' tk', SrcOk x y → Fr h₀ L h' m → News h₀ L h' ((a, srcO x y tx ty n) :: news) → (∀ p ∈ news, p.1 < a) → Q (.ref a) {s with heap := h', toks := tk'}) :
   wpAny (model PR w) A (call (.ref 113) [.ref c]) Q E s := by
  refine wpAny_call ?_
  k_dflt (refine' code_def (binds := [("script", .ref c)]) ?k1 ?k2 ?k3 ?k4 ?k5 hA hf hke ?k6 ?k7 ?k8 ?k9 ?kB ?_ ?c2 ?c3 ?c4 ?c5; (case k1 => k_asm); (case k2 => k_asm); (case k3 => k_asm); (case k4 => k_asm); (case k5 => k_asm); (case k6 => k_is); (case k7 => k_is); (case k8 => ktr_room); (case k9 => exact BindsTo.of_eq rfl); (case c5 => decide); (case kB => exact locs rfl); (case c2 => exact rfl); (case c3 => exact rfl); (case c4 => exact rfl); k_whole; intro g' L' h' FG' F' N' B' X' T'; (try dsimp only); (try k_fold))
  have hL' : g'.IsList c vs.toArray := hL.imp fun o x => ⟨FG'.keep _ _ x.1, x.2⟩
  k_steps
  · refine hret _ _ _ _ _ _ _ _ (pool_src _ ?_ _) (by assumption) (by assumption) (by walk_at "my lt")
    exact getD_bits hb
  · exact hret _ _ _ _ _ _ _ _ (pool_zero _) (by assumption) (by assumption) (by walk_at "my lt")
  · exact hret _ _ _ _ _ _ _ _ (pool_zero _) (by assumption) (by assumption) (by walk_at "my lt")

end
section
theorem off_Cat : True := by
  w_top off
  trivial
section
variable {prog : Program} {w : World} {A : Around} {E : Value → Shared → Prop} {s : Shared} {a b : List Nat} {t u : Tok} {Q : Value → Shared → Prop}
theorem cat_S (hl : a.length + b.length ≤ 10000) (h : ∀ t' k, Q (.str (S (a ++ b)) t') { s with toks := k }) : wpAny (model prog w) A (binaryOp .Add (.str (S a) t) (.str (S b) u)) Q E s := by
  refine add_str (hsz := by rw [S_len, S_len, sizeLine_eq]; omega) ?_
  rw [S_app]
  exact h
theorem cat_low (hl : a.length ≤ 9999) (h : ∀ t' k, Q (.str (S (a ++ [95])) t') { s with toks := k }) : wpAny (model prog w) A (binaryOp .Add (.str (S a) t) (.str (Str.ofString "_") u)) Q E s := by
  rw [show Str.ofString "_" = S [95] by decide +kernel]
  exact cat_S (by rw [List.length_singleton]; omega) h
end

end
local macro_rules | `(tactic| walk_at "my len") => `(tactic| first | omega | (simp only [List.length_append, List.length_cons, List.length_nil]; omega) | (simp only [List.length_append, List.length_cons, List.length_nil] at *; omega))
local macro_rules | `(tactic| walk_at "binaryOp Add str str") => `(tactic| (k_here; (with_reducible show wpAny _ _ (binaryOp Operator.Add (Value.str (S _) _) (Value.str (S _) _)) _ _ _); k_dflt (refine' cat_S ?kl ?_; (case kl => walk_at "my len"); k_whole); intro _ _))
local macro_rules | `(tactic| walk_at "binaryOp Add str str") => `(tactic| (k_here; (with_reducible show wpAny _ _ (binaryOp Operator.Add (Value.str (S _) _) (Value.str (Str.ofString "_") _)) _ _ _); k_dflt (refine' cat_low ?kl ?_; (case kl => walk_at "my len"); k_whole); intro _ _))

section
theorem off_Lits : True := by
  w_top off
  trivial
section
variable {M : Model} {A : Around} {env : Env} {E : Value → Shared → Prop} {s : Shared} {h₀ : Heap} {L : Addr} {m : Str → Option Value} {news : List (Addr × Obj)} {Q : Value → Shared → Prop} {a : Str} {b : Int} {c : Bool} {k1 k2 k3 kk : Nat} {p1 p2 p3 pos : Pos}
/-- a written pair of a text and a number -/
theorem row2 (F : Fr h₀ L s.heap m) (N : News h₀ L s.heap news)
    (h : ∀ D h' t1 t2 tk', Fr h₀ L h' m → News h₀ L h' ((D, tup [.str a t1, .int b t2]) :: news) → (∀ p ∈ news, p.1 < D) → Q (.ref D) {s with heap := h', toks := tk'}) :
    wpAny M A (eval (.Tuple [.Constant (.str a) k1 p1, .Constant (.int b) k2 p2] kk pos) env) Q E s := by
  refine Tuple_ (spliced_more (Calls.Constant_str (spliced_more (wpAny_Constant_int (spliced_none ?_)))))
  exact kup_newTuple (s := {s with toks := s.toks + 1 + 1}) F N (fun D h' F' N' l => h D h' _ _ _ F' N' l) (Nat.le_of_ble_eq_true rfl)
/-- a written triple of a text, a number and a bool -/
theorem row3 (F : Fr h₀ L s.heap m) (N : News h₀ L s.heap news)
    (h : ∀ D h' t1 t2 tk', Fr h₀ L h' m → News h₀ L h' ((D, tup [.str a t1, .int b t2, .bool c]) :: news) → (∀ p ∈ news, p.1 < D) → Q (.ref D) {s with heap := h', toks := tk'}) :
    wpAny M A (eval (.Tuple [.Constant (.str a) k1 p1, .Constant (.int b) k2 p2, .Constant (.bool c) k3 p3] kk pos) env) Q E s := by
  refine Tuple_ (spliced_more (Calls.Constant_str (spliced_more (wpAny_Constant_int (spliced_more (Constant_bool (spliced_none ?_)))))))
  exact kup_newTuple (s := {s with toks := s.toks + 1 + 1}) F N (fun D h' F' N' l => h D h' _ _ _ F' N' l) (Nat.le_of_ble_eq_true rfl)
end

end
local macro_rules | `(tactic| walk_at "eval Tuple") => `(tactic| (k_here; (with_reducible show wpAny _ _ (eval (Expr.Tuple [Expr.Constant (Const.str _) _ _, Expr.Constant (Const.int _) _ _] _ _) _) _ _ _); k_dflt (refine' row2 ?F ?N ?_; (case F => k_asm); (case N => k_asm); k_whole); intro D' h' t1' t2' tk' F' N' l1; (try k_lt l1); (try k_sweep)))
local macro_rules | `(tactic| walk_at "eval Tuple") => `(tactic| (k_here; (with_reducible show wpAny _ _ (eval (Expr.Tuple [Expr.Constant (Const.str _) _ _, Expr.Constant (Const.int _) _ _, Expr.Constant (Const.bool _) _ _] _ _) _) _ _ _); k_dflt (refine' row3 ?F ?N ?_; (case F => k_asm); (case N => k_asm); k_whole); intro D' h' t1' t2' tk' F' N' l1; (try k_lt l1); (try k_sweep)))
local macro_rules | `(tactic| walk_at "my es") => `(tactic| (repeat constructor))

section
theorem off_Pick : True := by
  w_top off
  trivial
inductive StrsAre : List Value → List (List Nat) → Prop
  | nil : StrsAre [] []
  | cons {x : Str} {l : List Nat} {t : Tok} {vs : List Value} {xs : List (List Nat)} (h : x = S l) (r : StrsAre vs xs) : StrsAre (.str x t :: vs) (l :: xs)
theorem pickS {vs : List Value} {xs : List (List Nat)} (h : StrsAre vs xs) {v : Value} (hv : v ∈ vs) : ∃ l t, v = .str (S l) t ∧ l ∈ xs := by
  induction h with
  | nil => cases hv
  | @cons x l t vs xs e _ ih =>
    rcases List.mem_cons.mp hv with q | hv
    · exact ⟨l, t, by rw [q, e], .head _⟩
    · obtain ⟨l', t', e', hm⟩ := ih hv
      exact ⟨l', t', e', .tail _ hm⟩
def headX : List (List Nat) := [[], [59], [40, 51]]

end
section
theorem off_RowL : True := by
  w_top off
  trivial
/-- the rows that a list display writes -/
inductive RowEs : List PySem.Expr → List (List Nat × Int × Bool) → Prop
  | nil : RowEs [] []
  | cons {zzx : Str} {zzb : Int} {zzc : Bool} {zzk1 zzk2 zzk3 zzkk : Nat} {zzp1 zzp2 zzp3 zzpos : Pos} {zzes : List PySem.Expr} {zzrs : List (List Nat × Int × Bool)} (zzr : RowEs zzes zzrs) : RowEs (.Tuple [.Constant (.str zzx) zzk1 zzp1, .Constant (.int zzb) zzk2 zzp2, .Constant (.bool zzc) zzk3 zzp3] zzkk zzpos :: zzes) ((zzx.cps.toList, zzb, zzc) :: zzrs)
inductive PairEs : List PySem.Expr → List (List Nat × Int) → Prop
  | nil : PairEs [] []
  | cons {zzx : Str} {zzb : Int} {zzk1 zzk2 zzkk : Nat} {zzp1 zzp2 zzpos : Pos} {zzes : List PySem.Expr} {zzrs : List (List Nat × Int)} (zzr : PairEs zzes zzrs) : PairEs (.Tuple [.Constant (.str zzx) zzk1 zzp1, .Constant (.int zzb) zzk2 zzp2] zzkk zzpos :: zzes) ((zzx.cps.toList, zzb) :: zzrs)
inductive StrEs : List PySem.Expr → List (List Nat) → Prop
  | nil : StrEs [] []
  | cons {zzx : Str} {zzk1 : Nat} {zzp1 : Pos} {zzes : List PySem.Expr} {zzxs : List (List Nat)} (zzr : StrEs zzes zzxs) : StrEs (.Constant (.str zzx) zzk1 zzp1 :: zzes) (zzx.cps.toList :: zzxs)
def StrsIs (xs ys : List (List Nat)) : Prop := xs = ys
def PairOf (rs : List (List Nat × Int)) (own : List (Addr × Obj)) (v : Value) : Prop := ∃ o word val a1 a2, v = .ref o ∧ (o, tup [.str (S word) a1, .int val a2]) ∈ own ∧ (word, val) ∈ rs
theorem PairOf.sub {rs rs' : List (List Nat × Int)} {own own' : List (Addr × Obj)} {v : Value} (h : PairOf rs own v) (hs : ∀ p ∈ own, p ∈ own') (hr : ∀ r ∈ rs, r ∈ rs') : PairOf rs' own' v := by
  obtain ⟨o, word, val, a1, a2, e, hm, hw⟩ := h
  exact ⟨o, word, val, a1, a2, e, hs _ hm, hr _ hw⟩
def RowOf (rs : List (List Nat × Int × Bool)) (own : List (Addr × Obj)) (v : Value) : Prop := ∃ o word val b a1 a2, v = .ref o ∧ (o, tup [.str (S word) a1, .int val a2, .bool b]) ∈ own ∧ (word, val, b) ∈ rs
theorem RowOf.sub {rs rs' : List (List Nat × Int × Bool)} {own own' : List (Addr × Obj)} {v : Value} (h : RowOf rs own v) (hs : ∀ p ∈ own, p ∈ own') (hr : ∀ r ∈ rs, r ∈ rs') : RowOf rs' own' v := by
  obtain ⟨o, word, val, b, a1, a2, e, hm, hw⟩ := h
  exact ⟨o, word, val, b, a1, a2, e, hs _ hm, hr _ hw⟩
theorem StrsAre.len {vs : List Value} {xs : List (List Nat)} (h : StrsAre vs xs) : vs.length = xs.length := by
  induction h with
  | nil => rfl
  | cons _ _ ih => rw [List.length_cons, List.length_cons, ih]
structure StrsOk (vs : List Value) (xs : List (List Nat)) : Prop where
  are : StrsAre vs xs
  pos : 0 < xs.length
  few : xs.length ≤ 1000
section
variable {M : Model} {A : Around} {env : Env} {E : Value → Shared → Prop} {h₀ : Heap} {L : Addr} {m : Str → Option Value}
theorem rows_aux {pos : Pos} {es : List PySem.Expr} {rs : List (List Nat × Int × Bool)} (hE : RowEs es rs) : ∀ {news : List (Addr × Obj)} {s : Shared} {Q : List Value → Shared → Prop}, Fr h₀ L s.heap m → News h₀ L s.heap news →
    (∀ (own : List (Addr × Obj)) (vs : List Value) h' tk', Fr h₀ L h' m → News h₀ L h' (own ++ news) → vs.length = rs.length → (∀ v ∈ vs, RowOf rs own v) → (∀ p ∈ own, ∀ c ∈ news, Prod.fst c < p.1) → Q vs {s with heap := h', toks := tk'}) →
    wpAny M A (spliced (backTo pos (starEach es env))) Q E s := by
  induction hE with
  | nil => intro news s Q F N h; exact spliced_none (h [] [] s.heap s.toks F N rfl (fun _ hv => nomatch hv) (fun _ hp => nomatch hp))
  | @cons x b c _ _ _ _ _ _ _ _ es rs _ ih =>
    intro news s Q F N h
    refine spliced_more (row3 F N fun D h' t1 t2 tk' F' N' hlt => ?_)
    refine ih (s := {s with heap := h', toks := tk'}) F' N' fun own vs h2 tk2 F2 N2 hl hr ho => ?_
    refine h (own ++ [(D, tup [.str x t1, .int b t2, .bool c])]) (.ref D :: vs) h2 tk2 F2 (by rw [List.append_assoc]; exact N2) (congrArg (· + 1) hl) (fun v hv => ?_) (fun p hp c' hc => ?_)
    · rcases List.mem_cons.mp hv with rfl | hv
      · exact ⟨D, x.cps.toList, b, c, t1, t2, rfl, List.mem_append_right _ (by rw [S_eq]; exact .head _), .head _⟩
      · exact (hr v hv).sub (fun p hp => List.mem_append_left _ hp) (fun r hr => .tail _ hr)
    · rcases List.mem_append.mp hp with hp | hp
      · exact ho p hp c' (.tail _ hc)
      · rw [List.mem_singleton.mp hp]; exact hlt c' hc
theorem rows_list {pos : Pos} {es : List PySem.Expr} {news : List (Addr × Obj)} {s : Shared} {Q : Value → Shared → Prop} {rs0 : List (List Nat × Int × Bool)} (rs : List (List Nat × Int × Bool)) (hE : RowEs es rs0) (hR : rs0 = rs) (hz : rs.length ≤ sizeLine) (F : Fr h₀ L s.heap m) (N : News h₀ L s.heap news)
    (h : ∀ (D : Addr) (own : List (Addr × Obj)) (vs : List Value) h' tk', Fr h₀ L h' m → News h₀ L h' ((D, listOf vs.toArray 0) :: (own ++ news)) → vs.length = rs.length → (∀ v ∈ vs, RowOf rs own v) → (∀ p ∈ own, ∀ c ∈ news, Prod.fst c < p.1) → (∀ p ∈ own ++ news, p.1 < D) → Q (.ref D) {s with heap := h', toks := tk'}) :
    wpAny M A (eval (.List es pos) env) Q E s := by
  subst hR
  refine List_ (rows_aux hE F N fun own vs h1 tk1 F1 N1 hl hr ho => ?_)
  exact newList_K (s := {s with heap := h1, toks := tk1}) F1 N1 (fun D h2 F2 N2 hlt => h D own vs h2 tk1 F2 N2 hl hr ho hlt) (hl ▸ hz)
theorem pairs_aux {pos : Pos} {es : List PySem.Expr} {rs : List (List Nat × Int)} (hE : PairEs es rs) : ∀ {news : List (Addr × Obj)} {s : Shared} {Q : List Value → Shared → Prop}, Fr h₀ L s.heap m → News h₀ L s.heap news →
    (∀ (own : List (Addr × Obj)) (vs : List Value) h' tk', Fr h₀ L h' m → News h₀ L h' (own ++ news) → vs.length = rs.length → (∀ v ∈ vs, PairOf rs own v) → (∀ p ∈ own, ∀ c ∈ news, Prod.fst c < p.1) → Q vs {s with heap := h', toks := tk'}) →
    wpAny M A (spliced (backTo pos (starEach es env))) Q E s := by
  induction hE with
  | nil => intro news s Q F N h; exact spliced_none (h [] [] s.heap s.toks F N rfl (fun _ hv => nomatch hv) (fun _ hp => nomatch hp))
  | @cons x b _ _ _ _ _ _ es rs _ ih =>
    intro news s Q F N h
    refine spliced_more (row2 F N fun D h' t1 t2 tk' F' N' hlt => ?_)
    refine ih (s := {s with heap := h', toks := tk'}) F' N' fun own vs h2 tk2 F2 N2 hl hr ho => ?_
    refine h (own ++ [(D, tup [.str x t1, .int b t2])]) (.ref D :: vs) h2 tk2 F2 (by rw [List.append_assoc]; exact N2) (congrArg (· + 1) hl) (fun v hv => ?_) (fun p hp c' hc => ?_)
    · rcases List.mem_cons.mp hv with rfl | hv
      · exact ⟨D, x.cps.toList, b, t1, t2, rfl, List.mem_append_right _ (by rw [S_eq]; exact .head _), .head _⟩
      · exact (hr v hv).sub (fun p hp => List.mem_append_left _ hp) (fun r hr => .tail _ hr)
    · rcases List.mem_append.mp hp with hp | hp
      · exact ho p hp c' (.tail _ hc)
      · rw [List.mem_singleton.mp hp]; exact hlt c' hc
theorem pairs_list {pos : Pos} {es : List PySem.Expr} {news : List (Addr × Obj)} {s : Shared} {Q : Value → Shared → Prop} {rs0 : List (List Nat × Int)} (rs : List (List Nat × Int)) (hE : PairEs es rs0) (hR : rs0 = rs) (hz : rs.length ≤ sizeLine) (F : Fr h₀ L s.heap m) (N : News h₀ L s.heap news)
    (h : ∀ (D : Addr) (own : List (Addr × Obj)) (vs : List Value) h' tk', Fr h₀ L h' m → News h₀ L h' ((D, listOf vs.toArray 0) :: (own ++ news)) → vs.length = rs.length → (∀ v ∈ vs, PairOf rs own v) → (∀ p ∈ own, ∀ c ∈ news, Prod.fst c < p.1) → (∀ p ∈ own ++ news, p.1 < D) → Q (.ref D) {s with heap := h', toks := tk'}) :
    wpAny M A (eval (.List es pos) env) Q E s := by
  subst hR
  refine List_ (pairs_aux hE F N fun own vs h1 tk1 F1 N1 hl hr ho => ?_)
  exact newList_K (s := {s with heap := h1, toks := tk1}) F1 N1 (fun D h2 F2 N2 hlt => h D own vs h2 tk1 F2 N2 hl hr ho hlt) (hl ▸ hz)
theorem strs_aux {pos : Pos} {es : List PySem.Expr} {xs : List (List Nat)} (hE : StrEs es xs) : ∀ {s : Shared} {Q : List Value → Shared → Prop}, (∀ (vs : List Value) tk', StrsAre vs xs → Q vs {s with toks := tk'}) → wpAny M A (spliced (backTo pos (starEach es env))) Q E s := by
  induction hE with
  | nil => intro s Q h; exact spliced_none (h [] s.toks .nil)
  | @cons x _ _ es xs _ ih =>
    intro s Q h
    refine spliced_more (Calls.Constant_str ?_)
    exact ih (s := {s with toks := s.toks + 1}) fun vs tk' hv => h (_ :: vs) tk' (.cons (S_eq x).symm hv)
theorem strs_list {pos : Pos} {es : List PySem.Expr} {news : List (Addr × Obj)} {s : Shared} {Q : Value → Shared → Prop} {xs0 : List (List Nat)} (xs : List (List Nat)) (hE : StrEs es xs0) (hR : xs0 = xs) (hz : xs.length ≤ sizeLine) (F : Fr h₀ L s.heap m) (N : News h₀ L s.heap news)
    (h : ∀ (D : Addr) (vs : List Value) h' tk', Fr h₀ L h' m → News h₀ L h' ((D, listOf vs.toArray 0) :: news) → StrsAre vs xs → (∀ p ∈ news, p.1 < D) → Q (.ref D) {s with heap := h', toks := tk'}) :
    wpAny M A (eval (.List es pos) env) Q E s := by
  subst hR
  refine List_ (strs_aux hE fun vs tk1 hv => ?_)
  exact newList_K (s := {s with toks := tk1}) F N (fun D h2 F2 N2 hlt => h D vs h2 tk1 F2 N2 hv hlt) (hv.len ▸ hz)
theorem strs_listE {pos : Pos} {es : List PySem.Expr} {news : List (Addr × Obj)} {s : Shared} {Q : Value → Shared → Prop} {xs0 : List (List Nat)} (F : Fr h₀ L s.heap m) (N : News h₀ L s.heap news)
    (h : ∀ (D : Addr) (vs : List Value) h' tk' xs, StrsIs xs xs0 → Fr h₀ L h' m → News h₀ L h' ((D, listOf vs.toArray 0) :: news) → StrsOk vs xs → (∀ p ∈ news, p.1 < D) → Q (.ref D) {s with heap := h', toks := tk'}) (hE : StrEs es xs0) (hR : (Nat.ble 1 xs0.length && Nat.ble xs0.length 1000) = true) :
    wpAny M A (eval (.List es pos) env) Q E s := by
  rw [Bool.and_eq_true] at hR
  have h1 := Nat.le_of_ble_eq_true hR.2
  exact strs_list xs0 hE rfl (Nat.le_trans h1 (Nat.le_of_ble_eq_true rfl)) F N fun D vs h' tk' F' N' hS hlt => h D vs h' tk' _ rfl F' N' ⟨hS, Nat.le_of_ble_eq_true hR.1, h1⟩ hlt
end
section
variable {h₀ h : Heap} {L c l : Addr} {oc ol : Obj} {own T rest rest1 : List (Addr × Obj)} {vs : List Value}
theorem grown_ne {d : Addr} (G : ∀ p ∈ rest1, p ∈ rest ∨ c < p.1) (hd : d ≤ c) (hr : ∀ p ∈ rest, p.1 ≠ d) : ∀ p ∈ rest1, p.1 ≠ d := fun p hp => (G p hp).elim (hr p) fun h => Nat.ne_of_gt (Nat.lt_of_le_of_lt hd h)
theorem to_back {X : List (Addr × Obj)} : ∀ p ∈ T ++ (own ++ rest), p ∈ own ++ (X ++ (T ++ rest)) := fun p hp => by
  rcases List.mem_append.mp hp with h | h
  · exact List.mem_append_right _ (List.mem_append_right _ (List.mem_append_left _ h))
  · rcases List.mem_append.mp h with h | h
    · exact List.mem_append_left _ h
    · exact List.mem_append_right _ (List.mem_append_right _ (List.mem_append_right _ h))
theorem news_sub {a : Addr × Obj} {l1 l2 : List (Addr × Obj)} (N : News h₀ L h (a :: l1)) (hs : ∀ p ∈ l2, p ∈ l1) : News h₀ L h (a :: l2) := fun p hp => by
  rcases List.mem_cons.mp hp with rfl | hp
  · exact N _ (.head _)
  · exact N p (.tail _ (hs p hp))
theorem pairs_step (Y : List (Addr × Obj)) (N : News h₀ L h ((l, ol) :: (own ++ (Y ++ (T ++ rest))))) (lt : ∀ p ∈ own ++ (Y ++ (T ++ rest)), p.1 < l) {X : List (List Nat × Int)} (hv : ∀ v ∈ vs, PairOf X own v) (hc : (c, oc) ∈ T) (ho : ∀ p ∈ own, ∀ x ∈ Y ++ (T ++ rest), x.1 < p.1) :
    ∃ rest1, News h₀ L h ((l, ol) :: (T ++ rest1)) ∧ (∀ p ∈ T ++ rest1, p.1 < l) ∧ (∀ v ∈ vs, PairOf X rest1 v) ∧ (∀ p ∈ rest1, p ∈ rest ∨ c < p.1) ∧ ∀ p ∈ rest, p ∈ rest1 :=
  ⟨own ++ rest, news_sub N (to_back (X := Y)), fun p hp => lt p (to_back (X := Y) p hp), fun v h => (hv v h).sub (fun p hp => List.mem_append_left _ hp) fun _ h => h,
    fun p hp => (List.mem_append.mp hp).elim (fun h => .inr (ho p h _ (List.mem_append_right _ (List.mem_append_left _ hc)))) .inl, fun p hp => List.mem_append_right _ hp⟩
end
theorem news_sub0 {h₀ h : Heap} {L : Addr} {T1 T2 rest rest2 : List (Addr × Obj)} (N : News h₀ L h (T1 ++ (T2 ++ rest2))) (hs : ∀ p ∈ rest, p ∈ rest2) : News h₀ L h (T2 ++ rest) := fun p hp => N p (List.mem_append_right _ ((List.mem_append.mp hp).elim (List.mem_append_left _) fun h => List.mem_append_right _ (hs p h)))
/-- a draw out of a list of written texts, that is of no use behind it -/
theorem one_strs {w : World} {p : Program} {loose : List Str} {mean : ExcName → Option Value} {mg mb : Str → Option Value} {A A₀ : Around} {env : Env} {outer : List Env} {base h₀ : Heap} {L : Addr} {m : Str → Option Value} {s : Shared} {Q E : Value → Shared → Prop} {news : List (Addr × Obj)} {src l : Addr} {x y : Int} {tx ty : Tok} {n c : Nat} {vs : List Value} {xs : List (List Nat)}
   (B : Below A₀ base outer h₀) (F : Fr h₀ L s.heap m) (X : (Mine.frag.heap_1 w.params).In h₀) (N : News h₀ L s.heap ((l, listOf vs.toArray c) :: news)) (T : Top p loose mean mg mb h₀) (hA : A.frames = some (env :: outer)) (hf : env.frame = some L) (hke : env.scope.kind = .function) (hh : A.handled = none) (hd : A.depth + 2 < recursionLimit) (hu : A.units + 16 < cLine) (U : Upd src (srcO x y tx ty n) (srcO x y tx ty n) news news)
   (ho : SrcOk x y) (hS : StrsOk vs xs) (hlt : ∀ p ∈ news, p.1 < l)
   (hret : ∀ e t' x' y' tx' ty' n' h' tk', e ∈ xs → SrcOk x' y' → Fr h₀ L h' m → (∀ l', Upd src (srcO x y tx ty n) (srcO x' y' tx' ty' n') news l' → News h₀ L h' l') → Q (.str (S e) t') {s with heap := h', toks := tk'}) :
   wpAny (model PR w) A (call (.ref 127) [.ref src, .ref l]) Q E s := by
  have hm : ∃ o, (src, o) ∈ news := by
    obtain ⟨pre, post, e, -⟩ := U.split
    exact ⟨_, e ▸ List.mem_append_right _ (.head _)⟩
  obtain ⟨os, hm⟩ := hm
  have hne : l ≠ src := Nat.ne_of_gt (hlt _ hm)
  refine one_use B F X N T hA hf hke hh hd hu (.tail hne U) ho (.head _) hne (hS.are.len ▸ hS.pos) (hS.are.len ▸ hS.few) ?_
  intro v x' y' tx' ty' n' h' tk' hv ho' F' NU
  obtain ⟨e, t', rfl, he⟩ := pickS hS.are hv
  exact hret e t' x' y' tx' ty' n' h' tk' he ho' F' fun l' U' => fun p hp => NU _ (.tail hne U') p (.tail _ hp)
theorem in_strs {e : List Nat} {xs ys zs : List (List Nat)} (h : e ∈ xs) (hx : StrsIs xs zs) (hz : zs = ys) : e ∈ ys := hz ▸ (show xs = zs from hx) ▸ h

end
section
theorem off_EnumComp : True := by
  w_top off
  trivial
theorem ints_at : ∀ {us : List Value} {ws : List Int}, IntsAre us ws → ∀ {i : Nat} {x : Value}, us[i]? = some x → ∃ v u, x = .int v u ∧ ws[i]? = some v
  | _, _, .nil, i, x, h => by simp at h
  | _, _, .cons v u r, 0, x, h => by
    simp only [List.getElem?_cons_zero, Option.some.injEq] at h
    exact ⟨v, u, h.symm, rfl⟩
  | _, _, .cons v u r, i + 1, x, h => by
    simp only [List.getElem?_cons_succ] at h ⊢
    exact ints_at r h
theorem fr_wr {h₀ h h' : Heap} {L : Addr} {m : Str → Option Value} {wr : List Addr} (F : Fr h₀ L h m) (hk : ∀ b o, b ∉ wr → h.get? b = some o → h'.get? b = some o) (hL : L ∉ wr) (hw : ∀ b ∈ wr, h₀.get? b = none) : Fr h₀ L h' m := by
  obtain ⟨oL, a1, a2, h1, h2⟩ := F.ns
  exact ⟨⟨oL, a1, a2, hk _ _ hL h1, h2⟩, fun b o e => hk b o (fun hm => by rw [hw b hm] at e; cases e) (F.keep b o e), F.above⟩
theorem news_wr {h₀ h h' : Heap} {L : Addr} {news : List (Addr × Obj)} {wr : List Addr} (N : News h₀ L h news) (hk : ∀ b o, b ∉ wr → h.get? b = some o → h'.get? b = some o) (hw : ∀ p ∈ news, p.1 ∉ wr) : News h₀ L h' news :=
  fun p hp => ⟨hk _ _ (hw p hp) (N p hp).1, (N p hp).2⟩
section
open LCg
variable {prog : Program} {w : World} {A : Around} {E : Value → Shared → Prop} {s : Shared} {h₀ : Heap} {L : Addr} {m : Str → Option Value} {env : Env} {news : List (Addr × Obj)} {wl : Addr} {us : List Value} {ws : List Int} {c : Nat} {f : Nat → Int → Int}
/-- a list of ints over enumerate of a list of ints; the element's tree makes nothing but its int -/
theorem enum_comp {elt iter : PySem.Expr} {x x₂ : Str} {px px₂ tp : Pos} {tk : Nat} {scope : Scope} {cl : List (Str × Addr)} {pos : Pos} {Q : Value → Shared → Prop} (F : Fr h₀ L s.heap m) (N : News h₀ L s.heap news) (hwl : (wl, listOf us.toArray c) ∈ news)
    (hI : IntsAre us ws) (hlen : us.length ≤ 1000) (hh : A.handled = none)
    (hclos : closureFor scope env = pure cl) (hcell : ∀ y ∈ scope.names, y.2 ≠ .cell) (hkind : scope.kind = .function)
    (hnames : ∀ y ∈ scope.names, y.2 = .local → scope.names.lookup y.1 = some .local) (hx : scope.names.lookup x = some .local) (hx₂ : scope.names.lookup x₂ = some .local) (hxx : x ≠ x₂)
    (hiter : ∀ {Q' : Value → Shared → Prop}, wpAny (model prog w) A (call (.type "enumerate") [.ref wl]) Q' E s → wpAny (model prog w) A (eval iter env) Q' E s)
    (helt : ∀ (i : Nat) (v : Int) (t u : Tok) (C : Addr) (m₂ : Str → Option Value) (s' : Shared) {Q' : Value → Shared → Prop} {E' : Value → Shared → Prop}, ws[i]? = some v → s'.heap.Ns C m₂ → m₂ x = some (.int i t) → m₂ x₂ = some (.int v u) →
      Fr h₀ L s'.heap m → News h₀ L s'.heap news → (∀ t' tk', Q' (.int (f i v) t') { s' with toks := tk' }) → wpAny (model prog w) A (eval elt (compEnvC scope cl C env)) Q' E' s')
    (done : ∀ D ys h tk, IntsAre ys (ws.mapIdx f) → Fr h₀ L h m → News h₀ L h ((D, lst ys) :: news) → (∀ p ∈ news, p.1 < D) → Q (.ref D) { s with heap := h, toks := tk })
    (hs : ∀ x, foldedSetIterable iter env x = pure x := by intro _; rfl) :
    wpAny (model prog w) A (eval (.ListComp elt [⟨.Tuple [.Name x px, .Name x₂ px₂] tk tp, iter, [], 0⟩] scope pos) env) Q E s := by
  rw [eval_ListComp]
  refine wpAny_comprehension_free (use := none) rfl hs hclos hkind hnames (hiter ?_)
  have hL : s.heap.IsList wl us.toArray := News.isList N hwl
  have hlt : wl < s.heap.objs.size := by obtain ⟨_, e, _⟩ := hL; exact Heap.lt_size e
  refine call_enumerate_list hL fun h' he hi hsz hk => ?_
  have W := WalksT.enumerate (prog := prog) (w := w) hh (s.heap.objs.size + 1) s.heap.objs.size wl (Nat.succ_ne_self _) (Nat.ne_of_lt (Nat.lt_succ_of_lt hlt)) (Nat.ne_of_lt hlt) us.toArray
  have F' := F.keeps hk
  have N' : News h₀ L h' news := fun p hp => ⟨hk _ _ (N p hp).1, (N p hp).2⟩
  refine W.self 0 ({ s with heap := h' }) _ _ ⟨⟨_, he⟩, hi, hL.at fun o x => hk wl o x⟩ ?_
  have hd0 : h'.objs.size = s.heap.objs.size + 2 := hsz
  refine wpAny_newObj_type (wpAny_newFunctionEnv hcell (by intro y hy; simp at hy) (fun h₁ hns₁ hsb₁ => ?_) hkind)
  dsimp only at hns₁ hsb₁ ⊢
  generalize hH2 : h'.push { cls := .type "list", dict := none, data := .seq ([] : List Value).toArray } = H2 at hns₁ hsb₁ ⊢
  have hC : H2.objs.size = h'.objs.size + 1 := by rw [← hH2, Heap.size_push]
  have hDC : h'.objs.size ≠ H2.objs.size := by rw [hC]; exact Nat.ne_of_lt (Nat.lt_succ_self _)
  have below : ∀ b, b < h'.objs.size → b ≠ H2.objs.size ∧ b ≠ h'.objs.size := fun b hb => ⟨by rw [hC]; exact Nat.ne_of_lt (Nat.lt_succ_of_lt hb), Nat.ne_of_lt hb⟩
  have old : ∀ b o, h'.get? b = some o → h₁.get? b = some o := fun b o e => hsb₁.extBut b o (below b (Heap.lt_size e)).1 (Heap.get?_push_of_some _ (hH2 ▸ Heap.get?_push_of_some _ e))
  have hacc : h₁.get? h'.objs.size = some (lst []) := hsb₁.extBut _ _ hDC (Heap.get?_push_of_some _ (hH2 ▸ Heap.get?_push_size _ rfl))
  have fresh₀ : ∀ a, s.heap.objs.size ≤ a → h₀.get? a = none := fun a ha => by
    cases e : h₀.get? a with
    | none => rfl
    | some o' => exact absurd (Heap.lt_size (F.keep a o' e)) (Nat.not_lt.mpr ha)
  have hD₀ : h₀.get? h'.objs.size = none := fresh₀ _ (by omega)
  have hC₀ : h₀.get? H2.objs.size = none := fresh₀ _ (by omega)
  have hDL : h'.objs.size ≠ L := Nat.ne_of_gt (Nat.lt_of_lt_of_le F.ns.lt (by omega))
  have hCL : H2.objs.size ≠ L := Nat.ne_of_gt (Nat.lt_of_lt_of_le F.ns.lt (by omega))
  have hnew : ∀ p ∈ news, p.1 < s.heap.objs.size := fun p hp => Heap.lt_size (N p hp).1
  have ltw : ∀ b ∈ [s.heap.objs.size + 1, s.heap.objs.size, wl], b < h'.objs.size := fun b hb => by
    rcases List.mem_cons.mp hb with rfl | hb
    · omega
    · rcases List.mem_cons.mp hb with rfl | hb
      · omega
      · rw [List.mem_singleton.mp hb, hd0]; exact Nat.lt_of_lt_of_le hlt (by omega)
  have hw0 : ∀ b ∈ [s.heap.objs.size + 1, s.heap.objs.size], h₀.get? b = none := fun b hb => by
    rcases List.mem_cons.mp hb with rfl | hb
    · exact fresh₀ _ (by omega)
    · rw [List.mem_singleton.mp hb]; exact fresh₀ _ (Nat.le_refl _)
  have hLw : L ∉ [s.heap.objs.size + 1, s.heap.objs.size] := fun hm => by
    rcases List.mem_cons.mp hm with q | hm
    · exact absurd F.ns.lt (by rw [q]; exact Nat.not_lt.mpr (Nat.le_succ _))
    · exact absurd F.ns.lt (by rw [List.mem_singleton.mp hm]; exact Nat.lt_irrefl _)
  have hnw : ∀ {o : Obj}, ∀ p ∈ (h'.objs.size, o) :: news, p.1 ∉ [s.heap.objs.size + 1, s.heap.objs.size] := fun {o} p hp hm => by
    have : p.1 = s.heap.objs.size + 1 ∨ p.1 = s.heap.objs.size := (List.mem_cons.mp hm).imp_right List.mem_singleton.mp
    rcases List.mem_cons.mp hp with rfl | hp
    · dsimp only at this; omega
    · have z := hnew p hp
      rcases this with q | q
      · rw [q] at z; exact absurd z (Nat.not_lt.mpr (Nat.le_succ _))
      · rw [q] at z; exact absurd z (Nat.lt_irrefl _)
  have loop : ∀ s₃ : Shared, s₃ = { s with heap := h₁, toks := s.toks + ([] : List (Str × Value)).length } →
      codeAny (model prog w) A (.compLoop (.ListComp elt [⟨.Tuple [.Name x px, .Name x₂ px₂] tk tp, iter, [], 0⟩] scope pos) 0 (.ref (s.heap.objs.size + 1)) (.ref h'.objs.size) (compEnvC scope cl H2.objs.size env))
        (compPost (model prog w) A E none Q (.ref h'.objs.size) H2.objs.size) s₃ := by
    rintro s₃ rfl
    refine LCp.codeAny_compLoop_pair
      (fun k s' => ∃ h9 tk i ys m', s' = { s with heap := h9, toks := tk } ∧ i ≤ us.length ∧ k = us.length + 1 - i ∧ ys.length = i ∧ IntsAre ys ((ws.mapIdx f).take i) ∧
        ((∃ old, IsEnum h9 (s.heap.objs.size + 1) s.heap.objs.size i old) ∧ h9.IsListIter s.heap.objs.size wl i ∧ h9.IsList wl us.toArray) ∧ Fr h₀ L h9 m ∧ h9.Ns H2.objs.size m' ∧ News h₀ L h9 ((h'.objs.size, lst ys) :: news)) ?_ (us.length + 1)
      ⟨h₁, _, 0, [], _, rfl, Nat.zero_le _, rfl, rfl, .nil, ⟨⟨_, old _ _ he⟩, hi.at fun o x => old _ o x, (hL.at fun o x => hk wl o x).at fun o x => old wl o x⟩, F'.keeps old, hns₁, fun p hp => ?_⟩
    · rintro k s' ⟨h9, tk9, i, ys, m', rfl, hin, rfl, hyl, hys, hst, F9, hn9, N9⟩
      have hCw : H2.objs.size ∉ [s.heap.objs.size + 1, s.heap.objs.size] := fun hm => by
        rcases List.mem_cons.mp hm with q | hm
        · omega
        · have q := List.mem_singleton.mp hm; omega
      by_cases hlt' : i < us.length
      · refine W.item i _ _ _ (by simpa using hlt') hst fun T vals h2 tk2 hPt hT0 hT hmid hk2 => ?_
        obtain ⟨t, xv, hxv, rfl⟩ := hPt
        have hxv' : us[i]? = some xv := by simpa using hxv
        obtain ⟨v, u, rfl, hwv⟩ := ints_at hI hxv'
        dsimp only
        refine W.go _ _ _ i T _ _ _ hmid fun h3 hst3 hk3 => ?_
        have hTw := W.apart i T _ hmid
        have hT3 : h3.IsTuple T #[.int i t, .int v u] := hT.at fun o e => hk3 T o hTw e
        refine assign_Tuple_tuple hh hT3 rfl rfl fun h5 he5 => ?_
        have k35 : ∀ b o, h3.get? b = some o → h5.get? b = some o := fun b o e => he5 b o (Nat.ne_of_lt (Heap.lt_size e)) e
        have k95 : ∀ b o, b ∉ [s.heap.objs.size + 1, s.heap.objs.size] → h9.get? b = some o → h5.get? b = some o := fun b o hb e => k35 b o (hk3 b o hb (hk2 b o hb e))
        have hn5 : h5.Ns H2.objs.size m' := hn9.at' fun o e => k95 _ o hCw e
        refine assignInOrder_cons (wpAny_assign_Name (wpAny_storeName_local (lookup_relabel_local hx) hn5 (fun h6 hn6 hs6 => ?_) (by simp [compEnvC, relabel, hkind])))
        refine assignInOrder_cons (wpAny_assign_Name (wpAny_storeName_local (lookup_relabel_local hx₂) hn6 (fun h7 hn7 hs7 => ?_) (by simp [compEnvC, relabel, hkind])))
        refine assignInOrder_nil ?_
        have F5 := fr_wr F9 k95 hLw hw0
        have N5 := news_wr N9 k95 hnw
        have F7 := (F5.change hs6 hCL hC₀).change hs7 hCL hC₀
        have N7 : News h₀ L h7 ((h'.objs.size, lst ys) :: news) := fun p hp => by
          have hne : p.1 ≠ H2.objs.size := by
            rcases List.mem_cons.mp hp with rfl | hp
            · exact hDC
            · exact Nat.ne_of_lt (Nat.lt_trans (hnew p hp) (by omega))
          exact ⟨hs7.extBut _ _ hne (hs6.extBut _ _ hne (N5 p hp).1), (N5 p hp).2⟩
        refine helt i v t u H2.objs.size _ _ hwv hn7 (by simp [hxx]) (by simp) F7 (fun p hp => N7 p (.tail _ hp)) fun t' tk' => ?_
        refine append_at (hsz := by show ys.toArray.size ≤ sizeLine; rw [List.size_toArray, hyl, sizeLine_eq]; omega) (N7 _ (.head _)).1 fun h8 hs8 hD8 => ?_
        have htk : (ws.mapIdx f).take (i + 1) = (ws.mapIdx f).take i ++ [f i v] := by
          rw [List.take_add_one]; simp [hwv]
        refine ⟨us.length + 1 - (i + 1), by omega, h8, tk', i + 1, ys ++ [.int (f i v) t'], _, rfl, hlt', rfl, by simp [hyl], ?_, ?_, F7.change hs8 hDL hD₀, hn7.sameBut hs8 (Ne.symm hDC), fun p hp => ?_⟩
        · rw [htk]; exact IntsAre.append hys (.cons _ _ .nil)
        · refine W.frame (i + 1) h3 h8 hst3 fun b hb o e => ?_
          have z := below b (ltw b hb)
          exact hs8.extBut _ _ z.2 (hs7.extBut _ _ z.1 (hs6.extBut _ _ z.1 (k35 _ _ e)))
        · rcases List.mem_cons.mp hp with rfl | hp
          · exact ⟨hD8.trans (congrArg some (lst_snoc ys _)), hDL, hD₀⟩
          · exact ⟨hs8.extBut _ _ (Nat.ne_of_lt (Nat.lt_trans (hnew p hp) (by omega))) (N7 p (.tail _ hp)).1, (N p hp).2⟩
      · obtain rfl : i = us.length := by omega
        refine W.done _ _ _ (by simpa using hst) fun h2 tk2 hk2 => ?_
        have hn2 : h2.Ns H2.objs.size m' := hn9.at' fun o e => hk2 _ o hCw e
        have F2 := fr_wr F9 hk2 hLw hw0
        have N2 := news_wr N9 hk2 hnw
        refine ⟨m', hn2, fun h'' hs'' => ?_⟩
        refine done h'.objs.size ys h'' _ ?_ (F2.change hs'' hCL hC₀) (fun p hp => ?_) (fun p hp => Nat.lt_trans (hnew p hp) (by omega))
        · rw [List.take_of_length_le (by rw [List.length_mapIdx, ← hI.length]; omega)] at hys; exact hys
        · refine ⟨hs''.extBut _ _ ?_ (N2 p hp).1, (N2 p hp).2⟩
          rcases List.mem_cons.mp hp with rfl | hp
          · exact hDC
          · exact Nat.ne_of_lt (Nat.lt_trans (hnew p hp) (by omega))
    · rcases List.mem_cons.mp hp with rfl | hp
      · exact ⟨hacc, hDL, hD₀⟩
      · exact ⟨old _ _ (N' p hp).1, (N p hp).2⟩
  exact codeAny_compStart_list (loop _ rfl) (W.self 0 _ _ _ ⟨⟨_, old _ _ he⟩, hi.at fun o x => old _ o x, (hL.at fun o x => hk wl o x).at fun o x => old wl o x⟩ (loop _ rfl))
end

end
section
theorem off_EltVal : True := by
  w_top off
  trivial
section
variable {prog : Program} {w : World} {A : Around} {E : Value → Shared → Prop} {s : Shared} {h₀ : Heap} {L C : Addr} {news : List (Addr × Obj)} {env : Env} {scope : Scope} {cl : List (Str × Addr)} {Q : Value → Shared → Prop} {m₂ : Str → Option Value}
theorem pow_nat {b : Int} (hb : 2 ≤ b) (hb2 : b ≤ 16) (k : Nat) (hk : k ≤ 15) : (b ^ k).natAbs < 2 ^ 64 := by
  rw [Int.natAbs_pow]
  calc b.natAbs ^ k ≤ 16 ^ k := Nat.pow_le_pow_left (by omega) k
    _ ≤ 16 ^ 15 := Nat.pow_le_pow_right (by decide) hk
    _ < 2 ^ 64 := by decide
/-- worth * base ** (many - 1 - at), base and many closed over -/
theorem elt_eval {xw xb xn xk : Str} {p1 p2 p3 p4 p5 p6 p7 p8 p9 : Pos} {kk : Nat} {cb cn : Addr} {ob on : Obj} {b n n' v : Int} {i : Nat} {tb tn t u : Tok}
    (N : News h₀ L s.heap news) (hC : s.heap.Ns C m₂) (h1 : m₂ xk = some (.int i t)) (h2 : m₂ xw = some (.int v u))
    (hb : (cb, ob) ∈ news) (db : ob.data = .cell (some (.int b tb))) (hn : (cn, on) ∈ news) (dn : on.data = .cell (some (.int n tn)))
    (b1 : 2 ≤ b) (b2 : b ≤ 16) (v1 : 0 ≤ v) (v2 : v ≤ 99) (n2 : n ≤ 15) (hi : (i : Int) < n) (en : n = n')
    (h : ∀ t' tk', Q (.int (v * b ^ (n' - 1 - (i : Int)).toNat) t') { s with toks := tk' })
    (hk : (compEnvC scope cl C env).scope.kind = .function) (hxw : (compEnvC scope cl C env).kindOf xw = some .local) (hxk : (compEnvC scope cl C env).kindOf xk = some .local)
    (hxb : (compEnvC scope cl C env).kindOf xb = some .cell) (hxn : (compEnvC scope cl C env).kindOf xn = some .cell) (lb : cl.lookup xb = some cb) (ln : cl.lookup xn = some cn)
    (dw : (xw == ("__debug__" : Str)) = false) (dk : (xk == ("__debug__" : Str)) = false) (dbb : (xb == ("__debug__" : Str)) = false) (dnn : (xn == ("__debug__" : Str)) = false) :
    wpAny (model prog w) A (eval (.BinOp (.Name xw p1) .Mult (.BinOp (.Name xb p2) .Pow (.BinOp (.BinOp (.Name xn p3) .Sub (.Constant (.int 1) kk p4) p5) .Sub (.Name xk p6) p7) p8) p9) (compEnvC scope cl C env)) Q E s := by
  subst en
  refine wpAny_BinOp (ldVarK hC h2 ?_ hk hxw dw)
  refine wpAny_BinOp (lcf_cell N lb hb db ?_ hk hxb dbb)
  refine wpAny_BinOp (wpAny_BinOp (lcf_cell N ln hn dn ?_ hk hxn dnn))
  refine wpAny_Constant_int (sub_int ?_)
  refine ldVarK (s := { s with toks := _ }) hC h1 ?_ hk hxk dk
  refine sub_int ?_
  refine pow_int_small (by omega) (by omega) (by omega) ?_
  refine PyProof.Rows.mul_int ?_ (IntMulOk.of_le (m := 64) (n := 64) (intBits_le (by omega)) (intBits_le (pow_nat b1 b2 _ (by omega))) (by decide))
  exact h _ _
end

end
section
theorem off_Built : True := by
  w_top off
  trivial
def menuX : List (Str × List Nat × Int) := [(Str.ofString "", [], 10), (Str.ofString "0", [48], 8), (Str.ofString "0x", [48, 120], 16), (Str.ofString "0X", [48, 88], 16), (Str.ofString "0o", [48, 111], 8), (Str.ofString "0O", [48, 79], 8), (Str.ofString "0b", [48, 98], 2), (Str.ofString "0B", [48, 66], 2)]
theorem menuX_S : ∀ p ∈ menuX, p.1 = S p.2.1 := by decide +kernel
theorem menuX_b : ∀ p ∈ menuX, 2 ≤ p.2.2 ∧ p.2.2 ≤ 16 := by decide +kernel
inductive Built (b least : Int) : Nat → List Int → List Nat → Prop
  | nil : Built b least 0 [] []
  | step {i : Nat} {ws : List Int} {fl : List Nat} {v : Int} {c : Nat} {low : Bool} : Built b least i ws fl → 0 ≤ v → v < b → (i = 0 → least ≤ v) → (i = 0 → low = false) → (c = loS v.toNat ∨ c = upS v.toNat) → Built b least (i + 1) (ws ++ [v]) ((fl ++ if low then [95] else []) ++ [c])
theorem built_len {b least : Int} {i : Nat} {ws : List Int} {fl : List Nat} (h : Built b least i ws fl) : ws.length = i := by
  induction h with
  | nil => rfl
  | step _ _ _ _ _ _ ih => rw [List.length_append, ih]; rfl
theorem built_fl {b least : Int} {i : Nat} {ws : List Int} {fl : List Nat} (h : Built b least i ws fl) : fl.length ≤ 2 * i := by
  induction h with
  | nil => exact Nat.le_refl _
  | @step i ws fl v c low _ _ _ _ _ _ ih =>
    cases low <;> simp only [List.length_append, List.length_cons, List.length_nil, if_true, if_false, Bool.false_eq_true] <;> omega
theorem built_ws {b least : Int} {i : Nat} {ws : List Int} {fl : List Nat} (h : Built b least i ws fl) : ∀ v ∈ ws, 0 ≤ v ∧ v < b := by
  induction h with
  | nil => simp
  | step _ h0 h1 _ _ _ ih =>
    intro v hv
    rcases List.mem_append.mp hv with hv | hv
    · exact ih v hv
    · rw [List.mem_singleton.mp hv]; exact ⟨h0, h1⟩
/-- what is drawn as a number: word, base, figures, worth -/
def NumWord (word : List Nat) (b : Int) (fl : List Nat) (val : Int) : Prop :=
  ∃ la low n ws, (S la, la, b) ∈ menuX ∧ Built b (if la = [] then 1 else 0) n ws fl ∧ 1 ≤ n ∧ n ≤ 8 ∧ (low = [] ∨ la ≠ [] ∧ low = [95]) ∧ word = la ++ low ++ fl ∧
    val = (ws.mapIdx fun i v => v * b ^ ((n : Int) - 1 - (i : Int)).toNat).sum

end
section
theorem off_NumLaw : True := by
  w_top off
  trivial
theorem sign_facts : ∀ v < 16, ∀ c, (c = loS v ∨ c = upS v) → c ≠ 95 ∧ c < 128 ∧ worth c = (v : Nat) ∧ signIn nameSigns c = true ∧ (v < 8 → smallOf c ≠ 120 ∧ smallOf c ≠ 111 ∧ smallOf c ≠ 98) ∧ (1 ≤ v → c ≠ 48) := by
  have h1 : ∀ v < 16, loS v ≠ 95 ∧ loS v < 128 ∧ worth (loS v) = (v : Nat) ∧ signIn nameSigns (loS v) = true ∧ (v < 8 → smallOf (loS v) ≠ 120 ∧ smallOf (loS v) ≠ 111 ∧ smallOf (loS v) ≠ 98) ∧ (1 ≤ v → loS v ≠ 48) := by decide +kernel
  have h2 : ∀ v < 16, upS v ≠ 95 ∧ upS v < 128 ∧ worth (upS v) = (v : Nat) ∧ signIn nameSigns (upS v) = true ∧ (v < 8 → smallOf (upS v) ≠ 120 ∧ smallOf (upS v) ≠ 111 ∧ smallOf (upS v) ≠ 98) ∧ (1 ≤ v → upS v ≠ 48) := by decide +kernel
  rintro v hv c (rfl | rfl)
  · exact h1 v hv
  · exact h2 v hv
theorem figsFrom_snoc (b : Int) (c : Nat) : ∀ (l : List Nat) (v u : Int), figsFrom b l v = some u → worth c < b → figsFrom b (l ++ [c]) v = some (u * b + worth c)
  | [], v, u, h, hc => by
    have : v = u := Option.some.inj h
    subst this
    show (if worth c ≥ b then none else some (v * b + worth c)) = _
    rw [if_neg (by omega)]
  | d :: l, v, u, h, hc => by
    rw [List.cons_append, figs_step]
    rw [figs_step] at h
    split at h
    · cases h
    · rename_i hd
      rw [if_neg hd]
      exact figsFrom_snoc b c l _ _ h hc
theorem horner (b : Int) : ∀ (ws : List Int) (v : Int), ((ws ++ [v]).mapIdx fun i x => x * b ^ (((ws.length + 1 : Nat) : Int) - 1 - (i : Int)).toNat).sum = (ws.mapIdx fun i x => x * b ^ ((ws.length : Int) - 1 - (i : Int)).toNat).sum * b + v := by
  intro ws v
  rw [List.mapIdx_append, List.sum_append]
  have e1 : (List.mapIdx (fun i (x : Int) => x * b ^ (((ws.length + 1 : Nat) : Int) - 1 - ((i + ws.length : Nat) : Int)).toNat) [v]).sum = v := by
    simp only [List.mapIdx_cons, List.mapIdx_nil, List.sum_cons, List.sum_nil]
    rw [show (((ws.length + 1 : Nat) : Int) - 1 - ((0 + ws.length : Nat) : Int)).toNat = 0 by omega, Int.pow_zero, Int.mul_one, Int.add_zero]
  have e2 : ∀ (xs : List Int) (f g : Nat → Int → Int), (∀ i x, i < xs.length → f i x = g i x * b) → (xs.mapIdx f).sum = (xs.mapIdx g).sum * b := by
    intro xs
    induction xs with
    | nil => intros; simp
    | cons y r ih =>
      intro f g hfg
      simp only [List.mapIdx_cons, List.sum_cons]
      rw [hfg 0 y (by simp), ih (fun i => f (i + 1)) (fun i => g (i + 1)) (fun i x hi => hfg (i + 1) x (by simp only [List.length_cons]; omega)), Int.add_mul]
  rw [e1, e2 ws _ (fun i x => x * b ^ ((ws.length : Int) - 1 - (i : Int)).toNat) (fun i x hi => ?_)]
  show x * b ^ (((ws.length + 1 : Nat) : Int) - 1 - (i : Int)).toNat = x * b ^ ((ws.length : Int) - 1 - (i : Int)).toNat * b
  rw [show (((ws.length + 1 : Nat) : Int) - 1 - (i : Int)).toNat = ((ws.length : Int) - 1 - (i : Int)).toNat + 1 by omega, Int.pow_succ, Int.mul_assoc]
theorem twoLow_snoc (c : Nat) (hc : c ≠ 95) : ∀ l : List Nat, twoLow l = false → twoLow (l ++ [c]) = false
  | [], _ => by unfold twoLow; split <;> simp_all [twoLow]
  | [d], _ => by
    show twoLow [d, c] = false
    unfold twoLow; split
    · rename_i e; injection e with _ e; injection e with e; exact absurd e hc
    · rename_i e; injection e with _ e; subst e; unfold twoLow; split <;> simp_all [twoLow]
    · rfl
  | d :: e :: l, h => by
    have h2 : ¬ (d = 95 ∧ e = 95) := by
      rintro ⟨rfl, rfl⟩
      exact absurd h (by simp [twoLow])
    have h3 : twoLow (e :: l) = false := by
      have := h
      unfold twoLow at this
      split at this
      · cases this
      · rename_i x y; injection y with _ y; subst y; exact this
      · rename_i y; cases y
    have h4 := twoLow_snoc c hc (e :: l) h3
    show twoLow (d :: e :: (l ++ [c])) = false
    unfold twoLow
    split
    · rename_i y; injection y with y1 y; injection y with y2 _; exact absurd ⟨y1, y2⟩ h2
    · rename_i x y; injection y with _ y; subst y; exact h4
    · rename_i y; cases y
theorem twoLow_low (l : List Nat) (hl : l.getLast? ≠ some 95) (h : twoLow l = false) : twoLow (l ++ [95]) = false := by
  rw [Bool.eq_false_iff] at h ⊢
  intro ht
  apply h
  rw [twoLow_iff] at ht ⊢
  obtain ⟨i, hi⟩ := ht
  have hlen := congrArg List.length hi
  simp only [List.length_take, List.length_drop, List.length_append, List.length_cons, List.length_nil] at hlen
  by_cases hc : i + 2 ≤ l.length
  · refine ⟨i, ?_⟩
    rw [List.drop_append_of_le_length (by omega), List.take_append_of_le_length (by rw [List.length_drop]; omega)] at hi
    exact hi
  · exfalso
    have hi2 : i + 1 = l.length := by omega
    rw [List.drop_append_of_le_length (by omega)] at hi
    have hd : (l.drop i).length = 1 := by rw [List.length_drop]; omega
    obtain ⟨x, hx⟩ := List.length_eq_one_iff.mp hd
    rw [hx] at hi
    injection hi with hx1 _
    apply hl
    have : l.getLast? = (l.drop i).getLast? := by rw [List.getLast?_drop, if_neg (by omega)]
    rw [this, hx, hx1]; rfl
structure FigOk (b : Int) (i : Nat) (ws : List Int) (fl : List Nat) : Prop where
  two : twoLow fl = false
  last : fl.getLast? ≠ some 95
  head : fl.head? ≠ some 95
  ascii : ∀ c ∈ fl, c < 128
  signs : ∀ c ∈ fl, signIn nameSigns c = true
  figs : figsFrom b (fl.filter (· != 95)) 0 = some (ws.mapIdx fun i v => v * b ^ ((ws.length : Int) - 1 - (i : Int)).toNat).sum
  ne : i = 0 → fl = []
  ne2 : 0 < i → fl ≠ []
theorem built_ok {b least : Int} {i : Nat} {ws : List Int} {fl : List Nat} (hb : b ≤ 16) (h : Built b least i ws fl) : FigOk b i ws fl := by
  induction h with
  | nil => exact ⟨rfl, by simp, by simp, by simp, by simp, rfl, fun _ => rfl, fun h => absurd h (Nat.lt_irrefl _)⟩
  | @step i ws fl v c low hB h0 h1 hle hlow hc ih =>
    obtain ⟨i1, i2, i3, i4, i5, i6, i7, i8⟩ := ih
    obtain ⟨k, rfl⟩ := Int.eq_ofNat_of_zero_le h0
    rw [Int.toNat_natCast] at hc
    obtain ⟨c1, c2, c3, c4, _, _⟩ := sign_facts k (by omega) c hc
    have hw : worth c < b := by rw [c3]; exact h1
    have hmid : twoLow (fl ++ if low then [95] else []) = false := by
      cases low
      · simpa using i1
      · exact twoLow_low fl i2 i1
    have hfil : (((fl ++ if low then [95] else []) ++ [c]).filter (· != 95)) = fl.filter (· != 95) ++ [c] := by
      have e1 : ([c].filter (· != 95)) = [c] := by simp [c1]
      rw [List.filter_append, List.filter_append, e1]
      cases low <;> simp
    refine ⟨twoLow_snoc c c1 _ hmid, ?_, ?_, ?_, ?_, ?_, fun h => by omega, fun _ => by simp⟩
    · rw [List.getLast?_append]; simpa using c1
    · cases i with
      | zero =>
        rw [i7 rfl, hlow rfl]; simpa using c1
      | succ i =>
        have := i8 (Nat.succ_pos _)
        cases fl with
        | nil => exact absurd rfl this
        | cons d r => simpa using i3
    · intro d hd
      rcases List.mem_append.mp hd with hd | hd
      · rcases List.mem_append.mp hd with hd | hd
        · exact i4 d hd
        · cases low
          · cases hd
          · rw [List.mem_singleton.mp hd]; decide
      · rw [List.mem_singleton.mp hd]; exact c2
    · intro d hd
      rcases List.mem_append.mp hd with hd | hd
      · rcases List.mem_append.mp hd with hd | hd
        · exact i5 d hd
        · cases low
          · cases hd
          · rw [List.mem_singleton.mp hd]; decide +kernel
      · rw [List.mem_singleton.mp hd]; exact c4
    · rw [hfil, figsFrom_snoc b c _ _ _ i6 hw, c3]
      have := horner b ws (k : Int)
      rw [List.length_append, List.length_singleton, this]
theorem under_id {l : List Nat} (h : l.head? ≠ some 95) : under l = l := by
  cases l with
  | nil => rfl
  | cons c r =>
    unfold under
    split
    · rename_i e; injection e with e _; subst e; exact absurd rfl h
    · rfl
theorem under_low {fl low : List Nat} (h : fl.head? ≠ some 95) (hl : low = [] ∨ low = [95]) : under (low ++ fl) = fl := by
  rcases hl with rfl | rfl
  · exact under_id h
  · rfl
theorem built_head {b least : Int} {i : Nat} {ws : List Int} {fl : List Nat} (h : Built b least i ws fl) : 0 < i → ∃ (k : Nat) (c : Nat) (r : List Nat), fl = c :: r ∧ (k : Int) < b ∧ least ≤ k ∧ (c = loS k ∨ c = upS k) := by
  induction h with
  | nil => intro h; exact absurd h (Nat.lt_irrefl _)
  | @step i ws fl v c low hB h0 h1 hle hlow hc ih =>
    intro _
    cases i with
    | zero =>
      cases hB
      rw [hlow rfl]
      obtain ⟨k, rfl⟩ := Int.eq_ofNat_of_zero_le h0
      exact ⟨k, c, [], rfl, h1, hle rfl, by simpa using hc⟩
    | succ i =>
      obtain ⟨k, d, r, e, a1, a2, a3⟩ := ih (Nat.succ_pos _)
      exact ⟨k, d, _, by rw [e]; rfl, a1, a2, a3⟩
theorem parts16 {a : Nat} (r : List Nat) (h : smallOf a = 120) : partsOf (48 :: a :: r) = (16, under r) := by
  have e : ((48 :: a :: r).take 2).map smallOf = [48, 120] := by simp [h]; rfl
  unfold partsOf
  rw [if_pos e]; rfl
theorem parts8 {a : Nat} (r : List Nat) (h : smallOf a = 111) : partsOf (48 :: a :: r) = (8, under r) := by
  have e : ((48 :: a :: r).take 2).map smallOf = [48, 111] := by simp [h]; rfl
  unfold partsOf
  rw [e, if_neg (by decide), if_pos rfl]; rfl
theorem parts2 {a : Nat} (r : List Nat) (h : smallOf a = 98) : partsOf (48 :: a :: r) = (2, under r) := by
  have e : ((48 :: a :: r).take 2).map smallOf = [48, 98] := by simp [h]; rfl
  unfold partsOf
  rw [e, if_neg (by decide), if_neg (by decide), if_pos rfl]; rfl
theorem parts_word {word fl : List Nat} {b val : Int} (h : NumWord word b fl val) : partsOf word = (b, fl) := by
  obtain ⟨la, low, n, ws, hm, hB, h1, h8, hlow, rfl, -⟩ := h
  have hb := menuX_b _ hm
  dsimp only at hb
  obtain ⟨-, -, hh, -, -, -, -, -⟩ := built_ok hb.2 hB
  obtain ⟨k, c, r, hfl, hk, hle, hc⟩ := built_head hB h1
  obtain ⟨f1, f2, f3, f4, f5, f6⟩ := sign_facts k (by omega) c hc
  have hlow' : low = [] ∨ low = [95] := hlow.imp_right (·.2)
  have hU := under_low hh hlow'
  simp only [menuX, List.mem_cons, Prod.mk.injEq, List.not_mem_nil, or_false] at hm
  rcases hm with ⟨-, rfl, rfl⟩ | ⟨-, rfl, rfl⟩ | ⟨-, rfl, rfl⟩ | ⟨-, rfl, rfl⟩ | ⟨-, rfl, rfl⟩ | ⟨-, rfl, rfl⟩ | ⟨-, rfl, rfl⟩ | ⟨-, rfl, rfl⟩
  · have : low = [] := hlow.elim id fun h => absurd rfl h.1
    subst this
    rw [if_pos rfl] at hle
    have c48 : c ≠ 48 := f6 (by omega)
    have s48 : smallOf c ≠ 48 := by unfold smallOf; split <;> omega
    subst hfl
    unfold partsOf
    simp [s48, c48]
  · have hx : ∀ d, d = 120 ∨ d = 111 ∨ d = 98 → ((([48] ++ low ++ fl).take 2).map smallOf) ≠ [48, d] := by
      intro d hd
      rcases hlow' with rfl | rfl
      · subst hfl
        have := f5 (by omega)
        simp [smallOf] at this ⊢
        rcases hd with rfl | rfl | rfl <;> simp_all
      · simp [smallOf]; omega
    unfold partsOf
    rw [if_neg (hx 120 (by simp)), if_neg (hx 111 (by simp)), if_neg (hx 98 (by simp)), if_pos ⟨by subst hfl; simp; omega, rfl⟩]
    exact congrArg (Prod.mk 8) hU
  · exact (parts16 (a := 120) (low ++ fl) (by decide)).trans (congrArg (Prod.mk _) hU)
  · exact (parts16 (a := 88) (low ++ fl) (by decide)).trans (congrArg (Prod.mk _) hU)
  · exact (parts8 (a := 111) (low ++ fl) (by decide)).trans (congrArg (Prod.mk _) hU)
  · exact (parts8 (a := 79) (low ++ fl) (by decide)).trans (congrArg (Prod.mk _) hU)
  · exact (parts2 (a := 98) (low ++ fl) (by decide)).trans (congrArg (Prod.mk _) hU)
  · exact (parts2 (a := 66) (low ++ fl) (by decide)).trans (congrArg (Prod.mk _) hU)
def behindX : List (List Nat) := [[], [32], [59], [46], [46, 120], [46, 46], [43, 49]]
theorem behind_facts : ∀ x ∈ behindX, (x.head?.all fun c => !signIn nameSigns c) = true ∧ pointed x 0 = false := by decide +kernel
theorem pointed_pre (p x : List Nat) : pointed (p ++ x) p.length = pointed x 0 := by
  unfold pointed
  rw [List.drop_left, ← List.drop_drop, List.drop_left, List.length_append, show decide (p.length + 1 < p.length + x.length) = decide (0 + 1 < x.length) from decide_eq_decide.mpr (by omega)]
  rfl
theorem takeWhile_all {p : Nat → Bool} {a x : List Nat} (ha : ∀ c ∈ a, p c = true) (hx : (x.head?.all fun c => !p c) = true) : (a ++ x).takeWhile p = a := by
  induction a with
  | nil =>
    cases x with
    | nil => rfl
    | cons d r =>
      have : p d = false := by simpa using hx
      rw [List.nil_append, List.takeWhile_cons_of_neg (by rw [this]; decide)]
  | cons d r ih =>
    rw [List.cons_append, List.takeWhile_cons_of_pos (ha d (.head _)), ih fun c hc => ha c (.tail _ hc)]
theorem word_signs {word fl : List Nat} {b val : Int} (h : NumWord word b fl val) : (∀ c ∈ word, signIn nameSigns c = true ∧ c < 128) ∧ word.length ≤ 20 := by
  obtain ⟨la, low, n, ws, hm, hB, h1, h8, hlow, rfl, -⟩ := h
  have hb := menuX_b _ hm
  dsimp only at hb
  obtain ⟨-, -, -, h4, h5, -, -, -⟩ := built_ok hb.2 hB
  have hla : (∀ c ∈ la, signIn nameSigns c = true ∧ c < 128) ∧ la.length ≤ 2 := (by decide +kernel : ∀ p ∈ menuX, (∀ c ∈ p.2.1, signIn nameSigns c = true ∧ c < 128) ∧ p.2.1.length ≤ 2) _ hm
  have hlow' : (∀ c ∈ low, signIn nameSigns c = true ∧ c < 128) ∧ low.length ≤ 1 := by
    rcases hlow with rfl | ⟨-, rfl⟩
    · simp
    · refine ⟨fun c hc => ?_, by simp⟩
      rw [List.mem_singleton.mp hc]
      decide +kernel
  have := built_fl hB
  refine ⟨fun c hc => ?_, by rw [List.length_append, List.length_append]; omega⟩
  rcases List.mem_append.mp hc with hc | hc
  · rcases List.mem_append.mp hc with hc | hc
    · exact hla.1 c hc
    · exact hlow'.1 c hc
  · exact ⟨h5 c hc, h4 c hc⟩
theorem num_word {word fl ah be : List Nat} {b val : Int} (h : NumWord word b fl val) (hbe : be ∈ behindX) : readNum (ah ++ word ++ be) ah.length = some (word, val, ah.length + word.length) := by
  have hp := parts_word h
  have hs := word_signs h
  obtain ⟨hb1, hb2⟩ := behind_facts be hbe
  obtain ⟨la, low, n, ws, hm, hB, h1, h8, hlow, hw, hv⟩ := h
  have hb := menuX_b _ hm
  dsimp only at hb
  obtain ⟨k1, k2, k3, -, -, k6, -, k8⟩ := built_ok hb.2 hB
  have e1 : runB (S (ah ++ word ++ be)) nameSigns ah.length = ah.length + word.length := by
    unfold runB
    rw [show (S (ah ++ word ++ be)).cps.toList = ah ++ word ++ be from rfl, List.append_assoc, List.drop_left, takeWhile_all (fun c hc => (hs.1 c hc).1) hb1]
  have e2 : ((ah ++ word ++ be).drop ah.length).take (ah.length + word.length - ah.length) = word := by
    rw [List.append_assoc, List.drop_left, Nat.add_sub_cancel_left, List.take_left]
  have e3 : badFigs fl = false := by
    unfold badFigs
    simp only [Bool.or_eq_false_iff, decide_eq_false_iff_not]
    exact ⟨⟨⟨k8 h1, k3⟩, k2⟩, k1⟩
  have e4 : fl.length ≤ 16 := by have := built_fl hB; omega
  have e5 : pointed (ah ++ word ++ be) (ah.length + word.length) = false := by
    rw [← List.length_append, pointed_pre]; exact hb2
  unfold readNum
  simp only [e1, e2, hp, e3, e5, k6, Bool.false_eq_true, if_false]
  rw [if_neg (by omega), hv, built_len hB]
def badX : List (List Nat) := [[48, 120], [48, 98], [48, 111, 59], [48, 98, 50], [48, 98, 49, 50], [48, 56], [48, 111, 56], [49, 95], [49, 95, 95, 50], [48, 120, 95], [48, 120, 49, 95], [48, 95], [49, 97], [48, 120, 103], [49, 50, 95], [49, 46, 53], [48, 120, 49, 46, 50], [48, 95, 95, 55]]
theorem readNum_pre (p x : List Nat) (h : readNum x 0 = none) : readNum (p ++ x) p.length = none := by
  have e1 : runB (S (p ++ x)) nameSigns p.length = p.length + runB (S x) nameSigns 0 := by
    unfold runB
    rw [show (S (p ++ x)).cps.toList = p ++ x from rfl, show (S x).cps.toList = x from rfl, List.drop_left, List.drop_zero]
    omega
  have e2 : ((p ++ x).drop p.length).take (p.length + runB (S x) nameSigns 0 - p.length) = (x.drop 0).take (runB (S x) nameSigns 0 - 0) := by
    rw [List.drop_left, Nat.add_sub_cancel_left, List.drop_zero, Nat.sub_zero]
  have e3 : pointed (p ++ x) (p.length + runB (S x) nameSigns 0) = pointed x (runB (S x) nameSigns 0) := by
    unfold pointed
    rw [← List.drop_drop, List.drop_left, Nat.add_assoc, ← List.drop_drop, List.drop_left, List.length_append, show decide (p.length + (runB (S x) nameSigns 0 + 1) < p.length + x.length) = decide (runB (S x) nameSigns 0 + 1 < x.length) from decide_eq_decide.mpr (by omega)]
  unfold readNum at h ⊢
  simp only [e1, e2, e3]
  revert h
  repeat' split
  all_goals simp_all
theorem bad_none : ∀ x ∈ badX, readNum x 0 = none := by decide +kernel
theorem num_bad {ah x : List Nat} (hx : x ∈ badX) : readNum (ah ++ x) ah.length = none := readNum_pre ah x (bad_none x hx)

end
section
theorem off_NumLoop : True := by
  w_top off
  trivial
theorem tail_ne {rest own : List (Addr × Obj)} {a : Addr} {l : List Addr} (h1 : ∀ p ∈ rest, p.1 ≠ a) (h2 : OwnOff own l) (hm : a ∈ l) : ∀ p ∈ rest ++ own, p.1 ≠ a := fun p hp =>
  (List.mem_append.mp hp).elim (h1 p) fun h => h2 p h a hm
section
variable {prog : Program} {w : World} {A : Around} {E : Value → Shared → Prop} {s : Shared} {env : Env} {h₀ : Heap} {body : List Stmt} {Q : Flow → Shared → Prop} {m₀ : Str → Option Value} {wl c2 c1 src : Addr} {o2 o1 : Obj} {rest : List (Addr × Obj)}
def numMap (m₀ : Str → Option Value) (fl : List Nat) (tf : Tok) (u1 u2 : Option Value) : Str → Option Value :=
  fun z => if z = ("figures" : Str) then some (.str (S fl) tf) else if z = ("least" : Str) then u1 else if z = ("at" : Str) then u2 else m₀ z
def NumJ (P : Nat → List Int → List Nat → Prop) (m₀ : Str → Option Value) (wl c2 c1 src : Addr) (o2 o1 : Obj) (rest : List (Addr × Obj)) (i : Nat) (mm : Str → Option Value) (nx : List (Addr × Obj)) : Prop :=
  ∃ us cc ws fl tf x y tx ty nn u1 u2, IntsAre us ws ∧ P i ws fl ∧ SrcOk x y ∧ mm = numMap m₀ fl tf u1 u2 ∧ nx = (wl, listOf us.toArray cc) :: (c2, o2) :: (c1, o1) :: (src, srcO x y tx ty nn) :: rest
theorem num_loop {r : Addr} {nI : Int} {t₀ u₀ v₀ : Tok} {dt : Addr × Obj} {c0 : Nat} {x y : Int} {tx ty t0 : Tok} {nn : Nat} (P : Nat → List Int → List Nat → Prop) (hh : A.handled = none)
    (hr : IsRange s.heap r 0 nI 1 t₀ u₀ v₀) (hn : 0 ≤ nI) (hn2 : nI ≤ 1000) (F : Fr h₀ env.locals s.heap m₀)
    (N : News h₀ env.locals s.heap (dt :: (wl, listOf #[] c0) :: (c2, o2) :: (c1, o1) :: (src, srcO x y tx ty nn) :: rest)) (ho : SrcOk x y) (hm : m₀ "figures" = some (.str (S []) t0)) (h0 : P 0 [] []) (hw : ∀ p ∈ rest, p.1 ≠ wl) (hc2 : ∀ p ∈ rest, p.1 ≠ c2) (hc1 : ∀ p ∈ rest, p.1 ≠ c1) (hsr : ∀ p ∈ rest, p.1 ≠ src)
    (turn : ∀ (i : Nat) t us cc ws fl tf x y tx ty nn u1 u2 h tk own, (i : Int) < nI → IntsAre us ws → P i ws fl → SrcOk x y → (∀ p ∈ rest ++ own, p.1 ≠ wl) → (∀ p ∈ rest ++ own, p.1 ≠ c2) → (∀ p ∈ rest ++ own, p.1 ≠ c1) → (∀ p ∈ rest ++ own, p.1 ≠ src) →
      Fr h₀ env.locals h (fun z => if z = ("at" : Str) then some (.int i t) else if z = ("figures" : Str) then some (.str (S fl) tf) else if z = ("least" : Str) then u1 else if z = ("at" : Str) then u2 else m₀ z) →
      News h₀ env.locals h ((wl, listOf us.toArray cc) :: (c2, o2) :: (c1, o1) :: (src, srcO x y tx ty nn) :: (rest ++ own)) →
      wpAny (model prog w) A (execs body env) (InvPostN h₀ env.locals (NumJ P m₀ wl c2 c1 src o2 o1 rest (i + 1)) own (wl :: c2 :: c1 :: src :: rest.map (·.1)) { s with heap := h, toks := tk } Q) E { s with heap := h, toks := tk })
    (done : ∀ us cc ws fl tf x y tx ty nn u1 u2 h tk, IntsAre us ws → P nI.toNat ws fl → SrcOk x y → Fr h₀ env.locals h (fun z => if z = ("figures" : Str) then some (.str (S fl) tf) else if z = ("least" : Str) then u1 else if z = ("at" : Str) then u2 else m₀ z) →
      News h₀ env.locals h ((wl, listOf us.toArray cc) :: (c2, o2) :: (c1, o1) :: (src, srcO x y tx ty nn) :: rest) → Q .next { s with heap := h, toks := tk }) :
    wpAny (model prog w) A (pyIter (.ref r)) (fun it s₂ => LoopAtV prog w A h₀ env "at" body Q E it s₂) E s := by
  obtain ⟨n, rfl⟩ := Int.eq_ofNat_of_zero_le hn
  rw [Int.toNat_natCast] at done
  have hsm : Builtin.Range.small 0 (n : Int) 1 = true := small_one (by omega) (by omega) (by omega) (by omega)
  have hrs : Builtin.Range.rangeSize 0 (n : Int) 1 = (n : Int) := by rw [rangeSize_nat]; omega
  refine kpr_invN (fun i m nx => NumJ P m₀ wl c2 c1 src o2 o1 rest i m nx) hh hr hsm hrs F (news := (wl, listOf #[] c0) :: (c2, o2) :: (c1, o1) :: (src, srcO x y tx ty nn) :: rest) (fun p hp => N p (.tail _ hp)) ⟨[], c0, [], [], t0, x, y, tx, ty, nn, m₀ "least", m₀ "at", .nil, h0, ho, ?_, rfl⟩ ?_ ?_
  · funext z
    unfold numMap
    by_cases h1 : z = ("figures" : Str)
    · rw [if_pos h1, h1, hm]
    · rw [if_neg h1]
      by_cases h2 : z = ("least" : Str)
      · rw [if_pos h2, h2]
      · rw [if_neg h2]
        by_cases h3 : z = ("at" : Str)
        · rw [if_pos h3, h3]
        · rw [if_neg h3]
  · rintro i k t m₁ nx h tk own hk hoff ⟨us, cc, ws, fl, tf, x, y, tx, ty, nn, u1, u2, hI, hP, ho', rfl, rfl⟩ F₁ N₁
    have hi : i < n := by
      have := (List.getElem?_eq_some_iff.mp hk).1
      rwa [rangeKs_length] at this
    have hki : k = (i : Int) := by
      have : (rangeKs 0 n)[i]? = some (0 + (i : Int)) := by simp [rangeKs, hi]
      rw [this] at hk; have := Option.some.inj hk; omega
    subst hki
    exact turn i t us cc ws fl tf x y tx ty nn u1 u2 h tk own (by omega) hI hP ho' (tail_ne hw hoff (.head _)) (tail_ne hc2 hoff (.tail _ (.head _))) (tail_ne hc1 hoff (.tail _ (.tail _ (.head _)))) (tail_ne hsr hoff (.tail _ (.tail _ (.tail _ (.head _))))) F₁ N₁
  · rintro m₁ nx h tk ⟨us, cc, ws, fl, tf, x, y, tx, ty, nn, u1, u2, hI, hP, ho', rfl, rfl⟩ F₁ N₁
    rw [rangeKs_length] at hP
    exact done us cc ws fl tf x y tx ty nn u1 u2 h tk hI hP ho' F₁ N₁
theorem num_end {L : Addr} {P : Nat → List Int → List Nat → Prop} {i cc nn tk : Nat} {own : List (Addr × Obj)} {h : Heap} {us : List Value} {v x y : Int} {t tx ty tf : Tok} {ws : List Int} {fl : List Nat} {M : Str → Option Value} {u1 u2 : Option Value}
    (F : Fr h₀ L h M) (N : News h₀ L h ((wl, listOf (us.toArray.push (.int v t)) cc) :: (c2, o2) :: (c1, o1) :: (src, srcO x y tx ty nn) :: (rest ++ own))) (hI : IntsAre us ws) (hP : P i (ws ++ [v]) fl) (ho : SrcOk x y) (hM : M = numMap m₀ fl tf u1 u2) :
    InvEndN h₀ L (NumJ P m₀ wl c2 c1 src o2 o1 rest i) own (wl :: c2 :: c1 :: src :: rest.map (·.1)) s { s with heap := h, toks := tk } := by
  refine ⟨h, tk, M, _, (wl, listOf (us.toArray.push (.int v t)) cc) :: (c2, o2) :: (c1, o1) :: (src, srcO x y tx ty nn) :: rest, rfl, F, N, fun p hp => ?_, fun p hp => ?_, rfl, us ++ [.int v t], cc, ws ++ [v], fl, tf, x, y, tx, ty, nn, u1, u2, IntsAre.append hI (.cons _ _ .nil), hP, ho, hM, by rw [List.push_toArray]⟩
  · rcases List.mem_cons.mp hp with rfl | hp
    · exact .head _
    · rcases List.mem_cons.mp hp with rfl | hp
      · exact .tail _ (.head _)
      · rcases List.mem_cons.mp hp with rfl | hp
        · exact .tail _ (.tail _ (.head _))
        · rcases List.mem_cons.mp hp with rfl | hp
          · exact .tail _ (.tail _ (.tail _ (.head _)))
          · exact .tail _ (.tail _ (.tail _ (.tail _ (List.mem_append_left _ hp))))
  · exact .tail _ (.tail _ (.tail _ (.tail _ (List.mem_append_right _ hp))))
theorem nm_a {fl : List Nat} {tf : Tok} {V W a u1 u2 : Option Value} : (fun y => if y = ("figures" : Str) then some (.str (S fl) tf) else if y = ("least" : Str) then V else if y = ("at" : Str) then W else if y = ("figures" : Str) then a else if y = ("least" : Str) then u1 else if y = ("at" : Str) then u2 else m₀ y) = numMap m₀ fl tf V W := by
  funext y
  unfold numMap
  by_cases h1 : y = ("figures" : Str)
  · simp only [h1, if_true]
  · simp only [h1, if_false]
    by_cases h2 : y = ("least" : Str)
    · simp only [h2, if_true]
    · simp only [h2, if_false]
      by_cases h3 : y = ("at" : Str)
      · simp only [h3, if_true]
      · simp only [h3, if_false]
theorem nm_b {fl : List Nat} {tf : Tok} {V W a a' u1 u2 : Option Value} : (fun y => if y = ("figures" : Str) then some (.str (S fl) tf) else if y = ("figures" : Str) then a' else if y = ("least" : Str) then V else if y = ("at" : Str) then W else if y = ("figures" : Str) then a else if y = ("least" : Str) then u1 else if y = ("at" : Str) then u2 else m₀ y) = numMap m₀ fl tf V W := by
  funext y
  unfold numMap
  by_cases h1 : y = ("figures" : Str)
  · simp only [h1, if_true]
  · simp only [h1, if_false]
    by_cases h2 : y = ("least" : Str)
    · simp only [h2, if_true]
    · simp only [h2, if_false]
      by_cases h3 : y = ("at" : Str)
      · simp only [h3, if_true]
      · simp only [h3, if_false]
theorem emptyS (l : List Nat) : (S l == Str.ofString "") = decide (l = []) := by
  rw [show Str.ofString "" = S [] by decide +kernel, S_beq]
theorem two_cps {a b c : Nat} (h : c ∈ (S [a, b]).cps) : c = a ∨ c = b := by simpa using h
end

end
section
theorem off_Number : True := by
  w_top off
  trivial
theorem pickM {h₀ h : Heap} {L : Addr} {news own : List (Addr × Obj)} {v : Value} (N : News h₀ L h news) (hP : PairOf (menuX.map (·.2)) own v) (hs : ∀ p ∈ own, p ∈ news) :
    ∃ t9 la b a1 a2, v = .ref t9 ∧ IsTup h t9 #[.str (S la) a1, .int b a2] ∧ (S la, la, b) ∈ menuX := by
  obtain ⟨o, word, val, a1, a2, rfl, hm, hw⟩ := hP
  obtain ⟨x, hx, e⟩ := List.mem_map.mp hw
  have := menuX_S x hx
  obtain ⟨x1, x2, x3⟩ := x
  cases e
  exact ⟨o, word, val, a1, a2, rfl, News.isTup N (hs _ hm), this ▸ hx⟩
inductive LowEnd (h₀ : Heap) (L : Addr) (m : Str → Option Value) (la : List Nat) (pre rest : List (Addr × Obj)) (src : Addr) (s : Shared) : Flow → Shared → Prop
  | mk (low : List Nat) (x y : Int) (tx ty : Tok) (nn : Nat) (ta : Tok) (h' : Heap) (tk' : Tok) : Fr h₀ L h' (fun z => if z = ("ahead" : Str) then some (.str (S (la ++ low)) ta) else m z) → News h₀ L h' (pre ++ (src, srcO x y tx ty nn) :: rest) → SrcOk x y → (low = [] ∨ la ≠ [] ∧ low = [95]) → LowEnd h₀ L m la pre rest src s .next { s with heap := h', toks := tk' }
theorem bind_same {m : Str → Option Value} {x : Str} {v : Value} (h : m x = some v) : m = fun z => if z = x then some v else m z := by
  funext z
  by_cases hz : z = x
  · rw [if_pos hz, hz, h]
  · rw [if_neg hz]
theorem low_none {h₀ : Heap} {L : Addr} {m : Str → Option Value} {la : List Nat} {p1 p2 p3 : Addr × Obj} {rest : List (Addr × Obj)} {src : Addr} {s : Shared} {h' : Heap} {tk' : Tok} {x y : Int} {tx ty ta : Tok} {nn : Nat}
    (F : Fr h₀ L h' m) (N : News h₀ L h' (p1 :: p2 :: p3 :: (src, srcO x y tx ty nn) :: rest)) (ho : SrcOk x y) (hm : m "ahead" = some (.str (S la) ta)) : LowEnd h₀ L m la [p1, p2, p3] rest src s .next { s with heap := h', toks := tk' } := by
  refine .mk [] x y tx ty nn ta h' tk' ?_ N ho (.inl rfl)
  rw [List.append_nil, ← bind_same hm]
  exact F
theorem low_some {h₀ : Heap} {L : Addr} {m : Str → Option Value} {la : List Nat} {p1 p2 p3 : Addr × Obj} {rest : List (Addr × Obj)} {src : Addr} {s : Shared} {h' : Heap} {tk' : Tok} {x y : Int} {tx ty ta : Tok} {nn : Nat}
    (F : Fr h₀ L h' (fun z => if z = ("ahead" : Str) then some (.str (S (la ++ [95])) ta) else m z)) (N : News h₀ L h' (p1 :: p2 :: p3 :: (src, srcO x y tx ty nn) :: rest)) (ho : SrcOk x y) (hla : la ≠ []) : LowEnd h₀ L m la [p1, p2, p3] rest src s .next { s with heap := h', toks := tk' } :=
  .mk [95] x y tx ty nn ta h' tk' F N ho (.inr ⟨hla, rfl⟩)
theorem low_cut {M : Model} {A : Around} {E : Value → Shared → Prop} {s : Shared} {g : Heap} {L src : Addr} {m : Str → Option Value} {la : List Nat} {p1 p2 p3 p4 : Addr × Obj} {rest : List (Addr × Obj)} {t : Sem Flow} {Q : Flow → Shared → Prop} (F : Fr g L s.heap m) (N : News g L s.heap (p1 :: p2 :: p3 :: p4 :: rest))
    (h1 : wpAny M A t (LowEnd g L m la [p1, p2, p3] rest src s) E s) (h2 : ∀ fl s', LowEnd g L m la [p1, p2, p3] rest src s fl s' → Q fl s') : wpAny M A t Q E s := wpAny_mono h1 (fun fl s' h => h2 fl s' h) fun _ _ e => e
theorem ite_two {c a b : Prop} [Decidable c] (h1 : c → a) (h2 : ¬ c → b) : if c then a else b := by
  by_cases h : c
  · rw [if_pos h]; exact h1 h
  · rw [if_neg h]; exact h2 h
theorem last_getD (ws : List Int) (v : Int) : (ws ++ [v]).getD (Int.toNat (-1 + (((ws ++ [v]).length : Nat) : Int))) 0 = v := by
  rw [List.length_append, List.length_singleton, show Int.toNat (-1 + ((ws.length + 1 : Nat) : Int)) = ws.length by omega]
  simp
theorem sign_last {w : World} {p : Program} {loose : List Str} {mean : ExcName → Option Value} {mg mb : Str → Option Value} {A A₀ : Around} {env : Env} {outer : List Env} {base h₀ : Heap} {L : Addr} {m : Str → Option Value} {s : Shared} {Q E : Value → Shared → Prop} {news : List (Addr × Obj)} {ws : List Int} {v : Int} {tv : Tok}
   (B : Below A₀ base outer h₀) (F : Fr h₀ L s.heap m) (X : (Mine.frag.heap_1 w.params).In h₀) (N : News h₀ L s.heap news) (T : Top p loose mean mg mb h₀) (hA : A.frames = some (env :: outer)) (hf : env.frame = some L) (hke : env.scope.kind = .function) (hh : A.handled = none) (hd : A.depth + 2 < recursionLimit) (hu : A.units + 16 < cLine) (h0 : 0 ≤ v) (h1 : v < 16)
   (hret : ∀ t h' tk', Fr h₀ L h' m → News h₀ L h' news → Q (.str (S [loS v.toNat, upS v.toNat]) t) {s with heap := h', toks := tk'}) :
   wpAny (model PR w) A (call (.ref 141) [.int ((ws ++ [v]).getD (Int.toNat (-1 + (((ws ++ [v]).length : Nat) : Int))) 0) tv]) Q E s := by
  rw [last_getD]
  obtain ⟨k, rfl⟩ := Int.eq_ofNat_of_zero_le h0
  exact sign_ok B F X N T hA hf hke hh hd hu (by omega) hret
local macro_rules | `(tactic| walk_at "call ref") => `(tactic| (k_here; (with_reducible show wpAny _ _ (PySem.call (Value.ref 141) _) _ _ _); k_dflt (refine' sign_last ?kB ?kF ?kX ?kN ?kT ?kA ?kf ?kk ?kh ?kd ?ku ?h0 ?h1 ?_; walk_at "my use"; (case h0 => omega); (case h1 => omega); k_whole); intro _ _ _ _ _))
local macro_rules | `(tactic| walk_at "call builtin:list.append") => `(tactic| (k_here; (with_reducible show wpAny _ _ (call (Value.builtin _) [Value.ref _, _]) _ _ _); k_dflt (refine' append_K ?k1 ?k2 ?k3 ?_ ?z; (case k1 => k_asm); (case k2 => k_asm); (case k3 => k_upd); (case z => (simp only [List.size_toArray]; rw [sizeLine_eq]; omega)); k_whole); intro h' F' N'; (try k_sweep)))
theorem news_drop14 {h₀ h : Heap} {L : Addr} {a b c d e : Addr × Obj} {r : List (Addr × Obj)} (N : News h₀ L h (a :: b :: c :: d :: e :: r)) : News h₀ L h (a :: r) := fun p hp => N p (by
  rcases List.mem_cons.mp hp with q | hp
  · exact q ▸ .head _
  · exact .tail _ (.tail _ (.tail _ (.tail _ (.tail _ hp)))))
theorem number_ok {w : World} {p : Program} {loose : List Str} {mean : ExcName → Option Value} {mg mb : Str → Option Value} {A A₀ : Around} {env : Env} {outer : List Env} {base h₀ : Heap} {L : Addr} {m : Str → Option Value} {s : Shared} {Q E : Value → Shared → Prop} {rest : List (Addr × Obj)} {src : Addr} {x y : Int} {tx ty : Tok} {n : Nat}
   (B : Below A₀ base outer h₀) (F : Fr h₀ L s.heap m) (X : (Mine.frag.heap_1 w.params).In h₀) (N : News h₀ L s.heap ((src, srcO x y tx ty n) :: rest)) (T : Top p loose mean mg mb h₀) (hA : A.frames = some (env :: outer)) (hf : env.frame = some L) (hke : env.scope.kind = .function) (hh : A.handled = none) (hd : A.depth + 4 < recursionLimit) (hu : A.units + 60 < cLine) (hr : ∀ p ∈ rest, p.1 ≠ src) (ho : SrcOk x y)
   (hret : ∀ o word b fl val x y tx ty n t1 t2 t3 t4 h' tk', NumWord word b fl val → SrcOk x y → Fr h₀ L h' m → News h₀ L h' ((o, tup [.str (S word) t1, .int b t2, .str (S fl) t3, .int val t4]) :: (src, srcO x y tx ty n) :: rest) → (∀ p ∈ (src, srcO x y tx ty n) :: rest, p.1 < o) → Q (.ref o) {s with heap := h', toks := tk'}) :
   wpAny (model PR w) A (call (.ref 146) [.ref src]) Q E s := by
  refine wpAny_call ?_
  k_dflt (refine' code_defC (binds := [("source", .ref src)]) ?k1 ?k2 ?k3 ?k4 ?k5 hA hf hke ?k6 ?k7 ?k8 ?k9 ?kB ?kD ?_ ?c2 ?c3 ?c4; (case k1 => k_asm); (case k2 => k_asm); (case k3 => k_asm); (case k4 => k_asm); (case k5 => k_asm); (case k6 => k_is); (case k7 => k_is); (case k8 => ktr_room); (case k9 => exact BindsTo.of_eq rfl); (case kB => exact rfl); (case kD => decide +kernel); (case c2 => exact rfl); (case c3 => exact rfl); (case c4 => exact rfl); k_whole; intro g' L' h' tk' cells' FG' F' N' Y' B' X' T' l1; (try k_lt l1); k_cells Y'; (try simp only [List.cons_append, List.nil_append] at N'); (try dsimp only); (try k_fold))
  have r1 : ∀ p ∈ rest, p.1 ≠ L' + 1 := fun p hp => Nat.ne_of_lt (Nat.lt_trans (ktn_ltOf l1.2 p hp) (Nat.lt_succ_self _))
  have r2 : ∀ p ∈ rest, p.1 ≠ L' + 1 + 1 := fun p hp => Nat.ne_of_lt (Nat.lt_trans (ktn_ltOf l1.2 p hp) (Nat.lt_trans (Nat.lt_succ_self _) (Nat.lt_succ_self _)))
  iterate 2 walk1
  rename (Fr _ _ _ _) => F2
  rename (News _ _ _ _) => N2
  k_dflt (refine' pairs_list ?rs ?hE ?hR ?hz ?F ?N ?_; (case rs => exact menuX.map (·.2)); (case F => exact F2); (case N => exact N2); (case hE => walk_at "my es"); (case hR => decide +kernel); (case hz => exact Nat.le_of_ble_eq_true rfl); k_whole)
  clear F2 N2
  intro D0 own vs h0 tk0 F2 N2 hvl hvs ho0 lt0
  obtain ⟨rest1, N2, lt0, hvs, G1, hs1⟩ := pairs_step (T := [_, _, _]) [] N2 lt0 hvs (.head _) ho0
  clear ho0
  dsimp only [List.cons_append, List.nil_append] at N2 lt0
  (try k_lt lt0)
  have e8 := grown_ne G1 (d := src) (Nat.le_of_lt (Nat.lt_of_lt_of_le l1.1 (by omega))) hr
  iterate 12 walk1
  rename (Fr _ _ _ _) => F2
  rename (News _ _ _ _) => N2
  refine' one_use (s := ⟨_, _, _, _, _⟩) B' F2 X' N2 T' ?kA ?kf ?kk ?kh ?kd ?ku ?e1 ?e2 (by k_dflt k_mem) ?e4 ?e5 ?e6 ?_
  case kA => exact Around.frames_deeper (Below.stack B')
  case kf => exact rfl
  case kk => exact rfl
  case kh => first | assumption | exact rfl
  case kd => ktr_room
  case ku => ktr_units
  case e1 => k_upd
  case e2 => assumption
  case e4 => k_ne
  case e5 => rw [hvl]; exact Nat.succ_pos _
  case e6 => rw [hvl]; exact Nat.le_of_ble_eq_true rfl
  intro v x9 y9 tx9 ty9 n9 h9 tk9 hv ho9 F9 NU
  have N9 := NU _ (by k_upd)
  clear NU F2 N2
  obtain ⟨t9, la, b, t91, t92, rfl, hT, hm⟩ := pickM N9 (hvs v hv) (fun p hp => by k_dflt k_mem)
  replace N9 := news_sub0 (T1 := [_]) (T2 := [_, _, _]) N9 hs1
  dsimp only [List.cons_append, List.nil_append] at N9
  clear hvs G1 hs1 e8 lt0 hv
  obtain ⟨hb1, hb2⟩ : 2 ≤ b ∧ b ≤ 16 := menuX_b _ hm
  iterate 10 walk1
  clear hT
  iterate 44 walk1
  rename (News _ _ _ _) => N9
  rename (Fr _ _ _ _) => F9
  refine range1_rows (s := ⟨_, _, _, _, _⟩) F9 N9 ?_
  intro h6 tk6 t61 t62 t63 R6 F6 N6 k6
  clear F9 N9
  refine num_loop (Built b (if la = [] then 1 else 0)) (by k_dflt assumption) R6 ?hn ?hn2 F6 N6 (by assumption) rfl .nil (by k_dflt k_all) (by assumption) (by assumption) (by assumption) ?tu ?dn
  case hn => omega
  case hn2 => omega
  case tu =>
    clear F6 N6 R6 k6
    intro i t us cc ws fl tf x y tx ty nn u1 u2 h tk own hi hI hP ho q1 q2 q3 q4 F9 N9
    have hus : us.length ≤ 1000 := by rw [hI.length, built_len hP]; omega
    have hfl : fl.length ≤ 2000 := by have := built_fl hP; omega
    k_steps
    · rename ((S la == Str.ofString "") = true) => hla
      rename (_ ∈ (S [_, _]).cps) => hc
      rw [emptyS, decide_eq_true_eq] at hla
      refine num_end (by assumption) (by assumption) hI ?_ (by assumption) nm_a
      have z := Built.step (low := false) hP (by omega) (by omega) (fun _ => by rw [if_pos hla]; omega) (fun _ => rfl) (two_cps hc)
      simpa using z
    · rename ((S la == Str.ofString "") = false) => hla
      rename (_ ∈ (S [_, _]).cps) => hc
      rw [emptyS, decide_eq_false_iff_not] at hla
      refine num_end (by assumption) (by assumption) hI ?_ (by assumption) nm_a
      have z := Built.step (low := false) hP (by omega) (by omega) (fun _ => by rw [if_neg hla]; omega) (fun _ => rfl) (two_cps hc)
      simpa using z
    · rename (_ ∈ (S [_, _]).cps) => hc
      refine num_end (by assumption) (by assumption) hI ?_ (by assumption) nm_b
      have z := Built.step (low := true) hP (by omega) (by omega) (fun _ => by omega) (fun _ => by omega) (two_cps hc)
      simpa using z
    · rename (_ ∈ (S [_, _]).cps) => hc
      refine num_end (by assumption) (by assumption) hI ?_ (by assumption) nm_a
      have z := Built.step (low := false) hP (by omega) (by omega) (fun _ => by omega) (fun _ => rfl) (two_cps hc)
      simpa using z
  intro us cc ws fl tf x y tx ty nn u1 u2 h tk hI hP ho F9 N9
  clear F6 N6 R6 k6
  have hus : us.length ≤ 1000 := by rw [hI.length, built_len hP]; omega
  have hfl : fl.length ≤ 2000 := by have := built_fl hP; omega
  have hlal : la.length ≤ 2 := (by decide +kernel : ∀ p ∈ menuX, p.2.1.length ≤ 2) _ hm
  iterate 1 walk1
  refine low_cut (la := la) (src := src) (s := ⟨_, _, _, _, _⟩) F9 N9 ?ifw ?rst
  case ifw =>
    iterate 7 walk1
    by_cases hla : la = []
    · rw [show (S la != Str.ofString "") = false by rw [bne, emptyS, decide_eq_true hla]; rfl, if_neg (by decide)]
      iterate 3 walk1
      exact low_none F9 N9 ho (by with_unfolding_all rfl)
    · rw [show (S la != Str.ofString "") = true by rw [bne, emptyS, decide_eq_false hla]; rfl, if_pos rfl]
      iterate 15 walk1
      rename (News _ _ _ _) => N5
      rename (Fr _ _ _ _) => F5
      refine ite_two (fun _ => ?_) (fun _ => ?_)
      · iterate 10 walk1
        iterate 1 walk1
        rename (Fr _ _ _ _) => F4
        rename (News _ _ _ _) => N4
        exact low_some F4 N4 (by assumption) hla
      · iterate 3 walk1
        exact low_none F5 N5 (by assumption) (by with_unfolding_all rfl)
  clear F9 N9 ho
  rintro fl9 s9 ⟨low, x, y, tx, ty, nn, ta, h9, tk9, F9, N9, ho, hlow⟩
  simp only [List.cons_append, List.nil_append] at N9
  iterate 6 walk1
  rename (Fr _ _ _ _) => F5
  rename (News _ _ _ _) => N5
  have e9 := built_len hP
  have w9 := built_ws hP
  refine enum_comp (s := ⟨_, _, _, _, _⟩) (f := fun i v => v * b ^ ((ws.length : Int) - 1 - (i : Int)).toNat) F5 N5 (by k_dflt k_mem) hI hus (by assumption) (by with_unfolding_all rfl) (by decide) (by rfl) (by decide) (by rfl) (by rfl) (by decide) ?e1 ?e2 ?e3
  case e1 =>
    intro Q' hq
    iterate 6 walk1
    exact hq
  case e2 =>
    intro i v t u C m₂ s' Q' E' hv hC h1 h2 F8 N8 hq
    have hi := (List.getElem?_eq_some_iff.mp hv).1
    have hv2 := w9 v (List.mem_of_getElem? hv)
    refine' elt_eval (n' := (ws.length : Int)) N8 hC h1 h2 ?k1 ?k2 ?k3 ?k4 ?k5 ?k6 ?k7 ?k8 ?k9 ?k10 ?k11 hq (by rfl) (by rfl) (by rfl) (by rfl) (by rfl) (by rfl) (by rfl) (by decide) (by decide) (by decide) (by decide)
    case k1 => k_dflt k_mem
    case k3 => k_dflt k_mem
    case k2 => assumption
    case k4 => assumption
    all_goals omega
  case e3 =>
    intro D ys h8 tk8 hD F8 N8 hlt
    clear F5 N5
    iterate 2 walk1
    refine LSm.sum_ints (s := ⟨_, _, _, _, _⟩) F8 N8 hh ?l1 hD ?_
    case l1 => exact News.isList N8 (.head _)
    intro h5 tk5 t5 F7 N7
    have hl1 : low.length ≤ 1 := by rcases hlow with h | h <;> simp [h]
    have hlw : (la ++ low).length + fl.length ≤ 10000 := by rw [List.length_append]; omega
    have hW : NumWord (la ++ low ++ fl) b fl (ws.mapIdx fun i v => v * b ^ ((ws.length : Int) - 1 - (i : Int)).toNat).sum := ⟨la, low, ws.length, ws, hm, e9 ▸ hP, by omega, by omega, hlow, rfl, rfl⟩
    k_steps
    rename (Fr _ _ _ _) => F6
    rename (News _ _ _ _) => N6
    exact hret _ _ _ _ _ _ _ _ _ _ _ _ _ _ _ _ hW ho F6 (news_drop14 N6) (by walk_at "my lt")

end
local macro_rules | `(tactic| walk_at "eval List") => `(tactic| (k_here; (with_reducible show wpAny _ _ (eval (Expr.List (Expr.Constant (Const.str _) _ _ :: _) _) _) _ _ _); k_dflt (refine' strs_listE ?F ?N ?_ ?hE ?hR; (case hE => walk_at "my es"); (case F => k_asm); (case N => k_asm); (case hR => exact rfl); k_whole); intro D' vs' h' tk' xs' hX' F' N' hS' l1; (try k_lt l1); (try k_sweep)))
local macro_rules | `(tactic| walk_at "call ref") => `(tactic| (k_here; (with_reducible show wpAny _ _ (PySem.call (Value.ref 127) _) _ _ _); k_dflt (refine' one_strs ?kB ?kF ?kX ?kN ?kT ?kA ?kf ?kk ?kh ?kd ?ku ?e1 ?e2 ?e3 ?e4 ?_; walk_at "my use"; (case e1 => k_upd); (case e2 => assumption); (case e3 => assumption); (case e4 => walk_at "my lt"); k_whole); intro e' t' x' y' tx' ty' n' h' tk' he' ho' F' NU; (have N' := NU _ (by k_upd)); clear NU; (try k_sweep)))

section
theorem off_Deeds : True := by
  w_top off
  trivial
def NumOk {wd : List Nat} {b : Int} {fl : List Nat} {va : Int} (h : NumWord wd b fl va) (a : Nat) (v : Value) (ext : List (Addr × Obj)) : Prop :=
  ∃ o q t0 t1 t2 t3 t4, v = .ref o ∧ ext = [(o, tup [.ref q, .int ((a + wd.length : Nat) : Int) t0]), (q, tup [.str (Str.ofString "int") t1, .str (S wd) t2, .int (a : Nat) t3, .int va t4])]
theorem numok_of {wd : List Nat} {b : Int} {fl : List Nat} {va : Int} {h : NumWord wd b fl va} {a : Nat} {wd' : List Nat} {v : Int} {e : Nat} {o q : Addr} {t0 t1 t2 t3 t4 : Tok} (hn : some (wd, va, a + wd.length) = some (wd', v, e)) :
    NumOk h a (.ref o) [(o, tup [.ref q, .int e t0]), (q, tup [.str (Str.ofString "int") t1, .str (S wd') t2, .int a t3, .int v t4])] := by
  cases hn
  exact ⟨o, q, t0, t1, t2, t3, t4, rfl, rfl⟩
theorem fresh2 {news : List (Addr × Obj)} {a b : Addr} {x y : Obj} (h1 : ∀ p ∈ news, p.1 < b) (h2 : ∀ p ∈ news, p.1 < a) : ∀ q ∈ [(a, x), (b, y)], ∀ p ∈ news, p.1 < q.1 := fun z hz p hp => by
  rcases List.mem_cons.mp hz with rfl | hz
  · exact h2 p hp
  · rw [List.mem_singleton.mp hz]; exact h1 p hp
def EscOk (val : Int) (bb : Bool) (e : Int) (v : Value) (ext : List (Addr × Obj)) : Prop := ∃ o t1 t2, v = .ref o ∧ ext = [(o, tup [.int val t1, .bool bb, .int e t2])]
theorem escok_of {val v e e' : Int} {bb b : Bool} {o : Addr} {t1 t2 : Tok} (hn : some (val, bb, e) = some (v, b, e')) : EscOk val bb e (.ref o) [(o, tup [.int v t1, .bool b, .int e' t2])] := by
  cases hn
  exact ⟨o, t1, t2, rfl, rfl⟩
theorem fresh1 {news : List (Addr × Obj)} {a : Addr} {x : Obj} (h : ∀ p ∈ news, p.1 < a) : ∀ q ∈ [(a, x)], ∀ p ∈ news, p.1 < q.1 := fun z hz p hp => by
  rw [List.mem_singleton.mp hz]; exact h p hp
theorem asc3 {a b c : List Nat} (h1 : ∀ x ∈ a, x < 128) (h2 : ∀ x ∈ b, x < 128) (h3 : ∀ x ∈ c, x < 128) : ∀ x ∈ a ++ b ++ c, x < 128 := fun x hx => by
  rcases List.mem_append.mp hx with hx | hx
  · rcases List.mem_append.mp hx with hx | hx
    · exact h1 x hx
    · exact h2 x hx
  · exact h3 x hx
def FigOkV (l : List Nat) (a n : Nat) (b : Int) (v : Value) (ext : List (Addr × Obj)) : Prop := ∃ val t, v = .int val t ∧ ext = [] ∧ figRead l a n b = some val

end
section
theorem off_Same : True := by
  w_top off
  trivial
section
variable {prog : Program} {w : World} {A : Around} {E : Value → Shared → Prop} {s : Shared} {a b : Value} {da db : PyData} {as bs : List Addr} {Q : Value → Shared → Prop}
theorem ne_true (ra : Reads s.heap a da as) (rb : Reads s.heap b db bs) (ha : SeqAt.shaped da = true) (hb : SeqAt.shaped db = true) (hu : A.units + 64 < cLine) (he : PyData.eqv da db = true) (h : Q (.bool false) s) :
    wpAny (model prog w) A (compareOp .NotEq a b) Q E s := ne_dataH ra rb ha hb hu (by rw [he]; exact h)
theorem eq_true (ra : Reads s.heap a da as) (rb : Reads s.heap b db bs) (ha : SeqAt.shaped da = true) (hb : SeqAt.shaped db = true) (hu : A.units + 64 < cLine) (he : PyData.eqv da db = true) (h : Q (.bool true) s) :
    wpAny (model prog w) A (compareOp .Eq a b) Q E s := eq_dataH ra rb ha hb hu (by rw [he]; exact h)
end
theorem strOk_S {l : List Nat} (h : ∀ c ∈ l, c < 128) : PyData.strOk (S l) = true := by
  unfold PyData.strOk
  rw [Array.all_eq_true']
  intro c hc
  have := h c (by simpa using hc)
  exact decide_eq_true (by omega)
theorem strOk_int : PyData.strOk (Str.ofString "int") = true := by decide +kernel
theorem strOk_fault : PyData.strOk (Str.ofString "fault") = true := by decide +kernel
theorem shaped_num {l : List Nat} {a v e : Int} (h : ∀ c ∈ l, c < 128) : SeqAt.shaped (.tuple [.tuple [.str (Str.ofString "int"), .str (S l), .int a, .int v], .int e]) = true := by
  simp [SeqAt.shaped, PyData.canLay0, PyData.canLayAll0, PyData.depth, PyData.depthAll, strOk_S h, strOk_int]
theorem shaped_parts {l : List Nat} {a : Int} (h : ∀ c ∈ l, c < 128) : SeqAt.shaped (.tuple [.int a, .str (S l)]) = true := by
  simp [SeqAt.shaped, PyData.canLay0, PyData.canLayAll0, PyData.depth, PyData.depthAll, strOk_S h]
theorem shaped_fault {a : Int} : SeqAt.shaped (.tuple [.str (Str.ofString "fault"), .int a]) = true := by
  simp [SeqAt.shaped, PyData.canLay0, PyData.canLayAll0, PyData.depth, PyData.depthAll, strOk_fault]
theorem shaped_esc {a e : Int} {b : Bool} : SeqAt.shaped (.tuple [.int a, .bool b, .int e]) = true := by
  simp [SeqAt.shaped, PyData.canLay0, PyData.canLayAll0, PyData.depth, PyData.depthAll]

end
section
theorem off_NumUse : True := by
  w_top off
  trivial
theorem number_use {w : World} {p : Program} {loose : List Str} {mean : ExcName → Option Value} {mg mb : Str → Option Value} {A A₀ : Around} {env : Env} {outer : List Env} {base h₀ : Heap} {L : Addr} {m : Str → Option Value} {s : Shared} {Q E : Value → Shared → Prop} {news : List (Addr × Obj)} {src : Addr} {x y : Int} {tx ty : Tok} {n : Nat}
   (B : Below A₀ base outer h₀) (F : Fr h₀ L s.heap m) (X : (Mine.frag.heap_1 w.params).In h₀) (N : News h₀ L s.heap news) (T : Top p loose mean mg mb h₀) (hA : A.frames = some (env :: outer)) (hf : env.frame = some L) (hke : env.scope.kind = .function) (hh : A.handled = none) (hd : A.depth + 4 < recursionLimit) (hu : A.units + 60 < cLine) (U : Upd src (srcO x y tx ty n) (srcO x y tx ty n) news news) (ho : SrcOk x y)
   (hret : ∀ o word b fl val x' y' tx' ty' n' t1 t2 t3 t4 h' tk', NumWord word b fl val → SrcOk x' y' → Fr h₀ L h' m → (∀ l', Upd src (srcO x y tx ty n) (srcO x' y' tx' ty' n') news l' → News h₀ L h' ((o, tup [.str (S word) t1, .int b t2, .str (S fl) t3, .int val t4]) :: l')) → (∀ p ∈ news, p.1 < o) → Q (.ref o) {s with heap := h', toks := tk'}) :
   wpAny (model PR w) A (call (.ref 146) [.ref src]) Q E s := by
  obtain ⟨pre, post, e, -, h1, h2⟩ := U.split
  have N1 := N
  rw [e] at N1
  refine number_ok B F X (news_front N1) T hA hf hke hh hd hu (fun p hp => (List.mem_append.mp hp).elim (h1 p) (h2 p)) ho ?_
  intro o word b fl val x' y' tx' ty' n' t1 t2 t3 t4 h' tk' hW ho' F' N' hlt
  refine hret o word b fl val x' y' tx' ty' n' t1 t2 t3 t4 h' tk' hW ho' F' (fun l' U' => ?_) (fun p hp => ?_)
  · have N2 : News h₀ L h' l' := upd_back e h1 h2 (fun p hp => N' p (.tail _ hp)) l' U'
    intro p hp
    rcases List.mem_cons.mp hp with rfl | hp
    · exact N' _ (.head _)
    · exact N2 p hp
  · rw [e] at hp
    rcases List.mem_append.mp hp with hp | hp
    · exact hlt p (.tail _ (List.mem_append_left _ hp))
    · rcases List.mem_cons.mp hp with rfl | hp
      · exact hlt (src, srcO x' y' tx' ty' n') (.head _)
      · exact hlt p (.tail _ (List.mem_append_right _ hp))

end
local macro_rules | `(tactic| walk_at "call ref") => `(tactic| (k_here; (with_reducible show wpAny _ _ (PySem.call (Value.ref 146) _) _ _ _); k_dflt (refine' number_use ?kB ?kF ?kX ?kN ?kT ?kA ?kf ?kk ?kh ?kd ?ku ?e1 ?e2 ?_; walk_at "my use"; (case e1 => k_upd); (case e2 => assumption); k_whole); intro o' wd' b' fl' va' x' y' tx' ty' n' t1' t2' t3' t4' h' tk' hW' ho' F' NU l1; (have N' := NU _ (by k_upd)); clear NU; (try k_lt l1); (try k_sweep)))
local macro_rules | `(tactic| walk_at "call ref") => `(tactic| (k_here; (with_reducible show wpAny _ _ (PySem.call (Value.ref 78) _) _ _ _); k_dflt (refine' parts_ok ?kB ?kF ?kX ?kN ?kT ?kA ?kf ?kk ?kh ?kd ?ku ?hl ?hasc ?_; walk_at "my use"; (case hl => assumption); (case hasc => assumption); k_whole); intro _ _ _ _ _ _ _ l1; (try k_lt l1); (try k_sweep)))

local macro_rules | `(tactic| walk_at "callWith ref") => `(tactic| (k_here; k_dflt (first
  | refine' callWith_K ?k1 ?k2 ?_; (case k1 => k_asm); (case k2 => k_is); k_whole
  | refine' callWith_K0 ?k1 ?k2 ?_; (case k1 => k_in); (case k2 => k_is); k_whole)))

section
theorem off_NumberRight : True := by
  w_top off
  trivial
theorem number_right_ok {w : World} {p : Program} {loose : List Str} {mean : ExcName → Option Value} {mg mb : Str → Option Value} {A A₀ : Around} {env : Env} {outer : List Env} {base h₀ : Heap} {L : Addr} {m : Str → Option Value} {s : Shared} {Q E : Value → Shared → Prop} {rest : List (Addr × Obj)} {src : Addr} {x y : Int} {tx ty : Tok} {n : Nat}
   (B : Below A₀ base outer h₀) (F : Fr h₀ L s.heap m) (X : (Mine.frag.heap_1 w.params).In h₀) (N : News h₀ L s.heap ((src, srcO x y tx ty n) :: (148, tabObj #[]) :: rest)) (T : Top p loose mean mg mb h₀) (hA : A.frames = some (env :: outer)) (hf : env.frame = some L) (hke : env.scope.kind = .function) (hh : A.handled = none) (hd : A.depth + 14 < recursionLimit) (hu : A.units + 260 < cLine) (XB : (Mine.frag.heap_1 w.params).In base) (TB : Top p loose mean mg mb base) (CB : CodeHd base 152 148)
   (hr : ∀ p ∈ rest, p.1 ≠ src) (hr2 : ∀ p ∈ rest, p.1 ≠ 148) (hs : @LT.lt Nat _ 172 src) (ho : SrcOk x y)
   (hret : ∀ x y tx ty n ps h₁ h' tk', SrcOk x y → KtsTurn (outer.filterMap (·.frame)) h₀ h₁ → Below A₀ base outer h₁ → Fr h₁ L h' m → News h₁ L h' ((src, srcO x y tx ty n) :: (148, tabObj ps) :: rest) → Q (.bool true) {s with heap := h', toks := tk'}) :
   wpAny (model PR w) A (call (.ref 153) [.ref src]) Q E s := by
  refine wpAny_call ?_
  k_dflt (refine' code_defCU (binds := [("source", .ref src)]) ?k1 ?k2 ?k3 ?k4 ?k5 hA hf hke ?k6 ?k7 ?k8 ?k9 ?kB ?kD ?_ ?c2 ?c3 ?c4; (case k1 => k_asm); (case k2 => k_asm); (case k3 => k_asm); (case k4 => k_asm); (case k5 => k_asm); (case k6 => k_is); (case k7 => k_is); (case k8 => ktr_room); (case k9 => exact BindsTo.of_eq rfl); (case kB => exact rfl); (case kD => decide +kernel); (case c2 => exact rfl); (case c3 => exact rfl); (case c4 => exact rfl); k_whole; intro g' L' h' tk' cells' FG' F' N' Y' B' X' T' l1; (try k_lt l1); k_cells Y'; (try simp only [List.cons_append, List.nil_append] at N'); (try dsimp only); (try k_fold))
  have rr : ∀ c : Addr, L' < c → ∀ p ∈ rest, p.1 ≠ c := fun c hc p hp => Nat.ne_of_lt (Nat.lt_trans (ktn_ltOf l1.2.2 p hp) hc)
  have r1 := rr (L' + 1) (Nat.lt_succ_self _)
  have r2 := rr (L' + 1 + 1) (Nat.lt_succ_of_lt (Nat.lt_succ_self _))
  have r3 := rr (L' + 1 + 1 + 1) (Nat.lt_succ_of_lt (Nat.lt_succ_of_lt (Nat.lt_succ_self _)))
  have r4 := rr (L' + 1 + 1 + 1 + 1) (Nat.lt_succ_of_lt (Nat.lt_succ_of_lt (Nat.lt_succ_of_lt (Nat.lt_succ_self _))))
  have r5 := rr (L' + 1 + 1 + 1 + 1 + 1) (Nat.lt_succ_of_lt (Nat.lt_succ_of_lt (Nat.lt_succ_of_lt (Nat.lt_succ_of_lt (Nat.lt_succ_self _)))))
  clear rr
  iterate 39 walk1
  rename List Nat => ah
  rename (ah ∈ _) => hah
  rename (StrsIs _ _) => hX1
  replace hah := in_strs hah hX1 (by decide +kernel : _ = headX)
  clear hX1
  iterate 22 walk1
  rename List Nat => be
  rename (be ∈ _) => hbe
  rename (StrsIs _ _) => hX1
  replace hbe := in_strs hbe hX1 (by decide +kernel : _ = behindX)
  clear hX1
  have hah2 : ah.length ≤ 2 ∧ ∀ c ∈ ah, c < 128 := (by decide +kernel : ∀ l ∈ headX, l.length ≤ 2 ∧ ∀ c ∈ l, c < 128) ah hah
  have hbe2 : be.length ≤ 2 ∧ ∀ c ∈ be, c < 128 := (by decide +kernel : ∀ l ∈ behindX, l.length ≤ 2 ∧ ∀ c ∈ l, c < 128) be hbe
  iterate 12 walk1
  rename (News _ _ _ _) => N8
  have N7 := fun p hp => N8 p (.tail _ (.tail _ hp))
  change News _ _ _ _ at N7
  rename (NumWord _ _ _ _) => hW
  rename (SrcOk _ _) => ho3
  clear N8 N X T
  obtain ⟨hw1, hw2⟩ := word_signs hW
  obtain ⟨ha1, ha2⟩ := hah2
  obtain ⟨be1, be2⟩ := hbe2
  have hkeep := hr
  iterate 9 walk1
  rename (Fr _ _ _ _) => F9
  rename (News _ _ _ _) => N9
  refine told_ok (s := ⟨_, _, _, _, _⟩) (spot := (ah.length : Nat)) (Ok := NumOk hW ah.length) (Bad := False) B' F9 X' N9 T' (Around.frames_deeper (Below.stack B')) rfl rfl (by first | assumption | exact rfl) (by ktr_room) (by ktr_units) XB TB (by k_dflt k_mem) ?deed ?ok ?bad
  case bad => intro o t1 t2 h1 h' tk' hb; exact hb.elim
  case deed =>
    intro A1 A2 env1 outer1 h1 L1 m1 s1 Q1 E1 B1 F1 X1 N1 T1 hA1 hf1 hk1 hh1 hd1 hu1 hok1 hbad1
    obtain ⟨h8, g8, d8, tk8, os8⟩ := s1
    dsimp only at F1 N1 hok1 hbad1
    refine wpAny_call ?_
    k_dflt (refine' kla_code (binds := []) B1 F1 X1 N1 T1 hA1 hf1 hk1 ?k6 ?k7 ?k8 ?k9 ?kB ?_ ?c2 ?c3 ?c4 ?c5; (case k6 => k_mem); (case k7 => exact codeRec_news N1 (by k_mem) (by assumption) (by assumption)); (case k8 => ktr_room); (case k9 => exact rfl); (case c5 => decide); (case kB => exact locs rfl); (case c2 => exact rfl); (case c3 => exact rfl); (case c4 => exact rfl); k_whole)
    intro g2 L2 h2 FG2 F2 N2 B2 X2 T2
    (try dsimp only)
    (try k_fold)
    iterate 15 walk1
    rename (Fr _ _ _ _) => F3
    rename (News _ _ _ _) => N3
    refine' num_ok (s := ⟨_, _, _, _, _⟩) B2 F3 X2 N3 T2 ?kA ?kf ?kk ?kh ?kd ?ku ?hl ?hasc ?hb ?ret ?bad
    case kA => exact Around.frames_deeper (Below.stack B2)
    case kf => exact rfl
    case kk => exact rfl
    case kh => first | assumption | exact rfl
    case kd => ktr_room
    case ku => ktr_units
    case hl => simp only [List.length_append]; omega
    case hasc => exact asc3 ha2 (fun c hc => (hw1 c hc).2) be2
    case hb => simp only [List.length_append]; omega
    case bad =>
      intro e g9 h9 tk9 hn
      rw [num_word hW hbe] at hn
      cases hn
    case ret =>
      intro wd v e o q t0 t1 t2 t3 t4 h9 tk9 hn F4 N4 l3 l4
      rw [num_word hW hbe] at hn
      iterate 1 walk1
      rename (Fr _ _ _ _) => F5
      rename (News _ _ _ _) => N5
      exact hok1 _ _ _ _ (numok_of hn) (fresh2 l3 l4) F5 N5
  case ok =>
    rintro v ext h1 h7 tk7 ⟨o, q, t0, t1, t2, t3, t4, rfl, rfl⟩ hfr T1 B1 F1 N1
    have l5 := hfr _ (.head _)
    have l6 := hfr _ (.tail _ (.head _))
    have X1 := XB.keeps B1.stays
    have P1 := TB.keeps B1.stays
    simp only [List.cons_append, List.nil_append] at N1
    clear hfr F9 N9 N7 B' X' T'
    (try k_lt l5)
    (try k_lt l6)
    iterate 26 walk1
    refine ne_true (s := ⟨_, _, _, _, _⟩) (by k_dflt ked_read) (by k_dflt ked_read) (shaped_num fun c hc => (hw1 c hc).2) (shaped_num fun c hc => (hw1 c hc).2) (by ktr_units) (by simp [PyData.eqv, PyData.eqvAll]) ?_
    iterate 6 walk1
    rename (News _ _ _ _) => N8
    have N6 := fun p hp => N8 p (.tail _ (.tail _ (.tail _ (.tail _ (.tail _ (.tail _ hp))))))
    change News _ _ _ _ at N6
    clear N8
    have hw3 := Nat.le_trans hw2 (by decide : 20 ≤ 1000)
    have hw4 : ∀ c ∈ _, c < 128 := fun c hc => (hw1 c hc).2
    have hp := parts_word hW
    have hf4 := parts_sub hw4
    iterate 16 walk1
    refine ne_true (s := ⟨_, _, _, _, _⟩) (by k_dflt ked_read) (by k_dflt ked_read) (shaped_parts hf4) (shaped_parts (by rw [hp] at hf4; exact hf4)) (by ktr_units) (by simp [PyData.eqv, PyData.eqvAll, hp]) ?_
    iterate 5 walk1
    rename (News _ _ _ _) => N8
    have N7 := fun p hp => N8 p (.tail _ (.tail _ hp))
    change News _ _ _ _ at N7
    clear N8
    iterate 13 walk1
    rename List Nat => bd
    rename (bd ∈ _) => hbd
    rename (StrsIs _ _) => hX1
    replace hbd := in_strs hbd hX1 (by decide +kernel : _ = badX)
    clear hX1
    obtain ⟨bd1, bd2⟩ := (by decide +kernel : ∀ l ∈ badX, l.length ≤ 5 ∧ ∀ c ∈ l, c < 128) bd hbd
    rename (SrcOk _ _) => ho4
    iterate 10 walk1
    rename (Fr _ _ _ _) => F9
    rename (News _ _ _ _) => N9
    refine told_ok (s := ⟨_, _, _, _, _⟩) (spot := (ah.length : Nat)) (Ok := fun _ _ => False) (Bad := True) B1 F9 X1 N9 P1 (Around.frames_deeper (Below.stack B1)) rfl rfl (by first | assumption | exact rfl) (by ktr_room) (by ktr_units) XB TB (by k_dflt k_mem) ?deed ?ok ?bad
    case ok => intro v ext h1 h' tk' hb; exact hb.elim
    case deed =>
      clear hret
      intro A1 A2 env1 outer1 h1 L1 m1 s1 Q1 E1 B1 F1 X1 N1 T1 hA1 hf1 hk1 hh1 hd1 hu1 hok1 hbad1
      obtain ⟨h8, g8, d8, tk8, os8⟩ := s1
      dsimp only at F1 N1 hok1 hbad1
      refine wpAny_call ?_
      k_dflt (refine' kla_code (binds := []) B1 F1 X1 N1 T1 hA1 hf1 hk1 ?k6 ?k7 ?k8 ?k9 ?kB ?_ ?c2 ?c3 ?c4 ?c5; (case k6 => k_mem); (case k7 => exact codeRec_news N1 (by k_mem) (by assumption) (by assumption)); (case k8 => ktr_room); (case k9 => exact rfl); (case c5 => decide); (case kB => exact locs rfl); (case c2 => exact rfl); (case c3 => exact rfl); (case c4 => exact rfl); k_whole)
      intro g2 L2 h2 FG2 F2 N2 B2 X2 T2
      (try dsimp only)
      (try k_fold)
      iterate 12 walk1
      rename (Fr _ _ _ _) => F3
      rename (News _ _ _ _) => N3
      refine' num_ok (s := ⟨_, _, _, _, _⟩) B2 F3 X2 N3 T2 ?kA ?kf ?kk ?kh ?kd ?ku ?hl ?hasc ?hb ?ret2 ?bad2
      case kA => exact Around.frames_deeper (Below.stack B2)
      case kf => exact rfl
      case kk => exact rfl
      case kh => first | assumption | exact rfl
      case kd => ktr_room
      case ku => ktr_units
      case hl => simp only [List.length_append]; omega
      case hasc => exact fun c hc => (List.mem_append.mp hc).elim (ha2 c) (bd2 c)
      case hb => simp only [List.length_append]; omega
      case ret2 =>
        intro wd v e o q t0 t1 t2 t3 t4 h9 tk9 hn
        rw [num_bad hbd] at hn
        cases hn
      case bad2 =>
        intro e g9 h9 tk9 hn FG9 R9
        exact raisedWX B2 FG9 R9 N3 (fun p hp => hp) fun h' R => hbad1 _ _ _ _ trivial FG2 R
    case bad =>
      intro o t1 t2 h2 h7 tk7 _ T2 B2 F2 N2 l7
      have X2 := XB.keeps B2.stays
      have P2 := TB.keeps B2.stays
      clear F9 N9 B1 X1 P1
      (try k_lt l7)
      iterate 7 walk1
      refine eq_true (s := ⟨_, _, _, _, _⟩) (by k_dflt ked_read) (by k_dflt ked_read) shaped_fault shaped_fault (by ktr_units) (by simp [PyData.eqv, PyData.eqvAll]) ?_
      rename (Fr _ _ _ _) => F5
      rename (News _ _ _ _) => N5
      obtain ⟨h₁, T₁, F₁, B₁, N₁⟩ := back_to B FG' hf (T1.trans T2) F5 N5
      exact hret _ _ _ _ _ _ h₁ _ _ (by assumption) T₁ B₁ F₁ (fun p hp => N₁ p (by
        rcases List.mem_cons.mp hp with rfl | hp
        · k_dflt k_mem
        · rcases List.mem_cons.mp hp with rfl | hp
          · k_dflt k_mem
          · k_dflt k_mem))

end
section
theorem off_CompInd : True := by
  w_top off
  trivial
section
open LCg LCp
variable {prog : Program} {w : World} {A : Around} {h₀ : Heap} {L : Addr} {m : Str → Option Value} {env : Env} {s : Shared} {S : List (Addr × Obj) → Prop} {P : Nat → Value → Prop} {Fin : List Value → List (Addr × Obj) → Prop} {elt : PySem.Expr} {x x₂ : Str} {scope : Scope} {cl : List (Str × Addr)} {n : Nat}
/-- a comprehension whose turns keep a law -/
theorem rest_ind (Inv : Nat → List Value → List (Addr × Obj) → Prop)
    (turn : ∀ i ys news v I oI C oC D m₂ h tk (E' : Value → Shared → Prop), i < n → Inv i ys news → P i v → NsObj oC m₂ → m₂ x = some v → Fr h₀ L h m → News h₀ L h ((I, oI) :: (C, oC) :: (D, lst ys) :: news) → Off3 I C D news → ((@Ne Nat I C) ∧ (@Ne Nat I D) ∧ (@Ne Nat C D)) →
      wpAny (model prog w) A (eval elt (compEnvC scope cl C env)) (CompEnd h₀ L m { s with heap := h, toks := tk } I oI C oC D (lst ys) S (fun y news' => Inv (i + 1) (ys ++ [y]) news')) E' { s with heap := h, toks := tk })
    (fin : ∀ ys news, Inv n ys news → Fin ys news) : ∀ k i ys news, i + k = n → Inv i ys news → CompRest prog w A h₀ L m env elt x scope cl s S P Fin k i ys news := by
  intro k
  induction k with
  | zero => intro i ys news e hI; exact CompRest.zero (fin _ _ (by rw [← e]; exact hI))
  | succ k ih =>
    intro i ys news e hI
    refine CompRest.succ fun v I oI C oC D m₂ h tk E' hP hC hx F N off ne => wpAny_mono (turn i ys news v I oI C oC D m₂ h tk E' (by omega) hI hP hC hx F N off ne) (fun y s₂ hE => ?_) fun _ _ e => e
    obtain ⟨h', tk', news', e', F', N', off', hS, r⟩ := hE
    exact ⟨h', tk', news', e', F', N', off', hS, ih (i + 1) _ _ (by omega) r⟩
theorem rest_indP (Inv : Nat → List Value → List (Addr × Obj) → Prop)
    (turn : ∀ i ys news v, i < n → Inv i ys news → P i v → ∃ (t : Addr) (ot : Obj) (v₁ v₂ : Value) (nt : Nat), v = .ref t ∧ (t, ot) ∈ news ∧ ot.cls = .type "tuple" ∧ ot.data = .seq #[v₁, v₂] nt ∧
      ∀ I oI C oC D m₂ h tk (E' : Value → Shared → Prop), NsObj oC m₂ → m₂ x = some v₁ → m₂ x₂ = some v₂ → Fr h₀ L h m → News h₀ L h ((I, oI) :: (C, oC) :: (D, lst ys) :: news) → Off3 I C D news → ((@Ne Nat I C) ∧ (@Ne Nat I D) ∧ (@Ne Nat C D)) →
      wpAny (model prog w) A (eval elt (compEnvC scope cl C env)) (CompEnd h₀ L m { s with heap := h, toks := tk } I oI C oC D (lst ys) S (fun y news' => Inv (i + 1) (ys ++ [y]) news')) E' { s with heap := h, toks := tk })
    (fin : ∀ ys news, Inv n ys news → Fin ys news) : ∀ k i ys news, i + k = n → Inv i ys news → CompRestP prog w A h₀ L m env elt x x₂ scope cl s S P Fin k i ys news := by
  intro k
  induction k with
  | zero => intro i ys news e hI; exact CompRestP.zero (fin _ _ (by rw [← e]; exact hI))
  | succ k ih =>
    intro i ys news e hI
    refine CompRestP.succ fun v hP => ?_
    obtain ⟨t, ot, v₁, v₂, nt, a1, a2, a3, a4, go⟩ := turn i ys news v (by omega) hI hP
    refine ⟨t, ot, v₁, v₂, nt, a1, a2, a3, a4, fun I oI C oC D m₂ h tk E' hC h1 h2 F N off ne => wpAny_mono (go I oI C oC D m₂ h tk E' hC h1 h2 F N off ne) (fun y s₂ hE => ?_) fun _ _ e => e⟩
    obtain ⟨h', tk', news', e', F', N', off', hS, r⟩ := hE
    exact ⟨h', tk', news', e', F', N', off', hS, ih (i + 1) _ _ (by omega) r⟩
end

end
section
theorem off_TextComp : True := by
  w_top off
  trivial
section
open LCg
variable {prog : Program} {w : World} {A : Around} {E : Value → Shared → Prop} {s : Shared} {h₀ : Heap} {L : Addr} {m : Str → Option Value} {env : Env}
/-- a comprehension over a text of plain signs -/
theorem text_comp {elt iter : PySem.Expr} {x : Str} {px : Pos} {scope : Scope} {cl : List (Str × Addr)} {pos : Pos} {Q : Value → Shared → Prop} (F₀ : Fr h₀ L s.heap m)
    (hclos : closureFor scope env = pure cl) (hcell : ∀ y ∈ scope.names, y.2 ≠ .cell) (hkind : scope.kind = .function)
    (hnames : ∀ y ∈ scope.names, y.2 = .local → scope.names.lookup y.1 = some .local) (hx : scope.names.lookup x = some .local)
    (h : wpAny (model prog w) A (eval iter env) (fun xv s₁ => ∃ xs t news, xv = .str (S xs) t ∧ A.handled = none ∧ (∀ c ∈ xs, c < 128) ∧ Fr h₀ L s₁.heap m ∧ News h₀ L s₁.heap news ∧ xs.length ≤ sizeLine ∧
      ∀ g, CompRest prog w A h₀ L m env elt x scope cl { s₁ with heap := g } (fun _ => True) (SignAt (S xs)) (FinE h₀ L m { s₁ with heap := g } Q) xs.length 0 [] news) E s)
    (hs : ∀ x, foldedSetIterable iter env x = pure x := by intro _; rfl) :
    wpAny (model prog w) A (eval (.ListComp elt [⟨.Name x px, iter, [], 0⟩] scope pos) env) Q E s := by
  rw [eval_ListComp]
  refine wpAny_comprehension_free (use := none) rfl hs hclos hkind hnames (wpAny_mono h (fun xv s₁ h₁ => ?_) fun _ _ e => e)
  obtain ⟨xs, t, news, rfl, hh, hasc, F, N, hsz, R⟩ := h₁
  have ha : (S xs).cps.all (· < 128) = true := by
    rw [Array.all_eq_true']
    intro c hc
    exact decide_eq_true (hasc c (by simpa using hc))
  refine wpAny_pyIter_ascii ha ?_
  have en : (S xs).cps.size = xs.length := by simp
  have W := Walks.strAscii (prog := prog) (w := w) hh s₁.heap.objs.size (S xs) t
  rw [en] at W
  refine block_U W hsz (fun i h st => by obtain ⟨o, e, _⟩ := st; exact ⟨o, e⟩) (fun i h h' o nw st e e' _ _ _ => by obtain ⟨o', q, r⟩ := st; rw [e] at q; cases q; exact ⟨o, e', r⟩) hcell hkind hx ⟨_, Heap.get?_push_size _ rfl, rfl, rfl⟩ (fun b hb => ?_)
    (F.keeps fun _ _ e => Heap.get?_push_of_some _ e) (N.grown fun _ _ e => Heap.get?_push_of_some _ e) (Nat.ne_of_lt F.ns.lt) (next_is_new F) (fun p hp => Nat.ne_of_lt (Heap.lt_size (N p hp).1)) trivial (R _) ?_
  · rw [List.mem_singleton.mp hb]
    show s₁.heap.objs.size < (s₁.heap.push _).objs.size
    rw [Heap.size_push]; exact Nat.lt_succ_self _
  · intro D C h tk m' ys news' F' N' o1 hn hC₀ hD₀ hCL hDL hCD offC fin
    refine ⟨m', hn, fun h'' hs'' => fin D h'' tk (F'.change hs'' hCL hC₀) (fun p hp => ?_) o1⟩
    refine ⟨hs''.extBut _ _ ?_ (N' p hp).1, (N' p hp).2⟩
    rcases List.mem_cons.mp hp with rfl | hp
    · exact Ne.symm hCD
    · exact offC p hp
end

end
section
local macro_rules | `(tactic| walk_at "pad 0") => `(tactic| fail)
theorem off_Short : True := by
  w_top off
  trivial
def shortX : List (Nat × Int) := [(97, 7), (98, 8), (102, 12), (110, 10), (114, 13), (116, 9), (118, 11), (92, 92)]
theorem short_ok {w : World} {p : Program} {loose : List Str} {mean : ExcName → Option Value} {mg mb : Str → Option Value} {A A₀ : Around} {env : Env} {outer : List Env} {base h₀ : Heap} {L : Addr} {m : Str → Option Value} {s : Shared} {Q E : Value → Shared → Prop} {news : List (Addr × Obj)}
   (B : Below A₀ base outer h₀) (F : Fr h₀ L s.heap m) (X : (Mine.frag.heap_1 w.params).In h₀) (N : News h₀ L s.heap news) (T : Top p loose mean mg mb h₀) (hA : A.frames = some (env :: outer)) (hf : env.frame = some L) (hke : env.scope.kind = .function) (hh : A.handled = none) (hd : A.depth + 2 < recursionLimit) (hu : A.units + 40 < cLine)
   (hret : ∀ l own vs h' tk', Fr h₀ L h' m → News h₀ L h' ((l, listOf (List.toArray vs) 0) :: (own ++ news)) → vs.length = 8 → (∀ v ∈ vs, PairOf (shortX.map fun p => ([p.1], p.2)) own v) → (∀ p ∈ own, ∀ c ∈ news, Prod.fst c < p.1) → (∀ p ∈ own ++ news, p.1 < l) → Q (.ref l) {s with heap := h', toks := tk'}) :
   wpAny (model PR w) A (call (.ref 160) []) Q E s := by
  refine wpAny_call ?_
  k_dflt (refine' code_def (binds := []) ?k1 ?k2 ?k3 ?k4 ?k5 hA hf hke ?k6 ?k7 ?k8 ?k9 ?kB ?_ ?c2 ?c3 ?c4 ?c5; (case k1 => k_asm); (case k2 => k_asm); (case k3 => k_asm); (case k4 => k_asm); (case k5 => k_asm); (case k6 => k_is); (case k7 => k_is); (case k8 => ktr_room); (case k9 => exact BindsTo.of_eq rfl); (case c5 => decide); (case kB => exact locs rfl); (case c2 => exact rfl); (case c3 => exact rfl); (case c4 => exact rfl); k_whole; intro g' L' h' FG' F' N' B' X' T'; (try dsimp only); (try k_fold))
  iterate 3 walk1
  k_dflt (refine' pairs_list ?rs ?hE ?hR ?hz ?F ?N ?_; (case rs => exact shortX.map fun p => ([p.1], p.2)); (case F => k_asm); (case N => k_asm); (case hE => walk_at "my es"); (case hR => decide +kernel); (case hz => exact Nat.le_of_ble_eq_true rfl); k_whole)
  intro D own vs h tk F2 N2 hl hr ho hlt
  iterate 1 walk1
  rename (Fr _ _ _ _) => F9
  rename (News _ _ _ _) => N9
  exact hret _ _ _ _ _ F9 N9 hl hr ho hlt

end
section
theorem off_RowsE : True := by
  w_top off
  trivial
def fixedE : List (List Nat × Int × Bool) := [([92, 120, 52, 49], 65, true), ([92, 120, 102, 70], 255, true), ([92, 120, 48, 48], 0, true), ([92, 49, 48, 49], 65, true), ([92, 51, 55, 55], 255, true), ([92, 48, 48, 48], 0, true),
  ([92, 117, 48, 48, 101, 57], 233, false), ([92, 117, 68, 55, 70, 70], 55295, false), ([92, 117, 102, 102, 102, 102], 65535, false), ([92, 85, 48, 48, 48, 49, 102, 54, 48, 48], 128512, false), ([92, 85, 48, 48, 49, 48, 70, 70, 70, 70], 1114111, false), ([92, 117, 48, 48, 48, 48], 0, false)]
def rowsE (q : Nat) : List (List Nat × Int × Bool) := shortX.map (fun p => ([92, p.1], p.2, false)) ++ ([92, q], (q : Int), false) :: fixedE
def headE : List (List Nat) := [[], [97], [92, 110]]
def badE : List (List Nat) := [[92], [92, 113], [92, 120], [92, 120, 52], [92, 120, 103, 49], [92, 49, 56], [92, 52, 48, 48], [92, 55, 56, 97], [92, 117, 68, 56, 48, 48], [92, 117, 100, 102, 102, 102], [92, 85, 48, 48, 49, 49, 48, 48, 48, 48], [92, 117, 49, 50]]
def RowAt (q : Nat) (own : List (Addr × Obj)) (v : Value) : Prop := RowOf (rowsE q) own v
theorem RowAt.sub {q : Nat} {own own' : List (Addr × Obj)} {v : Value} (h : RowAt q own v) (hs : ∀ p ∈ own, p ∈ own') : RowAt q own' v := by
  obtain ⟨o, word, val, b, a1, a2, e, hm, hr⟩ := h
  exact ⟨o, word, val, b, a1, a2, e, hs _ hm, hr⟩
def InvE (q : Nat) (N0 : List (Addr × Obj)) (i : Nat) (ys : List Value) (news : List (Addr × Obj)) : Prop :=
  ∃ own, news = own ++ N0 ∧ ys.length = i ∧ (∀ y ∈ ys, RowAt q own y) ∧ ∀ p ∈ own, ∀ c ∈ N0, c.1 < p.1
theorem row_law : ∀ q ∈ [39, 34], ∀ ah ∈ headE, ∀ r ∈ rowsE q, ∀ be ∈ [[], [49], [q]], readEsc (ah ++ r.1 ++ be) ah.length q = some (r.2.1, r.2.2, ((ah.length + r.1.length : Nat) : Int)) := by decide +kernel
theorem row_bad : ∀ q ∈ [39, 34], ∀ ah ∈ headE, ∀ x ∈ badE, readEsc (ah ++ x) ah.length q = none := by decide +kernel
theorem row_other : ∀ ah ∈ headE, readEsc (ah ++ [92] ++ [34]) ah.length 39 = none ∧ readEsc (ah ++ [92] ++ [39]) ah.length 34 = none := by decide +kernel
theorem row_ascii : ∀ q ∈ [39, 34], ∀ r ∈ rowsE q, (∀ c ∈ r.1, c < 128) ∧ r.1.length ≤ 10 := by decide +kernel
section
variable {prog : Program} {w : World} {A : Around} {E : Value → Shared → Prop} {s : Shared} {b : List Nat} {t u : Tok} {Q : Value → Shared → Prop}
theorem cat_bk {a : List Nat} (hl : a.length ≤ 9999) (h : ∀ t' k, Q (.str (S (a ++ [92])) t') { s with toks := k }) : wpAny (model prog w) A (binaryOp .Add (.str (S a) t) (.str (Str.ofString "\\") u)) Q E s := by
  rw [show Str.ofString "\\" = S [92] by decide +kernel]
  exact cat_S (by rw [List.length_singleton]; omega) h
theorem cat_back (hl : b.length ≤ 9999) (h : ∀ t' k, Q (.str (S (92 :: b)) t') { s with toks := k }) : wpAny (model prog w) A (binaryOp .Add (.str (Str.ofString "\\") t) (.str (S b) u)) Q E s := by
  rw [show Str.ofString "\\" = S [92] by decide +kernel]
  exact cat_S (by rw [List.length_singleton]; omega) h
end
theorem short_at {vs : List Value} {i : Nat} {v : Value} {R : List (Addr × Obj)} (hs : ∀ v ∈ vs, PairOf (shortX.map fun p => ([p.1], p.2)) R v) (h : vs.toArray[i]? = some v) : ∃ (t : Addr) (c : Nat) (k : Int) (a b : Tok), v = .ref t ∧ (t, tup [.str (S [c]) a, .int k b]) ∈ R ∧ (c, k) ∈ shortX := by
  obtain ⟨o, word, val, a1, a2, rfl, hm, hw⟩ := hs v (List.mem_of_getElem? (by simpa using h))
  obtain ⟨x, hx, hxx⟩ := List.mem_map.mp hw
  cases hxx
  exact ⟨o, x.1, x.2, a1, a2, rfl, hm, hx⟩
theorem rows_short {q c : Nat} {k : Int} (h : (c, k) ∈ shortX) : ([92, c], k, false) ∈ rowsE q := List.mem_append_left _ (List.mem_map.mpr ⟨(c, k), h, rfl⟩)
theorem invE_step {q : Nat} {N0 own : List (Addr × Obj)} {i : Nat} {ys : List Value} {o : Addr} {word : List Nat} {val : Int} {b : Bool} {a1 a2 : Tok} (hl : ys.length = i) (hy : ∀ y ∈ ys, RowAt q own y) (ho : ∀ p ∈ own, ∀ c ∈ N0, c.1 < p.1) (hr : (word, val, b) ∈ rowsE q) (hn : ∀ c ∈ N0, c.1 < o) :
    InvE q N0 (i + 1) (ys ++ [.ref o]) ((o, tup [.str (S word) a1, .int val a2, .bool b]) :: (own ++ N0)) := by
  refine ⟨(o, tup [.str (S word) a1, .int val a2, .bool b]) :: own, rfl, by simp [hl], fun y hy' => ?_, fun p hp c hc => ?_⟩
  · rcases List.mem_append.mp hy' with h | h
    · exact (hy y h).sub fun p hp => .tail _ hp
    · rw [List.mem_singleton.mp h]; exact ⟨o, word, val, b, a1, a2, rfl, .head _, hr⟩
  · rcases List.mem_cons.mp hp with rfl | hp
    · exact hn c hc
    · exact ho p hp c hc
theorem sub4 {o I C D : Addr × Obj} {news : List (Addr × Obj)} : ∀ p ∈ I :: C :: D :: o :: news, p ∈ o :: I :: C :: D :: news := by
  intro p hp
  simp only [List.mem_cons] at hp ⊢
  rcases hp with h | h | h | h | h
  · exact .inr (.inl h)
  · exact .inr (.inr (.inl h))
  · exact .inr (.inr (.inr (.inl h)))
  · exact .inl h
  · exact .inr (.inr (.inr (.inr h)))
theorem off4 {I C D o : Addr} {oI oC oD ob : Obj} {news : List (Addr × Obj)} (h : LCg.Off3 I C D news) (hlt : ∀ p ∈ (I, oI) :: (C, oC) :: (D, oD) :: news, p.1 < o) : LCg.Off3 I C D ((o, ob) :: news) :=
  ⟨⟨Nat.ne_of_gt (hlt _ (.head _)), Nat.ne_of_gt (hlt _ (.tail _ (.head _))), Nat.ne_of_gt (hlt _ (.tail _ (.tail _ (.head _))))⟩, h⟩
theorem off1_mem {D : Addr} {l : List (Addr × Obj)} : LCg.Off1 D l → ∀ p ∈ l, p.1 ≠ D := by
  induction l with
  | nil => intro _ p hp; cases hp
  | cons a l ih =>
    intro x p h
    rcases List.mem_cons.mp h with rfl | h
    · exact x.1
    · exact ih x.2 p h
def RowIn (q : Nat) (h : Heap) (v : Value) : Prop := ∃ o word val b a1 a2, v = .ref o ∧ IsTup h o #[.str (S word) a1, .int val a2, .bool b] ∧ (word, val, b) ∈ rowsE q
theorem rowOwn {q : Nat} {h₀ h : Heap} {L : Addr} {v : Value} {own news : List (Addr × Obj)} (N : News h₀ L h news) (hr : RowAt q own v) (hs : ∀ p ∈ own, p ∈ news) : RowIn q h v := by
  obtain ⟨o, word, val, b, a1, a2, rfl, hm, hw⟩ := hr
  exact ⟨o, word, val, b, a1, a2, rfl, News.isTup N (hs _ hm), hw⟩
section
variable {h₀ h : Heap} {L c l D D1 D2 : Addr} {q k : Nat} {oc oD ol oz : Obj} {t : Addr × Obj} {own T rest rest1 : List (Addr × Obj)} {zs vs ys : List Value} {rs : List (List Nat × Int × Bool)}
theorem comp_step (N : News h₀ L h ((l, ol) :: (own ++ (t :: (T ++ rest1))))) (hv : ∀ v ∈ vs, RowAt q own v) (hc : (c, oc) ∈ T) (ho : ∀ p ∈ own, ∀ x ∈ t :: (T ++ rest1), x.1 < p.1) (G : ∀ p ∈ rest1, p ∈ rest ∨ c < p.1) (hs : ∀ p ∈ rest, p ∈ rest1) :
    ∃ rest2, News h₀ L h ((l, ol) :: (T ++ rest2)) ∧ (∀ v ∈ vs, RowAt q rest2 v) ∧ (∀ p ∈ rest2, p ∈ rest ∨ c < p.1) ∧ ∀ p ∈ rest, p ∈ rest2 :=
  ⟨own ++ rest1, news_sub N (to_back (X := [t])), fun v h => RowOf.sub (hv v h) (fun p hp => List.mem_append_left _ hp) fun _ h => h,
    fun p hp => (List.mem_append.mp hp).elim (fun h => .inr (ho p h _ (.tail _ (List.mem_append_left _ hc)))) (G p), fun p hp => List.mem_append_right _ (hs p hp)⟩
theorem rows_step (N : News h₀ L h ((D2, listOf (List.toArray (zs ++ vs)) 0) :: (D1, ol) :: (own ++ ((D, oz) :: (T ++ rest1))))) (lt : ∀ p ∈ (D1, ol) :: (own ++ ((D, oz) :: (T ++ rest1))), p.1 < D2) (hz : ∀ y ∈ zs, RowAt q rest1 y) (hl : zs.length = k)
    (hv : ∀ v ∈ vs, RowOf rs own v) (hvl : vs.length = rs.length) (hr : ∀ r ∈ rs, r ∈ rowsE q) (hc : (c, oc) ∈ T) (ho : ∀ p ∈ own, ∀ x ∈ (D, oz) :: (T ++ rest1), x.1 < p.1) (G : ∀ p ∈ rest1, p ∈ rest ∨ c < p.1) (hs : ∀ p ∈ rest, p ∈ rest1) :
    ∃ zs' rest2, News h₀ L h ((D2, listOf (List.toArray zs') 0) :: (T ++ rest2)) ∧ (∀ p ∈ T ++ rest2, p.1 < D2) ∧ (∀ y ∈ zs', RowAt q rest2 y) ∧ zs'.length = k + rs.length ∧ (∀ p ∈ rest2, p ∈ rest ∨ c < p.1) ∧ ∀ p ∈ rest, p ∈ rest2 :=
  ⟨zs ++ vs, own ++ rest1, news_sub N fun p hp => .tail _ (to_back (X := [(D, oz)]) p hp), fun p hp => lt p (.tail _ (to_back (X := [(D, oz)]) p hp)),
    fun y hy => (List.mem_append.mp hy).elim (fun h => RowOf.sub (hz y h) (fun p hp => List.mem_append_right _ hp) fun _ h => h) (fun h => RowOf.sub (hv y h) (fun p hp => List.mem_append_left _ hp) hr),
    by rw [List.length_append, hl, hvl], fun p hp => (List.mem_append.mp hp).elim (fun h => .inr (ho p h _ (.tail _ (List.mem_append_left _ hc)))) (G p), fun p hp => List.mem_append_right _ (hs p hp)⟩
end
theorem rowQ1 {q : Nat} {o : Addr} {a1 a2 : Tok} {R : List (List Nat × Int × Bool)} {O : List (Addr × Obj)} (hR : R = [([92, q], (q : Int), false)]) : ∀ v ∈ [Value.ref o], RowOf R ((o, tup [.str (S [92, q]) a1, .int (q : Nat) a2, .bool false]) :: O) v := fun v hv => by
  rw [List.mem_singleton.mp hv, hR]
  exact ⟨o, _, _, _, a1, a2, rfl, .head _, .head _⟩
theorem rowQ2 (q : Nat) : ∀ r ∈ [([92, q], (q : Int), false)], r ∈ rowsE q := fun r hr => by
  rw [List.mem_singleton.mp hr]
  exact List.mem_append_right _ (.head _)
theorem rowQ3 {o : Addr} {b : Obj} {l : List (Addr × Obj)} (h : ∀ x ∈ l, x.1 < o) : ∀ p ∈ [(o, b)], ∀ x ∈ l, x.1 < p.1 := fun p hp x hx => by
  rw [List.mem_singleton.mp hp]; exact h x hx
theorem fixed_rows {q : Nat} {rs : List (List Nat × Int × Bool)} (h : rs.all (fun r => fixedE.elem r) = true) : ∀ r ∈ rs, r ∈ rowsE q := fun r hr => List.mem_append_right _ (.tail _ (List.elem_iff.mp (List.all_eq_true.mp h r hr)))

end
local macro_rules | `(tactic| walk_at "call ref") => `(tactic| (k_here; (with_reducible show wpAny _ _ (PySem.call (Value.ref 160) _) _ _ _); k_dflt (refine' short_ok ?kB ?kF ?kX ?kN ?kT ?kA ?kf ?kk ?kh ?kd ?ku  ?_; walk_at "my use"; k_whole); intro l' d0' d1' d2' d3' d4' d5' d6' d7' t0' t1' t2' t3' t4' t5' t6' t7' u0' u1' u2' u3' u4' u5' u6' u7' c' h' tk' F' N' lz0 lz1 lz2 lz3 lz4 lz5 lz6 lz7 lz8; (try k_lt lz0); (try k_lt lz1); (try k_lt lz2); (try k_lt lz3); (try k_lt lz4); (try k_lt lz5); (try k_lt lz6); (try k_lt lz7); (try k_lt lz8); (try k_sweep)))
local macro_rules | `(tactic| walk_at "binaryOp Add str str") => `(tactic| (k_here; (with_reducible show wpAny _ _ (binaryOp Operator.Add (Value.str (Str.ofString "\\") _) (Value.str (S _) _)) _ _ _); k_dflt (refine' cat_back ?kl ?_; (case kl => walk_at "my len"); k_whole); intro _ _))
local macro_rules | `(tactic| walk_at "binaryOp Add str str") => `(tactic| (k_here; (with_reducible show wpAny _ _ (binaryOp Operator.Add (Value.str (S _) _) (Value.str (Str.ofString "\\") _)) _ _ _); k_dflt (refine' cat_bk ?kl ?_; (case kl => walk_at "my len"); k_whole); intro _ _))

section
theorem off_EscapeRight : True := by
  w_top off
  trivial
theorem escape_right_ok {w : World} {p : Program} {loose : List Str} {mean : ExcName → Option Value} {mg mb : Str → Option Value} {A A₀ : Around} {env : Env} {outer : List Env} {base h₀ : Heap} {L : Addr} {m : Str → Option Value} {s : Shared} {Q E : Value → Shared → Prop} {rest : List (Addr × Obj)} {src : Addr} {x y : Int} {tx ty : Tok} {n : Nat}
   (B : Below A₀ base outer h₀) (F : Fr h₀ L s.heap m) (X : (Mine.frag.heap_1 w.params).In h₀) (N : News h₀ L s.heap ((src, srcO x y tx ty n) :: (162, tabObj #[]) :: rest)) (T : Top p loose mean mg mb h₀) (hA : A.frames = some (env :: outer)) (hf : env.frame = some L) (hke : env.scope.kind = .function) (hh : A.handled = none) (hd : A.depth + 14 < recursionLimit) (hu : A.units + 260 < cLine) (XB : (Mine.frag.heap_1 w.params).In base) (TB : Top p loose mean mg mb base) (CB : CodeHd base 164 162)
   (hr : ∀ p ∈ rest, p.1 ≠ src) (hr2 : ∀ p ∈ rest, p.1 ≠ 162) (hs : @LT.lt Nat _ 172 src) (ho : SrcOk x y)
   (hret : ∀ x y tx ty n ps h₁ h' tk', SrcOk x y → KtsTurn (outer.filterMap (·.frame)) h₀ h₁ → Below A₀ base outer h₁ → Fr h₁ L h' m → News h₁ L h' ((src, srcO x y tx ty n) :: (162, tabObj ps) :: rest) → Q (.bool true) {s with heap := h', toks := tk'}) :
   wpAny (model PR w) A (call (.ref 165) [.ref src]) Q E s := by
  refine wpAny_call ?_
  k_dflt (refine' code_defCU (binds := [("source", .ref src)]) ?k1 ?k2 ?k3 ?k4 ?k5 hA hf hke ?k6 ?k7 ?k8 ?k9 ?kB ?kD ?_ ?c2 ?c3 ?c4; (case k1 => k_asm); (case k2 => k_asm); (case k3 => k_asm); (case k4 => k_asm); (case k5 => k_asm); (case k6 => k_is); (case k7 => k_is); (case k8 => ktr_room); (case k9 => exact BindsTo.of_eq rfl); (case kB => exact rfl); (case kD => decide +kernel); (case c2 => exact rfl); (case c3 => exact rfl); (case c4 => exact rfl); k_whole; intro g' L' h' tk' cells' FG' F' N' Y' B' X' T' l1; (try k_lt l1); k_cells Y'; (try simp only [List.cons_append, List.nil_append] at N'); (try dsimp only); (try k_fold))
  have rr : ∀ c : Addr, L' < c → ∀ p ∈ rest, p.1 ≠ c := fun c hc p hp => Nat.ne_of_lt (Nat.lt_trans (ktn_ltOf l1.2.2 p hp) hc)
  have r1 := rr (L' + 1) (Nat.lt_succ_self _)
  have r2 := rr (L' + 1 + 1) (Nat.lt_succ_of_lt (Nat.lt_succ_self _))
  have r3 := rr (L' + 1 + 1 + 1) (Nat.lt_succ_of_lt (Nat.lt_succ_of_lt (Nat.lt_succ_self _)))
  have r4 := rr (L' + 1 + 1 + 1 + 1) (Nat.lt_succ_of_lt (Nat.lt_succ_of_lt (Nat.lt_succ_of_lt (Nat.lt_succ_self _))))
  have r5 := rr (L' + 1 + 1 + 1 + 1 + 1) (Nat.lt_succ_of_lt (Nat.lt_succ_of_lt (Nat.lt_succ_of_lt (Nat.lt_succ_of_lt (Nat.lt_succ_self _)))))
  have r6 := rr (L' + 1 + 1 + 1 + 1 + 1 + 1) (Nat.lt_succ_of_lt (Nat.lt_succ_of_lt (Nat.lt_succ_of_lt (Nat.lt_succ_of_lt (Nat.lt_succ_of_lt (Nat.lt_succ_self _))))))
  have r7 := rr (L' + 1 + 1 + 1 + 1 + 1 + 1 + 1) (Nat.lt_succ_of_lt (Nat.lt_succ_of_lt (Nat.lt_succ_of_lt (Nat.lt_succ_of_lt (Nat.lt_succ_of_lt (Nat.lt_succ_of_lt (Nat.lt_succ_self _)))))))
  clear rr
  iterate 14 walk1
  rename List Nat => ql
  rename (ql ∈ _) => hql
  rename (StrsIs _ _) => hX1
  replace hql := in_strs hql hX1 (by decide +kernel : _ = [[39], [34]])
  clear hX1
  iterate 11 walk1
  rename List Nat => ah
  rename (ah ∈ _) => hah
  rename (StrsIs _ _) => hX1
  replace hah := in_strs hah hX1 (by decide +kernel : _ = headE)
  clear hX1
  obtain ⟨qc, rfl, hqc⟩ : ∃ q, ql = [q] ∧ (q = 39 ∨ q = 34) := by
    simp only [List.mem_cons, List.not_mem_nil, or_false] at hql
    rcases hql with rfl | rfl
    · exact ⟨39, rfl, .inl rfl⟩
    · exact ⟨34, rfl, .inr rfl⟩
  clear hql
  have hq : qc ∈ [39, 34] := by rcases hqc with rfl | rfl <;> decide
  iterate 14 walk1
  rename (Fr _ _ _ _) => F9
  refine LCp.ListComp_P (F₀ := F9) (by with_unfolding_all rfl) (by decide) (by rfl) (by decide) (by rfl) (by rfl) (by decide) ?_
  iterate 3 walk1
  rename (Fr _ _ _ _) => F9
  rename (News _ _ _ _) => N9
  refine' short_ok (s := ⟨_, _, _, _, _⟩) B' F9 X' N9 T' ?kA ?kf ?kk ?kh ?kd ?ku ?_
  case kA => exact Around.frames_deeper (Below.stack B')
  case kf => exact rfl
  case kk => exact rfl
  case kh => first | assumption | exact rfl
  case kd => ktr_room
  case ku => ktr_units
  clear F9 N9
  intro l0 own vs h0 tk0 F9 N9 hvl hvs ho0 lt0
  obtain ⟨rest1, N9, lt0, hvs, G1, hs1⟩ := pairs_step (T := [_, _, _, _, _, _, _, _, _]) [_] N9 lt0 hvs (.head _) ho0
  clear ho0
  dsimp only [List.cons_append, List.nil_append] at N9 lt0
  (try k_lt lt0)
  refine LCp.SrcLP.ledger (by first | assumption | exact rfl) F9 N9 (by k_dflt k_mem) (by rw [List.size_toArray, hvl]; exact Nat.le_of_ble_eq_true rfl) fun g => ?_
  refine rest_indP (InvE qc _) ?turn ?fin _ 0 [] _ (Nat.zero_add _) ⟨[], rfl, rfl, by simp, by simp⟩
  case turn =>
    clear F9 N9
    rintro i ys news v hi ⟨own, rfl, hlen, hys, hlt⟩ hP
    obtain ⟨t, c, k, a, b, rfl, hm, hs⟩ := short_at hvs hP
    have hm2 := hm
    refine ⟨t, _, _, _, _, rfl, List.mem_append_right _ (by k_dflt k_mem), rfl, rfl, ?_⟩
    intro I oI C oC D m₂ h tk E' hC h1 h2 F1 N1 off ne
    iterate 12 walk1
    rename (Fr _ _ _ _) => F3
    rename (News _ _ _ _) => N3
    refine LCg.CompEnd.intro F3 N3 (_ :: (own ++ _)) sub4 (off4 (oI := oI) (oC := oC) (oD := LCg.lst ys) off ?lt) (.inr ⟨_, .tail _ (List.mem_append_right _ (by k_dflt k_mem)), rfl, _, rfl⟩) (invE_step hlen hys hlt (rows_short hs) ?lt2)
    case lt => walk_at "my lt"
    case lt2 => exact fun c hc => (by walk_at "my lt" : ∀ p ∈ (I, oI) :: (C, oC) :: (D, LCg.lst ys) :: (own ++ _), p.1 < _) c (.tail _ (.tail _ (.tail _ (List.mem_append_right _ hc))))
  case fin =>
    rintro ys news ⟨own, rfl, hlen, hys, hlt⟩ D h tk F1 N1 off
    rw [List.size_toArray, hvl] at hlen
    obtain ⟨rest2, N1, hys, G2, hs2⟩ := comp_step (T := [_, _, _, _, _, _, _, _, _]) N1 hys (.head _) hlt G1 hs1
    dsimp only [List.cons_append, List.nil_append] at N1
    clear hlt off F9 N9 G1 hs1 hvs lt0
    iterate 22 walk1
    rename (Fr _ _ _ _) => F2
    rename (News _ _ _ _) => N2
    refine kmk_add_lit (s := ⟨_, _, _, _, _⟩) (zs := ys ++ [.ref _]) F2 N2 (News.isList N2 (by k_dflt k_mem)) (News.isList N2 (by k_dflt k_mem)) rfl ?_ (by simp [hlen, sizeLine_eq])
    clear F2 N2
    intro D1 h1 F3 N3 l3
    obtain ⟨zs, rest3, N3, l3, hys, hlen, G3, hs3⟩ := rows_step (rs := [([92, qc], (qc : Int), false)]) (own := [_]) (T := [_, _, _, _, _, _, _, _, _]) N3 l3 hys hlen (rowQ1 rfl) rfl (rowQ2 _) (.head _) (rowQ3 (by walk_at "my lt")) G2 hs2
    clear G2 hs2
    dsimp only [List.cons_append, List.nil_append] at N3 l3
    (try k_lt l3)
    iterate 6 walk1
    rename (Fr _ _ _ _) => F2
    rename (News _ _ _ _) => N2
    k_dflt (refine' rows_list ?rs ?hE ?hR ?hz ?F ?N ?_; (case rs => exact [([92, 120, 52, 49], 65, true), ([92, 120, 102, 70], 255, true), ([92, 120, 48, 48], 0, true), ([92, 49, 48, 49], 65, true)]); (case F => exact F2); (case N => exact N2); (case hE => walk_at "my es"); (case hR => decide +kernel); (case hz => exact Nat.le_of_ble_eq_true rfl); k_whole)
    clear F2 N2
    intro E4 own4 vs4 h4 tk4 F2 N2 vl4 hv4 ho4 lt4
    refine kmk_add_lit (s := ⟨_, _, _, _, _⟩) (zs := zs ++ vs4) F2 N2 (News.isList N2 (.tail _ (List.mem_append_right _ (.head _)))) (News.isList N2 (.head _)) rfl ?_ (by simp [hlen, vl4, sizeLine_eq])
    clear F2 N2 lt4
    intro D4 h4 F3 N3 l3
    obtain ⟨zs, rest4, N3, l3, hys, hlen, G4, hs4⟩ := rows_step (T := [_, _, _, _, _, _, _, _, _]) N3 l3 hys hlen hv4 vl4 (fixed_rows (by decide +kernel)) (.head _) ho4 G3 hs3
    clear G3 hs3 hv4 vl4 ho4
    dsimp only [List.cons_append, List.nil_append] at N3 l3
    (try k_lt l3)
    iterate 5 walk1
    rename (Fr _ _ _ _) => F2
    rename (News _ _ _ _) => N2
    k_dflt (refine' rows_list ?rs ?hE ?hR ?hz ?F ?N ?_; (case rs => exact [([92, 51, 55, 55], 255, true), ([92, 48, 48, 48], 0, true)]); (case F => exact F2); (case N => exact N2); (case hE => walk_at "my es"); (case hR => decide +kernel); (case hz => exact Nat.le_of_ble_eq_true rfl); k_whole)
    clear F2 N2
    intro E5 own5 vs5 h5 tk5 F2 N2 vl5 hv5 ho5 lt5
    refine kmk_add_lit (s := ⟨_, _, _, _, _⟩) (zs := zs ++ vs5) F2 N2 (News.isList N2 (.tail _ (List.mem_append_right _ (.head _)))) (News.isList N2 (.head _)) rfl ?_ (by simp [hlen, vl5, sizeLine_eq])
    clear F2 N2 lt5
    intro D5 h5 F3 N3 l3
    obtain ⟨zs, rest5, N3, l3, hys, hlen, G5, hs5⟩ := rows_step (T := [_, _, _, _, _, _, _, _, _]) N3 l3 hys hlen hv5 vl5 (fixed_rows (by decide +kernel)) (.head _) ho5 G4 hs4
    clear G4 hs4 hv5 vl5 ho5
    dsimp only [List.cons_append, List.nil_append] at N3 l3
    (try k_lt l3)
    iterate 5 walk1
    rename (Fr _ _ _ _) => F2
    rename (News _ _ _ _) => N2
    k_dflt (refine' rows_list ?rs ?hE ?hR ?hz ?F ?N ?_; (case rs => exact [([92, 117, 48, 48, 101, 57], 233, false), ([92, 117, 68, 55, 70, 70], 55295, false), ([92, 117, 102, 102, 102, 102], 65535, false)]); (case F => exact F2); (case N => exact N2); (case hE => walk_at "my es"); (case hR => decide +kernel); (case hz => exact Nat.le_of_ble_eq_true rfl); k_whole)
    clear F2 N2
    intro E6 own6 vs6 h6 tk6 F2 N2 vl6 hv6 ho6 lt6
    refine kmk_add_lit (s := ⟨_, _, _, _, _⟩) (zs := zs ++ vs6) F2 N2 (News.isList N2 (.tail _ (List.mem_append_right _ (.head _)))) (News.isList N2 (.head _)) rfl ?_ (by simp [hlen, vl6, sizeLine_eq])
    clear F2 N2 lt6
    intro D6 h6 F3 N3 l3
    obtain ⟨zs, rest6, N3, l3, hys, hlen, G6, hs6⟩ := rows_step (T := [_, _, _, _, _, _, _, _, _]) N3 l3 hys hlen hv6 vl6 (fixed_rows (by decide +kernel)) (.head _) ho6 G5 hs5
    clear G5 hs5 hv6 vl6 ho6
    dsimp only [List.cons_append, List.nil_append] at N3 l3
    (try k_lt l3)
    iterate 5 walk1
    rename (Fr _ _ _ _) => F2
    rename (News _ _ _ _) => N2
    k_dflt (refine' rows_list ?rs ?hE ?hR ?hz ?F ?N ?_; (case rs => exact [([92, 85, 48, 48, 48, 49, 102, 54, 48, 48], 128512, false), ([92, 85, 48, 48, 49, 48, 70, 70, 70, 70], 1114111, false), ([92, 117, 48, 48, 48, 48], 0, false)]); (case F => exact F2); (case N => exact N2); (case hE => walk_at "my es"); (case hR => decide +kernel); (case hz => exact Nat.le_of_ble_eq_true rfl); k_whole)
    clear F2 N2
    intro E7 own7 vs7 h7 tk7 F2 N2 vl7 hv7 ho7 lt7
    refine kmk_add_lit (s := ⟨_, _, _, _, _⟩) (zs := zs ++ vs7) F2 N2 (News.isList N2 (.tail _ (List.mem_append_right _ (.head _)))) (News.isList N2 (.head _)) rfl ?_ (by simp [hlen, vl7, sizeLine_eq])
    clear F2 N2 lt7
    intro D7 h7 F3 N3 l3
    obtain ⟨zs, rest7, N3, l3, hys, hlen, G7, hs7⟩ := rows_step (T := [_, _, _, _, _, _, _, _, _]) N3 l3 hys hlen hv7 vl7 (fixed_rows (by decide +kernel)) (.head _) ho7 G6 hs6
    clear G6 hs6 hv7 vl7 ho7
    dsimp only [List.cons_append, List.nil_append] at N3 l3
    (try k_lt l3)
    simp only [List.length_cons, List.length_nil] at hlen
    have e8 := grown_ne G7 (d := src) (Nat.le_of_lt (Nat.lt_of_lt_of_le l1.1 (by omega))) hr
    iterate 12 walk1
    rename (Fr _ _ _ _) => F2
    rename (News _ _ _ _) => N2
    refine' one_use (s := ⟨_, _, _, _, _⟩) B' F2 X' N2 T' ?kA ?kf ?kk ?kh ?kd ?ku ?e1 ?e2 (by k_dflt k_mem) ?e4 ?e5 ?e6 ?_
    case kA => exact Around.frames_deeper (Below.stack B')
    case kf => exact rfl
    case kk => exact rfl
    case kh => first | assumption | exact rfl
    case kd => ktr_room
    case ku => ktr_units
    case e1 => k_upd
    case e2 => assumption
    case e4 => k_ne
    case e5 => rw [hlen]; exact Nat.succ_pos _
    case e6 => rw [hlen]; exact Nat.le_of_ble_eq_true rfl
    intro v x9 y9 tx9 ty9 n9 h9 tk9 hv ho9 F9 NU
    have N9 := NU _ (by k_upd)
    clear NU F2 N2
    have hrow : RowIn qc h9 v := rowOwn N9 (hys v hv) (fun p hp => by k_dflt k_mem)
    obtain ⟨o, word, val, bb, a1, a2, rfl, hT, hr9⟩ := hrow
    replace N9 := news_sub0 (T1 := [_]) (T2 := [_, _, _, _, _, _, _, _, _]) N9 hs7
    dsimp only [List.cons_append, List.nil_append] at N9
    clear hv G7 hs7 hys e8
    obtain ⟨ha1, ha2⟩ := (by decide +kernel : ∀ l ∈ headE, l.length ≤ 2 ∧ ∀ c ∈ l, c < 128) ah hah
    obtain ⟨hw1, hw2⟩ := row_ascii qc hq (word, val, bb) hr9
    dsimp only at hw1 hw2
    have hq1 : qc < 128 := by rcases hqc with rfl | rfl <;> decide
    iterate 58 walk1
    rename (_ ∈ [Value.str _ _, _, _]) => hvb
    obtain ⟨be, tbe, rfl, hbe⟩ := pickS (xs := [[], [49], [qc]]) (by repeat first | exact .nil | refine .cons (by first | rfl | decide +kernel) ?_) hvb
    clear hvb
    have hbe2 : be.length ≤ 1 ∧ ∀ c ∈ be, c < 128 := by
      simp only [List.mem_cons, List.not_mem_nil, or_false] at hbe
      rcases hbe with rfl | rfl | rfl
      · simp
      · simp
      · simpa using hq1
    obtain ⟨be1, be2⟩ := hbe2
    rename (SrcOk _ _) => ho3
    iterate 27 walk1
    have hlaw : readEsc (ah ++ word ++ be) ah.length qc = some (val, bb, ((ah.length + word.length : Nat) : Int)) := row_law qc hq ah hah (word, val, bb) hr9 be hbe
    rename (Fr _ _ _ _) => F9
    rename (News _ _ _ _) => N9
    refine told_ok (s := ⟨_, _, _, _, _⟩) (spot := (ah.length : Nat)) (Ok := EscOk val bb ((ah.length + word.length : Nat) : Int)) (Bad := False) B' F9 X' N9 T' (Around.frames_deeper (Below.stack B')) rfl rfl (by first | assumption | exact rfl) (by ktr_room) (by ktr_units) XB TB (by k_dflt k_mem) ?deed ?ok ?bad
    case bad => intro o t1 t2 h1 h' tk' hb; exact hb.elim
    case deed =>
      clear hret
      intro A1 A2 env1 outer1 h1 L1 m1 s1 Q1 E1 B1 F1 X1 N1 T1 hA1 hf1 hk1 hh1 hd1 hu1 hok1 hbad1
      obtain ⟨h8, g8, d8, tk8, os8⟩ := s1
      dsimp only at F1 N1 hok1 hbad1
      refine wpAny_call ?_
      k_dflt (refine' kla_code (binds := []) B1 F1 X1 N1 T1 hA1 hf1 hk1 ?k6 ?k7 ?k8 ?k9 ?kB ?_ ?c2 ?c3 ?c4 ?c5; (case k6 => k_mem); (case k7 => exact codeRec_news N1 (by k_mem) (by assumption) (by assumption)); (case k8 => ktr_room); (case k9 => exact rfl); (case c5 => decide); (case kB => exact locs rfl); (case c2 => exact rfl); (case c3 => exact rfl); (case c4 => exact rfl); k_whole)
      intro g2 L2 h2 FG2 F2 N2 B2 X2 T2
      (try dsimp only)
      (try k_fold)
      iterate 17 walk1
      rename (Fr _ _ _ _) => F3
      rename (News _ _ _ _) => N3
      refine' esc_ok (s := ⟨_, _, _, _, _⟩) B2 F3 X2 N3 T2 ?kA ?kf ?kk ?kh ?kd ?ku ?hl ?hasc ?hb ?ret1 ?bad1
      case kA => exact Around.frames_deeper (Below.stack B2)
      case kf => exact rfl
      case kk => exact rfl
      case kh => first | assumption | exact rfl
      case kd => ktr_room
      case ku => ktr_units
      case hl => simp only [List.length_append]; omega
      case hasc => exact asc3 ha2 hw1 be2
      case hb => simp only [List.length_append]; omega
      case bad1 =>
        intro e g9 h9 tk9 hn
        rw [hlaw] at hn
        cases hn
      case ret1 =>
        intro v b e o t1 t2 h9 tk9 hn F4 N4 l3
        rw [hlaw] at hn
        iterate 1 walk1
        rename (Fr _ _ _ _) => F5
        rename (News _ _ _ _) => N5
        exact hok1 _ _ _ _ (escok_of hn) (fresh1 l3) F5 N5
    case ok =>
      rintro v ext h1 h7 tk7 ⟨o, t1, t2, rfl, rfl⟩ hfr T1 B1 F1 N1
      have l5 := hfr _ (.head _)
      have X1 := XB.keeps B1.stays
      have P1 := TB.keeps B1.stays
      simp only [List.cons_append, List.nil_append] at N1
      clear hfr F9 N9 B' X' T'
      (try k_lt l5)
      iterate 1 walk1
      refine ne_true (s := ⟨_, _, _, _, _⟩) (by k_dflt ked_read) (by k_dflt ked_read) shaped_esc shaped_esc (by ktr_units) (by simp [PyData.eqv, PyData.eqvAll]) ?_
      iterate 5 walk1
      iterate 11 walk1
      rename List Nat => bd
      rename (bd ∈ _) => hbd
      rename (StrsIs _ _) => hX1
      replace hbd := in_strs hbd hX1 (by decide +kernel : _ = badE)
      clear hX1
      obtain ⟨bd1, bd2⟩ := (by decide +kernel : ∀ l ∈ badE, l.length ≤ 10 ∧ ∀ c ∈ l, c < 128) bd hbd
      have hlaw2 := row_bad qc hq ah hah bd hbd
      rename (SrcOk _ _) => ho4
      iterate 10 walk1
      rename (Fr _ _ _ _) => F9
      rename (News _ _ _ _) => N9
      refine told_ok (s := ⟨_, _, _, _, _⟩) (spot := (ah.length : Nat)) (Ok := fun _ _ => False) (Bad := True) B1 F9 X1 N9 P1 (Around.frames_deeper (Below.stack B1)) rfl rfl (by first | assumption | exact rfl) (by ktr_room) (by ktr_units) XB TB (by k_dflt k_mem) ?deed ?ok ?bad
      case ok => intro v ext h1 h' tk' hb; exact hb.elim
      case deed =>
        clear hret
        intro A1 A2 env1 outer1 h1 L1 m1 s1 Q1 E1 B1 F1 X1 N1 T1 hA1 hf1 hk1 hh1 hd1 hu1 hok1 hbad1
        obtain ⟨h8, g8, d8, tk8, os8⟩ := s1
        dsimp only at F1 N1 hok1 hbad1
        refine wpAny_call ?_
        k_dflt (refine' kla_code (binds := []) B1 F1 X1 N1 T1 hA1 hf1 hk1 ?k6 ?k7 ?k8 ?k9 ?kB ?_ ?c2 ?c3 ?c4 ?c5; (case k6 => k_mem); (case k7 => exact codeRec_news N1 (by k_mem) (by assumption) (by assumption)); (case k8 => ktr_room); (case k9 => exact rfl); (case c5 => decide); (case kB => exact locs rfl); (case c2 => exact rfl); (case c3 => exact rfl); (case c4 => exact rfl); k_whole)
        intro g2 L2 h2 FG2 F2 N2 B2 X2 T2
        (try dsimp only)
        (try k_fold)
        iterate 14 walk1
        rename (Fr _ _ _ _) => F3
        rename (News _ _ _ _) => N3
        refine' esc_ok (s := ⟨_, _, _, _, _⟩) B2 F3 X2 N3 T2 ?kA ?kf ?kk ?kh ?kd ?ku ?hl ?hasc ?hb ?ret2 ?bad2
        case kA => exact Around.frames_deeper (Below.stack B2)
        case kf => exact rfl
        case kk => exact rfl
        case kh => first | assumption | exact rfl
        case kd => ktr_room
        case ku => ktr_units
        case hl => simp only [List.length_append]; omega
        case hasc => exact fun c hc => (List.mem_append.mp hc).elim (ha2 c) (bd2 c)
        case hb => simp only [List.length_append]; omega
        case ret2 =>
          intro v b e o t1 t2 h9 tk9 hn
          rw [hlaw2] at hn
          cases hn
        case bad2 =>
          intro e g9 h9 tk9 hn FG9 R9
          exact raisedWX B2 FG9 R9 N3 (fun p hp => hp) fun h' R => hbad1 _ _ _ _ trivial FG2 R
      case bad =>
        intro o t1 t2 h2 h7 tk7 _ T2 B2 F2 N2 l7
        have X2 := XB.keeps B2.stays
        have P2 := TB.keeps B2.stays
        clear F9 N9 B1 X1 P1
        (try k_lt l7)
        iterate 7 walk1
        refine ne_true (s := ⟨_, _, _, _, _⟩) (by k_dflt ked_read) (by k_dflt ked_read) shaped_fault shaped_fault (by ktr_units) (by simp [PyData.eqv, PyData.eqvAll]) ?_
        iterate 5 walk1
        rcases hqc with rfl | rfl
        · iterate 7 walk1
          rw [if_pos (by decide +kernel)]
          iterate 1 walk1
          rw [show Str.ofString "\"" = S [34] by decide +kernel]
          iterate 11 walk1
          rename (Fr _ _ _ _) => F9
          rename (News _ _ _ _) => N9
          refine told_ok (s := ⟨_, _, _, _, _⟩) (spot := (ah.length : Nat)) (Ok := fun _ _ => False) (Bad := True) B2 F9 X2 N9 P2 (Around.frames_deeper (Below.stack B2)) rfl rfl (by first | assumption | exact rfl) (by ktr_room) (by ktr_units) XB TB (by k_dflt k_mem) ?deed ?ok ?bad
          case ok => intro v ext h1 h' tk' hb; exact hb.elim
          case deed =>
            clear hret
            intro A1 A2 env1 outer1 h1 L1 m1 s1 Q1 E1 B1 F1 X1 N1 T1 hA1 hf1 hk1 hh1 hd1 hu1 hok1 hbad1
            obtain ⟨h8, g8, d8, tk8, os8⟩ := s1
            dsimp only at F1 N1 hok1 hbad1
            refine wpAny_call ?_
            k_dflt (refine' kla_code (binds := []) B1 F1 X1 N1 T1 hA1 hf1 hk1 ?k6 ?k7 ?k8 ?k9 ?kB ?_ ?c2 ?c3 ?c4 ?c5; (case k6 => k_mem); (case k7 => exact codeRec_news N1 (by k_mem) (by assumption) (by assumption)); (case k8 => ktr_room); (case k9 => exact rfl); (case c5 => decide); (case kB => exact locs rfl); (case c2 => exact rfl); (case c3 => exact rfl); (case c4 => exact rfl); k_whole)
            intro g2 L2 h2 FG2 F2 N2 B2 X2 T2
            (try dsimp only)
            (try k_fold)
            iterate 17 walk1
            rename (Fr _ _ _ _) => F3
            rename (News _ _ _ _) => N3
            refine' esc_ok (s := ⟨_, _, _, _, _⟩) B2 F3 X2 N3 T2 ?kA ?kf ?kk ?kh ?kd ?ku ?hl ?hasc ?hb ?ret3 ?bad3
            case kA => exact Around.frames_deeper (Below.stack B2)
            case kf => exact rfl
            case kk => exact rfl
            case kh => first | assumption | exact rfl
            case kd => ktr_room
            case ku => ktr_units
            case hl => simp only [List.length_append, List.length_cons, List.length_nil]; omega
            case hasc => exact asc3 ha2 (by decide) (by decide)
            case hb => simp only [List.length_append, List.length_cons, List.length_nil]; omega
            case ret3 =>
              intro v b e o t1 t2 h9 tk9 hn
              rw [(row_other ah hah).1] at hn
              cases hn
            case bad3 =>
              intro e g9 h9 tk9 hn FG9 R9
              exact raisedWX B2 FG9 R9 N3 (fun p hp => hp) fun h' R => hbad1 _ _ _ _ trivial FG2 R
          case bad =>
            intro o t1 t2 h3 h7 tk7 _ T3 B3 F3 N3 l8
            have X3 := XB.keeps B3.stays
            have P3 := TB.keeps B3.stays
            clear F9 N9 B2 X2 P2
            (try k_lt l8)
            iterate 7 walk1
            refine eq_true (s := ⟨_, _, _, _, _⟩) (by k_dflt ked_read) (by k_dflt ked_read) shaped_fault shaped_fault (by ktr_units) (by simp [PyData.eqv, PyData.eqvAll]) ?_
            rename (Fr _ _ _ _) => F5
            rename (News _ _ _ _) => N5
            obtain ⟨h₁, T₁, F₁, B₁, N₁⟩ := back_to B FG' hf (T1.trans (T2.trans T3)) F5 N5
            exact hret _ _ _ _ _ _ h₁ _ _ ho4 T₁ B₁ F₁ (fun p hp => N₁ p (by
              rcases List.mem_cons.mp hp with rfl | hp
              · k_dflt k_mem
              · rcases List.mem_cons.mp hp with rfl | hp
                · k_dflt k_mem
                · k_dflt k_mem))
        · iterate 7 walk1
          rw [if_neg (by decide +kernel)]
          iterate 1 walk1
          rw [show Str.ofString "'" = S [39] by decide +kernel]
          iterate 11 walk1
          rename (Fr _ _ _ _) => F9
          rename (News _ _ _ _) => N9
          refine told_ok (s := ⟨_, _, _, _, _⟩) (spot := (ah.length : Nat)) (Ok := fun _ _ => False) (Bad := True) B2 F9 X2 N9 P2 (Around.frames_deeper (Below.stack B2)) rfl rfl (by first | assumption | exact rfl) (by ktr_room) (by ktr_units) XB TB (by k_dflt k_mem) ?deedz ?okz ?badz
          case okz => intro v ext h1 h' tk' hb; exact hb.elim
          case deedz =>
            clear hret
            intro A1 A2 env1 outer1 h1 L1 m1 s1 Q1 E1 B1 F1 X1 N1 T1 hA1 hf1 hk1 hh1 hd1 hu1 hok1 hbad1
            obtain ⟨h8, g8, d8, tk8, os8⟩ := s1
            dsimp only at F1 N1 hok1 hbad1
            refine wpAny_call ?_
            k_dflt (refine' kla_code (binds := []) B1 F1 X1 N1 T1 hA1 hf1 hk1 ?k6 ?k7 ?k8 ?k9 ?kB ?_ ?c2 ?c3 ?c4 ?c5; (case k6 => k_mem); (case k7 => exact codeRec_news N1 (by k_mem) (by assumption) (by assumption)); (case k8 => ktr_room); (case k9 => exact rfl); (case c5 => decide); (case kB => exact locs rfl); (case c2 => exact rfl); (case c3 => exact rfl); (case c4 => exact rfl); k_whole)
            intro g2 L2 h2 FG2 F2 N2 B2 X2 T2
            (try dsimp only)
            (try k_fold)
            iterate 17 walk1
            rename (Fr _ _ _ _) => F3
            rename (News _ _ _ _) => N3
            refine' esc_ok (s := ⟨_, _, _, _, _⟩) B2 F3 X2 N3 T2 ?kAz ?kfz ?kkz ?khz ?kdz ?kuz ?hlz ?hascz ?hbz ?ret3z ?bad3z
            case kAz => exact Around.frames_deeper (Below.stack B2)
            case kfz => exact rfl
            case kkz => exact rfl
            case khz => first | assumption | exact rfl
            case kdz => ktr_room
            case kuz => ktr_units
            case hlz => simp only [List.length_append, List.length_cons, List.length_nil]; omega
            case hascz => exact asc3 ha2 (by decide) (by decide)
            case hbz => simp only [List.length_append, List.length_cons, List.length_nil]; omega
            case ret3z =>
              intro v b e o t1 t2 h9 tk9 hn
              rw [(row_other ah hah).2] at hn
              cases hn
            case bad3z =>
              intro e g9 h9 tk9 hn FG9 R9
              exact raisedWX B2 FG9 R9 N3 (fun p hp => hp) fun h' R => hbad1 _ _ _ _ trivial FG2 R
          case badz =>
            intro o t1 t2 h3 h7 tk7 _ T3 B3 F3 N3 l8
            have X3 := XB.keeps B3.stays
            have P3 := TB.keeps B3.stays
            clear F9 N9 B2 X2 P2
            (try k_lt l8)
            iterate 7 walk1
            refine eq_true (s := ⟨_, _, _, _, _⟩) (by k_dflt ked_read) (by k_dflt ked_read) shaped_fault shaped_fault (by ktr_units) (by simp [PyData.eqv, PyData.eqvAll]) ?_
            rename (Fr _ _ _ _) => F5
            rename (News _ _ _ _) => N5
            obtain ⟨h₁, T₁, F₁, B₁, N₁⟩ := back_to B FG' hf (T1.trans (T2.trans T3)) F5 N5
            exact hret _ _ _ _ _ _ h₁ _ _ ho4 T₁ B₁ F₁ (fun p hp => N₁ p (by
              rcases List.mem_cons.mp hp with rfl | hp
              · k_dflt k_mem
              · rcases List.mem_cons.mp hp with rfl | hp
                · k_dflt k_mem
                · k_dflt k_mem))

end
section
theorem off_UpdX : True := by
  w_top off
  trivial
section
variable {d : Addr} {o o' o2 : Obj} {l l' pre post : List (Addr × Obj)}
theorem upd_of (h1 : ∀ p ∈ pre, p.1 ≠ d) (h2 : ∀ p ∈ post, p.1 ≠ d) : Upd d o o' (pre ++ (d, o) :: post) (pre ++ (d, o') :: post) := by
  induction pre with
  | nil => exact Upd.head h2
  | cons a r ih => exact Upd.tail (h1 a (.head _)) (ih fun p hp => h1 p (.tail _ hp))
theorem upd_of_news {g h : Heap} {L : Addr} (N : News g L h l) (U : Upd d o o l l) : Upd d o o l l := U
theorem upd_self (U : Upd d o o' l l') : Upd d o' o' l' l' := by
  obtain ⟨pre, post, rfl, rfl, h1, h2⟩ := U.split
  exact upd_of h1 h2
theorem upd_trans (U : Upd d o o' l l') (o2 : Obj) : ∃ l2, Upd d o' o2 l' l2 ∧ Upd d o o2 l l2 := by
  obtain ⟨pre, post, rfl, rfl, h1, h2⟩ := U.split
  exact ⟨_, upd_of h1 h2, upd_of h1 h2⟩
theorem upd_mem {c : Addr} {x : Obj} (U : Upd d o o' l l') (hm : (c, x) ∈ l) (hne : c ≠ d) : (c, x) ∈ l' := by
  obtain ⟨pre, post, rfl, rfl, h1, h2⟩ := U.split
  rcases List.mem_append.mp hm with h | h
  · exact List.mem_append_left _ h
  · rcases List.mem_cons.mp h with h | h
    · exact absurd (congrArg Prod.fst h) hne
    · exact List.mem_append_right _ (.tail _ h)
theorem upd_there (U : Upd d o o' l l') : (d, o') ∈ l' := by
  obtain ⟨pre, post, rfl, rfl, h1, h2⟩ := U.split
  exact List.mem_append_right _ (.head _)
theorem upd_fun (U : Upd d o o' l l') : ∀ {l2}, Upd d o o' l l2 → l' = l2 := by
  induction U with
  | head h =>
    intro l2 V
    cases V with
    | head _ => rfl
    | tail h' _ => exact absurd rfl h'
  | tail h r ih =>
    intro l2 V
    cases V with
    | head _ => exact absurd rfl h
    | tail _ r' => rw [ih r']
theorem upd_addr (U : Upd d o o' l l') : ∀ p ∈ l', ∃ x, (p.1, x) ∈ l := by
  obtain ⟨pre, post, rfl, rfl, h1, h2⟩ := U.split
  intro p hp
  rcases List.mem_append.mp hp with h | h
  · exact ⟨p.2, List.mem_append_left _ h⟩
  · rcases List.mem_cons.mp h with rfl | h
    · exact ⟨o, List.mem_append_right _ (.head _)⟩
    · exact ⟨p.2, List.mem_append_right _ (.tail _ h)⟩
theorem off3_upd {I C D : Addr} (U : Upd d o o' l l') (h : LCg.Off3 I C D l) : LCg.Off3 I C D l' := LCg.Off3.of fun p hp => by
  obtain ⟨x, hx⟩ := upd_addr U p hp
  exact h.mem (p.1, x) hx
end

end
section
theorem off_FigLaw : True := by
  w_top off
  trivial
inductive Sg (b : Int) : List Int → List Nat → Prop
  | nil : Sg b [] []
  | snoc {ws : List Int} {cs : List Nat} {v : Int} {c : Nat} : Sg b ws cs → 0 ≤ v → v < b → (c = loS v.toNat ∨ c = upS v.toNat) → Sg b (ws ++ [v]) (cs ++ [c])
theorem Sg.len {b : Int} {ws : List Int} {cs : List Nat} (h : Sg b ws cs) : cs.length = ws.length := by
  induction h with
  | nil => rfl
  | snoc _ _ _ _ ih => rw [List.length_append, List.length_append, ih]; rfl
theorem Sg.ascii {b : Int} {ws : List Int} {cs : List Nat} (hb : b ≤ 16) (h : Sg b ws cs) : ∀ c ∈ cs, c < 128 := by
  induction h with
  | nil => intro c hc; cases hc
  | @snoc ws cs v c _ h0 h1 hc ih =>
    intro d hd
    rcases List.mem_append.mp hd with hd | hd
    · exact ih d hd
    · rw [List.mem_singleton.mp hd]
      obtain ⟨k, rfl⟩ := Int.eq_ofNat_of_zero_le h0
      exact (sign_facts k (by omega) c (by simpa using hc)).2.1
theorem Sg.figs {b : Int} {ws : List Int} {cs : List Nat} (hb : b ≤ 16) (h : Sg b ws cs) : figsFrom b cs 0 = some (ws.mapIdx fun i v => v * b ^ ((ws.length : Int) - 1 - (i : Int)).toNat).sum := by
  induction h with
  | nil => rfl
  | @snoc ws cs v c _ h0 h1 hc ih =>
    obtain ⟨k, rfl⟩ := Int.eq_ofNat_of_zero_le h0
    obtain ⟨c1, c2, c3, _, _, _⟩ := sign_facts k (by omega) c (by simpa using hc)
    rw [figsFrom_snoc b c _ _ _ ih (by rw [c3]; exact h1), c3]
    have := horner b ws (k : Int)
    rw [List.length_append, List.length_singleton, this]
theorem figs_none {b : Int} {c : Nat} : ∀ {l : List Nat} (v : Int), c ∈ l → worth c ≥ b → figsFrom b l v = none
  | d :: l, v, hm, hc => by
    rw [figs_step]
    rcases List.mem_cons.mp hm with rfl | hm
    · rw [if_pos hc]
    · split
      · rfl
      · exact figs_none _ hm hc
theorem fig_cut {a n : Nat} {cs : List Nat} : ((List.replicate a 120 ++ cs).drop a).take n = cs.take n := by
  rw [List.drop_left' (List.length_replicate ..)]
theorem fig_good {b : Int} {ws : List Int} {cs : List Nat} {a : Nat} (hb : b ≤ 16) (h : Sg b ws cs) : figRead (List.replicate a 120 ++ cs) a ws.length b = some (ws.mapIdx fun i v => v * b ^ ((ws.length : Int) - 1 - (i : Int)).toNat).sum := by
  unfold figRead
  rw [fig_cut, List.take_of_length_le (by rw [h.len]; exact Nat.le_refl _), h.figs hb]
  dsimp only
  rw [if_neg (by rw [h.len]; omega)]
theorem fig_bad {b : Int} {cs : List Nat} {a n j x : Nat} (hn : cs.length = n) (hj : j < n) (hx : worth x ≥ b) : figRead (List.replicate a 120 ++ cs.set j x) a n b = none := by
  unfold figRead
  rw [fig_cut, List.take_of_length_le (by rw [List.length_set, hn]; exact Nat.le_refl _), figs_none (c := x) 0 (List.mem_iff_getElem.mpr ⟨j, by rw [List.length_set, hn]; exact hj, by simp⟩) hx]
theorem fig_short {b : Int} {cs : List Nat} {a n : Nat} (hn : cs.length < n) : figRead (List.replicate a 120 ++ cs) a n b = none := by
  unfold figRead
  rw [fig_cut, List.take_of_length_le (Nat.le_of_lt hn)]
  split
  · rfl
  · rw [if_pos (by omega)]
theorem pickB {v : Value} {a b c d : Tok} (h : v ∈ [Value.int 2 a, .int 8 b, .int 10 c, .int 16 d]) : ∃ x t, v = Value.int x t ∧ (x = 2 ∨ x = 8 ∨ x = 10 ∨ x = 16) := by
  simp only [List.mem_cons, List.not_mem_nil, or_false] at h
  rcases h with rfl | rfl | rfl | rfl
  · exact ⟨2, _, rfl, .inl rfl⟩
  · exact ⟨8, _, rfl, .inr (.inl rfl)⟩
  · exact ⟨10, _, rfl, .inr (.inr (.inl rfl))⟩
  · exact ⟨16, _, rfl, .inr (.inr (.inr rfl))⟩
def InvW (src : Addr) (o0 : Obj) (N0 : List (Addr × Obj)) (b : Int) (i : Nat) (ys : List Value) (news : List (Addr × Obj)) : Prop :=
  ∃ ws x y tx ty n, ys.length = i ∧ IntsAre ys ws ∧ (∀ v ∈ ws, 0 ≤ v ∧ v < b) ∧ SrcOk x y ∧ Upd src o0 (srcO x y tx ty n) N0 news
def InvS (src : Addr) (o0 : Obj) (N0 : List (Addr × Obj)) (b : Int) (ws : List Int) (i : Nat) (ys : List Value) (news : List (Addr × Obj)) : Prop :=
  ∃ cs x y tx ty n, ys.length = i ∧ StrsAre ys (cs.map fun c => [c]) ∧ Sg b (ws.take i) cs ∧ SrcOk x y ∧ Upd src o0 (srcO x y tx ty n) N0 news
theorem strs_snoc {ys : List Value} {xs : List (List Nat)} {x : Str} {l : List Nat} {t : Tok} (h : StrsAre ys xs) (e : x = S l) : StrsAre (ys ++ [.str x t]) (xs ++ [l]) := by
  induction h with
  | nil => exact .cons e .nil
  | cons e' _ ih => exact .cons e' ih
theorem take_snoc {ws : List Int} {i : Nat} {v : Int} (h : ws[i]? = some v) : ws.take (i + 1) = ws.take i ++ [v] := by
  rw [List.take_add_one]; simp [h]
theorem two_cps2 {a b c : Nat} (h : c ∈ (S [a, b]).cps) : c = a ∨ c = b := by simpa using h
inductive SignEnd (h₀ : Heap) (L : Addr) (m : Str → Option Value) (D2 : Addr) (pre post : List (Addr × Obj)) (src : Addr) (b : Int) (n1 wy : Nat) (cs : List Nat) (s : Shared) : Flow → Shared → Prop
  | mk (zs : List Value) (cs' : List Nat) (c : Nat) (x y : Int) (tx ty : Tok) (n : Nat) (h' : Heap) (tk' : Tok) : Fr h₀ L h' m → News h₀ L h' ((D2, listOf zs.toArray c) :: (pre ++ (src, srcO x y tx ty n) :: post)) → SrcOk x y → StrsAre zs (cs'.map fun c => [c]) → cs'.length = n1 → (∀ c ∈ cs', c < 128) →
      (wy = 0 → ∀ a, figRead (List.replicate a 120 ++ cs') a n1 b = none) → (wy ≠ 0 → cs' = cs) → SignEnd h₀ L m D2 pre post src b n1 wy cs s .next { s with heap := h', toks := tk' }
theorem sign_cut {M : Model} {A : Around} {E : Value → Shared → Prop} {s : Shared} {g : Heap} {L src D2 : Addr} {m : Str → Option Value} {b : Int} {n1 wy : Nat} {cs : List Nat} {p0 : Obj} {p1 p2 p3 p4 p5 p6 p7 : Addr × Obj} {rest : List (Addr × Obj)} {t : Sem Flow} {Q : Flow → Shared → Prop} (F : Fr g L s.heap m) (N : News g L s.heap ((D2, p0) :: p1 :: p2 :: p3 :: p4 :: p5 :: p6 :: p7 :: rest))
    (h1 : wpAny M A t (SignEnd g L m D2 [p1, p2, p3, p4, p5, p6] rest src b n1 wy cs s) E s) (h2 : ∀ fl s', SignEnd g L m D2 [p1, p2, p3, p4, p5, p6] rest src b n1 wy cs s fl s' → Q fl s') : wpAny M A t Q E s := wpAny_mono h1 (fun fl s' h => h2 fl s' h) fun _ _ e => e
theorem if_two {c a b : Prop} [Decidable c] (h1 : c → a) (h2 : ¬ c → b) : if c then a else b := by
  by_cases h : c
  · rw [if_pos h]; exact h1 h
  · rw [if_neg h]; exact h2 h
theorem sign_mk {h₀ : Heap} {L : Addr} {m : Str → Option Value} {D2 : Addr} {p1 p2 p3 p4 p5 p6 : Addr × Obj} {rest : List (Addr × Obj)} {src : Addr} {b : Int} {n1 wy : Nat} {cs : List Nat} {s : Shared} {zs : List Value} {cs' : List Nat} {c : Nat} {x y : Int} {tx ty : Tok} {n : Nat} {h' : Heap} {tk' : Tok}
    (F : Fr h₀ L h' m) (N : News h₀ L h' ((D2, listOf zs.toArray c) :: p1 :: p2 :: p3 :: p4 :: p5 :: p6 :: (src, srcO x y tx ty n) :: rest)) (ho : SrcOk x y) (hS : StrsAre zs (cs'.map fun c => [c])) (hl : cs'.length = n1) (ha : ∀ c ∈ cs', c < 128)
    (h0 : wy = 0 → ∀ a, figRead (List.replicate a 120 ++ cs') a n1 b = none) (h1 : wy ≠ 0 → cs' = cs) : SignEnd h₀ L m D2 [p1, p2, p3, p4, p5, p6] rest src b n1 wy cs s .next { s with heap := h', toks := tk' } :=
  .mk zs cs' c x y tx ty n h' tk' F N ho hS hl ha h0 h1
theorem ki_setL_some : ∀ {l : List Value} {k : Nat} {v : Value}, k < l.length → ki_setL l k v = some (l.set k v)
  | x :: r, 0, v, _ => rfl
  | x :: r, k + 1, v, h => by
    unfold ki_setL
    rw [ki_setL_some (l := r) (by simpa using h)]
    rfl
theorem strs_set {zs : List Value} {cs : List Nat} {t : Tok} {x : Nat} (h : StrsAre zs (cs.map fun c => [c])) (k : Nat) : StrsAre (zs.set k (.str (S [x]) t)) ((cs.set k x).map fun c => [c]) := by
  induction cs generalizing zs k with
  | nil => cases h; exact .nil
  | cons c r ih =>
    cases h with
    | cons e h =>
      cases k with
      | zero => exact .cons rfl h
      | succ k => exact .cons e (ih h k)
theorem strs_len {zs : List Value} {cs : List Nat} (h : StrsAre zs (cs.map fun c => [c])) : zs.length = cs.length := by
  induction cs generalizing zs with
  | nil => cases h; rfl
  | cons c r ih => cases h with | cons e h => rw [List.length_cons, List.length_cons, ih h]
theorem ascii_set {cs : List Nat} {k x : Nat} (h : ∀ c ∈ cs, c < 128) (hx : x < 128) : ∀ c ∈ cs.set k x, c < 128 := fun c hc => by
  rcases List.mem_or_eq_of_mem_set hc with h' | rfl
  · exact h c h'
  · exact hx
inductive TextEnd (h₀ : Heap) (L : Addr) (m : Str → Option Value) (p1 p2 : Addr × Obj) (ct : Addr) (rest : List (Addr × Obj)) (b : Int) (n1 wy a : Nat) (cs : List Nat) (s : Shared) : Flow → Shared → Prop
  | mk (l : List Nat) (o : Obj) (t : Tok) (h' : Heap) (tk' : Tok) : Fr h₀ L h' m → News h₀ L h' (p1 :: p2 :: (ct, o) :: rest) → o.data = .cell (some (.str (S l) t)) → l.length ≤ 20 → (∀ c ∈ l, c < 128) → (wy < 2 → figRead l a n1 b = none) → (¬ wy < 2 → l = List.replicate a 120 ++ cs) →
      TextEnd h₀ L m p1 p2 ct rest b n1 wy a cs s .next { s with heap := h', toks := tk' }
theorem text_cut {M : Model} {A : Around} {E : Value → Shared → Prop} {s : Shared} {g : Heap} {L ct : Addr} {m : Str → Option Value} {b : Int} {n1 wy a : Nat} {cs : List Nat} {o : Obj} {p1 p2 : Addr × Obj} {rest : List (Addr × Obj)} {t : Sem Flow} {Q : Flow → Shared → Prop} (F : Fr g L s.heap m) (N : News g L s.heap (p1 :: p2 :: (ct, o) :: rest))
    (h1 : wpAny M A t (TextEnd g L m p1 p2 ct rest b n1 wy a cs s) E s) (h2 : ∀ fl s', TextEnd g L m p1 p2 ct rest b n1 wy a cs s fl s' → Q fl s') : wpAny M A t Q E s := wpAny_mono h1 (fun fl s' h => h2 fl s' h) fun _ _ e => e
theorem kit_strs {zs : List Value} {cs : List Nat} (h : StrsAre zs (cs.map fun c => [c])) : PyProof.Rows.StrsAre zs (signs (S cs)) := by
  show PyProof.Rows.StrsAre zs (cs.map fun n => (⟨#[n]⟩ : Str))
  induction cs generalizing zs with
  | nil => cases h; exact .nil
  | cons c r ih =>
    cases h with
    | cons e h =>
      subst e
      exact .cons _ _ (ih h)
theorem strs_take {zs : List Value} {cs : List Nat} (h : StrsAre zs (cs.map fun c => [c])) (k : Nat) : StrsAre (zs.take k) ((cs.take k).map fun c => [c]) := by
  induction cs generalizing zs k with
  | nil => cases h; simp; exact .nil
  | cons c r ih =>
    cases h with
    | cons e h =>
      cases k with
      | zero => exact .nil
      | succ k => exact .cons e (ih h k)
section
variable {prog : Program} {w : World} {A : Around} {E : Value → Shared → Prop} {s : Shared} {t : Tok} {Q : Value → Shared → Prop}
theorem join_S {D : Addr} {zs : List Value} {cs : List Nat} (hl : s.heap.IsList D zs.toArray) (hS : StrsAre zs (cs.map fun c => [c])) (hc : cs.length ≤ 1000) (h : ∀ t' k, Q (.str (S cs) t') { s with toks := k }) :
    wpAny (model prog w) A (call (.builtin "str.join") [.str (Str.ofString "") t, .ref D]) Q E s := by
  refine join_list (ys := signs (S cs)) hl (by rw [List.toList_toArray]; exact kit_strs hS) ?_ ?_
  · rw [show (Str.ofString "").length = 0 by decide +kernel, Nat.mul_zero]
    have : ∀ l : List Nat, ((l.map fun n => (⟨#[n]⟩ : Str)).map (·.length)).sum = l.length := by
      intro l
      induction l with
      | nil => rfl
      | cons c r ih => rw [List.map_cons, List.map_cons, List.sum_cons, ih, List.length_cons]; show 1 + r.length = _; omega
    show ((cs.map fun n => (⟨#[n]⟩ : Str)).map (·.length)).sum + 0 ≤ _
    rw [this]; omega
  · intro t' k
    rw [show Txt.join (Str.ofString "") (signs (S cs)) = S cs from by
      rw [show Str.ofString "" = (⟨#[]⟩ : Str) by decide +kernel]; exact (eq_of_beq (join_closes rfl)).trans (join_nil_signs (S cs))]
    exact h t' k
theorem mul_x {a : Nat} (ha : a < 3) : Txt.mul (Str.ofString "x") (a : Int) = S (List.replicate a 120) := by
  have : ∀ a < 3, Txt.mul (Str.ofString "x") ((a : Nat) : Int) = S (List.replicate a 120) := by decide +kernel
  exact this a ha
end
theorem pick_upto (zs : List Value) (k : Nat) : slicePick zs.toArray none (some (k : Int)) none = (zs.take k).toArray := by
  have e : sliceBounds none (some (k : Int)) none zs.toArray.size = (((0 : Nat) : Int), ((min k zs.toArray.size : Nat) : Int), 1) := by
    simp only [sliceBounds, Option.getD_none, show (1 : Int) > 0 by decide, if_true, if_neg (show ¬ ((k : Int) < 0) by omega)]
    congr 1
    congr 1
    omega
  rw [kmk_pick_nat _ e, List.toList_toArray, List.drop_zero, Nat.sub_zero, List.size_toArray, kmk_take_min]
theorem asc_x (a : Nat) : ∀ c ∈ List.replicate a 120, c < 128 := fun c hc => by
  rw [(List.mem_replicate.mp hc).2]; decide
theorem asc2 {a b : List Nat} (h1 : ∀ x ∈ a, x < 128) (h2 : ∀ x ∈ b, x < 128) : ∀ x ∈ a ++ b, x < 128 := fun x hx => (List.mem_append.mp hx).elim (h1 x) (h2 x)

end
section
local macro_rules | `(tactic| walk_at "pad 0") => `(tactic| fail)
theorem off_FiguresRight : True := by
  w_top off
  trivial
theorem figures_right_ok {w : World} {p : Program} {loose : List Str} {mean : ExcName → Option Value} {mg mb : Str → Option Value} {A A₀ : Around} {env : Env} {outer : List Env} {base h₀ : Heap} {L : Addr} {m : Str → Option Value} {s : Shared} {Q E : Value → Shared → Prop} {rest : List (Addr × Obj)} {src : Addr} {x y : Int} {tx ty : Tok} {n : Nat}
   (B : Below A₀ base outer h₀) (F : Fr h₀ L s.heap m) (X : (Mine.frag.heap_1 w.params).In h₀) (N : News h₀ L s.heap ((src, srcO x y tx ty n) :: (167, tabObj #[]) :: rest)) (T : Top p loose mean mg mb h₀) (hA : A.frames = some (env :: outer)) (hf : env.frame = some L) (hke : env.scope.kind = .function) (hh : A.handled = none) (hd : A.depth + 14 < recursionLimit) (hu : A.units + 260 < cLine) (XB : (Mine.frag.heap_1 w.params).In base) (TB : Top p loose mean mg mb base) (CB : CodeHd base 169 167)
   (hr : ∀ p ∈ rest, p.1 ≠ src) (hr2 : ∀ p ∈ rest, p.1 ≠ 167) (hs : @LT.lt Nat _ 172 src) (ho : SrcOk x y)
   (hret : ∀ x y tx ty n ps h₁ h' tk', SrcOk x y → KtsTurn (outer.filterMap (·.frame)) h₀ h₁ → Below A₀ base outer h₁ → Fr h₁ L h' m → News h₁ L h' ((src, srcO x y tx ty n) :: (167, tabObj ps) :: rest) → Q (.bool true) {s with heap := h', toks := tk'}) :
   wpAny (model PR w) A (call (.ref 170) [.ref src]) Q E s := by
  refine wpAny_call ?_
  k_dflt (refine' code_defCU (binds := [("source", .ref src)]) ?k1 ?k2 ?k3 ?k4 ?k5 hA hf hke ?k6 ?k7 ?k8 ?k9 ?kB ?kD ?_ ?c2 ?c3 ?c4; (case k1 => k_asm); (case k2 => k_asm); (case k3 => k_asm); (case k4 => k_asm); (case k5 => k_asm); (case k6 => k_is); (case k7 => k_is); (case k8 => ktr_room); (case k9 => exact BindsTo.of_eq rfl); (case kB => exact rfl); (case kD => decide +kernel); (case c2 => exact rfl); (case c3 => exact rfl); (case c4 => exact rfl); k_whole; intro g' L' h' tk' cells' FG' F' N' Y' B' X' T' l1; (try k_lt l1); k_cells Y'; (try simp only [List.cons_append, List.nil_append] at N'); (try dsimp only); (try k_fold))
  have rr : ∀ c : Addr, L' < c → ∀ p ∈ rest, p.1 ≠ c := fun c hc p hp => Nat.ne_of_lt (Nat.lt_trans (ktn_ltOf l1.2.2 p hp) hc)
  have r1 := rr (L' + 1) (Nat.lt_succ_self _)
  have r2 := rr (L' + 1 + 1) (Nat.lt_succ_of_lt (Nat.lt_succ_self _))
  have r3 := rr (L' + 1 + 1 + 1) (Nat.lt_succ_of_lt (Nat.lt_succ_of_lt (Nat.lt_succ_self _)))
  have r4 := rr (L' + 1 + 1 + 1 + 1) (Nat.lt_succ_of_lt (Nat.lt_succ_of_lt (Nat.lt_succ_of_lt (Nat.lt_succ_self _))))
  have r5 := rr (L' + 1 + 1 + 1 + 1 + 1) (Nat.lt_succ_of_lt (Nat.lt_succ_of_lt (Nat.lt_succ_of_lt (Nat.lt_succ_of_lt (Nat.lt_succ_self _)))))
  clear rr
  iterate 24 walk1
  rename (_ ∈ (Value.int _ _ :: _)) => hvb
  obtain ⟨b, tb, rfl, hb⟩ := pickB hvb
  clear hvb
  iterate 38 walk1
  have hbb : 2 ≤ b ∧ b ≤ 16 := by rcases hb with rfl | rfl | rfl | rfl <;> decide
  rename (0 ≤ _) => qa
  obtain ⟨a, rfl⟩ := Int.eq_ofNat_of_zero_le qa
  clear qa
  rename (0 ≤ _) => qn
  obtain ⟨n1, rfl⟩ := Int.eq_ofNat_of_zero_le qn
  clear qn
  rename (News _ _ _ _) => N8
  have N7 := fun p hp => N8 p (.tail _ (.tail _ hp))
  change News _ _ _ _ at N7
  clear N8
  rename (SrcOk _ _) => ho3
  iterate 1 walk1
  rename (Fr _ _ _ _) => F9
  refine LCg.Assign_ListComp_U (F₀ := F9) (by rfl) (by with_unfolding_all rfl) (by with_unfolding_all rfl) (by decide) (by rfl) (by decide) (by rfl) (by rfl) (by rfl) ?_
  iterate 6 walk1
  rename (Fr _ _ _ _) => F9
  rename (News _ _ _ _) => N9
  refine range1_rows (s := ⟨_, _, _, _, _⟩) F9 N9 ?_
  intro h6 tk6 t61 t62 t63 R6 F6 N6 k6
  clear F9 N9
  refine LCg.CompSrc.range (n := 1 + n1) (by first | assumption | exact rfl) F6 N6 R6 ?sm ?rs ?sz fun g => ?_
  case sm => exact small_one (by omega) (by omega) (by omega) (by omega)
  case rs => exact (rangeSize_nat 0 _).trans (by omega)
  case sz => rw [sizeLine_eq]; omega
  have U0 := upd_of_news (d := src) N6 (by k_upd)
  refine rest_ind (InvW src _ _ b) ?turn ?fin _ 0 [] _ (Nat.zero_add _) ⟨[], _, _, _, _, _, rfl, .nil, fun v hv => (by cases hv), ho3, U0⟩
  case turn =>
    clear R6 F6 N6 k6
    rintro i ys news v I oI C oC D m₂ h tk E' hi ⟨ws, x, y, tx, ty, n, hlen, hI, hw, ho, U⟩ ⟨t, rfl⟩ hC h1 F1 N1 off ne
    have m1 := upd_mem (c := L' + 1) U (by k_dflt k_mem) (by k_ne)
    have m3 := upd_mem (c := L' + 1 + 1 + 1) U (by k_dflt k_mem) (by k_ne)
    have offs := off.mem _ (upd_there U)
    iterate 10 walk1
    rename (Fr _ _ _ _) => F2
    rename (News _ _ _ _) => N2
    have U3 := upd_self U
    refine' take_use (s := ⟨_, _, _, _, _⟩) B' F2 X' N2 T' ?kA ?kf ?kk ?kh ?kd ?ku ?e1 ho ?e2 ?e3 ?_
    case kA => exact Around.frames_deeper (Below.stack B')
    case kf => exact rfl
    case kk => exact rfl
    case kh => first | assumption | exact rfl
    case kd => ktr_room
    case ku => ktr_units
    case e1 => exact Upd.tail (Ne.symm offs.1) (Upd.tail (Ne.symm offs.2.1) (Upd.tail (Ne.symm offs.2.2) U3))
    case e2 => omega
    case e3 => omega
    intro r' x' y' tr' tx' ty' n' h' tk' hr1 hr2 ho' F3 NU
    obtain ⟨l2, V1, V2⟩ := upd_trans U (srcO x' y' tx' ty' n')
    have N3 := NU _ (Upd.tail (Ne.symm offs.1) (Upd.tail (Ne.symm offs.2.1) (Upd.tail (Ne.symm offs.2.2) V1)))
    refine ⟨h', tk', l2, rfl, F3, N3, off3_upd V1 off, trivial, ws ++ [r'], x', y', tx', ty', n', by simp [hlen], IntsAre.append hI (.cons _ _ .nil), fun z hz => ?_, ho', V2⟩
    rcases List.mem_append.mp hz with hz | hz
    · exact hw z hz
    · rw [List.mem_singleton.mp hz]; exact ⟨hr1, hr2⟩
  case fin =>
    rintro ys news ⟨ws, x, y, tx, ty, n, hlen, hI, hw, ho, U⟩ D h tk F1 N1 off
    obtain rfl := upd_fun U (by k_upd)
    clear U0 k6 R6 F6 N6
    have hlenw : ws.length = 1 + n1 := by rw [← hI.length]; exact hlen
    have hDs : @Ne Nat src D := off1_mem off (src, _) (by k_dflt k_mem)
    have hD1 : @Ne Nat (L' + 1) D := off1_mem off (L' + 1, _) (by k_dflt k_mem)
    have hD2 : @Ne Nat (L' + 1 + 1) D := off1_mem off (L' + 1 + 1, _) (by k_dflt k_mem)
    have hD3 : @Ne Nat (L' + 1 + 1 + 1) D := off1_mem off (L' + 1 + 1 + 1, _) (by k_dflt k_mem)
    have hD4 : @Ne Nat (L' + 1 + 1 + 1 + 1) D := off1_mem off (L' + 1 + 1 + 1 + 1, _) (by k_dflt k_mem)
    have hD5 : @Ne Nat (L' + 1 + 1 + 1 + 1 + 1) D := off1_mem off (L' + 1 + 1 + 1 + 1 + 1, _) (by k_dflt k_mem)
    have hD7 : @Ne Nat 167 D := off1_mem off (167, _) (by k_dflt k_mem)
    have hDr : ∀ p ∈ rest, p.1 ≠ D := fun p hp => off1_mem off p (by k_dflt k_mem)
    clear off
    iterate 1 walk1
    rename (Fr _ _ _ _) => F9
    rename (News _ _ _ _) => N9
    refine LCg.Assign_ListComp_U (F₀ := F9) (by rfl) (by with_unfolding_all rfl) (by with_unfolding_all rfl) (by decide) (by rfl) (by decide) (by rfl) (by rfl) (by rfl) ?_
    iterate 1 walk1
    have hsz : ys.length ≤ sizeLine := by rw [hlen, sizeLine_eq]; omega
    have U0 := upd_of_news (d := src) N9 (by k_upd)
    refine LCg.CompSrc.ledger (its := ys.toArray) (by first | assumption | exact rfl) F9 N9 (by k_dflt k_mem) (by simpa using hsz) fun g => ?_
    refine rest_ind (n := ys.toArray.size) (InvS src _ _ b ws) ?turn2 ?fin2 _ 0 [] _ (Nat.zero_add _) ⟨[], _, _, _, _, _, rfl, .nil, .nil, ho, U0⟩
    case turn2 =>
      rintro i zs news v I oI C oC D2 m₂ h tk E' hi ⟨cs, x, y, tx, ty, n, hlen2, hS, hG, ho, U⟩ hP hC h1 F1 N1 off ne
      obtain ⟨z, tz, rfl, hwz⟩ := ints_at hI (i := i) (by simpa using hP)
      obtain ⟨hz0, hz1⟩ := hw z (List.mem_of_getElem? hwz)
      obtain ⟨k, rfl⟩ := Int.eq_ofNat_of_zero_le hz0
      have m1 := upd_mem (c := L' + 1) U (by k_dflt k_mem) (by k_ne)
      have m9 := upd_mem (c := D) (x := LCg.lst ys) U (by k_dflt k_mem) (Ne.symm hDs)
      have offs := off.mem _ (upd_there U)
      iterate 14 walk1
      rename (Fr _ _ _ _) => F2
      rename (News _ _ _ _) => N2
      refine' sign_ok (s := ⟨_, _, _, _, _⟩) (v := k) B' F2 X' N2 T' ?kA2 ?kf2 ?kk2 ?kh2 ?kd2 ?ku2 ?hv2 ?_
      case kA2 => exact Around.frames_deeper (Below.stack B')
      case kf2 => exact rfl
      case kk2 => exact rfl
      case kh2 => first | assumption | exact rfl
      case kd2 => ktr_room
      case ku2 => ktr_units
      case hv2 => omega
      intro t5 h5 tk5 F3 N3
      clear F2 N2
      iterate 2 walk1
      rename (Fr _ _ _ _) => F2
      rename (News _ _ _ _) => N2
      have U3 := upd_self U
      refine' one_use_str (s := ⟨_, _, _, _, _⟩) B' F2 X' N2 T' ?kA3 ?kf3 ?kk3 ?kh3 ?kd3 ?ku3 ?e13 ho ?e53 ?e63 ?_
      case kA3 => exact Around.frames_deeper (Below.stack B')
      case kf3 => exact rfl
      case kk3 => exact rfl
      case kh3 => first | assumption | exact rfl
      case kd3 => ktr_room
      case ku3 => ktr_units
      case e13 => exact Upd.tail (Ne.symm offs.1) (Upd.tail (Ne.symm offs.2.1) (Upd.tail (Ne.symm offs.2.2) U3))
      case e53 => simp [S_len]
      case e63 => simp [S_len]
      intro c' t6 x' y' tx' ty' n' h6 tk6 hc ho' F4 NU
      obtain ⟨l2, V1, V2⟩ := upd_trans U (srcO x' y' tx' ty' n')
      have N4 := NU _ (Upd.tail (Ne.symm offs.1) (Upd.tail (Ne.symm offs.2.1) (Upd.tail (Ne.symm offs.2.2) V1)))
      refine ⟨h6, tk6, l2, rfl, F4, N4, off3_upd V1 off, .inr ⟨LCg.lst ys, upd_mem V2 (by k_dflt k_mem) (Ne.symm hDs), rfl, _, rfl⟩, cs ++ [c'], x', y', tx', ty', n', by simp [hlen2], ?_, ?_, ho', V2⟩
      · rw [List.map_append]; exact strs_snoc hS rfl
      · rw [take_snoc hwz]; exact .snoc hG hz0 hz1 (by simpa using two_cps2 hc)
    case fin2 =>
      rintro zs news ⟨cs, x, y, tx, ty, n, hlen2, hS, hG, ho, U⟩ D2 h tk F1 N1 off
      obtain rfl := upd_fun U (by k_upd)
      clear U0 F9 N9
      rw [List.size_toArray, List.take_of_length_le (by rw [hI.length]; exact Nat.le_refl _)] at hG
      have hEs : @Ne Nat src D2 := off1_mem off (src, _) (by k_dflt k_mem)
      have hE0 : @Ne Nat D D2 := off1_mem off (D, _) (by k_dflt k_mem)
      have hE1 : @Ne Nat (L' + 1) D2 := off1_mem off (L' + 1, _) (by k_dflt k_mem)
      have hE2 : @Ne Nat (L' + 1 + 1) D2 := off1_mem off (L' + 1 + 1, _) (by k_dflt k_mem)
      have hE3 : @Ne Nat (L' + 1 + 1 + 1) D2 := off1_mem off (L' + 1 + 1 + 1, _) (by k_dflt k_mem)
      have hE4 : @Ne Nat (L' + 1 + 1 + 1 + 1) D2 := off1_mem off (L' + 1 + 1 + 1 + 1, _) (by k_dflt k_mem)
      have hE5 : @Ne Nat (L' + 1 + 1 + 1 + 1 + 1) D2 := off1_mem off (L' + 1 + 1 + 1 + 1 + 1, _) (by k_dflt k_mem)
      have hE7 : @Ne Nat 167 D2 := off1_mem off (167, _) (by k_dflt k_mem)
      have hEr : ∀ p ∈ rest, p.1 ≠ D2 := fun p hp => off1_mem off p (by k_dflt k_mem)
      clear off
      iterate 14 walk1
      rename (0 ≤ _) => qw
      obtain ⟨wy, rfl⟩ := Int.eq_ofNat_of_zero_le qw
      clear qw
      iterate 1 walk1
      rename (Fr _ _ _ _) => F9
      rename (News _ _ _ _) => N9
      rename (SrcOk _ _) => ho5
      have hcl : cs.length = 1 + n1 := by rw [hG.len]; exact hlenw
      refine sign_cut (src := src) (b := b) (n1 := 1 + n1) (wy := wy) (cs := cs) (s := ⟨_, _, _, _, _⟩) F9 N9 ?ifw ?rst
      case ifw =>
        clear hret
        iterate 6 walk1
        refine if_two (fun hwy => ?_) (fun hwy => ?_)
        · iterate 23 walk1
          refine if_two (fun hb9 => ?_) (fun hb9 => ?_)
          · have hb10 : b ≤ 10 := by
              have hb8 : b < 16 := by simpa using hb9
              rcases hb with h | h | h | h <;> omega
            iterate 8 walk1
            rename (Fr _ _ _ _) => F8
            rename (News _ _ _ _) => N8
            refine' sign_ok (s := ⟨_, _, _, _, _⟩) (v := 15) B' F8 X' N8 T' ?kA5 ?kf5 ?kk5 ?kh5 ?kd5 ?ku5 (by decide) ?_
            case kA5 => exact Around.frames_deeper (Below.stack B')
            case kf5 => exact rfl
            case kk5 => exact rfl
            case kh5 => first | assumption | exact rfl
            case kd5 => ktr_room
            case ku5 => ktr_units
            intro t5 h5 tk5 F5 N5
            clear F8 N8
            iterate 3 walk1
            iterate 16 walk1
            rename (_ ∈ (Value.str _ _ :: _)) => hvc
            obtain ⟨xl, tx9, rfl, hx9⟩ := pickS (xs := [[103], [95], [32], [102]]) (by repeat first | exact .nil | refine .cons (by first | rfl | decide +kernel) ?_) hvc
            clear hvc
            obtain ⟨xc, rfl, hxc⟩ : ∃ c, xl = [c] ∧ (c = 103 ∨ c = 95 ∨ c = 32 ∨ c = 102) := by
              simp only [List.mem_cons, List.not_mem_nil, or_false] at hx9
              rcases hx9 with rfl | rfl | rfl | rfl
              · exact ⟨_, rfl, .inl rfl⟩
              · exact ⟨_, rfl, .inr (.inl rfl)⟩
              · exact ⟨_, rfl, .inr (.inr (.inl rfl))⟩
              · exact ⟨_, rfl, .inr (.inr (.inr rfl))⟩
            have hxw : worth xc ≥ b ∧ xc < 128 := by
              rcases hxc with rfl | rfl | rfl | rfl
              · exact ⟨by rw [show worth 103 = 99 by decide]; omega, by decide⟩
              · exact ⟨by rw [show worth 95 = 99 by decide]; omega, by decide⟩
              · exact ⟨by rw [show worth 32 = 99 by decide]; omega, by decide⟩
              · exact ⟨by rw [show worth 102 = 15 by decide]; omega, by decide⟩
            rename (0 ≤ _) => qk
            obtain ⟨kk, rfl⟩ := Int.eq_ofNat_of_zero_le qk
            clear qk
            rename (Fr _ _ _ _) => F8
            rename (News _ _ _ _) => N8
            rename (SrcOk _ _) => ho8
            have hzl := strs_len hS
            refine' ki_set (s := ⟨_, _, _, _, _⟩) (q := zs.set kk (.str (S [xc]) tx9)) F8 N8 ?h07 ?hf7 ?he7 ?hU7 ?_
            case h07 => omega
            case hf7 => omega
            case he7 => rw [Int.toNat_natCast, List.toList_toArray]; exact ki_setL_some (by omega)
            case hU7 => k_upd
            intro h5 F5 N5
            clear F8 N8
            iterate 2 walk1
            exact sign_mk F5 (fun p hp => N5 p (.tail _ hp)) ho8 (strs_set hS kk) (by rw [List.length_set]; exact hcl) (ascii_set (hG.ascii hbb.2) hxw.2) (fun _ a => fig_bad hcl (by omega) hxw.1) (fun h => absurd (by simpa using hwy) h)
          · have hb16 : b ≤ 16 := hbb.2
            iterate 17 walk1
            rename (_ ∈ (Value.str _ _ :: _)) => hvc
            obtain ⟨xl, tx9, rfl, hx9⟩ := pickS (xs := [[103], [95], [32], [122]]) (by repeat first | exact .nil | refine .cons (by first | rfl | decide +kernel) ?_) hvc
            clear hvc
            obtain ⟨xc, rfl, hxc⟩ : ∃ c, xl = [c] ∧ (c = 103 ∨ c = 95 ∨ c = 32 ∨ c = 122) := by
              simp only [List.mem_cons, List.not_mem_nil, or_false] at hx9
              rcases hx9 with rfl | rfl | rfl | rfl
              · exact ⟨_, rfl, .inl rfl⟩
              · exact ⟨_, rfl, .inr (.inl rfl)⟩
              · exact ⟨_, rfl, .inr (.inr (.inl rfl))⟩
              · exact ⟨_, rfl, .inr (.inr (.inr rfl))⟩
            have hxw : worth xc ≥ b ∧ xc < 128 := by
              rcases hxc with rfl | rfl | rfl | rfl <;> exact ⟨by rw [show worth _ = 99 by decide]; omega, by decide⟩
            rename (0 ≤ _) => qk
            obtain ⟨kk, rfl⟩ := Int.eq_ofNat_of_zero_le qk
            clear qk
            rename (Fr _ _ _ _) => F8
            rename (News _ _ _ _) => N8
            rename (SrcOk _ _) => ho8
            have hzl := strs_len hS
            refine' ki_set (s := ⟨_, _, _, _, _⟩) (q := zs.set kk (.str (S [xc]) tx9)) F8 N8 ?h06 ?hf6 ?he6 ?hU6 ?_
            case h06 => omega
            case hf6 => omega
            case he6 => rw [Int.toNat_natCast, List.toList_toArray]; exact ki_setL_some (by omega)
            case hU6 => k_upd
            intro h5 F5 N5
            clear F8 N8
            iterate 2 walk1
            exact sign_mk F5 (fun p hp => N5 p (.tail _ hp)) ho8 (strs_set hS kk) (by rw [List.length_set]; exact hcl) (ascii_set (hG.ascii hbb.2) hxw.2) (fun _ a => fig_bad hcl (by omega) hxw.1) (fun h => absurd (by simpa using hwy) h)
        · iterate 2 walk1
          exact sign_mk F9 N9 ho5 hS hcl (hG.ascii hbb.2) (fun h => absurd (by simpa using h) hwy) fun _ => rfl
      rintro fl9 s9 ⟨zs2, cs2, c2, x2, y2, tx2, ty2, n2, h9, tk9, F2, N2, ho6, hS2, hc2, hasc2, hz2, he2⟩
      simp only [List.cons_append, List.nil_append] at N2
      clear F9 N9
      iterate 1 walk1
      rename (Fr _ _ _ _) => F9
      rename (News _ _ _ _) => N9
      refine text_cut (b := b) (n1 := 1 + n1) (wy := wy) (a := a) (cs := cs) (s := ⟨_, _, _, _, _⟩) F9 N9 ?txw ?txr
      case txw =>
        clear hret
        iterate 17 walk1
        refine if_two (fun hwz => ?_) (fun hwz => ?_)
        · have hw1 : wy = 1 := by
            have : (wy : Int) = 1 := by simpa using hwz
            omega
          have hcs := he2 (by omega)
          have hlx : (List.replicate a 120).length + (cs2.take n1).length ≤ 10000 := by rw [List.length_replicate, List.length_take]; omega
          iterate 10 walk1
          rename (Fr _ _ _ _) => F9
          rename (News _ _ _ _) => N9
          have hzs : zs2.toArray.size ≤ sizeLine := by rw [List.size_toArray, strs_len hS2, sizeLine_eq]; omega
          refine slice_list (s := ⟨_, _, _, _, _⟩) F9 N9 (News.isList N9 (by k_dflt k_mem)) .none (.int _ _) ?_ (hsz := hzs)
          intro h5 F5 N5
          rw [show (1 + (n1 : Int) - 1) = ((n1 : Nat) : Int) by omega, pick_upto] at N5
          iterate 1 walk1
          refine join_S (s := ⟨_, _, _, _, _⟩) (News.isList N5 (.head _)) (strs_take hS2 n1) (by rw [List.length_take]; omega) ?_
          intro t5 k5
          have N6 := fun p hp => N5 p (.tail _ hp)
          change News _ _ _ _ at N6
          clear N5 F9 N9
          rw [mul_x (by omega)]
          iterate 2 walk1
          rename (Fr _ _ _ _) => F8
          rename (News _ _ _ _) => N8
          exact .mk _ _ _ _ _ F8 N8 (by assumption) (by rw [List.length_append, List.length_replicate, List.length_take]; omega) (asc2 (asc_x a) fun c hc => hasc2 c (List.mem_of_mem_take hc)) (fun h => fig_short (by rw [List.length_take]; omega)) (fun h => absurd (by omega) h)
        · iterate 2 walk1
          rename (Fr _ _ _ _) => F9
          rename (News _ _ _ _) => N9
          refine join_S (s := ⟨_, _, _, _, _⟩) (News.isList N9 (by k_dflt k_mem)) hS2 (by omega) ?_
          intro t5 k5
          rw [mul_x (by omega)]
          have hlx : (List.replicate a 120).length + cs2.length ≤ 10000 := by rw [List.length_replicate]; omega
          iterate 2 walk1
          rename (Fr _ _ _ _) => F8
          rename (News _ _ _ _) => N8
          refine .mk _ _ _ _ _ F8 N8 (by assumption) (by rw [List.length_append, List.length_replicate]; omega) (asc2 (asc_x a) hasc2) (fun h => ?_) (fun h => by rw [he2 (by omega)])
          have : wy = 0 := by
            have : (wy : Int) ≠ 1 := by simpa using hwz
            omega
          exact hz2 this a
      rintro fl8 s8 ⟨l, ox, tl, h8, tk8, F4, N4, dx, hl20, hla, hlf, hlg⟩
      clear F9 N9
      iterate 6 walk1
      rename (Fr _ _ _ _) => F5
      rename (News _ _ _ _) => N5
      refine enum_comp (s := ⟨_, _, _, _, _⟩) (f := fun i v => v * b ^ ((ws.length : Int) - 1 - (i : Int)).toNat) F5 N5 (by k_dflt k_mem) hI (by omega) (by assumption) (by with_unfolding_all rfl) (by decide) (by rfl) (by decide) (by rfl) (by rfl) (by decide) ?z1 ?z2 ?z3
      case z1 =>
        intro Q' hq
        iterate 6 walk1
        exact hq
      case z2 =>
        intro i v t u C m₂ s' Q' E' hv hC h1 h2 F8 N8 hq
        have hi := (List.getElem?_eq_some_iff.mp hv).1
        have hv2 := hw v (List.mem_of_getElem? hv)
        refine' elt_eval (n' := (ws.length : Int)) N8 hC h1 h2 ?y1 ?y2 ?y3 ?y4 ?y5 ?y6 ?y7 ?y8 ?y9 ?y10 ?y11 hq (by rfl) (by rfl) (by rfl) (by rfl) (by rfl) (by rfl) (by rfl) (by decide) (by decide) (by decide) (by decide)
        case y1 => k_dflt k_mem
        case y3 => k_dflt k_mem
        case y2 => assumption
        case y4 => assumption
        all_goals omega
      case z3 =>
        intro D9 ys9 h9 tk9 hD9 F8 N8 hlt9
        clear F5 N5
        iterate 2 walk1
        refine LSm.sum_ints (s := ⟨_, _, _, _, _⟩) F8 N8 (by assumption) ?l1 hD9 ?_
        case l1 => exact News.isList N8 (.head _)
        intro h5 tk5 t5 F7 N7
        clear F8 N8
        have N6 := fun p hp => N7 p (.tail _ hp)
        change News _ _ _ _ at N6
        clear N7
        iterate 12 walk1
        rename (Fr _ _ _ _) => F9
        rename (News _ _ _ _) => N9
        refine told_ok (s := ⟨_, _, _, _, _⟩) (spot := 70) (Ok := FigOkV l a (1 + n1) b) (Bad := figRead l a (1 + n1) b = none) B' F9 X' N9 T' (Around.frames_deeper (Below.stack B')) rfl rfl (by first | assumption | exact rfl) (by ktr_room) (by ktr_units) XB TB (by k_dflt k_mem) ?deed ?ok ?bad
        case deed =>
          clear hret
          intro A1 A2 env1 outer1 h1 L1 m1 s1 Q1 E1 B1 F1 X1 N1 T1 hA1 hf1 hk1 hh1 hd1 hu1 hok1 hbad1
          obtain ⟨h8, g8, d8, tk8, os8⟩ := s1
          dsimp only at F1 N1 hok1 hbad1
          refine wpAny_call ?_
          k_dflt (refine' kla_code (binds := []) B1 F1 X1 N1 T1 hA1 hf1 hk1 ?k6 ?k7 ?k8 ?k9 ?kB ?_ ?c2 ?c3 ?c4 ?c5; (case k6 => k_mem); (case k7 => exact codeRec_news N1 (by k_mem) (by assumption) (by assumption)); (case k8 => ktr_room); (case k9 => exact rfl); (case c5 => decide); (case kB => exact locs rfl); (case c2 => exact rfl); (case c3 => exact rfl); (case c4 => exact rfl); k_whole)
          intro g2 L2 h2 FG2 F2 N2 B2 X2 T2
          (try dsimp only)
          (try k_fold)
          iterate 15 walk1
          rename (Fr _ _ _ _) => F3
          rename (News _ _ _ _) => N3
          refine' figs_use (s := ⟨_, _, _, _, _⟩) (a := a) (n := 1 + n1) B2 F3 X2 N3 T2 ?kA ?kf ?kk ?kh ?kd ?ku ?ea ?en ?hl ?hasc ?hn ?ha ?hb ?hb2 ?ret1 ?bad1
          case kA => exact Around.frames_deeper (Below.stack B2)
          case kf => exact rfl
          case kk => exact rfl
          case kh => first | assumption | exact rfl
          case kd => ktr_room
          case ku => ktr_units
          case ea => exact rfl
          case en => omega
          case hl => omega
          case hasc => exact hla
          case hn => omega
          case ha => omega
          case hb => omega
          case hb2 => omega
          case bad1 =>
            intro e g9 h9 tk9 hn FG9 R9
            exact raisedWX B2 FG9 R9 N3 (fun p hp => hp) fun h' R => hbad1 _ _ _ _ hn FG2 R
          case ret1 =>
            intro v t9 h9 tk9 hn F4 N4
            iterate 1 walk1
            rename (Fr _ _ _ _) => F5
            rename (News _ _ _ _) => N5
            exact hok1 _ [] _ _ ⟨_, _, rfl, rfl, hn⟩ (fun q hq => by cases hq) F5 N5
        case ok =>
          rintro v ext h1 h7 tk7 ⟨val, t9, rfl, rfl, hval⟩ hfr T1 B1 F1 N1
          have hw2 : ¬ wy < 2 := fun h => by rw [hlf h] at hval; cases hval
          have hval2 : val = (ws.mapIdx fun i v => v * b ^ ((ws.length : Int) - 1 - (i : Int)).toNat).sum := by
            rw [hlg hw2, show 1 + n1 = ws.length from hlenw.symm, fig_good hbb.2 hG] at hval
            exact (Option.some.inj hval).symm
          have X1 := XB.keeps B1.stays
          have P1 := TB.keeps B1.stays
          simp only [List.nil_append] at N1
          clear hfr F9 N9 B' X' T'
          subst hval2
          iterate 6 walk1
          rw [if_neg (show ¬ decide ((wy : Int) < 2) = true by simp only [decide_eq_true_eq]; omega)]
          iterate 2 walk1
          rename (Fr _ _ _ _) => F5
          rename (News _ _ _ _) => N5
          rw [beq_self_eq_true]
          obtain ⟨h₁, T₁, F₁, B₁, N₁⟩ := back_to B FG' hf T1 F5 N5
          exact hret _ _ _ _ _ _ h₁ _ _ ho6 T₁ B₁ F₁ (fun p hp => N₁ p (by
            rcases List.mem_cons.mp hp with rfl | hp
            · k_dflt k_mem
            · rcases List.mem_cons.mp hp with rfl | hp
              · k_dflt k_mem
              · k_dflt k_mem))
        case bad =>
          intro o t1 t2 h2 h7 tk7 hbad T2 B2 F2 N2 l7
          have hw2 : wy < 2 := Nat.lt_of_not_le fun h => by
            rw [hlg (by omega), show 1 + n1 = ws.length from hlenw.symm, fig_good hbb.2 hG] at hbad
            cases hbad
          have X2 := XB.keeps B2.stays
          have P2 := TB.keeps B2.stays
          clear F9 N9 B' X' T'
          (try k_lt l7)
          iterate 6 walk1
          rw [if_pos (show decide ((wy : Int) < 2) = true by simp only [decide_eq_true_eq]; omega)]
          iterate 1 walk1
          refine eq_true (s := ⟨_, _, _, _, _⟩) (by k_dflt ked_read) (by k_dflt ked_read) shaped_fault shaped_fault (by ktr_units) (by simp [PyData.eqv, PyData.eqvAll]) ?_
          rename (Fr _ _ _ _) => F5
          rename (News _ _ _ _) => N5
          obtain ⟨h₁, T₁, F₁, B₁, N₁⟩ := back_to B FG' hf T2 F5 N5
          exact hret _ _ _ _ _ _ h₁ _ _ ho6 T₁ B₁ F₁ (fun p hp => N₁ p (by
            rcases List.mem_cons.mp hp with rfl | hp
            · k_dflt k_mem
            · rcases List.mem_cons.mp hp with rfl | hp
              · k_dflt k_mem
              · k_dflt k_mem))

end
section
theorem off_Law : True := by
  w_top off
  trivial
theorem law017 : readNum [48, 49, 55] 0 = some ([48, 49, 55], 15, 3) := by decide +kernel
def Ok017 (v : Value) (ext : List (Addr × Obj)) : Prop := ∃ o q t0 t1 t2 t3 t4, v = .ref o ∧ ext = [(o, tup [.ref q, .int 3 t0]), (q, tup [.str (Str.ofString "int") t1, .str (S [48, 49, 55]) t2, .int 0 t3, .int 15 t4])]
theorem ok017_of {wd' : List Nat} {v : Int} {e : Nat} {o q : Addr} {t0 t1 t2 t3 t4 : Tok} (hn : some (([48, 49, 55] : List Nat), (15 : Int), 3) = some (wd', v, e)) :
    Ok017 (.ref o) [(o, tup [.ref q, .int e t0]), (q, tup [.str (Str.ofString "int") t1, .str (S wd') t2, .int ((0 : Nat) : Int) t3, .int v t4])] := by
  cases hn
  exact ⟨o, q, t0, t1, t2, t3, t4, rfl, rfl⟩
theorem news6 {g h : Heap} {L : Addr} {news : List (Addr × Obj)} {p1 p2 p3 p4 p5 p6 : Addr × Obj} (N : News g L h news) (a1 : p1 ∈ news) (a2 : p2 ∈ news) (a3 : p3 ∈ news) (a4 : p4 ∈ news) (a5 : p5 ∈ news) (a6 : p6 ∈ news) : News g L h [p1, p2, p3, p4, p5, p6] := fun p hp => N p (by
  simp only [List.mem_cons, List.not_mem_nil, or_false] at hp
  rcases hp with rfl | rfl | rfl | rfl | rfl | rfl <;> assumption)
theorem ne4 {a b c d : Addr × Obj} {x : Addr} (h1 : a.1 ≠ x) (h2 : b.1 ≠ x) (h3 : c.1 ≠ x) (h4 : d.1 ≠ x) : ∀ p ∈ [a, b, c, d], p.1 ≠ x := fun p hp => by
  simp only [List.mem_cons, List.not_mem_nil, or_false] at hp
  rcases hp with rfl | rfl | rfl | rfl <;> assumption
def WorthJ (m₀ : Str → Option Value) (news : List (Addr × Obj)) (i : Nat) (m : Str → Option Value) (nx : List (Addr × Obj)) : Prop := (∃ u, m = fun z => if z = ("worth" : Str) then u else m₀ z) ∧ nx = news
theorem worthJ0 {m₀ : Str → Option Value} {news : List (Addr × Obj)} : WorthJ m₀ news 0 m₀ news := ⟨⟨m₀ "worth", by
  funext z
  by_cases h : z = ("worth" : Str)
  · rw [if_pos h, h]
  · rw [if_neg h]⟩, rfl⟩
def InvT (N0 : List (Addr × Obj)) (xs : List Nat) (i : Nat) (ys : List Value) (news : List (Addr × Obj)) : Prop := news = N0 ∧ ys.length = i ∧ IntsAre ys ((xs.take i).map worth)
theorem strs_at {zs : List Value} {cs : List Nat} (h : StrsAre zs (cs.map fun c => [c])) : ∀ {i : Nat} {v : Value}, zs[i]? = some v → ∃ c u, v = .str (S [c]) u ∧ cs[i]? = some c := by
  induction cs generalizing zs with
  | nil => cases h; intro i v e; simp at e
  | cons c r ih =>
    cases h with
    | cons e h =>
      intro i v hv
      cases i with
      | zero => simp only [List.getElem?_cons_zero, Option.some.injEq] at hv; subst e; exact ⟨c, _, hv.symm, rfl⟩
      | succ i => simp only [List.getElem?_cons_succ] at hv ⊢; exact ih h hv
theorem strs_atA {zs : List Value} {cs : List Nat} {i : Nat} {v : Value} (hv : zs.toArray[i]? = some v) (h : StrsAre zs (cs.map fun c => [c])) : ∃ c u, v = .str (S [c]) u ∧ cs[i]? = some c := strs_at h (by simpa using hv)
def sixX : List Nat := [103, 71, 95, 120, 32, 43]
def runesX : List Nat := [97, 233, 8364, 92, 128512]
theorem pickR {h₀ h : Heap} {L : Addr} {news own : List (Addr × Obj)} {v : Value} (N : News h₀ L h news) (hP : PairOf (runesX.map fun c => ([c], (c : Int))) own v) (hs : ∀ p ∈ own, p ∈ news) :
    ∃ t c t1 t2, v = Value.ref t ∧ IsTup h t #[.str (S [c]) t1, .int (c : Nat) t2] ∧ c ∈ runesX := by
  obtain ⟨o, word, val, a1, a2, rfl, hm, hw⟩ := hP
  obtain ⟨x, hx, e⟩ := List.mem_map.mp hw
  cases e
  exact ⟨o, x, a1, a2, rfl, News.isTup N (hs _ hm), hx⟩
def longX : List Nat := 49 :: List.replicate 99 48
theorem law_long : readNum (longX ++ [32]) 0 = some (longX, 10 ^ 99, 100) := by decide +kernel
theorem longC : ∀ c ∈ longX, c < 128 := by decide +kernel
theorem law_longer : readNum (longX ++ [48]) 0 = none := by decide +kernel
theorem num_is {o : Option (List Nat × Int × Nat)} {a : List Nat} {b : Int} {c : Nat} {wd : List Nat} {v : Int} {e : Nat} (h : o = some (a, b, c)) (hn : o = some (wd, v, e)) : wd = a ∧ v = b ∧ e = c := by
  rw [h] at hn
  cases hn
  exact ⟨rfl, rfl, rfl⟩
theorem goodW_true {c : ClaimW} {cl : Str → Option Addr} {mean : ExcName → Option Value} {args : List WData} {s₁ s' : Shared} (keep : ∀ b o, s₁.heap.get? b = some o → s'.heap.get? b = some o) (hg : s'.gens = #[]) (hn : ∀ cls, c.raises args cls = false) (hp : c.post args (.bool true) args = true) (hos : s'.os = s₁.os) :
    GoodW c cl mean args s₁ (.ok (.ret (.bool true))) s' := ⟨.inl ⟨_, _, _, rfl, hn, .bool true, hp, unshared_nil⟩, keep, hos, hg⟩
theorem law_walk : ∃ d kwd, defOf frag.view_1 (Str.ofString "law") = some (d, kwd) ∧
    WalkO frag.view_1 [Str.ofString "ChanError", Str.ofString "NAME_BEGINS", Str.ofString "NAME_SIGNS", Str.ofString "PREFIX_BASES", Str.ofString "SHORT_ESCAPES", Str.ofString "LONG_ESCAPES"]
      (XL frag.view_1 [(Str.ofString "NAME_BEGINS", WData.str { cps := #[97, 98, 99, 100, 101, 102, 103, 104, 105, 106, 107, 108, 109, 110, 111, 112, 113, 114, 115, 116, 117, 118, 119, 120, 121, 122, 65, 66, 67, 68, 69, 70, 71, 72, 73, 74, 75, 76, 77, 78, 79, 80, 81, 82, 83, 84, 85, 86, 87, 88, 89, 90, 95] }),
        (Str.ofString "NAME_SIGNS", WData.str { cps := #[97, 98, 99, 100, 101, 102, 103, 104, 105, 106, 107, 108, 109, 110, 111, 112, 113, 114, 115, 116, 117, 118, 119, 120, 121, 122, 65, 66, 67, 68, 69, 70, 71, 72, 73, 74, 75, 76, 77, 78, 79, 80, 81, 82, 83, 84, 85, 86, 87, 88, 89, 90, 95, 48, 49, 50, 51, 52, 53, 54, 55, 56, 57] })])
      (kmHook frag.heap_1 [2, 3, 15, 22, 23, 25, 26, 28, 29, 30, 31, 32, 33, 36, 43, 44, 45, 48, 50, 51, 53, 54, 55, 56, 57, 58, 60, 61, 63, 64, 65, 67, 68, 70, 71, 72, 74, 75, 77, 78, 79, 81, 82, 84, 85, 86, 88, 89, 91, 92, 93, 95, 96, 98, 99, 100, 102, 103, 105, 106, 107, 109, 110, 112, 113, 114, 116, 117, 119, 120, 121, 123, 124, 126, 127, 128, 130, 131, 133, 134, 135, 137, 138, 140, 141, 142, 145, 146, 147, 149, 150, 152, 153, 154, 156, 157, 159, 160, 161, 164, 165, 166, 169, 170, 171, 174, 175] (fun _ => by kernel_rfl) [167, 162, 148, 172]).says
      PySem.Challenge.rw_xm0209_01.row.toRowW d kwd fun f vs => PySem.call f vs := by
  refine ⟨_, _, by rfl, ?_⟩
  k_go0
  all_goals (try k_fold)
  rename_i ww s0 s1 mg mb G Y fa o9 pm9 doc9 ho9 hg9 X9 V9 T9 B9 TE9 TW9 hcd9 wss hs9 hlay9 hL1 hr1 hl2 w5 w4 wc wvs w1a hL0 ra w1 r0 hI hr9 hcd1 hcd2 hD h1 tk1 wo right X0 X' T' K' F' ch2 ch1 ch0 N' l0
  have hbits := lay_bits hL1
  have hlen63 : ¬ (63 : Int) < ((wss.length : Nat) : Int) := hcd1
  have hl172 : @LT.lt Nat _ 172 s1.heap.objs.size := l0.2.2.2.1
  change CodeHd _ 169 167 at ch2
  change CodeHd _ 164 162 at ch1
  change CodeHd _ 152 148 at ch0
  change CodeHd _ 174 172 at codeHd
  clear X0 hD hcd2 hcd1 hr9 r0 w1 ra hL0 hl2 hr1 hL1 hlay9 hs9 hcd9 hT9 TW9 TE9 B9 T9 V9 X9 hT8 ho9 Y G
  dsimp only at F' right
  dsimp only
  obtain ⟨p9, q9, m9, T'⟩ : ∃ (p9 : Program) (q9 : List Str) (m9 : ExcName → Option Value), Top p9 q9 m9 mg mb (ghostOf s1.heap [(169, 167), (164, 162), (152, 148), (174, 172)]) := ⟨_, _, _, T'⟩
  generalize ghostOf s1.heap [(169, 167), (164, 162), (152, 148), (174, 172)] = g0 at *
  generalize hLd : s1.heap.objs.size = L0 at *
  iterate 10 walk1
  rename (Fr _ _ _ _) => F9
  rename (News _ _ _ _) => N9
  refine told_ok (s := ⟨_, _, _, _, _⟩) (spot := 0) (Ok := Ok017) (Bad := False) K' F9 X' N9 T' (Around.frames_deeper (Below.stack K')) rfl rfl (by first | assumption | exact rfl) (by first | ktr_room | exact Nat.le_of_ble_eq_true rfl) (by first | ktr_units | exact Nat.le_of_ble_eq_true rfl) X' T' (by k_dflt k_mem) ?deed ?ok ?bad
  case bad => intro o t1 t2 h1 h' tk' hb; exact hb.elim
  case deed =>
    intro A1 A2 env1 outer1 h1 L1 m1 s1 Q1 E1 B1 F1 X1 N1 T1 hA1 hf1 hk1 hh1 hd1 hu1 hok1 hbad1
    obtain ⟨h8, g8, d8, tk8, os8⟩ := s1
    dsimp only at F1 N1 hok1 hbad1
    refine wpAny_call ?_
    k_dflt (refine' kla_code (binds := []) B1 F1 X1 N1 T1 hA1 hf1 hk1 ?k6 ?k7 ?k8 ?k9 ?kB ?_ ?c2 ?c3 ?c4 ?c5; (case k6 => k_mem); (case k7 => exact codeRec_news N1 (by k_mem) (by assumption) (by assumption)); (case k8 => ktr_room); (case k9 => exact rfl); (case c5 => decide); (case kB => exact locs rfl); (case c2 => exact rfl); (case c3 => exact rfl); (case c4 => exact rfl); k_whole)
    intro g2 L2 h2 FG2 F2 N2 B2 X2 T2
    (try dsimp only)
    (try k_fold)
    iterate 9 walk1
    rename (Fr _ _ _ _) => F3
    rename (News _ _ _ _) => N3
    rw [show Str.ofString "017" = S [48, 49, 55] by decide +kernel]
    refine' num_ok (s := ⟨_, _, _, _, _⟩) (l := [48, 49, 55]) (b := 0) B2 F3 X2 N3 T2 ?kA ?kf ?kk ?kh ?kd ?ku (by decide) (by decide) (by decide) ?ret1 ?bad1
    case kA => exact Around.frames_deeper (Below.stack B2)
    case kf => exact rfl
    case kk => exact rfl
    case kh => first | assumption | exact rfl
    case kd => ktr_room
    case ku => ktr_units
    case bad1 =>
      intro e g9 h9 tk9 hn
      rw [law017] at hn
      cases hn
    case ret1 =>
      intro wd v e o q t0 t1 t2 t3 t4 h9 tk9 hn F4 N4 l3 l4
      rw [law017] at hn
      iterate 1 walk1
      rename (Fr _ _ _ _) => F5
      rename (News _ _ _ _) => N5
      exact hok1 _ _ _ _ (ok017_of hn) (fresh2 l3 l4) F5 N5
  rintro v ext h1' h7 tk7 ⟨o, q, t0, t1, t2, t3, t4, rfl, rfl⟩ hfr T1 B1 F1 N1
  have X1 := X'.keeps B1.stays
  have P1 := T'.keeps B1.stays
  have l5 := hfr _ (.head _)
  have l6 := hfr _ (.tail _ (.head _))
  simp only [List.cons_append, List.nil_append] at N1
  have lifted1 : h1'.IsList wc wvs.toArray := lifted.imp fun o x => ⟨B1.stays _ _ x.1, x.2⟩
  clear hfr F9 N9
  (try k_lt l5)
  (try k_lt l6)
  iterate 17 walk1
  refine ne_true (s := ⟨_, _, _, _, _⟩) (by k_dflt ked_read) (by k_dflt ked_read) (by decide +kernel) (by decide +kernel) (by first | ktr_units | exact Nat.le_of_ble_eq_true rfl) (by decide +kernel) ?_
  iterate 5 walk1
  iterate 8 walk1
  rename (Fr _ _ _ _) => F9
  rename (News _ _ _ _) => N9
  refine pool_ok (s := ⟨_, _, _, _, _⟩) B1 F9 X1 N9 P1 (Around.frames_deeper (Below.stack B1)) rfl rfl (by first | assumption | exact rfl) (by first | ktr_room | exact Nat.le_of_ble_eq_true rfl) (by first | ktr_units | exact Nat.le_of_ble_eq_true rfl) lifted1 hI hbits hlen63 ?_
  intro src x y tx ty n h6 tk6 ho F6 N6 l8
  (try k_lt l8)
  clear F9 N9
  have hsrc : @LT.lt Nat _ 172 src := by omega
  have hL1 : @LT.lt Nat _ (L0 + 1) src := by omega
  iterate 14 walk1
  rename (Fr _ _ _ _) => F9
  rename (News _ _ _ _) => N9
  rename (SrcOk _ _) => ho9
  have M1 := news6 N9 (p1 := (src, _)) (p2 := (148, tabObj _)) (p3 := (162, tabObj #[])) (p4 := (167, tabObj #[])) (p5 := (172, _)) (p6 := (L0 + 1, wo)) (by k_dflt k_mem) (by k_dflt k_mem) (by k_dflt k_mem) (by k_dflt k_mem) (by k_dflt k_mem) (by k_dflt k_mem)
  clear N9
  refine number_right_ok (s := ⟨_, _, _, _, _⟩) B1 F9 X1 M1 P1 (Around.frames_deeper (Below.stack B1)) rfl rfl (by first | assumption | exact rfl) (by first | ktr_room | exact Nat.le_of_ble_eq_true rfl) (by first | ktr_units | exact Nat.le_of_ble_eq_true rfl) X' T' ch0 (ne4 (by k_ne) (by k_ne) (by k_ne) (by k_ne)) (ne4 (by k_ne) (by k_ne) (by k_ne) (by k_ne)) hsrc ho9 ?_
  clear F9 M1
  intro x1 y1 tx1 ty1 n1 ps1 g1 h1' tk1' ho1 U1 C1 F1a N1a
  have Y1 := X'.keeps C1.stays
  have Z1 := T'.keeps C1.stays
  clear B1 X1 P1
  iterate 12 walk1
  rename (Fr _ _ _ _) => F9
  rename (News _ _ _ _) => N9
  rename (SrcOk _ _) => ho9
  have M2 := news6 N9 (p1 := (src, _)) (p2 := (162, tabObj _)) (p3 := (148, _)) (p4 := (167, tabObj #[])) (p5 := (172, _)) (p6 := (L0 + 1, wo)) (by k_dflt k_mem) (by k_dflt k_mem) (by k_dflt k_mem) (by k_dflt k_mem) (by k_dflt k_mem) (by k_dflt k_mem)
  clear N9
  refine escape_right_ok (s := ⟨_, _, _, _, _⟩) C1 F9 Y1 M2 Z1 (Around.frames_deeper (Below.stack C1)) rfl rfl (by first | assumption | exact rfl) (by first | ktr_room | exact Nat.le_of_ble_eq_true rfl) (by first | ktr_units | exact Nat.le_of_ble_eq_true rfl) X' T' ch1 (ne4 (by k_ne) (by k_ne) (by k_ne) (by k_ne)) (ne4 (by k_ne) (by k_ne) (by k_ne) (by k_ne)) hsrc ho9 ?_
  clear F9 M2
  intro x2 y2 tx2 ty2 n2 ps2 g2 h2' tk2' ho2 U2 C2 F2a N2a
  have Y2 := X'.keeps C2.stays
  have Z2 := T'.keeps C2.stays
  clear C1 Y1 Z1
  iterate 12 walk1
  rename (Fr _ _ _ _) => F9
  rename (News _ _ _ _) => N9
  rename (SrcOk _ _) => ho9
  have M3 := news6 N9 (p1 := (src, _)) (p2 := (167, tabObj _)) (p3 := (148, _)) (p4 := (162, _)) (p5 := (172, _)) (p6 := (L0 + 1, wo)) (by k_dflt k_mem) (by k_dflt k_mem) (by k_dflt k_mem) (by k_dflt k_mem) (by k_dflt k_mem) (by k_dflt k_mem)
  clear N9
  refine figures_right_ok (s := ⟨_, _, _, _, _⟩) C2 F9 Y2 M3 Z2 (Around.frames_deeper (Below.stack C2)) rfl rfl (by first | assumption | exact rfl) (by first | ktr_room | exact Nat.le_of_ble_eq_true rfl) (by first | ktr_units | exact Nat.le_of_ble_eq_true rfl) X' T' ch2 (ne4 (by k_ne) (by k_ne) (by k_ne) (by k_ne)) (ne4 (by k_ne) (by k_ne) (by k_ne) (by k_ne)) hsrc ho9 ?_
  clear F9 M3
  intro x3 y3 tx3 ty3 n3 ps3 g3 h3' tk3' ho3 U3 C3 F3a N3a
  have Y3 := X'.keeps C3.stays
  have Z3 := T'.keeps C3.stays
  clear C2 Y2 Z2
  iterate 13 walk1
  rename (Fr _ _ _ _) => F9
  rename (News _ _ _ _) => N9
  rename (SrcOk _ _) => ho9
  refine range1_rows (s := ⟨_, _, _, _, _⟩) F9 N9 ?_
  intro h6 tk6 t61 t62 t63 R6 F6 N6 k6
  refine kpr_invN (WorthJ _ _) (by first | assumption | exact rfl) R6 (small_one (by omega) (by omega) (by omega) (by omega)) (n := 16) (by decide +kernel) F6 N6 worthJ0 ?turn ?done
  case turn =>
    clear R6 k6 F9 N9 F6 N6
    rintro i k t m₁ nx h tk own hk hoff ⟨⟨u, rfl⟩, rfl⟩ F₁ N₁
    have hi : i < 16 := by
      have := (List.getElem?_eq_some_iff.mp hk).1
      rwa [rangeKs_length] at this
    have hki : k = (i : Int) := by
      have e : (rangeKs 0 16)[i]? = some (0 + (i : Int)) := by simp [rangeKs, hi]
      rw [e] at hk; have := Option.some.inj hk; omega
    subst hki
    have hsl := sign_facts i hi (loS i) (.inl rfl)
    have hsu := sign_facts i hi (upS i) (.inr rfl)
    simp only [List.cons_append, List.nil_append] at N₁
    iterate 3 walk1
    refine text_comp (s := ⟨_, _, _, _, _⟩) F₁ (by with_unfolding_all rfl) (by decide) (by rfl) (by decide) (by rfl) ?_
    iterate 7 walk1
    rename (Fr _ _ _ _) => F2
    rename (News _ _ _ _) => N2
    refine sign_ok (s := ⟨_, _, _, _, _⟩) (v := i) C3 F2 Y3 N2 Z3 (Around.frames_deeper (Below.stack C3)) rfl rfl (by first | assumption | exact rfl) (by first | ktr_room | exact Nat.le_of_ble_eq_true rfl) (by first | ktr_units | exact Nat.le_of_ble_eq_true rfl) hi ?_
    intro t5 h5 tk5 F3 N3
    refine ⟨_, _, _, rfl, by first | assumption | exact rfl, ?asc, F3, N3, by rw [sizeLine_eq]; exact Nat.le_of_ble_eq_true rfl, fun g => ?_⟩
    case asc =>
      intro c hc
      simp only [List.mem_cons, List.not_mem_nil, or_false] at hc
      rcases hc with rfl | rfl
      · exact hsl.2.1
      · exact hsu.2.1
    refine rest_ind (InvT _ [loS i, upS i]) ?t2 ?f2 _ 0 [] _ (Nat.zero_add _) ⟨rfl, rfl, .nil⟩
    case t2 =>
      rintro j ys news v I oI C oC D m₂ h tk E' hj ⟨rfl, hlen, hI⟩ ⟨c, u, hc, rfl⟩ hC h1 F1 N1 off ne
      have hc' : [loS i, upS i][j]? = some c := by simpa using hc
      have hc1 : c < 128 := by
        have hm := List.mem_of_getElem? hc'
        simp only [List.mem_cons, List.not_mem_nil, or_false] at hm
        rcases hm with rfl | rfl
        · exact hsl.2.1
        · exact hsu.2.1
      iterate 9 walk1
      rename (Fr _ _ _ _) => F4
      rename (News _ _ _ _) => N4
      refine ⟨_, _, _, rfl, F4, N4, off, trivial, rfl, by simp [hlen], ?_⟩
      rw [show ([loS i, upS i].take (j + 1)).map worth = ([loS i, upS i].take j).map worth ++ [worth c] by rw [List.take_add_one, hc']; simp]
      exact IntsAre.append hI (.cons _ _ .nil)
    case f2 =>
      rintro ys news ⟨rfl, hlen, hI⟩ D h tk F1 N1 off
      have hI2 : IntsAre ys [(i : Int), (i : Int)] := by
        have e : ([loS i, upS i].take [loS i, upS i].length).map worth = [(i : Int), (i : Int)] := by
          show [worth (loS i), worth (upS i)] = _
          rw [hsl.2.2.1, hsu.2.2.1]
        rw [e] at hI
        exact hI
      obtain ⟨v1, r1, rfl, hr1⟩ := IntsAre.cons_inv hI2
      obtain ⟨v2, r2, rfl, hr2⟩ := IntsAre.cons_inv hr1
      obtain rfl := IntsAre.nil_inv hr2
      iterate 7 walk1
      refine ne_true (s := ⟨_, _, _, _, _⟩) (by k_dflt ked_read) (by k_dflt ked_read) (by simp [SeqAt.shaped, PyData.canLay0, PyData.canLayAll0, PyData.depth, PyData.depthAll]) (by simp [SeqAt.shaped, PyData.canLay0, PyData.canLayAll0, PyData.depth, PyData.depthAll]) (by first | ktr_units | exact Nat.le_of_ble_eq_true rfl) (by simp [PyData.eqv, PyData.eqvAll]) ?_
      iterate 5 walk1
      rename (Fr _ _ _ _) => F6
      rename (News _ _ _ _) => N6
      rw [bind_again] at F6
      refine ⟨_, _, _, _, _, rfl, F6, N6, fun p hp => ?_, fun p hp => ?_, rfl, ⟨_, rfl⟩, rfl⟩
      · simp only [List.mem_cons, List.not_mem_nil, or_false] at hp
        rcases hp with rfl | rfl | rfl | rfl | rfl | rfl <;> k_dflt k_mem
      · k_dflt k_mem
  rintro m₁ nx h tk ⟨⟨u, rfl⟩, rfl⟩ F₁ N₁
  clear R6 k6 F9 N9 F6 N6
  iterate 3 walk1
  rename (Fr _ _ _ _) => F9
  refine LCg.ListComp_U (F₀ := F9) (by with_unfolding_all rfl) (by decide) (by rfl) (by decide) (by rfl) ?_
  rename (Fr _ _ _ _) => F2
  rename (News _ _ _ _) => N2
  k_dflt (refine' strs_list ?xs ?hE ?hR ?hz ?F ?N ?_; (case xs => exact sixX.map fun c => [c]); (case F => exact F2); (case N => exact N2); (case hE => walk_at "my es"); (case hR => decide +kernel); (case hz => exact Nat.le_of_ble_eq_true rfl); k_whole)
  clear F2 N2
  intro D6 vs6 h6 tk6 F9 N9 hS6 l6
  (try k_lt l6)
  have hl6 : vs6.length = 6 := hS6.len
  refine LCg.CompSrc.ledger (by first | assumption | exact rfl) F9 N9 (by k_dflt k_mem) (by rw [List.size_toArray, hl6]; exact Nat.le_of_ble_eq_true rfl) fun g => ?_
  refine rest_ind (n := vs6.toArray.size) (InvT _ sixX) ?t6 ?f6 _ 0 [] _ (Nat.zero_add _) ⟨rfl, rfl, .nil⟩
  case t6 =>
    rintro j ys news v I oI C oC D m₂ h tk E' hj ⟨rfl, hlen, hI⟩ hP hC h1 F1 N1 off ne
    obtain ⟨c, u, rfl, hc⟩ := strs_atA (cs := sixX) hP hS6
    have hc1 : c < 128 := (by decide : ∀ c ∈ sixX, c < 128) c (List.mem_of_getElem? hc)
    iterate 9 walk1
    rename (Fr _ _ _ _) => F4
    rename (News _ _ _ _) => N4
    refine ⟨_, _, _, rfl, F4, N4, off, .inr ⟨_, by k_dflt k_mem, rfl, _, rfl⟩, rfl, by simp [hlen], ?_⟩
    rw [show (sixX.take (j + 1)).map worth = (sixX.take j).map worth ++ [worth c] by rw [List.take_add_one, hc]; simp]
    exact IntsAre.append hI (.cons _ _ .nil)
  case f6 =>
    rintro ys news ⟨rfl, hlen, hI⟩ D h tk F1 N1 off
    rw [List.size_toArray, hl6] at hI
    have hI2 : IntsAre ys [99, 99, 99, 99, 99, 99] := hI
    clear F9 N9
    obtain ⟨v1, r1, rfl, hr1⟩ := IntsAre.cons_inv hI2
    obtain ⟨v2, r2, rfl, hr2⟩ := IntsAre.cons_inv hr1
    obtain ⟨v3, r3, rfl, hr3⟩ := IntsAre.cons_inv hr2
    obtain ⟨v4, r4, rfl, hr4⟩ := IntsAre.cons_inv hr3
    obtain ⟨v5, r5, rfl, hr5⟩ := IntsAre.cons_inv hr4
    obtain ⟨v6, r6, rfl, hr6⟩ := IntsAre.cons_inv hr5
    obtain rfl := IntsAre.nil_inv hr6
    iterate 8 walk1
    rename (IntsAre (List.flatten _) _) => hJ
    rename (News _ _ _ _) => N9
    refine ke_ne_ints (s := ⟨_, _, _, _, _⟩) (News.isList N9 (by k_dflt k_mem)) (News.isList N9 (by k_dflt k_mem)) hI2 hJ (by first | ktr_units | exact Nat.le_of_ble_eq_true rfl) ?_
    rw [show (!decide (([99, 99, 99, 99, 99, 99] : List Int) = (List.replicate (Int.toNat 6) [99]).flatten)) = false by decide]
    have M9 := fun p hp => N9 p (.tail _ (.tail _ (.tail _ (.tail _ hp))))
    change News _ _ _ _ at M9
    clear N9 hJ hI2
    iterate 5 walk1
    iterate 7 walk1
    rename (Fr _ _ _ _) => F2
    rename (News _ _ _ _) => N2
    k_dflt (refine' pairs_list ?rs ?hE ?hR ?hz ?F ?N ?_; (case rs => exact runesX.map fun c => ([c], (c : Int))); (case F => exact F2); (case N => exact N2); (case hE => walk_at "my es"); (case hR => decide +kernel); (case hz => exact Nat.le_of_ble_eq_true rfl); k_whole)
    clear F2 N2
    intro D0 own vs5 h0 tk0 F2 N2 hvl hvs ho0 lt0
    obtain ⟨rest1, N2, lt0, hvs, G1, hs1⟩ := pairs_step (T := [_, _, _, _, _, _]) (rest := []) (c := src) [] N2 lt0 hvs (.head _) ho0
    clear ho0
    dsimp only [List.cons_append, List.nil_append] at N2 lt0
    (try k_lt lt0)
    have e8 : ∀ p ∈ rest1, p.1 ≠ src := grown_ne G1 (Nat.le_refl _) (fun p hp => nomatch hp)
    iterate 2 walk1
    rename (Fr _ _ _ _) => F2
    rename (News _ _ _ _) => N2
    refine' one_use (s := ⟨_, _, _, _, _⟩) C3 F2 Y3 N2 Z3 ?kA ?kf ?kk ?kh ?kd ?ku ?e1 ?e2 (by k_dflt k_mem) ?e4 ?e5 ?e6 ?_
    case kA => exact Around.frames_deeper (Below.stack C3)
    case kf => exact rfl
    case kk => exact rfl
    case kh => first | assumption | exact rfl
    case kd => first | ktr_room | exact Nat.le_of_ble_eq_true rfl
    case ku => first | ktr_units | exact Nat.le_of_ble_eq_true rfl
    case e1 => k_upd
    case e2 => assumption
    case e4 => k_ne
    case e5 => rw [hvl]; exact Nat.succ_pos _
    case e6 => rw [hvl]; exact Nat.le_of_ble_eq_true rfl
    intro v5 x9 y9 tx9 ty9 n9 h9 tk9 hv5 ho9 F9 NU
    have N9 := NU _ (by k_upd)
    clear NU F2 N2
    obtain ⟨t5, rc, u1, u2, rfl, hT5, hrc⟩ := pickR N9 (hvs v5 hv5) (fun p hp => by k_dflt k_mem)
    replace N9 := news_sub0 (T1 := [_]) (T2 := [_, _, _, _, _, _]) (rest := []) N9 (fun p hp => nomatch hp)
    dsimp only [List.cons_append, List.nil_append, List.append_nil] at N9
    clear hvs G1 hs1 e8 lt0 hv5
    iterate 27 walk1
    rename (Fr _ _ _ _) => F2
    rename (News _ _ _ _) => N2
    rw [show Str.ofString "ab" ++ S [rc] ++ Str.ofString "c" = S [97, 98, rc, 99] by rw [show Str.ofString "ab" = S [97, 98] by decide +kernel, show Str.ofString "c" = S [99] by decide +kernel, S_app, S_app]; rfl]
    refine plain_ok (s := ⟨_, _, _, _, _⟩) (l := [97, 98, rc, 99]) (a := 2) C3 F2 Y3 N2 Z3 (Around.frames_deeper (Below.stack C3)) rfl rfl (by first | assumption | exact rfl) (by first | ktr_room | exact Nat.le_of_ble_eq_true rfl) (by first | ktr_units | exact Nat.le_of_ble_eq_true rfl) (Nat.le_of_ble_eq_true rfl) (Nat.le_of_ble_eq_true rfl) ((by decide +kernel : ∀ c ∈ runesX, rightRune ((c : Nat) : Int) = true) rc hrc) ?_
    intro t6 h6 tk6 F3 N3
    iterate 2 walk1
    rw [show ((([97, 98, rc, 99][2] : Nat) : Int) != (rc : Int)) = false from by simp]
    iterate 13 walk1
    rw [show Str.ofString "1000000000000000000000000000000000000000000000000000000000000000000000000000000000000000000000000000" = S longX by decide +kernel]
    have hll : longX.length = 100 := by decide
    iterate 11 walk1
    rw [show Str.ofString " " = S [32] by decide +kernel]
    refine cat_S (by decide) ?_
    intro t7 k7
    iterate 4 walk1
    rename (Fr _ _ _ _) => F2
    rename (News _ _ _ _) => N2
    refine num_ok (s := ⟨_, _, _, _, _⟩) (l := longX ++ [32]) (b := 0) C3 F2 Y3 N2 Z3 (Around.frames_deeper (Below.stack C3)) rfl rfl (by first | assumption | exact rfl) (by first | ktr_room | exact Nat.le_of_ble_eq_true rfl) (by first | ktr_units | exact Nat.le_of_ble_eq_true rfl) (by decide) (by decide) (by decide) ?_ ?_
    rotate_left
    · intro e g9 h9 tk9 hn
      rw [law_long] at hn
      cases hn
    intro wd v e o q t0 t1 t2 t3 t4 h9 tk9 hn F4 N4 l3 l4
    obtain ⟨hwd, hv, he⟩ := num_is law_long hn
    clear F2 N2 hn
    (try k_lt l3)
    (try k_lt l4)
    iterate 20 walk1
    refine ne_true (s := ⟨_, _, _, _, _⟩) (by k_dflt ked_read) (by k_dflt ked_read) (by rw [hwd]; exact shaped_num longC) (shaped_num longC) (by first | ktr_units | exact Nat.le_of_ble_eq_true rfl) (by rw [hwd, hv, he]; decide +kernel) ?_
    iterate 5 walk1
    iterate 9 walk1
    rename (Fr _ _ _ _) => F9
    rename (News _ _ _ _) => N9
    refine told_ok (s := ⟨_, _, _, _, _⟩) (spot := 0) (Ok := fun _ _ => False) (Bad := True) C3 F9 Y3 N9 Z3 (Around.frames_deeper (Below.stack C3)) rfl rfl (by first | assumption | exact rfl) (by first | ktr_room | exact Nat.le_of_ble_eq_true rfl) (by first | ktr_units | exact Nat.le_of_ble_eq_true rfl) X' T' (by k_dflt k_mem) ?deed2 ?ok2 ?bad2
    case ok2 => intro v ext h1 h' tk' hb; exact hb.elim
    case deed2 =>
      intro A1 A2 env1 outer1 h1 L1 m1 s1 Q1 E1 B1 F1 X1 N1 T1 hA1 hf1 hk1 hh1 hd1 hu1 hok1 hbad1
      obtain ⟨h8, g8, d8, tk8, os8⟩ := s1
      dsimp only at F1 N1 hok1 hbad1
      refine wpAny_call ?_
      k_dflt (refine' kla_code (binds := []) B1 F1 X1 N1 T1 hA1 hf1 hk1 ?k6 ?k7 ?k8 ?k9 ?kB ?_ ?c2 ?c3 ?c4 ?c5; (case k6 => k_mem); (case k7 => exact codeRec_news N1 (by k_mem) (by assumption) (by assumption)); (case k8 => ktr_room); (case k9 => exact rfl); (case c5 => decide); (case kB => exact locs rfl); (case c2 => exact rfl); (case c3 => exact rfl); (case c4 => exact rfl); k_whole)
      intro g2 L2 h2 FG2 F2 N2 B2 X2 T2
      (try dsimp only)
      (try k_fold)
      iterate 7 walk1
      rw [show Str.ofString "0" = S [48] by decide +kernel]
      refine cat_S (by decide) ?_
      intro t9 k9
      iterate 4 walk1
      rename (Fr _ _ _ _) => F3
      rename (News _ _ _ _) => N3
      refine num_ok (s := ⟨_, _, _, _, _⟩) (l := longX ++ [48]) (b := 0) B2 F3 X2 N3 T2 (Around.frames_deeper (Below.stack B2)) rfl rfl (by first | assumption | exact rfl) (by ktr_room) (by ktr_units) (by decide) (by decide) (by decide) ?_ ?_
      · intro wd v e o q t0 t1 t2 t3 t4 h9 tk9 hn
        rw [law_longer] at hn
        cases hn
      · intro e g9 h9 tk9 hn FG9 R9
        exact raisedWX B2 FG9 R9 N3 (fun p hp => hp) fun h' R => hbad1 _ _ _ _ trivial FG2 R
    case bad2 =>
      intro o t1 t2 h2 h7 tk7 _ T2 B2 F2 N2 l7
      have X2 := X'.keeps B2.stays
      have P2 := T'.keeps B2.stays
      clear F9 N9
      (try k_lt l7)
      iterate 1 walk1
      refine eq_true (s := ⟨_, _, _, _, _⟩) (by k_dflt ked_read) (by k_dflt ked_read) shaped_fault shaped_fault (by first | ktr_units | exact Nat.le_of_ble_eq_true rfl) (by simp [PyData.eqv, PyData.eqvAll]) ?_
      rename (Fr _ _ _ _) => F5
      rename (News _ _ _ _) => N5
      refine ⟨goodW_true (fun b o q => F5.keep b o (B2.stays b o q)) hg9 (raisesW_false ?_) ?_ rfl, GrownAt.of N5 (by k_dflt k_mem), GrownAt.of N5 (by k_dflt k_mem), GrownAt.of N5 (by k_dflt k_mem), GrownAt.of N5 (by k_dflt k_mem), trivial⟩
      · wrow_none_raised
      · kc_post

end
end Mine
namespace Mine
def fin.tw2824846461999071874 : Nat := 0
def fin.tw15675102808854859970 : Nat := 0
def fin.tw12047176019681375103 : Nat := 0
def fin.tw8415677887826043230 : Nat := 0
def fin.tw11703316448928095532 : Nat := 0
def fin.tw10773260603588190666 : Nat := 0
def fin.tw8651105995357262798 : Nat := 0
def fin.tw11923680722139196160 : Nat := 0
def fin.tw9001875181463519149 : Nat := 0
def fin.tw8399098705505230059 : Nat := 0
def fin.tw6838789434069753932 : Nat := 0
def fin.tw16656299143469825513 : Nat := 0
def fin.tw16275787546110486726 : Nat := 0
def fin.tw8577089030196625639 : Nat := 0
def fin.tw7976502392129159676 : Nat := 0
def fin.tw799341379326975648 : Nat := 0
def fin.tw4788878847521262168 : Nat := 0
def fin.tw5897612983314593646 : Nat := 0
def fin.tw670465573061467203 : Nat := 0
def fin.tw4868334931027891882 : Nat := 0
def fin.tw10852849658779182186 : Nat := 0
def fin.tw17407121136558984578 : Nat := 0
def fin.tw13516622038369049944 : Nat := 0
def fin.tw15688172546075569117 : Nat := 0
def fin.tw12629903358213643309 : Nat := 0
def fin.tw2656788454239962097 : Nat := 0
def fin.tw3173534031939492945 : Nat := 0
def fin.tw3105451386036433885 : Nat := 0
def fin.tw17717364068325071970 : Nat := 0
def fin.tw10860463890562471742 : Nat := 0
def fin.tw6207176494656529804 : Nat := 0
def fin.tw18186706949227917456 : Nat := 0
def fin.tw999798209818781672 : Nat := 0
def fin.tw14574801432027512755 : Nat := 0
def fin.tw11615019562542576733 : Nat := 0
def fin.tw744865244796547220 : Nat := 0
def fin.tw757079261281740938 : Nat := 0
def fin.tw9361326884244611343 : Nat := 0
def fin.tw17743408960866722510 : Nat := 0
def fin.tw17801579834951734752 : Nat := 0
def fin.tw3343445320678177929 : Nat := 0
def fin.tw10383673109516279431 : Nat := 0
def fin.tw380778119907437045 : Nat := 0
def fin.tw13199158710529813207 : Nat := 0
def fin.tw17628183408451194143 : Nat := 0
set_option Elab.async true in
theorem fin : PySem.Challenge.rw_xm0209_01.Holds := by
  w_on
  o_law
  k_head
  case hw => w_witness2
  obtain ⟨d, kwd, h, W⟩ := law_walk
  cases (h.symm.trans rfl : some (d, kwd) = some (_, _))
  exact W
end Mine
theorem PySem.Challenge.cw_xm0209_01_holds : PySem.Challenge.rw_xm0209_01.Holds :=
  Mine.fin
